import PyProof.Rows.All
import HandS.ForMost
import HandS.DictComp
import HandS.DictTup
import HandS.SetKeys
import HandS.Strs
import HandS.Conv
import HandS.Style
import HandS.Flow
import HandS.SortRule
import HandS.SortInts
import HandS.TupAny
import HandS.TupMul
import HandS.Zip
import HandS.Wide
import HandS.More
import HandS.IsInst
import KE.SortData
import KE.KIntText
import KE.KDictZip
import HandS.SetFor
import HandS.Defaults
import PySem.Challenge.RW_woundwalks_k35_whole_round_one_ring
set_option Elab.async false
set_option linter.all false
set_option maxRecDepth 100000
set_option maxHeartbeats 4000000
namespace Rg
open PySem PySem.Spec PyProof.Rows L2
def topS (i : Nat) : Stmt := PySem.Challenge.pw_woundwalks_k35_whole_round_one_ring.main.body.getD i (.Pass ⟨0, 0, 0, 0⟩)
abbrev s_is_whole : Stmt := topS 4
abbrev s_look_place : Stmt := topS 6
abbrev s_backs : Stmt := topS 7
abbrev s_ends_of : Stmt := topS 9
abbrev s_ways_in : Stmt := topS 11
abbrev s_comers : Stmt := topS 13
abbrev s_later_places : Stmt := topS 14
abbrev s_fewest_steps : Stmt := topS 15
abbrev s_wound_places : Stmt := topS 16
abbrev s_next_step : Stmt := topS 17
abbrev s_wound_walk : Stmt := topS 18
abbrev s_row_of : Stmt := topS 19
abbrev s_pot : Stmt := topS 21
abbrev s_take : Stmt := topS 22
abbrev s_of : Stmt := topS 23
abbrev s_names : Stmt := topS 24
abbrev s_goals : Stmt := topS 25
abbrev s_ring : Stmt := topS 26
abbrev s_least : Stmt := topS 27
abbrev s_due : Stmt := topS 28
abbrev s_right : Stmt := topS 29
abbrev s_law : Stmt := topS 30
/-- what the top has written -/
structure Fs (K : PySem.W.Frag) (mg : Str → Option Value) : Prop where
  is_whole : ∃ f fd, mg "is_whole" = some (.ref f) ∧ Fun K "is_whole" "is_whole" s_is_whole f fd
  look_place : ∃ f fd, mg "look_place" = some (.ref f) ∧ Fun K "look_place" "look_place" s_look_place f fd
  backs : ∃ f fd, mg "backs" = some (.ref f) ∧ Fun K "backs" "backs" s_backs f fd
  ends_of : ∃ f fd, mg "ends_of" = some (.ref f) ∧ Fun K "ends_of" "ends_of" s_ends_of f fd
  ways_in : ∃ f fd, mg "ways_in" = some (.ref f) ∧ Fun K "ways_in" "ways_in" s_ways_in f fd
  comers : ∃ f fd, mg "comers" = some (.ref f) ∧ Fun K "comers" "comers" s_comers f fd
  later_places : ∃ f fd, mg "later_places" = some (.ref f) ∧ Fun K "later_places" "later_places" s_later_places f fd
  fewest_steps : ∃ f fd, mg "fewest_steps" = some (.ref f) ∧ Fun K "fewest_steps" "fewest_steps" s_fewest_steps f fd
  wound_places : ∃ f fd, mg "wound_places" = some (.ref f) ∧ Fun K "wound_places" "wound_places" s_wound_places f fd
  next_step : ∃ f fd, mg "next_step" = some (.ref f) ∧ Fun K "next_step" "next_step" s_next_step f fd
  wound_walk : ∃ f fd, mg "wound_walk" = some (.ref f) ∧ Fun K "wound_walk" "wound_walk" s_wound_walk f fd
  row_of : ∃ f fd, mg "row_of" = some (.ref f) ∧ Fun K "row_of" "row_of" s_row_of f fd
  pot : ∃ f fd, mg "_law_pot" = some (.ref f) ∧ Fun K "_law_pot" "_law_pot" s_pot f fd
  take : ∃ f fd, mg "_law_take" = some (.ref f) ∧ Fun K "_law_take" "_law_take" s_take f fd
  of : ∃ f fd, mg "_law_of" = some (.ref f) ∧ Fun K "_law_of" "_law_of" s_of f fd
  names : ∃ f fd, mg "_law_names" = some (.ref f) ∧ Fun K "_law_names" "_law_names" s_names f fd
  goals : ∃ f fd, mg "_law_goals" = some (.ref f) ∧ Fun K "_law_goals" "_law_goals" s_goals f fd
  ring : ∃ f fd, mg "_law_ring" = some (.ref f) ∧ Fun K "_law_ring" "_law_ring" s_ring f fd
  least : ∃ f fd, mg "_law_least" = some (.ref f) ∧ Fun K "_law_least" "_law_least" s_least f fd
  due : ∃ f fd, mg "_law_due" = some (.ref f) ∧ Fun K "_law_due" "_law_due" s_due f fd
  right : ∃ f fd, mg "_law_right" = some (.ref f) ∧ Fun K "_law_right" "_law_right" s_right f fd
  law : ∃ f fd, mg "law" = some (.ref f) ∧ Fun K "law" "law" s_law f fd
  n_isinstance : mg "isinstance" = none
  n_int : mg "int" = none
  n_bool : mg "bool" = none
  n_tuple : mg "tuple" = none
  n_range : mg "range" = none
  n_len : mg "len" = none
  n_zip : mg "zip" = none
  n_sorted : mg "sorted" = none
  n_list : mg "list" = none
  n_set : mg "set" = none
  n_abs : mg "abs" = none
  n_max : mg "max" = none
  n_min : mg "min" = none
  dig : PySem.W.nsIn K cStatics "sys.int_max_str_digits" = some none
theorem facts_mk {K : PySem.W.Frag} {h : Heap} {mg : Str → Option Value} (X : K.In h) (G : h.Ns mainGlobals mg)
    {f0 f1 f2 f3 f4 f5 f6 f7 f8 f9 f10 f11 f12 f13 f14 f15 f16 f17 f18 f19 f20 f21 : Addr} {od0 an0 od1 an1 od2 an2 od3 an3 od4 an4 od5 an5 od6 an6 od7 an7 od8 an8 od9 an9 od10 an10 od11 an11 od12 an12 od13 an13 od14 an14 od15 an15 od16 an16 od17 an17 od18 an18 od19 an19 od20 an20 od21 an21 : Option Addr} {sl0 sl1 sl2 sl3 sl4 sl5 sl6 sl7 sl8 sl9 sl10 sl11 sl12 sl13 sl14 sl15 sl16 sl17 sl18 sl19 sl20 sl21 : Array (Option Value)}
    {oc0 kV0 dc0 pm0 cd0 ct0 oc1 kV1 dc1 pm1 cd1 ct1 oc2 kV2 dc2 pm2 cd2 ct2 oc3 kV3 dc3 pm3 cd3 ct3 oc4 kV4 dc4 pm4 cd4 ct4 oc5 kV5 dc5 pm5 cd5 ct5 oc6 kV6 dc6 pm6 cd6 ct6 oc7 kV7 dc7 pm7 cd7 ct7 oc8 kV8 dc8 pm8 cd8 ct8 oc9 kV9 dc9 pm9 cd9 ct9 oc10 kV10 dc10 pm10 cd10 ct10 oc11 kV11 dc11 pm11 cd11 ct11 oc12 kV12 dc12 pm12 cd12 ct12 oc13 kV13 dc13 pm13 cd13 ct13 oc14 kV14 dc14 pm14 cd14 ct14 oc15 kV15 dc15 pm15 cd15 ct15 oc16 kV16 dc16 pm16 cd16 ct16 oc17 kV17 dc17 pm17 cd17 ct17 oc18 kV18 dc18 pm18 cd18 ct18 oc19 kV19 dc19 pm19 cd19 ct19 oc20 kV20 dc20 pm20 cd20 ct20 oc21 kV21 dc21 pm21 cd21 ct21 : Value}
    (a0 : PySem.W.nsIn K mainGlobals "is_whole" = some (some (.ref f0))) (l0 : K.lookup f0 = some ⟨oc0, od0, .func (PySem.W.fnOf "is_whole" "is_whole" (defArgs s_is_whole) (defBody s_is_whole) (defScope s_is_whole) .none kV0 dc0 pm0 an0 cd0 ct0), sl0⟩) (c0 : PySem.W.codeIn K cd0 "is_whole" = true) (k0 : PySem.W.keepIn K (.ref f0) = true)
    (a1 : PySem.W.nsIn K mainGlobals "look_place" = some (some (.ref f1))) (l1 : K.lookup f1 = some ⟨oc1, od1, .func (PySem.W.fnOf "look_place" "look_place" (defArgs s_look_place) (defBody s_look_place) (defScope s_look_place) .none kV1 dc1 pm1 an1 cd1 ct1), sl1⟩) (c1 : PySem.W.codeIn K cd1 "look_place" = true) (k1 : PySem.W.keepIn K (.ref f1) = true)
    (a2 : PySem.W.nsIn K mainGlobals "backs" = some (some (.ref f2))) (l2 : K.lookup f2 = some ⟨oc2, od2, .func (PySem.W.fnOf "backs" "backs" (defArgs s_backs) (defBody s_backs) (defScope s_backs) .none kV2 dc2 pm2 an2 cd2 ct2), sl2⟩) (c2 : PySem.W.codeIn K cd2 "backs" = true) (k2 : PySem.W.keepIn K (.ref f2) = true)
    (a3 : PySem.W.nsIn K mainGlobals "ends_of" = some (some (.ref f3))) (l3 : K.lookup f3 = some ⟨oc3, od3, .func (PySem.W.fnOf "ends_of" "ends_of" (defArgs s_ends_of) (defBody s_ends_of) (defScope s_ends_of) .none kV3 dc3 pm3 an3 cd3 ct3), sl3⟩) (c3 : PySem.W.codeIn K cd3 "ends_of" = true) (k3 : PySem.W.keepIn K (.ref f3) = true)
    (a4 : PySem.W.nsIn K mainGlobals "ways_in" = some (some (.ref f4))) (l4 : K.lookup f4 = some ⟨oc4, od4, .func (PySem.W.fnOf "ways_in" "ways_in" (defArgs s_ways_in) (defBody s_ways_in) (defScope s_ways_in) .none kV4 dc4 pm4 an4 cd4 ct4), sl4⟩) (c4 : PySem.W.codeIn K cd4 "ways_in" = true) (k4 : PySem.W.keepIn K (.ref f4) = true)
    (a5 : PySem.W.nsIn K mainGlobals "comers" = some (some (.ref f5))) (l5 : K.lookup f5 = some ⟨oc5, od5, .func (PySem.W.fnOf "comers" "comers" (defArgs s_comers) (defBody s_comers) (defScope s_comers) .none kV5 dc5 pm5 an5 cd5 ct5), sl5⟩) (c5 : PySem.W.codeIn K cd5 "comers" = true) (k5 : PySem.W.keepIn K (.ref f5) = true)
    (a6 : PySem.W.nsIn K mainGlobals "later_places" = some (some (.ref f6))) (l6 : K.lookup f6 = some ⟨oc6, od6, .func (PySem.W.fnOf "later_places" "later_places" (defArgs s_later_places) (defBody s_later_places) (defScope s_later_places) .none kV6 dc6 pm6 an6 cd6 ct6), sl6⟩) (c6 : PySem.W.codeIn K cd6 "later_places" = true) (k6 : PySem.W.keepIn K (.ref f6) = true)
    (a7 : PySem.W.nsIn K mainGlobals "fewest_steps" = some (some (.ref f7))) (l7 : K.lookup f7 = some ⟨oc7, od7, .func (PySem.W.fnOf "fewest_steps" "fewest_steps" (defArgs s_fewest_steps) (defBody s_fewest_steps) (defScope s_fewest_steps) .none kV7 dc7 pm7 an7 cd7 ct7), sl7⟩) (c7 : PySem.W.codeIn K cd7 "fewest_steps" = true) (k7 : PySem.W.keepIn K (.ref f7) = true)
    (a8 : PySem.W.nsIn K mainGlobals "wound_places" = some (some (.ref f8))) (l8 : K.lookup f8 = some ⟨oc8, od8, .func (PySem.W.fnOf "wound_places" "wound_places" (defArgs s_wound_places) (defBody s_wound_places) (defScope s_wound_places) .none kV8 dc8 pm8 an8 cd8 ct8), sl8⟩) (c8 : PySem.W.codeIn K cd8 "wound_places" = true) (k8 : PySem.W.keepIn K (.ref f8) = true)
    (a9 : PySem.W.nsIn K mainGlobals "next_step" = some (some (.ref f9))) (l9 : K.lookup f9 = some ⟨oc9, od9, .func (PySem.W.fnOf "next_step" "next_step" (defArgs s_next_step) (defBody s_next_step) (defScope s_next_step) .none kV9 dc9 pm9 an9 cd9 ct9), sl9⟩) (c9 : PySem.W.codeIn K cd9 "next_step" = true) (k9 : PySem.W.keepIn K (.ref f9) = true)
    (a10 : PySem.W.nsIn K mainGlobals "wound_walk" = some (some (.ref f10))) (l10 : K.lookup f10 = some ⟨oc10, od10, .func (PySem.W.fnOf "wound_walk" "wound_walk" (defArgs s_wound_walk) (defBody s_wound_walk) (defScope s_wound_walk) .none kV10 dc10 pm10 an10 cd10 ct10), sl10⟩) (c10 : PySem.W.codeIn K cd10 "wound_walk" = true) (k10 : PySem.W.keepIn K (.ref f10) = true)
    (a11 : PySem.W.nsIn K mainGlobals "row_of" = some (some (.ref f11))) (l11 : K.lookup f11 = some ⟨oc11, od11, .func (PySem.W.fnOf "row_of" "row_of" (defArgs s_row_of) (defBody s_row_of) (defScope s_row_of) .none kV11 dc11 pm11 an11 cd11 ct11), sl11⟩) (c11 : PySem.W.codeIn K cd11 "row_of" = true) (k11 : PySem.W.keepIn K (.ref f11) = true)
    (a12 : PySem.W.nsIn K mainGlobals "_law_pot" = some (some (.ref f12))) (l12 : K.lookup f12 = some ⟨oc12, od12, .func (PySem.W.fnOf "_law_pot" "_law_pot" (defArgs s_pot) (defBody s_pot) (defScope s_pot) .none kV12 dc12 pm12 an12 cd12 ct12), sl12⟩) (c12 : PySem.W.codeIn K cd12 "_law_pot" = true) (k12 : PySem.W.keepIn K (.ref f12) = true)
    (a13 : PySem.W.nsIn K mainGlobals "_law_take" = some (some (.ref f13))) (l13 : K.lookup f13 = some ⟨oc13, od13, .func (PySem.W.fnOf "_law_take" "_law_take" (defArgs s_take) (defBody s_take) (defScope s_take) .none kV13 dc13 pm13 an13 cd13 ct13), sl13⟩) (c13 : PySem.W.codeIn K cd13 "_law_take" = true) (k13 : PySem.W.keepIn K (.ref f13) = true)
    (a14 : PySem.W.nsIn K mainGlobals "_law_of" = some (some (.ref f14))) (l14 : K.lookup f14 = some ⟨oc14, od14, .func (PySem.W.fnOf "_law_of" "_law_of" (defArgs s_of) (defBody s_of) (defScope s_of) .none kV14 dc14 pm14 an14 cd14 ct14), sl14⟩) (c14 : PySem.W.codeIn K cd14 "_law_of" = true) (k14 : PySem.W.keepIn K (.ref f14) = true)
    (a15 : PySem.W.nsIn K mainGlobals "_law_names" = some (some (.ref f15))) (l15 : K.lookup f15 = some ⟨oc15, od15, .func (PySem.W.fnOf "_law_names" "_law_names" (defArgs s_names) (defBody s_names) (defScope s_names) .none kV15 dc15 pm15 an15 cd15 ct15), sl15⟩) (c15 : PySem.W.codeIn K cd15 "_law_names" = true) (k15 : PySem.W.keepIn K (.ref f15) = true)
    (a16 : PySem.W.nsIn K mainGlobals "_law_goals" = some (some (.ref f16))) (l16 : K.lookup f16 = some ⟨oc16, od16, .func (PySem.W.fnOf "_law_goals" "_law_goals" (defArgs s_goals) (defBody s_goals) (defScope s_goals) .none kV16 dc16 pm16 an16 cd16 ct16), sl16⟩) (c16 : PySem.W.codeIn K cd16 "_law_goals" = true) (k16 : PySem.W.keepIn K (.ref f16) = true)
    (a17 : PySem.W.nsIn K mainGlobals "_law_ring" = some (some (.ref f17))) (l17 : K.lookup f17 = some ⟨oc17, od17, .func (PySem.W.fnOf "_law_ring" "_law_ring" (defArgs s_ring) (defBody s_ring) (defScope s_ring) .none kV17 dc17 pm17 an17 cd17 ct17), sl17⟩) (c17 : PySem.W.codeIn K cd17 "_law_ring" = true) (k17 : PySem.W.keepIn K (.ref f17) = true)
    (a18 : PySem.W.nsIn K mainGlobals "_law_least" = some (some (.ref f18))) (l18 : K.lookup f18 = some ⟨oc18, od18, .func (PySem.W.fnOf "_law_least" "_law_least" (defArgs s_least) (defBody s_least) (defScope s_least) .none kV18 dc18 pm18 an18 cd18 ct18), sl18⟩) (c18 : PySem.W.codeIn K cd18 "_law_least" = true) (k18 : PySem.W.keepIn K (.ref f18) = true)
    (a19 : PySem.W.nsIn K mainGlobals "_law_due" = some (some (.ref f19))) (l19 : K.lookup f19 = some ⟨oc19, od19, .func (PySem.W.fnOf "_law_due" "_law_due" (defArgs s_due) (defBody s_due) (defScope s_due) .none kV19 dc19 pm19 an19 cd19 ct19), sl19⟩) (c19 : PySem.W.codeIn K cd19 "_law_due" = true) (k19 : PySem.W.keepIn K (.ref f19) = true)
    (a20 : PySem.W.nsIn K mainGlobals "_law_right" = some (some (.ref f20))) (l20 : K.lookup f20 = some ⟨oc20, od20, .func (PySem.W.fnOf "_law_right" "_law_right" (defArgs s_right) (defBody s_right) (defScope s_right) .none kV20 dc20 pm20 an20 cd20 ct20), sl20⟩) (c20 : PySem.W.codeIn K cd20 "_law_right" = true) (k20 : PySem.W.keepIn K (.ref f20) = true)
    (a21 : PySem.W.nsIn K mainGlobals "law" = some (some (.ref f21))) (l21 : K.lookup f21 = some ⟨oc21, od21, .func (PySem.W.fnOf "law" "law" (defArgs s_law) (defBody s_law) (defScope s_law) .none kV21 dc21 pm21 an21 cd21 ct21), sl21⟩) (c21 : PySem.W.codeIn K cd21 "law" = true) (k21 : PySem.W.keepIn K (.ref f21) = true)
    (z_isinstance : PySem.W.nsIn K mainGlobals "isinstance" = some none)
    (z_int : PySem.W.nsIn K mainGlobals "int" = some none)
    (z_bool : PySem.W.nsIn K mainGlobals "bool" = some none)
    (z_tuple : PySem.W.nsIn K mainGlobals "tuple" = some none)
    (z_range : PySem.W.nsIn K mainGlobals "range" = some none)
    (z_len : PySem.W.nsIn K mainGlobals "len" = some none)
    (z_zip : PySem.W.nsIn K mainGlobals "zip" = some none)
    (z_sorted : PySem.W.nsIn K mainGlobals "sorted" = some none)
    (z_list : PySem.W.nsIn K mainGlobals "list" = some none)
    (z_set : PySem.W.nsIn K mainGlobals "set" = some none)
    (z_abs : PySem.W.nsIn K mainGlobals "abs" = some none)
    (z_max : PySem.W.nsIn K mainGlobals "max" = some none)
    (z_min : PySem.W.nsIn K mainGlobals "min" = some none)
    (z_dig : PySem.W.nsIn K cStatics "sys.int_max_str_digits" = some none)
    : Fs K mg := {
  is_whole := ⟨_, _, PySem.W.mg_of X G a0, fun_mk (st := s_is_whole) l0 c0 k0⟩
  look_place := ⟨_, _, PySem.W.mg_of X G a1, fun_mk (st := s_look_place) l1 c1 k1⟩
  backs := ⟨_, _, PySem.W.mg_of X G a2, fun_mk (st := s_backs) l2 c2 k2⟩
  ends_of := ⟨_, _, PySem.W.mg_of X G a3, fun_mk (st := s_ends_of) l3 c3 k3⟩
  ways_in := ⟨_, _, PySem.W.mg_of X G a4, fun_mk (st := s_ways_in) l4 c4 k4⟩
  comers := ⟨_, _, PySem.W.mg_of X G a5, fun_mk (st := s_comers) l5 c5 k5⟩
  later_places := ⟨_, _, PySem.W.mg_of X G a6, fun_mk (st := s_later_places) l6 c6 k6⟩
  fewest_steps := ⟨_, _, PySem.W.mg_of X G a7, fun_mk (st := s_fewest_steps) l7 c7 k7⟩
  wound_places := ⟨_, _, PySem.W.mg_of X G a8, fun_mk (st := s_wound_places) l8 c8 k8⟩
  next_step := ⟨_, _, PySem.W.mg_of X G a9, fun_mk (st := s_next_step) l9 c9 k9⟩
  wound_walk := ⟨_, _, PySem.W.mg_of X G a10, fun_mk (st := s_wound_walk) l10 c10 k10⟩
  row_of := ⟨_, _, PySem.W.mg_of X G a11, fun_mk (st := s_row_of) l11 c11 k11⟩
  pot := ⟨_, _, PySem.W.mg_of X G a12, fun_mk (st := s_pot) l12 c12 k12⟩
  take := ⟨_, _, PySem.W.mg_of X G a13, fun_mk (st := s_take) l13 c13 k13⟩
  of := ⟨_, _, PySem.W.mg_of X G a14, fun_mk (st := s_of) l14 c14 k14⟩
  names := ⟨_, _, PySem.W.mg_of X G a15, fun_mk (st := s_names) l15 c15 k15⟩
  goals := ⟨_, _, PySem.W.mg_of X G a16, fun_mk (st := s_goals) l16 c16 k16⟩
  ring := ⟨_, _, PySem.W.mg_of X G a17, fun_mk (st := s_ring) l17 c17 k17⟩
  least := ⟨_, _, PySem.W.mg_of X G a18, fun_mk (st := s_least) l18 c18 k18⟩
  due := ⟨_, _, PySem.W.mg_of X G a19, fun_mk (st := s_due) l19 c19 k19⟩
  right := ⟨_, _, PySem.W.mg_of X G a20, fun_mk (st := s_right) l20 c20 k20⟩
  law := ⟨_, _, PySem.W.mg_of X G a21, fun_mk (st := s_law) l21 c21 k21⟩
  n_isinstance := PySem.W.mg_none_of X G z_isinstance
  n_int := PySem.W.mg_none_of X G z_int
  n_bool := PySem.W.mg_none_of X G z_bool
  n_tuple := PySem.W.mg_none_of X G z_tuple
  n_range := PySem.W.mg_none_of X G z_range
  n_len := PySem.W.mg_none_of X G z_len
  n_zip := PySem.W.mg_none_of X G z_zip
  n_sorted := PySem.W.mg_none_of X G z_sorted
  n_list := PySem.W.mg_none_of X G z_list
  n_set := PySem.W.mg_none_of X G z_set
  n_abs := PySem.W.mg_none_of X G z_abs
  n_max := PySem.W.mg_none_of X G z_max
  n_min := PySem.W.mg_none_of X G z_min
  dig := z_dig
}
end Rg
namespace Rg
section gen
variable {α : Type} [DecidableEq α]

/-- the lesser places behind the same name -/
def backsL (word : List α) (p : Nat) : List Nat := ((List.range (p - 1)).map (· + 1)).filter fun l => decide (word[l - 1]? = word[p - 1]?)
theorem mem_backs {word : List α} {p l : Nat} : l ∈ backsL word p ↔ 1 ≤ l ∧ l < p ∧ word[l - 1]? = word[p - 1]? := by
  unfold backsL
  rw [List.mem_filter, List.mem_map]
  constructor
  · rintro ⟨⟨i, hi, rfl⟩, h⟩
    rw [List.mem_range] at hi
    exact ⟨by omega, by omega, of_decide_eq_true h⟩
  · rintro ⟨h1, h2, h3⟩
    exact ⟨⟨l - 1, by rw [List.mem_range]; omega, by omega⟩, decide_eq_true h3⟩
def Bk (word : List α) (q p : Nat) : Prop := q = p ∨ q ∈ backsL word p
theorem Bk.trans {word : List α} {q r p : Nat} (a : Bk word q r) (b : Bk word r p) : Bk word q p := by
  rcases a with rfl | a
  · exact b
  rcases b with rfl | b
  · exact .inr a
  rw [mem_backs] at a b
  exact .inr (mem_backs.mpr ⟨a.1, by omega, a.2.2.trans b.2.2⟩)
theorem Bk.le {word : List α} {q p : Nat} (a : Bk word q p) : q ≤ p := by
  rcases a with rfl | a
  · exact Nat.le_refl _
  · exact Nat.le_of_lt (mem_backs.mp a).2.1

variable (word : List α) (Wf : Int → α → Option Int) (ends : Int → Prop)
/-- from crossing c and place p a wound walk of k steps ends well -/
def R : Nat → Int → Nat → Prop
  | 0, c, p => p = word.length ∧ ends c
  | k + 1, c, p => ∃ q nm a, Bk word q p ∧ word[q]? = some nm ∧ Wf c nm = some a ∧ R k a (q + 1)
/-- .. and none of fewer -/
def M (c : Int) (p d : Nat) : Prop := R word Wf ends d c p ∧ ∀ j, j < d → ¬ R word Wf ends j c p
variable {word Wf ends}
theorem R_le {k : Nat} {c : Int} {p : Nat} (h : R word Wf ends k c p) : p ≤ word.length := by
  cases k with
  | zero => exact Nat.le_of_eq h.1
  | succ k =>
    obtain ⟨q, nm, a, b, e, _⟩ := h
    have hq : q < word.length := (List.getElem?_eq_some_iff.mp e).1
    rcases b with rfl | b
    · omega
    · obtain ⟨h1, h2, h3⟩ := mem_backs.mp b
      have h4 : q - 1 < word.length := by omega
      rw [List.getElem?_eq_getElem h4] at h3
      have := (List.getElem?_eq_some_iff.mp h3.symm).1
      omega
theorem R_back {k : Nat} {c : Int} {q p : Nat} (h : R word Wf ends k c q) (b : Bk word q p) (hp : p ≤ word.length) : R word Wf ends k c p := by
  cases k with
  | zero =>
    obtain ⟨e, h⟩ := h
    have := b.le
    exact ⟨by omega, h⟩
  | succ k =>
    obtain ⟨q', nm, a, b', r⟩ := h
    exact ⟨q', nm, a, b'.trans b, r⟩
theorem M_of_R {c : Int} {p : Nat} : ∀ {k : Nat}, R word Wf ends k c p → ∃ d, d ≤ k ∧ M word Wf ends c p d := by
  intro k
  induction k using Nat.strongRecOn with
  | _ k ih =>
    intro h
    by_cases hx : ∃ j, j < k ∧ R word Wf ends j c p
    · obtain ⟨j, hj, hr⟩ := hx
      obtain ⟨d, hd, hm⟩ := ih j hj hr
      exact ⟨d, by omega, hm⟩
    · exact ⟨k, Nat.le_refl _, h, fun j hj r => hx ⟨j, hj, r⟩⟩
theorem M_uniq {c : Int} {p d e : Nat} (h : M word Wf ends c p d) (g : M word Wf ends c p e) : d = e := by
  rcases Nat.lt_trichotomy d e with z | z | z
  · exact absurd h.1 (g.2 _ z)
  · exact z
  · exact absurd g.1 (h.2 _ z)
theorem M_step {c : Int} {p d : Nat} (h : M word Wf ends c p (d + 1)) : ∃ q nm a, Bk word q p ∧ word[q]? = some nm ∧ Wf c nm = some a ∧ M word Wf ends a (q + 1) d := by
  obtain ⟨⟨q, nm, a, b, e, w, r⟩, mn⟩ := h
  exact ⟨q, nm, a, b, e, w, r, fun j hj r' => mn (j + 1) (by omega) ⟨q, nm, a, b, e, w, r'⟩⟩
theorem M_zero {c : Int} {p : Nat} : M word Wf ends c p 0 ↔ p = word.length ∧ ends c := ⟨fun h => h.1, fun h => ⟨h, fun j hj => by omega⟩⟩
theorem M_down {c : Int} {p d : Nat} (h : M word Wf ends c p (d + 1)) : ∃ c' p', M word Wf ends c' p' d := by
  obtain ⟨q, nm, a, _, _, _, m⟩ := M_step h
  exact ⟨a, q + 1, m⟩
theorem no_M {k : Nat} (h : ∀ c p, ¬ M word Wf ends c p k) : ∀ (e : Nat) (c : Int) (p : Nat), ¬ M word Wf ends c p (k + e)
  | 0, c, p => h c p
  | e + 1, c, p => fun m => by
    obtain ⟨c', p', m'⟩ := M_down (d := k + e) m
    exact no_M h e c' p' m'

/-! ### lists -/
theorem nodup_len {β : Type} [BEq β] [LawfulBEq β] : ∀ {l u : List β}, l.Nodup → (∀ x, x ∈ l → x ∈ u) → l.length ≤ u.length
  | [], u, _, _ => Nat.zero_le _
  | x :: l, u, hn, hs => by
    rw [List.nodup_cons] at hn
    have hx : x ∈ u := hs x (List.mem_cons_self ..)
    have e := List.length_erase_of_mem hx
    have h := nodup_len (l := l) (u := u.erase x) hn.2 fun y hy => (List.mem_erase_of_ne (fun z => hn.1 (by rw [← z]; exact hy))).mpr (hs y (List.mem_cons_of_mem _ hy))
    have : 0 < u.length := List.length_pos_of_mem hx
    rw [List.length_cons]
    omega

abbrev Spot := Int × Nat
/-- what was found: spots and their steps -/
abbrev Fd := List (Spot × Nat)
def lk (F : Fd) (s : Spot) : Option Nat := (F.find? fun e => decide (e.1 = s)).map (·.2)
theorem lk_nil (s : Spot) : lk [] s = none := rfl
theorem lk_none {F : Fd} {s : Spot} : lk F s = none ↔ s ∉ F.map (·.1) := by
  unfold lk
  rw [Option.map_eq_none_iff, List.find?_eq_none]
  constructor
  · intro h hm
    obtain ⟨e, he, q⟩ := List.mem_map.mp hm
    exact h e he (decide_eq_true q)
  · intro h e he q
    exact h (List.mem_map.mpr ⟨e, he, of_decide_eq_true q⟩)
theorem lk_snoc {F : Fd} {s t : Spot} {d : Nat} (h : lk F s = none) : lk (F ++ [(s, d)]) t = if t = s then some d else lk F t := by
  unfold lk at h ⊢
  rw [List.find?_append]
  by_cases e : t = s
  · subst e
    rw [if_pos rfl]
    rw [Option.map_eq_none_iff] at h
    rw [h]
    simp
  · rw [if_neg e]
    have : (List.find? (fun e => decide (e.1 = t)) [(s, d)]) = none := by
      rw [List.find?_eq_none]
      intro x hx
      rw [List.mem_singleton] at hx
      subst hx
      simpa using fun z => e z.symm
    rw [this, Option.or_none]
theorem lk_mem {F : Fd} (hn : (F.map (·.1)).Nodup) {s : Spot} {d : Nat} : lk F s = some d ↔ (s, d) ∈ F := by
  unfold lk
  rw [Option.map_eq_some_iff]
  constructor
  · rintro ⟨e, he, rfl⟩
    have h1 := List.mem_of_find?_eq_some he
    have h2 : e.1 = s := (by have z := List.find?_some he; exact of_decide_eq_true z)
    subst h2
    exact h1
  · intro h
    cases q : List.find? (fun e => decide (e.1 = s)) F with
    | none =>
      rw [List.find?_eq_none] at q
      exact absurd (decide_eq_true rfl) (q _ h)
    | some e =>
      refine ⟨e, rfl, ?_⟩
      have h1 := List.mem_of_find?_eq_some q
      have h2 : e.1 = s := (by have z := List.find?_some q; exact of_decide_eq_true z)
      obtain ⟨i, hi, e1⟩ := List.getElem_of_mem h1
      obtain ⟨j, hj, e2⟩ := List.getElem_of_mem h
      have e3 : (F.map (·.1))[i]'(by simpa using hi) = (F.map (·.1))[j]'(by simpa using hj) := by
        simp only [List.getElem_map, e1, e2]
        exact h2
      have e4 : i = j := (List.getElem?_inj (by simpa using hi) hn).mp (by rw [List.getElem?_eq_getElem (by simpa using hi), List.getElem?_eq_getElem (by simpa using hj), e3])
      subst e4
      rw [e1] at e2
      rw [e2]

/-! ### the search, layer by layer -/
/-- the greater places from which one may wind back to it -/
def laterL (word : List α) (low : Nat) : List Nat := (List.range (word.length + 1)).filter fun p => decide (low ∈ backsL word p)
theorem mem_later {low p : Nat} : p ∈ laterL word low ↔ p ≤ word.length ∧ low ∈ backsL word p := by
  unfold laterL
  rw [List.mem_filter, List.mem_range]
  constructor
  · rintro ⟨h1, h2⟩
    exact ⟨by omega, of_decide_eq_true h2⟩
  · rintro ⟨h1, h2⟩
    exact ⟨by omega, decide_eq_true h2⟩
def spots (word : List α) (s : Spot) : List Spot := s :: (laterL word s.2).map fun p => (s.1, p)
abbrev Ways (α : Type) := List ((Int × α) × Int)
def come (ways : Ways α) (c : Int) : List (Int × α) := (ways.filter fun e => decide (e.2 = c)).map (·.1)
def wf (ways : Ways α) (c : Int) (x : α) : Option Int := (ways.find? fun e => decide (e.1 = (c, x))).map (·.2)
theorem wf_mem {ways : Ways α} (hn : (ways.map (·.1)).Nodup) {c a : Int} {x : α} : wf ways c x = some a ↔ ((c, x), a) ∈ ways := by
  unfold wf
  rw [Option.map_eq_some_iff]
  constructor
  · rintro ⟨e, he, rfl⟩
    have h1 := List.mem_of_find?_eq_some he
    have h2 : e.1 = (c, x) := (by have z := List.find?_some he; exact of_decide_eq_true z)
    rw [← h2]
    exact h1
  · intro h
    cases q : List.find? (fun e => decide (e.1 = (c, x))) ways with
    | none =>
      rw [List.find?_eq_none] at q
      exact absurd (decide_eq_true rfl) (q _ h)
    | some e =>
      refine ⟨e, rfl, ?_⟩
      have h1 := List.mem_of_find?_eq_some q
      have h2 : e.1 = (c, x) := (by have z := List.find?_some q; exact of_decide_eq_true z)
      obtain ⟨i, hi, e1⟩ := List.getElem_of_mem h1
      obtain ⟨j, hj, e2⟩ := List.getElem_of_mem h
      have e3 : (ways.map (·.1))[i]'(by simpa using hi) = (ways.map (·.1))[j]'(by simpa using hj) := by
        simp only [List.getElem_map, e1, e2]
        exact h2
      have e4 : i = j := (List.getElem?_inj (by simpa using hi) hn).mp (by rw [List.getElem?_eq_getElem (by simpa using hi), List.getElem?_eq_getElem (by simpa using hj), e3])
      subst e4
      rw [e1] at e2
      rw [e2]
theorem mem_come {ways : Ways α} (hn : (ways.map (·.1)).Nodup) {c a : Int} {x : α} : (a, x) ∈ come ways c ↔ wf ways a x = some c := by
  rw [wf_mem hn]
  unfold come
  rw [List.mem_map]
  constructor
  · rintro ⟨e, he, q⟩
    obtain ⟨h1, h2⟩ := List.mem_filter.mp he
    have h2 : e.2 = c := of_decide_eq_true h2
    rw [← q, ← h2]
    exact h1
  · intro h
    exact ⟨_, List.mem_filter.mpr ⟨h, decide_eq_true rfl⟩, rfl⟩
/-- the names that lead to the spot, gone backwards -/
def nxt1 (word : List α) (ways : Ways α) (s : Spot) : List Spot :=
  if s.2 = 0 then [] else ((come ways s.1).filter fun e => decide (some e.2 = word[s.2 - 1]?)).map fun e => (e.1, s.2 - 1)
theorem mem_nxt1 {ways : Ways α} (hn : (ways.map (·.1)).Nodup) {s t : Spot} (hs : s.2 ≤ word.length) : t ∈ nxt1 word ways s ↔ s.2 = t.2 + 1 ∧ ∃ nm, word[t.2]? = some nm ∧ wf ways t.1 nm = some s.1 := by
  unfold nxt1
  by_cases h0 : s.2 = 0
  · rw [if_pos h0]
    constructor
    · intro h; exact absurd h (by simp)
    · rintro ⟨h, _⟩; omega
  · rw [if_neg h0, List.mem_map]
    constructor
    · rintro ⟨e, he, rfl⟩
      obtain ⟨h1, h2⟩ := List.mem_filter.mp he
      exact ⟨by show s.2 = s.2 - 1 + 1; omega, e.2, (of_decide_eq_true h2).symm, (mem_come hn).mp h1⟩
    · rintro ⟨h1, nm, h2, h3⟩
      have e1 : s.2 - 1 = t.2 := by omega
      refine ⟨(t.1, nm), List.mem_filter.mpr ⟨(mem_come hn).mpr h3, decide_eq_true ?_⟩, ?_⟩
      · rw [e1, h2]
      · rw [e1]

/-- at the head of a turn of the while -/
structure InvA (word : List α) (Wf : Int → α → Option Int) (ends : Int → Prop) (B k : Nat) (F : Fd) (layer : List Spot) : Prop where
  nod : (F.map (·.1)).Nodup
  fnd : ∀ (s : Spot) (d : Nat), lk F s = some d ↔ M word Wf ends s.1 s.2 d ∧ d < k
  snd : ∀ s, s ∈ layer → R word Wf ends k s.1 s.2
  cpl : ∀ (c : Int) (p : Nat), M word Wf ends c p k → ∃ q, Bk word q p ∧ (c, q) ∈ layer
  bnd : layer ≠ [] → k ≤ B + 1
/-- behind the spots P of a turn -/
structure InvB (word : List α) (Wf : Int → α → Option Int) (ends : Int → Prop) (k : Nat) (F0 : Fd) (P : List Spot) (F : Fd) (here : List Spot) : Prop where
  eq : F = F0 ++ here.map fun s => (s, k)
  nod : here.Nodup
  mem : ∀ s : Spot, s ∈ here ↔ M word Wf ends s.1 s.2 k ∧ s ∈ P
theorem InvB.start {k : Nat} {F0 : Fd} : InvB word Wf ends k F0 [] F0 [] := ⟨by simp, List.nodup_nil, fun s => by simp⟩
theorem InvB.keys {k : Nat} {F0 F : Fd} {P here : List Spot} (b : InvB word Wf ends k F0 P F here) (s : Spot) : s ∈ F.map (·.1) ↔ s ∈ F0.map (·.1) ∨ s ∈ here := by
  rw [b.eq, List.map_append, List.mem_append, List.map_map]
  have : ((fun x : Spot × Nat => x.1) ∘ fun s : Spot => (s, k)) = id := rfl
  rw [this, List.map_id]
variable {B : Nat}
theorem InvB.all_nod {k : Nat} {F0 F : Fd} {P here layer : List Spot} (a : InvA word Wf ends B k F0 layer) (b : InvB word Wf ends k F0 P F here) : (F.map (·.1)).Nodup := by
  rw [b.eq, List.map_append, List.map_map]
  have : ((fun x : Spot × Nat => x.1) ∘ fun s : Spot => (s, k)) = id := rfl
  rw [this, List.map_id]
  refine List.nodup_append.mpr ⟨a.nod, b.nod, fun x hx y hy e => ?_⟩
  subst e
  cases q : lk F0 x with
  | none => exact lk_none.mp q hx
  | some d =>
    obtain ⟨m, hd⟩ := (a.fnd x d).mp q
    have m' := ((b.mem x).mp hy).1
    have := M_uniq m m'
    omega
theorem InvB.old {k : Nat} {F0 F : Fd} {P here layer : List Spot} {s : Spot} (a : InvA word Wf ends B k F0 layer) (b : InvB word Wf ends k F0 P F here) (h : lk F s ≠ none) : InvB word Wf ends k F0 (P ++ [s]) F here := by
  refine ⟨b.eq, b.nod, fun t => ?_⟩
  rw [b.mem, List.mem_append, List.mem_singleton]
  constructor
  · rintro ⟨h1, h2⟩; exact ⟨h1, .inl h2⟩
  · rintro ⟨h1, h2 | h2⟩
    · exact ⟨h1, h2⟩
    · subst h2
      have h' : t ∈ F.map (·.1) := Decidable.byContradiction fun z => h (lk_none.mpr z)
      rcases (b.keys t).mp h' with z | z
      · exfalso
        cases q : lk F0 t with
        | none => exact lk_none.mp q z
        | some d =>
          obtain ⟨m, hd⟩ := (a.fnd t d).mp q
          have := M_uniq m h1
          omega
      · exact (b.mem t).mp z
theorem InvB.new {k : Nat} {F0 F : Fd} {P here layer : List Spot} {s : Spot} (a : InvA word Wf ends B k F0 layer) (b : InvB word Wf ends k F0 P F here) (hr : R word Wf ends k s.1 s.2) (h : lk F s = none) :
    InvB word Wf ends k F0 (P ++ [s]) (F ++ [(s, k)]) (here ++ [s]) := by
  have h' := lk_none.mp h
  have hn : ¬ (s ∈ F0.map (·.1) ∨ s ∈ here) := fun z => h' ((b.keys s).mpr z)
  refine ⟨by rw [b.eq, List.map_append, List.append_assoc]; rfl, List.nodup_append.mpr ⟨b.nod, by simp, fun x hx y hy e => ?_⟩, fun t => ?_⟩
  · rw [List.mem_singleton] at hy
    subst hy; subst e
    exact hn (.inr hx)
  · rw [List.mem_append, List.mem_append, List.mem_singleton, b.mem]
    constructor
    · rintro (⟨h1, h2⟩ | h1)
      · exact ⟨h1, .inl h2⟩
      · subst h1
        obtain ⟨d, hd, m⟩ := M_of_R hr
        have hd' : d = k := by
          rcases Nat.lt_or_ge d k with z | z
          · exfalso
            have q := (a.fnd t d).mpr ⟨m, z⟩
            refine hn (.inl (Decidable.byContradiction fun y => ?_))
            rw [lk_none.mpr y] at q
            cases q
          · omega
        subst hd'
        exact ⟨m, .inr rfl⟩
    · rintro ⟨h1, h2 | h2⟩
      · exact .inl ⟨h1, h2⟩
      · exact .inr h2
theorem spots_R {k : Nat} {s t : Spot} (h : R word Wf ends k s.1 s.2) (ht : t ∈ spots word s) : R word Wf ends k t.1 t.2 := by
  unfold spots at ht
  rcases List.mem_cons.mp ht with rfl | ht
  · exact h
  · obtain ⟨p, hp, rfl⟩ := List.mem_map.mp ht
    obtain ⟨h1, h2⟩ := mem_later.mp hp
    exact R_back h (.inr h2) h1
theorem mem_spots {s t : Spot} (ht : t.2 ≤ word.length) : t ∈ spots word s ↔ t.1 = s.1 ∧ Bk word s.2 t.2 := by
  obtain ⟨c, q⟩ := s
  obtain ⟨d, p⟩ := t
  unfold spots
  rw [List.mem_cons, List.mem_map]
  constructor
  · rintro (h | ⟨r, hr, h⟩)
    · cases h; exact ⟨rfl, .inl rfl⟩
    · cases h; exact ⟨rfl, .inr (mem_later.mp hr).2⟩
  · rintro ⟨h1, h2⟩
    have h1 : d = c := h1
    subst h1
    rcases h2 with h2 | h2
    · have h2 : q = p := h2
      subst h2; exact .inl rfl
    · exact .inr ⟨p, mem_later.mpr ⟨ht, h2⟩, rfl⟩
theorem InvA.next {ways : Ways α} (hn : (ways.map (·.1)).Nodup) (hB : ∀ c p d, M word (wf ways) ends c p d → d ≤ B) {k : Nat} {F0 F : Fd} {here layer : List Spot} (a : InvA word (wf ways) ends B k F0 layer)
    (b : InvB word (wf ways) ends k F0 (layer.flatMap (spots word)) F here) : InvA word (wf ways) ends B (k + 1) F (here.flatMap (nxt1 word ways)) := by
  have hall : ∀ s : Spot, s ∈ here ↔ M word (wf ways) ends s.1 s.2 k := fun s => by
    rw [b.mem]
    constructor
    · exact fun h => h.1
    · intro m
      refine ⟨m, ?_⟩
      obtain ⟨q, hq, hl⟩ := a.cpl s.1 s.2 m
      exact List.mem_flatMap.mpr ⟨_, hl, (mem_spots (R_le m.1)).mpr ⟨rfl, hq⟩⟩
  have nod := InvB.all_nod a b
  refine ⟨nod, fun s d => ?_, fun t ht => ?_, fun c p m => ?_, fun hne => ?_⟩
  · rw [lk_mem nod, b.eq, List.mem_append, List.mem_map, ← lk_mem a.nod, a.fnd]
    constructor
    · rintro (⟨h1, h2⟩ | ⟨t, ht, e⟩)
      · exact ⟨h1, by omega⟩
      · cases e
        exact ⟨(hall _).mp ht, by omega⟩
    · rintro ⟨h1, h2⟩
      rcases Nat.lt_or_ge d k with z | z
      · exact .inl ⟨h1, z⟩
      · have e : d = k := by omega
        subst e
        exact .inr ⟨s, (hall s).mpr h1, rfl⟩
  · obtain ⟨s, hs, h⟩ := List.mem_flatMap.mp ht
    have m := (hall s).mp hs
    obtain ⟨h1, nm, h2, h3⟩ := (mem_nxt1 hn (R_le m.1)).mp h
    exact ⟨t.2, nm, s.1, .inl rfl, h2, h3, by rw [← h1]; exact m.1⟩
  · obtain ⟨q, nm, a', hq, e, w, m'⟩ := M_step m
    refine ⟨q, hq, List.mem_flatMap.mpr ⟨(a', q + 1), (hall _).mpr m', (mem_nxt1 hn (R_le m'.1)).mpr ⟨rfl, nm, e, w⟩⟩⟩
  · cases here with
    | nil => exact absurd rfl hne
    | cons s r =>
      have := hB _ _ _ ((hall s).mp (List.mem_cons_self ..))
      omega
theorem InvA.fin {k : Nat} {F : Fd} (a : InvA word Wf ends B k F []) (s : Spot) (d : Nat) : lk F s = some d ↔ M word Wf ends s.1 s.2 d := by
  rw [a.fnd]
  constructor
  · exact fun h => h.1
  · intro m
    refine ⟨m, ?_⟩
    rcases Nat.lt_or_ge d k with z | z
    · exact z
    · exfalso
      have e : d = k + (d - k) := by omega
      rw [e] at m
      exact no_M (fun c p m' => by
        obtain ⟨q, _, h⟩ := a.cpl c p m'
        exact absurd h (by simp)) (d - k) s.1 s.2 m
theorem InvA.start {es : List Int} (he : ∀ c, c ∈ es ↔ ends c) : InvA word Wf ends B 0 [] (es.map fun c => (c, word.length)) := by
  refine ⟨List.nodup_nil, fun s d => ?_, fun s hs => ?_, fun c p m => ?_, fun _ => by omega⟩
  · rw [lk_nil]
    constructor
    · intro h; cases h
    · rintro ⟨_, h⟩; omega
  · obtain ⟨c, hc, rfl⟩ := List.mem_map.mp hs
    exact ⟨rfl, (he c).mp hc⟩
  · obtain ⟨h1, h2⟩ := M_zero.mp m
    exact ⟨p, .inl rfl, List.mem_map.mpr ⟨c, (he c).mpr h2, by rw [h1]⟩⟩
end gen
end Rg

namespace Rg
section ring
variable {α : Type} [DecidableEq α]
def tailW (n : Int) (tail : Option (α × Int)) (i : Int) : List ((Int × α) × Int) := match tail with
  | some (o, t) => if i = t then [((i, o), t)] else []
  | none => []
def ringL (n : Nat) (far : Int) (nm : α) (tail : Option (α × Int)) : Ways α :=
  (List.range n).flatMap fun (i : Nat) => (((i : Int), nm), ((i : Int) + far) % (n : Int)) :: tailW (n : Int) tail (i : Int)
def wordOf (m : Nat) (nm : α) (tail : Option (α × Int)) : List α := List.replicate m nm ++ (match tail with
  | some (o, _) => [o]
  | none => [])
def step (n far c : Int) (k : Nat) : Int := (c + (k : Int) * far) % n
def allow (m k low : Nat) : Prop := if m < 2 then k = low else low ≤ k
instance {m k low : Nat} : Decidable (allow m k low) := by unfold allow; exact inferInstance

variable {n : Nat} {far : Int} {nm : α} {tail : Option (α × Int)}
theorem mem_ring {e : (Int × α) × Int} : e ∈ ringL n far nm tail ↔ 0 ≤ e.1.1 ∧ e.1.1 < n ∧ ((e.1.2 = nm ∧ e.2 = (e.1.1 + far) % (n : Int)) ∨ ∃ o t, tail = some (o, t) ∧ e.1.1 = t ∧ e.1.2 = o ∧ e.2 = t) := by
  obtain ⟨⟨c, x⟩, a⟩ := e
  unfold ringL
  rw [List.mem_flatMap]
  constructor
  · rintro ⟨i, hi, h⟩
    rw [List.mem_range] at hi
    rcases List.mem_cons.mp h with h | h
    · cases h
      exact ⟨by show (0 : Int) ≤ (i : Int); omega, by show (i : Int) < n; omega, .inl ⟨rfl, rfl⟩⟩
    · unfold tailW at h
      cases tail with
      | none => simp at h
      | some p =>
        obtain ⟨o, t⟩ := p
        by_cases ht : (i : Int) = t
        · simp only [ht, if_true, List.mem_singleton] at h
          obtain ⟨⟨e1, e2⟩, e3⟩ : (c = t ∧ x = o) ∧ a = t := by simpa using h
          exact ⟨by show (0 : Int) ≤ c; omega, by show c < n; omega, .inr ⟨o, t, rfl, e1, e2, e3⟩⟩
        · simp only [ht, if_false] at h
          exact absurd h (by simp)
  · rintro ⟨h0, h1, h⟩
    have h0 : (0 : Int) ≤ c := h0
    have h1 : c < n := h1
    refine ⟨c.toNat, List.mem_range.mpr (by omega), ?_⟩
    have ec : ((c.toNat : Nat) : Int) = c := by omega
    rw [ec]
    rcases h with ⟨h2, h3⟩ | ⟨o, t, rfl, h2, h3, h4⟩
    · have h2 : x = nm := h2
      have h3 : a = (c + far) % (n : Int) := h3
      subst h2; subst h3
      exact List.mem_cons_self ..
    · have h2 : c = t := h2
      have h3 : x = o := h3
      have h4 : a = t := h4
      subst h2; subst h3; subst h4
      refine List.mem_cons_of_mem _ ?_
      simp [tailW]
theorem ring_order (ho : ∀ o t, tail = some (o, t) → o ≠ nm) : (ringL n far nm tail).Pairwise (fun e f => e.1.1 < f.1.1 ∨ (e.1.1 = f.1.1 ∧ e.1.2 = nm ∧ ∃ t, tail = some (f.1.2, t))) := by
  unfold ringL
  rw [List.pairwise_flatMap]
  refine ⟨fun i _ => ?_, ?_⟩
  · rw [List.pairwise_cons]
    unfold tailW
    cases tail with
    | none => exact ⟨fun _ h => by simp at h, List.Pairwise.nil⟩
    | some p =>
      obtain ⟨o, t⟩ := p
      by_cases ht : (i : Int) = t
      · simp only [if_pos ht]
        refine ⟨fun e h => ?_, List.pairwise_singleton ..⟩
        rw [List.mem_singleton] at h
        rw [h]
        exact .inr (by simp)
      · simp only [if_neg ht]
        exact ⟨fun _ h => by simp at h, List.Pairwise.nil⟩
  · refine List.Pairwise.imp (fun {i j} hij e he f hf => ?_) List.pairwise_lt_range
    have fst : ∀ (i : Nat) (e : (Int × α) × Int), e ∈ (((i : Int), nm), ((i : Int) + far) % (n : Int)) :: tailW (n : Int) tail (i : Int) → e.1.1 = i := by
      intro i e he
      rcases List.mem_cons.mp he with h | h
      · rw [h]
      · unfold tailW at h
        cases tail with
        | none => simp at h
        | some p =>
          obtain ⟨o, t⟩ := p
          by_cases ht : (i : Int) = t
          · simp only [ht, if_true, List.mem_singleton] at h
            rw [h, ht]
          · simp only [ht, if_false] at h
            exact absurd h (by simp)
    left
    rw [fst i e he, fst j f hf]
    omega
theorem ring_nodup (ho : ∀ o t, tail = some (o, t) → o ≠ nm) : ((ringL n far nm tail).map (·.1)).Nodup := by
  unfold List.Nodup
  rw [List.pairwise_map]
  refine List.Pairwise.imp (fun {e f} h q => ?_) (ring_order ho)
  rcases h with h | ⟨_, h2, t, h3⟩
  · rw [q] at h
    omega
  · rw [q] at h2
    exact ho _ _ h3 h2
theorem wf_ring (ho : ∀ o t, tail = some (o, t) → o ≠ nm) {c a : Int} {x : α} : wf (ringL n far nm tail) c x = some a ↔
    0 ≤ c ∧ c < n ∧ ((x = nm ∧ a = (c + far) % (n : Int)) ∨ ∃ o t, tail = some (o, t) ∧ c = t ∧ x = o ∧ a = t) := by
  rw [wf_mem (ring_nodup ho), mem_ring]
theorem ring_len : (ringL n far nm tail).length ≤ 2 * n := by
  unfold ringL
  rw [List.length_flatMap]
  have h : ∀ l : List Nat, (l.map fun i : Nat => ((((i : Int), nm), ((i : Int) + far) % (n : Int)) :: tailW (n : Int) tail (i : Int)).length).sum ≤ 2 * l.length := by
    intro l
    induction l with
    | nil => simp
    | cons i r ih =>
      rw [List.map_cons, List.sum_cons, List.length_cons, List.length_cons]
      have : (tailW (n : Int) tail (i : Int)).length ≤ 1 := by
        unfold tailW
        cases tail with
        | none => simp
        | some p =>
          obtain ⟨o, t⟩ := p
          by_cases ht : (i : Int) = t
          · simp [ht]
          · simp [ht]
      omega
  have := h (List.range n)
  rw [List.length_range] at this
  exact this

theorem step_zero {c : Int} (h0 : 0 ≤ c) (h1 : c < n) : step n far c 0 = c := by
  unfold step
  rw [show ((0 : Nat) : Int) = 0 from rfl, Int.zero_mul, Int.add_zero]
  exact Int.emod_eq_of_lt h0 h1
theorem step_succ {c : Int} {k : Nat} : step n far ((c + far) % (n : Int)) k = step n far c (k + 1) := by
  unfold step
  rw [Int.emod_add_emod]
  congr 1
  have : ((k + 1 : Nat) : Int) = (k : Int) + 1 := by omega
  rw [this, Int.add_mul, Int.one_mul]
  omega
theorem step_rng {c : Int} {k : Nat} (hn : 0 < n) : 0 ≤ step n far c k ∧ step n far c k < n := ⟨Int.emod_nonneg _ (by omega), Int.emod_lt_of_pos _ (by omega)⟩
theorem step_per {c : Int} {k : Nat} : step n far c (k + n) = step n far c k := by
  unfold step
  have : ((k + n : Nat) : Int) = (k : Int) + n := by omega
  rw [this, Int.add_mul, ← Int.add_assoc, Int.add_mul_emod_self_left]

variable {m : Nat}
theorem word_at {q : Nat} (h : q < m) : (wordOf m nm tail)[q]? = some nm := by
  unfold wordOf
  rw [List.getElem?_append_left (by rw [List.length_replicate]; exact h), List.getElem?_replicate, if_pos h]
theorem word_m {o : α} {t : Int} : (wordOf m nm (some (o, t)))[m]? = some o := by
  unfold wordOf
  rw [List.getElem?_append_right (by rw [List.length_replicate]; exact Nat.le_refl _), List.length_replicate, Nat.sub_self]
  rfl
theorem word_len0 : (wordOf m nm none).length = m := by simp [wordOf]
theorem word_len1 {o : α} {t : Int} : (wordOf m nm (some (o, t))).length = m + 1 := by simp [wordOf]
theorem bk_low {q w : Nat} (hw : w ≤ m) : Bk (wordOf m nm tail) q w ↔ q = w ∨ (1 ≤ q ∧ q < w) := by
  unfold Bk
  rw [mem_backs]
  constructor
  · rintro (h | h)
    · exact .inl h
    · exact .inr ⟨h.1, h.2.1⟩
  · rintro (h | h)
    · exact .inl h
    · exact .inr ⟨h.1, h.2, by rw [word_at (by omega), word_at (by omega)]⟩
theorem bk_top {o : α} {t : Int} (ho : o ≠ nm) {q : Nat} : Bk (wordOf m nm (some (o, t))) q (m + 1) ↔ q = m + 1 := by
  unfold Bk
  rw [mem_backs]
  constructor
  · rintro (h | ⟨h1, h2, h3⟩)
    · exact h
    · rw [word_at (by omega), Nat.add_sub_cancel, word_m] at h3
      exact absurd (Option.some.inj h3).symm ho
  · exact .inl
/-- one name goes on, by arithmetic -/
theorem allow_succ {k w : Nat} (hw : w ≤ m) : (∃ q, (q = w ∨ (1 ≤ q ∧ q < w)) ∧ q < m ∧ allow m k (m - (q + 1))) ↔ allow m (k + 1) (m - w) := by
  unfold allow
  constructor
  · rintro ⟨q, h1, h2, h3⟩
    by_cases hm : m < 2
    · rw [if_pos hm] at h3 ⊢
      omega
    · rw [if_neg hm] at h3 ⊢
      omega
  · intro h
    by_cases hm : m < 2
    · rw [if_pos hm] at h
      exact ⟨0, by omega, by omega, by rw [if_pos hm]; omega⟩
    · rw [if_neg hm] at h
      by_cases e : w = m
      · exact ⟨m - 1, by omega, by omega, by rw [if_neg hm]; omega⟩
      · exact ⟨w, by omega, by omega, by rw [if_neg hm]; omega⟩
variable {ends : Int → Prop}
theorem R_ring0 (hn : 0 < n) : ∀ (k : Nat) (c : Int) (w : Nat), 0 ≤ c → c < n → w ≤ m → (R (wordOf m nm none) (wf (ringL n far nm none)) ends k c w ↔ allow m k (m - w) ∧ ends (step n far c k))
  | 0, c, w, h0, h1, hw => by
    rw [step_zero h0 h1]
    show (w = _ ∧ ends c) ↔ _
    rw [word_len0]
    have : w = m ↔ allow m 0 (m - w) := by
      unfold allow
      by_cases hm : m < 2
      · rw [if_pos hm]; omega
      · rw [if_neg hm]; omega
    rw [this]
  | k + 1, c, w, h0, h1, hw => by
    have ho : ∀ o t, (none : Option (α × Int)) = some (o, t) → o ≠ nm := fun _ _ h => by cases h
    rw [← allow_succ hw]
    constructor
    · rintro ⟨q, x, a, hb, he, hwf, hr⟩
      obtain ⟨_, _, h⟩ := (wf_ring ho).mp hwf
      rcases h with ⟨e1, e2⟩ | ⟨o, t, h, _⟩
      · have hq : q < m := by
          have := (List.getElem?_eq_some_iff.mp he).1
          rw [word_len0] at this
          exact this
        rw [e2] at hr
        obtain ⟨r1, r2⟩ := (R_ring0 hn k _ (q + 1) (Int.emod_nonneg _ (by omega)) (Int.emod_lt_of_pos _ (by omega)) hq).mp hr
        rw [step_succ] at r2
        exact ⟨⟨q, (bk_low hw).mp hb, hq, r1⟩, r2⟩
      · cases h
    · rintro ⟨⟨q, hb, hq, r1⟩, r2⟩
      exact ⟨q, nm, _, (bk_low hw).mpr hb, word_at hq, (wf_ring ho).mpr ⟨h0, h1, .inl ⟨rfl, rfl⟩⟩,
        (R_ring0 hn k _ (q + 1) (Int.emod_nonneg _ (by omega)) (Int.emod_lt_of_pos _ (by omega)) hq).mpr ⟨r1, by rw [step_succ]; exact r2⟩⟩
theorem R_top {o : α} {t : Int} (ho : o ≠ nm) {k : Nat} {c : Int} : R (wordOf m nm (some (o, t))) (wf (ringL n far nm (some (o, t)))) ends k c (m + 1) ↔ k = 0 ∧ ends c := by
  cases k with
  | zero =>
    show (m + 1 = _ ∧ ends c) ↔ _
    rw [word_len1]
    simp
  | succ k =>
    constructor
    · rintro ⟨q, x, a, hb, he, _⟩
      rw [(bk_top ho).mp hb] at he
      have := (List.getElem?_eq_some_iff.mp he).1
      rw [word_len1] at this
      omega
    · rintro ⟨h, _⟩
      omega
theorem R_ring1 {o : α} {t : Int} (hn : 0 < n) (ho : o ≠ nm) (ht0 : 0 ≤ t) (ht1 : t < n) : ∀ (k : Nat) (c : Int) (w : Nat), 0 ≤ c → c < n → w ≤ m →
    (R (wordOf m nm (some (o, t))) (wf (ringL n far nm (some (o, t)))) ends k c w ↔ ∃ j, k = j + 1 ∧ allow m j (m - w) ∧ step n far c j = t ∧ ends t)
  | 0, c, w, h0, h1, hw => by
    constructor
    · rintro ⟨h, _⟩
      rw [word_len1] at h
      omega
    · rintro ⟨j, h, _⟩
      omega
  | k + 1, c, w, h0, h1, hw => by
    have ho' : ∀ o' t', (some (o, t) : Option (α × Int)) = some (o', t') → o' ≠ nm := fun _ _ h => by cases h; exact ho
    constructor
    · rintro ⟨q, x, a, hb, he, hwf, hr⟩
      have hb' := (bk_low hw).mp hb
      obtain ⟨_, _, h⟩ := (wf_ring ho').mp hwf
      rcases h with ⟨e1, e2⟩ | ⟨o', t', e0, e1, e2, e3⟩
      · rw [e1] at he
        rw [e2] at hr
        have hq : q < m := by
          rcases Nat.lt_or_ge q m with z | z
          · exact z
          · exfalso
            have e : q = m := by omega
            rw [e, word_m] at he
            exact ho (Option.some.inj he)
        obtain ⟨j, rfl, r1, r2, r3⟩ := (R_ring1 hn ho ht0 ht1 k _ (q + 1) (Int.emod_nonneg _ (by omega)) (Int.emod_lt_of_pos _ (by omega)) hq).mp hr
        rw [step_succ] at r2
        exact ⟨j + 1, rfl, (allow_succ hw).mp ⟨q, hb', hq, r1⟩, r2, r3⟩
      · cases e0
        subst e2; subst e3
        have hq : q = m := by
          rcases Nat.lt_or_ge q m with z | z
          · rw [word_at z] at he
            exact absurd (Option.some.inj he).symm ho
          · omega
        subst hq
        obtain ⟨rfl, r⟩ := (R_top ho).mp hr
        have ew : w = q := by omega
        subst ew
        refine ⟨0, rfl, ?_, ?_, r⟩
        · unfold allow
          by_cases hm : w < 2
          · rw [if_pos hm]; omega
          · rw [if_neg hm]; omega
        · rw [step_zero h0 h1, e1]
    · rintro ⟨j, e, r1, r2, r3⟩
      have e : k = j := by omega
      subst e
      cases k with
      | zero =>
        rw [step_zero h0 h1] at r2
        have ew : w = m := by
          unfold allow at r1
          by_cases hm : m < 2
          · rw [if_pos hm] at r1; omega
          · rw [if_neg hm] at r1; omega
        subst ew
        exact ⟨w, o, t, .inl rfl, word_m, (wf_ring ho').mpr ⟨h0, h1, .inr ⟨o, t, rfl, r2, rfl, rfl⟩⟩, (R_top ho).mpr ⟨rfl, r3⟩⟩
      | succ j =>
        obtain ⟨q, hb, hq, r⟩ := (allow_succ hw).mpr r1
        exact ⟨q, nm, _, (bk_low hw).mpr hb, word_at hq, (wf_ring ho').mpr ⟨h0, h1, .inl ⟨rfl, rfl⟩⟩,
          (R_ring1 hn ho ht0 ht1 (j + 1) _ (q + 1) (Int.emod_nonneg _ (by omega)) (Int.emod_lt_of_pos _ (by omega)) hq).mpr ⟨j, rfl, r, by rw [step_succ]; exact r2, r3⟩⟩

/-! ### what the law reckons -/
def cands (n m low : Nat) : List Nat := if m < 2 then [low] else (List.range (n + 1)).map fun i => low + i
def least (n m low : Nat) (P : Nat → Bool) : Option Nat := (cands n m low).find? P
theorem least_spec {low : Nat} {P : Nat → Bool} (hn : 0 < n) (hp : ∀ k, P (k + n) = P k) {k : Nat} : least n m low P = some k ↔ (allow m k low ∧ P k = true) ∧ ∀ j, j < k → ¬ (allow m j low ∧ P j = true) := by
  unfold least cands allow
  by_cases hm : m < 2
  · simp only [if_pos hm]
    constructor
    · intro h
      have h1 := List.mem_of_find?_eq_some h
      have h2 := List.find?_some h
      rw [List.mem_singleton] at h1
      exact ⟨⟨h1, h2⟩, fun j hj q => by omega⟩
    · rintro ⟨⟨h1, h2⟩, _⟩
      subst h1
      rw [List.find?_cons, h2]
  · simp only [if_neg hm]
    rw [List.find?_map, Option.map_eq_some_iff]
    constructor
    · rintro ⟨i, hi, rfl⟩
      obtain ⟨h1, h2, h3⟩ := List.find?_range_eq_some.mp hi
      refine ⟨⟨by omega, h1⟩, fun j hj q => ?_⟩
      have := h3 (j - low) (by omega)
      simp only [Function.comp] at this
      rw [show low + (j - low) = j by omega, q.2] at this
      cases this
    · rintro ⟨⟨h1, h2⟩, h3⟩
      have hlt : k - low < n := by
        rcases Nat.lt_or_ge (k - low) n with z | z
        · exact z
        · exfalso
          refine h3 (k - n) (by omega) ⟨by omega, ?_⟩
          rw [← hp, show k - n + n = k by omega]
          exact h2
      refine ⟨k - low, List.find?_range_eq_some.mpr ⟨?_, List.mem_range.mpr (by omega), fun j hj => ?_⟩, by omega⟩
      · show P (low + (k - low)) = true
        rw [show low + (k - low) = k by omega]
        exact h2
      · show (!P (low + j)) = true
        cases q : P (low + j) with
        | false => rfl
        | true => exact absurd ⟨by omega, q⟩ (h3 (low + j) (by omega))
theorem least_le {low k : Nat} {P : Nat → Bool} (h : least n m low P = some k) : k ≤ low + n := by
  unfold least cands at h
  have h1 := List.mem_of_find?_eq_some h
  by_cases hm : m < 2
  · rw [if_pos hm, List.mem_singleton] at h1
    omega
  · rw [if_neg hm, List.mem_map] at h1
    obtain ⟨i, hi, rfl⟩ := h1
    rw [List.mem_range] at hi
    omega
/-- the law's own reckoning -/
def due (n : Nat) (far : Int) (m : Nat) (es : Int → Bool) (tail : Option Int) (c : Int) (w : Nat) : Option Nat :=
  if m < w then (if es c = true then some 0 else none) else match tail with
    | none => least n m (m - w) fun k => es (step n far c k)
    | some t => match least n m (m - w) fun k => decide (step n far c k = t) with
      | none => none
      | some k => if es t = true then some (k + 1) else none
theorem due_M {es : Int → Bool} (hn : 0 < n) (ho : ∀ o t, tail = some (o, t) → o ≠ nm ∧ 0 ≤ t ∧ t < n) {c : Int} {w d : Nat} (h0 : 0 ≤ c) (h1 : c < n) (hw : w ≤ (wordOf m nm tail).length) :
    M (wordOf m nm tail) (wf (ringL n far nm tail)) (fun x => es x = true) c w d ↔ due n far m es (tail.map (·.2)) c w = some d := by
  unfold due M
  cases tail with
  | none =>
    rw [word_len0] at hw
    rw [if_neg (by omega)]
    show _ ↔ least n m (m - w) (fun k => es (step n far c k)) = some d
    rw [least_spec hn (fun k => by rw [step_per]), R_ring0 hn d c w h0 h1 hw]
    refine and_congr Iff.rfl (forall_congr' fun j => imp_congr Iff.rfl ?_)
    rw [R_ring0 hn j c w h0 h1 hw]
  | some p =>
    obtain ⟨o, t⟩ := p
    obtain ⟨ho1, ht0, ht1⟩ := ho o t rfl
    rw [word_len1] at hw
    by_cases hw2 : m < w
    · have e : w = m + 1 := by omega
      subst e
      rw [if_pos hw2, R_top ho1]
      constructor
      · rintro ⟨⟨rfl, h⟩, _⟩
        rw [if_pos h]
      · intro h
        by_cases he : es c = true
        · rw [if_pos he] at h
          cases h
          exact ⟨⟨rfl, he⟩, fun j hj => by omega⟩
        · rw [if_neg he] at h
          cases h
    · have hw3 : w ≤ m := by omega
      rw [if_neg hw2]
      show _ ↔ (match least n m (m - w) fun k => decide (step n far c k = t) with
        | none => none
        | some k => if es t = true then some (k + 1) else none) = some d
      have key : ∀ k, least n m (m - w) (fun k => decide (step n far c k = t)) = some k ↔ (allow m k (m - w) ∧ step n far c k = t) ∧ ∀ j, j < k → ¬ (allow m j (m - w) ∧ step n far c j = t) := fun k => by
        rw [least_spec hn (fun k => by rw [step_per])]
        simp only [decide_eq_true_eq]
      constructor
      · rintro ⟨hr, hmin⟩
        obtain ⟨j, rfl, r1, r2, r3⟩ := (R_ring1 hn ho1 ht0 ht1 d c w h0 h1 hw3).mp hr
        have : least n m (m - w) (fun k => decide (step n far c k = t)) = some j := (key j).mpr ⟨⟨r1, r2⟩, fun i hi q => hmin (i + 1) (by omega) ((R_ring1 hn ho1 ht0 ht1 _ c w h0 h1 hw3).mpr ⟨i, rfl, q.1, q.2, r3⟩)⟩
        rw [this]
        show (if es t = true then some (j + 1) else none) = some (j + 1)
        rw [if_pos r3]
      · intro h
        cases q : least n m (m - w) (fun k => decide (step n far c k = t)) with
        | none => rw [q] at h; cases h
        | some k =>
          rw [q] at h
          have h : (if es t = true then some (k + 1) else none) = some d := h
          by_cases he : es t = true
          · rw [if_pos he] at h
            cases h
            obtain ⟨⟨r1, r2⟩, r3⟩ := (key k).mp q
            refine ⟨(R_ring1 hn ho1 ht0 ht1 _ c w h0 h1 hw3).mpr ⟨k, rfl, r1, r2, he⟩, fun j hj hr => ?_⟩
            obtain ⟨i, rfl, s1, s2, s3⟩ := (R_ring1 hn ho1 ht0 ht1 _ c w h0 h1 hw3).mp hr
            exact r3 i (by omega) ⟨s1, s2⟩
          · rw [if_neg he] at h
            cases h
theorem due_le {es : Int → Bool} {t : Option Int} {c : Int} {w d : Nat} (h : due n far m es t c w = some d) : d ≤ m + n + 1 := by
  unfold due at h
  by_cases hw : m < w
  · rw [if_pos hw] at h
    by_cases he : es c = true
    · rw [if_pos he] at h; cases h; omega
    · rw [if_neg he] at h; cases h
  · rw [if_neg hw] at h
    cases t with
    | none =>
      have := least_le h
      omega
    | some t =>
      have h : (match least n m (m - w) fun k => decide (step n far c k = t) with
        | none => none
        | some k => if es t = true then some (k + 1) else none) = some d := h
      cases q : least n m (m - w) (fun k => decide (step n far c k = t)) with
      | none => rw [q] at h; cases h
      | some k =>
        rw [q] at h
        have h : (if es t = true then some (k + 1) else none) = some d := h
        have := least_le q
        by_cases he : es t = true
        · rw [if_pos he] at h; cases h; omega
        · rw [if_neg he] at h; cases h
/-- all spots -/
def univ (n l : Nat) : List Spot := (List.range n).flatMap fun (i : Nat) => (List.range (l + 1)).map fun (p : Nat) => ((i : Int), p)
theorem mem_univ {l : Nat} {s : Spot} : s ∈ univ n l ↔ 0 ≤ s.1 ∧ s.1 < n ∧ s.2 ≤ l := by
  obtain ⟨c, p⟩ := s
  unfold univ
  rw [List.mem_flatMap]
  constructor
  · rintro ⟨i, hi, h⟩
    obtain ⟨q, hq, h⟩ := List.mem_map.mp h
    rw [List.mem_range] at hi hq
    obtain ⟨e1, e2⟩ : (i : Int) = c ∧ q = p := by simpa using h
    exact ⟨by show (0 : Int) ≤ c; omega, by show c < n; omega, by show p ≤ l; omega⟩
  · rintro ⟨h0, h1, h2⟩
    have h0 : (0 : Int) ≤ c := h0
    have h1 : c < n := h1
    have h2 : p ≤ l := h2
    refine ⟨c.toNat, List.mem_range.mpr (by omega), List.mem_map.mpr ⟨p, List.mem_range.mpr (by omega), ?_⟩⟩
    rw [show ((c.toNat : Nat) : Int) = c by omega]
theorem univ_len {l : Nat} : (univ n l).length = n * (l + 1) := by
  unfold univ
  rw [List.length_flatMap]
  have : ∀ k : List Nat, (k.map fun i : Nat => ((List.range (l + 1)).map fun (p : Nat) => ((i : Int), p)).length).sum = k.length * (l + 1) := by
    intro k
    induction k with
    | nil => simp
    | cons i r ih =>
      rw [List.map_cons, List.sum_cons, ih, List.length_map, List.length_range, List.length_cons, Nat.add_mul, Nat.one_mul, Nat.add_comm]
  rw [this, List.length_range]
theorem M_univ {es : Int → Bool} (ho : ∀ o t, tail = some (o, t) → o ≠ nm) (he : ∀ c, es c = true → 0 ≤ c ∧ c < n) {c : Int} {w d : Nat} (h : M (wordOf m nm tail) (wf (ringL n far nm tail)) (fun x => es x = true) c w d) :
    (c, w) ∈ univ n (wordOf m nm tail).length := by
  have hr := R_le h.1
  refine mem_univ.mpr ?_
  cases d with
  | zero =>
    obtain ⟨_, h⟩ := M_zero.mp h
    exact ⟨(he c h).1, (he c h).2, hr⟩
  | succ d =>
    obtain ⟨q, x, a, _, _, hw, _⟩ := M_step h
    obtain ⟨h0, h1, _⟩ := (wf_ring ho).mp hw
    exact ⟨h0, h1, hr⟩

/-! ### the spots in order -/
def LtS (s t : Spot) : Prop := s.1 < t.1 ∨ (s.1 = t.1 ∧ s.2 < t.2)
def duesL (n l : Nat) (f : Int → Nat → Option Nat) : List Spot := (List.range n).flatMap fun (i : Nat) => ((List.range (l + 1)).filter fun p => (f (i : Int) p).isSome).map fun (p : Nat) => ((i : Int), p)
theorem mem_dues {l : Nat} {f : Int → Nat → Option Nat} {s : Spot} : s ∈ duesL n l f ↔ (0 ≤ s.1 ∧ s.1 < n ∧ s.2 ≤ l) ∧ ∃ d, f s.1 s.2 = some d := by
  obtain ⟨c, p⟩ := s
  unfold duesL
  rw [List.mem_flatMap]
  constructor
  · rintro ⟨i, hi, h⟩
    obtain ⟨q, hq, h⟩ := List.mem_map.mp h
    obtain ⟨hq, hs⟩ := List.mem_filter.mp hq
    rw [List.mem_range] at hi hq
    obtain ⟨e1, e2⟩ : (i : Int) = c ∧ q = p := by simpa using h
    rw [e1, e2] at hs
    exact ⟨⟨by show (0 : Int) ≤ c; omega, by show c < n; omega, by show p ≤ l; omega⟩, Option.isSome_iff_exists.mp hs⟩
  · rintro ⟨⟨h0, h1, h2⟩, h⟩
    have h0 : (0 : Int) ≤ c := h0
    have h1 : c < n := h1
    have h2 : p ≤ l := h2
    refine ⟨c.toNat, List.mem_range.mpr (by omega), ?_⟩
    rw [show ((c.toNat : Nat) : Int) = c by omega]
    exact List.mem_map.mpr ⟨p, List.mem_filter.mpr ⟨List.mem_range.mpr (by omega), Option.isSome_iff_exists.mpr h⟩, rfl⟩
theorem dues_order {l : Nat} {f : Int → Nat → Option Nat} : (duesL n l f).Pairwise LtS := by
  unfold duesL
  rw [List.pairwise_flatMap]
  refine ⟨fun i _ => ?_, List.Pairwise.imp (fun {i j} hij e he g hg => ?_) List.pairwise_lt_range⟩
  · rw [List.pairwise_map]
    exact List.Pairwise.imp (fun {a b} h => .inr ⟨rfl, h⟩) (List.Pairwise.filter _ List.pairwise_lt_range)
  · obtain ⟨a, _, rfl⟩ := List.mem_map.mp he
    obtain ⟨b, _, rfl⟩ := List.mem_map.mp hg
    exact .inl (by show (i : Int) < (j : Int); omega)
theorem sorted_eq {β : Type} {lt : β → β → Prop} (irr : ∀ x, ¬ lt x x) (tr : ∀ x y, lt x y → lt y x → False) : ∀ {a b : List β}, a.Pairwise lt → b.Pairwise lt → (∀ x, x ∈ a ↔ x ∈ b) → a = b
  | [], [], _, _, _ => rfl
  | [], y :: b, _, _, h => absurd ((h y).mpr (List.mem_cons_self ..)) (by simp)
  | x :: a, [], _, _, h => absurd ((h x).mp (List.mem_cons_self ..)) (by simp)
  | x :: a, y :: b, ha, hb, h => by
    rw [List.pairwise_cons] at ha hb
    have e : x = y := by
      rcases List.mem_cons.mp ((h x).mp (List.mem_cons_self ..)) with z | z
      · exact z
      · rcases List.mem_cons.mp ((h y).mpr (List.mem_cons_self ..)) with z' | z'
        · exact z'.symm
        · exact (tr _ _ (hb.1 x z) (ha.1 y z')).elim
    subst e
    have h' : ∀ z, z ∈ a ↔ z ∈ b := fun z => by
      constructor
      · intro q
        rcases List.mem_cons.mp ((h z).mp (List.mem_cons_of_mem _ q)) with r | r
        · subst r; exact (irr _ (ha.1 _ q)).elim
        · exact r
      · intro q
        rcases List.mem_cons.mp ((h z).mpr (List.mem_cons_of_mem _ q)) with r | r
        · subst r; exact (irr _ (hb.1 _ q)).elim
        · exact r
    rw [sorted_eq irr tr ha.2 hb.2 h']
theorem spots_eq {a b : List Spot} (ha : a.Pairwise LtS) (hb : b.Pairwise LtS) (h : ∀ x, x ∈ a ↔ x ∈ b) : a = b :=
  sorted_eq (fun x q => by unfold LtS at q; omega) (fun x y p q => by unfold LtS at p q; omega) ha hb h
/-- a step to the end goes by the last name -/
theorem last_step {o : α} {t : Int} (ho : o ≠ nm) {a : Int} {d : Nat} {es : Int → Prop} (h : M (wordOf m nm (some (o, t))) (wf (ringL n far nm (some (o, t)))) es a (m + 1) d) : d = 0 := ((R_top ho).mp h.1).1
end ring
end Rg
/-! own rules: tuple * int, text * int, int(text), list(text) -/
namespace Rg
open PySem PySem.Spec PyProof.Rows L2
/-! ### (x,) * k for k = 0, 1, more -/
theorem mul_one_meets (l : Addr) (items : Array Value) (n : Nat) (dd : Option Addr) (sl : Array (Option Value)) (u : Tok) :
    Meets (Builtin.«tuple.__mul__» ⟨[.ref l, .int 1 u], []⟩) (fun _ R s => s.heap.get? l = some { cls := .type "tuple", dict := dd, data := .seq items n, slots := sl } ∧ R (.ok (.ret (Value.ref l))) s) :=
  .of_wp fun prog w A R s h => by
    obtain ⟨hp, g, d, tk, os⟩ := s
    obtain ⟨hl, h⟩ := h
    have f1 := AutoSeq1.idx_int
    have c0 : (decide ((1 : Int) < -(2 ^ 63)) || decide ((1 : Int) ≥ 2 ^ 63)) = false := by decide
    have c1 : (items.isEmpty || (1 : Int) == 1) = true := by simp
    wp_walk using wpAny_loadPart' hl
    repeat (first
      | (refine wpAny_ite_false (decide_eq_false (by rw [c0]; exact Bool.false_ne_true)) ?_; wp_walk using wpAny_loadPart' hl)
      | (refine wpAny_ite_true (decide_eq_true (by rw [c1])) ?_; wp_walk using wpAny_loadPart' hl))
    exact ⟨_, rfl, h⟩
theorem mul_zero_meets (l : Addr) (items : Array Value) (n : Nat) (dd : Option Addr) (sl : Array (Option Value)) (u : Tok) (hne : items.isEmpty = false) :
    Meets (Builtin.«tuple.__mul__» ⟨[.ref l, .int 0 u], []⟩) (fun _ R s => s.heap.get? l = some { cls := .type "tuple", dict := dd, data := .seq items n, slots := sl } ∧
      R (.ok (.ret (Value.ref s.heap.objs.size))) { s with heap := s.heap.push { cls := Value.type "tuple", data := Data.seq #[] }, toks := s.toks }) :=
  .of_wp fun prog w A R s h => by
    obtain ⟨hp, g, d, tk, os⟩ := s
    obtain ⟨hl, h⟩ := h
    have f1 := AutoSeq1.idx_int
    have c0 : (decide ((0 : Int) < -(2 ^ 63)) || decide ((0 : Int) ≥ 2 ^ 63)) = false := by decide
    have c1 : (items.isEmpty || (0 : Int) == 1) = false := by rw [hne]; rfl
    have c2 : (decide ((0 : Int) ≤ 0) || items.isEmpty) = true := by simp
    wp_walk using wpAny_loadPart' hl
    repeat (first
      | (refine wpAny_ite_false (decide_eq_false (by rw [c0]; exact Bool.false_ne_true)) ?_; wp_walk using wpAny_loadPart' hl)
      | (refine wpAny_ite_false (decide_eq_false (by rw [c1]; exact Bool.false_ne_true)) ?_; wp_walk using wpAny_loadPart' hl)
      | (refine wpAny_ite_true (decide_eq_true (by rw [c2])) ?_; wp_walk using wpAny_loadPart' hl))
    exact ⟨_, rfl, h⟩
/-- t * k, t not empty: t itself for 1, else a new tuple -/
def rRepA (K : PySem.W.Frag) : R2 := fun x y H Q => ∃ l k xs, x = .ref l ∧ y = .int k ∧ SqT K H l xs ∧ xs ≠ [] ∧ 0 ≤ k ∧ k ≤ 1000 ∧ xs.length ≤ 1000 ∧
  (k = 1 → Q (.ref l) H) ∧ (k ≠ 1 → ∀ p, H p = none → Q (.ref p) (upd H p (.tup (List.replicate k.toNat xs).flatten)))
section
variable {X : Cx}
theorem op_repA : OpR X (binaryOp .Mult) (rRepA X.K) := by
  intro pins s σ H x y v u Q I rx ry h
  obtain ⟨l, k, xs, rfl, rfl, hT, hne, h0, h1, hz, q1, q2⟩ := h
  by_cases h2 : 2 ≤ k
  · exact op_repT pins s σ H _ _ v u Q I rx ry ⟨l, k, xs, rfl, rfl, hT, hne, h2, h1, hz, q2 (by omega)⟩
  · cases rx
    obtain ⟨t, rfl⟩ := ry
    obtain ⟨its, r, ⟨⟨cls, dd, data, sl⟩, ho, hc, n, hd⟩, hs⟩ := I.tuple hT
    simp only at hc hd
    subst hc hd
    have hn : its ≠ [] := fun e => hne (by
      have := r.length
      rw [e] at this
      exact List.eq_nil_of_length_eq_zero this)
    have hi : its.toArray.isEmpty = false := by
      cases its with
      | nil => exact absurd rfl hn
      | cons a b => rfl
    by_cases e1 : k = 1
    · subst e1
      exact wpAny_binaryOp_repeat_ref (T := "tuple") (U := "int") (by decide) ⟨_, ho, rfl⟩ (fun s' => typeIs_int s' 1 t) noFill_tuple_mul F.fills_int_mul F.slot_int_rmul repeat_tuple F.slot_int_index.lookup
        (call_meets F.slot_int_rmul (typeIs_int s 1 t) F.entry_int_rmul (F.args_int_rmul_2 _ _) (int_rmul_tuple 1 t l its.toArray n dd sl)
          ⟨ho, rfl, ⟨_, ho, rfl⟩, call_meets F.slot_tuple_mul ⟨_, ho, rfl⟩ F.entry_tuple_mul (F.args_tuple_mul_2 _ _) (mul_one_meets l its.toArray n dd sl t) ⟨ho, .ref l, H, I, rfl, q1 rfl⟩⟩)
    · have e0 : k = 0 := by omega
      subst e0
      refine wpAny_binaryOp_repeat_ref (T := "tuple") (U := "int") (by decide) ⟨_, ho, rfl⟩ (fun s' => typeIs_int s' 0 t) noFill_tuple_mul F.fills_int_mul F.slot_int_rmul repeat_tuple F.slot_int_index.lookup
        (call_meets F.slot_int_rmul (typeIs_int s 0 t) F.entry_int_rmul (F.args_int_rmul_2 _ _) (int_rmul_tuple 0 t l its.toArray n dd sl)
          ⟨ho, rfl, ⟨_, ho, rfl⟩, call_meets F.slot_tuple_mul ⟨_, ho, rfl⟩ F.entry_tuple_mul (F.args_tuple_mul_2 _ _) (mul_zero_meets l its.toArray n dd sl t hi) ⟨ho, ?_⟩⟩)
      exact ⟨.ref s.heap.objs.size, _, I.laid (t' := s.toks) (o := .tup (List.replicate (0 : Int).toNat xs).flatten) (fun b ob q => Heap.get?_push_of_some _ q) (Nat.le_refl _) ⟨Nat.zero_le _, [], .nil, IsTup.new _ _⟩, rfl,
        q2 (by decide) _ (I.hok.fresh (Nat.le_refl _))⟩
/-! ### x * k of a text -/
def repS (x : Str) (k : Int) : Str := ⟨(List.replicate k.toNat x.cps).foldl (· ++ ·) #[]⟩
theorem op_repStr : OpR X (binaryOp .Mult) (fun x y H Q => ∃ z k, x = .str z ∧ y = .int k ∧ 2 ≤ k ∧ k ≤ 1000 ∧ 1 ≤ z.length ∧ z.length ≤ 1000 ∧ (repS z k).length ≤ sizeLine ∧ Q (.str (repS z k)) H) := by
  intro pins s σ H x y v u Q I rx ry h
  obtain ⟨z, k, rfl, rfl, h1, h2, h3, h4, h5, q⟩ := h
  obtain ⟨t, rfl⟩ := rx
  obtain ⟨t', rfl⟩ := ry
  have b1 : (k == 1 || z.length == 0) = false := by
    rw [beq_eq_false_iff_ne.mpr (by omega), beq_eq_false_iff_ne.mpr (by omega)]
    rfl
  refine PySem.P.mul_str (by rw [decide_eq_false (by omega), decide_eq_false (by omega)]; rfl) (fun _ _ => ?_) (fun _ _ => ?_) ?_
  · have : (2 ^ 63 - 1 : Int) / 1000 ≤ (2 ^ 63 - 1) / k := by
      apply Int.le_ediv_of_mul_le (by omega)
      have : (2 ^ 63 - 1 : Int) / 1000 * k ≤ (2 ^ 63 - 1 : Int) / 1000 * 1000 := Int.mul_le_mul_of_nonneg_left (by omega) (by decide)
      have : (2 ^ 63 - 1 : Int) / 1000 * 1000 ≤ 2 ^ 63 - 1 := by decide
      omega
    have e : (2 ^ 63 - 1 : Int) / 1000 = 9223372036854775 := by decide
    omega
  · have : z.length * k.toNat ≤ 1000 * 1000 := Nat.mul_le_mul h4 (by omega)
    unfold Builtin.Str.tooLong
    rw [sizeLine_eq]
    exact decide_eq_false (by omega)
  · rw [if_neg (by omega), if_neg (by rw [b1]; exact Bool.false_ne_true)]
    exact ⟨h5, .str (repS z k), H, I.tok _, ⟨_, rfl⟩, q⟩
/-! ### list(x) of a text -/
theorem cr_listStr (hc : X.calm = true) : CallR X (.type "list") (fun xs H Q => ∃ z : Str, xs = [.str z] ∧ z.cps.size ≤ sizeLine ∧ ∀ p, H p = none → Q (.ref p) (upd H p (.lst (z.cps.toList.map fun c => V.str ⟨#[c]⟩)))) := by
  intro pins s σ H xs us Q I r h
  obtain ⟨z, rfl, hz, q⟩ := h
  obtain ⟨u, rfl, ru⟩ := vals1 r
  obtain ⟨t, rfl⟩ := ru
  refine PySem.call_list_str (I.ok.hd hc) z t (fun h' tk acc c hk hS ha => ?_) hz
  have hl : (z.cps.toList.map fun c => V.str ⟨#[c]⟩).length = acc.toList.length := by
    rw [List.length_map, Array.length_toList, Array.length_toList, ha.1]
  refine ⟨.ref s.heap.objs.size, _, I.laid (t' := tk) (o := .lst (z.cps.toList.map fun c => V.str ⟨#[c]⟩)) hk (Nat.le_refl _) ⟨by rw [List.length_map, Array.length_toList]; exact hz, acc.toList, c, ?_, by rw [Array.toArray_toList]; exact hS⟩, rfl, q _ (I.hok.fresh (Nat.le_refl _))⟩
  refine vals_of_at hl fun j x w h1 h2 => ?_
  have := ha.2 j w (by rw [← Array.getElem?_toList]; exact h2)
  obtain ⟨d, u', hd, rfl⟩ := this
  rw [List.getElem?_map, Array.getElem?_toList, hd] at h1
  have e : V.str ⟨#[d]⟩ = x := Option.some.inj h1
  rw [← e]
  exact ⟨u', rfl⟩
end
end Rg
/-! own rules: int(text) up to 4300 figures, where no other limit is set -/
namespace Rg
open PySem PySem.Spec PyProof.Rows L2
open PySem.W
theorem text_long {M : Model} {A : Around} {E : Value → Shared → Prop} {s : Shared} {Q : Value → Shared → Prop} {v : Value} {text : List Nat} {n : Int}
    (hs : ¬ (text.takeWhile (· != 0)).length ≤ 640) (hd : ∀ Q' : Option Value → Shared → Prop, Q' none s → wpAny M A (nsGet cStatics "sys.int_max_str_digits") Q' E s)
    (hr : (int_private% "readNumeral") 4300 10 (text.takeWhile (· != 0)) = (int_private% "Numeral.value") n)
    (ha : ((text.takeWhile (· != 0)).length == text.length) = true) (h : Q (.int n s.toks) { s with toks := s.toks + 1 }) :
    wpAny M A ((int_private% "intFromText") v text 10) Q E s := by
  obtain ⟨hp, g, d, tk, os⟩ := s
  have hm : ∀ Q' : Nat → Shared → Prop, Q' 4300 ⟨hp, g, d, tk, os⟩ → wpAny M A Builtin.intMaxStrDigits Q' E ⟨hp, g, d, tk, os⟩ := fun Q' q => by
    unfold Builtin.intMaxStrDigits
    refine wpAny_bind (hd _ ?_)
    exact wpAny_pure q
  wp_step
  wp_step
  refine wpAny_bind (hm _ ?_)
  dsimp only
  all_goals (try rw [hr])
  all_goals (try dsimp only)
  repeat (any_goals (first
    | assumption
    | (with_reducible refine wpAny_ite_true (decide_eq_true ha) ?_)
    | wp_step))
theorem int_long {x : PySem.Str} {u : Tok} {n : Int} (hl : x.length ≤ sizeLine) (h640 : ¬ (numSeenOf x).length ≤ 640) (hn : PySem.intText? x = some n) :
    Meets (Builtin.«int.__new__» ⟨[.type "int", .str x u], []⟩) (fun _ R s => (∀ (M : Model) (A : Around) (E : Value → Shared → Prop) (Q' : Option Value → Shared → Prop), Q' none s → wpAny M A (nsGet cStatics "sys.int_max_str_digits") Q' E s) ∧ R (.ok (.ret (.int n s.toks))) { s with toks := s.toks + 1 }) :=
  .of_wp fun prog w A R s h => by
    obtain ⟨hd, h⟩ := h
    obtain ⟨hp, g, d, tk, os⟩ := s
    have f1 := F.conv_sub_int
    have f2 := F.madeHere_int
    have f3 := KIN.str_int
    have f4 := KIN.str_idx
    have f5 := KIN.str_trunc
    have f6 : typeOf (.str x u) = pure (.type "str") := rfl
    have hr : (int_private% "readNumeral") 4300 10 (numSeenOf x) = (int_private% "Numeral.value") n ∧ ((numSeenOf x).length == (numTextOf x).length) = true := by
      rcases readAny x hl with ⟨m, h1, h2, h3⟩ | ⟨h1, _⟩
      · rw [hn] at h1
        injection h1 with h1
        subst h1
        rw [show numLimitOf x = 4300 from if_neg h640] at h3
        exact ⟨h3, h2⟩
      · rw [hn] at h1
        cases h1
    have hk := KIN.Hid.mk (And.intro h640 hr)
    have hdd := KIN.Hid.mk hd
    clear h640 hr hl hn hd
    repeat (any_goals (first
      | assumption
      | ((with_reducible show wpAny _ _ ((int_private% "intFromText") _ _ _) _ _ _); refine text_long hk.out.1 (fun Q' q => hdd.out _ _ _ Q' q) hk.out.2.1 hk.out.2.2 ?_)
      | wp_step))
    all_goals first | exact ⟨_, rfl, h⟩ | skip
section
variable {X : Cx}
theorem cr_intLong (dig : PySem.W.nsIn X.K cStatics "sys.int_max_str_digits" = some none) : CallR X (.type "int") (fun xs H Q => ∃ a n, xs = [.str a] ∧ PySem.intText? a = some n ∧ a.length ≤ sizeLine ∧ ¬ (numSeenOf a).length ≤ 640 ∧ Q (.int n) H) := by
  intro pins s σ H xs us Q I r h
  obtain ⟨a, n, rfl, h1, h2, h3, q⟩ := h
  obtain ⟨u, rfl, ru⟩ := vals1 r
  obtain ⟨t, rfl⟩ := ru
  refine PySem.call_int_1 (int_long h2 h3 h1) ⟨fun M A E Q' q' => (PySem.W.looks_nsIn I.kIn dig).here q', ?_⟩
  exact ⟨typeIs_int _ _ _, .int n, H, I.tok _, ⟨_, rfl⟩, q⟩
end
end Rg
/-! own rules: sorted(d) of a dict whose keys are pairs of ints -/
namespace Rg
open PySem PySem.Spec PyProof.Rows L2
/-- the pair that a value stands for -/
def pairAt (H : Hp) : Value → Int × Int
  | .ref a => match H a with
    | some (.tup [.int i, .int j]) => (i, j)
    | _ => (0, 0)
  | _ => (0, 0)
theorem pairAt_of {H : Hp} {a : Addr} {i j : Int} (h : H a = some (.tup [.int i, .int j])) : pairAt H (.ref a) = (i, j) := by
  show (match H a with
    | some (.tup [.int i, .int j]) => (i, j)
    | _ => (0, 0)) = _
  rw [h]
def LexLe (p q : Int × Int) : Prop := p.1 < q.1 ∨ (p.1 = q.1 ∧ p.2 ≤ q.2)
def keyP (k : Int × Int) : List Key := [.inl k.1, .inl k.2]
def rSortedDT : List V → Hp → VK → Prop := fun vs H Q => ∃ (d : Addr) (kvs : List (List Key × V)) (ks : List (Int × Int)), vs = [.ref d] ∧ H d = some (.dT kvs) ∧ kvs.map (·.1) = ks.map keyP ∧
  ∀ (L : List (Addr × (Int × Int))) (q : Addr), (∀ e ∈ L, H e.1 = some (.tup [.int e.2.1, .int e.2.2])) → (L.map (·.2)).Perm ks → (L.map (·.2)).Pairwise LexLe → H q = none → Q (.ref q) (upd H q (.lst (L.map fun e => V.ref e.1)))
section
variable {X : Cx}
theorem cr_sortedDT (hc : X.calm = true) : CallR X (.builtin "sorted") rSortedDT := by
  intro pins s σ H xs us Q I r h
  obtain ⟨d, kvs, ks, rfl, hd, hk, q⟩ := h
  obtain ⟨u, rfl, rx⟩ := vals1 r
  cases rx
  obtain ⟨z, lo, xs', rel, o, es, ep, ho, hx, hdat, hes, _⟩ := dt_of I.hok hd
  have l1 : es.size = xs'.length := size_of_entries hes
  have l2 : kvs.length = xs'.length := Paired.length rel
  have hh : X.A.handled = none := I.ok.hd hc
  have ik := isKeys_of rel
  have lk : kvs.length = ks.length := by
    have := congrArg List.length hk
    simpa using this
  -- each key's tuple
  have at_ : ∀ (j : Nat) (x : List Key × Addr × Value), xs'[j]? = some x → ∃ k, ks[j]? = some k ∧ H x.2.1 = some (.tup [.int k.1, .int k.2]) := by
    intro j x hj
    obtain ⟨p, hp, e1, e2, _⟩ := DX.pget rel hj
    have h1 : (kvs.map (·.1))[j]? = some p.1 := by rw [List.getElem?_map, hp]; rfl
    rw [hk, List.getElem?_map] at h1
    cases hkj : ks[j]? with
    | none => rw [hkj] at h1; cases h1
    | some k =>
      rw [hkj] at h1
      have e3 : keyP k = p.1 := Option.some.inj h1
      refine ⟨k, rfl, ?_⟩
      rw [e2, ← e3]
      rfl
  refine Calls.call_function_entry PyProof.Rows.kind_sorted PyProof.Rows.plain_sorted PyProof.Rows.entry_sorted (PyProof.Rows.args_sorted1 _) ?_
  unfold Builtin.«sorted»
  refine wpAny_bind (m := checkCount "sorted" 1 1 _) (wpAny_pure ?_)
  refine wpAny_bind (PySem.W.kdu_collect (A := X.A.in1) (kdl_raw lo hx hdat) hh ho (by omega) fun h' tk acc hkp hacc => ?_)
  have ea : acc.toList = xs'.map fun x => Value.ref x.2.1 := by
    apply List.ext_getElem?
    intro j
    rw [List.getElem?_map]
    cases hj : acc.toList[j]? with
    | none =>
      have h1 := List.getElem?_eq_none_iff.mp hj
      rw [Array.length_toList, hacc.1] at h1
      rw [List.getElem?_eq_none (by omega)]
      rfl
    | some v =>
      obtain ⟨en, hen, hv⟩ := hacc.2 j v (by rw [← Array.getElem?_toList]; exact hj)
      have qe := entry_at hes j
      rw [hen] at qe
      cases hb : xs'[j]? with
      | none =>
        rw [hb] at qe
        exact nomatch (show some en = none from qe)
      | some b =>
        rw [hb] at qe
        have e2 : en = entryOfKey (tupleKind (mixKind X.prog X.w)) b := Option.some.inj qe
        rw [hv, e2]
        rfl
  have hal : acc.toList.length = xs'.length := by rw [ea, List.length_map]
  have I1 : Inv X pins σ H { s with heap := h', toks := tk } := I.kept hkp
  refine wpAny_bind (wpAny_newList ?_ (by rw [hal]; omega))
  have hoL : (h'.push (seqObj "list" acc.toList.toArray 0)).get? h'.objs.size = some (seqObj "list" acc.toList.toArray 0) := Heap.get?_push_size _ rfl
  show wpAny _ _ _ _ _ { s with heap := h'.push (seqObj "list" acc.toList.toArray 0), toks := tk }
  have mem_ : ∀ v ∈ acc.toList, ∃ (j : Nat) (x : List Key × Addr × Value) (k : Int × Int), xs'[j]? = some x ∧ ks[j]? = some k ∧ v = .ref x.2.1 ∧ H x.2.1 = some (.tup [.int k.1, .int k.2]) := fun v hv => by
    rw [ea] at hv
    obtain ⟨x, hxm, rfl⟩ := List.mem_map.mp hv
    obtain ⟨j, hj⟩ := List.mem_iff_getElem?.mp hxm
    obtain ⟨k, h1, h2⟩ := at_ j x hj
    exact ⟨j, x, k, hj, h1, rfl, h2⟩
  have pr : ∀ v ∈ acc.toList, Srt.IsPair (h'.push (seqObj "list" acc.toList.toArray 0)) v (pairAt H v).1 (pairAt H v).2 := fun v hv => by
    obtain ⟨j, x, k, _, _, rfl, hH⟩ := mem_ v hv
    rw [pairAt_of hH]
    obtain ⟨_, its2, r2, ob, hob, hc2, n, hd2⟩ := I1.hok _ _ hH
    obtain ⟨u1, u2, rfl, ri, rj⟩ := vals2 r2
    obtain ⟨t1, rfl⟩ := ri
    obtain ⟨t2, rfl⟩ := rj
    exact ⟨_, ob, t1, t2, n, rfl, Heap.get?_push_of_some _ hob, hc2, hd2⟩
  refine wpAny_bind (wpAny_holding (wpAny_call_entry PyProof.Rows.slot_list_sort ⟨_, hoL, rfl⟩ PyProof.Rows.entry_list_sort
    (SrtO.list_sort_ord (s := { s with heap := h'.push (seqObj "list" acc.toList.toArray 0), toks := tk }) (SrtO.swo_lex (pairAt H)) hoL (by rw [hal]; omega)
      (fun h2 => SrtO.pairs_sortableO (by omega) pr fun ob e c => ?_) fun out hs hb => ⟨_, rfl, ?_⟩) (PyProof.Rows.args_list_sort _)))
  · have e' : some ob = some (seqObj "list" acc.toList.toArray 0) := e.symm.trans hoL
    cases e'
    exact absurd (Value.type.inj c) (by decide)
  obtain ⟨e', he'⟩ := PyProof.Rows.sortedHeap_at (vs := acc.toList) (out := out.toArray) hoL
  have hol : out.length = xs'.length := by rw [hb.perm.length_eq, hal]
  have hout : ∀ v ∈ out, ∃ a, v = .ref a ∧ H a = some (.tup [.int (pairAt H v).1, .int (pairAt H v).2]) := fun v hv => by
    obtain ⟨j, x, k, _, _, rfl, hH⟩ := mem_ v (hb.perm.mem_iff.mp hv)
    exact ⟨_, rfl, by rw [pairAt_of hH]; exact hH⟩
  have aof : ∀ v ∈ out, V.ref (match v with | .ref a => a | _ => 0) = backV v ∧ RelV (backV v) v := fun v hv => by
    obtain ⟨a, rfl, _⟩ := hout v hv
    exact ⟨rfl, rfl⟩
  have hlen : ((out.map fun v => ((match v with | .ref a => a | _ => 0 : Addr), pairAt H v)).map fun e => V.ref e.1).length ≤ sizeLine := by
    rw [List.length_map, List.length_map, hol]; omega
  have rv : Vals ((out.map fun v => ((match v with | .ref a => a | _ => 0 : Addr), pairAt H v)).map fun e => V.ref e.1) out := by
    rw [List.map_map]
    refine vals_of_at (by rw [List.length_map]) fun j x w h1 h2 => ?_
    rw [List.getElem?_map, h2] at h1
    obtain ⟨a, rfl, _⟩ := hout w (List.mem_of_getElem? h2)
    have e : V.ref a = x := Option.some.inj h1
    rw [← e]
    rfl
  refine wpAny_pure ⟨_, rfl, .ref h'.objs.size, _, I1.laid (t' := tk) (o := .lst ((out.map fun v => ((match v with | .ref a => a | _ => 0 : Addr), pairAt H v)).map fun e => V.ref e.1)) (fun b u e => ?_) (Nat.le_refl _)
    ⟨hlen, out, e', rv, he'⟩, rfl, q _ _ (fun e he => ?_) ?_ ?_ (I1.hok.fresh (Nat.le_refl _))⟩
  · have hb2 : b < h'.objs.size := Heap.lt_size e
    rw [PyProof.Rows.sortedHeap_old (Nat.ne_of_lt hb2) (by rw [size_push']; exact Nat.lt_succ_of_lt hb2)]
    exact Heap.get?_push_of_some _ e
  · obtain ⟨v, hv, rfl⟩ := List.mem_map.mp he
    obtain ⟨a, rfl, hH⟩ := hout v hv
    exact hH
  · rw [List.map_map]
    have e1 : (out.map ((fun e : Addr × (Int × Int) => e.2) ∘ fun v => ((match v with | .ref a => a | _ => 0 : Addr), pairAt H v))) = out.map (pairAt H) := rfl
    rw [e1]
    have e2 := hb.perm.map (pairAt H)
    have e3 : acc.toList.map (pairAt H) = ks := by
      rw [ea, List.map_map]
      apply List.ext_getElem?
      intro j
      rw [List.getElem?_map]
      cases hj : xs'[j]? with
      | none =>
        have h1 := List.getElem?_eq_none_iff.mp hj
        rw [List.getElem?_eq_none (by omega)]
        rfl
      | some x =>
        obtain ⟨k, h1, h2⟩ := at_ j x hj
        rw [h1]
        show some (pairAt H (.ref x.2.1)) = some k
        rw [pairAt_of h2]
    rw [e3] at e2
    exact e2
  · rw [List.map_map, List.pairwise_map]
    refine List.Pairwise.imp (fun {x y} hxy => ?_) hs
    have := SrtO.lexB_no.mp hxy
    show LexLe (pairAt H x) (pairAt H y)
    unfold LexLe
    omega
end
end Rg
/-! own rules: list(zip(xs, ys)) of two lists of one length -/
namespace Rg
open PySem PySem.W PySem.Calls PySem.Spec PyProof.Rows PyProof.V
theorem zip_len_none : typeLookup (.type "zip") "__len__" = pure none := by rw [typeLookup_type, builtinLookup_eq_fast]; kernel_rfl
theorem zip_hint_none : typeLookup (.type "zip") "__length_hint__" = pure none := by rw [typeLookup_type, builtinLookup_eq_fast]; kernel_rfl
section
variable {prog : Program} {w : World} {A : Around} {E : Value → Shared → Prop} {s : Shared}
theorem zip_hint {z : Addr} (hT : s.TypeIs (.ref z) "zip") {Q : Bool → Shared → Prop} (h : Q true s) : wpAny (model prog w) A (Builtin.List.listLengthHint (.ref z)) Q E s := by
  unfold Builtin.List.listLengthHint
  refine wpAny_bind (wpAny_specialOf hT zip_len_none ?_)
  have hh : ∀ Q' : Option Value → Shared → Prop, Q' none s → wpAny (model prog w) A (specialOf (.ref z) "__length_hint__") Q' E s := fun Q' q => wpAny_specialOf hT zip_hint_none q
  repeat (any_goals (first | assumption | exact h | (refine hh _ ?_) | wp_step))
/-- the zip at a turn -/
structure ZSt (h : Heap) (z TI TO i1 i2 l1 l2 S : Addr) (xs ys : Array Value) (i : Nat) : Prop where
  pr : IsPair h TI (.ref i1) (.ref i2)
  a1 : h.IsListIter i1 l1 i
  a2 : h.IsListIter i2 l2 i
  b1 : h.IsList l1 xs
  b2 : h.IsList l2 ys
  st : (IsZip h z TI TO .none ∧ ∃ a b, IsPair h TO a b) ∨ ∃ T f oT, IsZipHeld h z TI TO T f ∧ h.get? T = some oT ∧ T ≠ z ∧ T ≠ i1 ∧ T ≠ i2 ∧ T ≠ S
/-- what lies apart from the list that grows -/
structure ZOff (z TI TO i1 i2 l1 l2 S : Addr) : Prop where
  z : z ≠ S
  TI : TI ≠ S
  TO : TO ≠ S
  i1 : i1 ≠ S
  i2 : i2 ≠ S
  l1 : l1 ≠ S
  l2 : l2 ≠ S
theorem ZSt.keep {h h' : Heap} {z TI TO i1 i2 l1 l2 S : Addr} {xs ys : Array Value} {i : Nat} (x : ZSt h z TI TO i1 i2 l1 l2 S xs ys i) (O : ZOff z TI TO i1 i2 l1 l2 S) (hk : ∀ b o, b ≠ S → h.get? b = some o → h'.get? b = some o) : ZSt h' z TI TO i1 i2 l1 l2 S xs ys i := by
  refine ⟨hk _ _ O.TI x.pr, x.a1.at fun o e => hk _ o O.i1 e, x.a2.at fun o e => hk _ o O.i2 e, x.b1.at fun o e => hk _ o O.l1 e, x.b2.at fun o e => hk _ o O.l2 e, ?_⟩
  rcases x.st with ⟨hz, a, b, hTO⟩ | ⟨T, f, oT, hz, hT, r1, r2, r3, r4⟩
  · exact .inl ⟨hk _ _ O.z hz, a, b, hk _ _ O.TO hTO⟩
  · exact .inr ⟨T, f, oT, hk _ _ O.z hz, hk _ _ r4 hT, r1, r2, r3, r4⟩
theorem zst_item {z TI TO i1 i2 l1 l2 S : Addr} {xs ys : Array Value} {i : Nat} {x y : Value} {Q : Option Value → Shared → Prop} (D : ZipApart z TI TO i1 i2 l1 l2) (st : ZSt s.heap z TI TO i1 i2 l1 l2 S xs ys i) (hS : S < s.heap.objs.size) (ex : xs[i]? = some x) (ey : ys[i]? = some y)
    (hQ : ∀ h', ZSt h' z TI TO i1 i2 l1 l2 S xs ys (i + 1) → h'.get? s.heap.objs.size = some { cls := .type "tuple", data := .seq #[x, y] } → h'.objs.size = s.heap.objs.size + 1 →
      (∀ c o, c ≠ z → c ≠ TO → c ≠ i1 → c ≠ i2 → s.heap.get? c = some o → h'.get? c = some o) → Q (some (.ref s.heap.objs.size)) { s with heap := h' }) : wpAny (model prog w) A (pyNext (.ref z)) Q E s := by
  obtain ⟨hTI, h1, h2, hl1, hl2, hz⟩ := st
  have lt : ∀ {c o}, s.heap.get? c = some o → s.heap.objs.size ≠ c := fun e => Nat.ne_of_gt (Heap.lt_size e)
  have n1 : s.heap.objs.size ≠ i1 := let ⟨_, e, _⟩ := h1; lt e
  have n2 : s.heap.objs.size ≠ i2 := let ⟨_, e, _⟩ := h2; lt e
  rcases hz with ⟨hz, a, b, hTO⟩ | ⟨T, f, oT, hz, hT, r1, r2, r3, r4⟩
  · refine wpAny_pyNext_zip_item D hz hTI hTO h1 h2 hl1 hl2 ex ey fun h' a1 a2 a3 a4 a5 a6 hk => ?_
    refine hQ h' ⟨hk _ _ D.TIz D.TITO D.TIi1 D.TIi2 hTI, a3, a4, hl1.at fun o e => hk _ o D.l1z D.l1TO D.l1i1 D.l1i2 e, hl2.at fun o e => hk _ o D.l2z D.l2TO D.l2i1 D.l2i2 e, .inr ⟨s.heap.objs.size, false, _, a1, a5, lt hz, n1, n2, Nat.ne_of_gt hS⟩⟩ a5 a6 hk
  · refine wpAny_pyNext_zip_item_held D hz hT hTI h1 h2 hl1 hl2 ex ey fun h' a1 a3 a4 a5 a6 hk => ?_
    exact hQ h' ⟨hk _ _ D.TIz D.TIi1 D.TIi2 hTI, a3, a4, hl1.at fun o e => hk _ o D.l1z D.l1i1 D.l1i2 e, hl2.at fun o e => hk _ o D.l2z D.l2i1 D.l2i2 e, .inr ⟨T, true, oT, a1, hk _ _ r1 r2 r3 hT, r1, r2, r3, r4⟩⟩ a5 a6 fun c o c1 _ c3 c4 e => hk c o c1 c3 c4 e
theorem zst_end {z TI TO i1 i2 l1 l2 S : Addr} {xs ys : Array Value} {i : Nat} {Q : Option Value → Shared → Prop} (hh : A.handled = none) (D : ZipApart z TI TO i1 i2 l1 l2) (st : ZSt s.heap z TI TO i1 i2 l1 l2 S xs ys i) (hend : xs[i]? = none ∨ ys[i]? = none)
    (hQ : ∀ h', (∀ c o, c ≠ z → c ≠ TO → c ≠ i1 → c ≠ i2 → s.heap.get? c = some o → h'.get? c = some o) → Q none { s with heap := h' }) : wpAny (model prog w) A (pyNext (.ref z)) Q E s := by
  obtain ⟨hTI, h1, h2, hl1, hl2, hz⟩ := st
  rcases hz with ⟨hz, a, b, hTO⟩ | ⟨T, f, oT, hz, hT, r1, r2, r3, r4⟩
  · exact wpAny_pyNext_zip_end hh D hz hTI hTO h1 h2 hl1 hl2 hend hQ
  · exact wpAny_pyNext_zip_end_held hh D hz hT hTI h1 h2 hl1 hl2 hend fun h' hk => hQ h' fun c o c1 _ c3 c4 e => hk c o c1 c3 c4 e
/-- the pairs that are out -/
structure ZOut (xs ys : Array Value) (lo : Addr) (h : Heap) (as : List Addr) : Prop where
  rise : as.Pairwise (· < ·)
  above : ∀ a ∈ as, lo < a
  pairs : ∀ (j : Nat) (a : Addr), as[j]? = some a → ∃ x y, xs[j]? = some x ∧ ys[j]? = some y ∧ h.get? a = some { cls := .type "tuple", data := .seq #[x, y] }
theorem ZOut.there {xs ys : Array Value} {lo : Addr} {h : Heap} {as : List Addr} (g : ZOut xs ys lo h as) {a : Addr} (ha : a ∈ as) : a < h.objs.size := by
  obtain ⟨j, hj⟩ := List.mem_iff_getElem?.mp ha
  obtain ⟨_, _, _, _, e⟩ := g.pairs j a hj
  exact Heap.lt_size e
theorem zip_loop {z TI TO i1 i2 l1 l2 S : Addr} {xs ys : Array Value} {n : Nat} {R : Result → Shared → Prop} (hh : A.handled = none) (D : ZipApart z TI TO i1 i2 l1 l2) (O : ZOff z TI TO i1 i2 l1 l2 S) (hx : xs.size = n) (hy : ys.size = n) (hn : n ≤ sizeLine) (res : Value) {h₁ : Heap} {lo : Addr}
    (hlo : z ≤ lo ∧ TO ≤ lo ∧ i1 ≤ lo ∧ i2 ≤ lo ∧ S ≤ lo)
    (hR : ∀ h' tk acc c as, (∀ b o, b ≠ S → b ≠ z → b ≠ TO → b ≠ i1 → b ≠ i2 → h₁.get? b = some o → h'.get? b = some o) → h'.get? S = some { cls := .type "list", dict := none, data := .seq acc c, slots := #[] } → as.length = n → ZOut xs ys lo h' as →
      acc.toList = as.map Value.ref → R (.ok (.ret res)) { s with heap := h', toks := tk }) :
    ∀ (k i : Nat) (h : Heap) (tk c : Nat) (acc : Array Value) (as : List Addr), n - i = k → i ≤ n → ZSt h z TI TO i1 i2 l1 l2 S xs ys i → (∀ b o, b ≠ S → b ≠ z → b ≠ TO → b ≠ i1 → b ≠ i2 → h₁.get? b = some o → h.get? b = some o) →
      h.get? S = some { cls := .type "list", dict := none, data := .seq acc c, slots := #[] } → acc.toList = as.map Value.ref → as.length = i → ZOut xs ys lo h as → lo < h.objs.size →
      codeAny (model prog w) A (.builtin "list.extend.loop" ⟨[.ref S, .ref z, res], []⟩) R { s with heap := h, toks := tk } := by
  obtain ⟨o1, o2, o3, o4, o5⟩ := hlo
  intro k
  induction k with
  | zero =>
    intro i h tk c acc as hk hi hst hkeep hS hacc hal hG hIs
    refine codeAny_builtin PySem.F.entry_extend_loop ?_
    rw [Around.under_plainId PySem.F.plain_extend_loop _]
    show wpAny _ A.in1 (pyNext (.ref z) >>= _) _ _ _
    refine wpAny_bind (zst_end (s := { s with heap := h, toks := tk }) (A := A.in1) hh D hst (.inl (Array.getElem?_eq_none (by omega))) fun h' he => ?_)
    refine wpAny_pure (hR h' tk acc c as (fun b o h1 h2 h3 h4 h5 e => he b o h2 h3 h4 h5 (hkeep b o h1 h2 h3 h4 h5 e)) (he S _ O.z.symm O.TO.symm O.i1.symm O.i2.symm hS) (by omega) ⟨hG.rise, hG.above, fun j a hj => ?_⟩ hacc)
    obtain ⟨x, y, e1, e2, e3⟩ := hG.pairs j a hj
    have := hG.above a (List.mem_of_getElem? hj)
    exact ⟨x, y, e1, e2, he a _ (Nat.ne_of_gt (Nat.lt_of_le_of_lt o1 this)) (Nat.ne_of_gt (Nat.lt_of_le_of_lt o2 this)) (Nat.ne_of_gt (Nat.lt_of_le_of_lt o3 this)) (Nat.ne_of_gt (Nat.lt_of_le_of_lt o4 this)) e3⟩
  | succ k ih =>
    intro i h tk c acc as hk hi hst hkeep hS hacc hal hG hIs
    have hlt : i < n := by omega
    have ex : xs[i]? = some (xs[i]'(by omega)) := Array.getElem?_eq_getElem (by omega)
    have ey : ys[i]? = some (ys[i]'(by omega)) := Array.getElem?_eq_getElem (by omega)
    generalize xs[i]'(by omega) = x at ex
    generalize ys[i]'(by omega) = y at ey
    have hsz : acc.size = i := by rw [← Array.length_toList, hacc, List.length_map, hal]
    refine codeAny_builtin PySem.F.entry_extend_loop ?_
    rw [Around.under_plainId PySem.F.plain_extend_loop _]
    show wpAny _ A.in1 (pyNext (.ref z) >>= _) _ _ _
    refine wpAny_bind (zst_item (s := { s with heap := h, toks := tk }) (S := S) D hst (Heap.lt_size hS) ex ey fun h' hst' ht hz hkp => ?_)
    dsimp only at ht hz hkp ⊢
    have hS' := hkp S _ O.z.symm O.TO.symm O.i1.symm O.i2.symm hS
    have up : ∀ b o, b ≠ S → h'.get? b = some o → (h'.update S (Obj.mapSeq (·.push (Value.ref h.objs.size)))).get? b = some o := fun b o hb e => (Heap.get?_update_other _ _ (Ne.symm hb)).trans e
    have hSl : S < h.objs.size := Heap.lt_size hS
    show wpAny _ A.in1 (updateSeq S (·.push (Value.ref h.objs.size)) >>= _) _ _ _
    refine wpAny_bind ?_
    refine wpAny_updateSeq hS' rfl (wpAny_pure ⟨plainId_quiet PySem.F.plain_extend_loop _, ih (i + 1) _ tk _ (acc.push (Value.ref h.objs.size)) (as ++ [h.objs.size]) (by omega) hlt (hst'.keep O up)
      (fun b o h1 h2 h3 h4 h5 e => up b o h1 (hkp b o h2 h3 h4 h5 (hkeep b o h1 h2 h3 h4 h5 e))) (Heap.get?_update_self _ hS' rfl) (by rw [Array.toList_push, hacc, List.map_append]; rfl) (by rw [List.length_append, hal]; rfl) ⟨?_, ?_, ?_⟩ ?_⟩) (by rw [hsz]; omega) (by show (acc.push (Value.ref h.objs.size)).size ≤ sizeLine + 1; rw [Array.size_push, hsz]; omega)
    · refine List.pairwise_append.mpr ⟨hG.rise, List.pairwise_singleton _ _, fun a ha b hb => ?_⟩
      rw [List.mem_singleton.mp hb]
      exact hG.there ha
    · intro a ha
      rcases List.mem_append.mp ha with ha | ha
      · exact hG.above a ha
      · rw [List.mem_singleton.mp ha]; exact hIs
    · intro j b hj
      rcases Nat.lt_trichotomy j as.length with h1 | h1 | h1
      · rw [List.getElem?_append_left h1] at hj
        obtain ⟨x', y', e1, e2, e3⟩ := hG.pairs j b hj
        have hb := hG.above b (List.mem_of_getElem? hj)
        exact ⟨x', y', e1, e2, up b _ (Nat.ne_of_gt (Nat.lt_of_le_of_lt o5 hb)) (hkp b _ (Nat.ne_of_gt (Nat.lt_of_le_of_lt o1 hb)) (Nat.ne_of_gt (Nat.lt_of_le_of_lt o2 hb)) (Nat.ne_of_gt (Nat.lt_of_le_of_lt o3 hb)) (Nat.ne_of_gt (Nat.lt_of_le_of_lt o4 hb)) e3)⟩
      · subst h1
        have hb : h.objs.size = b := by simpa using hj
        subst hb
        exact ⟨x, y, by rw [hal]; exact ex, by rw [hal]; exact ey, up _ _ (Nat.ne_of_gt hSl) ht⟩
      · have hnone : (as ++ [h.objs.size])[j]? = none := List.getElem?_eq_none (by rw [List.length_append, List.length_singleton]; omega)
        rw [hnone] at hj; cases hj
    · have e : (h'.update S (Obj.mapSeq (·.push (Value.ref h.objs.size)))).get? h.objs.size = _ := up _ _ (Nat.ne_of_gt hSl) ht
      exact Nat.lt_trans hIs (Heap.lt_size e)
end
section
variable {prog : Program} {w : World} {A : Around} {E : Value → Shared → Prop} {s : Shared} {z TI TO i1 i2 l1 l2 S : Addr} {xs ys : Array Value} {n : Nat}
theorem zip_extend {R : Result → Shared → Prop} (hh : A.handled = none) (D : ZipApart z TI TO i1 i2 l1 l2) (O : ZOff z TI TO i1 i2 l1 l2 S) (hx : xs.size = n) (hy : ys.size = n) (hn : n ≤ sizeLine) {lo : Addr} (hlo : z ≤ lo ∧ TO ≤ lo ∧ i1 ≤ lo ∧ i2 ≤ lo ∧ S ≤ lo) (hls : lo < s.heap.objs.size)
    (hst : ZSt s.heap z TI TO i1 i2 l1 l2 S xs ys 0) (hz : IsZip s.heap z TI TO .none) (res : Value) (c₀ : Nat) (hS : s.heap.get? S = some { cls := .type "list", data := .seq #[] c₀ })
    (hR : ∀ h' tk acc c as, (∀ b o, b ≠ S → b ≠ z → b ≠ TO → b ≠ i1 → b ≠ i2 → s.heap.get? b = some o → h'.get? b = some o) → h'.get? S = some { cls := .type "list", dict := none, data := .seq acc c, slots := #[] } → as.length = n → ZOut xs ys lo h' as →
      acc.toList = as.map Value.ref → R (.ok (.ret res)) { s with heap := h', toks := tk }) :
    wpAny (model prog w) A.in1 (Builtin.List.listExtendWith (.ref S) (.ref z) res)
      (fun fin s' => match fin with | .done f => R (.ok f) s' | .again c' => c'.quiet = true ∧ codeAny (model prog w) A c' R s') (fun e s' => R (.error e) s') s := by
  have hT : s.TypeIs (.ref z) "zip" := ⟨_, hz, rfl⟩
  have key : ∀ (h : Heap) (c₁ tk : Nat), (∀ b o, b ≠ S → s.heap.get? b = some o → h.get? b = some o) → h.objs.size = s.heap.objs.size →
      h.get? S = some { cls := .type "list", data := .seq #[] c₁ } → codeAny (model prog w) A (.builtin "list.extend.loop" ⟨[.ref S, .ref z, res], []⟩) R { s with heap := h, toks := tk } := by
    intro h c₁ tk hk hsz hS₁
    refine zip_loop (s := s) (h₁ := s.heap) (lo := lo) hh D O hx hy hn res hlo (fun h' tk' acc c as hk' hS' hl hG hacc => hR h' tk' acc c as hk' hS' hl hG hacc)
      n 0 h tk c₁ #[] [] (Nat.sub_zero _) (Nat.zero_le _) (hst.keep O hk) (fun b o hb _ _ _ _ e => hk b o hb e) hS₁ rfl rfl
      ⟨List.Pairwise.nil, (fun _ ha => nomatch ha), (fun j a hj => by simp at hj)⟩ (by rw [hsz]; exact hls)
  unfold Builtin.List.listExtendWith
  refine wpAny_bind (wpAny_typeOf (T := "zip") hT ?_)
  have g1 : Builtin.List.listSameRef (.ref S) (.ref z) = false := by simp [Builtin.List.listSameRef, Ne.symm O.z]
  have g2 : (Value.type "zip" == Value.type "list") = false := by decide
  have g3 : (Value.type "zip" == Value.type "tuple") = false := by decide
  simp only [g1, g2, g3, Bool.or_false, Bool.false_eq_true, if_false]
  refine wpAny_bind (wpAny_pyIter_zip hz ?_)
  refine wpAny_bind (wpAny_holding (zip_hint hT ?_))
  refine wpAny_ite_split (fun _ => ?_) (fun _ => wpAny_pure ⟨plainId_quiet PySem.F.plain_extend_loop _, key _ c₀ _ (fun b o _ e => e) rfl hS⟩)
  refine wpAny_bind (wpAny_rule ?_)
  refine wpAny_bind ?_
  show wpAny _ _ (updateSeq S (·.push .none) >>= fun _ => updateSeq S (·.pop)) _ _ _
  refine wpAny_bind (wpAny_updateSeq hS rfl ?_)
  have hS₂ := Heap.get?_update_self (Obj.mapSeq (·.push Value.none)) hS rfl
  refine wpAny_updateSeq (hz := by seq_fits) hS₂ rfl ?_
  have hS₃ := Heap.get?_update_self (Obj.mapSeq (·.pop)) hS₂ rfl
  refine wpAny_pure ⟨plainId_quiet PySem.F.plain_extend_loop _, key _ _ _ (fun b o hb e => ?_) ?_ hS₃⟩
  · exact (Heap.get?_update_other _ _ (Ne.symm hb)).trans ((Heap.get?_update_other _ _ (Ne.symm hb)).trans e)
  · rw [Heap.size_update, Heap.size_update]
theorem zip_list {Q : Value → Shared → Prop} (hh : A.handled = none) (D : ZipApart z TI TO i1 i2 l1 l2) (hx : xs.size = n) (hy : ys.size = n) (hn : n ≤ sizeLine)
    (hz : IsZip s.heap z TI TO .none) (hTI : IsPair s.heap TI (.ref i1) (.ref i2)) (hTO : ∃ a b, IsPair s.heap TO a b) (h1 : s.heap.IsListIter i1 l1 0) (h2 : s.heap.IsListIter i2 l2 0) (hl1 : s.heap.IsList l1 xs) (hl2 : s.heap.IsList l2 ys)
    (hQ : ∀ h' tk acc c as, (∀ b o, b ≠ z → b ≠ TO → b ≠ i1 → b ≠ i2 → s.heap.get? b = some o → h'.get? b = some o) → h'.get? s.heap.objs.size = some { cls := .type "list", dict := none, data := .seq acc c, slots := #[] } → as.length = n → ZOut xs ys s.heap.objs.size h' as →
      acc.toList = as.map Value.ref → Q (.ref s.heap.objs.size) { s with heap := h', toks := tk }) :
    wpAny (model prog w) A (call (.type "list") [.ref z]) Q E s := by
  have ltz : ∀ {b o}, s.heap.get? b = some o → b < s.heap.objs.size := fun e => Heap.lt_size e
  obtain ⟨a0, b0, hTO⟩ := hTO
  have q1 := ltz hz
  have q2 := ltz hTI
  have q3 := ltz hTO
  obtain ⟨oi1, ei1, ri1⟩ := id h1
  obtain ⟨oi2, ei2, ri2⟩ := id h2
  obtain ⟨ol1, el1, rl1⟩ := id hl1
  obtain ⟨ol2, el2, rl2⟩ := id hl2
  have q4 := ltz ei1
  have q5 := ltz ei2
  have q6 := ltz el1
  have q7 := ltz el2
  have O : ZOff z TI TO i1 i2 l1 l2 s.heap.objs.size := ⟨Nat.ne_of_lt q1, Nat.ne_of_lt q2, Nat.ne_of_lt q3, Nat.ne_of_lt q4, Nat.ne_of_lt q5, Nat.ne_of_lt q6, Nat.ne_of_lt q7⟩
  have st0 : ZSt s.heap z TI TO i1 i2 l1 l2 s.heap.objs.size xs ys 0 := ⟨hTI, h1, h2, hl1, hl2, .inl ⟨hz, a0, b0, hTO⟩⟩
  refine callType_codes (Q₁ := fun obj s₁ => obj = .ref s.heap.objs.size ∧ s₁ = { s with heap := s.heap.push { cls := .type "list", data := .seq #[] } }) PySem.F.called_list (PySem.F.typeCall_list_1 _) PySem.F.entry_list_init
    (code_list_new _ ⟨rfl, rfl⟩) fun obj s₁ e₁ => ?_
  obtain ⟨rfl, rfl⟩ := e₁
  have hS : (s.heap.push { cls := .type "list", data := .seq #[] }).get? s.heap.objs.size = some { cls := .type "list", data := .seq #[] } := Heap.get?_push_size _ rfl
  have up : ∀ b o, s.heap.get? b = some o → (s.heap.push { cls := .type "list", data := .seq #[] }).get? b = some o := fun b o e => Heap.get?_push_of_some _ e
  refine ⟨⟨_, hS, rfl⟩, PySem.F.args_list_init_2 _ _, ?_⟩
  show wpAny _ _ (do let old ← Builtin.List.listItems (.ref s.heap.objs.size); Builtin.List.listUpdate (.ref s.heap.objs.size) (fun _ => #[]); letGo old.toList.reverse; Builtin.List.listExtendWith (.ref s.heap.objs.size) (.ref z) .none) _ _ _
  refine wpAny_bind ?_
  unfold Builtin.List.listItems
  refine wpAny_bind (wpAny_seqItems hS rfl (wpAny_pure ?_))
  show wpAny _ _ (updateSeq s.heap.objs.size (fun _ => #[]) >>= fun _ => letGo (#[] : Array Value).toList.reverse >>= fun _ => Builtin.List.listExtendWith (.ref s.heap.objs.size) (.ref z) .none) _ _ _
  refine wpAny_bind (wpAny_updateSeq hS rfl ?_)
  have hS₂ := Heap.get?_update_self (Obj.mapSeq (fun _ => (#[] : Array Value))) hS rfl
  have oth : ∀ b o, b ≠ s.heap.objs.size → s.heap.get? b = some o → ((s.heap.push { cls := .type "list", data := .seq #[] }).update s.heap.objs.size (Obj.mapSeq (fun _ => (#[] : Array Value)))).get? b = some o :=
    fun b o hb e => (Heap.get?_update_other _ _ (Ne.symm hb)).trans (up b o e)
  refine wpAny_bind (wpAny_letGo ?_)
  refine zip_extend (A := A.in1) (lo := s.heap.objs.size) hh D O hx hy hn ⟨Nat.le_of_lt q1, Nat.le_of_lt q3, Nat.le_of_lt q4, Nat.le_of_lt q5, Nat.le_refl _⟩ ?_ (st0.keep O oth) (oth _ _ O.z hz) .none _ hS₂ (fun h' tk acc c as hk hS' hl hG hacc => ?_)
  · show s.heap.objs.size < ((s.heap.push { cls := .type "list", data := .seq #[] }).update s.heap.objs.size _).objs.size
    rw [Heap.size_update, Heap.size_push]
    exact Nat.lt_succ_self _
  · exact ⟨rfl, hQ h' tk acc c as (fun b o n2 n3 n4 n5 e => hk b o (Nat.ne_of_lt (ltz e)) n2 n3 n4 n5 (oth b o (Nat.ne_of_lt (ltz e)) e)) hS' hl hG hacc⟩
end
end Rg
namespace Rg
open PySem PySem.Spec PyProof.Rows L2
def tListZip (K : PySem.W.Frag) (ta tb : TE) : TE := fun σ H Q => ta σ H fun x H1 => tb σ H1 fun y H2 => ∃ a b xs ys, x = .ref a ∧ y = .ref b ∧ SqL K H2 a xs ∧ SqL K H2 b ys ∧ xs.length = ys.length ∧
  ∀ (H' : Hp) (p : Addr) (ts : List Addr), Same H2 H' → H2 p = none → H' p = some (.lst (ts.map V.ref)) → ts.length = xs.length → (∀ (j : Nat) (t : Addr), ts[j]? = some t → ∃ x y, xs[j]? = some x ∧ ys[j]? = some y ∧ H' t = some (.tup [x, y])) → Q (.ref p) H'
section
variable {X : Cx} {e1 e2 : Expr} {ta tb : TE} {p1 p2 pos1 pos2 : Pos}
theorem pe_listZip (hc : X.calm = true) (hg : Gl X "list") (hm : X.mg "list" = none) (hg2 : Gl X "zip") (hm2 : X.mg "zip" = none) (ha : PE X e1 ta) (hb : PE X e2 tb)
    (hs1 : starEach [.Call (.Name "zip" p2) [e1, e2] [] pos2] X.env = (false, eval (.Call (.Name "zip" p2) [e1, e2] [] pos2) X.env) :: starEach [] X.env := by rfl)
    (na : starEach [e1, e2] X.env = (false, eval e1 X.env) :: starEach [e2] X.env := by rfl) (nb : starEach [e2] X.env = (false, eval e2 X.env) :: starEach [] X.env := by rfl) (hp : (backTo pos2 (starEach [e2] X.env)).any (·.1) = false := by rfl) :
    PE X (.Call (.Name "list" p1) [.Call (.Name "zip" p2) [e1, e2] [] pos2] [] pos1) (tListZip X.K ta tb) := by
  refine ⟨fun pins s σ H Q I h => ?_⟩
  refine Call_ (ld_blt I hg hm boot_list (PyProof.Rows.callWith_type1 (args_cons ?_ hs1) hs1))
  refine Call_ (ld_blt I hg2 hm2 PyProof.Rows.boot_zip (PyProof.Rows.callWith_type1 (args_cons (thn (ha.run pins s σ H _ I h) fun v s1 ⟨x, H1, I1, r1, q1⟩ => one_arg hb I1 q1 (fun u s2 y H2 I2 r2 q => ?_) nb) na) na hp))
  obtain ⟨a, b, xs, ys, rfl, rfl, hqx, hqy, hl, q⟩ := q
  cases r1
  cases r2
  obtain ⟨its, rv, pl1, z1⟩ := I2.list hqx
  obtain ⟨its2, rv2, pl2, _⟩ := I2.list hqy
  refine call_zip_2 pl1.isList pl2.isList fun h' hz hTI hTO g1 g2 hsz hk => args_nil ?_
  have I3 : Inv X pins σ H2 { s2 with heap := h' } := I2.kept (t' := s2.toks) hk
  have L1 : h'.IsList a its.toArray := pl1.isList.at fun o e => hk _ o e
  have L2' : h'.IsList b its2.toArray := pl2.isList.at fun o e => hk _ o e
  have ln1 : its.toArray.size = xs.length := by rw [List.size_toArray]; exact rv.length.symm
  have ln2 : its2.toArray.size = xs.length := by rw [List.size_toArray, hl]; exact rv2.length.symm
  refine zip_list (s := { s2 with heap := h' }) (I3.ok.hd hc) (PySem.W.ktu_apart s2.heap.objs.size a b pl1.lt pl2.lt) ln1 ln2 z1 hz hTI ⟨_, _, hTO⟩ g1 g2 L1 L2' fun h2 tk acc c as hk2 hS hlen hG hacc => ?_
  have keep : ∀ b' o, s2.heap.get? b' = some o → h2.get? b' = some o := fun b' o e => by
    have hb' : b' < s2.heap.objs.size := Heap.lt_size e
    exact hk2 b' o (Nat.ne_of_lt (Nat.lt_of_lt_of_le hb' (Nat.le_add_right _ _))) (Nat.ne_of_lt (Nat.lt_of_lt_of_le hb' (Nat.le_add_right _ _))) (Nat.ne_of_lt hb') (Nat.ne_of_lt (Nat.lt_of_lt_of_le hb' (Nat.le_add_right _ _))) (hk _ _ e)
  have I4 : Inv X pins σ H2 { s2 with heap := h2, toks := tk } := I2.kept keep
  have lo5 : s2.heap.objs.size ≤ h'.objs.size := by rw [hsz]; exact Nat.le_add_right _ _
  have hn0 : H2 h'.objs.size = none := I2.hok.fresh lo5
  have nd : as.Nodup := List.Pairwise.imp (fun {a b} (h : a < b) => Nat.ne_of_lt h) hG.rise
  have hz5 : (as.map V.ref).length ≤ sizeLine := by rw [List.length_map, hlen]; exact z1
  have I5 : Inv X pins σ (upd H2 h'.objs.size (.lst (as.map V.ref))) { s2 with heap := h2, toks := tk } :=
    I4.take (h' := h2) (t' := tk) (fun b ob _ e => e) (I2.fpOk lo5 hn0) ⟨hz5, acc.toList, c, by rw [hacc]; exact L2.vals_refs as, by rw [Array.toArray_toList]; exact hS⟩
  obtain ⟨H', I6, g, qt⟩ := DX.takeT (P := fun t vs => ∃ (j : Nat) (x y : V), as[j]? = some t ∧ xs[j]? = some x ∧ ys[j]? = some y ∧ vs = [x, y]) I2 as _ I5 nd fun t ht => by
    have hab := hG.above t ht
    have hge : s2.heap.objs.size ≤ t := Nat.le_of_lt (Nat.lt_of_le_of_lt lo5 hab)
    refine ⟨hge, ?_, ?_⟩
    · rw [upd_ne (Nat.ne_of_gt hab)]
      exact I2.hok.fresh hge
    · obtain ⟨j, hj⟩ := List.mem_iff_getElem?.mp ht
      obtain ⟨u1, u2, e1, e2, e3⟩ := hG.pairs j t hj
      have hj1 : j < its.length := by
        have := (Array.getElem?_eq_some_iff.mp e1).1
        simpa using this
      have hj2 : j < its2.length := by
        have := (Array.getElem?_eq_some_iff.mp e2).1
        simpa using this
      have lx := rv.length
      have ly := rv2.length
      have ex : xs[j]? = some (xs[j]'(by omega)) := List.getElem?_eq_getElem _
      have ey : ys[j]? = some (ys[j]'(by omega)) := List.getElem?_eq_getElem _
      obtain ⟨w1, f1, r1⟩ := rv.get ex
      obtain ⟨w2, f2, r2⟩ := rv2.get ey
      have d1 : w1 = u1 := by
        have : its.toArray[j]? = some w1 := by simpa using f1
        exact Option.some.inj (this.symm.trans e1)
      have d2 : w2 = u2 := by
        have : its2.toArray[j]? = some w2 := by simpa using f2
        exact Option.some.inj (this.symm.trans e2)
      rw [d1] at r1
      rw [d2] at r2
      exact ⟨_, ⟨j, _, _, hj, ex, ey, rfl⟩, fun H3 => ⟨(by rw [sizeLine_eq]; show 2 ≤ 16777216; omega), [u1, u2], .cons r1 (.cons r2 .nil), ⟨_, e3, rfl, 0, rfl⟩⟩⟩
  refine ⟨.ref h'.objs.size, H', I6, rfl, q H' h'.objs.size as (fun b' o e => g _ _ (by rw [upd_ne (ne_of_none e hn0)]; exact e)) hn0 (g _ _ upd_same) hlen fun j t hj => ?_⟩
  obtain ⟨vs, ⟨j', x, y, k1, k2, k3, rfl⟩, hH⟩ := qt t (List.mem_of_getElem? hj)
  have ejj : j = j' := (List.getElem?_inj (List.getElem?_eq_some_iff.mp hj).1 nd).mp (hj.trans k1.symm)
  subst ejj
  exact ⟨x, y, k2, k3, hH⟩
end
end Rg
/-! own rules: sorted(xs) of data that stand in order; set(xs) of ints -/
namespace Rg
open PySem PySem.Spec PyProof.Rows L2
/-- the items with what they read as -/
def rSortedIn (K : PySem.W.Frag) : List V → Hp → VK → Prop := fun vs H Q => ∃ (a : Addr) (bs : List (V × PyData)), vs = [.ref a] ∧ SqL K H a (bs.map (·.1)) ∧ (∀ b ∈ bs, Dp K H b.1 b.2) ∧ PySem.W.AllAlike (bs.map (·.2)) ∧ PySem.W.Sortable (bs.map (·.2)) ∧ (∀ b ∈ bs, b.2.depth ≤ 10) ∧
  bs.Pairwise (fun x y => PySem.W.dataLt y.2 x.2 = false) ∧ ∀ p, H p = none → Q (.ref p) (upd H p (.lst (bs.map (·.1))))
theorem each_of {α β : Type} {R : α → β → Prop} : ∀ {xs : List α} {ys : List β}, xs.length = ys.length → (∀ (j : Nat) (x : α) (y : β), xs[j]? = some x → ys[j]? = some y → R x y) → PySem.W.EachIs R xs ys
  | [], [], _, _ => .nil
  | [], _ :: _, h, _ => by simp at h
  | _ :: _, [], h, _ => by simp at h
  | x :: xs, y :: ys, h, f => .cons (f 0 x y rfl rfl) (each_of (by simpa using h) fun j a b h1 h2 => f (j + 1) a b (by simpa using h1) (by simpa using h2))
theorem each_at {α β : Type} {R : α → β → Prop} : ∀ {xs : List α} {ys : List β}, PySem.W.EachIs R xs ys → ∀ (j : Nat) (x : α) (y : β), xs[j]? = some x → ys[j]? = some y → R x y
  | _, _, .nil, j, x, y, h, _ => by simp at h
  | _, _, .cons r t, 0, x, y, h1, h2 => by
    simp only [List.getElem?_cons_zero, Option.some.injEq] at h1 h2
    subst h1; subst h2
    exact r
  | _, _, .cons r t, j + 1, x, y, h1, h2 => each_at t j x y (by simpa using h1) (by simpa using h2)
theorem each_len {α β : Type} {R : α → β → Prop} : ∀ {xs : List α} {ys : List β}, PySem.W.EachIs R xs ys → xs.length = ys.length
  | _, _, .nil => rfl
  | _, _, .cons r t => by rw [List.length_cons, List.length_cons, each_len t]
section
variable {X : Cx}
theorem cr_sortedIn (hu : X.A.units + 64 < cLine) : CallR X (.builtin "sorted") (rSortedIn X.K) := by
  intro pins s σ H xs us Q I r h
  obtain ⟨a, bs, rfl, hs, hD, hal, hk, hdp, hord, q⟩ := h
  obtain ⟨u, rfl, rx⟩ := vals1 r
  cases rx
  obtain ⟨its, rv, pl, hz⟩ := I.list hs
  have hl : its.length = bs.length := by
    have := rv.length
    rw [List.length_map] at this
    exact this.symm
  have hL : bs.length ≤ sizeLine := by rw [List.length_map] at hz; exact hz
  have at_ : ∀ (j : Nat) (v : Value) (b : V × PyData), its[j]? = some v → bs[j]? = some b → RelV b.1 v := fun j v b h1 h2 => by
    obtain ⟨w, e1, e2⟩ := rv.get (i := j) (x := b.1) (by rw [List.getElem?_map, h2]; rfl)
    rw [h1] at e1
    cases e1
    exact e2
  have e : PySem.W.EachIs (fun (v : Value) (b : V × PyData) => RelV b.1 v) its bs := each_of hl at_
  have er : PySem.W.EachIs (fun (v : Value) (b : V × PyData) => ∃ as, Reads s.heap v b.2 as) its bs := each_of hl fun j v b h1 h2 => Dp.reads I b.2 b.1 v (hD b (List.mem_of_getElem? h2)) (at_ j v b h1 h2)
  refine PySem.W.sorted_data (enc := fun b : V × PyData => b.2) pl.isList e er hal hk hL (fun b hb => ?_) fun out ho ho2 => ?_
  · have := hdp b hb
    omega
  · have same : bs.mergeSort (PySem.W.dataLe false fun b : V × PyData => b.2) = bs := by
      apply List.mergeSort_of_pairwise
      refine List.Pairwise.imp (fun {x y} hxy => ?_) hord
      show (!PySem.W.dataLt y.2 x.2) = true
      rw [hxy]
      rfl
    rw [same] at ho2
    obtain ⟨n, hn⟩ := sortedAll_at s.heap its out.toArray
    have rv2 : Vals (bs.map (·.1)) out := vals_of_at (by rw [List.length_map]; exact ho.symm) fun j x w h1 h2 => by
      rw [List.getElem?_map] at h1
      cases hb : bs[j]? with
      | none => rw [hb] at h1; cases h1
      | some b =>
        rw [hb] at h1
        have e1 : b.1 = x := Option.some.inj h1
        rw [← e1]
        exact each_at ho2 j w b h2 hb
    exact ⟨.ref (s.heap.objs.size + 1), _, I.laid (t' := s.toks) (o := .lst (bs.map (·.1))) (fun b o e => sortedAll_old e) (Nat.le_succ _) ⟨hz, out, n, rv2, hn⟩, rfl, q _ (I.hok.fresh (Nat.le_succ _))⟩
end
end Rg
/-! own rules: set(xs) of a list of ints, as the layer's set of ints -/
namespace Rg
open PySem PySem.Spec PyProof.Rows L2
section
variable {P : Program} {w : World} {A : Around} {E : Value → Shared → Prop} {s : Shared}
abbrev emptySet (w : World) : Obj := { cls := .type "set", dict := none, data := .set #[] 0 (.fresh 0 0 (!w.params.followText "set-order")) }
theorem set_of_list {l : Addr} {items : Array Value} (ns : List Int) {Q : Value → Shared → Prop} (hh : A.handled = none) (hl : s.heap.IsList l items) (hit : IntsAre items.toList ns) (hb : ns.length + 1 < scanBound)
    (h : ∀ (h' : Heap) (tk c : Nat), SetR w h' s.heap.objs.size (fun j => decide (j ∈ ns)) c → c ≤ ns.length → (∀ b o, s.heap.get? b = some o → h'.get? b = some o) → Q (.ref s.heap.objs.size) { s with heap := h', toks := tk }) :
    wpAny (model P w) A (call (.type "set") [.ref l]) Q E s := by
  have size_eq : items.size = ns.length := by
    have q := IntsAre.length hit
    rw [Array.length_toList] at q
    exact q
  obtain ⟨cc, tl, hmro⟩ := F.called_set.mro
  have hmade := F.called_set.made
  have hsub := F.called_set.sub
  refine wpAny_call (codeAny_of_tree ?_)
  show wpAny _ _ (callAny (.type "set") _) _ _ _
  refine wpAny_pure ⟨Code.quiet_builtin _ (by decide +kernel), codeAny_builtin F.entry_type_call ?_⟩
  rw [Around.under_plain (weight_type_call_type "set" [.ref l] []) rfl]
  have n1 := F.called_set.notType
  have n2 := F.called_set.canCreate
  have n3 := F.typeCall_set_1 (.ref l)
  repeat (any_goals (first | assumption | wp_step))
  refine codeAny_mono (code_set_led1 (.ref l) (E := E) (Q₁ := fun obj s₁ => obj = .ref s.heap.objs.size ∧ s₁ = { s with heap := s.heap.push (emptySet w) }) ⟨rfl, rfl⟩) fun r s₁ hr => ?_
  cases r with
  | error e => exact hr
  | ok fl =>
    cases fl with
    | ret obj =>
      obtain ⟨rfl, rfl⟩ := hr
      have at0 : (s.heap.push (emptySet w)).get? s.heap.objs.size = some (emptySet w) := Heap.get?_push_size _ rfl
      have hT : Shared.TypeIs { s with heap := s.heap.push (emptySet w) } (.ref s.heap.objs.size) "set" := ⟨_, at0, rfl⟩
      have i1 := F.called_set.init.lookup
      have i2 := F.called_set.init.bind (.ref s.heap.objs.size)
      repeat (any_goals (first | assumption | wp_step))
      refine codeAny_mono (codeAny_call_builtin (R := wants (fun r s₂ => r = .none ∧ ∃ h' tk c, s₂ = { s with heap := h', toks := tk } ∧ SetR w h' s.heap.objs.size (fun j => decide (j ∈ ns)) c ∧ c ≤ ns.length ∧
          (∀ b o, s.heap.get? b = some o → h'.get? b = some o)) E) F.called_set.init.plain F.entry_set_init (check_set_init_1 hT ?_)) fun r₂ s₂ hr₂ => ?_
      · obtain ⟨⟨ocls, odict, odata, oslots⟩, hol, hcl, nl, hdl⟩ := hl
        simp only at hcl hdl
        subst hcl; subst hdl
        have lt_l : l < s.heap.objs.size := Heap.lt_size hol
        have hol' : (s.heap.push (emptySet w)).get? l = some { cls := .type "list", dict := odict, data := .seq items nl, slots := oslots } := Heap.get?_push_of_some _ hol
        have s1 := F.sub_list_set
        have s2 := F.sub_list_frozenset
        have s3 : (Value.type "list" == Value.type "dict") = false := by decide
        have hl1 : (s.heap.push (emptySet w)).IsList l items := ⟨_, hol', rfl, nl, rfl⟩
        have zsz : (s.heap.push (emptySet w)).objs.size = s.heap.objs.size + 1 := Heap.size_push ..
        have lne : l ≠ (s.heap.push (emptySet w)).objs.size := by
          rw [zsz]; exact Nat.ne_of_lt (Nat.lt_succ_of_lt lt_l)
        have sne : s.heap.objs.size ∉ [(s.heap.push (emptySet w)).objs.size, l] := by
          rw [zsz]
          simp only [List.mem_cons, List.mem_singleton, List.not_mem_nil, or_false, not_or]
          exact ⟨Nat.ne_of_lt (Nat.lt_succ_self _), Nat.ne_of_gt lt_l⟩
        have hval : ∀ (i : Nat) (v : Value), items[i]? = some v → ∃ k t, ns[i]? = some k ∧ v = .int k t := fun i v hv => by
          have hi : i < ns.length := by rw [← size_eq]; exact (Array.getElem?_eq_some_iff.mp hv).1
          obtain ⟨t, e⟩ := PyProof.Rows.IntsAre.int_at hit i v (by rw [Array.getElem?_toList]; exact hv)
          refine ⟨ns[i], t, List.getElem?_eq_getElem hi, ?_⟩
          rw [e, List.getD_eq_getElem?_getD, List.getElem?_eq_getElem hi]
          rfl
        unfold Builtin.«set.__init__» noKeywords Builtin.Frozenset.updateFrom
        generalize hPI : pyIter = PI
        wp_walk
        subst hPI
        refine wpAny_pyIter_list hl1 ?_
        refine wpAny_bind (wpAny_runValue ?_)
        have hh3 : A.in1.in1.in1.handled = none := by simp [hh]
        refine set_update_ints ((Walks.list hh3 _ l lne items).toS) s.heap.objs.size sne ns size_eq hb hval (items.size - 0) 0 _ (by omega) (Nat.zero_le _)
          ⟨⟨_, Heap.get?_push_size _ rfl, rfl, rfl⟩, (hl1.push _)⟩ ⟨0, Nat.le_refl 0, setR_new_at (Heap.get?_push_of_some _ at0)⟩ ?_
        intro s' c' hm hc' hS'
        obtain ⟨h', g2, d', tk', os'⟩ := s'
        have eg : g2 = s.gens := hm.gens
        have ed : d' = s.drawn := hm.drawn
        have eo : os' = s.os := hm.os
        subst eg; subst ed; subst eo
        show wpAny _ _ _ _ _ _
        refine wpAny_pure ?_
        show wpAny _ _ (ret Value.none) _ _ _
        rw [size_eq] at hc'
        refine wpAny_pure ⟨rfl, h', tk', c', rfl, hS', hc', fun b o e => ?_⟩
        have hb0 : b < s.heap.objs.size := Heap.lt_size e
        refine hm.heap b o ?_ (Heap.get?_push_of_some _ (Heap.get?_push_of_some _ e))
        simp only [List.mem_cons, List.mem_singleton, List.not_mem_nil, or_false, not_or]
        refine ⟨Nat.ne_of_lt hb0, ?_⟩
        rw [Heap.size_push]
        exact Nat.ne_of_lt (Nat.lt_succ_of_lt hb0)
      · cases r₂ with
        | error e => exact hr₂
        | ok fl₂ =>
          cases fl₂ with
          | ret r =>
            obtain ⟨rfl, h', tk, c', rfl, hS', hc', hk'⟩ := hr₂
            repeat (any_goals (first | assumption | wp_step))
            exact h _ _ _ hS' hc' hk'
          | _ => exact hr₂.elim
    | _ => exact hr.elim
end
section
variable {X : Cx}
/-- set(xs), xs a list of ints -/
theorem cr_setList (hc : X.calm = true) : CallR X (.type "set") (fun xs H Q => ∃ (l : Addr) (ns : List Int), xs = [.ref l] ∧ SqL X.K H l (ns.map V.int) ∧ ns.length ≤ 60 ∧
    ∀ (p : Addr) (c : Nat), c ≤ ns.length → H p = none → Q (.ref p) (upd H p (SetO X.w p (fun j => decide (j ∈ ns)) c))) := by
  intro pins s σ H xs us Q I r h
  obtain ⟨l, ns, rfl, hs, hlen, q⟩ := h
  obtain ⟨u, rfl, rx⟩ := vals1 r
  cases rx
  obtain ⟨its, rv, pl, hz⟩ := I.list hs
  refine set_of_list ns (I.ok.hd hc) pl.isList (by simpa using rv.ints) (by unfold scanBound; omega) fun h' tk c hS hcl hk => ?_
  exact ⟨.ref s.heap.objs.size, _, I.laid (t' := tk) hk (Nat.le_refl _) (setO_new hS), rfl, q _ c hcl (I.hok.fresh (Nat.le_refl _))⟩
end
end Rg
/-! own rules: for (.., ..), .. in d.items(), the keys tuples -/
namespace Rg
open PySem PySem.Spec PyProof.Rows L2
section
variable {X : Cx} {pins : List (Addr × Obj)} {σ : L2.St} {H : Hp} {s : Shared} {d : Addr} {o : Obj}
theorem locked_T {kvs : List (List Key × V)} (I : Inv X pins σ H s) (h : H d = some (.frz o (.dT kvs))) :
    (d == sysModules) = false ∧ s.heap.get? d = some o ∧ o.ExactDict ∧ ∃ (es : Array DictEntry) (ep : Nat), o.data = .dict es ep ∧ es.size = kvs.length ∧
      ∀ (i : Nat) (k : List Key) (v : V), kvs[i]? = some (k, v) → ∃ (en : DictEntry) (q : Addr), es[i]? = some en ∧ en.key = .ref q ∧ H q = some (.tup (k.map kV)) ∧ RelV v en.val := by
  obtain ⟨e0, z, hs, xs, pr, o', es, ep, ho, hx, hdt, he, _⟩ := I.hok d _ h
  rw [e0] at ho
  cases ho
  refine ⟨hs, e0, hx, es, ep, hdt, ?_, fun i k v e => ?_⟩
  · have l1 : es.size = xs.length := size_of_entries he
    have l2 : kvs.length = xs.length := Paired.length pr
    omega
  · obtain ⟨b, hb, e1, e2, e3⟩ := L2.paired_get pr e
    have q := entry_at he i
    rw [hb] at q
    exact ⟨_, b.2.1, q, rfl, e2, e3⟩
end
/-- key and value, each turn in a new pair -/
def ItIT (d : Addr) (o : Obj) (kvs : List (List Key × V)) : It :=
  ⟨fun i H => H d = some (.frz o (.dT kvs)) ∧ i < kvs.length,
   fun i H x H' => ∃ (T q : Addr) (k : List Key) (v : V), kvs[i]? = some (k, v) ∧ x = .ref T ∧ H T = none ∧ H q = some (.tup (k.map kV)) ∧ H' = upd H T (.tup [.ref q, v]),
   fun i H => H d = some (.frz o (.dT kvs)) ∧ kvs.length ≤ i⟩
section
variable {P : Program} {w : World} {K : PySem.W.Frag} {d : Addr} {o : Obj} {es : Array DictEntry} {ep : Nat}
theorem turn_IT {kvs : List (List Key × V)} {elts : List Expr} {kk : Nat} {tpos : Pos} (it : Addr) (hod : o.data = .dict es ep) :
    Turn P w K (.Tuple elts kk tpos) (ItIT d o kvs) [it] it (fun i h => ∃ ok ov, IsItemIter h it d i kvs.length ep ok ov) where
  mem := by simp
  obj := fun i h st b hb => by
    obtain rfl : b = it := by simpa using hb
    obtain ⟨ok, ov, e⟩ := st
    exact ⟨_, e, fun v z => nomatch z⟩
  keep := fun i h h' st k => let ⟨ok, ov, e⟩ := st; ⟨ok, ov, k it (by simp) _ e⟩
  item := by
    intro X hP hw hK hc i pins s σ H E I hf st hg
    subst hP hw hK
    obtain ⟨hd, hi⟩ := hg
    obtain ⟨hs, hgd, hx, es', ep', hdt, hsz, ent⟩ := locked_T I hd
    obtain ⟨rfl, rfl⟩ := dict_ep hod hdt
    obtain ⟨⟨k, v⟩, hkv⟩ : ∃ p, kvs[i]? = some p := ⟨kvs[i], List.getElem?_eq_getElem hi⟩
    obtain ⟨en, q, hen, hkey, hq, hval⟩ := ent i k v hkv
    obtain ⟨ok, ov, he⟩ := st
    rw [← hsz] at he
    have hlt : it < s.heap.objs.size := Heap.lt_size he
    have hie : i < es'.size := by omega
    have een : es'[i] = en := by
      have := Array.getElem?_eq_getElem hie
      rw [hen] at this
      exact (Option.some.inj this).symm
    refine DT.nextI he ⟨o, hgd, hx, hdt⟩ hie fun h' ho hT hz hk => ?_
    rw [een] at ho hT
    refine ⟨_, rfl, wpAny_letOwnedTupleGo_items (s := { s with heap := h' }) ho fun h'' he' sb => ?_⟩
    have hT2 : h''.get? s.heap.objs.size = some { cls := .type "tuple", data := .seq #[en.key, en.val] } := (sb.2 _ (Nat.ne_of_gt hlt)).trans hT
    have rk : RelV (.ref q) en.key := hkey
    have new : ObjOk X.prog X.w (upd H s.heap.objs.size (.tup [.ref q, v])) h'' s.heap.objs.size (.tup [.ref q, v]) :=
      ⟨by show 2 ≤ sizeLine; decide, [en.key, en.val], .cons rk (.cons hval .nil), ⟨_, hT2, rfl, _, rfl⟩⟩
    have I1 : Inv X pins σ (upd H s.heap.objs.size (.tup [.ref q, v])) { s with heap := h'' } :=
      I.turnedNew (t' := s.toks) (ch := [it]) (fun b ob hb e => (sb.2 b (by simpa using hb)).trans (hk b ob (by simpa using hb) e)) hf (Nat.le_refl _) new
    refine ⟨.ref s.heap.objs.size, _, I1, rfl, ⟨_, q, k, v, hkv, rfl, I.hok.fresh (Nat.le_refl _), hq, rfl⟩, ⟨en.key, en.val, ?_⟩, fun b hb => ?_⟩
    · rw [← hsz]; exact he'
    · obtain rfl : b = it := by simpa using hb
      rw [upd_ne (Nat.ne_of_lt hlt)]
      exact (hf b (by simp)).1
  done := by
    intro X hP hw hK hc i pins s σ H E I hf st hg
    subst hP hw hK
    obtain ⟨hd, hi⟩ := hg
    obtain ⟨f0, f1, f2, f3, f4, f5⟩ := hf it (by simp)
    obtain ⟨hs, hgd, hx, es', ep', hdt, hsz, ent⟩ := locked_T I hd
    obtain ⟨rfl, rfl⟩ := dict_ep hod hdt
    obtain ⟨ok, ov, he⟩ := st
    rw [← hsz] at he
    exact DT.endI (I.ok.hd hc) he ⟨o, hgd, hx, hdt⟩ (by omega) fun h' eb => ⟨rfl, I.turned (t' := s.toks) (fun b ob hb e => eb b ob hb e) f0 f1 f3 f4 f5⟩
  self := fun A i s Q E st h => let ⟨_, _, e⟩ := st; PySem.W.kcp_self e h
end
def iItemsT (td : TE) : TI := fun σ H R => td σ H fun x H1 => ∃ d o kvs, x = .ref d ∧ H1 d = some (.frz o (.dT kvs)) ∧ R (ItIT d o kvs) H1
section
variable {X : Cx} {e : Expr} {td : TE} {apos cpos : Pos}
theorem pi_itemsT {elts : List Expr} {kk : Nat} {tpos : Pos} (he : PE X e td) (hbase : attributeBase e "items" X.env (eval e X.env) = eval e X.env := by rfl) (hline : (apos.endLine == cpos.line) = true := by rfl) :
    PI X (.Tuple elts kk tpos) (.Call (.Attribute e "items" apos) [] [] cpos) (iItemsT td) := by
  refine ⟨fun pins s σ H R I h => ?_⟩
  refine wpAny_Call_method (T := "dict") (id := "dict.items") hbase rfl hline F.plainAttrs_dict F.slot_dict_items F.type_dict_items (thn (he.run pins s σ H _ I h) fun u s1 ⟨x, H1, I1, rx, d, o, kvs, ex, hd, q⟩ => ?_)
  subst ex
  obtain rfl : u = Value.ref d := rx
  obtain ⟨hs, hgd, hx, es, ep, hdt, hsz, ent⟩ := locked_T I1 hd
  have raw : DT.Raw s1.heap d es ep := ⟨o, hgd, hx, hdt⟩
  refine ⟨raw.typeIs, (fun a e => by cases e; exact ⟨o, hgd, hx.2.1⟩), ?_⟩
  have I2 : Inv X pins σ H1 { s1 with heap := s1.heap.push { cls := .type "dict_items", data := .fields #[.ref d] } } := I1.kept (t' := s1.toks) fun b ob q => Heap.get?_push_of_some _ q
  have fin : wpAny (model X.prog X.w) X.A (pyIter (.ref s1.heap.objs.size)) (PIE X pins σ (.Tuple elts kk tpos) R) X.xe { s1 with heap := s1.heap.push { cls := .type "dict_items", data := .fields #[.ref d] } } := by
    refine DT.iterI (es := es) (ep := ep) ⟨_, Heap.get?_push_size _ rfl, rfl, rfl⟩ (raw.push _) (L2.pi_one (tk := s1.toks) I2 _ (turn_IT _ hdt) ⟨.none, .none, ?_⟩ q)
    rw [← hsz]
    exact Heap.get?_push_size _ rfl
  show wpAny _ _ (callWith cpos (.builtin "dict.items") [.ref d] [] []) _ X.xe s1
  exact method_meetsIn F.slot_dict_items F.entry_dict_items rfl (PySem.evalArgs_none ⟨rfl, raw.typeIs, F.args_dict_items_1 _, _, DT.meetsItems (es := es) (ep := ep) hs, raw, fin⟩)
/-- a loop over it -/
theorem for_IT {d : Addr} {o : Obj} {kvs : List (List Key × V)} {g : TG} {tb : TS} {D : Ends} {σ : L2.St} {H : Hp} (Pv : Nat → L2.St → Hp → Prop) (h0 : Pv 0 σ H) (hl : ∀ i σ H, i ≤ kvs.length → Pv i σ H → H d = some (.frz o (.dT kvs)))
    (hs : ∀ (i : Nat) (k : List Key) (v : V) (T q : Addr) (σ : L2.St) (H : Hp), kvs[i]? = some (k, v) → Pv i σ H → H T = none → H q = some (.tup (k.map kV)) → g (.ref T) σ (upd H T (.tup [.ref q, v])) fun σ2 H2 => tb { D with nx := Pv (i + 1), ct := Pv (i + 1), bk := D.nx } σ2 H2)
    (hd : ∀ σ H, Pv kvs.length σ H → D.nx σ H) : ∃ W : Nat → Nat → L2.St → Hp → Prop, (∃ m, W 0 m σ H) ∧ ∀ i m σ H, W i m σ H →
      ((ItIT d o kvs).stop i H ∧ D.nx σ H) ∨ ((ItIT d o kvs).go i H ∧ ∃ N : L2.St → Hp → Prop, (∀ σ' H', N σ' H' → ∃ m', m' < m ∧ W (i + 1) m' σ' H') ∧ ∀ v H', (ItIT d o kvs).yld i H v H' → g v σ H' fun σ2 H2 => tb { D with nx := N, ct := N, bk := D.nx } σ2 H2) := by
  refine ⟨fun i m σ H => m = kvs.length - i ∧ i ≤ kvs.length ∧ Pv i σ H, ⟨kvs.length, rfl, Nat.zero_le _, h0⟩, ?_⟩
  rintro i m σ H ⟨rfl, hi, p⟩
  have q := hl i σ H hi p
  by_cases hlt : i < kvs.length
  · refine .inr ⟨⟨q, hlt⟩, Pv (i + 1), fun σ' H' p' => ⟨kvs.length - (i + 1), by omega, rfl, hlt, p'⟩, fun v H' y => ?_⟩
    obtain ⟨T, q', k, x, e, rfl, hT, hq, rfl⟩ := y
    exact hs i k x T q' σ H e p hT hq
  · have e : i = kvs.length := by omega
    subst e
    exact .inl ⟨⟨q, Nat.le_refl _⟩, hd σ H p⟩
end
end Rg
/-! own rules: {k: v for target in iter}, the keys tuples -/
namespace Rg
open PySem PySem.Spec PyProof.Rows L2
theorem set_tupleKey {X : Cx} {pins : List (Addr × Obj)} {σ : L2.St} {H : Hp} {s : Shared} {E : Value → Shared → Prop} {D b : Addr} {kvs : List (List Key × V)} {k : List Key} {v : V} {r : Value} {Q : Unit → Shared → Prop} (hu : X.A.units + 1 < cLine) (I : Inv X pins σ H s) (hD : H D = some (.dT kvs)) (hz : kvs.length < sizeLine)
    (hb : H b = some (.tup (k.map kV))) (rv : RelV v r) (h : ∀ s', Inv X pins σ (upd H D (.dT (putK kvs k v))) s' → Q () s') : wpAny (model X.prog X.w) X.A (dictSet D (.ref b) r) Q E s := by
  obtain ⟨z, lo, xs, rel, dd⟩ := dt_of I.hok hD
  have l1 : xs.length ≤ sizeLine := by rw [← Paired.length rel]; exact z
  have l2 : (putK kvs k v).length ≤ sizeLine := by have := length_putK kvs k v; omega
  refine PySem.wpAny_dictSet_heap (hsz := l1) (knd := tupleKind (mixKind X.prog X.w)) (k := k) ?_ (key_of I.hok hb) dd fun h' dd' hs => h _ ?_
  · show X.A.units < cLine
    omega
  · obtain ⟨q, es, ep, hq, h2, h3, h4, _, h5⟩ := dd'
    refine d_write I (by rw [hD]; exact True.intro) hs ⟨q, hq⟩ ⟨l2, lo, _, (rel.put k hb rv).keeps fun c ys ec => ?_, q, es, ep, hq, h2, h3, h4, h5⟩
    rw [upd_ne (ne_of ec hD (fun z => nomatch z))]
    exact ec
/-- the reading: D the new dict, b the key's tuple -/
def tDcT (wi : TI) (g : TG) (tt : TT) (tk tv : TE) (vs : List Nat) : TE := fun σ H Q => wi σ H fun J H1 => ∀ D, H1 D = none → ∃ W : Nat → Nat → Hp → Prop, (∃ m, W 0 m (upd H1 D (.dT []))) ∧ ∀ i m H, W i m H →
  (J.stop i H ∧ Q (.ref D) H) ∨ (J.go i H ∧ ∃ Nx : Hp → Prop, (∀ H', Nx H' → ∃ m', m' < m ∧ W (i + 1) m' H') ∧ ∀ x H', J.yld i H x H' → g x (wipe σ vs) H' fun σ2 H2 => wipe σ2 vs = wipe σ vs ∧ tt σ2 H2 fun b H3 =>
    if b = true then tk σ2 H3 fun y H4 => tv σ2 H4 fun z H5 => ∃ kvs k b, y = .ref b ∧ H5 b = some (.tup (k.map kV)) ∧ H5 D = some (.dT kvs) ∧ kvs.length < sizeLine ∧ Nx (upd H5 D (.dT (putK kvs k z))) else Nx H3)
section
variable {X : Cx}
theorem pe_dcT {kx vx tg iter : Expr} {ifs : List Expr} {scope : Scope} {own : List (Str × Nat)} {pos : Pos} {wi : TI} {g : TG} {tt : TT} {tk tv : TE} (hu : X.A.units + 1 < cLine) (hc : X.calm = true) (hN : X.N.Nodup) (hi : PI X tg iter wi) (ok : BlkOk X.N X.env.scope scope own)
    (hg : ∀ (s : Shared) (H : Hp) (C : Addr) (cl : List (Str × Addr)) (fp : List Addr), PG (X.blk s H scope (compEnvC scope cl C X.env) fp) tg g) (ht : ∀ (s : Shared) (H : Hp) (C : Addr) (cl : List (Str × Addr)) (fp : List Addr), PTs (X.blk s H scope (compEnvC scope cl C X.env) fp) ifs tt)
    (hk : ∀ (s : Shared) (H : Hp) (C : Addr) (cl : List (Str × Addr)) (fp : List Addr), PE (X.blk s H scope (compEnvC scope cl C X.env) fp) kx tk)
    (he : ∀ (s : Shared) (H : Hp) (C : Addr) (cl : List (Str × Addr)) (fp : List Addr), PE (X.blk s H scope (compEnvC scope cl C X.env) fp) vx tv) (hs : ∀ x, foldedSetIterable iter X.env x = pure x := by intro _; rfl) :
    PE X (.DictComp kx vx [⟨tg, iter, ifs, 0⟩] scope pos) (tDcT wi g tt tk tv (own.map (·.2))) := by
  refine ⟨fun pins s σ H Q I h => ?_⟩
  rw [arm_eval_DictComp]
  have hfree : ∀ y ∈ scope.names, y.2 = .free → ∃ c, X.env.cells.lookup y.1 = some c := fun y hy e => by
    rcases ok.free y hy e with k | k
    · exact I.ok.has _ (.inl k)
    · exact I.ok.has _ (.inr k)
  refine wpAny_comprehension_free rfl hs (closure_ok hfree) ok.kind (fun y hy e => by rw [ok.uniq y hy, e])
    (thn (hi.run pins s σ H _ I h) fun xv s1 hx => thn hx fun itv s2 h2 => ?_)
  obtain ⟨it, fp, tn, J, H2, rfl, I2, T, st2, f2, q⟩ := h2
  refine wpAny_newObj_type (newEnv_comp ?_)
  generalize hD : s2.heap.objs.size = D
  have Dn : H2 D = none := I2.hok.fresh (Nat.le_of_eq hD)
  obtain ⟨W, ⟨m0, w0⟩, turn⟩ := q D Dn
  -- the new dict is tracked
  generalize hs3 : ({ s2 with heap := s2.heap.push { cls := .type "dict", data := .dict #[] } } : Shared) = s3
  have h3 : s3.heap = s2.heap.push { cls := .type "dict", data := .dict #[] } := by rw [← hs3]
  have I3 : Inv X pins σ (upd H2 D (.dT [])) s3 := by
    rw [← hs3]
    refine I2.laid (t' := s2.toks) (fun b o e => Heap.get?_push_of_some _ e) (Nat.le_of_eq hD) ?_
    rw [← hD]
    exact dt_empty s2.heap I2.big
  have fplt : ∀ b ∈ fp, b < s2.heap.objs.size := fun b hb => by
    obtain ⟨o, e, _⟩ := T.obj _ _ st2 b hb
    exact Heap.lt_size e
  have f3 : ∀ b ∈ fp, FpOk X pins (upd H2 D (.dT [])) b ∧ b < s3.heap.objs.size := fun b hb => by
    have hlt := fplt b hb
    refine ⟨⟨?_, (f2 b hb).2⟩, by rw [h3, Heap.size_push]; exact Nat.lt_succ_of_lt hlt⟩
    rw [upd_ne (by rw [← hD]; exact Nat.ne_of_lt hlt)]
    exact (f2 b hb).1
  have st3 : tn 0 s3.heap := T.keep _ _ _ st2 fun b _ o e => by rw [h3]; exact Heap.get?_push_of_some _ e
  have I4 := block_start I3 ok hN f3
  have pg := hg s3 (upd H2 D (.dT [])) s3.heap.objs.size (cellsFrom (s3.heap.objs.size + 1) scope.names (cloFrom X.env.cells scope.names [])) fp
  have pt := ht s3 (upd H2 D (.dT [])) s3.heap.objs.size (cellsFrom (s3.heap.objs.size + 1) scope.names (cloFrom X.env.cells scope.names [])) fp
  have pk := hk s3 (upd H2 D (.dT [])) s3.heap.objs.size (cellsFrom (s3.heap.objs.size + 1) scope.names (cloFrom X.env.cells scope.names [])) fp
  have pe := he s3 (upd H2 D (.dT [])) s3.heap.objs.size (cellsFrom (s3.heap.objs.size + 1) scope.names (cloFrom X.env.cells scope.names [])) fp
  have fin0 : ∀ D' C s' m H', Inv X pins σ H' s' → Q (.ref D') H' → s'.heap.Ns C m → FpOk X pins H' C → compPost (model X.prog X.w) X.A X.xe none (EP X pins σ Q) (.ref D') C (.ok .next) s' := fun D' C s' m H' I' q' hn f => ⟨m, hn, fun h'' sb => by
    obtain ⟨g0, g1, g2, g3, g4, g5⟩ := f
    exact ⟨.ref D', H', I'.turned (t' := s'.toks) (fun b o hb e => (sb.2 b hb).trans e) g0 g1 g3 g4 g5, rfl, q'⟩⟩
  show codeAny _ _ (.compStart (.DictComp kx vx [⟨tg, iter, ifs, 0⟩] scope pos) 0 (.ref it) (.ref D) (compEnvC scope (cellsFrom (s3.heap.objs.size + 1) scope.names (cloFrom X.env.cells scope.names [])) s3.heap.objs.size X.env)) (compPost (model X.prog X.w) X.A X.xe none (EP X pins σ Q) (.ref D) s3.heap.objs.size) { s3 with heap := pushCells (s3.heap.push { cls := .type "dict", data := .dict #[] }) scope.names }
  have nfp : ∀ b ∈ fp, (upd H2 D (.dT [])) b = none := fun b hb => (f3 b hb).1.1
  generalize hce : compEnvC scope (cellsFrom (s3.heap.objs.size + 1) scope.names (cloFrom X.env.cells scope.names [])) s3.heap.objs.size X.env = ce at I4 pg pt pk pe ⊢
  have cL : ce.locals = s3.heap.objs.size := by subst hce; rfl
  generalize hH3 : upd H2 D (.dT []) = H3 at I3 I4 pg pt pk pe w0 nfp f3
  generalize hs4 : ({ s3 with heap := pushCells (s3.heap.push { cls := .type "dict", data := .dict #[] }) scope.names } : Shared) = s4 at I4 ⊢
  have st4 : tn 0 s4.heap := T.keep _ _ _ st3 fun b _ o e => by rw [← hs4]; exact pushCells_keeps _ _ _ _ (Heap.get?_push_of_some _ e)
  have stat : ∀ {σ' : L2.St} {H' : Hp} {s' : Shared}, Inv (X.blk s3 H3 scope ce fp) [] σ' H' s' → (∀ b ∈ fp, H' b = none) → ∀ b ∈ fp, FpOk (X.blk s3 H3 scope ce fp) [] H' b := fun {σ' H' s'} I' hn b hb =>
    ⟨hn b hb, (I'.ok.exf b hb).1, I'.ok.exfs b hb, .inl hb, fun x c e => (I'.ok.exf b hb).2 x c e, fun p hp => absurd (show p ∈ ([] : List (Addr × Obj)) ++ [] from hp) (by simp)⟩
  have loop : codeAny (model X.prog X.w) X.A (.compLoop (.DictComp kx vx [⟨tg, iter, ifs, 0⟩] scope pos) 0 (.ref it) (.ref D) ce) (compPost (model X.prog X.w) X.A X.xe none (EP X pins σ Q) (.ref D) s3.heap.objs.size) s4 := by
    refine compLoop_anyD (fun n s' => ∃ i H', Inv (X.blk s3 H3 scope ce fp) [] (wipe σ (own.map (·.2))) H' s' ∧ tn i s'.heap ∧ (∀ b ∈ fp, H' b = none) ∧ W i n H') ?_ m0 ⟨0, H3, I4, st4, nfp, w0⟩
    rintro n s5 ⟨i, H5, I5, st5, n5, w5⟩
    rcases turn i n H5 w5 with ⟨stop, qq⟩ | ⟨go, Nx, hNx, step⟩
    · have td := T.done (X.blk s3 H3 scope ce fp) rfl rfl rfl hc i [] s5 _ H5 (fun _ _ => False) I5 (stat I5 n5) st5 stop
      refine thnF td fun r s6 ⟨hr, I6⟩ => ?_
      subst hr
      have I7 : Inv X pins σ H5 s6 := I3.call' (ch := fp) I6.os I6.base I6.hok I6.bare fun b hb => ⟨(f3 b hb).1.2.2.2.1, (f3 b hb).1.2.1, (f3 b hb).1.2.2.2.2.1, (f3 b hb).1.2.2.2.2.2⟩
      have nC : H5 s3.heap.objs.size = none := by
        have z : H5 ce.locals = none := I6.free
        rw [cL] at z
        exact z
      obtain ⟨m, hn, _⟩ := I6.loc
      have hn : s6.heap.Ns ce.locals m := hn
      rw [cL] at hn
      exact fin0 D s3.heap.objs.size s6 m H5 I7 qq hn (I3.fpOk (Nat.le_refl _) nC)
    · have ti := T.item (X.blk s3 H3 scope ce fp) rfl rfl rfl hc i [] s5 _ H5 (fun _ _ => False) I5 (stat I5 n5) st5 go
      refine thnF ti fun r s6 ⟨u, hr, h6⟩ => ?_
      subst hr
      refine thnF h6 fun _ s7 ⟨x, H7, I7, r7, y7, st7, n7⟩ => ?_
      have I7' := I7.pinned (stat I7 n7) (T.obj _ _ st7)
      refine thnF (pg.run _ s7 _ H7 x u _ I7' r7 (step x H7 y7)) fun _ s8 ⟨σ8, H8, I8, hw8, q8⟩ => ?_
      refine thnF (pt.run _ s8 σ8 H8 _ I8 q8) fun b s9 ⟨H9, I9, q9⟩ => ?_
      have fin : ∀ {s' : Shared} {H' : Hp}, Inv (X.blk s3 H3 scope ce fp) ([] ++ pinsAt fp s7.heap) σ8 H' s' → Nx H' → ∃ m, m < n ∧ ∃ i H', Inv (X.blk s3 H3 scope ce fp) [] (wipe σ (own.map (·.2))) H' s' ∧ tn i s'.heap ∧ (∀ b ∈ fp, H' b = none) ∧ W i m H' := fun {s' H'} I' nx => by
        obtain ⟨m', hm, w'⟩ := hNx H' nx
        have pin' : ∀ b ∈ fp, ∀ o, s7.heap.get? b = some o → s'.heap.get? b = some o ∧ H' b = none := fun b hb o e =>
          let z := I'.pin (b, o) (List.mem_append_right _ (List.mem_append_right _ (mem_pinsAt hb e)))
          ⟨z.1, z.2.1⟩
        have hl : (wipe σ (own.map (·.2))).length = σ8.length := by rw [← hw8, wipe_length]
        refine ⟨m', hm, i + 1, H', (I'.unpinned (pins := [])).weak hl (fun j v e => ?_), T.keep _ _ _ st7 fun b hb o e => (pin' b hb o e).1, fun b hb => ?_, w'⟩
        · rw [← hw8] at e
          exact (wipe_some e).1
        · obtain ⟨o, e, _⟩ := T.obj _ _ st7 b hb
          exact (pin' b hb o e).2
      cases b with
      | false =>
        simp only [Bool.false_eq_true, if_false] at q9 ⊢
        exact fin I9 q9
      | true =>
        simp only [if_true] at q9 ⊢
        refine thnF (pk.run _ s9 σ8 H9 _ I9 q9) fun z s10 ⟨yk, H10, I10, r10, q10⟩ => ?_
        refine thnF (pe.run _ s10 σ8 H10 _ I10 q10) fun z2 s11 ⟨yv, H11, I11, r11, kvs, k, b, ek, hb11, hD11, hz11, nx⟩ => ?_
        subst ek
        cases r10
        exact set_tupleKey (X := X.blk s3 H3 scope ce fp) hu I11 hD11 hz11 hb11 r11 fun s12 I12 => fin I12 nx
  exact codeAny_compStart_dict loop (T.self X.A 0 _ _ _ st4 loop)
end
end Rg
/-! is_whole, look_place, backs, ends_of -/
namespace Rg
open PySem PySem.Spec PyProof.Rows L2
/-- a def of the top with a promise: what a caller needs -/
structure DefOk (P : Program) (w : World) (K : PySem.W.Frag) (mg : Str → Option Value) (base : Heap) (x : Str) (k : Nat) (ps : List Str) (sp : Sp) : Prop where
  ex : ∃ (f : Addr) (fd : FuncData), mg x = some (.ref f) ∧ PySem.W.keepIn K (.ref f) = true ∧ Binds K fd ps [] ∧ FnOk P w K mg base CX0 k f fd ps sp
section
variable {P : Program} {w : World} {K : PySem.W.Frag} {mg : Str → Option Value} {base : Heap}

theorem scWhole : FnScope ["thing", "low", "high"] ["thing", "low", "high"] (defScope s_is_whole) := ⟨rfl, rfl, rfl, by decide +kernel, rfl, by decide +kernel, by decide +kernel⟩
def spWhole : Sp := fun vs H Q _ => ∃ i lo hi : Int, vs = [.int i, .int lo, .int hi] ∧ Q (.bl (decide (lo ≤ i ∧ i ≤ hi))) H
theorem ok_whole (T : Fs K mg) : DefOk P w K mg base "is_whole" 1 ["thing", "low", "high"] spWhole := by
  obtain ⟨f, fd, hm, F⟩ := T.is_whole
  refine ⟨f, fd, hm, F.kp, F.binds fun _ _ _ _ _ _ us hl => match us, hl with | [_, _, _], _ => rfl, ?_⟩
  refine F.ok scWhole (fun vs H Q E h => ?_) (fun cdv A outer s H vs Q E hr h => ?_)
  · obtain ⟨_, _, _, rfl, _⟩ := h
    rfl
  · obtain ⟨i, lo, hi, rfl, q⟩ := h
    refine ⟨_, pss_one (ps_ret (pe_and (pe_callB call_isi (by rfl) T.n_isinstance (by decide +kernel) (pa_cons (pv 0) (pa_cons (pe_bltn (v := .ty "int") (by rfl) T.n_int (by decide +kernel) rfl) pa_nil)))
      (pe_and (pe_not (pe_callB call_isi (by rfl) T.n_isinstance (by decide +kernel) (pa_cons (pv 0) (pa_cons (pe_bltn (v := .ty "bool") (by rfl) T.n_bool (by decide +kernel) rfl) pa_nil))))
        (pe_one (pe_chain op_le op_le (pv 1) (pv 0) (pv 2)))))), ?_⟩
    refine ⟨_, rfl, .int i, .ty "int", .type "int", .type "int", true, rfl, .ty _, .base (.int i), kit_ty (by decide +kernel), true, rfl, iteT ?_⟩
    refine ⟨_, rfl, .int i, .ty "bool", .type "int", .type "bool", false, rfl, .ty _, .base (.int i), kit_ty (by decide +kernel), false, rfl, true, rfl, iteT ?_⟩
    refine ⟨_, rfl, _, rfl, lo, i, rfl, rfl, _, rfl, ite2 (fun e => ?_) fun e => ?_⟩
    · have e := of_decide_eq_true e
      refine ⟨_, rfl, i, hi, rfl, rfl, ?_⟩
      have : decide (lo ≤ i ∧ i ≤ hi) = decide (i ≤ hi) := decide_eq_decide.mpr ⟨fun h => h.2, fun h => ⟨e, h⟩⟩
      rw [this] at q
      exact q
    · have e' : decide (lo ≤ i ∧ i ≤ hi) = false := decide_eq_false fun h => e (decide_eq_true h.1)
      rw [e'] at q
      exact q

theorem scLook : FnScope ["word", "place"] ["word", "place"] (defScope s_look_place) := ⟨rfl, rfl, rfl, by decide +kernel, rfl, by decide +kernel, by decide +kernel⟩
def spLook (K : PySem.W.Frag) : Sp := fun vs H Q _ => ∃ (a : Addr) (xs : List V) (p : Nat), vs = [.ref a, .int p] ∧ SqT K H a xs ∧ p ≤ xs.length ∧ Q .non H
theorem ok_look (T : Fs K mg) : DefOk P w K mg base "look_place" 2 ["word", "place"] (spLook K) := by
  obtain ⟨f, fd, hm, F⟩ := T.look_place
  obtain ⟨fW, fdW, mW, kW, bW, GW⟩ := ok_whole (P := P) (w := w) (base := base) T
  refine ⟨f, fd, hm, F.kp, F.binds fun _ _ _ _ _ _ us hl => match us, hl with | [_, _], _ => rfl, ?_⟩
  refine F.ok scLook (fun vs H Q E h => ?_) (fun cdv A outer s H vs Q E hr h => ?_)
  · obtain ⟨_, _, _, rfl, _⟩ := h
    rfl
  · obtain ⟨a, xs, p, rfl, hT, hp, q⟩ := h
    refine ⟨_, pss_one (ps_if (pt_not (pt_val (pe_call GW hr (by rfl) mW kW bW .nil pass0 (pa_cons (pv 1) (pa_cons pe_int (pa_cons (pe_callB call_len_seq (by rfl) T.n_len PySem.boot_len (pa_cons (pv 0) pa_nil)) pa_nil))))))
      (pss_one ps_never) pss_nil), ?_⟩
    refine ⟨_, rfl, _, rfl, a, xs, rfl, .inr hT, (p : Int), 0, (xs.length : Int), rfl, _, rfl, ?_⟩
    have : decide ((0 : Int) ≤ p ∧ (p : Int) ≤ xs.length) = true := decide_eq_true ⟨by omega, by omega⟩
    rw [this]
    exact q
end
end Rg
/-! helpers; backs, ends_of -/
namespace Rg
open PySem PySem.Spec PyProof.Rows L2
theorem Same.tupT {K : PySem.W.Frag} {H H' : Hp} {a : Addr} {xs : List V} (e : Same H H') (h : SqT K H a xs) : SqT K H' a xs := by
  rcases h with (h | ⟨o, h⟩) | h
  · exact .inl (.inl (e _ _ h))
  · exact .inl (.inr ⟨o, e _ _ h⟩)
  · exact .inr h
theorem same_new {H : Hp} {p : Addr} {o : HO} (h : H p = none) : Same H (upd H p o) := fun b x e => by
  rw [upd_ne (ne_of_none e h)]
  exact e
theorem same_upd' {H H1 : Hp} {p : Addr} {o : HO} (s : Same H H1) (h : H p = none) : Same H (upd H1 p o) := fun b x e => by
  rw [upd_ne (ne_of_none e h)]
  exact s _ _ e
theorem intV_get {α : Type} {f : α → V} {xs : List α} {i : Nat} {x : α} (h : xs[i]? = some x) : (xs.map f)[i]? = some (f x) := by rw [List.getElem?_map, h]; rfl
theorem ixT {X : Cx} (K : PySem.W.Frag) (e : X.K = K) : IxR X (rIxT K) := by
  subst e
  exact ix_tup
section
variable {P : Program} {w : World} {K : PySem.W.Frag} {mg : Str → Option Value} {base : Heap}
theorem scBacks : FnScope ["word", "place", "lower"] ["word", "place"] (defScope s_backs) := ⟨rfl, rfl, rfl, by decide +kernel, rfl, by decide +kernel, by decide +kernel⟩
def natV (l : List Nat) : List V := l.map fun (n : Nat) => V.int (n : Int)
def spBacks (K : PySem.W.Frag) : Sp := fun vs H Q _ => ∃ (a : Addr) (ws : List Str) (p : Nat), vs = [.ref a, .int p] ∧ SqT K H a (ws.map V.str) ∧ p ≤ ws.length ∧ ws.length ≤ 1000 ∧
  ∀ H' t, Same H H' → H t = none → H' t = some (.tup (natV (backsL ws p))) → Q (.ref t) H'
theorem ok_backs (T : Fs K mg) : DefOk P w K mg base "backs" 3 ["word", "place"] (spBacks K) := by
  obtain ⟨f, fd, hm, F⟩ := T.backs
  obtain ⟨fL, fdL, mL, kL, bL, GL⟩ := ok_look (P := P) (w := w) (base := base) T
  refine ⟨f, fd, hm, F.kp, F.binds fun _ _ _ _ _ _ us hl => match us, hl with | [_, _], _ => rfl, ?_⟩
  refine F.ok scBacks (fun vs H Q E h => ?_) (fun cdv A outer s H vs Q E hr h => ?_)
  · obtain ⟨_, _, _, rfl, _⟩ := h
    rfl
  · obtain ⟨a, ws, p, rfl, hT, hp, hz, q⟩ := h
    refine ⟨_, pss_cons (ps_expr (pe_call GL hr (by rfl) mL kL bL .nil pass0 (pa_cons (pv 0) (pa_cons (pv 1) pa_nil))))
      (pss_one (ps_ret (pe_callTy call_tuple_of (by rfl) T.n_tuple boot_tuple (pa_cons
        (pe_lc (own := [("lower", 2)]) (g := gName 2) (by rfl) scBacks.nd (pi_range2 (by rfl) T.n_range (pa_cons pe_int (pa_cons (pv 1) pa_nil)))
          (blkOk_by (own := [("lower", 2)]) (N := ["word", "place", "lower"]) (sc := defScope s_backs) (by decide +kernel))
          (fun _ _ _ _ _ => pg_name (i := 2) scBacks.nd rfl (Or.inl rfl))
          (fun _ _ _ _ _ => pts_one (pt_cmpR op_eq (pe_ix (ixT K rfl) (pv 0) (pe_op op_sub (pv 2) pe_int) (fun _ _ => rfl)) (pe_ix (ixT K rfl) (pv 0) (pe_op op_sub (pv 1) pe_int) (fun _ _ => rfl)) (nomark _)))
          (fun _ _ _ _ _ => pv 2)) pa_nil)))), ?_⟩
    refine ⟨_, rfl, _, rfl, a, ws.map V.str, p, rfl, hT, by rw [List.length_map]; exact hp, ?_⟩
    refine ⟨_, rfl, 1, (p : Int), rfl, ⟨by decide, by decide, by omega, by omega⟩, fun D nD => ?_⟩
    have en : ((p : Int) - 1).toNat = p - 1 := by omega
    rw [en]
    refine lc_range (lo := 1) (n := p - 1) (fun i H' => Same H H' ∧ H' D = some (.lst (natV (((List.range i).map (· + 1)).filter fun l => decide (ws[l - 1]? = ws[p - 1]?))))) ⟨same_new nD, upd_same⟩ (fun i H' hi hP => ?_) fun H' hP => ?_
    · obtain ⟨sm, hD⟩ := hP
      have hT' : SqT K H' a (ws.map V.str) := Same.tupT sm hT
      have l1 : i < ws.length := by omega
      have l2 : p - 1 < ws.length := by omega
      have g1 : ws[i]? = some ws[i] := List.getElem?_eq_getElem l1
      have g2 : ws[p - 1]? = some ws[p - 1] := List.getElem?_eq_getElem l2
      have e1 : (1 : Int) + (i : Nat) - 1 = ((i : Nat) : Int) := by omega
      have e2 : (p : Int) - 1 = ((p - 1 : Nat) : Int) := by omega
      refine ⟨rfl, ⟨_, rfl, _, rfl, _, _, rfl, rfl, a, ws.map V.str, _, .str ws[i], rfl, rfl, hT', by rw [e1]; exact atI_nat (intV_get g1), ?_⟩⟩
      refine ⟨_, rfl, _, rfl, _, _, rfl, rfl, a, ws.map V.str, _, .str ws[p - 1], rfl, rfl, hT', by rw [e2]; exact atI_nat (intV_get g2), rfl, _, rfl, ?_⟩
      have ef : ((List.range (i + 1)).map (· + 1)).filter (fun l => decide (ws[l - 1]? = ws[p - 1]?)) = ((List.range i).map (· + 1)).filter (fun l => decide (ws[l - 1]? = ws[p - 1]?)) ++ (if ws[i] = ws[p - 1] then [i + 1] else []) := by
        rw [List.range_succ, List.map_append, List.filter_append]
        congr 1
        simp only [List.map_cons, List.map_nil, List.filter_cons, List.filter_nil, Nat.add_sub_cancel, g1, g2, Option.some.injEq]
        by_cases h : ws[i] = ws[p - 1] <;> simp [h]
      refine ite2 (fun e => ?_) fun e => ?_
      · have e := V.str.inj (of_decide_eq_true e)
        refine ⟨_, rfl, _, hD, ?_, same_upd' sm nD, ?_⟩
        · have := List.length_filter_le (fun l => decide (ws[l - 1]? = ws[p - 1]?)) ((List.range i).map (· + 1))
          rw [List.length_map, List.length_range] at this
          refine small1000 ?_
          unfold natV
          rw [List.length_map]
          omega
        · rw [upd_same, ef, if_pos e]
          unfold natV
          rw [List.map_append]
          have : ((1 : Int) + (i : Nat)) = ((i + 1 : Nat) : Int) := by omega
          rw [this]
          rfl
      · have e : ¬ ws[i] = ws[p - 1] := fun z => e (decide_eq_true (by rw [z]))
        refine ⟨sm, ?_⟩
        rw [ef, if_neg e, List.append_nil]
        exact hD
    · obtain ⟨sm, hD⟩ := hP
      refine ⟨D, _, rfl, .inl ⟨SqL.of hD, fun t nt => ?_⟩⟩
      have nt0 : H t = none := sm.free nt
      exact q _ t (same_upd' sm nt0) nt0 (by rw [upd_same]; rfl)
end
end Rg
/-! ends_of, ways_in -/
namespace Rg
open PySem PySem.Spec PyProof.Rows L2
theorem slT {X : Cx} (K : PySem.W.Frag) (e : X.K = K) : SlR X (rSlT K) := by
  subst e
  exact sl_tup
theorem pgT {X : Cx} (K : PySem.W.Frag) (e : X.K = K) {es : List Expr} {k : Nat} {pos : Pos} {t : TGs} {n : Nat} (hc : X.calm = true) (h : PGs X es t)
    (hn : (assignEach es X.env).length = n := by rfl) (hst : (assignEach es X.env).findIdx? (·.1) = none := by rfl) : PG X (.Tuple es k pos) (gTup K n t) := by
  subst e
  exact pg_tup hc h hn hst
theorem dcT_zip {K : PySem.W.Frag} {a b : Addr} {xs ys : List V} {g : TG} {tt : TT} {tk tv : TE} {vs : List Nat} {σ : L2.St} {H1 : Hp} {D : Addr} {Qd : Hp → Prop} (hl : xs.length = ys.length) (Pv : Nat → Hp → Prop) (h0 : Pv 0 (upd H1 D (.dT []))) (hq : ∀ i H, Pv i H → SqT K H a xs ∧ SqT K H b ys)
    (hs : ∀ (i : Nat) (x y : V) (T : Addr) (H : Hp), xs[i]? = some x → ys[i]? = some y → Pv i H → H T = none → g (.ref T) (wipe σ vs) (upd H T (.tup [x, y])) fun σ2 H2 => wipe σ2 vs = wipe σ vs ∧ tt σ2 H2 fun b H3 =>
      if b = true then tk σ2 H3 fun y H4 => tv σ2 H4 fun z H5 => ∃ kvs k b, y = .ref b ∧ H5 b = some (.tup (k.map kV)) ∧ H5 D = some (.dT kvs) ∧ kvs.length < sizeLine ∧ Pv (i + 1) (upd H5 D (.dT (putK kvs k z))) else Pv (i + 1) H3) (hd : ∀ H, Pv xs.length H → Qd H) :
    ∃ W : Nat → Nat → Hp → Prop, (∃ m, W 0 m (upd H1 D (.dT []))) ∧ ∀ i m H, W i m H →
      ((RZ.ItzT K a b).stop i H ∧ Qd H) ∨ ((RZ.ItzT K a b).go i H ∧ ∃ Nx : Hp → Prop, (∀ H', Nx H' → ∃ m', m' < m ∧ W (i + 1) m' H') ∧ ∀ x H', (RZ.ItzT K a b).yld i H x H' → g x (wipe σ vs) H' fun σ2 H2 => wipe σ2 vs = wipe σ vs ∧ tt σ2 H2 fun b H3 =>
        if b = true then tk σ2 H3 fun y H4 => tv σ2 H4 fun z H5 => ∃ kvs k b, y = .ref b ∧ H5 b = some (.tup (k.map kV)) ∧ H5 D = some (.dT kvs) ∧ kvs.length < sizeLine ∧ Nx (upd H5 D (.dT (putK kvs k z))) else Nx H3) := by
  refine ⟨fun i m H => m = xs.length - i ∧ i ≤ xs.length ∧ Pv i H, ⟨xs.length, by simp, Nat.zero_le _, h0⟩, ?_⟩
  rintro i m H ⟨rfl, hi, p⟩
  obtain ⟨q1, q2⟩ := hq i H p
  by_cases hlt : i < xs.length
  · have e1 : xs[i]? = some xs[i] := List.getElem?_eq_getElem hlt
    have e2 : ys[i]? = some (ys[i]'(by omega)) := List.getElem?_eq_getElem _
    refine .inr ⟨⟨xs, ys, _, _, q1, q2, e1, e2⟩, Pv (i + 1), fun H' p' => ⟨xs.length - (i + 1), by omega, rfl, hlt, p'⟩, fun x H' y => ?_⟩
    obtain ⟨T, x', y', rfl, hT, rfl, f1, f2⟩ := y
    exact hs i x' y' T H (f1 xs q1) (f2 ys q2) p hT
  · have e : i = xs.length := by omega
    subst e
    exact .inl ⟨⟨xs, ys, q1, q2, .inl (Nat.le_refl _)⟩, hd H p⟩

/-- the goals as they are handed in: None for all, or a tuple -/
def GoalsAt (K : PySem.W.Frag) (H : Hp) (g : V) (n : Nat) (es : List Int) : Prop := (g = .non ∧ es = (List.range n).map fun (i : Nat) => (i : Int)) ∨ ∃ ga, g = .ref ga ∧ SqT K H ga (es.map V.int)
theorem GoalsAt.keep {K : PySem.W.Frag} {H H' : Hp} {g : V} {n : Nat} {es : List Int} (h : GoalsAt K H g n es) (s : Same H H') : GoalsAt K H' g n es := by
  rcases h with h | ⟨ga, e, h⟩
  · exact .inl h
  · exact .inr ⟨ga, e, Same.tupT s h⟩
/-- the ways of a ring's world, as the dict holds them -/
abbrev WL := Ways Str
def armV (e : (Int × Str) × Int) : V := V.int e.2
def waysKV (W : WL) : List (List Key × V) := W.map fun e => ([Sum.inl e.1.1, Sum.inr e.1.2], V.int e.2)
/-- a web and a world: posts and their right arms -/
structure WebAt (K : PySem.W.Frag) (H : Hp) (wb wd : Addr) (n : Nat) (W : WL) : Prop where
  ex : ∃ (pt : Addr) (ps : List Addr), SqT K H wb [.int n, .ref pt] ∧ SqT K H pt (ps.map V.ref) ∧ ps.length = W.length ∧ (∀ (j : Nat) (p : Addr) (e : (Int × Str) × Int), ps[j]? = some p → W[j]? = some e → ∃ arms, SqT K H p [.int e.1.1, .str e.1.2, arms])
  wd : SqT K H wd (W.map armV)
  nod : (W.map (·.1)).Nodup
  len : W.length ≤ 1000
theorem WebAt.keep {K : PySem.W.Frag} {H H' : Hp} {wb wd : Addr} {n : Nat} {W : WL} (h : WebAt K H wb wd n W) (s : Same H H') : WebAt K H' wb wd n W := by
  obtain ⟨⟨pt, ps, h1, h2, h3, h4⟩, h5, h6, h7⟩ := h
  refine ⟨⟨pt, ps, Same.tupT s h1, Same.tupT s h2, h3, fun j p e a b => ?_⟩, Same.tupT s h5, h6, h7⟩
  obtain ⟨arms, q⟩ := h4 j p e a b
  exact ⟨arms, Same.tupT s q⟩
theorem valV_none_of {κ : Type} [DecidableEq κ] {kvs : List (κ × V)} {k : κ} (h : k ∉ kvs.map (·.1)) : valV kvs k = none := by
  unfold valV
  rw [Option.map_eq_none_iff, List.find?_eq_none]
  intro e he q
  exact h (List.mem_map.mpr ⟨e, he, of_decide_eq_true q⟩)
section
variable {P : Program} {w : World} {K : PySem.W.Frag} {mg : Str → Option Value} {base : Heap}
theorem scEnds : FnScope ["web", "goals"] ["web", "goals"] (defScope s_ends_of) := ⟨rfl, rfl, rfl, by decide +kernel, rfl, by decide +kernel, by decide +kernel⟩
def spEnds (K : PySem.W.Frag) : Sp := fun vs H Q _ => ∃ (wb : Addr) (g : V) (n : Nat) (pt : V) (es : List Int), vs = [.ref wb, g] ∧ SqT K H wb [.int n, pt] ∧ GoalsAt K H g n es ∧ n ≤ 1000 ∧
  ∀ H' t, Same H H' → SqT K H' t (es.map V.int) → Q (.ref t) H'
theorem ok_ends (T : Fs K mg) : DefOk P w K mg base "ends_of" 1 ["web", "goals"] (spEnds K) := by
  obtain ⟨f, fd, hm, F⟩ := T.ends_of
  refine ⟨f, fd, hm, F.kp, F.binds fun _ _ _ _ _ _ us hl => match us, hl with | [_, _], _ => rfl, ?_⟩
  refine F.ok scEnds (fun vs H Q E h => ?_) (fun cdv A outer s H vs Q E hr h => ?_)
  · obtain ⟨_, _, _, _, _, rfl, _⟩ := h
    rfl
  · obtain ⟨wb, g, n, pt, es, rfl, hT, hg, hn, q⟩ := h
    refine ⟨_, pss_one (ps_ret (pe_ifExp (pt_cmp (pc_isN (pv 1))) (pe_tupRg (by rfl) (by rfl) T.n_tuple (prg_1 (by rfl) T.n_range (pe_ix (ixT K rfl) (pv 0) pe_int (fun _ _ => rfl)))) (pv 1))), ?_⟩
    refine ⟨_, rfl, _, rfl, ite2 (fun e => ?_) fun e => ?_⟩
    · have e := of_decide_eq_true e
      rcases hg with ⟨_, rfl⟩ | ⟨ga, rfl, _⟩
      · refine ⟨_, rfl, wb, _, 0, .int n, rfl, rfl, hT, atI_nat (j := 0) rfl, (n : Int), rfl, .of_le (by omega) (by omega) (by omega) (by omega), fun t nt => ?_⟩
        refine q _ t (same_new nt) (.inl (.inl ?_))
        rw [upd_same]
        unfold rgV
        rw [List.map_map, show ((n : Int) - 0).toNat = n by omega]
        congr 3
        funext i
        show V.int (0 + (i : Int)) = V.int (i : Int)
        rw [Int.zero_add]
      · cases e
    · rcases hg with ⟨rfl, _⟩ | ⟨ga, rfl, hG⟩
      · exact absurd (decide_eq_true rfl) e
      · exact ⟨_, rfl, q H ga (Same.refl H) hG⟩

theorem scWays : FnScope ["web", "world", "post", "arm"] ["web", "world"] (defScope s_ways_in) := ⟨rfl, rfl, rfl, by decide +kernel, rfl, by decide +kernel, by decide +kernel⟩
def spWays (K : PySem.W.Frag) : Sp := fun vs H Q _ => ∃ (wb wd : Addr) (n : Nat) (W : WL), vs = [.ref wb, .ref wd] ∧ WebAt K H wb wd n W ∧ ∀ H' d, Same H H' → H d = none → H' d = some (.dT (waysKV W)) → Q (.ref d) H'
theorem ok_ways (T : Fs K mg) : DefOk P w K mg base "ways_in" 2 ["web", "world"] (spWays K) := by
  obtain ⟨f, fd, hm, F⟩ := T.ways_in
  refine ⟨f, fd, hm, F.kp, F.binds fun _ _ _ _ _ _ us hl => match us, hl with | [_, _], _ => rfl, ?_⟩
  refine F.ok scWays (fun vs H Q E h => ?_) (fun cdv A outer s H vs Q E hr h => ?_)
  · obtain ⟨_, _, _, _, rfl, _⟩ := h
    rfl
  · obtain ⟨wb, wd, n, W, rfl, hW, q⟩ := h
    obtain ⟨⟨pt, ps, h1, h2, h3, h4⟩, h5, h6, h7⟩ := hW
    refine ⟨_, pss_one (ps_ret (pe_dcT (own := [("post", 2), ("arm", 3)]) (hu_of hr) (by rfl) scWays.nd (RZ.pi_zipA (by rfl) T.n_zip (pa_cons (pe_ix (ixT K rfl) (pv 0) pe_int (fun _ _ => rfl)) (pa_cons (pv 1) pa_nil)))
      (blkOk_by (own := [("post", 2), ("arm", 3)]) (N := ["web", "world", "post", "arm"]) (sc := defScope s_ways_in) (by decide +kernel))
      (fun _ _ _ _ _ => pgT (n := 2) K rfl rfl (pgs_cons (pg_name (i := 2) scWays.nd rfl (Or.inl rfl)) (pgs_cons (pg_name (i := 3) scWays.nd rfl (Or.inl rfl)) pgs_nil)))
      (fun _ _ _ _ _ => pts_nil) (fun _ _ _ _ _ => pe_slice (slT K rfl) (pv 2) po_none (po_some pe_int)) (fun _ _ _ _ _ => pv 3))), ?_⟩
    refine ⟨_, rfl, wb, _, 1, .ref pt, rfl, rfl, h1, atI_nat (j := 1) rfl, _, rfl, pt, wd, ps.map V.ref, W.map armV, rfl, .inr ⟨h2, h5, fun D nD => ?_⟩⟩
    refine dcT_zip (by rw [List.length_map, List.length_map, h3]) (fun i H' => Same H H' ∧ H' D = some (.dT (waysKV (W.take i)))) ⟨same_new nD, upd_same⟩ (fun i H' hP => ⟨Same.tupT hP.1 h2, Same.tupT hP.1 h5⟩) (fun i x y Tp H' hx hy hP nT => ?_) fun H' hP => ?_
    · obtain ⟨sm, hD⟩ := hP
      have hi : i < W.length := by
        have := (List.getElem?_eq_some_iff.mp hx).1
        rw [List.length_map, h3] at this
        exact this
      have gW : W[i]? = some W[i] := List.getElem?_eq_getElem hi
      have gp : ps[i]? = some (ps[i]'(by omega)) := List.getElem?_eq_getElem _
      generalize hp : ps[i]'(by omega) = p at gp
      generalize he : W[i] = e at gW
      obtain ⟨arms, hA⟩ := h4 i p e gp gW
      have ex : x = .ref p := Option.some.inj (hx.symm.trans (intV_get gp))
      have ey : y = .int e.2 := Option.some.inj (hy.symm.trans (intV_get gW))
      subst ex; subst ey
      have nT0 : H Tp = none := sm.free nT
      have hA' : SqT K (upd H' Tp (.tup [.ref p, .int e.2])) p [.int e.1.1, .str e.1.2, arms] := Same.tupT (same_upd' sm nT0) hA
      refine ⟨Tp, [.ref p, .int e.2], rfl, .inl (.inl upd_same), rfl, .ref p, [.int e.2], rfl, .int e.2, [], rfl, rfl, rfl, ?_⟩
      refine ⟨_, rfl, 2, rfl, p, _, rfl, hA', (fun z => absurd z.2 (show ¬ HT.sIx 3 3 (some 2) = 3 by decide)), fun b nb => ⟨_, rfl, waysKV (W.take i), [Sum.inl e.1.1, Sum.inr e.1.2], b, rfl, upd_same, ?_, ?_, ?_, ?_⟩⟩
      · have n1 : D ≠ b := by
          rintro rfl
          rw [upd_ne (ne_of_none hD nT)] at nb
          rw [hD] at nb
          cases nb
        rw [upd_ne n1, upd_ne (ne_of_none hD nT)]
        exact hD
      · refine small1000 ?_
        unfold waysKV
        rw [List.length_map, List.length_take]
        omega
      · have nb0 : H b = none := (same_upd' sm nT0).free nb
        exact same_upd' (same_upd' (same_upd' sm nT0) nb0) nD
      · rw [upd_same]
        have hne : valV (waysKV (W.take i)) [Sum.inl e.1.1, Sum.inr e.1.2] = none := by
          refine valV_none_of fun hm => ?_
          unfold waysKV at hm
          rw [List.map_map] at hm
          obtain ⟨e', he', hk⟩ := List.mem_map.mp hm
          obtain ⟨j, hj, ej⟩ := List.getElem_of_mem he'
          have e1 : e'.1 = e.1 := by
            have hk' : ([Sum.inl e'.1.1, Sum.inr e'.1.2] : List Key) = [Sum.inl e.1.1, Sum.inr e.1.2] := hk
            injection hk' with k1 k2
            injection k2 with k2 _
            exact Prod.ext (Sum.inl.inj k1) (Sum.inr.inj k2)
          rw [List.length_take] at hj
          have gj : (W.map (·.1))[j]? = some e.1 := by
            rw [List.getElem?_map]
            have : W[j]? = some e' := by
              rw [← ej, List.getElem_take]
              exact List.getElem?_eq_getElem _
            rw [this, ← e1]
            rfl
          have gi : (W.map (·.1))[i]? = some e.1 := by rw [List.getElem?_map, gW]; rfl
          have := (List.getElem?_inj (by rw [List.length_map]; omega) h6).mp (gj.trans gi.symm)
          omega
        rw [putK_new _ hne, List.take_add_one, gW]
        unfold waysKV
        rw [List.map_append]
        rfl
    · obtain ⟨sm, hD⟩ := hP
      rw [List.length_map, h3, List.take_length] at hD
      exact q H' D sm nD hD
end
end Rg
/-! comers -/
namespace Rg
open PySem PySem.Spec PyProof.Rows L2
theorem valV_mem {κ : Type} [DecidableEq κ] {kvs : List (κ × V)} {k : κ} {v : V} (h : valV kvs k = some v) : (k, v) ∈ kvs := by
  unfold valV at h
  obtain ⟨e, he, q⟩ := Option.map_eq_some_iff.mp h
  have h1 := List.mem_of_find?_eq_some he
  have h2 : e.1 = k := by
    have z := List.find?_some he
    exact of_decide_eq_true z
  rw [← h2, ← q]
  exact h1
theorem valV_no {κ : Type} [DecidableEq κ] {kvs : List (κ × V)} {k : κ} (h : valV kvs k = none) : k ∉ kvs.map (·.1) := by
  unfold valV at h
  rw [Option.map_eq_none_iff, List.find?_eq_none] at h
  intro hm
  obtain ⟨e, he, q⟩ := List.mem_map.mp hm
  exact h e he (decide_eq_true q)
theorem come_snoc {W : WL} {e : (Int × Str) × Int} {c : Int} : come (W ++ [e]) c = come W c ++ (if e.2 = c then [e.1] else []) := by
  unfold come
  rw [List.filter_append, List.map_append]
  congr 1
  by_cases h : e.2 = c <;> simp [h]
theorem come_len {W : WL} {c : Int} : (come W c).length ≤ W.length := by
  unfold come
  rw [List.length_map]
  exact List.length_filter_le _ _
/-- a list of pairs (crossing, name) -/
def PairsAt (H : Hp) (l : Addr) (xs : List (Int × Str)) : Prop := ∃ ts : List Addr, H l = some (.lst (ts.map V.ref)) ∧ ts.length = xs.length ∧ ∀ (j : Nat) (t : Addr) (x : Int × Str), ts[j]? = some t → xs[j]? = some x → H t = some (.tup [.int x.1, .str x.2])
theorem PairsAt.keep {H H' : Hp} {l : Addr} {xs : List (Int × Str)} (h : PairsAt H l xs) (s : Same H H') : PairsAt H' l xs := by
  obtain ⟨ts, h1, h2, h3⟩ := h
  exact ⟨ts, s _ _ h1, h2, fun j t x a b => s _ _ (h3 j t x a b)⟩
def cKV (e : Int × Addr) : Key × V := (Sum.inl e.1, V.ref e.2)
structure CInv (HL H : Hp) (f : Addr) (W : WL) (A : List (Int × Addr)) : Prop where
  same : Same HL H
  dict : H f = some (.dK (A.map cKV))
  nk : (A.map (·.1)).Nodup
  nl : (A.map (·.2)).Nodup
  fr : ∀ e ∈ A, HL e.2 = none
  frf : HL f = none
  at_ : ∀ e ∈ A, PairsAt H e.2 (come W e.1)
  no : ∀ c, c ∉ A.map (·.1) → come W c = []
theorem inj_of_nodup {α β : Type} {f : α → β} : ∀ {l : List α}, (l.map f).Nodup → ∀ x ∈ l, ∀ y ∈ l, f x = f y → x = y
  | [], _, x, hx, _, _, _ => by cases hx
  | z :: l, h, x, hx, y, hy, e => by
    rw [List.map_cons, List.nodup_cons] at h
    rcases List.mem_cons.mp hx with hx | hx
    · rcases List.mem_cons.mp hy with hy | hy
      · rw [hx, hy]
      · exact absurd (List.mem_map.mpr ⟨y, hy, by rw [← e, hx]⟩) h.1
    · rcases List.mem_cons.mp hy with hy | hy
      · exact absurd (List.mem_map.mpr ⟨x, hx, by rw [e, hy]⟩) h.1
      · exact inj_of_nodup h.2 x hx y hy e
theorem CInv.push {HL H : Hp} {f l t : Addr} {W : WL} {A : List (Int × Addr)} {a c : Int} {nm : Str} {xs : List V} (I : CInv HL H f W A) (ha : (a, l) ∈ A) (hx : H l = some (.lst xs)) (ht : H t = some (.tup [.int c, .str nm])) : CInv HL (upd H l (.lst (xs ++ [.ref t]))) f (W ++ [((c, nm), a)]) A := by
  have nf : f ≠ l := ne_of I.dict hx (fun z => by cases z)
  have tupne : ∀ (t : Addr) (ys : List V), H t = some (.tup ys) → (upd H l (.lst (xs ++ [.ref t]))) t = some (.tup ys) ∧ t ≠ l := fun t ys e => by
    have : t ≠ l := ne_of e hx (fun z => by cases z)
    exact ⟨by rw [upd_ne this]; exact e, this⟩
  refine ⟨same_upd' I.same (I.fr _ ha), by rw [upd_ne nf]; exact I.dict, I.nk, I.nl, I.fr, I.frf, fun e he => ?_, fun c' hc' => ?_⟩
  · rw [come_snoc]
    obtain ⟨ts, h1, h2, h3⟩ := I.at_ e he
    by_cases hea : a = e.1
    · have ee : e = (a, l) := inj_of_nodup I.nk e he _ ha (by rw [← hea])
      subst ee
      rw [h1] at hx
      have exs : xs = ts.map V.ref := by injection hx with hx; injection hx with hx; exact hx.symm
      subst exs
      rw [if_pos rfl]
      refine ⟨ts ++ [t], by rw [upd_same, List.map_append]; rfl, by rw [List.length_append, List.length_append, h2]; rfl, fun j t' x q1 q2 => ?_⟩
      rcases Nat.lt_trichotomy j ts.length with z | z | z
      · rw [List.getElem?_append_left z] at q1
        rw [List.getElem?_append_left (by rw [← h2]; exact z)] at q2
        have e1 := h3 j t' x q1 q2
        rw [upd_ne (ne_of e1 h1 (fun z => by cases z))]
        exact e1
      · rw [List.getElem?_append_right (by omega), z, Nat.sub_self] at q1
        rw [List.getElem?_append_right (by omega), z, h2, Nat.sub_self] at q2
        have e1 : t = t' := Option.some.inj q1
        have e2 : (c, nm) = x := Option.some.inj q2
        rw [← e1, ← e2, upd_ne (tupne t _ ht).2]
        exact ht
      · rw [List.getElem?_eq_none (by rw [List.length_append, List.length_singleton]; omega)] at q1
        cases q1
    · rw [if_neg (show ¬ (((c, nm), a) : (Int × Str) × Int).2 = e.1 from hea), List.append_nil]
      have nel : e.2 ≠ l := fun z => by
        have ee : e = (a, l) := inj_of_nodup I.nl e he _ ha z
        exact hea (by rw [ee])
      refine ⟨ts, by rw [upd_ne nel]; exact h1, h2, fun j t' x q1 q2 => ?_⟩
      have e1 := h3 j t' x q1 q2
      rw [upd_ne (ne_of e1 hx (fun z => by cases z))]
      exact e1
  · rw [come_snoc, I.no c' hc', if_neg, List.nil_append]
    intro z
    exact hc' (by rw [← z]; exact List.mem_map.mpr ⟨_, ha, rfl⟩)
/-- what the dict of comers holds -/
def ComesAt (H : Hp) (d : Addr) (W : WL) : Prop := ∃ A : List (Int × Addr), H d = some (.dK (A.map cKV)) ∧ (∀ e ∈ A, PairsAt H e.2 (come W e.1)) ∧ ∀ c, c ∉ A.map (·.1) → come W c = []
theorem ComesAt.keep {H H' : Hp} {d : Addr} {W : WL} (h : ComesAt H d W) (s : Same H H') : ComesAt H' d W := by
  obtain ⟨A, h1, h2, h3⟩ := h
  exact ⟨A, s _ _ h1, fun e he => (h2 e he).keep s, h3⟩
section
variable {P : Program} {w : World} {K : PySem.W.Frag} {mg : Str → Option Value} {base : Heap}
theorem scComers : FnScope ["ways", "found", "crossing", "name", "arm"] ["ways"] (defScope s_comers) := ⟨rfl, rfl, rfl, by decide +kernel, rfl, by decide +kernel, by decide +kernel⟩
def spComers : Sp := fun vs H Q _ => ∃ (wd : Addr) (W : WL), vs = [.ref wd] ∧ H wd = some (.dT (waysKV W)) ∧ W.length ≤ 1000 ∧ ∀ H' d, Same H H' → H d = none → ComesAt H' d W → Q (.ref d) H'
theorem ok_comers (T : Fs K mg) : DefOk P w K mg base "comers" 2 ["ways"] spComers := by
  obtain ⟨f, fd, hm, F⟩ := T.comers
  refine ⟨f, fd, hm, F.kp, F.binds fun _ _ _ _ _ _ us hl => match us, hl with | [_], _ => rfl, ?_⟩
  refine F.ok scComers (fun vs H Q E h => ?_) (fun cdv A outer s H vs Q E hr h => ?_)
  · obtain ⟨_, _, rfl, _⟩ := h
    rfl
  · obtain ⟨wd, W, rfl, hW, hlen, q⟩ := h
    refine ⟨_, pss_cons (ps_set (i := 1) scComers.nd rfl (.inl rfl) pe_dnewK)
      (pss_cons (ps_lock (ps_for PassesOwn.never rfl (pi_itemsT (pv 0))
        (pg_tup rfl (pgs_cons (pg_tup rfl (pgs_cons (pg_name (i := 2) scComers.nd rfl (.inl rfl)) (pgs_cons (pg_name (i := 3) scComers.nd rfl (.inl rfl)) pgs_nil))) (pgs_cons (pg_name (i := 4) scComers.nd rfl (.inl rfl)) pgs_nil)))
        (pss_one (ps_expr (pe_bm PySem.F.plainAttrs_list PySem.F.slot_list_append PySem.F.type_list_append mt_append
          (pe_dsetd (pv 1) (pv 4) (pe_lst pa_nil) ⟨rfl, rfl, rfl, rfl⟩) (pa_cons (pe_tup (pa_cons (pv 2) (pa_cons (pv 3) pa_nil))) pa_nil))))))
      (pss_one (ps_ret (pv 1)))), ?_⟩
    refine fun fo nfo => ?_
    have nwf : wd ≠ fo := ne_of_none hW nfo
    refine ⟨wd, .dT (waysKV W), by rw [upd_ne nwf]; exact hW, trivial, fun od => ?_⟩
    have f0 : (upd H wd (.frz od (.dT (waysKV W)))) fo = none := by
      rw [upd_ne nwf.symm]
      exact nfo
    have s0 : Same (upd H wd (.frz od (.dT (waysKV W)))) (upd (upd H fo (.dK [])) wd (.frz od (.dT (waysKV W)))) := fun b x e => by
      by_cases hb : b = wd
      · subst hb
        rw [upd_same] at e ⊢
        exact e
      · rw [upd_ne hb] at e ⊢
        rw [upd_ne (ne_of_none e nfo)]
        exact e
    have old : ∀ b o, b ≠ wd → H b = some o → (upd H wd (.frz od (.dT (waysKV W)))) b = some o := fun b o h e => by
      rw [upd_ne h]
      exact e
    have lW : (upd H wd (.frz od (.dT (waysKV W)))) wd = some (.frz od (.dT (waysKV W))) := upd_same
    generalize upd H wd (.frz od (.dT (waysKV W))) = HL at f0 s0 lW old
    refine ⟨_, rfl, wd, od, waysKV W, rfl, upd_same, for_IT (fun i σ H' => ∃ y2 y3 y4 A, σ = [some (.ref wd), some (.ref fo), y2, y3, y4] ∧ A.length ≤ i ∧ CInv HL H' fo (W.take i) A) ⟨none, none, none, [], rfl, Nat.le_refl _, ?_⟩ (fun i σ H' _ hP => ?_) (fun i k v T1 q1 σ H' hk hP nT1 hq1 => ?_) fun σ H' hP => ?_⟩
    · exact ⟨s0, by rw [upd_ne nwf.symm, upd_same]; rfl, List.nodup_nil, List.nodup_nil, fun e he => by simp at he, f0, fun e he => by simp at he, fun c _ => rfl⟩
    · obtain ⟨_, _, _, A, _, _, I⟩ := hP
      exact I.same _ _ lW
    · obtain ⟨y2, y3, y4, A, rfl, hAl, I⟩ := hP
      have hi : i < W.length := by
        have := (List.getElem?_eq_some_iff.mp hk).1
        unfold waysKV at this
        rw [List.length_map] at this
        exact this
      have gW : W[i]? = some W[i] := List.getElem?_eq_getElem hi
      generalize he : W[i] = e at gW
      obtain ⟨⟨c, nm⟩, a⟩ := e
      have ek : (k, v) = ([Sum.inl c, Sum.inr nm], V.int a) := by
        unfold waysKV at hk
        rw [List.getElem?_map, gW] at hk
        exact (Option.some.inj hk).symm
      obtain ⟨rfl, rfl⟩ := Prod.mk.inj ek
      have nq : q1 ≠ T1 := ne_of_none hq1 nT1
      -- unpack
      refine ⟨T1, [.ref q1, .int a], rfl, .inl (.inl upd_same), rfl, .ref q1, [.int a], rfl, q1, [.int c, .str nm], rfl, .inl (.inl (by rw [upd_ne nq]; exact hq1)), rfl, .int c, [.str nm], rfl, .str nm, [], rfl, rfl, .int a, [], rfl, rfl, ?_⟩
      have nfT : fo ≠ T1 := ne_of_none I.dict nT1
      have nT1L : HL T1 = none := I.same.free nT1
      -- the state behind the pair
      have I1 : CInv HL (upd H' T1 (.tup [.ref q1, .int a])) fo (W.take i) A := by
        have sm := same_new (o := .tup [.ref q1, .int a]) nT1
        exact ⟨I.same.trans sm, sm _ _ I.dict, I.nk, I.nl, I.fr, I.frf, fun e he => (I.at_ e he).keep sm, I.no⟩
      generalize upd H' T1 (.tup [.ref q1, .int a]) = H1 at I1
      refine ⟨_, rfl, fo, rfl, .inl ⟨_, .inl I1.dict⟩, _, rfl, Nat.zero_le _, fun l nl => ?_⟩
      have nlL : HL l = none := I1.same.free nl
      have nfl : fo ≠ l := ne_of_none I1.dict nl
      have I2 : CInv HL (upd H1 l (.lst [])) fo (W.take i) A := by
        have sm := same_new (o := .lst []) nl
        exact ⟨I1.same.trans sm, sm _ _ I1.dict, I1.nk, I1.nl, I1.fr, I1.frf, fun e he => (I1.at_ e he).keep sm, I1.no⟩
      have hl' : ∀ e ∈ A, e.2 ≠ l := fun e he => by
        obtain ⟨ts, h1, _⟩ := I1.at_ e he
        exact ne_of_none h1 nl
      have hl2 : (upd H1 l (.lst [])) l = some (.lst []) := upd_same
      generalize upd H1 l (.lst []) = H2 at I2 hl2
      have tl : (W.take i).length = i := by rw [List.length_take]; omega
      -- the list that is appended to
      have fin : ∀ (H3 : Hp) (A' : List (Int × Addr)) (l' : Addr), CInv HL H3 fo (W.take i) A' → (a, l') ∈ A' → A'.length ≤ i + 1 →
          tyV K "list" (V.ref l') H3 ∧ (tCons (tVar 2) (tCons (tVar 3) tNil) [some (V.ref wd), some (V.ref fo), some (V.int c), some (V.str nm), some (V.int a)] H3 fun xs H1 => xs.length ≤ sizeLine ∧ ∀ p, H1 p = none → rAppend (V.ref l') [V.ref p] (upd H1 p (HO.tup xs))
            fun _ H1 => ∃ y2 y3 y4 A, [some (V.ref wd), some (V.ref fo), some (V.int c), some (V.str nm), some (V.int a)] = [some (V.ref wd), some (V.ref fo), y2, y3, y4] ∧ A.length ≤ i + 1 ∧ CInv HL H1 fo (W.take (i + 1)) A) := fun H3 A' l' I3 hm hl3 => by
        obtain ⟨ts, h1, h2, h3⟩ := I3.at_ _ hm
        refine ⟨.inl ⟨rfl, _, SqL.of h1⟩, _, rfl, _, rfl, (by show 2 ≤ sizeLine; decide), fun t nt => ?_⟩
        have ntl : l' ≠ t := ne_of_none h1 nt
        have I4 : CInv HL (upd H3 t (.tup [.int c, .str nm])) fo (W.take i) A' := by
          have sm := same_new (o := .tup [.int c, .str nm]) nt
          exact ⟨I3.same.trans sm, sm _ _ I3.dict, I3.nk, I3.nl, I3.fr, I3.frf, fun e he => (I3.at_ e he).keep sm, I3.no⟩
        have h1' : (upd H3 t (.tup [.int c, .str nm])) l' = some (.lst (ts.map V.ref)) := by rw [upd_ne ntl]; exact h1
        refine ⟨l', ts.map V.ref, .ref t, rfl, rfl, h1', ?_, _, _, _, A', rfl, hl3, ?_⟩
        · refine small1000 ?_
          rw [List.length_map, h2]
          have := come_len (W := W.take i) (c := a)
          show (come (W.take i) a).length ≤ 1000
          omega
        · rw [List.take_add_one, gW]
          exact I4.push hm h1' upd_same
      refine ⟨A.map cKV, Sum.inl a, I2.dict, rfl, ?_, fun v hv => ?_, fun hv => ?_⟩
      · refine small1000 ?_
        rw [List.length_map]
        omega
      · obtain ⟨e, he, q⟩ := List.mem_map.mp (valV_mem hv)
        unfold cKV at q
        obtain ⟨q1, q2⟩ := Prod.mk.inj q
        have q1 := Sum.inl.inj q1
        subst q2
        exact fin H2 A e.2 I2 (by rw [← q1]; exact he) (by omega)
      · have hno := valV_no hv
        have hna : a ∉ A.map (·.1) := fun hm => by
          obtain ⟨e, he, q⟩ := List.mem_map.mp hm
          refine hno (List.mem_map.mpr ⟨cKV e, List.mem_map.mpr ⟨e, he, rfl⟩, ?_⟩)
          unfold cKV
          rw [q]
        rw [putK_new _ hv]
        refine fin _ (A ++ [(a, l)]) l ⟨same_upd' I2.same I2.frf, ?_, ?_, ?_, ?_, I2.frf, ?_, ?_⟩ (List.mem_append_right _ (List.mem_singleton.mpr rfl)) (by rw [List.length_append, List.length_singleton]; omega)
        · rw [upd_same, List.map_append]
          rfl
        · rw [List.map_append]
          refine List.nodup_append.mpr ⟨I2.nk, by simp, fun x hx y hy e => ?_⟩
          rw [List.map_singleton, List.mem_singleton] at hy
          subst hy; subst e
          exact hna hx
        · rw [List.map_append]
          refine List.nodup_append.mpr ⟨I2.nl, by simp, fun x hx y hy e => ?_⟩
          rw [List.map_singleton, List.mem_singleton] at hy
          subst hy; subst e
          obtain ⟨e', he', q⟩ := List.mem_map.mp hx
          exact hl' e' he' q
        · intro e he
          rcases List.mem_append.mp he with he | he
          · exact I2.fr e he
          · rw [List.mem_singleton.mp he]; exact nlL
        · intro e he
          have nfo' : ∀ (b : Addr) (o o' : HO), H2 b = some o → (∀ kvs, o ≠ .dK kvs) → (upd H2 fo o') b = some o := fun b o o' e hne => by
            rw [upd_ne (ne_of e I2.dict (hne _))]
            exact e
          rcases List.mem_append.mp he with he | he
          · obtain ⟨ts, h1, h2, h3⟩ := I2.at_ e he
            exact ⟨ts, nfo' _ _ _ h1 (fun _ z => by cases z), h2, fun j t x q1 q2 => nfo' _ _ _ (h3 j t x q1 q2) (fun _ z => by cases z)⟩
          · rw [List.mem_singleton.mp he]
            show PairsAt _ l (come (W.take i) a)
            rw [I2.no a hna]
            exact ⟨[], nfo' _ _ _ hl2 (fun _ z => by cases z), rfl, fun j t x q1 _ => by simp at q1⟩
        · intro c' hc'
          refine I2.no c' fun hm => hc' ?_
          rw [List.map_append]
          exact List.mem_append_left _ hm
    · obtain ⟨y2, y3, y4, A, rfl, hAl, I⟩ := hP
      have el : W.take (waysKV W).length = W := by
        unfold waysKV
        rw [List.length_map, List.take_length]
      rw [el] at I
      have hw' := I.same _ _ lW
      refine ⟨hw', _, rfl, q _ fo (fun b o e => ?_) nfo ⟨A, ?_, fun e he => ?_, I.no⟩⟩
      · by_cases hb : b = wd
        · subst hb
          rw [hW] at e
          rw [upd_same]
          exact e
        · rw [upd_ne hb]
          exact I.same _ _ (old b o hb e)
      · rw [upd_ne nwf.symm]
        exact I.dict
      · obtain ⟨ts, h1, h2, h3⟩ := I.at_ e he
        refine ⟨ts, ?_, h2, fun j t x q1 q2 => ?_⟩
        · rw [upd_ne (ne_of h1 hw' (fun z => by cases z))]
          exact h1
        · rw [upd_ne (ne_of (h3 j t x q1 q2) hw' (fun z => by cases z))]
          exact h3 j t x q1 q2
end
end Rg
/-! later_places -/
namespace Rg
open PySem PySem.Spec PyProof.Rows L2
structure LInv (H0 H : Hp) (f : Addr) (ls : List Addr) (cur : Nat → List Nat) : Prop where
  same : Same H0 H
  at_ : H f = some (.lst (ls.map V.ref))
  nd : ls.Nodup
  off : f ∉ ls
  fr : ∀ l ∈ ls, H0 l = none
  frf : H0 f = none
  each : ∀ (j : Nat) (l : Addr), ls[j]? = some l → H l = some (.lst (natV (cur j)))
theorem LInv.new {H0 H : Hp} {f p : Addr} {ls : List Addr} {cur : Nat → List Nat} {o : HO} (I : LInv H0 H f ls cur) (h : H p = none) : LInv H0 (upd H p o) f ls cur := by
  have sm := same_new (o := o) h
  exact ⟨I.same.trans sm, sm _ _ I.at_, I.nd, I.off, I.fr, I.frf, fun j l e => sm _ _ (I.each j l e)⟩
theorem LInv.keep {H0 H H' : Hp} {f : Addr} {ls : List Addr} {cur : Nat → List Nat} (I : LInv H0 H f ls cur) (sm : Same H H') : LInv H0 H' f ls cur :=
  ⟨I.same.trans sm, sm _ _ I.at_, I.nd, I.off, I.fr, I.frf, fun j l e => sm _ _ (I.each j l e)⟩
theorem LInv.push {H0 H : Hp} {f l : Addr} {ls : List Addr} {cur cur' : Nat → List Nat} {j x : Nat} (I : LInv H0 H f ls cur) (hj : ls[j]? = some l) (h1 : cur' j = cur j ++ [x]) (h2 : ∀ i, i < ls.length → i ≠ j → cur' i = cur i) :
    LInv H0 (upd H l (.lst (natV (cur j) ++ [.int x]))) f ls cur' := by
  have hm : l ∈ ls := List.mem_of_getElem? hj
  have nfl : f ≠ l := fun z => I.off (by rw [z]; exact hm)
  refine ⟨same_upd' I.same (I.fr l hm), by rw [upd_ne nfl]; exact I.at_, I.nd, I.off, I.fr, I.frf, fun i l' e => ?_⟩
  by_cases hij : i = j
  · subst hij
    rw [hj] at e
    cases e
    rw [upd_same, h1]
    unfold natV
    rw [List.map_append]
    rfl
  · have hi : i < ls.length := (List.getElem?_eq_some_iff.mp e).1
    have : l' ≠ l := fun z => by
      subst z
      exact hij ((List.getElem?_inj hi I.nd).mp (e.trans hj.symm))
    rw [upd_ne this, h2 i hi hij]
    exact I.each i l' e
def LatersAt (H : Hp) (d : Addr) (ws : List Str) : Prop := ∃ ls : List Addr, H d = some (.lst (ls.map V.ref)) ∧ ls.length = ws.length + 1 ∧ ∀ (j : Nat) (l : Addr), ls[j]? = some l → H l = some (.lst (natV (laterL ws j)))
theorem LatersAt.keep {H H' : Hp} {d : Addr} {ws : List Str} (h : LatersAt H d ws) (s : Same H H') : LatersAt H' d ws := by
  obtain ⟨ls, h1, h2, h3⟩ := h
  exact ⟨ls, s _ _ h1, h2, fun j l e => s _ _ (h3 j l e)⟩
theorem backs_nodup {ws : List Str} {p : Nat} : (backsL ws p).Nodup := by
  unfold backsL
  refine List.Pairwise.filter _ ?_
  rw [List.pairwise_map]
  exact List.Pairwise.imp (fun {a b} h => by omega) List.pairwise_lt_range
/-- the places so far: all below i, then i where it is among the first r of its backs -/
def curL (ws : List Str) (i r : Nat) (j : Nat) : List Nat := ((List.range i).filter fun p => decide (j ∈ backsL ws p)) ++ (if j ∈ (backsL ws i).take r then [i] else [])
theorem curL_zero {ws : List Str} {j : Nat} : curL ws 0 0 j = [] := by simp [curL]
theorem curL_next {ws : List Str} {i : Nat} : curL ws i (backsL ws i).length = curL ws (i + 1) 0 := by
  funext j
  unfold curL
  rw [List.take_length, List.take_zero, List.range_succ, List.filter_append]
  by_cases h : j ∈ backsL ws i <;> simp [h]
section
variable {P : Program} {w : World} {K : PySem.W.Frag} {mg : Str → Option Value} {base : Heap}
theorem scLater : FnScope ["word", "place", "found", "low"] ["word"] (defScope s_later_places) := ⟨rfl, rfl, rfl, by decide +kernel, rfl, by decide +kernel, by decide +kernel⟩
def spLater (K : PySem.W.Frag) : Sp := fun vs H Q _ => ∃ (a : Addr) (ws : List Str), vs = [.ref a] ∧ SqT K H a (ws.map V.str) ∧ ws.length ≤ 100 ∧ ∀ H' d, Same H H' → H d = none → LatersAt H' d ws → Q (.ref d) H'
theorem ok_later (T : Fs K mg) : DefOk P w K mg base "later_places" 4 ["word"] (spLater K) := by
  obtain ⟨f, fd, hm, F⟩ := T.later_places
  obtain ⟨fB, fdB, mB, kB, bB, GB⟩ := ok_backs (P := P) (w := w) (base := base) T
  refine ⟨f, fd, hm, F.kp, F.binds fun _ _ _ _ _ _ us hl => match us, hl with | [_], _ => rfl, ?_⟩
  refine F.ok scLater (fun vs H Q E h => ?_) (fun cdv A outer s H vs Q E hr h => ?_)
  · obtain ⟨_, _, rfl, _⟩ := h
    rfl
  · obtain ⟨a, ws, rfl, hT, hlen, q⟩ := h
    refine ⟨_, pss_cons (ps_setLc (i := 2) (own := [("place", 1)]) (g := gName 1) (by rfl) scLater.nd rfl rfl (sw_true rfl rfl rfl (by decide +kernel))
        (pi_range1 (by rfl) T.n_range (pa_cons (pe_op op_add (pe_callB call_len_seq (by rfl) T.n_len PySem.boot_len (pa_cons (pv 0) pa_nil)) pe_int) pa_nil))
        (blkOk_by (own := [("place", 1)]) (N := ["word", "place", "found", "low"]) (sc := defScope s_later_places) (by decide +kernel))
        (fun _ _ _ _ _ => pg_name (i := 1) scLater.nd rfl (Or.inl rfl)) (fun _ _ _ _ _ => pts_nil) (fun _ _ _ _ _ => pe_lst pa_nil))
      (pss_cons (ps_for PassesOwn.never rfl (pi_range1 (by rfl) T.n_range (pa_cons (pe_op op_add (pe_callB call_len_seq (by rfl) T.n_len PySem.boot_len (pa_cons (pv 0) pa_nil)) pe_int) pa_nil))
        (pg_name (i := 1) scLater.nd rfl (Or.inl rfl))
        (pss_one (ps_for PassesOwn.never rfl (pi_tup (pe_call GB hr (by rfl) mB kB bB .nil pass0 (pa_cons (pv 0) (pa_cons (pv 1) pa_nil)))) (pg_name (i := 3) scLater.nd rfl (Or.inl rfl))
          (pss_one (ps_expr (pe_bm PySem.F.plainAttrs_list PySem.F.slot_list_append PySem.F.type_list_append mt_append (pe_ix ix_list (pv 2) (pv 3) (fun _ _ => rfl)) (pa_cons (pv 1) pa_nil)))))))
      (pss_one (ps_ret (pv 2)))), ?_⟩
    have el : ((ws.map V.str).length : Int) + 1 = ((ws.length + 1 : Nat) : Int) := by
      rw [List.length_map]
      omega
    refine ⟨_, rfl, a, _, rfl, .inr hT, _, 1, rfl, rfl, _, rfl, by rw [el]; omega, by rw [el]; omega, fun D nD => ?_⟩
    rw [el, Int.toNat_natCast]
    refine lc_range (lo := 0) (n := ws.length + 1) (fun i H' => ∃ ls : List Addr, ls.length = i ∧ LInv H H' D ls (fun _ => [])) ⟨[], rfl, same_new nD, upd_same, List.nodup_nil, by simp, fun l hl => by simp at hl, nD, fun j l e => by simp at e⟩ (fun i H' hi hP => ?_) fun H' hP => ?_
    · obtain ⟨ls, hl, I⟩ := hP
      refine ⟨rfl, Nat.zero_le _, fun l nl => ?_⟩
      have nDl : D ≠ l := ne_of_none I.at_ nl
      refine ⟨ls.map V.ref, by rw [upd_ne nDl]; exact I.at_, by rw [List.length_map, hl]; exact small1000 (by omega), ls ++ [l], by rw [List.length_append, hl]; rfl, ?_⟩
      have hne : ∀ l' ∈ ls, l' ≠ l := fun l' hl' => by
        obtain ⟨j, hj⟩ := List.mem_iff_getElem?.mp hl'
        exact ne_of_none (I.each j l' hj) nl
      refine ⟨same_upd' (same_upd' I.same (I.same.free nl)) I.frf, by rw [upd_same, List.map_append]; rfl, ?_, ?_, fun l' hl' => ?_, I.frf, fun j l' e => ?_⟩
      · refine List.nodup_append.mpr ⟨I.nd, by simp, fun x hx y hy e => ?_⟩
        rw [List.mem_singleton] at hy
        subst hy; subst e
        exact hne _ hx rfl
      · intro hm
        rcases List.mem_append.mp hm with h | h
        · exact I.off h
        · exact nDl (List.mem_singleton.mp h)
      · rcases List.mem_append.mp hl' with h | h
        · exact I.fr _ h
        · rw [List.mem_singleton.mp h]
          exact I.same.free nl
      · rcases Nat.lt_trichotomy j ls.length with z | z | z
        · rw [List.getElem?_append_left z] at e
          have h1 := List.mem_of_getElem? e
          rw [upd_ne (fun y => I.off (by rw [← y]; exact h1)), upd_ne (hne _ h1)]
          exact I.each j l' e
        · rw [List.getElem?_append_right (by omega), z, Nat.sub_self] at e
          have e : l = l' := Option.some.inj e
          rw [← e, upd_ne nDl.symm, upd_same]
          rfl
        · rw [List.getElem?_eq_none (by rw [List.length_append, List.length_singleton]; omega)] at e
          cases e
    · obtain ⟨ls, hl, I⟩ := hP
      -- the loops
      have I0 : LInv H H' D ls (curL ws 0 0) := by
        have : curL ws 0 0 = fun _ => [] := by
          funext j
          exact curL_zero
        rw [this]
        exact I
      refine ⟨_, rfl, a, _, rfl, .inr (Same.tupT I.same hT), _, 1, rfl, rfl, _, rfl, by rw [el]; omega, by rw [el]; omega, ?_⟩
      rw [el, Int.toNat_natCast]
      refine for_range (lo := 0) (n := ws.length + 1) (fun i σ H' => ∃ y1 y3, σ = [some (.ref a), y1, some (.ref D), y3] ∧ LInv H H' D ls (curL ws i 0)) ⟨none, none, rfl, I0⟩ (fun i σ H1 hi hP => ?_) fun σ H1 hP => ?_
      · obtain ⟨y1, y3, rfl, I1⟩ := hP
        have ei : (0 : Int) + (i : Nat) = ((i : Nat) : Int) := by omega
        rw [ei]
        refine ⟨_, rfl, _, rfl, a, ws, i, rfl, Same.tupT I1.same hT, by omega, by omega, fun H2 t sm nt ht => ⟨t, rfl, ⟨_, SqT.of ht⟩, ?_⟩⟩
        have I2 : LInv H H2 D ls (curL ws i 0) := I1.keep sm
        have ntH : H t = none := I1.same.free nt
        refine for_tup (K := K) (a := t) (xs := natV (backsL ws i)) (fun r σ H' => ∃ y3, σ = [some (.ref a), some (.int (i : Int)), some (.ref D), y3] ∧ H' t = some (.tup (natV (backsL ws i))) ∧ LInv H H' D ls (curL ws i r)) ⟨y3, rfl, ht, I2⟩ (fun r σ H' _ hP => SqT.of hP.choose_spec.2.1) (fun r x σ H3 hx hP => ?_) fun σ H3 hP => ?_
        · obtain ⟨y, rfl, ht3, I3⟩ := hP
          have hrl : r < (backsL ws i).length := by
            have := (List.getElem?_eq_some_iff.mp hx).1
            unfold natV at this
            rw [List.length_map] at this
            exact this
          have gb : (backsL ws i)[r]? = some (backsL ws i)[r] := List.getElem?_eq_getElem hrl
          generalize hlow : (backsL ws i)[r] = low at gb
          have ex : x = .int (low : Int) := by
            unfold natV at hx
            exact Option.some.inj (hx.symm.trans (intV_get gb))
          subst ex
          have hmem := mem_backs.mp (List.mem_of_getElem? gb)
          have hll : low < ls.length := by omega
          have gl : ls[low]? = some ls[low] := List.getElem?_eq_getElem hll
          generalize ls[low] = l at gl
          have hl3 := I3.each low l gl
          refine ⟨_, rfl, _, rfl, D, ls.map V.ref, _, .ref l, rfl, rfl, SqL.of I3.at_, atI_nat (intV_get gl), .inl ⟨rfl, _, SqL.of hl3⟩, _, rfl, l, natV (curL ws i r low), .int (i : Int), rfl, rfl, hl3, ?_, _, rfl, ?_, ?_⟩
          · refine small1000 ?_
            unfold natV curL
            rw [List.length_map, List.length_append]
            have h1 := List.length_filter_le (fun p => decide (low ∈ backsL ws p)) (List.range i)
            rw [List.length_range] at h1
            have h2 : (if low ∈ (backsL ws i).take r then [i] else []).length ≤ 1 := by split <;> simp
            omega
          · rw [upd_ne (ne_of ht3 hl3 (fun z => by cases z))]
            exact ht3
          · have hnot : low ∉ (backsL ws i).take r := fun hm => by
              obtain ⟨j, hj, ej⟩ := List.getElem_of_mem hm
              rw [List.length_take] at hj
              have gj : (backsL ws i)[j]? = some low := by
                rw [← ej, List.getElem_take]
                exact List.getElem?_eq_getElem _
              have := (List.getElem?_inj (by omega) backs_nodup).mp (gj.trans gb.symm)
              omega
            refine I3.push gl ?_ fun j hj hne => ?_
            · unfold curL
              rw [if_neg hnot, List.append_nil, if_pos (by rw [List.take_add_one, gb]; simp)]
            · unfold curL
              congr 1
              have : (j ∈ (backsL ws i).take (r + 1)) ↔ (j ∈ (backsL ws i).take r) := by
                rw [List.take_add_one, gb, List.mem_append]
                simp [hne]
              by_cases h : j ∈ (backsL ws i).take r
              · rw [if_pos h, if_pos (this.mpr h)]
              · rw [if_neg h, if_neg (fun z => h (this.mp z))]
        · obtain ⟨y, rfl, ht3, I3⟩ := hP
          have en : (natV (backsL ws i)).length = (backsL ws i).length := List.length_map ..
          rw [en, curL_next] at I3
          exact ⟨_, y, rfl, I3⟩
      · obtain ⟨y1, y3, rfl, I1⟩ := hP
        refine ⟨_, rfl, q H1 D I1.same I1.frf ⟨ls, I1.at_, hl, fun j l e => ?_⟩⟩
        have := I1.each j l e
        have ec : curL ws (ws.length + 1) 0 j = laterL ws j := by
          unfold curL laterL
          rw [List.take_zero, if_neg (by simp), List.append_nil]
        rw [ec] at this
        exact this
end
end Rg
/-! the search's state in the heap -/
namespace Rg
open PySem PySem.Spec PyProof.Rows L2
def keyS (s : Spot) : List Key := [Sum.inl s.1, Sum.inl (s.2 : Int)]
theorem keyS_inj {s t : Spot} (h : keyS s = keyS t) : s = t := by
  unfold keyS at h
  injection h with h1 h2
  injection h2 with h2 _
  have h1 := Sum.inl.inj h1
  have h2 := Sum.inl.inj h2
  exact Prod.ext h1 (by omega)
def encF (F : Fd) : List (List Key × V) := F.map fun e => (keyS e.1, V.int (e.2 : Int))
theorem valV_enc (s : Spot) : ∀ F : Fd, valV (encF F) (keyS s) = (lk F s).map fun d => V.int (d : Int)
  | [] => rfl
  | e :: F => by
    have ih := valV_enc s F
    by_cases h : e.1 = s
    · show valV ((keyS e.1, V.int (e.2 : Int)) :: encF F) (keyS s) = _
      rw [valV_pos (show keyS e.1 = keyS s by rw [h])]
      unfold lk
      rw [List.find?_cons, decide_eq_true h]
      rfl
    · show valV ((keyS e.1, V.int (e.2 : Int)) :: encF F) (keyS s) = _
      rw [valV_neg (show ¬ keyS e.1 = keyS s from fun z => h (keyS_inj z)), ih]
      unfold lk
      rw [List.find?_cons, decide_eq_false h]
theorem encF_put {F : Fd} {s : Spot} {k : Nat} (h : lk F s = none) : putK (encF F) (keyS s) (.int (k : Int)) = encF (F ++ [(s, k)]) := by
  rw [putK_new _ (by rw [valV_enc, h]; rfl)]
  unfold encF
  rw [List.map_append]
  rfl
def spotT (s : Spot) : List V := [.int s.1, .int (s.2 : Int)]
theorem spotT_key (s : Spot) : (keyS s).map kV = spotT s := rfl
def SpotsAt (H : Hp) (l : Addr) (S : List Spot) : Prop := ∃ ts : List Addr, H l = some (.lst (ts.map V.ref)) ∧ ts.length = S.length ∧ ∀ (j : Nat) (t : Addr) (s : Spot), ts[j]? = some t → S[j]? = some s → H t = some (.tup (spotT s))
theorem SpotsAt.keep {H H' : Hp} {l : Addr} {S : List Spot} (h : SpotsAt H l S) (s : Same H H') : SpotsAt H' l S := by
  obtain ⟨ts, h1, h2, h3⟩ := h
  exact ⟨ts, s _ _ h1, h2, fun j t x a b => s _ _ (h3 j t x a b)⟩
/-- an object of another kind, or another list, changes -/
theorem SpotsAt.other {H : Hp} {l b : Addr} {S : List Spot} {o : HO} (h : SpotsAt H l S) (n1 : l ≠ b) (n2 : ∀ xs, H b ≠ some (.tup xs)) : SpotsAt (upd H b o) l S := by
  obtain ⟨ts, h1, h2, h3⟩ := h
  refine ⟨ts, by rw [upd_ne n1]; exact h1, h2, fun j t x p q => ?_⟩
  have := h3 j t x p q
  rw [upd_ne (fun z => by subst z; exact n2 _ this)]
  exact this
theorem SpotsAt.snoc {H : Hp} {l t : Addr} {S : List Spot} {s : Spot} {xs : List V} (h : SpotsAt H l S) (hl : H l = some (.lst xs)) (ht : H t = some (.tup (spotT s))) : SpotsAt (upd H l (.lst (xs ++ [.ref t]))) l (S ++ [s]) := by
  obtain ⟨ts, h1, h2, h3⟩ := h
  rw [h1] at hl
  have exs : xs = ts.map V.ref := by injection hl with hl; injection hl with hl; exact hl.symm
  subst exs
  refine ⟨ts ++ [t], by rw [upd_same, List.map_append]; rfl, by rw [List.length_append, List.length_append, h2]; rfl, fun j t' x q1 q2 => ?_⟩
  have tl : ∀ (t' : Addr) (ys : List V), H t' = some (.tup ys) → (upd H l (.lst (ts.map V.ref ++ [.ref t]))) t' = some (.tup ys) := fun t' ys e => by
    rw [upd_ne (ne_of e h1 (fun z => by cases z))]
    exact e
  rcases Nat.lt_trichotomy j ts.length with z | z | z
  · rw [List.getElem?_append_left z] at q1
    rw [List.getElem?_append_left (by rw [← h2]; exact z)] at q2
    exact tl _ _ (h3 j t' x q1 q2)
  · rw [List.getElem?_append_right (by omega), z, Nat.sub_self] at q1
    rw [List.getElem?_append_right (by omega), z, h2, Nat.sub_self] at q2
    have e1 : t = t' := Option.some.inj q1
    have e2 : s = x := Option.some.inj q2
    rw [← e1, ← e2]
    exact tl _ _ ht
  · rw [List.getElem?_eq_none (by rw [List.length_append, List.length_singleton]; omega)] at q1
    cases q1
theorem SpotsAt.cat {H : Hp} {l b p : Addr} {S T : List Spot} (h : SpotsAt H l S) (g : SpotsAt H b T) {xs ys : List V} (hl : H l = some (.lst xs)) (hb : H b = some (.lst ys)) (hp : ∀ zs, H p ≠ some (.tup zs)) : SpotsAt (upd H p (.lst (xs ++ ys))) p (S ++ T) := by
  obtain ⟨ts, h1, h2, h3⟩ := h
  obtain ⟨us, g1, g2, g3⟩ := g
  rw [h1] at hl
  rw [g1] at hb
  have exs : xs = ts.map V.ref := by injection hl with hl; injection hl with hl; exact hl.symm
  have eys : ys = us.map V.ref := by injection hb with hb; injection hb with hb; exact hb.symm
  subst exs; subst eys
  refine ⟨ts ++ us, by rw [upd_same, List.map_append], by rw [List.length_append, List.length_append, h2, g2], fun j t x q1 q2 => ?_⟩
  have tl : ∀ (t' : Addr) (zs : List V), H t' = some (.tup zs) → (upd H p (.lst (ts.map V.ref ++ us.map V.ref))) t' = some (.tup zs) := fun t' zs e => by
    rw [upd_ne (fun z => by subst z; exact hp _ e)]
    exact e
  rcases Nat.lt_or_ge j ts.length with z | z
  · rw [List.getElem?_append_left z] at q1
    rw [List.getElem?_append_left (by rw [← h2]; exact z)] at q2
    exact tl _ _ (h3 j t x q1 q2)
  · rw [List.getElem?_append_right z] at q1
    rw [List.getElem?_append_right (by rw [← h2]; exact z), ← h2] at q2
    exact tl _ _ (g3 _ t x q1 q2)
theorem SpotsAt.nil {H : Hp} {l : Addr} (h : H l = some (.lst [])) : SpotsAt H l [] := ⟨[], h, rfl, fun j t s e => by simp at e⟩
/-- while the layer is gone through -/
structure P1 (H1 H : Hp) (fo la ha : Addr) (F : Fd) (layer here : List Spot) : Prop where
  same : Same H1 H
  fd : H fo = some (.dT (encF F))
  sl : SpotsAt H la layer
  sh : SpotsAt H ha here
  ne : la ≠ ha
  nha : H1 ha = none
  nfo : H1 fo = none
theorem P1.keep {H1 H H' : Hp} {fo la ha : Addr} {F : Fd} {layer here : List Spot} (I : P1 H1 H fo la ha F layer here) (s : Same H H') : P1 H1 H' fo la ha F layer here :=
  ⟨I.same.trans s, s _ _ I.fd, I.sl.keep s, I.sh.keep s, I.ne, I.nha, I.nfo⟩
theorem P1.take {H1 H : Hp} {fo la ha t : Addr} {F : Fd} {layer here : List Spot} {s : Spot} {k : Nat} {xs : List V} (I : P1 H1 H fo la ha F layer here) (ht : H t = some (.tup (spotT s))) (hx : H ha = some (.lst xs)) :
    P1 H1 (upd (upd H fo (.dT (encF (F ++ [(s, k)])))) ha (.lst (xs ++ [.ref t]))) fo la ha (F ++ [(s, k)]) layer (here ++ [s]) := by
  have nd : ∀ zs, H fo ≠ some (.tup zs) := fun zs e => by rw [I.fd] at e; cases e
  have nlst : ∀ (l : Addr) (S : List Spot), SpotsAt H l S → l ≠ fo := fun l S h => by
    obtain ⟨ts, h1, _⟩ := h
    exact ne_of h1 I.fd (fun z => by cases z)
  have n1 := nlst _ _ I.sl
  have n2 := nlst _ _ I.sh
  have la1 := I.sl.other (o := .dT (encF (F ++ [(s, k)]))) n1 nd
  have ha1 := I.sh.other (o := .dT (encF (F ++ [(s, k)]))) n2 nd
  have hx1 : (upd H fo (.dT (encF (F ++ [(s, k)])))) ha = some (.lst xs) := by rw [upd_ne n2]; exact hx
  have ht1 : (upd H fo (.dT (encF (F ++ [(s, k)])))) t = some (.tup (spotT s)) := by
    rw [upd_ne (ne_of ht I.fd (fun z => by cases z))]
    exact ht
  have sm : Same H1 (upd H fo (.dT (encF (F ++ [(s, k)])))) := same_upd' I.same I.nfo
  have fd1 : (upd H fo (.dT (encF (F ++ [(s, k)])))) fo = some (.dT (encF (F ++ [(s, k)]))) := upd_same
  generalize upd H fo (.dT (encF (F ++ [(s, k)]))) = H2 at *
  exact ⟨same_upd' sm I.nha, by rw [upd_ne n2.symm]; exact fd1, la1.other I.ne (fun zs e => by rw [hx1] at e; cases e), ha1.snoc hx1 ht1, I.ne, I.nha, I.nfo⟩
/-- the found ones are few -/
theorem few {α : Type} [DecidableEq α] {word : List α} {Wf : Int → α → Option Int} {ends : Int → Prop} {B k : Nat} {F0 F : Fd} {P here layer U : List Spot} (hU : ∀ c p d, M word Wf ends c p d → (c, p) ∈ U) (a : InvA word Wf ends B k F0 layer) (b : InvB word Wf ends k F0 P F here) : F.length ≤ U.length := by
  have h := nodup_len (InvB.all_nod a b) (u := U) fun s hs => by
    rcases (b.keys s).mp hs with h | h
    · cases q : lk F0 s with
      | none => exact absurd h (lk_none.mp q)
      | some d => exact hU _ _ _ ((a.fnd s d).mp q).1
    · exact hU _ _ _ ((b.mem s).mp h).1
  rw [List.length_map] at h
  exact h
theorem here_le {α : Type} [DecidableEq α] {word : List α} {Wf : Int → α → Option Int} {ends : Int → Prop} {k : Nat} {F0 F : Fd} {P here : List Spot} (b : InvB word Wf ends k F0 P F here) : here.length ≤ F.length := by
  rw [b.eq, List.length_append, List.length_map]
  omega
theorem nxt_len {ws : List Str} {W : WL} {s : Spot} : (nxt1 ws W s).length ≤ W.length := by
  unfold nxt1
  split
  · exact Nat.zero_le _
  · rw [List.length_map]
    exact Nat.le_trans (List.length_filter_le _ _) come_len
theorem flat_len {α β : Type} {f : α → List β} {b : Nat} (h : ∀ x, (f x).length ≤ b) : ∀ l : List α, (l.flatMap f).length ≤ l.length * b
  | [] => by simp
  | x :: l => by
    rw [List.flatMap_cons, List.length_append, List.length_cons, Nat.add_mul, Nat.one_mul]
    have := flat_len h l
    have := h x
    omega
end Rg
/-! fewest_steps -/
namespace Rg
open PySem PySem.Spec PyProof.Rows L2
theorem lenS {X : Cx} (K : PySem.W.Frag) (e : X.K = K) : CallR X (.builtin "len") (fun xs H Q => ∃ p ys, xs = [V.ref p] ∧ (SqL K H p ys ∨ SqT K H p ys) ∧ Q (V.int (ys.length : Int)) H) := by
  subst e
  exact call_len_seq
theorem SpotsAt.get {H : Hp} {l : Addr} {S : List Spot} {xs : List V} (h : SpotsAt H l S) (hl : H l = some (.lst xs)) : xs.length = S.length ∧ ∀ (i : Nat) (x : V), xs[i]? = some x → ∃ t s, x = .ref t ∧ S[i]? = some s ∧ H t = some (.tup (spotT s)) := by
  obtain ⟨ts, h1, h2, h3⟩ := h
  rw [h1] at hl
  have e : xs = ts.map V.ref := by injection hl with hl; injection hl with hl; exact hl.symm
  subst e
  refine ⟨by rw [List.length_map, h2], fun i x hx => ?_⟩
  have hi : i < ts.length := by
    have := (List.getElem?_eq_some_iff.mp hx).1
    rw [List.length_map] at this
    exact this
  have g1 : ts[i]? = some ts[i] := List.getElem?_eq_getElem hi
  have g2 : S[i]? = some (S[i]'(by omega)) := List.getElem?_eq_getElem _
  exact ⟨_, _, Option.some.inj (hx.symm.trans (intV_get g1)), g2, h3 i _ _ g1 g2⟩
theorem SpotsAt.lst {H : Hp} {l : Addr} {S : List Spot} (h : SpotsAt H l S) : ∃ xs, H l = some (.lst xs) ∧ xs.length = S.length := by
  obtain ⟨ts, h1, h2, h3⟩ := h
  exact ⟨_, h1, by rw [List.length_map, h2]⟩
theorem PairsAt.get {H : Hp} {l : Addr} {S : List (Int × Str)} (h : PairsAt H l S) : ∃ xs, H l = some (.lst xs) ∧ xs.length = S.length ∧ ∀ (i : Nat) (x : V), xs[i]? = some x → ∃ t s, x = .ref t ∧ S[i]? = some s ∧ H t = some (.tup [.int s.1, .str s.2]) := by
  obtain ⟨ts, h1, h2, h3⟩ := h
  refine ⟨ts.map V.ref, h1, by rw [List.length_map, h2], fun i x hx => ?_⟩
  have hi : i < ts.length := by
    have := (List.getElem?_eq_some_iff.mp hx).1
    rw [List.length_map] at this
    exact this
  have g1 : ts[i]? = some ts[i] := List.getElem?_eq_getElem hi
  have g2 : S[i]? = some (S[i]'(by omega)) := List.getElem?_eq_getElem _
  exact ⟨_, _, Option.some.inj (hx.symm.trans (intV_get g1)), g2, h3 i _ _ g1 g2⟩
/-- what is read beside the search -/
theorem P1.rest {H1 H : Hp} {fo la ha t : Addr} {F : Fd} {layer here : List Spot} {s : Spot} {k : Nat} {xs : List V} (I : P1 H1 H fo la ha F layer here) (hx : H ha = some (.lst xs)) :
    (∀ b S, b ≠ ha → SpotsAt H b S → SpotsAt (upd (upd H fo (.dT (encF (F ++ [(s, k)])))) ha (.lst (xs ++ [.ref t]))) b S) ∧ (∀ b ys, b ≠ ha → H b = some (.lst ys) → (upd (upd H fo (.dT (encF (F ++ [(s, k)])))) ha (.lst (xs ++ [.ref t]))) b = some (.lst ys)) := by
  have nd : ∀ zs, H fo ≠ some (.tup zs) := fun zs e => by rw [I.fd] at e; cases e
  have nl : ∀ b ys, H b = some (.lst ys) → b ≠ fo := fun b ys e => ne_of e I.fd (fun z => by cases z)
  refine ⟨fun b S nb h => ?_, fun b ys nb h => by rw [upd_ne nb, upd_ne (nl _ _ h)]; exact h⟩
  obtain ⟨ys, hy, _⟩ := h.lst
  refine (h.other (nl _ _ hy) nd).other nb fun zs e => ?_
  rw [upd_ne (nl _ _ hx), hx] at e
  cases e
/-- the list ha grows by another one -/
theorem P1.ext {H1 H : Hp} {fo la ha b : Addr} {F : Fd} {layer here T : List Spot} {xs ys : List V} (I : P1 H1 H fo la ha F layer here) (hx : H ha = some (.lst xs)) (hb : SpotsAt H b T) (hy : H b = some (.lst ys)) :
    P1 H1 (upd H ha (.lst (xs ++ ys))) fo la ha F layer (here ++ T) := by
  have nt : ∀ zs, H ha ≠ some (.tup zs) := fun zs e => by rw [hx] at e; cases e
  exact ⟨same_upd' I.same I.nha, by rw [upd_ne (ne_of I.fd hx (fun z => by cases z))]; exact I.fd, I.sl.other I.ne nt, I.sh.cat hb hx hy nt, I.ne, I.nha, I.nfo⟩
/-- `come_from.get(crossing, []) if place > 0 else []` -/
theorem some_ok {cf : Addr} {W : WL} {s : Spot} {σ : L2.St} {H : Hp} {Q : VK} (h4 : σ[4]? = some (some (.ref cf))) (h10 : σ[10]? = some (some (.int s.1))) (h11 : σ[11]? = some (some (.int (s.2 : Int)))) (hC : ComesAt H cf W)
    (h : ∀ H' b, Same H H' → PairsAt H' b (if s.2 = 0 then [] else come W s.1) → Q (.ref b) H') :
    tIf (tTest (tOp (rI0 fun i j => .bl (decide (j < i))) (tVar 11) (tC (.int 0)))) (tDGet2 (tVar 4) (tVar 10) (tLst tNil)) (tLst tNil) σ H Q := by
  refine ⟨_, h11, (s.2 : Int), 0, rfl, rfl, _, rfl, ?_⟩
  have new : ∀ l, H l = none → Same H (upd H l (.lst [])) ∧ PairsAt (upd H l (.lst [])) l [] := fun l nl => ⟨same_new nl, [], upd_same, rfl, fun j t x e _ => by simp at e⟩
  refine ite2 (fun e => ?_) fun e => ?_
  · have e : (0 : Int) < s.2 := of_decide_eq_true e
    have n0 : ¬ s.2 = 0 := by omega
    rw [if_neg n0] at h
    obtain ⟨A, h1, h2, h3⟩ := hC
    refine ⟨_, h4, cf, rfl, .inl ⟨_, .inl h1⟩, _, h10, Nat.zero_le _, fun l nl => ?_⟩
    obtain ⟨sm, pn⟩ := new l nl
    have h1' := sm _ _ h1
    refine ⟨_, DGet.k (k := Sum.inl s.1) h1', ?_⟩
    cases q : valV (A.map cKV) (Sum.inl s.1) with
    | some v =>
      obtain ⟨e', he, q'⟩ := List.mem_map.mp (valV_mem q)
      unfold cKV at q'
      obtain ⟨q1, q2⟩ := Prod.mk.inj q'
      have q1 := Sum.inl.inj q1
      subst q2
      refine h _ _ sm ?_
      have := (h2 e' he).keep sm
      rw [q1] at this
      exact this
    | none =>
      refine h _ _ sm ?_
      rw [h3 s.1 fun hm => ?_]
      · exact pn
      · obtain ⟨e', he, q'⟩ := List.mem_map.mp hm
        refine valV_no q (List.mem_map.mpr ⟨cKV e', List.mem_map.mpr ⟨e', he, rfl⟩, ?_⟩)
        unfold cKV
        rw [q']
  · have n0 : s.2 = 0 := by
      have : ¬ (0 : Int) < s.2 := fun z => e (decide_eq_true z)
      omega
    rw [if_pos n0] at h
    refine ⟨Nat.zero_le _, fun l nl => ?_⟩
    obtain ⟨sm, pn⟩ := new l nl
    exact h _ _ sm pn
section
variable {P : Program} {w : World} {K : PySem.W.Frag} {mg : Str → Option Value} {base : Heap}
abbrev nsFew : List Str := ["web", "world", "word", "goals", "come_from", "later", "found", "layer", "steps", "here", "crossing", "place", "spot", "some", "late", "ahead", "name"]
theorem scFew : FnScope nsFew ["web", "world", "word", "goals"] (defScope s_fewest_steps) := ⟨rfl, rfl, rfl, by decide +kernel, rfl, by decide +kernel, by decide +kernel⟩
/-- the promise: a dict of all that ends well -/
def spFew (K : PySem.W.Frag) : Sp := fun vs H Q _ => ∃ (wb wd wo : Addr) (g : V) (n : Nat) (W : WL) (ws : List Str) (es : List Int) (U : List Spot) (B : Nat), vs = [.ref wb, .ref wd, .ref wo, g] ∧ WebAt K H wb wd n W ∧ SqT K H wo (ws.map V.str) ∧ ws.length ≤ 100 ∧ GoalsAt K H g n es ∧ n ≤ 1000 ∧ es.length ≤ 1000 ∧
  (∀ c p d, M ws (wf W) (· ∈ es) c p d → (c, p) ∈ U) ∧ U.length ≤ 1000 ∧ (∀ c p d, M ws (wf W) (· ∈ es) c p d → d ≤ B) ∧
  ∀ H' d F, Same H H' → H d = none → H' d = some (.dT (encF F)) → (F.map (·.1)).Nodup → F.length ≤ 1000 → (∀ s k, lk F s = some k ↔ M ws (wf W) (· ∈ es) s.1 s.2 k) → Q (.ref d) H'
theorem ok_few (T : Fs K mg) : DefOk P w K mg base "fewest_steps" 5 ["web", "world", "word", "goals"] (spFew K) := by
  obtain ⟨f, fd, hm, F⟩ := T.fewest_steps
  obtain ⟨fC, fdC, mC, kC, bC, GC⟩ := ok_comers (P := P) (w := w) (base := base) T
  obtain ⟨fY, fdY, mY, kY, bY, GY⟩ := ok_ways (P := P) (w := w) (base := base) T
  obtain ⟨fL, fdL, mL, kL, bL, GL⟩ := ok_later (P := P) (w := w) (base := base) T
  obtain ⟨fE, fdE, mE, kE, bE, GE⟩ := ok_ends (P := P) (w := w) (base := base) T
  refine ⟨f, fd, hm, F.kp, F.binds fun _ _ _ _ _ _ us hl => match us, hl with | [_, _, _, _], _ => rfl, ?_⟩
  refine F.ok scFew (fun vs H Q E h => ?_) (fun cdv A outer s H vs Q E hr h => ?_)
  · obtain ⟨_, _, _, _, _, _, _, _, _, _, rfl, _⟩ := h
    rfl
  · obtain ⟨wb, wd, wo, g, n, W, ws, es, U, B, rfl, hW, hT, hlen, hG, hn, hes, hU, hUl, hB, q⟩ := h
    have hu := hu_of hr
    refine ⟨_, pss_cons (ps_par3 (i := 4) (j := 5) (l := 6) (by rfl) scFew.nd rfl rfl rfl (by decide) (by decide) (by decide) rfl rfl rfl
        (pa_cons (pe_call GC (hr.mono (by decide)) (by rfl) mC kC bC .nil pass0 (pa_cons (pe_call GY (hr.mono (by decide)) (by rfl) mY kY bY .nil pass0 (pa_cons (pv 0) (pa_cons (pv 1) pa_nil))) pa_nil))
          (pa_cons (pe_call GL hr (by rfl) mL kL bL .nil pass0 (pa_cons (pv 2) pa_nil)) (pa_cons pe_dnewT pa_nil))) (by rfl))
      (pss_cons (ps_par (i := 7) (j := 8) (by rfl) scFew.nd rfl rfl (by decide) rfl rfl
        (pa_cons (pe_lc (own := [("crossing", 10)]) (g := gName 10) (by rfl) scFew.nd (pi_tup (pe_call GE (hr.mono (by decide)) (by rfl) mE kE bE .nil pass0 (pa_cons (pv 0) (pa_cons (pv 3) pa_nil))))
            (blkOk_by (own := [("crossing", 10)]) (N := nsFew) (sc := defScope s_fewest_steps) (by decide +kernel))
            (fun _ _ _ _ _ => pg_name (i := 10) scFew.nd rfl (Or.inl rfl)) (fun _ _ _ _ _ => pts_nil)
            (fun _ _ _ _ _ => pe_tup (pa_cons (pv 10) (pa_cons (pe_callB (lenS K rfl) (by rfl) T.n_len PySem.boot_len (pa_cons (pv 2) pa_nil)) pa_nil))))
          (pa_cons pe_int pa_nil)) (by rfl))
      (pss_cons (ps_while PassesOwn.never (pt_truth (pv 7) (by intro _; rfl))
        (pss_cons (ps_set (i := 9) scFew.nd rfl (.inl rfl) (pe_lst pa_nil))
        (pss_cons (ps_for PassesOwn.never rfl (pi_list (pv 7)) (pg_tup (n := 2) rfl (pgs_cons (pg_name (i := 10) scFew.nd rfl (.inr rfl)) (pgs_cons (pg_name (i := 11) scFew.nd rfl (.inr rfl)) pgs_nil)))
          (pss_one (ps_for PassesOwn.never rfl
            (pi_list (pe_op op_cat (pe_lst (pa_cons (pe_tup (pa_cons (pv 10) (pa_cons (pv 11) pa_nil))) pa_nil))
              (pe_lc (own := [("late", 14)]) (g := gName 14) (by rfl) scFew.nd (pi_list (pe_ix ix_list (pv 5) (pv 11) (fun _ _ => rfl)))
                (blkOk_by (own := [("late", 14)]) (N := nsFew) (sc := defScope s_fewest_steps) (by decide +kernel))
                (fun _ _ _ _ _ => pg_name (i := 14) scFew.nd rfl (Or.inl rfl)) (fun _ _ _ _ _ => pts_nil)
                (fun _ _ _ _ _ => pe_tup (pa_cons (pv 10) (pa_cons (pv 14) pa_nil))))))
            (pg_name (i := 12) scFew.nd rfl (.inl rfl))
            (pss_one (ps_if (pt_cmp (pc_dnotin hu (pv 12) (pv 6)))
              (pss_cons (ps_dput hu (pv 6) (pv 12) (pv 8) (by rfl))
              (pss_one (ps_expr (pe_bm PySem.F.plainAttrs_list PySem.F.slot_list_append PySem.F.type_list_append mt_append (pv 9) (pa_cons (pv 12) pa_nil)))))
              pss_nil)))))
        (pss_cons (ps_par (i := 7) (j := 8) (by rfl) scFew.nd rfl rfl (by decide) rfl rfl (pa_cons (pe_lst pa_nil) (pa_cons (pe_op op_add (pv 8) pe_int) pa_nil)) (by rfl))
        (pss_one (ps_for PassesOwn.never rfl (pi_list (pv 9)) (pg_tup (n := 2) rfl (pgs_cons (pg_name (i := 10) scFew.nd rfl (.inr rfl)) (pgs_cons (pg_name (i := 11) scFew.nd rfl (.inr rfl)) pgs_nil)))
          (pss_cons (ps_set (i := 13) scFew.nd rfl (.inl rfl) (pe_ifExp (pt_cmpR op_gt (pv 11) pe_int (nomark _)) (pe_dget2 hu (pv 4) (pv 10) (pe_lst pa_nil) ⟨rfl, rfl, rfl, rfl⟩) (pe_lst pa_nil)))
          (pss_one (ps_expr (pe_bm PySem.F.plainAttrs_list PySem.F.slot_list_extend PySem.F.type_list_extend mt_extend (pv 7)
            (pa_cons (pe_lc (own := [("ahead", 15), ("name", 16)]) (g := gTup K 2 (gCons (gName 15) (gCons (gName 16) gNil))) (by rfl) scFew.nd (pi_list (pv 13))
                (blkOk_by (own := [("ahead", 15), ("name", 16)]) (N := nsFew) (sc := defScope s_fewest_steps) (by decide +kernel))
                (fun _ _ _ _ _ => pgT (n := 2) K rfl rfl (pgs_cons (pg_name (i := 15) scFew.nd rfl (Or.inl rfl)) (pgs_cons (pg_name (i := 16) scFew.nd rfl (Or.inl rfl)) pgs_nil)))
                (fun _ _ _ _ _ => pts_one (pt_cmpR op_eq (pv 16) (pe_ix (ixT K rfl) (pv 2) (pe_op op_sub (pv 11) pe_int) (fun _ _ => rfl)) (nomark _)))
                (fun _ _ _ _ _ => pe_tup (pa_cons (pv 15) (pa_cons (pe_op op_sub (pv 11) pe_int) pa_nil)))) pa_nil)))))))))))
      (pss_one (ps_ret (pv 6))))), ?_⟩
    -- the three at the start
    refine ⟨_, rfl, _, rfl, wb, wd, n, W, rfl, hW, fun H1 dw s1 n1 e1 => ⟨dw, W, rfl, e1, hW.len, fun H2 cf s2 n2 hC => ?_⟩⟩
    have s02 := s1.trans s2
    refine ⟨_, rfl, wo, ws, rfl, Same.tupT s02 hT, hlen, fun Hb lt s3 n3 hL => ?_⟩
    have s0b := s02.trans s3
    have hCb : ComesAt Hb cf W := hC.keep s3
    have hLb : LatersAt Hb lt ws := hL
    have hTb : SqT K Hb wo (ws.map V.str) := Same.tupT s0b hT
    have hGb := hG.keep s0b
    obtain ⟨⟨pt, ps, hw1, _⟩, _, hnod, hWl⟩ := hW
    have hw1b := Same.tupT s0b hw1
    refine fun fo nfo => ⟨_, _, _, rfl, ?_⟩
    have sb4 : Same Hb (upd Hb fo (.dT [])) := same_new nfo
    have f4 : (upd Hb fo (.dT [])) fo = some (.dT (encF [])) := upd_same
    generalize upd Hb fo (.dT []) = H4 at sb4 f4
    refine ⟨_, rfl, _, rfl, wb, g, n, .ref pt, es, rfl, Same.tupT sb4 hw1b, hGb.keep sb4, hn, fun H5 te s5 ht => ⟨te, rfl, ⟨_, ht⟩, fun D nD => ?_⟩⟩
    have sb5 := sb4.trans s5
    have nDb : Hb D = none := sb5.free nD
    have nDf : fo ≠ D := ne_of_none (s5 _ _ f4) nD
    refine lc_tup (K := K) (a := te) (xs := es.map V.int) (fun i H' => Same H5 H' ∧ SpotsAt H' D ((es.take i).map fun c => (c, ws.length))) ⟨same_new nD, SpotsAt.nil upd_same⟩ (fun i H' _ hP => Same.tupT hP.1 ht) (fun i x H' hx hP => ?_) fun H' hP => ?_
    · obtain ⟨sm, sp⟩ := hP
      have hi : i < es.length := by
        have := (List.getElem?_eq_some_iff.mp hx).1
        rw [List.length_map] at this
        exact this
      have gi : es[i]? = some es[i] := List.getElem?_eq_getElem hi
      have ex : x = .int es[i] := Option.some.inj (hx.symm.trans (intV_get gi))
      subst ex
      refine ⟨rfl, _, rfl, _, rfl, wo, _, rfl, .inr (Same.tupT (sb5.trans sm) hTb), (by show 2 ≤ sizeLine; decide), fun t nt => ?_⟩
      have sp1 := sp.keep (same_new (o := .tup [.int es[i], .int ((ws.map V.str).length : Int)]) nt)
      have sm1 := same_upd' (o := .tup [.int es[i], .int ((ws.map V.str).length : Int)]) sm (sm.free nt)
      have ht1 : (upd H' t (.tup [.int es[i], .int ((ws.map V.str).length : Int)])) t = some (.tup (spotT (es[i], ws.length))) := by
        rw [upd_same, List.length_map]
        rfl
      generalize upd H' t (.tup [.int es[i], .int ((ws.map V.str).length : Int)]) = H'' at sp1 sm1 ht1
      obtain ⟨acc, ha, hal⟩ := sp1.lst
      refine ⟨acc, ha, ?_, same_upd' sm1 nD, ?_⟩
      · rw [hal]
        refine small1000 ?_
        rw [List.length_map, List.length_take]
        omega
      · rw [List.take_add_one, gi, List.map_append]
        exact sp1.snoc ha ht1
    obtain ⟨sm, sp⟩ := hP
    rw [List.length_map, List.take_length] at sp
    have sb6 : Same Hb H' := sb5.trans sm
    have f6 : H' fo = some (.dT (encF [])) := sm _ _ (s5 _ _ f4)
    refine ⟨_, _, rfl, ?_⟩
    -- the while
    refine ⟨fun m σ H1 => ∃ (k : Nat) (F : Fd) (layer : List Spot) (la : Addr) (x9 x10 x11 x12 x13 x14 x15 x16 : Option V), m = B + 2 - k ∧ σ = [some (.ref wb), some (.ref wd), some (.ref wo), some g, some (.ref cf), some (.ref lt), some (.ref fo), some (.ref la), some (.int (k : Int)), x9, x10, x11, x12, x13, x14, x15, x16] ∧
      Same Hb H1 ∧ H1 fo = some (.dT (encF F)) ∧ SpotsAt H1 la layer ∧ Hb la = none ∧ InvA ws (wf W) (· ∈ es) B k F layer,
      ⟨B + 2 - 0, 0, [], _, D, none, none, none, none, none, none, none, none, rfl, rfl, sb6, f6, sp, nDb, InvA.start fun c => Iff.rfl⟩, ?_⟩
    rintro m σ H1 ⟨k, F0, layer, la, x9, x10, x11, x12, x13, x14, x15, x16, rfl, rfl, sb, hF, hl, nla, a⟩
    obtain ⟨xs, hx, hxl⟩ := hl.lst
    refine ⟨_, rfl, !xs.isEmpty, .inl ⟨xs, SqL.of hx, rfl⟩, ite2 (fun e => ?_) fun e => ?_⟩
    · have hne : layer ≠ [] := fun z => by
        rw [z] at hxl
        have : xs = [] := List.length_eq_zero_iff.mp hxl
        rw [this] at e
        cases e
      have hk := a.bnd hne
      refine ⟨fun σ H2 => ∃ (F : Fd) (layer : List Spot) (la : Addr) (x9 x10 x11 x12 x13 x14 x15 x16 : Option V), σ = [some (.ref wb), some (.ref wd), some (.ref wo), some g, some (.ref cf), some (.ref lt), some (.ref fo), some (.ref la), some (.int ((k + 1 : Nat) : Int)), x9, x10, x11, x12, x13, x14, x15, x16] ∧
        Same Hb H2 ∧ H2 fo = some (.dT (encF F)) ∧ SpotsAt H2 la layer ∧ Hb la = none ∧ InvA ws (wf W) (· ∈ es) B (k + 1) F layer, fun σ' H2 h => ?_, ?_⟩
      · obtain ⟨F, layer', la', y9, y10, y11, y12, y13, y14, y15, y16, h⟩ := h
        exact ⟨B + 2 - (k + 1), by omega, k + 1, F, layer', la', y9, y10, y11, y12, y13, y14, y15, y16, rfl, h⟩
      · -- one turn
        refine ⟨Nat.zero_le _, fun ha nha => ?_⟩
        have nhab : Hb ha = none := sb.free nha
        have I0 : P1 Hb (upd H1 ha (.lst [])) fo la ha F0 layer [] := by
          have sm := same_new (o := .lst []) nha
          exact ⟨sb.trans sm, sm _ _ hF, hl.keep sm, SpotsAt.nil upd_same, ne_of_none hx nha, nhab, nfo⟩
        have hx0 : (upd H1 ha (.lst [])) la = some (.lst xs) := by
          rw [upd_ne (ne_of_none hx nha)]
          exact hx
        generalize upd H1 ha (.lst []) = H2 at I0 hx0
        refine ⟨_, rfl, la, rfl, ⟨_, SqL.of hx0⟩, ?_⟩
        refine for_list (K := K) (a := la) (xs := xs) (fun i σ H' => ∃ F here x10 x11 x12 x14, σ = [some (.ref wb), some (.ref wd), some (.ref wo), some g, some (.ref cf), some (.ref lt), some (.ref fo), some (.ref la), some (.int (k : Int)), some (.ref ha), x10, x11, x12, x13, x14, x15, x16] ∧
          P1 Hb H' fo la ha F layer here ∧ H' la = some (.lst xs) ∧ InvB ws (wf W) (· ∈ es) k F0 ((layer.take i).flatMap (spots ws)) F here) ⟨F0, [], x10, x11, x12, x14, rfl, I0, hx0, InvB.start⟩ (fun i σ H' _ hP => SqL.of hP.choose_spec.choose_spec.choose_spec.choose_spec.choose_spec.choose_spec.2.2.1) (fun i x σ H' hxi hP => ?_) fun σ H' hP => ?_
        · obtain ⟨F, here, y10, y11, y12, y14, rfl, I, hla, b⟩ := hP
          obtain ⟨_, hget⟩ := I.sl.get hla
          obtain ⟨t, s, rfl, gs, ht⟩ := hget i x hxi
          have hs : R ws (wf W) (· ∈ es) k s.1 s.2 := a.snd s (List.mem_of_getElem? gs)
          have hsp : s.2 ≤ ws.length := R_le hs
          refine ⟨t, spotT s, rfl, SqT.of ht, rfl, .int s.1, [.int (s.2 : Int)], rfl, .int (s.2 : Int), [], rfl, rfl, ?_⟩
          -- the spots of this one
          refine ⟨_, rfl, _, rfl, (by show 2 ≤ sizeLine; decide), fun t1 nt1 => ⟨(by show 1 ≤ sizeLine; decide), fun l1 nl1 => ?_⟩⟩
          have sm1 := same_new (o := .tup [.int s.1, .int (s.2 : Int)]) nt1
          have ht1 : (upd H' t1 (.tup [.int s.1, .int (s.2 : Int)])) t1 = some (.tup (spotT s)) := upd_same
          generalize upd H' t1 (.tup [.int s.1, .int (s.2 : Int)]) = H3 at sm1 ht1 nl1
          have sm2 := same_new (o := .lst [.ref t1]) nl1
          have sp1 : SpotsAt (upd H3 l1 (.lst [.ref t1])) l1 [s] := ⟨[t1], upd_same, rfl, fun j t' s' q1 q2 => by
            match j, q1, q2 with
            | 0, q1, q2 =>
              have e1 : t1 = t' := Option.some.inj q1
              have e2 : s = s' := Option.some.inj q2
              rw [← e1, ← e2]
              exact sm2 _ _ ht1
            | j + 1, q1, _ => simp at q1⟩
          have hl1 : (upd H3 l1 (.lst [.ref t1])) l1 = some (.lst [.ref t1]) := upd_same
          generalize upd H3 l1 (.lst [.ref t1]) = H4' at sm2 sp1 hl1
          have sm := sm1.trans sm2
          have I4 := I.keep sm
          have hla4 := sm _ _ hla
          obtain ⟨ls, hlt, hltl, hlte⟩ := hLb.keep I4.same
          have hsl : s.2 < ls.length := by omega
          have gl : ls[s.2]? = some ls[s.2] := List.getElem?_eq_getElem hsl
          generalize ls[s.2] = l at gl
          have hll := hlte _ _ gl
          refine ⟨_, rfl, _, rfl, lt, ls.map V.ref, _, .ref l, rfl, rfl, SqL.of hlt, atI_nat (intV_get gl), l, rfl, ⟨_, SqL.of hll⟩, fun D2 nD2 => ?_⟩
          refine lc_list (K := K) (a := l) (xs := natV (laterL ws s.2)) (fun r H5 => Same H4' H5 ∧ SpotsAt H5 D2 (((laterL ws s.2).take r).map fun p => (s.1, p))) ⟨same_new nD2, SpotsAt.nil upd_same⟩ (fun r H5 _ hP => SqL.of (hP.1 _ _ hll)) (fun r y H5 hy hP => ?_) fun H5 hP => ?_
          · obtain ⟨sm5, sp5⟩ := hP
            have hr : r < (laterL ws s.2).length := by
              have := (List.getElem?_eq_some_iff.mp hy).1
              unfold natV at this
              rw [List.length_map] at this
              exact this
            have gr : (laterL ws s.2)[r]? = some (laterL ws s.2)[r] := List.getElem?_eq_getElem hr
            generalize (laterL ws s.2)[r] = p at gr
            have ey : y = .int (p : Int) := by
              unfold natV at hy
              exact Option.some.inj (hy.symm.trans (intV_get gr))
            subst ey
            refine ⟨rfl, _, rfl, _, rfl, (by show 2 ≤ sizeLine; decide), fun t2 nt2 => ?_⟩
            have sp6 := sp5.keep (same_new (o := .tup [.int s.1, .int (p : Int)]) nt2)
            have sm6 := same_upd' (o := .tup [.int s.1, .int (p : Int)]) sm5 (sm5.free nt2)
            have ht6 : (upd H5 t2 (.tup [.int s.1, .int (p : Int)])) t2 = some (.tup (spotT (s.1, p))) := upd_same
            generalize upd H5 t2 (.tup [.int s.1, .int (p : Int)]) = H6 at sp6 sm6 ht6
            obtain ⟨acc, hac, hal⟩ := sp6.lst
            refine ⟨acc, hac, ?_, same_upd' sm6 nD2, ?_⟩
            · rw [hal]
              refine small1000 ?_
              rw [List.length_map, List.length_take]
              have : (laterL ws s.2).length ≤ ws.length + 1 := by
                unfold laterL
                exact Nat.le_trans (List.length_filter_le _ _) (by rw [List.length_range]; omega)
              omega
            · rw [List.take_add_one, gr, List.map_append]
              exact sp6.snoc hac ht6
          · obtain ⟨sm5, sp5⟩ := hP
            have en : (natV (laterL ws s.2)).length = (laterL ws s.2).length := List.length_map ..
            rw [en, List.take_length] at sp5
            have sp1' := sp1.keep sm5
            have hl1' := sm5 _ _ hl1
            obtain ⟨ys, hys, hysl⟩ := sp5.lst
            refine ⟨l1, D2, _, _, rfl, rfl, hl1', hys, ?_, fun p np => ⟨p, rfl, ⟨_, SqL.of upd_same⟩, ?_⟩⟩
            · refine Nat.le_of_lt (small1000 ?_)
              rw [hysl, List.length_map, List.length_singleton]
              have : (laterL ws s.2).length ≤ ws.length + 1 := by
                unfold laterL
                exact Nat.le_trans (List.length_filter_le _ _) (by rw [List.length_range]; omega)
              omega
            have spp : SpotsAt (upd H5 p (.lst ([.ref t1] ++ ys))) p (spots ws s) := sp1'.cat sp5 hl1' hys fun zs e => by rw [np] at e; cases e
            have hpl : (upd H5 p (.lst ([.ref t1] ++ ys))) p = some (.lst ([.ref t1] ++ ys)) := upd_same
            have sm7 := (sm.trans sm5).trans (same_new (o := .lst ([.ref t1] ++ ys)) np)
            have I7 := I.keep sm7
            have hla7 := sm7 _ _ hla
            have npha : p ≠ ha := by
              obtain ⟨zs, hz, _⟩ := (I.keep (sm.trans sm5)).sh.lst
              exact fun z => by rw [z, hz] at np; cases np
            generalize upd H5 p (.lst ([.ref t1] ++ ys)) = H7 at spp hpl I7 hla7
            generalize [V.ref t1] ++ ys = zs at hpl
            refine for_list (K := K) (a := p) (xs := zs) (fun r σ H' => ∃ F here x12, σ = [some (.ref wb), some (.ref wd), some (.ref wo), some g, some (.ref cf), some (.ref lt), some (.ref fo), some (.ref la), some (.int (k : Int)), some (.ref ha), some (.int s.1), some (.int (s.2 : Int)), x12, x13, y14, x15, x16] ∧
              P1 Hb H' fo la ha F layer here ∧ H' la = some (.lst xs) ∧ H' p = some (.lst zs) ∧ SpotsAt H' p (spots ws s) ∧ InvB ws (wf W) (· ∈ es) k F0 ((layer.take i).flatMap (spots ws) ++ (spots ws s).take r) F here)
              ⟨F, here, _, rfl, I7, hla7, hpl, spp, by rw [List.take_zero, List.append_nil]; exact b⟩ (fun r σ H' _ hP => SqL.of hP.choose_spec.choose_spec.choose_spec.2.2.2.1) (fun r x σ H' hxr hP => ?_) fun σ H' hP => ?_
            · obtain ⟨F, here, z12, rfl, I, hla, hp, sp, b⟩ := hP
              obtain ⟨_, hget⟩ := sp.get hp
              obtain ⟨t, u, rfl, gu, ht⟩ := hget r x hxr
              have hru : R ws (wf W) (· ∈ es) k u.1 u.2 := spots_R hs (List.mem_of_getElem? gu)
              have hFl : F.length ≤ 1000 := Nat.le_trans (few hU a b) hUl
              refine ⟨_, rfl, _, rfl, fo, _, rfl, DGet.t (k := keyS u) I.fd ht, _, rfl, ?_⟩
              rw [valV_enc]
              cases q1 : lk F u with
              | none =>
                obtain ⟨hs', hhs, hhl⟩ := I.sh.lst
                refine ⟨_, rfl, _, rfl, _, rfl, fo, _, rfl, DPut.t (k := keyS u) I.fd ht ?_, ?_⟩
                · refine small1000 ?_
                  unfold encF
                  rw [List.length_map]
                  exact hFl
                rw [encF_put q1]
                have n1 : ha ≠ fo := ne_of hhs I.fd (fun z => by cases z)
                have hhs1 : (upd H' fo (.dT (encF (F ++ [(u, k)])))) ha = some (.lst hs') := by
                  rw [upd_ne n1]
                  exact hhs
                obtain ⟨r1, r2⟩ := I.rest (t := t) (s := u) (k := k) hhs
                have I8 := I.take (s := u) (k := k) ht hhs
                refine ⟨_, rfl, .inl ⟨rfl, _, SqL.of hhs1⟩, _, rfl, ha, hs', .ref t, rfl, rfl, hhs1, ?_, _, _, _, rfl, I8, r2 _ _ I.ne hla, r2 _ _ npha hp, r1 _ _ npha sp, ?_⟩
                · refine small1000 ?_
                  rw [hhl]
                  exact Nat.le_trans (here_le b) hFl
                · rw [List.take_add_one, gu, ← List.append_assoc]
                  exact b.new a hru q1
              | some d =>
                refine ⟨F, here, _, rfl, I, hla, hp, sp, ?_⟩
                rw [List.take_add_one, gu, ← List.append_assoc]
                exact b.old a (by rw [q1]; exact fun z => by cases z)
            · obtain ⟨F, here, z12, rfl, I, hla, hp, sp, b⟩ := hP
              rw [(sp.get hp).1, List.take_length] at b
              refine ⟨F, here, _, _, _, _, rfl, I, hla, ?_⟩
              rw [List.take_add_one, gs, List.flatMap_append]
              show InvB _ _ _ _ _ (_ ++ (spots ws s ++ [])) _ _
              rw [List.append_nil]
              exact b
        · obtain ⟨F, here, y10, y11, y12, y14, rfl, I, hla, b⟩ := hP
          rw [hxl, List.take_length] at b
          have hFl : F.length ≤ 1000 := Nat.le_trans (few hU a b) hUl
          have hhl := Nat.le_trans (here_le b) hFl
          refine ⟨Nat.zero_le _, fun l2 nl2 => ⟨_, rfl, (k : Int), 1, rfl, rfl, _, _, rfl, ?_⟩⟩
          have nl2b : Hb l2 = none := I.same.free nl2
          obtain ⟨hs, hhs, hhsl⟩ := I.sh.lst
          have I2 : P1 Hb (upd H' l2 (.lst [])) fo ha l2 F here [] := by
            have sm := same_new (o := .lst []) nl2
            exact ⟨I.same.trans sm, sm _ _ I.fd, I.sh.keep sm, SpotsAt.nil upd_same, ne_of_none hhs nl2, nl2b, nfo⟩
          have hhs2 : (upd H' l2 (.lst [])) ha = some (.lst hs) := by
            rw [upd_ne (ne_of_none hhs nl2)]
            exact hhs
          generalize upd H' l2 (.lst []) = H3 at I2 hhs2
          have ek : (k : Int) + 1 = ((k + 1 : Nat) : Int) := by omega
          refine ⟨_, rfl, ha, rfl, ⟨_, SqL.of hhs2⟩, ?_⟩
          refine for_list (K := K) (a := ha) (xs := hs) (fun i σ H' => ∃ x10 x11 x13, σ = [some (.ref wb), some (.ref wd), some (.ref wo), some g, some (.ref cf), some (.ref lt), some (.ref fo), some (.ref l2), some (.int ((k + 1 : Nat) : Int)), some (.ref ha), x10, x11, y12, x13, y14, x15, x16] ∧
            P1 Hb H' fo ha l2 F here ((here.take i).flatMap (nxt1 ws W)) ∧ H' ha = some (.lst hs)) ⟨y10, y11, x13, rfl, I2, hhs2⟩ (fun i σ H' _ hP => SqL.of hP.choose_spec.choose_spec.choose_spec.2.2) (fun i x σ H' hxi hP => ?_) fun σ H' hP => ?_
          · obtain ⟨z10, z11, z13, rfl, I, hha⟩ := hP
            obtain ⟨_, hget⟩ := I.sl.get hha
            obtain ⟨t, s, rfl, gs, ht⟩ := hget i x hxi
            have hsp : s.2 ≤ ws.length := R_le ((b.mem s).mp (List.mem_of_getElem? gs)).1.1
            refine ⟨t, spotT s, rfl, SqT.of ht, rfl, .int s.1, [.int (s.2 : Int)], rfl, .int (s.2 : Int), [], rfl, rfl, ?_⟩
            refine some_ok (cf := cf) (W := W) (s := s) rfl rfl rfl (hCb.keep I.same) fun H4 c smc hc => ?_
            have I4 := I.keep smc
            have hha4 := smc _ _ hha
            obtain ⟨l2s, hl2, hl2l⟩ := I4.sh.lst
            obtain ⟨us, hus, husl, hug⟩ := hc.get
            refine ⟨_, rfl, .inl ⟨rfl, _, SqL.of hl2⟩, _, rfl, c, rfl, ⟨_, SqL.of hus⟩, fun D2 nD2 => ?_⟩
            refine lc_list (K := K) (a := c) (xs := us) (fun r H5 => Same H4 H5 ∧ SpotsAt H5 D2 ((((if s.2 = 0 then [] else come W s.1).take r).filter fun e => decide (some e.2 = ws[s.2 - 1]?)).map fun e => (e.1, s.2 - 1))) ⟨same_new nD2, SpotsAt.nil upd_same⟩ (fun r H5 _ hP => SqL.of (hP.1 _ _ hus)) (fun r y H5 hy hP => ?_) fun H5 hP => ?_
            · obtain ⟨sm5, sp5⟩ := hP
              obtain ⟨t2, e, rfl, ge, ht2⟩ := hug r y hy
              have hs0 : ¬ s.2 = 0 := fun z => by
                rw [if_pos z] at ge
                simp at ge
              have ht5 := sm5 _ _ ht2
              have hT5 := Same.tupT (I4.same.trans sm5) hTb
              have hl3 : s.2 - 1 < ws.length := by omega
              have g2 : ws[s.2 - 1]? = some ws[s.2 - 1] := List.getElem?_eq_getElem hl3
              have e2 : (s.2 : Int) - 1 = ((s.2 - 1 : Nat) : Int) := by omega
              refine ⟨t2, _, rfl, SqT.of ht5, rfl, .int e.1, [.str e.2], rfl, .str e.2, [], rfl, rfl, rfl, ?_⟩
              refine ⟨_, rfl, _, rfl, _, rfl, _, _, rfl, rfl, wo, ws.map V.str, _, .str ws[s.2 - 1], rfl, rfl, hT5, by rw [e2]; exact atI_nat (intV_get g2), rfl, _, rfl, ?_⟩
              have ef : (((if s.2 = 0 then [] else come W s.1).take (r + 1)).filter fun e => decide (some e.2 = ws[s.2 - 1]?)) = (((if s.2 = 0 then [] else come W s.1).take r).filter fun e => decide (some e.2 = ws[s.2 - 1]?)) ++ (if e.2 = ws[s.2 - 1] then [e] else []) := by
                rw [List.take_add_one, ge, List.filter_append]
                congr 1
                rw [g2]
                by_cases h : e.2 = ws[s.2 - 1] <;> simp [h]
              refine ite2 (fun h => ?_) fun h => ?_
              · have h := V.str.inj (of_decide_eq_true h)
                refine ⟨_, rfl, _, rfl, _, _, rfl, rfl, (by show 2 ≤ sizeLine; decide), fun t3 nt3 => ?_⟩
                dsimp only
                rw [e2]
                have sp6 := sp5.keep (same_new (o := .tup [.int e.1, .int ((s.2 - 1 : Nat) : Int)]) nt3)
                have sm6 := same_upd' (o := .tup [.int e.1, .int ((s.2 - 1 : Nat) : Int)]) sm5 (sm5.free nt3)
                have ht6 : (upd H5 t3 (.tup [.int e.1, .int ((s.2 - 1 : Nat) : Int)])) t3 = some (.tup (spotT (e.1, s.2 - 1))) := upd_same
                generalize upd H5 t3 (.tup [.int e.1, .int ((s.2 - 1 : Nat) : Int)]) = H6 at sp6 sm6 ht6
                obtain ⟨acc, hac, hal⟩ := sp6.lst
                refine ⟨acc, hac, ?_, same_upd' sm6 nD2, ?_⟩
                · rw [hal]
                  refine small1000 ?_
                  rw [List.length_map]
                  refine Nat.le_trans (List.length_filter_le _ _) ?_
                  rw [List.length_take]
                  have : (if s.2 = 0 then [] else come W s.1).length ≤ 1000 := by
                    split
                    · exact Nat.zero_le _
                    · exact Nat.le_trans come_len hWl
                  omega
                · rw [ef, if_pos h, List.map_append]
                  exact sp6.snoc hac ht6
              · have h : ¬ e.2 = ws[s.2 - 1] := fun z => h (decide_eq_true (by rw [z]))
                rw [ef, if_neg h, List.append_nil]
                exact ⟨sm5, sp5⟩
            · obtain ⟨sm5, sp5⟩ := hP
              have en : (((if s.2 = 0 then [] else come W s.1).take us.length).filter fun e => decide (some e.2 = ws[s.2 - 1]?)).map (fun e => (e.1, s.2 - 1)) = nxt1 ws W s := by
                rw [husl, List.take_length]
                unfold nxt1
                by_cases z : s.2 = 0
                · rw [if_pos z, if_pos z]
                  rfl
                · rw [if_neg z, if_neg z]
              rw [en] at sp5
              have I5 := I4.keep sm5
              have hl25 := sm5 _ _ hl2
              obtain ⟨zs, hzs, hzl⟩ := sp5.lst
              refine ⟨l2, D2, l2s, zs, rfl, rfl, hl25, hzs, ?_, _, _, _, rfl, ?_, ?_⟩
              · rw [hl2l, hzl]
                have h1 := flat_len (f := nxt1 ws W) (b := 1000) (fun x => Nat.le_trans nxt_len hWl) (here.take i)
                have h2 : (nxt1 ws W s).length ≤ 1000 := Nat.le_trans nxt_len hWl
                have h3 : (here.take i).length ≤ 1000 := by rw [List.length_take]; omega
                have h4 : (here.take i).length * 1000 ≤ 1000 * 1000 := Nat.mul_le_mul_right _ h3
                have h5 : sizeLine = 16777216 := by decide
                omega
              · rw [List.take_add_one, gs, List.flatMap_append]
                show P1 _ _ _ _ _ _ _ (_ ++ (nxt1 ws W s ++ []))
                rw [List.append_nil]
                exact I5.ext hl25 sp5 hzs
              · rw [upd_ne I.ne]
                exact sm5 _ _ hha4
          · obtain ⟨z10, z11, z13, rfl, I, hha⟩ := hP
            rw [hhsl, List.take_length] at I
            exact ⟨F, _, l2, _, _, _, _, _, _, _, _, rfl, I.same, I.fd, I.sh, I.nha, a.next hnod hB b⟩
    · have hx0 : xs = [] := by
        cases xs with
        | nil => rfl
        | cons _ _ => exact absurd rfl e
      rw [hx0] at hxl
      have hl0 : layer = [] := List.length_eq_zero_iff.mp hxl.symm
      subst hl0
      have fin := a.fin
      refine ⟨_, rfl, q H1 fo F0 (s0b.trans sb) (s0b.free nfo) hF a.nod ?_ fin⟩
      have h := nodup_len (l := F0.map (·.1)) a.nod (u := U) fun s hs => by
        cases q : lk F0 s with
        | none => exact absurd hs (lk_none.mp q)
        | some d => exact hU _ _ _ ((a.fnd s d).mp q).1
      rw [List.length_map] at h
      exact Nat.le_trans h hUl
end
end Rg
/-! wound_places, next_step, row_of -/
namespace Rg
open PySem PySem.Spec PyProof.Rows L2
/-- a def whose last parameters are written by their names -/
structure DefKw (P : Program) (w : World) (K : PySem.W.Frag) (mg : Str → Option Value) (base : Heap) (x : Str) (k n : Nat) (ps ks : List Str) (sp : Sp) : Prop where
  ex : ∃ (f : Addr) (fd : FuncData), mg x = some (.ref f) ∧ PySem.W.keepIn K (.ref f) = true ∧ KBn K fd ps n ks (fun us ws => us ++ ws) (fun vs zs => vs ++ zs) ∧ FnOk P w K mg base CX0 k f fd ps sp
theorem fun_kbn {K : PySem.W.Frag} {x qual : Str} {st : Stmt} {f : Addr} {fd : FuncData} {ps ks : List Str} {n : Nat} (F : Fun K x qual st f fd)
    (h : ∀ (kV doc pm : Value) (an : Option Addr) (cdv ct : Value) (us ws : List Value), us.length = n → ws.length = ks.length → bindArgs (PySem.W.fnOf x qual (defArgs st) (defBody st) (defScope st) .none kV doc pm an cdv ct) ⟨us, ks.zip ws⟩ = pure (ps.zip (us ++ ws))) :
    KBn K fd ps n ks (fun us ws => us ++ ws) (fun vs zs => vs ++ zs) := by
  obtain ⟨oc, od, kV, doc, pm, an, cdv, ct, osl, rfl, lk, hcd⟩ := F.ex
  exact ⟨fun s us ws _ h1 h2 => .of_eq (h kV doc pm an cdv ct us ws h1 h2), fun r1 r2 => r1.append r2⟩
theorem catA_join {K : PySem.W.Frag} {H : Hp} {Q : VK} {a b : Addr} {xs ys : List V} (ha : SqT K H a xs) (hb : SqT K H b ys) (hz : xs.length + ys.length ≤ sizeLine) (h : ∀ H' t, Same H H' → SqT K H' t (xs ++ ys) → Q (.ref t) H') : rCatA K (.ref a) (.ref b) H Q := by
  refine ⟨a, b, xs, ys, rfl, rfl, ha, hb, hz, fun e => ?_, fun _ e => ?_, fun _ _ p np => ?_⟩
  · subst e
    exact h H b (Same.refl H) hb
  · subst e
    exact h H a (Same.refl H) (by rw [List.append_nil]; exact ha)
  · exact h _ p (same_new np) (.inl (.inl upd_same))
theorem valV_ways (c : Int) (x : Str) : ∀ W : WL, valV (waysKV W) [Sum.inl c, Sum.inr x] = (wf W c x).map V.int
  | [] => rfl
  | e :: W => by
    have ih := valV_ways c x W
    by_cases h : e.1 = (c, x)
    · show valV (([Sum.inl e.1.1, Sum.inr e.1.2], V.int e.2) :: waysKV W) _ = _
      rw [valV_pos (by rw [h])]
      unfold wf
      rw [List.find?_cons, decide_eq_true h]
      rfl
    · show valV (([Sum.inl e.1.1, Sum.inr e.1.2], V.int e.2) :: waysKV W) _ = _
      rw [valV_neg (fun z => h ?_), ih]
      · unfold wf
        rw [List.find?_cons, decide_eq_false h]
      · injection z with k1 k2
        injection k2 with k2 _
        exact Prod.ext (Sum.inl.inj k1) (Sum.inr.inj k2)
/-- a tuple of pairs -/
def TupsAt (H : Hp) (t : Addr) (S : List Spot) : Prop := ∃ ts : List Addr, H t = some (.tup (ts.map V.ref)) ∧ ts.length = S.length ∧ ∀ (j : Nat) (t : Addr) (s : Spot), ts[j]? = some t → S[j]? = some s → H t = some (.tup (spotT s))
theorem TupsAt.keep {H H' : Hp} {l : Addr} {S : List Spot} (h : TupsAt H l S) (s : Same H H') : TupsAt H' l S := by
  obtain ⟨ts, h1, h2, h3⟩ := h
  exact ⟨ts, s _ _ h1, h2, fun j t x a b => s _ _ (h3 j t x a b)⟩
section
variable {P : Program} {w : World} {K : PySem.W.Frag} {mg : Str → Option Value} {base : Heap}
theorem scPlaces : FnScope ["web", "world", "word", "goals"] ["web", "world", "word", "goals"] (defScope s_wound_places) := ⟨rfl, rfl, rfl, by decide +kernel, rfl, by decide +kernel, by decide +kernel⟩
def spPlaces (K : PySem.W.Frag) : Sp := fun vs H Q _ => ∃ (wb wd wo : Addr) (g : V) (n : Nat) (W : WL) (ws : List Str) (es : List Int) (U : List Spot) (B : Nat), vs = [.ref wb, .ref wd, .ref wo, g] ∧ WebAt K H wb wd n W ∧ SqT K H wo (ws.map V.str) ∧ ws.length ≤ 100 ∧ GoalsAt K H g n es ∧ n ≤ 1000 ∧ es.length ≤ 1000 ∧
  (∀ c p d, M ws (wf W) (· ∈ es) c p d → (c, p) ∈ U) ∧ U.length ≤ 1000 ∧ (∀ c p d, M ws (wf W) (· ∈ es) c p d → d ≤ B) ∧
  ∀ H' t S, Same H H' → TupsAt H' t S → S.Pairwise LtS → (∀ s, s ∈ S ↔ ∃ k, M ws (wf W) (· ∈ es) s.1 s.2 k) → Q (.ref t) H'
theorem ok_places (T : Fs K mg) : DefKw P w K mg base "wound_places" 6 3 ["web", "world", "word", "goals"] ["goals"] (spPlaces K) := by
  obtain ⟨f, fd, hm, F⟩ := T.wound_places
  obtain ⟨fC, fdC, mC, kC, bC, GC⟩ := ok_few (P := P) (w := w) (base := base) T
  refine ⟨f, fd, hm, F.kp, fun_kbn F fun _ _ _ _ _ _ us zs h1 h2 => match us, zs, h1, h2 with | [_, _, _], [_], _, _ => rfl, ?_⟩
  refine F.ok scPlaces (fun vs H Q E h => ?_) (fun cdv A outer s H vs Q E hr h => ?_)
  · obtain ⟨_, _, _, _, _, _, _, _, _, _, rfl, _⟩ := h
    rfl
  · obtain ⟨wb, wd, wo, g, n, W, ws, es, U, B, rfl, hW, hT, hlen, hG, hn, hes, hU, hUl, hB, q⟩ := h
    refine ⟨_, pss_one (ps_ret (pe_callTy call_tuple_of (by rfl) T.n_tuple boot_tuple (pa_cons (pe_callB (cr_sortedDT rfl) (by rfl) T.n_sorted (by decide +kernel)
      (pa_cons (pe_call GC hr (by rfl) mC kC bC .nil pass0 (pa_cons (pv 0) (pa_cons (pv 1) (pa_cons (pv 2) (pa_cons (pv 3) pa_nil))))) pa_nil)) pa_nil))), ?_⟩
    refine ⟨_, rfl, _, rfl, _, rfl, _, rfl, wb, wd, wo, g, n, W, ws, es, U, B, rfl, hW, hT, hlen, hG, hn, hes, hU, hUl, hB, fun H1 d F s1 n1 e1 nd hFl hF => ?_⟩
    refine ⟨d, encF F, F.map fun e => (e.1.1, (e.1.2 : Int)), rfl, e1, by unfold encF; rw [List.map_map, List.map_map]; rfl, fun L l hL hperm hord nl => ?_⟩
    have sm := same_new (o := .lst (L.map fun e => V.ref e.1)) nl
    refine ⟨l, _, rfl, .inl ⟨SqL.of upd_same, fun t nt => ?_⟩⟩
    have sm2 := sm.trans (same_new (o := .tup (L.map fun e => V.ref e.1)) nt)
    have hmem : ∀ e ∈ L, ∃ k : Spot × Nat, k ∈ F ∧ e.2 = (k.1.1, (k.1.2 : Int)) := fun e he => by
      have : e.2 ∈ F.map fun e => (e.1.1, (e.1.2 : Int)) := hperm.mem_iff.mp (List.mem_map.mpr ⟨e, he, rfl⟩)
      obtain ⟨k, hk, hk2⟩ := List.mem_map.mp this
      exact ⟨k, hk, hk2.symm⟩
    refine q _ t (L.map fun e => ((e.2.1, e.2.2.toNat) : Spot)) (s1.trans sm2) ⟨L.map (·.1), ?_, by rw [List.length_map, List.length_map], fun j t' s' h1 h2 => ?_⟩ ?_ fun s => ?_
    · rw [upd_same, List.map_map]
      rfl
    · rw [List.getElem?_map] at h1 h2
      obtain ⟨e, he, rfl⟩ := Option.map_eq_some_iff.mp h1
      rw [he] at h2
      have h2 : ((e.2.1, e.2.2.toNat) : Spot) = s' := Option.some.inj h2
      subst h2
      obtain ⟨k, _, hk⟩ := hmem e (List.mem_of_getElem? he)
      rw [sm2 _ _ (hL e (List.mem_of_getElem? he))]
      unfold spotT
      rw [hk]
      rfl
    · have hnd : (L.map (·.2)).Nodup := by
        refine hperm.nodup_iff.mpr ?_
        have : (F.map fun e => ((e.1.1, (e.1.2 : Int)) : Int × Int)) = (F.map (·.1)).map fun s => (s.1, (s.2 : Int)) := by
          rw [List.map_map]
          rfl
        rw [this]
        unfold List.Nodup
        rw [List.pairwise_map]
        refine List.Pairwise.imp (fun {a b} hab e => hab ?_) nd
        obtain ⟨e1, e2⟩ := Prod.mk.inj e
        exact Prod.ext e1 (by omega)
      rw [List.pairwise_map]
      have h2 := hord.and hnd
      rw [List.pairwise_map] at h2
      refine List.Pairwise.imp_of_mem (fun {a b} ha hb hab => ?_) h2
      obtain ⟨ka, _, ea⟩ := hmem a ha
      obtain ⟨kb, _, eb⟩ := hmem b hb
      rw [ea, eb] at hab ⊢
      unfold LexLe at hab
      unfold LtS
      have h1 := hab.1
      have h2 : ¬ (ka.1.1 = kb.1.1 ∧ (ka.1.2 : Int) = kb.1.2) := fun z => hab.2 (Prod.ext z.1 z.2)
      dsimp only at h1 h2 ⊢
      omega
    · rw [List.mem_map]
      constructor
      · rintro ⟨e, he, rfl⟩
        obtain ⟨k, hk, ek⟩ := hmem e he
        refine ⟨k.2, ?_⟩
        rw [ek]
        exact (hF k.1 k.2).mp ((lk_mem nd).mpr hk)
      · rintro ⟨k, hk⟩
        have h1 := (lk_mem nd).mp ((hF s k).mpr hk)
        have h2 : (s.1, (s.2 : Int)) ∈ L.map (·.2) := hperm.mem_iff.mpr (List.mem_map.mpr ⟨_, h1, rfl⟩)
        obtain ⟨e, he, q⟩ := List.mem_map.mp h2
        exact ⟨e, he, by rw [q]; rfl⟩
end
end Rg
/-! next_step, wound_walk, row_of -/
namespace Rg
open PySem PySem.Spec PyProof.Rows L2
section
variable {P : Program} {w : World} {K : PySem.W.Frag} {mg : Str → Option Value} {base : Heap}
theorem scNext : FnScope ["ways", "word", "known", "crossing", "place", "spot", "arm"] ["ways", "word", "known", "crossing", "place"] (defScope s_next_step) := ⟨rfl, rfl, rfl, by decide +kernel, rfl, by decide +kernel, by decide +kernel⟩
def spNext (K : PySem.W.Frag) : Sp := fun vs H Q _ => ∃ (dw wo kn : Addr) (W : WL) (ws : List Str) (F : Fd) (ends : Int → Prop) (c : Int) (p d : Nat), vs = [.ref dw, .ref wo, .ref kn, .int c, .int (p : Int)] ∧ H dw = some (.dT (waysKV W)) ∧ SqT K H wo (ws.map V.str) ∧ ws.length ≤ 100 ∧
  H kn = some (.dT (encF F)) ∧ (∀ s k, lk F s = some k ↔ M ws (wf W) ends s.1 s.2 k) ∧ M ws (wf W) ends c p (d + 1) ∧
  ∀ H' t q a nm, Same H H' → H' t = some (.tup [.int ((q : Nat) : Int), .int a]) → Bk ws q p → ws[q]? = some nm → wf W c nm = some a → M ws (wf W) ends a (q + 1) d → Q (.ref t) H'
theorem ok_next (T : Fs K mg) : DefOk P w K mg base "next_step" 4 ["ways", "word", "known", "crossing", "place"] (spNext K) := by
  obtain ⟨f, fd, hm, F⟩ := T.next_step
  obtain ⟨fB, fdB, mB, kB, bB, GB⟩ := ok_backs (P := P) (w := w) (base := base) T
  refine ⟨f, fd, hm, F.kp, F.binds fun _ _ _ _ _ _ us hl => match us, hl with | [_, _, _, _, _], _ => rfl, ?_⟩
  refine F.ok scNext (fun vs H Q E h => ?_) (fun cdv A outer s H vs Q E hr h => ?_)
  · obtain ⟨_, _, _, _, _, _, _, _, _, _, rfl, _⟩ := h
    rfl
  · obtain ⟨dw, wo, kn, W, ws, F, ends, c, p, d, rfl, hdw, hT, hlen, hkn, hF, hM, q⟩ := h
    have hu := hu_of hr
    refine ⟨_, pss_cons (ps_for PassesOwn.never rfl (pi_tup (pe_op op_catA (pe_call GB hr (by rfl) mB kB bB .nil pass0 (pa_cons (pv 1) (pa_cons (pv 4) pa_nil))) (pe_tup (pa_cons (pv 4) pa_nil))))
        (pg_name (i := 5) scNext.nd rfl (.inl rfl))
        (pss_cons (ps_set (i := 6) scNext.nd rfl (.inl rfl) (pe_ifExp (pt_cmpR op_lt (pv 5) (pe_callB call_len_seq (by rfl) T.n_len PySem.boot_len (pa_cons (pv 1) pa_nil)) (nomark _))
          (pe_dget1 hu (pv 0) (pe_tup (pa_cons (pv 3) (pa_cons (pe_ix ix_tup (pv 1) (pv 5) (fun _ _ => rfl)) pa_nil))) ⟨rfl, rfl, rfl, rfl⟩) pe_non))
        (pss_one (ps_if (PW.pt (pw_and (pt_cmp (pc_notN (pv 6))) (pw_and1 (pt_cmpR op_eq (pe_dget1 hu (pv 2) (pe_tup (pa_cons (pv 6) (pa_cons (pe_op op_add (pv 5) pe_int) pa_nil))) ⟨rfl, rfl, rfl, rfl⟩)
            (pe_op op_sub (pe_dget hu (pv 2) (pe_tup (pa_cons (pv 3) (pa_cons (pv 4) pa_nil))) (fun _ _ => rfl)) pe_int) (nomark _)))))
          (pss_one (ps_ret (pe_tup (pa_cons (pv 5) (pa_cons (pv 6) pa_nil))))) pss_nil))))
      (pss_one (ps_ret pe_non)), ?_⟩
    have hp : p ≤ ws.length := R_le hM.1
    refine ⟨_, rfl, _, rfl, wo, ws, p, rfl, hT, hp, by omega, fun H1 t1 s1 n1 e1 => ?_⟩
    refine ⟨_, rfl, (by show 1 ≤ sizeLine; decide), fun t2 nt2 => ?_⟩
    have s12 := s1.trans (same_new (o := .tup [.int (p : Int)]) nt2)
    have h1 := (same_new (o := .tup [.int (p : Int)]) nt2) _ _ e1
    have h2 : (upd H1 t2 (.tup [.int (p : Int)])) t2 = some (.tup [.int (p : Int)]) := upd_same
    generalize upd H1 t2 (.tup [.int (p : Int)]) = H2 at s12 h1 h2
    have bl : (backsL ws p).length ≤ p := by
      unfold backsL
      exact Nat.le_trans (List.length_filter_le _ _) (by rw [List.length_map, List.length_range]; omega)
    refine catA_join (SqT.of h1) (SqT.of h2) (Nat.le_of_lt (small1000 (by unfold natV; rw [List.length_map, List.length_singleton]; omega))) fun H3 t3 s3 e3 => ?_
    have s03 := s12.trans s3
    have eL : natV (backsL ws p) ++ [V.int (p : Int)] = natV (backsL ws p ++ [p]) := by
      unfold natV
      rw [List.map_append]
      rfl
    rw [eL] at e3
    have hBk : ∀ x, x ∈ backsL ws p ++ [p] ↔ Bk ws x p := fun x => by
      rw [List.mem_append, List.mem_singleton]
      unfold Bk
      exact Or.comm
    generalize backsL ws p ++ [p] = L at e3 hBk
    refine ⟨t3, rfl, ⟨_, e3⟩, ?_⟩
    refine for_tup (K := K) (a := t3) (xs := natV L) (fun i σ H' => ∃ x5 x6, σ = [some (.ref dw), some (.ref wo), some (.ref kn), some (.int c), some (.int (p : Int)), x5, x6] ∧ Same H3 H' ∧
      ∀ (j x : Nat) nm a, j < i → L[j]? = some x → ws[x]? = some nm → wf W c nm = some a → ¬ M ws (wf W) ends a (x + 1) d)
      ⟨none, none, rfl, Same.refl _, fun j x nm a h => by omega⟩ (fun i σ H' _ hP => Same.tupT hP.choose_spec.choose_spec.2.1 e3) (fun i x σ H' hx hP => ?_) fun σ H' hP => ?_
    · obtain ⟨x5, x6, rfl, sm, no⟩ := hP
      have hi : i < L.length := by
        have := (List.getElem?_eq_some_iff.mp hx).1
        unfold natV at this
        rw [List.length_map] at this
        exact this
      have gi : L[i]? = some L[i] := List.getElem?_eq_getElem hi
      generalize L[i] = y at gi
      have ex : x = .int (y : Int) := by
        unfold natV at hx
        exact Option.some.inj (hx.symm.trans (intV_get gi))
      subst ex
      have hy : Bk ws y p := (hBk y).mp (List.mem_of_getElem? gi)
      have s0 := s03.trans sm
      -- the next turn
      have nxt : ∀ (H'' : Hp) x6, Same H3 H'' → (∀ nm a, ws[y]? = some nm → wf W c nm = some a → ¬ M ws (wf W) ends a (y + 1) d) → ∃ z5 z6, [some (V.ref dw), some (.ref wo), some (.ref kn), some (.int c), some (.int (p : Int)), some (.int (y : Int)), x6] = [some (V.ref dw), some (.ref wo), some (.ref kn), some (.int c), some (.int (p : Int)), z5, z6] ∧ Same H3 H'' ∧
          ∀ (j x : Nat) nm a, j < i + 1 → L[j]? = some x → ws[x]? = some nm → wf W c nm = some a → ¬ M ws (wf W) ends a (x + 1) d := fun H'' x6 sm' hno => by
        refine ⟨_, _, rfl, sm', fun j x nm a hj e1 e2 e3 => ?_⟩
        by_cases hji : j = i
        · subst hji
          rw [gi] at e1
          cases e1
          exact hno nm a e2 e3
        · exact no j x nm a (by omega) e1 e2 e3
      refine ⟨_, rfl, _, rfl, wo, ws.map V.str, rfl, .inr (Same.tupT s0 hT), (y : Int), ((ws.map V.str).length : Int), rfl, rfl, _, rfl, ?_⟩
      refine ite2 (fun e => ?_) fun e => ?_
      · have e := of_decide_eq_true e
        have hyl : y < ws.length := by
          rw [List.length_map] at e
          omega
        have gy : ws[y]? = some ws[y] := List.getElem?_eq_getElem hyl
        generalize ws[y] = nm at gy
        refine ⟨_, rfl, dw, rfl, .inr ⟨_, .inl (s0 _ _ hdw)⟩, _, rfl, _, rfl, _, rfl, wo, ws.map V.str, _, .str nm, rfl, rfl, Same.tupT s0 hT, atI_nat (intV_get gy), (by show 2 ≤ sizeLine; decide), fun t4 nt4 => ?_⟩
        have sm4 := sm.trans (same_new (o := .tup [.int c, .str nm]) nt4)
        have h4 : (upd H' t4 (.tup [.int c, .str nm])) t4 = some (.tup [.int c, .str nm]) := upd_same
        generalize upd H' t4 (.tup [.int c, .str nm]) = H4 at sm4 h4
        have s04 := s03.trans sm4
        refine ⟨_, DGet.t (k := [Sum.inl c, Sum.inr nm]) (s04 _ _ hdw) h4, ?_⟩
        rw [valV_ways]
        cases hw : wf W c nm with
        | none =>
          refine ⟨_, rfl, _, rfl, ?_⟩
          refine nxt H4 _ sm4 fun nm' a e1 e2 => ?_
          rw [gy] at e1
          cases e1
          rw [hw] at e2
          cases e2
        | some a =>
          refine ⟨_, rfl, _, rfl, ?_⟩
          refine ⟨_, rfl, kn, rfl, .inr ⟨_, .inl (s04 _ _ hkn)⟩, _, rfl, _, rfl, (y : Int), 1, rfl, rfl, (by show 2 ≤ sizeLine; decide), fun t5 nt5 => ?_⟩
          have sm5 := sm4.trans (same_new (o := .tup [.int a, .int ((y : Int) + 1)]) nt5)
          have h5 : (upd H4 t5 (.tup [.int a, .int ((y : Int) + 1)])) t5 = some (.tup ((keyS (a, y + 1)).map kV)) := upd_same
          have s05 := s03.trans sm5
          refine ⟨_, DGet.t (k := keyS (a, y + 1)) (s05 _ _ hkn) h5, ?_⟩
          rw [valV_enc]
          refine ⟨_, rfl, _, rfl, _, rfl, (by show 2 ≤ sizeLine; decide), fun t6 nt6 => ?_⟩
          have sm6 := sm5.trans (same_new (o := .tup [.int c, .int (p : Int)]) nt6)
          have h6 : (upd (upd H4 t5 (.tup [.int a, .int ((y : Int) + 1)])) t6 (.tup [.int c, .int (p : Int)])) t6 = some (.tup ((keyS (c, p)).map kV)) := upd_same
          have s06 := s03.trans sm6
          have hkn6 := s06 _ _ hkn
          have hq : valV (encF F) (keyS (c, p)) = some (.int ((d + 1 : Nat) : Int)) := by
            rw [valV_enc, (hF (c, p) (d + 1)).mpr hM]
            rfl
          refine ⟨kn, .int ((d + 1 : Nat) : Int), rfl, hq ▸ DGet.t hkn6 h6, ((d + 1 : Nat) : Int), 1, rfl, rfl, ?_⟩
          cases hl : lk F (a, y + 1) with
          | none =>
            refine ⟨rfl, _, rfl, ?_⟩
            refine nxt _ _ sm6 fun nm' a' e1 e2 m => ?_
            rw [gy] at e1
            cases e1
            rw [hw] at e2
            cases e2
            rw [(hF (a, y + 1) d).mpr m] at hl
            cases hl
          | some k =>
            refine ⟨rfl, _, rfl, ite2 (fun e => ?_) fun e => ?_⟩
            · have e := V.int.inj (of_decide_eq_true e)
              have ek : k = d := by omega
              subst ek
              refine ⟨_, rfl, _, rfl, (by show 2 ≤ sizeLine; decide), fun t7 nt7 => ?_⟩
              exact q _ t7 y a nm (s06.trans (same_new nt7)) upd_same hy gy hw ((hF _ _).mp hl)
            · refine nxt _ _ sm6 fun nm' a' e1 e2 m => ?_
              rw [gy] at e1
              cases e1
              rw [hw] at e2
              cases e2
              rw [(hF (a, y + 1) d).mpr m] at hl
              cases hl
              exact e (decide_eq_true (congrArg V.int (by omega)))
      · have e : ¬ y < ws.length := fun z => e (decide_eq_true (by rw [List.length_map]; omega))
        refine ⟨_, rfl, _, rfl, ?_⟩
        refine nxt H' _ sm fun nm a e1 => ?_
        rw [List.getElem?_eq_none (by omega)] at e1
        cases e1
    · obtain ⟨x5, x6, rfl, sm, no⟩ := hP
      exfalso
      obtain ⟨x, nm, a, h1, h2, h3, h4⟩ := M_step hM
      obtain ⟨j, hj⟩ := List.mem_iff_getElem?.mp ((hBk x).mpr h1)
      refine no j x nm a ?_ hj h2 h3 h4
      unfold natV
      rw [List.length_map]
      exact (List.getElem?_eq_some_iff.mp hj).1
end
end Rg
/-! wound_walk, row_of -/
namespace Rg
open PySem PySem.Spec PyProof.Rows L2
/-- a step (place, crossing) -/
abbrev Stp := Nat × Int
def stpT (s : Stp) : List V := [.int (s.1 : Int), .int s.2]
def WalkAt (K : PySem.W.Frag) (H : Hp) (t : Addr) (S : List Stp) : Prop := ∃ ts : List Addr, SqT K H t (ts.map V.ref) ∧ ts.length = S.length ∧ ∀ (j : Nat) (t : Addr) (s : Stp), ts[j]? = some t → S[j]? = some s → H t = some (.tup (stpT s))
theorem WalkAt.keep {K : PySem.W.Frag} {H H' : Hp} {l : Addr} {S : List Stp} (h : WalkAt K H l S) (s : Same H H') : WalkAt K H' l S := by
  obtain ⟨ts, h1, h2, h3⟩ := h
  exact ⟨ts, Same.tupT s h1, h2, fun j t x a b => s _ _ (h3 j t x a b)⟩
/-- the steps found so far, of a walk of d steps -/
def StepsOk (ws : List Str) (W : WL) (ends : Int → Prop) (d : Nat) (S : List Stp) : Prop := ∀ (i : Nat) (s : Stp), S[i]? = some s → s.1 < ws.length ∧ M ws (wf W) ends s.2 (s.1 + 1) (d - 1 - i)
section
variable {P : Program} {w : World} {K : PySem.W.Frag} {mg : Str → Option Value} {base : Heap}
abbrev nsWalk : List Str := ["web", "world", "word", "crossing", "place", "goals", "known", "ways", "found", "step"]
theorem scWalk : FnScope nsWalk ["web", "world", "word", "crossing", "place", "goals"] (defScope s_wound_walk) := ⟨rfl, rfl, rfl, by decide +kernel, rfl, by decide +kernel, by decide +kernel⟩
def spWalk (K : PySem.W.Frag) : Sp := fun vs H Q _ => ∃ (wb wd wo : Addr) (g : V) (n : Nat) (W : WL) (ws : List Str) (es : List Int) (U : List Spot) (B : Nat) (c : Int) (p : Nat), vs = [.ref wb, .ref wd, .ref wo, .int c, .int (p : Int), g] ∧ WebAt K H wb wd n W ∧ SqT K H wo (ws.map V.str) ∧ ws.length ≤ 100 ∧ GoalsAt K H g n es ∧ n ≤ 1000 ∧ es.length ≤ 1000 ∧
  (∀ c p d, M ws (wf W) (· ∈ es) c p d → (c, p) ∈ U) ∧ U.length ≤ 1000 ∧ (∀ c p d, M ws (wf W) (· ∈ es) c p d → d ≤ B) ∧ B ≤ 1000 ∧
  (∀ H', Same H H' → (∀ d, ¬ M ws (wf W) (· ∈ es) c p d) → Q .non H') ∧
  ∀ H' t d S, Same H H' → M ws (wf W) (· ∈ es) c p d → WalkAt K H' t S → S.length = d → StepsOk ws W (· ∈ es) d S → Q (.ref t) H'
theorem ok_walk (T : Fs K mg) : DefKw P w K mg base "wound_walk" 6 4 ["web", "world", "word", "crossing", "place", "goals"] ["place", "goals"] (spWalk K) := by
  obtain ⟨f, fd, hm, F⟩ := T.wound_walk
  obtain ⟨fC, fdC, mC, kC, bC, GC⟩ := ok_few (P := P) (w := w) (base := base) T
  obtain ⟨fY, fdY, mY, kY, bY, GY⟩ := ok_ways (P := P) (w := w) (base := base) T
  obtain ⟨fN, fdN, mN, kN, bN, GN⟩ := ok_next (P := P) (w := w) (base := base) T
  refine ⟨f, fd, hm, F.kp, fun_kbn F fun _ _ _ _ _ _ us zs h1 h2 => match us, zs, h1, h2 with | [_, _, _, _], [_, _], _, _ => rfl, ?_⟩
  refine F.ok scWalk (fun vs H Q E h => ?_) (fun cdv A outer s H vs Q E hr h => ?_)
  · obtain ⟨_, _, _, _, _, _, _, _, _, _, _, _, rfl, _⟩ := h
    rfl
  · obtain ⟨wb, wd, wo, g, n, W, ws, es, U, B, c, p, rfl, hW, hT, hlen, hG, hn, hes, hU, hUl, hB, hB2, q1, q2⟩ := h
    have hu := hu_of hr
    refine ⟨_, pss_cons (ps_par3 (i := 6) (j := 7) (l := 8) (by rfl) scWalk.nd rfl rfl rfl (by decide) (by decide) (by decide) rfl rfl rfl
        (pa_cons (pe_call GC hr (by rfl) mC kC bC .nil pass0 (pa_cons (pv 0) (pa_cons (pv 1) (pa_cons (pv 2) (pa_cons (pv 5) pa_nil)))))
          (pa_cons (pe_call GY (hr.mono (by decide)) (by rfl) mY kY bY .nil pass0 (pa_cons (pv 0) (pa_cons (pv 1) pa_nil))) (pa_cons (pe_lst pa_nil) pa_nil))) (by rfl))
      (pss_cons (ps_if (pt_cmp (pc_dnotin hu (pe_tup (pa_cons (pv 3) (pa_cons (pv 4) pa_nil))) (pv 6))) (pss_one (ps_ret pe_non)) pss_nil)
      (pss_cons (ps_while PassesOwn.never (pt_cmpR op_gt (pe_dget hu (pv 6) (pe_tup (pa_cons (pv 3) (pa_cons (pv 4) pa_nil))) (fun _ _ => rfl)) pe_int (nomark _))
        (pss_cons (ps_set (i := 9) scWalk.nd rfl (.inl rfl) (pe_call GN (hr.mono (by decide)) (by rfl) mN kN bN .nil pass0 (pa_cons (pv 7) (pa_cons (pv 2) (pa_cons (pv 6) (pa_cons (pv 3) (pa_cons (pv 4) pa_nil)))))))
        (pss_cons (ps_expr (pe_bm PySem.F.plainAttrs_list PySem.F.slot_list_append PySem.F.type_list_append mt_append (pv 8) (pa_cons (pv 9) pa_nil)))
        (pss_one (ps_par (i := 4) (j := 3) (by rfl) scWalk.nd rfl rfl (by decide) rfl rfl (pa_cons (pe_op op_add (pe_ix ix_tup (pv 9) pe_int (fun _ _ => rfl)) pe_int) (pa_cons (pe_ix ix_tup (pv 9) pe_int (fun _ _ => rfl)) pa_nil)) (by rfl))))))
      (pss_one (ps_ret (pe_callTy call_tuple_of (by rfl) T.n_tuple boot_tuple (pa_cons (pv 8) pa_nil)))))), ?_⟩
    refine ⟨_, rfl, _, rfl, _, rfl, _, rfl, wb, wd, wo, g, n, W, ws, es, U, B, rfl, hW, hT, hlen, hG, hn, hes, hU, hUl, hB, fun H1 kn F s1 n1 e1 nd hFl hF => ?_⟩
    refine ⟨_, rfl, _, rfl, wb, wd, n, W, rfl, hW.keep s1, fun Hb dw s2 n2 e2 => ⟨Nat.zero_le _, fun fo nfo => ⟨_, _, _, rfl, ?_⟩⟩⟩
    have s0b := s1.trans s2
    have hkb := s2 _ _ e1
    have hTb := Same.tupT s0b hT
    have sb := same_new (o := .lst []) nfo
    have hf0 : (upd Hb fo (.lst [])) fo = some (.lst (([] : List Addr).map V.ref)) := upd_same
    generalize upd Hb fo (.lst []) = H3 at sb hf0
    refine ⟨_, rfl, _, rfl, (by show 2 ≤ sizeLine; decide), fun t4 nt4 => ?_⟩
    have sb4 := sb.trans (same_new (o := .tup [.int c, .int (p : Int)]) nt4)
    have hf4 := (same_new (o := .tup [.int c, .int (p : Int)]) nt4) _ _ hf0
    have ht4 : (upd H3 t4 (.tup [.int c, .int (p : Int)])) t4 = some (.tup ((keyS (c, p)).map kV)) := upd_same
    generalize upd H3 t4 (.tup [.int c, .int (p : Int)]) = H4 at sb4 hf4 ht4
    refine ⟨_, rfl, kn, _, rfl, DGet.t (sb4 _ _ hkb) ht4, _, rfl, ?_⟩
    rw [valV_enc]
    cases hl : lk F (c, p) with
    | none =>
      refine q1 H4 (s0b.trans sb4) fun d m => ?_
      rw [(hF (c, p) d).mpr m] at hl
      cases hl
    | some d0 =>
      have hM0 : M ws (wf W) (· ∈ es) c p d0 := (hF (c, p) d0).mp hl
      have hd0 := hB _ _ _ hM0
      refine ⟨fun m σ H' => ∃ (c' : Int) (p' : Nat) (x9 : Option V) (ts : List Addr) (S : List Stp), σ = [some (.ref wb), some (.ref wd), some (.ref wo), some (.int c'), some (.int (p' : Int)), some g, some (.ref kn), some (.ref dw), some (.ref fo), x9] ∧
        Same Hb H' ∧ H' fo = some (.lst (ts.map V.ref)) ∧ ts.length = S.length ∧ (∀ (j : Nat) (t : Addr) (s : Stp), ts[j]? = some t → S[j]? = some s → H' t = some (.tup (stpT s))) ∧ M ws (wf W) (· ∈ es) c' p' m ∧ S.length + m = d0 ∧ StepsOk ws W (· ∈ es) d0 S,
        ⟨d0, c, p, none, [], [], rfl, sb4, hf4, rfl, fun j t s h _ => by simp at h, hM0, Nat.zero_add _, fun i s h => by simp at h⟩, ?_⟩
      rintro m σ H' ⟨c', p', x9, ts, S, rfl, sm, hfo, hts, hte, hMm, hSm, hok⟩
      refine ⟨_, rfl, _, rfl, _, rfl, (by show 2 ≤ sizeLine; decide), fun t5 nt5 => ?_⟩
      have s5 := same_new (o := .tup [.int c', .int (p' : Int)]) nt5
      have ht5 : (upd H' t5 (.tup [.int c', .int (p' : Int)])) t5 = some (.tup ((keyS (c', p')).map kV)) := upd_same
      generalize upd H' t5 (.tup [.int c', .int (p' : Int)]) = H5 at s5 ht5
      have sm5 := sm.trans s5
      have hfo5 := s5 _ _ hfo
      have hq : valV (encF F) (keyS (c', p')) = some (.int (m : Int)) := by
        rw [valV_enc, (hF (c', p') m).mpr hMm]
        rfl
      refine ⟨kn, .int (m : Int), rfl, hq ▸ DGet.t (sm5 _ _ hkb) ht5, (m : Int), 0, rfl, rfl, _, rfl, ite2 (fun e => ?_) fun e => ?_⟩
      · have e : (0 : Int) < m := of_decide_eq_true e
        match m, e, hMm, hSm with
        | m + 1, _, hMm, hSm =>
        refine ⟨fun σ' H' => ∃ (c' : Int) (p' : Nat) (x9 : Option V) (ts : List Addr) (S : List Stp), σ' = [some (.ref wb), some (.ref wd), some (.ref wo), some (.int c'), some (.int (p' : Int)), some g, some (.ref kn), some (.ref dw), some (.ref fo), x9] ∧
          Same Hb H' ∧ H' fo = some (.lst (ts.map V.ref)) ∧ ts.length = S.length ∧ (∀ (j : Nat) (t : Addr) (s : Stp), ts[j]? = some t → S[j]? = some s → H' t = some (.tup (stpT s))) ∧ M ws (wf W) (· ∈ es) c' p' m ∧ S.length + m = d0 ∧ StepsOk ws W (· ∈ es) d0 S,
          fun σ' H' h => ⟨m, Nat.lt_succ_self m, h⟩, ?_⟩
        refine ⟨_, rfl, _, rfl, _, rfl, _, rfl, _, rfl, dw, wo, kn, W, ws, F, (· ∈ es), c', p', m, rfl, sm5 _ _ e2, Same.tupT sm5 hTb, hlen, sm5 _ _ hkb, hF, hMm, fun H6 t x a nm s6 ht hbk hnm hwf hma => ?_⟩
        have sm6 := sm5.trans s6
        have hfo6 := s6 _ _ hfo5
        refine ⟨_, rfl, .inl ⟨rfl, _, SqL.of hfo6⟩, _, rfl, fo, ts.map V.ref, .ref t, rfl, rfl, hfo6, ?_, ?_⟩
        · refine small1000 ?_
          rw [List.length_map, hts]
          omega
        have ne7 : t ≠ fo := ne_of ht hfo6 (fun z => by cases z)
        have ht7 : (upd H6 fo (.lst (ts.map V.ref ++ [.ref t]))) t = some (.tup [.int (x : Int), .int a]) := by
          rw [upd_ne ne7]
          exact ht
        refine ⟨_, rfl, t, _, 0, .int (x : Int), rfl, rfl, SqT.of ht7, rfl, (x : Int), 1, rfl, rfl, _, rfl, t, _, 1, .int a, rfl, rfl, SqT.of ht7, rfl, _, _, rfl, ?_⟩
        have hold : ∀ (j : Nat) (t' : Addr) (s : Stp), ts[j]? = some t' → S[j]? = some s → (upd H6 fo (.lst (ts.map V.ref ++ [.ref t]))) t' = some (.tup (stpT s)) := fun j t' s h1 h2 => by
          have h3 := s6 _ _ (s5 _ _ (hte j t' s h1 h2))
          rw [upd_ne (ne_of h3 hfo6 (fun z => by cases z))]
          exact h3
        refine ⟨a, x + 1, _, ts ++ [t], S ++ [(x, a)], rfl, same_upd' sm6 nfo, by rw [upd_same, List.map_append]; rfl, by rw [List.length_append, List.length_append, hts]; rfl, fun j t' s h1 h2 => ?_, hma, by rw [List.length_append, List.length_singleton]; omega, fun j s h => ?_⟩
        · rcases Nat.lt_trichotomy j ts.length with z | z | z
          · rw [List.getElem?_append_left z] at h1
            rw [List.getElem?_append_left (by rw [← hts]; exact z)] at h2
            exact hold j t' s h1 h2
          · rw [List.getElem?_append_right (by omega), z, Nat.sub_self] at h1
            rw [List.getElem?_append_right (by omega), z, hts, Nat.sub_self] at h2
            have e1 : t = t' := Option.some.inj h1
            have e2 : ((x, a) : Stp) = s := Option.some.inj h2
            rw [← e1, ← e2]
            exact ht7
          · rw [List.getElem?_eq_none (by rw [List.length_append, List.length_singleton]; omega)] at h1
            cases h1
        · rcases Nat.lt_trichotomy j S.length with z | z | z
          · rw [List.getElem?_append_left z] at h
            exact hok j s h
          · rw [List.getElem?_append_right (by omega), z, Nat.sub_self] at h
            have e2 : ((x, a) : Stp) = s := Option.some.inj h
            rw [← e2]
            refine ⟨(List.getElem?_eq_some_iff.mp hnm).1, ?_⟩
            have : d0 - 1 - j = m := by omega
            rw [this]
            exact hma
          · rw [List.getElem?_eq_none (by rw [List.length_append, List.length_singleton]; omega)] at h
            cases h
      · have em : m = 0 := by
          have : ¬ (0 : Int) < m := fun z => e (decide_eq_true z)
          omega
        subst em
        refine ⟨_, rfl, fo, _, rfl, .inl ⟨SqL.of hfo5, fun t nt => ?_⟩⟩
        have s6 := s5.trans (same_new (o := .tup (ts.map V.ref)) nt)
        refine q2 _ t d0 S (s0b.trans (sm.trans s6)) hM0 ⟨ts, SqT.of upd_same, hts, fun j t' s h1 h2 => s6 _ _ (hte j t' s h1 h2)⟩ (by omega) hok

theorem scRow : FnScope ["word", "walk", "place", "crossing"] ["word", "walk"] (defScope s_row_of) := ⟨rfl, rfl, rfl, by decide +kernel, rfl, by decide +kernel, by decide +kernel⟩
def spRow (K : PySem.W.Frag) : Sp := fun vs H Q _ => ∃ (wo wk : Addr) (ws : List Str) (S : List Stp) (rs : List Str), vs = [.ref wo, .ref wk] ∧ SqT K H wo (ws.map V.str) ∧ WalkAt K H wk S ∧ S.length ≤ 1000 ∧ rs.length = S.length ∧ (∀ (i : Nat) (s : Stp), S[i]? = some s → ws[s.1]? = rs[i]?) ∧
  ∀ H' t, Same H H' → H' t = some (.tup (rs.map V.str)) → Q (.ref t) H'
theorem ok_row (T : Fs K mg) : DefOk P w K mg base "row_of" 1 ["word", "walk"] (spRow K) := by
  obtain ⟨f, fd, hm, F⟩ := T.row_of
  refine ⟨f, fd, hm, F.kp, F.binds fun _ _ _ _ _ _ us hl => match us, hl with | [_, _], _ => rfl, ?_⟩
  refine F.ok scRow (fun vs H Q E h => ?_) (fun cdv A outer s H vs Q E hr h => ?_)
  · obtain ⟨_, _, _, _, _, rfl, _⟩ := h
    rfl
  · obtain ⟨wo, wk, ws, S, rs, rfl, hT, hWk, hS, hrs, hat, q⟩ := h
    refine ⟨_, pss_one (ps_ret (pe_callTy call_tuple_of (by rfl) T.n_tuple boot_tuple (pa_cons (pe_lc (own := [("place", 2), ("crossing", 3)]) (g := gTup K 2 (gCons (gName 2) (gCons (gName 3) gNil))) (by rfl) scRow.nd (pi_tup (pv 1))
        (blkOk_by (own := [("place", 2), ("crossing", 3)]) (N := ["word", "walk", "place", "crossing"]) (sc := defScope s_row_of) (by decide +kernel))
        (fun _ _ _ _ _ => pgT (n := 2) K rfl rfl (pgs_cons (pg_name (i := 2) scRow.nd rfl (Or.inl rfl)) (pgs_cons (pg_name (i := 3) scRow.nd rfl (Or.inl rfl)) pgs_nil)))
        (fun _ _ _ _ _ => pts_nil) (fun _ _ _ _ _ => pe_ix (ixT K rfl) (pv 0) (pv 2) (fun _ _ => rfl))) pa_nil))), ?_⟩
    obtain ⟨ts, hts, htl, hte⟩ := hWk
    refine ⟨_, rfl, wk, rfl, ⟨_, hts⟩, fun D nD => ?_⟩
    refine lc_tup (K := K) (a := wk) (xs := ts.map V.ref) (fun i H' => Same H H' ∧ H' D = some (.lst ((rs.take i).map V.str))) ⟨same_new nD, upd_same⟩ (fun i H' _ hP => Same.tupT hP.1 hts) (fun i x H' hx hP => ?_) fun H' hP => ?_
    · obtain ⟨sm, hD⟩ := hP
      have hi : i < ts.length := by
        have := (List.getElem?_eq_some_iff.mp hx).1
        rw [List.length_map] at this
        exact this
      have g1 : ts[i]? = some ts[i] := List.getElem?_eq_getElem hi
      have g2 : S[i]? = some (S[i]'(by omega)) := List.getElem?_eq_getElem _
      have g3 : rs[i]? = some (rs[i]'(by omega)) := List.getElem?_eq_getElem _
      generalize hr1 : rs[i]'(by omega) = r at g3
      generalize hs1 : S[i]'(by omega) = s at g2
      generalize ts[i] = t at g1
      have ex : x = .ref t := Option.some.inj (hx.symm.trans (intV_get g1))
      subst ex
      have ht := sm _ _ (hte i t s g1 g2)
      have hw : ws[s.1]? = some r := (hat i s g2).trans g3
      refine ⟨t, _, rfl, SqT.of ht, rfl, .int (s.1 : Int), [.int s.2], rfl, .int s.2, [], rfl, rfl, rfl, ?_⟩
      refine ⟨_, rfl, _, rfl, wo, ws.map V.str, _, .str r, rfl, rfl, Same.tupT sm hT, atI_nat (intV_get hw), _, hD, ?_, same_upd' sm nD, ?_⟩
      · refine small1000 ?_
        rw [List.length_map, List.length_take]
        omega
      · rw [upd_same, List.take_add_one, g3, List.map_append]
        rfl
    · obtain ⟨sm, hD⟩ := hP
      rw [List.length_map, htl, ← hrs, List.take_length] at hD
      refine ⟨D, _, rfl, .inl ⟨SqL.of hD, fun t nt => ?_⟩⟩
      exact q _ t (sm.trans (same_new nt)) upd_same
end
end Rg
/-! the law's lottery: _law_pot, _law_take, _law_of -/
namespace Rg
open PySem PySem.Spec PyProof.Rows L2
open PySem.W NumText
/-- all that was tracked, but for p, is as it was -/
def SameP (p : Addr) (H H' : Hp) : Prop := ∀ b o, b ≠ p → H b = some o → H' b = some o
theorem SameP.refl (p : Addr) (H : Hp) : SameP p H H := fun _ _ _ h => h
theorem SameP.trans {p : Addr} {H H1 H2 : Hp} (a : SameP p H H1) (b : SameP p H1 H2) : SameP p H H2 := fun c o n h => b c o n (a c o n h)
theorem Same.p {p : Addr} {H H' : Hp} (s : Same H H') : SameP p H H' := fun b o _ h => s b o h
theorem SameP.upd {p : Addr} {H H' : Hp} {o : HO} (s : SameP p H H') : SameP p H (upd H' p o) := fun b x n h => by
  rw [upd_ne n]
  exact s b x n h
theorem SameP.new {p l : Addr} {H H' : Hp} {o : HO} (s : SameP p H H') (n : H' l = none) : SameP p H (L2.upd H' l o) := fun b x hb h => by
  have := s b x hb h
  rw [upd_ne (ne_of_none this n)]
  exact this
/-- the lottery's pot: two ints -/
def PotAt (H : Hp) (p : Addr) : Prop := ∃ g x : Int, H p = some (.lst [.int g, .int x])
theorem PotAt.keep {H H' : Hp} {p : Addr} (h : PotAt H p) (s : Same H H') : PotAt H' p := by
  obtain ⟨g, x, e⟩ := h
  exact ⟨g, x, s _ _ e⟩
theorem SameP.free {p l : Addr} {H H' : Hp} (s : SameP p H H') (h : PotAt H' p) (n : H' l = none) : H l = none := by
  obtain ⟨g, x, e⟩ := h
  have nl : l ≠ p := fun z => by rw [z, e] at n; cases n
  cases q : H l with
  | none => rfl
  | some o => rw [s l o nl q] at n; cases n
theorem SameP.tup {p a : Addr} {H H' : Hp} {xs : List V} (s : SameP p H H') (hp : PotAt H p) (h : H a = some (.tup xs)) : H' a = some (.tup xs) := by
  obtain ⟨g, x, e⟩ := hp
  exact s _ _ (ne_of h e (fun z => by cases z)) h
theorem SameP.tupT {K : PySem.W.Frag} {p a : Addr} {H H' : Hp} {xs : List V} (s : SameP p H H') (hp : PotAt H p) (h : SqT K H a xs) : SqT K H' a xs := by
  rcases h with (h | ⟨o, h⟩) | h
  · exact .inl (.inl (s.tup hp h))
  · obtain ⟨g, x, e⟩ := hp
    exact .inl (.inr ⟨o, s _ _ (ne_of h e (fun z => by cases z)) h⟩)
  · exact .inr h
def tens : Str := Str.ofString "1" ++ repS (Str.ofString "0") 900
theorem foldl_cat (l : List (Array Nat)) : ∀ a : Array Nat, (l.foldl (· ++ ·) a).toList = a.toList ++ (l.map Array.toList).flatten := by
  induction l with
  | nil => intro a; simp
  | cons x l ih =>
    intro a
    rw [List.foldl_cons, ih, Array.toList_append, List.map_cons, List.flatten_cons, List.append_assoc]
theorem flat_rep (n : Nat) (c : Nat) : ((List.replicate n #[c]).map Array.toList).flatten = List.replicate n c := by
  induction n with
  | zero => rfl
  | succ n ih =>
    rw [List.replicate_succ, List.map_cons, List.flatten_cons, ih, List.replicate_succ]
    rfl
theorem repS_list (c : Nat) (k : Int) : (repS ⟨#[c]⟩ k).cps.toList = List.replicate k.toNat c := by
  show ((List.replicate k.toNat #[c]).foldl (· ++ ·) #[]).toList = _
  rw [foldl_cat, flat_rep]
  rfl
theorem repS_len (c : Nat) (k : Int) : (repS ⟨#[c]⟩ k).length = k.toNat := by
  have : (repS ⟨#[c]⟩ k).length = (repS ⟨#[c]⟩ k).cps.toList.length := Array.length_toList.symm
  rw [this, repS_list, List.length_replicate]
theorem zeros_len : (repS (Str.ofString "0") 900).length ≤ sizeLine := by
  have h0 : Str.ofString "0" = ⟨#[48]⟩ := by decide +kernel
  rw [h0, repS_len]
  decide
theorem zero_len : 1 ≤ (Str.ofString "0").length ∧ (Str.ofString "0").length ≤ 1000 ∧ (Str.ofString "1").length + (repS (Str.ofString "0") 900).length ≤ sizeLine := by
  have h0 : Str.ofString "0" = ⟨#[48]⟩ := by decide +kernel
  have h1 : Str.ofString "1" = ⟨#[49]⟩ := by decide +kernel
  rw [h0, h1, repS_len]
  decide
theorem tens_list : tens.cps.toList = 49 :: List.replicate 900 48 := by
  have h0 : Str.ofString "0" = ⟨#[48]⟩ := by decide +kernel
  have h1 : Str.ofString "1" = ⟨#[49]⟩ := by decide +kernel
  unfold tens
  rw [h0, h1]
  show (#[49] ++ (repS ⟨#[48]⟩ 900).cps).toList = _
  rw [Array.toList_append, repS_list]
  rfl
def big : Nat := digitsVal (49 :: List.replicate 900 48)
theorem fold_pos : ∀ (cs : List Nat) (a : Nat), 0 < a → 0 < cs.foldl (fun acc c => acc * 10 + (c - 48)) a
  | [], a, h => h
  | c :: cs, a, h => fold_pos cs _ (show 0 < a * 10 + (c - 48) by omega)
theorem big_pos : 0 < big := by
  unfold big digitsVal
  rw [List.foldl_cons]
  exact fold_pos _ _ (by decide)
theorem tens_digits : AllDigits tens.cps.toList := by
  rw [tens_list]
  intro c hc
  rcases List.mem_cons.mp hc with h | h
  · omega
  · have := List.eq_of_mem_replicate h
    omega
theorem tens_size : tens.length = 901 := by
  have : tens.length = tens.cps.toList.length := Array.length_toList.symm
  rw [this, tens_list, List.length_cons, List.length_replicate]
theorem tens_int : PySem.intText? tens = some (big : Int) := by
  have h := intText_digits tens_digits (by rw [tens_list]; exact List.cons_ne_nil _ _) (by rw [tens_size]; decide)
  rw [tens_list] at h
  exact h
theorem tens_fig : ¬ (numSeenOf tens).length ≤ 640 := by
  rw [(numText_signs fun c hc => Or.inr (tens_digits c hc)).2, tens_list, List.length_cons, List.length_replicate]
  decide
theorem tens_len : tens.length ≤ sizeLine := by
  rw [tens_size]
  decide
theorem tens_ex : ∃ b : Int, 0 < b ∧ PySem.intText? (Str.ofString "1" ++ repS (Str.ofString "0") 900) = some b ∧ (Str.ofString "1" ++ repS (Str.ofString "0") 900).length ≤ sizeLine ∧ ¬ (numSeenOf (Str.ofString "1" ++ repS (Str.ofString "0") 900)).length ≤ 640 :=
  ⟨(big : Int), Int.ofNat_lt.mpr big_pos, tens_int, tens_len, tens_fig⟩
theorem cm01 (k : Bool) : -(2 ^ 64) < (if k = true then (1 : Int) else 0) ∧ (if k = true then (1 : Int) else 0) < 2 ^ 64 := by cases k <;> decide
theorem pos1 : (0 : Int) < 2305843009213693951 := by decide
theorem pos2 : (0 : Int) < 65537 := by decide
theorem pos3 : (0 : Int) < 2305843009213693921 := by decide
end Rg
/-! the law's lottery: _law_pot, _law_take, _law_of -/
namespace Rg
open PySem PySem.Spec PyProof.Rows L2
open PySem.W NumText
section
variable {P : Program} {w : World} {K : PySem.W.Frag} {mg : Str → Option Value} {base : Heap}
theorem scPot : FnScope ["_law_script", "_law_k", "_law_cell", "_law_great"] ["_law_script", "_law_k"] (defScope s_pot) := ⟨rfl, rfl, rfl, by decide +kernel, rfl, by decide +kernel, by decide +kernel⟩
def spPot (K : PySem.W.Frag) : Sp := fun vs H Q _ => ∃ (a : Addr) (ns : List Int) (k : Nat), vs = [.ref a, .int (k : Int)] ∧ SqL K H a (ns.map V.int) ∧ k ≤ 1000 ∧ ∀ H' p, Same H H' → H p = none → PotAt H' p → Q (.ref p) H'
theorem ok_pot (T : Fs K mg) : DefOk P w K mg base "_law_pot" 1 ["_law_script", "_law_k"] (spPot K) := by
  obtain ⟨f, fd, hm, F⟩ := T.pot
  refine ⟨f, fd, hm, F.kp, F.binds fun _ _ _ _ _ _ us hl => match us, hl with | [_, _], _ => rfl, ?_⟩
  refine F.ok scPot (fun vs H Q E h => ?_) (fun cdv A outer s H vs Q E hr h => ?_)
  · obtain ⟨_, _, _, rfl, _⟩ := h
    rfl
  · obtain ⟨a, ns, k, rfl, hS, hk, q⟩ := h
    refine ⟨_, pss_cons (ps_set (i := 2) scPot.nd rfl (.inl rfl) (pe_op op_add (pe_op op_mul pe_int (pv 1)) (pe_callB call_len_seq (by rfl) T.n_len PySem.boot_len (pa_cons (pv 0) pa_nil))))
      (pss_cons (ps_if (pt_cmpR op_lt (pv 1) (pe_callB call_len_seq (by rfl) T.n_len PySem.boot_len (pa_cons (pv 0) pa_nil)) (nomark _)) (pss_one (ps_set (i := 2) scPot.nd rfl (.inl rfl) (pe_ix ix_list (pv 0) (pv 1) (fun _ _ => rfl)))) pss_nil)
      (pss_cons (ps_set (i := 3) scPot.nd rfl (.inl rfl) (pe_op op_mul (pe_op op_mod (pe_callB call_abs (by rfl) T.n_abs (by decide +kernel) (pa_cons (pv 2) pa_nil))
          (pe_callTy (cr_intLong T.dig) (by rfl) T.n_int (by decide +kernel) (pa_cons (pe_op op_add_str pe_str (pe_op op_repStr pe_str pe_int)) pa_nil)))
        (pe_callTy call_int1 (by rfl) T.n_int (by decide +kernel) (pa_cons (pe_cmpR op_ge (pe_callB call_abs (by rfl) T.n_abs (by decide +kernel) (pa_cons (pv 2) pa_nil)) (pe_op op_pow pe_int pe_int) (nomark _)) pa_nil))))
      (pss_one (ps_ret (pe_lst (pa_cons (pv 3) (pa_cons (pe_op op_mod (pe_op op_mul (pe_op op_add (pe_op op_add (pe_op op_mod (pv 2) pe_int) (pe_op op_mul (pe_op op_mul pe_int (pv 1)) (pv 1))) pe_int) pe_int) pe_int) pa_nil))))))), ?_⟩
    obtain ⟨bg, b1, b2, b3, b4⟩ := tens_ex
    refine ⟨_, rfl, 3, (k : Int), rfl, rfl, .inl ⟨by decide, by decide⟩, _, rfl, a, _, rfl, .inl hS, _, _, rfl, rfl, ?_⟩
    refine ⟨_, rfl, _, rfl, a, _, rfl, .inl hS, (k : Int), _, rfl, rfl, _, rfl, ite2 (fun e => ?_) fun e => ?_⟩
    · have e := of_decide_eq_true e
      have hkl : k < ns.length := by
        rw [List.length_map] at e
        omega
      have gk : ns[k]? = some ns[k] := List.getElem?_eq_getElem hkl
      generalize ns[k] = cl at gk
      refine ⟨_, rfl, _, rfl, a, _, _, .int cl, rfl, rfl, hS, atI_nat (intV_get gk), ?_⟩
      refine ⟨_, rfl, _, rfl, _, _, rfl, rfl, by decide, by decide, zero_len.1, zero_len.2.1, zeros_len, _, _, rfl, rfl, zero_len.2.2, _, bg, rfl, b2, b3, b4, _, _, rfl, rfl, b1, ?_⟩
      refine ⟨_, rfl, _, rfl, 10, 18, rfl, rfl, ⟨by decide, by decide, by decide⟩, _, _, rfl, rfl, .inr ⟨_, rfl, _, _, rfl, rfl, .inr (cm01 _), ?_⟩⟩
      refine ⟨_, rfl, _, rfl, _, _, rfl, rfl, pos1, _, rfl, _, _, rfl, rfl, .inl ⟨by decide, by decide⟩, _, rfl, _, _, rfl, rfl, .inr ⟨by omega, by omega⟩, _, _, rfl, rfl, _, _, rfl, rfl, _, _, rfl, rfl, .inr ⟨by decide, by decide⟩, _, _, rfl, rfl, pos1, (by show 2 ≤ sizeLine; decide), fun l nl => ?_⟩
      exact q _ l (same_new nl) nl ⟨_, _, upd_same⟩
    · refine ⟨_, rfl, _, rfl, _, _, rfl, rfl, by decide, by decide, zero_len.1, zero_len.2.1, zeros_len, _, _, rfl, rfl, zero_len.2.2, _, bg, rfl, b2, b3, b4, _, _, rfl, rfl, b1, ?_⟩
      refine ⟨_, rfl, _, rfl, 10, 18, rfl, rfl, ⟨by decide, by decide, by decide⟩, _, _, rfl, rfl, .inr ⟨_, rfl, _, _, rfl, rfl, .inr (cm01 _), ?_⟩⟩
      refine ⟨_, rfl, _, rfl, _, _, rfl, rfl, pos1, _, rfl, _, _, rfl, rfl, .inl ⟨by decide, by decide⟩, _, rfl, _, _, rfl, rfl, .inr ⟨by omega, by omega⟩, _, _, rfl, rfl, _, _, rfl, rfl, _, _, rfl, rfl, .inr ⟨by decide, by decide⟩, _, _, rfl, rfl, pos1, (by show 2 ≤ sizeLine; decide), fun l nl => ?_⟩
      exact q _ l (same_new nl) nl ⟨_, _, upd_same⟩

theorem scTake : FnScope ["_law_pot_here", "_law_upto", "_law_digit"] ["_law_pot_here", "_law_upto"] (defScope s_take) := ⟨rfl, rfl, rfl, by decide +kernel, rfl, by decide +kernel, by decide +kernel⟩
def spTake : Sp := fun vs H Q _ => ∃ (p : Addr) (m : Int), vs = [.ref p, .int m] ∧ PotAt H p ∧ 0 < m ∧ m < 1073741824 ∧ ∀ H' v, SameP p H H' → PotAt H' p → 0 ≤ v → v < m → Q (.int v) H'
theorem ok_take (T : Fs K mg) : DefOk P w K mg base "_law_take" 1 ["_law_pot_here", "_law_upto"] spTake := by
  obtain ⟨f, fd, hm, F⟩ := T.take
  refine ⟨f, fd, hm, F.kp, F.binds fun _ _ _ _ _ _ us hl => match us, hl with | [_, _], _ => rfl, ?_⟩
  refine F.ok scTake (fun vs H Q E h => ?_) (fun cdv A outer s H vs Q E hr h => ?_)
  · obtain ⟨_, _, rfl, _⟩ := h
    rfl
  · obtain ⟨p, m, rfl, ⟨g, x, hp⟩, h0, h1, q⟩ := h
    refine ⟨_, pss_cons (ps_if (pt_cmpR op_gt (pe_ix ix_list (pv 0) pe_int (fun _ _ => rfl)) pe_int (nomark _))
        (pss_cons (ps_set (i := 2) scTake.nd rfl (.inl rfl) (pe_op op_mod (pe_ix ix_list (pv 0) pe_int (fun _ _ => rfl)) (pv 1)))
          (pss_cons (ps_asg (pe_op op_fdiv (pe_ix ix_list (pv 0) pe_int (fun _ _ => rfl)) (pv 1)) (pg_sub (pv 0) pe_int set_list)) (pss_one (ps_ret (pv 2))))) pss_nil)
      (pss_cons (ps_asg (pe_op op_mod (pe_op op_add (pe_op op_mul (pe_ix ix_list (pv 0) pe_int (fun _ _ => rfl)) pe_int) pe_int) pe_int) (pg_sub (pv 0) pe_int set_list))
      (pss_one (ps_ret (pe_op op_mod (pe_op op_fdiv (pe_op op_mod (pe_op op_mul (pe_op op_fdiv (pe_ix ix_list (pv 0) pe_int (fun _ _ => rfl)) pe_int)
        (pe_op op_add (pe_op op_mod (pe_ix ix_list (pv 0) pe_int (fun _ _ => rfl)) pe_int) pe_int)) pe_int) pe_int) (pv 1))))), ?_⟩
    refine ⟨_, rfl, p, _, 0, .int g, rfl, rfl, SqL.of hp, rfl, g, 0, rfl, rfl, _, rfl, ite2 (fun e => ?_) fun e => ?_⟩
    · refine ⟨_, rfl, p, _, 0, .int g, rfl, rfl, SqL.of hp, rfl, _, rfl, g, m, rfl, rfl, h0, ?_⟩
      refine ⟨_, rfl, p, _, 0, .int g, rfl, rfl, SqL.of hp, rfl, _, rfl, g, m, rfl, rfl, ⟨h0, h1⟩, _, rfl, p, _, 0, 0, rfl, rfl, hp, rfl, ?_⟩
      exact ⟨_, rfl, q _ _ (SameP.refl p H).upd ⟨_, _, upd_same⟩ (Int.emod_nonneg _ (by omega)) (Int.emod_lt_of_pos _ h0)⟩
    · refine ⟨_, rfl, p, _, 1, .int x, rfl, rfl, SqL.of hp, rfl, x, _, rfl, rfl, .inr ⟨by decide, by decide⟩, _, _, rfl, rfl, _, _, rfl, rfl, pos1, _, rfl, p, _, 1, 1, rfl, rfl, hp, rfl, ?_⟩
      generalize hy : (x * 1181783497276652981 + 12345678910987) % 2305843009213693951 = y
      have hp2 : (upd H p (.lst [.int g, .int y])) p = some (.lst [.int g, .int y]) := upd_same
      refine ⟨_, rfl, p, [.int g, .int y], 1, .int y, rfl, rfl, SqL.of ?_, rfl, y, _, rfl, rfl, ⟨by decide, by decide⟩, _, rfl, p, [.int g, .int y], 1, .int y, rfl, rfl, SqL.of ?_, rfl, y, _, rfl, rfl, pos2, _, _, rfl, rfl, _, _, rfl, rfl, .inr ?_, _, _, rfl, rfl, pos3, _, _, rfl, rfl, ⟨by decide, by decide⟩, _, rfl, _, m, rfl, rfl, h0, ?_⟩
      · rw [← hy]
        exact upd_same
      · rw [← hy]
        exact upd_same
      · have h1 := Int.emod_nonneg y (show (65537 : Int) ≠ 0 by decide)
        have h2 := Int.emod_lt_of_pos y (show (0 : Int) < 65537 by decide)
        exact ⟨by omega, by omega⟩
      · exact q _ _ (SameP.refl p H).upd ⟨_, _, upd_same⟩ (Int.emod_nonneg _ (by omega)) (Int.emod_lt_of_pos _ h0)

theorem scOf : FnScope ["_law_pot_here", "_law_some"] ["_law_pot_here", "_law_some"] (defScope s_of) := ⟨rfl, rfl, rfl, by decide +kernel, rfl, by decide +kernel, by decide +kernel⟩
def spOf : Sp := fun vs H Q _ => ∃ (p l : Addr) (xs : List V), vs = [.ref p, .ref l] ∧ PotAt H p ∧ H l = some (.lst xs) ∧ l ≠ p ∧ 0 < xs.length ∧ xs.length ≤ 1000 ∧ ∀ H' v, SameP p H H' → PotAt H' p → v ∈ xs → Q v H'
theorem ok_of (T : Fs K mg) : DefOk P w K mg base "_law_of" 2 ["_law_pot_here", "_law_some"] spOf := by
  obtain ⟨f, fd, hm, F⟩ := T.of
  obtain ⟨fT, fdT, mT, kT, bT, GT⟩ := ok_take (P := P) (w := w) (base := base) T
  refine ⟨f, fd, hm, F.kp, F.binds fun _ _ _ _ _ _ us hl => match us, hl with | [_, _], _ => rfl, ?_⟩
  refine F.ok scOf (fun vs H Q E h => ?_) (fun cdv A outer s H vs Q E hr h => ?_)
  · obtain ⟨_, _, _, rfl, _⟩ := h
    rfl
  · obtain ⟨p, l, xs, rfl, hp, hl, ne, h0, h1, q⟩ := h
    refine ⟨_, pss_one (ps_ret (pe_ix ix_list (pv 1) (pe_call GT hr (by rfl) mT kT bT .nil pass0 (pa_cons (pv 0) (pa_cons (pe_callB call_len_seq (by rfl) T.n_len PySem.boot_len (pa_cons (pv 1) pa_nil)) pa_nil))) (fun _ _ => rfl))), ?_⟩
    refine ⟨_, rfl, _, rfl, _, rfl, l, xs, rfl, .inl (SqL.of hl), p, (xs.length : Int), rfl, hp, by omega, by omega, fun H' v s hp' v0 v1 => ?_⟩
    have hv : v.toNat < xs.length := by omega
    refine ⟨l, xs, v, xs[v.toNat], rfl, rfl, SqL.of (s _ _ ne hl), ?_, q _ _ s hp' (List.getElem_mem hv)⟩
    have ev : ((v.toNat : Nat) : Int) = v := by omega
    have := atI_nat (List.getElem?_eq_getElem hv)
    rw [ev] at this
    exact this
end
end Rg
/-! _law_names -/
namespace Rg
open PySem PySem.Spec PyProof.Rows L2
theorem alpha_list : (Str.ofString "abcdefghijklmnopqrstuvwxyz").cps.toList = (List.range 26).map (97 + ·) := by decide +kernel
theorem alpha_at {i : Int} (h0 : 0 ≤ i) (h1 : i < 26) : atI (Str.ofString "abcdefghijklmnopqrstuvwxyz").cps.toList i = some (97 + i.toNat) := by
  rw [alpha_list]
  have e : ((i.toNat : Nat) : Int) = i := by omega
  rw [← e]
  refine atI_nat ?_
  rw [List.getElem?_map, List.getElem?_range (by omega)]
  rfl
theorem alpha_size : (Str.ofString "abcdefghijklmnopqrstuvwxyz").length ≤ sizeLine := by decide +kernel
theorem abc_facts : (Str.ofString "abcxyz").cps.size ≤ sizeLine ∧ 0 < ((Str.ofString "abcxyz").cps.toList.map fun c => V.str ⟨#[c]⟩).length ∧ ((Str.ofString "abcxyz").cps.toList.map fun c => V.str ⟨#[c]⟩).length ≤ 1000 := by
  rw [List.length_map]
  decide +kernel
theorem join_short {a : Str} (ha : a.length = 0) {ys : List Str} (h : ∀ y ∈ ys, y.length ≤ 1) : (ys.map (·.length)).sum + ys.length * a.length ≤ ys.length ∧ (Txt.join a ys).length ≤ ys.length := by
  have h1 : ∀ zs : List Str, (∀ y ∈ zs, y.length ≤ 1) → (zs.map (·.length)).sum ≤ zs.length := by
    intro zs
    induction zs with
    | nil => intro _; exact Nat.le_refl _
    | cons z zs ih =>
      intro h
      have h2 := ih fun y hy => h y (List.mem_cons_of_mem _ hy)
      have h3 := h z (List.mem_cons_self ..)
      rw [List.map_cons, List.sum_cons, List.length_cons]
      omega
  have h2 := h1 ys h
  have h3 : (Txt.join a ys).length ≤ (ys.map (·.length)).sum + ys.length * a.length := by
    show (Builtin.Str.glued a ys).length ≤ _
    rw [StrLaws.glued_eq_join]
    exact StrLaws.join_length_le a ys
  rw [ha, Nat.mul_zero] at h3 ⊢
  exact ⟨by omega, by omega⟩
/-- all signs are code points -/
def strS (x : Str) : Prop := ∀ c ∈ x.cps.toList, c < 0x110000
theorem strOk_of {x : Str} (h : strS x) : PyData.strOk x = true := by
  unfold PyData.strOk
  rw [← Array.all_toList, List.all_eq_true]
  intro c hc
  exact decide_eq_true (h c hc)
theorem strS_app {x y : Str} (hx : strS x) (hy : strS y) : strS (x ++ y) := fun c hc => by
  have e : (x ++ y).cps.toList = x.cps.toList ++ y.cps.toList := by
    show (x.cps ++ y.cps).toList = _
    rw [Array.toList_append]
  rw [e] at hc
  rcases List.mem_append.mp hc with h | h
  · exact hx c h
  · exact hy c h
theorem strS_join {a : Str} (ha : strS a) : ∀ {ys : List Str}, (∀ y ∈ ys, strS y) → strS (Str.join a ys)
  | [], _ => fun c hc => by
    have : c ∈ ([] : List Nat) := hc
    cases this
  | [x], h => h x (List.mem_cons_self ..)
  | x :: y :: r, h => strS_app (strS_app (h x (List.mem_cons_self ..)) ha) (strS_join ha fun z hz => h z (List.mem_cons_of_mem _ hz))
theorem strS_cut {x : Str} (hx : strS x) (lo hi : Option Int) : strS (cutS x lo hi) := fun c hc => by
  have hc : c ∈ ((x.cps.toList.drop (HT.sIx x.length 0 lo)).take (HT.sIx x.length x.length hi - HT.sIx x.length 0 lo)) := hc
  exact hx c (List.mem_of_mem_drop (List.mem_of_mem_take hc))
theorem strS_one {c : Nat} (h : c < 0x110000) : strS ⟨#[c]⟩ := fun d hd => by
  have hd : d ∈ [c] := hd
  rw [List.mem_singleton.mp hd]
  exact h
theorem abc_small : ∀ c ∈ (Str.ofString "abcxyz").cps.toList, c < 0x110000 := by decide +kernel
theorem empty_small : strS (Str.ofString "") := by
  intro c hc
  have e : (Str.ofString "").cps.toList = [] := by decide +kernel
  rw [e] at hc
  cases hc
/-- stem with a letter within -/
def midS (A B : Str) (c : Nat) : Str := A ++ ⟨#[c]⟩ ++ B
theorem midS_list (A B : Str) (c : Nat) : (midS A B c).cps.toList = A.cps.toList ++ c :: B.cps.toList := by
  show ((A.cps ++ #[c]) ++ B.cps).toList = _
  rw [Array.toList_append, Array.toList_append, List.append_assoc]
  rfl
theorem midS_inj {A B : Str} {c d : Nat} (h : midS A B c = midS A B d) : c = d := by
  have := congrArg (fun s : Str => s.cps.toList) h
  simp only [midS_list] at this
  have h2 := List.append_cancel_left this
  injection h2
theorem midS_len (A B : Str) (c : Nat) : (midS A B c).length = A.length + 1 + B.length := by
  have : (midS A B c).length = (midS A B c).cps.toList.length := Array.length_toList.symm
  rw [this, midS_list, List.length_append, List.length_cons]
  have h1 : A.cps.toList.length = A.length := Array.length_toList
  have h2 : B.cps.toList.length = B.length := Array.length_toList
  omega
theorem two_of {a b : Str} {ys : List Str} (h : ys.Perm [a, b]) (hne : a ≠ b) (hs : sortedS ys = true) : ∃ x y, ys = [x, y] ∧ x ≠ y ∧ ltCps y.cps.toList x.cps.toList = false ∧ (x = a ∨ x = b) ∧ (y = a ∨ y = b) := by
  have hl := h.length_eq
  match ys, hl with
  | [x, y], _ =>
    have hx : x = a ∨ x = b := by
      have := h.mem_iff.mp (List.mem_cons_self .. : x ∈ [x, y])
      simpa using this
    have hy : y = a ∨ y = b := by
      have := h.mem_iff.mp (List.mem_cons_of_mem _ (List.mem_cons_self ..) : y ∈ [x, y])
      simpa using this
    have nd : [x, y].Nodup := h.nodup_iff.mpr (by simp [hne])
    refine ⟨x, y, rfl, by simpa using nd, ?_, hx, hy⟩
    have hs : (!ltCps y.cps.toList x.cps.toList && true) = true := hs
    simpa using hs
section
variable {P : Program} {w : World} {K : PySem.W.Frag} {mg : Str → Option Value} {base : Heap}
abbrev nsNames : List Str := ["_law_pot_here", "_law_many", "_law_stem", "_law_at", "_law_first", "_law_leap", "_law_letters", "_law_k", "_law_letter"]
theorem scNames : FnScope nsNames ["_law_pot_here", "_law_many"] (defScope s_names) := ⟨rfl, rfl, rfl, by decide +kernel, rfl, by decide +kernel, by decide +kernel⟩
def spNames : Sp := fun vs H Q _ => ∃ p : Addr, vs = [.ref p, .int 2] ∧ PotAt H p ∧
  ∀ H' l a b, SameP p H H' → PotAt H' p → H l = none → H' l = some (.lst [.str a, .str b]) → a ≠ b → ltCps b.cps.toList a.cps.toList = false → 1 ≤ a.length → 1 ≤ b.length → a.length ≤ 100 → b.length ≤ 100 → PyData.strOk a = true → PyData.strOk b = true → Q (.ref l) H'
theorem ok_names (T : Fs K mg) : DefOk P w K mg base "_law_names" 3 ["_law_pot_here", "_law_many"] spNames := by
  obtain ⟨f, fd, hm, F⟩ := T.names
  obtain ⟨fT, fdT, mT, kT, bT, GT⟩ := ok_take (P := P) (w := w) (base := base) T
  obtain ⟨fO, fdO, mO, kO, bO, GO⟩ := ok_of (P := P) (w := w) (base := base) T
  refine ⟨f, fd, hm, F.kp, F.binds fun _ _ _ _ _ _ us hl => match us, hl with | [_, _], _ => rfl, ?_⟩
  refine F.ok scNames (fun vs H Q E h => ?_) (fun cdv A outer s H vs Q E hr h => ?_)
  · obtain ⟨_, rfl, _⟩ := h
    rfl
  · obtain ⟨p, rfl, hp, q⟩ := h
    have hr1 := hr.mono (show 1 ≤ 2 by decide)
    refine ⟨_, pss_cons (ps_set (i := 2) scNames.nd rfl (.inr rfl) (pe_join pe_str (pe_lc (own := [("_law_k", 7)]) (g := gName 7) (by rfl) scNames.nd
          (pi_range1 (by rfl) T.n_range (pa_cons (pe_call GT hr1 (by rfl) mT kT bT .nil pass0 (pa_cons (pv 0) (pa_cons pe_int pa_nil))) pa_nil))
          (blkOk_by (own := [("_law_k", 7)]) (N := nsNames) (sc := defScope s_names) (by decide +kernel))
          (fun _ _ _ _ _ => pg_name (i := 7) scNames.nd rfl (Or.inl rfl)) (fun _ _ _ _ _ => pts_nil)
          (fun _ _ _ _ _ => pe_call GO hr (by rfl) mO kO bO .nil pass0 (pa_cons (pv 0) (pa_cons (pe_callTy (cr_listStr rfl) (by rfl) T.n_list (by decide +kernel) (pa_cons pe_str pa_nil)) pa_nil))))))
      (pss_cons (ps_asg (pe_tup (pa_cons (pe_call GT hr1 (by rfl) mT kT bT .nil pass0 (pa_cons (pv 0) (pa_cons (pe_op op_add (pe_callB call_len_str (by rfl) T.n_len PySem.boot_len (pa_cons (pv 2) pa_nil)) pe_int) pa_nil)))
          (pa_cons (pe_call GT hr1 (by rfl) mT kT bT .nil pass0 (pa_cons (pv 0) (pa_cons pe_int pa_nil)))
          (pa_cons (pe_call GO hr (by rfl) mO kO bO .nil pass0 (pa_cons (pv 0) (pa_cons (pe_lst (pa_cons pe_int (pa_cons pe_int (pa_cons pe_int (pa_cons pe_int (pa_cons pe_int (pa_cons pe_int pa_nil))))))) pa_nil))) pa_nil))))
        (pg_tup (n := 3) rfl (pgs_cons (pg_name (i := 3) scNames.nd rfl (.inr rfl)) (pgs_cons (pg_name (i := 4) scNames.nd rfl (.inr rfl)) (pgs_cons (pg_name (i := 5) scNames.nd rfl (.inr rfl)) pgs_nil)))))
      (pss_cons (ps_setLc (i := 6) (own := [("_law_k", 7)]) (g := gName 7) (by rfl) scNames.nd rfl rfl (sw_true rfl rfl rfl (by decide +kernel))
          (pi_range1 (by rfl) T.n_range (pa_cons (pv 1) pa_nil))
          (blkOk_by (own := [("_law_k", 7)]) (N := nsNames) (sc := defScope s_names) (by decide +kernel))
          (fun _ _ _ _ _ => pg_name (i := 7) scNames.nd rfl (Or.inl rfl)) (fun _ _ _ _ _ => pts_nil)
          (fun _ _ _ _ _ => pe_ix ix_str pe_str (pe_op op_mod (pe_op op_add (pv 4) (pe_op op_mul (pv 5) (pv 7))) pe_int) (fun _ _ => rfl)))
      (pss_one (ps_ret (pe_callB cr_sortedS (by rfl) T.n_sorted (by decide +kernel) (pa_cons (pe_lc (own := [("_law_letter", 8)]) (g := gName 8) (by rfl) scNames.nd (pi_list (pv 6))
          (blkOk_by (own := [("_law_letter", 8)]) (N := nsNames) (sc := defScope s_names) (by decide +kernel))
          (fun _ _ _ _ _ => pg_name (i := 8) scNames.nd rfl (Or.inl rfl)) (fun _ _ _ _ _ => pts_nil)
          (fun _ _ _ _ _ => pe_op op_add_str (pe_op op_add_str (pe_slice sl_str (pv 2) po_none (po_some (pv 3))) (pv 8)) (pe_slice sl_str (pv 2) (po_some (pv 3)) po_none))) pa_nil)))))), ?_⟩
    -- the stem
    refine ⟨⟨_, rfl⟩, _, rfl, p, 6, rfl, hp, by decide, by decide, fun H1 v s1 hp1 v0 v1 => ⟨v, rfl, by omega, by omega, fun D nD => ?_⟩⟩
    have nDp : D ≠ p := fun z => by
      obtain ⟨_, _, e⟩ := hp1
      rw [z, e] at nD
      cases nD
    refine lc_range (lo := 0) (n := v.toNat) (fun i H' => SameP p H1 H' ∧ PotAt H' p ∧ ∃ ys : List Str, ys.length = i ∧ (∀ y ∈ ys, y.length ≤ 1 ∧ strS y) ∧ H' D = some (.lst (ys.map V.str)))
      ⟨(SameP.refl p H1).new nD, hp1.keep (same_new nD), [], rfl, fun y hy => by simp at hy, upd_same⟩ (fun i H' hi hP => ?_) fun H' hP => ?_
    · obtain ⟨s2, hp2, ys, hyl, hy1, hD⟩ := hP
      refine ⟨rfl, _, rfl, _, rfl, abc_facts.1, fun l nl => ?_⟩
      have hp3 := hp2.keep (same_new (o := .lst ((Str.ofString "abcxyz").cps.toList.map fun c => V.str ⟨#[c]⟩)) nl)
      have nlp : l ≠ p := fun z => by
        obtain ⟨_, _, e⟩ := hp2
        rw [z, e] at nl
        cases nl
      refine ⟨p, l, _, rfl, hp3, upd_same, nlp, abc_facts.2.1, abc_facts.2.2, fun H3 y s3 hp4 hy => ?_⟩
      obtain ⟨c, hcm, rfl⟩ := List.mem_map.mp hy
      have hD3 : H3 D = some (.lst (ys.map V.str)) := s3 _ _ nDp (by rw [upd_ne (ne_of_none hD nl)]; exact hD)
      have s4 := (s2.new (o := .lst ((Str.ofString "abcxyz").cps.toList.map fun c => V.str ⟨#[c]⟩)) nl).trans s3
      refine ⟨_, hD3, small1000 (by rw [List.length_map]; omega), ?_, ?_, ys ++ [⟨#[c]⟩], by rw [List.length_append, hyl]; rfl, fun y hy => ?_, by rw [upd_same, List.map_append]; rfl⟩
      · intro b o nb hb
        by_cases hbD : b = D
        · rw [hbD, nD] at hb
          cases hb
        · rw [upd_ne hbD]
          exact s4 b o nb hb
      · obtain ⟨g, x, e⟩ := hp4
        exact ⟨g, x, by rw [upd_ne nDp.symm]; exact e⟩
      · rcases List.mem_append.mp hy with h | h
        · exact hy1 y h
        · rw [List.mem_singleton.mp h]
          exact ⟨Nat.le_refl _, strS_one (abc_small c hcm)⟩
    obtain ⟨s2, hp2, ys, hyl, hy1, hD⟩ := hP
    have hj := fun (a : Str) (ha : a.length = 0) => join_short ha fun y hy => (hy1 y hy).1
    refine ⟨_, D, ys, rfl, rfl, .inl (SqL.of hD), Nat.le_trans (hj _ rfl).1 (by omega), ?_⟩
    have hstl := (hj (Str.ofString "") rfl).2
    have hsts : strS (Txt.join (Str.ofString "") ys) := by
      show strS (Builtin.Str.glued (Str.ofString "") ys)
      rw [StrLaws.glued_eq_join]
      exact strS_join empty_small fun y hy => (hy1 y hy).2
    generalize Txt.join (Str.ofString "") ys = stem at hstl hsts
    have s02 := s1.trans s2
    have hsl : stem.length ≤ 5 := by omega
    -- the place, the first letter, the leap
    refine ⟨_, rfl, _, rfl, stem, rfl, Nat.le_of_lt (small1000 (by omega)), _, _, rfl, rfl, p, _, rfl, hp2, by omega, by omega, fun H3 at_ s3 hp3 a0 a1 => ?_⟩
    refine ⟨_, rfl, p, _, rfl, hp3, by decide, by decide, fun H4 fst s4 hp4 f0 f1 => ?_⟩
    refine ⟨_, rfl, (by show 6 ≤ sizeLine; decide), fun l nl => ?_⟩
    have nlp : l ≠ p := fun z => by
      obtain ⟨_, _, e⟩ := hp4
      rw [z, e] at nl
      cases nl
    refine ⟨p, l, _, rfl, hp4.keep (same_new nl), upd_same, nlp, (by show 0 < 6; decide), (by show 6 ≤ 1000; decide), fun H5 y s5 hp5 hy => ?_⟩
    obtain ⟨lp, rfl, lp0, lp1, lp2⟩ : ∃ lp : Int, y = .int lp ∧ 1 ≤ lp ∧ lp ≤ 11 ∧ lp % 26 ≠ 0 := by
      simp only [List.mem_cons, List.not_mem_nil, or_false] at hy
      rcases hy with h | h | h | h | h | h
      · exact ⟨1, h, by decide, by decide, by decide⟩
      · exact ⟨3, h, by decide, by decide, by decide⟩
      · exact ⟨5, h, by decide, by decide, by decide⟩
      · exact ⟨7, h, by decide, by decide, by decide⟩
      · exact ⟨9, h, by decide, by decide, by decide⟩
      · exact ⟨11, h, by decide, by decide, by decide⟩
    have s05 := ((s02.trans s3).trans s4).trans (((SameP.refl p H4).new nl).trans s5)
    refine ⟨(by show 3 ≤ sizeLine; decide), fun t nt => ⟨t, [.int at_, .int fst, .int lp], rfl, SqT.of upd_same, rfl, .int at_, [.int fst, .int lp], rfl, .int fst, [.int lp], rfl, .int lp, [], rfl, rfl, ?_⟩⟩
    have s06 := s05.trans ((SameP.refl p H5).new (o := .tup [.int at_, .int fst, .int lp]) nt)
    have hp6 := hp5.keep (same_new (o := .tup [.int at_, .int fst, .int lp]) nt)
    generalize upd H5 t (.tup [.int at_, .int fst, .int lp]) = H6 at s06 hp6
    -- the two letters
    refine ⟨_, rfl, 2, rfl, by decide, by decide, fun D2 nD2 => ?_⟩
    refine lc_range (lo := 0) (n := 2) (fun i H' => Same H6 H' ∧ H' D2 = some (.lst (((List.range i).map fun (k : Nat) => 97 + ((fst + lp * (0 + (k : Int))) % 26).toNat).map fun c => V.str ⟨#[c]⟩))) ⟨same_new nD2, upd_same⟩ (fun i H' hi hP => ?_) fun H' hP => ?_
    · obtain ⟨sm, hD⟩ := hP
      have e0 := Int.emod_nonneg (fst + lp * (0 + (i : Int))) (show (26 : Int) ≠ 0 by decide)
      have e1 := Int.emod_lt_of_pos (fst + lp * (0 + (i : Int))) (show (0 : Int) < 26 by decide)
      refine ⟨rfl, _, rfl, _, rfl, _, rfl, lp, _, rfl, rfl, .inl ⟨by omega, by omega⟩, _, _, rfl, rfl, _, _, rfl, rfl, (by show (0 : Int) < 26; decide), _, _, _, rfl, rfl, alpha_size, alpha_at e0 e1, _, hD, small1000 (by rw [List.length_map, List.length_map, List.length_range]; omega), same_upd' sm nD2, ?_⟩
      rw [upd_same, List.range_succ, List.map_append, List.map_append]
      rfl
    obtain ⟨sm, hD2⟩ := hP
    have s07 := s06.trans (Same.p sm)
    have hp7 := hp6.keep sm
    have hD2 : H' D2 = some (.lst ([97 + ((fst + lp * (0 + ((0 : Nat) : Int))) % 26).toNat, 97 + ((fst + lp * (0 + ((1 : Nat) : Int))) % 26).toNat].map fun c => V.str ⟨#[c]⟩)) := hD2
    have hc : 97 + ((fst + lp * (0 + ((0 : Nat) : Int))) % 26).toNat ≠ 97 + ((fst + lp * (0 + ((1 : Nat) : Int))) % 26).toNat := by
      have e0 : fst + lp * (0 + ((0 : Nat) : Int)) = fst := by
        rw [show (0 : Int) + ((0 : Nat) : Int) = 0 from rfl, Int.mul_zero, Int.add_zero]
      have e1 : fst + lp * (0 + ((1 : Nat) : Int)) = fst + lp := by
        rw [show (0 : Int) + ((1 : Nat) : Int) = 1 from rfl, Int.mul_one]
      rw [e0, e1]
      omega
    have hs0 : 97 + ((fst + lp * (0 + ((0 : Nat) : Int))) % 26).toNat < 0x110000 := by
      have := Int.emod_lt_of_pos (fst + lp * (0 + ((0 : Nat) : Int))) (show (0 : Int) < 26 by decide)
      omega
    have hs1 : 97 + ((fst + lp * (0 + ((1 : Nat) : Int))) % 26).toNat < 0x110000 := by
      have := Int.emod_lt_of_pos (fst + lp * (0 + ((1 : Nat) : Int))) (show (0 : Int) < 26 by decide)
      omega
    generalize 97 + ((fst + lp * (0 + ((0 : Nat) : Int))) % 26).toNat = c0 at hc hD2 hs0
    generalize 97 + ((fst + lp * (0 + ((1 : Nat) : Int))) % 26).toNat = c1 at hc hD2 hs1
    -- the names
    refine ⟨_, rfl, D2, rfl, ⟨_, SqL.of hD2⟩, fun D3 nD3 => ?_⟩
    have hA := cutS_length stem none (some at_)
    have hB := cutS_length stem (some at_) none
    refine lc_list (K := K) (a := D2) (xs := [c0, c1].map fun c => V.str ⟨#[c]⟩) (fun i H'' => Same H' H'' ∧ H'' D3 = some (.lst (([c0, c1].take i).map fun c => V.str (midS (cutS stem none (some at_)) (cutS stem (some at_) none) c)))) ⟨same_new nD3, upd_same⟩ (fun i H'' _ hP => SqL.of (hP.1 _ _ hD2)) (fun i y H'' hy hP => ?_) fun H'' hP => ?_
    · obtain ⟨sm2, hD3⟩ := hP
      have hi : i < 2 := (List.getElem?_eq_some_iff.mp hy).1
      have gi : [c0, c1][i]? = some ([c0, c1][i]'hi) := List.getElem?_eq_getElem hi
      generalize [c0, c1][i]'hi = c at gi
      have ey : y = .str ⟨#[c]⟩ := Option.some.inj (hy.symm.trans (intV_get gi))
      subst ey
      have l1 : (⟨#[c]⟩ : Str).length = 1 := rfl
      refine ⟨rfl, _, rfl, _, rfl, _, rfl, stem, rfl, Nat.le_of_lt (small1000 (by omega)), _, rfl, _, _, rfl, rfl, Nat.le_of_lt (small1000 (by omega)), ?_⟩
      refine ⟨_, rfl, _, rfl, _, rfl, stem, rfl, Nat.le_of_lt (small1000 (by omega)), _, _, rfl, rfl, Nat.le_of_lt (small1000 ?_), _, hD3, small1000 (by rw [List.length_map, List.length_take]; omega), same_upd' sm2 nD3, ?_⟩
      · rw [Str.length_append]
        omega
      · rw [upd_same, List.take_add_one, gi, List.map_append]
        rfl
    obtain ⟨sm2, hD3⟩ := hP
    have hD3 : H'' D3 = some (.lst ([midS (cutS stem none (some at_)) (cutS stem (some at_) none) c0, midS (cutS stem none (some at_)) (cutS stem (some at_) none) c1].map V.str)) := hD3
    refine ⟨D3, _, rfl, SqL.of hD3, (by show 2 < 64; decide), fun zs l2 hperm hsrt nl2 => ?_⟩
    obtain ⟨x, y, rfl, hxy, hlt, hx, hy⟩ := two_of hperm (fun z => hc (midS_inj z)) hsrt
    have lens : ∀ z, (z = midS (cutS stem none (some at_)) (cutS stem (some at_) none) c0 ∨ z = midS (cutS stem none (some at_)) (cutS stem (some at_) none) c1) → (1 ≤ z.length ∧ z.length ≤ 100) ∧ PyData.strOk z = true := fun z hz => by
      rcases hz with h | h
      · exact ⟨by rw [h, midS_len]; omega, by rw [h]; exact strOk_of (strS_app (strS_app (strS_cut hsts _ _) (strS_one hs0)) (strS_cut hsts _ _))⟩
      · exact ⟨by rw [h, midS_len]; omega, by rw [h]; exact strOk_of (strS_app (strS_app (strS_cut hsts _ _) (strS_one hs1)) (strS_cut hsts _ _))⟩
    have s08 := (s07.trans (Same.p sm2))
    have hp8 := hp7.keep sm2
    refine q _ l2 x y (s08.new nl2) (hp8.keep (same_new nl2)) (s08.free hp8 nl2) (by rw [upd_same]; rfl) hxy hlt (lens x hx).1.1 (lens y hy).1.1 (lens x hx).1.2 (lens y hy).1.2 (lens x hx).2 (lens y hy).2
end
end Rg
/-! _law_goals, _law_least, _law_due -/
namespace Rg
open PySem PySem.Spec PyProof.Rows L2
theorem nodup_range_int (n : Nat) : ((List.range n).map fun (i : Nat) => (i : Int)).Nodup := by
  unfold List.Nodup
  rw [List.pairwise_map]
  exact List.Pairwise.imp (fun {a b} h => by omega) List.pairwise_lt_range
theorem inV_int (x : Int) : ∀ es : List Int, inV (.int x) (es.map V.int) = decide (x ∈ es)
  | [] => rfl
  | e :: es => by
    have ih := inV_int x es
    show (eqV (.int e) (.int x) || inV (.int x) (es.map V.int)) = _
    rw [ih]
    show ((e == x) || decide (x ∈ es)) = _
    by_cases h : x = e
    · subst h
      simp
    · have h' : (e == x) = false := by simpa using fun z => h z.symm
      rw [h', Bool.false_or]
      simp [h]
theorem flat_ints (es : List Int) : (es.map V.int).all flatV = true := by
  rw [List.all_eq_true]
  intro x hx
  obtain ⟨i, _, rfl⟩ := List.mem_map.mp hx
  rfl
theorem find_at {Pd : Nat → Bool} {k : Nat} (hk : Pd k = true) : ∀ {l : List Nat} {i : Nat}, l[i]? = some k → (∀ j x, j < i → l[j]? = some x → Pd x = false) → l.find? Pd = some k
  | [], i, h, _ => by simp at h
  | x :: l, 0, h, _ => by
    have e : x = k := by simpa using h
    rw [List.find?_cons, e, hk]
  | x :: l, i + 1, h, hn => by
    rw [List.find?_cons, hn 0 x (Nat.zero_lt_succ _) rfl]
    exact find_at hk (by simpa using h) fun j y hj e => hn (j + 1) y (Nat.succ_lt_succ hj) (by simpa using e)
theorem find_no {Pd : Nat → Bool} {l : List Nat} (h : ∀ (j x : Nat), l[j]? = some x → Pd x = false) : l.find? Pd = none := by
  rw [List.find?_eq_none]
  intro x hx
  obtain ⟨j, hj⟩ := List.mem_iff_getElem?.mp hx
  rw [h j x hj]
  exact Bool.false_ne_true
/-- the steps that are tried -/
theorem cands_ok {K : PySem.W.Frag} {σ : L2.St} {H : Hp} {Q : VK} {n m low : Nat} (h0 : σ[0]? = some (some (.int (n : Int)))) (h4 : σ[4]? = some (some (.int (low : Int)))) (h5 : σ[5]? = some (some (.bl (decide (m < 2))))) (hn : n ≤ 1000) (hl : low ≤ 1000)
    (h : ∀ H' l, Same H H' → H' l = some (.lst ((cands n m low).map fun (k : Nat) => V.int (k : Int))) → Q (.ref l) H') :
    tIf (fun σ H Q => tVar 5 σ H fun x H' => ∃ k, TruV K x H' k ∧ Q k H') (tLst (tCons (tVar 4) tNil)) (tLstRg (tRg2 (tVar 4) (tOp (rI0 fun i j => .int (i + j)) (tOp (rI0 fun i j => .int (i + j)) (tVar 4) (tVar 0)) (tC (.int 1))))) σ H Q := by
  refine ⟨_, h5, _, rfl, ite2 (fun e => ?_) fun e => ?_⟩
  · have e := of_decide_eq_true e
    refine ⟨_, h4, (by show 1 ≤ sizeLine; decide), fun l nl => h _ l (same_new nl) ?_⟩
    rw [upd_same]
    unfold cands
    rw [if_pos e]
    rfl
  · have e : ¬ m < 2 := fun z => e (decide_eq_true z)
    refine ⟨_, h4, _, h4, _, h0, _, _, rfl, rfl, _, _, rfl, rfl, _, _, rfl, rfl, .of_le (by omega) (by omega) (by omega) (by omega), fun l nl => h _ l (same_new nl) ?_⟩
    rw [upd_same]
    unfold cands rgV
    rw [if_neg e, List.map_map, show ((low : Int) + (n : Int) + 1 - (low : Int)).toNat = n + 1 by omega]
    rfl
section
variable {P : Program} {w : World} {K : PySem.W.Frag} {mg : Str → Option Value} {base : Heap}
theorem scGoals : FnScope ["_law_pot_here", "_law_n", "_law_crossing"] ["_law_pot_here", "_law_n"] (defScope s_goals) := ⟨rfl, rfl, rfl, by decide +kernel, rfl, by decide +kernel, by decide +kernel⟩
def spGoals (K : PySem.W.Frag) : Sp := fun vs H Q _ => ∃ (p : Addr) (n : Nat), vs = [.ref p, .int (n : Int)] ∧ PotAt H p ∧ n ≤ 1000 ∧
  ∀ H' g es, SameP p H H' → PotAt H' p → GoalsAt K H' g n es → (∀ c ∈ es, 0 ≤ c ∧ c < n) → es.length ≤ n → Q g H'
theorem ok_goals (T : Fs K mg) : DefOk P w K mg base "_law_goals" 2 ["_law_pot_here", "_law_n"] (spGoals K) := by
  obtain ⟨f, fd, hm, F⟩ := T.goals
  obtain ⟨fT, fdT, mT, kT, bT, GT⟩ := ok_take (P := P) (w := w) (base := base) T
  refine ⟨f, fd, hm, F.kp, F.binds fun _ _ _ _ _ _ us hl => match us, hl with | [_, _], _ => rfl, ?_⟩
  refine F.ok scGoals (fun vs H Q E h => ?_) (fun cdv A outer s H vs Q E hr h => ?_)
  · obtain ⟨_, _, rfl, _⟩ := h
    rfl
  · obtain ⟨p, n, rfl, hp, hn, q⟩ := h
    refine ⟨_, pss_cons (ps_if (pt_cmpR op_eq (pe_call GT hr (by rfl) mT kT bT .nil pass0 (pa_cons (pv 0) (pa_cons pe_int pa_nil))) pe_int (nomark _)) (pss_one (ps_ret pe_non)) pss_nil)
      (pss_one (ps_ret (pe_callTy call_tuple_of (by rfl) T.n_tuple boot_tuple (pa_cons (pe_lc (own := [("_law_crossing", 2)]) (g := gName 2) (by rfl) scGoals.nd (pi_range1 (by rfl) T.n_range (pa_cons (pv 1) pa_nil))
        (blkOk_by (own := [("_law_crossing", 2)]) (N := ["_law_pot_here", "_law_n", "_law_crossing"]) (sc := defScope s_goals) (by decide +kernel))
        (fun _ _ _ _ _ => pg_name (i := 2) scGoals.nd rfl (Or.inl rfl))
        (fun _ _ _ _ _ => pts_one (pt_cmpR op_gt (pe_call GT hr (by rfl) mT kT bT .nil pass0 (pa_cons (pv 0) (pa_cons pe_int pa_nil))) pe_int (nomark _)))
        (fun _ _ _ _ _ => pv 2)) pa_nil)))), ?_⟩
    refine ⟨_, rfl, p, 2, rfl, hp, by decide, by decide, fun H1 v s1 hp1 v0 v1 => ⟨rfl, _, rfl, ite2 (fun e => ?_) fun e => ?_⟩⟩
    · refine q H1 .non _ s1 hp1 (.inl ⟨rfl, rfl⟩) (fun c hc => ?_) (by rw [List.length_map, List.length_range]; exact Nat.le_refl _)
      obtain ⟨i, hi, rfl⟩ := List.mem_map.mp hc
      have := List.mem_range.mp hi
      omega
    · refine ⟨_, rfl, (n : Int), rfl, by omega, by omega, fun D nD => ?_⟩
      rw [Int.toNat_natCast]
      have nDp : D ≠ p := fun z => by
        obtain ⟨_, _, e⟩ := hp1
        rw [z, e] at nD
        cases nD
      refine lc_range (lo := 0) (n := n) (fun i H' => SameP p H1 H' ∧ PotAt H' p ∧ ∃ es : List Int, es.length ≤ i ∧ (∀ c ∈ es, 0 ≤ c ∧ c < n) ∧ H' D = some (.lst (es.map V.int)))
        ⟨(SameP.refl p H1).new nD, hp1.keep (same_new nD), [], Nat.le_refl _, fun y hy => by simp at hy, upd_same⟩ (fun i H' hi hP => ?_) fun H' hP => ?_
      · obtain ⟨s2, hp2, es, hel, he, hD⟩ := hP
        refine ⟨rfl, _, rfl, p, 3, rfl, hp2, by decide, by decide, fun H3 u s3 hp3 u0 u1 => ⟨u, 0, rfl, rfl, _, rfl, ite2 (fun e => ?_) fun e => ?_⟩⟩
        · have hD3 := s3 _ _ nDp hD
          refine ⟨_, rfl, _, hD3, small1000 (by rw [List.length_map]; omega), fun b o nb hb => ?_, ?_, es ++ [0 + (i : Int)], by rw [List.length_append, List.length_singleton]; omega, fun c hc => ?_, by rw [upd_same, List.map_append]; rfl⟩
          · by_cases hbD : b = D
            · rw [hbD, nD] at hb
              cases hb
            · rw [upd_ne hbD]
              exact (s2.trans s3) b o nb hb
          · obtain ⟨g, x, e⟩ := hp3
            exact ⟨g, x, by rw [upd_ne nDp.symm]; exact e⟩
          · rcases List.mem_append.mp hc with h | h
            · exact he c h
            · rw [List.mem_singleton.mp h]
              omega
        · exact ⟨s2.trans s3, hp3, es, by omega, he, s3 _ _ nDp hD⟩
      obtain ⟨s2, hp2, es, hel, he, hD⟩ := hP
      refine ⟨D, _, rfl, .inl ⟨SqL.of hD, fun t nt => ?_⟩⟩
      refine q _ (.ref t) es ((s1.trans s2).new nt) (hp2.keep (same_new nt)) (.inr ⟨t, rfl, SqT.of upd_same⟩) he hel

theorem scLeast : FnScope ["_law_n", "_law_far", "_law_crossing", "_law_ends", "_law_low", "_law_is_one", "_law_steps"] ["_law_n", "_law_far", "_law_crossing", "_law_ends", "_law_low", "_law_is_one"] (defScope s_least) := ⟨rfl, rfl, rfl, by decide +kernel, rfl, by decide +kernel, by decide +kernel⟩
def optV (o : Option Nat) : V := match o with
  | some k => .int (k : Int)
  | none => .non
def spLeast (K : PySem.W.Frag) : Sp := fun vs H Q _ => ∃ (n m low : Nat) (far c : Int) (el : Addr) (es : List Int), vs = [.int (n : Int), .int far, .int c, .ref el, .int (low : Int), .bl (decide (m < 2))] ∧ SqL K H el (es.map V.int) ∧ 0 < n ∧ n ≤ 1000 ∧ low ≤ 1000 ∧ 0 ≤ far ∧ far ≤ 1000 ∧ es.length ≤ 1000 ∧
  ∀ H', Same H H' → Q (optV (least n m low fun k => decide (step n far c k ∈ es))) H'
theorem ok_least (T : Fs K mg) : DefOk P w K mg base "_law_least" 1 ["_law_n", "_law_far", "_law_crossing", "_law_ends", "_law_low", "_law_is_one"] (spLeast K) := by
  obtain ⟨f, fd, hm, F⟩ := T.least
  refine ⟨f, fd, hm, F.kp, F.binds fun _ _ _ _ _ _ us hl => match us, hl with | [_, _, _, _, _, _], _ => rfl, ?_⟩
  refine F.ok scLeast (fun vs H Q E h => ?_) (fun cdv A outer s H vs Q E hr h => ?_)
  · obtain ⟨_, _, _, _, _, _, _, rfl, _⟩ := h
    rfl
  · obtain ⟨n, m, low, far, c, el, es, rfl, hE, h0, hn, hlow, f0, f1, hel, q⟩ := h
    refine ⟨_, pss_cons (ps_for PassesOwn.never rfl (pi_list (pe_ifExp (pt_truth (pv 5) (by intro _; rfl)) (pe_lst (pa_cons (pv 4) pa_nil))
          (pe_listRg (by rfl) (by rfl) T.n_list (prg_2 (by rfl) T.n_range (pv 4) (pe_op op_add (pe_op op_add (pv 4) (pv 0)) pe_int)))))
        (pg_name (i := 6) scLeast.nd rfl (.inl rfl))
        (pss_one (ps_if (pt_cmpR op_in_seq (pe_op op_mod (pe_op op_add (pv 2) (pe_op op_mul (pv 6) (pv 1))) (pv 0)) (pv 3) (by rfl)) (pss_one (ps_ret (pv 6))) pss_nil)))
      (pss_one (ps_ret pe_non)), ?_⟩
    refine cands_ok (n := n) (m := m) (low := low) rfl rfl rfl hn hlow fun H1 l s1 e1 => ⟨l, rfl, ⟨_, SqL.of e1⟩, ?_⟩
    unfold least at q
    have hc : ∀ k ∈ cands n m low, k ≤ 2000 := fun k hk => by
      unfold cands at hk
      by_cases z : m < 2
      · rw [if_pos z] at hk
        rw [List.mem_singleton.mp hk]
        omega
      · rw [if_neg z] at hk
        obtain ⟨i, hi, rfl⟩ := List.mem_map.mp hk
        have := List.mem_range.mp hi
        omega
    generalize cands n m low = cs at e1 q hc
    refine for_list (K := K) (a := l) (xs := cs.map fun (k : Nat) => V.int (k : Int)) (fun i σ H' => ∃ x6, σ = [some (.int (n : Int)), some (.int far), some (.int c), some (.ref el), some (.int (low : Int)), some (.bl (decide (m < 2))), x6] ∧ Same H1 H' ∧ ∀ (j x : Nat), j < i → cs[j]? = some x → decide (step n far c x ∈ es) = false)
      ⟨none, rfl, Same.refl H1, fun j x h => by omega⟩ (fun i σ H' _ hP => SqL.of (hP.choose_spec.2.1 _ _ e1)) (fun i x σ H' hx hP => ?_) fun σ H' hP => ?_
    · obtain ⟨x6, rfl, sm, no⟩ := hP
      have hi : i < cs.length := by
        have := (List.getElem?_eq_some_iff.mp hx).1
        rw [List.length_map] at this
        exact this
      have gi : cs[i]? = some cs[i] := List.getElem?_eq_getElem hi
      generalize cs[i] = k at gi
      have ex : x = .int (k : Int) := Option.some.inj (hx.symm.trans (intV_get gi))
      subst ex
      have hk := hc k (List.mem_of_getElem? gi)
      refine ⟨_, rfl, _, rfl, _, rfl, (k : Int), far, rfl, rfl, .inr ⟨by omega, by omega⟩, _, _, rfl, rfl, _, rfl, _, _, rfl, rfl, (by show (0 : Int) < n; omega), _, rfl, el, es.map V.int, rfl, .inl ((s1.trans sm).seq hE), rfl, flat_ints es, _, rfl, ?_⟩
      have ein : inV (.int ((c + (k : Int) * far) % (n : Int))) (es.map V.int) = decide (step n far c k ∈ es) := inV_int _ es
      refine ite2 (fun e => ?_) fun e => ?_
      · have e : inV (.int ((c + (k : Int) * far) % (n : Int))) (es.map V.int) = true := e
        rw [ein] at e
        have hf : cs.find? (fun k => decide (step n far c k ∈ es)) = some k := find_at e gi no
        rw [hf] at q
        exact ⟨_, rfl, q H' (s1.trans sm)⟩
      · have e : ¬ inV (.int ((c + (k : Int) * far) % (n : Int))) (es.map V.int) = true := e
        rw [ein] at e
        refine ⟨_, rfl, sm, fun j x hj ej => ?_⟩
        by_cases hji : j = i
        · subst hji
          rw [gi] at ej
          cases ej
          exact Bool.eq_false_iff.mpr e
        · exact no j x (by omega) ej
    · obtain ⟨x6, rfl, sm, no⟩ := hP
      have hf : cs.find? (fun k => decide (step n far c k ∈ es)) = none := find_no fun j x ej => no j x (by rw [List.length_map]; exact (List.getElem?_eq_some_iff.mp ej).1) ej
      rw [hf] at q
      exact q H' (s1.trans sm)

theorem scDue : FnScope ["_law_n", "_law_far", "_law_many", "_law_crossing", "_law_where", "_law_ends", "_law_tail", "_law_low", "_law_is_one", "_law_steps"] ["_law_n", "_law_far", "_law_many", "_law_crossing", "_law_where", "_law_ends", "_law_tail"] (defScope s_due) := ⟨rfl, rfl, rfl, by decide +kernel, rfl, by decide +kernel, by decide +kernel⟩
def optI (o : Option Int) : V := match o with
  | some k => .int k
  | none => .non
def spDue (K : PySem.W.Frag) : Sp := fun vs H Q _ => ∃ (n m wh : Nat) (far c : Int) (el : Addr) (es : List Int) (tail : Option Int), vs = [.int (n : Int), .int far, .int (m : Int), .int c, .int (wh : Int), .ref el, optI tail] ∧ SqL K H el (es.map V.int) ∧ 0 < n ∧ n ≤ 1000 ∧ m ≤ 1000 ∧ 0 ≤ far ∧ far ≤ 1000 ∧ es.length ≤ 1000 ∧
  ∀ H', Same H H' → Q (optV (due n far m (fun c => decide (c ∈ es)) tail c wh)) H'
theorem ok_due (T : Fs K mg) : DefOk P w K mg base "_law_due" 2 ["_law_n", "_law_far", "_law_many", "_law_crossing", "_law_where", "_law_ends", "_law_tail"] (spDue K) := by
  obtain ⟨f, fd, hm, F⟩ := T.due
  obtain ⟨fL, fdL, mL, kL, bL, GL⟩ := ok_least (P := P) (w := w) (base := base) T
  refine ⟨f, fd, hm, F.kp, F.binds fun _ _ _ _ _ _ us hl => match us, hl with | [_, _, _, _, _, _, _], _ => rfl, ?_⟩
  refine F.ok scDue (fun vs H Q E h => ?_) (fun cdv A outer s H vs Q E hr h => ?_)
  · obtain ⟨_, _, _, _, _, _, _, _, rfl, _⟩ := h
    rfl
  · obtain ⟨n, m, wh, far, c, el, es, tail, rfl, hE, h0, hn, hm, f0, f1, hel, q⟩ := h
    refine ⟨_, pss_cons (ps_if (pt_cmpR op_gt (pv 4) (pv 2) (nomark _)) (pss_one (ps_ret (pe_ifExp (pt_cmpR op_in_seq (pv 3) (pv 5) (by rfl)) pe_int pe_non))) pss_nil)
      (pss_cons (ps_par (i := 7) (j := 8) (by rfl) scDue.nd rfl rfl (by decide) rfl rfl (pa_cons (pe_callB (call_max2 rfl) (by rfl) T.n_max (by decide +kernel) (pa_cons pe_int (pa_cons (pe_op op_sub (pv 2) (pv 4)) pa_nil))) (pa_cons (pe_cmpR op_lt (pv 2) pe_int (nomark _)) pa_nil)) (by rfl))
      (pss_cons (ps_set (i := 9) scDue.nd rfl (.inl rfl) (pe_call GL hr (by rfl) mL kL bL .nil pass0 (pa_cons (pv 0) (pa_cons (pv 1) (pa_cons (pv 3) (pa_cons (pe_ifExp (pt_cmp (pc_notN (pv 6))) (pe_lst (pa_cons (pv 6) pa_nil)) (pv 5)) (pa_cons (pv 7) (pa_cons (pv 8) pa_nil))))))))
      (pss_cons (ps_if (PW.pt (pw_or (pt_cmp (pc_isN (pv 6))) (pw_or1 (pt_cmp (pc_isN (pv 9)))))) (pss_one (ps_ret (pv 9))) pss_nil)
      (pss_one (ps_ret (pe_ifExp (pt_cmpR op_in_seq (pv 6) (pv 5) (by rfl)) (pe_op op_add (pv 9) pe_int) pe_non)))))), ?_⟩
    refine ⟨_, rfl, _, rfl, (wh : Int), (m : Int), rfl, rfl, _, rfl, ite2 (fun e => ?_) fun e => ?_⟩
    · have e : (m : Int) < wh := of_decide_eq_true e
      have hw : m < wh := by omega
      unfold due at q
      rw [if_pos hw] at q
      refine ⟨_, rfl, _, rfl, el, es.map V.int, rfl, .inl hE, rfl, flat_ints es, _, rfl, ite2 (fun e => ?_) fun e => ?_⟩
      · have e : inV (.int c) (es.map V.int) = true := e
        rw [inV_int] at e
        rw [if_pos e] at q
        exact q H (Same.refl H)
      · have e : ¬ inV (.int c) (es.map V.int) = true := e
        rw [inV_int] at e
        rw [if_neg e] at q
        exact q H (Same.refl H)
    · have e : ¬ (m : Int) < wh := fun z => e (decide_eq_true z)
      have hw : ¬ m < wh := by omega
      unfold due at q
      rw [if_neg hw] at q
      have em : (if (m : Int) - wh > 0 then (m : Int) - wh else 0) = ((m - wh : Nat) : Int) := by
        by_cases z : (m : Int) - wh > 0
        · rw [if_pos z]
          omega
        · rw [if_neg z]
          omega
      have ed : decide ((m : Int) < 2) = decide (m < 2) := decide_eq_decide.mpr ⟨fun h => by omega, fun h => by omega⟩
      refine ⟨_, rfl, _, rfl, _, _, rfl, rfl, 0, _, rfl, _, rfl, (m : Int), 2, rfl, rfl, _, _, rfl, ?_⟩
      cases tail with
      | none =>
        refine ⟨_, rfl, _, rfl, _, rfl, _, rfl, _, rfl, _, rfl, _, rfl, _, rfl, n, m, m - wh, far, c, el, es, ?_, hE, h0, hn, by omega, f0, f1, hel, fun H1 s1 => ?_⟩
        · show [V.int n, .int far, .int c, .ref el, V.int (if (m : Int) - wh > 0 then (m : Int) - wh else 0), V.bl (decide ((m : Int) < 2))] = _
          rw [em, ed]
        · exact ⟨_, rfl, _, rfl, _, rfl, q H1 s1⟩
      | some t =>
        refine ⟨_, rfl, _, rfl, _, rfl, _, rfl, _, rfl, _, rfl, (by show 1 ≤ sizeLine; decide), fun l nl => ?_⟩
        have s0 := same_new (o := .lst [.int t]) nl
        refine ⟨_, rfl, _, rfl, n, m, m - wh, far, c, l, [t], ?_, SqL.of upd_same, h0, hn, by omega, f0, f1, (by show 1 ≤ 1000; decide), fun H1 s1 => ?_⟩
        · show [V.int n, .int far, .int c, .ref l, V.int (if (m : Int) - wh > 0 then (m : Int) - wh else 0), V.bl (decide ((m : Int) < 2))] = _
          rw [em, ed]
        · have ef : (fun k => decide (step n far c k ∈ [t])) = fun k => decide (step n far c k = t) := by
            funext k
            simp
          rw [ef]
          have s01 := s0.trans s1
          dsimp only at q
          cases ho : least n m (m - wh) fun k => decide (step n far c k = t) with
          | none =>
            simp only [ho] at q
            exact ⟨_, rfl, _, rfl, _, rfl, _, rfl, _, rfl, q H1 s01⟩
          | some k =>
            simp only [ho] at q
            refine ⟨_, rfl, _, rfl, _, rfl, _, rfl, ?_⟩
            refine ⟨_, rfl, _, rfl, el, es.map V.int, rfl, .inl (s01.seq hE), rfl, flat_ints es, _, rfl, ite2 (fun e => ?_) fun e => ?_⟩
            · have e : inV (.int t) (es.map V.int) = true := e
              rw [inV_int] at e
              refine ⟨_, rfl, (k : Int), 1, rfl, rfl, ?_⟩
              have q := q H1 s01
              rw [if_pos e] at q
              exact q
            · have e : ¬ inV (.int t) (es.map V.int) = true := e
              rw [inV_int] at e
              have q := q H1 s01
              rw [if_neg e] at q
              exact q
end
end Rg
/-! _law_ring -/
namespace Rg
open PySem PySem.Spec PyProof.Rows L2
open PySem.W
/-- the data of a pair (post, arm) -/
def postD (e : (Int × Str) × Int) (ns : List Int) : PyData := .tuple [.int e.1.1, .str e.1.2, .tuple (ns.map .int)]
def pairD (e : (Int × Str) × Int) (ns : List Int) : PyData := .tuple [postD e ns, .int e.2]
theorem alike_post (e e' : (Int × Str) × Int) (ns ns' : List Int) : alike (postD e ns) (postD e' ns') = true := by
  unfold postD
  simp only [alike, alikeAll, alike_ints, Bool.and_true]
theorem alike_pair (e e' : (Int × Str) × Int) (ns ns' : List Int) : alike (pairD e ns) (pairD e' ns') = true := by
  unfold pairD
  have := alike_post e e' ns ns'
  simp only [alike, alikeAll, this, Bool.and_true]
theorem depth_pair (e : (Int × Str) × Int) (ns : List Int) : (pairD e ns).depth ≤ 10 := by
  unfold pairD postD
  have := depth_ints ns
  simp only [PyData.depth, PyData.depthAll, this]
  decide
theorem order_pair {e f : (Int × Str) × Int} {ns ms : List Int} (h : e.1.1 < f.1.1 ∨ (e.1.1 = f.1.1 ∧ e.1.2 ≠ f.1.2 ∧ ¬ f.1.2.cps.toList < e.1.2.cps.toList)) : dataLt (pairD f ms) (pairD e ns) = false := by
  have hp : PyData.eqv (postD f ms) (postD e ns) = false := by
    unfold postD
    simp only [PyData.eqv, PyData.eqvAll]
    rcases h with h | ⟨h1, h2, _⟩
    · have : (f.1.1 == e.1.1) = false := by simpa using (show f.1.1 ≠ e.1.1 by omega)
      rw [this, Bool.false_and]
    · have : (f.1.2 == e.1.2) = false := by simpa using fun z => h2 z.symm
      rw [this, Bool.false_and, Bool.and_false]
  unfold pairD
  rw [dataLt_pair (alike_post f e ms ns) (by simp [alike]), hp, if_neg Bool.false_ne_true]
  unfold postD
  rw [dataLt_tuple, dataLt_cons (by simp [alike])]
  rcases h with h | ⟨h1, h2, h3⟩
  · have : PyData.eqv (.int f.1.1) (.int e.1.1) = false := by
      simp only [PyData.eqv]
      simpa using (show f.1.1 ≠ e.1.1 by omega)
    rw [this, if_neg Bool.false_ne_true, dataLt_int]
    exact decide_eq_false (by omega)
  · have e1 : PyData.eqv (.int f.1.1) (.int e.1.1) = true := by
      simp only [PyData.eqv]
      simpa using h1.symm
    have e2 : PyData.eqv (.str f.1.2) (.str e.1.2) = false := by
      simp only [PyData.eqv]
      simpa using fun z => h2 z.symm
    rw [e1, if_pos rfl, dataLt_cons (by simp [alike]), e2, if_neg Bool.false_ne_true, dataLt_str]
    exact decide_eq_false h3
/-- the posts as far as they are laid -/
structure RInv (H0 H : Hp) (p P Wd : Addr) (ps : List Addr) (ars : List (List Int)) (W : WL) : Prop where
  same : SameP p H0 H
  pot : PotAt H p
  nP : H0 P = none
  nW : H0 Wd = none
  ne : P ≠ Wd
  pP : P ≠ p
  pW : Wd ≠ p
  lp : H P = some (.lst (ps.map V.ref))
  lw : H Wd = some (.lst (W.map armV))
  len : ps.length = W.length
  len2 : ars.length = W.length
  each : ∀ (j : Nat) (q : Addr) (e : (Int × Str) × Int) (ns : List Int), ps[j]? = some q → W[j]? = some e → ars[j]? = some ns → ∃ ar, H q = some (.tup [.int e.1.1, .str e.1.2, .ref ar]) ∧ H ar = some (.tup (ns.map V.int))
theorem RInv.keep {H0 H H' : Hp} {p P Wd : Addr} {ps : List Addr} {ars : List (List Int)} {W : WL} (I : RInv H0 H p P Wd ps ars W) (s : Same H H') : RInv H0 H' p P Wd ps ars W :=
  ⟨I.same.trans (Same.p s), I.pot.keep s, I.nP, I.nW, I.ne, I.pP, I.pW, s _ _ I.lp, s _ _ I.lw, I.len, I.len2, fun j q e ns h1 h2 h3 => by
    obtain ⟨ar, h4, h5⟩ := I.each j q e ns h1 h2 h3
    exact ⟨ar, s _ _ h4, s _ _ h5⟩⟩
theorem RInv.play {H0 H H' : Hp} {p P Wd : Addr} {ps : List Addr} {ars : List (List Int)} {W : WL} (I : RInv H0 H p P Wd ps ars W) (s : SameP p H H') (hp : PotAt H' p) : RInv H0 H' p P Wd ps ars W :=
  ⟨I.same.trans s, hp, I.nP, I.nW, I.ne, I.pP, I.pW, s _ _ I.pP I.lp, s _ _ I.pW I.lw, I.len, I.len2, fun j q e ns h1 h2 h3 => by
    obtain ⟨ar, h4, h5⟩ := I.each j q e ns h1 h2 h3
    exact ⟨ar, s.tup I.pot h4, s.tup I.pot h5⟩⟩
theorem at_snoc {α : Type} {l : List α} {x y : α} {j : Nat} (h : (l ++ [x])[j]? = some y) : (j < l.length ∧ l[j]? = some y) ∨ (j = l.length ∧ x = y) := by
  rcases Nat.lt_trichotomy j l.length with z | z | z
  · rw [List.getElem?_append_left z] at h
    exact .inl ⟨z, h⟩
  · rw [List.getElem?_append_right (by omega), z, Nat.sub_self] at h
    exact .inr ⟨z, Option.some.inj h⟩
  · rw [List.getElem?_eq_none (by rw [List.length_append, List.length_singleton]; omega)] at h
    cases h
/-- one post and its arm more -/
theorem RInv.push {H0 H : Hp} {p P Wd q ar : Addr} {ps : List Addr} {ars : List (List Int)} {W : WL} {e : (Int × Str) × Int} {ns : List Int} (I : RInv H0 H p P Wd ps ars W) (hq : H q = some (.tup [.int e.1.1, .str e.1.2, .ref ar])) (har : H ar = some (.tup (ns.map V.int))) :
    RInv H0 (upd (upd H P (.lst (ps.map V.ref ++ [.ref q]))) Wd (.lst (W.map armV ++ [armV e]))) p P Wd (ps ++ [q]) (ars ++ [ns]) (W ++ [e]) := by
  have tl : ∀ (a : Addr) (xs : List V), H a = some (.tup xs) → (upd (upd H P (.lst (ps.map V.ref ++ [.ref q]))) Wd (.lst (W.map armV ++ [armV e]))) a = some (.tup xs) := fun a xs h => by
    rw [upd_ne (ne_of h I.lw (fun z => by cases z)), upd_ne (ne_of h I.lp (fun z => by cases z))]
    exact h
  obtain ⟨g, x, hp⟩ := I.pot
  refine ⟨fun b o nb hb => ?_, ⟨g, x, by rw [upd_ne I.pW.symm, upd_ne I.pP.symm]; exact hp⟩, I.nP, I.nW, I.ne, I.pP, I.pW, by rw [upd_ne I.ne, upd_same, List.map_append]; rfl, by rw [upd_same, List.map_append]; rfl,
    by rw [List.length_append, List.length_append, I.len]; rfl, by rw [List.length_append, List.length_append, I.len2]; rfl, fun j q' e' ns' h1 h2 h3 => ?_⟩
  · rw [upd_ne (ne_of_none hb I.nW), upd_ne (ne_of_none hb I.nP)]
    exact I.same b o nb hb
  · rcases at_snoc h1 with ⟨z1, h1⟩ | ⟨z1, h1⟩
    · rcases at_snoc h2 with ⟨z2, h2⟩ | ⟨z2, h2⟩
      · rcases at_snoc h3 with ⟨z3, h3⟩ | ⟨z3, h3⟩
        · obtain ⟨ar', h4, h5⟩ := I.each j q' e' ns' h1 h2 h3
          exact ⟨ar', tl _ _ h4, tl _ _ h5⟩
        · have := I.len2
          omega
      · have := I.len
        omega
    · rcases at_snoc h2 with ⟨z2, h2⟩ | ⟨z2, h2⟩
      · have := I.len
        omega
      · rcases at_snoc h3 with ⟨z3, h3⟩ | ⟨z3, h3⟩
        · have := I.len
          have := I.len2
          omega
        · subst h1; subst h2; subst h3
          exact ⟨ar, tl _ _ hq, tl _ _ har⟩
theorem mvH {A B : Hp → Prop} (h : ∀ H, A H → B H) {H : Hp} (a : A H) : B H := h H a
def ringP (n : Nat) (far : Int) (nm : Str) (tail : Option (Str × Int)) (k : Nat) : WL := (List.range k).flatMap fun (i : Nat) => (((i : Int), nm), ((i : Int) + far) % (n : Int)) :: tailW (n : Int) tail (i : Int)
theorem ringP_succ {n : Nat} {far : Int} {nm : Str} {tail : Option (Str × Int)} {k : Nat} : ringP n far nm tail (k + 1) = ringP n far nm tail k ++ [(((k : Int), nm), ((k : Int) + far) % (n : Int))] ++ tailW (n : Int) tail (k : Int) := by
  unfold ringP
  rw [List.range_succ, List.flatMap_append, List.append_assoc]
  congr 1
  show (_ :: tailW (n : Int) tail (k : Int)) ++ [] = _
  rw [List.append_nil]
  rfl
theorem flat_int (k : Nat) (i : Int) : [V.int i].append [] = [V.int i] ∧ (List.replicate k [V.int i]).flatten = (List.replicate k i).map V.int := by
  refine ⟨rfl, ?_⟩
  induction k with
  | zero => rfl
  | succ k ih =>
    rw [List.replicate_succ, List.flatten_cons, ih, List.replicate_succ]
    rfl
/-- pairs with their data -/
def pairsB (Ts : List Addr) (W : WL) (ars : List (List Int)) : List (V × PyData) := (Ts.zip (W.zip ars)).map fun x => (V.ref x.1, pairD x.2.1 x.2.2)
theorem pairsB_fst {Ts : List Addr} {W : WL} {ars : List (List Int)} (h1 : Ts.length = W.length) (h2 : ars.length = W.length) : (pairsB Ts W ars).map (·.1) = Ts.map V.ref := by
  unfold pairsB
  rw [List.map_map]
  have : ((fun x : V × PyData => x.1) ∘ fun x : Addr × ((Int × Str) × Int) × List Int => (V.ref x.1, pairD x.2.1 x.2.2)) = V.ref ∘ Prod.fst := rfl
  rw [this, ← List.map_map, List.map_fst_zip]
  rw [List.length_zip]
  omega
theorem pairsB_at {Ts : List Addr} {W : WL} {ars : List (List Int)} {j : Nat} {b : V × PyData} (h : (pairsB Ts W ars)[j]? = some b) : ∃ t e ns, Ts[j]? = some t ∧ W[j]? = some e ∧ ars[j]? = some ns ∧ b = (V.ref t, pairD e ns) := by
  unfold pairsB at h
  rw [List.getElem?_map] at h
  obtain ⟨x, hx, rfl⟩ := Option.map_eq_some_iff.mp h
  rw [List.getElem?_zip_eq_some] at hx
  obtain ⟨h1, h2⟩ := hx
  rw [List.getElem?_zip_eq_some] at h2
  exact ⟨_, _, _, h1, h2.1, h2.2, rfl⟩
section
variable {P : Program} {w : World} {K : PySem.W.Frag} {mg : Str → Option Value} {base : Heap}
abbrev nsRing : List Str := ["_law_pot_here", "_law_n", "_law_name", "_law_far", "_law_other", "_law_at", "_law_posts", "_law_world", "_law_crossing", "_law_arm", "_law_some", "_law_post"]
theorem scRing : FnScope nsRing ["_law_pot_here", "_law_n", "_law_name", "_law_far", "_law_other", "_law_at"] (defScope s_ring) := ⟨rfl, rfl, rfl, by decide +kernel, rfl, by decide +kernel, by decide +kernel⟩
def othS (tail : Option (Str × Int)) : Str := match tail with
  | some (o, _) => o
  | none => Str.ofString ""
def othI (tail : Option (Str × Int)) : Int := match tail with
  | some (_, t) => t
  | none => 0
def spRing (K : PySem.W.Frag) : Sp := fun vs H Q _ => ∃ (p : Addr) (n : Nat) (nm : Str) (far : Int) (tail : Option (Str × Int)), vs = [.ref p, .int (n : Int), .str nm, .int far, .str (othS tail), .int (othI tail)] ∧ PotAt H p ∧ 0 < n ∧ n ≤ 100 ∧
  (∀ o t, tail = some (o, t) → o ≠ nm ∧ ¬ o.cps.toList < nm.cps.toList ∧ o ≠ Str.ofString "") ∧
  ∀ H' r wb wd, SameP p H H' → PotAt H' p → H' r = some (.tup [.ref wb, .ref wd]) → WebAt K H' wb wd n (ringL n far nm tail) → Q (.ref r) H'
theorem ok_ring (T : Fs K mg) : DefOk P w K mg base "_law_ring" 2 ["_law_pot_here", "_law_n", "_law_name", "_law_far", "_law_other", "_law_at"] (spRing K) := by
  obtain ⟨f, fd, hm, F⟩ := T.ring
  obtain ⟨fT, fdT, mT, kT, bT, GT⟩ := ok_take (P := P) (w := w) (base := base) T
  refine ⟨f, fd, hm, F.kp, F.binds fun _ _ _ _ _ _ us hl => match us, hl with | [_, _, _, _, _, _], _ => rfl, ?_⟩
  refine F.ok scRing (fun vs H Q E h => ?_) (fun cdv A outer s H vs Q E hr h => ?_)
  · obtain ⟨_, _, _, _, _, rfl, _⟩ := h
    rfl
  · obtain ⟨p, n, nm, far, tail, rfl, hp, h0, hn, ho, q⟩ := h
    refine ⟨_, pss_cons (ps_par (i := 6) (j := 7) (by rfl) scRing.nd rfl rfl (by decide) rfl rfl (pa_cons (pe_lst pa_nil) (pa_cons (pe_lst pa_nil) pa_nil)) (by rfl))
      (pss_cons (ps_for PassesOwn.never rfl (pi_range1 (by rfl) T.n_range (pa_cons (pv 1) pa_nil)) (pg_name (i := 8) scRing.nd rfl (.inl rfl))
        (pss_cons (ps_set (i := 9) scRing.nd rfl (.inl rfl) (pe_op op_mod (pe_op op_add (pv 8) (pv 3)) (pv 1)))
        (pss_cons (ps_expr (pe_bm PySem.F.plainAttrs_list PySem.F.slot_list_append PySem.F.type_list_append mt_append (pv 6) (pa_cons (pe_tup (pa_cons (pv 8) (pa_cons (pv 2) (pa_cons
            (pe_callTy call_tuple_of (by rfl) T.n_tuple boot_tuple (pa_cons (pe_callB (cr_sortedSet rfl) (by rfl) T.n_sorted (by decide +kernel) (pa_cons (pe_callTy (cr_setList rfl) (by rfl) T.n_set (by decide +kernel)
              (pa_cons (pe_op op_cat (pe_lst (pa_cons (pv 9) pa_nil)) (pe_op op_rep (pe_lst (pa_cons (pv 8) pa_nil)) (pe_call GT hr (by rfl) mT kT bT .nil pass0 (pa_cons (pv 0) (pa_cons pe_int pa_nil))))) pa_nil)) pa_nil)) pa_nil)) pa_nil)))) pa_nil)))
        (pss_cons (ps_expr (pe_bm PySem.F.plainAttrs_list PySem.F.slot_list_append PySem.F.type_list_append mt_append (pv 7) (pa_cons (pv 9) pa_nil)))
        (pss_one (ps_if (PW.pt (pw_and (pt_cmpR op_eq (pv 8) (pv 5) (nomark _)) (pw_and1 (pt_cmpR op_ne (pv 4) pe_str (nomark _)))))
          (pss_cons (ps_expr (pe_bm PySem.F.plainAttrs_list PySem.F.slot_list_append PySem.F.type_list_append mt_append (pv 6) (pa_cons (pe_tup (pa_cons (pv 8) (pa_cons (pv 4) (pa_cons (pe_tup (pa_cons (pv 8) pa_nil)) pa_nil)))) pa_nil)))
          (pss_one (ps_expr (pe_bm PySem.F.plainAttrs_list PySem.F.slot_list_append PySem.F.type_list_append mt_append (pv 7) (pa_cons (pv 8) pa_nil))))) pss_nil))))))
      (pss_cons (ps_set (i := 10) scRing.nd rfl (.inl rfl) (pe_callB (cr_sortedIn hr.units) (by rfl) T.n_sorted (by decide +kernel) (pa_cons (pe_listZip (by rfl) (by rfl) T.n_list (by rfl) T.n_zip (pv 6) (pv 7)) pa_nil)))
      (pss_one (ps_ret (pe_tup (pa_cons (pe_tup (pa_cons (pv 1) (pa_cons (pe_callTy call_tuple_of (by rfl) T.n_tuple boot_tuple (pa_cons
          (pe_lc (own := [("_law_post", 11), ("_law_arm", 9)]) (g := gTup K 2 (gCons (gName 11) (gCons (gName 9) gNil))) (by rfl) scRing.nd (pi_list (pv 10))
            (blkOk_by (own := [("_law_post", 11), ("_law_arm", 9)]) (N := nsRing) (sc := defScope s_ring) (by decide +kernel))
            (fun _ _ _ _ _ => pgT (n := 2) K rfl rfl (pgs_cons (pg_name (i := 11) scRing.nd rfl (Or.inl rfl)) (pgs_cons (pg_name (i := 9) scRing.nd rfl (Or.inl rfl)) pgs_nil)))
            (fun _ _ _ _ _ => pts_nil) (fun _ _ _ _ _ => pv 11)) pa_nil)) pa_nil)))
        (pa_cons (pe_callTy call_tuple_of (by rfl) T.n_tuple boot_tuple (pa_cons
          (pe_lc (own := [("_law_post", 11), ("_law_arm", 9)]) (g := gTup K 2 (gCons (gName 11) (gCons (gName 9) gNil))) (by rfl) scRing.nd (pi_list (pv 10))
            (blkOk_by (own := [("_law_post", 11), ("_law_arm", 9)]) (N := nsRing) (sc := defScope s_ring) (by decide +kernel))
            (fun _ _ _ _ _ => pgT (n := 2) K rfl rfl (pgs_cons (pg_name (i := 11) scRing.nd rfl (Or.inl rfl)) (pgs_cons (pg_name (i := 9) scRing.nd rfl (Or.inl rfl)) pgs_nil)))
            (fun _ _ _ _ _ => pts_nil) (fun _ _ _ _ _ => pv 9)) pa_nil)) pa_nil))))))), ?_⟩
    have nep : ∀ (H' : Hp) (b : Addr), PotAt H' p → H' b = none → b ≠ p := fun H' b h nb z => by
      obtain ⟨_, _, e⟩ := h
      rw [z, e] at nb
      cases nb
    refine ⟨Nat.zero_le _, fun P nP => ⟨Nat.zero_le _, fun Wd nW => ⟨_, _, rfl, ?_⟩⟩⟩
    have I0 : RInv H (upd (upd H P (.lst [])) Wd (.lst [])) p P Wd [] [] (ringP n far nm tail 0) := by
      have s1 := same_new (o := .lst []) nP
      have s2 := same_new (o := .lst []) nW
      exact ⟨((SameP.refl p H).new nP).new nW, (hp.keep s1).keep s2, nP, s1.free nW, ne_of_none upd_same nW, nep H P hp nP, nep _ Wd (hp.keep s1) nW, s2 _ _ upd_same, upd_same, rfl, rfl, fun j q e ns h => by simp at h⟩
    generalize upd (upd H P (.lst [])) Wd (.lst []) = H1 at I0
    refine ⟨_, rfl, (n : Int), rfl, by omega, by omega, ?_⟩
    rw [Int.toNat_natCast]
    refine for_range (lo := 0) (n := n) (fun i σ H' => ∃ x8 x9 ps ars, σ = [some (.ref p), some (.int (n : Int)), some (.str nm), some (.int far), some (.str (othS tail)), some (.int (othI tail)), some (.ref P), some (.ref Wd), x8, x9, none, none] ∧
      (ringP n far nm tail i).length ≤ 2 * i ∧ RInv H H' p P Wd ps ars (ringP n far nm tail i)) ⟨none, none, [], [], rfl, Nat.le_refl _, I0⟩ (fun i σ H2 hi hP => ?_) fun σ H2 hP => ?_
    · obtain ⟨x8, x9, ps, ars, rfl, hlen, I⟩ := hP
      have ei : (0 : Int) + (i : Nat) = ((i : Nat) : Int) := by omega
      rw [ei]
      refine ⟨_, rfl, _, rfl, _, _, rfl, rfl, _, rfl, _, _, rfl, rfl, (by show (0 : Int) < n; omega), ?_⟩
      -- the arms
      refine ⟨_, rfl, .inl ⟨rfl, _, SqL.of I.lp⟩, _, rfl, _, rfl, _, rfl, (by show 1 ≤ sizeLine; decide), fun l1 nl1 => ?_⟩
      have I1 := I.keep (same_new (o := .lst [.int (((i : Int) + far) % (n : Int))]) nl1)
      have h1 : (upd H2 l1 (.lst [.int (((i : Int) + far) % (n : Int))])) l1 = some (.lst [.int (((i : Int) + far) % (n : Int))]) := upd_same
      have n1p := nep _ l1 I.pot nl1
      refine ⟨_, rfl, (by show 1 ≤ sizeLine; decide), fun l2 nl2 => ?_⟩
      have I2 := I1.keep (same_new (o := .lst [.int (i : Int)]) nl2)
      have h12 := (same_new (o := .lst [.int (i : Int)]) nl2) _ _ h1
      have n2p := nep _ l2 I1.pot nl2
      refine ⟨_, rfl, p, 2, rfl, I2.pot, by decide, by decide, fun H3 v s3 hp3 v0 v1 => ?_⟩
      have I3 := I2.play s3 hp3
      have h13 := s3 _ _ n1p h12
      have h23 := s3 _ _ n2p upd_same
      refine ⟨l2, v, _, rfl, rfl, h23, by omega, by omega, ?_, fun l3 nl3 => ?_⟩
      · show 1 * v.toNat ≤ sizeLine
        have : v.toNat ≤ 1000 := by omega
        have := small1000 this
        omega
      have I4 := I3.keep (same_new (o := .lst (List.replicate v.toNat [V.int (i : Int)]).flatten) nl3)
      have h14 := (same_new (o := .lst (List.replicate v.toNat [V.int (i : Int)]).flatten) nl3) _ _ h13
      have fl := (flat_int v.toNat (i : Int)).2
      refine ⟨l1, l3, _, _, rfl, rfl, h14, upd_same, ?_, fun l4 nl4 => ?_⟩
      · rw [fl, List.length_map, List.length_replicate]
        show 1 + v.toNat ≤ sizeLine
        have : 1 + v.toNat ≤ 1000 := by omega
        exact Nat.le_of_lt (small1000 this)
      have I5 := I4.keep (same_new (o := .lst ([V.int (((i : Int) + far) % (n : Int))] ++ (List.replicate v.toNat [V.int (i : Int)]).flatten)) nl4)
      refine ⟨l4, (((i : Int) + far) % (n : Int)) :: List.replicate v.toNat (i : Int), rfl, SqL.of ?_, ?_, fun st cnt hcnt nst => ?_⟩
      · rw [upd_same, fl]
        rfl
      · rw [List.length_cons, List.length_replicate]
        omega
      have I6 := I5.keep (same_new (o := SetO w st (fun j => decide (j ∈ (((i : Int) + far) % (n : Int)) :: List.replicate v.toNat (i : Int))) cnt) nst)
      refine ⟨st, _, cnt, rfl, upd_same, ?_, fun ns l5 _ _ _ nl5 => ?_⟩
      · rw [List.length_cons, List.length_replicate] at hcnt
        omega
      have I7 := I6.keep (same_new (o := .lst (ns.map V.int)) nl5)
      refine ⟨l5, _, rfl, .inl ⟨SqL.of upd_same, fun ar nar => ?_⟩⟩
      have I8 := I7.keep (same_new (o := .tup (ns.map V.int)) nar)
      refine ⟨(by show 3 ≤ sizeLine; decide), fun qa nq => ?_⟩
      have sq := same_new (o := .tup [.int (i : Int), .str nm, .ref ar]) nq
      have I9 := I8.keep sq
      have har := sq _ _ (upd_same (a := ar))
      have Ia := I9.push (q := qa) (e := (((i : Int), nm), ((i : Int) + far) % (n : Int))) (ns := ns) upd_same har
      have hps : ps.length ≤ 2 * i := by rw [I9.len]; exact hlen
      refine ⟨P, _, .ref qa, rfl, rfl, I9.lp, small1000 (by rw [List.length_map]; omega), ?_⟩
      refine ⟨_, rfl, .inl ⟨rfl, _, SqL.of ((upd_ne I9.ne.symm).trans I9.lw)⟩, _, rfl, Wd, _, .int (((i : Int) + far) % (n : Int)), rfl, rfl, (upd_ne I9.ne.symm).trans I9.lw, small1000 (by rw [List.length_map, ← I9.len]; omega), ?_⟩
      have Ix : RInv H _ p P Wd (ps ++ [qa]) (ars ++ [ns]) (ringP n far nm tail i ++ [(((i : Int), nm), ((i : Int) + far) % (n : Int))]) := Ia
      -- the other name
      refine ⟨_, rfl, _, rfl, rfl, _, rfl, ite2 (fun e => ?_) fun e => ?_⟩
      · have e : (i : Int) = othI tail := V.int.inj (of_decide_eq_true e)
        refine ⟨_, rfl, rfl, _, rfl, ?_⟩
        cases tail with
        | none =>
          refine ⟨_, _, ps ++ [qa], ars ++ [ns], rfl, ?_, ?_⟩
          · rw [ringP_succ, List.length_append, List.length_append]
            show _ + 1 + 0 ≤ _
            omega
          · rw [ringP_succ]
            show RInv _ _ _ _ _ _ _ (_ ++ [])
            rw [List.append_nil]
            exact Ix
        | some ot =>
          obtain ⟨o, t⟩ := ot
          have e : (i : Int) = t := e
          have hne := (ho o t rfl).2.2
          have et : tailW (n : Int) (some (o, t)) (i : Int) = [(((i : Int), o), (i : Int))] := by
            show (if (i : Int) = t then [(((i : Int), o), t)] else []) = _
            rw [if_pos e, ← e]
          have eb : (!decide (V.str (othS (some (o, t))) = V.str (Str.ofString ""))) = true := by
            show (!decide (V.str o = V.str (Str.ofString ""))) = true
            rw [decide_eq_false (fun z => hne (V.str.inj z))]
            rfl
          refine (if_pos eb).mpr ?_
          have hwl : (ringP n far nm (some (o, t)) i ++ [(((i : Int), nm), ((i : Int) + far) % (n : Int))]).length ≤ 2 * i + 1 := by
            rw [List.length_append, List.length_singleton]
            omega
          refine ⟨_, rfl, .inl ⟨rfl, _, SqL.of Ix.lp⟩, _, rfl, _, rfl, _, rfl, (by show 1 ≤ sizeLine; decide), fun ar2 nar2 => ?_⟩
          have Iy := Ix.keep (same_new (o := .tup [.int (i : Int)]) nar2)
          refine ⟨(by show 3 ≤ sizeLine; decide), fun q2 nq2 => ?_⟩
          have sq2 := same_new (o := .tup [.int (i : Int), .str o, .ref ar2]) nq2
          have Iz := Iy.keep sq2
          have hps2 : (ps ++ [qa]).length ≤ 2 * i + 1 := by rw [List.length_append, List.length_singleton]; omega
          refine ⟨P, _, .ref q2, rfl, rfl, Iz.lp, small1000 (by rw [List.length_map]; omega), ?_⟩
          refine ⟨_, rfl, .inl ⟨rfl, _, SqL.of ((upd_ne Iz.ne.symm).trans Iz.lw)⟩, _, rfl, Wd, _, .int (i : Int), rfl, rfl, (upd_ne Iz.ne.symm).trans Iz.lw, small1000 (by rw [List.length_map]; omega), ?_⟩
          have Iw := Iz.push (q := q2) (e := (((i : Int), o), (i : Int))) (ns := [(i : Int)]) upd_same (sq2 _ _ upd_same)
          refine ⟨_, _, ps ++ [qa] ++ [q2], ars ++ [ns] ++ [[(i : Int)]], rfl, ?_, ?_⟩
          · rw [ringP_succ, et, List.length_append, List.length_singleton]
            omega
          · rw [ringP_succ, et]
            exact Iw
      · have e : ¬ (i : Int) = othI tail := fun z => e (decide_eq_true (congrArg V.int z))
        have et : tailW (n : Int) tail (i : Int) = [] := by
          cases tail with
          | none => rfl
          | some ot =>
            obtain ⟨o, t⟩ := ot
            show (if (i : Int) = t then [(((i : Int), o), t)] else []) = _
            exact if_neg e
        refine ⟨_, _, ps ++ [qa], ars ++ [ns], rfl, ?_, ?_⟩
        · rw [ringP_succ, et, List.append_nil, List.length_append, List.length_singleton]
          omega
        · rw [ringP_succ, et, List.append_nil]
          exact Ix
    · obtain ⟨x8, x9, ps, ars, rfl, hlen, I⟩ := hP
      have hrl : ringP n far nm tail n = ringL n far nm tail := rfl
      rw [hrl] at hlen I
      have hord := ring_order (n := n) (far := far) (nm := nm) (tail := tail) fun o t h => (ho o t h).1
      have hnod := ring_nodup (n := n) (far := far) (nm := nm) (tail := tail) fun o t h => (ho o t h).1
      generalize ringL n far nm tail = W at hlen I hord hnod q
      -- sorted
      refine ⟨_, rfl, _, rfl, P, Wd, _, _, rfl, rfl, SqL.of I.lp, SqL.of I.lw, by rw [List.length_map, List.length_map, I.len], fun H3 l Ts s3 nl hl hTl hTe => ?_⟩
      have I3 := I.keep s3
      have hTW : Ts.length = W.length := by rw [hTl, List.length_map, I.len]
      have hT : ∀ (j : Nat) (t : Addr), Ts[j]? = some t → ∃ qa e ns ar, ps[j]? = some qa ∧ W[j]? = some e ∧ ars[j]? = some ns ∧ H3 t = some (.tup [.ref qa, .int e.2]) ∧ H3 qa = some (.tup [.int e.1.1, .str e.1.2, .ref ar]) ∧ H3 ar = some (.tup (ns.map V.int)) := fun j t ht => by
        obtain ⟨x, y, hx, hy, hxy⟩ := hTe j t ht
        have hj : j < W.length := by
          rw [← hTW]
          exact (List.getElem?_eq_some_iff.mp ht).1
        have g1 : ps[j]? = some (ps[j]'(by rw [I.len]; exact hj)) := List.getElem?_eq_getElem _
        have g2 : W[j]? = some W[j] := List.getElem?_eq_getElem hj
        have g3 : ars[j]? = some (ars[j]'(by rw [I.len2]; exact hj)) := List.getElem?_eq_getElem _
        obtain ⟨ar, h4, h5⟩ := I3.each j _ _ _ g1 g2 g3
        have ex : x = .ref _ := Option.some.inj (hx.symm.trans (intV_get g1))
        have ey : y = armV _ := Option.some.inj (hy.symm.trans (intV_get g2))
        rw [ex, ey] at hxy
        exact ⟨_, _, _, ar, g1, g2, g3, hxy, h4, h5⟩
      have hfst := pairsB_fst hTW I.len2
      refine ⟨l, pairsB Ts W ars, rfl, ?_, fun b hb => ?_, fun d hd d' hd' => ?_, .inl fun d hd => ?_, fun b hb => ?_, ?_, fun l2 nl2 => ?_⟩
      · rw [hfst]
        exact SqL.of hl
      · obtain ⟨j, hj⟩ := List.mem_iff_getElem?.mp hb
        obtain ⟨t, e, ns, h1, h2, h3, rfl⟩ := pairsB_at hj
        obtain ⟨qa, e', ns', ar, g1, g2, g3, g4, g5, g6⟩ := hT j t h1
        rw [h2] at g2
        cases g2
        rw [h3] at g3
        cases g3
        have all : ∀ zs : List Int, DpAll K H3 (zs.map V.int) (zs.map .int) := fun zs => by
          induction zs with
          | nil => exact .nil
          | cons z zs ih => exact .cons (.int z) ih
        exact .tup (SqT.of g4) (.cons (.tup (SqT.of g5) (.cons (.int _) (.cons (.str _) (.cons (.tup (SqT.of g6) (all _)) .nil)))) (.cons (.int _) .nil))
      · obtain ⟨b, hb, rfl⟩ := List.mem_map.mp hd
        obtain ⟨b', hb', rfl⟩ := List.mem_map.mp hd'
        obtain ⟨j, hj⟩ := List.mem_iff_getElem?.mp hb
        obtain ⟨j', hj'⟩ := List.mem_iff_getElem?.mp hb'
        obtain ⟨t, e, ns, _, _, _, rfl⟩ := pairsB_at hj
        obtain ⟨t', e', ns', _, _, _, rfl⟩ := pairsB_at hj'
        exact alike_pair e e' ns ns'
      · obtain ⟨b, hb, rfl⟩ := List.mem_map.mp hd
        obtain ⟨j, hj⟩ := List.mem_iff_getElem?.mp hb
        obtain ⟨t, e, ns, _, _, _, rfl⟩ := pairsB_at hj
        exact ⟨_, _, rfl⟩
      · obtain ⟨j, hj⟩ := List.mem_iff_getElem?.mp hb
        obtain ⟨t, e, ns, _, _, _, rfl⟩ := pairsB_at hj
        exact depth_pair e ns
      · rw [List.pairwise_iff_getElem]
        intro i j hi hj hij
        obtain ⟨t, e, ns, _, e2, _, hb⟩ := pairsB_at (List.getElem?_eq_getElem hi)
        obtain ⟨t', e', ns', _, e2', _, hb'⟩ := pairsB_at (List.getElem?_eq_getElem hj)
        rw [hb, hb']
        refine order_pair ?_
        obtain ⟨hi', he⟩ := List.getElem?_eq_some_iff.mp e2
        obtain ⟨hj', he'⟩ := List.getElem?_eq_some_iff.mp e2'
        have := List.pairwise_iff_getElem.mp hord i j hi' hj' hij
        rw [he, he'] at this
        rcases this with h | ⟨h1, h2, t, h3⟩
        · exact .inl h
        · obtain ⟨o1, o2, _⟩ := ho _ _ h3
          exact .inr ⟨h1, by rw [h2]; exact fun z => o1 z.symm, by rw [h2]; exact o2⟩
      rw [hfst]
      have s4 := same_new (o := .lst (Ts.map V.ref)) nl2
      have hl4 : (upd H3 l2 (.lst (Ts.map V.ref))) l2 = some (.lst (Ts.map V.ref)) := upd_same
      have I4 := I3.keep s4
      have hT4 : ∀ (j : Nat) (t : Addr), Ts[j]? = some t → ∃ qa e, ps[j]? = some qa ∧ W[j]? = some e ∧ (upd H3 l2 (.lst (Ts.map V.ref))) t = some (.tup [.ref qa, .int e.2]) := fun j t ht => by
        obtain ⟨qa, e, _, _, g1, g2, _, g4, _, _⟩ := hT j t ht
        exact ⟨qa, e, g1, g2, s4 _ _ g4⟩
      generalize upd H3 l2 (.lst (Ts.map V.ref)) = H4 at hl4 I4 hT4
      have tk : ∀ (i : Nat) (x : V), (Ts.map V.ref)[i]? = some x → ∃ t, x = .ref t ∧ Ts[i]? = some t := fun i x hx => by
        rw [List.getElem?_map] at hx
        obtain ⟨t, h1, h2⟩ := Option.map_eq_some_iff.mp hx
        exact ⟨t, h2.symm, h1⟩
      have hTs : Ts.length ≤ 1000 := by omega
      have hpsl : ps.length ≤ 1000 := by rw [I.len]; omega
      have hWl : W.length ≤ 1000 := by omega
      -- the posts
      refine ⟨_, rfl, _, rfl, l2, rfl, ⟨_, SqL.of hl4⟩, fun D nD => ?_⟩
      refine lc_list (K := K) (a := l2) (xs := Ts.map V.ref) (fun i H' => Same H4 H' ∧ H' D = some (.lst ((ps.take i).map V.ref))) ⟨same_new nD, upd_same⟩ (fun i H' _ hP => SqL.of (hP.1 _ _ hl4)) (fun i x H' hx hP => ?_) fun H' hP => ?_
      · obtain ⟨sm, hD⟩ := hP
        obtain ⟨t, rfl, ht⟩ := tk i x hx
        obtain ⟨qa, e, g1, g2, g3⟩ := hT4 i t ht
        have hi := (List.getElem?_eq_some_iff.mp g1).1
        refine ⟨t, _, rfl, SqT.of (sm _ _ g3), rfl, .ref qa, [.int e.2], rfl, .int e.2, [], rfl, rfl, rfl, _, rfl, _, hD, small1000 (by rw [List.length_map, List.length_take]; omega), same_upd' sm nD, ?_⟩
        rw [upd_same, List.take_add_one, g1, List.map_append]
        rfl
      obtain ⟨sm, hD⟩ := hP
      have eps : ps.take (Ts.map V.ref).length = ps := by
        rw [List.length_map, hTW, ← I.len, List.take_length]
      rw [eps] at hD
      refine ⟨D, _, rfl, .inl ⟨SqL.of hD, fun pt npt => ⟨(by show 2 ≤ sizeLine; decide), fun wb nwb => ?_⟩⟩⟩
      have s5 := same_new (o := .tup (ps.map V.ref)) npt
      have s6 := same_new (o := .tup [.int (n : Int), .ref pt]) nwb
      have hpt := s6 _ _ (upd_same (H := H') (a := pt) (o := .tup (ps.map V.ref)))
      have hwb : (upd (upd H' pt (.tup (ps.map V.ref))) wb (.tup [.int (n : Int), .ref pt])) wb = some (.tup [.int (n : Int), .ref pt]) := upd_same
      have s46 := sm.trans (s5.trans s6)
      generalize upd (upd H' pt (.tup (ps.map V.ref))) wb (.tup [.int (n : Int), .ref pt]) = H6 at hpt hwb s46
      -- the arms
      refine ⟨_, rfl, l2, rfl, ⟨_, SqL.of (s46 _ _ hl4)⟩, fun D2 nD2 => ?_⟩
      refine lc_list (K := K) (a := l2) (xs := Ts.map V.ref) (fun i H' => Same H6 H' ∧ H' D2 = some (.lst ((W.take i).map armV))) ⟨same_new nD2, upd_same⟩ (fun i H' _ hP => SqL.of (hP.1 _ _ (s46 _ _ hl4))) (fun i x H' hx hP => ?_) fun H' hP => ?_
      · obtain ⟨sm2, hD2⟩ := hP
        obtain ⟨t, rfl, ht⟩ := tk i x hx
        obtain ⟨qa, e, g1, g2, g3⟩ := hT4 i t ht
        have hi := (List.getElem?_eq_some_iff.mp g2).1
        refine ⟨t, _, rfl, SqT.of (sm2 _ _ (s46 _ _ g3)), rfl, .ref qa, [.int e.2], rfl, .int e.2, [], rfl, rfl, rfl, _, rfl, _, hD2, small1000 (by rw [List.length_map, List.length_take]; omega), same_upd' sm2 nD2, ?_⟩
        rw [upd_same, List.take_add_one, g2, List.map_append]
        rfl
      obtain ⟨sm2, hD2⟩ := hP
      have eW : W.take (Ts.map V.ref).length = W := by
        rw [List.length_map, hTW, List.take_length]
      rw [eW] at hD2
      refine ⟨D2, _, rfl, .inl ⟨SqL.of hD2, fun wd nwd => ⟨(by show 2 ≤ sizeLine; decide), fun r nr => ?_⟩⟩⟩
      have s7 := same_new (o := .tup (W.map armV)) nwd
      have s8 := same_new (o := .tup [.ref wb, .ref wd]) nr
      have hwd := s8 _ _ (upd_same (H := H') (a := wd) (o := .tup (W.map armV)))
      have s68 := sm2.trans (s7.trans s8)
      have I8 := I4.keep (s46.trans s68)
      refine q _ r wb wd I8.same I8.pot upd_same ⟨⟨pt, ps, SqT.of (s68 _ _ hwb), SqT.of (s68 _ _ hpt), I.len, fun j qa e h1 h2 => ?_⟩, SqT.of hwd, hnod, by omega⟩
      have g3 : ars[j]? = some (ars[j]'(by rw [I.len2]; exact (List.getElem?_eq_some_iff.mp h2).1)) := List.getElem?_eq_getElem _
      obtain ⟨ar, h4, _⟩ := I8.each j qa e _ h1 h2 g3
      exact ⟨.ref ar, SqT.of h4⟩
end
end Rg
/-! helpers of _law_right -/
namespace Rg
open PySem PySem.Spec PyProof.Rows L2
theorem WebAt.play {K : PySem.W.Frag} {p : Addr} {H H' : Hp} {wb wd : Addr} {n : Nat} {W : WL} (h : WebAt K H wb wd n W) (s : SameP p H H') (hp : PotAt H p) : WebAt K H' wb wd n W := by
  obtain ⟨⟨pt, ps, h1, h2, h3, h4⟩, h5, h6, h7⟩ := h
  refine ⟨⟨pt, ps, s.tupT hp h1, s.tupT hp h2, h3, fun j p e a b => ?_⟩, s.tupT hp h5, h6, h7⟩
  obtain ⟨arms, q⟩ := h4 j p e a b
  exact ⟨arms, s.tupT hp q⟩
theorem GoalsAt.play {K : PySem.W.Frag} {p : Addr} {H H' : Hp} {g : V} {n : Nat} {es : List Int} (h : GoalsAt K H g n es) (s : SameP p H H') (hp : PotAt H p) : GoalsAt K H' g n es := by
  rcases h with h | ⟨ga, e, h⟩
  · exact .inl h
  · exact .inr ⟨ga, e, s.tupT hp h⟩
theorem SpotsAt.play {p : Addr} {H H' : Hp} {l : Addr} {S : List Spot} (h : SpotsAt H l S) (s : SameP p H H') (hp : PotAt H p) (n : l ≠ p) : SpotsAt H' l S := by
  obtain ⟨ts, h1, h2, h3⟩ := h
  exact ⟨ts, s _ _ n h1, h2, fun j t x a b => s.tup hp (h3 j t x a b)⟩
theorem flat_one {α : Type} (k : Nat) (x : α) : (List.replicate k [x]).flatten = List.replicate k x := by
  induction k with
  | zero => rfl
  | succ k ih =>
    rw [List.replicate_succ, List.flatten_cons, ih, List.replicate_succ]
    rfl
theorem rep_join {K : PySem.W.Frag} {H : Hp} {Q : VK} {l : Addr} {x : V} {k : Nat} (hl : SqT K H l [x]) (hk : k ≤ 1000) (h : ∀ H' t, Same H H' → SqT K H' t (List.replicate k x) → Q (.ref t) H') : rRepA K (.ref l) (.int (k : Int)) H Q := by
  refine ⟨l, (k : Int), [x], rfl, rfl, hl, by simp, by omega, by omega, (by show 1 ≤ 1000; decide), fun e1 => ?_, fun _ p np => ?_⟩
  · have : k = 1 := by omega
    subst this
    exact h H l (Same.refl H) hl
  · refine h _ p (same_new np) (SqT.of ?_)
    rw [upd_same, Int.toNat_natCast, flat_one]
/-! data of spots and rows -/
theorem dpAll_of {K : PySem.W.Frag} {H : Hp} : ∀ {vs : List V} {ds : List PyData}, vs.length = ds.length → (∀ (j : Nat) (v : V) (d : PyData), vs[j]? = some v → ds[j]? = some d → Dp K H v d) → DpAll K H vs ds
  | [], [], _, _ => .nil
  | [], _ :: _, h, _ => by simp at h
  | _ :: _, [], h, _ => by simp at h
  | v :: vs, d :: ds, h, f => .cons (f 0 v d rfl rfl) (dpAll_of (by simpa using h) fun j v' d' h1 h2 => f (j + 1) v' d' (by simpa using h1) (by simpa using h2))
def spotD (s : Spot) : PyData := .tuple [.int s.1, .int (s.2 : Int)]
theorem dp_spots {K : PySem.W.Frag} {H : Hp} {t : Addr} {S : List Spot} (h : TupsAt H t S) : Dp K H (.ref t) (.tuple (S.map spotD)) := by
  obtain ⟨ts, h1, h2, h3⟩ := h
  refine .tup (SqT.of h1) (dpAll_of (by rw [List.length_map, List.length_map, h2]) fun j v d e1 e2 => ?_)
  rw [List.getElem?_map] at e1 e2
  obtain ⟨t', g1, rfl⟩ := Option.map_eq_some_iff.mp e1
  obtain ⟨s, g2, rfl⟩ := Option.map_eq_some_iff.mp e2
  exact .tup (SqT.of (h3 j t' s g1 g2)) (.cons (.int _) (.cons (.int _) .nil))
theorem lay_spots : ∀ S : List Spot, PyData.canLayAll0 (S.map spotD) = true
  | [] => by simp only [List.map_nil, PyData.canLayAll0]
  | s :: S => by
    have := lay_spots S
    simp only [List.map_cons, spotD, PyData.canLayAll0, PyData.canLay0, this, Bool.and_self, Bool.and_true]
theorem depth_spots : ∀ S : List Spot, PyData.depthAll (S.map spotD) ≤ 5
  | [] => by simp only [List.map_nil, PyData.depthAll]; decide
  | s :: S => by
    have := depth_spots S
    simp only [List.map_cons, spotD, PyData.depthAll, PyData.depth]
    omega
theorem shaped_spots (S : List Spot) : SeqAt.shaped (.tuple (S.map spotD)) = true := by
  unfold SeqAt.shaped
  have h1 := lay_spots S
  have h2 := depth_spots S
  rw [Bool.and_eq_true]
  refine ⟨by simp only [PyData.canLay0, h1], decide_eq_true ?_⟩
  simp only [PyData.depth]
  omega
theorem eqv_spots (S : List Spot) : PyData.eqv (.tuple (S.map spotD)) (.tuple (S.map spotD)) = true := SeqAt.eqv_refl _ (by simp only [PyData.canLay0, lay_spots S])
theorem dp_rep {K : PySem.W.Frag} {H : Hp} {t : Addr} {k : Nat} {a : Str} (h : SqT K H t (List.replicate k (V.str a))) : Dp K H (.ref t) (.tuple (List.replicate k (.str a))) := by
  refine .tup h (dpAll_of (by rw [List.length_replicate, List.length_replicate]) fun j v d e1 e2 => ?_)
  have h1 := List.eq_of_mem_replicate (List.mem_of_getElem? e1)
  have h2 := List.eq_of_mem_replicate (List.mem_of_getElem? e2)
  rw [h1, h2]
  exact .str a
theorem lay_rep {a : Str} (h : PyData.strOk a = true) : ∀ k : Nat, PyData.canLayAll0 (List.replicate k (.str a)) = true
  | 0 => by simp only [List.replicate_zero, PyData.canLayAll0]
  | k + 1 => by
    have := lay_rep h k
    simp only [List.replicate_succ, PyData.canLayAll0, PyData.canLay0, this, h, Bool.and_self]
theorem depth_rep {a : Str} : ∀ k : Nat, PyData.depthAll (List.replicate k (.str a)) ≤ 5
  | 0 => by simp only [List.replicate_zero, PyData.depthAll]; decide
  | k + 1 => by
    have := depth_rep (a := a) k
    simp only [List.replicate_succ, PyData.depthAll, PyData.depth]
    omega
theorem shaped_rep {a : Str} (h : PyData.strOk a = true) (k : Nat) : SeqAt.shaped (.tuple (List.replicate k (.str a))) = true := by
  unfold SeqAt.shaped
  have h1 := lay_rep h k
  have h2 := depth_rep (a := a) k
  rw [Bool.and_eq_true]
  refine ⟨by simp only [PyData.canLay0, h1], decide_eq_true ?_⟩
  simp only [PyData.depth]
  omega
theorem eqv_rep {a : Str} (h : PyData.strOk a = true) (k : Nat) : PyData.eqv (.tuple (List.replicate k (.str a))) (.tuple (List.replicate k (.str a))) = true := SeqAt.eqv_refl _ (by simp only [PyData.canLay0, lay_rep h k])
/-! the ring's facts as the calls want them -/
section
variable {n m : Nat} {far : Int} {nm : Str} {tail : Option (Str × Int)} {es : List Int}
theorem mem_es : (fun x => decide (x ∈ es) = true) = fun x => x ∈ es := by
  funext x
  exact propext ⟨fun h => of_decide_eq_true h, fun h => decide_eq_true h⟩
theorem ring_U (ho : ∀ o t, tail = some (o, t) → o ≠ nm ∧ 0 ≤ t ∧ t < n) (he : ∀ c ∈ es, 0 ≤ c ∧ c < n) (c : Int) (p d : Nat) (h : M (wordOf m nm tail) (wf (ringL n far nm tail)) (· ∈ es) c p d) : (c, p) ∈ univ n (wordOf m nm tail).length := by
  rw [← mem_es] at h
  exact M_univ (fun o t h => (ho o t h).1) (fun c hc => he c (of_decide_eq_true hc)) h
theorem ring_M (hn : 0 < n) (ho : ∀ o t, tail = some (o, t) → o ≠ nm ∧ 0 ≤ t ∧ t < n) {c : Int} {p d : Nat} (h0 : 0 ≤ c) (h1 : c < n) (hp : p ≤ (wordOf m nm tail).length) : M (wordOf m nm tail) (wf (ringL n far nm tail)) (· ∈ es) c p d ↔ due n far m (fun c => decide (c ∈ es)) (tail.map (·.2)) c p = some d := by
  rw [← mem_es]
  exact due_M hn ho h0 h1 hp
theorem ring_B (hn : 0 < n) (ho : ∀ o t, tail = some (o, t) → o ≠ nm ∧ 0 ≤ t ∧ t < n) (he : ∀ c ∈ es, 0 ≤ c ∧ c < n) (c : Int) (p d : Nat) (h : M (wordOf m nm tail) (wf (ringL n far nm tail)) (· ∈ es) c p d) : d ≤ m + n + 1 := by
  obtain ⟨h1, h2, h3⟩ := mem_univ.mp (ring_U ho he c p d h)
  exact due_le ((ring_M hn ho h1 h2 h3).mp h)
/-- the names gone: all the first one, but the last where it is the other -/
theorem row_names (ho : ∀ o t, tail = some (o, t) → o ≠ nm ∧ 0 ≤ t ∧ t < n) {d k : Nat} {S : List Stp} (hk : k + (if tail.isSome = true then 1 else 0) ≤ d ∨ tail = none ∧ k ≤ d) (hS : StepsOk (wordOf m nm tail) (ringL n far nm tail) (· ∈ es) d S) (i : Nat) (s : Stp) (hi : i < k) (h : S[i]? = some s) : (wordOf m nm tail)[s.1]? = some nm := by
  obtain ⟨h1, h2⟩ := hS i s h
  cases tail with
  | none =>
    rw [word_len0] at h1
    exact word_at h1
  | some ot =>
    obtain ⟨o, t⟩ := ot
    rw [word_len1] at h1
    by_cases hm : s.1 < m
    · exact word_at hm
    · have e : s.1 = m := by omega
      rw [e] at h2
      have h3 := last_step (ho o t rfl).1 h2
      rcases hk with hk | ⟨hk, _⟩
      · have : (if (some (o, t)).isSome = true then 1 else 0) = 1 := rfl
        rw [this] at hk
        omega
      · cases hk
end
/-! a stop between: what is known there is said in words -/
def tMid (t : TE) : TE := fun σ H Q => ∃ G : V → Hp → Prop, t σ H G ∧ ∀ v H', G v H' → Q v H'
theorem pe_mid {X : Cx} {e : Expr} {t : TE} (h : PE X e t) : PE X e (tMid t) := ⟨fun pins s σ H Q I q => by
  obtain ⟨G, q1, q2⟩ := q
  exact thn (h.run pins s σ H G I q1) fun v s1 ⟨x, H1, I1, r1, g⟩ => ⟨x, H1, I1, r1, q2 x H1 g⟩⟩
def tMidS (t : TS) : TS := fun D σ H => ∃ G : L2.St → Hp → Prop, t { D with nx := G } σ H ∧ ∀ σ' H', G σ' H' → D.nx σ' H'
theorem ps_mid {X : Cx} {st : Stmt} {t : TS} (h : PS X st t) : PS X st (tMidS t) := ⟨fun pins s σ H D I q => by
  obtain ⟨G, q1, q2⟩ := q
  refine thn (h.run pins s σ H _ I q1) fun f s1 g => ?_
  cases f with
  | next => obtain ⟨σ', H', I', g'⟩ := g; exact ⟨σ', H', I', q2 σ' H' g'⟩
  | brk => exact g
  | cont => exact g
  | ret u => exact g⟩
theorem rep_join' {K : PySem.W.Frag} {H : Hp} {Q : VK} {l : Addr} {x : V} {i : Int} (k : Nat) (hi : i = (k : Int)) (hl : SqT K H l [x]) (hk : k ≤ 1000) (h : ∀ H' t, Same H H' → SqT K H' t (List.replicate k x) → Q (.ref t) H') : rRepA K (.ref l) (.int i) H Q := by
  subst hi
  exact rep_join hl hk h
def duesP (l : Nat) (f : Int → Nat → Option Nat) (k : Nat) : List Spot := (List.range k).flatMap fun (i : Nat) => ((List.range (l+1)).filter fun p => (f (i : Int) p).isSome).map fun (p : Nat) => ((i : Int), p)
def duesQ (f : Int → Nat → Option Nat) (i w : Nat) : List Spot := ((List.range w).filter fun p => (f (i : Int) p).isSome).map fun (p : Nat) => ((i : Int), p)
theorem duesP_succ {l : Nat} {f : Int → Nat → Option Nat} {k : Nat} : duesP l f (k + 1) = duesP l f k ++ duesQ f k (l + 1) := by
  unfold duesP duesQ
  rw [List.range_succ (n := k), List.flatMap_append]
  congr 1
  exact List.append_nil _
theorem duesQ_succ {f : Int → Nat → Option Nat} {i w : Nat} : duesQ f i (w + 1) = duesQ f i w ++ (if (f (i : Int) w).isSome = true then [((i : Int), w)] else []) := by
  unfold duesQ
  rw [List.range_succ, List.filter_append, List.map_append]
  congr 1
  by_cases h : (f (i : Int) w).isSome = true
  · rw [if_pos h]
    simp [h]
  · rw [if_neg h]
    have h' : (f (i : Int) w).isSome = false := by simpa using h
    simp [h']
theorem duesQ_len {f : Int → Nat → Option Nat} {i w : Nat} : (duesQ f i w).length ≤ w := by
  unfold duesQ
  rw [List.length_map]
  exact Nat.le_trans (List.length_filter_le _ _) (by rw [List.length_range]; exact Nat.le_refl _)
theorem duesP_len {l : Nat} {f : Int → Nat → Option Nat} : ∀ k : Nat, (duesP l f k).length ≤ k * (l + 1)
  | 0 => Nat.zero_le _
  | k + 1 => by
    have h1 := duesP_len (l := l) (f := f) k
    have h2 := duesQ_len (f := f) (i := k) (w := l + 1)
    rw [duesP_succ, List.length_append, Nat.succ_mul]
    omega
theorem due_pos {n m : Nat} {far c t : Int} {es : Int → Bool} {w d : Nat} (h : due n far m es (some t) c w = some d) (hw : w ≤ m) : 1 ≤ d := by
  unfold due at h
  rw [if_neg (by omega)] at h
  dsimp only at h
  cases hl : least n m (m - w) fun k => decide (step n far c k = t) with
  | none =>
    simp only [hl] at h
    cases h
  | some k =>
    simp only [hl] at h
    by_cases he : es t = true
    · rw [if_pos he] at h
      have := Option.some.inj h
      omega
    · rw [if_neg he] at h
      cases h
theorem due_top {n m : Nat} {far c : Int} {tail : Option Int} {es : Int → Bool} {w d : Nat} (h : due n far m es tail c w = some d) (hw : m < w) : d = 0 := by
  unfold due at h
  rw [if_pos hw] at h
  by_cases he : es c = true
  · rw [if_pos he] at h
    exact (Option.some.inj h).symm
  · rw [if_neg he] at h
    cases h
end Rg
/-! _law_right -/
namespace Rg
open PySem PySem.Spec PyProof.Rows L2
theorem tC_ok {x : V} {σ : L2.St} {H : Hp} {Q : VK} (h : Q x H) : tC x σ H Q := h
section
variable {P : Program} {w : World} {K : PySem.W.Frag} {mg : Str → Option Value} {base : Heap}
abbrev nsRight : List Str := ["_law_pot_here", "_law_n", "_law_far", "_law_many", "_law_names_here", "_law_aims", "_law_other", "_law_at", "_law_web", "_law_world", "_law_word", "_law_ends", "_law_found", "_law_crossing", "_law_where", "_law_steps", "_law_walk", "_law_behind"]
theorem scRight : FnScope nsRight ["_law_pot_here", "_law_n", "_law_far", "_law_many", "_law_names_here", "_law_aims"] (defScope s_right) := ⟨rfl, rfl, rfl, by decide +kernel, rfl, by decide +kernel, by decide +kernel⟩
def spRight (K : PySem.W.Frag) : Sp := fun vs H Q _ => ∃ (p nl : Addr) (n m : Nat) (far : Int) (g : V) (a b : Str) (es : List Int), vs = [.ref p, .int (n : Int), .int far, .int (m : Int), .ref nl, g] ∧ PotAt H p ∧ 0 < n ∧ n ≤ 40 ∧ 0 ≤ far ∧ far ≤ 100 ∧ m ≤ 11 ∧
  H nl = some (.lst [.str a, .str b]) ∧ nl ≠ p ∧ a ≠ b ∧ ltCps b.cps.toList a.cps.toList = false ∧ 1 ≤ b.length ∧ PyData.strOk a = true ∧ GoalsAt K H g n es ∧ (∀ c ∈ es, 0 ≤ c ∧ c < n) ∧ es.length ≤ n ∧ ∀ H', SameP p H H' → Q (.bl true) H'
theorem ok_right (T : Fs K mg) : DefOk P w K mg base "_law_right" 7 ["_law_pot_here", "_law_n", "_law_far", "_law_many", "_law_names_here", "_law_aims"] (spRight K) := by
  obtain ⟨f, fd, hm, F⟩ := T.right
  obtain ⟨fT, fdT, mT, kT, bT, GT⟩ := ok_take (P := P) (w := w) (base := base) T
  obtain ⟨fR, fdR, mR, kR, bR, GR⟩ := ok_ring (P := P) (w := w) (base := base) T
  obtain ⟨fD, fdD, mD, kD, bD, GD⟩ := ok_due (P := P) (w := w) (base := base) T
  obtain ⟨fW, fdW, mW, kW, bW, GW⟩ := ok_walk (P := P) (w := w) (base := base) T
  obtain ⟨fO, fdO, mO, kO, bO, GO⟩ := ok_row (P := P) (w := w) (base := base) T
  obtain ⟨fP, fdP, mP, kP, bP, GP⟩ := ok_places (P := P) (w := w) (base := base) T
  refine ⟨f, fd, hm, F.kp, F.binds fun _ _ _ _ _ _ us hl => match us, hl with | [_, _, _, _, _, _], _ => rfl, ?_⟩
  refine F.ok scRight (fun vs H Q E h => ?_) (fun cdv A outer s H vs Q E hr h => ?_)
  · obtain ⟨_, _, _, _, _, _, _, _, _, rfl, _⟩ := h
    rfl
  · obtain ⟨p, nl, n, m, far, g, a, b, es, rfl, hp, h0, hn, f0, f1, hmm, hnl, nlp, hab, hlt, hb1, hok, hG, he, hel, q⟩ := h
    have hr1 := hr.mono (show 1 ≤ 6 by decide)
    have hr2 := hr.mono (show 2 ≤ 6 by decide)
    refine ⟨_, pss_cons (ps_asg (pe_mid (pe_ifExp (pt_cmpR op_eq (pe_call GT hr1 (by rfl) mT kT bT .nil pass0 (pa_cons (pv 0) (pa_cons pe_int pa_nil))) pe_int (nomark _))
          (pe_tup (pa_cons (pe_ix ix_list (pv 4) pe_int (fun _ _ => rfl)) (pa_cons (pe_call GT hr1 (by rfl) mT kT bT .nil pass0 (pa_cons (pv 0) (pa_cons (pv 1) pa_nil))) pa_nil)))
          (pe_tup (pa_cons pe_str (pa_cons pe_int pa_nil)))))
        (pg_tup (n := 2) rfl (pgs_cons (pg_name (i := 6) scRight.nd rfl (.inl rfl)) (pgs_cons (pg_name (i := 7) scRight.nd rfl (.inl rfl)) pgs_nil))))
      (pss_cons (ps_asg (pe_call GR hr2 (by rfl) mR kR bR .nil pass0 (pa_cons (pv 0) (pa_cons (pv 1) (pa_cons (pe_ix ix_list (pv 4) pe_int (fun _ _ => rfl)) (pa_cons (pv 2) (pa_cons (pv 6) (pa_cons (pv 7) pa_nil)))))))
        (pg_tup (n := 2) rfl (pgs_cons (pg_name (i := 8) scRight.nd rfl (.inl rfl)) (pgs_cons (pg_name (i := 9) scRight.nd rfl (.inl rfl)) pgs_nil))))
      (pss_cons (ps_set (i := 10) scRight.nd rfl (.inl rfl) (pe_op op_catA (pe_op op_repA (pe_tup (pa_cons (pe_ix ix_list (pv 4) pe_int (fun _ _ => rfl)) pa_nil)) (pv 3))
          (pe_op op_repA (pe_tup (pa_cons (pv 6) pa_nil)) (pe_callTy call_int1 (by rfl) T.n_int (by decide +kernel) (pa_cons (pe_cmpR op_ne (pv 6) pe_str (nomark _)) pa_nil)))))
      (pss_cons (ps_par (i := 11) (j := 12) (by rfl) scRight.nd rfl rfl (by decide) rfl rfl
          (pa_cons (pe_mid (pe_ifExp (pt_cmp (pc_isN (pv 5))) (pe_listRg rfl (by rfl) T.n_list (prg_1 (by rfl) T.n_range (pv 1))) (pe_callTy call_list_of (by rfl) T.n_list (by decide +kernel) (pa_cons (pv 5) pa_nil)))) (pa_cons (pe_lst pa_nil) pa_nil)) (by rfl))
      (pss_cons (ps_for PassesOwn.never rfl (pi_range1 (by rfl) T.n_range (pa_cons (pv 1) pa_nil)) (pg_name (i := 13) scRight.nd rfl (.inl rfl))
        (pss_one (ps_for PassesOwn.never rfl (pi_range1 (by rfl) T.n_range (pa_cons (pe_op op_add (pe_callB call_len_seq (by rfl) T.n_len PySem.boot_len (pa_cons (pv 10) pa_nil)) pe_int) pa_nil)) (pg_name (i := 14) scRight.nd rfl (.inl rfl))
          (pss_cons (ps_set (i := 15) scRight.nd rfl (.inl rfl) (pe_call GD hr2 (by rfl) mD kD bD .nil pass0 (pa_cons (pv 1) (pa_cons (pv 2) (pa_cons (pv 3) (pa_cons (pv 13) (pa_cons (pv 14) (pa_cons (pv 11)
              (pa_cons (pe_mid (pe_ifExp (pt_cmpR op_ne (pv 6) pe_str (nomark _)) (pv 7) pe_non)) pa_nil)))))))))
          (pss_cons (ps_mid (ps_if (pt_cmp (pc_notN (pv 15))) (pss_one (ps_expr (pe_bm PySem.F.plainAttrs_list PySem.F.slot_list_append PySem.F.type_list_append mt_append (pv 12) (pa_cons (pe_tup (pa_cons (pv 13) (pa_cons (pv 14) pa_nil))) pa_nil)))) pss_nil))
          (pss_one (ps_if (pt_cmpR op_eq (pe_call GT hr1 (by rfl) mT kT bT .nil pass0 (pa_cons (pv 0) (pa_cons pe_int pa_nil))) pe_int (nomark _))
            (pss_cons (ps_set (i := 16) scRight.nd rfl (.inl rfl) (pe_callN GW hr (by rfl) mW kW bW pass0 (pa_cons (pv 8) (pa_cons (pv 9) (pa_cons (pv 10) (pa_cons (pv 13) pa_nil)))) (pk_cons (pv 14) (pk_cons (pv 5) pk_nil))))
            (pss_cons (ps_if (pt_cmpR op_ne (pe_ifExp (pt_cmp (pc_isN (pv 16))) pe_non (pe_callB call_len_seq (by rfl) T.n_len PySem.boot_len (pa_cons (pv 16) pa_nil))) (pv 15) (nomark _)) (pss_one ps_never) pss_nil)
            (pss_cons (ps_set (i := 17) scRight.nd rfl (.inl rfl) (pe_op op_repA (pe_tup (pa_cons (pe_ix ix_list (pv 4) pe_int (fun _ _ => rfl)) pa_nil))
                (pe_ifExp (pt_cmp (pc_isN (pv 16))) pe_int (pe_op op_sub (pe_callB call_len_seq (by rfl) T.n_len PySem.boot_len (pa_cons (pv 16) pa_nil))
                  (pe_callTy call_int1 (by rfl) T.n_int (by decide +kernel) (pa_cons (pe_mid (pe_and (pe_cmpR op_ne (pv 6) pe_str (nomark _)) (pe_one (pe_cmpR op_le (pv 14) (pv 3) (nomark _))))) pa_nil))))))
            (pss_one (ps_if (PW.pt (pw_and (pt_cmp (pc_notN (pv 16))) (pw_and1 (pt_cmpR (op_neD hr.units) (pe_mid (pe_slice sl_tupA (pe_call GO hr1 (by rfl) mO kO bO .nil pass0 (pa_cons (pv 10) (pa_cons (pv 16) pa_nil))) po_none
                (po_some (pe_callB call_len_seq (by rfl) T.n_len PySem.boot_len (pa_cons (pv 17) pa_nil))))) (pv 17) (nomark _))))) (pss_one ps_never) pss_nil))))) pss_nil)))))))
      (pss_one (ps_ret (pe_cmpR (op_eqD hr.units) (pe_callN GP hr (by rfl) mP kP bP pass0 (pa_cons (pv 8) (pa_cons (pv 9) (pa_cons (pv 10) pa_nil))) (pk_cons (pv 5) pk_nil))
        (pe_callTy call_tuple_of (by rfl) T.n_tuple boot_tuple (pa_cons (pv 12) pa_nil)) (nomark _)))))))), ?_⟩
    have enil : ∀ x : Str, 1 ≤ x.length → x ≠ Str.ofString "" := fun x hx z => by
      rw [z] at hx
      exact absurd hx (by decide +kernel)
    -- the other name and its place
    refine ⟨fun v H2 => ∃ t tail, v = .ref t ∧ SameP p H H2 ∧ PotAt H2 p ∧ H2 t = some (.tup [.str (othS tail), .int (othI tail)]) ∧ ∀ o t, tail = some (o, t) → o = b ∧ 0 ≤ t ∧ t < n, ?_, ?_⟩
    · refine ⟨_, rfl, p, 2, rfl, hp, by decide, by decide, fun H1 v s1 hp1 v0 v1 => ⟨rfl, _, rfl, ite2 (fun e => ?_) fun e => ?_⟩⟩
      · refine ⟨_, rfl, nl, _, 1, .str b, rfl, rfl, SqL.of (s1 _ _ nlp hnl), rfl, _, rfl, _, rfl, p, (n : Int), rfl, hp1, by omega, by omega, fun H2 t s2 hp2 t0 t1 => ⟨(by show 2 ≤ sizeLine; decide), fun tt nt => ?_⟩⟩
        refine ⟨tt, some (b, t), rfl, (s1.trans s2).new nt, hp2.keep (same_new nt), upd_same, fun o t' h => ?_⟩
        obtain ⟨rfl, rfl⟩ := Prod.mk.inj (Option.some.inj h)
        exact ⟨rfl, t0, t1⟩
      · refine ⟨(by show 2 ≤ sizeLine; decide), fun tt nt => ?_⟩
        exact ⟨tt, none, rfl, s1.new nt, hp1.keep (same_new nt), upd_same, fun o t h => by cases h⟩
    rintro _ H2 ⟨t0, tail, rfl, s2, hp2, ht0, hob⟩
    refine ⟨t0, _, rfl, SqT.of ht0, rfl, .str (othS tail), [.int (othI tail)], rfl, .int (othI tail), [], rfl, rfl, ?_⟩
    have ho : ∀ o t, tail = some (o, t) → o ≠ a ∧ 0 ≤ t ∧ t < n := fun o t h => by
      obtain ⟨h1, h2, h3⟩ := hob o t h
      exact ⟨by rw [h1]; exact fun z => hab z.symm, h2, h3⟩
    have ho2 : ∀ o t, tail = some (o, t) → o ≠ a ∧ ¬ o.cps.toList < a.cps.toList ∧ o ≠ Str.ofString "" := fun o t h => by
      obtain ⟨h1, _, _⟩ := hob o t h
      refine ⟨by rw [h1]; exact fun z => hab z.symm, ?_, by rw [h1]; exact enil b hb1⟩
      rw [h1]
      rw [PyProof.Rows.ltCps_eq] at hlt
      exact of_decide_eq_false hlt
    -- the ring
    have hnl2 := s2 _ _ nlp hnl
    refine ⟨_, rfl, _, rfl, _, rfl, nl, _, 0, .str a, rfl, rfl, SqL.of hnl2, rfl, _, rfl, _, rfl, _, rfl, p, n, a, far, tail, rfl, hp2, h0, by omega, ho2, fun H3 r wb wd s3 hp3 hr3 hW => ?_⟩
    refine ⟨r, [.ref wb, .ref wd], rfl, SqT.of hr3, rfl, .ref wb, [.ref wd], rfl, .ref wd, [], rfl, rfl, ?_⟩
    have s03 := s2.trans s3
    have hnl3 := s03 _ _ nlp hnl
    -- the word
    refine ⟨_, rfl, nl, _, 0, .str a, rfl, rfl, SqL.of hnl3, rfl, (by show 1 ≤ sizeLine; decide), fun t1 nt1 => ⟨_, rfl, rep_join (K := K) (x := .str a) (k := m) (SqT.of upd_same) (by omega) fun H4 u1 s4 e4 => ?_⟩⟩
    have s34 := (same_new (o := .tup [.str a]) nt1).trans s4
    refine ⟨_, rfl, (by show 1 ≤ sizeLine; decide), fun t2 nt2 => ⟨_, rfl, rfl, .inr ⟨_, rfl, ?_⟩⟩⟩
    refine rep_join' (K := K) (x := .str (othS tail)) (if tail.isSome = true then 1 else 0) ?_ (SqT.of upd_same) (by split <;> decide) fun H5 u2 s5 e5 => ?_
    · cases tail with
      | none => rfl
      | some ot =>
        obtain ⟨o, t⟩ := ot
        have := (ho2 o t rfl).2.2
        show (if (!decide (V.str o = V.str (Str.ofString ""))) = true then (1 : Int) else 0) = 1
        rw [decide_eq_false (fun z => this (V.str.inj z))]
        rfl
    have s45 := (same_new (o := .tup [.str (othS tail)]) nt2).trans s5
    have hwlen : (wordOf m a tail).length ≤ 12 := by
      cases tail with
      | none => rw [word_len0]; omega
      | some ot => obtain ⟨o, t⟩ := ot; rw [word_len1]; omega
    have eword : List.replicate m (V.str a) ++ List.replicate (if tail.isSome = true then 1 else 0) (V.str (othS tail)) = (wordOf m a tail).map V.str := by
      unfold wordOf
      rw [List.map_append, List.map_replicate]
      congr 1
      cases tail with
      | none => rfl
      | some ot => rfl
    refine catA_join (K := K) (Same.tupT s45 e4) e5 (Nat.le_of_lt (small1000 ?_)) fun H6 wo s6 e6 => ?_
    · rw [List.length_replicate, List.length_replicate]
      have : (if tail.isSome = true then 1 else 0) ≤ 1 := by split <;> decide
      omega
    rw [eword] at e6
    have s36 := s34.trans (s45.trans s6)
    have hp6 := hp3.keep s36
    have s06 := s03.trans (Same.p s36)
    have hW6 := hW.keep s36
    have hG6 := hG.play s06 hp
    -- the ends
    refine ⟨fun v H' => ∃ el, v = .ref el ∧ Same H6 H' ∧ H6 el = none ∧ H' el = some (.lst (es.map V.int)), ?_, ?_⟩
    · refine ⟨_, rfl, _, rfl, ite2 (fun e => ?_) fun e => ?_⟩
      · have e := of_decide_eq_true e
        rcases hG6 with ⟨_, rfl⟩ | ⟨ga, rfl, _⟩
        · refine ⟨_, rfl, (n : Int), rfl, .of_le (by omega) (by omega) (by omega) (by omega), fun t nt => ⟨t, rfl, same_new nt, nt, ?_⟩⟩
          rw [upd_same]
          unfold rgV
          rw [List.map_map, show ((n : Int) - 0).toNat = n by omega]
          congr 3
          funext i
          show V.int (0 + (i : Int)) = V.int (i : Int)
          rw [Int.zero_add]
        · cases e
      · rcases hG6 with ⟨rfl, _⟩ | ⟨ga, rfl, hga⟩
        · exact absurd (decide_eq_true rfl) e
        · exact ⟨_, rfl, ga, _, rfl, .inr hga, fun l nl' => ⟨l, rfl, same_new nl', nl', upd_same⟩⟩
    rintro _ Hb ⟨el, rfl, s7, nel, hel7⟩
    refine ⟨Nat.zero_le _, fun fo nfo => ⟨_, _, rfl, ?_⟩⟩
    have sHb := s06.trans (Same.p s7)
    have hpb := hp6.keep s7
    have hWb := hW6.keep s7
    have hGb := hG6.keep s7
    have hTb : SqT K Hb wo ((wordOf m a tail).map V.str) := Same.tupT s7 e6
    have hnlb := sHb _ _ nlp hnl
    have nep : ∀ (b : Addr) (H' : Hp), PotAt H' p → H' b = none → b ≠ p := fun b H' h nb z => by
      obtain ⟨_, _, e⟩ := h
      rw [z, e] at nb
      cases nb
    have elp : el ≠ p := nep el H6 hp6 nel
    have fop : fo ≠ p := nep fo Hb hpb nfo
    have eUl : (univ n (wordOf m a tail).length).length ≤ 1000 := by
      rw [univ_len]
      exact Nat.le_trans (Nat.mul_le_mul hn (Nat.succ_le_succ hwlen)) (by decide)
    have hU := ring_U (n := n) (m := m) (far := far) (nm := a) (tail := tail) (es := es) ho he
    have hB := ring_B (n := n) (m := m) (far := far) (nm := a) (tail := tail) (es := es) h0 ho he
    have hM := fun (c : Int) (w d : Nat) (h1 : 0 ≤ c) (h2 : c < n) (h3 : w ≤ (wordOf m a tail).length) => ring_M (n := n) (m := m) (far := far) (nm := a) (tail := tail) (es := es) (d := d) h0 ho h1 h2 h3
    have hrow := fun (d k : Nat) (S : List Stp) hk hS => row_names (n := n) (m := m) (far := far) (nm := a) (tail := tail) (es := es) (d := d) (k := k) (S := S) ho hk hS
    have sF : SameP p Hb (upd Hb fo (.lst [])) := (SameP.refl p Hb).new nfo
    have pF : PotAt (upd Hb fo (.lst [])) p := hpb.keep (same_new nfo)
    have fF : SpotsAt (upd Hb fo (.lst [])) fo [] := SpotsAt.nil upd_same
    generalize upd Hb fo (.lst []) = H8 at sF pF fF
    clear hG6 hW6 hp6 e6 e5 e4 hnl3 hnl2 hW hr3 s3 hp3 hp2 ht0
    have hnb : ∀ x : Str, tail = some (x, othI tail) → x ≠ Str.ofString "" := fun x h => (ho2 x _ h).2.2
    generalize hl : wordOf m a tail = ws at *
    -- the crossings
    refine ⟨_, rfl, (n : Int), rfl, by omega, by omega, ?_⟩
    rw [Int.toNat_natCast]
    refine for_range (lo := 0) (n := n) (fun i σ H' => ∃ x13 x14 x15 x16 x17, σ = [some (.ref p), some (.int (n : Int)), some (.int far), some (.int (m : Int)), some (.ref nl), some g, some (.str (othS tail)), some (.int (othI tail)), some (.ref wb), some (.ref wd), some (.ref wo), some (.ref el), some (.ref fo), x13, x14, x15, x16, x17] ∧
      SameP p Hb H' ∧ PotAt H' p ∧ SpotsAt H' fo (duesP ws.length (due n far m (fun c => decide (c ∈ es)) (tail.map (·.2))) i)) ⟨none, none, none, none, none, rfl, sF, pF, fF⟩ (fun i σ H9 hi hP => ?_) fun σ H9 hP => ?_
    · obtain ⟨x13, x14, x15, x16, x17, rfl, s9, p9, f9⟩ := hP
      have e0 : (0 : Int) + (i : Nat) = ((i : Nat) : Int) := by omega
      rw [e0]
      have el1 : ((ws.map V.str).length : Int) + 1 = ((ws.length + 1 : Nat) : Int) := by
        rw [List.length_map]
        omega
      refine ⟨_, rfl, wo, _, rfl, .inr (s9.tupT hpb hTb), _, 1, rfl, rfl, _, rfl, by rw [el1]; omega, by rw [el1]; omega, ?_⟩
      rw [el1, Int.toNat_natCast]
      refine for_range (lo := 0) (n := ws.length + 1) (fun j σ H' => ∃ x14 x15 x16 x17, σ = [some (.ref p), some (.int (n : Int)), some (.int far), some (.int (m : Int)), some (.ref nl), some g, some (.str (othS tail)), some (.int (othI tail)), some (.ref wb), some (.ref wd), some (.ref wo), some (.ref el), some (.ref fo), some (.int (i : Int)), x14, x15, x16, x17] ∧
        SameP p Hb H' ∧ PotAt H' p ∧ SpotsAt H' fo (duesP ws.length (due n far m (fun c => decide (c ∈ es)) (tail.map (·.2))) i ++ duesQ (due n far m (fun c => decide (c ∈ es)) (tail.map (·.2))) i j)) ⟨x14, x15, x16, x17, rfl, s9, p9, ?_⟩ (fun j σ H' hj hP => ?_) fun σ H' hP => ?_
      · show SpotsAt H9 fo (_ ++ [])
        rw [List.append_nil]
        exact f9
      · obtain ⟨x14, x15, x16, x17, rfl, sA, pA, fA⟩ := hP
        have e1 : (0 : Int) + (j : Nat) = ((j : Nat) : Int) := by omega
        rw [e1]
        have hjw : j ≤ ws.length := by omega
        -- what is due
        refine ⟨_, rfl, _, rfl, _, rfl, _, rfl, _, rfl, _, rfl, fun v H'' => v = optI (tail.map (·.2)) ∧ H'' = H', ?_, ?_⟩
        · refine ⟨_, rfl, rfl, _, rfl, ?_⟩
          cases tail with
          | none => exact ⟨rfl, rfl⟩
          | some ot =>
            obtain ⟨o, t⟩ := ot
            have := (ho2 o t rfl).2.2
            have eb : (!decide (V.str (othS (some (o, t))) = V.str (Str.ofString ""))) = true := by
              show (!decide (V.str o = V.str (Str.ofString ""))) = true
              rw [decide_eq_false (fun z => this (V.str.inj z))]
              rfl
            exact (if_pos eb).mpr ⟨_, rfl, rfl, rfl⟩
        rintro _ _ ⟨rfl, rfl⟩
        refine ⟨n, m, j, far, (i : Int), el, es, tail.map (·.2), rfl, SqL.of (sA _ _ elp hel7), h0, by omega, by omega, f0, by omega, by omega, fun HB sB => ?_⟩
        have sAB := sA.trans (Same.p sB)
        have pB := pA.keep sB
        have fB := fA.keep sB
        have hMo := fun d => hM (i : Int) j d (by omega) (by omega) hjw
        have hdt := fun d (h : due n far m (fun c => decide (c ∈ es)) (tail.map (·.2)) (i : Int) j = some d) => h
        rw [duesQ_succ]
        have hS0 : (duesP ws.length (due n far m (fun c => decide (c ∈ es)) (tail.map (·.2))) i ++ duesQ (due n far m (fun c => decide (c ∈ es)) (tail.map (·.2))) i j).length ≤ 1000 := by
          have hPl := duesP_len (l := ws.length) (f := due n far m (fun c => decide (c ∈ es)) (tail.map (·.2))) i
          have hQl := duesQ_len (f := due n far m (fun c => decide (c ∈ es)) (tail.map (·.2))) (i := i) (w := j)
          have h3 : i * (ws.length + 1) ≤ 40 * 13 := Nat.mul_le_mul (by omega) (by omega)
          rw [List.length_append]
          omega
        rw [← List.append_assoc]
        generalize duesP ws.length (due n far m (fun c => decide (c ∈ es)) (tail.map (·.2))) i ++ duesQ (due n far m (fun c => decide (c ∈ es)) (tail.map (·.2))) i j = S0 at *
        generalize hdue : due n far m (fun c => decide (c ∈ es)) (tail.map (·.2)) (i : Int) j = o at *
        -- found
        refine ⟨fun σ' H'' => σ' = [some (.ref p), some (.int (n : Int)), some (.int far), some (.int (m : Int)), some (.ref nl), some g, some (.str (othS tail)), some (.int (othI tail)), some (.ref wb), some (.ref wd), some (.ref wo), some (.ref el), some (.ref fo), some (.int (i : Int)), some (.int (j : Int)), some (optV o), x16, x17] ∧
          SameP p Hb H'' ∧ PotAt H'' p ∧ SpotsAt H'' fo (S0 ++ (if o.isSome = true then [((i : Int), j)] else [])), ?_, ?_⟩
        · refine ⟨_, rfl, _, rfl, ?_⟩
          cases o with
          | none =>
            refine ⟨rfl, sAB, pB, ?_⟩
            show SpotsAt HB fo (S0 ++ [])
            rw [List.append_nil]
            exact fB
          | some d =>
            obtain ⟨xs, hx, hxl⟩ := fB.lst
            refine ⟨_, rfl, .inl ⟨rfl, _, SqL.of hx⟩, _, rfl, _, rfl, (by show 2 ≤ sizeLine; decide), fun t nt => ?_⟩
            have st := same_new (o := .tup [.int (i : Int), .int (j : Int)]) nt
            refine ⟨fo, xs, .ref t, rfl, rfl, st _ _ hx, small1000 (by rw [hxl]; exact hS0), rfl, ?_, ?_, ?_⟩
            · intro b' o' nb hb'
              rw [upd_ne (ne_of_none hb' nfo)]
              exact (sAB.trans (Same.p st)) b' o' nb hb'
            · obtain ⟨g', x', e'⟩ := pB.keep st
              exact ⟨g', x', by rw [upd_ne fop.symm]; exact e'⟩
            · exact (fB.keep st).snoc (st _ _ hx) (by rw [upd_same]; rfl)
        rintro _ HC ⟨rfl, sC, pC, fC⟩
        generalize S0 ++ (if o.isSome = true then [((i : Int), j)] else []) = S1 at fC ⊢
        -- a walk now and then
        refine ⟨_, rfl, p, 12, rfl, pC, by decide, by decide, fun HD v sD pD v0 v1 => ⟨rfl, _, rfl, ite2 (fun e => ?_) fun e => ?_⟩⟩
        · have fD := fC.play sD pC fop
          have sCD := sC.trans sD
          refine ⟨_, rfl, _, rfl, _, rfl, _, rfl, _, rfl, _, rfl, rfl, rfl, wb, wd, wo, g, n, ringL n far a tail, ws, es, univ n ws.length, m + n + 1, (i : Int), j, rfl, hWb.play sCD hpb, sCD.tupT hpb hTb, by omega, hGb.play sCD hpb, by omega, by omega, hU, eUl, hB, by omega, fun HE sE no => ?_, fun HE t d S sE hMd hWk hSd hok2 => ?_⟩
          · -- none
            have on : o = none := by
              cases o with
              | none => rfl
              | some d => exact absurd ((hMo d).mpr rfl) (no d)
            subst on
            have sCE := sCD.trans (Same.p sE)
            have pE := pD.keep sE
            have fE := fD.keep sE
            refine ⟨_, rfl, _, rfl, _, rfl, rfl, _, rfl, ?_⟩
            refine ⟨_, rfl, nl, _, 0, .str a, rfl, rfl, SqL.of (sCE _ _ nlp hnlb), rfl, (by show 1 ≤ sizeLine; decide), fun t1 nt1 => ⟨_, rfl, _, rfl, ?_⟩⟩
            refine (if_pos rfl).mpr (tC_ok ?_)
            refine rep_join' (K := K) (x := .str a) 0 rfl (SqT.of upd_same) (by omega) fun HF u sF' eF => ?_
            have sEF := (same_new (o := .tup [.str a]) nt1).trans sF'
            exact ⟨_, rfl, _, rfl, _, _, _, _, rfl, sCE.trans (Same.p sEF), pE.keep sEF, fE.keep sEF⟩
          · -- a walk
            have od : o = some d := (hMo d).mp hMd
            subst od
            obtain ⟨ts, hts, htl, hte⟩ := hWk
            have sCE := sCD.trans (Same.p sE)
            have pE := pD.keep sE
            have fE := fD.keep sE
            have hd1 := hB _ _ _ hMd
            refine ⟨_, rfl, _, rfl, _, rfl, t, _, rfl, .inr hts, _, rfl, rfl, _, rfl, ite2 (fun e => ?_) fun e => ?_⟩
            · exfalso
              have e : (!decide (V.int ((ts.map V.ref).length : Int) = V.int (d : Int))) = true := e
              rw [List.length_map, htl, hSd, decide_eq_true rfl] at e
              cases e
            -- how many names
            have hkd : (tail.isSome && decide (j ≤ m)) = true → 1 ≤ d := fun hk => by
              cases tail with
              | none => cases hk
              | some ot => exact due_pos hdue (of_decide_eq_true hk)
            obtain ⟨kk, ekk⟩ : ∃ kk, kk = d - (if (tail.isSome && decide (j ≤ m)) = true then 1 else 0) := ⟨_, rfl⟩
            have hnm : ∀ (i' : Nat) (s : Stp), i' < kk → S[i']? = some s → ws[s.1]? = some a := fun i' s hi' hs => by
              refine hrow d kk S ?_ hok2 i' s hi' hs
              cases tail with
              | none => exact .inr ⟨rfl, by rw [ekk]; exact Nat.sub_le ..⟩
              | some ot =>
                left
                by_cases hjm : j ≤ m
                · have hk : ((some ot).isSome && decide (j ≤ m)) = true := decide_eq_true hjm
                  have h1 := hkd hk
                  rw [ekk, if_pos hk, if_pos (show (some ot).isSome = true from rfl)]
                  omega
                · exfalso
                  have := due_top hdue (by omega)
                  omega
            have hkd2 : kk ≤ d := by
              rw [ekk]
              exact Nat.sub_le ..
            have hki : ((ts.map V.ref).length : Int) - (if (tail.isSome && decide (j ≤ m)) = true then (1 : Int) else 0) = (kk : Int) := by
              rw [List.length_map, htl, hSd, ekk]
              by_cases hk : (tail.isSome && decide (j ≤ m)) = true
              · have h1 := hkd hk
                rw [if_pos hk, if_pos hk]
                omega
              · rw [if_neg hk, if_neg hk]
                omega
            -- the names behind
            refine ⟨_, rfl, nl, _, 0, .str a, rfl, rfl, SqL.of (sCE _ _ nlp hnlb), rfl, (by show 1 ≤ sizeLine; decide), fun t1 nt1 => ⟨_, rfl, _, rfl, ?_⟩⟩
            have st1 := same_new (o := .tup [.str a]) nt1
            refine ⟨_, rfl, t, _, rfl, .inr (Same.tupT st1 hts), fun v H'' => v = .bl (tail.isSome && decide (j ≤ m)) ∧ H'' = upd HE t1 (.tup [.str a]), ?_, ?_⟩
            · refine ⟨_, rfl, rfl, _, rfl, ?_⟩
              cases tail with
              | none => exact ⟨rfl, rfl⟩
              | some ot =>
                obtain ⟨o, t'⟩ := ot
                have := (ho2 o t' rfl).2.2
                have eb : (!decide (V.str (othS (some (o, t'))) = V.str (Str.ofString ""))) = true := by
                  show (!decide (V.str o = V.str (Str.ofString ""))) = true
                  rw [decide_eq_false (fun z => this (V.str.inj z))]
                  rfl
                refine (if_pos eb).mpr ⟨_, rfl, _, rfl, _, _, rfl, rfl, ?_, rfl⟩
                have : decide ((j : Int) ≤ (m : Int)) = decide (j ≤ m) := decide_eq_decide.mpr ⟨fun h => by omega, fun h => by omega⟩
                show V.bl (decide ((j : Int) ≤ (m : Int))) = _
                rw [this]
                rfl
            rintro _ _ ⟨rfl, rfl⟩
            refine .inr ⟨_, rfl, _, _, rfl, rfl, ?_⟩
            refine rep_join' (K := K) (x := .str a) kk hki (SqT.of upd_same) (by omega) fun HF u sF' eF => ?_
            have sEF := st1.trans sF'
            -- the row
            refine ⟨_, rfl, _, rfl, ?_⟩
            obtain ⟨rs, ers⟩ : ∃ rs : List Str, rs = S.map fun s => (ws[s.1]?).getD a := ⟨_, rfl⟩
            have hrl : rs.length = S.length := by rw [ers, List.length_map]
            have hra : ∀ (i' : Nat) (s : Stp), S[i']? = some s → ws[s.1]? = rs[i']? := fun i' s hs => by
              rw [ers, List.getElem?_map, hs]
              have := (hok2 i' s hs).1
              show ws[s.1]? = some ((ws[s.1]?).getD a)
              rw [List.getElem?_eq_getElem this]
              rfl
            have htk : (rs.map V.str).take kk = List.replicate kk (V.str a) := by
              refine List.eq_replicate_iff.mpr ⟨by rw [List.length_take, List.length_map, hrl]; omega, fun x hx => ?_⟩
              obtain ⟨i', hi'⟩ := List.mem_iff_getElem?.mp hx
              have hlt' : i' < kk := by
                have := (List.getElem?_eq_some_iff.mp hi').1
                rw [List.length_take] at this
                omega
              rw [List.getElem?_take_of_lt hlt', List.getElem?_map] at hi'
              obtain ⟨z, hz, rfl⟩ := Option.map_eq_some_iff.mp hi'
              have hiS : i' < S.length := by
                rw [← hrl]
                exact (List.getElem?_eq_some_iff.mp hz).1
              have gS : S[i']? = some S[i'] := List.getElem?_eq_getElem hiS
              have h1 := hra i' _ gS
              rw [hnm i' _ hlt' gS, hz] at h1
              exact congrArg V.str (Option.some.inj h1).symm
            have hxl : (rs.map V.str).length = d := by rw [List.length_map, hrl, hSd]
            have hte2 : WalkAt K HF t S := ⟨ts, Same.tupT sEF hts, htl, fun j' t' s' h1 h2 => sEF _ _ (hte j' t' s' h1 h2)⟩
            refine ⟨fun v H'' => ∃ t', v = .ref t' ∧ SqT K H'' t' (List.replicate kk (.str a)) ∧ Same HF H'', ?_, ?_⟩
            · refine ⟨_, rfl, _, rfl, wo, t, ws, S, rs, rfl, ((sCE.trans (Same.p sEF)).tupT hpb hTb), hte2, by omega, hrl, hra, fun HG ro sG eG => ?_⟩
              refine ⟨_, rfl, u, _, rfl, .inr (Same.tupT sG eF), _, rfl, ro, _, rfl, SqT.of eG, fun wh => ?_, fun nw t2 nt2 => ?_⟩
              · refine ⟨ro, rfl, ?_, sG⟩
                have h2 := wh.2
                rw [HT.sIx_nat, List.length_replicate, hxl] at h2
                have ek : kk = d := by omega
                rw [← htk, List.take_of_length_le (by rw [hxl, ek]; exact Nat.le_refl _)]
                exact SqT.of eG
              · refine ⟨t2, rfl, SqT.of ?_, sG.trans (same_new nt2)⟩
                rw [upd_same]
                unfold cutV
                rw [HT.sIx_none, HT.sIx_nat, List.length_replicate, hxl, List.drop_zero, Nat.sub_zero]
                rw [show min kk d = kk by omega, htk]
            rintro _ HG ⟨t', rfl, eT, sG⟩
            refine ⟨_, rfl, .tuple (List.replicate kk (.str a)), .tuple (List.replicate kk (.str a)), dp_rep eT, dp_rep (Same.tupT sG eF), shaped_rep hok kk, shaped_rep hok kk, _, rfl, ite2 (fun e => ?_) fun e => ?_⟩
            · exfalso
              have e : (!PyData.eqv (.tuple (List.replicate kk (.str a))) (.tuple (List.replicate kk (.str a)))) = true := e
              rw [eqv_rep hok kk] at e
              cases e
            · have sEG := sEF.trans sG
              exact ⟨_, _, _, _, rfl, sCE.trans (Same.p sEG), pE.keep sEG, fE.keep sEG⟩
        · exact ⟨_, _, _, _, rfl, sC.trans sD, pD, fC.play sD pC fop⟩
      · obtain ⟨x14, x15, x16, x17, rfl, sA, pA, fA⟩ := hP
        refine ⟨_, _, _, _, _, rfl, sA, pA, ?_⟩
        rw [duesP_succ]
        exact fA
    · obtain ⟨x13, x14, x15, x16, x17, rfl, s9, p9, f9⟩ := hP
      refine ⟨_, rfl, _, rfl, _, rfl, _, rfl, rfl, rfl, wb, wd, wo, g, n, ringL n far a tail, ws, es, univ n ws.length, m + n + 1, rfl, hWb.play s9 hpb, s9.tupT hpb hTb, by omega, hGb.play s9 hpb, by omega, by omega, hU, eUl, hB, fun HE t S sE hS hord hmem => ?_⟩
      have eS : S = duesP ws.length (due n far m (fun c => decide (c ∈ es)) (tail.map (·.2))) n := by
        refine spots_eq hord (dues_order (n := n) (l := ws.length)) fun x => ?_
        refine Iff.trans (hmem x) ?_
        refine Iff.trans ?_ (mem_dues (n := n) (l := ws.length) (f := due n far m (fun c => decide (c ∈ es)) (tail.map (·.2)))).symm
        constructor
        · rintro ⟨k, hk⟩
          have h1 := mem_univ.mp (hU _ _ _ hk)
          exact ⟨h1, k, (hM _ _ _ h1.1 h1.2.1 h1.2.2).mp hk⟩
        · rintro ⟨h1, k, hk⟩
          exact ⟨k, (hM _ _ _ h1.1 h1.2.1 h1.2.2).mpr hk⟩
      have fE := f9.keep sE
      obtain ⟨ts, h1, h2, h3⟩ := fE
      refine ⟨_, rfl, fo, _, rfl, .inl ⟨SqL.of h1, fun t2 nt2 => ?_⟩⟩
      have st2 := same_new (o := .tup (ts.map V.ref)) nt2
      have hS2 : TupsAt (upd HE t2 (.tup (ts.map V.ref))) t2 S := ⟨ts, upd_same, by rw [eS]; exact h2, fun j t' s' g1 g2 => st2 _ _ (h3 j t' s' g1 (by rw [← eS]; exact g2))⟩
      refine ⟨.tuple (S.map spotD), .tuple (S.map spotD), dp_spots (hS.keep st2), dp_spots hS2, shaped_spots S, shaped_spots S, ?_⟩
      have := q _ (sHb.trans (s9.trans (Same.p (sE.trans st2))))
      rw [← eqv_spots S] at this
      exact this
end
end Rg
/-! law -/
namespace Rg
open PySem PySem.Spec PyProof.Rows L2
theorem same_of_play {p : Addr} {H H' H'' : Hp} (s : Same H H') (h : H p = none) (t : SameP p H' H'') : Same H H'' := fun b o e => t b o (ne_of_none e h) (s b o e)
def spLaw (K : PySem.W.Frag) : Sp := fun vs H Q _ => ∃ (a : Addr) (ns : List Int), vs = [.ref a] ∧ SqL K H a (ns.map V.int) ∧ ns.length ≤ 63 ∧ ∀ H', Q (.bl true) H'
section
variable {P : Program} {w : World} {K : PySem.W.Frag} {mg : Str → Option Value} {base : Heap}
theorem scLaw : FnScope ["_law_script", "_law_k", "_law_pot_here", "_law_n", "_law_names_here"] ["_law_script"] (defScope s_law) := ⟨rfl, rfl, rfl, by decide +kernel, rfl, by decide +kernel, by decide +kernel⟩
theorem ok_law (T : Fs K mg) {f : Addr} {fd : FuncData} (F : Fun K "law" "law" s_law f fd) : FnOk P w K mg base CX0 8 f fd ["_law_script"] (spLaw K) := by
  obtain ⟨fP, fdP, mP, kP, bP, GP⟩ := ok_pot (P := P) (w := w) (base := base) T
  obtain ⟨fO, fdO, mO, kO, bO, GO⟩ := ok_of (P := P) (w := w) (base := base) T
  obtain ⟨fN, fdN, mN, kN, bN, GN⟩ := ok_names (P := P) (w := w) (base := base) T
  obtain ⟨fR, fdR, mR, kR, bR, GR⟩ := ok_right (P := P) (w := w) (base := base) T
  obtain ⟨fT, fdT, mT, kT, bT, GT⟩ := ok_take (P := P) (w := w) (base := base) T
  obtain ⟨fG, fdG, mG, kG, bG, GG⟩ := ok_goals (P := P) (w := w) (base := base) T
  refine F.ok scLaw (fun vs H Q E h => ?_) (fun cdv A outer s H vs Q E hr h => ?_)
  · obtain ⟨_, _, rfl, _⟩ := h
    rfl
  · obtain ⟨a, ns, rfl, hS, hlen, q⟩ := h
    have hr1 := hr.mono (show 1 ≤ 7 by decide)
    have hr2 := hr.mono (show 2 ≤ 7 by decide)
    have hr3 := hr.mono (show 3 ≤ 7 by decide)
    refine ⟨_, pss_cons (ps_for PassesOwn.never rfl (pi_range1 (by rfl) T.n_range (pa_cons (pe_callB (call_max2 rfl) (by rfl) T.n_max (by decide +kernel) (pa_cons pe_int (pa_cons
          (pe_callB (call_min2 rfl) (by rfl) T.n_min (by decide +kernel) (pa_cons pe_int (pa_cons (pe_callB call_len_seq (by rfl) T.n_len PySem.boot_len (pa_cons (pv 0) pa_nil)) pa_nil))) pa_nil))) pa_nil))
        (pg_name (i := 1) scLaw.nd rfl (.inl rfl))
        (pss_cons (ps_set (i := 2) scLaw.nd rfl (.inl rfl) (pe_call GP hr1 (by rfl) mP kP bP .nil pass0 (pa_cons (pv 0) (pa_cons (pv 1) pa_nil))))
        (pss_cons (ps_par (i := 3) (j := 4) (by rfl) scLaw.nd rfl rfl (by decide) rfl rfl
            (pa_cons (pe_call GO hr2 (by rfl) mO kO bO .nil pass0 (pa_cons (pv 2) (pa_cons (pe_lst (pa_cons pe_int (pa_cons pe_int (pa_cons pe_int (pa_cons pe_int (pa_cons pe_int (pa_cons pe_int (pa_cons pe_int (pa_cons pe_int pa_nil))))))))) pa_nil)))
              (pa_cons (pe_call GN hr3 (by rfl) mN kN bN .nil pass0 (pa_cons (pv 2) (pa_cons pe_int pa_nil))) pa_nil)) (by rfl))
        (pss_one (ps_if (pt_not (pt_val (pe_call GR hr (by rfl) mR kR bR .nil pass0 (pa_cons (pv 2) (pa_cons (pv 3) (pa_cons
            (pe_call GT hr1 (by rfl) mT kT bT .nil pass0 (pa_cons (pv 2) (pa_cons (pe_op op_add (pv 3) pe_int) pa_nil))) (pa_cons
            (pe_call GT hr1 (by rfl) mT kT bT .nil pass0 (pa_cons (pv 2) (pa_cons pe_int pa_nil))) (pa_cons (pv 4) (pa_cons
            (pe_call GG hr2 (by rfl) mG kG bG .nil pass0 (pa_cons (pv 2) (pa_cons (pv 3) pa_nil))) pa_nil)))))))))
          (pss_one ps_never) pss_nil)))))
      (pss_one (ps_ret pe_bl)), ?_⟩
    have hb : ∀ L : Int, 0 ≤ L → L ≤ 63 → 1 ≤ (if (if L < 3 then L else 3) > 1 then (if L < 3 then L else 3) else 1) ∧ (if (if L < 3 then L else 3) > 1 then (if L < 3 then L else 3) else 1) ≤ 3 := fun L h0 h1 => by
      by_cases z : L < 3
      · rw [if_pos z]
        by_cases y : L > 1
        · rw [if_pos y]; omega
        · rw [if_neg y]; omega
      · rw [if_neg z]
        decide
    have hL := hb ((ns.map V.int).length : Int) (by omega) (by rw [List.length_map]; omega)
    refine ⟨_, rfl, a, _, rfl, .inl hS, 3, _, rfl, 1, _, rfl, _, rfl, by omega, by omega, ?_⟩
    generalize hn : Int.toNat _ = r
    have hr4 : r ≤ 3 := by omega
    refine for_range (lo := 0) (n := r) (fun i σ H' => ∃ x1 x2 x3 x4, σ = [some (.ref a), x1, x2, x3, x4] ∧ Same H H') ⟨none, none, none, none, rfl, Same.refl H⟩ (fun i σ H1 hi hP => ?_) fun σ H1 hP => ?_
    · obtain ⟨x1, x2, x3, x4, rfl, s1⟩ := hP
      have e0 : (0 : Int) + (i : Nat) = ((i : Nat) : Int) := by omega
      rw [e0]
      have nep : ∀ (b p : Addr) (H' : Hp), PotAt H' p → H' b = none → b ≠ p := fun b p H' h nb z => by
        obtain ⟨_, _, e⟩ := h
        rw [z, e] at nb
        cases nb
      -- the pot
      refine ⟨_, rfl, _, rfl, a, ns, i, rfl, s1.seq hS, by omega, fun H2 p s2 np hp2 => ?_⟩
      -- how many crossings
      refine ⟨_, rfl, (by show 8 ≤ sizeLine; decide), fun l nl => ?_⟩
      have st := same_new (o := .lst [.int 1, .int 2, .int 3, .int 6, .int 7, .int 12, .int 25, .int 40]) nl
      refine ⟨p, l, _, rfl, hp2.keep st, upd_same, nep l p H2 hp2 nl, (by show 0 < 8; decide), (by show 8 ≤ 1000; decide), fun H3 v s3 hp3 hv => ?_⟩
      obtain ⟨n, rfl, n0, n1⟩ : ∃ n : Nat, v = .int (n : Int) ∧ 0 < n ∧ n ≤ 40 := by
        simp only [List.mem_cons, List.not_mem_nil, or_false] at hv
        rcases hv with h | h | h | h | h | h | h | h
        · exact ⟨1, h, by decide, by decide⟩
        · exact ⟨2, h, by decide, by decide⟩
        · exact ⟨3, h, by decide, by decide⟩
        · exact ⟨6, h, by decide, by decide⟩
        · exact ⟨7, h, by decide, by decide⟩
        · exact ⟨12, h, by decide, by decide⟩
        · exact ⟨25, h, by decide, by decide⟩
        · exact ⟨40, h, by decide, by decide⟩
      have t3 : SameP p H2 H3 := (Same.p st).trans s3
      -- the names
      refine ⟨_, rfl, p, rfl, hp3, fun H4 nl' x y s4 hp4 nn hnl hxy hlt hx hy _ _ okx oky => ⟨_, _, rfl, ?_⟩⟩
      have nlp : nl' ≠ p := nep nl' p H3 hp3 nn
      -- the rest
      refine ⟨_, rfl, _, rfl, _, rfl, _, rfl, _, _, rfl, rfl, p, _, rfl, hp4, by omega, by omega, fun H5 far s5 hp5 f0 f1 => ?_⟩
      refine ⟨_, rfl, p, _, rfl, hp5, by decide, by decide, fun H6 m s6 hp6 m0 m1 => ?_⟩
      obtain ⟨m, rfl⟩ := Int.eq_ofNat_of_zero_le m0
      refine ⟨_, rfl, _, rfl, _, rfl, p, n, rfl, hp6, by omega, fun H7 g es s7 hp7 hG he hel => ?_⟩
      have s47 := (s5.trans s6).trans s7
      refine ⟨p, nl', n, m, far, g, x, y, es, rfl, hp7, n0, n1, f0, by omega, by omega, s47 _ _ nlp hnl, nlp, hxy, hlt, hy, okx, hG, he, hel, fun H8 s8 => ?_⟩
      refine ⟨_, rfl, _, _, _, _, rfl, ?_⟩
      exact s1.trans (same_of_play s2 np (t3.trans (s4.trans (s47.trans s8))))
    · obtain ⟨x1, x2, x3, x4, rfl, s1⟩ := hP
      exact q H1
end
theorem all_law {P : Program} {w : World} {K : PySem.W.Frag} {mg : Str → Option Value} {fa : Addr} (T : Fs K mg) (hfa : mg "law" = some (.ref fa)) : ∃ fd : FuncData, (∀ (s : Shared) (v : Value), BindsTo s fd ⟨[v], []⟩ [("_law_script", v)]) ∧ ∀ base : Heap, K.In base → base.Ns mainGlobals mg → FnOk P w K mg base CX0 8 fa fd ["_law_script"] (spLaw K) := by
  obtain ⟨f, fd, hm, F⟩ := T.law
  have e : f = fa := by
    rw [hm] at hfa
    injection hfa with hfa
    injection hfa
  subst e
  refine ⟨fd, ?_, fun base _ _ => ok_law T F⟩
  obtain ⟨oc, od, kV, doc, pm, an, cdv, ct, osl, rfl, lk, hcd⟩ := F.ex
  exact fun s v => .of_eq rfl
end Rg
section
open PySem PySem.W PyProof.Rows
set_option maxHeartbeats 0 in
theorem PySem.Challenge.cw_woundwalks_k35_whole_round_one_ring_holds : PySem.Challenge.rw_woundwalks_k35_whole_round_one_ring.Holds := by
  w_on; o_law; k_head; (case hw => w_witness2)
  k_fill
  refine L2.walk_of (l := PySem.Challenge.rw_woundwalks_k35_whole_round_one_ring) (n := 63) (k := 8) (x := "_law_script") (CX := fun _ => L2.CX0) (sp := fun w => Rg.spLaw _) rfl (by decide) rfl ⟨rfl, by decide, by decide⟩ (fun w h Y => PySem.W.kIn_of Y) ?F (fun _ _ a ns hl _ hS => ⟨a, ns, rfl, hS, hl, fun _ => rfl⟩) (fun _ _ _ _ _ h => h)
  case F =>
    intro w mg fa h KX G hmg
    refine Rg.all_law (P := PySem.Challenge.rw_woundwalks_k35_whole_round_one_ring.prog) ?T hmg
    refine' Rg.facts_mk KX G ?a0 ?l0 ?c0 ?k0 ?a1 ?l1 ?c1 ?k1 ?a2 ?l2 ?c2 ?k2 ?a3 ?l3 ?c3 ?k3 ?a4 ?l4 ?c4 ?k4 ?a5 ?l5 ?c5 ?k5 ?a6 ?l6 ?c6 ?k6 ?a7 ?l7 ?c7 ?k7 ?a8 ?l8 ?c8 ?k8 ?a9 ?l9 ?c9 ?k9 ?a10 ?l10 ?c10 ?k10 ?a11 ?l11 ?c11 ?k11 ?a12 ?l12 ?c12 ?k12 ?a13 ?l13 ?c13 ?k13 ?a14 ?l14 ?c14 ?k14 ?a15 ?l15 ?c15 ?k15 ?a16 ?l16 ?c16 ?k16 ?a17 ?l17 ?c17 ?k17 ?a18 ?l18 ?c18 ?k18 ?a19 ?l19 ?c19 ?k19 ?a20 ?l20 ?c20 ?k20 ?a21 ?l21 ?c21 ?k21 ?z_isinstance ?z_int ?z_bool ?z_tuple ?z_range ?z_len ?z_zip ?z_sorted ?z_list ?z_set ?z_abs ?z_max ?z_min ?z_dig
    (case a0 => k_is)
    (case l0 => k_is)
    (case c0 => k_is)
    (case k0 => k_is)
    (case a1 => k_is)
    (case l1 => k_is)
    (case c1 => k_is)
    (case k1 => k_is)
    (case a2 => k_is)
    (case l2 => k_is)
    (case c2 => k_is)
    (case k2 => k_is)
    (case a3 => k_is)
    (case l3 => k_is)
    (case c3 => k_is)
    (case k3 => k_is)
    (case a4 => k_is)
    (case l4 => k_is)
    (case c4 => k_is)
    (case k4 => k_is)
    (case a5 => k_is)
    (case l5 => k_is)
    (case c5 => k_is)
    (case k5 => k_is)
    (case a6 => k_is)
    (case l6 => k_is)
    (case c6 => k_is)
    (case k6 => k_is)
    (case a7 => k_is)
    (case l7 => k_is)
    (case c7 => k_is)
    (case k7 => k_is)
    (case a8 => k_is)
    (case l8 => k_is)
    (case c8 => k_is)
    (case k8 => k_is)
    (case a9 => k_is)
    (case l9 => k_is)
    (case c9 => k_is)
    (case k9 => k_is)
    (case a10 => k_is)
    (case l10 => k_is)
    (case c10 => k_is)
    (case k10 => k_is)
    (case a11 => k_is)
    (case l11 => k_is)
    (case c11 => k_is)
    (case k11 => k_is)
    (case a12 => k_is)
    (case l12 => k_is)
    (case c12 => k_is)
    (case k12 => k_is)
    (case a13 => k_is)
    (case l13 => k_is)
    (case c13 => k_is)
    (case k13 => k_is)
    (case a14 => k_is)
    (case l14 => k_is)
    (case c14 => k_is)
    (case k14 => k_is)
    (case a15 => k_is)
    (case l15 => k_is)
    (case c15 => k_is)
    (case k15 => k_is)
    (case a16 => k_is)
    (case l16 => k_is)
    (case c16 => k_is)
    (case k16 => k_is)
    (case a17 => k_is)
    (case l17 => k_is)
    (case c17 => k_is)
    (case k17 => k_is)
    (case a18 => k_is)
    (case l18 => k_is)
    (case c18 => k_is)
    (case k18 => k_is)
    (case a19 => k_is)
    (case l19 => k_is)
    (case c19 => k_is)
    (case k19 => k_is)
    (case a20 => k_is)
    (case l20 => k_is)
    (case c20 => k_is)
    (case k20 => k_is)
    (case a21 => k_is)
    (case l21 => k_is)
    (case c21 => k_is)
    (case k21 => k_is)
    (case z_isinstance => k_is)
    (case z_int => k_is)
    (case z_bool => k_is)
    (case z_tuple => k_is)
    (case z_range => k_is)
    (case z_len => k_is)
    (case z_zip => k_is)
    (case z_sorted => k_is)
    (case z_list => k_is)
    (case z_set => k_is)
    (case z_abs => k_is)
    (case z_max => k_is)
    (case z_min => k_is)
    (case z_dig => k_is)
end
