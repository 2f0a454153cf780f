import PyProof.Rows.All
import Wide.All
import OpenK.AllK
import Wide.FinOn
import HandS.ForMost
import HandS.Deep
import HandS.DictTup
import HandS.Conv
import HandS.TupAny
import HandS.TupSets
import HandS.IsInst
import HandS.Wide
import HandS.Walk
import HandS.Defaults
import HandS.Style
import KE.GoesMore
import KE.KDictPairs
import HandS.Strs
import KE.KStateDown
import Lean
import HandS.Exc
import HandS.Head0
import HandS.Head1
import HandS.Head2
import HandS.HeadEnd
import HandS.HeadHook1
import HandS.HeadHook2
import HandS.HeadHook3
import HandS.HeadHook4
import PySem.Challenge.RW_warnloop_k10_whole_any_order_one_rest
set_option Elab.async false
set_option linter.all false
set_option maxRecDepth 100000
set_option maxHeartbeats 0
namespace Wl
open PySem L2
/-! ### the text by places -/
def top (i : Nat) : Stmt := PySem.Challenge.pw_warnloop_k10_whole_any_order_one_rest.main.body.getD i (.Pass ⟨0, 0, 0, 0⟩)
abbrev s_is_whole : Stmt := top 9
abbrev s_is_name : Stmt := top 10
abbrev s_rises : Stmt := top 11
abbrev s_are_rising : Stmt := top 12
abbrev s_are_whole : Stmt := top 13
abbrev s_is_device : Stmt := top 24
abbrev s_is_place : Stmt := top 25
abbrev s_is_loop : Stmt := top 26
abbrev s_is_zone : Stmt := top 27
abbrev s_are_zones : Stmt := top 28
abbrev s_is_plan : Stmt := top 29
abbrev s_devices : Stmt := top 30
abbrev s_stretches : Stmt := top 31
abbrev s_openers : Stmt := top 32
abbrev s_parts : Stmt := top 33
abbrev s_told_twice : Stmt := top 34
abbrev s_crowded : Stmt := top 35
abbrev s_zone_at_odds : Stmt := top 36
abbrev s_wrong : Stmt := top 37
abbrev s_is_let_by : Stmt := top 38
abbrev s_spur_come_to : Stmt := top 40
abbrev s_come_to : Stmt := top 41
abbrev s_steps_of : Stmt := top 42
abbrev s_feels : Stmt := top 43
abbrev s_all_rest : Stmt := top 44
abbrev s_heard_by : Stmt := top 45
abbrev s_Winit : Stmt := inClass (top 48) 0
abbrev s_Wneed_stretch : Stmt := inClass (top 48) 1
abbrev s_Wcut : Stmt := inClass (top 48) 3
abbrev s_Wshort : Stmt := inClass (top 48) 4
abbrev s_Wmend : Stmt := inClass (top 48) 5
abbrev s_Wparted : Stmt := inClass (top 48) 10
abbrev s_Wchange : Stmt := inClass (top 48) 11
abbrev s_Wact : Stmt := inClass (top 48) 12
abbrev s_Wrests : Stmt := inClass (top 48) 13
abbrev s_Wcome_to_rest : Stmt := inClass (top 48) 14
abbrev s_Wheard : Stmt := inClass (top 48) 15
abbrev s_law_bag : Stmt := top 50
abbrev s_law_take : Stmt := top 51
abbrev s_law_name : Stmt := top 52
abbrev s_law_names : Stmt := top 53
abbrev s_law_loop : Stmt := top 54
abbrev s_law_parts : Stmt := top 55
abbrev s_law_plan : Stmt := top 56
abbrev s_law_stretches : Stmt := top 57
abbrev s_law_befall : Stmt := top 58
abbrev s_law_order : Stmt := top 59
abbrev s_law : Stmt := top 60
/-! ### scopes -/
theorem sc_is_whole : FnScope ["thing", "least", "most"] ["thing", "least", "most"] (defScope s_is_whole) := ⟨rfl, rfl, rfl, by decide +kernel, rfl, by decide +kernel, by decide +kernel⟩
theorem sc_is_name : FnScope ["thing", "sign"] ["thing"] (defScope s_is_name) := ⟨rfl, rfl, rfl, by decide +kernel, rfl, by decide +kernel, by decide +kernel⟩
theorem sc_rises : FnScope ["things", "k"] ["things"] (defScope s_rises) := ⟨rfl, rfl, rfl, by decide +kernel, rfl, by decide +kernel, by decide +kernel⟩
theorem sc_are_rising : FnScope ["thing", "many", "least", "most", "one"] ["thing", "many", "least", "most"] (defScope s_are_rising) := ⟨rfl, rfl, rfl, by decide +kernel, rfl, by decide +kernel, by decide +kernel⟩
theorem sc_are_whole : FnScope ["thing", "many", "least", "most", "one"] ["thing", "many", "least", "most"] (defScope s_are_whole) := ⟨rfl, rfl, rfl, by decide +kernel, rfl, by decide +kernel, by decide +kernel⟩
theorem sc_is_device : FnScope ["thing"] ["thing"] (defScope s_is_device) := ⟨rfl, rfl, rfl, by decide +kernel, rfl, by decide +kernel, by decide +kernel⟩
theorem sc_is_place : FnScope ["thing", "kind", "address", "spur", "one"] ["thing"] (defScope s_is_place) := ⟨rfl, rfl, rfl, by decide +kernel, rfl, by decide +kernel, by decide +kernel⟩
theorem sc_is_loop : FnScope ["thing", "one"] ["thing"] (defScope s_is_loop) := ⟨rfl, rfl, rfl, by decide +kernel, rfl, by decide +kernel, by decide +kernel⟩
theorem sc_is_zone : FnScope ["thing"] ["thing"] (defScope s_is_zone) := ⟨rfl, rfl, rfl, by decide +kernel, rfl, by decide +kernel, by decide +kernel⟩
theorem sc_are_zones : FnScope ["thing", "one", "zone"] ["thing"] (defScope s_are_zones) := ⟨rfl, rfl, rfl, by decide +kernel, rfl, by decide +kernel, by decide +kernel⟩
theorem sc_is_plan : FnScope ["thing", "loops", "one"] ["thing"] (defScope s_is_plan) := ⟨rfl, rfl, rfl, by decide +kernel, rfl, by decide +kernel, by decide +kernel⟩
theorem sc_devices : FnScope ["plan", "found", "loop", "places", "at", "kind", "address", "spur", "way", "other", "number"] ["plan"] (defScope s_devices) := ⟨rfl, rfl, rfl, by decide +kernel, rfl, by decide +kernel, by decide +kernel⟩
theorem sc_stretches : FnScope ["plan", "found", "loop", "places", "at", "place", "way"] ["plan"] (defScope s_stretches) := ⟨rfl, rfl, rfl, by decide +kernel, rfl, by decide +kernel, by decide +kernel⟩
theorem sc_openers : FnScope ["plan", "found", "loop", "places", "at", "place"] ["plan"] (defScope s_openers) := ⟨rfl, rfl, rfl, by decide +kernel, rfl, by decide +kernel, by decide +kernel⟩
theorem sc_parts : FnScope ["plan", "loop", "found", "at", "kind", "address", "spur", "way"] ["plan", "loop"] (defScope s_parts) := ⟨rfl, rfl, rfl, by decide +kernel, rfl, by decide +kernel, by decide +kernel⟩
theorem sc_told_twice : FnScope ["plan", "met", "spot", "kind", "address"] ["plan"] (defScope s_told_twice) := ⟨rfl, rfl, rfl, by decide +kernel, rfl, by decide +kernel, by decide +kernel⟩
theorem sc_crowded : FnScope ["plan", "loop", "number", "part"] ["plan"] (defScope s_crowded) := ⟨rfl, rfl, rfl, by decide +kernel, rfl, by decide +kernel, by decide +kernel⟩
theorem sc_zone_at_odds : FnScope ["plan", "known", "spot", "kind", "address", "shared", "met", "name", "addresses"] ["plan"] (defScope s_zone_at_odds) := ⟨rfl, rfl, rfl, by decide +kernel, rfl, by decide +kernel, by decide +kernel⟩
theorem sc_wrong : FnScope ["plan", "found"] ["plan"] (defScope s_wrong) := ⟨rfl, rfl, rfl, by decide +kernel, rfl, by decide +kernel, by decide +kernel⟩
theorem sc_is_let_by : FnScope ["thing"] ["thing"] (defScope s_is_let_by) := ⟨rfl, rfl, rfl, by decide +kernel, rfl, by decide +kernel, by decide +kernel⟩
theorem sc_spur_come_to : FnScope ["plan", "hows", "loop", "at", "passed", "spots", "way"] ["plan", "hows", "loop", "at"] (defScope s_spur_come_to) := ⟨rfl, rfl, rfl, by decide +kernel, rfl, by decide +kernel, by decide +kernel⟩
theorem sc_come_to : FnScope ["plan", "hows", "stops", "loop", "place", "step", "many", "passed", "spots", "at", "more", "others"] ["plan", "hows", "stops", "loop", "place", "step"] (defScope s_come_to) := ⟨rfl, rfl, rfl, by decide +kernel, rfl, by decide +kernel, by decide +kernel⟩
theorem sc_steps_of : FnScope ["plan", "opener", "loop", "place"] ["plan", "opener"] (defScope s_steps_of) := ⟨rfl, rfl, rfl, by decide +kernel, rfl, by decide +kernel, by decide +kernel⟩
theorem sc_feels : FnScope ["plan", "hows", "stops", "opener", "step", "passed", "spots", "stretch"] ["plan", "hows", "stops", "opener"] (defScope s_feels) := ⟨rfl, rfl, rfl, by decide +kernel, rfl, by decide +kernel, by decide +kernel⟩
theorem sc_all_rest : FnScope ["plan", "hows", "stops", "opener"] ["plan", "hows", "stops"] (defScope s_all_rest) := ⟨rfl, rfl, rfl, by decide +kernel, rfl, by decide +kernel, by decide +kernel⟩
theorem sc_heard_by : FnScope ["plan", "hows", "stops", "loop", "end", "place", "step", "passed", "spots", "stretch"] ["plan", "hows", "stops", "loop", "end"] (defScope s_heard_by) := ⟨rfl, rfl, rfl, by decide +kernel, rfl, by decide +kernel, by decide +kernel⟩
theorem sc_Winit : FnScope ["self", "plan", "spot", "kind", "address"] ["self", "plan"] (defScope s_Winit) := ⟨rfl, rfl, rfl, by decide +kernel, rfl, by decide +kernel, by decide +kernel⟩
theorem sc_Wneed_stretch : FnScope ["self", "stretch"] ["self", "stretch"] (defScope s_Wneed_stretch) := ⟨rfl, rfl, rfl, by decide +kernel, rfl, by decide +kernel, by decide +kernel⟩
theorem sc_Wcut : FnScope ["self", "stretch"] ["self", "stretch"] (defScope s_Wcut) := ⟨rfl, rfl, rfl, by decide +kernel, rfl, by decide +kernel, by decide +kernel⟩
theorem sc_Wshort : FnScope ["self", "stretch"] ["self", "stretch"] (defScope s_Wshort) := ⟨rfl, rfl, rfl, by decide +kernel, rfl, by decide +kernel, by decide +kernel⟩
theorem sc_Wmend : FnScope ["self", "stretch"] ["self", "stretch"] (defScope s_Wmend) := ⟨rfl, rfl, rfl, by decide +kernel, rfl, by decide +kernel, by decide +kernel⟩
theorem sc_Wparted : FnScope ["self"] ["self"] (defScope s_Wparted) := ⟨rfl, rfl, rfl, by decide +kernel, rfl, by decide +kernel, by decide +kernel⟩
theorem sc_Wchange : FnScope ["self", "opener"] ["self", "opener"] (defScope s_Wchange) := ⟨rfl, rfl, rfl, by decide +kernel, rfl, by decide +kernel, by decide +kernel⟩
theorem sc_Wact : FnScope ["self", "opener"] ["self", "opener"] (defScope s_Wact) := ⟨rfl, rfl, rfl, by decide +kernel, rfl, by decide +kernel, by decide +kernel⟩
theorem sc_Wrests : FnScope ["self"] ["self"] (defScope s_Wrests) := ⟨rfl, rfl, rfl, by decide +kernel, rfl, by decide +kernel, by decide +kernel⟩
theorem sc_Wcome_to_rest : FnScope ["self", "row", "every", "opener"] ["self"] (defScope s_Wcome_to_rest) := ⟨rfl, rfl, rfl, by decide +kernel, rfl, by decide +kernel, by decide +kernel⟩
theorem sc_Wheard : FnScope ["self", "loop", "end", "some", "spot"] ["self", "loop", "end"] (defScope s_Wheard) := ⟨rfl, rfl, rfl, by decide +kernel, rfl, by decide +kernel, by decide +kernel⟩
theorem sc_law_bag : FnScope ["_law_script", "_law_k", "_law_cell"] ["_law_script", "_law_k"] (defScope s_law_bag) := ⟨rfl, rfl, rfl, by decide +kernel, rfl, by decide +kernel, by decide +kernel⟩
theorem sc_law_take : FnScope ["_law_bag_here", "_law_many", "_law_digit", "_law_primes", "_law_step", "_law_base", "_law_found"] ["_law_bag_here", "_law_many"] (defScope s_law_take) := ⟨rfl, rfl, rfl, by decide +kernel, rfl, by decide +kernel, by decide +kernel⟩
theorem sc_law_name : FnScope ["_law_bag_here", "_law_letters", "_law_place"] ["_law_bag_here"] (defScope s_law_name) := ⟨rfl, rfl, rfl, by decide +kernel, rfl, by decide +kernel, by decide +kernel⟩
theorem sc_law_names : FnScope ["_law_bag_here", "_law_many", "_law_found", "_law_place", "_law_name_here", "_law_one"] ["_law_bag_here", "_law_many"] (defScope s_law_names) := ⟨rfl, rfl, rfl, by decide +kernel, rfl, by decide +kernel, by decide +kernel⟩
theorem sc_law_loop : FnScope ["_law_bag_here", "_law_numbers", "_law_most_places", "_law_places", "_law_at", "_law_many", "_law_some", "_law_way"] ["_law_bag_here", "_law_numbers", "_law_most_places"] (defScope s_law_loop) := ⟨rfl, rfl, rfl, by decide +kernel, rfl, by decide +kernel, by decide +kernel⟩
theorem sc_law_parts : FnScope ["_law_places", "_law_found", "_law_kind", "_law_address", "_law_spur"] ["_law_places"] (defScope s_law_parts) := ⟨rfl, rfl, rfl, by decide +kernel, rfl, by decide +kernel, by decide +kernel⟩
theorem sc_law_plan : FnScope ["_law_bag_here", "_law_most_loops", "_law_most_places", "_law_start", "_law_stride", "_law_numbers", "_law_k", "_law_own", "_law_first", "_law_at", "_law_loops", "_law_loop_here", "_law_most", "_law_places", "_law_told", "_law_kind", "_law_address", "_law_spur", "_law_other", "_law_number", "_law_zones", "_law_names_here", "_law_name_here", "_law_some"] ["_law_bag_here", "_law_most_loops", "_law_most_places"] (defScope s_law_plan) := ⟨rfl, rfl, rfl, by decide +kernel, rfl, by decide +kernel, by decide +kernel⟩
theorem sc_law_stretches : FnScope ["_law_plan_here", "_law_found", "_law_loop_here", "_law_at", "_law_way"] ["_law_plan_here"] (defScope s_law_stretches) := ⟨rfl, rfl, rfl, by decide +kernel, rfl, by decide +kernel, by decide +kernel⟩
theorem sc_law_befall : FnScope ["_law_bag_here", "_law_wires", "_law_hows", "_law_wire_names", "_law_stretch", "_law_way"] ["_law_bag_here", "_law_wires", "_law_hows", "_law_wire_names"] (defScope s_law_befall) := ⟨rfl, rfl, rfl, by decide +kernel, rfl, by decide +kernel, by decide +kernel⟩
theorem sc_law_order : FnScope ["_law_bag_here", "_law_gates", "_law_left", "_law_found", "_law_place"] ["_law_bag_here", "_law_gates"] (defScope s_law_order) := ⟨rfl, rfl, rfl, by decide +kernel, rfl, by decide +kernel, by decide +kernel⟩
theorem sc_law : FnScope ["_law_script", "_law_bag_here", "_law_plan_here", "_law_one", "_law_other", "_law_gates", "_law_loop_here", "_law_places", "_law_at", "_law_wire_names", "_law_k", "_law_again", "_law_hows", "_law_stretch", "_law_gate", "_law_end"] ["_law_script"] (defScope s_law) := ⟨rfl, rfl, rfl, by decide +kernel, rfl, by decide +kernel, by decide +kernel⟩
/-! ### what the top has written -/
structure Txt (K : PySem.W.Frag) (mg : Str → Option Value) (f : Nat → Addr) (fd : Nat → FuncData) (C aK aT : Addr) : Prop where
  F_is_whole : Fun K "is_whole" "is_whole" s_is_whole (f 0) (fd 0)
  b_is_whole : Binds K (fd 0) ["thing", "least", "most"] []
  m_is_whole : mg "is_whole" = some (.ref (f 0))
  F_is_name : Fun K "is_name" "is_name" s_is_name (f 1) (fd 1)
  b_is_name : Binds K (fd 1) ["thing"] []
  m_is_name : mg "is_name" = some (.ref (f 1))
  F_rises : Fun K "rises" "rises" s_rises (f 2) (fd 2)
  b_rises : Binds K (fd 2) ["things"] []
  m_rises : mg "rises" = some (.ref (f 2))
  F_are_rising : Fun K "are_rising" "are_rising" s_are_rising (f 3) (fd 3)
  b_are_rising : Binds K (fd 3) ["thing", "many", "least", "most"] []
  m_are_rising : mg "are_rising" = some (.ref (f 3))
  F_are_whole : Fun K "are_whole" "are_whole" s_are_whole (f 4) (fd 4)
  b_are_whole : Binds K (fd 4) ["thing", "many", "least", "most"] []
  m_are_whole : mg "are_whole" = some (.ref (f 4))
  F_is_device : Fun K "is_device" "is_device" s_is_device (f 5) (fd 5)
  b_is_device : Binds K (fd 5) ["thing"] []
  m_is_device : mg "is_device" = some (.ref (f 5))
  F_is_place : Fun K "is_place" "is_place" s_is_place (f 6) (fd 6)
  b_is_place : Binds K (fd 6) ["thing"] []
  m_is_place : mg "is_place" = some (.ref (f 6))
  F_is_loop : Fun K "is_loop" "is_loop" s_is_loop (f 7) (fd 7)
  b_is_loop : Binds K (fd 7) ["thing"] []
  m_is_loop : mg "is_loop" = some (.ref (f 7))
  F_is_zone : Fun K "is_zone" "is_zone" s_is_zone (f 8) (fd 8)
  b_is_zone : Binds K (fd 8) ["thing"] []
  m_is_zone : mg "is_zone" = some (.ref (f 8))
  F_are_zones : Fun K "are_zones" "are_zones" s_are_zones (f 9) (fd 9)
  b_are_zones : Binds K (fd 9) ["thing"] []
  m_are_zones : mg "are_zones" = some (.ref (f 9))
  F_is_plan : Fun K "is_plan" "is_plan" s_is_plan (f 10) (fd 10)
  b_is_plan : Binds K (fd 10) ["thing"] []
  m_is_plan : mg "is_plan" = some (.ref (f 10))
  F_devices : Fun K "devices" "devices" s_devices (f 11) (fd 11)
  b_devices : Binds K (fd 11) ["plan"] []
  m_devices : mg "devices" = some (.ref (f 11))
  F_stretches : Fun K "stretches" "stretches" s_stretches (f 12) (fd 12)
  b_stretches : Binds K (fd 12) ["plan"] []
  m_stretches : mg "stretches" = some (.ref (f 12))
  F_openers : Fun K "openers" "openers" s_openers (f 13) (fd 13)
  b_openers : Binds K (fd 13) ["plan"] []
  m_openers : mg "openers" = some (.ref (f 13))
  F_parts : Fun K "parts" "parts" s_parts (f 14) (fd 14)
  b_parts : Binds K (fd 14) ["plan", "loop"] []
  m_parts : mg "parts" = some (.ref (f 14))
  F_told_twice : Fun K "told_twice" "told_twice" s_told_twice (f 15) (fd 15)
  b_told_twice : Binds K (fd 15) ["plan"] []
  m_told_twice : mg "told_twice" = some (.ref (f 15))
  F_crowded : Fun K "crowded" "crowded" s_crowded (f 16) (fd 16)
  b_crowded : Binds K (fd 16) ["plan"] []
  m_crowded : mg "crowded" = some (.ref (f 16))
  F_zone_at_odds : Fun K "zone_at_odds" "zone_at_odds" s_zone_at_odds (f 17) (fd 17)
  b_zone_at_odds : Binds K (fd 17) ["plan"] []
  m_zone_at_odds : mg "zone_at_odds" = some (.ref (f 17))
  F_wrong : Fun K "wrong" "wrong" s_wrong (f 18) (fd 18)
  b_wrong : Binds K (fd 18) ["plan"] []
  m_wrong : mg "wrong" = some (.ref (f 18))
  F_is_let_by : Fun K "is_let_by" "is_let_by" s_is_let_by (f 19) (fd 19)
  b_is_let_by : Binds K (fd 19) ["thing"] []
  m_is_let_by : mg "is_let_by" = some (.ref (f 19))
  F_spur_come_to : Fun K "spur_come_to" "spur_come_to" s_spur_come_to (f 20) (fd 20)
  b_spur_come_to : Binds K (fd 20) ["plan", "hows", "loop", "at"] []
  m_spur_come_to : mg "spur_come_to" = some (.ref (f 20))
  F_come_to : Fun K "come_to" "come_to" s_come_to (f 21) (fd 21)
  b_come_to : Binds K (fd 21) ["plan", "hows", "stops", "loop", "place", "step"] []
  m_come_to : mg "come_to" = some (.ref (f 21))
  F_steps_of : Fun K "steps_of" "steps_of" s_steps_of (f 22) (fd 22)
  b_steps_of : Binds K (fd 22) ["plan", "opener"] []
  m_steps_of : mg "steps_of" = some (.ref (f 22))
  F_feels : Fun K "feels" "feels" s_feels (f 23) (fd 23)
  b_feels : Binds K (fd 23) ["plan", "hows", "stops", "opener"] []
  m_feels : mg "feels" = some (.ref (f 23))
  F_all_rest : Fun K "all_rest" "all_rest" s_all_rest (f 24) (fd 24)
  b_all_rest : Binds K (fd 24) ["plan", "hows", "stops"] []
  m_all_rest : mg "all_rest" = some (.ref (f 24))
  F_heard_by : Fun K "heard_by" "heard_by" s_heard_by (f 25) (fd 25)
  b_heard_by : Binds K (fd 25) ["plan", "hows", "stops", "loop", "end"] []
  m_heard_by : mg "heard_by" = some (.ref (f 25))
  F_Winit : Fun K "__init__" "Wires.__init__" s_Winit (f 26) (fd 26)
  b_Winit : Binds K (fd 26) ["self", "plan"] []
  k_Winit : Mk K C (f 26)
  F_Wneed_stretch : Fun K "need_stretch" "Wires.need_stretch" s_Wneed_stretch (f 27) (fd 27)
  b_Wneed_stretch : Binds K (fd 27) ["self", "stretch"] []
  e_Wneed_stretch : Meth K C "need_stretch" (f 27)
  F_Wcut : Fun K "cut" "Wires.cut" s_Wcut (f 28) (fd 28)
  b_Wcut : Binds K (fd 28) ["self", "stretch"] []
  e_Wcut : Meth K C "cut" (f 28)
  F_Wshort : Fun K "short" "Wires.short" s_Wshort (f 29) (fd 29)
  b_Wshort : Binds K (fd 29) ["self", "stretch"] []
  e_Wshort : Meth K C "short" (f 29)
  F_Wmend : Fun K "mend" "Wires.mend" s_Wmend (f 30) (fd 30)
  b_Wmend : Binds K (fd 30) ["self", "stretch"] []
  e_Wmend : Meth K C "mend" (f 30)
  F_Wparted : Fun K "parted" "Wires.parted" s_Wparted (f 31) (fd 31)
  b_Wparted : Binds K (fd 31) ["self"] []
  e_Wparted : Meth K C "parted" (f 31)
  F_Wchange : Fun K "change" "Wires.change" s_Wchange (f 32) (fd 32)
  b_Wchange : Binds K (fd 32) ["self", "opener"] []
  e_Wchange : Meth K C "change" (f 32)
  F_Wact : Fun K "act" "Wires.act" s_Wact (f 33) (fd 33)
  b_Wact : Binds K (fd 33) ["self", "opener"] []
  e_Wact : Meth K C "act" (f 33)
  F_Wrests : Fun K "rests" "Wires.rests" s_Wrests (f 34) (fd 34)
  b_Wrests : Binds K (fd 34) ["self"] []
  e_Wrests : Meth K C "rests" (f 34)
  F_Wcome_to_rest : Fun K "come_to_rest" "Wires.come_to_rest" s_Wcome_to_rest (f 35) (fd 35)
  b_Wcome_to_rest : Binds K (fd 35) ["self"] []
  e_Wcome_to_rest : Meth K C "come_to_rest" (f 35)
  F_Wheard : Fun K "heard" "Wires.heard" s_Wheard (f 36) (fd 36)
  b_Wheard : Binds K (fd 36) ["self", "loop", "end"] []
  e_Wheard : Meth K C "heard" (f 36)
  F_law_bag : Fun K "_law_bag" "_law_bag" s_law_bag (f 37) (fd 37)
  b_law_bag : Binds K (fd 37) ["_law_script", "_law_k"] []
  m_law_bag : mg "_law_bag" = some (.ref (f 37))
  F_law_take : Fun K "_law_take" "_law_take" s_law_take (f 38) (fd 38)
  b_law_take : Binds K (fd 38) ["_law_bag_here", "_law_many"] []
  m_law_take : mg "_law_take" = some (.ref (f 38))
  F_law_name : Fun K "_law_name" "_law_name" s_law_name (f 39) (fd 39)
  b_law_name : Binds K (fd 39) ["_law_bag_here"] []
  m_law_name : mg "_law_name" = some (.ref (f 39))
  F_law_names : Fun K "_law_names" "_law_names" s_law_names (f 40) (fd 40)
  b_law_names : Binds K (fd 40) ["_law_bag_here", "_law_many"] []
  m_law_names : mg "_law_names" = some (.ref (f 40))
  F_law_loop : Fun K "_law_loop" "_law_loop" s_law_loop (f 41) (fd 41)
  b_law_loop : Binds K (fd 41) ["_law_bag_here", "_law_numbers", "_law_most_places"] []
  m_law_loop : mg "_law_loop" = some (.ref (f 41))
  F_law_parts : Fun K "_law_parts" "_law_parts" s_law_parts (f 42) (fd 42)
  b_law_parts : Binds K (fd 42) ["_law_places"] []
  m_law_parts : mg "_law_parts" = some (.ref (f 42))
  F_law_plan : Fun K "_law_plan" "_law_plan" s_law_plan (f 43) (fd 43)
  b_law_plan : Binds K (fd 43) ["_law_bag_here", "_law_most_loops", "_law_most_places"] []
  m_law_plan : mg "_law_plan" = some (.ref (f 43))
  F_law_stretches : Fun K "_law_stretches" "_law_stretches" s_law_stretches (f 44) (fd 44)
  b_law_stretches : Binds K (fd 44) ["_law_plan_here"] []
  m_law_stretches : mg "_law_stretches" = some (.ref (f 44))
  F_law_befall : Fun K "_law_befall" "_law_befall" s_law_befall (f 45) (fd 45)
  b_law_befall : Binds K (fd 45) ["_law_bag_here", "_law_wires", "_law_hows", "_law_wire_names"] []
  m_law_befall : mg "_law_befall" = some (.ref (f 45))
  F_law_order : Fun K "_law_order" "_law_order" s_law_order (f 46) (fd 46)
  b_law_order : Binds K (fd 46) ["_law_bag_here", "_law_gates"] []
  m_law_order : mg "_law_order" = some (.ref (f 46))
  F_law : Fun K "law" "law" s_law (f 47) (fd 47)
  b_law : Binds K (fd 47) ["_law_script"] []
  m_law : mg "law" = some (.ref (f 47))
  n_isinstance : mg "isinstance" = none
  n_int : mg "int" = none
  n_bool : mg "bool" = none
  n_tuple : mg "tuple" = none
  n_str : mg "str" = none
  n_len : mg "len" = none
  n_all : mg "all" = none
  n_any : mg "any" = none
  n_range : mg "range" = none
  n_enumerate : mg "enumerate" = none
  n_set : mg "set" = none
  n_sorted : mg "sorted" = none
  n_list : mg "list" = none
  n_dict : mg "dict" = none
  n_min : mg "min" = none
  n_max : mg "max" = none
  n_abs : mg "abs" = none
  c_LETTERS : ∃ t, mg "LETTERS" = some (.str "abcdefghijklmnopqrstuvwxyz" t)
  c_MOST_LETTERS : ∃ t, mg "MOST_LETTERS" = some (.int 8 t)
  c_OPENER : ∃ t, mg "OPENER" = some (.str "opener" t)
  c_MOST_ADDRESS : ∃ t, mg "MOST_ADDRESS" = some (.int 99 t)
  c_MOST_DEVICES : ∃ t, mg "MOST_DEVICES" = some (.int 30 t)
  c_MOST_LOOPS : ∃ t, mg "MOST_LOOPS" = some (.int 3 t)
  c_MOST_PLACES : ∃ t, mg "MOST_PLACES" = some (.int 12 t)
  c_MOST_SPUR : ∃ t, mg "MOST_SPUR" = some (.int 3 t)
  c_MOST_ZONES : ∃ t, mg "MOST_ZONES" = some (.int 8 t)
  c_MOST_NUMBER : ∃ t, mg "MOST_NUMBER" = some (.int 99 t)
  m_KINDS : mg "KINDS" = some (.ref aK)
  t_KINDS : ∀ H, SqT K H aK [.str "seeker", .str "knob", .str "bell", .str "door"]
  m_TOLD_BY : mg "TOLD_BY" = some (.ref aT)
  t_TOLD_BY : ∀ H, SqT K H aT [.str "seeker", .str "knob"]
  m_Wires : mg "Wires" = some (.ref C)
  cl : Cls K C
  na_plan : NoAttr K C "plan"
  na_hows : NoAttr K C "hows"
  na_stops : NoAttr K C "stops"
  na_devices_there : NoAttr K C "devices_there"
end Wl

namespace Wl
open PySem L2
/-! ## helpers: rules in short, heaps, data, loops -/
section
variable {X : Cx}
theorem pe_gint {x : Str} {i : Int} {pos : Pos} (hg : Gl X x) (h : ∃ t, X.mg x = some (.int i t)) (hd : (x == ("__debug__" : Str)) = false := by decide) : PE X (.Name x pos) (tC (.int i)) := by
  obtain ⟨t, h⟩ := h
  exact pe_glob hg h ⟨t, rfl⟩ hd
theorem pe_gstr {x z : Str} {pos : Pos} (hg : Gl X x) (h : ∃ t, X.mg x = some (.str z t)) (hd : (x == ("__debug__" : Str)) = false := by decide) : PE X (.Name x pos) (tC (.str z)) := by
  obtain ⟨t, h⟩ := h
  exact pe_glob hg h ⟨t, rfl⟩ hd
theorem pe_ty {x : Str} {n : String} {pos : Pos} (hg : Gl X x) (hm : X.mg x = none) (hv : bootBuiltins x = some (.type n)) (hn : x ≠ "__name__" := by decide) (hd : (x == ("__debug__" : Str)) = false := by decide) : PE X (.Name x pos) (tC (.ty n)) :=
  pe_bltn hg hm hv rfl hn hd
theorem pe_gref {x : Str} {a : Addr} {pos : Pos} (hg : Gl X x) (h : X.mg x = some (.ref a)) (hd : (x == ("__debug__" : Str)) = false := by decide) : PE X (.Name x pos) (tC (.ref a)) := pe_glob hg h rfl hd
variable {K : PySem.W.Frag}
/-! rules with the written part told (so that they stand in a comprehension's block too) -/
theorem ix_tupK (h : X.K = K) : IxR X (rIxT K) := by subst h; exact ix_tup
theorem ix_listK (h : X.K = K) : IxR X (rIxL K) := by subst h; exact ix_list
theorem call_lenK (h : X.K = K) : CallR X (.builtin "len") (fun xs H Q => ∃ p ys, xs = [V.ref p] ∧ (SqL K H p ys ∨ SqT K H p ys) ∧ Q (.int ys.length) H) := by subst h; exact call_len_seq
theorem call_isiK' (h : X.K = K) : CallR X (.builtin "isinstance") (rIsi K) := by subst h; exact call_isi
theorem op_inK (h : X.K = K) : OpR X (compareOp .In) (rIn K false) := by subst h; exact op_in_seq
theorem op_ninK (h : X.K = K) : OpR X (compareOp .NotIn) (rIn K true) := by subst h; exact op_notIn_seq
theorem cr_allK (h : X.K = K) (hc : X.calm = true) : CallR X (.builtin "all") (rAll K) := by subst h; exact cr_all hc
theorem cr_anyK (h : X.K = K) (hc : X.calm = true) : CallR X (.builtin "any") (rAny K) := by subst h; exact cr_any hc
theorem cr_maxK (h : X.K = K) (hc : X.calm = true) : CallR X (.builtin "max") (rMax K) := by subst h; exact cr_max hc
theorem op_neDK (h : X.K = K) (hu : X.A.units + 64 < cLine) : OpR X (compareOp .NotEq) (rNeD K) := by subst h; exact op_neD hu
theorem op_ninDK (h : X.K = K) (hu : X.A.units + 65 < cLine) : OpR X (compareOp .NotIn) (rNotInD K) := by subst h; exact op_notInD hu
theorem op_catK (h : X.K = K) : OpR X (binaryOp .Add) (rCatA K) := by subst h; exact op_catA
theorem sl_listK (h : X.K = K) : SlR X (rSlL K) := by subst h; exact sl_list
theorem sl_tupK (h : X.K = K) : SlR X (rSlA K) := by subst h; exact sl_tupA
theorem cr_sortK (h : X.K = K) : CallR X (.builtin "sorted") (rSorted K) := by subst h; exact cr_sorted
theorem cr_sortTK {d : Nat} {B : Int} (h : X.K = K) (hd : 1 ≤ d) : CallR X (.builtin "sorted") (rSortU K d B) := by subst h; exact cr_sortT hd
theorem call_tupK (h : X.K = K) : CallR X (.type "tuple") (fun xs H Q => ∃ p ys, xs = [V.ref p] ∧ ((SqL K H p ys ∧ ∀ l, H l = none → Q (.ref l) (upd H l (.tup ys))) ∨ (SqT K H p ys ∧ Q (.ref p) H))) := by subst h; exact call_tuple_of
theorem call_lstK (h : X.K = K) : CallR X (.type "list") (fun xs H Q => ∃ p ys, xs = [V.ref p] ∧ (SqL K H p ys ∨ SqT K H p ys) ∧ ∀ l, H l = none → Q (.ref l) (upd H l (.lst ys))) := by subst h; exact call_list_of
section
variable {e o : Expr} {fn : Str} {pos apos cpos : Pos} {ta to : TE} {tg l : Expr} {tl : TE} {es : List Expr} {t : TA} {ts : TGs} {name : Str} {T id : String} {r : V → List V → Hp → VK → Prop} {k n : Nat}
theorem pe_fldK (h : X.K = K) (he : PE X e ta) (hb : attributeBase e fn X.env (eval e X.env) = eval e X.env) : PE X (.Attribute e fn pos) (tFld K ta fn) := by subst h; exact pe_fld he hb
theorem pi_tupK (h : X.K = K) (hl : PE X l tl) : PI X tg l (iTup K tl) := by subst h; exact pi_tup hl
theorem pi_listK (h : X.K = K) (hl : PE X l tl) : PI X tg l (iList K tl) := by subst h; exact pi_list hl
theorem pg_tupK (h : X.K = K) (hc : X.calm = true) (g : PGs X es ts) (hn : (assignEach es X.env).length = n := by rfl) (hst : (assignEach es X.env).findIdx? (·.1) = none := by rfl) : PG X (.Tuple es k pos) (gTup K n ts) := by subst h; exact pg_tup hc g hn hst
theorem pe_bmK (h : X.K = K) (pa : PlainAttrs T) (slot : Slot T name id) (hty : typeOf (.builtin id) = pure (.type "method_descriptor")) (hm : MtR X id r) (ho : PE X o to) (ha : PA X (e :: es) t)
    (hbase : attributeBase o name X.env (eval o X.env) = eval o X.env := by rfl)
    (hfew : ((backTo cpos (starEach (e :: es) X.env)).all (fun x => !x.1) && (backToKw cpos (keywordEach [] X.env)).all (fun x => x.1.isSome) && decide ((e :: es).length + ([] : List Keyword).length + (if ([] : List Keyword).isEmpty then 0 else 1) < 30)) = true := by rfl)
    (hline : (apos.endLine == cpos.line) = true := by rfl) (hs : starEach (e :: es) X.env = (false, eval e X.env) :: starEach es X.env := by rfl) (hplain : (backTo cpos (starEach es X.env)).any (·.1) = false := by rfl) :
    PE X (.Call (.Attribute o name apos) (e :: es) [] cpos) (tBM K T r to t) := by subst h; exact pe_bm pa slot hty hm ho ha hbase hfew hline hs hplain
end
theorem hu64 {k : Nat} {A : Around} (hr : Room k A) : A.units + 64 < cLine := by have := hr.un; omega
theorem hu65 {k : Nat} {A : Around} (hr : Room k A) : A.units + 65 < cLine := by have := hr.un; omega
end
/-! ### heaps -/
/-- all but what stands in S is as it was -/
def Fr (S : List Addr) (H H' : Hp) : Prop := ∀ a o, a ∉ S → H a = some o → H' a = some o
theorem _root_.L2.Same.upd {H : Hp} {p : Addr} {o : HO} (h : H p = none) : Same H (L2.upd H p o) := fun b u e => by
  rw [upd_ne (ne_of_none e h)]; exact e
theorem _root_.L2.Same.get {H H' : Hp} {a : Addr} {o : HO} (s : Same H H') (h : H a = some o) : H' a = some o := s a o h
/-- an object that H does not know may change -/
theorem _root_.L2.Same.mut {H H' : Hp} {p : Addr} {o : HO} (e : Same H H') (h : H p = none) : Same H (L2.upd H' p o) := fun a u ha => by
  rw [upd_ne (ne_of_none ha h)]; exact e a u ha
theorem fr_same {H H' : Hp} {S : List Addr} (s : Same H H') : Fr S H H' := fun a o _ h => s a o h
theorem Fr.trans {S : List Addr} {H H1 H2 : Hp} (a : Fr S H H1) (b : Fr S H1 H2) : Fr S H H2 := fun c o n h => b c o n (a c o n h)
theorem Fr.refl {S : List Addr} {H : Hp} : Fr S H H := fun _ _ _ h => h
theorem Fr.upd {S : List Addr} {H : Hp} {p : Addr} {o : HO} (h : p ∈ S) : Fr S H (L2.upd H p o) := fun a u n e => by
  rw [upd_ne (fun z => n (by rw [z]; exact h))]; exact e
theorem Fr.mono {S S' : List Addr} {H H' : Hp} (f : Fr S H H') (h : ∀ a ∈ S, a ∈ S') : Fr S' H H' := fun a o n e => f a o (fun z => n (h a z)) e
theorem Fr.get {S : List Addr} {H H' : Hp} {a : Addr} {o : HO} (f : Fr S H H') (n : a ∉ S) (h : H a = some o) : H' a = some o := f a o n h
theorem sz2 {α : Type} {xs : List α} (h : xs.length ≤ 1000) : xs.length ≤ sizeLine := Nat.le_trans h (by decide)
theorem szl {n : Nat} (h : n ≤ 100000) : n < sizeLine := Nat.lt_of_le_of_lt h (by decide)
theorem szle {n : Nat} (h : n ≤ 100000) : n ≤ sizeLine := Nat.le_trans h (by decide)
/-! ### readings, step by step -/
theorem exV {p : V → Prop} (v : V) (h : p v) : ∃ v, p v := ⟨v, h⟩
theorem exN {p : Nat → Prop} (v : Nat) (h : p v) : ∃ v, p v := ⟨v, h⟩
theorem exI {p : Int → Prop} (v : Int) (h : p v) : ∃ v, p v := ⟨v, h⟩
theorem exS {p : Str → Prop} (v : Str) (h : p v) : ∃ v, p v := ⟨v, h⟩
theorem exB {p : Bool → Prop} (v : Bool) (h : p v) : ∃ v, p v := ⟨v, h⟩
theorem exVs {p : List V → Prop} (v : List V) (h : p v) : ∃ v, p v := ⟨v, h⟩
theorem exFs {p : List (Str × V) → Prop} (v : List (Str × V)) (h : p v) : ∃ v, p v := ⟨v, h⟩
section
variable {K : PySem.W.Frag} {σ : L2.St} {H : Hp} {Q : VK} {ta tb tc te to : TE} {r r' : R2} {D : Ends} {t u : TS} {tt tu : TT} {ts tr : TA} {g : TG} {gs : TGs} {QT : Bool → Hp → Prop} {QA : List V → Hp → Prop} {QG : L2.St → Hp → Prop} {a p : Addr} {xs : List V} {v : V} {i j : Int}
theorem i_var {n : Nat} (h : σ[n]? = some (some v)) (q : Q v H) : tVar n σ H Q := ⟨v, h, q⟩
theorem i_c (q : Q v H) : tC v σ H Q := q
theorem i_op (q : ta σ H fun x H1 => tb σ H1 fun y H2 => r x y H2 Q) : tOp r ta tb σ H Q := q
theorem i_un {f : V → Hp → VK → Prop} (q : ta σ H fun x H1 => f x H1 Q) : tUn f ta σ H Q := q
theorem i_neg (q : Q (.int (-i)) H) : rU (fun i => .int (-i)) (.int i) H Q := ⟨i, rfl, q⟩
theorem i_I {c : Int → Int → Prop} {f : Int → Int → V} (h : c i j) (q : Q (f i j) H) : rI c f (.int i) (.int j) H Q := ⟨i, j, rfl, rfl, h, q⟩
theorem i_I0 {f : Int → Int → V} (q : Q (f i j) H) : rI0 f (.int i) (.int j) H Q := ⟨i, j, rfl, rfl, q⟩
theorem i_ixL (h : SqL K H p xs) (e : atI xs i = some v) (q : Q v H) : rIxL K (.ref p) (.int i) H Q := ⟨p, xs, i, v, rfl, rfl, h, e, q⟩
theorem i_ixT (h : SqT K H p xs) (e : atI xs i = some v) (q : Q v H) : rIxT K (.ref p) (.int i) H Q := ⟨p, xs, i, v, rfl, rfl, h, e, q⟩
theorem i_eq {x y : V} (h : scal x y = true) (q : Q (.bl (decide (x = y))) H) : rEq x y H Q := ⟨h, q⟩
theorem i_ne {x y : V} (h : scal x y = true) (q : Q (.bl (!decide (x = y))) H) : rNe x y H Q := ⟨h, q⟩
/-- a new object: the heap behind it by a name of its own -/
def NewO (o : HO) (Q : VK) (H : Hp) : Prop := ∀ p, H p = none → Q (.ref p) (upd H p o)
theorem i_new {o : HO} {H0 : Hp} (s : Same H0 H) (k : ∀ p H2, H p = none → H0 p = none → Same H H2 → Same H0 H2 → H2 p = some o → Q (.ref p) H2) : NewO o Q H := fun p hp => k p _ hp (s.free hp) (Same.upd hp) (s.trans (Same.upd hp)) upd_same
theorem i_tup (q : ts σ H fun xs H1 => xs.length ≤ sizeLine ∧ NewO (.tup xs) Q H1) : tTup ts σ H Q := q
theorem i_lst (q : ts σ H fun xs H1 => xs.length ≤ sizeLine ∧ NewO (.lst xs) Q H1) : tLst ts σ H Q := q
theorem i_dnK (q : NewO (.dK []) Q H) : tDNewK σ H Q := q
theorem i_dnT (q : NewO (.dT []) Q H) : tDNewT σ H Q := q
theorem i_cb {f : List V → Hp → VK → Prop} (q : ts σ H fun vs H1 => f vs H1 Q) : tCB f ts σ H Q := q
theorem i_bm {T : String} {f : V → List V → Hp → VK → Prop} (q : to σ H fun x H1 => tyV K T x H1 ∧ ts σ H1 fun xs H2 => f x xs H2 Q) : tBM K T f to ts σ H Q := q
theorem i_nil (q : QA [] H) : tNil σ H QA := q
theorem i_cons (q : ta σ H fun x H1 => tr σ H1 fun xs H2 => QA (x :: xs) H2) : tCons ta tr σ H QA := q
theorem i_call {sp : Sp} {dvs : List V} {E : XK} (q : ts σ H fun vs H1 => sp (vs ++ dvs) H1 Q E) : tCall sp dvs E ts σ H Q := q
theorem i_fld {fn : Str} (q : ta σ H fun x H1 => ∃ a C dx fs v, x = .ref a ∧ H1 a = some (.ins C dx fs) ∧ Cls K C ∧ NoAttr K C fn ∧ fs.lookup fn = some v ∧ Q v H1) : tFld K ta fn σ H Q := q
theorem i_andV (q : ta σ H fun x H1 => ∃ c, x = .bl c ∧ if c = true then tb σ H1 Q else Q (.bl false) H1) : tAndV ta tb σ H Q := q
theorem i_orV (q : ta σ H fun x H1 => ∃ c, x = .bl c ∧ if c = true then Q (.bl true) H1 else tb σ H1 Q) : tOrV ta tb σ H Q := q
theorem i_notV (q : ta σ H fun x H1 => ∃ c, x = .bl c ∧ Q (.bl (!c)) H1) : tNotV ta σ H Q := q
theorem i_chain (q : ta σ H fun x H1 => tb σ H1 fun y H2 => r x y H2 fun z H3 => ∃ k, z = .bl k ∧ (if k = true then tc σ H3 fun w' H4 => r' y w' H4 Q else Q (.bl false) H3)) : tChain r r' ta tb tc σ H Q := q
theorem i_dget2 {td ty tx : TE} (q : td σ H fun x H1 => ∃ a, x = .ref a ∧ IsD H1 a ∧ ty σ H1 fun y H2 => tx σ H2 fun z H3 => ∃ o, DGet H3 a y o ∧ Q (o.getD z) H3) : tDGet2 td ty tx σ H Q := q
theorem i_dget {td ty : TE} (q : td σ H fun x H1 => ty σ H1 fun y H2 => ∃ a v, x = .ref a ∧ DGet H2 a y (some v) ∧ Q v H2) : tDGet td ty σ H Q := q
theorem i_din {td ty : TE} (q : ty σ H fun y H1 => td σ H1 fun x H2 => ∃ a o, x = .ref a ∧ DGet H2 a y o ∧ Q (.bl o.isSome) H2) : tDIn ty td σ H Q := q
theorem i_dnotin {td ty : TE} (q : ty σ H fun y H1 => td σ H1 fun x H2 => ∃ a o, x = .ref a ∧ DGet H2 a y o ∧ Q (.bl (!o.isSome)) H2) : tDNotIn ty td σ H Q := q
theorem i_dputT {td ty tv : TE} (q : tv σ H fun v H1 => td σ H1 fun x H2 => ty σ H2 fun y H3 => ∃ a H4, x = .ref a ∧ DPut H3 a y v H4 ∧ D.nx σ H4) : sDPut td ty tv D σ H := q
theorem i_isN (q : ta σ H fun x H1 => Q (.bl (decide (x = .non))) H1) : tIsN ta σ H Q := q
theorem i_notN (q : ta σ H fun x H1 => Q (.bl (!decide (x = .non))) H1) : tNotN ta σ H Q := q
theorem i_B (q : te σ H fun x H1 => ∃ c, x = .bl c ∧ QT c H1) : tB te σ H QT := q
theorem i_test (q : te σ H fun x H1 => ∃ c, x = .bl c ∧ QT c H1) : tTest te σ H QT := q
theorem i_k {b : Bool} {z : Bool → Prop} (q : z b) : ∃ c, V.bl b = .bl c ∧ z c := ⟨b, rfl, q⟩
theorem i_and (q : tt σ H fun c H1 => if c = true then tu σ H1 QT else QT false H1) : tAnd tt tu σ H QT := q
theorem i_or (q : tt σ H fun c H1 => if c = true then QT true H1 else tu σ H1 QT) : tOr tt tu σ H QT := q
theorem i_not (q : tt σ H fun c H1 => QT (!c) H1) : tNot tt σ H QT := q
theorem i_yes (q : QT true H) : tYes σ H QT := q
theorem i_seq (q : t { D with nx := u D } σ H) : tSeq t u D σ H := q
theorem i_next (q : D.nx σ H) : tNext D σ H := q
theorem i_break (q : D.bk σ H) : tBreak D σ H := q
theorem i_drop (q : te σ H fun _ H1 => D.nx σ H1) : tDrop te D σ H := q
theorem i_ret (q : te σ H D.rt) : tRet te D σ H := q
theorem i_if (q : tt σ H fun b H1 => if b = true then t D σ H1 else u D σ H1) : tIfS tt t u D σ H := q
theorem i_asg (q : te σ H fun x H1 => g x σ H1 D.nx) : tAsg te g D σ H := q
theorem i_name {n : Nat} (q : QG (σ.set n (some v)) H) : gName n v σ H QG := q
theorem i_gtup {n : Nat} (h : SqT K H a xs) (e : xs.length = n) (q : gs xs σ H QG) : gTup K n gs (.ref a) σ H QG := ⟨a, xs, rfl, h, e, q⟩
theorem i_gnil (q : QG σ H) : gNil [] σ H QG := ⟨rfl, q⟩
theorem i_gcons (q : g v σ H fun σ' H' => gs xs σ' H' QG) : gCons g gs (v :: xs) σ H QG := ⟨v, xs, rfl, q⟩
theorem ift {b : Bool} {A B : Prop} (h : b = true) (q : A) : if b = true then A else B := by rw [if_pos h]; exact q
theorem iff_ {b : Bool} {A B : Prop} (h : b = false) (q : B) : if b = true then A else B := by rw [if_neg (by rw [h]; decide)]; exact q
theorem if2 {b : Bool} {A B : Prop} (h1 : b = true → A) (h2 : b = false → B) : if b = true then A else B := by
  cases b with
  | true => exact ift rfl (h1 rfl)
  | false => exact iff_ rfl (h2 rfl)
theorem i_sl {f : V → Option Int → Option Int → Hp → VK → Prop} {tl th : TO} (q : te σ H fun x H1 => tl σ H1 fun l H2 => th σ H2 fun u H3 => f x l u H3 Q) : tSl f te tl th σ H Q := q
theorem i_nopart {QO : Option Int → Hp → Prop} (q : QO none H) : tNoPart σ H QO := q
theorem i_part {QO : Option Int → Hp → Prop} (q : te σ H fun x H1 => ∃ i, x = .int i ∧ QO (some i) H1) : tPart te σ H QO := q
theorem i_app {l : Addr} (h : H l = some (.lst xs)) (e : xs.length < sizeLine) (q : Q .non (upd H l (.lst (xs ++ [v])))) : rAppend (.ref l) [v] H Q := ⟨l, xs, v, rfl, rfl, h, e, q⟩
theorem i_ext {l b : Addr} {zs : List V} (h : H l = some (.lst xs)) (h2 : H b = some (.lst zs)) (e : xs.length + zs.length ≤ sizeLine) (q : Q .non (upd H l (.lst (xs ++ zs)))) : rExtend (.ref l) [.ref b] H Q := ⟨l, b, xs, zs, rfl, rfl, h, h2, e, q⟩
theorem ty_l {l : Addr} (h : H l = some (.lst xs)) : tyV K "list" (.ref l) H := .inl ⟨rfl, xs, SqL.of h⟩
theorem ty_d {l : Addr} {kvs : List (List Key × V)} (h : H l = some (.dT kvs)) : tyV K "dict" (.ref l) H := .inr (.inr (.inl ⟨rfl, .inr ⟨kvs, h⟩⟩))
theorem i_isiI {n : Int} {b : String} {c : Bool} (h : kitB "int" b = some c) (q : Q (.bl c) H) : rIsi K [.int n, .ty b] H Q := ⟨.int n, .ty b, .type "int", .type b, c, rfl, .ty b, .base (.int n), kit_ty h, q⟩
theorem i_isiS {n : Str} {b : String} {c : Bool} (h : kitB "str" b = some c) (q : Q (.bl c) H) : rIsi K [.str n, .ty b] H Q := ⟨.str n, .ty b, .type "str", .type b, c, rfl, .ty b, .base (.str n), kit_ty h, q⟩
theorem i_isiT {n : Addr} {b : String} {c : Bool} (e : H n = some (.tup xs)) (h : kitB "tuple" b = some c) (q : Q (.bl c) H) : rIsi K [.ref n, .ty b] H Q := ⟨.ref n, .ty b, .type "tuple", .type b, c, rfl, .ty b, .base (.tup e), kit_ty h, q⟩
theorem i_len {z : List V → Prop} (h : SqL K H p xs ∨ SqT K H p xs) (q : z xs) : ∃ p' ys, [V.ref p] = [V.ref p'] ∧ (SqL K H p' ys ∨ SqT K H p' ys) ∧ z ys := ⟨p, xs, rfl, h, q⟩
theorem i_lens {z : Str → Prop} {y : Str} (h : y.length ≤ sizeLine) (q : z y) : ∃ x, [V.str y] = [V.str x] ∧ x.length ≤ sizeLine ∧ z x := ⟨y, rfl, h, q⟩
theorem i_sign {z : Nat → Str → Prop} {c : Nat} {y : Str} (q : z c y) : ∃ c' y', V.str ⟨#[c]⟩ = V.str ⟨#[c']⟩ ∧ V.str y = V.str y' ∧ z c' y' := ⟨c, y, rfl, rfl, q⟩
theorem i_inT {x : V} (h : SqT K H p xs) (hx : flatV x = true) (ha : xs.all flatV = true) (q : Q (.bl (inV x xs)) H) : rIn K false x (.ref p) H Q := ⟨p, xs, rfl, .inr h, hx, ha, q⟩
theorem i_inL {x : V} (h : SqL K H p xs) (hx : flatV x = true) (ha : xs.all flatV = true) (q : Q (.bl (inV x xs)) H) : rIn K false x (.ref p) H Q := ⟨p, xs, rfl, .inl h, hx, ha, q⟩
theorem i_ninL {x : V} (h : SqL K H p xs) (hx : flatV x = true) (ha : xs.all flatV = true) (q : Q (.bl (!inV x xs)) H) : rIn K true x (.ref p) H Q := ⟨p, xs, rfl, .inl h, hx, ha, q⟩
theorem i_all {bs : List Bool} (h : SqL K H p (bs.map V.bl)) (q : Q (.bl (bs.all id)) H) : rAll K [.ref p] H Q := ⟨p, bs, rfl, h, q⟩
theorem i_any {bs : List Bool} (h : SqL K H p (bs.map V.bl)) (q : Q (.bl (bs.any id)) H) : rAny K [.ref p] H Q := ⟨p, bs, rfl, h, q⟩
end
theorem kit_ii : kitB "int" "int" = some true := by decide +kernel
theorem kit_ib : kitB "int" "bool" = some false := by decide +kernel
theorem kit_tt : kitB "tuple" "tuple" = some true := by decide +kernel
theorem kit_ss : kitB "str" "str" = some true := by decide +kernel
theorem dt {p : Prop} [Decidable p] (h : p) : decide p = true := decide_eq_true h
theorem df {p : Prop} [Decidable p] (h : ¬ p) : decide p = false := decide_eq_false h
theorem ndt {p : Prop} [Decidable p] (h : p) : (!decide p) = false := by rw [dt h]; rfl
theorem ndf {p : Prop} [Decidable p] (h : ¬ p) : (!decide p) = true := by rw [df h]; rfl
theorem vi {i j : Int} (h : i = j) : V.int i = V.int j := by rw [h]

theorem bl_t {Q : VK} {H : Hp} {b : Bool} (e : b = true) (k : Q (.bl true) H) : Q (.bl b) H := by rw [e]; exact k
theorem bl_eq {Q : VK} {H : Hp} {b c : Bool} (e : b = c) (k : Q (.bl c) H) : Q (.bl b) H := by rw [e]; exact k
/-! ### tuples stay -/
def Tk (H H' : Hp) : Prop := ∀ a xs, H a = some (.tup xs) → H' a = some (.tup xs)
theorem Tk.refl (H : Hp) : Tk H H := fun _ _ h => h
theorem Tk.trans {H H1 H2 : Hp} (a : Tk H H1) (b : Tk H1 H2) : Tk H H2 := fun c o h => b c o (a c o h)
theorem _root_.L2.Same.ts {H H' : Hp} (s : Same H H') : Tk H H' := fun a _ h => s a _ h
/-- not a tuple -/
def NoT (o : HO) : Prop := ∀ xs, o ≠ .tup xs
theorem Tk.upd {H : Hp} {p : Addr} {o u : HO} (h : H p = some u) (n : NoT u) : Tk H (L2.upd H p o) := fun a xs e => by
  rw [upd_ne (fun z => by rw [z, h] at e; exact n xs (Option.some.inj e))]; exact e
theorem Tk.new {H : Hp} {p : Addr} {o : HO} (h : H p = none) : Tk H (L2.upd H p o) := (Same.upd h).ts
theorem nt_l {xs : List V} : NoT (.lst xs) := fun _ h => nomatch h
theorem nt_d {k : List (List Key × V)} : NoT (.dT k) := fun _ h => nomatch h
theorem nt_k {k : List (Key × V)} : NoT (.dK k) := fun _ h => nomatch h
theorem nt_i {C dx : Addr} {fs : List (Str × V)} : NoT (.ins C dx fs) := fun _ h => nomatch h
theorem Fr.ts {S : List Addr} {H H' : Hp} (f : Fr S H H') (h : ∀ a ∈ S, ∃ o, H a = some o ∧ NoT o) : Tk H H' := fun a xs e => f a _ (fun z => by
  obtain ⟨o, ho, n⟩ := h a z
  rw [e] at ho
  exact n xs (Option.some.inj ho).symm) e
/-! ### data -/
theorem Paired.get1 {α β : Type} {F : α → β → Prop} : ∀ {l₁ : List α} {l₂ : List β} {j : Nat} {x : α}, Paired F l₁ l₂ → l₁[j]? = some x → ∃ y, l₂[j]? = some y ∧ F x y
  | _, _, j, x, .nil, h => by simp at h
  | _, _, 0, x, .cons (b := b) f _, h => by
    simp only [List.getElem?_cons_zero] at h
    cases h
    exact ⟨b, rfl, f⟩
  | _, _, j + 1, x, .cons _ t, h => by
    simp only [List.getElem?_cons_succ] at h
    obtain ⟨y, h1, h2⟩ := Paired.get1 (j := j) t h
    exact ⟨y, (by rw [List.getElem?_cons_succ]; exact h1), h2⟩
theorem Paired.get2 {α β : Type} {F : α → β → Prop} : ∀ {l₁ : List α} {l₂ : List β} {j : Nat} {y : β}, Paired F l₁ l₂ → l₂[j]? = some y → ∃ x, l₁[j]? = some x ∧ F x y
  | _, _, j, x, .nil, h => by simp at h
  | _, _, 0, x, .cons (a := a) f _, h => by
    simp only [List.getElem?_cons_zero] at h
    cases h
    exact ⟨a, rfl, f⟩
  | _, _, j + 1, x, .cons _ t, h => by
    simp only [List.getElem?_cons_succ] at h
    obtain ⟨y, h1, h2⟩ := Paired.get2 (j := j) t h
    exact ⟨y, (by rw [List.getElem?_cons_succ]; exact h1), h2⟩
theorem Paired.app {α β : Type} {F : α → β → Prop} : ∀ {l₁ k₁ : List α} {l₂ k₂ : List β}, Paired F l₁ l₂ → Paired F k₁ k₂ → Paired F (l₁ ++ k₁) (l₂ ++ k₂)
  | _, _, _, _, .nil, h => h
  | _, _, _, _, .cons f t, h => .cons f (Paired.app t h)
theorem Paired.one {α β : Type} {F : α → β → Prop} {a : α} {b : β} (h : F a b) : Paired F [a] [b] := .cons h .nil
abbrev Sp3 : Type := Int × Int × Int
/-- a tuple of two | three ints -/
def T2 (H : Hp) (v : V) (q : Int × Int) : Prop := ∃ p, v = .ref p ∧ H p = some (.tup [.int q.1, .int q.2])
def T3 (H : Hp) (v : V) (q : Sp3) : Prop := ∃ p, v = .ref p ∧ H p = some (.tup [.int q.1, .int q.2.1, .int q.2.2])
theorem T2.ts {H H' : Hp} {v : V} {q : Int × Int} (t : Tk H H') (h : T2 H v q) : T2 H' v q := let ⟨p, e, h⟩ := h; ⟨p, e, t _ _ h⟩
theorem T3.ts {H H' : Hp} {v : V} {q : Sp3} (t : Tk H H') (h : T3 H v q) : T3 H' v q := let ⟨p, e, h⟩ := h; ⟨p, e, t _ _ h⟩
/-- a list of such -/
def LR {α : Type} (R : Hp → V → α → Prop) (H : Hp) (p : Addr) (ds : List α) : Prop := ∃ vs, H p = some (.lst vs) ∧ Paired (R H) vs ds
def TR {α : Type} (R : Hp → V → α → Prop) (H : Hp) (v : V) (ds : List α) : Prop := ∃ p vs, v = .ref p ∧ H p = some (.tup vs) ∧ Paired (R H) vs ds
theorem TR.ts {α : Type} {R : Hp → V → α → Prop} {H H' : Hp} {v : V} {ds : List α} (m : ∀ v d, R H v d → R H' v d) (t : Tk H H') (h : TR R H v ds) : TR R H' v ds :=
  let ⟨p, vs, e, h, r⟩ := h; ⟨p, vs, e, t _ _ h, Paired.mapP r m⟩
theorem LR.same {α : Type} {R : Hp → V → α → Prop} {H H' : Hp} {p : Addr} {ds : List α} (m : ∀ v d, R H v d → R H' v d) (t : Same H H') (h : LR R H p ds) : LR R H' p ds :=
  let ⟨vs, h, r⟩ := h; ⟨vs, t _ _ h, Paired.mapP r m⟩
/-! the plan -/
structure Place where
  kind : Str
  addr : Int
  spur : List (Str × Int)
structure Plan where
  most : Int
  loops : List (List Place)
  zones : List (Str × List Int)
def DevR (H : Hp) (v : V) (d : Str × Int) : Prop := ∃ p, v = .ref p ∧ H p = some (.tup [.str d.1, .int d.2])
def PlR (H : Hp) (v : V) (q : Place) : Prop := ∃ p s, v = .ref p ∧ H p = some (.tup [.str q.kind, .int q.addr, s]) ∧ TR DevR H s q.spur
def LoR (H : Hp) (v : V) (l : List Place) : Prop := TR PlR H v l
def ZoR (H : Hp) (v : V) (z : Str × List Int) : Prop := ∃ p a, v = .ref p ∧ H p = some (.tup [.str z.1, .ref a]) ∧ H a = some (.tup (z.2.map V.int))
def PlanR (H : Hp) (v : V) (P : Plan) : Prop := ∃ p s z, v = .ref p ∧ H p = some (.tup [.int P.most, s, z]) ∧ TR LoR H s P.loops ∧ TR ZoR H z P.zones
theorem DevR.ts {H H' : Hp} (t : Tk H H') (v : V) (d : Str × Int) (h : DevR H v d) : DevR H' v d := let ⟨p, e, h⟩ := h; ⟨p, e, t _ _ h⟩
theorem PlR.ts {H H' : Hp} (t : Tk H H') (v : V) (d : Place) (h : PlR H v d) : PlR H' v d := let ⟨p, s, e, h, r⟩ := h; ⟨p, s, e, t _ _ h, r.ts (DevR.ts t) t⟩
theorem LoR.ts {H H' : Hp} (t : Tk H H') (v : V) (d : List Place) (h : LoR H v d) : LoR H' v d := TR.ts (PlR.ts t) t h
theorem ZoR.ts {H H' : Hp} (t : Tk H H') (v : V) (d : Str × List Int) (h : ZoR H v d) : ZoR H' v d := let ⟨p, a, e, h, r⟩ := h; ⟨p, a, e, t _ _ h, t _ _ r⟩
theorem PlanR.ts {H H' : Hp} (t : Tk H H') (v : V) (d : Plan) (h : PlanR H v d) : PlanR H' v d := let ⟨p, s, z, e, h, r, q⟩ := h; ⟨p, s, z, e, t _ _ h, r.ts (LoR.ts t) t, q.ts (ZoR.ts t) t⟩
theorem T2.tsx {H H' : Hp} (t : Tk H H') (v : V) (d : Int × Int) (h : T2 H v d) : T2 H' v d := h.ts t
theorem T3.tsx {H H' : Hp} (t : Tk H H') (v : V) (d : Sp3) (h : T3 H v d) : T3 H' v d := h.ts t
theorem at_pre {α β : Type} {R : α → β → Prop} {vs : List α} {ds pre post : List β} {d : β} {x : α} (hp : Paired R vs ds) (e : ds = pre ++ d :: post) (h : vs[pre.length]? = some x) : R x d := by
  obtain ⟨y, hy, r⟩ := Paired.get1 hp h
  rw [e, List.getElem?_append_right (Nat.le_refl _), Nat.sub_self] at hy
  cases hy
  exact r
theorem get_pre {α : Type} {ds pre post : List α} {d x : α} (e : ds = pre ++ d :: post) (h : ds[pre.length]? = some x) : x = d := by
  rw [e, List.getElem?_append_right (Nat.le_refl _), Nat.sub_self] at h
  cases h
  rfl
theorem range_pre {n : Nat} {pre post : List Nat} {d : Nat} (e : List.range n = pre ++ d :: post) : d = pre.length ∧ pre.length < n := by
  have hl : pre.length < (List.range n).length := by rw [e]; simp
  have h : (List.range n)[pre.length]? = some d := by rw [e, List.getElem?_append_right (Nat.le_refl _), Nat.sub_self]; rfl
  rw [List.length_range] at hl
  rw [List.getElem?_range hl] at h
  exact ⟨(Option.some.inj h).symm, hl⟩
/-- the j-th item -/
theorem ati {xs : List V} {z : Int} (j : Nat) {v : V} (e : z = (j : Int)) (h : xs[j]? = some v) : atI xs z = some v := at_of e h
/-! ### loops over data -/
section
variable {α β : Type} {J : It} {n : Nat} {G : Hp → Prop} {Y : Nat → Hp → V → Hp → Prop}
theorem split_at {ds : List α} {i : Nat} (h : i < ds.length) : ds = ds.take i ++ ds[i] :: ds.drop (i + 1) := by
  rw [List.getElem_cons_drop, List.take_append_drop]
theorem take_snoc {ds : List α} {i : Nat} (h : i < ds.length) : ds.take (i + 1) = ds.take i ++ [ds[i]] := by
  rw [List.take_add_one, List.getElem?_eq_getElem h]; rfl
/-- a for over data ds: the part gone through, the one at hand -/
theorem for_pre (w : Walk J n G Y) (ds : List α) (hn : ds.length = n) {g : TG} {tb : TS} {D : Ends} {σ : L2.St} {H : Hp} (Pv : List α → L2.St → Hp → Prop) (h0 : Pv [] σ H) (hG : ∀ pre σ H, Pv pre σ H → G H)
    (hs : ∀ pre d post x σ H H', ds = pre ++ d :: post → Pv pre σ H → Y pre.length H x H' → g x σ H' fun σ2 H2 => tb { D with nx := Pv (pre ++ [d]), ct := Pv (pre ++ [d]), bk := D.nx } σ2 H2) (hd : ∀ σ H, Pv ds σ H → D.nx σ H) :
    ∃ W : Nat → Nat → L2.St → Hp → Prop, (∃ m, W 0 m σ H) ∧ ∀ i m σ H, W i m σ H →
      (J.stop i H ∧ D.nx σ H) ∨ (J.go i H ∧ ∃ N : L2.St → Hp → Prop, (∀ σ' H', N σ' H' → ∃ m', m' < m ∧ W (i + 1) m' σ' H') ∧ ∀ x H', J.yld i H x H' → g x σ H' fun σ2 H2 => tb { D with nx := N, ct := N, bk := D.nx } σ2 H2) := by
  refine for_it w (fun i σ H => Pv (ds.take i) σ H) (by rw [List.take_zero]; exact h0) (fun i σ H _ p => hG _ σ H p) (fun i x σ H H' hi p y => ?_) (fun σ H p => hd σ H (by rw [← hn, List.take_length] at p; exact p))
  have hi' : i < ds.length := by omega
  have hl : (ds.take i).length = i := by rw [List.length_take]; omega
  have q := hs (ds.take i) ds[i] (ds.drop (i + 1)) x σ H H' (split_at hi') p (by rw [hl]; exact y)
  rw [take_snoc hi']
  exact q
/-- a comprehension over data, any state -/
theorem lc_pre (w : Walk J n G Y) (ds : List α) (hn : ds.length = n) {g : TG} {tt : TT} {te : TE} {vs : List Nat} {σ : L2.St} {H1 : Hp} {D : Addr} {Qd : Hp → Prop} (Pv : List α → Hp → Prop) (h0 : Pv [] (upd H1 D (.lst []))) (hG : ∀ pre H, Pv pre H → G H)
    (hs : ∀ pre d post x H H', ds = pre ++ d :: post → Pv pre H → Y pre.length H x H' → g x (wipe σ vs) H' fun σ2 H2 => wipe σ2 vs = wipe σ vs ∧ tt σ2 H2 fun b H3 =>
      if b = true then te σ2 H3 fun y H4 => ∃ acc, H4 D = some (.lst acc) ∧ acc.length < sizeLine ∧ Pv (pre ++ [d]) (upd H4 D (.lst (acc ++ [y]))) else Pv (pre ++ [d]) H3) (hd : ∀ H, Pv ds H → Qd H) :
    ∃ W : Nat → Nat → Hp → Prop, (∃ m, W 0 m (upd H1 D (.lst []))) ∧ ∀ i m H, W i m H →
      (J.stop i H ∧ Qd H) ∨ (J.go i H ∧ ∃ Nx : Hp → Prop, (∀ H', Nx H' → ∃ m', m' < m ∧ W (i + 1) m' H') ∧ ∀ x H', J.yld i H x H' → g x (wipe σ vs) H' fun σ2 H2 => wipe σ2 vs = wipe σ vs ∧ tt σ2 H2 fun b H3 =>
        if b = true then te σ2 H3 fun y H4 => ∃ acc, H4 D = some (.lst acc) ∧ acc.length < sizeLine ∧ Nx (upd H4 D (.lst (acc ++ [y]))) else Nx H3) := by
  refine lc_it w (fun i H => Pv (ds.take i) H) (by rw [List.take_zero]; exact h0) (fun i H _ p => hG _ H p) (fun i x H H' hi p y => ?_) (fun H p => hd H (by rw [← hn, List.take_length] at p; exact p))
  have hi' : i < ds.length := by omega
  have hl : (ds.take i).length = i := by rw [List.length_take]; omega
  have q := hs (ds.take i) ds[i] (ds.drop (i + 1)) x H H' (split_at hi') p (by rw [hl]; exact y)
  rw [take_snoc hi']
  exact q
/-- a comprehension that changes nothing that stood: what it gives, item by item -/
theorem lc_pure (w : Walk J n G Y) (ds : List α) (hn : ds.length = n) (hb : n ≤ 10000) (out : α → Option β) (R : Hp → V → β → Prop) (mono : ∀ {H H'}, Tk H H' → ∀ v b, R H v b → R H' v b) {g : TG} {tt : TT} {te : TE} {vs : List Nat} {σ : L2.St} {H1 : Hp} {D : Addr} {Qd : Hp → Prop}
    (hD : H1 D = none) (hG : ∀ H, Same H1 H → G H)
    (turn : ∀ pre d post x H H', ds = pre ++ d :: post → Same H1 H → Y pre.length H x H' → ∀ (Ky : V → Hp → Prop) (Kn : Hp → Prop), (∀ y b H4, out d = some b → Same H H4 → R H4 y b → Ky y H4) → (∀ H3, out d = none → Same H H3 → Kn H3) →
      g x (wipe σ vs) H' fun σ2 H2 => wipe σ2 vs = wipe σ vs ∧ tt σ2 H2 fun c H3 => if c = true then te σ2 H3 Ky else Kn H3)
    (fin : ∀ H, Same H1 H → LR R H D (ds.filterMap out) → Qd H) :
    ∃ W : Nat → Nat → Hp → Prop, (∃ m, W 0 m (upd H1 D (.lst []))) ∧ ∀ i m H, W i m H →
      (J.stop i H ∧ Qd H) ∨ (J.go i H ∧ ∃ Nx : Hp → Prop, (∀ H', Nx H' → ∃ m', m' < m ∧ W (i + 1) m' H') ∧ ∀ x H', J.yld i H x H' → g x (wipe σ vs) H' fun σ2 H2 => wipe σ2 vs = wipe σ vs ∧ tt σ2 H2 fun b H3 =>
        if b = true then te σ2 H3 fun y H4 => ∃ acc, H4 D = some (.lst acc) ∧ acc.length < sizeLine ∧ Nx (upd H4 D (.lst (acc ++ [y]))) else Nx H3) := by
  refine lc_pre w ds hn (fun pre H => pre.length ≤ 10000 ∧ Same H1 H ∧ LR R H D (pre.filterMap out)) ⟨Nat.zero_le _, Same.upd hD, [], upd_same, .nil⟩ (fun pre H p => hG H p.2.1) (fun pre d post x H H' e p y => ?_) (fun H p => fin H p.2.1 p.2.2)
  obtain ⟨hl, s, ys, hy, pr⟩ := p
  have hl2 : (pre ++ [d]).length ≤ 10000 := by
    have := congrArg List.length e
    rw [List.length_append, List.length_cons] at this
    rw [List.length_append, List.length_singleton]
    omega
  have hyl : ys.length ≤ 10000 := by rw [Paired.length pr]; exact Nat.le_trans (List.length_filterMap_le _ _) hl
  refine turn pre d post x H H' e s y _ _ (fun y b H4 eo s4 r => ?_) (fun H3 eo s3 => ?_)
  · have h4 := s4 _ _ hy
    refine ⟨ys, h4, szl (by omega), hl2, (s.trans s4).mut hD, _, upd_same, ?_⟩
    have t : Tk H4 (upd H4 D (.lst (ys ++ [y]))) := Tk.upd h4 nt_l
    rw [List.filterMap_append, List.filterMap_cons, eo]
    exact Paired.app (Paired.mapP pr fun v c r => mono (s4.ts.trans t) v c r) (.cons (mono t _ _ r) .nil)
  · refine ⟨hl2, s.trans s3, ys, s3 _ _ hy, ?_⟩
    rw [List.filterMap_append, List.filterMap_cons, eo]
    show Paired _ _ (_ ++ [])
    rw [List.append_nil]
    exact Paired.mapP pr fun v c r => mono s3.ts v c r
end
theorem walk_tupS {K : PySem.W.Frag} {a : Addr} {xs : List V} : Walk (Itt K a) xs.length (fun H => SqT K H a xs) (YAt xs) := walk_tup
/-- bools alone -/
def BR (_ : Hp) (v : V) (b : Bool) : Prop := v = .bl b
def IR (_ : Hp) (v : V) (b : Int) : Prop := v = .int b
def SR (_ : Hp) (v : V) (b : Str) : Prop := v = .str b
theorem BR.list {H : Hp} {vs : List V} {bs : List Bool} (h : Paired (BR H) vs bs) : vs = bs.map V.bl := by
  induction h with
  | nil => rfl
  | cons f _ ih => rw [List.map_cons, ← ih, f]
theorem IR.list {H : Hp} {vs : List V} {bs : List Int} (h : Paired (IR H) vs bs) : vs = bs.map V.int := by
  induction h with
  | nil => rfl
  | cons f _ ih => rw [List.map_cons, ← ih, f]
theorem SR.list {H : Hp} {vs : List V} {bs : List Str} (h : Paired (SR H) vs bs) : vs = bs.map V.str := by
  induction h with
  | nil => rfl
  | cons f _ ih => rw [List.map_cons, ← ih, f]
theorem BR.sq {K : PySem.W.Frag} {H : Hp} {p : Addr} {bs : List Bool} (h : LR BR H p bs) : SqL K H p (bs.map V.bl) := by
  obtain ⟨vs, h, r⟩ := h
  rw [BR.list r] at h
  exact SqL.of h
theorem fm_some {α β : Type} (f : α → β) (l : List α) : l.filterMap (fun x => some (f x)) = l.map f := by
  induction l with
  | nil => rfl
  | cons a l ih => rw [List.filterMap_cons, List.map_cons, ih]
theorem all_true {α : Type} (l : List α) : ((l.map fun _ => true).all id) = true := by
  rw [List.all_map]
  exact List.all_eq_true.mpr fun _ _ => rfl
theorem sub_pre {α : Type} {ds pre post : List α} {d : α} (e : ds = pre ++ d :: post) : d ∈ ds := by rw [e]; simp

/-! ### comprehensions and loops in a reading -/
def LcG (J : It) (g : TG) (tt : TT) (te : TE) (vs : List Nat) (σ : L2.St) (Q : VK) (H1 : Hp) : Prop := ∀ D, H1 D = none → ∃ W : Nat → Nat → Hp → Prop, (∃ m, W 0 m (upd H1 D (.lst []))) ∧ ∀ i m H, W i m H →
  (J.stop i H ∧ Q (.ref D) H) ∨ (J.go i H ∧ ∃ Nx : Hp → Prop, (∀ H', Nx H' → ∃ m', m' < m ∧ W (i + 1) m' H') ∧ ∀ x H', J.yld i H x H' → g x (wipe σ vs) H' fun σ2 H2 => wipe σ2 vs = wipe σ vs ∧ tt σ2 H2 fun b H3 =>
    if b = true then te σ2 H3 fun y H4 => ∃ acc, H4 D = some (.lst acc) ∧ acc.length < sizeLine ∧ Nx (upd H4 D (.lst (acc ++ [y]))) else Nx H3)
def ForG (J : It) (g : TG) (tb : TS) (D : Ends) (σ : L2.St) (H1 : Hp) : Prop := ∃ W : Nat → Nat → L2.St → Hp → Prop, (∃ m, W 0 m σ H1) ∧ ∀ i m σ H, W i m σ H →
  (J.stop i H ∧ D.nx σ H) ∨ (J.go i H ∧ ∃ N : L2.St → Hp → Prop, (∀ σ' H', N σ' H' → ∃ m', m' < m ∧ W (i + 1) m' σ' H') ∧ ∀ x H', J.yld i H x H' → g x σ H' fun σ2 H2 => tb { D with nx := N, ct := N, bk := D.nx } σ2 H2)
section
variable {K : PySem.W.Frag} {σ : L2.St} {H H0 H1 : Hp} {Q : VK} {te tl : TE} {tt : TT} {ta : TA} {tb : TS} {D : Ends} {g : TG} {wi : TI} {vs : List Nat} {R : It → Hp → Prop} {a : Addr} {xs : List V}
theorem i_lc (q : wi σ H fun J H1 => LcG J g tt te vs σ Q H1) : tLc wi g tt te vs σ H Q := q
theorem i_for (q : wi σ H fun J H1 => ForG J g tb D σ H1) : tFor wi g tb D σ H := q
theorem i_iTup (q : tl σ H fun x H1 => ∃ a, x = .ref a ∧ (∃ xs, SqT K H1 a xs) ∧ R (Itt K a) H1) : iTup K tl σ H R := q
theorem i_iList (q : tl σ H fun x H1 => ∃ a, x = .ref a ∧ (∃ xs, SqL K H1 a xs) ∧ R (Itl K a) H1) : iList K tl σ H R := q
theorem i_tupW {z : Addr → Prop} (h : SqT K H a xs) (q : z a) : ∃ b, V.ref a = V.ref b ∧ (∃ xs, SqT K H b xs) ∧ z b := ⟨a, rfl, ⟨xs, h⟩, q⟩
theorem i_listW {z : Addr → Prop} (h : SqL K H a xs) (q : z a) : ∃ b, V.ref a = V.ref b ∧ (∃ xs, SqL K H b xs) ∧ z b := ⟨a, rfl, ⟨xs, h⟩, q⟩
theorem i_iRng1 (q : ta σ H fun vs H1 => ∃ j : Int, vs = [.int j] ∧ -(2 ^ 62) ≤ j ∧ j < 2 ^ 62 ∧ R (Itr 0 j.toNat) H1) : iRng1 ta σ H R := q
theorem i_rng1 {z : Int → Prop} {j : Int} (h : -(2 ^ 62) ≤ j ∧ j < 2 ^ 62) (q : z j) : ∃ i : Int, [V.int j] = [V.int i] ∧ -(2 ^ 62) ≤ i ∧ i < 2 ^ 62 ∧ z i := ⟨j, rfl, h.1, h.2, q⟩
theorem i_iRng2 (q : ta σ H fun vs H1 => ∃ i j : Int, vs = [.int i, .int j] ∧ (-(2 ^ 62) ≤ i ∧ i < 2 ^ 62 ∧ -(2 ^ 62) ≤ j ∧ j < 2 ^ 62) ∧ R (Itr i (j - i).toNat) H1) : iRng2 ta σ H R := q
theorem i_rng2 {z : Int → Int → Prop} {k j : Int} (h : -(2 ^ 62) ≤ k ∧ k < 2 ^ 62 ∧ -(2 ^ 62) ≤ j ∧ j < 2 ^ 62) (q : z k j) : ∃ i j' : Int, [V.int k, V.int j] = [V.int i, V.int j'] ∧ (-(2 ^ 62) ≤ i ∧ i < 2 ^ 62 ∧ -(2 ^ 62) ≤ j' ∧ j' < 2 ^ 62) ∧ z i j' := ⟨k, j, rfl, h, q⟩
theorem i_iStr (q : te σ H fun v H1 => ∃ x, v = .str x ∧ R (Its x) H1) : iStr te σ H R := q
theorem i_strW {z : Str → Prop} {y : Str} (q : z y) : ∃ x, V.str y = V.str x ∧ z x := ⟨y, rfl, q⟩
variable {α β : Type} {J : It} {n : Nat} {G : Hp → Prop} {Y : Nat → Hp → V → Hp → Prop}
theorem lcg_pure (w : Walk J n G Y) (s : Same H0 H1) (ds : List α) (hn : ds.length = n) (hb : n ≤ 10000) (out : α → Option β) (R : Hp → V → β → Prop) (mono : ∀ {H H'}, Tk H H' → ∀ v b, R H v b → R H' v b) (hG : ∀ H, Same H1 H → G H)
    (turn : ∀ pre d post x H H', ds = pre ++ d :: post → Same H1 H → Same H0 H → Y pre.length H x H' → ∀ (Ky : V → Hp → Prop) (Kn : Hp → Prop), (∀ y b H4, out d = some b → Same H H4 → R H4 y b → Ky y H4) → (∀ H3, out d = none → Same H H3 → Kn H3) →
      g x (wipe σ vs) H' fun σ2 H2 => wipe σ2 vs = wipe σ vs ∧ tt σ2 H2 fun c H3 => if c = true then te σ2 H3 Ky else Kn H3)
    (fin : ∀ D H, H1 D = none → H0 D = none → Same H1 H → Same H0 H → LR R H D (ds.filterMap out) → Q (.ref D) H) : LcG J g tt te vs σ Q H1 := fun D hD =>
  lc_pure w ds hn hb out R mono hD hG (fun pre d post x H H' e s' y => turn pre d post x H H' e s' (s.trans s') y) fun H s' l => fin D H hD (s.free hD) s' (s.trans s') l
/-- one that gives True each time -/
theorem lcg_true (w : Walk J n G Y) (s : Same H0 H1) (ds : List α) (hn : ds.length = n) (hb : n ≤ 10000) (hG : ∀ H, Same H1 H → G H)
    (turn : ∀ pre d post x H H', ds = pre ++ d :: post → Same H1 H → Same H0 H → Y pre.length H x H' → ∀ (Ky : V → Hp → Prop), (∀ H4, Same H H4 → Ky (.bl true) H4) → g x (wipe σ vs) H' fun σ2 H2 => wipe σ2 vs = wipe σ vs ∧ te σ2 H2 Ky)
    (fin : ∀ D H, Same H1 H → Same H0 H → SqL K H D ((ds.map fun _ => true).map V.bl) → Q (.ref D) H) : LcG J g tYes te vs σ Q H1 :=
  lcg_pure (tt := tYes) (β := Bool) w s ds hn hb (fun _ => some true) BR (fun _ _ _ h => h) hG (fun pre d post x H H' e s1 s2 y Ky Kn ky _ => turn pre d post x H H' e s1 s2 y Ky fun H4 s4 => ky _ _ _ rfl s4 rfl)
    (fun D H _ _ s1 s2 l => fin D H s1 s2 (by rw [fm_some] at l; exact BR.sq l))
theorem forg_pre (w : Walk J n G Y) (ds : List α) (hn : ds.length = n) (Pv : List α → L2.St → Hp → Prop) (h0 : Pv [] σ H) (hG : ∀ pre σ H, Pv pre σ H → G H)
    (hs : ∀ pre d post x σ H H', ds = pre ++ d :: post → Pv pre σ H → Y pre.length H x H' → g x σ H' fun σ2 H2 => tb { D with nx := Pv (pre ++ [d]), ct := Pv (pre ++ [d]), bk := D.nx } σ2 H2) (hd : ∀ σ H, Pv ds σ H → D.nx σ H) : ForG J g tb D σ H := for_pre w ds hn Pv h0 hG hs hd
end
end Wl

/-! ## rules that the hand layer lacks: enumerate of a tuple, dict of pairs whose keys are tuples, pop of a tuple key that is there, len(set(texts)) -/
namespace Wl
open PySem PySem.Spec PyProof.Rows L2
/-! ### enumerate(t), t a tuple -/
theorem en_new {v : Value} {o : Obj} {Hh : Heap → Prop} (B : Begins v o Hh) : Meets (Builtin.«enumerate.__new__» ⟨[.type "enumerate", v], []⟩) (fun _ R s => Hh s.heap ∧ R (.ok (.ret (.ref (s.heap.push o).objs.size)))
      { s with heap := (s.heap.push o).push { cls := .type "enumerate", data := .fields #[.none, .bool false, .ref s.heap.objs.size, rawInt 0, .none, .none] } }) := .of_wp fun prog w A R s0 hh => by
  obtain ⟨hp, gs, dr, tok, osy⟩ := s0
  obtain ⟨hv, fin⟩ := hh
  have sub1 := sub_enumerate
  have goIter : ∀ {A' : Around} {E : Value → Shared → Prop} {Q : Value → Shared → Prop}, Q (.ref hp.objs.size) ⟨hp.push o, gs, dr, tok, osy⟩ → wpAny (model prog w) A' (pyIter v) Q E ⟨hp, gs, dr, tok, osy⟩ := fun q => B.iter prog w _ _ ⟨hp, gs, dr, tok, osy⟩ _ hv q
  wp_walk using goIter
  refine wpAny_stack_any fun stk => wpAny_pure ?_
  split
  · rename_i cc _ _ _ _ _
    cases (cc == Value.type "enumerate") <;> (wp_walk using goIter; exact ⟨_, rfl, fin⟩)
  · wp_walk using goIter
    exact ⟨_, rfl, fin⟩
section
variable {prog : Program} {w : World} {A : Around} {E : Value → Shared → Prop} {s : Shared}
theorem en_call {v : Value} {o : Obj} {Hh : Heap → Prop} {Q : Value → Shared → Prop} (B : Begins v o Hh) (hv : Hh s.heap)
    (k : ∀ h', IsEnum h' (s.heap.objs.size + 1) s.heap.objs.size 0 .none → h'.get? s.heap.objs.size = some o → (∀ b u, s.heap.get? b = some u → h'.get? b = some u) → Q (.ref (s.heap.objs.size + 1)) { s with heap := h' }) :
    wpAny (model prog w) A (call (.type "enumerate") [v]) Q E s := by
  refine callType_new PySem.F.called_enumerate (by decide) (PySem.F.typeCall_enumerate_1 _) (PySem.F.newCall_enumerate_1 _) (fun ob => PySem.F.args_object_init_2 ob _) PySem.F.entry_enumerate_new (en_new B) ⟨hv, ?_⟩
  have sz : (s.heap.push o).objs.size = s.heap.objs.size + 1 := Heap.size_push ..
  have at1 : IsEnum ((s.heap.push o).push { cls := .type "enumerate", data := .fields #[.none, .bool false, .ref s.heap.objs.size, rawInt 0, .none, .none] }) (s.heap.objs.size + 1) s.heap.objs.size 0 .none := by
    have z := Heap.get?_push_size (s.heap.push o) (o := { cls := .type "enumerate", data := .fields #[.none, .bool false, .ref s.heap.objs.size, rawInt 0, .none, .none] }) rfl
    rwa [sz] at z
  show _ ∧ _
  rw [sz]
  exact ⟨⟨_, at1, rfl⟩, k _ at1 (Heap.get?_push_of_some _ (Heap.get?_push_size _ B.free)) fun b u x => Heap.get?_push_of_some _ (Heap.get?_push_of_some _ x)⟩
end
/-- the tuple at a, each item in a new pair -/
def ItE (K : PySem.W.Frag) (a : Addr) : It :=
  ⟨fun i H => ∃ (xs : List V) (x : V), SqT K H a xs ∧ xs[i]? = some x,
   fun i H v H' => ∃ p x, v = .ref p ∧ H p = none ∧ H' = upd H p (.tup [.int (i : Nat), x]) ∧ ∀ xs, SqT K H a xs → xs[i]? = some x,
   fun i H => ∃ xs : List V, SqT K H a xs ∧ xs.length ≤ i⟩
theorem en_turn {P : Program} {w : World} {K : PySem.W.Frag} {elts : List Expr} {kk : Nat} {tpos : Pos} (a e it : Addr) :
    Turn P w K (.Tuple elts kk tpos) (ItE K a) [e, it] e (fun i h => (∃ old, IsEnum h e it ((i : Nat) : Int) old) ∧ h.IsTupleIter it a i ∧ e ≠ it) where
  mem := by simp
  obj := fun i h st b hb => by
    obtain ⟨⟨old, he⟩, ⟨oi, h1, _, h3⟩, _⟩ := st
    rcases (show b = e ∨ b = it by simpa using hb) with rfl | rfl
    · exact ⟨_, he, fun v z => nomatch z⟩
    · exact ⟨oi, h1, fun v z => by rw [h3] at z; cases z⟩
  keep := fun i h h' ⟨⟨old, he⟩, hi, hn⟩ kp => ⟨⟨old, kp e (by simp) _ he⟩, hi.at fun o z => kp it (by simp) o z, hn⟩
  item := by
    intro X hP hw hK hc i pins s σ H E I hf st hg
    subst hP hw hK
    obtain ⟨⟨old, he⟩, hit, hne⟩ := st
    obtain ⟨xs, x, hq, hx⟩ := hg
    obtain ⟨its, rv, pt, _⟩ := I.tuple hq
    obtain ⟨u, hu, ru⟩ := rv.get hx
    have pt2 : s.heap.IsTuple a its.toArray := pt
    obtain ⟨oa, ha1, ha2, _⟩ := id pt2
    have a_it : a ≠ it := fun z => by
      obtain ⟨oi, h1, h2, _⟩ := hit
      rw [z, h1] at ha1; cases ha1; rw [h2] at ha2; injection ha2 with q; exact absurd q (by decide)
    have e_a : e ≠ a := fun z => by
      rw [← z, he] at ha1; cases ha1; injection ha2 with q; exact absurd q (by decide)
    have dr := Draws.tuple (prog := X.prog) (w := X.w) (A := X.A.in1) (by simp [I.ok.hd hc]) it a a_it its.toArray
    have el : e < s.heap.objs.size := Heap.lt_size he
    have il : it < s.heap.objs.size := by obtain ⟨_, z, _⟩ := hit; exact Heap.lt_size z
    have lt_i : i < its.toArray.size := by
      have := (List.getElem?_eq_some_iff.mp hu).1
      simpa using this
    refine wpAny_pyNext_enum_itemD dr he ⟨hit, pt2⟩ lt_i hne (by simp [hne, e_a]) fun y h' tk hy ho st' hT hsz hk => ?_
    have hyu : y = u := by
      have z : its.toArray[i]? = some u := by simpa using hu
      rw [z] at hy
      exact (Option.some.inj hy).symm
    subst hyu
    refine ⟨_, rfl, wpAny_letOwnedTupleGo_enum (s := { s with heap := h', toks := tk + 1 }) ho fun h'' he' sb => ?_⟩
    have tT : h''.get? s.heap.objs.size = some { cls := .type "tuple", data := .seq #[.int i tk, y] } := (sb.2 _ (Nat.ne_of_gt el)).trans hT
    have nw : ObjOk X.prog X.w (upd H s.heap.objs.size (.tup [.int (i : Nat), x])) h'' s.heap.objs.size (.tup [.int (i : Nat), x]) := ⟨by show 2 ≤ sizeLine; decide, [.int i tk, y], .cons ⟨_, rfl⟩ (.cons ru .nil), ⟨_, tT, rfl, _, rfl⟩⟩
    have J := I.turnedNew (t' := tk + 1) (ch := [e, it]) (fun b ob hb z => (sb.2 b fun q => hb (by simp [q])).trans (hk b ob (fun q => hb (by simp [q])) (fun q => hb (by simp [q])) z)) hf (Nat.le_refl _) nw
    refine ⟨.ref s.heap.objs.size, _, J, rfl, ⟨_, x, rfl, I.hok.fresh (Nat.le_refl _), rfl, fun ys hy => by rw [I.tuple_inj hy hq]; exact hx⟩, ⟨⟨y, ?_⟩, st'.1.at fun o z => (sb.2 it (Ne.symm hne)).trans z, hne⟩, fun b hb => ?_⟩
    · rw [show ((i + 1 : Nat) : Int) = (i : Int) + 1 by omega]
      exact he'
    · have bl : b < s.heap.objs.size := by
        rcases (show b = e ∨ b = it by simpa using hb) with rfl | rfl
        · exact el
        · exact il
      rw [upd_ne (Nat.ne_of_lt bl)]
      exact (hf b hb).1
  done := by
    intro X hP hw hK hc i pins s σ H E I hf st hg
    subst hP hw hK
    obtain ⟨⟨old, he⟩, hit, hne⟩ := st
    obtain ⟨xs, hq, hx⟩ := hg
    obtain ⟨its, rv, pt, _⟩ := I.tuple hq
    obtain ⟨f0, f1, f2, f3, f4, f5⟩ := hf it (by simp)
    have pt2 : s.heap.IsTuple a its.toArray := pt
    obtain ⟨oa, ha1, ha2, _⟩ := id pt2
    have a_it : a ≠ it := fun z => by
      obtain ⟨oi, h1, h2, _⟩ := hit
      rw [z, h1] at ha1; cases ha1; rw [h2] at ha2; injection ha2 with q; exact absurd q (by decide)
    have hh : X.A.in1.handled = none := by simp [I.ok.hd hc]
    have len := rv.length
    -- at the end whatever the turn's number
    have dr : Draws X.prog X.w X.A.in1 it [it, a] i (fun _ _ => False) (fun j h => j = i ∧ h.IsTupleIter it a i ∧ h.IsTuple a its.toArray) :=
      { live := fun _ _ st => let ⟨o, ho, _⟩ := st.2.1; ⟨o, ho⟩
        frame := fun _ _ _ st kp => ⟨st.1, st.2.1.at fun o z => kp it (by simp) o z, st.2.2.at fun o z => kp a (by simp) o z⟩
        item := fun j s' Q E hj st _ => absurd st.1 (Nat.ne_of_lt hj)
        done := fun s' Q E st hE => wpAny_nextOf_tuple_end hh st.2.1 st.2.2 (by simp; omega) hE }
    exact wpAny_pyNext_enum_endD dr he ⟨rfl, hit, pt2⟩ fun h' eb => ⟨rfl, I.turned (t' := s.toks) (fun b o hb z => eb b o hb z) f0 f1 f3 f4 f5⟩
  self := fun A i s Q E st h => let ⟨⟨_, he⟩, _⟩ := st; wpAny_pyIter_enum he h
def iEnT (K : PySem.W.Frag) (ta : TA) : TI := fun σ H R => ta σ H fun vs H1 => ∃ a xs, vs = [.ref a] ∧ SqT K H1 a xs ∧ R (ItE K a) H1
theorem pi_enumT {X : Cx} {K : PySem.W.Frag} {e : Expr} {ta : TA} {p pos tpos : Pos} {elts : List Expr} {kk : Nat} (hK : X.K = K) (hg : Gl X "enumerate") (hm : X.mg "enumerate" = none) (ha : PA X [e] ta) (hs : starEach [e] X.env = [(false, eval e X.env)] := by rfl) :
    PI X (.Tuple elts kk tpos) (.Call (.Name "enumerate" p) [e] [] pos) (iEnT K ta) := by
  subst hK
  refine ⟨fun pins s σ H R I h => ?_⟩
  refine Call_ (ld_blt I hg hm boot_enumerate (PyProof.Rows.callWith_type1 (thn (ha.run pos pins s σ H _ I h) fun us s1 ⟨vs, H1, I1, r1, q1⟩ => ?_) hs rfl))
  obtain ⟨a, xs, rfl, hq, q⟩ := q1
  match r1 with
  | .cons r .nil =>
    cases r
    obtain ⟨its, rv, pt, _⟩ := I1.tuple hq
    refine en_call (begins_tuple a its.toArray) pt fun h' he hit hk => wpAny_pyIter_enum he ?_
    have J : Inv X pins σ H1 { s1 with heap := h' } := I1.kept (t' := s1.toks) hk
    refine ⟨s1.heap.objs.size + 1, [s1.heap.objs.size + 1, s1.heap.objs.size], _, _, H1, rfl, J, en_turn a (s1.heap.objs.size + 1) s1.heap.objs.size, ⟨⟨.none, he⟩, ⟨_, hit, rfl, rfl⟩, Nat.succ_ne_self _⟩, fun b hb => ?_, q⟩
    have hle : s1.heap.objs.size ≤ b := by
      rcases (show b = s1.heap.objs.size + 1 ∨ b = s1.heap.objs.size by simpa using hb) with z | z
      · rw [z]; exact Nat.le_add_right _ _
      · rw [z]; exact Nat.le_refl _
    exact I1.fpOk hle (I1.hok.fresh hle)
theorem walk_enT {K : PySem.W.Frag} {a : Addr} {xs : List V} : Walk (ItE K a) xs.length (fun H => SqT K H a xs) (YPair (fun i => some (.int (i : Nat))) (fun i => xs[i]?)) :=
  ⟨fun i H hi h => ⟨xs, _, h, List.getElem?_eq_getElem hi⟩, fun H h => ⟨xs, h, Nat.le_refl _⟩, fun i H x H' _ h ⟨p, y, e1, e2, e3, e4⟩ => ⟨p, _, y, e1, e2, e3, rfl, e4 xs h⟩⟩

/-! ### d.pop(k), k a tuple that is there -/
section
variable {X : Cx}
def rPopX : V → List V → Hp → VK → Prop := fun x xs H Q => ∃ (a : Addr) (kvs : List (List L2.Key × V)) (k : List L2.Key) (b : Addr) (v : V), x = .ref a ∧ xs = [.ref b] ∧ H a = some (.dT kvs) ∧ H b = some (.tup (k.map kV)) ∧ valV kvs k = some v ∧ Q v (upd H a (.dT (dropK kvs k)))
theorem mt_popX (hu : X.A.units + 1 < cLine) : MtR X "dict.pop" rPopX := by
  intro pins s σ H x xs vx us Q I rx rxs h
  obtain ⟨a, kvs, k, b, v, rfl, rfl, ha, hb, hv, q⟩ := h
  cases rx
  obtain ⟨u1, rfl, r1⟩ := vals1 rxs
  cases r1
  obtain ⟨z, hd, tr, rel, dd⟩ := dt_of I.hok ha
  have hz : tr.length ≤ sizeLine := by rw [← Paired.length rel]; exact z
  have rr := rel.val k
  rw [hv] at rr
  obtain ⟨p, hp, rp⟩ : ∃ p, atKey tr k = some p ∧ RelV v p.2 := by
    cases e : atKey tr k with
    | none => rw [e] at rr; exact (show False from rr).elim
    | some p => rw [e] at rr; exact ⟨p, rfl, rr⟩
  refine call_pop_heap (more := []) (.inl rfl) (PySem.F.args_dict_pop_2 _ _) (tupleKind_room_in1 hu) (key_of I.hok hb) hd dd hp (fun h' dd' sb => ?_) hz
  obtain ⟨o, es, ep, ho, h2, h3, h4, _, h5⟩ := dd'
  have J : Inv X pins σ (upd H a (.dT (dropK kvs k))) { s with heap := h', toks := s.toks + (tupleKind (mixKind X.prog X.w)).draws k } :=
    d_write I (by rw [ha]; exact True.intro) sb ⟨o, ho⟩ ⟨Nat.le_trans (dropK_le kvs k) z, hd, _, (DX.KT_drop k rel).keeps fun c ys ec => by rw [upd_ne (ne_of ec ha (fun z => nomatch z))]; exact ec, o, es, ep, ho, h2, h3, h4, h5⟩
  exact ⟨v, _, J, rp, q⟩
end
end Wl

namespace Wl
open PySem PySem.Spec PyProof.Rows L2
/-! ### dict(ps), ps a list of pairs whose keys are tuples, no two alike -/
theorem storedAll_new {κ : Type} [DecidableEq κ] : ∀ (ps acc : List (κ × Addr × Value)), ((acc ++ ps).map (·.1)).Nodup → storedAllH acc ps = acc ++ ps
  | [], acc, _ => by rw [List.append_nil]; rfl
  | p :: ps, acc, h => by
    have e : storedH acc p.1 p.2.1 p.2.2 = acc ++ [p] := storedH_new (atKey_none_of_get fun j q hj => by
      have m : p.1 ∈ acc.map (·.1) := List.mem_map.mpr ⟨(p.1, q), List.mem_of_getElem? hj, rfl⟩
      rw [List.map_append, List.map_cons, List.nodup_append] at h
      exact h.2.2 _ m _ (List.mem_cons_self ..) rfl) _ _
    have ih := storedAll_new ps (acc ++ [p]) (by rw [List.append_assoc]; exact h)
    show storedAllH (storedH acc p.1 p.2.1 p.2.2) ps = _
    rw [e, ih, List.append_assoc]
    rfl
section
variable {X : Cx} {pins : List (Addr × Obj)} {σ : L2.St} {H : Hp} {s : Shared}
/-- pair and key of each entry -/
def PairT (H : Hp) (p : Addr × Addr) (kv : List L2.Key × V) : Prop := H p.1 = some (.tup [.ref p.2, kv.2]) ∧ H p.2 = some (.tup (kv.1.map kV))
theorem trips_of (I : Inv X pins σ H s) {ps : List (Addr × Addr)} {kvs : List (List L2.Key × V)} (hp : Paired (PairT H) ps kvs) : ∃ tr : List (List L2.Key × Addr × Value), KT H kvs tr ∧ tr.length = ps.length ∧ ∀ (j : Nat) k b u, tr[j]? = some (k, b, u) → ∃ T, ps[j]? = some (T, b) ∧ s.heap.IsTuple T #[.ref b, u] := by
  induction hp with
  | nil => exact ⟨[], .nil, rfl, fun j k b u h => by simp at h⟩
  | @cons p kv l1 l2 f t ih =>
    obtain ⟨tr, h1, h2, h3⟩ := ih
    have ob : ObjOk X.prog X.w H s.heap p.1 (.tup [.ref p.2, kv.2]) := I.hok _ _ f.1
    obtain ⟨_, its, rv, pt⟩ := ob
    cases rv with
    | cons r1 t1 =>
      cases t1 with
      | @cons _ u2 _ _ r2 t2 =>
        cases t2
        cases r1
        refine ⟨(kv.1, p.2, u2) :: tr, .cons ⟨rfl, f.2, r2⟩ h1, by rw [List.length_cons, List.length_cons, h2], fun j k b u h => ?_⟩
        cases j with
        | zero =>
          rw [List.getElem?_cons_zero] at h
          cases h
          exact ⟨p.1, rfl, pt⟩
        | succ j =>
          rw [List.getElem?_cons_succ] at h
          exact h3 j k b u h
def rDictX (K : PySem.W.Frag) : List V → Hp → VK → Prop := fun xs H Q => ∃ (a : Addr) (ps : List (Addr × Addr)) (kvs : List (List L2.Key × V)), xs = [.ref a] ∧ SqL K H a (ps.map fun p => V.ref p.1) ∧ Paired (PairT H) ps kvs ∧ (kvs.map (·.1)).Nodup ∧ NewO (.dT kvs) Q H
theorem call_dictX {K : PySem.W.Frag} (hK : X.K = K) (hc : X.calm = true) (hu : X.A.units + 64 < cLine) : CallR X (.type "dict") (rDictX K) := by
  subst hK
  intro pins s σ H xs us Q I r h
  obtain ⟨a, ps, kvs, rfl, hq, hp, hn, q⟩ := h
  obtain ⟨u, rfl, ru⟩ := vals1 r
  cases ru
  obtain ⟨its, rv, ⟨o, n, ho, hcl, hd, hdat⟩, hz⟩ := I.list hq
  obtain ⟨tr, kt, hl, hat⟩ := trips_of I hp
  have hits : ∀ j T b, ps[j]? = some (T, b) → its[j]? = some (Value.ref T) := fun j T b e => by
    obtain ⟨u, h1, h2⟩ := rv.get (i := j) (x := V.ref T) (by rw [List.getElem?_map, e]; rfl)
    cases h2
    exact h1
  have hlen : its.length = ps.length := by rw [← rv.length, List.length_map]
  have hn2 : (tr.map (·.1)).Nodup := by
    have e : kvs.map (·.1) = tr.map (·.1) := by
      clear hat hl hn hp q
      induction kt with
      | nil => rfl
      | cons f _ ih => rw [List.map_cons, List.map_cons, ih, f.1]
    rw [← e]; exact hn
  have stay : KeysStay (tupleKind (mixKind X.prog X.w)) s.heap s.heap.objs.size [] tr := fun h' kp x hx => by
    have key : ∀ {l : List (List L2.Key × V)} {m : List (List L2.Key × Addr × Value)}, KT H l m → ∀ x ∈ m, H x.2.1 = some (.tup (x.1.map kV)) := by
      intro l m z
      induction z with
      | nil => intro x hx; cases hx
      | cons f _ ih =>
        intro x hx
        rcases List.mem_cons.mp hx with rfl | hx
        · rw [← f.1]; exact f.2.1
        · exact ih x hx
    obtain ⟨o2, its2, n2, h1, h2, h3, h4⟩ := key_of I.hok (key kt x hx)
    exact ⟨o2, its2, n2, kp _ _ (Nat.ne_of_lt (Heap.lt_size h1)) (by simp) h1, h2, h3, h4⟩
  refine call_dict_pairsH (knd := tupleKind (mixKind X.prog X.w)) (ps := tr) (PairArg.list a its.toArray (fun j => (ps[j]?.map (·.1)).getD 0) (tr.map fun t => (.ref t.2.1, t.2.2))) (I.ok.hd hc) (tupleKind_room_in1 (knd := mixKind X.prog X.w) (A := X.A.in1) (by show X.A.units + 1 + 1 < cLine; omega))
    ⟨⟨o, n, ho, hcl, hd, hdat⟩, by simp [hlen, hl], fun j k v e => ?_⟩ ⟨by simp, fun i key v e => ?_⟩ stay (by rw [List.length_map, hl, ← hlen, ← rv.length]; exact hz) fun h' tk dd kp => ?_
  · rw [List.getElem?_map] at e
    cases ht : tr[j]? with
    | none => rw [ht] at e; cases e
    | some t =>
      rw [ht] at e
      obtain ⟨k0, b0, u0⟩ := t
      cases e
      obtain ⟨T, h1, h2⟩ := hat j k0 b0 u0 ht
      exact ⟨by simpa [h1] using hits j T b0 h1, .inl (by show s.heap.IsTuple ((ps[j]?.map (·.1)).getD 0) #[.ref b0, u0]; rw [h1]; exact h2)⟩
  · have e' : (tr.map fun t => ((.ref t.2.1 : Value), t.2.2))[i]? = some (key, v) := e
    rw [List.getElem?_map] at e'
    cases ht : tr[i]? with
    | none => rw [ht] at e'; cases e'
    | some t =>
      rw [ht] at e'
      cases e'
      exact ⟨t.1, t.2.1, rfl, rfl⟩
  · rw [storedAll_new tr [] (by simpa using hn2), List.nil_append] at dd
    obtain ⟨o3, es, ep, h1, h2, h3, h4, _, h5⟩ := dd
    have hm : (s.heap.objs.size == sysModules) = false := beq_eq_false_iff_ne.mpr (Nat.ne_of_gt I.big)
    have fr : H s.heap.objs.size = none := I.hok.fresh (Nat.le_refl _)
    have hk3 : kvs.length ≤ sizeLine := by rw [Paired.length kt, hl, ← hlen, ← rv.length]; exact hz
    exact ⟨.ref s.heap.objs.size, upd H s.heap.objs.size (.dT kvs), I.laid (t' := tk) (fun b u e => kp b u (by simp) e) (Nat.le_refl _)
      ⟨hk3, hm, tr, kt.keeps fun b ys e => by rw [upd_ne (ne_of_none e fr)]; exact e, o3, es, ep, h1, h2, h3, h4, h5⟩, rfl, q _ fr⟩
end
theorem pi_enumK {X : Cx} {K : PySem.W.Frag} {e : Expr} {ta : TA} {p pos tpos : Pos} {elts : List Expr} {kk : Nat} (hK : X.K = K) (hg : Gl X "enumerate") (hm : X.mg "enumerate" = none) (ha : PA X [e] ta) (hs : starEach [e] X.env = [(false, eval e X.env)] := by rfl) :
    PI X (.Tuple elts kk tpos) (.Call (.Name "enumerate" p) [e] [] pos) (iEnum K ta) := by subst hK; exact pi_enum hg hm ha hs
/-! ### walks in a reading -/
section
variable {K : PySem.W.Frag} {σ : L2.St} {H : Hp} {ta : TA} {R : It → Hp → Prop} {a : Addr} {xs : List V}
theorem i_iEnT (q : ta σ H fun vs H1 => ∃ a xs, vs = [.ref a] ∧ SqT K H1 a xs ∧ R (ItE K a) H1) : iEnT K ta σ H R := q
theorem i_iEnum (q : ta σ H fun vs H1 => ∃ a xs, vs = [.ref a] ∧ SqL K H1 a xs ∧ R (Ite K a) H1) : iEnum K ta σ H R := q
theorem i_enTW {z : Addr → Prop} (h : SqT K H a xs) (q : z a) : ∃ b ys, [V.ref a] = [V.ref b] ∧ SqT K H b ys ∧ z b := ⟨a, xs, rfl, h, q⟩
theorem i_enLW {z : Addr → Prop} (h : SqL K H a xs) (q : z a) : ∃ b ys, [V.ref a] = [V.ref b] ∧ SqL K H b ys ∧ z b := ⟨a, xs, rfl, h, q⟩
end
end Wl

/-! ## len(set(xs)), xs a list of texts, no two alike -/
namespace Wl
open PySem PySem.Spec PyProof.Rows L2
/-- the first i texts, as a set -/
def memT (xs : List Str) (i : Nat) (z : Str) : Bool := (xs.take i).any (· == z)
theorem memT_succ {xs : List Str} {i : Nat} {x : Str} (hx : xs[i]? = some x) (z : Str) : memT xs (i + 1) z = (memT xs i z || decide (z = x)) := by
  unfold memT
  rw [List.take_add_one, hx, List.any_append]
  show ((xs.take i).any (· == z) || ([x].any (· == z))) = _
  congr 1
  rw [List.any_cons, List.any_nil, Bool.or_false]
  by_cases e : z = x
  · subst e; simp
  · rw [decide_eq_false e]
    exact beq_eq_false_iff_ne.mpr fun q => e q.symm
theorem memT_new {xs : List Str} (hn : xs.Nodup) {i : Nat} {x : Str} (hx : xs[i]? = some x) : memT xs i x = false := by
  unfold memT
  rw [List.any_eq_false]
  intro y hy e
  have ey : y = x := by simpa using e
  subst ey
  obtain ⟨j, hj, ej⟩ := List.getElem_of_mem hy
  rw [List.length_take] at hj
  rw [List.getElem_take] at ej
  obtain ⟨hi, ei⟩ := List.getElem?_eq_some_iff.mp hx
  have q := (List.getElem_inj (h₀ := by omega) (h₁ := hi) hn).mp (ej.trans ei.symm)
  omega
section
variable {prog : Program} {w : World} {A : Around} {R : Result → Shared → Prop} {It : Addr} {fp wr : List Addr} {G : Array GenState → Array GenState → Prop} {n : Nat} {Pv : Nat → Value → Prop} {St : Nat → Shared → Prop}
theorem set_loopT (W : WalksS prog w A.in1 It fp wr G n Pv St) (S : Addr) (off : S ∉ fp) (xs : List Str) (hsz : xs.length = n) (hn : xs.Nodup) (hsm : n ≤ 1000) (val : ∀ i v, Pv i v → ∃ t, v = .str (xs.getD i Str.empty) t) :
    ∀ (k i : Nat) (s : Shared), n - i = k → i ≤ n → St i s → s.heap.SetOf (PySem.strKind prog w) S (memT xs i) i →
      (∀ s', Moved (S :: wr) G s s' → s'.heap.SetOf (PySem.strKind prog w) S (memT xs n) n → R (.ok (.ret .none)) s') → codeAny (model prog w) A (.builtin "set.update.loop" ⟨[.ref S, .ref It], []⟩) R s := by
  have offw : S ∉ wr := fun z => off (W.sub _ z)
  have inS : ∀ b ∈ wr, b ∈ S :: wr := fun b hb => List.mem_cons_of_mem _ hb
  intro k
  induction k with
  | zero =>
    intro i s hk hi st hS fin
    obtain rfl : i = n := by omega
    refine codeAny_builtin PyProof.Rows.F.entry_set_update_loop ?_
    rw [Around.under_plainId PyProof.Rows.F.plain_set_update_loop _]
    refine wpAny_bind (W.done s _ _ st fun s' mv => ?_)
    obtain ⟨ob, es, ep, tb, ho, more⟩ := hS
    exact wpAny_pure (fin s' (mv.mono inS) ⟨ob, es, ep, tb, mv.heap S _ offw ho, more⟩)
  | succ k ih =>
    intro i s hk hi st hS fin
    have lt : i < n := by omega
    have hx : xs[i]? = some (xs.getD i Str.empty) := by rw [List.getD_eq_getElem?_getD, List.getElem?_eq_getElem (by omega)]; rfl
    refine codeAny_builtin PyProof.Rows.F.entry_set_update_loop ?_
    rw [Around.under_plainId PyProof.Rows.F.plain_set_update_loop _]
    refine wpAny_bind (W.item i s _ _ lt st fun v s' hv st' mv => ?_)
    obtain ⟨t, rfl⟩ := val i v hv
    obtain ⟨ob, es, ep, tb, ho, more⟩ := hS
    have hS1 : s'.heap.SetOf (PySem.strKind prog w) S (memT xs i) i := ⟨ob, es, ep, tb, mv.heap S _ offw ho, more⟩
    show wpAny _ A.in1 (holding [Value.str (xs.getD i Str.empty) t] (setAdd S (.str (xs.getD i Str.empty) t)) >>= _) _ _ s'
    refine wpAny_bind (wpAny_holding ?_)
    unfold setAdd
    refine wpAny_holding (wpAny_bind ((PySem.strKind prog w).pyHash (k := xs.getD i Str.empty) (strKind_is _ _ _ _) ?_))
    refine wpAny_setAddHashed_of (knd := PySem.strKind prog w) (s := { s' with toks := s'.toks + 1 }) (strKind_is _ _ _ _) rfl hS1 (by unfold scanBound; omega) fun h' sb hS2 => ?_
    have hS3 : h'.SetOf (PySem.strKind prog w) S (memT xs (i + 1)) (i + 1) := SetOf_congr hS2 (fun z => (memT_succ hx z).symm) (by rw [memT_new hn hx]; simp)
    refine wpAny_pure ⟨plainId_quiet PyProof.Rows.F.plain_set_update_loop _, ih (i + 1) _ (by omega) lt (W.frame _ s' _ _ st' (Nat.le_succ _) fun b hb o e => ?_) hS3 fun s2 mv2 hS4 => ?_⟩
    · exact (sb.2 b fun z : b = S => off (by rw [← z]; exact hb)).trans e
    · exact fin s2 (Moved.trans W.gtrans ((mv.mono inS).then_heap (Nat.le_succ _) fun b o hb e => (sb.2 b fun z : b = S => hb (by rw [z]; exact List.mem_cons_self)).trans e) mv2) hS4
end
section
variable {prog : Program} {w : World} {A : Around} {E : Value → Shared → Prop} {s : Shared}
theorem set_callT {l : Addr} {items : Array Value} {xs : List Str} {Q : Value → Shared → Prop} (hh : A.handled = none) (hl : s.heap.IsList l items) (hi : StrsAre items.toList xs) (hn : xs.Nodup) (hsm : xs.length ≤ 1000)
    (k : ∀ (h' : Heap) (tk : Nat), h'.SetOf (PySem.strKind prog w) s.heap.objs.size (memT xs items.size) items.size → (∀ b o, b < s.heap.objs.size → s.heap.get? b = some o → h'.get? b = some o) → Q (.ref s.heap.objs.size) { s with heap := h', toks := tk }) :
    wpAny (model prog w) A (call (.type "set") [.ref l]) Q E s := by
  obtain ⟨cls, tail, mro⟩ := PySem.F.called_set.mro
  have made := PySem.F.called_set.made
  have sub0 := PySem.F.called_set.sub
  refine wpAny_call (codeAny_of_tree ?_)
  show wpAny _ _ (callAny (.type "set") _) _ _ _
  refine wpAny_pure ⟨Code.quiet_builtin _ (by decide +kernel), codeAny_builtin PySem.F.entry_type_call ?_⟩
  rw [Around.under_plain (weight_type_call_type "set" [.ref l] []) rfl]
  have notTy := PySem.F.called_set.notType
  have canMk := PySem.F.called_set.canCreate
  have chk := PySem.F.typeCall_set_1 (.ref l)
  repeat (any_goals (first | assumption | wp_step))
  refine codeAny_mono (code_set_new_1 (.ref l) (E := E) (Q₁ := fun ob s₁ => ∃ led : Bool, ob = .ref s.heap.objs.size ∧ s₁ = { s with heap := s.heap.push { cls := .type "set", dict := none, data := .set #[] 0 (.fresh 0 0 led) } }) fun led => ⟨led, rfl, rfl⟩) fun rr s₁ hr => ?_
  match rr, hr with
  | .error e, hr => exact hr
  | .ok .next, hr => exact hr.elim
  | .ok .brk, hr => exact hr.elim
  | .ok .cont, hr => exact hr.elim
  | .ok (.ret ob), hr =>
    obtain ⟨led, rfl, rfl⟩ := hr
    generalize hso : ({ cls := .type "set", dict := none, data := .set #[] 0 (.fresh 0 0 led) } : Obj) = so
    have ha : (s.heap.push so).get? s.heap.objs.size = some so := Heap.get?_push_size _ (by rw [← hso]; rfl)
    have isS : Shared.TypeIs { s with heap := s.heap.push so } (.ref s.heap.objs.size) "set" := ⟨_, ha, by rw [← hso]⟩
    have lk := PySem.F.called_set.init.lookup
    have bd := PySem.F.called_set.init.bind (.ref s.heap.objs.size)
    repeat (any_goals (first | assumption | wp_step))
    refine codeAny_mono (codeAny_call_builtin (R := wants (fun r s₂ => r = .none ∧ ∃ h' tk, s₂ = { s with heap := h', toks := tk } ∧ h'.SetOf (PySem.strKind prog w) s.heap.objs.size (memT xs items.size) items.size ∧
        (∀ b o, b < s.heap.objs.size → s.heap.get? b = some o → h'.get? b = some o)) E) PySem.F.called_set.init.plain PySem.F.entry_set_init (check_set_init_1 isS ?_)) fun r₂ s₂ hr₂ => ?_
    · obtain ⟨⟨lc, ld, ldat, lsl⟩, hol, hcl, nl, hdl⟩ := hl
      obtain rfl : lc = .type "list" := hcl
      obtain rfl : ldat = .seq items nl := hdl
      have hol2 : (s.heap.push so).get? l = some { cls := .type "list", dict := ld, data := .seq items nl, slots := lsl } := Heap.get?_push_of_some _ hol
      have q1 := PySem.F.sub_list_set
      have q2 := PySem.F.sub_list_frozenset
      have q3 : (Value.type "list" == Value.type "dict") = false := by decide
      have isL : (s.heap.push so).IsList l items := ⟨_, hol2, rfl, nl, rfl⟩
      have apart : l ≠ (s.heap.push so).objs.size := by rw [Heap.size_push]; exact Nat.ne_of_lt (Nat.lt_succ_of_lt (Heap.lt_size hol))
      subst hso
      unfold Builtin.«set.__init__» noKeywords Builtin.Frozenset.updateFrom
      generalize eIt : pyIter = pit
      wp_walk
      subst eIt
      refine wpAny_pyIter_list isL ?_
      refine wpAny_bind (wpAny_runValue ?_)
      have lS : l < s.heap.objs.size := Heap.lt_size hol
      have hsz : xs.length = items.size := by rw [← StrsAre.len_eq hi, Array.length_toList]
      have offS : s.heap.objs.size ∉ [(s.heap.push { cls := .type "set", dict := none, data := .set #[] 0 (.fresh 0 0 led) }).objs.size, l] := by
        rw [Heap.size_push]
        intro z
        rcases (show s.heap.objs.size = s.heap.objs.size + 1 ∨ s.heap.objs.size = l by simpa using z) with z | z
        · exact absurd z (Nat.ne_of_lt (Nat.lt_succ_self _))
        · exact absurd z (Nat.ne_of_gt lS)
      refine set_loopT ((Walks.list (by simp [hh]) _ l apart items).toS) s.heap.objs.size offS xs hsz hn (by omega) (fun i v hv => SS.strs_at hi i v (by rw [Array.getElem?_toList]; exact hv)) (items.size - 0) 0 _ (by omega) (Nat.zero_le _)
        ⟨⟨_, Heap.get?_push_size _ rfl, rfl, rfl⟩, isL.push _⟩ ?start ?fin
      case start =>
        exact SetOf_congr ((setObjOf_fresh (knd := PySem.strKind prog w) led).setOf (Heap.get?_push_of_some _ ha) (by unfold scanBound; omega)) (fun _ => rfl) rfl
      case fin =>
        intro s' mv hS'
        obtain ⟨h', g', d', tk', os'⟩ := s'
        obtain rfl : g' = s.gens := mv.gens
        obtain rfl : d' = s.drawn := mv.drawn
        obtain rfl : os' = s.os := mv.os
        refine wpAny_pure (wpAny_pure ⟨rfl, h', tk', rfl, hS', fun b o hb e => ?_⟩)
        refine mv.heap b o (fun z => ?_) (Heap.get?_push_of_some _ (Heap.get?_push_of_some _ e))
        rw [Heap.size_push] at z
        rcases (show b = s.heap.objs.size ∨ b = s.heap.objs.size + 1 by simpa using z) with z | z
        · exact absurd z (Nat.ne_of_lt hb)
        · exact absurd z (Nat.ne_of_lt (Nat.lt_succ_of_lt hb))
    · match r₂, hr₂ with
      | .error e, hr₂ => exact hr₂
      | .ok .next, hr₂ => exact hr₂.elim
      | .ok .brk, hr₂ => exact hr₂.elim
      | .ok .cont, hr₂ => exact hr₂.elim
      | .ok (.ret r), hr₂ =>
        obtain ⟨rfl, h', tk, rfl, hS', kp⟩ := hr₂
        repeat (any_goals (first | assumption | wp_step))
        exact k _ _ hS' kp
end
section
variable {X : Cx}
def tLenSetT (K : PySem.W.Frag) (ta : TE) : TE := fun σ H Q => ta σ H fun x H1 => ∃ (l : Addr) (xs : List Str), x = V.ref l ∧ SqL K H1 l (xs.map V.str) ∧ xs.length ≤ 1000 ∧ xs.Nodup ∧ Q (.int xs.length) H1
theorem pe_lenSetX {K : PySem.W.Frag} {a : Expr} {ta : TE} {p p2 q pos : Pos} (hK : X.K = K) (hc : X.calm = true) (hg : Gl X "len") (hm : X.mg "len" = none) (hg2 : Gl X "set") (hm2 : X.mg "set" = none) (ha : PE X a ta)
    (na : starEach [a] X.env = (false, eval a X.env) :: starEach [] X.env := by rfl) : PE X (.Call (.Name "len" p) [.Call (.Name "set" p2) [a] [] q] [] pos) (tLenSetT K ta) := by
  subst hK
  refine ⟨fun pins s σ H Q I h => ?_⟩
  refine Call_ (ld_blt I hg hm PySem.boot_len ?_)
  refine callWith_builtin1 (args_cons ?_ rfl) rfl rfl
  refine Call_ (ld_blt I hg2 hm2 boot_set ?_)
  refine callWith_type1 (args_cons (thn (ha.run pins s σ H _ I h) fun v s1 ⟨x, H1, I1, r1, q1⟩ => args_nil ?_) na) na rfl
  obtain ⟨l, xs, rfl, hq, hsm, hnd, q1⟩ := q1
  cases r1
  obtain ⟨its, rv, pl, hz⟩ := I1.list hq
  have hl : its.toArray.size = xs.length := by rw [List.size_toArray, ← rv.length, List.length_map]
  have sa : StrsAre its.toArray.toList xs := by
    have e : its.toArray.toList = its := by simp
    rw [e]
    clear hl hz pl hnd hsm q1 hq
    induction xs generalizing its with
    | nil => cases rv; exact .nil
    | cons x xs ih =>
      cases rv with
      | cons r t =>
        obtain ⟨tk, rfl⟩ := r
        exact .cons _ _ (ih _ t (by simp))
  refine set_callT (I1.ok.hd hc) pl.isList sa hnd hsm fun h' tk hS kp => ?_
  rw [hl] at hS
  refine args_nil ?_
  obtain ⟨o, es, ep, t, ho, hex, hd, _, _, _, hf, hn⟩ := hS
  have J : Inv X pins σ H1 { s1 with heap := h', toks := tk } := I1.kept fun b o e => kp b o (Heap.lt_size e) e
  exact call_len_set ho hex hd hf (by rw [hn]; omega) ⟨.int xs.length, H1, J.tok _, ⟨_, by rw [hn]⟩, q1⟩
end
end Wl

namespace Wl
open PySem L2
/-! ### loops over data, the item's datum told -/
section
variable {K : PySem.W.Frag} {σ : L2.St} {H H0 H1 : Hp} {Q : VK} {te : TE} {tt : TT} {tb : TS} {D : Ends} {g : TG} {vs : List Nat} {a : Addr} {α β : Type} {R : V → α → Prop} {xs : List V} {ds : List α}
theorem forg_tup (hp : Paired R xs ds) (Pv : List α → L2.St → Hp → Prop) (h0 : Pv [] σ H) (hG : ∀ pre σ H, Pv pre σ H → H a = some (.tup xs))
    (hs : ∀ pre d post x σ H, ds = pre ++ d :: post → Pv pre σ H → R x d → g x σ H fun σ2 H2 => tb { D with nx := Pv (pre ++ [d]), ct := Pv (pre ++ [d]), bk := D.nx } σ2 H2) (hd : ∀ σ H, Pv ds σ H → D.nx σ H) : ForG (Itt K a) g tb D σ H :=
  forg_pre walk_tup ds (Paired.length hp).symm Pv h0 (fun pre σ H p => SqT.of (hG pre σ H p)) (fun pre d post x σ H H' e p y => by
    obtain ⟨rfl, hx⟩ := y
    exact hs pre d post x σ H' e p (at_pre hp e hx)) hd
theorem forg_list (hp : Paired R xs ds) (Pv : List α → L2.St → Hp → Prop) (h0 : Pv [] σ H) (hG : ∀ pre σ H, Pv pre σ H → H a = some (.lst xs))
    (hs : ∀ pre d post x σ H, ds = pre ++ d :: post → Pv pre σ H → R x d → g x σ H fun σ2 H2 => tb { D with nx := Pv (pre ++ [d]), ct := Pv (pre ++ [d]), bk := D.nx } σ2 H2) (hd : ∀ σ H, Pv ds σ H → D.nx σ H) : ForG (Itl K a) g tb D σ H :=
  forg_pre walk_list ds (Paired.length hp).symm Pv h0 (fun pre σ H p => SqL.of (hG pre σ H p)) (fun pre d post x σ H H' e p y => by
    obtain ⟨rfl, hx⟩ := y
    exact hs pre d post x σ H' e p (at_pre hp e hx)) hd
theorem forg_en (hp : Paired R xs ds) (Pv : List α → L2.St → Hp → Prop) (h0 : Pv [] σ H) (hG : ∀ pre σ H, Pv pre σ H → H a = some (.tup xs))
    (hs : ∀ pre d post p x σ H H', ds = pre ++ d :: post → Pv pre σ H → R x d → H p = none → Same H H' → H' p = some (.tup [.int (pre.length : Nat), x]) → g (.ref p) σ H' fun σ2 H2 => tb { D with nx := Pv (pre ++ [d]), ct := Pv (pre ++ [d]), bk := D.nx } σ2 H2)
    (hd : ∀ σ H, Pv ds σ H → D.nx σ H) : ForG (ItE K a) g tb D σ H :=
  forg_pre walk_enT ds (Paired.length hp).symm Pv h0 (fun pre σ H p => SqT.of (hG pre σ H p)) (fun pre d post x σ H H' e p y => by
    obtain ⟨T, x1, x2, rfl, hT, rfl, e1, e2⟩ := y
    cases e1
    exact hs pre d post T x2 σ H _ e p (at_pre hp e e2) hT (Same.upd hT) upd_same) hd
theorem forg_enL (hp : Paired R xs ds) (Pv : List α → L2.St → Hp → Prop) (h0 : Pv [] σ H) (hG : ∀ pre σ H, Pv pre σ H → H a = some (.lst xs))
    (hs : ∀ pre d post p x σ H H', ds = pre ++ d :: post → Pv pre σ H → R x d → H p = none → Same H H' → H' p = some (.tup [.int (pre.length : Nat), x]) → g (.ref p) σ H' fun σ2 H2 => tb { D with nx := Pv (pre ++ [d]), ct := Pv (pre ++ [d]), bk := D.nx } σ2 H2)
    (hd : ∀ σ H, Pv ds σ H → D.nx σ H) : ForG (Ite K a) g tb D σ H :=
  forg_pre walk_enum ds (Paired.length hp).symm Pv h0 (fun pre σ H p => SqL.of (hG pre σ H p)) (fun pre d post x σ H H' e p y => by
    obtain ⟨T, x1, x2, rfl, hT, rfl, e1, e2⟩ := y
    cases e1
    exact hs pre d post T x2 σ H _ e p (at_pre hp e e2) hT (Same.upd hT) upd_same) hd
theorem forg_rng {lo : Int} {n : Nat} (Pv : Nat → L2.St → Hp → Prop) (h0 : Pv 0 σ H)
    (hs : ∀ (i : Nat) σ H, i < n → Pv i σ H → g (.int (lo + (i : Int))) σ H fun σ2 H2 => tb { D with nx := Pv (i + 1), ct := Pv (i + 1), bk := D.nx } σ2 H2) (hd : ∀ σ H, Pv n σ H → D.nx σ H) : ForG (Itr lo n) g tb D σ H := for_range Pv h0 hs hd
/-- comprehensions -/
theorem lcg_tup (hp : Paired R xs ds) (ha : H1 a = some (.tup xs)) (s : Same H0 H1) (hb : ds.length ≤ 10000) (out : α → Option β) (S : Hp → V → β → Prop) (mono : ∀ {H H'}, Tk H H' → ∀ v b, S H v b → S H' v b)
    (turn : ∀ pre d post x H, ds = pre ++ d :: post → Same H1 H → Same H0 H → R x d → ∀ (Ky : V → Hp → Prop) (Kn : Hp → Prop), (∀ y b H4, out d = some b → Same H H4 → S H4 y b → Ky y H4) → (∀ H3, out d = none → Same H H3 → Kn H3) →
      g x (wipe σ vs) H fun σ2 H2 => wipe σ2 vs = wipe σ vs ∧ tt σ2 H2 fun c H3 => if c = true then te σ2 H3 Ky else Kn H3)
    (fin : ∀ D H, H1 D = none → H0 D = none → Same H1 H → Same H0 H → LR S H D (ds.filterMap out) → Q (.ref D) H) : LcG (Itt K a) g tt te vs σ Q H1 :=
  lcg_pure walk_tup s ds (Paired.length hp).symm (by rw [Paired.length hp]; exact hb) out S mono (fun H s1 => SqT.of (s1 _ _ ha)) (fun pre d post x H H' e s1 s2 y Ky Kn ky kn => by
    obtain ⟨rfl, hx⟩ := y
    exact turn pre d post x _ e s1 s2 (at_pre hp e hx) Ky Kn ky kn) fin
theorem lcg_list (hp : Paired R xs ds) (ha : H1 a = some (.lst xs)) (s : Same H0 H1) (hb : ds.length ≤ 10000) (out : α → Option β) (S : Hp → V → β → Prop) (mono : ∀ {H H'}, Tk H H' → ∀ v b, S H v b → S H' v b)
    (turn : ∀ pre d post x H, ds = pre ++ d :: post → Same H1 H → Same H0 H → R x d → ∀ (Ky : V → Hp → Prop) (Kn : Hp → Prop), (∀ y b H4, out d = some b → Same H H4 → S H4 y b → Ky y H4) → (∀ H3, out d = none → Same H H3 → Kn H3) →
      g x (wipe σ vs) H fun σ2 H2 => wipe σ2 vs = wipe σ vs ∧ tt σ2 H2 fun c H3 => if c = true then te σ2 H3 Ky else Kn H3)
    (fin : ∀ D H, H1 D = none → H0 D = none → Same H1 H → Same H0 H → LR S H D (ds.filterMap out) → Q (.ref D) H) : LcG (Itl K a) g tt te vs σ Q H1 :=
  lcg_pure walk_list s ds (Paired.length hp).symm (by rw [Paired.length hp]; exact hb) out S mono (fun H s1 => SqL.of (s1 _ _ ha)) (fun pre d post x H H' e s1 s2 y Ky Kn ky kn => by
    obtain ⟨rfl, hx⟩ := y
    exact turn pre d post x _ e s1 s2 (at_pre hp e hx) Ky Kn ky kn) fin
theorem lcg_en (hp : Paired R xs ds) (ha : H1 a = some (.tup xs)) (s : Same H0 H1) (hb : ds.length ≤ 10000) (out : Nat × α → Option β) (S : Hp → V → β → Prop) (mono : ∀ {H H'}, Tk H H' → ∀ v b, S H v b → S H' v b)
    (turn : ∀ pre d post p x H H', ds = pre ++ d :: post → Same H1 H → Same H0 H → R x d → Same H H' → H' p = some (.tup [.int (pre.length : Nat), x]) → ∀ (Ky : V → Hp → Prop) (Kn : Hp → Prop), (∀ y b H4, out (pre.length, d) = some b → Same H H4 → S H4 y b → Ky y H4) → (∀ H3, out (pre.length, d) = none → Same H H3 → Kn H3) →
      g (.ref p) (wipe σ vs) H' fun σ2 H2 => wipe σ2 vs = wipe σ vs ∧ tt σ2 H2 fun c H3 => if c = true then te σ2 H3 Ky else Kn H3)
    (fin : ∀ D H, H1 D = none → H0 D = none → Same H1 H → Same H0 H → LR S H D (((List.range ds.length).zip ds).filterMap out) → Q (.ref D) H) : LcG (ItE K a) g tt te vs σ Q H1 := by
  have hl := Paired.length hp
  refine lcg_pure walk_enT s ((List.range ds.length).zip ds) (by rw [List.length_zip, List.length_range, hl, Nat.min_self]) (by rw [hl]; exact hb) out S mono (fun H s1 => SqT.of (s1 _ _ ha)) (fun pre d post x H H' e s1 s2 y Ky Kn ky kn => ?_) fin
  obtain ⟨T, x1, x2, rfl, hT, rfl, e1, e2⟩ := y
  cases e1
  obtain ⟨n, d⟩ := d
  have hz : ((List.range ds.length).zip ds)[pre.length]? = some (n, d) := by rw [e, List.getElem?_append_right (Nat.le_refl _), Nat.sub_self]; rfl
  rw [List.getElem?_zip_eq_some] at hz
  obtain ⟨z1, z2⟩ := hz
  have hlt : pre.length < ds.length := (List.getElem?_eq_some_iff.mp z2).1
  rw [List.getElem?_range hlt] at z1
  obtain rfl : pre.length = n := Option.some.inj z1
  have e3 : ds = ds.take pre.length ++ d :: ds.drop (pre.length + 1) := by
    have := split_at hlt
    rw [(List.getElem?_eq_some_iff.mp z2).2] at this
    exact this
  have e4 : (ds.take pre.length).length = pre.length := by rw [List.length_take]; omega
  obtain ⟨y, hy, r⟩ := Paired.get1 hp e2
  rw [z2] at hy
  cases hy
  have q := turn (ds.take pre.length) d (ds.drop (pre.length + 1)) T x2 H _ e3 s1 s2 r (Same.upd hT) (by rw [e4]; exact upd_same)
  rw [e4] at q
  exact q Ky Kn ky kn
theorem lcg_rng {lo : Int} {n : Nat} (s : Same H0 H1) (hb : n ≤ 10000) (out : Nat → Option β) (S : Hp → V → β → Prop) (mono : ∀ {H H'}, Tk H H' → ∀ v b, S H v b → S H' v b)
    (turn : ∀ (i : Nat) H, i < n → Same H1 H → Same H0 H → ∀ (Ky : V → Hp → Prop) (Kn : Hp → Prop), (∀ y b H4, out i = some b → Same H H4 → S H4 y b → Ky y H4) → (∀ H3, out i = none → Same H H3 → Kn H3) →
      g (.int (lo + (i : Int))) (wipe σ vs) H fun σ2 H2 => wipe σ2 vs = wipe σ vs ∧ tt σ2 H2 fun c H3 => if c = true then te σ2 H3 Ky else Kn H3)
    (fin : ∀ D H, H1 D = none → H0 D = none → Same H1 H → Same H0 H → LR S H D ((List.range n).filterMap out) → Q (.ref D) H) : LcG (Itr lo n) g tt te vs σ Q H1 :=
  lcg_pure walk_range s (List.range n) List.length_range hb out S mono (fun _ _ => trivial) (fun pre d post x H H' e s1 s2 y Ky Kn ky kn => by
    obtain ⟨rfl, rfl⟩ := y
    obtain ⟨rfl, hlt⟩ := range_pre e
    exact turn _ _ hlt s1 s2 Ky Kn ky kn) fin
end
/-- one step on: nothing that stood changes -/
structure Step (H H' : Hp) : Prop where
  same : Same H H'
theorem Step.get {H H' : Hp} {a : Addr} {o : HO} (s : Step H H') (h : H a = some o) : H' a = some o := s.same a o h
theorem upd_tupL {H : Hp} {p a : Addr} {o : HO} {xs ys : List V} (h : H p = some (.lst ys)) (e : H a = some (.tup xs)) : upd H p o a = some (.tup xs) := Tk.upd h nt_l _ _ e
theorem upd_tupT {H : Hp} {p a : Addr} {o : HO} {xs : List V} {ys : List (List Key × V)} (h : H p = some (.dT ys)) (e : H a = some (.tup xs)) : upd H p o a = some (.tup xs) := Tk.upd h nt_d _ _ e
theorem upd_tupK {H : Hp} {p a : Addr} {o : HO} {xs : List V} {ys : List (Key × V)} (h : H p = some (.dK ys)) (e : H a = some (.tup xs)) : upd H p o a = some (.tup xs) := Tk.upd h nt_k _ _ e
theorem i_new2 {Q : VK} {H : Hp} {o : HO} {H0 : Hp} (s : Same H0 H) (k : ∀ p H2, H p = none → H0 p = none → Step H H2 → Same H0 H2 → H2 p = some o → Q (.ref p) H2) : NewO o Q H := i_new s fun p H2 a b c => k p H2 a b ⟨c⟩
/-! ### numbered lists -/
def enumF {α β : Type} (f : Nat → α → List β) : Nat → List α → List β
  | _, [] => []
  | k, a :: r => f k a ++ enumF f (k + 1) r
theorem enumF_app {α β : Type} (f : Nat → α → List β) : ∀ (xs : List α) (k : Nat) (ys : List α), enumF f k (xs ++ ys) = enumF f k xs ++ enumF f (k + xs.length) ys
  | [], k, ys => by simp [enumF]
  | x :: xs, k, ys => by
    rw [List.cons_append, enumF, enumF, enumF_app f xs (k + 1) ys, List.append_assoc, List.length_cons]
    congr 3
    omega
theorem enumF_snoc {α β : Type} (f : Nat → α → List β) (xs : List α) (y : α) : enumF f 0 (xs ++ [y]) = enumF f 0 xs ++ f xs.length y := by
  rw [enumF_app, Nat.zero_add]
  simp [enumF]
theorem enumF_mid {α β : Type} (f : Nat → α → List β) (xs : List α) (y : α) (ys : List α) : enumF f 0 (xs ++ y :: ys) = enumF f 0 xs ++ (f xs.length y ++ enumF f (xs.length + 1) ys) := by
  rw [enumF_app, Nat.zero_add]
  rfl
theorem enumF_le {α β : Type} {f : Nat → α → List β} {ds pre post : List α} {d : α} (e : ds = pre ++ d :: post) : (enumF f 0 pre).length + (f pre.length d).length ≤ (enumF f 0 ds).length := by
  rw [e, enumF_mid, List.length_append, List.length_append]
  omega
theorem enumF_mem {α β : Type} {f : Nat → α → List β} {b : β} : ∀ {xs : List α} {k : Nat}, b ∈ enumF f k xs ↔ ∃ i x, xs[i]? = some x ∧ b ∈ f (k + i) x
  | [], k => by simp [enumF]
  | x :: xs, k => by
    rw [enumF, List.mem_append, enumF_mem]
    constructor
    · rintro (h | ⟨i, y, h1, h2⟩)
      · exact ⟨0, x, rfl, h⟩
      · exact ⟨i + 1, y, by rw [List.getElem?_cons_succ]; exact h1, by rw [show k + (i + 1) = k + 1 + i by omega]; exact h2⟩
    · rintro ⟨i, y, h1, h2⟩
      cases i with
      | zero => cases h1; exact .inl h2
      | succ i =>
        rw [List.getElem?_cons_succ] at h1
        exact .inr ⟨i, y, h1, by rw [show k + 1 + i = k + (i + 1) by omega]; exact h2⟩
theorem enumF_range {α β : Type} (g : Nat → α → Option β) : ∀ (xs : List α) (k : Nat), ((List.range' k xs.length).zip xs).filterMap (fun p => g p.1 p.2) = enumF (fun i x => (g i x).toList) k xs
  | [], k => rfl
  | x :: xs, k => by
    rw [List.length_cons, List.range'_succ, List.zip_cons_cons, List.filterMap_cons, enumF, ← enumF_range g xs (k + 1)]
    cases g k x <;> rfl
theorem enumF_zip {α β : Type} (g : Nat × α → Option β) (xs : List α) : ((List.range xs.length).zip xs).filterMap g = enumF (fun i x => (g (i, x)).toList) 0 xs := by
  rw [List.range_eq_range']
  exact enumF_range (fun i x => g (i, x)) xs 0
/-! ### the plan's lists -/
abbrev Dev : Type := Sp3 × Str × Int
def devPl (l a : Nat) (q : Place) : List Dev := (if q.kind = "opener" then [] else [(((l : Int), (a : Int) + 1, 0), q.kind, q.addr)]) ++ enumF (fun w d => [(((l : Int), (a : Int) + 1, (w : Int) + 1), d.1, d.2)]) 0 q.spur
def devices (P : Plan) : List Dev := enumF (fun l lp => enumF (fun a q => devPl l a q) 0 lp) 0 P.loops
def strPl (l a : Nat) (q : Place) : List Sp3 := (List.range (q.spur.length + 1)).map fun (w : Nat) => (((l : Int), (a : Int) + 1, (w : Int)) : Sp3)
def stretches (P : Plan) : List Sp3 := enumF (fun l lp => ((l : Int), 0, 0) :: enumF (fun a q => strPl l a q) 0 lp) 0 P.loops
def opnPl (l a : Nat) (q : Place) : List (Int × Int) := if q.kind = "opener" then [((l : Int), (a : Int) + 1)] else []
def openers (P : Plan) : List (Int × Int) := enumF (fun l lp => ((l : Int), 0) :: (enumF (fun a q => opnPl l a q) 0 lp ++ [((l : Int), (lp.length : Int) + 1)])) 0 P.loops
def Dev3 (H : Hp) (v : V) (d : Dev) : Prop := ∃ p t, v = .ref p ∧ H p = some (.tup [t, .str d.2.1, .int d.2.2]) ∧ T3 H t d.1
theorem Dev3.ts {H H' : Hp} (t : Tk H H') (v : V) (d : Dev) (h : Dev3 H v d) : Dev3 H' v d := let ⟨p, x, e, h, r⟩ := h; ⟨p, x, e, t _ _ h, r.ts t⟩
/-- a list of such grows -/
theorem LR.snoc {α : Type} {R : Hp → V → α → Prop} (mono : ∀ {H H'}, Tk H H' → ∀ v b, R H v b → R H' v b) {H : Hp} {p : Addr} {ds : List α} {vs : List V} {y : V} {d : α} (h : H p = some (.lst vs)) (r : Paired (R H) vs ds) (ry : R H y d) : LR R (upd H p (.lst (vs ++ [y]))) p (ds ++ [d]) :=
  ⟨_, upd_same, Paired.app (Paired.mapP r (mono (Tk.upd h nt_l))) (.cons (mono (Tk.upd h nt_l) _ _ ry) .nil)⟩
theorem LR.ext {α : Type} {R : Hp → V → α → Prop} (mono : ∀ {H H'}, Tk H H' → ∀ v b, R H v b → R H' v b) {H : Hp} {p : Addr} {ds es : List α} {vs ys : List V} (h : H p = some (.lst vs)) (r : Paired (R H) vs ds) (ry : Paired (R H) ys es) : LR R (upd H p (.lst (vs ++ ys))) p (ds ++ es) :=
  ⟨_, upd_same, Paired.app (Paired.mapP r (mono (Tk.upd h nt_l))) (Paired.mapP ry (mono (Tk.upd h nt_l)))⟩
end Wl

namespace Wl
open PySem L2
/-! ### the step tactics -/
local macro_rules | `(tactic| walk_at "lk") => `(tactic| first
  | assumption
  | exact upd_same
  | (refine (?_ : ∀ H, SqT _ H _ _) _; assumption)
  | (apply Step.get; (focus assumption); walk_at "lk")
  | (apply upd_tupL; (focus walk_at "lk"); walk_at "lk")
  | (apply upd_tupT; (focus walk_at "lk"); walk_at "lk")
  | (apply upd_tupK; (focus walk_at "lk"); walk_at "lk")
  | (apply L2.Same.get; (focus assumption); assumption)
  | (apply L2.Same.get; rotate_left; (focus assumption); assumption)
  | (apply SqT.of; walk_at "lk")
  | (apply SqL.of; walk_at "lk"))
local macro_rules | `(tactic| walk_at "sm") => `(tactic| first
  | assumption
  | (apply L2.Same.mut; (focus walk_at "sm"); (focus assumption)))
local macro_rules | `(tactic| walk_at "cond") => `(tactic| first
  | rfl
  | assumption
  | (exact dt (by first | rfl | assumption | omega | (simp; done) | (simp; omega)))
  | (exact df (by first | assumption | omega | (simp; done) | (simp; omega)))
  | (exact ndt (by first | rfl | assumption | omega | (simp; done) | (simp; omega)))
  | (exact ndf (by first | assumption | omega | (simp; done) | (simp; omega)))
  | (simp; done))
local macro_rules | `(tactic| walk_at "cond1") => `(tactic| first
  | assumption
  | with_reducible rfl
  | with_reducible exact n_t
  | with_reducible exact n_f
  | with_reducible exact dt (by assumption)
  | with_reducible exact df (by assumption)
  | with_reducible exact ndt (by assumption)
  | with_reducible exact ndf (by assumption))
local macro_rules | `(tactic| walk_at "g1") => `(tactic| first
  | with_reducible refine i_seq ?_
  | with_reducible refine i_asg ?_
  | with_reducible refine i_name ?_
  | with_reducible refine i_ret ?_
  | with_reducible refine i_drop ?_
  | with_reducible refine i_if ?_
  | with_reducible refine i_next ?_
  | with_reducible refine i_break ?_
  | with_reducible refine i_c ?_
  | ((with_reducible apply i_var); (focus (rfl)))
  | with_reducible refine i_op ?_
  | with_reducible refine i_cons ?_
  | with_reducible refine i_nil ?_
  | with_reducible refine i_cb ?_
  | with_reducible refine i_call ?_
  | ((with_reducible apply i_ixT); (focus (walk_at "lk")); (focus (first | rfl | assumption)))
  | ((with_reducible apply i_ixL); (focus (walk_at "lk")); (focus (first | rfl | assumption)))
  | with_reducible refine i_I0 ?_
  | ((with_reducible apply i_eq); (focus (rfl)))
  | ((with_reducible apply i_ne); (focus (rfl)))
  | with_reducible refine i_un ?_
  | with_reducible refine i_neg ?_
  | with_reducible refine i_andV ?_
  | with_reducible refine i_orV ?_
  | with_reducible refine i_notV ?_
  | with_reducible refine i_chain ?_
  | with_reducible refine i_test ?_
  | with_reducible refine i_B ?_
  | with_reducible refine i_k ?_
  | with_reducible refine i_and ?_
  | with_reducible refine i_or ?_
  | with_reducible refine i_not ?_
  | with_reducible refine i_yes ?_
  | (with_reducible refine i_isiI kit_ii ?_)
  | (with_reducible refine i_isiI kit_ib ?_)
  | (with_reducible refine i_isiS kit_ss ?_)
  | ((with_reducible apply i_isiT); (focus (walk_at "lk")); (focus (exact kit_tt)))
  | ((with_reducible apply i_len); (focus (first | (apply Or.inr; walk_at "lk") | (apply Or.inl; walk_at "lk"))))
  | ((with_reducible apply i_lens); (focus (walk_at "sz")))
  | (with_reducible refine i_sign ?_)
  | ((with_reducible apply i_inT); (focus (walk_at "lk")); (focus (rfl)); (focus (rfl)))
  | ((with_reducible apply i_inL); (focus (walk_at "lk")); (focus (rfl)); (focus (rfl)))
  | ((with_reducible apply i_ninL); (focus (walk_at "lk")); (focus (rfl)); (focus (rfl)))
  | ((with_reducible apply i_all); (focus (walk_at "lk")))
  | ((with_reducible apply i_any); (focus (walk_at "lk")))
  | ((with_reducible apply ift); (focus (walk_at "cond1")))
  | ((with_reducible apply iff_); (focus (walk_at "cond1")))
  | ((with_reducible apply ift); (focus (rfl)))
  | ((with_reducible apply iff_); (focus (rfl)))
  | ((with_reducible apply ift); (focus (walk_at "cond")))
  | ((with_reducible apply iff_); (focus (walk_at "cond")))
  | with_reducible refine i_tup ?_
  | (with_reducible refine i_new2 (by walk_at "sm") ?_; intro _ _ _ _ _ _ _)
  | with_reducible refine i_dnK ?_
  | with_reducible refine i_dnT ?_
  | with_reducible refine i_lc ?_
  | with_reducible refine i_for ?_
  | with_reducible refine i_iTup ?_
  | with_reducible refine i_iList ?_
  | ((with_reducible apply i_tupW); (focus (walk_at "lk")))
  | ((with_reducible apply i_listW); (focus (walk_at "lk")))
  | with_reducible refine i_iRng1 ?_
  | ((with_reducible apply i_rng1); (focus (walk_at "bnd")))
  | with_reducible refine i_iRng2 ?_
  | ((with_reducible apply i_rng2); (focus (walk_at "bnd")))
  | with_reducible refine i_iStr ?_
  | with_reducible refine i_iEnT ?_
  | with_reducible refine i_iEnum ?_
  | ((with_reducible apply i_enTW); (focus (walk_at "lk")))
  | ((with_reducible apply i_enLW); (focus (walk_at "lk")))
  | with_reducible refine i_strW ?_
  | with_reducible refine i_lst ?_
  | with_reducible refine i_bm ?_
  | with_reducible refine i_fld ?_
  | with_reducible refine i_dget2 ?_
  | with_reducible refine i_dget ?_
  | with_reducible refine i_din ?_
  | with_reducible refine i_dnotin ?_
  | with_reducible refine i_dputT ?_
  | with_reducible refine i_isN ?_
  | with_reducible refine i_notN ?_
  | ((with_reducible apply i_gtup); (focus (walk_at "lk")); (focus (rfl)))
  | with_reducible refine i_gcons ?_
  | with_reducible refine i_gnil ?_
  | with_reducible refine i_sl ?_
  | with_reducible refine i_nopart ?_
  | with_reducible refine i_part ?_
  | ((with_reducible apply i_app); (focus (walk_at "lk")); (focus (walk_at "sz")))
  | with_reducible refine i_2i ?_
  | with_reducible refine i_par ?_
  | with_reducible refine i_m1 ?_
  | with_reducible refine i_ex1 ?_
  | with_reducible refine i_isS ?_
  | ((with_reducible apply i_slS); (focus (walk_at "sz")))
  | with_reducible refine i_add_str ?_
  | with_reducible refine i_abs ?_
  | with_reducible refine i_gsub ?_
  | ((with_reducible apply i_setL); (focus (walk_at "lk")); (focus (rfl)))
  | ((with_reducible apply i_I); (focus (walk_at "arith")))
  | ((with_reducible apply i_fldw); (focus (walk_at "lk")); (focus assumption); (focus assumption); (focus (first | exact lk_plan | exact lk_hows | exact lk_stops | exact lk_dev)))
  | with_reducible refine i_meth ?_
  | ((with_reducible apply i_methW); (focus (walk_at "lk")); (focus (first | exact nm_need | exact nm_change | exact nm_parted | exact nm_act | exact nm_cut | exact nm_short | exact nm_mend | exact nm_rests | exact nm_come | exact nm_heard)))
  | ((with_reducible apply i_isD); (focus (walk_at "lk")))
  | ((with_reducible apply i_ext); (focus (walk_at "lk")); (focus (walk_at "lk")); (focus (walk_at "sz")))
  | ((with_reducible apply And.intro); (focus (first | (show wipe _ _ = wipe _ _; rfl) | (walk_at "sz")))))
local macro_rules | `(tactic| walk_at "arith") => `(tactic| first
  | assumption
  | (refine Or.inl ?_; (constructor <;> omega))
  | (refine Or.inr ?_; (constructor <;> omega))
  | (show (0 : Int) < _; omega)
  | (show 0 < _ ∧ _ < _; (constructor <;> omega))
  | (show CPow 10 18; exact ⟨by decide, by decide, by decide⟩))
local macro_rules | `(tactic| walk_at "bnd") => `(tactic| first
  | omega
  | (refine ⟨?_, ?_⟩ <;> omega))
local macro_rules | `(tactic| walk_at "sz") => `(tactic| first
  | (apply ty_l; walk_at "lk")
  | (apply ty_d; walk_at "lk")
  | (exact szle (by omega))
  | (exact szl (by omega))
  | (exact szle (by simp only [List.length_append, List.length_cons, List.length_nil, List.length_map]; omega))
  | (exact szl (by simp only [List.length_append, List.length_cons, List.length_nil, List.length_map]; omega))
  | (exact Nat.le_of_ble_eq_true rfl))
local macro_rules | `(tactic| walk_at "go") => `(tactic| repeat (first | walk_at "g1" | dsimp only))
section
variable {P : Program} {w : World} {K : PySem.W.Frag} {mg : Str → Option Value} {f : Nat → Addr} {fd : Nat → FuncData} {C aK aT : Addr} {base : Heap}
/-! ### is_whole -/
def sp_is_whole : Sp := fun vs H Q _ => ∃ (n lo hi : Int), vs = [.int n, .int lo, .int hi] ∧ lo ≤ n ∧ n ≤ hi ∧ ∀ H', Same H H' → Q (.bl true) H'
theorem ok_is_whole (T : Txt K mg f fd C aK aT) : FnOk P w K mg base CX0 1 (f 0) (fd 0) ["thing", "least", "most"] sp_is_whole := by
  refine T.F_is_whole.ok sc_is_whole (fun vs H Q E h => ?_) (fun cdv A outer s H vs Q E hr h => ?_)
  · obtain ⟨n, lo, hi, rfl, _⟩ := h; rfl
  · obtain ⟨n, lo, hi, rfl, h1, h2, k⟩ := h
    refine ⟨_, (pss_one (ps_ret (pe_and (pe_callB (call_isiK' (K := K) rfl) (by rfl) T.n_isinstance (by decide +kernel) (pa_cons (pv 0) (pa_cons (pe_ty (n := "int") (by rfl) T.n_int (by decide +kernel)) pa_nil))) (pe_and (pe_not (pe_callB (call_isiK' (K := K) rfl) (by rfl) T.n_isinstance (by decide +kernel) (pa_cons (pv 0) (pa_cons (pe_ty (n := "bool") (by rfl) T.n_bool (by decide +kernel)) pa_nil)))) (pe_one (pe_chain op_le op_le (pv 1) (pv 0) (pv 2))))))), ?_⟩
    walk_at "go"
    exact bl_t (dt h2) (k _ (Same.refl _))
/-! ### is_name -/
def Name (z : Str) : Prop := 1 ≤ z.length ∧ z.length ≤ 8 ∧ ∀ c ∈ z.cps.toList, c ∈ (("abcdefghijklmnopqrstuvwxyz" : Str)).cps.toList
def sp_is_name : Sp := fun vs H Q _ => ∃ z : Str, vs = [.str z] ∧ Name z ∧ ∀ H', Same H H' → Q (.bl true) H'
theorem ok_is_name (T : Txt K mg f fd C aK aT) : FnOk P w K mg base CX0 1 (f 1) (fd 1) ["thing"] sp_is_name := by
  refine T.F_is_name.ok sc_is_name (fun vs H Q E h => ?_) (fun cdv A outer s H vs Q E hr h => ?_)
  · obtain ⟨z, rfl, _⟩ := h; rfl
  · obtain ⟨z, rfl, ⟨h1, h2, h3⟩, k⟩ := h
    refine ⟨_, (pss_cons (ps_if (PW.pt (pw_or (pt_not (pt_val (pe_callB (call_isiK' (K := K) rfl) (by rfl) T.n_isinstance (by decide +kernel) (pa_cons (pv 0) (pa_cons (pe_ty (n := "str") (by rfl) T.n_str (by decide +kernel)) pa_nil))))) (pw_or1 (pt_not (pt_chain op_le op_le pe_int (pe_callB call_len_str (by rfl) T.n_len PySem.boot_len (pa_cons (pv 0) pa_nil)) (pe_gint (by rfl) T.c_MOST_LETTERS)))))) (pss_one ps_never)
      pss_nil)
      (pss_one (ps_ret (pe_callB (cr_allK (K := K) rfl rfl) (by rfl) T.n_all (by decide +kernel) (pa_cons (pe_lc (own := [("sign", 1)]) rfl sc_is_name.nd  (pi_str (pv 0)) (blkOk_by (N := ["thing", "sign"]) (sc := defScope s_is_name) (by decide +kernel)) (fun _ _ _ _ _ => (pg_name (i := 1) sc_is_name.nd rfl (Or.inl rfl))) (fun _ _ _ _ _ => pts_nil) (fun _ _ _ _ _ => (pe_cmpR op_in_sign (pv 1) (pe_gstr (by rfl) T.c_LETTERS) (by rfl)))) pa_nil))))), ?_⟩
    have s0 := Same.refl H
    walk_at "go"
    have hz : z.cps.toList.length = z.cps.size := by simp
    refine lcg_true (K := K) walk_str s0 z.cps.toList hz (by have : z.cps.size = z.length := rfl; omega) (fun _ _ => trivial) (fun pre d post x H1 H2 e s1 s2 y Ky ky => ?_) (fun D H1 s1 s2 l => ?_)
    · obtain ⟨rfl, c, hc, rfl⟩ := y
      have hcd : c = d := get_pre (ds := z.cps.toList) e (by simpa using hc)
      subst hcd
      walk_at "go"
      exact bl_t (dt (h3 c (sub_pre e))) (ky _ (Same.refl _))
    · walk_at "go"
      exact bl_t (all_true _) (k _ s1)
/-! ### rises -/
def Rises (ns : List Int) : Prop := ∀ (k : Nat) (a b : Int), ns[k]? = some a → ns[k + 1]? = some b → a < b
def sp_rises : Sp := fun vs H Q _ => ∃ (p : Addr) (ns : List Int), vs = [.ref p] ∧ H p = some (.tup (ns.map V.int)) ∧ ns.length ≤ 100 ∧ Rises ns ∧ ∀ H', Same H H' → Q (.bl true) H'
theorem ok_rises (T : Txt K mg f fd C aK aT) : FnOk P w K mg base CX0 1 (f 2) (fd 2) ["things"] sp_rises := by
  refine T.F_rises.ok sc_rises (fun vs H Q E h => ?_) (fun cdv A outer s H vs Q E hr h => ?_)
  · obtain ⟨p, ns, rfl, _⟩ := h; rfl
  · obtain ⟨p, ns, rfl, hp, hl, hR, k⟩ := h
    refine ⟨_, (pss_one (ps_ret (pe_callB (cr_allK (K := K) rfl rfl) (by rfl) T.n_all (by decide +kernel) (pa_cons (pe_lc (own := [("k", 1)]) rfl sc_rises.nd  (pi_range1 (by rfl) T.n_range (pa_cons (pe_op op_sub (pe_callB (call_lenK (K := K) rfl) (by rfl) T.n_len PySem.boot_len (pa_cons (pv 0) pa_nil)) pe_int) pa_nil)) (blkOk_by (N := ["things", "k"]) (sc := defScope s_rises) (by decide +kernel)) (fun _ _ _ _ _ => (pg_name (i := 1) sc_rises.nd rfl (Or.inl rfl))) (fun _ _ _ _ _ => pts_nil) (fun _ _ _ _ _ => (pe_cmpR op_lt (pe_ix (ix_tupK (K := K) rfl) (pv 0) (pv 1) (fun _ _ => rfl)) (pe_ix (ix_tupK (K := K) rfl) (pv 0) (pe_op op_add (pv 1) pe_int) (fun _ _ => rfl)) (nomark _)))) pa_nil)))), ?_⟩
    have s0 := Same.refl H
    have hl2 : (ns.map V.int).length = ns.length := List.length_map _
    walk_at "go"
    refine lcg_true (K := K) walk_range s0 (List.range _) List.length_range (by rw [hl2]; omega) (fun _ _ => trivial) (fun pre d post x H1 H2 e s1 s2 y Ky ky => ?_) (fun D H1 s1 s2 l => ?_)
    · obtain ⟨rfl, rfl⟩ := y
      obtain ⟨rfl, hd⟩ := range_pre e
      rw [hl2] at hd
      have q1 : pre.length + 1 < ns.length := by omega
      have g1 : ns[pre.length]? = some ns[pre.length] := List.getElem?_eq_getElem (by omega)
      have g2 : ns[pre.length + 1]? = some ns[pre.length + 1] := List.getElem?_eq_getElem q1
      have a1 : atI (ns.map V.int) (0 + (pre.length : Int)) = some (.int ns[pre.length]) := ati pre.length (by omega) (by rw [List.getElem?_map, g1]; rfl)
      have a2 : atI (ns.map V.int) (0 + (pre.length : Int) + 1) = some (.int ns[pre.length + 1]) := ati (pre.length + 1) (by omega) (by rw [List.getElem?_map, g2]; rfl)
      walk_at "go"
      exact bl_t (dt (hR _ _ _ g1 g2)) (ky _ (Same.refl _))
    · walk_at "go"
      exact bl_t (all_true _) (k _ s1)
/-! ### are_rising -/
def sp_are_rising : Sp := fun vs H Q _ => ∃ (p : Addr) (ns : List Int) (m lo hi : Int), vs = [.ref p, .int m, .int lo, .int hi] ∧ H p = some (.tup (ns.map V.int)) ∧ ns.length ≤ 100 ∧ (ns.length : Int) ≤ m ∧ (∀ n ∈ ns, lo ≤ n ∧ n ≤ hi) ∧ Rises ns ∧ ∀ H', Same H H' → Q (.bl true) H'
theorem ok_are_rising (T : Txt K mg f fd C aK aT) : FnOk P w K mg base CX0 2 (f 3) (fd 3) ["thing", "many", "least", "most"] sp_are_rising := by
  refine T.F_are_rising.ok sc_are_rising (fun vs H Q E h => ?_) (fun cdv A outer s H vs Q E hr h => ?_)
  · obtain ⟨p, ns, m, lo, hi, rfl, _⟩ := h; rfl
  · obtain ⟨p, ns, m, lo, hi, rfl, hp, hl, hm, hb, hR, k⟩ := h
    refine ⟨_, (pss_cons (ps_if (PW.pt (pw_or (pt_not (pt_val (pe_callB (call_isiK' (K := K) rfl) (by rfl) T.n_isinstance (by decide +kernel) (pa_cons (pv 0) (pa_cons (pe_ty (n := "tuple") (by rfl) T.n_tuple (by decide +kernel)) pa_nil))))) (pw_or1 (pt_cmpR op_gt (pe_callB (call_lenK (K := K) rfl) (by rfl) T.n_len PySem.boot_len (pa_cons (pv 0) pa_nil)) (pv 1) (nomark _))))) (pss_one ps_never)
      pss_nil)
      (pss_one (ps_ret (pe_and (pe_callB (cr_allK (K := K) rfl rfl) (by rfl) T.n_all (by decide +kernel) (pa_cons (pe_lc (own := [("one", 4)]) rfl sc_are_rising.nd  (pi_tupK (K := K) rfl (pv 0)) (blkOk_by (N := ["thing", "many", "least", "most", "one"]) (sc := defScope s_are_rising) (by decide +kernel)) (fun _ _ _ _ _ => (pg_name (i := 4) sc_are_rising.nd rfl (Or.inl rfl))) (fun _ _ _ _ _ => pts_nil) (fun _ _ _ _ _ => (pe_call (ok_is_whole T) (hr.mono (by decide)) (by rfl) T.m_is_whole T.F_is_whole.kp T.b_is_whole .nil pass0 (pa_cons (pv 4) (pa_cons (pv 2) (pa_cons (pv 3) pa_nil)))))) pa_nil)) (pe_one (pe_call (ok_rises T) (hr.mono (by decide)) (by rfl) T.m_rises T.F_rises.kp T.b_rises .nil pass0 (pa_cons (pv 0) pa_nil))))))), ?_⟩
    have s0 := Same.refl H
    have hl2 : (ns.map V.int).length = ns.length := List.length_map _
    have hm2 : ¬ (m < ((ns.map V.int).length : Int)) := by rw [hl2]; omega
    walk_at "go"
    refine lcg_true (K := K) walk_tup s0 ns hl2.symm (by rw [hl2]; omega) (fun H1 s1 => SqT.of (s1 _ _ hp)) (fun pre d post x H1 H2 e s1 s2 y Ky ky => ?_) (fun D H1 s1 s2 l => ?_)
    · obtain ⟨rfl, hx⟩ := y
      have hx2 : x = .int d := by
        rw [List.getElem?_map, e, List.getElem?_append_right (Nat.le_refl _), Nat.sub_self] at hx
        exact (Option.some.inj hx).symm
      subst hx2
      walk_at "go"
      exact ⟨_, _, _, rfl, (hb d (sub_pre e)).1, (hb d (sub_pre e)).2, fun H3 s3 => ky _ s3⟩
    · walk_at "go"
      exact ⟨_, _, rfl, s1 _ _ hp, hl, hR, fun H3 s3 => k _ (s1.trans s3)⟩
/-! ### are_whole -/
def sp_are_whole : Sp := fun vs H Q _ => ∃ (p : Addr) (ns : List Int) (m lo hi : Int), vs = [.ref p, .int m, .int lo, .int hi] ∧ H p = some (.tup (ns.map V.int)) ∧ ns.length ≤ 100 ∧ (ns.length : Int) = m ∧ (∀ n ∈ ns, lo ≤ n ∧ n ≤ hi) ∧ ∀ H', Same H H' → Q (.bl true) H'
theorem ok_are_whole (T : Txt K mg f fd C aK aT) : FnOk P w K mg base CX0 2 (f 4) (fd 4) ["thing", "many", "least", "most"] sp_are_whole := by
  refine T.F_are_whole.ok sc_are_whole (fun vs H Q E h => ?_) (fun cdv A outer s H vs Q E hr h => ?_)
  · obtain ⟨p, ns, m, lo, hi, rfl, _⟩ := h; rfl
  · obtain ⟨p, ns, m, lo, hi, rfl, hp, hl, hm, hb, k⟩ := h
    refine ⟨_, (pss_cons (ps_if (PW.pt (pw_or (pt_not (pt_val (pe_callB (call_isiK' (K := K) rfl) (by rfl) T.n_isinstance (by decide +kernel) (pa_cons (pv 0) (pa_cons (pe_ty (n := "tuple") (by rfl) T.n_tuple (by decide +kernel)) pa_nil))))) (pw_or1 (pt_cmpR op_ne (pe_callB (call_lenK (K := K) rfl) (by rfl) T.n_len PySem.boot_len (pa_cons (pv 0) pa_nil)) (pv 1) (nomark _))))) (pss_one ps_never)
      pss_nil)
      (pss_one (ps_ret (pe_callB (cr_allK (K := K) rfl rfl) (by rfl) T.n_all (by decide +kernel) (pa_cons (pe_lc (own := [("one", 4)]) rfl sc_are_whole.nd  (pi_tupK (K := K) rfl (pv 0)) (blkOk_by (N := ["thing", "many", "least", "most", "one"]) (sc := defScope s_are_whole) (by decide +kernel)) (fun _ _ _ _ _ => (pg_name (i := 4) sc_are_whole.nd rfl (Or.inl rfl))) (fun _ _ _ _ _ => pts_nil) (fun _ _ _ _ _ => (pe_call (ok_is_whole T) (hr.mono (by decide)) (by rfl) T.m_is_whole T.F_is_whole.kp T.b_is_whole .nil pass0 (pa_cons (pv 4) (pa_cons (pv 2) (pa_cons (pv 3) pa_nil)))))) pa_nil))))), ?_⟩
    have s0 := Same.refl H
    have hl2 : (ns.map V.int).length = ns.length := List.length_map _
    have hm2 : V.int ((ns.map V.int).length : Int) = V.int m := by rw [hl2, hm]
    walk_at "go"
    refine lcg_true (K := K) walk_tup s0 ns hl2.symm (by rw [hl2]; omega) (fun H1 s1 => SqT.of (s1 _ _ hp)) (fun pre d post x H1 H2 e s1 s2 y Ky ky => ?_) (fun D H1 s1 s2 l => ?_)
    · obtain ⟨rfl, hx⟩ := y
      have hx2 : x = .int d := by
        rw [List.getElem?_map, e, List.getElem?_append_right (Nat.le_refl _), Nat.sub_self] at hx
        exact (Option.some.inj hx).symm
      subst hx2
      walk_at "go"
      exact ⟨_, _, _, rfl, (hb d (sub_pre e)).1, (hb d (sub_pre e)).2, fun H3 s3 => ky _ s3⟩
    · walk_at "go"
      exact bl_t (all_true _) (k _ s1)
/-! ### is_device -/
def Kind (k : Str) : Prop := k = "seeker" ∨ k = "knob" ∨ k = "bell" ∨ k = "door"
theorem kind_in {k : Str} (h : Kind k) : inV (.str k) [.str "seeker", .str "knob", .str "bell", .str "door"] = true := by
  rcases h with h | h | h | h <;> (rw [h]; decide +kernel)
def GoodD (d : Str × Int) : Prop := Kind d.1 ∧ 1 ≤ d.2 ∧ d.2 ≤ 99
def sp_is_device : Sp := fun vs H Q _ => ∃ (v : V) (d : Str × Int), vs = [v] ∧ DevR H v d ∧ GoodD d ∧ ∀ H', Same H H' → Q (.bl true) H'
theorem ok_is_device (T : Txt K mg f fd C aK aT) : FnOk P w K mg base CX0 2 (f 5) (fd 5) ["thing"] sp_is_device := by
  refine T.F_is_device.ok sc_is_device (fun vs H Q E h => ?_) (fun cdv A outer s H vs Q E hr h => ?_)
  · obtain ⟨v, d, rfl, _⟩ := h; rfl
  · obtain ⟨v, d, rfl, ⟨p, rfl, hp⟩, ⟨g1, g2, g3⟩, k⟩ := h
    refine ⟨_, (pss_cons (ps_if (PW.pt (pw_or (pt_not (pt_val (pe_callB (call_isiK' (K := K) rfl) (by rfl) T.n_isinstance (by decide +kernel) (pa_cons (pv 0) (pa_cons (pe_ty (n := "tuple") (by rfl) T.n_tuple (by decide +kernel)) pa_nil))))) (pw_or (pt_cmpR op_ne (pe_callB (call_lenK (K := K) rfl) (by rfl) T.n_len PySem.boot_len (pa_cons (pv 0) pa_nil)) pe_int (nomark _)) (pw_or1 (pt_not (pt_val (pe_callB (call_isiK' (K := K) rfl) (by rfl) T.n_isinstance (by decide +kernel) (pa_cons (pe_ix (ix_tupK (K := K) rfl) (pv 0) pe_int (fun _ _ => rfl)) (pa_cons (pe_ty (n := "str") (by rfl) T.n_str (by decide +kernel)) pa_nil))))))))) (pss_one ps_never)
      pss_nil)
      (pss_one (ps_ret (pe_and (pe_cmpR (op_inK (K := K) rfl) (pe_ix (ix_tupK (K := K) rfl) (pv 0) pe_int (fun _ _ => rfl)) (pe_gref (by rfl) T.m_KINDS) (by with_unfolding_all rfl)) (pe_one (pe_call (ok_is_whole T) (hr.mono (by decide)) (by rfl) T.m_is_whole T.F_is_whole.kp T.b_is_whole .nil pass0 (pa_cons (pe_ix (ix_tupK (K := K) rfl) (pv 0) pe_int (fun _ _ => rfl)) (pa_cons pe_int (pa_cons (pe_gint (by rfl) T.c_MOST_ADDRESS) pa_nil))))))))), ?_⟩
    have tK := T.t_KINDS
    have hk := kind_in g1
    walk_at "go"
    exact ⟨_, _, _, rfl, g2, g3, k⟩
end
section
variable {P : Program} {w : World} {K : PySem.W.Frag} {mg : Str → Option Value} {f : Nat → Addr} {fd : Nat → FuncData} {C aK aT : Addr} {base : Heap}
/-! ### is_place -/
def Opn (q : Place) : Prop := q.kind = "opener" ∧ q.addr = 0 ∧ q.spur = []
def GoodP (q : Place) : Prop := Opn q ∨ (GoodD (q.kind, q.addr) ∧ q.spur.length ≤ 3 ∧ ∀ d ∈ q.spur, GoodD d)
theorem kind_no {k : Str} (h : Kind k) : ¬ V.str k = V.str "opener" := by
  rcases h with h | h | h | h <;> (rw [h]; decide +kernel)
def sp_is_place : Sp := fun vs H Q _ => ∃ (v : V) (q : Place), vs = [v] ∧ PlR H v q ∧ GoodP q ∧ ∀ H', Same H H' → Q (.bl true) H'
theorem ok_is_place (T : Txt K mg f fd C aK aT) : FnOk P w K mg base CX0 3 (f 6) (fd 6) ["thing"] sp_is_place := by
  refine T.F_is_place.ok sc_is_place (fun vs H Q E h => ?_) (fun cdv A outer s H vs Q E hr h => ?_)
  · obtain ⟨v, d, rfl, _⟩ := h; rfl
  · obtain ⟨v, q, rfl, ⟨p, s', rfl, hp, ⟨sp, xs, rfl, hs, pr⟩⟩, g, k⟩ := h
    refine ⟨_, (pss_cons (ps_if (PW.pt (pw_or (pt_not (pt_val (pe_callB (call_isiK' (K := K) rfl) (by rfl) T.n_isinstance (by decide +kernel) (pa_cons (pv 0) (pa_cons (pe_ty (n := "tuple") (by rfl) T.n_tuple (by decide +kernel)) pa_nil))))) (pw_or (pt_cmpR op_ne (pe_callB (call_lenK (K := K) rfl) (by rfl) T.n_len PySem.boot_len (pa_cons (pv 0) pa_nil)) pe_int (nomark _)) (pw_or1 (pt_not (pt_val (pe_callB (call_isiK' (K := K) rfl) (by rfl) T.n_isinstance (by decide +kernel) (pa_cons (pe_ix (ix_tupK (K := K) rfl) (pv 0) pe_int (fun _ _ => rfl)) (pa_cons (pe_ty (n := "tuple") (by rfl) T.n_tuple (by decide +kernel)) pa_nil))))))))) (pss_one ps_never)
      pss_nil)
      (pss_cons (ps_asg (pv 0) (pg_tupK (K := K) (n := 3) rfl rfl (pgs_cons (pg_name (i := 1) sc_is_place.nd rfl (Or.inl rfl)) (pgs_cons (pg_name (i := 2) sc_is_place.nd rfl (Or.inl rfl)) (pgs_cons (pg_name (i := 3) sc_is_place.nd rfl (Or.inl rfl)) pgs_nil)))))
      (pss_cons (ps_if (PW.pt (pw_and (pt_val (pe_callB (call_isiK' (K := K) rfl) (by rfl) T.n_isinstance (by decide +kernel) (pa_cons (pv 1) (pa_cons (pe_ty (n := "str") (by rfl) T.n_str (by decide +kernel)) pa_nil)))) (pw_and1 (pt_cmpR op_eq (pv 1) (pe_gstr (by rfl) T.c_OPENER) (nomark _))))) (pss_one (ps_ret (pe_and (pe_call (ok_is_whole T) (hr.mono (by decide)) (by rfl) T.m_is_whole T.F_is_whole.kp T.b_is_whole .nil pass0 (pa_cons (pv 2) (pa_cons pe_int (pa_cons pe_int pa_nil)))) (pe_one (pe_cmpR op_eq (pe_callB (call_lenK (K := K) rfl) (by rfl) T.n_len PySem.boot_len (pa_cons (pv 3) pa_nil)) pe_int (nomark _))))))
      pss_nil)
      (pss_one (ps_ret (pe_and (pe_call (ok_is_device T) (hr.mono (by decide)) (by rfl) T.m_is_device T.F_is_device.kp T.b_is_device .nil pass0 (pa_cons (pe_tup (pa_cons (pv 1) (pa_cons (pv 2) pa_nil))) pa_nil)) (pe_and (pe_cmpR op_le (pe_callB (call_lenK (K := K) rfl) (by rfl) T.n_len PySem.boot_len (pa_cons (pv 3) pa_nil)) (pe_gint (by rfl) T.c_MOST_SPUR) (nomark _)) (pe_one (pe_callB (cr_allK (K := K) rfl rfl) (by rfl) T.n_all (by decide +kernel) (pa_cons (pe_lc (own := [("one", 4)]) rfl sc_is_place.nd  (pi_tupK (K := K) rfl (pv 3)) (blkOk_by (N := ["thing", "kind", "address", "spur", "one"]) (sc := defScope s_is_place) (by decide +kernel)) (fun _ _ _ _ _ => (pg_name (i := 4) sc_is_place.nd rfl (Or.inl rfl))) (fun _ _ _ _ _ => pts_nil) (fun _ _ _ _ _ => (pe_call (ok_is_device T) (hr.mono (by decide)) (by rfl) T.m_is_device T.F_is_device.kp T.b_is_device .nil pass0 (pa_cons (pv 4) pa_nil)))) pa_nil)))))))))), ?_⟩
    have s0 := Same.refl H
    have hl := Paired.length pr
    rcases g with ⟨g1, g2, g3⟩ | ⟨g1, g2, g3⟩
    · have hk : V.str q.kind = V.str "opener" := by rw [g1]
      have hx : xs = [] := by
        rw [g3] at hl
        exact List.length_eq_zero_iff.mp hl
      subst hx
      walk_at "go"
      refine ⟨_, _, _, rfl, by omega, by omega, fun H1 s1 => ?_⟩
      walk_at "go"
      exact k _ s1
    · have hk := kind_no g1.1
      have hl3 : xs.length ≤ 3 := by omega
      walk_at "go"
      rename_i T1 H1 n1 n2 e1 e2 e3
      refine ⟨_, (q.kind, q.addr), rfl, ⟨_, rfl, e3⟩, g1, fun H2 s2 => ?_⟩
      have s3 := e2.trans s2
      walk_at "go"
      refine lcg_true (K := K) walk_tup s3 q.spur hl.symm (by omega) (fun H1 s1 => SqT.of (s1 _ _ (s3 _ _ hs))) (fun pre d post x H3 H4 e s1 s2 y Ky ky => ?_) (fun D H3 s1 s2 l => ?_)
      · obtain ⟨rfl, hx⟩ := y
        walk_at "go"
        exact ⟨_, d, rfl, DevR.ts s2.ts _ _ (at_pre pr e hx), g3 d (sub_pre e), fun H5 s5 => ky _ s5⟩
      · walk_at "go"
        exact bl_t (all_true _) (k _ s2)
/-! ### is_loop -/
def GoodL (l : List Place) : Prop := 1 ≤ l.length ∧ l.length ≤ 12 ∧ ∀ q ∈ l, GoodP q
def sp_is_loop : Sp := fun vs H Q _ => ∃ (v : V) (l : List Place), vs = [v] ∧ LoR H v l ∧ GoodL l ∧ ∀ H', Same H H' → Q (.bl true) H'
theorem ok_is_loop (T : Txt K mg f fd C aK aT) : FnOk P w K mg base CX0 4 (f 7) (fd 7) ["thing"] sp_is_loop := by
  refine T.F_is_loop.ok sc_is_loop (fun vs H Q E h => ?_) (fun cdv A outer s H vs Q E hr h => ?_)
  · obtain ⟨v, d, rfl, _⟩ := h; rfl
  · obtain ⟨v, l, rfl, ⟨p, xs, rfl, hp, pr⟩, ⟨g1, g2, g3⟩, k⟩ := h
    refine ⟨_, (pss_one (ps_ret (pe_and (pe_callB (call_isiK' (K := K) rfl) (by rfl) T.n_isinstance (by decide +kernel) (pa_cons (pv 0) (pa_cons (pe_ty (n := "tuple") (by rfl) T.n_tuple (by decide +kernel)) pa_nil))) (pe_and (pe_chain op_le op_le pe_int (pe_callB (call_lenK (K := K) rfl) (by rfl) T.n_len PySem.boot_len (pa_cons (pv 0) pa_nil)) (pe_gint (by rfl) T.c_MOST_PLACES)) (pe_one (pe_callB (cr_allK (K := K) rfl rfl) (by rfl) T.n_all (by decide +kernel) (pa_cons (pe_lc (own := [("one", 1)]) rfl sc_is_loop.nd  (pi_tupK (K := K) rfl (pv 0)) (blkOk_by (N := ["thing", "one"]) (sc := defScope s_is_loop) (by decide +kernel)) (fun _ _ _ _ _ => (pg_name (i := 1) sc_is_loop.nd rfl (Or.inl rfl))) (fun _ _ _ _ _ => pts_nil) (fun _ _ _ _ _ => (pe_call (ok_is_place T) (hr.mono (by decide)) (by rfl) T.m_is_place T.F_is_place.kp T.b_is_place .nil pass0 (pa_cons (pv 1) pa_nil)))) pa_nil))))))), ?_⟩
    have s0 := Same.refl H
    have hl := Paired.length pr
    walk_at "go"
    refine lcg_true (K := K) walk_tup s0 l hl.symm (by omega) (fun H1 s1 => SqT.of (s1 _ _ hp)) (fun pre d post x H3 H4 e s1 s2 y Ky ky => ?_) (fun D H3 s1 s2 l => ?_)
    · obtain ⟨rfl, hx⟩ := y
      walk_at "go"
      exact ⟨_, d, rfl, PlR.ts s2.ts _ _ (at_pre pr e hx), g3 d (sub_pre e), fun H5 s5 => ky _ s5⟩
    · walk_at "go"
      exact bl_t (all_true _) (k _ s2)
/-! ### is_zone -/
def GoodZ (z : Str × List Int) : Prop := Name z.1 ∧ 1 ≤ z.2.length ∧ z.2.length ≤ 30 ∧ (∀ n ∈ z.2, 1 ≤ n ∧ n ≤ 99) ∧ Rises z.2
def sp_is_zone : Sp := fun vs H Q _ => ∃ (v : V) (z : Str × List Int), vs = [v] ∧ ZoR H v z ∧ GoodZ z ∧ ∀ H', Same H H' → Q (.bl true) H'
theorem ok_is_zone (T : Txt K mg f fd C aK aT) : FnOk P w K mg base CX0 3 (f 8) (fd 8) ["thing"] sp_is_zone := by
  refine T.F_is_zone.ok sc_is_zone (fun vs H Q E h => ?_) (fun cdv A outer s H vs Q E hr h => ?_)
  · obtain ⟨v, d, rfl, _⟩ := h; rfl
  · obtain ⟨v, z, rfl, ⟨p, a, rfl, hp, ha⟩, ⟨g1, g2, g3, g4, g5⟩, k⟩ := h
    refine ⟨_, (pss_cons (ps_if (PW.pt (pw_or (pt_not (pt_val (pe_callB (call_isiK' (K := K) rfl) (by rfl) T.n_isinstance (by decide +kernel) (pa_cons (pv 0) (pa_cons (pe_ty (n := "tuple") (by rfl) T.n_tuple (by decide +kernel)) pa_nil))))) (pw_or (pt_cmpR op_ne (pe_callB (call_lenK (K := K) rfl) (by rfl) T.n_len PySem.boot_len (pa_cons (pv 0) pa_nil)) pe_int (nomark _)) (pw_or1 (pt_not (pt_val (pe_call (ok_is_name T) (hr.mono (by decide)) (by rfl) T.m_is_name T.F_is_name.kp T.b_is_name .nil pass0 (pa_cons (pe_ix (ix_tupK (K := K) rfl) (pv 0) pe_int (fun _ _ => rfl)) pa_nil)))))))) (pss_one ps_never)
      pss_nil)
      (pss_one (ps_ret (pe_and (pe_call (ok_are_rising T) (hr.mono (by decide)) (by rfl) T.m_are_rising T.F_are_rising.kp T.b_are_rising .nil pass0 (pa_cons (pe_ix (ix_tupK (K := K) rfl) (pv 0) pe_int (fun _ _ => rfl)) (pa_cons (pe_gint (by rfl) T.c_MOST_DEVICES) (pa_cons pe_int (pa_cons (pe_gint (by rfl) T.c_MOST_ADDRESS) pa_nil))))) (pe_one (pe_cmpR op_gt (pe_callB (call_lenK (K := K) rfl) (by rfl) T.n_len PySem.boot_len (pa_cons (pe_ix (ix_tupK (K := K) rfl) (pv 0) pe_int (fun _ _ => rfl)) pa_nil)) pe_int (nomark _))))))), ?_⟩
    have s0 := Same.refl H
    have hl : (z.2.map V.int).length = z.2.length := List.length_map _
    walk_at "go"
    refine ⟨_, rfl, g1, fun H1 s1 => ?_⟩
    walk_at "go"
    refine ⟨_, z.2, _, _, _, rfl, s1 _ _ ha, by omega, by omega, g4, g5, fun H2 s2 => ?_⟩
    have s3 := s1.trans s2
    have h0 : (0 : Int) < ((z.2.map V.int).length : Int) := by omega
    walk_at "go"
    exact bl_t (dt h0) (k _ s3)
end
end Wl

namespace Wl
open PySem L2
/-! ### the step tactics -/
local macro_rules | `(tactic| walk_at "lk") => `(tactic| first
  | assumption
  | exact upd_same
  | (refine (?_ : ∀ H, SqT _ H _ _) _; assumption)
  | (apply Step.get; (focus assumption); walk_at "lk")
  | (apply upd_tupL; (focus walk_at "lk"); walk_at "lk")
  | (apply upd_tupT; (focus walk_at "lk"); walk_at "lk")
  | (apply upd_tupK; (focus walk_at "lk"); walk_at "lk")
  | (apply L2.Same.get; (focus assumption); assumption)
  | (apply L2.Same.get; rotate_left; (focus assumption); assumption)
  | (apply SqT.of; walk_at "lk")
  | (apply SqL.of; walk_at "lk"))
local macro_rules | `(tactic| walk_at "sm") => `(tactic| first
  | assumption
  | (apply L2.Same.mut; (focus walk_at "sm"); (focus assumption)))
local macro_rules | `(tactic| walk_at "cond") => `(tactic| first
  | rfl
  | assumption
  | (exact dt (by first | rfl | assumption | omega | (simp; done) | (simp; omega)))
  | (exact df (by first | assumption | omega | (simp; done) | (simp; omega)))
  | (exact ndt (by first | rfl | assumption | omega | (simp; done) | (simp; omega)))
  | (exact ndf (by first | assumption | omega | (simp; done) | (simp; omega)))
  | (simp; done))
local macro_rules | `(tactic| walk_at "cond1") => `(tactic| first
  | assumption
  | with_reducible rfl
  | with_reducible exact n_t
  | with_reducible exact n_f
  | with_reducible exact dt (by assumption)
  | with_reducible exact df (by assumption)
  | with_reducible exact ndt (by assumption)
  | with_reducible exact ndf (by assumption))
local macro_rules | `(tactic| walk_at "g1") => `(tactic| first
  | with_reducible refine i_seq ?_
  | with_reducible refine i_asg ?_
  | with_reducible refine i_name ?_
  | with_reducible refine i_ret ?_
  | with_reducible refine i_drop ?_
  | with_reducible refine i_if ?_
  | with_reducible refine i_next ?_
  | with_reducible refine i_break ?_
  | with_reducible refine i_c ?_
  | ((with_reducible apply i_var); (focus (rfl)))
  | with_reducible refine i_op ?_
  | with_reducible refine i_cons ?_
  | with_reducible refine i_nil ?_
  | with_reducible refine i_cb ?_
  | with_reducible refine i_call ?_
  | ((with_reducible apply i_ixT); (focus (walk_at "lk")); (focus (first | rfl | assumption)))
  | ((with_reducible apply i_ixL); (focus (walk_at "lk")); (focus (first | rfl | assumption)))
  | with_reducible refine i_I0 ?_
  | ((with_reducible apply i_eq); (focus (rfl)))
  | ((with_reducible apply i_ne); (focus (rfl)))
  | with_reducible refine i_un ?_
  | with_reducible refine i_neg ?_
  | with_reducible refine i_andV ?_
  | with_reducible refine i_orV ?_
  | with_reducible refine i_notV ?_
  | with_reducible refine i_chain ?_
  | with_reducible refine i_test ?_
  | with_reducible refine i_B ?_
  | with_reducible refine i_k ?_
  | with_reducible refine i_and ?_
  | with_reducible refine i_or ?_
  | with_reducible refine i_not ?_
  | with_reducible refine i_yes ?_
  | (with_reducible refine i_isiI kit_ii ?_)
  | (with_reducible refine i_isiI kit_ib ?_)
  | (with_reducible refine i_isiS kit_ss ?_)
  | ((with_reducible apply i_isiT); (focus (walk_at "lk")); (focus (exact kit_tt)))
  | ((with_reducible apply i_len); (focus (first | (apply Or.inr; walk_at "lk") | (apply Or.inl; walk_at "lk"))))
  | ((with_reducible apply i_lens); (focus (walk_at "sz")))
  | (with_reducible refine i_sign ?_)
  | ((with_reducible apply i_inT); (focus (walk_at "lk")); (focus (rfl)); (focus (rfl)))
  | ((with_reducible apply i_inL); (focus (walk_at "lk")); (focus (rfl)); (focus (rfl)))
  | ((with_reducible apply i_ninL); (focus (walk_at "lk")); (focus (rfl)); (focus (rfl)))
  | ((with_reducible apply i_all); (focus (walk_at "lk")))
  | ((with_reducible apply i_any); (focus (walk_at "lk")))
  | ((with_reducible apply ift); (focus (walk_at "cond1")))
  | ((with_reducible apply iff_); (focus (walk_at "cond1")))
  | ((with_reducible apply ift); (focus (rfl)))
  | ((with_reducible apply iff_); (focus (rfl)))
  | ((with_reducible apply ift); (focus (walk_at "cond")))
  | ((with_reducible apply iff_); (focus (walk_at "cond")))
  | with_reducible refine i_tup ?_
  | (with_reducible refine i_new2 (by walk_at "sm") ?_; intro _ _ _ _ _ _ _)
  | with_reducible refine i_dnK ?_
  | with_reducible refine i_dnT ?_
  | with_reducible refine i_lc ?_
  | with_reducible refine i_for ?_
  | with_reducible refine i_iTup ?_
  | with_reducible refine i_iList ?_
  | ((with_reducible apply i_tupW); (focus (walk_at "lk")))
  | ((with_reducible apply i_listW); (focus (walk_at "lk")))
  | with_reducible refine i_iRng1 ?_
  | ((with_reducible apply i_rng1); (focus (walk_at "bnd")))
  | with_reducible refine i_iRng2 ?_
  | ((with_reducible apply i_rng2); (focus (walk_at "bnd")))
  | with_reducible refine i_iStr ?_
  | with_reducible refine i_iEnT ?_
  | with_reducible refine i_iEnum ?_
  | ((with_reducible apply i_enTW); (focus (walk_at "lk")))
  | ((with_reducible apply i_enLW); (focus (walk_at "lk")))
  | with_reducible refine i_strW ?_
  | with_reducible refine i_lst ?_
  | with_reducible refine i_bm ?_
  | with_reducible refine i_fld ?_
  | with_reducible refine i_dget2 ?_
  | with_reducible refine i_dget ?_
  | with_reducible refine i_din ?_
  | with_reducible refine i_dnotin ?_
  | with_reducible refine i_dputT ?_
  | with_reducible refine i_isN ?_
  | with_reducible refine i_notN ?_
  | ((with_reducible apply i_gtup); (focus (walk_at "lk")); (focus (rfl)))
  | with_reducible refine i_gcons ?_
  | with_reducible refine i_gnil ?_
  | with_reducible refine i_sl ?_
  | with_reducible refine i_nopart ?_
  | with_reducible refine i_part ?_
  | ((with_reducible apply i_app); (focus (walk_at "lk")); (focus (walk_at "sz")))
  | with_reducible refine i_2i ?_
  | with_reducible refine i_par ?_
  | with_reducible refine i_m1 ?_
  | with_reducible refine i_ex1 ?_
  | with_reducible refine i_isS ?_
  | ((with_reducible apply i_slS); (focus (walk_at "sz")))
  | with_reducible refine i_add_str ?_
  | with_reducible refine i_abs ?_
  | with_reducible refine i_gsub ?_
  | ((with_reducible apply i_setL); (focus (walk_at "lk")); (focus (rfl)))
  | ((with_reducible apply i_I); (focus (walk_at "arith")))
  | ((with_reducible apply i_fldw); (focus (walk_at "lk")); (focus assumption); (focus assumption); (focus (first | exact lk_plan | exact lk_hows | exact lk_stops | exact lk_dev)))
  | with_reducible refine i_meth ?_
  | ((with_reducible apply i_methW); (focus (walk_at "lk")); (focus (first | exact nm_need | exact nm_change | exact nm_parted | exact nm_act | exact nm_cut | exact nm_short | exact nm_mend | exact nm_rests | exact nm_come | exact nm_heard)))
  | ((with_reducible apply i_isD); (focus (walk_at "lk")))
  | ((with_reducible apply i_ext); (focus (walk_at "lk")); (focus (walk_at "lk")); (focus (walk_at "sz")))
  | ((with_reducible apply And.intro); (focus (first | (show wipe _ _ = wipe _ _; rfl) | (walk_at "sz")))))
local macro_rules | `(tactic| walk_at "arith") => `(tactic| first
  | assumption
  | (refine Or.inl ?_; (constructor <;> omega))
  | (refine Or.inr ?_; (constructor <;> omega))
  | (show (0 : Int) < _; omega)
  | (show 0 < _ ∧ _ < _; (constructor <;> omega))
  | (show CPow 10 18; exact ⟨by decide, by decide, by decide⟩))
local macro_rules | `(tactic| walk_at "bnd") => `(tactic| first
  | omega
  | (refine ⟨?_, ?_⟩ <;> omega))
local macro_rules | `(tactic| walk_at "sz") => `(tactic| first
  | (apply ty_l; walk_at "lk")
  | (apply ty_d; walk_at "lk")
  | (exact szle (by omega))
  | (exact szl (by omega))
  | (exact szle (by simp only [List.length_append, List.length_cons, List.length_nil, List.length_map]; omega))
  | (exact szl (by simp only [List.length_append, List.length_cons, List.length_nil, List.length_map]; omega))
  | (exact Nat.le_of_ble_eq_true rfl))
local macro_rules | `(tactic| walk_at "go") => `(tactic| repeat (first | walk_at "g1" | dsimp only))
section
variable {P : Program} {w : World} {K : PySem.W.Frag} {mg : Str → Option Value} {f : Nat → Addr} {fd : Nat → FuncData} {C aK aT : Addr} {base : Heap}
/-! ### devices -/
def GoodLs (P : Plan) : Prop := P.loops.length ≤ 3 ∧ ∀ lp ∈ P.loops, GoodL lp
theorem enumF_bnd {α β : Type} {f : Nat → α → List β} {c : Nat} : ∀ {xs : List α} {k : Nat}, (∀ i, ∀ x ∈ xs, (f i x).length ≤ c) → (enumF f k xs).length ≤ c * xs.length
  | [], k, _ => Nat.zero_le _
  | x :: xs, k, h => by
    rw [enumF, List.length_append, List.length_cons, Nat.mul_add]
    have h1 := h k x (List.mem_cons_self ..)
    have h2 := enumF_bnd (f := f) (c := c) (xs := xs) (k := k + 1) (fun i y hy => h i y (List.mem_cons_of_mem _ hy))
    omega
theorem spur_le {q : Place} (h : GoodP q) : q.spur.length ≤ 3 := by
  rcases h with ⟨_, _, h⟩ | ⟨_, h, _⟩
  · rw [h]; exact Nat.zero_le _
  · exact h
theorem devPl_le {l a : Nat} {q : Place} (h : GoodP q) : (devPl l a q).length ≤ 4 := by
  have h1 := spur_le h
  have h2 := enumF_bnd (f := fun w d => [((((l : Int), (a : Int) + 1, (w : Int) + 1), d.1, d.2) : Dev)]) (c := 1) (xs := q.spur) (k := 0) (fun _ _ _ => Nat.le_refl _)
  rw [devPl, List.length_append]
  split <;> simp only [List.length_nil, List.length_singleton] <;> omega
theorem devLo_le {l : Nat} {lp : List Place} (h : GoodL lp) : (enumF (fun a q => devPl l a q) 0 lp).length ≤ 48 := by
  have h2 := enumF_bnd (f := fun a q => devPl l a q) (c := 4) (xs := lp) (k := 0) (fun _ q hq => devPl_le (h.2.2 q hq))
  have := h.2.1
  omega
theorem devices_le {P : Plan} (h : GoodLs P) : (devices P).length ≤ 144 := by
  have h2 := enumF_bnd (f := fun l lp => enumF (fun a q => devPl l a q) 0 lp) (c := 48) (xs := P.loops) (k := 0) (fun l q hq => devLo_le (h.2 q hq))
  have := h.1
  rw [devices]
  omega
theorem if_mid {b : Bool} {t u : TS} {σ : L2.St} {H : Hp} {U bk ct : L2.St → Hp → Prop} {rt : VK} (M : L2.St → Hp → Prop) (h2 : ∀ σ' H', M σ' H' → U σ' H') (h1 : ∀ N : L2.St → Hp → Prop, (∀ σ' H', M σ' H' → N σ' H') → if b = true then t ⟨N, rt, bk, ct⟩ σ H else u ⟨N, rt, bk, ct⟩ σ H) :
    if b = true then t ⟨U, rt, bk, ct⟩ σ H else u ⟨U, rt, bk, ct⟩ σ H := h1 U h2
def sp_devices : Sp := fun vs H Q _ => ∃ (v : V) (P : Plan), vs = [v] ∧ PlanR H v P ∧ GoodLs P ∧ ∀ p H', H p = none → Same H H' → LR Dev3 H' p (devices P) → Q (.ref p) H'
theorem ok_devices (T : Txt K mg f fd C aK aT) : FnOk P w K mg base CX0 1 (f 11) (fd 11) ["plan"] sp_devices := by
  refine T.F_devices.ok sc_devices (fun vs H Q E h => ?_) (fun cdv A outer s H vs Q E hr h => ?_)
  · obtain ⟨v, P, rfl, _⟩ := h; rfl
  · obtain ⟨v, P, rfl, ⟨p, ls, zs, rfl, hp, ⟨la, xs, rfl, hl, pr⟩, _⟩, hg, k⟩ := h
    refine ⟨_, (pss_cons (ps_set (i := 1) sc_devices.nd rfl (Or.inl rfl) (pe_lst pa_nil))
      (pss_cons (ps_for PassesOwn.never rfl (pi_enumT (K := K) rfl (by rfl) T.n_enumerate (pa_cons (pe_ix (ix_tupK (K := K) rfl) (pv 0) pe_int (fun _ _ => rfl)) pa_nil)) (pg_tupK (K := K) (n := 2) rfl rfl (pgs_cons (pg_name (i := 2) sc_devices.nd rfl (Or.inl rfl)) (pgs_cons (pg_name (i := 3) sc_devices.nd rfl (Or.inl rfl)) pgs_nil))) (pss_one (ps_for PassesOwn.never rfl (pi_enumT (K := K) rfl (by rfl) T.n_enumerate (pa_cons (pv 3) pa_nil)) (pg_tupK (K := K) (n := 2) rfl rfl (pgs_cons (pg_name (i := 4) sc_devices.nd rfl (Or.inl rfl)) (pgs_cons (pg_tupK (K := K) (n := 3) rfl rfl (pgs_cons (pg_name (i := 5) sc_devices.nd rfl (Or.inl rfl)) (pgs_cons (pg_name (i := 6) sc_devices.nd rfl (Or.inl rfl)) (pgs_cons (pg_name (i := 7) sc_devices.nd rfl (Or.inl rfl)) pgs_nil)))) pgs_nil))) (pss_cons (ps_if (pt_cmpR op_ne (pv 5) (pe_gstr (by rfl) T.c_OPENER) (nomark _)) (pss_one (ps_expr (pe_bmK (K := K) rfl PySem.F.plainAttrs_list PySem.F.slot_list_append PySem.F.type_list_append mt_append (pv 1) (pa_cons (pe_tup (pa_cons (pe_tup (pa_cons (pv 2) (pa_cons (pe_op op_add (pv 4) pe_int) (pa_cons pe_int pa_nil)))) (pa_cons (pv 5) (pa_cons (pv 6) pa_nil)))) pa_nil))))
      pss_nil)
      (pss_one (ps_for PassesOwn.never rfl (pi_enumT (K := K) rfl (by rfl) T.n_enumerate (pa_cons (pv 7) pa_nil)) (pg_tupK (K := K) (n := 2) rfl rfl (pgs_cons (pg_name (i := 8) sc_devices.nd rfl (Or.inl rfl)) (pgs_cons (pg_tupK (K := K) (n := 2) rfl rfl (pgs_cons (pg_name (i := 9) sc_devices.nd rfl (Or.inl rfl)) (pgs_cons (pg_name (i := 10) sc_devices.nd rfl (Or.inl rfl)) pgs_nil))) pgs_nil))) (pss_one (ps_expr (pe_bmK (K := K) rfl PySem.F.plainAttrs_list PySem.F.slot_list_append PySem.F.type_list_append mt_append (pv 1) (pa_cons (pe_tup (pa_cons (pe_tup (pa_cons (pv 2) (pa_cons (pe_op op_add (pv 4) pe_int) (pa_cons (pe_op op_add (pv 8) pe_int) pa_nil)))) (pa_cons (pv 9) (pa_cons (pv 10) pa_nil)))) pa_nil))))))))))
      (pss_one (ps_ret (pv 1))))), ?_⟩
    have s0 := Same.refl H
    walk_at "go"
    rename_i F H1 f1 f2 s1 s1' hF
    have hdl := devices_le hg
    refine forg_en (K := K) pr (fun pre σ H' => (∃ a b c d e f g h i, σ = [some (.ref p), some (.ref F), a, b, c, d, e, f, g, h, i]) ∧ Same H H' ∧ LR Dev3 H' F (enumF (fun l lp => enumF (fun a q => devPl l a q) 0 lp) 0 pre)) ⟨⟨_, _, _, _, _, _, _, _, _, rfl⟩, s1', [], hF, .nil⟩ (fun pre σ H' q => q.2.1 _ _ hl) (fun pre lp post q x σ H2 H3 e hP r hq sq hq2 => ?_) (fun σ H' hP => ?_)
    · obtain ⟨⟨_, _, _, _, _, _, _, _, _, rfl⟩, s2, vs2, hF2, lr2⟩ := hP
      obtain ⟨lb, ys, rfl, hl2, pr2⟩ := r
      have s3 := s2.trans sq
      walk_at "go"
      have e1 := enumF_le (f := fun l lp => enumF (fun a q => devPl l a q) 0 lp) e
      have e0 : (enumF (fun l lp => enumF (fun a q => devPl l a q) 0 lp) 0 P.loops).length ≤ 144 := hdl
      refine forg_en (K := K) pr2 (fun pre2 σ H' => (∃ d e f g h i a, σ = [some (.ref p), some (.ref F), some (.int pre.length), some (.ref lb), d, e, f, g, h, i, a]) ∧ Same H H' ∧ LR Dev3 H' F (enumF (fun l lp => enumF (fun a q => devPl l a q) 0 lp) 0 pre ++ enumF (fun a q => devPl pre.length a q) 0 pre2))
        ⟨⟨_, _, _, _, _, _, _, rfl⟩, s3, _, sq _ _ hF2, ?_⟩ (fun pre2 σ H' q => q.2.1 _ _ hl2) (fun pre2 pl post2 q2 x σ H4 H5 e2 hP r hq2 sq2 hq22 => ?_) (fun σ H' hP => ?_)
      · rw [enumF, List.append_nil]
        exact Paired.mapP lr2 (Dev3.ts sq.ts)
      · obtain ⟨⟨_, _, _, _, _, _, _, rfl⟩, s4, vs4, hF4, lr4⟩ := hP
        obtain ⟨pp, ss, rfl, hpp, ⟨sa, zs2, rfl, hsa, pr3⟩⟩ := r
        have s5 := s4.trans sq2
        have hF5 := sq2 _ _ hF4
        have lr5 := Paired.mapP lr4 (Dev3.ts sq2.ts)
        have e3 := enumF_le (f := fun a q => devPl pre.length a q) e2
        walk_at "go"
        refine if_mid (fun σ' H' => (∃ h i a, σ' = [some (.ref p), some (.ref F), some (.int pre.length), some (.ref lb), some (.int pre2.length), some (.str pl.kind), some (.int pl.addr), some (.ref sa), h, i, a]) ∧ Same H H' ∧ LR Dev3 H' F ((enumF (fun l lp => enumF (fun a q => devPl l a q) 0 lp) 0 pre ++ enumF (fun a q => devPl pre.length a q) 0 pre2) ++ (if pl.kind = "opener" then [] else [(((pre.length : Int), (pre2.length : Int) + 1, 0), pl.kind, pl.addr)]))) (fun σ' H' hP => ?_) (fun N hN => ?_)
        · obtain ⟨⟨_, _, _, rfl⟩, s6, vs6, hF6, lr6⟩ := hP
          walk_at "go"
          have hds : (devPl pre.length pre2.length pl).length = (if pl.kind = "opener" then ([] : List Dev) else [(((pre.length : Int), (pre2.length : Int) + 1, 0), pl.kind, pl.addr)]).length + (enumF (fun w d => [((((pre.length : Int), (pre2.length : Int) + 1, (w : Int) + 1), d.1, d.2) : Dev)]) 0 pl.spur).length := by rw [devPl, List.length_append]
          refine forg_en (K := K) pr3 (fun pre3 σ H' => (∃ h i a, σ = [some (.ref p), some (.ref F), some (.int pre.length), some (.ref lb), some (.int pre2.length), some (.str pl.kind), some (.int pl.addr), some (.ref sa), h, i, a]) ∧ Same H H' ∧ LR Dev3 H' F (((enumF (fun l lp => enumF (fun a q => devPl l a q) 0 lp) 0 pre ++ enumF (fun a q => devPl pre.length a q) 0 pre2) ++ (if pl.kind = "opener" then [] else [(((pre.length : Int), (pre2.length : Int) + 1, 0), pl.kind, pl.addr)])) ++ enumF (fun w d => [(((pre.length : Int), (pre2.length : Int) + 1, (w : Int) + 1), d.1, d.2)]) 0 pre3))
            ⟨⟨_, _, _, rfl⟩, s6, vs6, hF6, (by rw [enumF, List.append_nil]; exact lr6)⟩ (fun pre3 σ H' q => q.2.1 _ _ hsa) (fun pre3 d3 post3 q3 x σ H7 H8 e6 hP r hq3 sq3 hq33 => ?_) (fun σ H' hP => ?_)
          · obtain ⟨⟨_, _, _, rfl⟩, s8, vs8, hF8, lr8⟩ := hP
            obtain ⟨dp, rfl, hdp⟩ := r
            have s9 := s8.trans sq3
            have hF9 := sq3 _ _ hF8
            have lr9 := Paired.mapP lr8 (Dev3.ts sq3.ts)
            have e7 := enumF_le (f := fun w d => [((((pre.length : Int), (pre2.length : Int) + 1, (w : Int) + 1), d.1, d.2) : Dev)]) e6
            have hv9 : vs8.length ≤ 1000 := by have := Paired.length lr9; rw [List.length_append, List.length_append, List.length_append] at this; omega
            walk_at "go"
            rename_i q1 h1 _ _ st1 s10 e4 q2 h2 _ _ st2 s11 e5
            have t7 := st1.same.ts.trans st2.same.ts
            refine ⟨⟨_, _, _, rfl⟩, s11.mut f1, ?_⟩
            rw [enumF_snoc, ← List.append_assoc]
            exact LR.snoc Dev3.ts (by walk_at "lk") (Paired.mapP lr9 (Dev3.ts t7)) ⟨_, _, rfl, e5, _, rfl, st2.get e4⟩
          · obtain ⟨⟨_, _, _, rfl⟩, s8, vs8, hF8, lr8⟩ := hP
            refine ⟨⟨_, _, _, _, _, _, _, rfl⟩, s8, vs8, hF8, ?_⟩
            rw [enumF_snoc, ← List.append_assoc]
            rw [List.append_assoc (_ ++ _)] at lr8
            exact lr8
        · by_cases hk : pl.kind = "opener"
          · have hk2 : V.str pl.kind = V.str "opener" := by rw [hk]
            walk_at "go"
            refine hN _ _ ⟨⟨_, _, _, rfl⟩, s5, _, hF5, ?_⟩
            rw [if_pos hk, List.append_nil]
            exact lr5
          · have hk2 : ¬ V.str pl.kind = V.str "opener" := fun e => hk (V.str.inj e)
            have hv5 : vs4.length ≤ 1000 := by have := Paired.length lr5; rw [List.length_append] at this; omega
            walk_at "go"
            rename_i q1 h1 _ _ st1 s6 e4 q2 h2 _ _ st2 s7 e5
            have t7 := st1.same.ts.trans st2.same.ts
            refine hN _ _ ⟨⟨_, _, _, rfl⟩, s7.mut f1, ?_⟩
            rw [if_neg hk]
            exact LR.snoc Dev3.ts (by walk_at "lk") (Paired.mapP lr5 (Dev3.ts t7)) ⟨_, _, rfl, e5, _, rfl, st2.get e4⟩
      · obtain ⟨⟨_, _, _, _, _, _, _, rfl⟩, s4, vs4, hF4, lr4⟩ := hP
        exact ⟨⟨_, _, _, _, _, _, _, _, _, rfl⟩, s4, _, hF4, by rw [enumF_snoc]; exact lr4⟩
    · obtain ⟨⟨_, _, _, _, _, _, _, _, _, rfl⟩, s2, vs2, hF2, lr2⟩ := hP
      walk_at "go"
      exact k _ _ f2 s2 ⟨_, hF2, lr2⟩
end
end Wl

namespace Wl
open PySem L2
/-! ### the step tactics -/
local macro_rules | `(tactic| walk_at "lk") => `(tactic| first
  | assumption
  | exact upd_same
  | (refine (?_ : ∀ H, SqT _ H _ _) _; assumption)
  | (apply Step.get; (focus assumption); walk_at "lk")
  | (apply upd_tupL; (focus walk_at "lk"); walk_at "lk")
  | (apply upd_tupT; (focus walk_at "lk"); walk_at "lk")
  | (apply upd_tupK; (focus walk_at "lk"); walk_at "lk")
  | (apply L2.Same.get; (focus assumption); assumption)
  | (apply L2.Same.get; rotate_left; (focus assumption); assumption)
  | (apply SqT.of; walk_at "lk")
  | (apply SqL.of; walk_at "lk"))
local macro_rules | `(tactic| walk_at "sm") => `(tactic| first
  | assumption
  | (apply L2.Same.mut; (focus walk_at "sm"); (focus assumption)))
local macro_rules | `(tactic| walk_at "cond") => `(tactic| first
  | rfl
  | assumption
  | (exact dt (by first | rfl | assumption | omega | (simp; done) | (simp; omega)))
  | (exact df (by first | assumption | omega | (simp; done) | (simp; omega)))
  | (exact ndt (by first | rfl | assumption | omega | (simp; done) | (simp; omega)))
  | (exact ndf (by first | assumption | omega | (simp; done) | (simp; omega)))
  | (simp; done))
local macro_rules | `(tactic| walk_at "cond1") => `(tactic| first
  | assumption
  | with_reducible rfl
  | with_reducible exact n_t
  | with_reducible exact n_f
  | with_reducible exact dt (by assumption)
  | with_reducible exact df (by assumption)
  | with_reducible exact ndt (by assumption)
  | with_reducible exact ndf (by assumption))
local macro_rules | `(tactic| walk_at "g1") => `(tactic| first
  | with_reducible refine i_seq ?_
  | with_reducible refine i_asg ?_
  | with_reducible refine i_name ?_
  | with_reducible refine i_ret ?_
  | with_reducible refine i_drop ?_
  | with_reducible refine i_if ?_
  | with_reducible refine i_next ?_
  | with_reducible refine i_break ?_
  | with_reducible refine i_c ?_
  | ((with_reducible apply i_var); (focus (rfl)))
  | with_reducible refine i_op ?_
  | with_reducible refine i_cons ?_
  | with_reducible refine i_nil ?_
  | with_reducible refine i_cb ?_
  | with_reducible refine i_call ?_
  | ((with_reducible apply i_ixT); (focus (walk_at "lk")); (focus (first | rfl | assumption)))
  | ((with_reducible apply i_ixL); (focus (walk_at "lk")); (focus (first | rfl | assumption)))
  | with_reducible refine i_I0 ?_
  | ((with_reducible apply i_eq); (focus (rfl)))
  | ((with_reducible apply i_ne); (focus (rfl)))
  | with_reducible refine i_un ?_
  | with_reducible refine i_neg ?_
  | with_reducible refine i_andV ?_
  | with_reducible refine i_orV ?_
  | with_reducible refine i_notV ?_
  | with_reducible refine i_chain ?_
  | with_reducible refine i_test ?_
  | with_reducible refine i_B ?_
  | with_reducible refine i_k ?_
  | with_reducible refine i_and ?_
  | with_reducible refine i_or ?_
  | with_reducible refine i_not ?_
  | with_reducible refine i_yes ?_
  | (with_reducible refine i_isiI kit_ii ?_)
  | (with_reducible refine i_isiI kit_ib ?_)
  | (with_reducible refine i_isiS kit_ss ?_)
  | ((with_reducible apply i_isiT); (focus (walk_at "lk")); (focus (exact kit_tt)))
  | ((with_reducible apply i_len); (focus (first | (apply Or.inr; walk_at "lk") | (apply Or.inl; walk_at "lk"))))
  | ((with_reducible apply i_lens); (focus (walk_at "sz")))
  | (with_reducible refine i_sign ?_)
  | ((with_reducible apply i_inT); (focus (walk_at "lk")); (focus (rfl)); (focus (rfl)))
  | ((with_reducible apply i_inL); (focus (walk_at "lk")); (focus (rfl)); (focus (rfl)))
  | ((with_reducible apply i_ninL); (focus (walk_at "lk")); (focus (rfl)); (focus (rfl)))
  | ((with_reducible apply i_all); (focus (walk_at "lk")))
  | ((with_reducible apply i_any); (focus (walk_at "lk")))
  | ((with_reducible apply ift); (focus (walk_at "cond1")))
  | ((with_reducible apply iff_); (focus (walk_at "cond1")))
  | ((with_reducible apply ift); (focus (rfl)))
  | ((with_reducible apply iff_); (focus (rfl)))
  | ((with_reducible apply ift); (focus (walk_at "cond")))
  | ((with_reducible apply iff_); (focus (walk_at "cond")))
  | with_reducible refine i_tup ?_
  | (with_reducible refine i_new2 (by walk_at "sm") ?_; intro _ _ _ _ _ _ _)
  | with_reducible refine i_dnK ?_
  | with_reducible refine i_dnT ?_
  | with_reducible refine i_lc ?_
  | with_reducible refine i_for ?_
  | with_reducible refine i_iTup ?_
  | with_reducible refine i_iList ?_
  | ((with_reducible apply i_tupW); (focus (walk_at "lk")))
  | ((with_reducible apply i_listW); (focus (walk_at "lk")))
  | with_reducible refine i_iRng1 ?_
  | ((with_reducible apply i_rng1); (focus (walk_at "bnd")))
  | with_reducible refine i_iRng2 ?_
  | ((with_reducible apply i_rng2); (focus (walk_at "bnd")))
  | with_reducible refine i_iStr ?_
  | with_reducible refine i_iEnT ?_
  | with_reducible refine i_iEnum ?_
  | ((with_reducible apply i_enTW); (focus (walk_at "lk")))
  | ((with_reducible apply i_enLW); (focus (walk_at "lk")))
  | with_reducible refine i_strW ?_
  | with_reducible refine i_lst ?_
  | with_reducible refine i_bm ?_
  | with_reducible refine i_fld ?_
  | with_reducible refine i_dget2 ?_
  | with_reducible refine i_dget ?_
  | with_reducible refine i_din ?_
  | with_reducible refine i_dnotin ?_
  | with_reducible refine i_dputT ?_
  | with_reducible refine i_isN ?_
  | with_reducible refine i_notN ?_
  | ((with_reducible apply i_gtup); (focus (walk_at "lk")); (focus (rfl)))
  | with_reducible refine i_gcons ?_
  | with_reducible refine i_gnil ?_
  | with_reducible refine i_sl ?_
  | with_reducible refine i_nopart ?_
  | with_reducible refine i_part ?_
  | ((with_reducible apply i_app); (focus (walk_at "lk")); (focus (walk_at "sz")))
  | with_reducible refine i_2i ?_
  | with_reducible refine i_par ?_
  | with_reducible refine i_m1 ?_
  | with_reducible refine i_ex1 ?_
  | with_reducible refine i_isS ?_
  | ((with_reducible apply i_slS); (focus (walk_at "sz")))
  | with_reducible refine i_add_str ?_
  | with_reducible refine i_abs ?_
  | with_reducible refine i_gsub ?_
  | ((with_reducible apply i_setL); (focus (walk_at "lk")); (focus (rfl)))
  | ((with_reducible apply i_I); (focus (walk_at "arith")))
  | ((with_reducible apply i_fldw); (focus (walk_at "lk")); (focus assumption); (focus assumption); (focus (first | exact lk_plan | exact lk_hows | exact lk_stops | exact lk_dev)))
  | with_reducible refine i_meth ?_
  | ((with_reducible apply i_methW); (focus (walk_at "lk")); (focus (first | exact nm_need | exact nm_change | exact nm_parted | exact nm_act | exact nm_cut | exact nm_short | exact nm_mend | exact nm_rests | exact nm_come | exact nm_heard)))
  | ((with_reducible apply i_isD); (focus (walk_at "lk")))
  | ((with_reducible apply i_ext); (focus (walk_at "lk")); (focus (walk_at "lk")); (focus (walk_at "sz")))
  | ((with_reducible apply And.intro); (focus (first | (show wipe _ _ = wipe _ _; rfl) | (walk_at "sz")))))
local macro_rules | `(tactic| walk_at "arith") => `(tactic| first
  | assumption
  | (refine Or.inl ?_; (constructor <;> omega))
  | (refine Or.inr ?_; (constructor <;> omega))
  | (show (0 : Int) < _; omega)
  | (show 0 < _ ∧ _ < _; (constructor <;> omega))
  | (show CPow 10 18; exact ⟨by decide, by decide, by decide⟩))
local macro_rules | `(tactic| walk_at "bnd") => `(tactic| first
  | omega
  | (refine ⟨?_, ?_⟩ <;> omega))
local macro_rules | `(tactic| walk_at "sz") => `(tactic| first
  | (apply ty_l; walk_at "lk")
  | (apply ty_d; walk_at "lk")
  | (exact szle (by omega))
  | (exact szl (by omega))
  | (exact szle (by simp only [List.length_append, List.length_cons, List.length_nil, List.length_map]; omega))
  | (exact szl (by simp only [List.length_append, List.length_cons, List.length_nil, List.length_map]; omega))
  | (exact Nat.le_of_ble_eq_true rfl))
local macro_rules | `(tactic| walk_at "go") => `(tactic| repeat (first | walk_at "g1" | dsimp only))
section
variable {P : Program} {w : World} {K : PySem.W.Frag} {mg : Str → Option Value} {f : Nat → Addr} {fd : Nat → FuncData} {C aK aT : Addr} {base : Heap}
theorem strPl_len {l a : Nat} {q : Place} : (strPl l a q).length = q.spur.length + 1 := by rw [strPl, List.length_map, List.length_range]
theorem stretches_le {P : Plan} (h : GoodLs P) : (stretches P).length ≤ 150 := by
  have h2 := enumF_bnd (f := fun l lp => (((l : Int), 0, 0) : Sp3) :: enumF (fun a q => strPl l a q) 0 lp) (c := 49) (xs := P.loops) (k := 0) (fun l lp hq => by
    have h3 := enumF_bnd (f := fun a q => strPl l a q) (c := 4) (xs := lp) (k := 0) (fun a q hm => by rw [strPl_len]; have := spur_le ((h.2 lp hq).2.2 q hm); omega)
    have := (h.2 lp hq).2.1
    rw [List.length_cons]
    omega)
  have := h.1
  rw [stretches]
  omega
/-! ### stretches -/
def sp_stretches : Sp := fun vs H Q _ => ∃ (v : V) (P : Plan), vs = [v] ∧ PlanR H v P ∧ GoodLs P ∧ ∀ p H', H p = none → Same H H' → LR T3 H' p (stretches P) → Q (.ref p) H'
theorem ok_stretches (T : Txt K mg f fd C aK aT) : FnOk P w K mg base CX0 1 (f 12) (fd 12) ["plan"] sp_stretches := by
  refine T.F_stretches.ok sc_stretches (fun vs H Q E h => ?_) (fun cdv A outer s H vs Q E hr h => ?_)
  · obtain ⟨v, P, rfl, _⟩ := h; rfl
  · obtain ⟨v, P, rfl, ⟨p, ls, zs, rfl, hp, ⟨la, xs, rfl, hl, pr⟩, _⟩, hg, k⟩ := h
    refine ⟨_, (pss_cons (ps_set (i := 1) sc_stretches.nd rfl (Or.inl rfl) (pe_lst pa_nil))
      (pss_cons (ps_for PassesOwn.never rfl (pi_enumT (K := K) rfl (by rfl) T.n_enumerate (pa_cons (pe_ix (ix_tupK (K := K) rfl) (pv 0) pe_int (fun _ _ => rfl)) pa_nil)) (pg_tupK (K := K) (n := 2) rfl rfl (pgs_cons (pg_name (i := 2) sc_stretches.nd rfl (Or.inr rfl)) (pgs_cons (pg_name (i := 3) sc_stretches.nd rfl (Or.inl rfl)) pgs_nil))) (pss_cons (ps_expr (pe_bmK (K := K) rfl PySem.F.plainAttrs_list PySem.F.slot_list_append PySem.F.type_list_append mt_append (pv 1) (pa_cons (pe_tup (pa_cons (pv 2) (pa_cons pe_int (pa_cons pe_int pa_nil)))) pa_nil)))
      (pss_one (ps_for PassesOwn.never rfl (pi_enumT (K := K) rfl (by rfl) T.n_enumerate (pa_cons (pv 3) pa_nil)) (pg_tupK (K := K) (n := 2) rfl rfl (pgs_cons (pg_name (i := 4) sc_stretches.nd rfl (Or.inr rfl)) (pgs_cons (pg_name (i := 5) sc_stretches.nd rfl (Or.inl rfl)) pgs_nil))) (pss_one (ps_expr (pe_bmK (K := K) rfl PySem.F.plainAttrs_list PySem.F.slot_list_extend PySem.F.type_list_extend mt_extend (pv 1) (pa_cons (pe_lc (own := [("way", 6)]) rfl sc_stretches.nd  (pi_range1 (by rfl) T.n_range (pa_cons (pe_op op_add (pe_callB (call_lenK (K := K) rfl) (by rfl) T.n_len PySem.boot_len (pa_cons (pe_ix (ix_tupK (K := K) rfl) (pv 5) pe_int (fun _ _ => rfl)) pa_nil)) pe_int) pa_nil)) (blkOk_by (N := ["plan", "found", "loop", "places", "at", "place", "way"]) (sc := defScope s_stretches) (by decide +kernel)) (fun _ _ _ _ _ => (pg_name (i := 6) sc_stretches.nd rfl (Or.inl rfl))) (fun _ _ _ _ _ => pts_nil) (fun _ _ _ _ _ => (pe_tup (pa_cons (pv 2) (pa_cons (pe_op op_add (pv 4) pe_int) (pa_cons (pv 6) pa_nil)))))) pa_nil))))))))
      (pss_one (ps_ret (pv 1))))), ?_⟩
    have s0 := Same.refl H
    walk_at "go"
    rename_i F H1 f1 f2 s1 s1' hF
    have hdl : (enumF (fun l lp => (((l : Int), 0, 0) : Sp3) :: enumF (fun a q => strPl l a q) 0 lp) 0 P.loops).length ≤ 150 := stretches_le hg
    refine forg_en (K := K) pr (fun pre σ H' => (∃ a b c d e, σ = [some (.ref p), some (.ref F), a, b, c, d, e]) ∧ Same H H' ∧ LR T3 H' F (enumF (fun l lp => (((l : Int), 0, 0) : Sp3) :: enumF (fun a q => strPl l a q) 0 lp) 0 pre)) ⟨⟨_, _, _, _, _, rfl⟩, s1', [], hF, .nil⟩ (fun pre σ H' q => q.2.1 _ _ hl) (fun pre lp post q x σ H2 H3 e hP r hq sq hq2 => ?_) (fun σ H' hP => ?_)
    · obtain ⟨⟨_, _, _, _, _, rfl⟩, s2, vs2, hF2, lr2⟩ := hP
      obtain ⟨lb, ys, rfl, hl2, pr2⟩ := r
      have s3 := s2.trans sq
      have e1 := enumF_le (f := fun l lp => (((l : Int), 0, 0) : Sp3) :: enumF (fun a q => strPl l a q) 0 lp) e
      rw [List.length_cons] at e1
      have hF3 := sq _ _ hF2
      have hv3 : vs2.length ≤ 1000 := by have := Paired.length lr2; omega
      walk_at "go"
      rename_i q1 h1 _ _ st1 s4 e4
      have hlp : lp.length ≤ 12 := (hg.2 lp (sub_pre e)).2.1
      refine forg_en (K := K) pr2 (fun pre2 σ H' => (∃ d e a, σ = [some (.ref p), some (.ref F), some (.int pre.length), some (.ref lb), d, e, a]) ∧ Same H H' ∧ LR T3 H' F ((enumF (fun l lp => (((l : Int), 0, 0) : Sp3) :: enumF (fun a q => strPl l a q) 0 lp) 0 pre ++ [((pre.length : Int), 0, 0)]) ++ enumF (fun a q => strPl pre.length a q) 0 pre2))
        ⟨⟨_, _, _, rfl⟩, s4.mut f1, ?_⟩ (fun pre2 σ H' q => q.2.1 _ _ hl2) (fun pre2 pl post2 q2 x σ H4 H5 e2 hP r hq2 sq2 hq22 => ?_) (fun σ H' hP => ?_)
      · rw [enumF, List.append_nil]
        exact LR.snoc T3.tsx (by walk_at "lk") (Paired.mapP lr2 (T3.tsx (sq.ts.trans st1.same.ts))) ⟨_, rfl, e4⟩
      · obtain ⟨⟨_, _, _, rfl⟩, s4, vs4, hF4, lr4⟩ := hP
        obtain ⟨pp, ss, rfl, hpp, ⟨sa, zs2, rfl, hsa, pr3⟩⟩ := r
        have s5 := s4.trans sq2
        have hF5 := sq2 _ _ hF4
        have lr5 := Paired.mapP lr4 (T3.tsx sq2.ts)
        have e3 := enumF_le (f := fun a q => strPl pre.length a q) e2
        rw [strPl_len] at e3
        have hsp := spur_le ((hg.2 lp (sub_pre e)).2.2 pl (sub_pre e2))
        have hz2 := Paired.length pr3
        walk_at "go"
        refine lcg_rng s5 (by omega) (fun w => some ((((pre.length : Int), (pre2.length : Int) + 1, (w : Int)) : Sp3))) T3 T3.tsx (fun i H6 hi s6 s6' Ky Kn ky kn => ?_) (fun D H6 d1 d2 s6 s6' l6 => ?_)
        · walk_at "go"
          rename_i q2 h2 _ _ st2 s7 e5
          exact ky _ _ _ rfl st2.same ⟨_, rfl, by rw [show ((i : Int)) = 0 + (i : Int) by omega]; exact e5⟩
        · obtain ⟨vs6, hD6, pr6⟩ := l6
          rw [fm_some] at pr6
          have hn : (((zs2.length : Int) + 1).toNat) = pl.spur.length + 1 := by omega
          rw [hn] at pr6
          have hF6 := s6 _ _ hF5
          have q6 : vs4.length + vs6.length ≤ 1000 := by
            have h1 := Paired.length lr5
            have h2 := Paired.length pr6
            rw [List.length_map, List.length_range] at h2
            rw [List.length_append, List.length_append, List.length_singleton] at h1
            omega
          walk_at "go"
          refine ⟨⟨_, _, _, rfl⟩, s6'.mut f1, ?_⟩
          rw [enumF_snoc, ← List.append_assoc]
          exact LR.ext T3.tsx hF6 (Paired.mapP lr5 (T3.tsx s6.ts)) pr6
      · obtain ⟨⟨_, _, _, rfl⟩, s4, vs4, hF4, lr4⟩ := hP
        refine ⟨⟨_, _, _, _, _, rfl⟩, s4, _, hF4, ?_⟩
        rw [enumF_snoc]
        rw [List.append_assoc] at lr4
        exact lr4
    · obtain ⟨⟨_, _, _, _, _, rfl⟩, s2, vs2, hF2, lr2⟩ := hP
      walk_at "go"
      exact k _ _ f2 s2 ⟨_, hF2, lr2⟩
end
end Wl

namespace Wl
open PySem L2
/-! ### the step tactics -/
local macro_rules | `(tactic| walk_at "lk") => `(tactic| first
  | assumption
  | exact upd_same
  | (refine (?_ : ∀ H, SqT _ H _ _) _; assumption)
  | (apply Step.get; (focus assumption); walk_at "lk")
  | (apply upd_tupL; (focus walk_at "lk"); walk_at "lk")
  | (apply upd_tupT; (focus walk_at "lk"); walk_at "lk")
  | (apply upd_tupK; (focus walk_at "lk"); walk_at "lk")
  | (apply L2.Same.get; (focus assumption); assumption)
  | (apply L2.Same.get; rotate_left; (focus assumption); assumption)
  | (apply SqT.of; walk_at "lk")
  | (apply SqL.of; walk_at "lk"))
local macro_rules | `(tactic| walk_at "sm") => `(tactic| first
  | assumption
  | (apply L2.Same.mut; (focus walk_at "sm"); (focus assumption)))
local macro_rules | `(tactic| walk_at "cond") => `(tactic| first
  | rfl
  | assumption
  | (exact dt (by first | rfl | assumption | omega | (simp; done) | (simp; omega)))
  | (exact df (by first | assumption | omega | (simp; done) | (simp; omega)))
  | (exact ndt (by first | rfl | assumption | omega | (simp; done) | (simp; omega)))
  | (exact ndf (by first | assumption | omega | (simp; done) | (simp; omega)))
  | (simp; done))
local macro_rules | `(tactic| walk_at "cond1") => `(tactic| first
  | assumption
  | with_reducible rfl
  | with_reducible exact n_t
  | with_reducible exact n_f
  | with_reducible exact dt (by assumption)
  | with_reducible exact df (by assumption)
  | with_reducible exact ndt (by assumption)
  | with_reducible exact ndf (by assumption))
local macro_rules | `(tactic| walk_at "g1") => `(tactic| first
  | with_reducible refine i_seq ?_
  | with_reducible refine i_asg ?_
  | with_reducible refine i_name ?_
  | with_reducible refine i_ret ?_
  | with_reducible refine i_drop ?_
  | with_reducible refine i_if ?_
  | with_reducible refine i_next ?_
  | with_reducible refine i_break ?_
  | with_reducible refine i_c ?_
  | ((with_reducible apply i_var); (focus (rfl)))
  | with_reducible refine i_op ?_
  | with_reducible refine i_cons ?_
  | with_reducible refine i_nil ?_
  | with_reducible refine i_cb ?_
  | with_reducible refine i_call ?_
  | ((with_reducible apply i_ixT); (focus (walk_at "lk")); (focus (first | rfl | assumption)))
  | ((with_reducible apply i_ixL); (focus (walk_at "lk")); (focus (first | rfl | assumption)))
  | with_reducible refine i_I0 ?_
  | ((with_reducible apply i_eq); (focus (rfl)))
  | ((with_reducible apply i_ne); (focus (rfl)))
  | with_reducible refine i_un ?_
  | with_reducible refine i_neg ?_
  | with_reducible refine i_andV ?_
  | with_reducible refine i_orV ?_
  | with_reducible refine i_notV ?_
  | with_reducible refine i_chain ?_
  | with_reducible refine i_test ?_
  | with_reducible refine i_B ?_
  | with_reducible refine i_k ?_
  | with_reducible refine i_and ?_
  | with_reducible refine i_or ?_
  | with_reducible refine i_not ?_
  | with_reducible refine i_yes ?_
  | (with_reducible refine i_isiI kit_ii ?_)
  | (with_reducible refine i_isiI kit_ib ?_)
  | (with_reducible refine i_isiS kit_ss ?_)
  | ((with_reducible apply i_isiT); (focus (walk_at "lk")); (focus (exact kit_tt)))
  | ((with_reducible apply i_len); (focus (first | (apply Or.inr; walk_at "lk") | (apply Or.inl; walk_at "lk"))))
  | ((with_reducible apply i_lens); (focus (walk_at "sz")))
  | (with_reducible refine i_sign ?_)
  | ((with_reducible apply i_inT); (focus (walk_at "lk")); (focus (rfl)); (focus (rfl)))
  | ((with_reducible apply i_inL); (focus (walk_at "lk")); (focus (rfl)); (focus (rfl)))
  | ((with_reducible apply i_ninL); (focus (walk_at "lk")); (focus (rfl)); (focus (rfl)))
  | ((with_reducible apply i_all); (focus (walk_at "lk")))
  | ((with_reducible apply i_any); (focus (walk_at "lk")))
  | ((with_reducible apply ift); (focus (walk_at "cond1")))
  | ((with_reducible apply iff_); (focus (walk_at "cond1")))
  | ((with_reducible apply ift); (focus (rfl)))
  | ((with_reducible apply iff_); (focus (rfl)))
  | ((with_reducible apply ift); (focus (walk_at "cond")))
  | ((with_reducible apply iff_); (focus (walk_at "cond")))
  | with_reducible refine i_tup ?_
  | (with_reducible refine i_new2 (by walk_at "sm") ?_; intro _ _ _ _ _ _ _)
  | with_reducible refine i_dnK ?_
  | with_reducible refine i_dnT ?_
  | with_reducible refine i_lc ?_
  | with_reducible refine i_for ?_
  | with_reducible refine i_iTup ?_
  | with_reducible refine i_iList ?_
  | ((with_reducible apply i_tupW); (focus (walk_at "lk")))
  | ((with_reducible apply i_listW); (focus (walk_at "lk")))
  | with_reducible refine i_iRng1 ?_
  | ((with_reducible apply i_rng1); (focus (walk_at "bnd")))
  | with_reducible refine i_iRng2 ?_
  | ((with_reducible apply i_rng2); (focus (walk_at "bnd")))
  | with_reducible refine i_iStr ?_
  | with_reducible refine i_iEnT ?_
  | with_reducible refine i_iEnum ?_
  | ((with_reducible apply i_enTW); (focus (walk_at "lk")))
  | ((with_reducible apply i_enLW); (focus (walk_at "lk")))
  | with_reducible refine i_strW ?_
  | with_reducible refine i_lst ?_
  | with_reducible refine i_bm ?_
  | with_reducible refine i_fld ?_
  | with_reducible refine i_dget2 ?_
  | with_reducible refine i_dget ?_
  | with_reducible refine i_din ?_
  | with_reducible refine i_dnotin ?_
  | with_reducible refine i_dputT ?_
  | with_reducible refine i_isN ?_
  | with_reducible refine i_notN ?_
  | ((with_reducible apply i_gtup); (focus (walk_at "lk")); (focus (rfl)))
  | with_reducible refine i_gcons ?_
  | with_reducible refine i_gnil ?_
  | with_reducible refine i_sl ?_
  | with_reducible refine i_nopart ?_
  | with_reducible refine i_part ?_
  | ((with_reducible apply i_app); (focus (walk_at "lk")); (focus (walk_at "sz")))
  | with_reducible refine i_2i ?_
  | with_reducible refine i_par ?_
  | with_reducible refine i_m1 ?_
  | with_reducible refine i_ex1 ?_
  | with_reducible refine i_isS ?_
  | ((with_reducible apply i_slS); (focus (walk_at "sz")))
  | with_reducible refine i_add_str ?_
  | with_reducible refine i_abs ?_
  | with_reducible refine i_gsub ?_
  | ((with_reducible apply i_setL); (focus (walk_at "lk")); (focus (rfl)))
  | ((with_reducible apply i_I); (focus (walk_at "arith")))
  | ((with_reducible apply i_fldw); (focus (walk_at "lk")); (focus assumption); (focus assumption); (focus (first | exact lk_plan | exact lk_hows | exact lk_stops | exact lk_dev)))
  | with_reducible refine i_meth ?_
  | ((with_reducible apply i_methW); (focus (walk_at "lk")); (focus (first | exact nm_need | exact nm_change | exact nm_parted | exact nm_act | exact nm_cut | exact nm_short | exact nm_mend | exact nm_rests | exact nm_come | exact nm_heard)))
  | ((with_reducible apply i_isD); (focus (walk_at "lk")))
  | ((with_reducible apply i_ext); (focus (walk_at "lk")); (focus (walk_at "lk")); (focus (walk_at "sz")))
  | ((with_reducible apply And.intro); (focus (first | (show wipe _ _ = wipe _ _; rfl) | (walk_at "sz")))))
local macro_rules | `(tactic| walk_at "arith") => `(tactic| first
  | assumption
  | (refine Or.inl ?_; (constructor <;> omega))
  | (refine Or.inr ?_; (constructor <;> omega))
  | (show (0 : Int) < _; omega)
  | (show 0 < _ ∧ _ < _; (constructor <;> omega))
  | (show CPow 10 18; exact ⟨by decide, by decide, by decide⟩))
local macro_rules | `(tactic| walk_at "bnd") => `(tactic| first
  | omega
  | (refine ⟨?_, ?_⟩ <;> omega))
local macro_rules | `(tactic| walk_at "sz") => `(tactic| first
  | (apply ty_l; walk_at "lk")
  | (apply ty_d; walk_at "lk")
  | (exact szle (by omega))
  | (exact szl (by omega))
  | (exact szle (by simp only [List.length_append, List.length_cons, List.length_nil, List.length_map]; omega))
  | (exact szl (by simp only [List.length_append, List.length_cons, List.length_nil, List.length_map]; omega))
  | (exact Nat.le_of_ble_eq_true rfl))
local macro_rules | `(tactic| walk_at "go") => `(tactic| repeat (first | walk_at "g1" | dsimp only))
section
variable {P : Program} {w : World} {K : PySem.W.Frag} {mg : Str → Option Value} {f : Nat → Addr} {fd : Nat → FuncData} {C aK aT : Addr} {base : Heap}
theorem opnPl_len {l a : Nat} {q : Place} : (opnPl l a q).length ≤ 1 := by rw [opnPl]; split <;> simp
theorem openers_le {P : Plan} (h : GoodLs P) : (openers P).length ≤ 42 := by
  have h2 := enumF_bnd (f := fun l lp => (((l : Int), 0) : Int × Int) :: (enumF (fun a q => opnPl l a q) 0 lp ++ [((l : Int), (lp.length : Int) + 1)])) (c := 14) (xs := P.loops) (k := 0) (fun l lp hq => by
    have h3 := enumF_bnd (f := fun a q => opnPl l a q) (c := 1) (xs := lp) (k := 0) (fun a q hm => opnPl_len)
    have := (h.2 lp hq).2.1
    rw [List.length_cons, List.length_append, List.length_singleton]
    omega)
  have := h.1
  rw [openers]
  omega
/-! ### openers -/
theorem opn_zip (l : Nat) (lp : List Place) : ((List.range lp.length).zip lp).filterMap (fun (p : Nat × Place) => if p.2.kind = "opener" then some (((l : Int), (p.1 : Int) + 1) : Int × Int) else none) = enumF (fun a q => opnPl l a q) 0 lp := by
  rw [enumF_zip]
  congr 1
  funext i x
  rw [opnPl]
  split <;> rfl
def sp_openers : Sp := fun vs H Q _ => ∃ (v : V) (P : Plan), vs = [v] ∧ PlanR H v P ∧ GoodLs P ∧ ∀ p H', H p = none → Same H H' → LR T2 H' p (openers P) → Q (.ref p) H'
theorem ok_openers (T : Txt K mg f fd C aK aT) : FnOk P w K mg base CX0 1 (f 13) (fd 13) ["plan"] sp_openers := by
  refine T.F_openers.ok sc_openers (fun vs H Q E h => ?_) (fun cdv A outer s H vs Q E hr h => ?_)
  · obtain ⟨v, P, rfl, _⟩ := h; rfl
  · obtain ⟨v, P, rfl, ⟨p, ls, zs, rfl, hp, ⟨la, xs, rfl, hl, pr⟩, _⟩, hg, k⟩ := h
    refine ⟨_, (pss_cons (ps_set (i := 1) sc_openers.nd rfl (Or.inl rfl) (pe_lst pa_nil))
      (pss_cons (ps_for PassesOwn.never rfl (pi_enumT (K := K) rfl (by rfl) T.n_enumerate (pa_cons (pe_ix (ix_tupK (K := K) rfl) (pv 0) pe_int (fun _ _ => rfl)) pa_nil)) (pg_tupK (K := K) (n := 2) rfl rfl (pgs_cons (pg_name (i := 2) sc_openers.nd rfl (Or.inr rfl)) (pgs_cons (pg_name (i := 3) sc_openers.nd rfl (Or.inl rfl)) pgs_nil))) (pss_cons (ps_expr (pe_bmK (K := K) rfl PySem.F.plainAttrs_list PySem.F.slot_list_append PySem.F.type_list_append mt_append (pv 1) (pa_cons (pe_tup (pa_cons (pv 2) (pa_cons pe_int pa_nil))) pa_nil)))
      (pss_cons (ps_expr (pe_bmK (K := K) rfl PySem.F.plainAttrs_list PySem.F.slot_list_extend PySem.F.type_list_extend mt_extend (pv 1) (pa_cons (pe_lc (own := [("at", 4), ("place", 5)]) rfl sc_openers.nd  (pi_enumT (K := K) rfl (by rfl) T.n_enumerate (pa_cons (pv 3) pa_nil)) (blkOk_by (N := ["plan", "found", "loop", "places", "at", "place"]) (sc := defScope s_openers) (by decide +kernel)) (fun _ _ _ _ _ => (pg_tupK (K := K) (n := 2) rfl rfl (pgs_cons (pg_name (i := 4) sc_openers.nd rfl (Or.inl rfl)) (pgs_cons (pg_name (i := 5) sc_openers.nd rfl (Or.inl rfl)) pgs_nil)))) (fun _ _ _ _ _ => pts_one (pt_cmpR op_eq (pe_ix (ix_tupK (K := K) rfl) (pv 5) pe_int (fun _ _ => rfl)) (pe_gstr (by rfl) T.c_OPENER) (nomark _))) (fun _ _ _ _ _ => (pe_tup (pa_cons (pv 2) (pa_cons (pe_op op_add (pv 4) pe_int) pa_nil))))) pa_nil)))
      (pss_one (ps_expr (pe_bmK (K := K) rfl PySem.F.plainAttrs_list PySem.F.slot_list_append PySem.F.type_list_append mt_append (pv 1) (pa_cons (pe_tup (pa_cons (pv 2) (pa_cons (pe_op op_add (pe_callB (call_lenK (K := K) rfl) (by rfl) T.n_len PySem.boot_len (pa_cons (pv 3) pa_nil)) pe_int) pa_nil))) pa_nil)))))))
      (pss_one (ps_ret (pv 1))))), ?_⟩
    have s0 := Same.refl H
    walk_at "go"
    rename_i F H1 f1 f2 s1 s1' hF
    have hdl : (enumF (fun l lp => (((l : Int), 0) : Int × Int) :: (enumF (fun a q => opnPl l a q) 0 lp ++ [((l : Int), (lp.length : Int) + 1)])) 0 P.loops).length ≤ 42 := openers_le hg
    refine forg_en (K := K) pr (fun pre σ H' => (∃ a b c d, σ = [some (.ref p), some (.ref F), a, b, c, d]) ∧ Same H H' ∧ LR T2 H' F (enumF (fun l lp => (((l : Int), 0) : Int × Int) :: (enumF (fun a q => opnPl l a q) 0 lp ++ [((l : Int), (lp.length : Int) + 1)])) 0 pre)) ⟨⟨_, _, _, _, rfl⟩, s1', [], hF, .nil⟩ (fun pre σ H' q => q.2.1 _ _ hl) (fun pre lp post q x σ H2 H3 e hP r hq sq hq2 => ?_) (fun σ H' hP => ?_)
    · obtain ⟨⟨_, _, _, _, rfl⟩, s2, vs2, hF2, lr2⟩ := hP
      obtain ⟨lb, ys, rfl, hl2, pr2⟩ := r
      have s3 := s2.trans sq
      have e1 := enumF_le (f := fun l lp => (((l : Int), 0) : Int × Int) :: (enumF (fun a q => opnPl l a q) 0 lp ++ [((l : Int), (lp.length : Int) + 1)])) e
      rw [List.length_cons, List.length_append, List.length_singleton] at e1
      have hF3 := sq _ _ hF2
      have hv3 : vs2.length ≤ 1000 := by have := Paired.length lr2; omega
      walk_at "go"
      rename_i q1 h1 _ _ st1 s4 e4
      have hlp : lp.length ≤ 12 := (hg.2 lp (sub_pre e)).2.1
      refine lcg_en (K := K) pr2 (by walk_at "lk") (s4.mut f1) (by omega) (fun (p : Nat × Place) => if p.2.kind = "opener" then some (((pre.length : Int), (p.1 : Int) + 1) : Int × Int) else none) T2 T2.tsx (fun pre2 pl post2 q2 x H4 H5 e2 s5 s5' r sq2 hq22 Ky Kn ky kn => ?_) (fun D H6 d1 d2 s6 s6' l6 => ?_)
      · obtain ⟨pp, ss, rfl, hpp, _⟩ := r
        have s6 := s5'.trans sq2
        walk_at "go"
        refine if2 (fun hk => ?_) (fun hk => ?_)
        · have hk2 : pl.kind = "opener" := V.str.inj (of_decide_eq_true hk)
          walk_at "go"
          rename_i q3 h3 _ _ st3 s7 e5
          exact ky _ _ _ (if_pos hk2) (sq2.trans st3.same) ⟨_, rfl, e5⟩
        · have hk2 : ¬ pl.kind = "opener" := fun e => of_decide_eq_false hk (by rw [e])
          exact kn _ (if_neg hk2) sq2
      · obtain ⟨vs6, hD6, pr6⟩ := l6
        rw [opn_zip] at pr6
        have hF6 := s6.get (upd_same (H := h1) (a := F) (o := .lst (vs2 ++ [.ref q1])))
        have hn := Paired.length lr2
        have hn2 := Paired.length pr6
        have hn3 := Paired.length pr2
        have q6 : (vs2 ++ [V.ref q1]).length + vs6.length ≤ 1000 := by rw [List.length_append, List.length_singleton]; omega
        walk_at "go"
        rename_i q7 h7 _ _ st7 s7 e7
        have hF7 := st7.get (upd_same (H := H6) (a := F) (o := .lst (vs2 ++ [.ref q1] ++ vs6)))
        have q8 : (vs2 ++ [V.ref q1] ++ vs6).length ≤ 1000 := by rw [List.length_append]; exact q6
        walk_at "go"
        refine ⟨⟨_, _, _, _, rfl⟩, s7.mut f1, ?_⟩
        rw [enumF_snoc]
        have t1 : Tk H2 H6 := (sq.ts.trans st1.same.ts).trans ((Tk.upd (st1.get hF3) nt_l).trans s6.ts)
        have t2 : Tk H6 h7 := (Tk.upd hF6 nt_l).trans st7.same.ts
        have a1 : LR T2 (upd h7 F (.lst (vs2 ++ [.ref q1] ++ vs6 ++ [.ref q7]))) F (((enumF (fun l lp => (((l : Int), 0) : Int × Int) :: (enumF (fun a q => opnPl l a q) 0 lp ++ [((l : Int), (lp.length : Int) + 1)])) 0 pre ++ [((pre.length : Int), 0)]) ++ enumF (fun a q => opnPl pre.length a q) 0 lp) ++ [((pre.length : Int), (lp.length : Int) + 1)]) := by
          refine LR.snoc T2.tsx hF7 (Paired.app (Paired.app (Paired.mapP lr2 (T2.tsx (t1.trans t2))) (Paired.one ⟨q1, rfl, ?_⟩)) (Paired.mapP pr6 (T2.tsx t2))) ⟨q7, rfl, by rw [← hn3]; exact e7⟩
          exact t2 _ _ (s6.ts _ _ (Tk.upd (st1.get hF3) nt_l _ _ e4))
        have a2 : ∀ (x y z : List (Int × Int)) (a b : Int × Int), ((x ++ [a]) ++ y) ++ [b] = x ++ (a :: (y ++ [b])) := fun x y z a b => by simp
        rw [a2 _ _ []] at a1
        exact a1
    · obtain ⟨⟨_, _, _, _, rfl⟩, s2, vs2, hF2, lr2⟩ := hP
      walk_at "go"
      exact k _ _ f2 s2 ⟨_, hF2, lr2⟩
end
end Wl

namespace Wl
open PySem L2
/-! ### the step tactics -/
local macro_rules | `(tactic| walk_at "lk") => `(tactic| first
  | assumption
  | exact upd_same
  | (refine (?_ : ∀ H, SqT _ H _ _) _; assumption)
  | (apply Step.get; (focus assumption); walk_at "lk")
  | (apply upd_tupL; (focus walk_at "lk"); walk_at "lk")
  | (apply upd_tupT; (focus walk_at "lk"); walk_at "lk")
  | (apply upd_tupK; (focus walk_at "lk"); walk_at "lk")
  | (apply L2.Same.get; (focus assumption); assumption)
  | (apply L2.Same.get; rotate_left; (focus assumption); assumption)
  | (apply SqT.of; walk_at "lk")
  | (apply SqL.of; walk_at "lk"))
local macro_rules | `(tactic| walk_at "sm") => `(tactic| first
  | assumption
  | (apply L2.Same.mut; (focus walk_at "sm"); (focus assumption)))
local macro_rules | `(tactic| walk_at "cond") => `(tactic| first
  | rfl
  | assumption
  | (exact dt (by first | rfl | assumption | omega | (simp; done) | (simp; omega)))
  | (exact df (by first | assumption | omega | (simp; done) | (simp; omega)))
  | (exact ndt (by first | rfl | assumption | omega | (simp; done) | (simp; omega)))
  | (exact ndf (by first | assumption | omega | (simp; done) | (simp; omega)))
  | (simp; done))
local macro_rules | `(tactic| walk_at "cond1") => `(tactic| first
  | assumption
  | with_reducible rfl
  | with_reducible exact n_t
  | with_reducible exact n_f
  | with_reducible exact dt (by assumption)
  | with_reducible exact df (by assumption)
  | with_reducible exact ndt (by assumption)
  | with_reducible exact ndf (by assumption))
local macro_rules | `(tactic| walk_at "g1") => `(tactic| first
  | with_reducible refine i_seq ?_
  | with_reducible refine i_asg ?_
  | with_reducible refine i_name ?_
  | with_reducible refine i_ret ?_
  | with_reducible refine i_drop ?_
  | with_reducible refine i_if ?_
  | with_reducible refine i_next ?_
  | with_reducible refine i_break ?_
  | with_reducible refine i_c ?_
  | ((with_reducible apply i_var); (focus (rfl)))
  | with_reducible refine i_op ?_
  | with_reducible refine i_cons ?_
  | with_reducible refine i_nil ?_
  | with_reducible refine i_cb ?_
  | with_reducible refine i_call ?_
  | ((with_reducible apply i_ixT); (focus (walk_at "lk")); (focus (first | rfl | assumption)))
  | ((with_reducible apply i_ixL); (focus (walk_at "lk")); (focus (first | rfl | assumption)))
  | with_reducible refine i_I0 ?_
  | ((with_reducible apply i_eq); (focus (rfl)))
  | ((with_reducible apply i_ne); (focus (rfl)))
  | with_reducible refine i_un ?_
  | with_reducible refine i_neg ?_
  | with_reducible refine i_andV ?_
  | with_reducible refine i_orV ?_
  | with_reducible refine i_notV ?_
  | with_reducible refine i_chain ?_
  | with_reducible refine i_test ?_
  | with_reducible refine i_B ?_
  | with_reducible refine i_k ?_
  | with_reducible refine i_and ?_
  | with_reducible refine i_or ?_
  | with_reducible refine i_not ?_
  | with_reducible refine i_yes ?_
  | (with_reducible refine i_isiI kit_ii ?_)
  | (with_reducible refine i_isiI kit_ib ?_)
  | (with_reducible refine i_isiS kit_ss ?_)
  | ((with_reducible apply i_isiT); (focus (walk_at "lk")); (focus (exact kit_tt)))
  | ((with_reducible apply i_len); (focus (first | (apply Or.inr; walk_at "lk") | (apply Or.inl; walk_at "lk"))))
  | ((with_reducible apply i_lens); (focus (walk_at "sz")))
  | (with_reducible refine i_sign ?_)
  | ((with_reducible apply i_inT); (focus (walk_at "lk")); (focus (rfl)); (focus (rfl)))
  | ((with_reducible apply i_inL); (focus (walk_at "lk")); (focus (rfl)); (focus (rfl)))
  | ((with_reducible apply i_ninL); (focus (walk_at "lk")); (focus (rfl)); (focus (rfl)))
  | ((with_reducible apply i_all); (focus (walk_at "lk")))
  | ((with_reducible apply i_any); (focus (walk_at "lk")))
  | ((with_reducible apply ift); (focus (walk_at "cond1")))
  | ((with_reducible apply iff_); (focus (walk_at "cond1")))
  | ((with_reducible apply ift); (focus (rfl)))
  | ((with_reducible apply iff_); (focus (rfl)))
  | ((with_reducible apply ift); (focus (walk_at "cond")))
  | ((with_reducible apply iff_); (focus (walk_at "cond")))
  | with_reducible refine i_tup ?_
  | (with_reducible refine i_new2 (by walk_at "sm") ?_; intro _ _ _ _ _ _ _)
  | with_reducible refine i_dnK ?_
  | with_reducible refine i_dnT ?_
  | with_reducible refine i_lc ?_
  | with_reducible refine i_for ?_
  | with_reducible refine i_iTup ?_
  | with_reducible refine i_iList ?_
  | ((with_reducible apply i_tupW); (focus (walk_at "lk")))
  | ((with_reducible apply i_listW); (focus (walk_at "lk")))
  | with_reducible refine i_iRng1 ?_
  | ((with_reducible apply i_rng1); (focus (walk_at "bnd")))
  | with_reducible refine i_iRng2 ?_
  | ((with_reducible apply i_rng2); (focus (walk_at "bnd")))
  | with_reducible refine i_iStr ?_
  | with_reducible refine i_iEnT ?_
  | with_reducible refine i_iEnum ?_
  | ((with_reducible apply i_enTW); (focus (walk_at "lk")))
  | ((with_reducible apply i_enLW); (focus (walk_at "lk")))
  | with_reducible refine i_strW ?_
  | with_reducible refine i_lst ?_
  | with_reducible refine i_bm ?_
  | with_reducible refine i_fld ?_
  | with_reducible refine i_dget2 ?_
  | with_reducible refine i_dget ?_
  | with_reducible refine i_din ?_
  | with_reducible refine i_dnotin ?_
  | with_reducible refine i_dputT ?_
  | with_reducible refine i_isN ?_
  | with_reducible refine i_notN ?_
  | ((with_reducible apply i_gtup); (focus (walk_at "lk")); (focus (rfl)))
  | with_reducible refine i_gcons ?_
  | with_reducible refine i_gnil ?_
  | with_reducible refine i_sl ?_
  | with_reducible refine i_nopart ?_
  | with_reducible refine i_part ?_
  | ((with_reducible apply i_app); (focus (walk_at "lk")); (focus (walk_at "sz")))
  | with_reducible refine i_2i ?_
  | with_reducible refine i_par ?_
  | with_reducible refine i_m1 ?_
  | with_reducible refine i_ex1 ?_
  | with_reducible refine i_isS ?_
  | ((with_reducible apply i_slS); (focus (walk_at "sz")))
  | with_reducible refine i_add_str ?_
  | with_reducible refine i_abs ?_
  | with_reducible refine i_gsub ?_
  | ((with_reducible apply i_setL); (focus (walk_at "lk")); (focus (rfl)))
  | ((with_reducible apply i_I); (focus (walk_at "arith")))
  | ((with_reducible apply i_fldw); (focus (walk_at "lk")); (focus assumption); (focus assumption); (focus (first | exact lk_plan | exact lk_hows | exact lk_stops | exact lk_dev)))
  | with_reducible refine i_meth ?_
  | ((with_reducible apply i_methW); (focus (walk_at "lk")); (focus (first | exact nm_need | exact nm_change | exact nm_parted | exact nm_act | exact nm_cut | exact nm_short | exact nm_mend | exact nm_rests | exact nm_come | exact nm_heard)))
  | ((with_reducible apply i_isD); (focus (walk_at "lk")))
  | ((with_reducible apply i_ext); (focus (walk_at "lk")); (focus (walk_at "lk")); (focus (walk_at "sz")))
  | ((with_reducible apply And.intro); (focus (first | (show wipe _ _ = wipe _ _; rfl) | (walk_at "sz")))))
local macro_rules | `(tactic| walk_at "arith") => `(tactic| first
  | assumption
  | (refine Or.inl ?_; (constructor <;> omega))
  | (refine Or.inr ?_; (constructor <;> omega))
  | (show (0 : Int) < _; omega)
  | (show 0 < _ ∧ _ < _; (constructor <;> omega))
  | (show CPow 10 18; exact ⟨by decide, by decide, by decide⟩))
local macro_rules | `(tactic| walk_at "bnd") => `(tactic| first
  | omega
  | (refine ⟨?_, ?_⟩ <;> omega))
local macro_rules | `(tactic| walk_at "sz") => `(tactic| first
  | (apply ty_l; walk_at "lk")
  | (apply ty_d; walk_at "lk")
  | (exact szle (by omega))
  | (exact szl (by omega))
  | (exact szle (by simp only [List.length_append, List.length_cons, List.length_nil, List.length_map]; omega))
  | (exact szl (by simp only [List.length_append, List.length_cons, List.length_nil, List.length_map]; omega))
  | (exact Nat.le_of_ble_eq_true rfl))
local macro_rules | `(tactic| walk_at "go") => `(tactic| repeat (first | walk_at "g1" | dsimp only))
section
variable {P : Program} {w : World} {K : PySem.W.Frag} {mg : Str → Option Value} {f : Nat → Addr} {fd : Nat → FuncData} {C aK aT : Addr} {base : Heap}
/-! ### parts -/
def pstep (st : List Nat × Nat) (q : Place) : List Nat × Nat := if q.kind = "opener" then (st.1 ++ [st.2], 0) else (st.1, st.2 + (q.spur.length + 1))
def pst (lp : List Place) : List Nat × Nat := lp.foldl pstep ([], 0)
def partsN (lp : List Place) : List Nat := (pst lp).1 ++ [(pst lp).2]
theorem pst_snoc (lp : List Place) (q : Place) : pst (lp ++ [q]) = pstep (pst lp) q := by rw [pst, List.foldl_append]; rfl
/-- a list of n items -/
def LeR (H : Hp) (v : V) (n : Nat) : Prop := ∃ a ws, v = .ref a ∧ H a = some (.lst ws) ∧ ws.length = n
def PaI (H0 H : Hp) (F : Addr) (st : List Nat × Nat) : Prop := ∃ (bs : List Addr) (b : Addr) (vs : List V), H F = some (.lst (bs.map V.ref ++ [V.ref b])) ∧ Paired (fun a n => ∃ ws, H a = some (.lst ws) ∧ ws.length = n) bs st.1 ∧ b ∉ bs ∧ F ∉ bs ∧ F ≠ b ∧ H b = some (.lst vs) ∧ vs.length = st.2 ∧ H0 b = none ∧ bs.length ≤ 100 ∧ vs.length ≤ 1000
theorem PaI.step {H0 H H' : Hp} {F : Addr} {st : List Nat × Nat} (s : Same H H') (h : PaI H0 H F st) : PaI H0 H' F st := by
  obtain ⟨bs, b, vs, h1, h2, h3, h4, h5, h6, h7⟩ := h
  exact ⟨bs, b, vs, s _ _ h1, Paired.mapP h2 (fun a n ⟨ws, e, l⟩ => ⟨ws, s _ _ e, l⟩), h3, h4, h5, s _ _ h6, h7⟩
theorem PaI.mem {H : Hp} {bs : List Addr} {acc : List Nat} (h : Paired (fun a n => ∃ ws, H a = some (.lst ws) ∧ ws.length = n) bs acc) : ∀ a ∈ bs, H a ≠ none := by
  induction h with
  | nil => intro a ha; cases ha
  | cons f _ ih =>
    intro a ha
    rcases List.mem_cons.mp ha with rfl | ha
    · obtain ⟨ws, e, _⟩ := f
      rw [e]; exact fun z => nomatch z
    · exact ih a ha
theorem PaI.upd {H : Hp} {bs : List Addr} {acc : List Nat} {p : Addr} {o : HO} (h : Paired (fun a n => ∃ ws, H a = some (.lst ws) ∧ ws.length = n) bs acc) (n : p ∉ bs) : Paired (fun a n => ∃ ws, upd H p o a = some (.lst ws) ∧ ws.length = n) bs acc := by
  induction h with
  | nil => exact .nil
  | cons f _ ih =>
    obtain ⟨ws, e, l⟩ := f
    exact .cons ⟨ws, by rw [upd_ne (fun z => n (by rw [z]; exact List.mem_cons_self ..))]; exact e, l⟩ (ih fun z => n (List.mem_cons_of_mem _ z))
theorem at_last {bs : List Addr} {b : Addr} : atI (bs.map V.ref ++ [V.ref b]) (-1) = some (.ref b) := by
  rw [atI, ixN]
  simp
  rw [if_pos (by omega), show (-1 + ((bs.length : Int) + 1)).toNat = bs.length by omega]
  simp
def sp_parts : Sp := fun vs H Q _ => ∃ (v : V) (P : Plan) (l : Nat) (lp : List Place), vs = [v, .int l] ∧ PlanR H v P ∧ GoodLs P ∧ P.loops[l]? = some lp ∧ ∀ p H', H p = none → Same H H' → LR LeR H' p (partsN lp) → Q (.ref p) H'
theorem ok_parts (T : Txt K mg f fd C aK aT) : FnOk P w K mg base CX0 1 (f 14) (fd 14) ["plan", "loop"] sp_parts := by
  refine T.F_parts.ok sc_parts (fun vs H Q E h => ?_) (fun cdv A outer s H vs Q E hr h => ?_)
  · obtain ⟨v, P, l, lp, rfl, _⟩ := h; rfl
  · obtain ⟨v, P, l, lp, rfl, ⟨p, ls, zs, rfl, hp, ⟨la, xs, rfl, hl, pr⟩, _⟩, hg, hlp, k⟩ := h
    refine ⟨_, (pss_cons (ps_set (i := 2) sc_parts.nd rfl (Or.inl rfl) (pe_lst (pa_cons (pe_lst pa_nil) pa_nil)))
      (pss_cons (ps_for PassesOwn.never rfl (pi_enumT (K := K) rfl (by rfl) T.n_enumerate (pa_cons (pe_ix (ix_tupK (K := K) rfl) (pe_ix (ix_tupK (K := K) rfl) (pv 0) pe_int (fun _ _ => rfl)) (pv 1) (fun _ _ => rfl)) pa_nil)) (pg_tupK (K := K) (n := 2) rfl rfl (pgs_cons (pg_name (i := 3) sc_parts.nd rfl (Or.inr rfl)) (pgs_cons (pg_tupK (K := K) (n := 3) rfl rfl (pgs_cons (pg_name (i := 4) sc_parts.nd rfl (Or.inl rfl)) (pgs_cons (pg_name (i := 5) sc_parts.nd rfl (Or.inl rfl)) (pgs_cons (pg_name (i := 6) sc_parts.nd rfl (Or.inl rfl)) pgs_nil)))) pgs_nil))) (pss_one (ps_if (pt_cmpR op_eq (pv 4) (pe_gstr (by rfl) T.c_OPENER) (nomark _)) (pss_one (ps_expr (pe_bmK (K := K) rfl PySem.F.plainAttrs_list PySem.F.slot_list_append PySem.F.type_list_append mt_append (pv 2) (pa_cons (pe_lst pa_nil) pa_nil))))
      (pss_one (ps_expr (pe_bmK (K := K) rfl PySem.F.plainAttrs_list PySem.F.slot_list_extend PySem.F.type_list_extend mt_extend (pe_ix (ix_listK (K := K) rfl) (pv 2) (pe_un un_neg pe_int) (fun _ _ => rfl)) (pa_cons (pe_lc (own := [("way", 7)]) rfl sc_parts.nd  (pi_range1 (by rfl) T.n_range (pa_cons (pe_op op_add (pe_callB (call_lenK (K := K) rfl) (by rfl) T.n_len PySem.boot_len (pa_cons (pv 6) pa_nil)) pe_int) pa_nil)) (blkOk_by (N := ["plan", "loop", "found", "at", "kind", "address", "spur", "way"]) (sc := defScope s_parts) (by decide +kernel)) (fun _ _ _ _ _ => (pg_name (i := 7) sc_parts.nd rfl (Or.inl rfl))) (fun _ _ _ _ _ => pts_nil) (fun _ _ _ _ _ => (pe_tup (pa_cons (pv 1) (pa_cons (pe_op op_add (pv 3) pe_int) (pa_cons (pv 7) pa_nil)))))) pa_nil)))))))
      (pss_one (ps_ret (pv 2))))), ?_⟩
    have s0 := Same.refl H
    obtain ⟨x, hx, lb, ys, rfl, hlb, pr2⟩ := Paired.get2 pr hlp
    have hx2 : atI xs (l : Int) = some (.ref lb) := ati l rfl hx
    have hm := List.mem_of_getElem? hlp
    walk_at "go"
    rename_i b0 h1 b1 b2 s1 s1' hb0 F H1 f1 f2 s2 s2' hF
    have gl := hg.2 lp hm
    have fb : F ≠ b0 := fun z => by rw [z, hb0] at f1; cases f1
    refine forg_en (K := K) pr2 (fun pre σ H' => (∃ a b c d e, σ = [some (.ref p), some (.int l), some (.ref F), a, b, c, d, e]) ∧ Same H H' ∧ PaI H H' F (pst pre) ∧ (pst pre).1.length ≤ pre.length ∧ (pst pre).2 ≤ 4 * pre.length)
      ⟨⟨_, _, _, _, _, rfl⟩, s2', ⟨[], b0, [], hF, .nil, by simp, by simp, fb, s2.get hb0, rfl, b2, by simp, by simp⟩, Nat.le_refl _, Nat.le_refl _⟩ (fun pre σ H' q => q.2.1 _ _ hlb) (fun pre pl post q x σ H2 H3 e hP r hq sq hq2 => ?_) (fun σ H' hP => ?_)
    · obtain ⟨⟨_, _, _, _, _, rfl⟩, s3, pa, l1, l2⟩ := hP
      obtain ⟨pp, ss, rfl, hpp, ⟨sa, zs2, rfl, hsa, pr3⟩⟩ := r
      have s4 := s3.trans sq
      obtain ⟨bs, b, vs, g1, g2, g3, g4, g5, g6, g7, g8, g9, g10⟩ := pa.step sq
      have hlen : (pre ++ [pl]).length = pre.length + 1 := by simp
      have hpl : pre.length + 1 ≤ lp.length := by rw [e, List.length_append, List.length_cons]; omega
      have hle := gl.2.1
      by_cases hk : pl.kind = "opener"
      · have hk2 : V.str pl.kind = V.str "opener" := by rw [hk]
        walk_at "go"
        rename_i p5 H5 x5 y5 st5 s5 e5
        have q5 : (bs.map V.ref ++ [V.ref b]).length ≤ 1000 := by rw [List.length_append, List.length_map, List.length_singleton]; omega
        walk_at "go"
        have hps : pst (pre ++ [pl]) = ((pst pre).1 ++ [(pst pre).2], 0) := by rw [pst_snoc, pstep, if_pos hk]
        have F5 : F ≠ p5 := fun z => by rw [z, x5] at g1; cases g1
        have b5 : p5 ≠ b := fun z => by rw [z, g6] at x5; cases x5
        have n5 : p5 ∉ bs := fun z => PaI.mem g2 p5 z x5
        have hbs := Paired.length g2
        refine ⟨⟨_, _, _, _, _, rfl⟩, s5.mut f2, ⟨bs ++ [b], p5, [], ?_, ?_, ?_, ?_, F5, ?_, by rw [hps]; rfl, y5, ?_, by simp⟩, ?_, ?_⟩
        · rw [List.map_append]; exact upd_same
        · rw [hps]
          refine Paired.app (PaI.upd (Paired.mapP g2 (fun a n ⟨ws, e, l⟩ => ⟨ws, st5.get e, l⟩)) g4) (Paired.one ⟨vs, ?_, g7⟩)
          rw [upd_ne g5.symm]
          exact st5.get g6
        · simp only [List.mem_append, List.mem_singleton]
          exact fun z => z.elim n5 b5
        · simp only [List.mem_append, List.mem_singleton]
          exact fun z => z.elim g4 g5
        · rw [upd_ne F5.symm]; exact e5
        · rw [List.length_append, List.length_singleton]; omega
        · rw [hps, hlen, List.length_append, List.length_singleton]; omega
        · rw [hps]; exact Nat.zero_le _
      · have hk2 : ¬ V.str pl.kind = V.str "opener" := fun e => hk (V.str.inj e)
        have hat := at_last (bs := bs) (b := b)
        have hsp := spur_le (gl.2.2 pl (sub_pre e))
        have hz2 := Paired.length pr3
        walk_at "go"
        refine lcg_rng s4 (by omega) (fun w => some ((((l : Int), (pre.length : Int) + 1, (w : Int)) : Sp3))) T3 T3.tsx (fun i H6 hi s6 s6' Ky Kn ky kn => ?_) (fun D H6 d1 d2 s6 s6' l6 => ?_)
        · walk_at "go"
          rename_i q2 h2 _ _ st2 s7 e5
          exact ky _ _ _ rfl st2.same ⟨_, rfl, by rw [show ((i : Int)) = 0 + (i : Int) by omega]; exact e5⟩
        · obtain ⟨vs6, hD6, pr6⟩ := l6
          rw [fm_some] at pr6
          have hn : (((zs2.length : Int) + 1).toNat) = pl.spur.length + 1 := by omega
          rw [hn] at pr6
          have hb6 := s6 _ _ g6
          have hps : pst (pre ++ [pl]) = ((pst pre).1, (pst pre).2 + (pl.spur.length + 1)) := by rw [pst_snoc, pstep, if_neg hk]
          have h2 := Paired.length pr6
          rw [List.length_map, List.length_range] at h2
          have q6 : vs.length + vs6.length ≤ 1000 := by omega
          walk_at "go"
          refine ⟨⟨_, _, _, _, _, rfl⟩, s6'.mut g8, ⟨bs, b, vs ++ vs6, ?_, ?_, g3, g4, g5, upd_same, ?_, g8, g9, ?_⟩, ?_, ?_⟩
          · rw [upd_ne g5]; exact s6 _ _ g1
          · rw [hps]
            exact PaI.upd (Paired.mapP g2 (fun a n ⟨ws, e, l⟩ => ⟨ws, s6 _ _ e, l⟩)) g3
          · rw [hps, List.length_append, g7, h2]
          · rw [List.length_append]; exact q6
          · rw [hps, hlen]; exact Nat.le_succ_of_le l1
          · rw [hps, hlen]; show (pst pre).2 + _ ≤ _; omega
    · obtain ⟨⟨_, _, _, _, _, rfl⟩, s3, ⟨bs, b, vs, g1, g2, g3, g4, g5, g6, g7, g8, g9, g10⟩, l1, l2⟩ := hP
      walk_at "go"
      refine k _ _ f2 s3 ⟨_, g1, Paired.app ?_ (Paired.one ⟨b, vs, rfl, g6, g7⟩)⟩
      have : ∀ {as : List Addr} {ns : List Nat}, Paired (fun a n => ∃ ws, H' a = some (.lst ws) ∧ ws.length = n) as ns → Paired (LeR H') (as.map V.ref) ns := by
        intro as ns h
        induction h with
        | nil => exact .nil
        | cons f _ ih => obtain ⟨ws, e, l⟩ := f; exact .cons ⟨_, ws, rfl, e, l⟩ ih
      exact this g2
/-! ### told_twice -/
theorem keyI {i : Int} : V.int i = kV (.inl i) := rfl
/-- what stands in met: the ints gone through -/
def MetI (ns : List Int) (kvs : List (Key × V)) : Prop := kvs.length ≤ ns.length ∧ ∀ i : Int, (valV kvs (.inl i)).isSome = decide (i ∈ ns)
theorem putK_len2 {κ : Type} [DecidableEq κ] (c : List (κ × V)) (k : κ) (x : V) : (putK c k x).length ≤ c.length + 1 := by
  rw [putK]
  split
  · rw [List.length_map]; exact Nat.le_succ _
  · rw [List.length_append]; exact Nat.le_refl _
theorem MetI.put {ns : List Int} {kvs : List (Key × V)} (h : MetI ns kvs) (i : Int) (v : V) : MetI (ns ++ [i]) (putK kvs (.inl i) v) := by
  refine ⟨by have := putK_len2 kvs (.inl i) v; rw [List.length_append, List.length_singleton]; have := h.1; omega, fun j => ?_⟩
  rw [valV_put]
  by_cases e : j = i
  · rw [if_pos (by rw [e])]; simp [e]
  · rw [if_neg (fun z => e (Sum.inl.inj z)), h.2]; simp [e]
def sp_told_twice : Sp := fun vs H Q _ => ∃ (v : V) (P : Plan), vs = [v] ∧ PlanR H v P ∧ GoodLs P ∧ ((devices P).map (·.2.2)).Nodup ∧ ∀ H', Same H H' → Q .non H'
theorem ok_told_twice (T : Txt K mg f fd C aK aT) : FnOk P w K mg base CX0 2 (f 15) (fd 15) ["plan"] sp_told_twice := by
  refine T.F_told_twice.ok sc_told_twice (fun vs H Q E h => ?_) (fun cdv A outer s H vs Q E hr h => ?_)
  · obtain ⟨v, P, rfl, _⟩ := h; rfl
  · obtain ⟨v, P, rfl, hP, hg, hn, k⟩ := h
    refine ⟨_, (pss_cons (ps_set (i := 1) sc_told_twice.nd rfl (Or.inl rfl) pe_dnewK)
      (pss_cons (ps_for PassesOwn.never rfl (pi_listK (K := K) rfl (pe_call (ok_devices T) (hr.mono (by decide)) (by rfl) T.m_devices T.F_devices.kp T.b_devices .nil pass0 (pa_cons (pv 0) pa_nil))) (pg_tupK (K := K) (n := 3) rfl rfl (pgs_cons (pg_name (i := 2) sc_told_twice.nd rfl (Or.inl rfl)) (pgs_cons (pg_name (i := 3) sc_told_twice.nd rfl (Or.inl rfl)) (pgs_cons (pg_name (i := 4) sc_told_twice.nd rfl (Or.inl rfl)) pgs_nil)))) (pss_cons (ps_if (pt_cmp (pc_din (hu_of hr) (pv 4) (pv 1))) (pss_one ps_never)
      pss_nil)
      (pss_one (ps_dput (hu_of hr) (pv 1) (pv 4) pe_bl rfl))))
      (pss_one (ps_ret pe_non)))), ?_⟩
    have s0 := Same.refl H
    walk_at "go"
    rename_i M H1 f1 f2 s1 s1' hM
    refine ⟨v, P, rfl, hP.ts s1'.ts, hg, fun L H2 g1 g2 ⟨xs, hL, pr⟩ => ?_⟩
    have s2 := s1'.trans g2
    have hM2 := g2 _ _ hM
    have ML : M ≠ L := fun z => by rw [← z, hM] at g1; cases g1
    have hd := devices_le hg
    walk_at "go"
    refine forg_list (K := K) pr (fun pre σ H' => (∃ a b c, σ = [some v, some (.ref M), a, b, c]) ∧ Same H H' ∧ Tk H2 H' ∧ H' L = some (.lst xs) ∧ ∃ kvs, H' M = some (.dK kvs) ∧ MetI (pre.map (·.2.2)) kvs) ⟨⟨_, _, _, rfl⟩, s2, Tk.refl _, hL, [], hM2, Nat.le_refl _, fun i => rfl⟩ (fun pre σ H' q => q.2.2.2.1) (fun pre d post x σ H3 e hI r => ?_) (fun σ H' hI => ?_)
    · obtain ⟨⟨_, _, _, rfl⟩, s3, t3, hL3, kvs, hM3, hm⟩ := hI
      obtain ⟨q, t, rfl, hq, ht⟩ := r
      have hq3 := t3 _ _ hq
      have hno : (valV kvs (.inl d.2.2)).isSome = false := by
        rw [hm.2, decide_eq_false_iff_not]
        rw [e, List.map_append, List.map_cons, List.nodup_append] at hn
        exact fun z => hn.2.2 _ z _ (List.mem_cons_self ..) rfl
      walk_at "go"
      refine ⟨M, _, rfl, DGet.k (k := .inl d.2.2) hM3, ?_⟩
      walk_at "go"
      have hk1 := hm.1
      rw [List.length_map] at hk1
      have hk2 : pre.length ≤ (devices P).length := by rw [e, List.length_append]; omega
      refine ⟨M, _, rfl, DPut.k (k := .inl d.2.2) hM3 (by walk_at "sz"), ?_⟩
      refine ⟨⟨_, _, _, rfl⟩, s3.mut f2, t3.trans (Tk.upd hM3 nt_k), by rw [upd_ne ML.symm]; exact hL3, _, upd_same, ?_⟩
      rw [List.map_append]
      exact hm.put _ _
    · obtain ⟨⟨_, _, _, rfl⟩, s3, _⟩ := hI
      walk_at "go"
      exact k _ s3
/-! ### crowded -/
def sp_crowded : Sp := fun vs H Q _ => ∃ (v : V) (P : Plan), vs = [v] ∧ PlanR H v P ∧ GoodLs P ∧ (∀ lp ∈ P.loops, ∀ n ∈ partsN lp, (n : Int) ≤ P.most) ∧ ∀ H', Same H H' → Q .non H'
theorem ok_crowded (T : Txt K mg f fd C aK aT) : FnOk P w K mg base CX0 2 (f 16) (fd 16) ["plan"] sp_crowded := by
  refine T.F_crowded.ok sc_crowded (fun vs H Q E h => ?_) (fun cdv A outer s H vs Q E hr h => ?_)
  · obtain ⟨v, P, rfl, _⟩ := h; rfl
  · obtain ⟨v, P, rfl, hP, hg, hn, k⟩ := h
    refine ⟨_, (pss_cons (ps_for PassesOwn.never rfl (pi_range1 (by rfl) T.n_range (pa_cons (pe_callB (call_lenK (K := K) rfl) (by rfl) T.n_len PySem.boot_len (pa_cons (pe_ix (ix_tupK (K := K) rfl) (pv 0) pe_int (fun _ _ => rfl)) pa_nil)) pa_nil)) (pg_name (i := 1) sc_crowded.nd rfl (Or.inl rfl)) (pss_one (ps_for PassesOwn.never rfl (pi_enumK (K := K) rfl (by rfl) T.n_enumerate (pa_cons (pe_call (ok_parts T) (hr.mono (by decide)) (by rfl) T.m_parts T.F_parts.kp T.b_parts .nil pass0 (pa_cons (pv 0) (pa_cons (pv 1) pa_nil))) pa_nil)) (pg_tupK (K := K) (n := 2) rfl rfl (pgs_cons (pg_name (i := 2) sc_crowded.nd rfl (Or.inl rfl)) (pgs_cons (pg_name (i := 3) sc_crowded.nd rfl (Or.inl rfl)) pgs_nil))) (pss_one (ps_if (pt_cmpR op_gt (pe_callB (call_lenK (K := K) rfl) (by rfl) T.n_len PySem.boot_len (pa_cons (pv 3) pa_nil)) (pe_ix (ix_tupK (K := K) rfl) (pv 0) pe_int (fun _ _ => rfl)) (nomark _)) (pss_one ps_never)
      pss_nil)))))
      (pss_one (ps_ret pe_non))), ?_⟩
    have hP0 := hP
    obtain ⟨p, ls, zs, rfl, hp, ⟨la, xs, rfl, hl, pr⟩, _⟩ := hP
    have s0 := Same.refl H
    have hxl := Paired.length pr
    have hgl := hg.1
    walk_at "go"
    refine forg_rng (fun i σ H' => (∃ a b c, σ = [some (.ref p), a, b, c]) ∧ Same H H') ⟨⟨_, _, _, rfl⟩, s0⟩ (fun i σ H1 hi hI => ?_) (fun σ H' hI => ?_)
    · obtain ⟨⟨_, _, _, rfl⟩, s1⟩ := hI
      have hi2 : i < P.loops.length := by omega
      walk_at "go"
      refine ⟨.ref p, P, i, P.loops[i], by rw [Int.zero_add]; rfl, PlanR.ts s1.ts _ _ hP0, hg, List.getElem?_eq_getElem hi2, fun L H2 g1 g2 ⟨ys, hL, pr2⟩ => ?_⟩
      have s2 := s1.trans g2
      walk_at "go"
      refine forg_enL (K := K) pr2 (fun pre σ H' => (∃ a b c, σ = [some (.ref p), a, b, c]) ∧ Same H H' ∧ Same H2 H') ⟨⟨_, _, _, rfl⟩, s2, Same.refl _⟩ (fun pre σ H' q => q.2.2 _ _ hL) (fun pre n post q x σ H3 H4 e hI r hq sq hq2 => ?_) (fun σ H' hI => ?_)
      · obtain ⟨⟨_, _, _, rfl⟩, s3, s3'⟩ := hI
        obtain ⟨a, ws, rfl, ha, hw⟩ := r
        have s4 := s3.trans sq
        have ha4 := sq _ _ (s3' _ _ ha)
        have hb : ¬ ((ws.length : Int) > P.most) := by
          have := hn _ (List.getElem_mem hi2) n (sub_pre e)
          omega
        walk_at "go"
        exact ⟨⟨_, _, _, rfl⟩, s4, s3'.trans sq⟩
      · obtain ⟨⟨_, _, _, rfl⟩, s3, s3'⟩ := hI
        exact ⟨⟨_, _, _, rfl⟩, s3⟩
    · obtain ⟨⟨_, _, _, rfl⟩, s3⟩ := hI
      walk_at "go"
      exact k _ s3
end
end Wl

namespace Wl
open PySem L2
/-! ### the step tactics -/
local macro_rules | `(tactic| walk_at "lk") => `(tactic| first
  | assumption
  | exact upd_same
  | (refine (?_ : ∀ H, SqT _ H _ _) _; assumption)
  | (apply Step.get; (focus assumption); walk_at "lk")
  | (apply upd_tupL; (focus walk_at "lk"); walk_at "lk")
  | (apply upd_tupT; (focus walk_at "lk"); walk_at "lk")
  | (apply upd_tupK; (focus walk_at "lk"); walk_at "lk")
  | (apply L2.Same.get; (focus assumption); assumption)
  | (apply L2.Same.get; rotate_left; (focus assumption); assumption)
  | (apply SqT.of; walk_at "lk")
  | (apply SqL.of; walk_at "lk"))
local macro_rules | `(tactic| walk_at "sm") => `(tactic| first
  | assumption
  | (apply L2.Same.mut; (focus walk_at "sm"); (focus assumption)))
local macro_rules | `(tactic| walk_at "cond") => `(tactic| first
  | rfl
  | assumption
  | (exact dt (by first | rfl | assumption | omega | (simp; done) | (simp; omega)))
  | (exact df (by first | assumption | omega | (simp; done) | (simp; omega)))
  | (exact ndt (by first | rfl | assumption | omega | (simp; done) | (simp; omega)))
  | (exact ndf (by first | assumption | omega | (simp; done) | (simp; omega)))
  | (simp; done))
local macro_rules | `(tactic| walk_at "cond1") => `(tactic| first
  | assumption
  | with_reducible rfl
  | with_reducible exact n_t
  | with_reducible exact n_f
  | with_reducible exact dt (by assumption)
  | with_reducible exact df (by assumption)
  | with_reducible exact ndt (by assumption)
  | with_reducible exact ndf (by assumption))
local macro_rules | `(tactic| walk_at "g1") => `(tactic| first
  | with_reducible refine i_seq ?_
  | with_reducible refine i_asg ?_
  | with_reducible refine i_name ?_
  | with_reducible refine i_ret ?_
  | with_reducible refine i_drop ?_
  | with_reducible refine i_if ?_
  | with_reducible refine i_next ?_
  | with_reducible refine i_break ?_
  | with_reducible refine i_c ?_
  | ((with_reducible apply i_var); (focus (rfl)))
  | with_reducible refine i_op ?_
  | with_reducible refine i_cons ?_
  | with_reducible refine i_nil ?_
  | with_reducible refine i_cb ?_
  | with_reducible refine i_call ?_
  | ((with_reducible apply i_ixT); (focus (walk_at "lk")); (focus (first | rfl | assumption)))
  | ((with_reducible apply i_ixL); (focus (walk_at "lk")); (focus (first | rfl | assumption)))
  | with_reducible refine i_I0 ?_
  | ((with_reducible apply i_eq); (focus (rfl)))
  | ((with_reducible apply i_ne); (focus (rfl)))
  | with_reducible refine i_un ?_
  | with_reducible refine i_neg ?_
  | with_reducible refine i_andV ?_
  | with_reducible refine i_orV ?_
  | with_reducible refine i_notV ?_
  | with_reducible refine i_chain ?_
  | with_reducible refine i_test ?_
  | with_reducible refine i_B ?_
  | with_reducible refine i_k ?_
  | with_reducible refine i_and ?_
  | with_reducible refine i_or ?_
  | with_reducible refine i_not ?_
  | with_reducible refine i_yes ?_
  | (with_reducible refine i_isiI kit_ii ?_)
  | (with_reducible refine i_isiI kit_ib ?_)
  | (with_reducible refine i_isiS kit_ss ?_)
  | ((with_reducible apply i_isiT); (focus (walk_at "lk")); (focus (exact kit_tt)))
  | ((with_reducible apply i_len); (focus (first | (apply Or.inr; walk_at "lk") | (apply Or.inl; walk_at "lk"))))
  | ((with_reducible apply i_lens); (focus (walk_at "sz")))
  | (with_reducible refine i_sign ?_)
  | ((with_reducible apply i_inT); (focus (walk_at "lk")); (focus (rfl)); (focus (rfl)))
  | ((with_reducible apply i_inL); (focus (walk_at "lk")); (focus (rfl)); (focus (rfl)))
  | ((with_reducible apply i_ninL); (focus (walk_at "lk")); (focus (rfl)); (focus (rfl)))
  | ((with_reducible apply i_all); (focus (walk_at "lk")))
  | ((with_reducible apply i_any); (focus (walk_at "lk")))
  | ((with_reducible apply ift); (focus (walk_at "cond1")))
  | ((with_reducible apply iff_); (focus (walk_at "cond1")))
  | ((with_reducible apply ift); (focus (rfl)))
  | ((with_reducible apply iff_); (focus (rfl)))
  | ((with_reducible apply ift); (focus (walk_at "cond")))
  | ((with_reducible apply iff_); (focus (walk_at "cond")))
  | with_reducible refine i_tup ?_
  | (with_reducible refine i_new2 (by walk_at "sm") ?_; intro _ _ _ _ _ _ _)
  | with_reducible refine i_dnK ?_
  | with_reducible refine i_dnT ?_
  | with_reducible refine i_lc ?_
  | with_reducible refine i_for ?_
  | with_reducible refine i_iTup ?_
  | with_reducible refine i_iList ?_
  | ((with_reducible apply i_tupW); (focus (walk_at "lk")))
  | ((with_reducible apply i_listW); (focus (walk_at "lk")))
  | with_reducible refine i_iRng1 ?_
  | ((with_reducible apply i_rng1); (focus (walk_at "bnd")))
  | with_reducible refine i_iRng2 ?_
  | ((with_reducible apply i_rng2); (focus (walk_at "bnd")))
  | with_reducible refine i_iStr ?_
  | with_reducible refine i_iEnT ?_
  | with_reducible refine i_iEnum ?_
  | ((with_reducible apply i_enTW); (focus (walk_at "lk")))
  | ((with_reducible apply i_enLW); (focus (walk_at "lk")))
  | with_reducible refine i_strW ?_
  | with_reducible refine i_lst ?_
  | with_reducible refine i_bm ?_
  | with_reducible refine i_fld ?_
  | with_reducible refine i_dget2 ?_
  | with_reducible refine i_dget ?_
  | with_reducible refine i_din ?_
  | with_reducible refine i_dnotin ?_
  | with_reducible refine i_dputT ?_
  | with_reducible refine i_isN ?_
  | with_reducible refine i_notN ?_
  | ((with_reducible apply i_gtup); (focus (walk_at "lk")); (focus (rfl)))
  | with_reducible refine i_gcons ?_
  | with_reducible refine i_gnil ?_
  | with_reducible refine i_sl ?_
  | with_reducible refine i_nopart ?_
  | with_reducible refine i_part ?_
  | ((with_reducible apply i_app); (focus (walk_at "lk")); (focus (walk_at "sz")))
  | with_reducible refine i_2i ?_
  | with_reducible refine i_par ?_
  | with_reducible refine i_m1 ?_
  | with_reducible refine i_ex1 ?_
  | with_reducible refine i_isS ?_
  | ((with_reducible apply i_slS); (focus (walk_at "sz")))
  | with_reducible refine i_add_str ?_
  | with_reducible refine i_abs ?_
  | with_reducible refine i_gsub ?_
  | ((with_reducible apply i_setL); (focus (walk_at "lk")); (focus (rfl)))
  | ((with_reducible apply i_I); (focus (walk_at "arith")))
  | ((with_reducible apply i_fldw); (focus (walk_at "lk")); (focus assumption); (focus assumption); (focus (first | exact lk_plan | exact lk_hows | exact lk_stops | exact lk_dev)))
  | with_reducible refine i_meth ?_
  | ((with_reducible apply i_methW); (focus (walk_at "lk")); (focus (first | exact nm_need | exact nm_change | exact nm_parted | exact nm_act | exact nm_cut | exact nm_short | exact nm_mend | exact nm_rests | exact nm_come | exact nm_heard)))
  | ((with_reducible apply i_isD); (focus (walk_at "lk")))
  | ((with_reducible apply i_ext); (focus (walk_at "lk")); (focus (walk_at "lk")); (focus (walk_at "sz")))
  | ((with_reducible apply And.intro); (focus (first | (show wipe _ _ = wipe _ _; rfl) | (walk_at "sz")))))
local macro_rules | `(tactic| walk_at "arith") => `(tactic| first
  | assumption
  | (refine Or.inl ?_; (constructor <;> omega))
  | (refine Or.inr ?_; (constructor <;> omega))
  | (show (0 : Int) < _; omega)
  | (show 0 < _ ∧ _ < _; (constructor <;> omega))
  | (show CPow 10 18; exact ⟨by decide, by decide, by decide⟩))
local macro_rules | `(tactic| walk_at "bnd") => `(tactic| first
  | omega
  | (refine ⟨?_, ?_⟩ <;> omega))
local macro_rules | `(tactic| walk_at "sz") => `(tactic| first
  | (apply ty_l; walk_at "lk")
  | (apply ty_d; walk_at "lk")
  | (exact szle (by omega))
  | (exact szl (by omega))
  | (exact szle (by simp only [List.length_append, List.length_cons, List.length_nil, List.length_map]; omega))
  | (exact szl (by simp only [List.length_append, List.length_cons, List.length_nil, List.length_map]; omega))
  | (exact Nat.le_of_ble_eq_true rfl))
local macro_rules | `(tactic| walk_at "go") => `(tactic| repeat (first | walk_at "g1" | dsimp only))
section
variable {P : Program} {w : World} {K : PySem.W.Frag} {mg : Str → Option Value} {f : Nat → Addr} {fd : Nat → FuncData} {C aK aT : Addr} {base : Heap}
theorem i_lenset {ta : TE} {σ : L2.St} {H : Hp} {Q : VK} (q : ta σ H fun x H1 => ∃ (l : Addr) (xs : List Str), x = V.ref l ∧ SqL K H1 l (xs.map V.str) ∧ xs.length ≤ 1000 ∧ xs.Nodup ∧ Q (.int xs.length) H1) : tLenSetT K ta σ H Q := q
/-! ### zone_at_odds -/
theorem inV_int (a : Int) : ∀ ns : List Int, inV (.int a) (ns.map V.int) = decide (a ∈ ns)
  | [] => rfl
  | n :: ns => by
    rw [List.map_cons, inV, List.any_cons]
    have ih := inV_int a ns
    rw [inV] at ih
    rw [ih]
    show (decide (n = a) || _) = _
    by_cases e : n = a
    · simp [e]
    · have e2 : ¬ a = n := fun z => e z.symm
      simp [e, e2]
theorem flat_ints (ns : List Int) : (ns.map V.int).all flatV = true := by
  rw [List.all_map]
  exact List.all_eq_true.mpr fun _ _ => rfl
theorem IR.sq {K : PySem.W.Frag} {H : Hp} {p : Addr} {bs : List Int} (h : LR IR H p bs) : SqL K H p (bs.map V.int) := by
  obtain ⟨vs, h, r⟩ := h
  rw [IR.list r] at h
  exact SqL.of h
def toldK (k : Str) : Prop := k = "seeker" ∨ k = "knob"
instance (k : Str) : Decidable (toldK k) := inferInstanceAs (Decidable (_ ∨ _))
theorem told_in (k : Str) : inV (.str k) [.str "seeker", .str "knob"] = decide (toldK k) := by
  show (decide (("seeker" : Str) = k) || (decide (("knob" : Str) = k) || false)) = _
  by_cases h1 : k = "seeker"
  · simp [toldK, h1]
  · by_cases h2 : k = "knob"
    · simp [toldK, h2]
    · have e1 : ¬ ("seeker" : Str) = k := fun z => h1 z.symm
      have e2 : ¬ ("knob" : Str) = k := fun z => h2 z.symm
      rw [decide_eq_false e1, decide_eq_false e2]
      simp [toldK, h1, h2]
def knownOf (P : Plan) : List Int := (devices P).filterMap fun d => if toldK d.2.1 then some d.2.2 else none
def GoodZs (P : Plan) : Prop := P.zones.length ≤ 8 ∧ (∀ z ∈ P.zones, GoodZ z) ∧ (P.zones.map (·.1)).Nodup
def sp_zone_at_odds : Sp := fun vs H Q _ => ∃ (v : V) (P : Plan), vs = [v] ∧ PlanR H v P ∧ GoodLs P ∧ GoodZs P ∧ (∀ z ∈ P.zones, ∀ a ∈ z.2, a ∈ knownOf P) ∧ (P.zones.flatMap (·.2)).Nodup ∧ ∀ H', Same H H' → Q .non H'
theorem ok_zone_at_odds (T : Txt K mg f fd C aK aT) : FnOk P w K mg base CX0 2 (f 17) (fd 17) ["plan"] sp_zone_at_odds := by
  refine T.F_zone_at_odds.ok sc_zone_at_odds (fun vs H Q E h => ?_) (fun cdv A outer s H vs Q E hr h => ?_)
  · obtain ⟨v, P, rfl, _⟩ := h; rfl
  · obtain ⟨v, P, rfl, hP, hg, hz, hkn, hnd, k⟩ := h
    refine ⟨_, (pss_cons (ps_setLc (i := 1) (own := [("spot", 2), ("kind", 3), ("address", 4)]) rfl  sc_zone_at_odds.nd rfl rfl (sw_true rfl rfl rfl (by decide +kernel)) (pi_listK (K := K) rfl (pe_call (ok_devices T) (hr.mono (by decide)) (by rfl) T.m_devices T.F_devices.kp T.b_devices .nil pass0 (pa_cons (pv 0) pa_nil))) (blkOk_by (N := ["plan", "known", "spot", "kind", "address", "shared", "met", "name", "addresses"]) (sc := defScope s_zone_at_odds) (by decide +kernel)) (fun _ _ _ _ _ => (pg_tupK (K := K) (n := 3) rfl rfl (pgs_cons (pg_name (i := 2) sc_zone_at_odds.nd rfl (Or.inl rfl)) (pgs_cons (pg_name (i := 3) sc_zone_at_odds.nd rfl (Or.inl rfl)) (pgs_cons (pg_name (i := 4) sc_zone_at_odds.nd rfl (Or.inl rfl)) pgs_nil))))) (fun _ _ _ _ _ => pts_one (pt_cmpR (op_inK (K := K) rfl) (pv 3) (pe_gref (by rfl) T.m_TOLD_BY) (by with_unfolding_all rfl))) (fun _ _ _ _ _ => (pv 4)))
      (pss_cons (ps_set (i := 5) sc_zone_at_odds.nd rfl (Or.inl rfl) pe_non)
      (pss_cons (ps_set (i := 6) sc_zone_at_odds.nd rfl (Or.inl rfl) pe_dnewK)
      (pss_cons (ps_for PassesOwn.never rfl (pi_tupK (K := K) rfl (pe_ix (ix_tupK (K := K) rfl) (pv 0) pe_int (fun _ _ => rfl))) (pg_tupK (K := K) (n := 2) rfl rfl (pgs_cons (pg_name (i := 7) sc_zone_at_odds.nd rfl (Or.inl rfl)) (pgs_cons (pg_name (i := 8) sc_zone_at_odds.nd rfl (Or.inl rfl)) pgs_nil))) (pss_cons (ps_for PassesOwn.never rfl (pi_tupK (K := K) rfl (pv 8)) (pg_name (i := 4) sc_zone_at_odds.nd rfl (Or.inl rfl)) (pss_cons (ps_if (pt_cmpR (op_ninK (K := K) rfl) (pv 4) (pv 1) (by with_unfolding_all rfl)) (pss_one ps_never)
      pss_nil)
      (pss_one (ps_if (PW.pt (pw_and (pt_cmp (pc_din (hu_of hr) (pv 4) (pv 6))) (pw_and1 (pt_cmp (pc_isN (pv 5)))))) (pss_one ps_never)
      pss_nil))))
      (pss_one (ps_for PassesOwn.never rfl (pi_tupK (K := K) rfl (pv 8)) (pg_name (i := 4) sc_zone_at_odds.nd rfl (Or.inl rfl)) (pss_one (ps_dput (hu_of hr) (pv 6) (pv 4) pe_bl rfl))))))
      (pss_one (ps_ret (pv 5))))))), ?_⟩
    have hP0 := hP
    obtain ⟨p, ls, zs, rfl, hp, _, ⟨za, xs, rfl, hza, pr⟩⟩ := hP
    have s0 := Same.refl H
    have hdl := devices_le hg
    have tT := T.t_TOLD_BY
    walk_at "go"
    refine ⟨.ref p, P, rfl, hP0, hg, fun L H2 g1 s2 ⟨ys, hL, prd⟩ => ?_⟩
    walk_at "go"
    refine lcg_list (K := K) prd hL s2 (by omega) (fun d => if toldK d.2.1 then some d.2.2 else none) IR (fun _ _ _ h => h) (fun pre d post x H3 e s3 s3' r Ky Kn ky kn => ?_) (fun D H3 d1 d2 s3 s3' l3 => ?_)
    · obtain ⟨q, t, rfl, hq, _⟩ := r
      have hq3 := s3 _ _ hq
      walk_at "go"
      rw [told_in]
      by_cases ht : toldK d.2.1
      · walk_at "go"
        exact ky _ _ _ (if_pos ht) (Same.refl _) rfl
      · walk_at "go"
        exact kn _ (if_neg ht) (Same.refl _)
    · have hk : SqL K H3 D ((knownOf P).map V.int) := IR.sq l3
      obtain ⟨kvs3, hD3, prk⟩ := l3
      have hl3 : kvs3 = (knownOf P).map V.int := IR.list prk
      rw [hl3] at hD3
      walk_at "go"
      rename_i M H4 m1 m2 st4 s4 hM
      have hD4 := st4.get hD3
      have DM : D ≠ M := fun z => by rw [← z, hD3] at m1; cases m1
      have dS : SqL K H4 D ((knownOf P).map V.int) := SqL.of hD4
      have hxz : xs.length = P.zones.length := Paired.length pr
      refine forg_tup (K := K) pr (fun pre σ H' => (∃ a b c d e, σ = [some (.ref p), some (.ref D), a, b, c, some .non, some (.ref M), d, e]) ∧ Same H H' ∧ H' D = some (.lst ((knownOf P).map V.int)) ∧ ∃ kvs, H' M = some (.dK kvs) ∧ MetI (pre.flatMap (·.2)) kvs)
        ⟨⟨_, _, _, _, _, rfl⟩, s4, hD4, [], hM, Nat.le_refl _, fun i => rfl⟩ (fun pre σ H' q => q.2.1 _ _ hza) (fun pre z post x σ H5 e hI r => ?_) (fun σ H' hI => ?_)
      · obtain ⟨⟨_, _, _, _, _, rfl⟩, s5, hD5, kvs, hM5, hm⟩ := hI
        obtain ⟨q, az, rfl, hq, haz⟩ := r
        have hq5 := s5 _ _ hq
        walk_at "go"
        have gz := hz.2.1 z (sub_pre e)
        have pz : Paired (fun (v : V) (i : Int) => v = .int i) (z.2.map V.int) z.2 := by
          have : ∀ l : List Int, Paired (fun (v : V) (i : Int) => v = .int i) (l.map V.int) l := fun l => by
            induction l with
            | nil => exact .nil
            | cons a l ih => exact .cons rfl ih
          exact this z.2
        have hsub : ∀ y ∈ pre.flatMap (·.2), ∀ z' ∈ z.2, y ≠ z' := by
          rw [e, List.flatMap_append, List.flatMap_cons, List.nodup_append] at hnd
          exact fun y hy z' hz' => hnd.2.2 y hy z' (List.mem_append_left _ hz')
        refine forg_tup (K := K) pz (fun pre2 σ H' => (∃ a b c d, σ = [some (.ref p), some (.ref D), a, b, c, some .non, some (.ref M), d, some (.ref az)]) ∧ H' = H5) ⟨⟨_, _, _, _, rfl⟩, rfl⟩ (fun pre2 σ H' q => by rw [q.2]; exact s5 _ _ haz) (fun pre2 i post2 x σ H' e2 hI r => ?_) (fun σ H' hI => ?_)
        · obtain ⟨⟨_, _, _, _, rfl⟩, rfl⟩ := hI
          subst r
          walk_at "go"
          refine i_ninL (SqL.of hD5) rfl (flat_ints _) ?_
          have hin : (!inV (.int i) ((knownOf P).map V.int)) = false := by rw [inV_int, decide_eq_true (hkn z (sub_pre e) i (sub_pre e2))]; rfl
          walk_at "go"
          refine ⟨M, _, rfl, DGet.k (k := .inl i) hM5, ?_⟩
          have hno : (valV kvs (.inl i)).isSome = false := by
            rw [hm.2, decide_eq_false_iff_not]
            exact fun h => hsub i h i (sub_pre e2) rfl
          walk_at "go"
          exact ⟨⟨_, _, _, _, rfl⟩, rfl⟩
        · obtain ⟨⟨_, _, _, _, rfl⟩, rfl⟩ := hI
          walk_at "go"
          have hzn : z.2.length ≤ 30 := gz.2.2.1
          have hbig : ∀ l : List (Str × List Int), (∀ z ∈ l, z.2.length ≤ 30) → (l.flatMap (·.2)).length ≤ 30 * l.length := fun l => by
            induction l with
            | nil => intro _; exact Nat.le_refl _
            | cons a l ih =>
              intro h
              have h1 := h a (List.mem_cons_self ..)
              have h2 := ih fun z hz => h z (List.mem_cons_of_mem _ hz)
              rw [List.flatMap_cons, List.length_append, List.length_cons]
              omega
          have hpl : pre.length ≤ 8 := by
            have := hz.1
            rw [e, List.length_append] at this
            omega
          have hb1 := hbig pre (fun y hy => (hz.2.1 y (by rw [e]; exact List.mem_append_left _ hy)).2.2.1)
          refine forg_tup (K := K) pz (fun pre2 σ H' => (∃ a b c d, σ = [some (.ref p), some (.ref D), a, b, c, some .non, some (.ref M), d, some (.ref az)]) ∧ Same H H' ∧ H' D = some (.lst ((knownOf P).map V.int)) ∧ ∃ kvs, H' M = some (.dK kvs) ∧ MetI (pre.flatMap (·.2) ++ pre2) kvs) ⟨⟨_, _, _, _, rfl⟩, s5, hD5, kvs, hM5, by rw [List.append_nil]; exact hm⟩ (fun pre2 σ H' q => q.2.1 _ _ haz) (fun pre2 i post2 x σ H' e2 hI r => ?_) (fun σ H' hI => ?_)
          · obtain ⟨⟨_, _, _, _, rfl⟩, s6, hD6, kvs6, hM6, hm6⟩ := hI
            subst r
            have l6 := hm6.1
            rw [List.length_append] at l6
            have l7 : pre2.length ≤ z.2.length := by rw [e2, List.length_append]; omega
            walk_at "go"
            refine ⟨M, _, rfl, DPut.k (k := .inl i) hM6 (szl (by omega)), ?_⟩
            refine ⟨⟨_, _, _, _, rfl⟩, s6.mut m2, by rw [upd_ne DM]; exact hD6, _, upd_same, ?_⟩
            rw [← List.append_assoc]
            exact hm6.put _ _
          · obtain ⟨⟨_, _, _, _, rfl⟩, s6, hD6, kvs6, hM6, hm6⟩ := hI
            refine ⟨⟨_, _, _, _, _, rfl⟩, s6, hD6, kvs6, hM6, ?_⟩
            rw [List.flatMap_append, List.flatMap_cons, List.flatMap_nil, List.append_nil]
            exact hm6
      · obtain ⟨⟨_, _, _, _, _, rfl⟩, s5, _⟩ := hI
        walk_at "go"
        exact k _ s5
/-! ### wrong -/
structure GoodPlan (P : Plan) : Prop where
  most : 1 ≤ P.most ∧ P.most ≤ 30
  loops : GoodLs P
  one : 1 ≤ P.loops.length
  zones : GoodZs P
  devs : 1 ≤ (devices P).length ∧ (devices P).length ≤ 30
  twice : ((devices P).map (·.2.2)).Nodup
  crowd : ∀ lp ∈ P.loops, ∀ n ∈ partsN lp, (n : Int) ≤ P.most
  known : ∀ z ∈ P.zones, ∀ a ∈ z.2, a ∈ knownOf P
  share : (P.zones.flatMap (·.2)).Nodup
def sp_wrong : Sp := fun vs H Q _ => ∃ (v : V) (P : Plan), vs = [v] ∧ PlanR H v P ∧ GoodPlan P ∧ ∀ H', Same H H' → Q .non H'
theorem ok_wrong (T : Txt K mg f fd C aK aT) : FnOk P w K mg base CX0 3 (f 18) (fd 18) ["plan"] sp_wrong := by
  refine T.F_wrong.ok sc_wrong (fun vs H Q E h => ?_) (fun cdv A outer s H vs Q E hr h => ?_)
  · obtain ⟨v, P, rfl, _⟩ := h; rfl
  · obtain ⟨v, P, rfl, hP, hg, k⟩ := h
    refine ⟨_, (pss_cons (ps_for PassesOwn.never rfl (pi_tupK (K := K) rfl (pe_tup (pa_cons (pe_call (ok_told_twice T) (hr.mono (by decide)) (by rfl) T.m_told_twice T.F_told_twice.kp T.b_told_twice .nil pass0 (pa_cons (pv 0) pa_nil)) (pa_cons (pe_call (ok_crowded T) (hr.mono (by decide)) (by rfl) T.m_crowded T.F_crowded.kp T.b_crowded .nil pass0 (pa_cons (pv 0) pa_nil)) (pa_cons (pe_call (ok_zone_at_odds T) (hr.mono (by decide)) (by rfl) T.m_zone_at_odds T.F_zone_at_odds.kp T.b_zone_at_odds .nil pass0 (pa_cons (pv 0) pa_nil)) pa_nil))))) (pg_name (i := 1) sc_wrong.nd rfl (Or.inl rfl)) (pss_one (ps_if (pt_cmp (pc_notN (pv 1))) (pss_one ps_never)
      pss_nil)))
      (pss_one (ps_ret pe_non))), ?_⟩
    have s0 := Same.refl H
    walk_at "go"
    refine ⟨v, P, rfl, hP, hg.loops, hg.twice, fun H1 s1 => ?_⟩
    walk_at "go"
    refine ⟨v, P, rfl, hP.ts s1.ts, hg.loops, hg.crowd, fun H2 s2 => ?_⟩
    have s2' := s1.trans s2
    walk_at "go"
    refine ⟨v, P, rfl, hP.ts s2'.ts, hg.loops, hg.zones, hg.known, hg.share, fun H3 s3 => ?_⟩
    have s3' := s2'.trans s3
    walk_at "go"
    rename_i q H4 q1 q2 st4 s4 hq
    refine forg_tup (K := K) (R := fun v (_ : Unit) => v = .non) (ds := [(), (), ()]) (.cons rfl (.cons rfl (.cons rfl .nil))) (fun pre σ H' => (∃ a, σ = [some v, a]) ∧ H' = H4) ⟨⟨_, rfl⟩, rfl⟩ (fun pre σ H' q => by rw [q.2]; exact hq) (fun pre d post x σ H5 e hI r => ?_) (fun σ H' hI => ?_)
    · obtain ⟨⟨_, rfl⟩, rfl⟩ := hI
      subst r
      walk_at "go"
      exact ⟨⟨_, rfl⟩, rfl⟩
    · obtain ⟨⟨_, rfl⟩, rfl⟩ := hI
      walk_at "go"
      exact k _ s4
/-! ### are_zones -/
def sp_are_zones : Sp := fun vs H Q _ => ∃ (v : V) (zs : List (Str × List Int)), vs = [v] ∧ TR ZoR H v zs ∧ zs.length ≤ 8 ∧ (∀ z ∈ zs, GoodZ z) ∧ (zs.map (·.1)).Nodup ∧ ∀ H', Same H H' → Q (.bl true) H'
theorem ok_are_zones (T : Txt K mg f fd C aK aT) : FnOk P w K mg base CX0 4 (f 9) (fd 9) ["thing"] sp_are_zones := by
  refine T.F_are_zones.ok sc_are_zones (fun vs H Q E h => ?_) (fun cdv A outer s H vs Q E hr h => ?_)
  · obtain ⟨v, P, rfl, _⟩ := h; rfl
  · obtain ⟨v, zs, rfl, ⟨p, xs, rfl, hp, pr⟩, h8, hz, hn, k⟩ := h
    refine ⟨_, (pss_cons (ps_if (PW.pt (pw_or (pt_not (pt_val (pe_callB (call_isiK' (K := K) rfl) (by rfl) T.n_isinstance (by decide +kernel) (pa_cons (pv 0) (pa_cons (pe_ty (n := "tuple") (by rfl) T.n_tuple (by decide +kernel)) pa_nil))))) (pw_or (pt_cmpR op_gt (pe_callB (call_lenK (K := K) rfl) (by rfl) T.n_len PySem.boot_len (pa_cons (pv 0) pa_nil)) (pe_gint (by rfl) T.c_MOST_ZONES) (nomark _)) (pw_or1 (pt_not (pt_val (pe_callB (cr_allK (K := K) rfl rfl) (by rfl) T.n_all (by decide +kernel) (pa_cons (pe_lc (own := [("one", 1)]) rfl sc_are_zones.nd  (pi_tupK (K := K) rfl (pv 0)) (blkOk_by (N := ["thing", "one", "zone"]) (sc := defScope s_are_zones) (by decide +kernel)) (fun _ _ _ _ _ => (pg_name (i := 1) sc_are_zones.nd rfl (Or.inl rfl))) (fun _ _ _ _ _ => pts_nil) (fun _ _ _ _ _ => (pe_call (ok_is_zone T) (hr.mono (by decide)) (by rfl) T.m_is_zone T.F_is_zone.kp T.b_is_zone .nil pass0 (pa_cons (pv 1) pa_nil)))) pa_nil)))))))) (pss_one ps_never)
      pss_nil)
      (pss_one (ps_ret (pe_cmpR op_eq (pe_lenSetX (K := K) rfl rfl (by rfl) T.n_len (by rfl) T.n_set (pe_lc (own := [("zone", 2)]) rfl sc_are_zones.nd  (pi_tupK (K := K) rfl (pv 0)) (blkOk_by (N := ["thing", "one", "zone"]) (sc := defScope s_are_zones) (by decide +kernel)) (fun _ _ _ _ _ => (pg_name (i := 2) sc_are_zones.nd rfl (Or.inl rfl))) (fun _ _ _ _ _ => pts_nil) (fun _ _ _ _ _ => (pe_ix (ix_tupK (K := K) rfl) (pv 2) pe_int (fun _ _ => rfl))))) (pe_callB (call_lenK (K := K) rfl) (by rfl) T.n_len PySem.boot_len (pa_cons (pv 0) pa_nil)) (nomark _))))), ?_⟩
    have s0 := Same.refl H
    have hxl := Paired.length pr
    have hle : ¬ ((xs.length : Int) > 8) := by omega
    walk_at "go"
    refine lcg_true (K := K) walk_tup s0 zs hxl.symm (by omega) (fun H1 s1 => SqT.of (s1 _ _ hp)) (fun pre d post x H3 H4 e s1 s2 y Ky ky => ?_) (fun D H3 s1 s2 l => ?_)
    · obtain ⟨rfl, hx⟩ := y
      walk_at "go"
      exact ⟨_, d, rfl, ZoR.ts s2.ts _ _ (at_pre pr e hx), hz d (sub_pre e), fun H5 s5 => ky _ s5⟩
    · walk_at "go"
      refine i_lenset ?_
      walk_at "go"
      refine lcg_tup (K := K) pr (s2 _ _ hp) s2 (by omega) (fun z => some z.1) SR (fun _ _ _ h => h) (fun pre d post x H5 e s3 s3' r Ky Kn ky kn => ?_) (fun D2 H5 d1 d2 s3 s3' l3 => ?_)
      · obtain ⟨q, a, rfl, hq, _⟩ := r
        have hq3 := s3' _ _ hq
        walk_at "go"
        exact ky _ _ _ rfl (Same.refl _) rfl
      · obtain ⟨vs5, hD5, pr5⟩ := l3
        rw [SR.list pr5, fm_some] at hD5
        refine ⟨D2, _, rfl, SqL.of hD5, by rw [List.length_map]; omega, hn, ?_⟩
        have hll : (((zs.map (·.1)).length : Nat) : Int) = (xs.length : Int) := by rw [List.length_map]; omega
        walk_at "go"
        exact bl_t (dt (vi hll)) (k _ s3')
/-! ### is_plan -/
def sp_is_plan : Sp := fun vs H Q _ => ∃ (v : V) (P : Plan), vs = [v] ∧ PlanR H v P ∧ GoodPlan P ∧ ∀ H', Same H H' → Q (.bl true) H'
theorem ok_is_plan (T : Txt K mg f fd C aK aT) : FnOk P w K mg base CX0 5 (f 10) (fd 10) ["thing"] sp_is_plan := by
  refine T.F_is_plan.ok sc_is_plan (fun vs H Q E h => ?_) (fun cdv A outer s H vs Q E hr h => ?_)
  · obtain ⟨v, P, rfl, _⟩ := h; rfl
  · obtain ⟨v, P, rfl, hP, hg, k⟩ := h
    refine ⟨_, (pss_cons (ps_if (PW.pt (pw_or (pt_not (pt_val (pe_callB (call_isiK' (K := K) rfl) (by rfl) T.n_isinstance (by decide +kernel) (pa_cons (pv 0) (pa_cons (pe_ty (n := "tuple") (by rfl) T.n_tuple (by decide +kernel)) pa_nil))))) (pw_or (pt_cmpR op_ne (pe_callB (call_lenK (K := K) rfl) (by rfl) T.n_len PySem.boot_len (pa_cons (pv 0) pa_nil)) pe_int (nomark _)) (pw_or1 (pt_not (pt_val (pe_call (ok_is_whole T) (hr.mono (by decide)) (by rfl) T.m_is_whole T.F_is_whole.kp T.b_is_whole .nil pass0 (pa_cons (pe_ix (ix_tupK (K := K) rfl) (pv 0) pe_int (fun _ _ => rfl)) (pa_cons pe_int (pa_cons (pe_gint (by rfl) T.c_MOST_DEVICES) pa_nil)))))))))) (pss_one ps_never)
      pss_nil)
      (pss_cons (ps_set (i := 1) sc_is_plan.nd rfl (Or.inl rfl) (pe_ix (ix_tupK (K := K) rfl) (pv 0) pe_int (fun _ _ => rfl)))
      (pss_cons (ps_if (PW.pt (pw_or (pt_not (pt_val (pe_callB (call_isiK' (K := K) rfl) (by rfl) T.n_isinstance (by decide +kernel) (pa_cons (pv 1) (pa_cons (pe_ty (n := "tuple") (by rfl) T.n_tuple (by decide +kernel)) pa_nil))))) (pw_or (pt_not (pt_chain op_le op_le pe_int (pe_callB (call_lenK (K := K) rfl) (by rfl) T.n_len PySem.boot_len (pa_cons (pv 1) pa_nil)) (pe_gint (by rfl) T.c_MOST_LOOPS))) (pw_or1 (pt_not (pt_val (pe_callB (cr_allK (K := K) rfl rfl) (by rfl) T.n_all (by decide +kernel) (pa_cons (pe_lc (own := [("one", 2)]) rfl sc_is_plan.nd  (pi_tupK (K := K) rfl (pv 1)) (blkOk_by (N := ["thing", "loops", "one"]) (sc := defScope s_is_plan) (by decide +kernel)) (fun _ _ _ _ _ => (pg_name (i := 2) sc_is_plan.nd rfl (Or.inl rfl))) (fun _ _ _ _ _ => pts_nil) (fun _ _ _ _ _ => (pe_call (ok_is_loop T) (hr.mono (by decide)) (by rfl) T.m_is_loop T.F_is_loop.kp T.b_is_loop .nil pass0 (pa_cons (pv 2) pa_nil)))) pa_nil)))))))) (pss_one ps_never)
      pss_nil)
      (pss_one (ps_ret (pe_and (pe_call (ok_are_zones T) (hr.mono (by decide)) (by rfl) T.m_are_zones T.F_are_zones.kp T.b_are_zones .nil pass0 (pa_cons (pe_ix (ix_tupK (K := K) rfl) (pv 0) pe_int (fun _ _ => rfl)) pa_nil)) (pe_one (pe_chain op_le op_le pe_int (pe_callB (call_lenK (K := K) rfl) (by rfl) T.n_len PySem.boot_len (pa_cons (pe_call (ok_devices T) (hr.mono (by decide)) (by rfl) T.m_devices T.F_devices.kp T.b_devices .nil pass0 (pa_cons (pv 0) pa_nil)) pa_nil)) (pe_gint (by rfl) T.c_MOST_DEVICES))))))))), ?_⟩
    have hP0 := hP
    obtain ⟨p, ls, zs, rfl, hp, ⟨la, xs, rfl, hl, pr⟩, hzs⟩ := hP
    have s0 := Same.refl H
    have hxl := Paired.length pr
    have g1 := hg.one
    have g2 := hg.loops.1
    walk_at "go"
    refine ⟨_, _, _, rfl, hg.most.1, hg.most.2, fun H1 s1 => ?_⟩
    walk_at "go"
    refine lcg_true (K := K) walk_tup s1 P.loops hxl.symm (by omega) (fun H2 s2 => SqT.of (s2 _ _ (s1 _ _ hl))) (fun pre d post x H3 H4 e s2 s2' y Ky ky => ?_) (fun D H3 s2 s2' l => ?_)
    · obtain ⟨rfl, hx⟩ := y
      walk_at "go"
      exact ⟨_, d, rfl, LoR.ts s2'.ts _ _ (at_pre pr e hx), hg.loops.2 d (sub_pre e), fun H5 s5 => ky _ s5⟩
    · walk_at "go"
      refine ⟨zs, P.zones, rfl, TR.ts (ZoR.ts s2'.ts) s2'.ts hzs, hg.zones.1, hg.zones.2.1, hg.zones.2.2, fun H5 s5 => ?_⟩
      have s6 := s2'.trans s5
      walk_at "go"
      refine ⟨_, P, rfl, PlanR.ts s6.ts _ _ hP0, hg.loops, fun L H7 g1 s7 ⟨ys, hL, prd⟩ => ?_⟩
      have hyl := Paired.length prd
      have s8 := s6.trans s7
      have d1 := hg.devs.1
      have d2 := hg.devs.2
      walk_at "go"
      exact bl_t (dt (by omega)) (k _ s8)
/-! ### is_let_by -/
def sp_is_let_by : Sp := fun vs H Q _ => ∃ (v : V) (P : Plan), vs = [v] ∧ PlanR H v P ∧ GoodPlan P ∧ ∀ H', Same H H' → Q (.bl true) H'
theorem ok_is_let_by (T : Txt K mg f fd C aK aT) : FnOk P w K mg base CX0 6 (f 19) (fd 19) ["thing"] sp_is_let_by := by
  refine T.F_is_let_by.ok sc_is_let_by (fun vs H Q E h => ?_) (fun cdv A outer s H vs Q E hr h => ?_)
  · obtain ⟨v, P, rfl, _⟩ := h; rfl
  · obtain ⟨v, P, rfl, hP, hg, k⟩ := h
    refine ⟨_, (pss_one (ps_ret (pe_and (pe_call (ok_is_plan T) (hr.mono (by decide)) (by rfl) T.m_is_plan T.F_is_plan.kp T.b_is_plan .nil pass0 (pa_cons (pv 0) pa_nil)) (pe_one (pe_cmp (pc_isN (pe_call (ok_wrong T) (hr.mono (by decide)) (by rfl) T.m_wrong T.F_wrong.kp T.b_wrong .nil pass0 (pa_cons (pv 0) pa_nil)))))))), ?_⟩
    have s0 := Same.refl H
    walk_at "go"
    refine ⟨v, P, rfl, hP, hg, fun H1 s1 => ?_⟩
    walk_at "go"
    refine ⟨v, P, rfl, hP.ts s1.ts, hg, fun H2 s2 => ?_⟩
    walk_at "go"
    exact k _ (s1.trans s2)
end
end Wl

namespace Wl
open PySem L2
/-! ### hows, stops -/
abbrev ky3 (q : Sp3) : List Key := [.inl q.1, .inl q.2.1, .inl q.2.2]
abbrev ky2 (q : Int × Int) : List Key := [.inl q.1, .inl q.2]
def HowsAt (H : Hp) (a : Addr) (h : Sp3 → Str) : Prop := ∃ kvs, H a = some (.dT kvs) ∧ ∀ q, (valV kvs (ky3 q)).getD (.str "") = .str (h q)
def StopsAt (H : Hp) (a : Addr) (S : Int × Int → Bool) : Prop := ∃ kvs, H a = some (.dT kvs) ∧ ∀ q, (valV kvs (ky2 q)).isSome = S q
theorem HowsAt.same {H H' : Hp} {a : Addr} {h : Sp3 → Str} (s : Same H H') (e : HowsAt H a h) : HowsAt H' a h := let ⟨k, e, z⟩ := e; ⟨k, s _ _ e, z⟩
theorem StopsAt.same {H H' : Hp} {a : Addr} {h : Int × Int → Bool} (s : Same H H') (e : StopsAt H a h) : StopsAt H' a h := let ⟨k, e, z⟩ := e; ⟨k, s _ _ e, z⟩
theorem i_2i {z : Int → Int → Prop} {i j : Int} (q : z i j) : ∃ i' j', [V.int i, V.int j] = [V.int i', V.int j'] ∧ z i' j' := ⟨i, j, rfl, q⟩
theorem i_isD {H : Hp} {a : Addr} {kvs : List (List Key × V)} {z : Addr → Prop} (h : H a = some (.dT kvs)) (q : z a) : ∃ b, V.ref a = V.ref b ∧ IsD H b ∧ z b := ⟨a, rfl, .inr ⟨kvs, .inl h⟩, q⟩
section
variable {D : Ends} {σ : L2.St} {H : Hp} {g : TG} {tb : TS}
theorem forg_rngB {lo : Int} {n : Nat} (Pv : Nat → L2.St → Hp → Prop) (M : L2.St → Hp → Prop) (hM : ∀ σ H, M σ H → D.nx σ H) (h0 : Pv 0 σ H)
    (hs : ∀ N : L2.St → Hp → Prop, (∀ σ H, M σ H → N σ H) → ∀ (i : Nat) σ H, i < n → Pv i σ H → g (.int (lo + (i : Int))) σ H fun σ2 H2 => tb { D with nx := Pv (i + 1), ct := Pv (i + 1), bk := N } σ2 H2) (hd : ∀ σ H, Pv n σ H → M σ H) : ForG (Itr lo n) g tb D σ H :=
  for_range Pv h0 (hs D.nx hM) fun σ H p => hM _ _ (hd _ _ p)
theorem while_m {c : TT} (W : Nat → L2.St → Hp → Prop) (M : L2.St → Hp → Prop) (hM : ∀ σ H, M σ H → D.nx σ H) (m : Nat) (h0 : W m σ H)
    (turn : ∀ N : L2.St → Hp → Prop, (∀ σ H, M σ H → N σ H) → ∀ m σ H, W m σ H → c σ H fun b H1 => if b = true then ∃ Nx : L2.St → Hp → Prop, (∀ σ' H', Nx σ' H' → ∃ m', m' < m ∧ W m' σ' H') ∧ tb { D with nx := Nx, ct := Nx, bk := N } σ H1 else N σ H1) : tWhile c tb D σ H :=
  ⟨W, ⟨m, h0⟩, turn D.nx hM⟩
end
end Wl

namespace Wl
open PySem L2
/-! ### the step tactics -/
local macro_rules | `(tactic| walk_at "lk") => `(tactic| first
  | assumption
  | exact upd_same
  | (refine (?_ : ∀ H, SqT _ H _ _) _; assumption)
  | (apply Step.get; (focus assumption); walk_at "lk")
  | (apply upd_tupL; (focus walk_at "lk"); walk_at "lk")
  | (apply upd_tupT; (focus walk_at "lk"); walk_at "lk")
  | (apply upd_tupK; (focus walk_at "lk"); walk_at "lk")
  | (apply L2.Same.get; (focus assumption); assumption)
  | (apply L2.Same.get; rotate_left; (focus assumption); assumption)
  | (apply SqT.of; walk_at "lk")
  | (apply SqL.of; walk_at "lk"))
local macro_rules | `(tactic| walk_at "sm") => `(tactic| first
  | assumption
  | (apply L2.Same.mut; (focus walk_at "sm"); (focus assumption)))
local macro_rules | `(tactic| walk_at "cond") => `(tactic| first
  | rfl
  | assumption
  | (exact dt (by first | rfl | assumption | omega | (simp; done) | (simp; omega)))
  | (exact df (by first | assumption | omega | (simp; done) | (simp; omega)))
  | (exact ndt (by first | rfl | assumption | omega | (simp; done) | (simp; omega)))
  | (exact ndf (by first | assumption | omega | (simp; done) | (simp; omega)))
  | (simp; done))
local macro_rules | `(tactic| walk_at "cond1") => `(tactic| first
  | assumption
  | with_reducible rfl
  | with_reducible exact n_t
  | with_reducible exact n_f
  | with_reducible exact dt (by assumption)
  | with_reducible exact df (by assumption)
  | with_reducible exact ndt (by assumption)
  | with_reducible exact ndf (by assumption))
local macro_rules | `(tactic| walk_at "g1") => `(tactic| first
  | with_reducible refine i_seq ?_
  | with_reducible refine i_asg ?_
  | with_reducible refine i_name ?_
  | with_reducible refine i_ret ?_
  | with_reducible refine i_drop ?_
  | with_reducible refine i_if ?_
  | with_reducible refine i_next ?_
  | with_reducible refine i_break ?_
  | with_reducible refine i_c ?_
  | ((with_reducible apply i_var); (focus (rfl)))
  | with_reducible refine i_op ?_
  | with_reducible refine i_cons ?_
  | with_reducible refine i_nil ?_
  | with_reducible refine i_cb ?_
  | with_reducible refine i_call ?_
  | ((with_reducible apply i_ixT); (focus (walk_at "lk")); (focus (first | rfl | assumption)))
  | ((with_reducible apply i_ixL); (focus (walk_at "lk")); (focus (first | rfl | assumption)))
  | with_reducible refine i_I0 ?_
  | ((with_reducible apply i_eq); (focus (rfl)))
  | ((with_reducible apply i_ne); (focus (rfl)))
  | with_reducible refine i_un ?_
  | with_reducible refine i_neg ?_
  | with_reducible refine i_andV ?_
  | with_reducible refine i_orV ?_
  | with_reducible refine i_notV ?_
  | with_reducible refine i_chain ?_
  | with_reducible refine i_test ?_
  | with_reducible refine i_B ?_
  | with_reducible refine i_k ?_
  | with_reducible refine i_and ?_
  | with_reducible refine i_or ?_
  | with_reducible refine i_not ?_
  | with_reducible refine i_yes ?_
  | (with_reducible refine i_isiI kit_ii ?_)
  | (with_reducible refine i_isiI kit_ib ?_)
  | (with_reducible refine i_isiS kit_ss ?_)
  | ((with_reducible apply i_isiT); (focus (walk_at "lk")); (focus (exact kit_tt)))
  | ((with_reducible apply i_len); (focus (first | (apply Or.inr; walk_at "lk") | (apply Or.inl; walk_at "lk"))))
  | ((with_reducible apply i_lens); (focus (walk_at "sz")))
  | (with_reducible refine i_sign ?_)
  | ((with_reducible apply i_inT); (focus (walk_at "lk")); (focus (rfl)); (focus (rfl)))
  | ((with_reducible apply i_inL); (focus (walk_at "lk")); (focus (rfl)); (focus (rfl)))
  | ((with_reducible apply i_ninL); (focus (walk_at "lk")); (focus (rfl)); (focus (rfl)))
  | ((with_reducible apply i_all); (focus (walk_at "lk")))
  | ((with_reducible apply i_any); (focus (walk_at "lk")))
  | ((with_reducible apply ift); (focus (walk_at "cond1")))
  | ((with_reducible apply iff_); (focus (walk_at "cond1")))
  | ((with_reducible apply ift); (focus (rfl)))
  | ((with_reducible apply iff_); (focus (rfl)))
  | ((with_reducible apply ift); (focus (walk_at "cond")))
  | ((with_reducible apply iff_); (focus (walk_at "cond")))
  | with_reducible refine i_tup ?_
  | (with_reducible refine i_new2 (by walk_at "sm") ?_; intro _ _ _ _ _ _ _)
  | with_reducible refine i_dnK ?_
  | with_reducible refine i_dnT ?_
  | with_reducible refine i_lc ?_
  | with_reducible refine i_for ?_
  | with_reducible refine i_iTup ?_
  | with_reducible refine i_iList ?_
  | ((with_reducible apply i_tupW); (focus (walk_at "lk")))
  | ((with_reducible apply i_listW); (focus (walk_at "lk")))
  | with_reducible refine i_iRng1 ?_
  | ((with_reducible apply i_rng1); (focus (walk_at "bnd")))
  | with_reducible refine i_iRng2 ?_
  | ((with_reducible apply i_rng2); (focus (walk_at "bnd")))
  | with_reducible refine i_iStr ?_
  | with_reducible refine i_iEnT ?_
  | with_reducible refine i_iEnum ?_
  | ((with_reducible apply i_enTW); (focus (walk_at "lk")))
  | ((with_reducible apply i_enLW); (focus (walk_at "lk")))
  | with_reducible refine i_strW ?_
  | with_reducible refine i_lst ?_
  | with_reducible refine i_bm ?_
  | with_reducible refine i_fld ?_
  | with_reducible refine i_dget2 ?_
  | with_reducible refine i_dget ?_
  | with_reducible refine i_din ?_
  | with_reducible refine i_dnotin ?_
  | with_reducible refine i_dputT ?_
  | with_reducible refine i_isN ?_
  | with_reducible refine i_notN ?_
  | ((with_reducible apply i_gtup); (focus (walk_at "lk")); (focus (rfl)))
  | with_reducible refine i_gcons ?_
  | with_reducible refine i_gnil ?_
  | with_reducible refine i_sl ?_
  | with_reducible refine i_nopart ?_
  | with_reducible refine i_part ?_
  | ((with_reducible apply i_app); (focus (walk_at "lk")); (focus (walk_at "sz")))
  | with_reducible refine i_2i ?_
  | with_reducible refine i_par ?_
  | with_reducible refine i_m1 ?_
  | with_reducible refine i_ex1 ?_
  | with_reducible refine i_isS ?_
  | ((with_reducible apply i_slS); (focus (walk_at "sz")))
  | with_reducible refine i_add_str ?_
  | with_reducible refine i_abs ?_
  | with_reducible refine i_gsub ?_
  | ((with_reducible apply i_setL); (focus (walk_at "lk")); (focus (rfl)))
  | ((with_reducible apply i_I); (focus (walk_at "arith")))
  | ((with_reducible apply i_fldw); (focus (walk_at "lk")); (focus assumption); (focus assumption); (focus (first | exact lk_plan | exact lk_hows | exact lk_stops | exact lk_dev)))
  | with_reducible refine i_meth ?_
  | ((with_reducible apply i_methW); (focus (walk_at "lk")); (focus (first | exact nm_need | exact nm_change | exact nm_parted | exact nm_act | exact nm_cut | exact nm_short | exact nm_mend | exact nm_rests | exact nm_come | exact nm_heard)))
  | ((with_reducible apply i_isD); (focus (walk_at "lk")))
  | ((with_reducible apply i_ext); (focus (walk_at "lk")); (focus (walk_at "lk")); (focus (walk_at "sz")))
  | ((with_reducible apply And.intro); (focus (first | (show wipe _ _ = wipe _ _; rfl) | (walk_at "sz")))))
local macro_rules | `(tactic| walk_at "arith") => `(tactic| first
  | assumption
  | (refine Or.inl ?_; (constructor <;> omega))
  | (refine Or.inr ?_; (constructor <;> omega))
  | (show (0 : Int) < _; omega)
  | (show 0 < _ ∧ _ < _; (constructor <;> omega))
  | (show CPow 10 18; exact ⟨by decide, by decide, by decide⟩))
local macro_rules | `(tactic| walk_at "bnd") => `(tactic| first
  | omega
  | (refine ⟨?_, ?_⟩ <;> omega))
local macro_rules | `(tactic| walk_at "sz") => `(tactic| first
  | (apply ty_l; walk_at "lk")
  | (apply ty_d; walk_at "lk")
  | (exact szle (by omega))
  | (exact szl (by omega))
  | (exact szle (by simp only [List.length_append, List.length_cons, List.length_nil, List.length_map]; omega))
  | (exact szl (by simp only [List.length_append, List.length_cons, List.length_nil, List.length_map]; omega))
  | (exact Nat.le_of_ble_eq_true rfl))
local macro_rules | `(tactic| walk_at "go") => `(tactic| repeat (first | walk_at "g1" | dsimp only))
/-! ### where warnings come to -/
def spurGo (h : Sp3 → Str) (l a : Int) : Nat → Int → List Sp3
  | 0, _ => []
  | n + 1, w => if h (l, a, w) = "cut" then [] else (l, a, w) :: spurGo h l a n (w + 1)
theorem spurGo_len (h : Sp3 → Str) (l a : Int) : ∀ (n : Nat) (w : Int), (spurGo h l a n w).length ≤ n
  | 0, _ => Nat.le_refl _
  | n + 1, w => by
    rw [spurGo]
    split
    · exact Nat.zero_le _
    · rw [List.length_cons]; exact Nat.succ_le_succ (spurGo_len h l a n (w + 1))
def spurN (lp : List Place) (a : Int) : Nat := match lp[(a - 1).toNat]? with
  | some q => q.spur.length
  | none => 0
section
variable {P : Program} {w : World} {K : PySem.W.Frag} {mg : Str → Option Value} {f : Nat → Addr} {fd : Nat → FuncData} {C aK aT : Addr} {base : Heap}
def sp_spur_come_to : Sp := fun vs H Q _ => ∃ (v : V) (P : Plan) (hw : Addr) (h : Sp3 → Str) (l : Nat) (lp : List Place) (a : Int), vs = [v, .ref hw, .int l, .int a] ∧ PlanR H v P ∧ GoodLs P ∧ HowsAt H hw h ∧ P.loops[l]? = some lp ∧ 1 ≤ a ∧ a ≤ lp.length ∧
  ∀ p A B H', Same H H' → H A = none → H B = none → H' p = some (.tup [.ref A, .ref B]) → LR T3 H' A (spurGo h l a (spurN lp a) 1) → LR T3 H' B (((l : Int), a, 0) :: spurGo h l a (spurN lp a) 1) → Q (.ref p) H'
theorem ok_spur_come_to (T : Txt K mg f fd C aK aT) : FnOk P w K mg base CX0 1 (f 20) (fd 20) ["plan", "hows", "loop", "at"] sp_spur_come_to := by
  refine T.F_spur_come_to.ok sc_spur_come_to (fun vs H Q E h => ?_) (fun cdv A outer s H vs Q E hr h => ?_)
  · obtain ⟨v, P, hw, h, l, lp, a, rfl, _⟩ := h; rfl
  · obtain ⟨v, P, hw, h, l, lp, a, rfl, ⟨p, ls, zs, rfl, hp, ⟨la, xs, rfl, hl, pr⟩, _⟩, hg, ⟨kvs, hh, hv⟩, hlp, a1, a2, k⟩ := h
    refine ⟨_, (pss_cons (ps_set (i := 4) sc_spur_come_to.nd rfl (Or.inl rfl) (pe_lst pa_nil))
      (pss_cons (ps_set (i := 5) sc_spur_come_to.nd rfl (Or.inl rfl) (pe_lst (pa_cons (pe_tup (pa_cons (pv 2) (pa_cons (pv 3) (pa_cons pe_int pa_nil)))) pa_nil)))
      (pss_cons (ps_for PassesOwn.never rfl (pi_range2 (by rfl) T.n_range (pa_cons pe_int (pa_cons (pe_op op_add (pe_callB (call_lenK (K := K) rfl) (by rfl) T.n_len PySem.boot_len (pa_cons (pe_ix (ix_tupK (K := K) rfl) (pe_ix (ix_tupK (K := K) rfl) (pe_ix (ix_tupK (K := K) rfl) (pe_ix (ix_tupK (K := K) rfl) (pv 0) pe_int (fun _ _ => rfl)) (pv 2) (fun _ _ => rfl)) (pe_op op_sub (pv 3) pe_int) (fun _ _ => rfl)) pe_int (fun _ _ => rfl)) pa_nil)) pe_int) pa_nil))) (pg_name (i := 6) sc_spur_come_to.nd rfl (Or.inl rfl)) (pss_cons (ps_if (pt_cmpR op_eq (pe_dget2 (hu_of hr) (pv 1) (pe_tup (pa_cons (pv 2) (pa_cons (pv 3) (pa_cons (pv 6) pa_nil)))) pe_str ⟨rfl, rfl, rfl, rfl⟩) pe_str (nomark _)) (pss_one ps_break)
      pss_nil)
      (pss_cons (ps_expr (pe_bmK (K := K) rfl PySem.F.plainAttrs_list PySem.F.slot_list_append PySem.F.type_list_append mt_append (pv 4) (pa_cons (pe_tup (pa_cons (pv 2) (pa_cons (pv 3) (pa_cons (pv 6) pa_nil)))) pa_nil)))
      (pss_one (ps_expr (pe_bmK (K := K) rfl PySem.F.plainAttrs_list PySem.F.slot_list_append PySem.F.type_list_append mt_append (pv 5) (pa_cons (pe_tup (pa_cons (pv 2) (pa_cons (pv 3) (pa_cons (pv 6) pa_nil)))) pa_nil)))))))
      (pss_one (ps_ret (pe_tup (pa_cons (pv 4) (pa_cons (pv 5) pa_nil)))))))), ?_⟩
    have s0 := Same.refl H
    obtain ⟨x, hx, lb, ys, rfl, hlb, pr2⟩ := Paired.get2 pr hlp
    have hx2 : atI xs (l : Int) = some (.ref lb) := ati l rfl hx
    have hm := List.mem_of_getElem? hlp
    have ha : (a - 1).toNat < lp.length := by omega
    have hq := List.getElem?_eq_getElem ha
    generalize hqq : lp[(a - 1).toNat] = q at hq
    obtain ⟨y, hy, pp, ss, rfl, hpp, ⟨sa, zs2, rfl, hsa, pr3⟩⟩ := Paired.get2 pr2 hq
    have hy2 : atI ys (a - 1) = some (.ref pp) := ati _ (by omega) hy
    have hz2 := Paired.length pr3
    have hsp : q.spur.length ≤ 3 := spur_le ((hg.2 lp hm).2.2 q (List.mem_of_getElem? hq))
    have hsn : spurN lp a = q.spur.length := by rw [spurN, hq]
    have hn : ((zs2.length : Int) + 1 - 1).toNat = q.spur.length := by omega
    rw [hsn] at k
    walk_at "go"
    rename_i A H1 f1 f2 s1 s1' hA t H2 g1 g2 s2 s2' ht B H3 b1 b2 s3 s3' hB
    have AB : A ≠ B := fun z => by rw [← z, s2.get hA] at b1; cases b1
    rw [hn]
    refine forg_rngB (fun i σ H' => ∃ x, σ = [some (.ref p), some (.ref hw), some (.int l), some (.int a), some (.ref A), some (.ref B), x] ∧ Same H H' ∧ ∃ L, LR T3 H' A L ∧ LR T3 H' B (((l : Int), a, 0) :: L) ∧ L ++ spurGo h l a (q.spur.length - i) (1 + (i : Int)) = spurGo h l a q.spur.length 1 ∧ L.length ≤ i)
      (fun σ H' => ∃ x, σ = [some (.ref p), some (.ref hw), some (.int l), some (.int a), some (.ref A), some (.ref B), x] ∧ Same H H' ∧ LR T3 H' A (spurGo h l a q.spur.length 1) ∧ LR T3 H' B (((l : Int), a, 0) :: spurGo h l a q.spur.length 1)) (fun σ H' hI => ?_)
      ⟨_, rfl, s3', [], ⟨[], (by walk_at "lk"), .nil⟩, ⟨_, hB, Paired.one ⟨t, rfl, s3.get ht⟩⟩, rfl, Nat.le_refl _⟩ (fun N hN i σ H' hi hI => ?_) (fun σ H' hI => ?_)
    · obtain ⟨x, rfl, s4, hA4, hB4⟩ := hI
      walk_at "go"
      rename_i p5 H5 x5 y5 st5 s5 e5
      exact k p5 A B _ s5 f2 b2 e5 (hA4.same (T3.tsx st5.same.ts) st5.same) (hB4.same (T3.tsx st5.same.ts) st5.same)
    · obtain ⟨x, rfl, s4, L, ⟨va, hA4, pa⟩, ⟨vb, hB4, pb⟩, hL, hl4⟩ := hI
      have hga := Paired.length pa
      have hgb := Paired.length pb
      rw [List.length_cons] at hgb
      have hsub : q.spur.length - i = (q.spur.length - (i + 1)) + 1 := by omega
      rw [hsub, spurGo] at hL
      walk_at "go"
      rename_i p5 H5 x5 y5 st5 s5 e5
      refine ⟨_, DGet.t (k := ky3 ((l : Int), a, 1 + (i : Int))) (s5.get hh) e5, ?_⟩
      rw [hv]
      have hB5 := st5.get hB4
      have hA5 := st5.get hA4
      have va5 : va.length ≤ 100 := by omega
      have vb5 : vb.length ≤ 100 := by omega
      by_cases hc : h ((l : Int), a, 1 + (i : Int)) = "cut"
      · have hc2 : V.str (h ((l : Int), a, 1 + (i : Int))) = V.str "cut" := by rw [hc]
        rw [if_pos hc, List.append_nil] at hL
        walk_at "go"
        refine hN _ _ ⟨_, rfl, s5, ?_, ?_⟩
        · rw [← hL]; exact ⟨va, hA5, Paired.mapP pa (T3.tsx st5.same.ts)⟩
        · rw [← hL]; exact ⟨vb, hB5, Paired.mapP pb (T3.tsx st5.same.ts)⟩
      · have hc2 : ¬ V.str (h ((l : Int), a, 1 + (i : Int))) = V.str "cut" := fun z => hc (V.str.inj z)
        rw [if_neg hc] at hL
        walk_at "go"
        rename_i p6 H6 x6 y6 st6 s6 e6
        have hB6 : upd H6 A (.lst (va ++ [.ref p6])) B = some (.lst vb) := by rw [upd_ne AB.symm]; exact st6.get hB5
        walk_at "go"
        rename_i p7 H7 x7 y7 st7 s7 e7
        have hB7 := st7.get hB6
        walk_at "go"
        have t5 := st5.same.ts.trans st6.same.ts
        have t7 : Tk H6 H7 := (Tk.upd (st6.get hA5) nt_l).trans st7.same.ts
        refine ⟨_, rfl, s7.mut b2, L ++ [((l : Int), a, 1 + (i : Int))], ⟨va ++ [.ref p6], ?_, ?_⟩, ⟨vb ++ [.ref p7], upd_same, ?_⟩, ?_, ?_⟩
        · rw [upd_ne AB]; exact st7.get upd_same
        · have t8 := t7.trans (Tk.upd (o := .lst (vb ++ [.ref p7])) hB7 nt_l)
          exact Paired.app (Paired.mapP pa (T3.tsx (t5.trans t8))) (Paired.one ⟨p6, rfl, t8 _ _ e6⟩)
        · have t8 := Tk.upd (o := .lst (vb ++ [.ref p7])) hB7 nt_l
          exact Paired.app (l₂ := ((l : Int), a, 0) :: L) (Paired.mapP pb (T3.tsx ((t5.trans t7).trans t8))) (Paired.one ⟨p7, rfl, t8 _ _ e7⟩)
        · rw [List.append_assoc, ← hL]
          congr 1
        · rw [List.length_append, List.length_singleton]; omega
    · obtain ⟨x, rfl, s4, L, hA4, hB4, hL, hl4⟩ := hI
      rw [Nat.sub_self, spurGo, List.append_nil] at hL
      rw [hL] at hA4 hB4
      exact ⟨_, rfl, s4, hA4, hB4⟩
end
end Wl

namespace Wl
open PySem L2
/-! ### the step tactics -/
local macro_rules | `(tactic| walk_at "lk") => `(tactic| first
  | assumption
  | exact upd_same
  | (refine (?_ : ∀ H, SqT _ H _ _) _; assumption)
  | (apply Step.get; (focus assumption); walk_at "lk")
  | (apply upd_tupL; (focus walk_at "lk"); walk_at "lk")
  | (apply upd_tupT; (focus walk_at "lk"); walk_at "lk")
  | (apply upd_tupK; (focus walk_at "lk"); walk_at "lk")
  | (apply L2.Same.get; (focus assumption); assumption)
  | (apply L2.Same.get; rotate_left; (focus assumption); assumption)
  | (apply SqT.of; walk_at "lk")
  | (apply SqL.of; walk_at "lk"))
local macro_rules | `(tactic| walk_at "sm") => `(tactic| first
  | assumption
  | (apply L2.Same.mut; (focus walk_at "sm"); (focus assumption)))
local macro_rules | `(tactic| walk_at "cond") => `(tactic| first
  | rfl
  | assumption
  | (exact dt (by first | rfl | assumption | omega | (simp; done) | (simp; omega)))
  | (exact df (by first | assumption | omega | (simp; done) | (simp; omega)))
  | (exact ndt (by first | rfl | assumption | omega | (simp; done) | (simp; omega)))
  | (exact ndf (by first | assumption | omega | (simp; done) | (simp; omega)))
  | (simp; done))
local macro_rules | `(tactic| walk_at "cond1") => `(tactic| first
  | assumption
  | with_reducible rfl
  | with_reducible exact n_t
  | with_reducible exact n_f
  | with_reducible exact dt (by assumption)
  | with_reducible exact df (by assumption)
  | with_reducible exact ndt (by assumption)
  | with_reducible exact ndf (by assumption))
local macro_rules | `(tactic| walk_at "g1") => `(tactic| first
  | with_reducible refine i_seq ?_
  | with_reducible refine i_asg ?_
  | with_reducible refine i_name ?_
  | with_reducible refine i_ret ?_
  | with_reducible refine i_drop ?_
  | with_reducible refine i_if ?_
  | with_reducible refine i_next ?_
  | with_reducible refine i_break ?_
  | with_reducible refine i_c ?_
  | ((with_reducible apply i_var); (focus (rfl)))
  | with_reducible refine i_op ?_
  | with_reducible refine i_cons ?_
  | with_reducible refine i_nil ?_
  | with_reducible refine i_cb ?_
  | with_reducible refine i_call ?_
  | ((with_reducible apply i_ixT); (focus (walk_at "lk")); (focus (first | rfl | assumption)))
  | ((with_reducible apply i_ixL); (focus (walk_at "lk")); (focus (first | rfl | assumption)))
  | with_reducible refine i_I0 ?_
  | ((with_reducible apply i_eq); (focus (rfl)))
  | ((with_reducible apply i_ne); (focus (rfl)))
  | with_reducible refine i_un ?_
  | with_reducible refine i_neg ?_
  | with_reducible refine i_andV ?_
  | with_reducible refine i_orV ?_
  | with_reducible refine i_notV ?_
  | with_reducible refine i_chain ?_
  | with_reducible refine i_test ?_
  | with_reducible refine i_B ?_
  | with_reducible refine i_k ?_
  | with_reducible refine i_and ?_
  | with_reducible refine i_or ?_
  | with_reducible refine i_not ?_
  | with_reducible refine i_yes ?_
  | (with_reducible refine i_isiI kit_ii ?_)
  | (with_reducible refine i_isiI kit_ib ?_)
  | (with_reducible refine i_isiS kit_ss ?_)
  | ((with_reducible apply i_isiT); (focus (walk_at "lk")); (focus (exact kit_tt)))
  | ((with_reducible apply i_len); (focus (first | (apply Or.inr; walk_at "lk") | (apply Or.inl; walk_at "lk"))))
  | ((with_reducible apply i_lens); (focus (walk_at "sz")))
  | (with_reducible refine i_sign ?_)
  | ((with_reducible apply i_inT); (focus (walk_at "lk")); (focus (rfl)); (focus (rfl)))
  | ((with_reducible apply i_inL); (focus (walk_at "lk")); (focus (rfl)); (focus (rfl)))
  | ((with_reducible apply i_ninL); (focus (walk_at "lk")); (focus (rfl)); (focus (rfl)))
  | ((with_reducible apply i_all); (focus (walk_at "lk")))
  | ((with_reducible apply i_any); (focus (walk_at "lk")))
  | ((with_reducible apply ift); (focus (walk_at "cond1")))
  | ((with_reducible apply iff_); (focus (walk_at "cond1")))
  | ((with_reducible apply ift); (focus (rfl)))
  | ((with_reducible apply iff_); (focus (rfl)))
  | ((with_reducible apply ift); (focus (walk_at "cond")))
  | ((with_reducible apply iff_); (focus (walk_at "cond")))
  | with_reducible refine i_tup ?_
  | (with_reducible refine i_new2 (by walk_at "sm") ?_; intro _ _ _ _ _ _ _)
  | with_reducible refine i_dnK ?_
  | with_reducible refine i_dnT ?_
  | with_reducible refine i_lc ?_
  | with_reducible refine i_for ?_
  | with_reducible refine i_iTup ?_
  | with_reducible refine i_iList ?_
  | ((with_reducible apply i_tupW); (focus (walk_at "lk")))
  | ((with_reducible apply i_listW); (focus (walk_at "lk")))
  | with_reducible refine i_iRng1 ?_
  | ((with_reducible apply i_rng1); (focus (walk_at "bnd")))
  | with_reducible refine i_iRng2 ?_
  | ((with_reducible apply i_rng2); (focus (walk_at "bnd")))
  | with_reducible refine i_iStr ?_
  | with_reducible refine i_iEnT ?_
  | with_reducible refine i_iEnum ?_
  | ((with_reducible apply i_enTW); (focus (walk_at "lk")))
  | ((with_reducible apply i_enLW); (focus (walk_at "lk")))
  | with_reducible refine i_strW ?_
  | with_reducible refine i_lst ?_
  | with_reducible refine i_bm ?_
  | with_reducible refine i_fld ?_
  | with_reducible refine i_dget2 ?_
  | with_reducible refine i_dget ?_
  | with_reducible refine i_din ?_
  | with_reducible refine i_dnotin ?_
  | with_reducible refine i_dputT ?_
  | with_reducible refine i_isN ?_
  | with_reducible refine i_notN ?_
  | ((with_reducible apply i_gtup); (focus (walk_at "lk")); (focus (rfl)))
  | with_reducible refine i_gcons ?_
  | with_reducible refine i_gnil ?_
  | with_reducible refine i_sl ?_
  | with_reducible refine i_nopart ?_
  | with_reducible refine i_part ?_
  | ((with_reducible apply i_app); (focus (walk_at "lk")); (focus (walk_at "sz")))
  | with_reducible refine i_2i ?_
  | with_reducible refine i_par ?_
  | with_reducible refine i_m1 ?_
  | with_reducible refine i_ex1 ?_
  | with_reducible refine i_isS ?_
  | ((with_reducible apply i_slS); (focus (walk_at "sz")))
  | with_reducible refine i_add_str ?_
  | with_reducible refine i_abs ?_
  | with_reducible refine i_gsub ?_
  | ((with_reducible apply i_setL); (focus (walk_at "lk")); (focus (rfl)))
  | ((with_reducible apply i_I); (focus (walk_at "arith")))
  | ((with_reducible apply i_fldw); (focus (walk_at "lk")); (focus assumption); (focus assumption); (focus (first | exact lk_plan | exact lk_hows | exact lk_stops | exact lk_dev)))
  | with_reducible refine i_meth ?_
  | ((with_reducible apply i_methW); (focus (walk_at "lk")); (focus (first | exact nm_need | exact nm_change | exact nm_parted | exact nm_act | exact nm_cut | exact nm_short | exact nm_mend | exact nm_rests | exact nm_come | exact nm_heard)))
  | ((with_reducible apply i_isD); (focus (walk_at "lk")))
  | ((with_reducible apply i_ext); (focus (walk_at "lk")); (focus (walk_at "lk")); (focus (walk_at "sz")))
  | ((with_reducible apply And.intro); (focus (first | (show wipe _ _ = wipe _ _; rfl) | (walk_at "sz")))))
local macro_rules | `(tactic| walk_at "arith") => `(tactic| first
  | assumption
  | (refine Or.inl ?_; (constructor <;> omega))
  | (refine Or.inr ?_; (constructor <;> omega))
  | (show (0 : Int) < _; omega)
  | (show 0 < _ ∧ _ < _; (constructor <;> omega))
  | (show CPow 10 18; exact ⟨by decide, by decide, by decide⟩))
local macro_rules | `(tactic| walk_at "bnd") => `(tactic| first
  | omega
  | (refine ⟨?_, ?_⟩ <;> omega))
local macro_rules | `(tactic| walk_at "sz") => `(tactic| first
  | (apply ty_l; walk_at "lk")
  | (apply ty_d; walk_at "lk")
  | (exact szle (by omega))
  | (exact szl (by omega))
  | (exact szle (by simp only [List.length_append, List.length_cons, List.length_nil, List.length_map]; omega))
  | (exact szl (by simp only [List.length_append, List.length_cons, List.length_nil, List.length_map]; omega))
  | (exact Nat.le_of_ble_eq_true rfl))
local macro_rules | `(tactic| walk_at "go") => `(tactic| repeat (first | walk_at "g1" | dsimp only))
/-! ### come_to -/
def mn (a s : Int) : Int := if a + s < a then a + s else a
def comeGo (h : Sp3 → Str) (S : Int × Int → Bool) (l : Int) (lp : List Place) (s : Int) : Nat → Int → List Sp3 × List Sp3
  | 0, _ => ([], [])
  | n + 1, a => if h (l, mn a s, 0) = "cut" then ([], []) else if a + s < 1 ∨ (lp.length : Int) < a + s then ([(l, mn a s, 0)], []) else
    ((l, mn a s, 0) :: (spurGo h l (a + s) (spurN lp (a + s)) 1 ++ (if S (l, a + s) = true then ([], []) else comeGo h S l lp s n (a + s)).1),
     (l, a + s, 0) :: (spurGo h l (a + s) (spurN lp (a + s)) 1 ++ (if S (l, a + s) = true then ([], []) else comeGo h S l lp s n (a + s)).2))
def fuel (lp : List Place) (a s : Int) : Nat := (if s = 1 then (lp.length : Int) + 1 - a else a).toNat
def come (h : Sp3 → Str) (S : Int × Int → Bool) (l : Int) (lp : List Place) (s a : Int) : List Sp3 × List Sp3 := comeGo h S l lp s (fuel lp a s) a
/-- where a walk of m steps is -/
def Way (lp : List Place) (s a : Int) (m : Nat) : Prop := (s = 1 ∧ 0 ≤ a ∧ a ≤ lp.length ∧ (m : Int) = lp.length + 1 - a) ∨ (s = -1 ∧ 1 ≤ a ∧ a ≤ lp.length + 1 ∧ (m : Int) = a)
theorem Way.fuel {lp : List Place} {s a : Int} {m : Nat} (h : Way lp s a m) : fuel lp a s = m := by
  rcases h with ⟨rfl, h1, h2, h3⟩ | ⟨rfl, h1, h2, h3⟩
  · rw [Wl.fuel, if_pos rfl]; omega
  · rw [Wl.fuel, if_neg (by decide)]; omega
theorem Way.pos {lp : List Place} {s a : Int} {m : Nat} (h : Way lp s a m) : ∃ n, m = n + 1 := by
  rcases h with ⟨rfl, h1, h2, h3⟩ | ⟨rfl, h1, h2, h3⟩ <;> exact ⟨m - 1, by omega⟩
theorem Way.next {lp : List Place} {s a : Int} {n : Nat} (h : Way lp s a (n + 1)) (hn : ¬ (a + s < 1 ∨ (lp.length : Int) < a + s)) : Way lp s (a + s) n := by
  rcases h with ⟨rfl, h1, h2, h3⟩ | ⟨rfl, h1, h2, h3⟩
  · exact .inl ⟨rfl, by omega, by omega, by omega⟩
  · exact .inr ⟨rfl, by omega, by omega, by omega⟩
section
variable {P : Program} {w : World} {K : PySem.W.Frag} {mg : Str → Option Value} {f : Nat → Addr} {fd : Nat → FuncData} {C aK aT : Addr} {base : Heap}
theorem spurN_le {P : Plan} {lp : List Place} (hg : GoodLs P) (hm : lp ∈ P.loops) (a : Int) : spurN lp a ≤ 3 := by
  rw [spurN]
  split
  · rename_i q hq; exact spur_le ((hg.2 lp hm).2.2 q (List.mem_of_getElem? hq))
  · exact Nat.zero_le _
def sp_come_to : Sp := fun vs H Q _ => ∃ (v : V) (P : Plan) (hw sw : Addr) (h : Sp3 → Str) (S : Int × Int → Bool) (l : Nat) (lp : List Place) (a s : Int), vs = [v, .ref hw, .ref sw, .int l, .int a, .int s] ∧ PlanR H v P ∧ GoodLs P ∧ HowsAt H hw h ∧ StopsAt H sw S ∧ P.loops[l]? = some lp ∧ Way lp s a (fuel lp a s) ∧
  ∀ p A B H', Same H H' → H A = none → H B = none → H' p = some (.tup [.ref A, .ref B]) → LR T3 H' A (come h S l lp s a).1 → LR T3 H' B (come h S l lp s a).2 → (come h S l lp s a).1.length ≤ 60 → (come h S l lp s a).2.length ≤ 60 → Q (.ref p) H'
theorem ok_come_to (T : Txt K mg f fd C aK aT) : FnOk P w K mg base CX0 2 (f 21) (fd 21) ["plan", "hows", "stops", "loop", "place", "step"] sp_come_to := by
  refine T.F_come_to.ok sc_come_to (fun vs H Q E h => ?_) (fun cdv A outer s H vs Q E hr h => ?_)
  · obtain ⟨v, P, hw, sw, h, S, l, lp, a, s, rfl, _⟩ := h; rfl
  · obtain ⟨v, P, hw, sw, h, S, l, lp, a, s, rfl, hP, hg, hH, hS, hlp, wy, k⟩ := h
    refine ⟨_, (pss_cons (ps_set (i := 6) sc_come_to.nd rfl (Or.inl rfl) (pe_callB (call_lenK (K := K) rfl) (by rfl) T.n_len PySem.boot_len (pa_cons (pe_ix (ix_tupK (K := K) rfl) (pe_ix (ix_tupK (K := K) rfl) (pv 0) pe_int (fun _ _ => rfl)) (pv 3) (fun _ _ => rfl)) pa_nil)))
      (pss_cons (ps_set (i := 7) sc_come_to.nd rfl (Or.inl rfl) (pe_lst pa_nil))
      (pss_cons (ps_set (i := 8) sc_come_to.nd rfl (Or.inl rfl) (pe_lst pa_nil))
      (pss_cons (ps_set (i := 9) sc_come_to.nd rfl (Or.inl rfl) (pv 4))
      (pss_cons (ps_while PassesOwn.never (pt_cmpR op_ne (pe_dget2 (hu_of hr) (pv 1) (pe_tup (pa_cons (pv 3) (pa_cons (pe_callB (call_min2 rfl) (by rfl) T.n_min (by decide +kernel) (pa_cons (pv 9) (pa_cons (pe_op op_add (pv 9) (pv 5)) pa_nil))) (pa_cons pe_int pa_nil)))) pe_str ⟨rfl, rfl, rfl, rfl⟩) pe_str (nomark _)) (pss_cons (ps_expr (pe_bmK (K := K) rfl PySem.F.plainAttrs_list PySem.F.slot_list_append PySem.F.type_list_append mt_append (pv 7) (pa_cons (pe_tup (pa_cons (pv 3) (pa_cons (pe_callB (call_min2 rfl) (by rfl) T.n_min (by decide +kernel) (pa_cons (pv 9) (pa_cons (pe_op op_add (pv 9) (pv 5)) pa_nil))) (pa_cons pe_int pa_nil)))) pa_nil)))
      (pss_cons (ps_set (i := 9) sc_come_to.nd rfl (Or.inl rfl) (pe_op op_add (pv 9) (pv 5)))
      (pss_cons (ps_if (PW.pt (pw_or (pt_cmpR op_lt (pv 9) pe_int (nomark _)) (pw_or1 (pt_cmpR op_gt (pv 9) (pv 6) (nomark _))))) (pss_one ps_break)
      pss_nil)
      (pss_cons (ps_asg (pe_call (ok_spur_come_to T) (hr.mono (by decide)) (by rfl) T.m_spur_come_to T.F_spur_come_to.kp T.b_spur_come_to .nil pass0 (pa_cons (pv 0) (pa_cons (pv 1) (pa_cons (pv 3) (pa_cons (pv 9) pa_nil))))) (pg_tupK (K := K) (n := 2) rfl rfl (pgs_cons (pg_name (i := 10) sc_come_to.nd rfl (Or.inl rfl)) (pgs_cons (pg_name (i := 11) sc_come_to.nd rfl (Or.inl rfl)) pgs_nil))))
      (pss_cons (ps_expr (pe_bmK (K := K) rfl PySem.F.plainAttrs_list PySem.F.slot_list_extend PySem.F.type_list_extend mt_extend (pv 7) (pa_cons (pv 10) pa_nil)))
      (pss_cons (ps_expr (pe_bmK (K := K) rfl PySem.F.plainAttrs_list PySem.F.slot_list_extend PySem.F.type_list_extend mt_extend (pv 8) (pa_cons (pv 11) pa_nil)))
      (pss_one (ps_if (pt_cmp (pc_din (hu_of hr) (pe_tup (pa_cons (pv 3) (pa_cons (pv 9) pa_nil))) (pv 2))) (pss_one ps_break)
      pss_nil)))))))))
      (pss_one (ps_ret (pe_tup (pa_cons (pv 7) (pa_cons (pv 8) pa_nil)))))))))), ?_⟩
    have hP0 := hP
    have hH0 := hH
    have hS0 := hS
    obtain ⟨p, ls, zs, rfl, hp, ⟨la, xs, rfl, hl, pr⟩, _⟩ := hP
    obtain ⟨kvs, hh, hv⟩ := hH
    obtain ⟨kss, hs, hsv⟩ := hS
    have s0 := Same.refl H
    obtain ⟨x, hx, lb, ys, rfl, hlb, pr2⟩ := Paired.get2 pr hlp
    have hx2 : atI xs (l : Int) = some (.ref lb) := ati l rfl hx
    have hm := List.mem_of_getElem? hlp
    have hyl := Paired.length pr2
    have gl := hg.2 lp hm
    walk_at "go"
    rename_i A H1 f1 f2 s1 s1' hA B H2 b1 b2 s2 s2' hB
    have AB : A ≠ B := fun z => by rw [← z, hA] at b1; cases b1
    have hf13 : fuel lp a s ≤ 13 := by
      have := gl.2.1
      rcases wy with ⟨rfl, h1, h2, h3⟩ | ⟨rfl, h1, h2, h3⟩ <;> omega
    refine while_m (fun m σ H' => ∃ (at' : Int) (x y : Option V), σ = [some (.ref p), some (.ref hw), some (.ref sw), some (.int l), some (.int a), some (.int s), some (.int ys.length), some (.ref A), some (.ref B), some (.int at'), x, y] ∧ Same H H' ∧ Way lp s at' m ∧ ∃ L M, LR T3 H' A L ∧ LR T3 H' B M ∧ L ++ (comeGo h S l lp s m at').1 = (come h S l lp s a).1 ∧ M ++ (comeGo h S l lp s m at').2 = (come h S l lp s a).2 ∧ L.length + 4 * m ≤ 60 ∧ M.length + 4 * m ≤ 60)
      (fun σ H' => ∃ (z x y : Option V), σ = [some (.ref p), some (.ref hw), some (.ref sw), some (.int l), some (.int a), some (.int s), some (.int ys.length), some (.ref A), some (.ref B), z, x, y] ∧ Same H H' ∧ LR T3 H' A (come h S l lp s a).1 ∧ LR T3 H' B (come h S l lp s a).2 ∧ (come h S l lp s a).1.length ≤ 60 ∧ (come h S l lp s a).2.length ≤ 60) (fun σ H' hI => ?_) (fuel lp a s)
      ⟨a, _, _, rfl, s2', wy, [], [], ⟨[], s2.get hA, .nil⟩, ⟨[], hB, .nil⟩, rfl, rfl, by simp; omega, by simp; omega⟩ (fun N hN m σ H' hI => ?_)
    · obtain ⟨z, x, y, rfl, s3, hA3, hB3, l1, l2⟩ := hI
      walk_at "go"
      rename_i p5 H5 x5 y5 st5 s5 e5
      exact k p5 A B _ s5 f2 b2 e5 (hA3.same (T3.tsx st5.same.ts) st5.same) (hB3.same (T3.tsx st5.same.ts) st5.same) l1 l2
    · obtain ⟨at', x, y, rfl, s3, wy3, L, M, ⟨va, hA3, pa⟩, ⟨vb, hB3, pb⟩, hL, hM, l1, l2⟩ := hI
      obtain ⟨n, rfl⟩ := wy3.pos
      have hga := Paired.length pa
      have hgb := Paired.length pb
      rw [comeGo] at hL hM
      have mdef : (if at' + s < at' then at' + s else at') = mn at' s := rfl
      walk_at "go"
      rename_i p5 H5 x5 y5 st5 s5 e5
      rw [mdef] at e5
      refine ⟨_, DGet.t (k := ky3 ((l : Int), mn at' s, 0)) (s5.get hh) e5, ?_⟩
      rw [hv]
      have hA5 := st5.get hA3
      have hB5 := st5.get hB3
      have pa5 := Paired.mapP pa (T3.tsx st5.same.ts)
      have pb5 := Paired.mapP pb (T3.tsx st5.same.ts)
      by_cases hc : h ((l : Int), mn at' s, 0) = "cut"
      · have hc2 : V.str (h ((l : Int), mn at' s, 0)) = V.str "cut" := by rw [hc]
        rw [if_pos hc, List.append_nil] at hL hM
        walk_at "go"
        refine hN _ _ ⟨_, _, _, rfl, s5, ?_, ?_, ?_, ?_⟩
        · rw [← hL]; exact ⟨va, hA5, pa5⟩
        · rw [← hM]; exact ⟨vb, hB5, pb5⟩
        · rw [← hL]; omega
        · rw [← hM]; omega
      · have hc2 : ¬ V.str (h ((l : Int), mn at' s, 0)) = V.str "cut" := fun z => hc (V.str.inj z)
        rw [if_neg hc] at hL hM
        have va5 : va.length ≤ 100 := by omega
        walk_at "go"
        refine ⟨_, fun _ _ z => z, ?_⟩
        walk_at "go"
        rename_i p6 H6 x6 y6 st6 s6 e6
        rw [mdef] at e6
        have hA6 := st6.get hA5
        have hB6 : upd H6 A (.lst (va ++ [.ref p6])) B = some (.lst vb) := by rw [upd_ne AB.symm]; exact st6.get hB5
        have s7 : Same H (upd H6 A (.lst (va ++ [.ref p6]))) := s6.mut f2
        have tA6 : Tk H6 (upd H6 A (.lst (va ++ [.ref p6]))) := Tk.upd hA6 nt_l
        have pa7 : Paired (T3 (upd H6 A (.lst (va ++ [.ref p6])))) (va ++ [.ref p6]) (L ++ [((l : Int), mn at' s, 0)]) := Paired.app (Paired.mapP pa5 (T3.tsx (st6.same.ts.trans tA6))) (Paired.one ⟨p6, rfl, tA6 _ _ e6⟩)
        have pb7 := Paired.mapP pb5 (T3.tsx (st6.same.ts.trans tA6))
        have hA7 : upd H6 A (.lst (va ++ [.ref p6])) A = some (.lst (va ++ [.ref p6])) := upd_same
        generalize upd H6 A (.lst (va ++ [.ref p6])) = H7 at *
        have hgo : ∀ (z : List Sp3 × List Sp3), (at' + s < 1 ∨ (lp.length : Int) < at' + s) → (if at' + s < 1 ∨ (lp.length : Int) < at' + s then ([((l : Int), mn at' s, 0)], []) else z) = ([((l : Int), mn at' s, 0)], []) := fun z hz => if_pos hz
        by_cases ho : at' + s < 1 ∨ (lp.length : Int) < at' + s
        · rw [if_pos ho] at hL hM
          rw [List.append_nil] at hM
          have fin : N [some (.ref p), some (.ref hw), some (.ref sw), some (.int l), some (.int a), some (.int s), some (.int ys.length), some (.ref A), some (.ref B), some (.int (at' + s)), x, y] H7 := by
            refine hN _ _ ⟨_, _, _, rfl, s7, ?_, ?_, ?_, ?_⟩
            · rw [← hL]; exact ⟨_, hA7, pa7⟩
            · rw [← hM]; exact ⟨vb, hB6, pb7⟩
            · rw [← hL, List.length_append, List.length_singleton]; omega
            · rw [← hM]; omega
          by_cases h1 : at' + s < 1
          · walk_at "go"
            exact fin
          · have h2 : (ys.length : Int) < at' + s := by
              rcases ho with ho | ho
              · exact absurd ho h1
              · omega
            walk_at "go"
            exact fin
        · rw [if_neg ho] at hL hM
          have h1 : ¬ (at' + s < 1) := fun z => ho (.inl z)
          have h2 : ¬ ((ys.length : Int) < at' + s) := fun z => ho (.inr (by omega))
          have wy4 := wy3.next ho
          walk_at "go"
          refine ⟨.ref p, P, hw, h, l, lp, at' + s, rfl, PlanR.ts s7.ts _ _ hP0, hg, hH0.same s7, hlp, by omega, by omega, fun p8 A8 B8 H8 s8 n8 m8 e8 ⟨wa, hA8, pA8⟩ ⟨wb, hB8, pB8⟩ => ?_⟩
          have s9 := s7.trans s8
          have q1 := Paired.length pA8
          have q2 := Paired.length pB8
          have q3 := spurGo_len h l (at' + s) (spurN lp (at' + s)) 1
          have q4 := spurN_le hg hm (at' + s)
          rw [List.length_cons] at q2
          have hA9 := s8.get hA7
          have hB9 := s8.get hB6
          have q5 : (va ++ [V.ref p6]).length + wa.length ≤ 1000 := by rw [List.length_append, List.length_singleton]; omega
          have q6 : vb.length + wb.length ≤ 1000 := by omega
          have nA : A ≠ A8 := fun z => by rw [z] at hA7; rw [n8] at hA7; cases hA7
          have nB : A ≠ B8 := fun z => by rw [z] at hA7; rw [m8] at hA7; cases hA7
          have nC : B ≠ B8 := fun z => by rw [z] at hB6; rw [m8] at hB6; cases hB6
          walk_at "go"
          have hBB : upd H8 A (.lst (va ++ [.ref p6] ++ wa)) B = some (.lst vb) := by rw [upd_ne AB.symm]; exact hB9
          have hB8' : upd H8 A (.lst (va ++ [.ref p6] ++ wa)) B8 = some (.lst wb) := by rw [upd_ne nB.symm]; exact hB8
          walk_at "go"
          have s10 : Same H (upd (upd H8 A (.lst (va ++ [.ref p6] ++ wa))) B (.lst (vb ++ wb))) := (s9.mut f2).mut b2
          have t10 : Tk H8 (upd (upd H8 A (.lst (va ++ [.ref p6] ++ wa))) B (.lst (vb ++ wb))) := (Tk.upd hA9 nt_l).trans (Tk.upd hBB nt_l)
          have hA10 : upd (upd H8 A (.lst (va ++ [.ref p6] ++ wa))) B (.lst (vb ++ wb)) A = some (.lst (va ++ [.ref p6] ++ wa)) := by rw [upd_ne AB]; exact upd_same
          have hB10 : upd (upd H8 A (.lst (va ++ [.ref p6] ++ wa))) B (.lst (vb ++ wb)) B = some (.lst (vb ++ wb)) := upd_same
          have pa10 := Paired.app (Paired.mapP pa7 (T3.tsx (s8.ts.trans t10))) (Paired.mapP pA8 (T3.tsx t10))
          have pb10 := Paired.app (Paired.mapP pb7 (T3.tsx (s8.ts.trans t10))) (Paired.mapP pB8 (T3.tsx t10))
          generalize upd (upd H8 A (.lst (va ++ [.ref p6] ++ wa))) B (.lst (vb ++ wb)) = H10 at *
          walk_at "go"
          rename_i p11 H11 y11 s11 e11 x11 st11
          refine ⟨_, _, rfl, DGet.t (k := ky2 ((l : Int), at' + s)) (s11.get hs) e11, ?_⟩
          have hA11 := st11.get hA10
          have hB11 := st11.get hB10
          have pa11 := Paired.mapP pa10 (T3.tsx st11.same.ts)
          have pb11 := Paired.mapP pb10 (T3.tsx st11.same.ts)
          rw [hsv]
          by_cases hst : S ((l : Int), at' + s) = true
          · rw [if_pos hst, List.append_nil] at hL hM
            walk_at "go"
            refine hN _ _ ⟨_, _, _, rfl, s11, ?_, ?_, ?_, ?_⟩
            · rw [← hL, show L ++ ((l : Int), mn at' s, 0) :: spurGo h l (at' + s) (spurN lp (at' + s)) 1 = (L ++ [((l : Int), mn at' s, 0)]) ++ spurGo h l (at' + s) (spurN lp (at' + s)) 1 by simp]; exact ⟨_, hA11, pa11⟩
            · rw [← hM]; exact ⟨_, hB11, pb11⟩
            · rw [← hL, List.length_append, List.length_cons]; omega
            · rw [← hM, List.length_append, List.length_cons]; omega
          · rw [if_neg hst] at hL hM
            have hst2 : S ((l : Int), at' + s) = false := by simpa using hst
            walk_at "go"
            refine ⟨n, Nat.lt_succ_self _, at' + s, _, _, rfl, s11, wy4, _, _, ⟨_, hA11, pa11⟩, ⟨_, hB11, pb11⟩, ?_, ?_, ?_, ?_⟩
            · rw [← hL]; simp
            · rw [← hM]; simp
            · rw [List.length_append, List.length_append, List.length_singleton]; omega
            · rw [List.length_append, List.length_cons]; omega
end
end Wl

namespace Wl
open PySem L2
/-! ### the step tactics -/
local macro_rules | `(tactic| walk_at "lk") => `(tactic| first
  | assumption
  | exact upd_same
  | (refine (?_ : ∀ H, SqT _ H _ _) _; assumption)
  | (apply Step.get; (focus assumption); walk_at "lk")
  | (apply upd_tupL; (focus walk_at "lk"); walk_at "lk")
  | (apply upd_tupT; (focus walk_at "lk"); walk_at "lk")
  | (apply upd_tupK; (focus walk_at "lk"); walk_at "lk")
  | (apply L2.Same.get; (focus assumption); assumption)
  | (apply L2.Same.get; rotate_left; (focus assumption); assumption)
  | (apply SqT.of; walk_at "lk")
  | (apply SqL.of; walk_at "lk"))
local macro_rules | `(tactic| walk_at "sm") => `(tactic| first
  | assumption
  | (apply L2.Same.mut; (focus walk_at "sm"); (focus assumption)))
local macro_rules | `(tactic| walk_at "cond") => `(tactic| first
  | rfl
  | assumption
  | (exact dt (by first | rfl | assumption | omega | (simp; done) | (simp; omega)))
  | (exact df (by first | assumption | omega | (simp; done) | (simp; omega)))
  | (exact ndt (by first | rfl | assumption | omega | (simp; done) | (simp; omega)))
  | (exact ndf (by first | assumption | omega | (simp; done) | (simp; omega)))
  | (simp; done))
local macro_rules | `(tactic| walk_at "cond1") => `(tactic| first
  | assumption
  | with_reducible rfl
  | with_reducible exact n_t
  | with_reducible exact n_f
  | with_reducible exact dt (by assumption)
  | with_reducible exact df (by assumption)
  | with_reducible exact ndt (by assumption)
  | with_reducible exact ndf (by assumption))
local macro_rules | `(tactic| walk_at "g1") => `(tactic| first
  | with_reducible refine i_seq ?_
  | with_reducible refine i_asg ?_
  | with_reducible refine i_name ?_
  | with_reducible refine i_ret ?_
  | with_reducible refine i_drop ?_
  | with_reducible refine i_if ?_
  | with_reducible refine i_next ?_
  | with_reducible refine i_break ?_
  | with_reducible refine i_c ?_
  | ((with_reducible apply i_var); (focus (rfl)))
  | with_reducible refine i_op ?_
  | with_reducible refine i_cons ?_
  | with_reducible refine i_nil ?_
  | with_reducible refine i_cb ?_
  | with_reducible refine i_call ?_
  | ((with_reducible apply i_ixT); (focus (walk_at "lk")); (focus (first | rfl | assumption)))
  | ((with_reducible apply i_ixL); (focus (walk_at "lk")); (focus (first | rfl | assumption)))
  | with_reducible refine i_I0 ?_
  | ((with_reducible apply i_eq); (focus (rfl)))
  | ((with_reducible apply i_ne); (focus (rfl)))
  | with_reducible refine i_un ?_
  | with_reducible refine i_neg ?_
  | with_reducible refine i_andV ?_
  | with_reducible refine i_orV ?_
  | with_reducible refine i_notV ?_
  | with_reducible refine i_chain ?_
  | with_reducible refine i_test ?_
  | with_reducible refine i_B ?_
  | with_reducible refine i_k ?_
  | with_reducible refine i_and ?_
  | with_reducible refine i_or ?_
  | with_reducible refine i_not ?_
  | with_reducible refine i_yes ?_
  | (with_reducible refine i_isiI kit_ii ?_)
  | (with_reducible refine i_isiI kit_ib ?_)
  | (with_reducible refine i_isiS kit_ss ?_)
  | ((with_reducible apply i_isiT); (focus (walk_at "lk")); (focus (exact kit_tt)))
  | ((with_reducible apply i_len); (focus (first | (apply Or.inr; walk_at "lk") | (apply Or.inl; walk_at "lk"))))
  | ((with_reducible apply i_lens); (focus (walk_at "sz")))
  | (with_reducible refine i_sign ?_)
  | ((with_reducible apply i_inT); (focus (walk_at "lk")); (focus (rfl)); (focus (rfl)))
  | ((with_reducible apply i_inL); (focus (walk_at "lk")); (focus (rfl)); (focus (rfl)))
  | ((with_reducible apply i_ninL); (focus (walk_at "lk")); (focus (rfl)); (focus (rfl)))
  | ((with_reducible apply i_all); (focus (walk_at "lk")))
  | ((with_reducible apply i_any); (focus (walk_at "lk")))
  | ((with_reducible apply ift); (focus (walk_at "cond1")))
  | ((with_reducible apply iff_); (focus (walk_at "cond1")))
  | ((with_reducible apply ift); (focus (rfl)))
  | ((with_reducible apply iff_); (focus (rfl)))
  | ((with_reducible apply ift); (focus (walk_at "cond")))
  | ((with_reducible apply iff_); (focus (walk_at "cond")))
  | with_reducible refine i_tup ?_
  | (with_reducible refine i_new2 (by walk_at "sm") ?_; intro _ _ _ _ _ _ _)
  | with_reducible refine i_dnK ?_
  | with_reducible refine i_dnT ?_
  | with_reducible refine i_lc ?_
  | with_reducible refine i_for ?_
  | with_reducible refine i_iTup ?_
  | with_reducible refine i_iList ?_
  | ((with_reducible apply i_tupW); (focus (walk_at "lk")))
  | ((with_reducible apply i_listW); (focus (walk_at "lk")))
  | with_reducible refine i_iRng1 ?_
  | ((with_reducible apply i_rng1); (focus (walk_at "bnd")))
  | with_reducible refine i_iRng2 ?_
  | ((with_reducible apply i_rng2); (focus (walk_at "bnd")))
  | with_reducible refine i_iStr ?_
  | with_reducible refine i_iEnT ?_
  | with_reducible refine i_iEnum ?_
  | ((with_reducible apply i_enTW); (focus (walk_at "lk")))
  | ((with_reducible apply i_enLW); (focus (walk_at "lk")))
  | with_reducible refine i_strW ?_
  | with_reducible refine i_lst ?_
  | with_reducible refine i_bm ?_
  | with_reducible refine i_fld ?_
  | with_reducible refine i_dget2 ?_
  | with_reducible refine i_dget ?_
  | with_reducible refine i_din ?_
  | with_reducible refine i_dnotin ?_
  | with_reducible refine i_dputT ?_
  | with_reducible refine i_isN ?_
  | with_reducible refine i_notN ?_
  | ((with_reducible apply i_gtup); (focus (walk_at "lk")); (focus (rfl)))
  | with_reducible refine i_gcons ?_
  | with_reducible refine i_gnil ?_
  | with_reducible refine i_sl ?_
  | with_reducible refine i_nopart ?_
  | with_reducible refine i_part ?_
  | ((with_reducible apply i_app); (focus (walk_at "lk")); (focus (walk_at "sz")))
  | with_reducible refine i_2i ?_
  | with_reducible refine i_par ?_
  | with_reducible refine i_m1 ?_
  | with_reducible refine i_ex1 ?_
  | with_reducible refine i_isS ?_
  | ((with_reducible apply i_slS); (focus (walk_at "sz")))
  | with_reducible refine i_add_str ?_
  | with_reducible refine i_abs ?_
  | with_reducible refine i_gsub ?_
  | ((with_reducible apply i_setL); (focus (walk_at "lk")); (focus (rfl)))
  | ((with_reducible apply i_I); (focus (walk_at "arith")))
  | ((with_reducible apply i_fldw); (focus (walk_at "lk")); (focus assumption); (focus assumption); (focus (first | exact lk_plan | exact lk_hows | exact lk_stops | exact lk_dev)))
  | with_reducible refine i_meth ?_
  | ((with_reducible apply i_methW); (focus (walk_at "lk")); (focus (first | exact nm_need | exact nm_change | exact nm_parted | exact nm_act | exact nm_cut | exact nm_short | exact nm_mend | exact nm_rests | exact nm_come | exact nm_heard)))
  | ((with_reducible apply i_isD); (focus (walk_at "lk")))
  | ((with_reducible apply i_ext); (focus (walk_at "lk")); (focus (walk_at "lk")); (focus (walk_at "sz")))
  | ((with_reducible apply And.intro); (focus (first | (show wipe _ _ = wipe _ _; rfl) | (walk_at "sz")))))
local macro_rules | `(tactic| walk_at "arith") => `(tactic| first
  | assumption
  | (refine Or.inl ?_; (constructor <;> omega))
  | (refine Or.inr ?_; (constructor <;> omega))
  | (show (0 : Int) < _; omega)
  | (show 0 < _ ∧ _ < _; (constructor <;> omega))
  | (show CPow 10 18; exact ⟨by decide, by decide, by decide⟩))
local macro_rules | `(tactic| walk_at "bnd") => `(tactic| first
  | omega
  | (refine ⟨?_, ?_⟩ <;> omega))
local macro_rules | `(tactic| walk_at "sz") => `(tactic| first
  | (apply ty_l; walk_at "lk")
  | (apply ty_d; walk_at "lk")
  | (exact szle (by omega))
  | (exact szl (by omega))
  | (exact szle (by simp only [List.length_append, List.length_cons, List.length_nil, List.length_map]; omega))
  | (exact szl (by simp only [List.length_append, List.length_cons, List.length_nil, List.length_map]; omega))
  | (exact Nat.le_of_ble_eq_true rfl))
local macro_rules | `(tactic| walk_at "go") => `(tactic| repeat (first | walk_at "g1" | dsimp only))
/-! ### feels -/
def stepsOf (lp : List Place) (a : Int) : List Int := if a = 0 then [1] else if (lp.length : Int) < a then [-1] else [-1, 1]
def shortB (h : Sp3 → Str) (ps : List Sp3) : Bool := ps.any fun q => decide (h q = "short")
def feelsB (h : Sp3 → Str) (S : Int × Int → Bool) (l : Int) (lp : List Place) (a : Int) : Bool := (stepsOf lp a).any fun s => shortB h (come h S l lp s a).1
theorem steps_way {lp : List Place} {a s : Int} (h0 : 0 ≤ a) (h1 : a ≤ lp.length + 1) (h : s ∈ stepsOf lp a) : Way lp s a (fuel lp a s) := by
  rw [stepsOf] at h
  split at h
  · obtain rfl : s = 1 := by simpa using h
    rename_i e
    have hf : fuel lp a 1 = ((lp.length : Int) + 1 - a).toNat := by rw [fuel, if_pos rfl]
    exact .inl ⟨rfl, by omega, by omega, by omega⟩
  · split at h
    · obtain rfl : s = -1 := by simpa using h
      have hf : fuel lp a (-1) = a.toNat := by rw [fuel, if_neg (by decide)]
      exact .inr ⟨rfl, by omega, by omega, by omega⟩
    · have h2 : s = -1 ∨ s = 1 := by simpa using h
      rcases h2 with rfl | rfl
      · have hf : fuel lp a (-1) = a.toNat := by rw [fuel, if_neg (by decide)]
        exact .inr ⟨rfl, by omega, by omega, by omega⟩
      · have hf : fuel lp a 1 = ((lp.length : Int) + 1 - a).toNat := by rw [fuel, if_pos rfl]
        exact .inl ⟨rfl, by omega, by omega, by omega⟩
section
variable {P : Program} {w : World} {K : PySem.W.Frag} {mg : Str → Option Value} {f : Nat → Addr} {fd : Nat → FuncData} {C aK aT : Addr} {base : Heap}
theorem lr_bools {K : PySem.W.Frag} {H : Hp} {p : Addr} {bs : List Bool} (h : LR BR H p bs) : SqL K H p (bs.map V.bl) := BR.sq h
def sp_steps_of : Sp := fun vs H Q _ => ∃ (v op : V) (P : Plan) (l : Nat) (lp : List Place) (a : Int), vs = [v, op] ∧ PlanR H v P ∧ T2 H op ((l : Int), a) ∧ P.loops[l]? = some lp ∧
  ∀ p H', H p = none → Same H H' → LR IR H' p (stepsOf lp a) → Q (.ref p) H'
theorem ok_steps_of (T : Txt K mg f fd C aK aT) : FnOk P w K mg base CX0 1 (f 22) (fd 22) ["plan", "opener"] sp_steps_of := by
  refine T.F_steps_of.ok sc_steps_of (fun vs H Q E h => ?_) (fun cdv A outer s H vs Q E hr h => ?_)
  · obtain ⟨v, op, P, l, lp, a, rfl, _⟩ := h; rfl
  · obtain ⟨v, op, P, l, lp, a, rfl, ⟨p, ls, zs, rfl, hp, ⟨la, xs, rfl, hl, pr⟩, _⟩, ⟨o, rfl, ho⟩, hlp, k⟩ := h
    refine ⟨_, (pss_cons (ps_asg (pv 1) (pg_tupK (K := K) (n := 2) rfl rfl (pgs_cons (pg_name (i := 2) sc_steps_of.nd rfl (Or.inl rfl)) (pgs_cons (pg_name (i := 3) sc_steps_of.nd rfl (Or.inl rfl)) pgs_nil))))
      (pss_cons (ps_if (pt_cmpR op_eq (pv 3) pe_int (nomark _)) (pss_one (ps_ret (pe_lst (pa_cons pe_int pa_nil))))
      pss_nil)
      (pss_cons (ps_if (pt_cmpR op_gt (pv 3) (pe_callB (call_lenK (K := K) rfl) (by rfl) T.n_len PySem.boot_len (pa_cons (pe_ix (ix_tupK (K := K) rfl) (pe_ix (ix_tupK (K := K) rfl) (pv 0) pe_int (fun _ _ => rfl)) (pv 2) (fun _ _ => rfl)) pa_nil)) (nomark _)) (pss_one (ps_ret (pe_lst (pa_cons (pe_un un_neg pe_int) pa_nil))))
      pss_nil)
      (pss_one (ps_ret (pe_lst (pa_cons (pe_un un_neg pe_int) (pa_cons pe_int pa_nil)))))))), ?_⟩
    have s0 := Same.refl H
    obtain ⟨x, hx, lb, ys, rfl, hlb, pr2⟩ := Paired.get2 pr hlp
    have hx2 : atI xs (l : Int) = some (.ref lb) := ati l rfl hx
    have hyl := Paired.length pr2
    by_cases h1 : a = 0
    · have h2 : V.int a = V.int 0 := by rw [h1]
      walk_at "go"
      rename_i p5 H5 x5 y5 st5 s5 e5
      exact k p5 _ y5 s5 ⟨_, e5, by rw [stepsOf, if_pos h1]; exact Paired.one rfl⟩
    · have h2 : ¬ V.int a = V.int 0 := fun e => h1 (V.int.inj e)
      by_cases h3 : (ys.length : Int) < a
      · walk_at "go"
        rename_i p5 H5 x5 y5 st5 s5 e5
        exact k p5 _ y5 s5 ⟨_, e5, by rw [stepsOf, if_neg h1, if_pos (by omega)]; exact Paired.one rfl⟩
      · walk_at "go"
        rename_i p5 H5 x5 y5 st5 s5 e5
        exact k p5 _ y5 s5 ⟨_, e5, by rw [stepsOf, if_neg h1, if_neg (by omega)]; exact .cons rfl (.cons rfl .nil)⟩
def sp_feels : Sp := fun vs H Q _ => ∃ (v op : V) (P : Plan) (hw sw : Addr) (h : Sp3 → Str) (S : Int × Int → Bool) (l : Nat) (lp : List Place) (a : Int), vs = [v, .ref hw, .ref sw, op] ∧ PlanR H v P ∧ GoodLs P ∧ HowsAt H hw h ∧ StopsAt H sw S ∧ T2 H op ((l : Int), a) ∧ P.loops[l]? = some lp ∧ 0 ≤ a ∧ a ≤ lp.length + 1 ∧
  ∀ H', Same H H' → Q (.bl (feelsB h S l lp a)) H'
theorem ok_feels (T : Txt K mg f fd C aK aT) : FnOk P w K mg base CX0 3 (f 23) (fd 23) ["plan", "hows", "stops", "opener"] sp_feels := by
  refine T.F_feels.ok sc_feels (fun vs H Q E h => ?_) (fun cdv A outer s H vs Q E hr h => ?_)
  · obtain ⟨v, op, P, hw, sw, h, S, l, lp, a, rfl, _⟩ := h; rfl
  · obtain ⟨v, op, P, hw, sw, h, S, l, lp, a, rfl, hP, hg, hH, hS, ⟨o, rfl, ho⟩, hlp, a0, a1, k⟩ := h
    refine ⟨_, (pss_cons (ps_for PassesOwn.never rfl (pi_listK (K := K) rfl (pe_call (ok_steps_of T) (hr.mono (by decide)) (by rfl) T.m_steps_of T.F_steps_of.kp T.b_steps_of .nil pass0 (pa_cons (pv 0) (pa_cons (pv 3) pa_nil)))) (pg_name (i := 4) sc_feels.nd rfl (Or.inl rfl)) (pss_cons (ps_asg (pe_call (ok_come_to T) (hr.mono (by decide)) (by rfl) T.m_come_to T.F_come_to.kp T.b_come_to .nil pass0 (pa_cons (pv 0) (pa_cons (pv 1) (pa_cons (pv 2) (pa_cons (pe_ix (ix_tupK (K := K) rfl) (pv 3) pe_int (fun _ _ => rfl)) (pa_cons (pe_ix (ix_tupK (K := K) rfl) (pv 3) pe_int (fun _ _ => rfl)) (pa_cons (pv 4) pa_nil))))))) (pg_tupK (K := K) (n := 2) rfl rfl (pgs_cons (pg_name (i := 5) sc_feels.nd rfl (Or.inl rfl)) (pgs_cons (pg_name (i := 6) sc_feels.nd rfl (Or.inl rfl)) pgs_nil))))
      (pss_one (ps_if (pt_val (pe_callB (cr_anyK (K := K) rfl rfl) (by rfl) T.n_any (by decide +kernel) (pa_cons (pe_lc (own := [("stretch", 7)]) rfl sc_feels.nd  (pi_listK (K := K) rfl (pv 5)) (blkOk_by (N := ["plan", "hows", "stops", "opener", "step", "passed", "spots", "stretch"]) (sc := defScope s_feels) (by decide +kernel)) (fun _ _ _ _ _ => (pg_name (i := 7) sc_feels.nd rfl (Or.inl rfl))) (fun _ _ _ _ _ => pts_nil) (fun _ _ _ _ _ => (pe_cmpR op_eq (pe_dget2 (hu_of hr) (pv 1) (pv 7) pe_str ⟨rfl, rfl, rfl, rfl⟩) pe_str (nomark _)))) pa_nil))) (pss_one (ps_ret pe_bl))
      pss_nil))))
      (pss_one (ps_ret pe_bl))), ?_⟩
    have s0 := Same.refl H
    walk_at "go"
    refine ⟨v, .ref o, P, l, lp, a, rfl, hP, ⟨o, rfl, ho⟩, hlp, fun L H1 l1 s1 ⟨xs, hL, pr⟩ => ?_⟩
    walk_at "go"
    refine forg_list (K := K) (R := fun v (i : Int) => v = .int i) pr (fun pre σ H' => (∃ x y z t, σ = [some v, some (.ref hw), some (.ref sw), some (.ref o), x, y, z, t]) ∧ Same H H' ∧ Same H1 H' ∧ (pre.any fun s => shortB h (come h S l lp s a).1) = false) ⟨⟨_, _, _, _, rfl⟩, s1, Same.refl _, rfl⟩ (fun pre σ H' q => q.2.2.1 _ _ hL) (fun pre s post x σ H2 e hI r => ?_) (fun σ H' hI => ?_)
    · obtain ⟨⟨_, _, _, _, rfl⟩, s2, s2', hno⟩ := hI
      subst r
      have ho2 := s2.get ho
      walk_at "go"
      refine ⟨v, P, hw, sw, h, S, l, lp, a, s, rfl, hP.ts s2.ts, hg, hH.same s2, hS.same s2, hlp, steps_way a0 a1 (sub_pre e), fun p3 A B H3 s3 n3 m3 e3 ⟨va, hA, pa⟩ hB b1 b2 => ?_⟩
      have s4 := s2.trans s3
      obtain ⟨kvs, hh, hv⟩ := hH.same s4
      walk_at "go"
      refine lcg_list (K := K) pa hA s4 (by omega) (fun q => some (decide (h q = "short"))) BR (fun _ _ _ h => h) (fun pre2 d post2 x2 H5 e2 s5 s5' r2 Ky Kn ky kn => ?_) (fun D H5 d1 d2 s5 s5' l5 => ?_)
      · obtain ⟨d5, rfl, hd5⟩ := r2
        have hd6 := s5.get hd5
        have hh5 := s5.get hh
        walk_at "go"
        refine ⟨_, DGet.t (k := ky3 d) hh5 hd6, ?_⟩
        rw [hv]
        walk_at "go"
        refine ky _ _ _ rfl (Same.refl _) ?_
        show V.bl _ = V.bl _
        congr 1
        simp
      · rw [fm_some] at l5
        have hk : SqL K H5 D _ := BR.sq l5
        have hany : ((come h S l lp s a).1.map fun q => decide (h q = "short")).any id = shortB h (come h S l lp s a).1 := by rw [List.any_map]; rfl
        walk_at "go"
        rw [hany]
        refine if2 (fun hb => ?_) (fun hb => ?_)
        · walk_at "go"
          have hf : feelsB h S l lp a = true := List.any_eq_true.mpr ⟨s, sub_pre e, hb⟩
          rw [← hf]
          exact k _ s5'
        · walk_at "go"
          refine ⟨⟨_, _, _, _, rfl⟩, s5', s2'.trans (s3.trans s5), ?_⟩
          rw [List.any_append, hno]
          simp [hb]
    · obtain ⟨⟨_, _, _, _, rfl⟩, s2, s2', hno⟩ := hI
      walk_at "go"
      have hf : feelsB h S l lp a = false := hno
      rw [← hf]
      exact k _ s2
/-- where openers stand -/
theorem openers_mem {P : Plan} {q : Int × Int} (h : q ∈ openers P) : ∃ (l : Nat) (lp : List Place), q.1 = (l : Int) ∧ P.loops[l]? = some lp ∧ 0 ≤ q.2 ∧ q.2 ≤ lp.length + 1 := by
  rw [openers, enumF_mem] at h
  obtain ⟨l, lp, hl, hm⟩ := h
  rw [Nat.zero_add] at hm
  refine ⟨l, lp, ?_⟩
  rcases List.mem_cons.mp hm with rfl | hm
  · exact ⟨rfl, hl, Int.le_refl _, by omega⟩
  · rcases List.mem_append.mp hm with hm | hm
    · rw [enumF_mem] at hm
      obtain ⟨a, pl, ha, hp⟩ := hm
      have hlt := (List.getElem?_eq_some_iff.mp ha).1
      rw [opnPl] at hp
      split at hp
      · obtain rfl := List.mem_singleton.mp hp
        exact ⟨rfl, hl, by show 0 ≤ ((0 + a : Nat) : Int) + 1; omega, by show ((0 + a : Nat) : Int) + 1 ≤ _; omega⟩
      · cases hp
    · obtain rfl := List.mem_singleton.mp hm
      exact ⟨rfl, hl, by show 0 ≤ (lp.length : Int) + 1; omega, Int.le_refl _⟩
def loopAt (P : Plan) (l : Int) : List Place := (P.loops[l.toNat]?).getD []
def feelsQ (P : Plan) (h : Sp3 → Str) (S : Int × Int → Bool) (q : Int × Int) : Bool := feelsB h S q.1 (loopAt P q.1) q.2
theorem loopAt_eq {P : Plan} {l : Nat} {lp : List Place} (h : P.loops[l]? = some lp) : loopAt P (l : Int) = lp := by
  rw [loopAt, Int.toNat_natCast, h]; rfl
def sp_all_rest : Sp := fun vs H Q _ => ∃ (v : V) (P : Plan) (hw sw : Addr) (h : Sp3 → Str) (S : Int × Int → Bool), vs = [v, .ref hw, .ref sw] ∧ PlanR H v P ∧ GoodLs P ∧ HowsAt H hw h ∧ StopsAt H sw S ∧ (∀ q ∈ openers P, feelsQ P h S q = S q) ∧
  ∀ H', Same H H' → Q (.bl true) H'
theorem ok_all_rest (T : Txt K mg f fd C aK aT) : FnOk P w K mg base CX0 4 (f 24) (fd 24) ["plan", "hows", "stops"] sp_all_rest := by
  refine T.F_all_rest.ok sc_all_rest (fun vs H Q E h => ?_) (fun cdv A outer s H vs Q E hr h => ?_)
  · obtain ⟨v, P, hw, sw, h, S, rfl, _⟩ := h; rfl
  · obtain ⟨v, P, hw, sw, h, S, rfl, hP, hg, hH, hS, hq, k⟩ := h
    refine ⟨_, (pss_one (ps_ret (pe_callB (cr_allK (K := K) rfl rfl) (by rfl) T.n_all (by decide +kernel) (pa_cons (pe_lc (own := [("opener", 3)]) rfl sc_all_rest.nd  (pi_listK (K := K) rfl (pe_call (ok_openers T) (hr.mono (by decide)) (by rfl) T.m_openers T.F_openers.kp T.b_openers .nil pass0 (pa_cons (pv 0) pa_nil))) (blkOk_by (N := ["plan", "hows", "stops", "opener"]) (sc := defScope s_all_rest) (by decide +kernel)) (fun _ _ _ _ _ => (pg_name (i := 3) sc_all_rest.nd rfl (Or.inl rfl))) (fun _ _ _ _ _ => pts_nil) (fun _ _ _ _ _ => (pe_cmpR op_eq (pe_call (ok_feels T) (hr.mono (by decide)) (by rfl) T.m_feels T.F_feels.kp T.b_feels .nil pass0 (pa_cons (pv 0) (pa_cons (pv 1) (pa_cons (pv 2) (pa_cons (pv 3) pa_nil))))) (pe_cmp (pc_din (hu_of hr) (pv 3) (pv 2))) (nomark _)))) pa_nil)))), ?_⟩
    have s0 := Same.refl H
    walk_at "go"
    refine ⟨v, P, rfl, hP, hg, fun L H1 l1 s1 ⟨xs, hL, pr⟩ => ?_⟩
    walk_at "go"
    have hol := openers_le hg
    refine lcg_list (K := K) pr hL s1 (by omega) (fun q => some true) BR (fun _ _ _ h => h) (fun pre2 d post2 x2 H5 e2 s5 s5' r2 Ky Kn ky kn => ?_) (fun D H5 d1 d2 s5 s5' l5 => ?_)
    · obtain ⟨d5, rfl, hd5⟩ := r2
      have hd6 := s5.get hd5
      obtain ⟨l, lp, e1, hlp, a0, a1⟩ := openers_mem (sub_pre e2)
      walk_at "go"
      refine ⟨v, .ref d5, P, hw, sw, h, S, l, lp, d.2, rfl, hP.ts s5'.ts, hg, hH.same s5', hS.same s5', ⟨d5, rfl, by rw [← e1]; exact hd6⟩, hlp, a0, a1, fun H6 s6 => ?_⟩
      obtain ⟨kss, hs, hsv⟩ := hS.same (s5'.trans s6)
      walk_at "go"
      refine ⟨sw, _, rfl, DGet.t (k := ky2 d) hs (s6.get hd6), ?_⟩
      rw [hsv]
      have hqq := hq d (sub_pre e2)
      rw [feelsQ, e1, loopAt_eq hlp] at hqq
      rw [hqq]
      walk_at "go"
      refine ky _ _ _ rfl s6 ?_
      show V.bl _ = V.bl _
      congr 1
      simp
    · rw [fm_some] at l5
      have hk : SqL K H5 D _ := BR.sq l5
      walk_at "go"
      exact bl_t (all_true _) (k _ s5')
def heardB (h : Sp3 → Str) (S : Int × Int → Bool) (l : Int) (lp : List Place) (e : Str) : List Sp3 :=
  if S (l, if e = "B" then (lp.length : Int) + 1 else 0) = true then [] else if shortB h (come h S l lp (if e = "B" then -1 else 1) (if e = "B" then (lp.length : Int) + 1 else 0)).1 = true then [] else (come h S l lp (if e = "B" then -1 else 1) (if e = "B" then (lp.length : Int) + 1 else 0)).2
def sp_heard_by : Sp := fun vs H Q _ => ∃ (v : V) (P : Plan) (hw sw : Addr) (h : Sp3 → Str) (S : Int × Int → Bool) (l : Nat) (lp : List Place) (e : Str), vs = [v, .ref hw, .ref sw, .int l, .str e] ∧ PlanR H v P ∧ GoodLs P ∧ HowsAt H hw h ∧ StopsAt H sw S ∧ P.loops[l]? = some lp ∧
  ∀ p H', H p = none → Same H H' → LR T3 H' p (heardB h S l lp e) → (heardB h S l lp e).length ≤ 60 → Q (.ref p) H'
theorem ok_heard_by (T : Txt K mg f fd C aK aT) : FnOk P w K mg base CX0 3 (f 25) (fd 25) ["plan", "hows", "stops", "loop", "end"] sp_heard_by := by
  refine T.F_heard_by.ok sc_heard_by (fun vs H Q E h => ?_) (fun cdv A outer s H vs Q E hr h => ?_)
  · obtain ⟨v, P, hw, sw, h, S, l, lp, e, rfl, _⟩ := h; rfl
  · obtain ⟨v, P, hw, sw, h, S, l, lp, e, rfl, hP, hg, hH, hS, hlp, k⟩ := h
    refine ⟨_, (pss_cons (ps_set (i := 5) sc_heard_by.nd rfl (Or.inl rfl) pe_int)
      (pss_cons (ps_set (i := 6) sc_heard_by.nd rfl (Or.inl rfl) pe_int)
      (pss_cons (ps_if (pt_cmpR op_eq (pv 4) pe_str (nomark _)) (pss_cons (ps_set (i := 5) sc_heard_by.nd rfl (Or.inl rfl) (pe_op op_add (pe_callB (call_lenK (K := K) rfl) (by rfl) T.n_len PySem.boot_len (pa_cons (pe_ix (ix_tupK (K := K) rfl) (pe_ix (ix_tupK (K := K) rfl) (pv 0) pe_int (fun _ _ => rfl)) (pv 3) (fun _ _ => rfl)) pa_nil)) pe_int))
      (pss_one (ps_set (i := 6) sc_heard_by.nd rfl (Or.inl rfl) (pe_un un_neg pe_int))))
      pss_nil)
      (pss_cons (ps_if (pt_cmp (pc_din (hu_of hr) (pe_tup (pa_cons (pv 3) (pa_cons (pv 5) pa_nil))) (pv 2))) (pss_one (ps_ret (pe_lst pa_nil)))
      pss_nil)
      (pss_cons (ps_asg (pe_call (ok_come_to T) (hr.mono (by decide)) (by rfl) T.m_come_to T.F_come_to.kp T.b_come_to .nil pass0 (pa_cons (pv 0) (pa_cons (pv 1) (pa_cons (pv 2) (pa_cons (pv 3) (pa_cons (pv 5) (pa_cons (pv 6) pa_nil))))))) (pg_tupK (K := K) (n := 2) rfl rfl (pgs_cons (pg_name (i := 7) sc_heard_by.nd rfl (Or.inl rfl)) (pgs_cons (pg_name (i := 8) sc_heard_by.nd rfl (Or.inl rfl)) pgs_nil))))
      (pss_cons (ps_if (pt_val (pe_callB (cr_anyK (K := K) rfl rfl) (by rfl) T.n_any (by decide +kernel) (pa_cons (pe_lc (own := [("stretch", 9)]) rfl sc_heard_by.nd  (pi_listK (K := K) rfl (pv 7)) (blkOk_by (N := ["plan", "hows", "stops", "loop", "end", "place", "step", "passed", "spots", "stretch"]) (sc := defScope s_heard_by) (by decide +kernel)) (fun _ _ _ _ _ => (pg_name (i := 9) sc_heard_by.nd rfl (Or.inl rfl))) (fun _ _ _ _ _ => pts_nil) (fun _ _ _ _ _ => (pe_cmpR op_eq (pe_dget2 (hu_of hr) (pv 1) (pv 9) pe_str ⟨rfl, rfl, rfl, rfl⟩) pe_str (nomark _)))) pa_nil))) (pss_one (ps_ret (pe_lst pa_nil)))
      pss_nil)
      (pss_one (ps_ret (pv 8))))))))), ?_⟩
    have s0 := Same.refl H
    have hP0 := hP
    obtain ⟨p, ls, zs, rfl, hp, ⟨la, xs, rfl, hl, pr⟩, _⟩ := hP
    obtain ⟨x, hx, lb, ys, rfl, hlb, pr2⟩ := Paired.get2 pr hlp
    have hx2 : atI xs (l : Int) = some (.ref lb) := ati l rfl hx
    have hyl := Paired.length pr2
    walk_at "go"
    refine if_mid (fun σ' H' => ∃ x y z, σ' = [some (.ref p), some (.ref hw), some (.ref sw), some (.int l), some (.str e), some (.int (if e = "B" then (lp.length : Int) + 1 else 0)), some (.int (if e = "B" then -1 else 1)), x, y, z] ∧ H' = H) (fun σ' H' hM => ?_) (fun N hN => ?_)
    · obtain ⟨_, _, _, rfl, rfl⟩ := hM
      walk_at "go"
      rename_i p5 H5 x5 y5 st5 s5 e5
      obtain ⟨kss, hs, hsv⟩ := hS.same s5
      refine ⟨sw, _, rfl, DGet.t (k := ky2 ((l : Int), (if e = "B" then (lp.length : Int) + 1 else 0))) hs e5, ?_⟩
      rw [hsv]
      rw [heardB] at k
      refine i_k ?_
      refine if2 (fun hb => ?_) (fun hb => ?_)
      · rw [if_pos hb] at k
        walk_at "go"
        rename_i p6 H6 x6 y6 st6 s6 e6
        exact k _ _ y6 s6 ⟨_, e6, .nil⟩ (Nat.zero_le _)
      · rw [if_neg (by rw [hb]; decide)] at k
        walk_at "go"
        refine ⟨.ref p, P, hw, sw, h, S, l, lp, _, _, rfl, hP0.ts s5.ts, hg, hH.same s5, hS.same s5, hlp, ?_, fun p3 A B H3 s3 n3 m3 e3 ⟨va, hA, pa⟩ hB b1 b2 => ?_⟩
        · by_cases he : e = "B"
          · rw [if_pos he, if_pos he]
            have hf : fuel lp ((lp.length : Int) + 1) (-1) = ((lp.length : Int) + 1).toNat := by rw [fuel, if_neg (by decide)]
            exact .inr ⟨rfl, by omega, by omega, by omega⟩
          · rw [if_neg he, if_neg he]
            have hf : fuel lp 0 1 = ((lp.length : Int) + 1 - 0).toNat := by rw [fuel, if_pos rfl]
            exact .inl ⟨rfl, by omega, by omega, by omega⟩
        · have s4 := s5.trans s3
          have nB := s5.free m3
          obtain ⟨kvs, hh, hv⟩ := hH.same s4
          walk_at "go"
          refine lcg_list (K := K) pa hA s4 (by omega) (fun q => some (decide (h q = "short"))) BR (fun _ _ _ h => h) (fun pre2 d post2 x2 H5 e2 s5 s5' r2 Ky Kn ky kn => ?_) (fun D H5 d1 d2 s5 s5' l5 => ?_)
          · obtain ⟨d5, rfl, hd5⟩ := r2
            have hd6 := s5.get hd5
            have hh5 := s5.get hh
            walk_at "go"
            refine ⟨_, DGet.t (k := ky3 d) hh5 hd6, ?_⟩
            rw [hv]
            walk_at "go"
            refine ky _ _ _ rfl (Same.refl _) ?_
            show V.bl _ = V.bl _
            congr 1
            simp
          · rw [fm_some] at l5
            have hk : SqL K H5 D _ := BR.sq l5
            have hany : ∀ ps : List Sp3, (ps.map fun q => decide (h q = "short")).any id = shortB h ps := fun ps => by rw [List.any_map]; rfl
            walk_at "go"
            rw [hany]
            refine if2 (fun hb => ?_) (fun hb => ?_)
            · rw [if_pos hb] at k
              walk_at "go"
              rename_i p6 H6 x6 y6 st6 s6 e6
              exact k _ _ y6 s6 ⟨_, e6, .nil⟩ (Nat.zero_le _)
            · rw [if_neg (by rw [hb]; decide)] at k
              walk_at "go"
              exact k _ _ nB s5' (hB.same (T3.tsx s5.ts) s5) b2
    · by_cases he : e = "B"
      · have he2 : V.str e = V.str "B" := by rw [he]
        walk_at "go"
        refine hN _ _ ⟨none, none, none, ?_, rfl⟩
        rw [if_pos he, if_pos he, ← hyl]
        rfl
      · have he2 : ¬ V.str e = V.str "B" := fun z => he (V.str.inj z)
        walk_at "go"
        refine hN _ _ ⟨none, none, none, ?_, rfl⟩
        rw [if_neg he, if_neg he]
        rfl
end
end Wl

namespace Wl
open PySem L2
/-! ### objects of wires -/
section
variable {K : PySem.W.Frag} {H : Hp} {σ : L2.St} {Q : VK} {C dx x : Addr} {fs : List (Str × V)}
def wfs (v : V) (hw sw dw : Addr) : List (Str × V) := [("plan", v), ("hows", .ref hw), ("stops", .ref sw), ("devices_there", .ref dw)]
theorem lk_plan {v : V} {hw sw dw : Addr} : (wfs v hw sw dw).lookup ("plan" : Str) = some v := rfl
theorem lk_hows {v : V} {hw sw dw : Addr} : (wfs v hw sw dw).lookup ("hows" : Str) = some (.ref hw) := rfl
theorem lk_stops {v : V} {hw sw dw : Addr} : (wfs v hw sw dw).lookup ("stops" : Str) = some (.ref sw) := rfl
theorem lk_dev {v : V} {hw sw dw : Addr} : (wfs v hw sw dw).lookup ("devices_there" : Str) = some (.ref dw) := rfl
theorem i_fldw {fn : Str} {u : V} {z : V → Hp → Prop} (h : H x = some (.ins C dx fs)) (cl : Cls K C) (na : NoAttr K C fn) (hl : fs.lookup fn = some u) (q : z u H) : ∃ a C dx fs v, V.ref x = .ref a ∧ H a = some (.ins C dx fs) ∧ Cls K C ∧ NoAttr K C fn ∧ fs.lookup fn = some v ∧ z v H := ⟨x, C, dx, fs, u, rfl, h, cl, na, hl, q⟩
theorem i_meth {m : Str} {sp : Sp} {dvs : List V} {E : XK} {ta : TE} {t : TA} (q : ta σ H fun x H1 => ∃ a dx fs, x = .ref a ∧ H1 a = some (.ins C dx fs) ∧ fs.lookup m = none ∧ t σ H1 fun vs H2 => sp (x :: (vs ++ dvs)) H2 Q E) : tMeth C m sp dvs E ta t σ H Q := q
theorem i_methW {m : Str} {z : Prop} (h : H x = some (.ins C dx fs)) (hl : fs.lookup m = none) (q : z) : ∃ a dx fs, V.ref x = .ref a ∧ H a = some (.ins C dx fs) ∧ fs.lookup m = none ∧ z := ⟨x, dx, fs, rfl, h, hl, q⟩
theorem i_sfld {ta tv : TE} {fn : Str} {D : Ends} (q : tv σ H fun y H1 => ta σ H1 fun x H2 => ∃ a C dx fs, x = .ref a ∧ H2 a = some (.ins C dx fs) ∧ Cls K C ∧ NoAttr K C fn ∧ fs.length < 1000 ∧ D.nx σ (upd H2 a (.ins C dx (putF fn y fs)))) : sFld K ta tv fn D σ H := q
theorem i_make {sp : Sp} {dvs : List V} {E : XK} {t : TA} (q : t σ H fun vs H1 => ∀ x dx, H1 x = none → H1 dx = none → dx ≠ x → sp (.ref x :: (vs ++ dvs)) (upd (upd H1 dx (.own x)) x (.ins C dx [])) (fun v H2 => v = .non ∧ Q (.ref x) H2) E) : tMake C sp dvs E t σ H Q := q
end
theorem nm_need {v : V} {hw sw dw : Addr} : (wfs v hw sw dw).lookup ("need_stretch" : Str) = none := rfl
theorem nm_change {v : V} {hw sw dw : Addr} : (wfs v hw sw dw).lookup ("change" : Str) = none := rfl
theorem nm_parted {v : V} {hw sw dw : Addr} : (wfs v hw sw dw).lookup ("parted" : Str) = none := rfl
theorem nm_act {v : V} {hw sw dw : Addr} : (wfs v hw sw dw).lookup ("act" : Str) = none := rfl
theorem nm_cut {v : V} {hw sw dw : Addr} : (wfs v hw sw dw).lookup ("cut" : Str) = none := rfl
theorem nm_short {v : V} {hw sw dw : Addr} : (wfs v hw sw dw).lookup ("short" : Str) = none := rfl
theorem nm_mend {v : V} {hw sw dw : Addr} : (wfs v hw sw dw).lookup ("mend" : Str) = none := rfl
theorem nm_rests {v : V} {hw sw dw : Addr} : (wfs v hw sw dw).lookup ("rests" : Str) = none := rfl
theorem nm_come {v : V} {hw sw dw : Addr} : (wfs v hw sw dw).lookup ("come_to_rest" : Str) = none := rfl
theorem nm_heard {v : V} {hw sw dw : Addr} : (wfs v hw sw dw).lookup ("heard" : Str) = none := rfl
/-! ### dicts told in full -/
/-- at most n keys -/
def HowsF (H : Hp) (a : Addr) (h : Sp3 → Str) (n : Nat) : Prop := ∃ kvs, H a = some (.dT kvs) ∧ (∀ q, (valV kvs (ky3 q)).getD (.str "") = .str (h q)) ∧ kvs.length ≤ n
theorem HowsF.at {H : Hp} {a : Addr} {h : Sp3 → Str} {n : Nat} (e : HowsF H a h n) : HowsAt H a h := let ⟨k, e, z, _⟩ := e; ⟨k, e, z⟩
theorem HowsF.same {H H' : Hp} {a : Addr} {h : Sp3 → Str} {n : Nat} (s : Same H H') (e : HowsF H a h n) : HowsF H' a h n := let ⟨k, e, z, l⟩ := e; ⟨k, s _ _ e, z, l⟩
def setH (h : Sp3 → Str) (q : Sp3) (s : Str) : Sp3 → Str := fun r => if r = q then s else h r
theorem ky3_inj {q r : Sp3} (h : ky3 q = ky3 r) : q = r := by
  obtain ⟨a, b, c⟩ := q
  obtain ⟨d, e, f⟩ := r
  simp only [ky3, List.cons.injEq, Sum.inl.injEq] at h
  obtain ⟨rfl, rfl, rfl, _⟩ := h
  rfl
theorem ky2_inj {q r : Int × Int} (h : ky2 q = ky2 r) : q = r := by
  obtain ⟨a, b⟩ := q
  obtain ⟨d, e⟩ := r
  simp only [ky2, List.cons.injEq, Sum.inl.injEq] at h
  obtain ⟨rfl, rfl, _⟩ := h
  rfl
theorem HowsF.put {H : Hp} {a : Addr} {kvs : List (List Key × V)} {h : Sp3 → Str} {n : Nat} (hv : ∀ q, (valV kvs (ky3 q)).getD (.str "") = .str (h q)) (hn : kvs.length ≤ n) (q : Sp3) (s : Str) : HowsF (upd H a (.dT (putK kvs (ky3 q) (.str s)))) a (setH h q s) (n + 1) := by
  refine ⟨_, upd_same, fun r => ?_, by have := putK_len2 kvs (ky3 q) (.str s); omega⟩
  rw [valV_put, setH]
  by_cases e : r = q
  · rw [if_pos (by rw [e]), if_pos e]; rfl
  · rw [if_neg (fun z => e (ky3_inj z)), if_neg e]; exact hv r
theorem valV_drop {κ : Type} [DecidableEq κ] (kvs : List (κ × V)) (k j : κ) : valV (dropK kvs k) j = if j = k then none else valV kvs j := by
  induction kvs with
  | nil => rw [dropK, List.filter_nil, valV_nil]; split <;> rfl
  | cons p r ih =>
    by_cases e : p.1 = k
    · rw [dropK_pos e, ih]
      by_cases e2 : j = k
      · rw [if_pos e2, if_pos e2]
      · rw [if_neg e2, if_neg e2, valV_neg (fun z => e2 (z.symm.trans e))]
    · rw [dropK_neg e]
      by_cases e3 : p.1 = j
      · rw [valV_pos e3, valV_pos e3, if_neg (fun z => e (e3.trans z))]
      · rw [valV_neg e3, valV_neg e3, ih]
/-- the openers parted -/
def stk (ps : List (Int × Int)) : List (List Key × V) := ps.map fun q => (ky2 q, .bl true)
def StopsF (H : Hp) (a : Addr) (ps : List (Int × Int)) : Prop := H a = some (.dT (stk ps)) ∧ ps.Nodup
theorem stk_val (q : Int × Int) : ∀ ps : List (Int × Int), valV (stk ps) (ky2 q) = if q ∈ ps then some (.bl true) else none
  | [] => by simp [stk, valV_nil]
  | p :: ps => by
    rw [stk, List.map_cons]
    by_cases e : p = q
    · rw [valV_pos (by rw [e]), if_pos (by rw [e]; exact List.mem_cons_self ..)]
    · rw [valV_neg (fun z => e (ky2_inj z))]
      have ih := stk_val q ps
      rw [stk] at ih
      rw [ih]
      have e2 : ¬ q = p := fun z => e z.symm
      by_cases m : q ∈ ps
      · rw [if_pos m, if_pos (List.mem_cons_of_mem _ m)]
      · rw [if_neg m, if_neg (fun z => (List.mem_cons.mp z).elim e2 m)]
def memB (ps : List (Int × Int)) (q : Int × Int) : Bool := decide (q ∈ ps)
theorem StopsF.at {H : Hp} {a : Addr} {ps : List (Int × Int)} (e : StopsF H a ps) : StopsAt H a (memB ps) := ⟨_, e.1, fun q => by
  rw [stk_val, memB]
  by_cases m : q ∈ ps
  · rw [if_pos m, decide_eq_true m]; rfl
  · rw [if_neg m, decide_eq_false m]; rfl⟩
theorem StopsF.same {H H' : Hp} {a : Addr} {ps : List (Int × Int)} (s : Same H H') (e : StopsF H a ps) : StopsF H' a ps := ⟨s _ _ e.1, e.2⟩
/-- change -/
def chg (ps : List (Int × Int)) (q : Int × Int) : List (Int × Int) := if q ∈ ps then ps.filter (fun r => decide (r ≠ q)) else ps ++ [q]
theorem chg_nodup {ps : List (Int × Int)} (h : ps.Nodup) (q : Int × Int) : (chg ps q).Nodup := by
  rw [chg]
  split
  · exact h.sublist List.filter_sublist
  · rename_i m
    rw [List.nodup_append]
    exact ⟨h, by simp, fun a ha b hb => by rw [List.mem_singleton] at hb; rw [hb]; exact fun z => m (z ▸ ha)⟩
theorem chg_mem {ps : List (Int × Int)} {q r : Int × Int} : r ∈ chg ps q ↔ if r = q then ¬ q ∈ ps else r ∈ ps := by
  rw [chg]
  by_cases m : q ∈ ps
  · rw [if_pos m, List.mem_filter]
    by_cases e : r = q
    · simp [e, m]
    · simp [e]
  · rw [if_neg m, List.mem_append, List.mem_singleton]
    by_cases e : r = q
    · simp [e, m]
    · simp [e]
theorem stk_drop (ps : List (Int × Int)) (q : Int × Int) : dropK (stk ps) (ky2 q) = stk (ps.filter fun r => decide (r ≠ q)) := by
  rw [dropK, stk, stk, List.filter_map]
  congr 1
  refine List.filter_congr fun r _ => ?_
  show decide (ky2 r ≠ ky2 q) = decide (r ≠ q)
  by_cases e : r = q
  · rw [e]; simp
  · have e2 : ¬ ky2 r = ky2 q := fun z => e (ky2_inj z)
    simp [e, e2]
theorem nodup_le {α : Type} {l m : List α} (h : l.Nodup) (s : ∀ a ∈ l, a ∈ m) : l.length ≤ m.length := List.Nodup.length_le_of_subset h s
/-- where devices stand -/
def ThereF (H : Hp) (a : Addr) (P : Plan) : Prop := ∃ kvs, H a = some (.dT kvs) ∧ ∀ q, (valV kvs (ky3 q)).isSome = decide (q ∈ (devices P).map (·.1))
theorem ThereF.same {H H' : Hp} {a : Addr} {P : Plan} (s : Same H H') (e : ThereF H a P) : ThereF H' a P := let ⟨k, e, z⟩ := e; ⟨k, s _ _ e, z⟩
/-! ### where stretches and devices stand -/
theorem stretches_mem {P : Plan} {q : Sp3} (h : q ∈ stretches P) (hg : GoodLs P) : 0 ≤ q.1 ∧ q.1 ≤ 2 ∧ 0 ≤ q.2.1 ∧ q.2.1 ≤ 12 ∧ 0 ≤ q.2.2 ∧ q.2.2 ≤ 3 := by
  rw [stretches, enumF_mem] at h
  obtain ⟨l, lp, hl, hm⟩ := h
  have hlt := (List.getElem?_eq_some_iff.mp hl).1
  have h3 := hg.1
  have gl := hg.2 lp (List.mem_of_getElem? hl)
  rcases List.mem_cons.mp hm with rfl | hm
  · show 0 ≤ ((0 + l : Nat) : Int) ∧ ((0 + l : Nat) : Int) ≤ 2 ∧ (0 : Int) ≤ 0 ∧ (0 : Int) ≤ 12 ∧ (0 : Int) ≤ 0 ∧ (0 : Int) ≤ 3
    omega
  · rw [enumF_mem] at hm
    obtain ⟨a, pl, ha, hp⟩ := hm
    have hlt2 := (List.getElem?_eq_some_iff.mp ha).1
    have := gl.2.1
    have hs := spur_le (gl.2.2 pl (List.mem_of_getElem? ha))
    rw [strPl, List.mem_map] at hp
    obtain ⟨w, hw, rfl⟩ := hp
    rw [List.mem_range] at hw
    show 0 ≤ ((0 + l : Nat) : Int) ∧ ((0 + l : Nat) : Int) ≤ 2 ∧ 0 ≤ ((0 + a : Nat) : Int) + 1 ∧ ((0 + a : Nat) : Int) + 1 ≤ 12 ∧ 0 ≤ (w : Int) ∧ (w : Int) ≤ 3
    omega
theorem devs_mem {P : Plan} {q : Sp3} (h : q ∈ (devices P).map (·.1)) (hg : GoodLs P) : 0 ≤ q.1 ∧ q.1 ≤ 2 ∧ 0 ≤ q.2.1 ∧ q.2.1 ≤ 12 ∧ 0 ≤ q.2.2 ∧ q.2.2 ≤ 3 := by
  rw [List.mem_map] at h
  obtain ⟨d, h, rfl⟩ := h
  rw [devices, enumF_mem] at h
  obtain ⟨l, lp, hl, hm⟩ := h
  have hlt := (List.getElem?_eq_some_iff.mp hl).1
  have h3 := hg.1
  have gl := hg.2 lp (List.mem_of_getElem? hl)
  rw [enumF_mem] at hm
  obtain ⟨a, pl, ha, hp⟩ := hm
  have hlt2 := (List.getElem?_eq_some_iff.mp ha).1
  have := gl.2.1
  have hs := spur_le (gl.2.2 pl (List.mem_of_getElem? ha))
  rw [devPl, List.mem_append] at hp
  rcases hp with hp | hp
  · split at hp
    · cases hp
    · rw [List.mem_singleton] at hp
      rw [hp]
      show 0 ≤ ((0 + l : Nat) : Int) ∧ ((0 + l : Nat) : Int) ≤ 2 ∧ 0 ≤ ((0 + a : Nat) : Int) + 1 ∧ ((0 + a : Nat) : Int) + 1 ≤ 12 ∧ (0 : Int) ≤ 0 ∧ (0 : Int) ≤ 3
      omega
  · rw [enumF_mem] at hp
    obtain ⟨w, d2, hw, hq⟩ := hp
    have hlt3 := (List.getElem?_eq_some_iff.mp hw).1
    rw [List.mem_singleton] at hq
    rw [hq]
    show 0 ≤ ((0 + l : Nat) : Int) ∧ ((0 + l : Nat) : Int) ≤ 2 ∧ 0 ≤ ((0 + a : Nat) : Int) + 1 ∧ ((0 + a : Nat) : Int) + 1 ≤ 12 ∧ 0 ≤ ((0 + w : Nat) : Int) + 1 ∧ ((0 + w : Nat) : Int) + 1 ≤ 3
    omega
theorem openers_bd {P : Plan} {q : Int × Int} (h : q ∈ openers P) (hg : GoodLs P) : 0 ≤ q.1 ∧ q.1 ≤ 2 ∧ 0 ≤ q.2 ∧ q.2 ≤ 13 := by
  obtain ⟨l, lp, e1, hl, a0, a1⟩ := openers_mem h
  have hlt := (List.getElem?_eq_some_iff.mp hl).1
  have h3 := hg.1
  have gl := (hg.2 lp (List.mem_of_getElem? hl)).2.1
  omega
/-! ### data -/
def dp2 (q : Int × Int) : PyData := .tuple [.int q.1, .int q.2]
def dp3 (q : Sp3) : PyData := .tuple [.int q.1, .int q.2.1, .int q.2.2]
section
variable {K : PySem.W.Frag} {H : Hp}
theorem T2.dp {v : V} {q : Int × Int} (h : T2 H v q) : Dp K H v (dp2 q) := by
  obtain ⟨p, rfl, h⟩ := h
  exact .tup (SqT.of h) (.cons (.int _) (.cons (.int _) .nil))
theorem T3.dp {v : V} {q : Sp3} (h : T3 H v q) : Dp K H v (dp3 q) := by
  obtain ⟨p, rfl, h⟩ := h
  exact .tup (SqT.of h) (.cons (.int _) (.cons (.int _) (.cons (.int _) .nil)))
theorem dps {α : Type} {R : V → α → Prop} {g : α → PyData} (hd : ∀ v a, R v a → Dp K H v (g a)) {vs : List V} {ds : List α} (h : Paired R vs ds) : DpAll K H vs (ds.map g) := by
  induction h with
  | nil => exact .nil
  | cons f _ ih => exact .cons (hd _ _ f) ih
theorem LR.dp2 {p : Addr} {ds : List (Int × Int)} (h : LR T2 H p ds) : Dp K H (.ref p) (.list (ds.map dp2)) := by
  obtain ⟨vs, h, r⟩ := h
  exact .lst (SqL.of h) (dps (fun _ _ h => T2.dp h) r)
theorem LR.dp3 {p : Addr} {ds : List Sp3} (h : LR T3 H p ds) : Dp K H (.ref p) (.list (ds.map dp3)) := by
  obtain ⟨vs, h, r⟩ := h
  exact .lst (SqL.of h) (dps (fun _ _ h => T3.dp h) r)
end
theorem eqvAll_refl {g : List PyData} (h : ∀ d ∈ g, PyData.eqv d d = true) : PyData.eqvAll g g = true := by
  induction g with
  | nil => rfl
  | cons d g ih =>
    rw [PyData.eqvAll, h d (List.mem_cons_self ..), ih fun e he => h e (List.mem_cons_of_mem _ he)]
    rfl
theorem eqv_dp2 (q : Int × Int) : PyData.eqv (dp2 q) (dp2 q) = true := by simp [dp2, PyData.eqv, PyData.eqvAll]
theorem eqv_dp3 (q : Sp3) : PyData.eqv (dp3 q) (dp3 q) = true := by simp [dp3, PyData.eqv, PyData.eqvAll]
theorem eqv_l2 (ds : List (Int × Int)) : PyData.eqv (.list (ds.map dp2)) (.list (ds.map dp2)) = true := by
  rw [PyData.eqv]
  refine eqvAll_refl fun d hd => ?_
  obtain ⟨q, _, rfl⟩ := List.mem_map.mp hd
  exact eqv_dp2 q
theorem eqv_l3 (ds : List Sp3) : PyData.eqv (.list (ds.map dp3)) (.list (ds.map dp3)) = true := by
  rw [PyData.eqv]
  refine eqvAll_refl fun d hd => ?_
  obtain ⟨q, _, rfl⟩ := List.mem_map.mp hd
  exact eqv_dp3 q
theorem lay_all {n : Nat} {g : List PyData} (h : ∀ d ∈ g, d.canLay0 = true ∧ d.depth ≤ n) : PyData.canLayAll0 g = true ∧ PyData.depthAll g ≤ n := by
  induction g with
  | nil => exact ⟨rfl, Nat.zero_le _⟩
  | cons d g ih =>
    have h1 := h d (List.mem_cons_self ..)
    have h2 := ih fun e he => h e (List.mem_cons_of_mem _ he)
    rw [PyData.canLayAll0, PyData.depthAll, h1.1, h2.1]
    exact ⟨rfl, Nat.max_le.mpr ⟨h1.2, h2.2⟩⟩
theorem lay_dp2 (q : Int × Int) : (dp2 q).canLay0 = true ∧ (dp2 q).depth ≤ 1 := by simp [dp2, PyData.canLay0, PyData.canLayAll0, PyData.depth, PyData.depthAll]
theorem lay_dp3 (q : Sp3) : (dp3 q).canLay0 = true ∧ (dp3 q).depth ≤ 1 := by simp [dp3, PyData.canLay0, PyData.canLayAll0, PyData.depth, PyData.depthAll]
theorem lay_list {g : List PyData} {n : Nat} (h : ∀ d ∈ g, d.canLay0 = true ∧ d.depth ≤ n) : (PyData.list g).canLay0 = true ∧ (PyData.list g).depth ≤ n + 1 := by
  have := lay_all h
  rw [PyData.canLay0, PyData.depth]
  exact ⟨this.1, Nat.succ_le_succ this.2⟩
theorem shaped_of {d : PyData} {n : Nat} (h : d.canLay0 = true ∧ d.depth ≤ n) (hn : n ≤ 64) : SeqAt.shaped d = true := by
  rw [SeqAt.shaped, h.1, decide_eq_true (Nat.le_trans h.2 hn)]
  rfl
theorem lay_l2 (ds : List (Int × Int)) : (PyData.list (ds.map dp2)).canLay0 = true ∧ (PyData.list (ds.map dp2)).depth ≤ 2 := lay_list fun d hd => by
  obtain ⟨q, _, rfl⟩ := List.mem_map.mp hd
  exact lay_dp2 q
theorem lay_l3 (ds : List Sp3) : (PyData.list (ds.map dp3)).canLay0 = true ∧ (PyData.list (ds.map dp3)).depth ≤ 2 := lay_list fun d hd => by
  obtain ⟨q, _, rfl⟩ := List.mem_map.mp hd
  exact lay_dp3 q
/-! ### sorted lists -/
def c2 (q : Int × Int) : Int := _root_.TS.code 100 [q.1, q.2]
def c3 (q : Sp3) : Int := _root_.TS.code 100 [q.1, q.2.1, q.2.2]
def Bd2 (q : Int × Int) : Prop := 0 ≤ q.1 ∧ q.1 < 100 ∧ 0 ≤ q.2 ∧ q.2 < 100
def Bd3 (q : Sp3) : Prop := 0 ≤ q.1 ∧ q.1 < 100 ∧ 0 ≤ q.2.1 ∧ q.2.1 < 100 ∧ 0 ≤ q.2.2 ∧ q.2.2 < 100
theorem c2_eq (q : Int × Int) : c2 q = q.1 * 100 + q.2 := by
  simp only [c2, _root_.TS.code, List.length_cons, List.length_nil]
  omega
theorem c3_eq (q : Sp3) : c3 q = q.1 * 10000 + (q.2.1 * 100 + q.2.2) := by
  simp only [c3, _root_.TS.code, List.length_cons, List.length_nil]
  omega
theorem c2_inj {q r : Int × Int} (h : Bd2 q) (h' : Bd2 r) (e : c2 q = c2 r) : q = r := by
  rw [c2_eq, c2_eq] at e
  obtain ⟨h1, h2, h3, h4⟩ := h
  obtain ⟨h5, h6, h7, h8⟩ := h'
  have e1 : q.1 = r.1 := by omega
  have e2 : q.2 = r.2 := by omega
  exact Prod.ext e1 e2
theorem c3_inj {q r : Sp3} (h : Bd3 q) (h' : Bd3 r) (e : c3 q = c3 r) : q = r := by
  rw [c3_eq, c3_eq] at e
  obtain ⟨h1, h2, h3, h4, h5, h6⟩ := h
  obtain ⟨g1, g2, g3, g4, g5, g6⟩ := h'
  have e1 : q.1 = r.1 := by omega
  have e2 : q.2.1 = r.2.1 := by omega
  have e3 : q.2.2 = r.2.2 := by omega
  exact Prod.ext e1 (Prod.ext e2 e3)
def Srt2 (ds ps : List (Int × Int)) : Prop := ds.Perm ps ∧ ds.Pairwise fun a b => c2 a ≤ c2 b
def Srt3 (ds ps : List Sp3) : Prop := ds.Perm ps ∧ ds.Pairwise fun a b => c3 a ≤ c3 b
theorem Srt2.uniq {d e ps qs : List (Int × Int)} (h : Srt2 d ps) (h' : Srt2 e qs) (hp : ps.Perm qs) (hb : ∀ q ∈ ps, Bd2 q) : d = e := by
  have hde := h.1.trans (hp.trans h'.1.symm)
  exact List.Perm.eq_of_pairwise (fun a b ha hb' l1 l2 => c2_inj (hb a (h.1.mem_iff.mp ha)) (hb b (h.1.mem_iff.mp (hde.mem_iff.mpr hb'))) (Int.le_antisymm l1 l2)) h.2 h'.2 hde
theorem Srt3.uniq {d e ps : List Sp3} (h : Srt3 d ps) (h' : Srt3 e ps) (hb : ∀ q ∈ ps, Bd3 q) : d = e := by
  have hde := h.1.trans h'.1.symm
  exact List.Perm.eq_of_pairwise (fun a b ha hb' l1 l2 => c3_inj (hb a (h.1.mem_iff.mp ha)) (hb b (h'.1.mem_iff.mp hb')) (Int.le_antisymm l1 l2)) h.2 h'.2 hde
theorem paired_perm {α β : Type} {R : α → β → Prop} {xs ys : List α} (h : ys.Perm xs) : ∀ {ds : List β}, Paired R xs ds → ∃ es, es.Perm ds ∧ Paired R ys es := by
  induction h with
  | nil => intro ds p; cases p; exact ⟨[], .nil, .nil⟩
  | cons a _ ih =>
    intro ds p
    cases p with
    | cons f t =>
      obtain ⟨es, e1, e2⟩ := ih t
      exact ⟨_, .cons _ e1, .cons f e2⟩
  | swap a b l =>
    intro ds p
    cases p with
    | cons f t =>
      cases t with
      | cons f2 t2 => exact ⟨_, .swap _ _ _, .cons f2 (.cons f t2)⟩
  | trans _ _ ih1 ih2 =>
    intro ds p
    obtain ⟨es, e1, e2⟩ := ih2 p
    obtain ⟨es2, e3, e4⟩ := ih1 e2
    exact ⟨es2, e3.trans e1, e4⟩
theorem paired_pw {α β : Type} {R : α → β → Prop} {A : α → α → Prop} {B : β → β → Prop} (hAB : ∀ a b x y, R a x → R b y → A a b → B x y) {xs : List α} {ds : List β} (p : Paired R xs ds) (h : xs.Pairwise A) : ds.Pairwise B := by
  have mem : ∀ {xs : List α} {ds : List β}, Paired R xs ds → ∀ d ∈ ds, ∃ x ∈ xs, R x d := by
    intro xs ds p
    induction p with
    | nil => intro d hd; cases hd
    | cons f _ ih =>
      intro d hd
      rcases List.mem_cons.mp hd with rfl | hd
      · exact ⟨_, List.mem_cons_self .., f⟩
      · obtain ⟨x, hx, r⟩ := ih d hd
        exact ⟨x, List.mem_cons_of_mem _ hx, r⟩
  induction p with
  | nil => exact .nil
  | cons f t ih =>
    rw [List.pairwise_cons] at h ⊢
    refine ⟨fun d hd => ?_, ih h.2⟩
    obtain ⟨x, hx, r⟩ := mem t d hd
    exact hAB _ _ _ _ f r (h.1 x hx)
end Wl

namespace Wl
open PySem L2
/-! ### the step tactics -/
local macro_rules | `(tactic| walk_at "lk") => `(tactic| first
  | assumption
  | exact upd_same
  | (refine (?_ : ∀ H, SqT _ H _ _) _; assumption)
  | (apply Step.get; (focus assumption); walk_at "lk")
  | (apply upd_tupL; (focus walk_at "lk"); walk_at "lk")
  | (apply upd_tupT; (focus walk_at "lk"); walk_at "lk")
  | (apply upd_tupK; (focus walk_at "lk"); walk_at "lk")
  | (apply L2.Same.get; (focus assumption); assumption)
  | (apply L2.Same.get; rotate_left; (focus assumption); assumption)
  | (apply SqT.of; walk_at "lk")
  | (apply SqL.of; walk_at "lk"))
local macro_rules | `(tactic| walk_at "sm") => `(tactic| first
  | assumption
  | (apply L2.Same.mut; (focus walk_at "sm"); (focus assumption)))
local macro_rules | `(tactic| walk_at "cond") => `(tactic| first
  | rfl
  | assumption
  | (exact dt (by first | rfl | assumption | omega | (simp; done) | (simp; omega)))
  | (exact df (by first | assumption | omega | (simp; done) | (simp; omega)))
  | (exact ndt (by first | rfl | assumption | omega | (simp; done) | (simp; omega)))
  | (exact ndf (by first | assumption | omega | (simp; done) | (simp; omega)))
  | (simp; done))
local macro_rules | `(tactic| walk_at "cond1") => `(tactic| first
  | assumption
  | with_reducible rfl
  | with_reducible exact n_t
  | with_reducible exact n_f
  | with_reducible exact dt (by assumption)
  | with_reducible exact df (by assumption)
  | with_reducible exact ndt (by assumption)
  | with_reducible exact ndf (by assumption))
local macro_rules | `(tactic| walk_at "g1") => `(tactic| first
  | with_reducible refine i_seq ?_
  | with_reducible refine i_asg ?_
  | with_reducible refine i_name ?_
  | with_reducible refine i_ret ?_
  | with_reducible refine i_drop ?_
  | with_reducible refine i_if ?_
  | with_reducible refine i_next ?_
  | with_reducible refine i_break ?_
  | with_reducible refine i_c ?_
  | ((with_reducible apply i_var); (focus (rfl)))
  | with_reducible refine i_op ?_
  | with_reducible refine i_cons ?_
  | with_reducible refine i_nil ?_
  | with_reducible refine i_cb ?_
  | with_reducible refine i_call ?_
  | ((with_reducible apply i_ixT); (focus (walk_at "lk")); (focus (first | rfl | assumption)))
  | ((with_reducible apply i_ixL); (focus (walk_at "lk")); (focus (first | rfl | assumption)))
  | with_reducible refine i_I0 ?_
  | ((with_reducible apply i_eq); (focus (rfl)))
  | ((with_reducible apply i_ne); (focus (rfl)))
  | with_reducible refine i_un ?_
  | with_reducible refine i_neg ?_
  | with_reducible refine i_andV ?_
  | with_reducible refine i_orV ?_
  | with_reducible refine i_notV ?_
  | with_reducible refine i_chain ?_
  | with_reducible refine i_test ?_
  | with_reducible refine i_B ?_
  | with_reducible refine i_k ?_
  | with_reducible refine i_and ?_
  | with_reducible refine i_or ?_
  | with_reducible refine i_not ?_
  | with_reducible refine i_yes ?_
  | (with_reducible refine i_isiI kit_ii ?_)
  | (with_reducible refine i_isiI kit_ib ?_)
  | (with_reducible refine i_isiS kit_ss ?_)
  | ((with_reducible apply i_isiT); (focus (walk_at "lk")); (focus (exact kit_tt)))
  | ((with_reducible apply i_len); (focus (first | (apply Or.inr; walk_at "lk") | (apply Or.inl; walk_at "lk"))))
  | ((with_reducible apply i_lens); (focus (walk_at "sz")))
  | (with_reducible refine i_sign ?_)
  | ((with_reducible apply i_inT); (focus (walk_at "lk")); (focus (rfl)); (focus (rfl)))
  | ((with_reducible apply i_inL); (focus (walk_at "lk")); (focus (rfl)); (focus (rfl)))
  | ((with_reducible apply i_ninL); (focus (walk_at "lk")); (focus (rfl)); (focus (rfl)))
  | ((with_reducible apply i_all); (focus (walk_at "lk")))
  | ((with_reducible apply i_any); (focus (walk_at "lk")))
  | ((with_reducible apply ift); (focus (walk_at "cond1")))
  | ((with_reducible apply iff_); (focus (walk_at "cond1")))
  | ((with_reducible apply ift); (focus (rfl)))
  | ((with_reducible apply iff_); (focus (rfl)))
  | ((with_reducible apply ift); (focus (walk_at "cond")))
  | ((with_reducible apply iff_); (focus (walk_at "cond")))
  | with_reducible refine i_tup ?_
  | (with_reducible refine i_new2 (by walk_at "sm") ?_; intro _ _ _ _ _ _ _)
  | with_reducible refine i_dnK ?_
  | with_reducible refine i_dnT ?_
  | with_reducible refine i_lc ?_
  | with_reducible refine i_for ?_
  | with_reducible refine i_iTup ?_
  | with_reducible refine i_iList ?_
  | ((with_reducible apply i_tupW); (focus (walk_at "lk")))
  | ((with_reducible apply i_listW); (focus (walk_at "lk")))
  | with_reducible refine i_iRng1 ?_
  | ((with_reducible apply i_rng1); (focus (walk_at "bnd")))
  | with_reducible refine i_iRng2 ?_
  | ((with_reducible apply i_rng2); (focus (walk_at "bnd")))
  | with_reducible refine i_iStr ?_
  | with_reducible refine i_iEnT ?_
  | with_reducible refine i_iEnum ?_
  | ((with_reducible apply i_enTW); (focus (walk_at "lk")))
  | ((with_reducible apply i_enLW); (focus (walk_at "lk")))
  | with_reducible refine i_strW ?_
  | with_reducible refine i_lst ?_
  | with_reducible refine i_bm ?_
  | with_reducible refine i_fld ?_
  | with_reducible refine i_dget2 ?_
  | with_reducible refine i_dget ?_
  | with_reducible refine i_din ?_
  | with_reducible refine i_dnotin ?_
  | with_reducible refine i_dputT ?_
  | with_reducible refine i_isN ?_
  | with_reducible refine i_notN ?_
  | ((with_reducible apply i_gtup); (focus (walk_at "lk")); (focus (rfl)))
  | with_reducible refine i_gcons ?_
  | with_reducible refine i_gnil ?_
  | with_reducible refine i_sl ?_
  | with_reducible refine i_nopart ?_
  | with_reducible refine i_part ?_
  | ((with_reducible apply i_app); (focus (walk_at "lk")); (focus (walk_at "sz")))
  | with_reducible refine i_2i ?_
  | with_reducible refine i_par ?_
  | with_reducible refine i_m1 ?_
  | with_reducible refine i_ex1 ?_
  | with_reducible refine i_isS ?_
  | ((with_reducible apply i_slS); (focus (walk_at "sz")))
  | with_reducible refine i_add_str ?_
  | with_reducible refine i_abs ?_
  | with_reducible refine i_gsub ?_
  | ((with_reducible apply i_setL); (focus (walk_at "lk")); (focus (rfl)))
  | ((with_reducible apply i_I); (focus (walk_at "arith")))
  | ((with_reducible apply i_fldw); (focus (walk_at "lk")); (focus assumption); (focus assumption); (focus (first | exact lk_plan | exact lk_hows | exact lk_stops | exact lk_dev)))
  | with_reducible refine i_meth ?_
  | ((with_reducible apply i_methW); (focus (walk_at "lk")); (focus (first | exact nm_need | exact nm_change | exact nm_parted | exact nm_act | exact nm_cut | exact nm_short | exact nm_mend | exact nm_rests | exact nm_come | exact nm_heard)))
  | ((with_reducible apply i_isD); (focus (walk_at "lk")))
  | ((with_reducible apply i_ext); (focus (walk_at "lk")); (focus (walk_at "lk")); (focus (walk_at "sz")))
  | ((with_reducible apply And.intro); (focus (first | (show wipe _ _ = wipe _ _; rfl) | (walk_at "sz")))))
local macro_rules | `(tactic| walk_at "arith") => `(tactic| first
  | assumption
  | (refine Or.inl ?_; (constructor <;> omega))
  | (refine Or.inr ?_; (constructor <;> omega))
  | (show (0 : Int) < _; omega)
  | (show 0 < _ ∧ _ < _; (constructor <;> omega))
  | (show CPow 10 18; exact ⟨by decide, by decide, by decide⟩))
local macro_rules | `(tactic| walk_at "bnd") => `(tactic| first
  | omega
  | (refine ⟨?_, ?_⟩ <;> omega))
local macro_rules | `(tactic| walk_at "sz") => `(tactic| first
  | (apply ty_l; walk_at "lk")
  | (apply ty_d; walk_at "lk")
  | (exact szle (by omega))
  | (exact szl (by omega))
  | (exact szle (by simp only [List.length_append, List.length_cons, List.length_nil, List.length_map]; omega))
  | (exact szl (by simp only [List.length_append, List.length_cons, List.length_nil, List.length_map]; omega))
  | (exact Nat.le_of_ble_eq_true rfl))
local macro_rules | `(tactic| walk_at "go") => `(tactic| repeat (first | walk_at "g1" | dsimp only))
section
variable {P : Program} {w : World} {K : PySem.W.Frag} {mg : Str → Option Value} {f : Nat → Addr} {fd : Nat → FuncData} {C aK aT : Addr} {base : Heap}
/-! ### need_stretch -/
def WObj (C : Addr) (H : Hp) (x dx : Addr) (v : V) (hw sw dw : Addr) : Prop := H x = some (.ins C dx (wfs v hw sw dw))
def TupOf3 (H : Hp) (t : Addr) (q : Sp3) : Prop := H t = some (.tup [.int q.1, .int q.2.1, .int q.2.2])
def sp_Wneed_stretch (C : Addr) : Sp := fun vs H Q _ => ∃ (x dx : Addr) (v : V) (hw sw dw t : Addr) (P : Plan) (q : Sp3), vs = [.ref x, .ref t] ∧ WObj C H x dx v hw sw dw ∧ PlanR H v P ∧ GoodLs P ∧ TupOf3 H t q ∧ q ∈ stretches P ∧ ∀ H', Same H H' → Q .non H'
theorem ok_Wneed_stretch (T : Txt K mg f fd C aK aT) : FnOk P w K mg base CX0 3 (f 27) (fd 27) ["self", "stretch"] (sp_Wneed_stretch C) := by
  refine T.F_Wneed_stretch.ok sc_Wneed_stretch (fun vs H Q E h => ?_) (fun cdv A outer s H vs Q E hr h => ?_)
  · obtain ⟨x, dx, v, hw, sw, dw, t, P, q, rfl, _⟩ := h; rfl
  · obtain ⟨x, dx, v, hw, sw, dw, t, P, q, rfl, hx, hP, hg, ht, hq, k⟩ := h
    refine ⟨_, (pss_one (ps_if (PW.pt (pw_or (pt_not (pt_val (pe_call (ok_are_whole T) (hr.mono (by decide)) (by rfl) T.m_are_whole T.F_are_whole.kp T.b_are_whole .nil pass0 (pa_cons (pv 1) (pa_cons pe_int (pa_cons pe_int (pa_cons (pe_gint (by rfl) T.c_MOST_NUMBER) pa_nil))))))) (pw_or1 (pt_cmpR (op_ninDK (K := K) rfl (hu65 hr)) (pv 1) (pe_call (ok_stretches T) (hr.mono (by decide)) (by rfl) T.m_stretches T.F_stretches.kp T.b_stretches .nil pass0 (pa_cons (pe_fldK (K := K) rfl (pv 0) rfl) pa_nil)) (by with_unfolding_all rfl))))) (pss_one ps_never)
      pss_nil)), ?_⟩
    have s0 := Same.refl H
    have cl := T.cl
    have n1 := T.na_plan
    have ht2 : H t = some (.tup [.int q.1, .int q.2.1, .int q.2.2]) := ht
    have hx2 : H x = some (.ins C dx (wfs v hw sw dw)) := hx
    have bd := stretches_mem hq hg
    walk_at "go"
    refine ⟨t, [q.1, q.2.1, q.2.2], 3, 0, 99, rfl, ht2, by simp, rfl, fun n hn => ?_, fun H1 s1 => ?_⟩
    · simp only [List.mem_cons, List.not_mem_nil, or_false] at hn
      omega
    · walk_at "go"
      refine ⟨v, P, rfl, hP.ts s1.ts, hg, fun L H2 l1 s2 lr => ?_⟩
      have s3 := s1.trans s2
      refine ⟨dp3 q, (stretches P).map dp3, T3.dp ⟨t, rfl, s3 _ _ ht2⟩, lr.dp3, shaped_of (lay_dp3 q) (by decide), shaped_of (lay_l3 _) (by decide), ?_⟩
      have hany : (!((stretches P).map dp3).any fun z => PyData.eqv z (dp3 q)) = false := by
        rw [Bool.not_eq_false', List.any_map]
        exact List.any_eq_true.mpr ⟨q, hq, eqv_dp3 q⟩
      walk_at "go"
      exact k _ s3
/-! ### cut, short, mend -/
def sp_put (C : Addr) (s : Str) : Sp := fun vs H Q _ => ∃ (x dx : Addr) (v : V) (hw sw dw t : Addr) (P : Plan) (q : Sp3) (h : Sp3 → Str) (n : Nat), vs = [.ref x, .ref t] ∧ WObj C H x dx v hw sw dw ∧ PlanR H v P ∧ GoodLs P ∧ TupOf3 H t q ∧ q ∈ stretches P ∧ HowsF H hw h n ∧ n ≤ 1000 ∧
  ∀ H', Fr [hw] H H' → HowsF H' hw (setH h q s) (n + 1) → Q .non H'
theorem ok_Wcut (T : Txt K mg f fd C aK aT) : FnOk P w K mg base CX0 4 (f 28) (fd 28) ["self", "stretch"] (sp_put C "cut") := by
  refine T.F_Wcut.ok sc_Wcut (fun vs H Q E h => ?_) (fun cdv A outer s H vs Q E hr h => ?_)
  · obtain ⟨x, dx, v, hw, sw, dw, t, P, q, h, n, rfl, _⟩ := h; rfl
  · obtain ⟨x, dx, v, hw, sw, dw, t, P, q, h, n, rfl, hx, hP, hg, ht, hq, ⟨kvs, hh, hv, hn⟩, hn2, k⟩ := h
    refine ⟨_, (pss_cons (ps_expr (pe_meth (pv 0) T.cl T.e_Wneed_stretch (ok_Wneed_stretch T) (hr.mono (by decide)) T.b_Wneed_stretch .nil pass0 (pa_cons (pv 1) pa_nil)))
      (pss_one (ps_dput (hu_of hr) (pe_fldK (K := K) rfl (pv 0) rfl) (pv 1) pe_str rfl))), ?_⟩
    have s0 := Same.refl H
    have cl := T.cl
    have n1 := T.na_hows
    have hx2 : H x = some (.ins C dx (wfs v hw sw dw)) := hx
    walk_at "go"
    refine ⟨x, dx, v, hw, sw, dw, t, P, q, rfl, hx, hP, hg, ht, hq, fun H1 s1 => ?_⟩
    walk_at "go"
    refine ⟨hw, _, rfl, DPut.t (k := ky3 q) (s1 _ _ hh) (s1 _ _ ht) (szl (by omega)), ?_⟩
    walk_at "go"
    exact k _ ((fr_same s1).trans (Fr.upd (by simp))) (HowsF.put hv hn q "cut")
theorem ok_Wshort (T : Txt K mg f fd C aK aT) : FnOk P w K mg base CX0 4 (f 29) (fd 29) ["self", "stretch"] (sp_put C "short") := by
  refine T.F_Wshort.ok sc_Wshort (fun vs H Q E h => ?_) (fun cdv A outer s H vs Q E hr h => ?_)
  · obtain ⟨x, dx, v, hw, sw, dw, t, P, q, h, n, rfl, _⟩ := h; rfl
  · obtain ⟨x, dx, v, hw, sw, dw, t, P, q, h, n, rfl, hx, hP, hg, ht, hq, ⟨kvs, hh, hv, hn⟩, hn2, k⟩ := h
    refine ⟨_, (pss_cons (ps_expr (pe_meth (pv 0) T.cl T.e_Wneed_stretch (ok_Wneed_stretch T) (hr.mono (by decide)) T.b_Wneed_stretch .nil pass0 (pa_cons (pv 1) pa_nil)))
      (pss_one (ps_dput (hu_of hr) (pe_fldK (K := K) rfl (pv 0) rfl) (pv 1) pe_str rfl))), ?_⟩
    have s0 := Same.refl H
    have cl := T.cl
    have n1 := T.na_hows
    have hx2 : H x = some (.ins C dx (wfs v hw sw dw)) := hx
    walk_at "go"
    refine ⟨x, dx, v, hw, sw, dw, t, P, q, rfl, hx, hP, hg, ht, hq, fun H1 s1 => ?_⟩
    walk_at "go"
    refine ⟨hw, _, rfl, DPut.t (k := ky3 q) (s1 _ _ hh) (s1 _ _ ht) (szl (by omega)), ?_⟩
    walk_at "go"
    exact k _ ((fr_same s1).trans (Fr.upd (by simp))) (HowsF.put hv hn q "short")
theorem ok_Wmend (T : Txt K mg f fd C aK aT) : FnOk P w K mg base CX0 4 (f 30) (fd 30) ["self", "stretch"] (sp_put C "") := by
  refine T.F_Wmend.ok sc_Wmend (fun vs H Q E h => ?_) (fun cdv A outer s H vs Q E hr h => ?_)
  · obtain ⟨x, dx, v, hw, sw, dw, t, P, q, h, n, rfl, _⟩ := h; rfl
  · obtain ⟨x, dx, v, hw, sw, dw, t, P, q, h, n, rfl, hx, hP, hg, ht, hq, ⟨kvs, hh, hv, hn⟩, hn2, k⟩ := h
    refine ⟨_, (pss_cons (ps_expr (pe_meth (pv 0) T.cl T.e_Wneed_stretch (ok_Wneed_stretch T) (hr.mono (by decide)) T.b_Wneed_stretch .nil pass0 (pa_cons (pv 1) pa_nil)))
      (pss_one (ps_expr (pe_bmK (K := K) rfl PySem.F.plainAttrs_dict PySem.F.slot_dict_pop PySem.F.type_dict_pop (DX.mt_popT (hu_of hr)) (pe_fldK (K := K) rfl (pv 0) rfl) (pa_cons (pv 1) (pa_cons pe_str pa_nil)))))), ?_⟩
    have s0 := Same.refl H
    have cl := T.cl
    have n1 := T.na_hows
    have hx2 : H x = some (.ins C dx (wfs v hw sw dw)) := hx
    walk_at "go"
    refine ⟨x, dx, v, hw, sw, dw, t, P, q, rfl, hx, hP, hg, ht, hq, fun H1 s1 => ?_⟩
    have hh1 := s1.get hh
    walk_at "go"
    refine ⟨hw, kvs, ky3 q, t, _, rfl, rfl, hh1, s1 _ _ ht, fun v1 hv1 => ?_, fun hno => ?_⟩
    · walk_at "go"
      refine k _ ((fr_same s1).trans (Fr.upd (by simp))) ⟨_, upd_same, fun r => ?_, Nat.le_trans (dropK_le _ _) (by omega)⟩
      rw [valV_drop, setH]
      by_cases e : r = q
      · rw [if_pos (by rw [e]), if_pos e]; rfl
      · rw [if_neg (fun z => e (ky3_inj z)), if_neg e]; exact hv r
    · walk_at "go"
      refine k _ (fr_same s1) ⟨kvs, hh1, fun r => ?_, by omega⟩
      rw [setH]
      by_cases e : r = q
      · rw [if_pos e, e, hno]; rfl
      · rw [if_neg e]; exact hv r
/-! ### parted -/
def sp_Wparted (C : Addr) : Sp := fun vs H Q _ => ∃ (x dx : Addr) (v : V) (hw sw dw : Addr) (ps : List (Int × Int)), vs = [.ref x] ∧ WObj C H x dx v hw sw dw ∧ StopsF H sw ps ∧ ps.length < 64 ∧ (∀ q ∈ ps, Bd2 q) ∧
  ∀ p ds H', H p = none → Same H H' → LR T2 H' p ds → Srt2 ds ps → Q (.ref p) H'
theorem isKeys_T2 {H : Hp} : ∀ {ps : List (Int × Int)} {bs : List Addr}, IsKeys H (stk ps) bs → Paired (T2 H) (bs.map V.ref) ps
  | [], _, h => by cases h; exact .nil
  | q :: ps, _, h => by
    cases h with
    | cons f t => exact .cons ⟨_, rfl, f⟩ (isKeys_T2 t)
theorem ok_Wparted (T : Txt K mg f fd C aK aT) : FnOk P w K mg base CX0 1 (f 31) (fd 31) ["self"] (sp_Wparted C) := by
  refine T.F_Wparted.ok sc_Wparted (fun vs H Q E h => ?_) (fun cdv A outer s H vs Q E hr h => ?_)
  · obtain ⟨x, dx, v, hw, sw, dw, ps, rfl, _⟩ := h; rfl
  · obtain ⟨x, dx, v, hw, sw, dw, ps, rfl, hx, hS, h64, hb, k⟩ := h
    refine ⟨_, (pss_one (ps_ret (pe_callB (cr_sortTK (K := K) (d := 2) (B := 100) rfl (by decide)) (by rfl) T.n_sorted (by decide +kernel) (pa_cons (pe_callTy (call_list_dT rfl) (by rfl) T.n_list (by decide +kernel) (pa_cons (pe_fldK (K := K) rfl (pv 0) rfl) pa_nil)) pa_nil)))), ?_⟩
    have s0 := Same.refl H
    have cl := T.cl
    have n1 := T.na_stops
    have hx2 : H x = some (.ins C dx (wfs v hw sw dw)) := hx
    walk_at "go"
    refine ⟨sw, stk ps, rfl, .inl hS.1, fun p bs hp hk => ?_⟩
    have pr := isKeys_T2 hk
    have hl := Paired.length pr
    walk_at "go"
    have s1 : Same H (upd H p (.lst (bs.map V.ref))) := Same.upd hp
    have pr1 : Paired (T2 (upd H p (.lst (bs.map V.ref)))) (bs.map V.ref) ps := Paired.mapP pr (T2.tsx s1.ts)
    refine ⟨p, bs.map V.ref, rfl, SqL.of upd_same, by omega, fun y hy => ?_, fun ys p2 hpm hpw hp2 => ?_⟩
    · obtain ⟨j, hj⟩ := List.getElem?_of_mem hy
      obtain ⟨q, hq, t, rfl, ht⟩ := Paired.get1 pr1 hj
      have bq := hb q (List.mem_of_getElem? hq)
      refine ⟨[q.1, q.2], ⟨t, rfl, SqT.of ht⟩, rfl, fun m hm => ?_⟩
      simp only [List.mem_cons, List.not_mem_nil, or_false] at hm
      obtain ⟨b1, b2, b3, b4⟩ := bq
      rcases hm with rfl | rfl <;> omega
    · obtain ⟨ds, hd1, hd2⟩ := paired_perm hpm pr1
      refine k p2 ds _ (s1.free hp2) (s1.trans (Same.upd hp2)) ⟨ys, upd_same, Paired.mapP hd2 (T2.tsx (Same.upd hp2).ts)⟩ ⟨hd1, ?_⟩
      refine paired_pw (A := fun x y => ∀ n m, TupI K _ x n → TupI K _ y m → _root_.TS.code 100 n ≤ _root_.TS.code 100 m) (fun a b x y ⟨ta, ea, ha⟩ ⟨tb, eb, hb⟩ hle => ?_) hd2 hpw
      exact hle [x.1, x.2] [y.1, y.2] ⟨ta, ea, SqT.of ha⟩ ⟨tb, eb, SqT.of hb⟩
/-! ### change -/
def TupOf2 (H : Hp) (t : Addr) (q : Int × Int) : Prop := H t = some (.tup [.int q.1, .int q.2])
def sp_Wchange (C : Addr) : Sp := fun vs H Q _ => ∃ (x dx : Addr) (v : V) (hw sw dw t : Addr) (q : Int × Int) (ps : List (Int × Int)), vs = [.ref x, .ref t] ∧ WObj C H x dx v hw sw dw ∧ StopsF H sw ps ∧ ps.length ≤ 1000 ∧ TupOf2 H t q ∧
  ∀ H', Fr [sw] H H' → StopsF H' sw (chg ps q) → Q .non H'
theorem ok_Wchange (T : Txt K mg f fd C aK aT) : FnOk P w K mg base CX0 1 (f 32) (fd 32) ["self", "opener"] (sp_Wchange C) := by
  refine T.F_Wchange.ok sc_Wchange (fun vs H Q E h => ?_) (fun cdv A outer s H vs Q E hr h => ?_)
  · obtain ⟨x, dx, v, hw, sw, dw, t, q, ps, rfl, _⟩ := h; rfl
  · obtain ⟨x, dx, v, hw, sw, dw, t, q, ps, rfl, hx, hS, hl, ht, k⟩ := h
    refine ⟨_, (pss_one (ps_if (pt_cmp (pc_din (hu_of hr) (pv 1) (pe_fldK (K := K) rfl (pv 0) rfl))) (pss_one (ps_expr (pe_bmK (K := K) rfl PySem.F.plainAttrs_dict PySem.F.slot_dict_pop PySem.F.type_dict_pop (mt_popX (hu_of hr)) (pe_fldK (K := K) rfl (pv 0) rfl) (pa_cons (pv 1) pa_nil))))
      (pss_one (ps_dput (hu_of hr) (pe_fldK (K := K) rfl (pv 0) rfl) (pv 1) pe_bl rfl)))), ?_⟩
    have s0 := Same.refl H
    have cl := T.cl
    have n1 := T.na_stops
    have hx2 : H x = some (.ins C dx (wfs v hw sw dw)) := hx
    have ht2 : H t = some (.tup [.int q.1, .int q.2]) := ht
    have hS2 := hS.1
    have hsl : (stk ps).length = ps.length := List.length_map _
    walk_at "go"
    refine ⟨sw, _, rfl, DGet.t (k := ky2 q) hS2 ht2, ?_⟩
    refine i_k ?_
    rw [stk_val]
    by_cases m : q ∈ ps
    · rw [if_pos m]
      walk_at "go"
      refine ⟨sw, stk ps, ky2 q, t, .bl true, rfl, rfl, hS2, ht2, by rw [stk_val, if_pos m], ?_⟩
      walk_at "go"
      refine k _ (Fr.upd (by simp)) ⟨?_, chg_nodup hS.2 q⟩
      rw [chg, if_pos m, ← stk_drop]
      exact upd_same
    · rw [if_neg m]
      walk_at "go"
      refine ⟨sw, _, rfl, DPut.t (k := ky2 q) hS2 ht2 (szl (by omega)), ?_⟩
      walk_at "go"
      refine k _ (Fr.upd (by simp)) ⟨?_, chg_nodup hS.2 q⟩
      rw [chg, if_neg m, putK_new _ (by rw [stk_val, if_neg m]), stk, stk, List.map_append]
      exact upd_same
end
end Wl

namespace Wl
open PySem L2
/-! ### the step tactics -/
local macro_rules | `(tactic| walk_at "lk") => `(tactic| first
  | assumption
  | exact upd_same
  | (refine (?_ : ∀ H, SqT _ H _ _) _; assumption)
  | (apply Step.get; (focus assumption); walk_at "lk")
  | (apply upd_tupL; (focus walk_at "lk"); walk_at "lk")
  | (apply upd_tupT; (focus walk_at "lk"); walk_at "lk")
  | (apply upd_tupK; (focus walk_at "lk"); walk_at "lk")
  | (apply L2.Same.get; (focus assumption); assumption)
  | (apply L2.Same.get; rotate_left; (focus assumption); assumption)
  | (apply SqT.of; walk_at "lk")
  | (apply SqL.of; walk_at "lk"))
local macro_rules | `(tactic| walk_at "sm") => `(tactic| first
  | assumption
  | (apply L2.Same.mut; (focus walk_at "sm"); (focus assumption)))
local macro_rules | `(tactic| walk_at "cond") => `(tactic| first
  | rfl
  | assumption
  | (exact dt (by first | rfl | assumption | omega | (simp; done) | (simp; omega)))
  | (exact df (by first | assumption | omega | (simp; done) | (simp; omega)))
  | (exact ndt (by first | rfl | assumption | omega | (simp; done) | (simp; omega)))
  | (exact ndf (by first | assumption | omega | (simp; done) | (simp; omega)))
  | (simp; done))
local macro_rules | `(tactic| walk_at "cond1") => `(tactic| first
  | assumption
  | with_reducible rfl
  | with_reducible exact n_t
  | with_reducible exact n_f
  | with_reducible exact dt (by assumption)
  | with_reducible exact df (by assumption)
  | with_reducible exact ndt (by assumption)
  | with_reducible exact ndf (by assumption))
local macro_rules | `(tactic| walk_at "g1") => `(tactic| first
  | with_reducible refine i_seq ?_
  | with_reducible refine i_asg ?_
  | with_reducible refine i_name ?_
  | with_reducible refine i_ret ?_
  | with_reducible refine i_drop ?_
  | with_reducible refine i_if ?_
  | with_reducible refine i_next ?_
  | with_reducible refine i_break ?_
  | with_reducible refine i_c ?_
  | ((with_reducible apply i_var); (focus (rfl)))
  | with_reducible refine i_op ?_
  | with_reducible refine i_cons ?_
  | with_reducible refine i_nil ?_
  | with_reducible refine i_cb ?_
  | with_reducible refine i_call ?_
  | ((with_reducible apply i_ixT); (focus (walk_at "lk")); (focus (first | rfl | assumption)))
  | ((with_reducible apply i_ixL); (focus (walk_at "lk")); (focus (first | rfl | assumption)))
  | with_reducible refine i_I0 ?_
  | ((with_reducible apply i_eq); (focus (rfl)))
  | ((with_reducible apply i_ne); (focus (rfl)))
  | with_reducible refine i_un ?_
  | with_reducible refine i_neg ?_
  | with_reducible refine i_andV ?_
  | with_reducible refine i_orV ?_
  | with_reducible refine i_notV ?_
  | with_reducible refine i_chain ?_
  | with_reducible refine i_test ?_
  | with_reducible refine i_B ?_
  | with_reducible refine i_k ?_
  | with_reducible refine i_and ?_
  | with_reducible refine i_or ?_
  | with_reducible refine i_not ?_
  | with_reducible refine i_yes ?_
  | (with_reducible refine i_isiI kit_ii ?_)
  | (with_reducible refine i_isiI kit_ib ?_)
  | (with_reducible refine i_isiS kit_ss ?_)
  | ((with_reducible apply i_isiT); (focus (walk_at "lk")); (focus (exact kit_tt)))
  | ((with_reducible apply i_len); (focus (first | (apply Or.inr; walk_at "lk") | (apply Or.inl; walk_at "lk"))))
  | ((with_reducible apply i_lens); (focus (walk_at "sz")))
  | (with_reducible refine i_sign ?_)
  | ((with_reducible apply i_inT); (focus (walk_at "lk")); (focus (rfl)); (focus (rfl)))
  | ((with_reducible apply i_inL); (focus (walk_at "lk")); (focus (rfl)); (focus (rfl)))
  | ((with_reducible apply i_ninL); (focus (walk_at "lk")); (focus (rfl)); (focus (rfl)))
  | ((with_reducible apply i_all); (focus (walk_at "lk")))
  | ((with_reducible apply i_any); (focus (walk_at "lk")))
  | ((with_reducible apply ift); (focus (walk_at "cond1")))
  | ((with_reducible apply iff_); (focus (walk_at "cond1")))
  | ((with_reducible apply ift); (focus (rfl)))
  | ((with_reducible apply iff_); (focus (rfl)))
  | ((with_reducible apply ift); (focus (walk_at "cond")))
  | ((with_reducible apply iff_); (focus (walk_at "cond")))
  | with_reducible refine i_tup ?_
  | (with_reducible refine i_new2 (by walk_at "sm") ?_; intro _ _ _ _ _ _ _)
  | with_reducible refine i_dnK ?_
  | with_reducible refine i_dnT ?_
  | with_reducible refine i_lc ?_
  | with_reducible refine i_for ?_
  | with_reducible refine i_iTup ?_
  | with_reducible refine i_iList ?_
  | ((with_reducible apply i_tupW); (focus (walk_at "lk")))
  | ((with_reducible apply i_listW); (focus (walk_at "lk")))
  | with_reducible refine i_iRng1 ?_
  | ((with_reducible apply i_rng1); (focus (walk_at "bnd")))
  | with_reducible refine i_iRng2 ?_
  | ((with_reducible apply i_rng2); (focus (walk_at "bnd")))
  | with_reducible refine i_iStr ?_
  | with_reducible refine i_iEnT ?_
  | with_reducible refine i_iEnum ?_
  | ((with_reducible apply i_enTW); (focus (walk_at "lk")))
  | ((with_reducible apply i_enLW); (focus (walk_at "lk")))
  | with_reducible refine i_strW ?_
  | with_reducible refine i_lst ?_
  | with_reducible refine i_bm ?_
  | with_reducible refine i_fld ?_
  | with_reducible refine i_dget2 ?_
  | with_reducible refine i_dget ?_
  | with_reducible refine i_din ?_
  | with_reducible refine i_dnotin ?_
  | with_reducible refine i_dputT ?_
  | with_reducible refine i_isN ?_
  | with_reducible refine i_notN ?_
  | ((with_reducible apply i_gtup); (focus (walk_at "lk")); (focus (rfl)))
  | with_reducible refine i_gcons ?_
  | with_reducible refine i_gnil ?_
  | with_reducible refine i_sl ?_
  | with_reducible refine i_nopart ?_
  | with_reducible refine i_part ?_
  | ((with_reducible apply i_app); (focus (walk_at "lk")); (focus (walk_at "sz")))
  | with_reducible refine i_2i ?_
  | with_reducible refine i_par ?_
  | with_reducible refine i_m1 ?_
  | with_reducible refine i_ex1 ?_
  | with_reducible refine i_isS ?_
  | ((with_reducible apply i_slS); (focus (walk_at "sz")))
  | with_reducible refine i_add_str ?_
  | with_reducible refine i_abs ?_
  | with_reducible refine i_gsub ?_
  | ((with_reducible apply i_setL); (focus (walk_at "lk")); (focus (rfl)))
  | ((with_reducible apply i_I); (focus (walk_at "arith")))
  | ((with_reducible apply i_fldw); (focus (walk_at "lk")); (focus assumption); (focus assumption); (focus (first | exact lk_plan | exact lk_hows | exact lk_stops | exact lk_dev)))
  | with_reducible refine i_meth ?_
  | ((with_reducible apply i_methW); (focus (walk_at "lk")); (focus (first | exact nm_need | exact nm_change | exact nm_parted | exact nm_act | exact nm_cut | exact nm_short | exact nm_mend | exact nm_rests | exact nm_come | exact nm_heard)))
  | ((with_reducible apply i_isD); (focus (walk_at "lk")))
  | ((with_reducible apply i_ext); (focus (walk_at "lk")); (focus (walk_at "lk")); (focus (walk_at "sz")))
  | ((with_reducible apply And.intro); (focus (first | (show wipe _ _ = wipe _ _; rfl) | (walk_at "sz")))))
local macro_rules | `(tactic| walk_at "arith") => `(tactic| first
  | assumption
  | (refine Or.inl ?_; (constructor <;> omega))
  | (refine Or.inr ?_; (constructor <;> omega))
  | (show (0 : Int) < _; omega)
  | (show 0 < _ ∧ _ < _; (constructor <;> omega))
  | (show CPow 10 18; exact ⟨by decide, by decide, by decide⟩))
local macro_rules | `(tactic| walk_at "bnd") => `(tactic| first
  | omega
  | (refine ⟨?_, ?_⟩ <;> omega))
local macro_rules | `(tactic| walk_at "sz") => `(tactic| first
  | (apply ty_l; walk_at "lk")
  | (apply ty_d; walk_at "lk")
  | (exact szle (by omega))
  | (exact szl (by omega))
  | (exact szle (by simp only [List.length_append, List.length_cons, List.length_nil, List.length_map]; omega))
  | (exact szl (by simp only [List.length_append, List.length_cons, List.length_nil, List.length_map]; omega))
  | (exact Nat.le_of_ble_eq_true rfl))
local macro_rules | `(tactic| walk_at "go") => `(tactic| repeat (first | walk_at "g1" | dsimp only))
section
variable {P : Program} {w : World} {K : PySem.W.Frag} {mg : Str → Option Value} {f : Nat → Addr} {fd : Nat → FuncData} {C aK aT : Addr} {base : Heap}
/-! ### act -/
def actP (P : Plan) (h : Sp3 → Str) (ps : List (Int × Int)) (q : Int × Int) : List (Int × Int) := if feelsQ P h (memB ps) q = memB ps q then ps else chg ps q
def sp_Wact (C : Addr) : Sp := fun vs H Q _ => ∃ (x dx : Addr) (v : V) (hw sw dw t : Addr) (P : Plan) (h : Sp3 → Str) (q : Int × Int) (ps : List (Int × Int)), vs = [.ref x, .ref t] ∧ WObj C H x dx v hw sw dw ∧ PlanR H v P ∧ GoodLs P ∧ HowsAt H hw h ∧ StopsF H sw ps ∧ ps.length ≤ 1000 ∧ TupOf2 H t q ∧ q ∈ openers P ∧
  ∀ b H', Fr [sw] H H' → StopsF H' sw (actP P h ps q) → Q (.bl b) H'
theorem ok_Wact (T : Txt K mg f fd C aK aT) : FnOk P w K mg base CX0 4 (f 33) (fd 33) ["self", "opener"] (sp_Wact C) := by
  refine T.F_Wact.ok sc_Wact (fun vs H Q E h => ?_) (fun cdv A outer s H vs Q E hr h => ?_)
  · obtain ⟨x, dx, v, hw, sw, dw, t, P, h, q, ps, rfl, _⟩ := h; rfl
  · obtain ⟨x, dx, v, hw, sw, dw, t, P, h, q, ps, rfl, hx, hP, hg, hH, hS, hl, ht, hq, k⟩ := h
    refine ⟨_, (pss_cons (ps_if (PW.pt (pw_or (pt_not (pt_val (pe_call (ok_are_whole T) (hr.mono (by decide)) (by rfl) T.m_are_whole T.F_are_whole.kp T.b_are_whole .nil pass0 (pa_cons (pv 1) (pa_cons pe_int (pa_cons pe_int (pa_cons (pe_gint (by rfl) T.c_MOST_NUMBER) pa_nil))))))) (pw_or1 (pt_cmpR (op_ninDK (K := K) rfl (hu65 hr)) (pv 1) (pe_call (ok_openers T) (hr.mono (by decide)) (by rfl) T.m_openers T.F_openers.kp T.b_openers .nil pass0 (pa_cons (pe_fldK (K := K) rfl (pv 0) rfl) pa_nil)) (by with_unfolding_all rfl))))) (pss_one ps_never)
      pss_nil)
      (pss_cons (ps_if (pt_cmpR op_eq (pe_call (ok_feels T) (hr.mono (by decide)) (by rfl) T.m_feels T.F_feels.kp T.b_feels .nil pass0 (pa_cons (pe_fldK (K := K) rfl (pv 0) rfl) (pa_cons (pe_fldK (K := K) rfl (pv 0) rfl) (pa_cons (pe_fldK (K := K) rfl (pv 0) rfl) (pa_cons (pv 1) pa_nil))))) (pe_cmp (pc_din (hu_of hr) (pv 1) (pe_fldK (K := K) rfl (pv 0) rfl))) (nomark _)) (pss_one (ps_ret pe_bl))
      pss_nil)
      (pss_cons (ps_expr (pe_meth (pv 0) T.cl T.e_Wchange (ok_Wchange T) (hr.mono (by decide)) T.b_Wchange .nil pass0 (pa_cons (pv 1) pa_nil)))
      (pss_one (ps_ret pe_bl))))), ?_⟩
    have s0 := Same.refl H
    have cl := T.cl
    have n1 := T.na_plan
    have n2 := T.na_hows
    have n3 := T.na_stops
    have hx2 : H x = some (.ins C dx (wfs v hw sw dw)) := hx
    have ht2 : H t = some (.tup [.int q.1, .int q.2]) := ht
    have bd := openers_bd hq hg
    obtain ⟨l, lp, e1, hlp, a0, a1⟩ := openers_mem hq
    walk_at "go"
    refine ⟨t, [q.1, q.2], 2, 0, 99, rfl, ht2, by simp, rfl, fun n hn => ?_, fun H1 s1 => ?_⟩
    · simp only [List.mem_cons, List.not_mem_nil, or_false] at hn
      omega
    · walk_at "go"
      refine ⟨v, P, rfl, hP.ts s1.ts, hg, fun L H2 l1 s2 lr => ?_⟩
      have s3 := s1.trans s2
      refine ⟨dp2 q, (openers P).map dp2, T2.dp ⟨t, rfl, s3 _ _ ht2⟩, lr.dp2, shaped_of (lay_dp2 q) (by decide), shaped_of (lay_l2 _) (by decide), ?_⟩
      have hany : (!((openers P).map dp2).any fun z => PyData.eqv z (dp2 q)) = false := by
        rw [Bool.not_eq_false', List.any_map]
        exact List.any_eq_true.mpr ⟨q, hq, eqv_dp2 q⟩
      walk_at "go"
      refine ⟨v, .ref t, P, hw, sw, h, memB ps, l, lp, q.2, rfl, hP.ts s3.ts, hg, hH.same s3, hS.at.same s3, ⟨t, rfl, by rw [← e1]; exact s3.get ht2⟩, hlp, a0, a1, fun H4 s4 => ?_⟩
      have s5 := s3.trans s4
      have hfe : feelsB h (memB ps) (l : Int) lp q.2 = feelsQ P h (memB ps) q := by rw [feelsQ, e1, loopAt_eq hlp]
      rw [hfe]
      walk_at "go"
      refine ⟨sw, _, rfl, DGet.t (k := ky2 q) (s5.get hS.1) (s5.get ht2), ?_⟩
      have hmm : (valV (stk ps) (ky2 q)).isSome = memB ps q := by
        rw [stk_val, memB]
        by_cases m : q ∈ ps
        · rw [if_pos m, decide_eq_true m]; rfl
        · rw [if_neg m, decide_eq_false m]; rfl
      rw [hmm]
      by_cases hc : feelsQ P h (memB ps) q = memB ps q
      · have hc2 : V.bl (feelsQ P h (memB ps) q) = V.bl (memB ps q) := by rw [hc]
        rw [actP, if_pos hc] at k
        walk_at "go"
        exact k false _ (fr_same s5) (hS.same s5)
      · have hc2 : ¬ V.bl (feelsQ P h (memB ps) q) = V.bl (memB ps q) := fun z => hc (V.bl.inj z)
        rw [actP, if_neg hc] at k
        walk_at "go"
        refine ⟨x, dx, v, hw, sw, dw, t, q, ps, rfl, s5.get hx2, hS.same s5, hl, s5.get ht2, fun H6 f6 hS6 => ?_⟩
        walk_at "go"
        exact k true _ ((fr_same s5).trans f6) hS6
/-! ### rests -/
def sp_Wrests (C : Addr) : Sp := fun vs H Q _ => ∃ (x dx : Addr) (v : V) (hw sw dw : Addr) (P : Plan) (h : Sp3 → Str) (S : Int × Int → Bool), vs = [.ref x] ∧ WObj C H x dx v hw sw dw ∧ PlanR H v P ∧ GoodLs P ∧ HowsAt H hw h ∧ StopsAt H sw S ∧ (∀ q ∈ openers P, feelsQ P h S q = S q) ∧
  ∀ H', Same H H' → Q (.bl true) H'
theorem ok_Wrests (T : Txt K mg f fd C aK aT) : FnOk P w K mg base CX0 5 (f 34) (fd 34) ["self"] (sp_Wrests C) := by
  refine T.F_Wrests.ok sc_Wrests (fun vs H Q E h => ?_) (fun cdv A outer s H vs Q E hr h => ?_)
  · obtain ⟨x, dx, v, hw, sw, dw, P, h, S, rfl, _⟩ := h; rfl
  · obtain ⟨x, dx, v, hw, sw, dw, P, h, S, rfl, hx, hP, hg, hH, hS, hq, k⟩ := h
    refine ⟨_, (pss_one (ps_ret (pe_call (ok_all_rest T) (hr.mono (by decide)) (by rfl) T.m_all_rest T.F_all_rest.kp T.b_all_rest .nil pass0 (pa_cons (pe_fldK (K := K) rfl (pv 0) rfl) (pa_cons (pe_fldK (K := K) rfl (pv 0) rfl) (pa_cons (pe_fldK (K := K) rfl (pv 0) rfl) pa_nil)))))), ?_⟩
    have s0 := Same.refl H
    have cl := T.cl
    have n1 := T.na_plan
    have n2 := T.na_hows
    have n3 := T.na_stops
    have hx2 : H x = some (.ins C dx (wfs v hw sw dw)) := hx
    walk_at "go"
    exact ⟨v, P, hw, sw, h, S, rfl, hP, hg, hH, hS, hq, k⟩
/-! ### heard -/
def devB (P : Plan) (q : Sp3) : Bool := decide (q ∈ (devices P).map (·.1))
def sp_Wheard (C : Addr) : Sp := fun vs H Q _ => ∃ (x dx : Addr) (v : V) (hw sw dw : Addr) (P : Plan) (h : Sp3 → Str) (S : Int × Int → Bool) (l : Nat) (lp : List Place) (e : Str), vs = [.ref x, .int l, .str e] ∧ WObj C H x dx v hw sw dw ∧ PlanR H v P ∧ GoodLs P ∧ HowsAt H hw h ∧ StopsAt H sw S ∧ ThereF H dw P ∧ P.loops[l]? = some lp ∧
  ∀ p ds H', H p = none → Same H H' → LR T3 H' p ds → Srt3 ds ((heardB h S l lp e).filter (devB P)) → Q (.ref p) H'
theorem fm_filter {α : Type} (b : α → Bool) : ∀ l : List α, l.filterMap (fun x => if b x = true then some x else none) = l.filter b
  | [] => rfl
  | x :: l => by
    rw [List.filterMap_cons, List.filter_cons, fm_filter b l]
    cases h : b x <;> simp [h]
theorem ok_Wheard (T : Txt K mg f fd C aK aT) : FnOk P w K mg base CX0 4 (f 36) (fd 36) ["self", "loop", "end"] (sp_Wheard C) := by
  refine T.F_Wheard.ok sc_Wheard (fun vs H Q E h => ?_) (fun cdv A outer s H vs Q E hr h => ?_)
  · obtain ⟨x, dx, v, hw, sw, dw, P, h, S, l, lp, e, rfl, _⟩ := h; rfl
  · obtain ⟨x, dx, v, hw, sw, dw, P, h, S, l, lp, e, rfl, hx, hP, hg, hH, hS, ⟨kds, hd, hdv⟩, hlp, k⟩ := h
    refine ⟨_, (pss_cons (ps_set (i := 3) sc_Wheard.nd rfl (Or.inl rfl) (pe_call (ok_heard_by T) (hr.mono (by decide)) (by rfl) T.m_heard_by T.F_heard_by.kp T.b_heard_by .nil pass0 (pa_cons (pe_fldK (K := K) rfl (pv 0) rfl) (pa_cons (pe_fldK (K := K) rfl (pv 0) rfl) (pa_cons (pe_fldK (K := K) rfl (pv 0) rfl) (pa_cons (pv 1) (pa_cons (pv 2) pa_nil)))))))
      (pss_one (ps_ret (pe_callB (cr_sortTK (K := K) (d := 3) (B := 100) rfl (by decide)) (by rfl) T.n_sorted (by decide +kernel) (pa_cons (pe_lc (own := [("spot", 4)]) rfl sc_Wheard.nd  (pi_listK (K := K) rfl (pv 3)) (blkOk_by (N := ["self", "loop", "end", "some", "spot"]) (sc := defScope s_Wheard) (by decide +kernel)) (fun _ _ _ _ _ => (pg_name (i := 4) sc_Wheard.nd rfl (Or.inl rfl))) (fun _ _ _ _ _ => pts_one (pt_cmp (pc_din (hu_of hr) (pv 4) (pe_fldK (K := K) rfl (pv 0) rfl)))) (fun _ _ _ _ _ => (pv 4))) pa_nil))))), ?_⟩
    have s0 := Same.refl H
    have cl := T.cl
    have n1 := T.na_plan
    have n2 := T.na_hows
    have n3 := T.na_stops
    have n4 := T.na_devices_there
    have hx2 : H x = some (.ins C dx (wfs v hw sw dw)) := hx
    walk_at "go"
    refine ⟨v, P, hw, sw, h, S, l, lp, e, rfl, hP, hg, hH, hS, hlp, fun L H1 l1 s1 ⟨va, hL, pa⟩ hle => ?_⟩
    have hx3 := s1.get hx2
    have hd3 := s1.get hd
    walk_at "go"
    refine lcg_list (K := K) pa hL s1 (by omega) (fun q => if devB P q = true then some q else none) T3 T3.tsx (fun pre d post x2 H5 e2 s5 s5' r2 Ky Kn ky kn => ?_) (fun D H5 d1 d2 s5 s5' l5 => ?_)
    · obtain ⟨d5, rfl, hd5⟩ := r2
      have hd6 := s5.get hd5
      have hx5 := s5.get hx3
      walk_at "go"
      refine ⟨dw, _, rfl, DGet.t (k := ky3 d) (s5.get hd3) hd6, ?_⟩
      refine i_k ?_
      rw [hdv]
      refine if2 (fun hb => ?_) (fun hb => ?_)
      · walk_at "go"
        exact ky _ _ _ (if_pos hb) (Same.refl _) ⟨d5, rfl, hd6⟩
      · exact kn _ (if_neg (by rw [devB, hb]; decide)) (Same.refl _)
    · rw [fm_filter] at l5
      obtain ⟨vs5, hD5, pr5⟩ := l5
      have hl5 := Paired.length pr5
      have hfl : ((heardB h S l lp e).filter (devB P)).length ≤ 60 := Nat.le_trans (List.length_filter_le _ _) hle
      walk_at "go"
      refine ⟨D, vs5, rfl, SqL.of hD5, by omega, fun y hy => ?_, fun ys p2 hpm hpw hp2 => ?_⟩
      · obtain ⟨j, hj⟩ := List.getElem?_of_mem hy
        obtain ⟨q, hq, t, rfl, ht⟩ := Paired.get1 pr5 hj
        have hq2 := (List.mem_filter.mp (List.mem_of_getElem? hq)).2
        have bq := devs_mem (of_decide_eq_true hq2) hg
        refine ⟨[q.1, q.2.1, q.2.2], ⟨t, rfl, SqT.of ht⟩, rfl, fun m hm => ?_⟩
        simp only [List.mem_cons, List.not_mem_nil, or_false] at hm
        obtain ⟨b1, b2, b3, b4, b5, b6⟩ := bq
        rcases hm with rfl | rfl | rfl <;> omega
      · obtain ⟨ds, hd1, hd2⟩ := paired_perm hpm pr5
        refine k p2 ds _ (s5'.free hp2) (s5'.trans (Same.upd hp2)) ⟨ys, upd_same, Paired.mapP hd2 (T3.tsx (Same.upd hp2).ts)⟩ ⟨hd1, ?_⟩
        refine paired_pw (A := fun x y => ∀ n m, TupI K _ x n → TupI K _ y m → _root_.TS.code 100 n ≤ _root_.TS.code 100 m) (fun a b x y ⟨ta, ea, ha⟩ ⟨tb, eb, hb⟩ hle => ?_) hd2 hpw
        exact hle [x.1, x.2.1, x.2.2] [y.1, y.2.1, y.2.2] ⟨ta, ea, SqT.of ha⟩ ⟨tb, eb, SqT.of hb⟩
/-! ### __init__ -/
def MetS (qs : List Sp3) (kvs : List (List Key × V)) : Prop := kvs.length ≤ qs.length ∧ ∀ q : Sp3, (valV kvs (ky3 q)).isSome = decide (q ∈ qs)
theorem MetS.put {ns : List Sp3} {kvs : List (List Key × V)} (h : MetS ns kvs) (i : Sp3) (v : V) : MetS (ns ++ [i]) (putK kvs (ky3 i) v) := by
  refine ⟨by have := putK_len2 kvs (ky3 i) v; rw [List.length_append, List.length_singleton]; have := h.1; omega, fun j => ?_⟩
  rw [valV_put]
  by_cases e : j = i
  · rw [if_pos (by rw [e])]; simp [e]
  · rw [if_neg (fun z => e (ky3_inj z)), h.2]; simp [e]
def sp_Winit (C : Addr) : Sp := fun vs H Q _ => ∃ (x dx : Addr) (v : V) (P : Plan), vs = [.ref x, v] ∧ H x = some (.ins C dx []) ∧ PlanR H v P ∧ GoodPlan P ∧
  ∀ H' hw sw dw, H hw = none → H sw = none → H dw = none → Fr [x] H H' → WObj C H' x dx v hw sw dw → H' hw = some (.dT []) → H' sw = some (.dT []) → hw ≠ sw → hw ≠ dw → sw ≠ dw → ThereF H' dw P → Q .non H'
theorem Fr.new {S : List Addr} {H H' : Hp} (f : Fr S H H') {p : Addr} (n : p ∉ S) (h : H' p = none) : H p = none := by
  cases e : H p with
  | none => rfl
  | some o => rw [f p o n e] at h; cases h
theorem ok_Winit (T : Txt K mg f fd C aK aT) : FnOk P w K mg base CX0 7 (f 26) (fd 26) ["self", "plan"] (sp_Winit C) := by
  refine T.F_Winit.ok sc_Winit (fun vs H Q E h => ?_) (fun cdv A outer s H vs Q E hr h => ?_)
  · obtain ⟨x, dx, v, P, rfl, _⟩ := h; rfl
  · obtain ⟨x, dx, v, P, rfl, hx, hP, hg, k⟩ := h
    refine ⟨_, (pss_cons (ps_if (pt_not (pt_val (pe_call (ok_is_let_by T) (hr.mono (by decide)) (by rfl) T.m_is_let_by T.F_is_let_by.kp T.b_is_let_by .nil pass0 (pa_cons (pv 1) pa_nil)))) (pss_one ps_never)
      pss_nil)
      (pss_cons (ps_fld (pv 0) (pv 1) rfl)
      (pss_cons (ps_fld (pv 0) pe_dnewT rfl)
      (pss_cons (ps_fld (pv 0) pe_dnewT rfl)
      (pss_cons (ps_fld (pv 0) pe_dnewT rfl)
      (pss_one (ps_for PassesOwn.never rfl (pi_listK (K := K) rfl (pe_call (ok_devices T) (hr.mono (by decide)) (by rfl) T.m_devices T.F_devices.kp T.b_devices .nil pass0 (pa_cons (pv 1) pa_nil))) (pg_tupK (K := K) (n := 3) rfl rfl (pgs_cons (pg_name (i := 2) sc_Winit.nd rfl (Or.inl rfl)) (pgs_cons (pg_name (i := 3) sc_Winit.nd rfl (Or.inl rfl)) (pgs_cons (pg_name (i := 4) sc_Winit.nd rfl (Or.inl rfl)) pgs_nil)))) (pss_one (ps_dput (hu_of hr) (pe_fldK (K := K) rfl (pv 0) rfl) (pv 2) (pe_tup (pa_cons (pv 3) (pa_cons (pv 4) pa_nil))) rfl))))))))), ?_⟩
    have s0 := Same.refl H
    have cl := T.cl
    walk_at "go"
    refine ⟨v, P, rfl, hP, hg, fun H1 s1 => ?_⟩
    walk_at "go"
    have hx1 := s1 _ _ hx
    refine i_sfld ?_
    walk_at "go"
    refine ⟨x, C, dx, [], rfl, hx1, cl, T.na_plan, by decide, ?_⟩
    have f1 : Fr [x] H (upd H1 x (.ins C dx (putF "plan" v []))) := (fr_same s1).trans (Fr.upd (by simp))
    have hx2 : upd H1 x (.ins C dx (putF "plan" v [])) x = some (.ins C dx (putF "plan" v [])) := upd_same
    have t1 : Tk H (upd H1 x (.ins C dx (putF "plan" v []))) := s1.ts.trans (Tk.upd hx1 nt_i)
    generalize upd H1 x (.ins C dx (putF "plan" v [])) = H2 at *
    -- the three dicts
    refine i_seq (i_sfld (i_dnT fun hw hw0 => ?_))
    have hwx : x ≠ hw := fun z => by rw [z, hw0] at hx2; cases hx2
    have hwH : H hw = none := f1.new (by simp; exact hwx.symm) hw0
    have f2 : Fr [x] H (upd H2 hw (.dT [])) := f1.trans (fr_same (Same.upd hw0))
    have hx3 : upd H2 hw (.dT []) x = some (.ins C dx (putF "plan" v [])) := by rw [upd_ne hwx]; exact hx2
    walk_at "go"
    refine ⟨x, C, dx, _, rfl, hx3, cl, T.na_hows, (show 1 < 1000 by decide), ?_⟩
    have f3 : Fr [x] H (upd (upd H2 hw (.dT [])) x (.ins C dx (putF "hows" (.ref hw) (putF "plan" v [])))) := f2.trans (Fr.upd (by simp))
    have hx4 : upd (upd H2 hw (.dT [])) x (.ins C dx (putF "hows" (.ref hw) (putF "plan" v []))) x = some (.ins C dx (putF "hows" (.ref hw) (putF "plan" v []))) := upd_same
    have hh4 : upd (upd H2 hw (.dT [])) x (.ins C dx (putF "hows" (.ref hw) (putF "plan" v []))) hw = some (.dT []) := by rw [upd_ne hwx.symm]; exact upd_same
    have t4 : Tk H (upd (upd H2 hw (.dT [])) x (.ins C dx (putF "hows" (.ref hw) (putF "plan" v [])))) := (t1.trans (Same.upd hw0).ts).trans (Tk.upd hx3 nt_i)
    generalize upd (upd H2 hw (.dT [])) x (.ins C dx (putF "hows" (.ref hw) (putF "plan" v []))) = H4 at *
    refine i_seq (i_sfld (i_dnT fun sw sw0 => ?_))
    have swx : x ≠ sw := fun z => by rw [z, sw0] at hx4; cases hx4
    have swh : hw ≠ sw := fun z => by rw [z, sw0] at hh4; cases hh4
    have swH : H sw = none := f3.new (by simp; exact swx.symm) sw0
    have hx5 : upd H4 sw (.dT []) x = some (.ins C dx (putF "hows" (.ref hw) (putF "plan" v []))) := by rw [upd_ne swx]; exact hx4
    walk_at "go"
    refine ⟨x, C, dx, _, rfl, hx5, cl, T.na_stops, (show 2 < 1000 by decide), ?_⟩
    have f6 : Fr [x] H (upd (upd H4 sw (.dT [])) x (.ins C dx (putF "stops" (.ref sw) (putF "hows" (.ref hw) (putF "plan" v []))))) := (f3.trans (fr_same (Same.upd sw0))).trans (Fr.upd (by simp))
    have hx6 : upd (upd H4 sw (.dT [])) x (.ins C dx (putF "stops" (.ref sw) (putF "hows" (.ref hw) (putF "plan" v [])))) x = some (.ins C dx (putF "stops" (.ref sw) (putF "hows" (.ref hw) (putF "plan" v [])))) := upd_same
    have hh6 : upd (upd H4 sw (.dT [])) x (.ins C dx (putF "stops" (.ref sw) (putF "hows" (.ref hw) (putF "plan" v [])))) hw = some (.dT []) := by rw [upd_ne hwx.symm, upd_ne swh]; exact hh4
    have hs6 : upd (upd H4 sw (.dT [])) x (.ins C dx (putF "stops" (.ref sw) (putF "hows" (.ref hw) (putF "plan" v [])))) sw = some (.dT []) := by rw [upd_ne swx.symm]; exact upd_same
    have t6 : Tk H (upd (upd H4 sw (.dT [])) x (.ins C dx (putF "stops" (.ref sw) (putF "hows" (.ref hw) (putF "plan" v []))))) := (t4.trans (Same.upd sw0).ts).trans (Tk.upd hx5 nt_i)
    generalize upd (upd H4 sw (.dT [])) x (.ins C dx (putF "stops" (.ref sw) (putF "hows" (.ref hw) (putF "plan" v [])))) = H6 at *
    refine i_seq (i_sfld (i_dnT fun dw dw0 => ?_))
    have dwx : x ≠ dw := fun z => by rw [z, dw0] at hx6; cases hx6
    have dwh : hw ≠ dw := fun z => by rw [z, dw0] at hh6; cases hh6
    have dws : sw ≠ dw := fun z => by rw [z, dw0] at hs6; cases hs6
    have dwH : H dw = none := f6.new (by simp; exact dwx.symm) dw0
    have hx7 : upd H6 dw (.dT []) x = some (.ins C dx (putF "stops" (.ref sw) (putF "hows" (.ref hw) (putF "plan" v [])))) := by rw [upd_ne dwx]; exact hx6
    walk_at "go"
    refine ⟨x, C, dx, _, rfl, hx7, cl, T.na_devices_there, (show 3 < 1000 by decide), ?_⟩
    have f8 : Fr [x] H (upd (upd H6 dw (.dT [])) x (.ins C dx (wfs v hw sw dw))) := (f6.trans (fr_same (Same.upd dw0))).trans (Fr.upd (by simp))
    have hx8 : upd (upd H6 dw (.dT [])) x (.ins C dx (wfs v hw sw dw)) x = some (.ins C dx (wfs v hw sw dw)) := upd_same
    have hh8 : upd (upd H6 dw (.dT [])) x (.ins C dx (wfs v hw sw dw)) hw = some (.dT []) := by rw [upd_ne hwx.symm, upd_ne dwh]; exact hh6
    have hs8 : upd (upd H6 dw (.dT [])) x (.ins C dx (wfs v hw sw dw)) sw = some (.dT []) := by rw [upd_ne swx.symm, upd_ne dws]; exact hs6
    have hd8 : upd (upd H6 dw (.dT [])) x (.ins C dx (wfs v hw sw dw)) dw = some (.dT []) := by rw [upd_ne dwx.symm]; exact upd_same
    have t8 : Tk H (upd (upd H6 dw (.dT [])) x (.ins C dx (wfs v hw sw dw))) := (t6.trans (Same.upd dw0).ts).trans (Tk.upd hx7 nt_i)
    have hwf : (putF "devices_there" (.ref dw) (putF "stops" (.ref sw) (putF "hows" (.ref hw) (putF "plan" v [])))) = wfs v hw sw dw := rfl
    rw [hwf]
    generalize upd (upd H6 dw (.dT [])) x (.ins C dx (wfs v hw sw dw)) = H8 at *
    walk_at "go"
    refine ⟨v, P, rfl, hP.ts t8, hg.loops, fun L H9 l9 s9 ⟨ys, hL, pr⟩ => ?_⟩
    have n4 := T.na_devices_there
    have hdl := hg.devs.2
    have dwL : L ≠ dw := fun z => by rw [z, hd8] at l9; cases l9
    walk_at "go"
    refine forg_list (K := K) pr (fun pre σ H' => (∃ a b c, σ = [some (.ref x), some v, a, b, c]) ∧ Fr [dw] H9 H' ∧ ∃ kvs, H' dw = some (.dT kvs) ∧ MetS (pre.map (·.1)) kvs) ⟨⟨_, _, _, rfl⟩, Fr.refl, [], s9 _ _ hd8, Nat.le_refl _, fun q => rfl⟩ (fun pre σ H' q => q.2.1.get (by simp; exact dwL) hL) (fun pre d post x2 σ H10 e hI r => ?_) (fun σ H' hI => ?_)
    · obtain ⟨⟨_, _, _, rfl⟩, f10, kvs, hd10, hm⟩ := hI
      obtain ⟨q, t, rfl, hq, tt, rfl, htt⟩ := r
      have t10 : Tk H9 H10 := f10.ts fun a ha => ⟨.dT [], by rw [List.mem_singleton.mp ha]; exact s9 _ _ hd8, nt_d⟩
      have hq10 := t10 _ _ hq
      have htt10 := t10 _ _ htt
      have hx10 := f10.get (by simp; exact dwx) (s9 _ _ hx8)
      have sX := Same.refl H10
      walk_at "go"
      rename_i p5 H11 x5 y5 st5 s11 e5
      have hl1 := hm.1
      have hl2 : pre.length ≤ (devices P).length := by rw [e, List.length_append]; omega
      rw [List.length_map] at hl1
      refine ⟨dw, _, rfl, DPut.t (k := ky3 d.1) (st5.get hd10) (st5.get htt10) (szl (by omega)), ?_⟩
      refine ⟨⟨_, _, _, rfl⟩, (f10.trans (fr_same st5.same)).trans (Fr.upd (by simp)), _, upd_same, ?_⟩
      rw [List.map_append]
      exact hm.put _ _
    · obtain ⟨⟨_, _, _, rfl⟩, f10, kvs, hd10, hm⟩ := hI
      have hfin : Fr [x] H H' := fun a o n e => f10 a o (by simp; exact fun z => by rw [z] at e; rw [dwH] at e; cases e) (s9 _ _ (f8 a o n e))
      exact k H' hw sw dw hwH swH dwH hfin (f10.get (by simp; exact dwx) (s9 _ _ hx8)) (f10.get (by simp; exact dwh) (s9 _ _ hh8)) (f10.get (by simp; exact dws) (s9 _ _ hs8)) swh dwh dws ⟨kvs, hd10, hm.2⟩
end
end Wl

namespace Wl
open PySem L2
/-! ### the step tactics -/
local macro_rules | `(tactic| walk_at "lk") => `(tactic| first
  | assumption
  | exact upd_same
  | (refine (?_ : ∀ H, SqT _ H _ _) _; assumption)
  | (apply Step.get; (focus assumption); walk_at "lk")
  | (apply upd_tupL; (focus walk_at "lk"); walk_at "lk")
  | (apply upd_tupT; (focus walk_at "lk"); walk_at "lk")
  | (apply upd_tupK; (focus walk_at "lk"); walk_at "lk")
  | (apply L2.Same.get; (focus assumption); assumption)
  | (apply L2.Same.get; rotate_left; (focus assumption); assumption)
  | (apply SqT.of; walk_at "lk")
  | (apply SqL.of; walk_at "lk"))
local macro_rules | `(tactic| walk_at "sm") => `(tactic| first
  | assumption
  | (apply L2.Same.mut; (focus walk_at "sm"); (focus assumption)))
local macro_rules | `(tactic| walk_at "cond") => `(tactic| first
  | rfl
  | assumption
  | (exact dt (by first | rfl | assumption | omega | (simp; done) | (simp; omega)))
  | (exact df (by first | assumption | omega | (simp; done) | (simp; omega)))
  | (exact ndt (by first | rfl | assumption | omega | (simp; done) | (simp; omega)))
  | (exact ndf (by first | assumption | omega | (simp; done) | (simp; omega)))
  | (simp; done))
local macro_rules | `(tactic| walk_at "cond1") => `(tactic| first
  | assumption
  | with_reducible rfl
  | with_reducible exact n_t
  | with_reducible exact n_f
  | with_reducible exact dt (by assumption)
  | with_reducible exact df (by assumption)
  | with_reducible exact ndt (by assumption)
  | with_reducible exact ndf (by assumption))
local macro_rules | `(tactic| walk_at "g1") => `(tactic| first
  | with_reducible refine i_seq ?_
  | with_reducible refine i_asg ?_
  | with_reducible refine i_name ?_
  | with_reducible refine i_ret ?_
  | with_reducible refine i_drop ?_
  | with_reducible refine i_if ?_
  | with_reducible refine i_next ?_
  | with_reducible refine i_break ?_
  | with_reducible refine i_c ?_
  | ((with_reducible apply i_var); (focus (rfl)))
  | with_reducible refine i_op ?_
  | with_reducible refine i_cons ?_
  | with_reducible refine i_nil ?_
  | with_reducible refine i_cb ?_
  | with_reducible refine i_call ?_
  | ((with_reducible apply i_ixT); (focus (walk_at "lk")); (focus (first | rfl | assumption)))
  | ((with_reducible apply i_ixL); (focus (walk_at "lk")); (focus (first | rfl | assumption)))
  | with_reducible refine i_I0 ?_
  | ((with_reducible apply i_eq); (focus (rfl)))
  | ((with_reducible apply i_ne); (focus (rfl)))
  | with_reducible refine i_un ?_
  | with_reducible refine i_neg ?_
  | with_reducible refine i_andV ?_
  | with_reducible refine i_orV ?_
  | with_reducible refine i_notV ?_
  | with_reducible refine i_chain ?_
  | with_reducible refine i_test ?_
  | with_reducible refine i_B ?_
  | with_reducible refine i_k ?_
  | with_reducible refine i_and ?_
  | with_reducible refine i_or ?_
  | with_reducible refine i_not ?_
  | with_reducible refine i_yes ?_
  | (with_reducible refine i_isiI kit_ii ?_)
  | (with_reducible refine i_isiI kit_ib ?_)
  | (with_reducible refine i_isiS kit_ss ?_)
  | ((with_reducible apply i_isiT); (focus (walk_at "lk")); (focus (exact kit_tt)))
  | ((with_reducible apply i_len); (focus (first | (apply Or.inr; walk_at "lk") | (apply Or.inl; walk_at "lk"))))
  | ((with_reducible apply i_lens); (focus (walk_at "sz")))
  | (with_reducible refine i_sign ?_)
  | ((with_reducible apply i_inT); (focus (walk_at "lk")); (focus (rfl)); (focus (rfl)))
  | ((with_reducible apply i_inL); (focus (walk_at "lk")); (focus (rfl)); (focus (rfl)))
  | ((with_reducible apply i_ninL); (focus (walk_at "lk")); (focus (rfl)); (focus (rfl)))
  | ((with_reducible apply i_all); (focus (walk_at "lk")))
  | ((with_reducible apply i_any); (focus (walk_at "lk")))
  | ((with_reducible apply ift); (focus (walk_at "cond1")))
  | ((with_reducible apply iff_); (focus (walk_at "cond1")))
  | ((with_reducible apply ift); (focus (rfl)))
  | ((with_reducible apply iff_); (focus (rfl)))
  | ((with_reducible apply ift); (focus (walk_at "cond")))
  | ((with_reducible apply iff_); (focus (walk_at "cond")))
  | with_reducible refine i_tup ?_
  | (with_reducible refine i_new2 (by walk_at "sm") ?_; intro _ _ _ _ _ _ _)
  | with_reducible refine i_dnK ?_
  | with_reducible refine i_dnT ?_
  | with_reducible refine i_lc ?_
  | with_reducible refine i_for ?_
  | with_reducible refine i_iTup ?_
  | with_reducible refine i_iList ?_
  | ((with_reducible apply i_tupW); (focus (walk_at "lk")))
  | ((with_reducible apply i_listW); (focus (walk_at "lk")))
  | with_reducible refine i_iRng1 ?_
  | ((with_reducible apply i_rng1); (focus (walk_at "bnd")))
  | with_reducible refine i_iRng2 ?_
  | ((with_reducible apply i_rng2); (focus (walk_at "bnd")))
  | with_reducible refine i_iStr ?_
  | with_reducible refine i_iEnT ?_
  | with_reducible refine i_iEnum ?_
  | ((with_reducible apply i_enTW); (focus (walk_at "lk")))
  | ((with_reducible apply i_enLW); (focus (walk_at "lk")))
  | with_reducible refine i_strW ?_
  | with_reducible refine i_lst ?_
  | with_reducible refine i_bm ?_
  | with_reducible refine i_fld ?_
  | with_reducible refine i_dget2 ?_
  | with_reducible refine i_dget ?_
  | with_reducible refine i_din ?_
  | with_reducible refine i_dnotin ?_
  | with_reducible refine i_dputT ?_
  | with_reducible refine i_isN ?_
  | with_reducible refine i_notN ?_
  | ((with_reducible apply i_gtup); (focus (walk_at "lk")); (focus (rfl)))
  | with_reducible refine i_gcons ?_
  | with_reducible refine i_gnil ?_
  | with_reducible refine i_sl ?_
  | with_reducible refine i_nopart ?_
  | with_reducible refine i_part ?_
  | ((with_reducible apply i_app); (focus (walk_at "lk")); (focus (walk_at "sz")))
  | with_reducible refine i_2i ?_
  | with_reducible refine i_par ?_
  | with_reducible refine i_m1 ?_
  | with_reducible refine i_ex1 ?_
  | with_reducible refine i_isS ?_
  | ((with_reducible apply i_slS); (focus (walk_at "sz")))
  | with_reducible refine i_add_str ?_
  | with_reducible refine i_abs ?_
  | with_reducible refine i_gsub ?_
  | ((with_reducible apply i_setL); (focus (walk_at "lk")); (focus (rfl)))
  | ((with_reducible apply i_I); (focus (walk_at "arith")))
  | ((with_reducible apply i_fldw); (focus (walk_at "lk")); (focus assumption); (focus assumption); (focus (first | exact lk_plan | exact lk_hows | exact lk_stops | exact lk_dev)))
  | with_reducible refine i_meth ?_
  | ((with_reducible apply i_methW); (focus (walk_at "lk")); (focus (first | exact nm_need | exact nm_change | exact nm_parted | exact nm_act | exact nm_cut | exact nm_short | exact nm_mend | exact nm_rests | exact nm_come | exact nm_heard)))
  | ((with_reducible apply i_isD); (focus (walk_at "lk")))
  | ((with_reducible apply i_ext); (focus (walk_at "lk")); (focus (walk_at "lk")); (focus (walk_at "sz")))
  | ((with_reducible apply And.intro); (focus (first | (show wipe _ _ = wipe _ _; rfl) | (walk_at "sz")))))
local macro_rules | `(tactic| walk_at "arith") => `(tactic| first
  | assumption
  | (refine Or.inl ?_; (constructor <;> omega))
  | (refine Or.inr ?_; (constructor <;> omega))
  | (show (0 : Int) < _; omega)
  | (show 0 < _ ∧ _ < _; (constructor <;> omega))
  | (show CPow 10 18; exact ⟨by decide, by decide, by decide⟩))
local macro_rules | `(tactic| walk_at "bnd") => `(tactic| first
  | omega
  | (refine ⟨?_, ?_⟩ <;> omega))
local macro_rules | `(tactic| walk_at "sz") => `(tactic| first
  | (apply ty_l; walk_at "lk")
  | (apply ty_d; walk_at "lk")
  | (exact szle (by omega))
  | (exact szl (by omega))
  | (exact szle (by simp only [List.length_append, List.length_cons, List.length_nil, List.length_map]; omega))
  | (exact szl (by simp only [List.length_append, List.length_cons, List.length_nil, List.length_map]; omega))
  | (exact Nat.le_of_ble_eq_true rfl))
local macro_rules | `(tactic| walk_at "go") => `(tactic| repeat (first | walk_at "g1" | dsimp only))
/-! ### openers are told once -/
theorem enumF_nodup {α β : Type} {f : Nat → α → List β} : ∀ {xs : List α} {k : Nat}, (∀ i, ∀ x ∈ xs, (f i x).Nodup) → (∀ i j x y b, b ∈ f i x → b ∈ f j y → i = j) → (enumF f k xs).Nodup
  | [], k, _, _ => List.nodup_nil
  | x :: xs, k, h1, h2 => by
    rw [enumF, List.nodup_append]
    refine ⟨h1 k x (List.mem_cons_self ..), enumF_nodup (fun i y hy => h1 i y (List.mem_cons_of_mem _ hy)) h2, fun a ha b hb e => ?_⟩
    rw [enumF_mem] at hb
    obtain ⟨i, y, hy, hb⟩ := hb
    rw [e] at ha
    have := h2 _ _ _ _ _ ha hb
    omega
theorem openers_nodup (P : Plan) : (openers P).Nodup := by
  refine enumF_nodup (fun l lp _ => ?_) (fun i j x y b h1 h2 => ?_)
  · rw [List.nodup_cons]
    refine ⟨fun h => ?_, ?_⟩
    · rcases List.mem_append.mp h with h | h
      · rw [enumF_mem] at h
        obtain ⟨i, x, _, hx⟩ := h
        rw [opnPl] at hx
        split at hx
        · rw [List.mem_singleton] at hx
          have := congrArg Prod.snd hx
          simp only at this
          omega
        · cases hx
      · rw [List.mem_singleton] at h
        have := congrArg Prod.snd h
        simp only at this
        omega
    · rw [List.nodup_append]
      refine ⟨enumF_nodup (fun i x _ => by rw [opnPl]; split <;> simp) (fun i j x y b h1 h2 => ?_), by simp, fun a ha b hb e => ?_⟩
      · rw [opnPl] at h1 h2
        split at h1
        · split at h2
          · rw [List.mem_singleton] at h1 h2
            rw [h1] at h2
            have := congrArg Prod.snd h2
            simp only at this
            omega
          · cases h2
        · cases h1
      · rw [List.mem_singleton] at hb
        rw [enumF_mem] at ha
        obtain ⟨i, x, hx0, hx⟩ := ha
        have hlt := (List.getElem?_eq_some_iff.mp hx0).1
        rw [opnPl] at hx
        split at hx
        · rw [List.mem_singleton] at hx
          rw [e, hb] at hx
          have := congrArg Prod.snd hx
          simp only at this
          omega
        · cases hx
  · have key : ∀ (l : Nat) (lp : List Place) (b : Int × Int), b ∈ (((l : Int), 0) : Int × Int) :: (enumF (fun a q => opnPl l a q) 0 lp ++ [((l : Int), (lp.length : Int) + 1)]) → b.1 = (l : Int) := by
      intro l lp b h
      rcases List.mem_cons.mp h with rfl | h
      · rfl
      · rcases List.mem_append.mp h with h | h
        · rw [enumF_mem] at h
          obtain ⟨i, x, _, hx⟩ := h
          rw [opnPl] at hx
          split at hx
          · rw [List.mem_singleton] at hx; rw [hx]
          · cases hx
        · rw [List.mem_singleton] at h; rw [h]
    have e1 := key i x b h1
    have e2 := key j y b h2
    omega
/-! ### come_to_rest -/
def rowP (P : Plan) (h : Sp3 → Str) (ps : List (Int × Int)) (q : Int × Int) : List (Int × Int) := if ¬ q ∈ ps ∧ feelsQ P h (memB (openers P)) q = true then chg ps q else ps
theorem chg_le (ps : List (Int × Int)) (q : Int × Int) : (chg ps q).length ≤ ps.length + 1 := by
  rw [chg]
  split
  · exact Nat.le_succ_of_le (List.length_filter_le _ _)
  · rw [List.length_append]; exact Nat.le_refl _
theorem chg_sub {ps os : List (Int × Int)} {q : Int × Int} (h : ∀ r ∈ ps, r ∈ os) (hq : q ∈ os) : ∀ r ∈ chg ps q, r ∈ os := fun r hr => by
  rw [chg_mem] at hr
  split at hr
  · rename_i e; rw [e]; exact hq
  · exact h r hr
theorem actP_sub {P : Plan} {h : Sp3 → Str} {ps os : List (Int × Int)} {q : Int × Int} (hs : ∀ r ∈ ps, r ∈ os) (hq : q ∈ os) : ∀ r ∈ actP P h ps q, r ∈ os := by
  rw [actP]
  split
  · exact hs
  · exact chg_sub hs hq
theorem rowP_sub {P : Plan} {h : Sp3 → Str} {ps os : List (Int × Int)} {q : Int × Int} (hs : ∀ r ∈ ps, r ∈ os) (hq : q ∈ os) : ∀ r ∈ rowP P h ps q, r ∈ os := by
  rw [rowP]
  split
  · exact chg_sub hs hq
  · exact hs
theorem foldl_sub {g : List (Int × Int) → Int × Int → List (Int × Int)} {os : List (Int × Int)} (hg : ∀ ps q, (∀ r ∈ ps, r ∈ os) → q ∈ os → ∀ r ∈ g ps q, r ∈ os) : ∀ (qs ps : List (Int × Int)), (∀ r ∈ ps, r ∈ os) → (∀ r ∈ qs, r ∈ os) → ∀ r ∈ qs.foldl g ps, r ∈ os
  | [], ps, h, _ => h
  | q :: qs, ps, h, hq => foldl_sub hg qs (g ps q) (hg ps q h (hq q (List.mem_cons_self ..))) fun r hr => hq r (List.mem_cons_of_mem _ hr)
section
variable {P : Program} {w : World} {K : PySem.W.Frag} {mg : Str → Option Value} {f : Nat → Addr} {fd : Nat → FuncData} {C aK aT : Addr} {base : Heap}
def PrR (H : Hp) (v : V) (q : Int × Int) : Prop := ∃ a b, v = .ref a ∧ H a = some (.tup [.ref b, .bl true]) ∧ H b = some (.tup [.int q.1, .int q.2])
theorem PrR.ts {H H' : Hp} (t : Tk H H') (v : V) (d : Int × Int) (h : PrR H v d) : PrR H' v d := let ⟨a, b, e, h, g⟩ := h; ⟨a, b, e, t _ _ h, t _ _ g⟩
theorem PrR.split {H : Hp} {vs : List V} {ds : List (Int × Int)} (h : Paired (PrR H) vs ds) : ∃ ps : List (Addr × Addr), vs = ps.map (fun p => V.ref p.1) ∧ Paired (PairT H) ps (stk ds) := by
  induction h with
  | nil => exact ⟨[], rfl, .nil⟩
  | cons f _ ih =>
    obtain ⟨ps, e, p⟩ := ih
    obtain ⟨a, b, rfl, h1, h2⟩ := f
    exact ⟨(a, b) :: ps, by rw [e]; rfl, .cons ⟨h1, h2⟩ p⟩
theorem stk_keys {ps : List (Int × Int)} (h : ps.Nodup) : ((stk ps).map (·.1)).Nodup := by
  rw [stk, List.map_map]
  have : ∀ ps : List (Int × Int), ps.Nodup → (ps.map ky2).Nodup := by
    intro ps
    induction ps with
    | nil => intro _; exact List.nodup_nil
    | cons q ps ih =>
      intro h
      rw [List.nodup_cons] at h
      rw [List.map_cons, List.nodup_cons]
      refine ⟨fun m => ?_, ih h.2⟩
      obtain ⟨r, hr, e⟩ := List.mem_map.mp m
      exact h.1 (ky2_inj e ▸ hr)
  exact this ps h
def sp_Wcome_to_rest (C : Addr) : Sp := fun vs H Q _ => ∃ (x dx : Addr) (v : V) (hw sw dw : Addr) (P : Plan) (h : Sp3 → Str) (ps : List (Int × Int)), vs = [.ref x] ∧ WObj C H x dx v hw sw dw ∧ hw ≠ sw ∧ PlanR H v P ∧ GoodLs P ∧ HowsAt H hw h ∧ StopsF H sw ps ∧ (∀ q ∈ ps, q ∈ openers P) ∧
  ∀ p ds H', Fr [sw] H H' → Srt2 ds ((openers P).foldl (rowP P h) ps) → StopsF H' sw (ds.foldl (actP P h) ((openers P).foldl (rowP P h) ps)) → Q (.ref p) H'
theorem ok_Wcome_to_rest (T : Txt K mg f fd C aK aT) : FnOk P w K mg base CX0 5 (f 35) (fd 35) ["self"] (sp_Wcome_to_rest C) := by
  refine T.F_Wcome_to_rest.ok sc_Wcome_to_rest (fun vs H Q E h => ?_) (fun cdv A outer s H vs Q E hr h => ?_)
  · obtain ⟨x, dx, v, hw, sw, dw, P, h, ps, rfl, _⟩ := h; rfl
  · obtain ⟨x, dx, v, hw, sw, dw, P, h, ps, rfl, hx, hws, hP, hg, hH, hS, hsub, k⟩ := h
    refine ⟨_, (pss_cons (ps_set (i := 1) sc_Wcome_to_rest.nd rfl (Or.inl rfl) (pe_lst pa_nil))
      (pss_cons (ps_set (i := 2) sc_Wcome_to_rest.nd rfl (Or.inl rfl) (pe_callTy (call_dictX (K := K) rfl rfl (hu64 hr)) (by rfl) T.n_dict (by decide +kernel) (pa_cons (pe_lc (own := [("opener", 3)]) rfl sc_Wcome_to_rest.nd  (pi_listK (K := K) rfl (pe_call (ok_openers T) (hr.mono (by decide)) (by rfl) T.m_openers T.F_openers.kp T.b_openers .nil pass0 (pa_cons (pe_fldK (K := K) rfl (pv 0) rfl) pa_nil))) (blkOk_by (N := ["self", "row", "every", "opener"]) (sc := defScope s_Wcome_to_rest) (by decide +kernel)) (fun _ _ _ _ _ => (pg_name (i := 3) sc_Wcome_to_rest.nd rfl (Or.inl rfl))) (fun _ _ _ _ _ => pts_nil) (fun _ _ _ _ _ => (pe_tup (pa_cons (pv 3) (pa_cons pe_bl pa_nil))))) pa_nil)))
      (pss_cons (ps_for PassesOwn.never rfl (pi_listK (K := K) rfl (pe_call (ok_openers T) (hr.mono (by decide)) (by rfl) T.m_openers T.F_openers.kp T.b_openers .nil pass0 (pa_cons (pe_fldK (K := K) rfl (pv 0) rfl) pa_nil))) (pg_name (i := 3) sc_Wcome_to_rest.nd rfl (Or.inl rfl)) (pss_one (ps_if (PW.pt (pw_and (pt_cmp (pc_dnotin (hu_of hr) (pv 3) (pe_fldK (K := K) rfl (pv 0) rfl))) (pw_and1 (pt_val (pe_call (ok_feels T) (hr.mono (by decide)) (by rfl) T.m_feels T.F_feels.kp T.b_feels .nil pass0 (pa_cons (pe_fldK (K := K) rfl (pv 0) rfl) (pa_cons (pe_fldK (K := K) rfl (pv 0) rfl) (pa_cons (pv 2) (pa_cons (pv 3) pa_nil))))))))) (pss_cons (ps_expr (pe_bmK (K := K) rfl PySem.F.plainAttrs_list PySem.F.slot_list_append PySem.F.type_list_append mt_append (pv 1) (pa_cons (pv 3) pa_nil)))
      (pss_one (ps_expr (pe_meth (pv 0) T.cl T.e_Wchange (ok_Wchange T) (hr.mono (by decide)) T.b_Wchange .nil pass0 (pa_cons (pv 3) pa_nil)))))
      pss_nil)))
      (pss_cons (ps_for PassesOwn.never rfl (pi_listK (K := K) rfl (pe_meth0 (pv 0) T.cl T.e_Wparted (ok_Wparted T) (hr.mono (by decide)) T.b_Wparted .nil pass0)) (pg_name (i := 3) sc_Wcome_to_rest.nd rfl (Or.inl rfl)) (pss_one (ps_if (pt_val (pe_meth (pv 0) T.cl T.e_Wact (ok_Wact T) (hr.mono (by decide)) T.b_Wact .nil pass0 (pa_cons (pv 3) pa_nil))) (pss_one (ps_expr (pe_bmK (K := K) rfl PySem.F.plainAttrs_list PySem.F.slot_list_append PySem.F.type_list_append mt_append (pv 1) (pa_cons (pv 3) pa_nil))))
      pss_nil)))
      (pss_one (ps_ret (pv 1))))))), ?_⟩
    have s0 := Same.refl H
    have cl := T.cl
    have n1 := T.na_plan
    have n2 := T.na_hows
    have n3 := T.na_stops
    have hx2 : H x = some (.ins C dx (wfs v hw sw dw)) := hx
    have hol := openers_le hg
    obtain ⟨kvs, hhw, hhv⟩ := id hH
    walk_at "go"
    rename_i R H1 f1 f2 st1 s1 hR
    have hx3 := s1.get hx2
    refine ⟨v, P, rfl, hP.ts s1.ts, hg, fun L H2 l1 s2 ⟨vl, hL, pl⟩ => ?_⟩
    have s3 := s1.trans s2
    walk_at "go"
    refine lcg_list (K := K) pl hL s3 (by omega) (fun q => some q) PrR PrR.ts (fun pre d post x2 H5 e2 s5 s5' r2 Ky Kn ky kn => ?_) (fun D H5 d1 d2 s5 s5' l5 => ?_)
    · obtain ⟨d5, rfl, hd5⟩ := r2
      have hd6 := s5.get hd5
      walk_at "go"
      rename_i p6 H6 x6 y6 st6 s6 e6
      exact ky _ _ _ rfl st6.same ⟨p6, d5, rfl, e6, st6.get hd6⟩
    · rw [fm_some, List.map_id'] at l5
      obtain ⟨v5, hD5, pr5⟩ := l5
      obtain ⟨pp, rfl, prp⟩ := PrR.split pr5
      walk_at "go"
      refine ⟨D, pp, stk (openers P), rfl, SqL.of hD5, prp, stk_keys (openers_nodup P), ?_⟩
      walk_at "go"
      rename_i E7 H7 x7 y7 st7 s7 hE
      have hx7 := s7.get hx2
      have hR7 : H7 R = some (.lst []) := st7.get (s5 _ _ (s2 _ _ hR))
      have hE7 : StopsF H7 E7 (openers P) := ⟨hE, openers_nodup P⟩
      refine ⟨v, P, rfl, hP.ts s7.ts, hg, fun L8 H8 l8 s8 ⟨vl8, hL8, pl8⟩ => ?_⟩
      have s9 := s7.trans s8
      have hx9 := s9.get hx2
      have hR9 := s8.get hR7
      have hS9 := hS.same s9
      have hE9 := hE7.same s8
      have hH9 := hH.same s9
      -- who is who
      have swR : sw ≠ R := fun z => by have := hS.1; rw [z, f1] at this; cases this
      have swE : sw ≠ E7 := fun z => by have := hS.1; rw [z, y7] at this; cases this
      have xS : x ≠ sw := fun z => by have := hS.1; rw [← z, hx2] at this; cases this
      have xR : x ≠ R := fun z => by rw [z, f1] at hx2; cases hx2
      have hR' : hw ≠ R := fun z => by rw [z, f1] at hhw; cases hhw
      have ER : E7 ≠ R := fun z => by have := hE7.1; rw [z, hR7] at this; cases this
      have LS : L8 ≠ sw := fun z => by have := (hS.same s7).1; rw [← z, l8] at this; cases this
      have LRn : L8 ≠ R := fun z => by rw [← z, l8] at hR7; cases hR7
      have tk : ∀ {H'}, Fr [sw, R] H8 H' → Tk H8 H' := fun fr => fr.ts fun a ha => by
        simp only [List.mem_cons, List.not_mem_nil, or_false] at ha
        rcases ha with rfl | rfl
        · exact ⟨_, hS9.1, nt_d⟩
        · exact ⟨_, hR9, nt_l⟩
      have gx : ∀ {H'}, Fr [sw, R] H8 H' → H' x = some (.ins C dx (wfs v hw sw dw)) := fun fr => fr.get (by simp; exact ⟨xS, xR⟩) hx9
      have gh : ∀ {H'}, Fr [sw, R] H8 H' → HowsAt H' hw h := fun fr => ⟨kvs, fr.get (by simp; exact ⟨hws, hR'⟩) (s9 _ _ hhw), hhv⟩
      have ge : ∀ {H'}, Fr [sw, R] H8 H' → StopsF H' E7 (openers P) := fun fr => ⟨fr.get (by simp; exact ⟨swE.symm, ER⟩) hE9.1, openers_nodup P⟩
      have bl : ∀ {qs : List (Int × Int)}, qs.Nodup → (∀ q ∈ qs, q ∈ openers P) → qs.length ≤ 42 := fun hn hs => Nat.le_trans (nodup_le hn hs) hol
      walk_at "go"
      refine forg_list (K := K) pl8 (fun pre σ H' => (∃ z, σ = [some (.ref x), some (.ref R), some (.ref E7), z]) ∧ Fr [sw, R] H8 H' ∧ StopsF H' sw (pre.foldl (rowP P h) ps) ∧ (∀ q ∈ pre.foldl (rowP P h) ps, q ∈ openers P) ∧ ∃ vs, H' R = some (.lst vs) ∧ vs.length ≤ pre.length) ⟨⟨_, rfl⟩, Fr.refl, hS9, hsub, [], hR9, Nat.le_refl _⟩ (fun pre σ H' q => q.2.1.get (by simp; exact ⟨LS, LRn⟩) hL8) (fun pre q post x2 σ H10 e hI r => ?_) (fun σ H' hI => ?_)
      · obtain ⟨⟨_, rfl⟩, f10, hS10, hsub10, vs, hR10, hvl⟩ := hI
        obtain ⟨t, rfl, ht⟩ := r
        have ht10 := tk f10 _ _ ht
        have hx10 := gx f10
        have hb10 := bl hS10.2 hsub10
        have hqo : q ∈ openers P := sub_pre e
        obtain ⟨l, lp, e1, hlp, a0, a1⟩ := openers_mem hqo
        have hvl2 : vs.length ≤ 100 := by have : pre.length ≤ (openers P).length := by { rw [e, List.length_append]; omega }
                                          omega
        have hlen : (pre ++ [q]).length = pre.length + 1 := by simp
        have hfl : (pre ++ [q]).foldl (rowP P h) ps = rowP P h (pre.foldl (rowP P h) ps) q := by rw [List.foldl_append]; rfl
        rw [hfl, hlen]
        generalize pre.foldl (rowP P h) ps = qs at *
        walk_at "go"
        refine ⟨sw, _, rfl, DGet.t (k := ky2 q) hS10.1 ht10, ?_⟩
        rw [stk_val]
        by_cases m : q ∈ qs
        · rw [if_pos m]
          walk_at "go"
          refine ⟨⟨_, rfl⟩, f10, ?_, ?_, vs, hR10, by omega⟩
          · rw [rowP, if_neg (fun z => z.1 m)]; exact hS10
          · rw [rowP, if_neg (fun z => z.1 m)]; exact hsub10
        · rw [if_neg m]
          walk_at "go"
          refine ⟨v, .ref t, P, hw, E7, h, memB (openers P), l, lp, q.2, rfl, (hP.ts s9.ts).ts (tk f10), hg, gh f10, (ge f10).at, ⟨t, rfl, by rw [← e1]; exact ht10⟩, hlp, a0, a1, fun H11 s11 => ?_⟩
          have hfe : feelsB h (memB (openers P)) (l : Int) lp q.2 = feelsQ P h (memB (openers P)) q := by rw [feelsQ, e1, loopAt_eq hlp]
          rw [hfe]
          have f11 := f10.trans (fr_same s11)
          have hR11 := s11.get hR10
          have hS11 := hS10.same s11
          refine i_k ?_
          refine if2 (fun hb => ?_) (fun hb => ?_)
          · walk_at "go"
            have hS12 : StopsF (upd H11 R (.lst (vs ++ [.ref t]))) sw qs := ⟨by rw [upd_ne swR]; exact hS11.1, hS11.2⟩
            have f12 : Fr [sw, R] H8 (upd H11 R (.lst (vs ++ [.ref t]))) := f11.trans (Fr.upd (by simp))
            have hR12 : upd H11 R (.lst (vs ++ [.ref t])) R = some (.lst (vs ++ [.ref t])) := upd_same
            generalize upd H11 R (.lst (vs ++ [.ref t])) = H12 at *
            have hx12 := gx f12
            walk_at "go"
            refine ⟨x, dx, v, hw, sw, dw, t, q, qs, rfl, hx12, hS12, by omega, tk f12 _ _ ht, fun H13 f13 hS13 => ?_⟩
            walk_at "go"
            refine ⟨⟨_, rfl⟩, f12.trans (f13.mono (by simp)), ?_, ?_, _, f13.get (by simp; exact swR.symm) hR12, by rw [List.length_append, List.length_singleton]; omega⟩
            · rw [rowP, if_pos ⟨m, hb⟩]; exact hS13
            · rw [rowP, if_pos ⟨m, hb⟩]; exact chg_sub hsub10 hqo
          · walk_at "go"
            refine ⟨⟨_, rfl⟩, f11, ?_, ?_, vs, hR11, by omega⟩
            · rw [rowP, if_neg (fun z => by rw [hb] at z; exact absurd z.2 (by decide))]; exact hS11
            · rw [rowP, if_neg (fun z => by rw [hb] at z; exact absurd z.2 (by decide))]; exact hsub10
      · obtain ⟨⟨_, rfl⟩, f10, hS10, hsub10, vs, hR10, hvl⟩ := hI
        have hx10 := gx f10
        have hb10 := bl hS10.2 hsub10
        generalize (openers P).foldl (rowP P h) ps = qs at *
        walk_at "go"
        refine ⟨x, dx, v, hw, sw, dw, qs, rfl, hx10, hS10, by omega, fun q hq => ?_, fun L11 ds H11 l11 s11 ⟨vl11, hL11, pl11⟩ hsrt => ?_⟩
        · have := openers_bd (hsub10 q hq) hg
          exact ⟨by omega, by omega, by omega, by omega⟩
        have f11 := f10.trans (fr_same s11)
        have LS2 : L11 ≠ sw := fun z => by have := hS10.1; rw [← z, l11] at this; cases this
        have LR2 : L11 ≠ R := fun z => by rw [← z, l11] at hR10; cases hR10
        have hdl := hsrt.1.length_eq
        walk_at "go"
        refine forg_list (K := K) pl11 (fun pre σ H' => (∃ z, σ = [some (.ref x), some (.ref R), some (.ref E7), z]) ∧ Fr [sw, R] H11 H' ∧ StopsF H' sw (pre.foldl (actP P h) qs) ∧ (∀ q ∈ pre.foldl (actP P h) qs, q ∈ openers P) ∧ ∃ vs, H' R = some (.lst vs) ∧ vs.length ≤ 42 + pre.length) ⟨⟨_, rfl⟩, Fr.refl, hS10.same s11, hsub10, vs, s11.get hR10, by show _ ≤ 42 + 0; omega⟩ (fun pre σ H' q => q.2.1.get (by simp; exact ⟨LS2, LR2⟩) hL11) (fun pre q post x2 σ H12 e hI r => ?_) (fun σ H' hI => ?_)
        · obtain ⟨⟨_, rfl⟩, f12, hS12, hsub12, vs2, hR12, hvl2⟩ := hI
          obtain ⟨t, rfl, ht⟩ := r
          have f12' := f11.trans f12
          have tk2 : Tk H11 H12 := f12.ts fun a ha => by
            simp only [List.mem_cons, List.not_mem_nil, or_false] at ha
            rcases ha with rfl | rfl
            · exact ⟨_, (hS10.same s11).1, nt_d⟩
            · exact ⟨_, s11.get hR10, nt_l⟩
          have ht12 := tk2 _ _ ht
          have hx12 := gx f12'
          have hb12 := bl hS12.2 hsub12
          have hqo : q ∈ openers P := hsub10 q (hsrt.1.mem_iff.mp (sub_pre e))
          have hpl : pre.length + 1 ≤ ds.length := by rw [e, List.length_append, List.length_cons]; omega
          have hlen : (pre ++ [q]).length = pre.length + 1 := by simp
          have hfl : (pre ++ [q]).foldl (actP P h) qs = actP P h (pre.foldl (actP P h) qs) q := by rw [List.foldl_append]; rfl
          rw [hfl, hlen]
          generalize pre.foldl (actP P h) qs = rs at *
          walk_at "go"
          refine ⟨x, dx, v, hw, sw, dw, t, P, h, q, rs, rfl, hx12, (hP.ts s9.ts).ts (tk f12'), hg, gh f12', hS12, by omega, ht12, hqo, fun b H13 f13 hS13 => ?_⟩
          have f14 : Fr [sw, R] H11 H13 := f12.trans (f13.mono (by simp))
          have hR13 := f13.get (by simp; exact swR.symm) hR12
          have hsub13 : ∀ r ∈ actP P h rs q, r ∈ openers P := actP_sub hsub12 hqo
          refine i_k ?_
          refine if2 (fun hb => ?_) (fun hb => ?_)
          · walk_at "go"
            exact ⟨⟨_, rfl⟩, f14.trans (Fr.upd (by simp)), ⟨by rw [upd_ne swR]; exact hS13.1, hS13.2⟩, hsub13, _, upd_same, by rw [List.length_append, List.length_singleton]; omega⟩
          · walk_at "go"
            exact ⟨⟨_, rfl⟩, f14, hS13, hsub13, vs2, hR13, by omega⟩
        · obtain ⟨⟨_, rfl⟩, f12, hS12, hsub12, vs2, hR12, hvl2⟩ := hI
          walk_at "go"
          refine k R ds _ (fun a o n e => ?_) hsrt hS12
          exact (f11.trans f12) a o (by simp only [List.mem_cons, List.not_mem_nil, or_false]; exact fun z => z.elim (fun z => n (by simp [z])) (fun z => by rw [z, f1] at e; cases e)) (s9 _ _ e)
end
end Wl

namespace Wl
open PySem L2
/-! ### comprehensions that change what stands -/
section
variable {K : PySem.W.Frag} {σ : L2.St} {H H0 H1 : Hp} {Q : VK} {te : TE} {tt : TT} {D : Ends} {g : TG} {vs : List Nat} {α : Type} {J : It} {n : Nat} {G : Hp → Prop} {Y : Nat → Hp → V → Hp → Prop}
theorem lcg_m (w : Walk J n G Y) (ds : List α) (hn : ds.length = n) (hb : n ≤ 10000) (I : Addr → List α → List V → Hp → Prop) (h0 : ∀ D, H1 D = none → I D [] [] (upd H1 D (.lst []))) (hG : ∀ D pre outs H, I D pre outs H → G H)
    (turn : ∀ D pre d post outs x H H', H1 D = none → ds = pre ++ d :: post → outs.length ≤ pre.length → H D = some (.lst outs) → I D pre outs H → Y pre.length H x H' → ∀ (Ky : V → Hp → Prop) (Kn : Hp → Prop), (∀ y H4, H4 D = some (.lst outs) → I D (pre ++ [d]) (outs ++ [y]) (upd H4 D (.lst (outs ++ [y]))) → Ky y H4) → (∀ H3, H3 D = some (.lst outs) → I D (pre ++ [d]) outs H3 → Kn H3) →
      g x (wipe σ vs) H' fun σ2 H2 => wipe σ2 vs = wipe σ vs ∧ tt σ2 H2 fun c H3 => if c = true then te σ2 H3 Ky else Kn H3)
    (fin : ∀ D outs H, H1 D = none → outs.length ≤ ds.length → H D = some (.lst outs) → I D ds outs H → Q (.ref D) H) : LcG J g tt te vs σ Q H1 := fun D hD => by
  refine lc_pre w ds hn (fun pre H => pre.length ≤ 10000 ∧ ∃ outs, outs.length ≤ pre.length ∧ H D = some (.lst outs) ∧ I D pre outs H) ⟨Nat.zero_le _, [], Nat.le_refl _, upd_same, h0 D hD⟩ (fun pre H ⟨_, outs, _, _, i⟩ => hG D pre outs H i) (fun pre d post x H H' e p y => ?_) (fun H ⟨_, outs, l, h, i⟩ => fin D outs H hD l h i)
  obtain ⟨hl, outs, ol, hd, i⟩ := p
  have hl2 : (pre ++ [d]).length ≤ 10000 := by
    have := congrArg List.length e
    rw [List.length_append, List.length_cons] at this
    rw [List.length_append, List.length_singleton]
    omega
  refine turn D pre d post outs x H H' hD e ol hd i y _ _ (fun y H4 hd4 i4 => ?_) (fun H3 hd3 i3 => ?_)
  · exact ⟨outs, hd4, szl (by omega), hl2, _, by simp only [List.length_append, List.length_singleton]; omega, upd_same, i4⟩
  · exact ⟨hl2, outs, by rw [List.length_append]; omega, hd3, i3⟩
theorem i_gsub {to ti : TE} {t : TSet} {v : V} {QG : L2.St → Hp → Prop} (q : to σ H fun o H1 => ti σ H1 fun i H2 => t o i v H2 fun H3 => QG σ H3) : gSub to ti t v σ H QG := q
theorem i_setL {p : Addr} {xs : List V} {k : Int} {j : Nat} {v : V} {QG : Hp → Prop} (h : H p = some (.lst xs)) (e : ixN xs.length k = some j) (q : QG (upd H p (.lst (xs.set j v)))) : rSetL (.ref p) (.int k) v H QG := ⟨p, xs, k, j, rfl, rfl, h, e, q⟩
theorem i_abs {i : Int} {z : Int → Prop} (q : z i) : ∃ i', [V.int i] = [V.int i'] ∧ z i' := ⟨i, rfl, q⟩
end
theorem sqlF {K : PySem.W.Frag} {H H' : Hp} {a : Addr} {xs : List V} (h : SqL K H a xs) (s : ∀ o, (o = .lst xs ∨ ∃ u, o = .frz u (.lst xs)) → H a = some o → H' a = some o) : SqL K H' a xs := by
  rcases h with (e | ⟨u, e⟩) | h
  · exact .inl (.inl (s _ (.inl rfl) e))
  · exact .inl (.inr ⟨u, s _ (.inr ⟨u, rfl⟩) e⟩)
  · exact .inr h
theorem sqlS {K : PySem.W.Frag} {H H' : Hp} {a : Addr} {xs : List V} (s : Same H H') (h : SqL K H a xs) : SqL K H' a xs := sqlF h fun o _ e => s _ _ e
/-! ### the bag -/
def BagAt (H : Hp) (b : Addr) (m : Nat) : Prop := ∃ x y z : Int, H b = some (.lst [.int x, .int y, .int z]) ∧ 0 ≤ x ∧ 0 ≤ y ∧ y < 1099511627776 ∧ 0 ≤ z ∧ z ≤ m
theorem BagAt.fr {H H' : Hp} {b : Addr} {m : Nat} {S : List Addr} (f : Fr S H H') (n : b ∉ S) (h : BagAt H b m) : BagAt H' b m := let ⟨x, y, z, e, r⟩ := h; ⟨x, y, z, f.get n e, r⟩
theorem BagAt.same {H H' : Hp} {b : Addr} {m : Nat} (s : Same H H') (h : BagAt H b m) : BagAt H' b m := let ⟨x, y, z, e, r⟩ := h; ⟨x, y, z, s _ _ e, r⟩
theorem BagAt.mono {H : Hp} {b : Addr} {m n : Nat} (l : m ≤ n) (h : BagAt H b m) : BagAt H b n := let ⟨x, y, z, e, a, c, d, f, g⟩ := h; ⟨x, y, z, e, a, c, d, f, by omega⟩
theorem BagAt.lst {H : Hp} {b : Addr} {m : Nat} (h : BagAt H b m) : ∃ xs, H b = some (.lst xs) := let ⟨x, y, z, e, _⟩ := h; ⟨_, e⟩
theorem primes_at {i : Int} (h0 : 0 ≤ i) (h1 : i < 7) : ∃ p : Int, atI [V.int 2147483629, .int 2147483587, .int 2147483579, .int 2147483563, .int 2147483549, .int 2147483543, .int 2147483497] i = some (.int p) ∧ 0 < p ∧ p < 2147483648 := by
  have : i = 0 ∨ i = 1 ∨ i = 2 ∨ i = 3 ∨ i = 4 ∨ i = 5 ∨ i = 6 := by omega
  rcases this with rfl | rfl | rfl | rfl | rfl | rfl | rfl <;> exact ⟨_, rfl, by decide, by decide⟩
theorem base_bd {y z : Int} (y0 : 0 ≤ y) (y1 : y < 1099511627776) (z0 : 0 ≤ z) (z1 : z ≤ 1000000) : (y * (2 * z + 1) + 6007 * z * z + 29).natAbs < 2 ^ 64 := by
  have h1 : y * (2 * z + 1) ≤ 1099511627776 * 2000001 := Int.mul_le_mul (by omega) (by omega) (by omega) (by decide)
  have h2 : 0 ≤ y * (2 * z + 1) := Int.mul_nonneg y0 (by omega)
  have h3 : 6007 * z * z ≤ 6007000000 * 1000000 := Int.mul_le_mul (by omega) z1 z0 (by decide)
  have h4 : 0 ≤ 6007 * z * z := Int.mul_nonneg (by omega) z0
  generalize y * (2 * z + 1) = a at *
  generalize 6007 * z * z = b at *
  omega
end Wl

namespace Wl
open PySem L2
/-! ### the step tactics -/
local macro_rules | `(tactic| walk_at "lk") => `(tactic| first
  | assumption
  | exact upd_same
  | (refine (?_ : ∀ H, SqT _ H _ _) _; assumption)
  | (apply Step.get; (focus assumption); walk_at "lk")
  | (apply upd_tupL; (focus walk_at "lk"); walk_at "lk")
  | (apply upd_tupT; (focus walk_at "lk"); walk_at "lk")
  | (apply upd_tupK; (focus walk_at "lk"); walk_at "lk")
  | (apply L2.Same.get; (focus assumption); assumption)
  | (apply L2.Same.get; rotate_left; (focus assumption); assumption)
  | (apply SqT.of; walk_at "lk")
  | (apply SqL.of; walk_at "lk"))
local macro_rules | `(tactic| walk_at "sm") => `(tactic| first
  | assumption
  | (apply L2.Same.mut; (focus walk_at "sm"); (focus assumption)))
local macro_rules | `(tactic| walk_at "cond") => `(tactic| first
  | rfl
  | assumption
  | (exact dt (by first | rfl | assumption | omega | (simp; done) | (simp; omega)))
  | (exact df (by first | assumption | omega | (simp; done) | (simp; omega)))
  | (exact ndt (by first | rfl | assumption | omega | (simp; done) | (simp; omega)))
  | (exact ndf (by first | assumption | omega | (simp; done) | (simp; omega)))
  | (simp; done))
local macro_rules | `(tactic| walk_at "cond1") => `(tactic| first
  | assumption
  | with_reducible rfl
  | with_reducible exact n_t
  | with_reducible exact n_f
  | with_reducible exact dt (by assumption)
  | with_reducible exact df (by assumption)
  | with_reducible exact ndt (by assumption)
  | with_reducible exact ndf (by assumption))
local macro_rules | `(tactic| walk_at "g1") => `(tactic| first
  | with_reducible refine i_seq ?_
  | with_reducible refine i_asg ?_
  | with_reducible refine i_name ?_
  | with_reducible refine i_ret ?_
  | with_reducible refine i_drop ?_
  | with_reducible refine i_if ?_
  | with_reducible refine i_next ?_
  | with_reducible refine i_break ?_
  | with_reducible refine i_c ?_
  | ((with_reducible apply i_var); (focus (rfl)))
  | with_reducible refine i_op ?_
  | with_reducible refine i_cons ?_
  | with_reducible refine i_nil ?_
  | with_reducible refine i_cb ?_
  | with_reducible refine i_call ?_
  | ((with_reducible apply i_ixT); (focus (walk_at "lk")); (focus (first | rfl | assumption)))
  | ((with_reducible apply i_ixL); (focus (walk_at "lk")); (focus (first | rfl | assumption)))
  | with_reducible refine i_I0 ?_
  | ((with_reducible apply i_eq); (focus (rfl)))
  | ((with_reducible apply i_ne); (focus (rfl)))
  | with_reducible refine i_un ?_
  | with_reducible refine i_neg ?_
  | with_reducible refine i_andV ?_
  | with_reducible refine i_orV ?_
  | with_reducible refine i_notV ?_
  | with_reducible refine i_chain ?_
  | with_reducible refine i_test ?_
  | with_reducible refine i_B ?_
  | with_reducible refine i_k ?_
  | with_reducible refine i_and ?_
  | with_reducible refine i_or ?_
  | with_reducible refine i_not ?_
  | with_reducible refine i_yes ?_
  | (with_reducible refine i_isiI kit_ii ?_)
  | (with_reducible refine i_isiI kit_ib ?_)
  | (with_reducible refine i_isiS kit_ss ?_)
  | ((with_reducible apply i_isiT); (focus (walk_at "lk")); (focus (exact kit_tt)))
  | ((with_reducible apply i_len); (focus (first | (apply Or.inr; walk_at "lk") | (apply Or.inl; walk_at "lk"))))
  | ((with_reducible apply i_lens); (focus (walk_at "sz")))
  | (with_reducible refine i_sign ?_)
  | ((with_reducible apply i_inT); (focus (walk_at "lk")); (focus (rfl)); (focus (rfl)))
  | ((with_reducible apply i_inL); (focus (walk_at "lk")); (focus (rfl)); (focus (rfl)))
  | ((with_reducible apply i_ninL); (focus (walk_at "lk")); (focus (rfl)); (focus (rfl)))
  | ((with_reducible apply i_all); (focus (walk_at "lk")))
  | ((with_reducible apply i_any); (focus (walk_at "lk")))
  | ((with_reducible apply ift); (focus (walk_at "cond1")))
  | ((with_reducible apply iff_); (focus (walk_at "cond1")))
  | ((with_reducible apply ift); (focus (rfl)))
  | ((with_reducible apply iff_); (focus (rfl)))
  | ((with_reducible apply ift); (focus (walk_at "cond")))
  | ((with_reducible apply iff_); (focus (walk_at "cond")))
  | with_reducible refine i_tup ?_
  | (with_reducible refine i_new2 (by walk_at "sm") ?_; intro _ _ _ _ _ _ _)
  | with_reducible refine i_dnK ?_
  | with_reducible refine i_dnT ?_
  | with_reducible refine i_lc ?_
  | with_reducible refine i_for ?_
  | with_reducible refine i_iTup ?_
  | with_reducible refine i_iList ?_
  | ((with_reducible apply i_tupW); (focus (walk_at "lk")))
  | ((with_reducible apply i_listW); (focus (walk_at "lk")))
  | with_reducible refine i_iRng1 ?_
  | ((with_reducible apply i_rng1); (focus (walk_at "bnd")))
  | with_reducible refine i_iRng2 ?_
  | ((with_reducible apply i_rng2); (focus (walk_at "bnd")))
  | with_reducible refine i_iStr ?_
  | with_reducible refine i_iEnT ?_
  | with_reducible refine i_iEnum ?_
  | ((with_reducible apply i_enTW); (focus (walk_at "lk")))
  | ((with_reducible apply i_enLW); (focus (walk_at "lk")))
  | with_reducible refine i_strW ?_
  | with_reducible refine i_lst ?_
  | with_reducible refine i_bm ?_
  | with_reducible refine i_fld ?_
  | with_reducible refine i_dget2 ?_
  | with_reducible refine i_dget ?_
  | with_reducible refine i_din ?_
  | with_reducible refine i_dnotin ?_
  | with_reducible refine i_dputT ?_
  | with_reducible refine i_isN ?_
  | with_reducible refine i_notN ?_
  | ((with_reducible apply i_gtup); (focus (walk_at "lk")); (focus (rfl)))
  | with_reducible refine i_gcons ?_
  | with_reducible refine i_gnil ?_
  | with_reducible refine i_sl ?_
  | with_reducible refine i_nopart ?_
  | with_reducible refine i_part ?_
  | ((with_reducible apply i_app); (focus (walk_at "lk")); (focus (walk_at "sz")))
  | with_reducible refine i_2i ?_
  | with_reducible refine i_par ?_
  | with_reducible refine i_m1 ?_
  | with_reducible refine i_ex1 ?_
  | with_reducible refine i_isS ?_
  | ((with_reducible apply i_slS); (focus (walk_at "sz")))
  | with_reducible refine i_add_str ?_
  | with_reducible refine i_abs ?_
  | with_reducible refine i_gsub ?_
  | ((with_reducible apply i_setL); (focus (walk_at "lk")); (focus (rfl)))
  | ((with_reducible apply i_I); (focus (walk_at "arith")))
  | ((with_reducible apply i_fldw); (focus (walk_at "lk")); (focus assumption); (focus assumption); (focus (first | exact lk_plan | exact lk_hows | exact lk_stops | exact lk_dev)))
  | with_reducible refine i_meth ?_
  | ((with_reducible apply i_methW); (focus (walk_at "lk")); (focus (first | exact nm_need | exact nm_change | exact nm_parted | exact nm_act | exact nm_cut | exact nm_short | exact nm_mend | exact nm_rests | exact nm_come | exact nm_heard)))
  | ((with_reducible apply i_isD); (focus (walk_at "lk")))
  | ((with_reducible apply i_ext); (focus (walk_at "lk")); (focus (walk_at "lk")); (focus (walk_at "sz")))
  | ((with_reducible apply And.intro); (focus (first | (show wipe _ _ = wipe _ _; rfl) | (walk_at "sz")))))
local macro_rules | `(tactic| walk_at "arith") => `(tactic| first
  | assumption
  | (refine Or.inl ?_; (constructor <;> omega))
  | (refine Or.inr ?_; (constructor <;> omega))
  | (show (0 : Int) < _; omega)
  | (show 0 < _ ∧ _ < _; (constructor <;> omega))
  | (show CPow 10 18; exact ⟨by decide, by decide, by decide⟩))
local macro_rules | `(tactic| walk_at "bnd") => `(tactic| first
  | omega
  | (refine ⟨?_, ?_⟩ <;> omega))
local macro_rules | `(tactic| walk_at "sz") => `(tactic| first
  | (apply ty_l; walk_at "lk")
  | (apply ty_d; walk_at "lk")
  | (exact szle (by omega))
  | (exact szl (by omega))
  | (exact szle (by simp only [List.length_append, List.length_cons, List.length_nil, List.length_map]; omega))
  | (exact szl (by simp only [List.length_append, List.length_cons, List.length_nil, List.length_map]; omega))
  | (exact Nat.le_of_ble_eq_true rfl))
local macro_rules | `(tactic| walk_at "go") => `(tactic| repeat (first | walk_at "g1" | dsimp only))
section
variable {P : Program} {w : World} {K : PySem.W.Frag} {mg : Str → Option Value} {f : Nat → Addr} {fd : Nat → FuncData} {C aK aT : Addr} {base : Heap}
/-! ### law_bag -/
def sp_law_bag (K : PySem.W.Frag) : Sp := fun vs H Q _ => ∃ (p : Addr) (ns : List Int) (k : Int), vs = [.ref p, .int k] ∧ SqL K H p (ns.map V.int) ∧ 0 ≤ k ∧ k ≤ 10 ∧ ∀ b H', H b = none → Same H H' → BagAt H' b 0 → Q (.ref b) H'
theorem ok_law_bag (T : Txt K mg f fd C aK aT) : FnOk P w K mg base CX0 1 (f 37) (fd 37) ["_law_script", "_law_k"] (sp_law_bag K) := by
  refine T.F_law_bag.ok sc_law_bag (fun vs H Q E h => ?_) (fun cdv A outer s H vs Q E hr h => ?_)
  · obtain ⟨p, ns, k, rfl, _⟩ := h; rfl
  · obtain ⟨p, ns, n, rfl, hp, k0, k1, k⟩ := h
    refine ⟨_, (pss_cons (ps_set (i := 2) sc_law_bag.nd rfl (Or.inl rfl) (pe_op op_add (pe_op op_add (pe_op op_mul (pe_op op_mul pe_int (pv 1)) (pv 1)) (pe_op op_mul pe_int (pv 1))) pe_int))
      (pss_cons (ps_if (pt_cmpR op_lt (pv 1) (pe_callB (call_lenK (K := K) rfl) (by rfl) T.n_len PySem.boot_len (pa_cons (pv 0) pa_nil)) (nomark _)) (pss_one (ps_set (i := 2) sc_law_bag.nd rfl (Or.inl rfl) (pe_ix (ix_listK (K := K) rfl) (pv 0) (pv 1) (fun _ _ => rfl))))
      pss_nil)
      (pss_one (ps_ret (pe_lst (pa_cons (pe_op op_mul (pe_callB call_abs (by rfl) T.n_abs (by decide +kernel) (pa_cons (pv 2) pa_nil)) (pe_callTy call_int1 (by rfl) T.n_int (by decide +kernel) (pa_cons (pe_cmpR op_ge (pe_callB call_abs (by rfl) T.n_abs (by decide +kernel) (pa_cons (pv 2) pa_nil)) (pe_op op_pow pe_int pe_int) (nomark _)) pa_nil))) (pa_cons (pe_op op_add (pe_op op_mod (pv 2) pe_int) (pe_op op_mul pe_int (pv 1))) (pa_cons pe_int pa_nil)))))))), ?_⟩
    have s0 := Same.refl H
    walk_at "go"
    refine if_mid (fun σ' H' => (∃ c : Int, σ' = [some (.ref p), some (.int n), some (.int c)]) ∧ H' = H) (fun σ' H' hM => ?_) (fun N hN => ?_)
    · obtain ⟨⟨c, rfl⟩, rfl⟩ := hM
      walk_at "go"
      refine .inr ⟨_, rfl, ?_⟩
      walk_at "go"
      rename_i b H1 x1 y1 st1 s1 e1
      refine k b H1 y1 s1 ⟨_, _, _, e1, ?_, ?_, ?_, Int.le_refl _, Int.le_refl _⟩
      · refine Int.mul_nonneg ?_ ?_
        · split <;> omega
        · exact (by decide : ∀ b : Bool, (0 : Int) ≤ if b = true then 1 else 0) _
      · omega
      · omega
    · refine if2 (fun hb => ?_) (fun hb => ?_)
      · have hlt : n < ((ns.map V.int).length : Int) := of_decide_eq_true hb
        rw [List.length_map] at hlt
        have hj : n.toNat < ns.length := by omega
        have ha : atI (ns.map V.int) n = some (.int ns[n.toNat]) := ati n.toNat (by omega) (by rw [List.getElem?_map, List.getElem?_eq_getElem hj]; rfl)
        walk_at "go"
        exact hN _ _ ⟨⟨_, rfl⟩, rfl⟩
      · walk_at "go"
        exact hN _ _ ⟨⟨_, rfl⟩, rfl⟩
/-! ### law_take -/
def sp_law_take : Sp := fun vs H Q _ => ∃ (b : Addr) (many : Int) (m : Nat), vs = [.ref b, .int many] ∧ BagAt H b m ∧ m < 900000 ∧ 1 ≤ many ∧ many < 1000000 ∧ ∀ r H', 0 ≤ r → r < many → Fr [b] H H' → BagAt H' b (m + 1) → Q (.int r) H'
theorem ok_law_take (T : Txt K mg f fd C aK aT) : FnOk P w K mg base CX0 1 (f 38) (fd 38) ["_law_bag_here", "_law_many"] sp_law_take := by
  refine T.F_law_take.ok sc_law_take (fun vs H Q E h => ?_) (fun cdv A outer s H vs Q E hr h => ?_)
  · obtain ⟨b, many, m, rfl, _⟩ := h; rfl
  · obtain ⟨b, many, m, rfl, ⟨x, y, z, hb, x0, y0, y1, z0, z1⟩, hm, m0, m1, k⟩ := h
    refine ⟨_, (pss_cons (ps_if (pt_cmpR op_gt (pe_ix (ix_listK (K := K) rfl) (pv 0) pe_int (fun _ _ => rfl)) pe_int (nomark _)) (pss_cons (ps_set (i := 2) sc_law_take.nd rfl (Or.inl rfl) (pe_op op_mod (pe_ix (ix_listK (K := K) rfl) (pv 0) pe_int (fun _ _ => rfl)) (pv 1)))
      (pss_cons (ps_asg (pe_op op_fdiv (pe_ix (ix_listK (K := K) rfl) (pv 0) pe_int (fun _ _ => rfl)) (pv 1)) (pg_sub (pv 0) pe_int set_list))
      (pss_one (ps_ret (pv 2)))))
      pss_nil)
      (pss_cons (ps_set (i := 3) sc_law_take.nd rfl (Or.inl rfl) (pe_tup (pa_cons pe_int (pa_cons pe_int (pa_cons pe_int (pa_cons pe_int (pa_cons pe_int (pa_cons pe_int (pa_cons pe_int pa_nil)))))))))
      (pss_cons (ps_asg (pe_op op_add (pe_ix (ix_listK (K := K) rfl) (pv 0) pe_int (fun _ _ => rfl)) pe_int) (pg_sub (pv 0) pe_int set_list))
      (pss_cons (ps_set (i := 4) sc_law_take.nd rfl (Or.inl rfl) (pe_ix (ix_listK (K := K) rfl) (pv 0) pe_int (fun _ _ => rfl)))
      (pss_cons (ps_set (i := 5) sc_law_take.nd rfl (Or.inl rfl) (pe_op op_add (pe_op op_add (pe_op op_mul (pe_ix (ix_listK (K := K) rfl) (pv 0) pe_int (fun _ _ => rfl)) (pe_op op_add (pe_op op_mul pe_int (pv 4)) pe_int)) (pe_op op_mul (pe_op op_mul pe_int (pv 4)) (pv 4))) pe_int))
      (pss_cons (ps_set (i := 6) sc_law_take.nd rfl (Or.inl rfl) (pe_op op_mod (pe_op op_pow (pv 5) pe_int) (pe_ix (ix_tupK (K := K) rfl) (pv 3) (pe_op op_mod (pv 4) pe_int) (fun _ _ => rfl))))
      (pss_one (ps_ret (pe_op op_mod (pe_op op_fdiv (pe_op op_mod (pe_op op_mul (pv 6) (pe_op op_add (pe_op op_fdiv (pv 6) pe_int) pe_int)) (pe_ix (ix_tupK (K := K) rfl) (pv 3) (pe_op op_mod (pe_op op_add (pv 4) pe_int) pe_int) (fun _ _ => rfl))) pe_int) (pv 1)))))))))), ?_⟩
    have s0 := Same.refl H
    have hmany : (0 : Int) < many := by omega
    by_cases hx : 0 < x
    · walk_at "go"
      refine k _ _ (Int.emod_nonneg _ (by omega)) (Int.emod_lt_of_pos _ hmany) (Fr.upd (by simp)) ⟨x / many, y, z, upd_same, Int.ediv_nonneg x0 (by omega), y0, y1, z0, by omega⟩
    · walk_at "go"
      rename_i t H1 x1 y1' st1 s1 e1
      have hb1 := st1.get hb
      have bt : b ≠ t := fun e => by rw [e, x1] at hb; cases hb
      walk_at "go"
      have hb2 : upd H1 b (.lst ([V.int x, V.int y, V.int z].set (2 : Int).toNat (.int (z + 1)))) b = some (.lst [.int x, .int y, .int (z + 1)]) := upd_same
      have ht2 : upd H1 b (.lst ([V.int x, V.int y, V.int z].set (2 : Int).toNat (.int (z + 1)))) t = some (.tup [V.int 2147483629, .int 2147483587, .int 2147483579, .int 2147483563, .int 2147483549, .int 2147483543, .int 2147483497]) := by rw [upd_ne bt.symm]; exact e1
      have f2 : Fr [b] H (upd H1 b (.lst ([V.int x, V.int y, V.int z].set (2 : Int).toNat (.int (z + 1))))) := (fr_same s1).trans (Fr.upd (by simp))
      generalize upd H1 b (.lst ([V.int x, V.int y, V.int z].set (2 : Int).toNat (.int (z + 1)))) = H2 at *
      obtain ⟨p1, hp1, p10, p11⟩ := primes_at (i := (z + 1) % 7) (by omega) (by omega)
      obtain ⟨p2, hp2, p20, p21⟩ := primes_at (i := (z + 1 + 3) % 7) (by omega) (by omega)
      have hbd := base_bd (z := z + 1) y0 y1 (by omega) (by omega)
      have hpw : CPow (y * (2 * (z + 1) + 1) + 6007 * (z + 1) * (z + 1) + 29) 3 := ⟨by decide, by decide, hbd⟩
      walk_at "go"
      have hf0 : 0 ≤ (y * (2 * (z + 1) + 1) + 6007 * (z + 1) * (z + 1) + 29) ^ (3 : Int).toNat % p1 := Int.emod_nonneg _ (by omega)
      have hf1 : (y * (2 * (z + 1) + 1) + 6007 * (z + 1) * (z + 1) + 29) ^ (3 : Int).toNat % p1 < p1 := Int.emod_lt_of_pos _ p10
      generalize (y * (2 * (z + 1) + 1) + 6007 * (z + 1) * (z + 1) + 29) ^ (3 : Int).toNat % p1 = F at *
      walk_at "go"
      exact k _ _ (Int.emod_nonneg _ (by omega)) (Int.emod_lt_of_pos _ hmany) f2 ⟨x, y, z + 1, hb2, x0, y0, y1, by omega, by omega⟩
end
end Wl

namespace Wl
open PySem L2
theorem Fr.mut {S : List Addr} {H H' : Hp} {p : Addr} {o : HO} (f : Fr S H H') (h : H p = none) : Fr S H (L2.upd H' p o) := fun a u n e => by
  rw [upd_ne (ne_of_none e h)]; exact f a u n e
theorem i_m1 {r : V → List V → Hp → VK → Prop} {to te : TE} {σ : L2.St} {H : Hp} {Q : VK} (q : to σ H fun x H1 => (∃ a, x = .str a) ∧ te σ H1 fun y H2 => r x [y] H2 Q) : tM1 r to te σ H Q := q
theorem i_isS {z : Str} {p : Prop} (q : p) : (∃ a, V.str z = .str a) ∧ p := ⟨⟨z, rfl⟩, q⟩
theorem i_ex1 {i : Int} {z : Int → Prop} (q : z i) : ∃ j, V.int i = V.int j ∧ z j := ⟨i, rfl, q⟩
theorem i_slS {z : Str} {lo hi : Option Int} {H : Hp} {Q : VK} (h : z.length ≤ sizeLine) (q : Q (.str (cutS z lo hi)) H) : rSlS (.str z) lo hi H Q := ⟨z, rfl, h, q⟩
theorem i_add_str {z : Str → Str → Prop} {x y : Str} (q : z x y) : ∃ i j, V.str x = .str i ∧ V.str y = .str j ∧ z i j := ⟨x, y, rfl, rfl, q⟩
theorem atn {α : Type} {xs : List α} {z : Int} (j : Nat) {v : α} (e : z = (j : Int)) (h : xs[j]? = some v) : atI xs z = some v := by
  have hl := (List.getElem?_eq_some_iff.mp h).1
  subst e
  unfold atI ixN
  rw [if_pos (by omega), if_pos (by omega)]
  simpa using h
/-! ### texts -/
def mk1 (c : Nat) : Str := ⟨#[c]⟩
def Lt : List Nat := (("abcdefghijklmnopqrstuvwxyz" : Str)).cps.toList
theorem Lt_len : Lt.length = 26 := by decide +kernel
theorem Lt_nodup : Lt.Nodup := by decide +kernel
theorem join_singles : ∀ cs : List Nat, (Txt.join "" (cs.map mk1)).cps.toList = cs := by
  intro cs
  have h : TL.tl (Txt.join "" (cs.map mk1)) = cs := by
    rw [TL.join_eq, TL.tl_join]
    have : ∀ cs : List Nat, TL.joinL (TL.tl "") ((cs.map mk1).map TL.tl) = cs := by
      intro cs
      induction cs with
      | nil => rfl
      | cons c cs ih =>
        cases cs with
        | nil => rfl
        | cons d r =>
          show [c] ++ ([] ++ TL.joinL (TL.tl "") (((d :: r).map mk1).map TL.tl)) = c :: d :: r
          rw [ih]; rfl
    exact this cs
  exact h
theorem name_of {cs : List Nat} {z : Str} (h : z.cps.toList = cs) (h1 : 1 ≤ cs.length) (h8 : cs.length ≤ 8) (hl : ∀ c ∈ cs, c ∈ Lt) : Name z := by
  have hz : z.length = cs.length := by rw [← h, Array.length_toList]; rfl
  exact ⟨by omega, by omega, by rw [h]; exact hl⟩
theorem cut1 (z : Str) : (cutS z (some 1) none).cps.toList = z.cps.toList.drop 1 := by
  have e : HT.sIx z.length 0 (some 1) = min 1 z.length := HT.sIx_nat z.length 0 1
  rw [cutS, e, HT.sIx_none]
  show List.take _ (List.drop (min 1 z.length) z.cps.toList) = _
  have hz : z.cps.toList.length = z.length := Array.length_toList
  by_cases h : 1 ≤ z.length
  · rw [show min 1 z.length = 1 by omega]
    exact List.take_of_length_le (by rw [List.length_drop, hz]; exact Nat.le_refl _)
  · have h0 : z.length = 0 := by omega
    have h1 : z.cps.toList = [] := List.length_eq_zero_iff.mp (by rw [hz, h0])
    rw [h1, List.drop_nil, List.drop_nil, List.take_nil]
theorem app_tl (x y : Str) : (x ++ y).cps.toList = x.cps.toList ++ y.cps.toList := Array.toList_append
theorem app_len (x y : Str) : (x ++ y).length = x.length + y.length := Array.size_append
theorem cut1_len (z : Str) : (cutS z (some 1) none).length ≤ z.length := cutS_length z _ _
theorem mk1_inj {c d : Nat} {r : Str} (h : mk1 c ++ r = mk1 d ++ r) : c = d := by
  have := congrArg (fun z : Str => z.cps.toList) h
  simp only [app_tl] at this
  exact (List.cons.inj this).1
theorem cand_name {z : Str} (h : Name z) {c : Nat} (hc : c ∈ Lt) : Name (mk1 c ++ cutS z (some 1) none) := by
  obtain ⟨h1, h2, h3⟩ := h
  have hz : z.cps.toList.length = z.length := Array.length_toList
  refine name_of (cs := c :: z.cps.toList.drop 1) (by rw [app_tl, cut1]; rfl) (by simp) (by rw [List.length_cons, List.length_drop]; omega) (fun d hd => ?_)
  rcases List.mem_cons.mp hd with rfl | hd
  · exact hc
  · exact h3 d (List.mem_of_mem_drop hd)
/-- of 26 names one is new -/
theorem cand_new (r : Str) {found : List Str} (h : found.length < 26) : ∃ c ∈ Lt, ¬ mk1 c ++ r ∈ found := by
  by_cases hx : ∃ c ∈ Lt, ¬ mk1 c ++ r ∈ found
  · exact hx
  · have hall : ∀ c ∈ Lt, mk1 c ++ r ∈ found := fun c hc => Decidable.byContradiction fun n => hx ⟨c, hc, n⟩
    have hn : (Lt.map fun c => mk1 c ++ r).Nodup := by
      have : ∀ l : List Nat, l.Nodup → (l.map fun c => mk1 c ++ r).Nodup := by
        intro l
        induction l with
        | nil => intro _; exact List.nodup_nil
        | cons a l ih =>
          intro h
          rw [List.nodup_cons] at h
          rw [List.map_cons, List.nodup_cons]
          refine ⟨fun m => ?_, ih h.2⟩
          obtain ⟨b, hb, e⟩ := List.mem_map.mp m
          exact h.1 (mk1_inj e ▸ hb)
      exact this Lt Lt_nodup
    have hle := nodup_le hn (m := found) fun a ha => by
      obtain ⟨c, hc, rfl⟩ := List.mem_map.mp ha
      exact hall c hc
    rw [List.length_map, Lt_len] at hle
    omega
theorem inV_str (a : Str) : ∀ ns : List Str, inV (.str a) (ns.map V.str) = decide (a ∈ ns)
  | [] => rfl
  | n :: ns => by
    rw [List.map_cons, inV, List.any_cons]
    have ih := inV_str a ns
    rw [inV] at ih
    rw [ih]
    show (decide (n = a) || _) = _
    by_cases e : n = a
    · simp [e]
    · have e2 : ¬ a = n := fun z => e z.symm
      simp [e, e2]
theorem flat_strs (ns : List Str) : (ns.map V.str).all flatV = true := by
  rw [List.all_map]
  exact List.all_eq_true.mpr fun _ _ => rfl
end Wl

namespace Wl
open PySem L2
/-! ### the step tactics -/
local macro_rules | `(tactic| walk_at "lk") => `(tactic| first
  | assumption
  | exact upd_same
  | (refine (?_ : ∀ H, SqT _ H _ _) _; assumption)
  | (apply Step.get; (focus assumption); walk_at "lk")
  | (apply upd_tupL; (focus walk_at "lk"); walk_at "lk")
  | (apply upd_tupT; (focus walk_at "lk"); walk_at "lk")
  | (apply upd_tupK; (focus walk_at "lk"); walk_at "lk")
  | (apply L2.Same.get; (focus assumption); assumption)
  | (apply L2.Same.get; rotate_left; (focus assumption); assumption)
  | (apply SqT.of; walk_at "lk")
  | (apply SqL.of; walk_at "lk"))
local macro_rules | `(tactic| walk_at "sm") => `(tactic| first
  | assumption
  | (apply L2.Same.mut; (focus walk_at "sm"); (focus assumption)))
local macro_rules | `(tactic| walk_at "cond") => `(tactic| first
  | rfl
  | assumption
  | (exact dt (by first | rfl | assumption | omega | (simp; done) | (simp; omega)))
  | (exact df (by first | assumption | omega | (simp; done) | (simp; omega)))
  | (exact ndt (by first | rfl | assumption | omega | (simp; done) | (simp; omega)))
  | (exact ndf (by first | assumption | omega | (simp; done) | (simp; omega)))
  | (simp; done))
local macro_rules | `(tactic| walk_at "cond1") => `(tactic| first
  | assumption
  | with_reducible rfl
  | with_reducible exact n_t
  | with_reducible exact n_f
  | with_reducible exact dt (by assumption)
  | with_reducible exact df (by assumption)
  | with_reducible exact ndt (by assumption)
  | with_reducible exact ndf (by assumption))
local macro_rules | `(tactic| walk_at "g1") => `(tactic| first
  | with_reducible refine i_seq ?_
  | with_reducible refine i_asg ?_
  | with_reducible refine i_name ?_
  | with_reducible refine i_ret ?_
  | with_reducible refine i_drop ?_
  | with_reducible refine i_if ?_
  | with_reducible refine i_next ?_
  | with_reducible refine i_break ?_
  | with_reducible refine i_c ?_
  | ((with_reducible apply i_var); (focus (rfl)))
  | with_reducible refine i_op ?_
  | with_reducible refine i_cons ?_
  | with_reducible refine i_nil ?_
  | with_reducible refine i_cb ?_
  | with_reducible refine i_call ?_
  | ((with_reducible apply i_ixT); (focus (walk_at "lk")); (focus (first | rfl | assumption)))
  | ((with_reducible apply i_ixL); (focus (walk_at "lk")); (focus (first | rfl | assumption)))
  | with_reducible refine i_I0 ?_
  | ((with_reducible apply i_eq); (focus (rfl)))
  | ((with_reducible apply i_ne); (focus (rfl)))
  | with_reducible refine i_un ?_
  | with_reducible refine i_neg ?_
  | with_reducible refine i_andV ?_
  | with_reducible refine i_orV ?_
  | with_reducible refine i_notV ?_
  | with_reducible refine i_chain ?_
  | with_reducible refine i_test ?_
  | with_reducible refine i_B ?_
  | with_reducible refine i_k ?_
  | with_reducible refine i_and ?_
  | with_reducible refine i_or ?_
  | with_reducible refine i_not ?_
  | with_reducible refine i_yes ?_
  | (with_reducible refine i_isiI kit_ii ?_)
  | (with_reducible refine i_isiI kit_ib ?_)
  | (with_reducible refine i_isiS kit_ss ?_)
  | ((with_reducible apply i_isiT); (focus (walk_at "lk")); (focus (exact kit_tt)))
  | ((with_reducible apply i_len); (focus (first | (apply Or.inr; walk_at "lk") | (apply Or.inl; walk_at "lk"))))
  | ((with_reducible apply i_lens); (focus (walk_at "sz")))
  | (with_reducible refine i_sign ?_)
  | ((with_reducible apply i_inT); (focus (walk_at "lk")); (focus (rfl)); (focus (rfl)))
  | ((with_reducible apply i_inL); (focus (walk_at "lk")); (focus (rfl)); (focus (rfl)))
  | ((with_reducible apply i_ninL); (focus (walk_at "lk")); (focus (rfl)); (focus (rfl)))
  | ((with_reducible apply i_all); (focus (walk_at "lk")))
  | ((with_reducible apply i_any); (focus (walk_at "lk")))
  | ((with_reducible apply ift); (focus (walk_at "cond1")))
  | ((with_reducible apply iff_); (focus (walk_at "cond1")))
  | ((with_reducible apply ift); (focus (rfl)))
  | ((with_reducible apply iff_); (focus (rfl)))
  | ((with_reducible apply ift); (focus (walk_at "cond")))
  | ((with_reducible apply iff_); (focus (walk_at "cond")))
  | with_reducible refine i_tup ?_
  | (with_reducible refine i_new2 (by walk_at "sm") ?_; intro _ _ _ _ _ _ _)
  | with_reducible refine i_dnK ?_
  | with_reducible refine i_dnT ?_
  | with_reducible refine i_lc ?_
  | with_reducible refine i_for ?_
  | with_reducible refine i_iTup ?_
  | with_reducible refine i_iList ?_
  | ((with_reducible apply i_tupW); (focus (walk_at "lk")))
  | ((with_reducible apply i_listW); (focus (walk_at "lk")))
  | with_reducible refine i_iRng1 ?_
  | ((with_reducible apply i_rng1); (focus (walk_at "bnd")))
  | with_reducible refine i_iRng2 ?_
  | ((with_reducible apply i_rng2); (focus (walk_at "bnd")))
  | with_reducible refine i_iStr ?_
  | with_reducible refine i_iEnT ?_
  | with_reducible refine i_iEnum ?_
  | ((with_reducible apply i_enTW); (focus (walk_at "lk")))
  | ((with_reducible apply i_enLW); (focus (walk_at "lk")))
  | with_reducible refine i_strW ?_
  | with_reducible refine i_lst ?_
  | with_reducible refine i_bm ?_
  | with_reducible refine i_fld ?_
  | with_reducible refine i_dget2 ?_
  | with_reducible refine i_dget ?_
  | with_reducible refine i_din ?_
  | with_reducible refine i_dnotin ?_
  | with_reducible refine i_dputT ?_
  | with_reducible refine i_isN ?_
  | with_reducible refine i_notN ?_
  | ((with_reducible apply i_gtup); (focus (walk_at "lk")); (focus (rfl)))
  | with_reducible refine i_gcons ?_
  | with_reducible refine i_gnil ?_
  | with_reducible refine i_sl ?_
  | with_reducible refine i_nopart ?_
  | with_reducible refine i_part ?_
  | ((with_reducible apply i_app); (focus (walk_at "lk")); (focus (walk_at "sz")))
  | with_reducible refine i_2i ?_
  | with_reducible refine i_par ?_
  | with_reducible refine i_m1 ?_
  | with_reducible refine i_ex1 ?_
  | with_reducible refine i_isS ?_
  | ((with_reducible apply i_slS); (focus (walk_at "sz")))
  | with_reducible refine i_add_str ?_
  | with_reducible refine i_abs ?_
  | with_reducible refine i_gsub ?_
  | ((with_reducible apply i_setL); (focus (walk_at "lk")); (focus (rfl)))
  | ((with_reducible apply i_I); (focus (walk_at "arith")))
  | ((with_reducible apply i_fldw); (focus (walk_at "lk")); (focus assumption); (focus assumption); (focus (first | exact lk_plan | exact lk_hows | exact lk_stops | exact lk_dev)))
  | with_reducible refine i_meth ?_
  | ((with_reducible apply i_methW); (focus (walk_at "lk")); (focus (first | exact nm_need | exact nm_change | exact nm_parted | exact nm_act | exact nm_cut | exact nm_short | exact nm_mend | exact nm_rests | exact nm_come | exact nm_heard)))
  | ((with_reducible apply i_isD); (focus (walk_at "lk")))
  | ((with_reducible apply i_ext); (focus (walk_at "lk")); (focus (walk_at "lk")); (focus (walk_at "sz")))
  | ((with_reducible apply And.intro); (focus (first | (show wipe _ _ = wipe _ _; rfl) | (walk_at "sz")))))
local macro_rules | `(tactic| walk_at "arith") => `(tactic| first
  | assumption
  | (refine Or.inl ?_; (constructor <;> omega))
  | (refine Or.inr ?_; (constructor <;> omega))
  | (show (0 : Int) < _; omega)
  | (show 0 < _ ∧ _ < _; (constructor <;> omega))
  | (show CPow 10 18; exact ⟨by decide, by decide, by decide⟩))
local macro_rules | `(tactic| walk_at "bnd") => `(tactic| first
  | omega
  | (refine ⟨?_, ?_⟩ <;> omega))
local macro_rules | `(tactic| walk_at "sz") => `(tactic| first
  | (apply ty_l; walk_at "lk")
  | (apply ty_d; walk_at "lk")
  | (exact szle (by omega))
  | (exact szl (by omega))
  | (exact szle (by simp only [List.length_append, List.length_cons, List.length_nil, List.length_map]; omega))
  | (exact szl (by simp only [List.length_append, List.length_cons, List.length_nil, List.length_map]; omega))
  | (exact Nat.le_of_ble_eq_true rfl))
local macro_rules | `(tactic| walk_at "go") => `(tactic| repeat (first | walk_at "g1" | dsimp only))
section
variable {P : Program} {w : World} {K : PySem.W.Frag} {mg : Str → Option Value} {f : Nat → Addr} {fd : Nat → FuncData} {C aK aT : Addr} {base : Heap}
/-! ### law_name -/
def sp_law_name : Sp := fun vs H Q _ => ∃ (b : Addr) (m : Nat), vs = [.ref b] ∧ BagAt H b m ∧ m < 800000 ∧ ∀ z H', Name z → Fr [b] H H' → BagAt H' b (m + 9) → Q (.str z) H'
theorem ok_law_name (T : Txt K mg f fd C aK aT) : FnOk P w K mg base CX0 2 (f 39) (fd 39) ["_law_bag_here"] sp_law_name := by
  refine T.F_law_name.ok sc_law_name (fun vs H Q E h => ?_) (fun cdv A outer s H vs Q E hr h => ?_)
  · obtain ⟨b, m, rfl, _⟩ := h; rfl
  · obtain ⟨b, m, rfl, hb, hm, k⟩ := h
    refine ⟨_, (pss_cons (ps_set (i := 1) sc_law_name.nd rfl (Or.inr rfl) pe_str)
      (pss_one (ps_ret (pe_join pe_str (pe_lc (own := [("_law_place", 2)]) rfl sc_law_name.nd  (pi_range1 (by rfl) T.n_range (pa_cons (pe_op op_add pe_int (pe_call (ok_law_take T) (hr.mono (by decide)) (by rfl) T.m_law_take T.F_law_take.kp T.b_law_take .nil pass0 (pa_cons (pv 0) (pa_cons pe_int pa_nil)))) pa_nil)) (blkOk_by (N := ["_law_bag_here", "_law_letters", "_law_place"]) (sc := defScope s_law_name) (by decide +kernel)) (fun _ _ _ _ _ => (pg_name (i := 2) sc_law_name.nd rfl (Or.inl rfl))) (fun _ _ _ _ _ => pts_nil) (fun _ _ _ _ _ => (pe_ix ix_str (pv 1) (pe_call (ok_law_take T) (hr.mono (by decide)) (by rfl) T.m_law_take T.F_law_take.kp T.b_law_take .nil pass0 (pa_cons (pv 0) (pa_cons pe_int pa_nil))) (fun _ _ => rfl)))))))), ?_⟩
    have s0 := Same.refl H
    walk_at "go"
    refine ⟨b, 8, m, rfl, hb, by omega, by decide, by decide, fun r H1 r0 r1 f1 hb1 => ?_⟩
    walk_at "go"
    obtain ⟨xb, hxb⟩ := hb1.lst
    refine lcg_m walk_range (List.range (1 + r).toNat) List.length_range (by omega) (fun D pre outs H' => D ≠ b ∧ (∃ cs : List Nat, outs = cs.map (fun c => V.str (mk1 c)) ∧ cs.length = pre.length ∧ ∀ c ∈ cs, c ∈ Lt) ∧ Fr [b] H1 H' ∧ BagAt H' b (m + 1 + pre.length))
      (fun D hD => ⟨fun z => (by rw [z, hxb] at hD; cases hD), ⟨[], rfl, rfl, by simp⟩, fr_same (Same.upd hD), hb1.same (Same.upd hD)⟩) (fun _ _ _ _ _ => trivial) (fun D pre d post outs x H2 H3 hD e hol ho hI y Ky Kn ky kn => ?_) (fun D outs H2 hD hol ho hI => ?_)
    · obtain ⟨Db, ⟨cs, rfl, hc1, hc2⟩, f2, hb2⟩ := hI
      obtain ⟨rfl, rfl⟩ := y
      obtain ⟨rfl, hlt⟩ := range_pre e
      walk_at "go"
      refine ⟨b, 26, _, rfl, hb2, by omega, by decide, by decide, fun q H4 q0 q1 f4 hb4 => ?_⟩
      have hq : q.toNat < Lt.length := by rw [Lt_len]; omega
      have ha : atI Lt q = some Lt[q.toNat] := atn q.toNat (by omega) (List.getElem?_eq_getElem hq)
      refine ⟨_, q, Lt[q.toNat], rfl, rfl, Nat.le_of_ble_eq_true rfl, ha, ?_⟩
      have t4 := f4.get (by simp; exact Db) ho
      refine ky _ _ t4 ⟨Db, ⟨cs ++ [Lt[q.toNat]], by rw [List.map_append]; rfl, by rw [List.length_append, List.length_append, hc1]; rfl, fun c hc => ?_⟩, ((f2.trans f4).mut hD), ?_⟩
      · rcases List.mem_append.mp hc with hc | hc
        · exact hc2 c hc
        · rw [List.mem_singleton] at hc; rw [hc]; exact List.getElem_mem hq
      · obtain ⟨x, y, z, e4, rest⟩ := hb4
        refine ⟨x, y, z, by rw [upd_ne Db.symm]; exact e4, ?_⟩
        rw [List.length_append, List.length_singleton, ← Nat.add_assoc]
        exact rest
    · obtain ⟨Db, ⟨cs, rfl, hc1, hc2⟩, f2, hb2⟩ := hI
      rw [List.length_range] at hc1
      have hmm : cs.map (fun c => V.str (mk1 c)) = (cs.map mk1).map V.str := by rw [List.map_map]; rfl
      rw [hmm] at ho
      have hsum : ((cs.map mk1).map (·.length)).sum = cs.length := by
        have : ∀ cs : List Nat, ((cs.map mk1).map (·.length)).sum = cs.length := by
          intro cs
          induction cs with
          | nil => rfl
          | cons c cs ih => rw [List.map_cons, List.map_cons, List.sum_cons, ih, List.length_cons]; show 1 + _ = _; omega
        exact this cs
      refine ⟨_, D, cs.map mk1, rfl, rfl, .inl (SqL.of ho), ?_, ?_⟩
      · rw [hsum]
        show cs.length + _ * 0 ≤ _
        omega
      · refine k _ _ (name_of (join_singles cs) (by omega) (by omega) hc2) (f1.trans f2) (hb2.mono ?_)
        rw [List.length_range]; omega
/-! ### law_names -/
def sp_law_names : Sp := fun vs H Q _ => ∃ (b : Addr) (m n : Nat), vs = [.ref b, .int n] ∧ BagAt H b m ∧ m < 700000 ∧ n ≤ 8 ∧ ∀ (p : Addr) (zs : List Str) (H' : Hp), H p = none → Fr [b] H H' → BagAt H' b (m + 9 * n) → H' p = some (.lst (zs.map V.str)) → (∀ z ∈ zs, Name z) → zs.Nodup → zs.length = n → Q (.ref p) H'
theorem ok_law_names (T : Txt K mg f fd C aK aT) : FnOk P w K mg base CX0 3 (f 40) (fd 40) ["_law_bag_here", "_law_many"] sp_law_names := by
  refine T.F_law_names.ok sc_law_names (fun vs H Q E h => ?_) (fun cdv A outer s H vs Q E hr h => ?_)
  · obtain ⟨b, m, n, rfl, _⟩ := h; rfl
  · obtain ⟨b, m, n, rfl, hb, hm, hn, k⟩ := h
    refine ⟨_, (pss_cons (ps_set (i := 2) sc_law_names.nd rfl (Or.inr rfl) (pe_lst pa_nil))
      (pss_cons (ps_for PassesOwn.never rfl (pi_range1 (by rfl) T.n_range (pa_cons (pv 1) pa_nil)) (pg_name (i := 3) sc_law_names.nd rfl (Or.inl rfl)) (pss_cons (ps_set (i := 4) sc_law_names.nd rfl (Or.inr rfl) (pe_call (ok_law_name T) (hr.mono (by decide)) (by rfl) T.m_law_name T.F_law_name.kp T.b_law_name .nil pass0 (pa_cons (pv 0) pa_nil)))
      (pss_cons (ps_if (pt_cmpR (op_inK (K := K) rfl) (pv 4) (pv 2) (by with_unfolding_all rfl)) (pss_one (ps_set (i := 4) sc_law_names.nd rfl (Or.inr rfl) (pe_ix (ix_listK (K := K) rfl) (pe_lc (own := [("_law_one", 5)]) rfl sc_law_names.nd  (pi_str pe_str) (blkOk_by (N := ["_law_bag_here", "_law_many", "_law_found", "_law_place", "_law_name_here", "_law_one"]) (sc := defScope s_law_names) (by decide +kernel)) (fun _ _ _ _ _ => (pg_name (i := 5) sc_law_names.nd rfl (Or.inl rfl))) (fun _ _ _ _ _ => pts_one (pt_cmpR (op_ninK (K := K) rfl) (pe_op op_add_str (pv 5) (pe_slice sl_str (pv 4) (po_some pe_int) po_none)) (pv 2) (by with_unfolding_all rfl))) (fun _ _ _ _ _ => (pe_op op_add_str (pv 5) (pe_slice sl_str (pv 4) (po_some pe_int) po_none)))) pe_int (fun _ _ => rfl))))
      pss_nil)
      (pss_one (ps_expr (pe_bmK (K := K) rfl PySem.F.plainAttrs_list PySem.F.slot_list_append PySem.F.type_list_append mt_append (pv 2) (pa_cons (pv 4) pa_nil)))))))
      (pss_one (ps_ret (pv 2))))), ?_⟩
    have s0 := Same.refl H
    obtain ⟨xb, hxb⟩ := hb.lst
    walk_at "go"
    rename_i F H1 f1 f2 st1 s1 hF
    have Fb : F ≠ b := fun z => by rw [z, hxb] at f1; cases f1
    rw [Int.toNat_natCast]
    refine forg_rng (fun i σ H' => (∃ x y z, σ = [some (.ref b), some (.int n), some (.ref F), x, y, z]) ∧ Fr [b] H H' ∧ BagAt H' b (m + 9 * i) ∧ ∃ zs : List Str, H' F = some (.lst (zs.map V.str)) ∧ (∀ z ∈ zs, Name z) ∧ zs.Nodup ∧ zs.length = i) ⟨⟨_, _, _, rfl⟩, fr_same s1, hb.same s1, [], hF, by simp, List.nodup_nil, rfl⟩ (fun i σ H2 hi hI => ?_) (fun σ H2 hI => ?_)
    · obtain ⟨⟨_, _, _, rfl⟩, fr2, hb2, zs, hF2, hz1, hz2, hz3⟩ := hI
      walk_at "go"
      refine ⟨b, _, rfl, hb2, by omega, fun z H3 hz f3 hb3 => ?_⟩
      have hF3 := f3.get (by simp; exact Fb) hF2
      walk_at "go"
      refine i_inL (SqL.of hF3) rfl (flat_strs _) ?_
      rw [inV_str]
      have fr3 := fr2.trans f3
      refine i_k ?_
      refine if_mid (fun σ' H' => (∃ x y z', σ' = [some (.ref b), some (.int n), some (.ref F), x, some (.str z'), y] ∧ Name z' ∧ ¬ z' ∈ zs) ∧ Fr [b] H H' ∧ BagAt H' b (m + 9 * i + 9) ∧ H' F = some (.lst (zs.map V.str))) (fun σ' H' hM => ?_) (fun N hN => ?_)
      · obtain ⟨⟨_, _, z', rfl, hn', hni⟩, fr4, hb4, hF4⟩ := hM
        have hzl : (zs.map V.str).length ≤ 1000 := by rw [List.length_map]; omega
        walk_at "go"
        refine ⟨⟨_, _, _, rfl⟩, fr4.mut f2, ?_, zs ++ [z'], by rw [List.map_append]; exact upd_same, fun y hy => ?_, ?_, by rw [List.length_append, hz3]; rfl⟩
        · obtain ⟨x, y, z, e4, rest⟩ := hb4
          exact ⟨x, y, z, by rw [upd_ne Fb.symm]; exact e4, by rw [show m + 9 * (i + 1) = m + 9 * i + 9 by omega]; exact rest⟩
        · rcases List.mem_append.mp hy with hy | hy
          · exact hz1 y hy
          · rw [List.mem_singleton] at hy; rw [hy]; exact hn'
        · rw [List.nodup_append]
          exact ⟨hz2, by simp, fun a ha c hc => by rw [List.mem_singleton] at hc; rw [hc]; exact fun z => hni (z ▸ ha)⟩
      · by_cases hin : z ∈ zs
        · walk_at "go"
          have s3 := Same.refl H3
          have hzl : z.length ≤ 8 := hz.2.1
          have hcut : (cutS z (some 1) none).length ≤ 8 := Nat.le_trans (cut1_len z) hzl
          refine lcg_pure walk_str s3 Lt rfl (by decide +kernel) (fun c => if ¬ mk1 c ++ cutS z (some 1) none ∈ zs then some (mk1 c ++ cutS z (some 1) none) else none) SR (fun _ _ _ h => h) (fun _ _ => trivial) (fun pre c post x H4 H5 e s4 s4' y Ky Kn ky kn => ?_) (fun D H4 d1 d2 s4 s4' l4 => ?_)
          · obtain ⟨rfl, c', hc', rfl⟩ := y
            have hcd : c' = c := get_pre (ds := Lt) e (by simpa [Lt] using hc')
            subst hcd
            have hF5 := s4.get hF3
            have hml : ({ cps := #[c'] } : Str).length = 1 := rfl
            walk_at "go"
            refine i_ninL (SqL.of hF5) rfl (flat_strs _) ?_
            refine i_k ?_
            rw [inV_str]
            refine if2 (fun hb => ?_) (fun hb => ?_)
            · have hni : ¬ mk1 c' ++ cutS z (some 1) none ∈ zs := fun z => by rw [show ({ cps := #[c'] } : Str) = mk1 c' from rfl, decide_eq_true z] at hb; cases hb
              walk_at "go"
              exact ky _ _ _ (if_pos hni) (Same.refl _) rfl
            · have hni : mk1 c' ++ cutS z (some 1) none ∈ zs := Decidable.byContradiction fun z => by rw [show ({ cps := #[c'] } : Str) = mk1 c' from rfl, decide_eq_false z] at hb; cases hb
              exact kn _ (if_neg (fun z => z hni)) (Same.refl _)
          · obtain ⟨vs4, hD4, pr4⟩ := l4
            obtain ⟨c, hc, hnc⟩ := cand_new (cutS z (some 1) none) (found := zs) (by omega)
            have hmem : mk1 c ++ cutS z (some 1) none ∈ Lt.filterMap (fun c => if ¬ mk1 c ++ cutS z (some 1) none ∈ zs then some (mk1 c ++ cutS z (some 1) none) else none) := List.mem_filterMap.mpr ⟨c, hc, if_pos hnc⟩
            generalize hL : Lt.filterMap (fun c => if ¬ mk1 c ++ cutS z (some 1) none ∈ zs then some (mk1 c ++ cutS z (some 1) none) else none) = L at *
            match L, hmem, pr4, hL with
            | z0 :: L', _, .cons (a := v0) (l₁ := vr) (f0 : v0 = .str z0) _, hL =>
              subst f0
              have hz0 : z0 ∈ Lt.filterMap (fun c => if ¬ mk1 c ++ cutS z (some 1) none ∈ zs then some (mk1 c ++ cutS z (some 1) none) else none) := by rw [hL]; exact List.mem_cons_self ..
              obtain ⟨c0, hc0, he0⟩ := List.mem_filterMap.mp hz0
              have hq : ¬ mk1 c0 ++ cutS z (some 1) none ∈ zs ∧ mk1 c0 ++ cutS z (some 1) none = z0 := by
                by_cases hh : ¬ mk1 c0 ++ cutS z (some 1) none ∈ zs
                · rw [if_pos hh] at he0; exact ⟨hh, Option.some.inj he0⟩
                · rw [if_neg hh] at he0; cases he0
              have ha0 : atI (V.str z0 :: vr) 0 = some (.str z0) := ati 0 rfl rfl
              walk_at "go"
              refine hN _ _ ⟨⟨_, _, z0, rfl, ?_, ?_⟩, fr3.trans (fr_same s4), hb3.same s4, s4.get hF3⟩
              · rw [← hq.2]; exact cand_name hz hc0
              · rw [← hq.2]; exact hq.1
        · walk_at "go"
          exact hN _ _ ⟨⟨_, _, z, rfl, hz, hin⟩, fr3, hb3, hF3⟩
    · obtain ⟨⟨_, _, _, rfl⟩, fr2, hb2, zs, hF2, hz1, hz2, hz3⟩ := hI
      walk_at "go"
      exact k F zs _ f1 fr2 hb2 hF2 hz1 hz2 hz3
end
end Wl

namespace Wl
open PySem L2
/-! ### the step tactics -/
local macro_rules | `(tactic| walk_at "lk") => `(tactic| first
  | assumption
  | exact upd_same
  | (refine (?_ : ∀ H, SqT _ H _ _) _; assumption)
  | (apply Step.get; (focus assumption); walk_at "lk")
  | (apply upd_tupL; (focus walk_at "lk"); walk_at "lk")
  | (apply upd_tupT; (focus walk_at "lk"); walk_at "lk")
  | (apply upd_tupK; (focus walk_at "lk"); walk_at "lk")
  | (apply L2.Same.get; (focus assumption); assumption)
  | (apply L2.Same.get; rotate_left; (focus assumption); assumption)
  | (apply SqT.of; walk_at "lk")
  | (apply SqL.of; walk_at "lk"))
local macro_rules | `(tactic| walk_at "sm") => `(tactic| first
  | assumption
  | (apply L2.Same.mut; (focus walk_at "sm"); (focus assumption)))
local macro_rules | `(tactic| walk_at "cond") => `(tactic| first
  | rfl
  | assumption
  | (exact dt (by first | rfl | assumption | omega | (simp; done) | (simp; omega)))
  | (exact df (by first | assumption | omega | (simp; done) | (simp; omega)))
  | (exact ndt (by first | rfl | assumption | omega | (simp; done) | (simp; omega)))
  | (exact ndf (by first | assumption | omega | (simp; done) | (simp; omega)))
  | (simp; done))
local macro_rules | `(tactic| walk_at "cond1") => `(tactic| first
  | assumption
  | with_reducible rfl
  | with_reducible exact n_t
  | with_reducible exact n_f
  | with_reducible exact dt (by assumption)
  | with_reducible exact df (by assumption)
  | with_reducible exact ndt (by assumption)
  | with_reducible exact ndf (by assumption))
local macro_rules | `(tactic| walk_at "g1") => `(tactic| first
  | with_reducible refine i_seq ?_
  | with_reducible refine i_asg ?_
  | with_reducible refine i_name ?_
  | with_reducible refine i_ret ?_
  | with_reducible refine i_drop ?_
  | with_reducible refine i_if ?_
  | with_reducible refine i_next ?_
  | with_reducible refine i_break ?_
  | with_reducible refine i_c ?_
  | ((with_reducible apply i_var); (focus (rfl)))
  | with_reducible refine i_op ?_
  | with_reducible refine i_cons ?_
  | with_reducible refine i_nil ?_
  | with_reducible refine i_cb ?_
  | with_reducible refine i_call ?_
  | ((with_reducible apply i_ixT); (focus (walk_at "lk")); (focus (first | rfl | assumption)))
  | ((with_reducible apply i_ixL); (focus (walk_at "lk")); (focus (first | rfl | assumption)))
  | with_reducible refine i_I0 ?_
  | ((with_reducible apply i_eq); (focus (rfl)))
  | ((with_reducible apply i_ne); (focus (rfl)))
  | with_reducible refine i_un ?_
  | with_reducible refine i_neg ?_
  | with_reducible refine i_andV ?_
  | with_reducible refine i_orV ?_
  | with_reducible refine i_notV ?_
  | with_reducible refine i_chain ?_
  | with_reducible refine i_test ?_
  | with_reducible refine i_B ?_
  | with_reducible refine i_k ?_
  | with_reducible refine i_and ?_
  | with_reducible refine i_or ?_
  | with_reducible refine i_not ?_
  | with_reducible refine i_yes ?_
  | (with_reducible refine i_isiI kit_ii ?_)
  | (with_reducible refine i_isiI kit_ib ?_)
  | (with_reducible refine i_isiS kit_ss ?_)
  | ((with_reducible apply i_isiT); (focus (walk_at "lk")); (focus (exact kit_tt)))
  | ((with_reducible apply i_len); (focus (first | (apply Or.inr; walk_at "lk") | (apply Or.inl; walk_at "lk"))))
  | ((with_reducible apply i_lens); (focus (walk_at "sz")))
  | (with_reducible refine i_sign ?_)
  | ((with_reducible apply i_inT); (focus (walk_at "lk")); (focus (rfl)); (focus (rfl)))
  | ((with_reducible apply i_inL); (focus (walk_at "lk")); (focus (rfl)); (focus (rfl)))
  | ((with_reducible apply i_ninL); (focus (walk_at "lk")); (focus (rfl)); (focus (rfl)))
  | ((with_reducible apply i_all); (focus (walk_at "lk")))
  | ((with_reducible apply i_any); (focus (walk_at "lk")))
  | ((with_reducible apply ift); (focus (walk_at "cond1")))
  | ((with_reducible apply iff_); (focus (walk_at "cond1")))
  | ((with_reducible apply ift); (focus (rfl)))
  | ((with_reducible apply iff_); (focus (rfl)))
  | ((with_reducible apply ift); (focus (walk_at "cond")))
  | ((with_reducible apply iff_); (focus (walk_at "cond")))
  | with_reducible refine i_tup ?_
  | (with_reducible refine i_new2 (by walk_at "sm") ?_; intro _ _ _ _ _ _ _)
  | with_reducible refine i_dnK ?_
  | with_reducible refine i_dnT ?_
  | with_reducible refine i_lc ?_
  | with_reducible refine i_for ?_
  | with_reducible refine i_iTup ?_
  | with_reducible refine i_iList ?_
  | ((with_reducible apply i_tupW); (focus (walk_at "lk")))
  | ((with_reducible apply i_listW); (focus (walk_at "lk")))
  | with_reducible refine i_iRng1 ?_
  | ((with_reducible apply i_rng1); (focus (walk_at "bnd")))
  | with_reducible refine i_iRng2 ?_
  | ((with_reducible apply i_rng2); (focus (walk_at "bnd")))
  | with_reducible refine i_iStr ?_
  | with_reducible refine i_iEnT ?_
  | with_reducible refine i_iEnum ?_
  | ((with_reducible apply i_enTW); (focus (walk_at "lk")))
  | ((with_reducible apply i_enLW); (focus (walk_at "lk")))
  | with_reducible refine i_strW ?_
  | with_reducible refine i_lst ?_
  | with_reducible refine i_bm ?_
  | with_reducible refine i_fld ?_
  | with_reducible refine i_dget2 ?_
  | with_reducible refine i_dget ?_
  | with_reducible refine i_din ?_
  | with_reducible refine i_dnotin ?_
  | with_reducible refine i_dputT ?_
  | with_reducible refine i_isN ?_
  | with_reducible refine i_notN ?_
  | ((with_reducible apply i_gtup); (focus (walk_at "lk")); (focus (rfl)))
  | with_reducible refine i_gcons ?_
  | with_reducible refine i_gnil ?_
  | with_reducible refine i_sl ?_
  | with_reducible refine i_nopart ?_
  | with_reducible refine i_part ?_
  | ((with_reducible apply i_app); (focus (walk_at "lk")); (focus (walk_at "sz")))
  | with_reducible refine i_2i ?_
  | with_reducible refine i_par ?_
  | with_reducible refine i_m1 ?_
  | with_reducible refine i_ex1 ?_
  | with_reducible refine i_isS ?_
  | ((with_reducible apply i_slS); (focus (walk_at "sz")))
  | with_reducible refine i_add_str ?_
  | with_reducible refine i_abs ?_
  | with_reducible refine i_gsub ?_
  | ((with_reducible apply i_setL); (focus (walk_at "lk")); (focus (rfl)))
  | ((with_reducible apply i_I); (focus (walk_at "arith")))
  | ((with_reducible apply i_fldw); (focus (walk_at "lk")); (focus assumption); (focus assumption); (focus (first | exact lk_plan | exact lk_hows | exact lk_stops | exact lk_dev)))
  | with_reducible refine i_meth ?_
  | ((with_reducible apply i_methW); (focus (walk_at "lk")); (focus (first | exact nm_need | exact nm_change | exact nm_parted | exact nm_act | exact nm_cut | exact nm_short | exact nm_mend | exact nm_rests | exact nm_come | exact nm_heard)))
  | ((with_reducible apply i_isD); (focus (walk_at "lk")))
  | ((with_reducible apply i_ext); (focus (walk_at "lk")); (focus (walk_at "lk")); (focus (walk_at "sz")))
  | ((with_reducible apply And.intro); (focus (first | (show wipe _ _ = wipe _ _; rfl) | (walk_at "sz")))))
local macro_rules | `(tactic| walk_at "arith") => `(tactic| first
  | assumption
  | (refine Or.inl ?_; (constructor <;> omega))
  | (refine Or.inr ?_; (constructor <;> omega))
  | (show (0 : Int) < _; omega)
  | (show 0 < _ ∧ _ < _; (constructor <;> omega))
  | (show CPow 10 18; exact ⟨by decide, by decide, by decide⟩))
local macro_rules | `(tactic| walk_at "bnd") => `(tactic| first
  | omega
  | (refine ⟨?_, ?_⟩ <;> omega))
local macro_rules | `(tactic| walk_at "sz") => `(tactic| first
  | (apply ty_l; walk_at "lk")
  | (apply ty_d; walk_at "lk")
  | (exact szle (by omega))
  | (exact szl (by omega))
  | (exact szle (by simp only [List.length_append, List.length_cons, List.length_nil, List.length_map]; omega))
  | (exact szl (by simp only [List.length_append, List.length_cons, List.length_nil, List.length_map]; omega))
  | (exact Nat.le_of_ble_eq_true rfl))
local macro_rules | `(tactic| walk_at "go") => `(tactic| repeat (first | walk_at "g1" | dsimp only))
theorem Paired.erase {α β : Type} {F : α → β → Prop} : ∀ {l₁ : List α} {l₂ : List β} (j : Nat), Paired F l₁ l₂ → Paired F (l₁.eraseIdx j) (l₂.eraseIdx j)
  | _, _, _, .nil => .nil
  | _, _, 0, .cons _ t => t
  | _, _, j + 1, .cons f t => .cons f (Paired.erase j t)
theorem Paired.drop1 {α β : Type} {F : α → β → Prop} {l₁ : List α} {l₂ : List β} (h : Paired F l₁ l₂) : Paired F (l₁.drop 1) (l₂.drop 1) := by
  cases h with
  | nil => exact .nil
  | cons _ t => exact t
theorem erase_perm {α : Type} : ∀ {l : List α} {i : Nat} (h : i < l.length), (l[i] :: l.eraseIdx i).Perm l
  | a :: l, 0, _ => List.Perm.refl _
  | a :: l, i + 1, h => by
    have ih := erase_perm (l := l) (i := i) (by simpa using h)
    exact (List.Perm.swap _ _ _).trans (List.Perm.cons a ih)
theorem seqIx {i n : Nat} {r : Int} (e : r = (i : Int)) (h : i < n) : seqIndex? r n = some i := by
  subst e
  have h0 : ¬ (i : Int) < 0 := by omega
  have h1 : (decide (0 ≤ (i : Int)) && decide ((i : Int) < n)) = true := by
    rw [decide_eq_true (by omega : 0 ≤ (i : Int)), decide_eq_true (by omega : (i : Int) < n)]; rfl
  unfold seqIndex?
  simp only [if_neg h0]
  simp [h]
section
variable {P : Program} {w : World} {K : PySem.W.Frag} {mg : Str → Option Value} {f : Nat → Addr} {fd : Nat → FuncData} {C aK aT : Addr} {base : Heap}
/-! ### law_parts -/
def sp_law_parts : Sp := fun vs H Q _ => ∃ (v : V) (lp : List Place), vs = [v] ∧ LoR H v lp ∧ lp.length ≤ 100 ∧ ∀ p H', H p = none → Same H H' → H' p = some (.lst ((partsN lp).map fun (n : Nat) => V.int (n : Int))) → Q (.ref p) H'
theorem ok_law_parts (T : Txt K mg f fd C aK aT) : FnOk P w K mg base CX0 1 (f 42) (fd 42) ["_law_places"] sp_law_parts := by
  refine T.F_law_parts.ok sc_law_parts (fun vs H Q E h => ?_) (fun cdv A outer s H vs Q E hr h => ?_)
  · obtain ⟨v, lp, rfl, _⟩ := h; rfl
  · obtain ⟨v, lp, rfl, ⟨p, xs, rfl, hp, pr⟩, hl, k⟩ := h
    refine ⟨_, (pss_cons (ps_set (i := 1) sc_law_parts.nd rfl (Or.inl rfl) (pe_lst (pa_cons pe_int pa_nil)))
      (pss_cons (ps_for PassesOwn.never rfl (pi_tupK (K := K) rfl (pv 0)) (pg_tupK (K := K) (n := 3) rfl rfl (pgs_cons (pg_name (i := 2) sc_law_parts.nd rfl (Or.inl rfl)) (pgs_cons (pg_name (i := 3) sc_law_parts.nd rfl (Or.inl rfl)) (pgs_cons (pg_name (i := 4) sc_law_parts.nd rfl (Or.inl rfl)) pgs_nil)))) (pss_one (ps_if (pt_cmpR op_eq (pv 2) pe_str (nomark _)) (pss_one (ps_expr (pe_bmK (K := K) rfl PySem.F.plainAttrs_list PySem.F.slot_list_append PySem.F.type_list_append mt_append (pv 1) (pa_cons pe_int pa_nil))))
      (pss_one (ps_asg (pe_op op_add (pe_op op_add (pe_ix (ix_listK (K := K) rfl) (pv 1) (pe_un un_neg pe_int) (fun _ _ => rfl)) pe_int) (pe_callB (call_lenK (K := K) rfl) (by rfl) T.n_len PySem.boot_len (pa_cons (pv 4) pa_nil))) (pg_sub (pv 1) (pe_un un_neg pe_int) set_list))))))
      (pss_one (ps_ret (pv 1))))), ?_⟩
    have s0 := Same.refl H
    walk_at "go"
    rename_i F H1 f1 f2 st1 s1 hF
    refine forg_tup (K := K) pr (fun pre σ H' => (∃ x y z, σ = [some (.ref p), some (.ref F), x, y, z]) ∧ Same H H' ∧ H' F = some (.lst ((partsN pre).map fun (n : Nat) => V.int (n : Int))) ∧ (pst pre).1.length ≤ pre.length) ⟨⟨_, _, _, rfl⟩, s1, hF, Nat.le_refl _⟩ (fun pre σ H' q => q.2.1 _ _ hp) (fun pre q post x σ H2 e hI r => ?_) (fun σ H2 hI => ?_)
    · obtain ⟨⟨_, _, _, rfl⟩, s2, hF2, l2⟩ := hI
      obtain ⟨pp, ss, rfl, hpp, ⟨sa, zs2, rfl, hsa, pr3⟩⟩ := r
      have hpp2 := s2.get hpp
      have hsa2 := s2.get hsa
      have hpl : pre.length + 1 ≤ lp.length := by rw [e, List.length_append, List.length_cons]; omega
      have hlen : (pre ++ [q]).length = pre.length + 1 := by simp
      have hz := Paired.length pr3
      have hv : ((partsN pre).map fun (n : Nat) => V.int (n : Int)).length ≤ 1000 := by rw [List.length_map, partsN, List.length_append, List.length_singleton]; omega
      rw [hlen]
      by_cases hk : q.kind = "opener"
      · have hk2 : V.str q.kind = V.str "opener" := by rw [hk]
        have hps : pst (pre ++ [q]) = ((pst pre).1 ++ [(pst pre).2], 0) := by rw [pst_snoc, pstep, if_pos hk]
        walk_at "go"
        refine ⟨⟨_, _, _, rfl⟩, s2.mut f1, ?_, by rw [hps, List.length_append, List.length_singleton]; omega⟩
        have hpn : partsN (pre ++ [q]) = ((pst pre).1 ++ [(pst pre).2]) ++ [0] := by rw [partsN, hps]
        rw [hpn, List.map_append (l₂ := [0])]
        exact upd_same
      · have hk2 : ¬ V.str q.kind = V.str "opener" := fun e => hk (V.str.inj e)
        have hps : pst (pre ++ [q]) = ((pst pre).1, (pst pre).2 + (q.spur.length + 1)) := by rw [pst_snoc, pstep, if_neg hk]
        have hat : atI ((partsN pre).map fun (n : Nat) => V.int (n : Int)) (-1) = some (.int ((pst pre).2 : Int)) := by
          rw [partsN, List.map_append, atI, ixN]
          simp
          rw [if_pos (by omega), show (-1 + (((pst pre).1.length : Int) + 1)).toNat = (pst pre).1.length by omega]
          simp
        have hix : ixN ((partsN pre).map fun (n : Nat) => V.int (n : Int)).length (-1) = some (pst pre).1.length := by
          rw [partsN, List.map_append, ixN]
          simp
          omega
        walk_at "go"
        refine i_setL hF2 hix ?_
        refine ⟨⟨_, _, _, rfl⟩, s2.mut f1, ?_, by rw [hps]; exact Nat.le_succ_of_le l2⟩
        have hpn : partsN (pre ++ [q]) = (pst pre).1 ++ [(pst pre).2 + (q.spur.length + 1)] := by rw [partsN, hps]
        rw [hpn, partsN]
        have hset : ∀ (a : List Nat) (b c : Nat), ((a ++ [b]).map fun (n : Nat) => V.int (n : Int)).set a.length (.int (c : Int)) = (a ++ [c]).map fun (n : Nat) => V.int (n : Int) := by
          intro a b c
          rw [List.map_append, List.map_append]
          have : a.length = (a.map fun (n : Nat) => V.int (n : Int)).length := by rw [List.length_map]
          rw [this, List.set_append_right _ _ (Nat.le_refl _), Nat.sub_self]
          rfl
        rw [show ((pst pre).2 : Int) + 1 + (zs2.length : Int) = (((pst pre).2 + (q.spur.length + 1) : Nat) : Int) by omega, hset]
        exact upd_same
    · obtain ⟨⟨_, _, _, rfl⟩, s2, hF2, l2⟩ := hI
      walk_at "go"
      exact k F _ f1 s2 hF2
/-! ### law_order -/
def sp_law_order : Sp := fun vs H Q _ => ∃ (b p : Addr) (m : Nat) (gs : List (Int × Int)), vs = [.ref b, .ref p] ∧ BagAt H b m ∧ m < 700000 ∧ LR T2 H p gs ∧ gs.length ≤ 1000 ∧ ∀ (r : Addr) (es : List (Int × Int)) (H' : Hp), H r = none → Fr [b] H H' → BagAt H' b (m + gs.length) → LR T2 H' r es → es.Perm gs → Q (.ref r) H'
theorem ok_law_order (T : Txt K mg f fd C aK aT) : FnOk P w K mg base CX0 2 (f 46) (fd 46) ["_law_bag_here", "_law_gates"] sp_law_order := by
  refine T.F_law_order.ok sc_law_order (fun vs H Q E h => ?_) (fun cdv A outer s H vs Q E hr h => ?_)
  · obtain ⟨b, p, m, gs, rfl, _⟩ := h; rfl
  · obtain ⟨b, p, m, gs, rfl, hb, hm, ⟨xs, hp, pr⟩, hl, k⟩ := h
    refine ⟨_, (pss_cons (ps_set (i := 2) sc_law_order.nd rfl (Or.inl rfl) (pe_callTy (call_lstK (K := K) rfl) (by rfl) T.n_list (by decide +kernel) (pa_cons (pv 1) pa_nil)))
      (pss_cons (ps_set (i := 3) sc_law_order.nd rfl (Or.inl rfl) (pe_lst pa_nil))
      (pss_cons (ps_for PassesOwn.never rfl (pi_range1 (by rfl) T.n_range (pa_cons (pe_callB (call_lenK (K := K) rfl) (by rfl) T.n_len PySem.boot_len (pa_cons (pv 1) pa_nil)) pa_nil)) (pg_name (i := 4) sc_law_order.nd rfl (Or.inl rfl)) (pss_one (ps_expr (pe_bmK (K := K) rfl PySem.F.plainAttrs_list PySem.F.slot_list_append PySem.F.type_list_append mt_append (pv 3) (pa_cons (pe_bmK (K := K) rfl PySem.F.plainAttrs_list PySem.F.slot_list_pop PySem.F.type_list_pop mt_popAt (pv 2) (pa_cons (pe_call (ok_law_take T) (hr.mono (by decide)) (by rfl) T.m_law_take T.F_law_take.kp T.b_law_take .nil pass0 (pa_cons (pv 0) (pa_cons (pe_callB (call_lenK (K := K) rfl) (by rfl) T.n_len PySem.boot_len (pa_cons (pv 2) pa_nil)) pa_nil))) pa_nil)) pa_nil)))))
      (pss_one (ps_ret (pv 3)))))), ?_⟩
    have s0 := Same.refl H
    have hxl := Paired.length pr
    obtain ⟨xb, hxb⟩ := hb.lst
    walk_at "go"
    refine fun L hL0 => ?_
    have hL1 : upd H L (.lst xs) L = some (.lst xs) := upd_same
    have sL : Same H (upd H L (.lst xs)) := Same.upd hL0
    generalize upd H L (.lst xs) = H1 at *
    walk_at "go"
    rename_i F H2 f1 f2 st2 s2 hF
    have hp2 := s2.get hp
    have hL2 := st2.get hL1
    have FL : F ≠ L := fun z => by rw [z, hL1] at f1; cases f1
    have Fb : F ≠ b := fun z => by rw [z, hxb] at f2; cases f2
    have Lb : L ≠ b := fun z => by rw [z, hxb] at hL0; cases hL0
    walk_at "go"
    rw [Int.toNat_natCast, hxl]
    refine forg_rng (fun i σ H' => (∃ z, σ = [some (.ref b), some (.ref p), some (.ref L), some (.ref F), z]) ∧ Fr [b] H H' ∧ BagAt H' b (m + i) ∧ ∃ es ls, LR T2 H' F es ∧ LR T2 H' L ls ∧ (es ++ ls).Perm gs ∧ es.length = i) ⟨⟨_, rfl⟩, fr_same s2, hb.same s2, [], gs, ⟨[], hF, .nil⟩, ⟨xs, hL2, Paired.mapP pr (T2.tsx s2.ts)⟩, List.Perm.refl _, rfl⟩ (fun i σ H3 hi hI => ?_) (fun σ H3 hI => ?_)
    · obtain ⟨⟨_, rfl⟩, f3, hb3, es, ls, ⟨ve, hF3, pe⟩, ⟨vl, hL3, pl⟩, hpm, hei⟩ := hI
      have hn := hpm.length_eq
      rw [List.length_append] at hn
      have hvl := Paired.length pl
      have hve := Paired.length pe
      have s3 := Same.refl H3
      walk_at "go"
      refine ⟨b, _, m + i, rfl, hb3, by omega, by omega, by omega, fun r H4 r0 r1 f4 hb4 => ?_⟩
      have hL4 := f4.get (by simp; exact Lb) hL3
      have hF4 := f4.get (by simp; exact Fb) hF3
      obtain ⟨xb3, hxb3⟩ := hb3.lst
      have t4 : Tk H3 H4 := f4.ts fun a ha => ⟨.lst xb3, by rw [List.mem_singleton.mp ha]; exact hxb3, nt_l⟩
      have hj : r.toNat < vl.length := by omega
      walk_at "go"
      have hj2 : r.toNat < ls.length := by omega
      have hy := List.getElem?_eq_getElem hj
      refine ⟨L, vl, r, r.toNat, vl[r.toNat], rfl, rfl, hL4, by omega, by omega, seqIx (by omega) hj, hy, ?_⟩
      obtain ⟨y, hy2, ry⟩ := Paired.get1 pl hy
      have hyy : y = ls[r.toNat] := by rw [List.getElem?_eq_getElem hj2] at hy2; exact (Option.some.inj hy2).symm
      subst hyy
      have hF5 : upd H4 L (.lst (vl.eraseIdx r.toNat)) F = some (.lst ve) := by rw [upd_ne FL]; exact hF4
      have hve2 : ve.length ≤ 1000 := by omega
      walk_at "go"
      have t5 : Tk H4 (upd H4 L (.lst (vl.eraseIdx r.toNat))) := Tk.upd hL4 nt_l
      have t6 : Tk (upd H4 L (.lst (vl.eraseIdx r.toNat))) (upd (upd H4 L (.lst (vl.eraseIdx r.toNat))) F (.lst (ve ++ [vl[r.toNat]]))) := Tk.upd hF5 nt_l
      have t7 := t4.trans (t5.trans t6)
      refine ⟨⟨_, rfl⟩, ((f3.trans f4).mut hL0).mut f2, ?_, es ++ [ls[r.toNat]], ls.eraseIdx r.toNat, ⟨_, upd_same, Paired.app (Paired.mapP pe (T2.tsx t7)) (Paired.one (T2.tsx t7 _ _ ry))⟩, ⟨vl.eraseIdx r.toNat, by rw [upd_ne FL.symm]; exact upd_same, Paired.mapP (Paired.erase _ pl) (T2.tsx t7)⟩, ?_, by rw [List.length_append, List.length_singleton]; omega⟩
      · obtain ⟨x, y, z, e4, rest⟩ := hb4
        exact ⟨x, y, z, by rw [upd_ne Fb.symm, upd_ne Lb.symm]; exact e4, rest⟩
      · rw [List.append_assoc]
        exact (List.Perm.append_left es (erase_perm hj2)).trans hpm
    · obtain ⟨⟨_, rfl⟩, f3, hb3, es, ls, lrF, lrL, hpm, hei⟩ := hI
      walk_at "go"
      have hn := hpm.length_eq
      rw [List.length_append] at hn
      have hls : ls = [] := List.length_eq_zero_iff.mp (by omega)
      rw [hls, List.append_nil] at hpm
      exact k F es _ f2 f3 hb3 lrF hpm
end
end Wl

namespace Wl
open PySem L2
/-! ### the step tactics -/
local macro_rules | `(tactic| walk_at "lk") => `(tactic| first
  | assumption
  | exact upd_same
  | (refine (?_ : ∀ H, SqT _ H _ _) _; assumption)
  | (apply Step.get; (focus assumption); walk_at "lk")
  | (apply upd_tupL; (focus walk_at "lk"); walk_at "lk")
  | (apply upd_tupT; (focus walk_at "lk"); walk_at "lk")
  | (apply upd_tupK; (focus walk_at "lk"); walk_at "lk")
  | (apply L2.Same.get; (focus assumption); assumption)
  | (apply L2.Same.get; rotate_left; (focus assumption); assumption)
  | (apply SqT.of; walk_at "lk")
  | (apply SqL.of; walk_at "lk"))
local macro_rules | `(tactic| walk_at "sm") => `(tactic| first
  | assumption
  | (apply L2.Same.mut; (focus walk_at "sm"); (focus assumption)))
local macro_rules | `(tactic| walk_at "cond") => `(tactic| first
  | rfl
  | assumption
  | (exact dt (by first | rfl | assumption | omega | (simp; done) | (simp; omega)))
  | (exact df (by first | assumption | omega | (simp; done) | (simp; omega)))
  | (exact ndt (by first | rfl | assumption | omega | (simp; done) | (simp; omega)))
  | (exact ndf (by first | assumption | omega | (simp; done) | (simp; omega)))
  | (simp; done))
local macro_rules | `(tactic| walk_at "cond1") => `(tactic| first
  | assumption
  | with_reducible rfl
  | with_reducible exact n_t
  | with_reducible exact n_f
  | with_reducible exact dt (by assumption)
  | with_reducible exact df (by assumption)
  | with_reducible exact ndt (by assumption)
  | with_reducible exact ndf (by assumption))
local macro_rules | `(tactic| walk_at "g1") => `(tactic| first
  | with_reducible refine i_seq ?_
  | with_reducible refine i_asg ?_
  | with_reducible refine i_name ?_
  | with_reducible refine i_ret ?_
  | with_reducible refine i_drop ?_
  | with_reducible refine i_if ?_
  | with_reducible refine i_next ?_
  | with_reducible refine i_break ?_
  | with_reducible refine i_c ?_
  | ((with_reducible apply i_var); (focus (rfl)))
  | with_reducible refine i_op ?_
  | with_reducible refine i_cons ?_
  | with_reducible refine i_nil ?_
  | with_reducible refine i_cb ?_
  | with_reducible refine i_call ?_
  | ((with_reducible apply i_ixT); (focus (walk_at "lk")); (focus (first | rfl | assumption)))
  | ((with_reducible apply i_ixL); (focus (walk_at "lk")); (focus (first | rfl | assumption)))
  | with_reducible refine i_I0 ?_
  | ((with_reducible apply i_eq); (focus (rfl)))
  | ((with_reducible apply i_ne); (focus (rfl)))
  | with_reducible refine i_un ?_
  | with_reducible refine i_neg ?_
  | with_reducible refine i_andV ?_
  | with_reducible refine i_orV ?_
  | with_reducible refine i_notV ?_
  | with_reducible refine i_chain ?_
  | with_reducible refine i_test ?_
  | with_reducible refine i_B ?_
  | with_reducible refine i_k ?_
  | with_reducible refine i_and ?_
  | with_reducible refine i_or ?_
  | with_reducible refine i_not ?_
  | with_reducible refine i_yes ?_
  | (with_reducible refine i_isiI kit_ii ?_)
  | (with_reducible refine i_isiI kit_ib ?_)
  | (with_reducible refine i_isiS kit_ss ?_)
  | ((with_reducible apply i_isiT); (focus (walk_at "lk")); (focus (exact kit_tt)))
  | ((with_reducible apply i_len); (focus (first | (apply Or.inr; walk_at "lk") | (apply Or.inl; walk_at "lk"))))
  | ((with_reducible apply i_lens); (focus (walk_at "sz")))
  | (with_reducible refine i_sign ?_)
  | ((with_reducible apply i_inT); (focus (walk_at "lk")); (focus (rfl)); (focus (rfl)))
  | ((with_reducible apply i_inL); (focus (walk_at "lk")); (focus (rfl)); (focus (rfl)))
  | ((with_reducible apply i_ninL); (focus (walk_at "lk")); (focus (rfl)); (focus (rfl)))
  | ((with_reducible apply i_all); (focus (walk_at "lk")))
  | ((with_reducible apply i_any); (focus (walk_at "lk")))
  | ((with_reducible apply ift); (focus (walk_at "cond1")))
  | ((with_reducible apply iff_); (focus (walk_at "cond1")))
  | ((with_reducible apply ift); (focus (rfl)))
  | ((with_reducible apply iff_); (focus (rfl)))
  | ((with_reducible apply ift); (focus (walk_at "cond")))
  | ((with_reducible apply iff_); (focus (walk_at "cond")))
  | with_reducible refine i_tup ?_
  | (with_reducible refine i_new2 (by walk_at "sm") ?_; intro _ _ _ _ _ _ _)
  | with_reducible refine i_dnK ?_
  | with_reducible refine i_dnT ?_
  | with_reducible refine i_lc ?_
  | with_reducible refine i_for ?_
  | with_reducible refine i_iTup ?_
  | with_reducible refine i_iList ?_
  | ((with_reducible apply i_tupW); (focus (walk_at "lk")))
  | ((with_reducible apply i_listW); (focus (walk_at "lk")))
  | with_reducible refine i_iRng1 ?_
  | ((with_reducible apply i_rng1); (focus (walk_at "bnd")))
  | with_reducible refine i_iRng2 ?_
  | ((with_reducible apply i_rng2); (focus (walk_at "bnd")))
  | with_reducible refine i_iStr ?_
  | with_reducible refine i_iEnT ?_
  | with_reducible refine i_iEnum ?_
  | ((with_reducible apply i_enTW); (focus (walk_at "lk")))
  | ((with_reducible apply i_enLW); (focus (walk_at "lk")))
  | with_reducible refine i_strW ?_
  | with_reducible refine i_lst ?_
  | with_reducible refine i_bm ?_
  | with_reducible refine i_fld ?_
  | with_reducible refine i_dget2 ?_
  | with_reducible refine i_dget ?_
  | with_reducible refine i_din ?_
  | with_reducible refine i_dnotin ?_
  | with_reducible refine i_dputT ?_
  | with_reducible refine i_isN ?_
  | with_reducible refine i_notN ?_
  | ((with_reducible apply i_gtup); (focus (walk_at "lk")); (focus (rfl)))
  | with_reducible refine i_gcons ?_
  | with_reducible refine i_gnil ?_
  | with_reducible refine i_sl ?_
  | with_reducible refine i_nopart ?_
  | with_reducible refine i_part ?_
  | ((with_reducible apply i_app); (focus (walk_at "lk")); (focus (walk_at "sz")))
  | with_reducible refine i_2i ?_
  | with_reducible refine i_par ?_
  | with_reducible refine i_m1 ?_
  | with_reducible refine i_ex1 ?_
  | with_reducible refine i_isS ?_
  | ((with_reducible apply i_slS); (focus (walk_at "sz")))
  | with_reducible refine i_add_str ?_
  | with_reducible refine i_abs ?_
  | with_reducible refine i_gsub ?_
  | ((with_reducible apply i_setL); (focus (walk_at "lk")); (focus (rfl)))
  | ((with_reducible apply i_I); (focus (walk_at "arith")))
  | ((with_reducible apply i_fldw); (focus (walk_at "lk")); (focus assumption); (focus assumption); (focus (first | exact lk_plan | exact lk_hows | exact lk_stops | exact lk_dev)))
  | with_reducible refine i_meth ?_
  | ((with_reducible apply i_methW); (focus (walk_at "lk")); (focus (first | exact nm_need | exact nm_change | exact nm_parted | exact nm_act | exact nm_cut | exact nm_short | exact nm_mend | exact nm_rests | exact nm_come | exact nm_heard)))
  | ((with_reducible apply i_isD); (focus (walk_at "lk")))
  | ((with_reducible apply i_ext); (focus (walk_at "lk")); (focus (walk_at "lk")); (focus (walk_at "sz")))
  | ((with_reducible apply And.intro); (focus (first | (show wipe _ _ = wipe _ _; rfl) | (walk_at "sz")))))
local macro_rules | `(tactic| walk_at "arith") => `(tactic| first
  | assumption
  | (refine Or.inl ?_; (constructor <;> omega))
  | (refine Or.inr ?_; (constructor <;> omega))
  | (show (0 : Int) < _; omega)
  | (show 0 < _ ∧ _ < _; (constructor <;> omega))
  | (show CPow 10 18; exact ⟨by decide, by decide, by decide⟩))
local macro_rules | `(tactic| walk_at "bnd") => `(tactic| first
  | omega
  | (refine ⟨?_, ?_⟩ <;> omega))
local macro_rules | `(tactic| walk_at "sz") => `(tactic| first
  | (apply ty_l; walk_at "lk")
  | (apply ty_d; walk_at "lk")
  | (exact szle (by omega))
  | (exact szl (by omega))
  | (exact szle (by simp only [List.length_append, List.length_cons, List.length_nil, List.length_map]; omega))
  | (exact szl (by simp only [List.length_append, List.length_cons, List.length_nil, List.length_map]; omega))
  | (exact Nat.le_of_ble_eq_true rfl))
local macro_rules | `(tactic| walk_at "go") => `(tactic| repeat (first | walk_at "g1" | dsimp only))
section
variable {P : Program} {w : World} {K : PySem.W.Frag} {mg : Str → Option Value} {f : Nat → Addr} {fd : Nat → FuncData} {C aK aT : Addr} {base : Heap}
/-! ### law_stretches -/
theorem ok_law_stretches (T : Txt K mg f fd C aK aT) : FnOk P w K mg base CX0 1 (f 44) (fd 44) ["_law_plan_here"] sp_stretches := by
  refine T.F_law_stretches.ok sc_law_stretches (fun vs H Q E h => ?_) (fun cdv A outer s H vs Q E hr h => ?_)
  · obtain ⟨v, P, rfl, _⟩ := h; rfl
  · obtain ⟨v, P, rfl, ⟨p, ls, zs, rfl, hp, ⟨la, xs, rfl, hl, pr⟩, _⟩, hg, k⟩ := h
    refine ⟨_, (pss_cons (ps_set (i := 1) sc_law_stretches.nd rfl (Or.inl rfl) (pe_lst pa_nil))
      (pss_cons (ps_for PassesOwn.never rfl (pi_range1 (by rfl) T.n_range (pa_cons (pe_callB (call_lenK (K := K) rfl) (by rfl) T.n_len PySem.boot_len (pa_cons (pe_ix (ix_tupK (K := K) rfl) (pv 0) pe_int (fun _ _ => rfl)) pa_nil)) pa_nil)) (pg_name (i := 2) sc_law_stretches.nd rfl (Or.inr rfl)) (pss_cons (ps_expr (pe_bmK (K := K) rfl PySem.F.plainAttrs_list PySem.F.slot_list_append PySem.F.type_list_append mt_append (pv 1) (pa_cons (pe_tup (pa_cons (pv 2) (pa_cons pe_int (pa_cons pe_int pa_nil)))) pa_nil)))
      (pss_one (ps_for PassesOwn.never rfl (pi_range1 (by rfl) T.n_range (pa_cons (pe_callB (call_lenK (K := K) rfl) (by rfl) T.n_len PySem.boot_len (pa_cons (pe_ix (ix_tupK (K := K) rfl) (pe_ix (ix_tupK (K := K) rfl) (pv 0) pe_int (fun _ _ => rfl)) (pv 2) (fun _ _ => rfl)) pa_nil)) pa_nil)) (pg_name (i := 3) sc_law_stretches.nd rfl (Or.inr rfl)) (pss_one (ps_expr (pe_bmK (K := K) rfl PySem.F.plainAttrs_list PySem.F.slot_list_extend PySem.F.type_list_extend mt_extend (pv 1) (pa_cons (pe_lc (own := [("_law_way", 4)]) rfl sc_law_stretches.nd  (pi_range1 (by rfl) T.n_range (pa_cons (pe_op op_add (pe_callB (call_lenK (K := K) rfl) (by rfl) T.n_len PySem.boot_len (pa_cons (pe_ix (ix_tupK (K := K) rfl) (pe_ix (ix_tupK (K := K) rfl) (pe_ix (ix_tupK (K := K) rfl) (pe_ix (ix_tupK (K := K) rfl) (pv 0) pe_int (fun _ _ => rfl)) (pv 2) (fun _ _ => rfl)) (pv 3) (fun _ _ => rfl)) pe_int (fun _ _ => rfl)) pa_nil)) pe_int) pa_nil)) (blkOk_by (N := ["_law_plan_here", "_law_found", "_law_loop_here", "_law_at", "_law_way"]) (sc := defScope s_law_stretches) (by decide +kernel)) (fun _ _ _ _ _ => (pg_name (i := 4) sc_law_stretches.nd rfl (Or.inl rfl))) (fun _ _ _ _ _ => pts_nil) (fun _ _ _ _ _ => (pe_tup (pa_cons (pv 2) (pa_cons (pe_op op_add (pv 3) pe_int) (pa_cons (pv 4) pa_nil)))))) pa_nil))))))))
      (pss_one (ps_ret (pv 1))))), ?_⟩
    have s0 := Same.refl H
    have hxl := Paired.length pr
    have hg1 := hg.1
    walk_at "go"
    rename_i F H1 f1 f2 s1 s1' hF
    rw [Int.toNat_natCast, hxl]
    have hdl : (enumF (fun l lp => (((l : Int), 0, 0) : Sp3) :: enumF (fun a q => strPl l a q) 0 lp) 0 P.loops).length ≤ 150 := stretches_le hg
    refine forg_rng (fun i σ H' => (∃ a b c, σ = [some (.ref p), some (.ref F), a, b, c]) ∧ Same H H' ∧ LR T3 H' F (enumF (fun l lp => (((l : Int), 0, 0) : Sp3) :: enumF (fun a q => strPl l a q) 0 lp) 0 (P.loops.take i))) ⟨⟨_, _, _, rfl⟩, s1', [], hF, .nil⟩ (fun i σ H2 hi hP => ?_) (fun σ H' hP => ?_)
    · obtain ⟨⟨_, _, _, rfl⟩, s2, vs2, hF2, lr2⟩ := hP
      have e := split_at hi
      have hti : (P.loops.take i).length = i := by rw [List.length_take]; omega
      generalize hlp0 : P.loops[i] = lp at e
      have hlpq : P.loops[i]? = some lp := by rw [List.getElem?_eq_getElem hi, hlp0]
      obtain ⟨x, hx, lb, ys, rfl, hlb, pr2⟩ := Paired.get2 pr hlpq
      have hx2 : atI xs (0 + (i : Int)) = some (.ref lb) := ati i (by omega) hx
      have hyl := Paired.length pr2
      have hm := List.mem_of_getElem? hlpq
      have hlp := (hg.2 lp hm).2.1
      have e1 := enumF_le (f := fun l lp => (((l : Int), 0, 0) : Sp3) :: enumF (fun a q => strPl l a q) 0 lp) e
      rw [List.length_cons, hti] at e1
      have hv3 : vs2.length ≤ 1000 := by have := Paired.length lr2; omega
      walk_at "go"
      rename_i q1 h1 _ _ st1 s4 e4
      have hpU : upd h1 F (.lst (vs2 ++ [.ref q1])) p = some (.tup [.int P.most, .ref la, zs]) := Tk.upd (st1.get hF2) nt_l _ _ (s4.get hp)
      have hlU : upd h1 F (.lst (vs2 ++ [.ref q1])) la = some (.tup xs) := Tk.upd (st1.get hF2) nt_l _ _ (s4.get hl)
      have hbU : upd h1 F (.lst (vs2 ++ [.ref q1])) lb = some (.tup ys) := Tk.upd (st1.get hF2) nt_l _ _ (s4.get hlb)
      walk_at "go"
      rw [Int.toNat_natCast, hyl]
      have htk : P.loops.take (i + 1) = P.loops.take i ++ [lp] := by rw [take_snoc hi, hlp0]
      refine forg_rng (fun j σ H' => (∃ d e, σ = [some (.ref p), some (.ref F), some (.int (0 + (i : Int))), d, e]) ∧ Same H H' ∧ LR T3 H' F ((enumF (fun l lp => (((l : Int), 0, 0) : Sp3) :: enumF (fun a q => strPl l a q) 0 lp) 0 (P.loops.take i) ++ [((i : Int), 0, 0)]) ++ enumF (fun a q => strPl i a q) 0 (lp.take j)))
        ⟨⟨_, _, rfl⟩, s4.mut f1, ?_⟩ (fun j σ H4 hj hP => ?_) (fun σ H' hP => ?_)
      · rw [List.take_zero, enumF, List.append_nil]
        refine LR.snoc T3.tsx (by walk_at "lk") (Paired.mapP lr2 (T3.tsx st1.same.ts)) ⟨_, rfl, ?_⟩
        rw [Int.zero_add] at e4
        exact e4
      · obtain ⟨⟨_, _, rfl⟩, s4, vs4, hF4, lr4⟩ := hP
        have e2 := split_at hj
        have htj : (lp.take j).length = j := by rw [List.length_take]; omega
        generalize hpl0 : lp[j] = pl at e2
        have hplq : lp[j]? = some pl := by rw [List.getElem?_eq_getElem hj, hpl0]
        obtain ⟨y, hy, pp, ss, rfl, hpp, ⟨sa, zs2, rfl, hsa, pr3⟩⟩ := Paired.get2 pr2 hplq
        have hy2 : atI ys (0 + (j : Int)) = some (.ref pp) := ati j (by omega) hy
        have e3 := enumF_le (f := fun a q => strPl i a q) e2
        rw [strPl_len] at e3
        have hsp := spur_le ((hg.2 lp hm).2.2 pl (List.mem_of_getElem? hplq))
        have hz2 := Paired.length pr3
        walk_at "go"
        refine lcg_rng s4 (by omega) (fun w => some ((((i : Int), (j : Int) + 1, (w : Int)) : Sp3))) T3 T3.tsx (fun i' H6 hi' s6 s6' Ky Kn ky kn => ?_) (fun D H6 d1 d2 s6 s6' l6 => ?_)
        · walk_at "go"
          rename_i q2 h2 _ _ st2 s7 e5
          rw [Int.zero_add, Int.zero_add, Int.zero_add] at e5
          exact ky _ _ _ rfl st2.same ⟨_, rfl, e5⟩
        · obtain ⟨vs6, hD6, pr6⟩ := l6
          rw [fm_some] at pr6
          have hn : (((zs2.length : Int) + 1).toNat) = pl.spur.length + 1 := by omega
          rw [hn] at pr6
          have hF6 := s6 _ _ hF4
          have q6 : vs4.length + vs6.length ≤ 1000 := by
            have h1 := Paired.length lr4
            have h2 := Paired.length pr6
            rw [List.length_map, List.length_range] at h2
            rw [List.length_append, List.length_append, List.length_singleton] at h1
            omega
          walk_at "go"
          refine ⟨⟨_, _, rfl⟩, s6'.mut f1, ?_⟩
          rw [take_snoc hj, hpl0, enumF_snoc, htj, ← List.append_assoc]
          exact LR.ext T3.tsx hF6 (Paired.mapP lr4 (T3.tsx s6.ts)) pr6
      · obtain ⟨⟨_, _, rfl⟩, s4, vs4, hF4, lr4⟩ := hP
        refine ⟨⟨_, _, _, rfl⟩, s4, _, hF4, ?_⟩
        rw [htk, enumF_snoc, hti]
        rw [List.take_length, List.append_assoc] at lr4
        exact lr4
    · obtain ⟨⟨_, _, _, rfl⟩, s2, vs2, hF2, lr2⟩ := hP
      rw [List.take_length] at lr2
      walk_at "go"
      exact k _ _ f2 s2 ⟨_, hF2, lr2⟩
/-! ### law_befall -/
def Ev (s t : Str) : Prop := (s = "short" ∧ t = "short") ∨ (s = "cut" ∧ t = "cut") ∨ (s = "whole" ∧ t = "")
def sp_law_befall (C : Addr) : Sp := fun vs H Q _ => ∃ (b x lh nl dx : Addr) (v : V) (hw sw dw : Addr) (P : Plan) (h : Sp3 → Str) (n m : Nat), vs = [.ref b, .ref x, .ref lh, .ref nl] ∧ BagAt H b m ∧ m < 700000 ∧ WObj C H x dx v hw sw dw ∧ PlanR H v P ∧ GoodLs P ∧ HowsF H hw h n ∧ n ≤ 1000 ∧ H lh = some (.dT []) ∧ hw ≠ lh ∧ LR T3 H nl (stretches P) ∧ 1 ≤ (stretches P).length ∧
  ∀ (q : Sp3) (s t : Str) (H' : Hp), q ∈ stretches P → Ev s t → Fr [b, hw, lh] H H' → BagAt H' b (m + 2) → HowsF H' hw (setH h q t) (n + 1) → H' lh = some (.dT [(ky3 q, .str s)]) → Q .non H'
theorem ok_law_befall (T : Txt K mg f fd C aK aT) : FnOk P w K mg base CX0 5 (f 45) (fd 45) ["_law_bag_here", "_law_wires", "_law_hows", "_law_wire_names"] (sp_law_befall C) := by
  refine T.F_law_befall.ok sc_law_befall (fun vs H Q E h => ?_) (fun cdv A outer s H vs Q E hr h => ?_)
  · obtain ⟨b, x, lh, nl, dx, v, hw, sw, dw, P, h, n, m, rfl, _⟩ := h; rfl
  · obtain ⟨b, x, lh, nl, dx, v, hw, sw, dw, P, h, n, m, rfl, hb, hm, hx, hP, hg, hH, hn, hl, hwl, ⟨vn, hnl, pn⟩, h1, k⟩ := h
    refine ⟨_, (pss_cons (ps_set (i := 4) sc_law_befall.nd rfl (Or.inl rfl) (pe_ix (ix_listK (K := K) rfl) (pv 3) (pe_call (ok_law_take T) (hr.mono (by decide)) (by rfl) T.m_law_take T.F_law_take.kp T.b_law_take .nil pass0 (pa_cons (pv 0) (pa_cons (pe_callB (call_lenK (K := K) rfl) (by rfl) T.n_len PySem.boot_len (pa_cons (pv 3) pa_nil)) pa_nil))) (fun _ _ => rfl)))
      (pss_cons (ps_set (i := 5) sc_law_befall.nd rfl (Or.inl rfl) (pe_call (ok_law_take T) (hr.mono (by decide)) (by rfl) T.m_law_take T.F_law_take.kp T.b_law_take .nil pass0 (pa_cons (pv 0) (pa_cons pe_int pa_nil))))
      (pss_one (ps_if (pt_cmpR op_lt (pv 5) pe_int (nomark _)) (pss_cons (ps_expr (pe_meth (pv 1) T.cl T.e_Wshort (ok_Wshort T) (hr.mono (by decide)) T.b_Wshort .nil pass0 (pa_cons (pv 4) pa_nil)))
      (pss_one (ps_dput (hu_of hr) (pv 2) (pv 4) pe_str rfl)))
      (pss_one (ps_if (pt_cmpR op_lt (pv 5) pe_int (nomark _)) (pss_cons (ps_expr (pe_meth (pv 1) T.cl T.e_Wcut (ok_Wcut T) (hr.mono (by decide)) T.b_Wcut .nil pass0 (pa_cons (pv 4) pa_nil)))
      (pss_one (ps_dput (hu_of hr) (pv 2) (pv 4) pe_str rfl)))
      (pss_cons (ps_expr (pe_meth (pv 1) T.cl T.e_Wmend (ok_Wmend T) (hr.mono (by decide)) T.b_Wmend .nil pass0 (pa_cons (pv 4) pa_nil)))
      (pss_one (ps_dput (hu_of hr) (pv 2) (pv 4) pe_str rfl))))))))), ?_⟩
    have s0 := Same.refl H
    have hvl := Paired.length pn
    have hsl := stretches_le hg
    have hx2 : H x = some (.ins C dx (wfs v hw sw dw)) := hx
    obtain ⟨xb, hxb⟩ := hb.lst
    obtain ⟨kvs, hkv, _⟩ := id hH
    have nb : nl ≠ b → True := fun _ => trivial
    have xbn : x ≠ b := fun z => by rw [z, hxb] at hx2; cases hx2
    have hwb : hw ≠ b := fun z => by rw [z, hxb] at hkv; cases hkv
    have lhb : lh ≠ b := fun z => by rw [z, hxb] at hl; cases hl
    have xhw : x ≠ hw := fun z => by rw [z, hkv] at hx2; cases hx2
    have xlh : x ≠ lh := fun z => by rw [z, hl] at hx2; cases hx2
    walk_at "go"
    refine ⟨b, _, m, rfl, hb, by omega, by omega, by omega, fun r H1 r0 r1 f1 hb1 => ?_⟩
    have t1 : Tk H H1 := f1.ts fun a ha => ⟨.lst xb, by rw [List.mem_singleton.mp ha]; exact hxb, nt_l⟩
    by_cases hnb : nl = b
    · -- the names' list is no bag
      rw [hnb, hxb] at hnl
      obtain ⟨x1, y1, z1, e1, _⟩ := id hb
      rw [e1] at hxb
      have e2 : vn = [V.int x1, V.int y1, V.int z1] := by injection hnl with e; injection e with e; injection hxb with e'; injection e' with e'; rw [← e, ← e']
      rw [e2] at pn
      have := Paired.get1 pn (j := 0) rfl
      obtain ⟨y, _, p, e, _⟩ := this
      cases e
    have hnl1 := f1.get (by simp; exact hnb) hnl
    have hj : r.toNat < vn.length := by omega
    have hy := List.getElem?_eq_getElem hj
    obtain ⟨q, hq, t, et, ht⟩ := Paired.get1 pn hy
    have hqm := List.mem_of_getElem? hq
    have ha : atI vn r = some (.ref t) := ati r.toNat (by omega) (by rw [hy, et])
    have ht1 := t1 _ _ ht
    walk_at "go"
    refine ⟨b, 5, m + 1, rfl, hb1, by omega, by decide, by decide, fun r2 H2 r20 r21 f2 hb2 => ?_⟩
    obtain ⟨xb1, hxb1⟩ := hb1.lst
    have t2 : Tk H1 H2 := f2.ts fun a ha => ⟨.lst xb1, by rw [List.mem_singleton.mp ha]; exact hxb1, nt_l⟩
    have f3 := f1.trans f2
    have ht2 := t2 _ _ ht1
    have hx3 := f3.get (by simp; exact xbn) hx2
    have hH3 : HowsF H2 hw h n := let ⟨kv, e, z, l⟩ := hH; ⟨kv, f3.get (by simp; exact hwb) e, z, l⟩
    have hl3 := f3.get (by simp; exact lhb) hl
    have hP3 := hP.ts (t1.trans t2)
    have fin : ∀ (s t' : Str) (H4 : Hp), Ev s t' → Fr [hw] H2 H4 → HowsF H4 hw (setH h q t') (n + 1) → DPut H4 lh (.ref t) (.str s) (upd H4 lh (.dT [(ky3 q, .str s)])) ∧ Q .non (upd H4 lh (.dT [(ky3 q, .str s)])) := by
      intro s t' H4 hev f4 hH4
      have hl4 := f4.get (by simp; exact hwl.symm) hl3
      have ht4 : H4 t = _ := f4.get (by simp; exact fun z => by rw [z] at ht2; obtain ⟨kv, e, _⟩ := hH3; rw [e] at ht2; cases ht2) ht2
      refine ⟨DPut.t (k := ky3 q) hl4 ht4 (szl (by simp)), ?_⟩
      refine k q s t' _ hqm hev (((f3.mono (by simp)).trans (f4.mono (by simp))).trans (Fr.upd (by simp))) ?_ ?_ upd_same
      · obtain ⟨x, y, z, e4, rest⟩ := hb2
        exact ⟨x, y, z, by rw [upd_ne lhb.symm]; exact f4.get (by simp; exact hwb.symm) e4, rest⟩
      · obtain ⟨kv, e, z, l⟩ := hH4
        exact ⟨kv, by rw [upd_ne hwl]; exact e, z, l⟩
    by_cases c1 : r2 < 2
    · walk_at "go"
      refine ⟨x, dx, v, hw, sw, dw, t, P, q, h, n, rfl, hx3, hP3, hg, ht2, hqm, hH3, hn, fun H4 f4 hH4 => ?_⟩
      walk_at "go"
      obtain ⟨d1, d2⟩ := fin "short" "short" H4 (.inl ⟨rfl, rfl⟩) f4 hH4
      refine ⟨lh, _, rfl, d1, ?_⟩
      walk_at "go"
      exact d2
    · by_cases c2 : r2 < 4
      · walk_at "go"
        refine ⟨x, dx, v, hw, sw, dw, t, P, q, h, n, rfl, hx3, hP3, hg, ht2, hqm, hH3, hn, fun H4 f4 hH4 => ?_⟩
        walk_at "go"
        obtain ⟨d1, d2⟩ := fin "cut" "cut" H4 (.inr (.inl ⟨rfl, rfl⟩)) f4 hH4
        refine ⟨lh, _, rfl, d1, ?_⟩
        walk_at "go"
        exact d2
      · walk_at "go"
        refine ⟨x, dx, v, hw, sw, dw, t, P, q, h, n, rfl, hx3, hP3, hg, ht2, hqm, hH3, hn, fun H4 f4 hH4 => ?_⟩
        walk_at "go"
        obtain ⟨d1, d2⟩ := fin "whole" "" H4 (.inr (.inr ⟨rfl, rfl⟩)) f4 hH4
        refine ⟨lh, _, rfl, d1, ?_⟩
        walk_at "go"
        exact d2
end
end Wl

namespace Wl
open PySem L2
/-! ### the step tactics -/
local macro_rules | `(tactic| walk_at "lk") => `(tactic| first
  | assumption
  | exact upd_same
  | (refine (?_ : ∀ H, SqT _ H _ _) _; assumption)
  | (apply Step.get; (focus assumption); walk_at "lk")
  | (apply upd_tupL; (focus walk_at "lk"); walk_at "lk")
  | (apply upd_tupT; (focus walk_at "lk"); walk_at "lk")
  | (apply upd_tupK; (focus walk_at "lk"); walk_at "lk")
  | (apply L2.Same.get; (focus assumption); assumption)
  | (apply L2.Same.get; rotate_left; (focus assumption); assumption)
  | (apply SqT.of; walk_at "lk")
  | (apply SqL.of; walk_at "lk"))
local macro_rules | `(tactic| walk_at "sm") => `(tactic| first
  | assumption
  | (apply L2.Same.mut; (focus walk_at "sm"); (focus assumption)))
local macro_rules | `(tactic| walk_at "cond") => `(tactic| first
  | rfl
  | assumption
  | (exact dt (by first | rfl | assumption | omega | (simp; done) | (simp; omega)))
  | (exact df (by first | assumption | omega | (simp; done) | (simp; omega)))
  | (exact ndt (by first | rfl | assumption | omega | (simp; done) | (simp; omega)))
  | (exact ndf (by first | assumption | omega | (simp; done) | (simp; omega)))
  | (simp; done))
local macro_rules | `(tactic| walk_at "cond1") => `(tactic| first
  | assumption
  | with_reducible rfl
  | with_reducible exact n_t
  | with_reducible exact n_f
  | with_reducible exact dt (by assumption)
  | with_reducible exact df (by assumption)
  | with_reducible exact ndt (by assumption)
  | with_reducible exact ndf (by assumption))
local macro_rules | `(tactic| walk_at "g1") => `(tactic| first
  | with_reducible refine i_seq ?_
  | with_reducible refine i_asg ?_
  | with_reducible refine i_name ?_
  | with_reducible refine i_ret ?_
  | with_reducible refine i_drop ?_
  | with_reducible refine i_if ?_
  | with_reducible refine i_next ?_
  | with_reducible refine i_break ?_
  | with_reducible refine i_c ?_
  | ((with_reducible apply i_var); (focus (rfl)))
  | with_reducible refine i_op ?_
  | with_reducible refine i_cons ?_
  | with_reducible refine i_nil ?_
  | with_reducible refine i_cb ?_
  | with_reducible refine i_call ?_
  | ((with_reducible apply i_ixT); (focus (walk_at "lk")); (focus (first | rfl | assumption)))
  | ((with_reducible apply i_ixL); (focus (walk_at "lk")); (focus (first | rfl | assumption)))
  | with_reducible refine i_I0 ?_
  | ((with_reducible apply i_eq); (focus (rfl)))
  | ((with_reducible apply i_ne); (focus (rfl)))
  | with_reducible refine i_un ?_
  | with_reducible refine i_neg ?_
  | with_reducible refine i_andV ?_
  | with_reducible refine i_orV ?_
  | with_reducible refine i_notV ?_
  | with_reducible refine i_chain ?_
  | with_reducible refine i_test ?_
  | with_reducible refine i_B ?_
  | with_reducible refine i_k ?_
  | with_reducible refine i_and ?_
  | with_reducible refine i_or ?_
  | with_reducible refine i_not ?_
  | with_reducible refine i_yes ?_
  | (with_reducible refine i_isiI kit_ii ?_)
  | (with_reducible refine i_isiI kit_ib ?_)
  | (with_reducible refine i_isiS kit_ss ?_)
  | ((with_reducible apply i_isiT); (focus (walk_at "lk")); (focus (exact kit_tt)))
  | ((with_reducible apply i_len); (focus (first | (apply Or.inr; walk_at "lk") | (apply Or.inl; walk_at "lk"))))
  | ((with_reducible apply i_lens); (focus (walk_at "sz")))
  | (with_reducible refine i_sign ?_)
  | ((with_reducible apply i_inT); (focus (walk_at "lk")); (focus (rfl)); (focus (rfl)))
  | ((with_reducible apply i_inL); (focus (walk_at "lk")); (focus (rfl)); (focus (rfl)))
  | ((with_reducible apply i_ninL); (focus (walk_at "lk")); (focus (rfl)); (focus (rfl)))
  | ((with_reducible apply i_all); (focus (walk_at "lk")))
  | ((with_reducible apply i_any); (focus (walk_at "lk")))
  | ((with_reducible apply ift); (focus (walk_at "cond1")))
  | ((with_reducible apply iff_); (focus (walk_at "cond1")))
  | ((with_reducible apply ift); (focus (rfl)))
  | ((with_reducible apply iff_); (focus (rfl)))
  | ((with_reducible apply ift); (focus (walk_at "cond")))
  | ((with_reducible apply iff_); (focus (walk_at "cond")))
  | with_reducible refine i_tup ?_
  | (with_reducible refine i_new2 (by walk_at "sm") ?_; intro _ _ _ _ _ _ _)
  | with_reducible refine i_dnK ?_
  | with_reducible refine i_dnT ?_
  | with_reducible refine i_lc ?_
  | with_reducible refine i_for ?_
  | with_reducible refine i_iTup ?_
  | with_reducible refine i_iList ?_
  | ((with_reducible apply i_tupW); (focus (walk_at "lk")))
  | ((with_reducible apply i_listW); (focus (walk_at "lk")))
  | with_reducible refine i_iRng1 ?_
  | ((with_reducible apply i_rng1); (focus (walk_at "bnd")))
  | with_reducible refine i_iRng2 ?_
  | ((with_reducible apply i_rng2); (focus (walk_at "bnd")))
  | with_reducible refine i_iStr ?_
  | with_reducible refine i_iEnT ?_
  | with_reducible refine i_iEnum ?_
  | ((with_reducible apply i_enTW); (focus (walk_at "lk")))
  | ((with_reducible apply i_enLW); (focus (walk_at "lk")))
  | with_reducible refine i_strW ?_
  | with_reducible refine i_lst ?_
  | with_reducible refine i_bm ?_
  | with_reducible refine i_fld ?_
  | with_reducible refine i_dget2 ?_
  | with_reducible refine i_dget ?_
  | with_reducible refine i_din ?_
  | with_reducible refine i_dnotin ?_
  | with_reducible refine i_dputT ?_
  | with_reducible refine i_isN ?_
  | with_reducible refine i_notN ?_
  | ((with_reducible apply i_gtup); (focus (walk_at "lk")); (focus (rfl)))
  | with_reducible refine i_gcons ?_
  | with_reducible refine i_gnil ?_
  | with_reducible refine i_sl ?_
  | with_reducible refine i_nopart ?_
  | with_reducible refine i_part ?_
  | ((with_reducible apply i_app); (focus (walk_at "lk")); (focus (walk_at "sz")))
  | with_reducible refine i_2i ?_
  | with_reducible refine i_par ?_
  | with_reducible refine i_m1 ?_
  | with_reducible refine i_ex1 ?_
  | with_reducible refine i_isS ?_
  | ((with_reducible apply i_slS); (focus (walk_at "sz")))
  | with_reducible refine i_add_str ?_
  | with_reducible refine i_abs ?_
  | with_reducible refine i_gsub ?_
  | ((with_reducible apply i_setL); (focus (walk_at "lk")); (focus (rfl)))
  | ((with_reducible apply i_I); (focus (walk_at "arith")))
  | ((with_reducible apply i_fldw); (focus (walk_at "lk")); (focus assumption); (focus assumption); (focus (first | exact lk_plan | exact lk_hows | exact lk_stops | exact lk_dev)))
  | with_reducible refine i_meth ?_
  | ((with_reducible apply i_methW); (focus (walk_at "lk")); (focus (first | exact nm_need | exact nm_change | exact nm_parted | exact nm_act | exact nm_cut | exact nm_short | exact nm_mend | exact nm_rests | exact nm_come | exact nm_heard)))
  | ((with_reducible apply i_isD); (focus (walk_at "lk")))
  | ((with_reducible apply i_ext); (focus (walk_at "lk")); (focus (walk_at "lk")); (focus (walk_at "sz")))
  | ((with_reducible apply And.intro); (focus (first | (show wipe _ _ = wipe _ _; rfl) | (walk_at "sz")))))
local macro_rules | `(tactic| walk_at "arith") => `(tactic| first
  | assumption
  | (refine Or.inl ?_; (constructor <;> omega))
  | (refine Or.inr ?_; (constructor <;> omega))
  | (show (0 : Int) < _; omega)
  | (show 0 < _ ∧ _ < _; (constructor <;> omega))
  | (show CPow 10 18; exact ⟨by decide, by decide, by decide⟩))
local macro_rules | `(tactic| walk_at "bnd") => `(tactic| first
  | omega
  | (refine ⟨?_, ?_⟩ <;> omega))
local macro_rules | `(tactic| walk_at "sz") => `(tactic| first
  | (apply ty_l; walk_at "lk")
  | (apply ty_d; walk_at "lk")
  | (exact szle (by omega))
  | (exact szl (by omega))
  | (exact szle (by simp only [List.length_append, List.length_cons, List.length_nil, List.length_map]; omega))
  | (exact szl (by simp only [List.length_append, List.length_cons, List.length_nil, List.length_map]; omega))
  | (exact Nat.le_of_ble_eq_true rfl))
local macro_rules | `(tactic| walk_at "go") => `(tactic| repeat (first | walk_at "g1" | dsimp only))
/-! ### law_loop -/
def plAddrs (q : Place) : List Int := if q.kind = "opener" then [] else q.addr :: q.spur.map (·.2)
def loAddrs (lp : List Place) : List Int := lp.flatMap plAddrs
theorem cutV1 (xs : List V) : cutV xs (some 1) none = xs.drop 1 := by
  have e : HT.sIx xs.length 0 (some 1) = min 1 xs.length := HT.sIx_nat xs.length 0 1
  rw [cutV, e, HT.sIx_none]
  by_cases h : 1 ≤ xs.length
  · rw [show min 1 xs.length = 1 by omega]
    exact List.take_of_length_le (by rw [List.length_drop]; exact Nat.le_refl _)
  · have h1 : xs = [] := List.length_eq_zero_iff.mp (by omega)
    rw [h1, List.drop_nil, List.drop_nil, List.take_nil]
theorem spread_at {r : Int} (h0 : 0 ≤ r) (h1 : r < 6) : ∃ n : Nat, n ≤ 3 ∧ atI [V.int 0, .int 0, .int 0, .int 1, .int 2, .int 3] r = some (.int (n : Int)) := by
  have : r = 0 ∨ r = 1 ∨ r = 2 ∨ r = 3 ∨ r = 4 ∨ r = 5 := by omega
  rcases this with rfl | rfl | rfl | rfl | rfl | rfl
  · exact ⟨0, by decide, rfl⟩
  · exact ⟨0, by decide, rfl⟩
  · exact ⟨0, by decide, rfl⟩
  · exact ⟨1, by decide, rfl⟩
  · exact ⟨2, by decide, rfl⟩
  · exact ⟨3, by decide, rfl⟩
theorem kinds_at {r : Int} (h0 : 0 ≤ r) (h1 : r < 4) : ∃ k : Str, Kind k ∧ atI [V.str "seeker", .str "knob", .str "bell", .str "door"] r = some (.str k) := by
  have : r = 0 ∨ r = 1 ∨ r = 2 ∨ r = 3 := by omega
  rcases this with rfl | rfl | rfl | rfl
  · exact ⟨_, .inl rfl, rfl⟩
  · exact ⟨_, .inr (.inl rfl), rfl⟩
  · exact ⟨_, .inr (.inr (.inl rfl)), rfl⟩
  · exact ⟨_, .inr (.inr (.inr rfl)), rfl⟩
section
variable {P : Program} {w : World} {K : PySem.W.Frag} {mg : Str → Option Value} {f : Nat → Addr} {fd : Nat → FuncData} {C aK aT : Addr} {base : Heap}
def NumAt (H : Hp) (a : Addr) (ns : List Int) : Prop := H a = some (.lst (ns.map V.int))
def sp_law_loop : Sp := fun vs H Q _ => ∃ (b nl : Addr) (m mp : Nat) (ns : List Int), vs = [.ref b, .ref nl, .int mp] ∧ b ≠ nl ∧ BagAt H b m ∧ m < 700000 ∧ 1 ≤ mp ∧ mp ≤ 12 ∧ NumAt H nl ns ∧ ns.length ≤ 100 ∧ (∀ n ∈ ns, 1 ≤ n ∧ n ≤ 99) ∧
  ∀ (p : Addr) (lp : List Place) (ns' : List Int) (H' : Hp), Fr [b, nl] H H' → BagAt H' b (m + 80) → NumAt H' nl ns' → loAddrs lp ++ ns' = ns → LoR H' (.ref p) lp → 1 ≤ lp.length → lp.length ≤ mp → (∀ q ∈ lp, GoodP q) → Q (.ref p) H'
theorem ok_law_loop (T : Txt K mg f fd C aK aT) : FnOk P w K mg base CX0 2 (f 41) (fd 41) ["_law_bag_here", "_law_numbers", "_law_most_places"] sp_law_loop := by
  refine T.F_law_loop.ok sc_law_loop (fun vs H Q E h => ?_) (fun cdv A outer s H vs Q E hr h => ?_)
  · obtain ⟨b, nl, m, mp, ns, rfl, _⟩ := h; rfl
  · obtain ⟨b, nl, m, mp, ns, rfl, bn, hb, hm, mp1, mp2, hn, hnl, hnb, k⟩ := h
    refine ⟨_, (pss_cons (ps_set (i := 3) sc_law_loop.nd rfl (Or.inl rfl) (pe_lst pa_nil))
      (pss_cons (ps_for PassesOwn.never rfl (pi_range1 (by rfl) T.n_range (pa_cons (pe_op op_add pe_int (pe_call (ok_law_take T) (hr.mono (by decide)) (by rfl) T.m_law_take T.F_law_take.kp T.b_law_take .nil pass0 (pa_cons (pv 0) (pa_cons (pv 2) pa_nil)))) pa_nil)) (pg_name (i := 4) sc_law_loop.nd rfl (Or.inl rfl)) (pss_cons (ps_set (i := 5) sc_law_loop.nd rfl (Or.inl rfl) (pe_op op_add pe_int (pe_ix (ix_listK (K := K) rfl) (pe_lst (pa_cons pe_int (pa_cons pe_int (pa_cons pe_int (pa_cons pe_int (pa_cons pe_int (pa_cons pe_int pa_nil))))))) (pe_call (ok_law_take T) (hr.mono (by decide)) (by rfl) T.m_law_take T.F_law_take.kp T.b_law_take .nil pass0 (pa_cons (pv 0) (pa_cons pe_int pa_nil))) (fun _ _ => rfl))))
      (pss_one (ps_if (PW.pt (pw_or (pt_cmpR op_eq (pe_call (ok_law_take T) (hr.mono (by decide)) (by rfl) T.m_law_take T.F_law_take.kp T.b_law_take .nil pass0 (pa_cons (pv 0) (pa_cons pe_int pa_nil))) pe_int (nomark _)) (pw_or1 (pt_cmpR op_lt (pe_callB (call_lenK (K := K) rfl) (by rfl) T.n_len PySem.boot_len (pa_cons (pv 1) pa_nil)) (pv 5) (nomark _))))) (pss_one (ps_expr (pe_bmK (K := K) rfl PySem.F.plainAttrs_list PySem.F.slot_list_append PySem.F.type_list_append mt_append (pv 3) (pa_cons (pe_tup (pa_cons pe_str (pa_cons pe_int (pa_cons (pe_tup pa_nil) pa_nil)))) pa_nil))))
      (pss_cons (ps_set (i := 6) sc_law_loop.nd rfl (Or.inl rfl) (pe_lst pa_nil))
      (pss_cons (ps_for PassesOwn.never rfl (pi_range1 (by rfl) T.n_range (pa_cons (pv 5) pa_nil)) (pg_name (i := 7) sc_law_loop.nd rfl (Or.inl rfl)) (pss_one (ps_expr (pe_bmK (K := K) rfl PySem.F.plainAttrs_list PySem.F.slot_list_append PySem.F.type_list_append mt_append (pv 6) (pa_cons (pe_tup (pa_cons (pe_ix (ix_listK (K := K) rfl) (pe_lst (pa_cons pe_str (pa_cons pe_str (pa_cons pe_str (pa_cons pe_str pa_nil))))) (pe_call (ok_law_take T) (hr.mono (by decide)) (by rfl) T.m_law_take T.F_law_take.kp T.b_law_take .nil pass0 (pa_cons (pv 0) (pa_cons pe_int pa_nil))) (fun _ _ => rfl)) (pa_cons (pe_bmK (K := K) rfl PySem.F.plainAttrs_list PySem.F.slot_list_pop PySem.F.type_list_pop mt_popAt (pv 1) (pa_cons pe_int pa_nil)) pa_nil))) pa_nil)))))
      (pss_one (ps_expr (pe_bmK (K := K) rfl PySem.F.plainAttrs_list PySem.F.slot_list_append PySem.F.type_list_append mt_append (pv 3) (pa_cons (pe_op (op_catK (K := K) rfl) (pe_ix (ix_listK (K := K) rfl) (pv 6) pe_int (fun _ _ => rfl)) (pe_tup (pa_cons (pe_callTy (call_tupK (K := K) rfl) (by rfl) T.n_tuple (by decide +kernel) (pa_cons (pe_slice (sl_listK (K := K) rfl) (pv 6) (po_some pe_int) po_none) pa_nil)) pa_nil))) pa_nil))))))))))
      (pss_one (ps_ret (pe_callTy (call_tupK (K := K) rfl) (by rfl) T.n_tuple (by decide +kernel) (pa_cons (pv 3) pa_nil)))))), ?_⟩
    have s0 := Same.refl H
    obtain ⟨xb, hxb⟩ := hb.lst
    have hn0 : H nl = some (.lst (ns.map V.int)) := hn
    walk_at "go"
    rename_i F H1 f1 f2 st1 s1 hF
    have Fb : F ≠ b := fun z => by rw [z, hxb] at f1; cases f1
    have Fn : F ≠ nl := fun z => by rw [z, hn0] at f1; cases f1
    walk_at "go"
    refine ⟨b, (mp : Int), m, rfl, hb.same s1, by omega, by omega, by omega, fun r H2 r0 r1 fr2 hb2 => ?_⟩
    have tkb : ∀ {H H' : Hp} {b : Addr} {m : Nat}, BagAt H b m → Fr [b] H H' → Tk H H' := fun hb fr => fr.ts fun a ha => by
      obtain ⟨xb, hxb⟩ := hb.lst
      exact ⟨.lst xb, by rw [List.mem_singleton.mp ha]; exact hxb, nt_l⟩
    have fr2' : Fr [b, nl] H H2 := (fr_same s1).trans (fr2.mono (by simp))
    have tk2 := s1.ts.trans (tkb (hb.same s1) fr2)
    walk_at "go"
    refine forg_rng (fun i σ H' => (∃ x y z t, σ = [some (.ref b), some (.ref nl), some (.int mp), some (.ref F), x, y, z, t]) ∧ Fr [b, nl] H H' ∧ BagAt H' b (m + 1 + 6 * i) ∧ ∃ lp ns', NumAt H' nl ns' ∧ loAddrs lp ++ ns' = ns ∧ LR PlR H' F lp ∧ lp.length = i ∧ ∀ q ∈ lp, GoodP q) ⟨⟨_, _, _, _, rfl⟩, fr2', hb2, [], ns, fr2.get (by simp; exact bn.symm) (s1 _ _ hn0), rfl, ⟨[], fr2.get (by simp; exact Fb) hF, .nil⟩, rfl, by simp⟩ (fun i σ H3 hi hI => ?_) (fun σ H3 hI => ?_)
    · obtain ⟨⟨_, _, _, _, rfl⟩, fr3, hb3, lp, ns', hn3, hns, ⟨vF, hF3, pF⟩, hli, hgood⟩ := hI
      have hvF := Paired.length pF
      have hi12 : i ≤ 12 := by omega
      have s3 := Same.refl H3
      have hn3' : H3 nl = some (.lst (ns'.map V.int)) := hn3
      have hnsl : ns'.length ≤ 100 := by have := congrArg List.length hns; rw [List.length_append] at this; omega
      have hns'b : ∀ n ∈ ns', 1 ≤ n ∧ n ≤ 99 := fun n hn => hnb n (by rw [← hns]; exact List.mem_append_right _ hn)
      walk_at "go"
      rename_i L4 H4 l41 l42 st4 s4 e4
      have L4b : L4 ≠ b := fun z => by obtain ⟨xb, hxb⟩ := hb3.lst; rw [z, hxb] at l41; cases l41
      refine ⟨b, 6, _, rfl, hb3.same s4, by omega, by decide, by decide, fun r5 H5 r50 r51 fr5 hb5 => ?_⟩
      obtain ⟨many, hmany, hat⟩ := spread_at r50 r51
      have e5 := fr5.get (by simp; exact L4b) e4
      have fr5' : Fr [b, nl] H H5 := (fr3.trans (fr_same s4)).trans (fr5.mono (by simp))
      have tk5 : Tk H3 H5 := s4.ts.trans (tkb (hb3.same s4) fr5)
      have hF5 := fr5.get (by simp; exact Fb) (s4.get hF3)
      have hn5 := fr5.get (by simp; exact bn.symm) (s4.get hn3')
      walk_at "go"
      refine ⟨b, 4, _, rfl, hb5, by omega, by decide, by decide, fun r6 H6 r60 r61 fr6 hb6 => ?_⟩
      have fr6' : Fr [b, nl] H H6 := fr5'.trans (fr6.mono (by simp))
      have tk6 : Tk H3 H6 := tk5.trans (tkb hb5 fr6)
      have hF6 := fr6.get (by simp; exact Fb) hF5
      have hn6 := fr6.get (by simp; exact bn.symm) hn5
      have pF6 := Paired.mapP pF (PlR.ts tk6)
      have hlen : (ns'.map V.int).length = ns'.length := List.length_map _
      have s6 := Same.refl H6
      -- an opener
      have opn : ∀ (t a : Addr) (H7 : Hp), Same H6 H7 → H7 t = some (.tup []) → H7 a = some (.tup [.str "opener", .int 0, .ref t]) → Fr [b, nl] H (upd H7 F (.lst (vF ++ [.ref a]))) ∧ BagAt (upd H7 F (.lst (vF ++ [.ref a]))) b (m + 1 + 6 * i + 1 + 1) ∧ (∃ lp' ns'', NumAt (upd H7 F (.lst (vF ++ [.ref a]))) nl ns'' ∧ loAddrs lp' ++ ns'' = ns ∧ LR PlR (upd H7 F (.lst (vF ++ [.ref a]))) F lp' ∧ lp'.length = i + 1 ∧ ∀ q ∈ lp', GoodP q) := by
        intro t a H7 s7 ht ha
        have t7 : Tk H6 (upd H7 F (.lst (vF ++ [.ref a]))) := s7.ts.trans (Tk.upd (s7.get hF6) nt_l)
        have t8 : Tk H7 (upd H7 F (.lst (vF ++ [.ref a]))) := Tk.upd (s7.get hF6) nt_l
        have pq : PlR (upd H7 F (.lst (vF ++ [.ref a]))) (.ref a) ⟨"opener", 0, []⟩ := ⟨a, .ref t, rfl, t8 _ _ ha, ⟨t, [], rfl, t8 _ _ ht, .nil⟩⟩
        refine ⟨(fr6'.trans (fr_same s7)).mut f1, ?_, lp ++ [⟨"opener", 0, []⟩], ns', ?_, ?_, ⟨_, upd_same, Paired.app (Paired.mapP pF6 (PlR.ts t7)) (Paired.one pq)⟩, by rw [List.length_append, hli]; rfl, fun q hq => ?_⟩
        · obtain ⟨x, y, z, e4, rest⟩ := hb6
          exact ⟨x, y, z, by rw [upd_ne Fb.symm]; exact s7.get e4, rest⟩
        · show upd _ _ _ _ = _
          rw [upd_ne Fn.symm]; exact s7.get hn6
        · rw [loAddrs, List.flatMap_append, List.flatMap_cons, List.flatMap_nil]
          show (lp.flatMap plAddrs ++ ([] ++ [])) ++ ns' = ns
          rw [List.append_nil, List.append_nil]
          exact hns
        · rcases List.mem_append.mp hq with hq | hq
          · exact hgood q hq
          · rw [List.mem_singleton] at hq; rw [hq]; exact .inl ⟨rfl, rfl, rfl⟩
      have wrap : ∀ H', Fr [b, nl] H H' → BagAt H' b (m + 1 + 6 * i + 6) → (∃ lp' ns'', NumAt H' nl ns'' ∧ loAddrs lp' ++ ns'' = ns ∧ LR PlR H' F lp' ∧ lp'.length = i + 1 ∧ ∀ q ∈ lp', GoodP q) → ∀ σ', (∃ x y z t, σ' = [some (.ref b), some (.ref nl), some (.int mp), some (.ref F), x, y, z, t]) → (∃ x y z t, σ' = [some (V.ref b), some (.ref nl), some (.int mp), some (.ref F), x, y, z, t]) ∧ Fr [b, nl] H H' ∧ BagAt H' b (m + 1 + 6 * (i + 1)) ∧ ∃ lp ns', NumAt H' nl ns' ∧ loAddrs lp ++ ns' = ns ∧ LR PlR H' F lp ∧ lp.length = i + 1 ∧ ∀ q ∈ lp, GoodP q :=
        fun H' a b' c σ' d => ⟨d, a, by rw [show m + 1 + 6 * (i + 1) = m + 1 + 6 * i + 6 by omega]; exact b', c⟩
      have hvF2 : vF.length ≤ 1000 := by omega
      by_cases c1 : r6 = 0
      · have c1' : V.int r6 = V.int 0 := by rw [c1]
        walk_at "go"
        rename_i t7 H7 t71 t72 st7 s7 e7 a8 H8 a81 a82 st8 s8 e8
        obtain ⟨o1, o2, o3⟩ := opn t7 a8 H8 s8 (st8.get e7) e8
        exact wrap _ o1 (o2.mono (by omega)) o3 _ ⟨_, _, _, _, rfl⟩
      · have c1' : ¬ V.int r6 = V.int 0 := fun e => c1 (V.int.inj e)
        by_cases c2 : (ns'.length : Int) < 1 + (many : Int)
        · walk_at "go"
          rename_i t7 H7 t71 t72 st7 s7 e7 a8 H8 a81 a82 st8 s8 e8
          obtain ⟨o1, o2, o3⟩ := opn t7 a8 H8 s8 (st8.get e7) e8
          exact wrap _ o1 (o2.mono (by omega)) o3 _ ⟨_, _, _, _, rfl⟩
        · walk_at "go"
          rename_i G H7 g1 g2 st7 s7 hG
          have Gb : G ≠ b := fun z => by obtain ⟨xb, hxb⟩ := hb6.lst; rw [z, hxb] at g1; cases g1
          have Gn : G ≠ nl := fun z => by rw [z, hn6] at g1; cases g1
          have GF : G ≠ F := fun z => by rw [z, hF6] at g1; cases g1
          refine forg_rng (fun j σ H' => (∃ x y z, σ = [some (.ref b), some (.ref nl), some (.int mp), some (.ref F), x, some (.int y), some (.ref G), z]) ∧ Fr [b, nl] H6 H' ∧ BagAt H' b (m + 1 + 6 * i + 2 + j) ∧ ∃ ds ns'', NumAt H' nl ns'' ∧ ds.map (·.2) ++ ns'' = ns' ∧ LR DevR H' G ds ∧ ds.length = j ∧ ∀ d ∈ ds, GoodD d) ⟨⟨_, _, _, rfl⟩, fr_same s7, hb6.same s7, [], ns', s7.get hn6, rfl, ⟨[], hG, .nil⟩, rfl, by simp⟩ (fun j σ H8 hj hI => ?_) (fun σ H8 hI => ?_)
          · obtain ⟨⟨_, _, _, rfl⟩, fr8, hb8, ds, ns2, hn8, hds, ⟨vG, hG8, pG⟩, hdj, hdg⟩ := hI
            have hvG := Paired.length pG
            have hn8' : H8 nl = some (.lst (ns2.map V.int)) := hn8
            have hll := congrArg List.length hds
            rw [List.length_append, List.length_map] at hll
            have hj4 : j < 4 := by omega
            have s8 := Same.refl H8
            obtain ⟨n0, nr, hn2⟩ : ∃ n0 nr, ns2 = n0 :: nr := by
              cases ns2 with
              | nil => rw [List.length_nil] at hll; omega
              | cons a r => exact ⟨a, r, rfl⟩
            subst hn2
            walk_at "go"
            rename_i L9 H9 l91 l92 st9 s9 e9
            have L9b : L9 ≠ b := fun z => by obtain ⟨xb, hxb⟩ := hb8.lst; rw [z, hxb] at l91; cases l91
            refine ⟨b, 4, _, rfl, hb8.same s9, by omega, by decide, by decide, fun rk H10 rk0 rk1 fr10 hb10 => ?_⟩
            obtain ⟨kd, hkd, hkat⟩ := kinds_at rk0 rk1
            have e10 := fr10.get (by simp; exact L9b) e9
            have hG10 := fr10.get (by simp; exact Gb) (s9.get hG8)
            have hn10 := fr10.get (by simp; exact bn.symm) (s9.get hn8')
            have tk10 : Tk H8 H10 := s9.ts.trans (tkb (hb8.same s9) fr10)
            walk_at "go"
            refine ⟨nl, (n0 :: nr).map V.int, 0, 0, .int n0, rfl, rfl, hn10, by decide, by decide, seqIx rfl (by simp), rfl, ?_⟩
            have hG11 : upd H10 nl (.lst (((n0 :: nr).map V.int).eraseIdx 0)) G = some (.lst vG) := by rw [upd_ne Gn]; exact hG10
            have tk11 : Tk H10 (upd H10 nl (.lst (((n0 :: nr).map V.int).eraseIdx 0))) := Tk.upd hn10 nt_l
            have fr11 : Fr [b, nl] H6 (upd H10 nl (.lst (((n0 :: nr).map V.int).eraseIdx 0))) := ((fr8.trans (fr_same s9)).trans (fr10.mono (by simp))).trans (Fr.upd (by simp))
            have hn11 : NumAt (upd H10 nl (.lst (((n0 :: nr).map V.int).eraseIdx 0))) nl nr := upd_same
            have hb11 : BagAt (upd H10 nl (.lst (((n0 :: nr).map V.int).eraseIdx 0))) b (m + 1 + 6 * i + 2 + j + 1) := by
              obtain ⟨x, y, z, e4, rest⟩ := hb10
              exact ⟨x, y, z, by rw [upd_ne bn]; exact e4, rest⟩
            generalize upd H10 nl (.lst (((n0 :: nr).map V.int).eraseIdx 0)) = H11 at *
            have s11 := Same.refl H11
            have hvG2 : vG.length ≤ 1000 := by omega
            walk_at "go"
            rename_i p12 H12 p121 p122 st12 s12 e12
            have hG12 := s12.get hG11
            walk_at "go"
            have tU : Tk H12 (upd H12 G (.lst (vG ++ [.ref p12]))) := Tk.upd hG12 nt_l
            have tAll : Tk H8 (upd H12 G (.lst (vG ++ [.ref p12]))) := (tk10.trans tk11).trans (s12.ts.trans tU)
            have hG6 : H6 G = none := g1
            refine ⟨⟨_, _, _, rfl⟩, (fr11.trans (fr_same s12)).mut hG6, ?_, ds ++ [(kd, n0)], nr, ?_, ?_, ⟨_, upd_same, Paired.app (Paired.mapP pG (DevR.ts tAll)) (Paired.one ⟨p12, rfl, tU _ _ e12⟩)⟩, by rw [List.length_append, hdj]; rfl, fun d hd => ?_⟩
            · obtain ⟨x, y, z, e4, rest⟩ := hb11
              exact ⟨x, y, z, by rw [upd_ne Gb.symm]; exact s12.get e4, rest⟩
            · show upd _ _ _ _ = _
              rw [upd_ne Gn.symm]
              exact s12.get hn11
            · rw [List.map_append, List.append_assoc]
              exact hds
            · rcases List.mem_append.mp hd with hd | hd
              · exact hdg d hd
              · rw [List.mem_singleton] at hd; rw [hd]
                exact ⟨hkd, hns'b n0 (by rw [← hds]; exact List.mem_append_right _ (List.mem_cons_self ..))⟩
          · obtain ⟨⟨_, _, _, rfl⟩, fr8, hb8, ds, ns2, hn8, hds, ⟨vG, hG8, pG⟩, hdj, hdg⟩ := hI
            have hvG := Paired.length pG
            obtain ⟨d0, dr, hd2⟩ : ∃ d0 dr, ds = d0 :: dr := by
              cases ds with
              | nil => rw [List.length_nil] at hdj; omega
              | cons a r => exact ⟨a, r, rfl⟩
            subst hd2
            obtain ⟨v0, vr, hv2⟩ : ∃ v0 vr, vG = v0 :: vr := by
              cases vG with
              | nil => rw [List.length_nil] at hvG; cases hvG
              | cons a r => exact ⟨a, r, rfl⟩
            subst hv2
            have pGd : Paired (DevR H8) vr dr := by cases pG with | cons _ t => exact t
            have r0 : DevR H8 v0 d0 := by cases pG with | cons f _ => exact f
            obtain ⟨t0, rfl, ht0⟩ := r0
            have a0 : atI (V.ref t0 :: vr) 0 = some (.ref t0) := ati 0 rfl rfl
            have s8 := Same.refl H8
            have hF8 := fr8.get (by simp; exact ⟨Fb, Fn⟩) hF6
            walk_at "go"
            refine ⟨G, V.ref t0 :: vr, rfl, SqL.of hG8, fun c1 hc1 => ?_⟩
            rw [cutV1]
            have s9 : Same H8 (upd H8 c1 (.lst ((V.ref t0 :: vr).drop 1))) := Same.upd hc1
            have e9 : upd H8 c1 (.lst ((V.ref t0 :: vr).drop 1)) c1 = some (.lst vr) := upd_same
            generalize upd H8 c1 (.lst ((V.ref t0 :: vr).drop 1)) = H9 at *
            walk_at "go"
            refine ⟨c1, vr, rfl, .inl ⟨SqL.of e9, fun c2 hc2 => ?_⟩⟩
            have s10 : Same H8 (upd H9 c2 (.tup vr)) := s9.trans (Same.upd hc2)
            have e10 : upd H9 c2 (.tup vr) c2 = some (.tup vr) := upd_same
            generalize upd H9 c2 (.tup vr) = H10 at *
            walk_at "go"
            rename_i p11 H11 p111 p112 st11 s11 e11
            have ht11 := s11.get ht0
            refine ⟨t0, p11, [.str d0.1, .int d0.2], [.ref c2], rfl, rfl, SqT.of ht11, SqT.of e11, szle (by simp), fun z => (by cases z), fun _ z => (by cases z), fun _ _ p12 hp12 => ?_⟩
            have s12 : Same H8 (upd H11 p12 (.tup ([.str d0.1, .int d0.2] ++ [.ref c2]))) := s11.trans (Same.upd hp12)
            have e12 : upd H11 p12 (.tup ([.str d0.1, .int d0.2] ++ [.ref c2])) p12 = some (.tup [.str d0.1, .int d0.2, .ref c2]) := upd_same
            have e12' : upd H11 p12 (.tup ([.str d0.1, .int d0.2] ++ [.ref c2])) c2 = some (.tup vr) := Same.upd hp12 _ _ (st11.get e10)
            generalize upd H11 p12 (.tup ([.str d0.1, .int d0.2] ++ [.ref c2])) = H12 at *
            have hF12 := s12.get hF8
            walk_at "go"
            have tU : Tk H12 (upd H12 F (.lst (vF ++ [.ref p12]))) := Tk.upd hF12 nt_l
            have tk8 : Tk H6 H8 := fr8.ts fun a ha => by
              simp only [List.mem_cons, List.not_mem_nil, or_false] at ha
              rcases ha with rfl | rfl
              · obtain ⟨xb, hxb⟩ := hb6.lst; exact ⟨_, hxb, nt_l⟩
              · exact ⟨_, hn6, nt_l⟩
            have tAll : Tk H8 (upd H12 F (.lst (vF ++ [.ref p12]))) := s12.ts.trans tU
            have hdl : (d0 :: dr).length = many + 1 := by omega
            have pq : PlR (upd H12 F (.lst (vF ++ [.ref p12]))) (.ref p12) ⟨d0.1, d0.2, dr⟩ := ⟨p12, .ref c2, rfl, tU _ _ e12, ⟨c2, vr, rfl, tU _ _ e12', Paired.mapP pGd (DevR.ts tAll)⟩⟩
            have hk0 := hdg d0 (List.mem_cons_self ..)
            have hno : ¬ d0.1 = "opener" := fun z => kind_no hk0.1 (by rw [z])
            refine wrap _ (((fr6'.trans fr8).trans (fr_same s12)).mut f1) ?_ ⟨lp ++ [⟨d0.1, d0.2, dr⟩], ns2, ?_, ?_, ⟨_, upd_same, Paired.app (Paired.mapP pF6 (PlR.ts (tk8.trans tAll))) (Paired.one pq)⟩, by rw [List.length_append, hli]; rfl, fun q hq => ?_⟩ _ ⟨_, _, _, _, rfl⟩
            · obtain ⟨x, y, z, e4, a1, a2, a3, a4, a5⟩ := hb8
              exact ⟨x, y, z, by rw [upd_ne Fb.symm]; exact s12.get e4, a1, a2, a3, a4, by omega⟩
            · show upd _ _ _ _ = _
              rw [upd_ne Fn.symm]
              exact s12.get hn8
            · rw [loAddrs, List.flatMap_append, List.flatMap_cons, List.flatMap_nil, List.append_nil, plAddrs, if_neg hno, List.append_assoc]
              show lp.flatMap plAddrs ++ ((d0 :: dr).map (·.2) ++ ns2) = ns
              rw [hds]
              exact hns
            · rcases List.mem_append.mp hq with hq | hq
              · exact hgood q hq
              · rw [List.mem_singleton] at hq; rw [hq]
                rw [List.length_cons] at hdl
                exact .inr ⟨hk0, by show dr.length ≤ 3; omega, fun d hd => hdg d (List.mem_cons_of_mem _ hd)⟩
    · obtain ⟨⟨_, _, _, _, rfl⟩, fr3, hb3, lp, ns', hn3, hns, ⟨vF, hF3, pF⟩, hli, hgood⟩ := hI
      walk_at "go"
      refine ⟨F, vF, rfl, .inl ⟨SqL.of hF3, fun p hp => ?_⟩⟩
      have s4 : Same H3 (upd H3 p (.tup vF)) := Same.upd hp
      exact k p lp ns' _ (fr3.trans (fr_same s4)) ((hb3.same s4).mono (by omega)) (s4.get hn3) hns ⟨p, vF, rfl, upd_same, Paired.mapP pF (PlR.ts s4.ts)⟩ (by omega) (by omega) hgood
end
end Wl

namespace Wl
open PySem L2
/-! ### slices and sums of tuples -/
section
variable {K : PySem.W.Frag} {H : Hp} {Q : VK} {α : Type} {R : Hp → V → α → Prop} {a : Addr} {xs : List V} {ds : List α}
theorem Paired.take {α β : Type} {F : α → β → Prop} : ∀ {l₁ : List α} {l₂ : List β} (j : Nat), Paired F l₁ l₂ → Paired F (l₁.take j) (l₂.take j)
  | _, _, _, .nil => by simpa using Paired.nil
  | _, _, 0, .cons _ t => .nil
  | _, _, j + 1, .cons f t => .cons f (Paired.take j t)
theorem Paired.drop {α β : Type} {F : α → β → Prop} : ∀ {l₁ : List α} {l₂ : List β} (j : Nat), Paired F l₁ l₂ → Paired F (l₁.drop j) (l₂.drop j)
  | _, _, _, .nil => by simpa using Paired.nil
  | _, _, 0, .cons f t => .cons f t
  | _, _, j + 1, .cons f t => Paired.drop j t
theorem slA_take (mono : ∀ {H H'}, Tk H H' → ∀ v b, R H v b → R H' v b) (h : H a = some (.tup xs)) (pr : Paired (R H) xs ds) {n : Nat} (hn : n ≤ xs.length) {z : Int} (hz : z = (n : Int)) (q : ∀ b H', Same H H' → TR R H' (.ref b) (ds.take n) → Q (.ref b) H') : rSlA K (.ref a) none (some z) H Q := by
  subst hz
  have e1 : HT.sIx xs.length xs.length (some (n : Int)) = n := by rw [HT.sIx_nat]; omega
  have hc : cutV xs none (some (n : Int)) = xs.take n := by rw [cutV, e1, HT.sIx_none, List.drop_zero, Nat.sub_zero]
  refine ⟨a, xs, rfl, SqT.of h, fun w => ?_, fun _ p hp => ?_⟩
  · rw [e1] at w
    refine q a H (Same.refl H) ⟨a, xs, rfl, h, ?_⟩
    have := Paired.length pr
    rw [w.2, this, List.take_length]
    exact pr
  · rw [hc]
    exact q p _ (Same.upd hp) ⟨p, _, rfl, upd_same, Paired.mapP (Paired.take n pr) (mono (Same.upd hp).ts)⟩
theorem slA_drop (mono : ∀ {H H'}, Tk H H' → ∀ v b, R H v b → R H' v b) (h : H a = some (.tup xs)) (pr : Paired (R H) xs ds) {n : Nat} (hn : n ≤ xs.length) {z : Int} (hz : z = (n : Int)) (q : ∀ b H', Same H H' → TR R H' (.ref b) (ds.drop n) → Q (.ref b) H') : rSlA K (.ref a) (some z) none H Q := by
  subst hz
  have e1 : HT.sIx xs.length 0 (some (n : Int)) = n := by rw [HT.sIx_nat]; omega
  have hc : cutV xs (some (n : Int)) none = xs.drop n := by rw [cutV, e1, HT.sIx_none]; exact List.take_of_length_le (by rw [List.length_drop]; exact Nat.le_refl _)
  refine ⟨a, xs, rfl, SqT.of h, fun w => ?_, fun _ p hp => ?_⟩
  · rw [e1] at w
    refine q a H (Same.refl H) ⟨a, xs, rfl, h, ?_⟩
    rw [w.1, List.drop_zero]
    exact pr
  · rw [hc]
    exact q p _ (Same.upd hp) ⟨p, _, rfl, upd_same, Paired.mapP (Paired.drop n pr) (mono (Same.upd hp).ts)⟩
theorem cat_TR (mono : ∀ {H H'}, Tk H H' → ∀ v b, R H v b → R H' v b) {x y : V} {es : List α} (h1 : TR R H x ds) (h2 : TR R H y es) (hl : ds.length + es.length ≤ 1000) (q : ∀ b H', Same H H' → TR R H' (.ref b) (ds ++ es) → Q (.ref b) H') : rCatA K x y H Q := by
  obtain ⟨a, xs, rfl, ha, p1⟩ := h1
  obtain ⟨b, ys, rfl, hb, p2⟩ := h2
  have l1 := Paired.length p1
  have l2 := Paired.length p2
  refine ⟨a, b, xs, ys, rfl, rfl, SqT.of ha, SqT.of hb, szle (by omega), fun e => ?_, fun _ e => ?_, fun _ _ p hp => ?_⟩
  · subst e
    cases p1
    exact q b H (Same.refl H) ⟨b, ys, rfl, hb, p2⟩
  · subst e
    cases p2
    exact q a H (Same.refl H) ⟨a, xs, rfl, ha, by rw [List.append_nil]; exact p1⟩
  · exact q p _ (Same.upd hp) ⟨p, _, rfl, upd_same, Paired.app (Paired.mapP p1 (mono (Same.upd hp).ts)) (Paired.mapP p2 (mono (Same.upd hp).ts))⟩
end
/-! ### the numbers -/
def Stride (c : Int) : Prop := c = 1 ∨ c = 2 ∨ c = 4 ∨ c = 5 ∨ c = 7 ∨ c = 8 ∨ c = 10 ∨ c = 13 ∨ c = 98
theorem stride_at {r : Int} (h0 : 0 ≤ r) (h1 : r < 9) : ∃ c : Int, Stride c ∧ atI [V.int 1, .int 2, .int 4, .int 5, .int 7, .int 8, .int 10, .int 13, .int 98] r = some (.int c) := by
  have : r = 0 ∨ r = 1 ∨ r = 2 ∨ r = 3 ∨ r = 4 ∨ r = 5 ∨ r = 6 ∨ r = 7 ∨ r = 8 := by omega
  rcases this with rfl | rfl | rfl | rfl | rfl | rfl | rfl | rfl | rfl <;> exact ⟨_, by simp [Stride], rfl⟩
def numsOf (s c : Int) : List Int := (List.range 30).map fun (k : Nat) => (s + c * (0 + (k : Int))) % 99 + 1
theorem nums_bd {s c : Int} : ∀ n ∈ numsOf s c, 1 ≤ n ∧ n ≤ 99 := fun n hn => by
  obtain ⟨k, _, rfl⟩ := List.mem_map.mp hn
  show 1 ≤ (s + c * (0 + (k : Int))) % 99 + 1 ∧ (s + c * (0 + (k : Int))) % 99 + 1 ≤ 99
  omega
theorem nums_inj {s c : Int} (hc : Stride c) {i j : Nat} (hi : i < 30) (hj : j < 30) (e : (s + c * (0 + (i : Int))) % 99 + 1 = (s + c * (0 + (j : Int))) % 99 + 1) : i = j := by
  rcases hc with rfl | rfl | rfl | rfl | rfl | rfl | rfl | rfl | rfl <;> omega
theorem map_nodup {α β : Type} {f : α → β} : ∀ {l : List α}, l.Nodup → (∀ a ∈ l, ∀ b ∈ l, f a = f b → a = b) → (l.map f).Nodup
  | [], _, _ => List.nodup_nil
  | a :: l, h, hi => by
    rw [List.nodup_cons] at h
    rw [List.map_cons, List.nodup_cons]
    refine ⟨fun m => ?_, map_nodup h.2 fun x hx y hy e => hi x (List.mem_cons_of_mem _ hx) y (List.mem_cons_of_mem _ hy) e⟩
    obtain ⟨b, hb, e⟩ := List.mem_map.mp m
    have := hi b (List.mem_cons_of_mem _ hb) a (List.mem_cons_self ..) e
    exact h.1 (this ▸ hb)
theorem nums_nodup {s c : Int} (hc : Stride c) : (numsOf s c).Nodup := map_nodup List.nodup_range fun i hi j hj e => nums_inj hc (List.mem_range.mp hi) (List.mem_range.mp hj) e
theorem nums_len {s c : Int} : (numsOf s c).length = 30 := by rw [numsOf, List.length_map, List.length_range]
/-! ### parts -/
theorem sum_le : ∀ {l : List Nat} {n : Nat}, n ∈ l → n ≤ l.sum
  | a :: l, n, h => by
    rw [List.sum_cons]
    rcases List.mem_cons.mp h with rfl | h
    · omega
    · have := sum_le h; omega
theorem parts_sum (lp : List Place) : (partsN lp).sum = (loAddrs lp).length := by
  have key : ∀ (lp : List Place) (st : List Nat × Nat), (lp.foldl pstep st).1.sum + (lp.foldl pstep st).2 = st.1.sum + st.2 + (loAddrs lp).length := by
    intro lp
    induction lp with
    | nil => intro st; rfl
    | cons q lp ih =>
      intro st
      have e : loAddrs (q :: lp) = plAddrs q ++ loAddrs lp := List.flatMap_cons
      rw [List.foldl_cons, ih, e, List.length_append, plAddrs, pstep]
      by_cases hk : q.kind = "opener"
      · rw [if_pos hk, if_pos hk, List.sum_append]
        simp
      · rw [if_neg hk, if_neg hk, List.length_cons, List.length_map]
        simp only
        omega
  rw [partsN, List.sum_append, pst]
  have := key lp ([], 0)
  simp at this
  simpa using this
theorem parts_le {lp : List Place} {n : Nat} (h : n ∈ partsN lp) : n ≤ (loAddrs lp).length := by rw [← parts_sum]; exact sum_le h
theorem parts_one {lp : List Place} (h : loAddrs lp ≠ []) : ∃ n ∈ partsN lp, 1 ≤ n := by
  by_cases hx : ∃ n ∈ partsN lp, 1 ≤ n
  · exact hx
  · have h0 : ∀ l : List Nat, (∀ n ∈ l, n = 0) → l.sum = 0 := by
      intro l
      induction l with
      | nil => intro _; rfl
      | cons a l ih => intro h; rw [List.sum_cons, h a (List.mem_cons_self ..), ih fun n hn => h n (List.mem_cons_of_mem _ hn)]
    have := h0 (partsN lp) fun n hn => by
      have : ¬ 1 ≤ n := fun z => hx ⟨n, hn, z⟩
      omega
    rw [parts_sum] at this
    exact absurd (List.length_eq_zero_iff.mp this) h
/-! ### addresses -/
theorem enumF_fm {α β γ : Type} {f : Nat → α → List β} {g : β → Option γ} {f' : α → List γ} (h : ∀ i x, (f i x).filterMap g = f' x) : ∀ (xs : List α) (k : Nat), (enumF f k xs).filterMap g = xs.flatMap f'
  | [], k => rfl
  | x :: xs, k => by rw [enumF, List.filterMap_append, h, enumF_fm h xs (k + 1), List.flatMap_cons]
theorem enumF_len {α β γ : Type} {f : Nat → α → List β} {f' : α → List γ} (h : ∀ i x, (f i x).length = (f' x).length) : ∀ (xs : List α) (k : Nat), (enumF f k xs).length = (xs.flatMap f').length
  | [], k => rfl
  | x :: xs, k => by rw [enumF, List.length_append, h, enumF_len h xs (k + 1), List.flatMap_cons, List.length_append]
def toldPl (q : Place) : List Int := ((q.kind, q.addr) :: q.spur).filterMap fun d => if toldK d.1 then some d.2 else none
def toldOf (loops : List (List Place)) : List Int := loops.flatMap fun lp => lp.flatMap toldPl
theorem not_told : ¬ toldK "opener" := by
  rintro (h | h) <;> exact absurd h (by decide +kernel)
theorem spur_fm (l a : Nat) (sp : List (Str × Int)) (k : Nat) : (enumF (fun w (d : Str × Int) => [((((l : Int), (a : Int) + 1, (w : Int) + 1), d.1, d.2) : Dev)]) k sp).filterMap (fun d => if toldK d.2.1 then some d.2.2 else none) = sp.filterMap fun d => if toldK d.1 then some d.2 else none := by
  induction sp generalizing k with
  | nil => rfl
  | cons d sp ih =>
    rw [enumF, List.filterMap_append, ih]
    rw [List.filterMap_cons (a := d)]
    by_cases h : toldK d.1
    · rw [if_pos h]; simp [h]
    · rw [if_neg h]; simp [h]
theorem known_eq (P : Plan) : knownOf P = toldOf P.loops := by
  rw [knownOf, devices, toldOf]
  refine enumF_fm (fun l lp => ?_) _ _
  refine enumF_fm (fun a q => ?_) _ _
  rw [devPl, List.filterMap_append, spur_fm, toldPl, List.filterMap_cons]
  by_cases hk : q.kind = "opener"
  · rw [if_pos hk]
    have hn : ¬ toldK q.kind := by rw [hk]; exact not_told
    rw [if_neg hn]
    rfl
  · rw [if_neg hk]
    by_cases ht : toldK q.kind
    · rw [if_pos ht]; simp [ht]
    · rw [if_neg ht]; simp [ht]
theorem spur_map (l a : Nat) (sp : List (Str × Int)) (k : Nat) : (enumF (fun w (d : Str × Int) => [((((l : Int), (a : Int) + 1, (w : Int) + 1), d.1, d.2) : Dev)]) k sp).filterMap (fun d => some d.2.2) = sp.map (·.2) := by
  induction sp generalizing k with
  | nil => rfl
  | cons d sp ih => rw [enumF, List.filterMap_append, ih]; rfl
theorem addr_eq {P : Plan} (hg : ∀ lp ∈ P.loops, ∀ q ∈ lp, GoodP q) : (devices P).map (·.2.2) = P.loops.flatMap loAddrs := by
  rw [← fm_some, devices]
  have : ∀ (loops : List (List Place)) (k : Nat), (∀ lp ∈ loops, ∀ q ∈ lp, GoodP q) → (enumF (fun l lp => enumF (fun a q => devPl l a q) 0 lp) k loops).filterMap (fun d => some d.2.2) = loops.flatMap loAddrs := by
    intro loops
    induction loops with
    | nil => intro k _; rfl
    | cons lp loops ih =>
      intro k h
      rw [enumF, List.filterMap_append, ih _ fun lp hl => h lp (List.mem_cons_of_mem _ hl), List.flatMap_cons]
      congr 1
      have h2 := h lp (List.mem_cons_self ..)
      have : ∀ (lp : List Place) (j : Nat), (∀ q ∈ lp, GoodP q) → (enumF (fun a q => devPl k a q) j lp).filterMap (fun d => some d.2.2) = loAddrs lp := by
        intro lp
        induction lp with
        | nil => intro j _; rfl
        | cons q lp ih2 =>
          intro j h
          rw [enumF, List.filterMap_append, ih2 _ fun q hq => h q (List.mem_cons_of_mem _ hq), loAddrs, loAddrs, List.flatMap_cons]
          congr 1
          rw [devPl, List.filterMap_append, spur_map, plAddrs]
          by_cases hk : q.kind = "opener"
          · rw [if_pos hk, if_pos hk]
            rcases h q (List.mem_cons_self ..) with ⟨_, _, e⟩ | ⟨g, _⟩
            · rw [e]; rfl
            · exact absurd (by rw [hk]) (kind_no g.1)
          · rw [if_neg hk, if_neg hk]; rfl
      exact this lp 0 h2
  exact this P.loops 0 hg
theorem told_sub {q : Place} (h : GoodP q) : (toldPl q).Sublist (plAddrs q) := by
  have key : ∀ sp : List (Str × Int), (sp.filterMap fun d => if toldK d.1 then some d.2 else none).Sublist (sp.map (·.2)) := by
    intro sp
    induction sp with
    | nil => exact .slnil
    | cons d sp ih =>
      rw [List.filterMap_cons, List.map_cons]
      by_cases ht : toldK d.1
      · rw [if_pos ht]; exact ih.cons₂ _
      · rw [if_neg ht]; exact ih.cons _
  rw [toldPl, plAddrs]
  by_cases hk : q.kind = "opener"
  · rw [if_pos hk, List.filterMap_cons]
    have hn : ¬ toldK q.kind := by rw [hk]; exact not_told
    rw [if_neg hn]
    rcases h with ⟨_, _, e⟩ | ⟨g, _⟩
    · rw [e]; exact .slnil
    · exact absurd (by rw [hk]) (kind_no g.1)
  · rw [if_neg hk]
    exact key ((q.kind, q.addr) :: q.spur)
theorem flatMap_sub {α β : Type} {f g : α → List β} : ∀ {l : List α}, (∀ a ∈ l, (f a).Sublist (g a)) → (l.flatMap f).Sublist (l.flatMap g)
  | [], _ => .slnil
  | a :: l, h => by
    rw [List.flatMap_cons, List.flatMap_cons]
    exact (h a (List.mem_cons_self ..)).append (flatMap_sub fun b hb => h b (List.mem_cons_of_mem _ hb))
theorem toldOf_sub {loops : List (List Place)} (h : ∀ lp ∈ loops, ∀ q ∈ lp, GoodP q) : (toldOf loops).Sublist (loops.flatMap loAddrs) :=
  flatMap_sub fun lp hl => flatMap_sub fun q hq => told_sub (h lp hl q hq)
/-- what law_plan gives is let by -/
theorem plan_good {loops : List (List Place)} {zones : List (Str × List Int)} {rest ns0 : List Int} {m t : Int} (l1 : 1 ≤ loops.length) (l3 : loops.length ≤ 3) (hL : ∀ lp ∈ loops, GoodL lp) (hp : (loops.flatMap loAddrs ++ rest).Perm ns0) (hn : ns0.Nodup) (h30 : ns0.length = 30)
    (hne : ∃ lp ∈ loops, loAddrs lp ≠ []) (hm : ∃ lp ∈ loops, ∃ n ∈ partsN lp, m = (n : Int)) (hmax : ∀ lp ∈ loops, ∀ n ∈ partsN lp, (n : Int) ≤ m) (t0 : 0 ≤ t) (z8 : zones.length ≤ 8) (hz : ∀ z ∈ zones, GoodZ z) (hzn : (zones.map (·.1)).Nodup) (hzt : ∀ z ∈ zones, ∀ a ∈ z.2, a ∈ toldOf loops)
    (hzd : (zones.flatMap (·.2)).Nodup) : GoodPlan ⟨if m + t < 30 then m + t else 30, loops, zones⟩ := by
  have hg : ∀ lp ∈ loops, ∀ q ∈ lp, GoodP q := fun lp hl => (hL lp hl).2.2
  have ha := addr_eq (P := ⟨if m + t < 30 then m + t else 30, loops, zones⟩) hg
  have hlen := hp.length_eq
  rw [List.length_append] at hlen
  have hdl : (devices ⟨if m + t < 30 then m + t else 30, loops, zones⟩).length = (loops.flatMap loAddrs).length := by rw [← ha, List.length_map]
  have hsub : ∀ lp ∈ loops, (loAddrs lp).length ≤ (loops.flatMap loAddrs).length := by
    intro lp hl
    have : ∀ loops : List (List Place), lp ∈ loops → (loAddrs lp).length ≤ (loops.flatMap loAddrs).length := by
      intro loops
      induction loops with
      | nil => intro h; cases h
      | cons a r ih =>
        intro h
        rw [List.flatMap_cons, List.length_append]
        rcases List.mem_cons.mp h with rfl | h
        · omega
        · have := ih h; omega
    exact this loops hl
  have hm30 : m ≤ 30 := by
    obtain ⟨lp, hl, n, hn, rfl⟩ := hm
    have := parts_le hn
    have := hsub lp hl
    omega
  obtain ⟨lp0, hl0, hne0⟩ := hne
  have hm1 : 1 ≤ m := by
    obtain ⟨n, hn, h1⟩ := parts_one hne0
    have := hmax lp0 hl0 n hn
    omega
  have hpos : 1 ≤ (loAddrs lp0).length := by
    cases e : loAddrs lp0 with
    | nil => exact absurd e hne0
    | cons a r => rw [List.length_cons]; omega
  refine ⟨?_, ⟨l3, hL⟩, l1, ⟨z8, hz, hzn⟩, ⟨?_, ?_⟩, ?_, fun lp hl n hn => ?_, fun z hzz a haa => ?_, hzd⟩
  · show 1 ≤ (if m + t < 30 then m + t else 30) ∧ (if m + t < 30 then m + t else 30) ≤ 30
    split <;> omega
  · rw [hdl]; have := hsub lp0 hl0; omega
  · rw [hdl]; omega
  · rw [ha]
    exact (List.nodup_append.mp (hp.nodup_iff.mpr hn)).1
  · have h1 := hmax lp hl n hn
    show (n : Int) ≤ (if m + t < 30 then m + t else 30)
    split <;> omega
  · rw [known_eq]; exact hzt z hzz a haa
end Wl

namespace Wl
open PySem L2
/-! ### the step tactics -/
local macro_rules | `(tactic| walk_at "lk") => `(tactic| first
  | assumption
  | exact upd_same
  | (refine (?_ : ∀ H, SqT _ H _ _) _; assumption)
  | (apply Step.get; (focus assumption); walk_at "lk")
  | (apply upd_tupL; (focus walk_at "lk"); walk_at "lk")
  | (apply upd_tupT; (focus walk_at "lk"); walk_at "lk")
  | (apply upd_tupK; (focus walk_at "lk"); walk_at "lk")
  | (apply L2.Same.get; (focus assumption); assumption)
  | (apply L2.Same.get; rotate_left; (focus assumption); assumption)
  | (apply SqT.of; walk_at "lk")
  | (apply SqL.of; walk_at "lk"))
local macro_rules | `(tactic| walk_at "sm") => `(tactic| first
  | assumption
  | (apply L2.Same.mut; (focus walk_at "sm"); (focus assumption)))
local macro_rules | `(tactic| walk_at "cond") => `(tactic| first
  | rfl
  | assumption
  | (exact dt (by first | rfl | assumption | omega | (simp; done) | (simp; omega)))
  | (exact df (by first | assumption | omega | (simp; done) | (simp; omega)))
  | (exact ndt (by first | rfl | assumption | omega | (simp; done) | (simp; omega)))
  | (exact ndf (by first | assumption | omega | (simp; done) | (simp; omega)))
  | (simp; done))
local macro_rules | `(tactic| walk_at "cond1") => `(tactic| first
  | assumption
  | with_reducible rfl
  | with_reducible exact n_t
  | with_reducible exact n_f
  | with_reducible exact dt (by assumption)
  | with_reducible exact df (by assumption)
  | with_reducible exact ndt (by assumption)
  | with_reducible exact ndf (by assumption))
local macro_rules | `(tactic| walk_at "g1") => `(tactic| first
  | with_reducible refine i_seq ?_
  | with_reducible refine i_asg ?_
  | with_reducible refine i_name ?_
  | with_reducible refine i_ret ?_
  | with_reducible refine i_drop ?_
  | with_reducible refine i_if ?_
  | with_reducible refine i_next ?_
  | with_reducible refine i_break ?_
  | with_reducible refine i_c ?_
  | ((with_reducible apply i_var); (focus (rfl)))
  | with_reducible refine i_op ?_
  | with_reducible refine i_cons ?_
  | with_reducible refine i_nil ?_
  | with_reducible refine i_cb ?_
  | with_reducible refine i_call ?_
  | ((with_reducible apply i_ixT); (focus (walk_at "lk")); (focus (first | rfl | assumption)))
  | ((with_reducible apply i_ixL); (focus (walk_at "lk")); (focus (first | rfl | assumption)))
  | with_reducible refine i_I0 ?_
  | ((with_reducible apply i_eq); (focus (rfl)))
  | ((with_reducible apply i_ne); (focus (rfl)))
  | with_reducible refine i_un ?_
  | with_reducible refine i_neg ?_
  | with_reducible refine i_andV ?_
  | with_reducible refine i_orV ?_
  | with_reducible refine i_notV ?_
  | with_reducible refine i_chain ?_
  | with_reducible refine i_test ?_
  | with_reducible refine i_B ?_
  | with_reducible refine i_k ?_
  | with_reducible refine i_and ?_
  | with_reducible refine i_or ?_
  | with_reducible refine i_not ?_
  | with_reducible refine i_yes ?_
  | (with_reducible refine i_isiI kit_ii ?_)
  | (with_reducible refine i_isiI kit_ib ?_)
  | (with_reducible refine i_isiS kit_ss ?_)
  | ((with_reducible apply i_isiT); (focus (walk_at "lk")); (focus (exact kit_tt)))
  | ((with_reducible apply i_len); (focus (first | (apply Or.inr; walk_at "lk") | (apply Or.inl; walk_at "lk"))))
  | ((with_reducible apply i_lens); (focus (walk_at "sz")))
  | (with_reducible refine i_sign ?_)
  | ((with_reducible apply i_inT); (focus (walk_at "lk")); (focus (rfl)); (focus (rfl)))
  | ((with_reducible apply i_inL); (focus (walk_at "lk")); (focus (rfl)); (focus (rfl)))
  | ((with_reducible apply i_ninL); (focus (walk_at "lk")); (focus (rfl)); (focus (rfl)))
  | ((with_reducible apply i_all); (focus (walk_at "lk")))
  | ((with_reducible apply i_any); (focus (walk_at "lk")))
  | ((with_reducible apply ift); (focus (walk_at "cond1")))
  | ((with_reducible apply iff_); (focus (walk_at "cond1")))
  | ((with_reducible apply ift); (focus (rfl)))
  | ((with_reducible apply iff_); (focus (rfl)))
  | ((with_reducible apply ift); (focus (walk_at "cond")))
  | ((with_reducible apply iff_); (focus (walk_at "cond")))
  | with_reducible refine i_tup ?_
  | (with_reducible refine i_new2 (by walk_at "sm") ?_; intro _ _ _ _ _ _ _)
  | with_reducible refine i_dnK ?_
  | with_reducible refine i_dnT ?_
  | with_reducible refine i_lc ?_
  | with_reducible refine i_for ?_
  | with_reducible refine i_iTup ?_
  | with_reducible refine i_iList ?_
  | ((with_reducible apply i_tupW); (focus (walk_at "lk")))
  | ((with_reducible apply i_listW); (focus (walk_at "lk")))
  | with_reducible refine i_iRng1 ?_
  | ((with_reducible apply i_rng1); (focus (walk_at "bnd")))
  | with_reducible refine i_iRng2 ?_
  | ((with_reducible apply i_rng2); (focus (walk_at "bnd")))
  | with_reducible refine i_iStr ?_
  | with_reducible refine i_iEnT ?_
  | with_reducible refine i_iEnum ?_
  | ((with_reducible apply i_enTW); (focus (walk_at "lk")))
  | ((with_reducible apply i_enLW); (focus (walk_at "lk")))
  | with_reducible refine i_strW ?_
  | with_reducible refine i_lst ?_
  | with_reducible refine i_bm ?_
  | with_reducible refine i_fld ?_
  | with_reducible refine i_dget2 ?_
  | with_reducible refine i_dget ?_
  | with_reducible refine i_din ?_
  | with_reducible refine i_dnotin ?_
  | with_reducible refine i_dputT ?_
  | with_reducible refine i_isN ?_
  | with_reducible refine i_notN ?_
  | ((with_reducible apply i_gtup); (focus (walk_at "lk")); (focus (rfl)))
  | with_reducible refine i_gcons ?_
  | with_reducible refine i_gnil ?_
  | with_reducible refine i_sl ?_
  | with_reducible refine i_nopart ?_
  | with_reducible refine i_part ?_
  | ((with_reducible apply i_app); (focus (walk_at "lk")); (focus (walk_at "sz")))
  | with_reducible refine i_2i ?_
  | with_reducible refine i_par ?_
  | with_reducible refine i_m1 ?_
  | with_reducible refine i_ex1 ?_
  | with_reducible refine i_isS ?_
  | ((with_reducible apply i_slS); (focus (walk_at "sz")))
  | with_reducible refine i_add_str ?_
  | with_reducible refine i_abs ?_
  | with_reducible refine i_gsub ?_
  | ((with_reducible apply i_setL); (focus (walk_at "lk")); (focus (rfl)))
  | ((with_reducible apply i_I); (focus (walk_at "arith")))
  | ((with_reducible apply i_fldw); (focus (walk_at "lk")); (focus assumption); (focus assumption); (focus (first | exact lk_plan | exact lk_hows | exact lk_stops | exact lk_dev)))
  | with_reducible refine i_meth ?_
  | ((with_reducible apply i_methW); (focus (walk_at "lk")); (focus (first | exact nm_need | exact nm_change | exact nm_parted | exact nm_act | exact nm_cut | exact nm_short | exact nm_mend | exact nm_rests | exact nm_come | exact nm_heard)))
  | ((with_reducible apply i_isD); (focus (walk_at "lk")))
  | ((with_reducible apply i_ext); (focus (walk_at "lk")); (focus (walk_at "lk")); (focus (walk_at "sz")))
  | ((with_reducible apply And.intro); (focus (first | (show wipe _ _ = wipe _ _; rfl) | (walk_at "sz")))))
local macro_rules | `(tactic| walk_at "arith") => `(tactic| first
  | assumption
  | (refine Or.inl ?_; (constructor <;> omega))
  | (refine Or.inr ?_; (constructor <;> omega))
  | (show (0 : Int) < _; omega)
  | (show 0 < _ ∧ _ < _; (constructor <;> omega))
  | (show CPow 10 18; exact ⟨by decide, by decide, by decide⟩))
local macro_rules | `(tactic| walk_at "bnd") => `(tactic| first
  | omega
  | (refine ⟨?_, ?_⟩ <;> omega))
local macro_rules | `(tactic| walk_at "sz") => `(tactic| first
  | (apply ty_l; walk_at "lk")
  | (apply ty_d; walk_at "lk")
  | (exact szle (by omega))
  | (exact szl (by omega))
  | (exact szle (by simp only [List.length_append, List.length_cons, List.length_nil, List.length_map]; omega))
  | (exact szl (by simp only [List.length_append, List.length_cons, List.length_nil, List.length_map]; omega))
  | (exact Nat.le_of_ble_eq_true rfl))
local macro_rules | `(tactic| walk_at "go") => `(tactic| repeat (first | walk_at "g1" | dsimp only))
section
variable {P : Program} {w : World} {K : PySem.W.Frag} {mg : Str → Option Value} {f : Nat → Addr} {fd : Nat → FuncData} {C aK aT : Addr} {base : Heap}
theorem frdrop {H H1 H2 : Hp} {b n : Addr} (f1 : Fr [b] H H1) (hn : H n = none) (f2 : Fr [b, n] H1 H2) : Fr [b] H H2 := fun a o h e => f2 a o (by
  simp only [List.mem_cons, List.not_mem_nil, or_false]
  exact fun z => z.elim (fun z => h (by simp [z])) (fun z => by rw [z, hn] at e; cases e)) (f1 a o h e)
theorem loAddrs_app (x y : List Place) : loAddrs (x ++ y) = loAddrs x ++ loAddrs y := List.flatMap_append
theorem loAddrs_one {o : Int} : loAddrs [⟨"seeker", o, []⟩] = [o] := by
  rw [loAddrs, List.flatMap_cons, List.flatMap_nil, plAddrs, if_neg (show ¬ ("seeker" : Str) = "opener" by decide +kernel)]
  rfl
def MxR (_ : Hp) (v : V) (lp : List Place) : Prop := ∃ n ∈ partsN lp, v = .int (n : Int) ∧ ∀ y ∈ partsN lp, y ≤ n
theorem mx_split {H : Hp} {vs : List V} {lps : List (List Place)} (h : Paired (MxR H) vs lps) : ∃ ns : List Int, vs = ns.map V.int ∧ Paired (fun (i : Int) lp => ∃ n ∈ partsN lp, i = (n : Int) ∧ ∀ y ∈ partsN lp, y ≤ n) ns lps := by
  induction h with
  | nil => exact ⟨[], rfl, .nil⟩
  | cons f _ ih =>
    obtain ⟨ns, e, p⟩ := ih
    obtain ⟨n, hn, rfl, hm⟩ := f
    exact ⟨(n : Int) :: ns, by rw [e]; rfl, .cons ⟨n, hn, rfl, hm⟩ p⟩
theorem told_le {loops : List (List Place)} {rest ns0 : List Int} (hL : ∀ lp ∈ loops, GoodL lp) (hp : (loops.flatMap loAddrs ++ rest).Perm ns0) (h30 : ns0.length = 30) : (toldOf loops).length ≤ 30 := by
  have h1 := (toldOf_sub (loops := loops) fun lp hl => (hL lp hl).2.2).length_le
  have h2 := hp.length_eq
  rw [List.length_append] at h2
  omega
theorem pair_ints : ∀ l : List Int, Paired (fun (v : V) (i : Int) => v = .int i) (l.map V.int) l
  | [] => .nil
  | _ :: l => .cons rfl (pair_ints l)
theorem rises_of {l : List Int} (h : l.Pairwise (· ≤ ·)) (hn : l.Nodup) : Rises l := by
  intro k a b ha hb
  have e1 := List.getElem?_eq_some_iff.mp ha
  have e2 := List.getElem?_eq_some_iff.mp hb
  obtain ⟨h1, rfl⟩ := e1
  obtain ⟨h2, rfl⟩ := e2
  have h3 := List.pairwise_iff_getElem.mp h k (k + 1) h1 h2 (Nat.lt_succ_self k)
  have h4 := List.pairwise_iff_getElem.mp hn k (k + 1) h1 h2 (Nat.lt_succ_self k)
  omega
/-! ### law_plan -/
def sp_law_plan : Sp := fun vs H Q _ => ∃ (b : Addr) (m : Nat), vs = [.ref b, .int 3, .int 12] ∧ BagAt H b m ∧ m ≤ 1000 ∧ ∀ (v : V) (P : Plan) (H' : Hp), Fr [b] H H' → BagAt H' b (m + 1000) → PlanR H' v P → GoodPlan P → Q v H'
theorem ok_law_plan (T : Txt K mg f fd C aK aT) : FnOk P w K mg base CX0 4 (f 43) (fd 43) ["_law_bag_here", "_law_most_loops", "_law_most_places"] sp_law_plan := by
  refine T.F_law_plan.ok sc_law_plan (fun vs H Q E h => ?_) (fun cdv A outer s H vs Q E hr h => ?_)
  · obtain ⟨b, m, rfl, _⟩ := h; rfl
  · obtain ⟨b, m, rfl, hb, hm, k⟩ := h
    refine ⟨_, (pss_cons (ps_set (i := 3) sc_law_plan.nd rfl (Or.inr rfl) (pe_call (ok_law_take T) (hr.mono (by decide)) (by rfl) T.m_law_take T.F_law_take.kp T.b_law_take .nil pass0 (pa_cons (pv 0) (pa_cons pe_int pa_nil))))
      (pss_cons (ps_set (i := 4) sc_law_plan.nd rfl (Or.inr rfl) (pe_ix (ix_listK (K := K) rfl) (pe_lst (pa_cons pe_int (pa_cons pe_int (pa_cons pe_int (pa_cons pe_int (pa_cons pe_int (pa_cons pe_int (pa_cons pe_int (pa_cons pe_int (pa_cons pe_int pa_nil)))))))))) (pe_call (ok_law_take T) (hr.mono (by decide)) (by rfl) T.m_law_take T.F_law_take.kp T.b_law_take .nil pass0 (pa_cons (pv 0) (pa_cons pe_int pa_nil))) (fun _ _ => rfl)))
      (pss_cons (ps_setLc (i := 5) (own := [("_law_k", 6)]) rfl  sc_law_plan.nd rfl rfl (sw_true rfl rfl rfl (by decide +kernel)) (pi_range1 (by rfl) T.n_range (pa_cons pe_int pa_nil)) (blkOk_by (N := ["_law_bag_here", "_law_most_loops", "_law_most_places", "_law_start", "_law_stride", "_law_numbers", "_law_k", "_law_own", "_law_first", "_law_at", "_law_loops", "_law_loop_here", "_law_most", "_law_places", "_law_told", "_law_kind", "_law_address", "_law_spur", "_law_other", "_law_number", "_law_zones", "_law_names_here", "_law_name_here", "_law_some"]) (sc := defScope s_law_plan) (by decide +kernel)) (fun _ _ _ _ _ => (pg_name (i := 6) sc_law_plan.nd rfl (Or.inl rfl))) (fun _ _ _ _ _ => pts_nil) (fun _ _ _ _ _ => (pe_op op_add (pe_op op_mod (pe_op op_add (pv 3) (pe_op op_mul (pv 4) (pv 6))) pe_int) pe_int)))
      (pss_cons (ps_set (i := 7) sc_law_plan.nd rfl (Or.inl rfl) (pe_bmK (K := K) rfl PySem.F.plainAttrs_list PySem.F.slot_list_pop PySem.F.type_list_pop mt_popAt (pv 5) (pa_cons pe_int pa_nil)))
      (pss_cons (ps_set (i := 8) sc_law_plan.nd rfl (Or.inl rfl) (pe_tup pa_nil))
      (pss_cons (ps_if (pt_cmpR op_gt (pe_call (ok_law_take T) (hr.mono (by decide)) (by rfl) T.m_law_take T.F_law_take.kp T.b_law_take .nil pass0 (pa_cons (pv 0) (pa_cons pe_int pa_nil))) pe_int (nomark _)) (pss_one (ps_set (i := 8) sc_law_plan.nd rfl (Or.inl rfl) (pe_call (ok_law_loop T) (hr.mono (by decide)) (by rfl) T.m_law_loop T.F_law_loop.kp T.b_law_loop .nil pass0 (pa_cons (pv 0) (pa_cons (pv 5) (pa_cons (pe_op op_sub (pv 2) pe_int) pa_nil))))))
      pss_nil)
      (pss_cons (ps_set (i := 9) sc_law_plan.nd rfl (Or.inl rfl) (pe_call (ok_law_take T) (hr.mono (by decide)) (by rfl) T.m_law_take T.F_law_take.kp T.b_law_take .nil pass0 (pa_cons (pv 0) (pa_cons (pe_op op_add (pe_callB (call_lenK (K := K) rfl) (by rfl) T.n_len PySem.boot_len (pa_cons (pv 8) pa_nil)) pe_int) pa_nil))))
      (pss_cons (ps_set (i := 10) sc_law_plan.nd rfl (Or.inl rfl) (pe_lst (pa_cons (pe_op (op_catK (K := K) rfl) (pe_op (op_catK (K := K) rfl) (pe_slice (sl_tupK (K := K) rfl) (pv 8) po_none (po_some (pv 9))) (pe_tup (pa_cons (pe_tup (pa_cons pe_str (pa_cons (pv 7) (pa_cons (pe_tup pa_nil) pa_nil)))) pa_nil))) (pe_slice (sl_tupK (K := K) rfl) (pv 8) (po_some (pv 9)) po_none)) pa_nil)))
      (pss_cons (ps_for PassesOwn.never rfl (pi_range1 (by rfl) T.n_range (pa_cons (pe_call (ok_law_take T) (hr.mono (by decide)) (by rfl) T.m_law_take T.F_law_take.kp T.b_law_take .nil pass0 (pa_cons (pv 0) (pa_cons (pv 1) pa_nil))) pa_nil)) (pg_name (i := 11) sc_law_plan.nd rfl (Or.inl rfl)) (pss_one (ps_expr (pe_bmK (K := K) rfl PySem.F.plainAttrs_list PySem.F.slot_list_append PySem.F.type_list_append mt_append (pv 10) (pa_cons (pe_call (ok_law_loop T) (hr.mono (by decide)) (by rfl) T.m_law_loop T.F_law_loop.kp T.b_law_loop .nil pass0 (pa_cons (pv 0) (pa_cons (pv 5) (pa_cons (pv 2) pa_nil)))) pa_nil)))))
      (pss_cons (ps_set (i := 12) sc_law_plan.nd rfl (Or.inl rfl) (pe_callB (cr_maxK (K := K) rfl rfl) (by rfl) T.n_max (by decide +kernel) (pa_cons (pe_lc (own := [("_law_places", 13)]) rfl sc_law_plan.nd  (pi_listK (K := K) rfl (pv 10)) (blkOk_by (N := ["_law_bag_here", "_law_most_loops", "_law_most_places", "_law_start", "_law_stride", "_law_numbers", "_law_k", "_law_own", "_law_first", "_law_at", "_law_loops", "_law_loop_here", "_law_most", "_law_places", "_law_told", "_law_kind", "_law_address", "_law_spur", "_law_other", "_law_number", "_law_zones", "_law_names_here", "_law_name_here", "_law_some"]) (sc := defScope s_law_plan) (by decide +kernel)) (fun _ _ _ _ _ => (pg_name (i := 13) sc_law_plan.nd rfl (Or.inl rfl))) (fun _ _ _ _ _ => pts_nil) (fun _ _ _ _ _ => (pe_callB (cr_maxK (K := K) rfl rfl) (by rfl) T.n_max (by decide +kernel) (pa_cons (pe_call (ok_law_parts T) (hr.mono (by decide)) (by rfl) T.m_law_parts T.F_law_parts.kp T.b_law_parts .nil pass0 (pa_cons (pv 13) pa_nil)) pa_nil)))) pa_nil)))
      (pss_cons (ps_set (i := 14) sc_law_plan.nd rfl (Or.inl rfl) (pe_lst pa_nil))
      (pss_cons (ps_for PassesOwn.never rfl (pi_listK (K := K) rfl (pv 10)) (pg_name (i := 13) sc_law_plan.nd rfl (Or.inl rfl)) (pss_one (ps_for PassesOwn.never rfl (pi_tupK (K := K) rfl (pv 13)) (pg_tupK (K := K) (n := 3) rfl rfl (pgs_cons (pg_name (i := 15) sc_law_plan.nd rfl (Or.inl rfl)) (pgs_cons (pg_name (i := 16) sc_law_plan.nd rfl (Or.inl rfl)) (pgs_cons (pg_name (i := 17) sc_law_plan.nd rfl (Or.inl rfl)) pgs_nil)))) (pss_one (ps_expr (pe_bmK (K := K) rfl PySem.F.plainAttrs_list PySem.F.slot_list_extend PySem.F.type_list_extend mt_extend (pv 14) (pa_cons (pe_lc (own := [("_law_other", 18), ("_law_number", 19)]) rfl sc_law_plan.nd  (pi_tupK (K := K) rfl (pe_op (op_catK (K := K) rfl) (pe_tup (pa_cons (pe_tup (pa_cons (pv 15) (pa_cons (pv 16) pa_nil))) pa_nil)) (pv 17))) (blkOk_by (N := ["_law_bag_here", "_law_most_loops", "_law_most_places", "_law_start", "_law_stride", "_law_numbers", "_law_k", "_law_own", "_law_first", "_law_at", "_law_loops", "_law_loop_here", "_law_most", "_law_places", "_law_told", "_law_kind", "_law_address", "_law_spur", "_law_other", "_law_number", "_law_zones", "_law_names_here", "_law_name_here", "_law_some"]) (sc := defScope s_law_plan) (by decide +kernel)) (fun _ _ _ _ _ => (pg_tupK (K := K) (n := 2) rfl rfl (pgs_cons (pg_name (i := 18) sc_law_plan.nd rfl (Or.inl rfl)) (pgs_cons (pg_name (i := 19) sc_law_plan.nd rfl (Or.inl rfl)) pgs_nil)))) (fun _ _ _ _ _ => pts_one (pt_cmpR (op_inK (K := K) rfl) (pv 18) (pe_tup (pa_cons pe_str (pa_cons pe_str pa_nil))) (by with_unfolding_all rfl))) (fun _ _ _ _ _ => (pv 19))) pa_nil)))))))
      (pss_cons (ps_set (i := 20) sc_law_plan.nd rfl (Or.inl rfl) (pe_lst pa_nil))
      (pss_cons (ps_set (i := 21) sc_law_plan.nd rfl (Or.inl rfl) (pe_call (ok_law_names T) (hr.mono (by decide)) (by rfl) T.m_law_names T.F_law_names.kp T.b_law_names .nil pass0 (pa_cons (pv 0) (pa_cons (pe_call (ok_law_take T) (hr.mono (by decide)) (by rfl) T.m_law_take T.F_law_take.kp T.b_law_take .nil pass0 (pa_cons (pv 0) (pa_cons pe_int pa_nil))) pa_nil))))
      (pss_cons (ps_for PassesOwn.never rfl (pi_listK (K := K) rfl (pv 21)) (pg_name (i := 22) sc_law_plan.nd rfl (Or.inl rfl)) (pss_cons (ps_set (i := 23) sc_law_plan.nd rfl (Or.inr rfl) (pe_callB (cr_sortK (K := K) rfl) (by rfl) T.n_sorted (by decide +kernel) (pa_cons (pe_lc (own := [("_law_number", 19)]) rfl sc_law_plan.nd  (pi_listK (K := K) rfl (pv 14)) (blkOk_by (N := ["_law_bag_here", "_law_most_loops", "_law_most_places", "_law_start", "_law_stride", "_law_numbers", "_law_k", "_law_own", "_law_first", "_law_at", "_law_loops", "_law_loop_here", "_law_most", "_law_places", "_law_told", "_law_kind", "_law_address", "_law_spur", "_law_other", "_law_number", "_law_zones", "_law_names_here", "_law_name_here", "_law_some"]) (sc := defScope s_law_plan) (by decide +kernel)) (fun _ _ _ _ _ => (pg_name (i := 19) sc_law_plan.nd rfl (Or.inl rfl))) (fun _ _ _ _ _ => pts_one (pt_cmpR op_eq (pe_call (ok_law_take T) (hr.mono (by decide)) (by rfl) T.m_law_take T.F_law_take.kp T.b_law_take .nil pass0 (pa_cons (pv 0) (pa_cons pe_int pa_nil))) pe_int (nomark _))) (fun _ _ _ _ _ => (pv 19))) pa_nil)))
      (pss_cons (ps_setLc (i := 14) (own := [("_law_number", 19)]) rfl  sc_law_plan.nd rfl rfl (sw_true rfl rfl rfl (by decide +kernel)) (pi_listK (K := K) rfl (pv 14)) (blkOk_by (N := ["_law_bag_here", "_law_most_loops", "_law_most_places", "_law_start", "_law_stride", "_law_numbers", "_law_k", "_law_own", "_law_first", "_law_at", "_law_loops", "_law_loop_here", "_law_most", "_law_places", "_law_told", "_law_kind", "_law_address", "_law_spur", "_law_other", "_law_number", "_law_zones", "_law_names_here", "_law_name_here", "_law_some"]) (sc := defScope s_law_plan) (by decide +kernel)) (fun _ _ _ _ _ => (pg_name (i := 19) sc_law_plan.nd rfl (Or.inl rfl))) (fun _ _ _ _ _ => pts_one (pt_cmpR (op_ninK (K := K) rfl) (pv 19) (pv 23) (by with_unfolding_all rfl))) (fun _ _ _ _ _ => (pv 19)))
      (pss_one (ps_if (pt_cmpR op_gt (pe_callB (call_lenK (K := K) rfl) (by rfl) T.n_len PySem.boot_len (pa_cons (pv 23) pa_nil)) pe_int (nomark _)) (pss_one (ps_expr (pe_bmK (K := K) rfl PySem.F.plainAttrs_list PySem.F.slot_list_append PySem.F.type_list_append mt_append (pv 20) (pa_cons (pe_tup (pa_cons (pv 22) (pa_cons (pe_callTy (call_tupK (K := K) rfl) (by rfl) T.n_tuple (by decide +kernel) (pa_cons (pv 23) pa_nil)) pa_nil))) pa_nil))))
      pss_nil)))))
      (pss_one (ps_ret (pe_tup (pa_cons (pe_callB (call_min2 rfl) (by rfl) T.n_min (by decide +kernel) (pa_cons pe_int (pa_cons (pe_op op_add (pv 12) (pe_call (ok_law_take T) (hr.mono (by decide)) (by rfl) T.m_law_take T.F_law_take.kp T.b_law_take .nil pass0 (pa_cons (pv 0) (pa_cons pe_int pa_nil)))) pa_nil))) (pa_cons (pe_callTy (call_tupK (K := K) rfl) (by rfl) T.n_tuple (by decide +kernel) (pa_cons (pv 10) pa_nil)) (pa_cons (pe_callTy (call_tupK (K := K) rfl) (by rfl) T.n_tuple (by decide +kernel) (pa_cons (pv 20) pa_nil)) pa_nil))))))))))))))))))))), ?_⟩
    have s0 := Same.refl H
    obtain ⟨xb, hxb⟩ := hb.lst
    have nb : ∀ {a : Addr}, H a = none → a ≠ b := fun h z => by rw [z, hxb] at h; cases h
    have tkb : ∀ {H H' : Hp} {b : Addr} {m : Nat}, BagAt H b m → Fr [b] H H' → Tk H H' := fun hb fr => fr.ts fun a ha => by
      obtain ⟨xb, hxb⟩ := hb.lst
      exact ⟨.lst xb, by rw [List.mem_singleton.mp ha]; exact hxb, nt_l⟩
    have nbx : ∀ {Hx : Hp} {a : Addr} {m : Nat}, BagAt Hx b m → Hx a = none → a ≠ b := fun hb h z => by obtain ⟨xb, hxb⟩ := hb.lst; rw [z, hxb] at h; cases h
    walk_at "go"
    refine ⟨b, 99, m, rfl, hb, by omega, by decide, by decide, fun st H1 st0 st1 fr1 hb1 => ?_⟩
    have sH1 := Same.refl H1
    walk_at "go"
    rename_i L2 H2 l21 l22 stp2 s2 e2
    have L2b : L2 ≠ b := fun z => by obtain ⟨xb, hxb⟩ := hb1.lst; rw [z, hxb] at l21; cases l21
    refine ⟨b, 9, _, rfl, hb1.same s2, by omega, by decide, by decide, fun r3 H3 r30 r31 fr3 hb3 => ?_⟩
    obtain ⟨c, hc, hcat⟩ := stride_at r30 r31
    have e3 := fr3.get (by simp; exact L2b) e2
    have fr3' : Fr [b] H H3 := (fr1.trans (fr_same s2)).trans fr3
    have cb : -(2 ^ 64) < c ∧ c < 2 ^ 64 := by
      rcases hc with rfl | rfl | rfl | rfl | rfl | rfl | rfl | rfl | rfl <;> decide
    have sH3 := Same.refl H3
    walk_at "go"
    refine lcg_rng sH3 (by decide) (fun (k : Nat) => some ((st + c * (0 + (k : Int))) % 99 + 1)) IR (fun _ _ _ h => h) (fun i H4 hi s4 s4' Ky Kn ky kn => ?_) (fun D H4 d1 d2 s4 s4' l4 => ?_)
    · have hcm : CMul c (0 + (i : Int)) := .inl cb
      walk_at "go"
      exact ky _ _ _ rfl (Same.refl _) rfl
    · rw [fm_some] at l4
      obtain ⟨vs4, hD4, pr4⟩ := l4
      rw [IR.list pr4] at hD4
      have hD4 : H4 D = some (.lst ((numsOf st c).map V.int)) := hD4
      have hnn := nums_nodup (s := st) hc
      have hnl := nums_len (s := st) (c := c)
      have hnbd := nums_bd (s := st) (c := c)
      generalize numsOf st c = ns0 at *
      obtain ⟨n0, nr, rfl⟩ : ∃ n0 nr, ns0 = n0 :: nr := by
        cases ns0 with
        | nil => cases hnl
        | cons a r => exact ⟨a, r, rfl⟩
      have fr4 := fr3'.trans (fr_same s4)
      have Db := nbx hb3 d1
      have HD : H D = none := fr3'.new (by simp; exact Db) d1
      have hb4 := hb3.same s4
      walk_at "go"
      refine ⟨D, (n0 :: nr).map V.int, 0, 0, .int n0, rfl, rfl, hD4, by decide, by decide, seqIx rfl (by simp), rfl, ?_⟩
      have fr5 : Fr [b] H (upd H4 D (.lst (((n0 :: nr).map V.int).eraseIdx 0))) := fr4.mut HD
      have hD5 : NumAt (upd H4 D (.lst (((n0 :: nr).map V.int).eraseIdx 0))) D nr := upd_same
      have hb5 : BagAt (upd H4 D (.lst (((n0 :: nr).map V.int).eraseIdx 0))) b (m + 1 + 1) := by
        obtain ⟨x, y, z, e4, rest⟩ := hb4
        exact ⟨x, y, z, by rw [upd_ne Db.symm]; exact e4, rest⟩
      generalize upd H4 D (.lst (((n0 :: nr).map V.int).eraseIdx 0)) = H5 at *
      have s5 := Same.refl H5
      walk_at "go"
      rename_i t6 H6 t61 t62 st6 s6 e6
      have fr6 := fr5.trans (fr_same s6)
      have hb6 := hb5.same s6
      have hD6 : NumAt H6 D nr := s6.get hD5
      refine ⟨b, 8, _, rfl, hb6, by omega, by decide, by decide, fun r7 H7 r70 r71 fr7 hb7 => ?_⟩
      have t6b := nbx hb5 t61
      have e7 : H7 t6 = some (.tup []) := fr7.get (by simp; exact t6b) e6
      have hD7 : NumAt H7 D nr := fr7.get (by simp; exact Db) hD6
      have fr7' := fr6.trans fr7
      have hnr : nr.length = 29 := by rw [List.length_cons] at hnl; omega
      walk_at "go"
      refine if_mid (fun σ' H' => (∃ (fa : Addr) (lpF : List Place) (ns' : List Int), (∃ a2 a3 a4 a5 a6 a7 a8 a9 b0 b1 b2 b3 b4 b5 b6 b7 : Option V, σ' = [some (.ref b), some (.int 3), some (.int 12), some (.int st), a2, some (.ref D), a3, some (.int n0), some (.ref fa), a4, a5, a6, a7, a8, a9, b0, b1, b2, b3, b4, b5, b6, b7, none] ) ∧ LoR H' (.ref fa) lpF ∧ lpF.length ≤ 11 ∧ (∀ q ∈ lpF, GoodP q) ∧ loAddrs lpF ++ ns' = nr ∧ NumAt H' D ns') ∧ Fr [b] H H' ∧ BagAt H' b (m + 83)) (fun σ' H8 hM => ?_) (fun N hN => ?_)
      · obtain ⟨⟨fa, lpF, ns', ⟨_, _, _, _, _, _, _, _, _, _, _, _, _, _, _, _, rfl⟩, lrF, hF11, hFg, hFns, hD8⟩, fr8, hb8⟩ := hM
        obtain ⟨fa', xF, efa, hfa, prF⟩ := id lrF
        obtain rfl : fa = fa' := by cases efa; rfl
        have hxF := Paired.length prF
        walk_at "go"
        refine ⟨b, _, _, rfl, hb8, by omega, by omega, by omega, fun r9 H9 r90 r91 fr9 hb9 => ?_⟩
        have tk9 := tkb hb8 fr9
        have hfa9 := tk9 _ _ hfa
        have prF9 := Paired.mapP prF (PlR.ts tk9)
        have hD9 : NumAt H9 D ns' := fr9.get (by simp; exact Db) hD8
        have fr9' := fr8.trans fr9
        walk_at "go"
        refine slA_take PlR.ts hfa9 prF9 (n := r9.toNat) (by omega) (by omega) fun va H10 s10 tr10 => ?_
        have s10r := Same.refl H10
        walk_at "go"
        rename_i u1 H11 u11 u12 stu1 su1 eu1 u2 H12 u21 u22 stu2 su2 eu2 u3 H13 u31 u32 stu3 su3 eu3
        have ho : PlR H13 (.ref u2) ⟨"seeker", n0, []⟩ := ⟨u2, .ref u1, rfl, stu3.get eu2, ⟨u1, [], rfl, stu3.get (stu2.get eu1), .nil⟩⟩
        have hl1 : (lpF.take r9.toNat).length ≤ 11 := by rw [List.length_take]; omega
        refine cat_TR PlR.ts (TR.ts (PlR.ts su3.ts) su3.ts tr10) ⟨u3, [.ref u2], rfl, eu3, Paired.one ho⟩ (by show _ + 1 ≤ _; omega) fun vb H14 s14 tr14 => ?_
        have s13 : Same H9 H14 := s10.trans (su3.trans s14)
        have hfa14 := s13.get hfa9
        walk_at "go"
        refine slA_drop PlR.ts hfa14 (Paired.mapP prF9 (PlR.ts s13.ts)) (n := r9.toNat) (by omega) (by omega) fun vc H15 s15 tr15 => ?_
        walk_at "go"
        have hl2 : (lpF.drop r9.toNat).length ≤ 11 := by rw [List.length_drop]; omega
        refine cat_TR PlR.ts (TR.ts (PlR.ts s15.ts) s15.ts tr14) tr15 (by rw [List.length_append]; show _ + 1 + _ ≤ _; omega) fun vd H16 s16 tr16 => ?_
        have s16' : Same H9 H16 := s13.trans (s15.trans s16)
        have hl0 : ((lpF.take r9.toNat ++ [(⟨"seeker", n0, []⟩ : Place)]) ++ lpF.drop r9.toNat).length = lpF.length + 1 := by
          rw [List.length_append, List.length_append, List.length_take, List.length_drop]; show _ + 1 + _ = _; omega
        have hg0 : ∀ q ∈ (lpF.take r9.toNat ++ [(⟨"seeker", n0, []⟩ : Place)]) ++ lpF.drop r9.toNat, GoodP q := fun q hq => by
          rcases List.mem_append.mp hq with hq | hq
          · rcases List.mem_append.mp hq with hq | hq
            · exact hFg q (List.mem_of_mem_take hq)
            · rw [List.mem_singleton] at hq; rw [hq]
              have := hnbd n0 (List.mem_cons_self ..)
              exact .inr ⟨⟨.inl rfl, this.1, this.2⟩, Nat.zero_le _, fun d hd => by cases hd⟩
          · exact hFg q (List.mem_of_mem_drop hq)
        have ha0 : (loAddrs ((lpF.take r9.toNat ++ [(⟨"seeker", n0, []⟩ : Place)]) ++ lpF.drop r9.toNat) ++ ns').Perm (n0 :: nr) := by
          rw [loAddrs_app, loAddrs_app, loAddrs_one, ← hFns]
          have e : loAddrs lpF = loAddrs (lpF.take r9.toNat) ++ loAddrs (lpF.drop r9.toNat) := by rw [← loAddrs_app, List.take_append_drop]
          rw [e, List.append_assoc, List.append_assoc, List.append_assoc]
          exact List.perm_middle
        have hne0 : loAddrs ((lpF.take r9.toNat ++ [(⟨"seeker", n0, []⟩ : Place)]) ++ lpF.drop r9.toNat) ≠ [] := fun z => by
          rw [loAddrs_app, loAddrs_app, loAddrs_one] at z
          simp at z
        generalize (lpF.take r9.toNat ++ [(⟨"seeker", n0, []⟩ : Place)]) ++ lpF.drop r9.toNat = lp0 at *
        have s16r := Same.refl H16
        walk_at "go"
        rename_i L H17 L1 L2' stL sL hL
        have fr17 : Fr [b] H H17 := fr9'.trans (fr_same (s16'.trans sL))
        have hb17 := (hb9.same s16').same sL
        have hD17 : NumAt H17 D ns' := sL.get (s16'.get hD9)
        have Lb := nbx (hb9.same s16') L1
        have LD : L ≠ D := fun z => by have := s16'.get hD9; rw [← z, L1] at this; cases this
        have HL : H L = none := (fr9'.trans (fr_same s16')).new (by simp; exact Lb) L1
        refine ⟨b, 3, _, rfl, hb17, by omega, by decide, by decide, fun r18 H18 r180 r181 fr18 hb18 => ?_⟩
        have fr18' := fr17.trans fr18
        have hL18 := fr18.get (by simp; exact Lb) hL
        have hD18 : NumAt H18 D ns' := fr18.get (by simp; exact Db) hD17
        have tr18 : LoR H18 (.ref vd) lp0 := LoR.ts (sL.ts.trans (tkb hb17 fr18)) _ _ tr16
        walk_at "go"
        refine forg_rng (fun i σ H' => (∃ x4 x6 x8 x9 x11 x12 x13 x14 x15 x16 x17 x18 x19 x20 x21 x22 x23 : Option V, σ = [some (.ref b), some (.int 3), some (.int 12), some (.int st), x4, some (.ref D), x6, some (.int n0), x8, x9, some (.ref L), x11, x12, x13, x14, x15, x16, x17, x18, x19, x20, x21, x22, x23]) ∧ Fr [b] H H' ∧ BagAt H' b (m + 85 + 80 * i) ∧ ∃ (lps : List (List Place)) (ns2 : List Int), NumAt H' D ns2 ∧ (lps.flatMap loAddrs ++ ns2).Perm (n0 :: nr) ∧ LR LoR H' L lps ∧ lps.length = i + 1 ∧ (∀ lp ∈ lps, GoodL lp) ∧ ∃ lp ∈ lps, loAddrs lp ≠ []) ⟨⟨_, _, _, _, _, _, _, _, _, _, _, _, _, _, _, _, _, rfl⟩, fr18', hb18.mono (by omega), [lp0], ns', hD18, (by rw [List.flatMap_cons, List.flatMap_nil, List.append_nil]; exact ha0), ⟨[.ref vd], hL18, Paired.one tr18⟩, rfl, fun lp hl => (by rw [List.mem_singleton] at hl; rw [hl]; exact ⟨by omega, by omega, hg0⟩), lp0, List.mem_cons_self .., hne0⟩ (fun i σ H19 hi hI => ?_) (fun σ H19 hI => ?_)
        · obtain ⟨⟨_, _, _, _, _, _, _, _, _, _, _, _, _, _, _, _, _, rfl⟩, fr19, hb19, lps, ns2, hD19, hpm, ⟨vL, hL19, pL⟩, hll, hgl, hnel⟩ := hI
          have hvL := Paired.length pL
          have hns2 := hpm.length_eq
          rw [List.length_append] at hns2
          have s19 := Same.refl H19
          have hD19' : H19 D = some (.lst (ns2.map V.int)) := hD19
          walk_at "go"
          refine ⟨b, D, _, 12, ns2, rfl, Db.symm, hb19, by omega, by decide, by decide, hD19, by omega, fun n hn => hnbd n (hpm.mem_iff.mp (List.mem_append_right _ hn)), fun fb lpB ns3 H20 fr20 hb20 hD20 hns20 lr20 h1 h12 hg20 => ?_⟩
          have hL20 := fr20.get (by simp; exact ⟨Lb, LD⟩) hL19
          have tk20 : Tk H19 H20 := fr20.ts fun a ha => by
            simp only [List.mem_cons, List.not_mem_nil, or_false] at ha
            rcases ha with rfl | rfl
            · obtain ⟨xb, hxb⟩ := hb19.lst; exact ⟨_, hxb, nt_l⟩
            · exact ⟨_, hD19, nt_l⟩
          have fr20' : Fr [b] H H20 := frdrop fr19 HD fr20
          have hvL2 : vL.length ≤ 1000 := by omega
          walk_at "go"
          have tU : Tk H20 (upd H20 L (.lst (vL ++ [.ref fb]))) := Tk.upd hL20 nt_l
          refine ⟨⟨_, _, _, _, _, _, _, _, _, _, _, _, _, _, _, _, _, rfl⟩, fr20'.mut HL, ?_, lps ++ [lpB], ns3, ?_, ?_, ⟨_, upd_same, Paired.app (Paired.mapP pL (LoR.ts (tk20.trans tU))) (Paired.one (LoR.ts tU _ _ lr20))⟩, by rw [List.length_append, hll]; rfl, fun lp hl => ?_, ?_⟩
          · obtain ⟨x, y, z, e4, a1, a2, a3, a4, a5⟩ := hb20
            exact ⟨x, y, z, by rw [upd_ne Lb.symm]; exact e4, a1, a2, a3, a4, by omega⟩
          · show upd _ _ _ _ = _
            rw [upd_ne LD.symm]; exact hD20
          · rw [List.flatMap_append, List.flatMap_cons, List.flatMap_nil, List.append_nil, List.append_assoc, hns20]
            exact hpm
          · rcases List.mem_append.mp hl with hl | hl
            · exact hgl lp hl
            · rw [List.mem_singleton] at hl; rw [hl]; exact ⟨h1, h12, hg20⟩
          · obtain ⟨lp, h1, h2⟩ := hnel
            exact ⟨lp, List.mem_append_left _ h1, h2⟩
        · obtain ⟨⟨_, _, _, _, _, _, _, _, _, _, _, _, _, _, _, _, _, rfl⟩, fr19, hb19, lps, ns2, hD19, hpm, ⟨vL, hL19, pL⟩, hll, hgl, hnel⟩ := hI
          have hvL := Paired.length pL
          have hb19 := hb19.mono (n := m + 245) (by omega)
          have hl3 : lps.length ≤ 3 := by omega
          have htl := told_le hgl hpm hnl
          have s19 := Same.refl H19
          walk_at "go"
          refine lcg_list (K := K) pL hL19 s19 (by omega) (fun lp => some lp) MxR (fun _ _ _ h => h) (fun pre lp post x H20 e s20 s20' r Ky Kn ky kn => ?_) (fun M H20 m1 m2 s20 s20' l20 => ?_)
          · walk_at "go"
            refine ⟨x, lp, rfl, LoR.ts s20.ts _ _ r, by have := (hgl lp (sub_pre e)).2.1; omega, fun pa H21 p1 s21 hpa => ?_⟩
            walk_at "go"
            have hmap : ((partsN lp).map fun (n : Nat) => V.int (n : Int)) = ((partsN lp).map fun (n : Nat) => (n : Int)).map V.int := by rw [List.map_map]; rfl
            rw [hmap] at hpa
            refine ⟨pa, _, rfl, SqL.of hpa, by rw [List.length_map, partsN, List.length_append, List.length_singleton]; omega, fun mm hmm hmx => ?_⟩
            obtain ⟨n, hn, rfl⟩ := List.mem_map.mp hmm
            refine ky _ _ _ rfl s21 ⟨n, hn, rfl, fun y hy => ?_⟩
            have := hmx (y : Int) (List.mem_map.mpr ⟨y, hy, rfl⟩)
            omega
          · rw [fm_some, List.map_id'] at l20
            obtain ⟨v20, hM20, p20⟩ := l20
            obtain ⟨mxs, rfl, pmx⟩ := mx_split p20
            have hmxl := Paired.length pmx
            walk_at "go"
            refine ⟨M, mxs, rfl, SqL.of hM20, by omega, fun mx hmx hmxx => ?_⟩
            have hmax : ∀ lp ∈ lps, ∀ n ∈ partsN lp, (n : Int) ≤ mx := fun lp hl n hn => by
              obtain ⟨j, hj⟩ := List.getElem?_of_mem hl
              obtain ⟨i, hi, n1, hn1, rfl, hall⟩ := Paired.get2 pmx hj
              have h1 := hall n hn
              have h2 := hmxx _ (List.mem_of_getElem? hi)
              omega
            have hmatt : ∃ lp ∈ lps, ∃ n ∈ partsN lp, mx = (n : Int) := by
              obtain ⟨j, hj⟩ := List.getElem?_of_mem hmx
              obtain ⟨lp, hl, n1, hn1, e, _⟩ := Paired.get1 pmx hj
              exact ⟨lp, List.mem_of_getElem? hl, n1, hn1, e⟩
            have hL20 := s20 _ _ hL19
            have fr20 := fr19.trans (fr_same s20)
            have hb20 := hb19.same s20
            have pL20 := Paired.mapP pL (LoR.ts s20.ts)
            have s20r := Same.refl H20
            walk_at "go"
            rename_i TL H21 t1 t2 stT sT hTL
            have fr21 := fr20.trans (fr_same sT)
            have hb21 := hb20.same sT
            have hL21 := sT.get hL20
            have pL21 := Paired.mapP pL20 (LoR.ts sT.ts)
            have TLb := nbx hb20 t1
            have HT : H TL = none := fr20.new (by simp; exact TLb) t1
            have TLL : TL ≠ L := fun z => by rw [z, hL20] at t1; cases t1
            walk_at "go"
            refine forg_list (K := K) pL20 (fun pre σ H' => (∃ x4 x6 x8 x9 x11 x13 x15 x16 x17 x18 x19 x20 x21 x22 x23 : Option V, σ = [some (.ref b), some (.int 3), some (.int 12), some (.int st), x4, some (.ref D), x6, some (.int n0), x8, x9, some (.ref L), x11, some (.int mx), x13, some (.ref TL), x15, x16, x17, x18, x19, x20, x21, x22, x23]) ∧ Same H20 H' ∧ H' TL = some (.lst ((toldOf pre).map V.int))) ⟨⟨_, _, _, _, _, _, _, _, _, _, _, _, _, _, _, rfl⟩, sT, hTL⟩ (fun pre σ H' q => q.2.1 _ _ hL20) (fun pre lp post x σ H22 e hI r => ?_) (fun σ H22 hI => ?_)
            · obtain ⟨⟨_, _, _, _, _, _, _, _, _, _, _, _, _, _, _, rfl⟩, s22, hT22⟩ := hI
              obtain ⟨pa, ys, rfl, hpa, pr2⟩ := r
              have sHH := Same.refl H22
              walk_at "go"
              refine forg_tup (K := K) pr2 (fun pre2 σ H' => (∃ x4 x6 x8 x9 x11 x15 x16 x17 x18 x19 x20 x21 x22 x23 : Option V, σ = [some (.ref b), some (.int 3), some (.int 12), some (.int st), x4, some (.ref D), x6, some (.int n0), x8, x9, some (.ref L), x11, some (.int mx), some (.ref pa), some (.ref TL), x15, x16, x17, x18, x19, x20, x21, x22, x23]) ∧ Same H20 H' ∧ H' TL = some (.lst ((toldOf pre ++ pre2.flatMap toldPl).map V.int))) ⟨⟨_, _, _, _, _, _, _, _, _, _, _, _, _, _, rfl⟩, s22, (by rw [List.flatMap_nil, List.append_nil]; exact hT22)⟩ (fun pre2 σ H' q => q.2.1 _ _ hpa) (fun pre2 q post2 x σ H23 e2 hI r => ?_) (fun σ H23 hI => ?_)
              · obtain ⟨⟨_, _, _, _, _, _, _, _, _, _, _, _, _, _, rfl⟩, s23, hT23⟩ := hI
                obtain ⟨pp, ss, rfl, hpp, ⟨sa, zs2, rfl, hsa, pr3⟩⟩ := r
                have hz3 := Paired.length pr3
                have hsq := spur_le ((hgl lp (sub_pre e)).2.2 q (sub_pre e2))
                have htot : (toldOf pre ++ pre2.flatMap toldPl).length + (toldPl q).length ≤ 30 := by
                  have h1 : toldOf lps = toldOf pre ++ (pre2.flatMap toldPl ++ (toldPl q ++ post2.flatMap toldPl)) ++ toldOf post := by
                    rw [e, e2]; simp [toldOf, List.flatMap_append, List.flatMap_cons, List.append_assoc]
                  have h2 := congrArg List.length h1
                  simp only [List.length_append] at h2 ⊢
                  omega
                walk_at "go"
                rename_i u1 H24 u11 u12 stu1 su1 eu1 u2 H25 u21 u22 stu2 su2 eu2
                refine cat_TR DevR.ts (ds := [(q.kind, q.addr)]) (es := q.spur) ⟨u2, [.ref u1], rfl, eu2, Paired.one ⟨u1, rfl, stu2.get eu1⟩⟩ ⟨sa, zs2, rfl, su2.get hsa, Paired.mapP pr3 (DevR.ts su2.ts)⟩ (by show 1 + _ ≤ _; omega) fun va H26 s26 tr26 => ?_
                obtain ⟨va', xa, ea, hva, pra⟩ := tr26
                obtain rfl : va = va' := by cases ea; rfl
                have s26' := su2.trans s26
                have hT26 : H26 TL = some (.lst ((toldOf pre ++ pre2.flatMap toldPl).map V.int)) := s26 _ _ (stu2.get (stu1.get hT23))
                walk_at "go"
                refine lcg_tup (K := K) pra hva s26' (by rw [List.length_append]; show 1 + _ ≤ _; omega) (fun d => if toldK d.1 then some d.2 else none) IR (fun _ _ _ h => h) (fun pre3 d post3 x2 H27 e3 s27 s27' r2 Ky Kn ky kn => ?_) (fun D2 H27 d1' d2' s27 s27' l27 => ?_)
                · obtain ⟨dp, rfl, hdp⟩ := r2
                  by_cases ht : toldK d.1
                  · have hti : inV (.str d.1) [.str "seeker", .str "knob"] = true := by rw [told_in, decide_eq_true ht]
                    walk_at "go"
                    rename_i w1 H28 w11 w12 stw sw ew
                    exact ky _ _ _ (if_pos ht) stw.same rfl
                  · have hti : inV (.str d.1) [.str "seeker", .str "knob"] = false := by rw [told_in, decide_eq_false ht]
                    walk_at "go"
                    rename_i w1 H28 w11 w12 stw sw ew
                    exact kn _ (if_neg ht) stw.same
                · obtain ⟨v27, hD27, p27⟩ := l27
                  rw [IR.list p27] at hD27
                  have hD27 : H27 D2 = some (.lst ((toldPl q).map V.int)) := hD27
                  have hT27 := s27 _ _ hT26
                  have hll2 : ((toldOf pre ++ pre2.flatMap toldPl).map V.int).length + ((toldPl q).map V.int).length ≤ 1000 := by rw [List.length_map, List.length_map]; omega
                  walk_at "go"
                  refine ⟨⟨_, _, _, _, _, _, _, _, _, _, _, _, _, _, rfl⟩, s27'.mut t1, ?_⟩
                  rw [List.flatMap_append, List.flatMap_cons, List.flatMap_nil, List.append_nil, ← List.append_assoc, List.map_append (l₂ := toldPl q)]
                  exact upd_same
              · obtain ⟨⟨_, _, _, _, _, _, _, _, _, _, _, _, _, _, rfl⟩, s23, hT23⟩ := hI
                refine ⟨⟨_, _, _, _, _, _, _, _, _, _, _, _, _, _, _, rfl⟩, s23, ?_⟩
                rw [toldOf, List.flatMap_append, List.flatMap_cons, List.flatMap_nil, List.append_nil]
                exact hT23
            · obtain ⟨⟨_, _, _, _, _, _, _, _, _, _, _, _, _, _, _, rfl⟩, s22, hT22⟩ := hI
              have fr22 := fr20.trans (fr_same s22)
              have hb22 := hb20.same s22
              have pL22 := Paired.mapP pL20 (LoR.ts s22.ts)
              have hL22 := s22 _ _ hL20
              have s22r := Same.refl H22
              walk_at "go"
              rename_i ZL H23 z1 z2 stz sz hZ
              have fr23 := fr22.trans (fr_same sz)
              have hb23 := hb22.same sz
              have ZLb := nbx hb22 z1
              have HZ : H ZL = none := fr22.new (by simp; exact ZLb) z1
              have ZLT : TL ≠ ZL := fun z => by rw [← z, hT22] at z1; cases z1
              have ZLL : L ≠ ZL := fun z => by rw [← z, hL22] at z1; cases z1
              refine ⟨b, 5, _, rfl, hb23, by omega, by decide, by decide, fun rn H24 rn0 rn1 fr24 hb24 => ?_⟩
              obtain ⟨nn, rfl⟩ := Int.eq_ofNat_of_zero_le rn0
              walk_at "go"
              refine ⟨b, _, nn, rfl, hb24, by omega, by omega, fun NL zsn H25 nl1 fr25 hb25 hNL hzn hznd hznl => ?_⟩
              have hb25 := hb25.mono (n := m + 290) (by omega)
              have fr2325 := fr24.trans fr25
              have tk25 : Tk H23 H25 := (tkb hb23 fr24).trans (tkb hb24 fr25)
              have hT25 := fr2325.get (by simp; exact TLb) (sz.get hT22)
              have hL25 := fr2325.get (by simp; exact Lb) (sz.get hL22)
              have hZ25 := fr2325.get (by simp; exact ZLb) hZ
              have pL25 := Paired.mapP pL22 (LoR.ts (sz.ts.trans tk25))
              have fr25' := fr23.trans fr2325
              have NLb := nbx hb24 nl1
              have ZLN : NL ≠ ZL := fun z => by have := fr24.get (by simp; exact ZLb) hZ; rw [← z, nl1] at this; cases this
              have htn : (toldOf lps).Nodup := (toldOf_sub fun lp hl => (hgl lp hl).2.2).nodup (List.nodup_append.mp (hpm.nodup_iff.mpr hnn)).1
              have htb : ∀ a ∈ toldOf lps, 1 ≤ a ∧ a ≤ 99 := fun a ha => hnbd a (hpm.mem_iff.mp (List.mem_append_left _ ((toldOf_sub fun lp hl => (hgl lp hl).2.2).mem ha)))
              have pN : Paired (fun (v : V) (z : Str) => v = .str z) (zsn.map V.str) zsn := by
                have : ∀ l : List Str, Paired (fun (v : V) (z : Str) => v = .str z) (l.map V.str) l := fun l => by
                  induction l with
                  | nil => exact .nil
                  | cons a l ih => exact .cons rfl ih
                exact this zsn
              walk_at "go"
              refine forg_list (K := K) pN (fun pre σ H' => ∃ (TI : Addr) (ts : List Int) (zs : List (Str × List Int)), (∃ x4 x6 x8 x9 x11 x13 x15 x16 x17 x18 x19 x21 x22 x23 : Option V, σ = [some (.ref b), some (.int 3), some (.int 12), some (.int st), x4, some (.ref D), x6, some (.int n0), x8, x9, some (.ref L), x11, some (.int mx), x13, some (.ref TI), x15, x16, x17, x18, x19, some (.ref ZL), x21, x22, x23]) ∧ Fr [b, ZL] H25 H' ∧ BagAt H' b (m + 290 + 30 * pre.length) ∧ H' TI = some (.lst (ts.map V.int)) ∧ TI ≠ b ∧ TI ≠ ZL ∧ LR ZoR H' ZL zs ∧ ts.length ≤ 30 ∧ (zs.flatMap (·.2) ++ ts).Nodup ∧ (∀ a ∈ ts, a ∈ toldOf lps) ∧ (∀ z ∈ zs, ∀ a ∈ z.2, a ∈ toldOf lps) ∧ (∀ z ∈ zs, GoodZ z) ∧ (zs.map (·.1)).Sublist pre ∧ zs.length ≤ pre.length)
                ⟨TL, toldOf lps, [], ⟨_, _, _, _, _, _, _, _, _, _, _, _, _, _, rfl⟩, Fr.refl, hb25, hT25, TLb, ZLT, ⟨[], hZ25, .nil⟩, htl, htn, fun a h => h, by simp, by simp, .slnil, Nat.le_refl _⟩ (fun pre σ H' ⟨_, _, _, _, q, _⟩ => q.get (by simp; exact ⟨NLb, ZLN⟩) hNL) (fun pre nm post x σ H26 e hI r => ?_) (fun σ H26 hI => ?_)
              · obtain ⟨TI, ts, zs, ⟨_, _, _, _, _, _, _, _, _, _, _, _, _, _, rfl⟩, fr26, hb26, hT26, TIb, TIZ, ⟨vz, hZ26, pz⟩, hts, hzd, htt, hzt, hzg, hzs, hzl⟩ := hI
                subst r
                have hpre : pre.length ≤ 4 := by
                  have := congrArg List.length e
                  rw [List.length_append, List.length_cons] at this
                  omega
                have hlen : (pre ++ [nm]).length = pre.length + 1 := by simp
                have hnm := hzn nm (sub_pre e)
                obtain ⟨xb26, hxb26⟩ := hb26.lst
                have fr25'' : Fr [b] H H26 := frdrop fr25' HZ fr26
                have s26r := Same.refl H26
                walk_at "go"
                refine lcg_m walk_list ts (by rw [List.length_map]) (by rw [List.length_map]; omega) (fun D2 pre2 outs H' => D2 ≠ b ∧ D2 ≠ TI ∧ (∃ os : List Int, outs = os.map V.int ∧ os.Sublist pre2) ∧ Fr [b] H26 H' ∧ BagAt H' b (m + 290 + 30 * pre.length + pre2.length))
                  (fun D2 hD2 => ⟨nbx hb26 hD2, fun z => (by rw [z, hT26] at hD2; cases hD2), ⟨[], rfl, .slnil⟩, fr_same (Same.upd hD2), hb26.same (Same.upd hD2)⟩) (fun D2 pre2 outs H' hI => SqL.of (hI.2.2.2.1.get (by simp; exact TIb) hT26)) (fun D2 pre2 d post2 outs x H27 H28 hD2 e2 hol ho hI y Ky Kn ky kn => ?_) (fun D2 outs H27 hD2 hol ho hI => ?_)
                · obtain ⟨Db2, DT2, ⟨os, rfl, hos⟩, fr27, hb27⟩ := hI
                  obtain ⟨rfl, hx⟩ := y
                  have hx2 : x = .int d := by
                    rw [List.getElem?_map, e2, List.getElem?_append_right (Nat.le_refl _), Nat.sub_self] at hx
                    exact (Option.some.inj hx).symm
                  subst hx2
                  have hp2 : pre2.length ≤ 30 := by rw [e2, List.length_append] at hts; omega
                  have hlen2 : (pre2 ++ [d]).length = pre2.length + 1 := by simp
                  walk_at "go"
                  refine ⟨b, 3, _, rfl, hb27, by omega, by decide, by decide, fun rr H29 rr0 rr1 fr29 hb29 => ?_⟩
                  have ho29 := fr29.get (by simp; exact Db2) ho
                  by_cases hr0 : rr = 0
                  · have hr0' : V.int rr = V.int 0 := by rw [hr0]
                    walk_at "go"
                    refine ky _ _ ho29 ⟨Db2, DT2, ⟨os ++ [d], by rw [List.map_append]; rfl, hos.append (List.Sublist.refl _)⟩, (fr27.trans fr29).mut hD2, ?_⟩
                    obtain ⟨x, y, z, e4, rest⟩ := hb29
                    exact ⟨x, y, z, by rw [upd_ne Db2.symm]; exact e4, by rw [hlen2, ← Nat.add_assoc]; exact rest⟩
                  · have hr0' : ¬ V.int rr = V.int 0 := fun z => hr0 (V.int.inj z)
                    walk_at "go"
                    exact kn _ ho29 ⟨Db2, DT2, ⟨os, rfl, hos.trans (List.sublist_append_left _ _)⟩, fr27.trans fr29, by rw [hlen2, ← Nat.add_assoc]; exact hb29⟩
                · obtain ⟨Db2, DT2, ⟨os, rfl, hos⟩, fr27, hb27⟩ := hI
                  have hosl := hos.length_le
                  walk_at "go"
                  refine ⟨D2, os, rfl, SqL.of ho, by omega, fun sm sp hpm2 hpw hsp => ?_⟩
                  have sS : Same H27 (upd H27 sp (.lst (sm.map V.int))) := Same.upd hsp
                  have hS28 : upd H27 sp (.lst (sm.map V.int)) sp = some (.lst (sm.map V.int)) := upd_same
                  generalize upd H27 sp (.lst (sm.map V.int)) = H28 at *
                  have fr28 := fr27.trans (fr_same sS)
                  have hb28 := hb27.same sS
                  have hT28 := sS.get (fr27.get (by simp; exact TIb) hT26)
                  have ZLb26 : ZL ≠ b := ZLb
                  have hZ28 := sS.get (fr27.get (by simp; exact ZLb) hZ26)
                  have s28 := Same.refl H28
                  walk_at "go"
                  refine lcg_list (K := K) (pair_ints ts) hT28 s28 (by omega) (fun i => if ¬ i ∈ sm then some i else none) IR (fun _ _ _ h => h) (fun pre2 d post2 x H29 e2 s29 s29' r Ky Kn ky kn => ?_) (fun D3 H29 d31 d32 s29 s29' l29 => ?_)
                  · subst r
                    have hS29 := s29.get hS28
                    walk_at "go"
                    refine i_ninL (SqL.of hS29) rfl (flat_ints _) ?_
                    rw [inV_int]
                    by_cases hin : d ∈ sm
                    · rw [decide_eq_true hin]
                      walk_at "go"
                      exact kn _ (if_neg (fun z => z hin)) (Same.refl _)
                    · rw [decide_eq_false hin]
                      walk_at "go"
                      exact ky _ _ _ (if_pos hin) (Same.refl _) rfl
                  · obtain ⟨v29, hD29, p29⟩ := l29
                    rw [IR.list p29] at hD29
                    have hfil : ts.filterMap (fun i => if ¬ i ∈ sm then some i else none) = ts.filter (fun i => !decide (i ∈ sm)) := by
                      rw [← fm_filter]
                      congr 1
                      funext i
                      by_cases hi : i ∈ sm <;> simp [hi]
                    rw [hfil] at hD29
                    have hS29 := s29.get hS28
                    have hZ29 := s29.get hZ28
                    have D3b := nbx hb28 d31
                    have D3Z : D3 ≠ ZL := fun z => by rw [z, hZ28] at d31; cases d31
                    have fr29 := fr28.trans (fr_same s29)
                    have hb29 := (hb28.same s29).mono (n := m + 290 + 30 * (pre.length + 1)) (by omega)
                    have tk29 : Tk H26 H29 := (tkb hb26 fr27).trans (sS.ts.trans s29.ts)
                    have hsml : (sm.map V.int).length = sm.length := List.length_map _
                    have hosm := hpm2.length_eq
                    have hsub : ∀ a ∈ sm, a ∈ ts := fun a ha => hos.mem (hpm2.mem_iff.mp ha)
                    obtain ⟨hzd1, hzd2, hzd3⟩ := List.nodup_append.mp hzd
                    have hsnd : sm.Nodup := hpm2.nodup_iff.mpr (hos.nodup hzd2)
                    have htl2 : (ts.filter fun i => !decide (i ∈ sm)).length ≤ 30 := Nat.le_trans (List.length_filter_le _ _) hts
                    have hmem2 : ∀ a ∈ ts.filter (fun i => !decide (i ∈ sm)), a ∈ ts ∧ ¬ a ∈ sm := fun a ha => by
                      rw [List.mem_filter] at ha
                      exact ⟨ha.1, by simpa using ha.2⟩
                    have hvz := Paired.length pz
                    rw [hlen]
                    have s29r := Same.refl H29
                    by_cases hb0 : (0 : Int) < ((sm.map V.int).length : Int)
                    · have hs1 : 1 ≤ sm.length := by omega
                      walk_at "go"
                      refine ⟨sp, _, rfl, .inl ⟨SqL.of hS29, fun tp htp => ?_⟩⟩
                      have s30 : Same H29 (upd H29 tp (.tup (sm.map V.int))) := Same.upd htp
                      have e30 : upd H29 tp (.tup (sm.map V.int)) tp = some (.tup (sm.map V.int)) := upd_same
                      generalize upd H29 tp (.tup (sm.map V.int)) = H30 at *
                      walk_at "go"
                      rename_i zp H31 z11 z12 st31 s31 e31
                      have hZ31 := s31.get hZ29
                      have hvz2 : vz.length ≤ 1000 := by omega
                      walk_at "go"
                      have tU : Tk H31 (upd H31 ZL (.lst (vz ++ [.ref zp]))) := Tk.upd hZ31 nt_l
                      refine ⟨D3, _, zs ++ [(nm, sm)], ⟨_, _, _, _, _, _, _, _, _, _, _, _, _, _, rfl⟩, ?_, ?_, ?_, D3b, D3Z, ⟨_, upd_same, Paired.app (Paired.mapP pz (ZoR.ts (tk29.trans (s31.ts.trans tU)))) (Paired.one ⟨zp, tp, rfl, tU _ _ e31, tU _ _ (st31.get e30)⟩)⟩, htl2, ?_, fun a ha => htt a (hmem2 a ha).1, fun z hz a ha => ?_, fun z hz => ?_, ?_, by rw [List.length_append, List.length_singleton]; omega⟩
                      · exact ((fr26.trans (fr29.mono (by simp))).trans (fr_same s31)).trans (Fr.upd (by simp))
                      · obtain ⟨x, y, z, e4, rest⟩ := hb29
                        exact ⟨x, y, z, by rw [upd_ne ZLb.symm]; exact s31.get e4, rest⟩
                      · rw [upd_ne D3Z]; exact s31.get hD29
                      · rw [List.flatMap_append, List.flatMap_cons, List.flatMap_nil, List.append_nil, List.nodup_append, List.nodup_append]
                        refine ⟨⟨hzd1, hsnd, fun a ha c hc => hzd3 a ha c (hsub c hc)⟩, hzd2.sublist List.filter_sublist, fun a ha c hc => ?_⟩
                        have hc2 := hmem2 c hc
                        rcases List.mem_append.mp ha with ha | ha
                        · exact hzd3 a ha c hc2.1
                        · exact fun z => hc2.2 (z ▸ ha)
                      · rcases List.mem_append.mp hz with hz | hz
                        · exact hzt z hz a ha
                        · rw [List.mem_singleton] at hz; rw [hz] at ha; exact htt a (hsub a ha)
                      · rcases List.mem_append.mp hz with hz | hz
                        · exact hzg z hz
                        · rw [List.mem_singleton] at hz; rw [hz]
                          exact ⟨hnm, hs1, by show sm.length ≤ 30; omega, fun n hn => htb n (htt n (hsub n hn)), rises_of hpw hsnd⟩
                      · rw [List.map_append]
                        exact hzs.append (List.Sublist.refl _)
                    · walk_at "go"
                      refine ⟨D3, _, zs, ⟨_, _, _, _, _, _, _, _, _, _, _, _, _, _, rfl⟩, fr26.trans (fr29.mono (by simp)), hb29, hD29, D3b, D3Z, ⟨vz, hZ29, Paired.mapP pz (ZoR.ts tk29)⟩, htl2, ?_, fun a ha => htt a (hmem2 a ha).1, hzt, hzg, hzs.trans (List.sublist_append_left _ _), by omega⟩
                      rw [List.nodup_append]
                      exact ⟨hzd1, hzd2.sublist List.filter_sublist, fun a ha c hc => hzd3 a ha c (hmem2 c hc).1⟩
              · obtain ⟨TI, ts, zs, ⟨_, _, _, _, _, _, _, _, _, _, _, _, _, _, rfl⟩, fr26, hb26, hT26, TIb, TIZ, ⟨vz, hZ26, pz⟩, hts, hzd, htt, hzt, hzg, hzs, hzl⟩ := hI
                have hb26 := hb26.mono (n := m + 600) (by omega)
                have hL26 := fr26.get (by simp; exact ⟨Lb, ZLL⟩) hL25
                have tk26 : Tk H25 H26 := fr26.ts fun a ha => by
                  simp only [List.mem_cons, List.not_mem_nil, or_false] at ha
                  rcases ha with rfl | rfl
                  · obtain ⟨xb, hxb⟩ := hb25.lst; exact ⟨_, hxb, nt_l⟩
                  · exact ⟨_, hZ25, nt_l⟩
                have pL26 := Paired.mapP pL25 (LoR.ts tk26)
                have fr26' := frdrop fr25' HZ fr26
                walk_at "go"
                refine ⟨b, 3, _, rfl, hb26, by omega, by decide, by decide, fun rz H27 rz0 rz1 fr27 hb27 => ?_⟩
                have tk27 := tkb hb26 fr27
                have hL27 := fr27.get (by simp; exact Lb) hL26
                have hZ27 := fr27.get (by simp; exact ZLb) hZ26
                have s27 := Same.refl H27
                walk_at "go"
                refine ⟨L, vL, rfl, .inl ⟨SqL.of hL27, fun tl htl => ?_⟩⟩
                have s28 : Same H27 (upd H27 tl (.tup vL)) := Same.upd htl
                have e28 : upd H27 tl (.tup vL) tl = some (.tup vL) := upd_same
                generalize upd H27 tl (.tup vL) = H28 at *
                walk_at "go"
                refine ⟨ZL, vz, rfl, .inl ⟨SqL.of (s28.get hZ27), fun tz htz => ?_⟩⟩
                have s29 : Same H27 (upd H28 tz (.tup vz)) := s28.trans (Same.upd htz)
                have e29 : upd H28 tz (.tup vz) tz = some (.tup vz) := upd_same
                have e29l : upd H28 tz (.tup vz) tl = some (.tup vL) := Same.upd htz _ _ e28
                generalize upd H28 tz (.tup vz) = H29 at *
                walk_at "go"
                rename_i pp H30 p1 p2 st30 s30 e30
                refine k (.ref pp) ⟨if mx + rz < 30 then mx + rz else 30, lps, zs⟩ H30 ((fr26'.trans fr27).trans (fr_same s30)) ((hb27.same s30).mono (by omega)) ⟨pp, .ref tl, .ref tz, rfl, e30, ⟨tl, vL, rfl, st30.get e29l, Paired.mapP pL26 (LoR.ts (tk27.trans s30.ts))⟩, ⟨tz, vz, rfl, st30.get e29, Paired.mapP pz (ZoR.ts (tk27.trans s30.ts))⟩⟩ ?_
                exact plan_good (by omega) hl3 hgl hpm hnn hnl hnel hmatt hmax rz0 (by omega) hzg (hzs.nodup hznd) hzt (List.nodup_append.mp hzd).1
      · by_cases h7 : 0 < r7
        · walk_at "go"
          refine ⟨b, D, m + 1 + 1 + 1, 11, nr, rfl, Db.symm, hb7, by omega, by decide, by decide, hD7, by omega, fun n hn => hnbd n (List.mem_cons_of_mem _ hn), fun fa lpF ns' H8 fr8 hb8 hD8 hns8 lr8 h1 h11 hg8 => ?_⟩
          walk_at "go"
          exact hN _ _ ⟨⟨fa, lpF, ns', ⟨_, _, _, _, _, _, _, _, _, _, _, _, _, _, _, _, rfl⟩, lr8, h11, hg8, hns8, hD8⟩, frdrop fr7' HD fr8, hb8.mono (by omega)⟩
        · walk_at "go"
          exact hN _ _ ⟨⟨t6, [], nr, ⟨_, _, _, _, _, _, _, _, _, _, _, _, _, _, _, _, rfl⟩, ⟨t6, [], rfl, e7, .nil⟩, by simp, by simp, rfl, hD7⟩, fr7', hb7.mono (by omega)⟩
end
end Wl

namespace Wl
open PySem L2
/-! ## the plain law: whatever the order, the same rest -/
theorem come_anti {h : Sp3 → Str} {S S' : Int × Int → Bool} {l : Int} {lp : List Place} {s : Int} (hs : ∀ q, S q = true → S' q = true) : ∀ (n : Nat) (a : Int) (x : Sp3), x ∈ (comeGo h S' l lp s n a).1 → x ∈ (comeGo h S l lp s n a).1
  | 0, _, _, hx => by rw [comeGo] at hx; cases hx
  | n + 1, a, x, hx => by
    rw [comeGo] at hx ⊢
    by_cases h1 : h (l, mn a s, 0) = "cut"
    · rw [if_pos h1] at hx ⊢; exact hx
    · rw [if_neg h1] at hx ⊢
      by_cases h2 : a + s < 1 ∨ (lp.length : Int) < a + s
      · rw [if_pos h2] at hx ⊢; exact hx
      · rw [if_neg h2] at hx ⊢
        rcases List.mem_cons.mp hx with e | hx
        · exact List.mem_cons.mpr (.inl e)
        · refine List.mem_cons.mpr (.inr ?_)
          rcases List.mem_append.mp hx with hx | hx
          · exact List.mem_append_left _ hx
          · refine List.mem_append_right _ ?_
            by_cases c1 : S' (l, a + s) = true
            · rw [if_pos c1] at hx; cases hx
            · have c2 : ¬ S (l, a + s) = true := fun z => c1 (hs _ z)
              rw [if_neg c1] at hx
              rw [if_neg c2]
              exact come_anti hs n (a + s) x hx
theorem short_iff {h : Sp3 → Str} {ps : List Sp3} : shortB h ps = true ↔ ∃ x ∈ ps, h x = "short" := by
  rw [shortB, List.any_eq_true]
  constructor
  · rintro ⟨x, hx, e⟩; exact ⟨x, hx, of_decide_eq_true e⟩
  · rintro ⟨x, hx, e⟩; exact ⟨x, hx, decide_eq_true e⟩
theorem feels_anti {P : Plan} {h : Sp3 → Str} {S S' : Int × Int → Bool} (hs : ∀ q, S q = true → S' q = true) {q : Int × Int} (hf : feelsQ P h S' q = true) : feelsQ P h S q = true := by
  rw [feelsQ, feelsB, List.any_eq_true] at hf ⊢
  obtain ⟨s, hm, hsh⟩ := hf
  rw [short_iff] at hsh
  obtain ⟨x, hx, e⟩ := hsh
  exact ⟨s, hm, short_iff.mpr ⟨x, come_anti hs _ _ _ hx, e⟩⟩
/-- felt with all openers parted -/
def DQ (P : Plan) (h : Sp3 → Str) (q : Int × Int) : Bool := feelsQ P h (memB (openers P)) q
theorem come_all {P : Plan} {h : Sp3 → Str} {S : Int × Int → Bool} {l : Nat} {lp : List Place} {s : Int} (hl : P.loops[l]? = some lp) (hD : ∀ q ∈ openers P, DQ P h q = true → S q = true) : ∀ (n : Nat) (a : Int), Way lp s a n → shortB h (comeGo h S l lp s n a).1 = true → shortB h (comeGo h (memB (openers P)) l lp s n a).1 = true
  | 0, _, _, hx => by rw [comeGo] at hx; cases hx
  | n + 1, a, wy, hx => by
    rw [short_iff] at hx ⊢
    obtain ⟨x, hx, e⟩ := hx
    rw [comeGo] at hx ⊢
    by_cases h1 : h ((l : Int), mn a s, 0) = "cut"
    · rw [if_pos h1] at hx; cases hx
    · rw [if_neg h1] at hx ⊢
      by_cases h2 : a + s < 1 ∨ (lp.length : Int) < a + s
      · rw [if_pos h2] at hx ⊢; exact ⟨x, hx, e⟩
      · rw [if_neg h2] at hx ⊢
        rcases List.mem_cons.mp hx with e1 | hx
        · exact ⟨x, List.mem_cons.mpr (.inl e1), e⟩
        · rcases List.mem_append.mp hx with hx | hx
          · exact ⟨x, List.mem_cons.mpr (.inr (List.mem_append_left _ hx)), e⟩
          · by_cases c1 : S ((l : Int), a + s) = true
            · rw [if_pos c1] at hx; cases hx
            · rw [if_neg c1] at hx
              have wn := wy.next h2
              have ih := come_all hl hD n (a + s) wn (short_iff.mpr ⟨x, hx, e⟩)
              by_cases c2 : memB (openers P) ((l : Int), a + s) = true
              · refine absurd (hD _ (of_decide_eq_true c2) ?_) c1
                rw [DQ, feelsQ, feelsB, List.any_eq_true]
                refine ⟨s, ?_, ?_⟩
                · show s ∈ stepsOf (loopAt P (l : Int)) (a + s)
                  rw [loopAt_eq hl, stepsOf, if_neg (by omega), if_neg (by omega)]
                  rcases wn with ⟨rfl, _⟩ | ⟨rfl, _⟩ <;> simp
                · show shortB h (come h (memB (openers P)) (l : Int) (loopAt P (l : Int)) s (a + s)).1 = true
                  rw [loopAt_eq hl, come, wn.fuel]
                  exact ih
              · obtain ⟨y, hy, e2⟩ := short_iff.mp ih
                refine ⟨y, List.mem_cons.mpr (.inr (List.mem_append_right _ ?_)), e2⟩
                rw [if_neg c2]
                exact hy
theorem feels_eq {P : Plan} {h : Sp3 → Str} {ps : List (Int × Int)} (hs : ∀ r ∈ ps, r ∈ openers P) (hD : ∀ q ∈ openers P, DQ P h q = true → q ∈ ps) {q : Int × Int} (hq : q ∈ openers P) : feelsQ P h (memB ps) q = DQ P h q := by
  have h1 : DQ P h q = true → feelsQ P h (memB ps) q = true := fun z => feels_anti (fun r hr => decide_eq_true (hs r (of_decide_eq_true hr))) z
  have h2 : feelsQ P h (memB ps) q = true → DQ P h q = true := fun z => by
    obtain ⟨l, lp, e1, hl, a0, a1⟩ := openers_mem hq
    rw [feelsQ, feelsB, List.any_eq_true] at z
    rw [DQ, feelsQ, feelsB, List.any_eq_true]
    obtain ⟨s, hm, hsh⟩ := z
    refine ⟨s, hm, ?_⟩
    rw [e1, loopAt_eq hl] at hm hsh ⊢
    exact come_all hl (fun r hr z => decide_eq_true (hD r hr z)) _ _ (steps_way a0 a1 hm) hsh
  cases e : DQ P h q with
  | true => exact h1 e
  | false =>
    cases e2 : feelsQ P h (memB ps) q with
    | false => rfl
    | true => rw [h2 e2] at e; cases e
theorem act_mem {P : Plan} {h : Sp3 → Str} {ps : List (Int × Int)} {q r : Int × Int} : r ∈ actP P h ps q ↔ if r = q then feelsQ P h (memB ps) q = true else r ∈ ps := by
  rw [actP]
  by_cases hc : feelsQ P h (memB ps) q = memB ps q
  · rw [if_pos hc]
    by_cases e : r = q
    · rw [if_pos e, hc, e, memB, decide_eq_true_eq]
    · rw [if_neg e]
  · rw [if_neg hc, chg_mem]
    by_cases e : r = q
    · rw [if_pos e, if_pos e]
      have hb : memB ps q = decide (q ∈ ps) := rfl
      rw [hb] at hc
      by_cases m : q ∈ ps
      · rw [decide_eq_true m] at hc
        exact ⟨fun z => absurd m z, fun z => absurd z hc⟩
      · rw [decide_eq_false m] at hc
        exact ⟨fun _ => by
          cases e2 : feelsQ P h (memB ps) q with
          | true => rfl
          | false => exact absurd e2 hc, fun _ => m⟩
    · rw [if_neg e, if_neg e]
/-- the first round: all that feel with all openers parted are parted behind it -/
theorem round1 {P : Plan} {h : Sp3 → Str} {q : Int × Int} (hd : DQ P h q = true) : ∀ (es ps : List (Int × Int)), (∀ r ∈ ps, r ∈ openers P) → (∀ r ∈ es, r ∈ openers P) → (q ∈ ps ∨ q ∈ es) → q ∈ es.foldl (actP P h) ps
  | [], ps, _, _, hq => hq.elim id (fun z => by cases z)
  | e :: es, ps, hs, he, hq => by
    refine round1 hd es (actP P h ps e) (actP_sub hs (he e (List.mem_cons_self ..))) (fun r hr => he r (List.mem_cons_of_mem _ hr)) ?_
    by_cases hqe : q = e
    · refine .inl (act_mem.mpr ?_)
      rw [if_pos hqe, ← hqe]
      exact feels_anti (fun r hr => decide_eq_true (hs r (of_decide_eq_true hr))) hd
    · rcases hq with hq | hq
      · refine .inl (act_mem.mpr ?_)
        rw [if_neg hqe]; exact hq
      · exact .inr ((List.mem_cons.mp hq).resolve_left hqe)
/-- the second: exactly these -/
theorem round2 {P : Plan} {h : Sp3 → Str} : ∀ (es ps : List (Int × Int)), (∀ r ∈ ps, r ∈ openers P) → (∀ r ∈ es, r ∈ openers P) → (∀ q ∈ openers P, DQ P h q = true → q ∈ ps) → ∀ r, r ∈ es.foldl (actP P h) ps ↔ if r ∈ es then DQ P h r = true else r ∈ ps
  | [], ps, _, _, _, r => by simp
  | e :: es, ps, hs, he, hD, r => by
    have heo := he e (List.mem_cons_self ..)
    have hfe := feels_eq hs hD heo
    have hD' : ∀ q ∈ openers P, DQ P h q = true → q ∈ actP P h ps e := fun q hq hd => by
      rw [act_mem]
      by_cases hqe : q = e
      · rw [if_pos hqe, hfe, ← hqe]; exact hd
      · rw [if_neg hqe]; exact hD q hq hd
    have ih := round2 es (actP P h ps e) (actP_sub hs heo) (fun r hr => he r (List.mem_cons_of_mem _ hr)) hD' r
    rw [List.foldl_cons, ih, act_mem, hfe]
    by_cases h1 : r ∈ es
    · rw [if_pos h1, if_pos (List.mem_cons_of_mem _ h1)]
    · rw [if_neg h1]
      by_cases h2 : r = e
      · rw [if_pos h2, if_pos (by rw [h2]; exact List.mem_cons_self ..), h2]
      · rw [if_neg h2, if_neg (fun z => (List.mem_cons.mp z).elim h2 h1)]
theorem row_mem {P : Plan} {h : Sp3 → Str} {r : Int × Int} : ∀ (qs ps : List (Int × Int)), r ∈ qs.foldl (rowP P h) ps ↔ r ∈ ps ∨ (r ∈ qs ∧ DQ P h r = true)
  | [], ps => by simp
  | q :: qs, ps => by
    rw [List.foldl_cons, row_mem qs]
    have h1 : r ∈ rowP P h ps q ↔ r ∈ ps ∨ (r = q ∧ DQ P h r = true) := by
      rw [rowP]
      by_cases hc : ¬ q ∈ ps ∧ feelsQ P h (memB (openers P)) q = true
      · rw [if_pos hc, chg_mem]
        by_cases e : r = q
        · rw [if_pos e, e]
          exact ⟨fun _ => .inr ⟨rfl, hc.2⟩, fun _ => hc.1⟩
        · rw [if_neg e]
          exact ⟨.inl, fun z => z.elim id fun z => absurd z.1 e⟩
      · rw [if_neg hc]
        refine ⟨.inl, fun z => z.elim id fun z => ?_⟩
        rw [z.1]
        refine Decidable.byContradiction fun m => hc ⟨m, ?_⟩
        have := z.2
        rw [z.1] at this
        exact this
    rw [h1, List.mem_cons]
    constructor
    · rintro ((a | ⟨a, b⟩) | ⟨a, b⟩)
      · exact .inl a
      · exact .inr ⟨.inl a, b⟩
      · exact .inr ⟨.inr a, b⟩
    · rintro (a | ⟨a | a, b⟩)
      · exact .inl (.inl a)
      · exact .inl (.inr ⟨a, b⟩)
      · exact .inr ⟨a, b⟩
/-- two rounds, any orders -/
theorem rest_two {P : Plan} {h : Sp3 → Str} {ps e1 e2 : List (Int × Int)} (hs : ∀ r ∈ ps, r ∈ openers P) (h1 : e1.Perm (openers P)) (h2 : e2.Perm (openers P)) (r : Int × Int) : r ∈ e2.foldl (actP P h) (e1.foldl (actP P h) ps) ↔ r ∈ openers P ∧ DQ P h r = true := by
  have s1 : ∀ r ∈ e1, r ∈ openers P := fun r hr => h1.mem_iff.mp hr
  have s2 : ∀ r ∈ e2, r ∈ openers P := fun r hr => h2.mem_iff.mp hr
  have hs1 := foldl_sub (g := actP P h) (fun ps q => actP_sub) e1 ps hs s1
  have hD : ∀ q ∈ openers P, DQ P h q = true → q ∈ e1.foldl (actP P h) ps := fun q hq hd => round1 hd e1 ps hs s1 (.inr (h1.mem_iff.mpr hq))
  rw [round2 e2 _ hs1 s2 hD r]
  by_cases m : r ∈ openers P
  · rw [if_pos (h2.mem_iff.mpr m)]; exact ⟨fun z => ⟨m, z⟩, fun z => z.2⟩
  · rw [if_neg (fun z => m (h2.mem_iff.mp z))]; exact ⟨fun z => absurd (hs1 r z) m, fun z => absurd z.1 m⟩
/-- the row of acts -/
theorem rest_row {P : Plan} {h : Sp3 → Str} {ps ds : List (Int × Int)} (hs : ∀ r ∈ ps, r ∈ openers P) (hd : ds.Perm ((openers P).foldl (rowP P h) ps)) (r : Int × Int) : r ∈ ds.foldl (actP P h) ((openers P).foldl (rowP P h) ps) ↔ r ∈ openers P ∧ DQ P h r = true := by
  have hs1 := foldl_sub (g := rowP P h) (fun ps q => rowP_sub) (openers P) ps hs (fun r hr => hr)
  have hD : ∀ q ∈ openers P, DQ P h q = true → q ∈ (openers P).foldl (rowP P h) ps := fun q hq hd => (row_mem _ _).mpr (.inr ⟨hq, hd⟩)
  rw [round2 ds _ hs1 (fun r hr => hs1 r (hd.mem_iff.mp hr)) hD r]
  by_cases m : r ∈ ds
  · rw [if_pos m]; exact ⟨fun z => ⟨hs1 r (hd.mem_iff.mp m), z⟩, fun z => z.2⟩
  · rw [if_neg m]; exact ⟨fun z => absurd (hd.mem_iff.mpr z) m, fun z => absurd (hd.mem_iff.mpr (hD r z.1 z.2)) m⟩
theorem rest_rests {P : Plan} {h : Sp3 → Str} {ps : List (Int × Int)} (hm : ∀ r, r ∈ ps ↔ r ∈ openers P ∧ DQ P h r = true) : ∀ q ∈ openers P, feelsQ P h (memB ps) q = memB ps q := fun q hq => by
  rw [feels_eq (fun r hr => ((hm r).mp hr).1) (fun r hr hd => (hm r).mpr ⟨hr, hd⟩) hq, memB]
  by_cases m : q ∈ ps
  · rw [decide_eq_true m]; exact ((hm q).mp m).2
  · rw [decide_eq_false m]
    cases e : DQ P h q with
    | false => rfl
    | true => exact absurd ((hm q).mpr ⟨hq, e⟩) m
theorem count_one {α : Type} [DecidableEq α] {l m : List α} (hl : l.Nodup) (hm : m.Nodup) (h : ∀ a, a ∈ l ↔ a ∈ m) : l.Perm m := by
  refine List.perm_iff_count.mpr fun a => ?_
  rw [hl.count, hm.count]
  by_cases e : a ∈ l
  · rw [if_pos e, if_pos ((h a).mp e)]
  · rw [if_neg e, if_neg (fun z => e ((h a).mpr z))]
end Wl

namespace Wl
open PySem L2
theorem i_lock {t : TS} {D : Ends} {σ : L2.St} {H : Hp} (q : ∃ d u, H d = some u ∧ Mut (some u) ∧ ∀ od, t ⟨fun σ' H' => H' d = some (.frz od u) ∧ D.nx σ' (upd H' d u), fun v H' => H' d = some (.frz od u) ∧ D.rt v (upd H' d u), fun σ' H' => H' d = some (.frz od u) ∧ D.bk σ' (upd H' d u), fun σ' H' => H' d = some (.frz od u) ∧ D.ct σ' (upd H' d u)⟩ σ (upd H d (.frz od u))) : tLock t D σ H := q
theorem i_keys {td : TE} {σ : L2.St} {H : Hp} {R : It → Hp → Prop} (q : td σ H fun x H1 => ∃ d o, x = .ref d ∧ ((∃ kvs, H1 d = some (.frz o (.dK kvs)) ∧ R (Itk d o kvs) H1) ∨ ∃ kvs, H1 d = some (.frz o (.dT kvs)) ∧ R (Itkt d o kvs) H1)) : iKeys td σ H R := q
theorem i_par {i j : Nat} {ta : TA} {D : Ends} {σ : L2.St} {H : Hp} (q : ta σ H fun vs H1 => ∃ v w, vs = [v, w] ∧ D.nx ((σ.set i (some v)).set j (some w)) H1) : tPar i j ta D σ H := q
/-- what S names is either of Dyn or new since H0 -/
theorem fr_into {S Dyn : List Addr} {H0 H H' : Hp} (hS : ∀ a ∈ S, a ∈ Dyn ∨ H0 a = none) (f0 : Fr Dyn H0 H) (f : Fr S H H') : Fr Dyn H0 H' := fun a o n e => f a o (fun z => (hS a z).elim n fun z => by rw [z] at e; cases e) (f0 a o n e)
theorem n_t : (!true) = false := rfl
theorem n_f : (!false) = true := rfl
structure Nq (a b : Addr) : Prop where
  ne : a ≠ b
/-! ### the gates -/
def gatesOf (P : Plan) : List (Int × Int) := enumF (fun l lp => ([((l : Int), 0), ((l : Int), (lp.length : Int) + 1)] : List (Int × Int)) ++ enumF (fun a q => opnPl l a q) 0 lp) 0 P.loops
theorem enumF_perm {α β : Type} {f g : Nat → α → List β} (h : ∀ i x, (f i x).Perm (g i x)) : ∀ (xs : List α) (k : Nat), (enumF f k xs).Perm (enumF g k xs)
  | [], _ => .nil
  | x :: xs, k => (h k x).append (enumF_perm h xs (k + 1))
theorem gates_perm (P : Plan) : (gatesOf P).Perm (openers P) := enumF_perm (fun l lp => by
  show (((l : Int), 0) :: ((l : Int), (lp.length : Int) + 1) :: enumF (fun a q => opnPl l a q) 0 lp).Perm _
  exact List.Perm.cons _ (List.perm_append_singleton _ _).symm) _ _
theorem enumF_range2 {α β : Type} (f : Nat → α → List β) : ∀ (xs : List α) (k : Nat), enumF f k xs = (List.range' k xs.length).flatMap fun i => ((xs[i - k]?).map (f i)).getD []
  | [], k => rfl
  | x :: xs, k => by
    rw [enumF, List.length_cons, List.range'_succ, List.flatMap_cons, Nat.sub_self, enumF_range2 f xs (k + 1)]
    congr 1
    have : ∀ l : List Nat, (∀ i ∈ l, k + 1 ≤ i) → (l.flatMap fun i => ((xs[i - (k + 1)]?).map (f i)).getD []) = l.flatMap fun i => (((x :: xs)[i - k]?).map (f i)).getD [] := by
      intro l
      induction l with
      | nil => intro _; rfl
      | cons a l ih =>
        intro h
        rw [List.flatMap_cons, List.flatMap_cons, ih fun i hi => h i (List.mem_cons_of_mem _ hi)]
        congr 1
        have h1 := h a (List.mem_cons_self ..)
        rw [show a - k = (a - (k + 1)) + 1 by omega, List.getElem?_cons_succ]
    exact this _ fun i hi => (List.mem_range'_1.mp hi).1
theorem opn_range (l : Nat) (lp : List Place) : (List.range lp.length).filterMap (fun (i : Nat) => if (lp[i]?.map (·.kind)) = some ("opener" : Str) then some (((l : Int), (i : Int) + 1) : Int × Int) else none) = enumF (fun a q => opnPl l a q) 0 lp := by
  rw [enumF_range2, ← List.range_eq_range']
  have : ∀ is : List Nat, is.filterMap (fun (i : Nat) => if (lp[i]?.map (·.kind)) = some ("opener" : Str) then some (((l : Int), (i : Int) + 1) : Int × Int) else none) = is.flatMap fun i => ((lp[i - 0]?).map (fun q => opnPl l i q)).getD [] := by
    intro is
    induction is with
    | nil => rfl
    | cons i is ih =>
      rw [List.filterMap_cons, List.flatMap_cons, ih, Nat.sub_zero]
      cases lp[i]? with
      | none => simp
      | some q =>
        by_cases hk : q.kind = "opener"
        · simp [opnPl, hk]
        · simp [opnPl, hk]
  exact this _
/-! ### two houses -/
structure Two (K : PySem.W.Frag) (C : Addr) (H : Hp) (p : Addr) (ns : List Int) (v : V) (P : Plan) (G NL : Addr) (gs : List (Int × Int)) (x1 dx1 hw1 sw1 dw1 x2 dx2 hw2 sw2 dw2 : Addr) : Prop where
  script : SqL K H p (ns.map V.int)
  plan : PlanR H v P
  gates : LR T2 H G gs
  names : LR T3 H NL (stretches P)
  o1 : WObj C H x1 dx1 v hw1 sw1 dw1
  o2 : WObj C H x2 dx2 v hw2 sw2 dw2
  t1 : ThereF H dw1 P
  t2 : ThereF H dw2 P
structure Dyn2 (H : Hp) (h : Sp3 → Str) (n : Nat) (ps1 ps2 : List (Int × Int)) (hw1 sw1 hw2 sw2 : Addr) : Prop where
  h1 : HowsF H hw1 h n
  h2 : HowsF H hw2 h n
  s1 : StopsF H sw1 ps1
  s2 : StopsF H sw2 ps2
/-- no two alike -/
structure Apart (hw1 sw1 dw1 hw2 sw2 dw2 : Addr) : Prop where
  a : hw1 ≠ sw1
  b : hw1 ≠ hw2
  c : hw1 ≠ sw2
  d : sw1 ≠ hw2
  e : sw1 ≠ sw2
  f : hw2 ≠ sw2
  g : dw1 ≠ hw1
  h : dw1 ≠ sw1
  i : dw1 ≠ hw2
  j : dw1 ≠ sw2
  k : dw2 ≠ hw1
  l : dw2 ≠ sw1
  m : dw2 ≠ hw2
  n : dw2 ≠ sw2
theorem HowsF.dt {H : Hp} {a : Addr} {h : Sp3 → Str} {n : Nat} (e : HowsF H a h n) : ∃ k, H a = some (.dT k) := let ⟨k, e, _⟩ := e; ⟨k, e⟩
theorem HowsF.fr {S : List Addr} {H H' : Hp} {a : Addr} {h : Sp3 → Str} {n : Nat} (f : Fr S H H') (m : a ∉ S) (e : HowsF H a h n) : HowsF H' a h n := let ⟨k, e, z, l⟩ := e; ⟨k, f.get m e, z, l⟩
theorem HowsF.le {H : Hp} {a : Addr} {h : Sp3 → Str} {n n' : Nat} (l : n ≤ n') (e : HowsF H a h n) : HowsF H a h n' := let ⟨k, e, z, m⟩ := e; ⟨k, e, z, Nat.le_trans m l⟩
theorem StopsF.fr {S : List Addr} {H H' : Hp} {a : Addr} {ps : List (Int × Int)} (f : Fr S H H') (m : a ∉ S) (e : StopsF H a ps) : StopsF H' a ps := ⟨f.get m e.1, e.2⟩
section
variable {K : PySem.W.Frag} {C : Addr} {H H' : Hp} {p : Addr} {ns : List Int} {v : V} {P : Plan} {G NL : Addr} {gs : List (Int × Int)} {x1 dx1 hw1 sw1 dw1 x2 dx2 hw2 sw2 dw2 : Addr} {h : Sp3 → Str} {n : Nat} {ps1 ps2 : List (Int × Int)}
theorem Dyn2.dts (d : Dyn2 H h n ps1 ps2 hw1 sw1 hw2 sw2) : ∀ a ∈ [hw1, sw1, hw2, sw2], ∃ k, H a = some (.dT k) := fun a ha => by
  simp only [List.mem_cons, List.not_mem_nil, or_false] at ha
  rcases ha with rfl | rfl | rfl | rfl
  · exact d.h1.dt
  · exact ⟨_, d.s1.1⟩
  · exact d.h2.dt
  · exact ⟨_, d.s2.1⟩
theorem Dyn2.tk (d : Dyn2 H h n ps1 ps2 hw1 sw1 hw2 sw2) (f : Fr [hw1, sw1, hw2, sw2] H H') : Tk H H' := f.ts fun a ha => let ⟨k, e⟩ := d.dts a ha; ⟨_, e, nt_d⟩
theorem Dyn2.not (d : Dyn2 H h n ps1 ps2 hw1 sw1 hw2 sw2) {a : Addr} {o : HO} (e : H a = some o) (hn : ∀ k, o ≠ .dT k) : a ∉ [hw1, sw1, hw2, sw2] := fun z => by
  obtain ⟨k, e2⟩ := d.dts a z
  rw [e] at e2
  exact hn k (Option.some.inj e2)
theorem Two.fr (t : Two K C H p ns v P G NL gs x1 dx1 hw1 sw1 dw1 x2 dx2 hw2 sw2 dw2) (ap : Apart hw1 sw1 dw1 hw2 sw2 dw2) (d : Dyn2 H h n ps1 ps2 hw1 sw1 hw2 sw2) (f : Fr [hw1, sw1, hw2, sw2] H H') : Two K C H' p ns v P G NL gs x1 dx1 hw1 sw1 dw1 x2 dx2 hw2 sw2 dw2 := by
  have tk := d.tk f
  refine ⟨sqlF t.script fun o ho e => f.get (d.not e fun k z => by rcases ho with rfl | ⟨u, rfl⟩ <;> cases z) e, t.plan.ts tk, ?_, ?_, f.get (d.not t.o1 fun _ z => nomatch z) t.o1, f.get (d.not t.o2 fun _ z => nomatch z) t.o2, ?_, ?_⟩
  · obtain ⟨vs, e, r⟩ := t.gates
    exact ⟨vs, f.get (d.not e fun _ z => nomatch z) e, Paired.mapP r (T2.tsx tk)⟩
  · obtain ⟨vs, e, r⟩ := t.names
    exact ⟨vs, f.get (d.not e fun _ z => nomatch z) e, Paired.mapP r (T3.tsx tk)⟩
  · obtain ⟨k, e, z⟩ := t.t1
    exact ⟨k, f.get (by simp; exact ⟨ap.g, ap.h, ap.i, ap.j⟩) e, z⟩
  · obtain ⟨k, e, z⟩ := t.t2
    exact ⟨k, f.get (by simp; exact ⟨ap.k, ap.l, ap.m, ap.n⟩) e, z⟩
end
/-! ### what is heard at both ends -/
theorem two_str {pre post : List Str} {d : Str} {x : V} (e : (["A", "B"] : List Str) = pre ++ d :: post) (h : ([V.str "A", V.str "B"] : List V)[pre.length]? = some x) : x = .str d := by
  have h2 : (([("A" : Str), "B"] : List Str).map V.str)[pre.length]? = some x := h
  rw [e, List.getElem?_map, List.getElem?_append_right (Nat.le_refl _), Nat.sub_self] at h2
  exact (Option.some.inj h2).symm
/-- a list of lists of places, one for each end gone through -/
def HearI (F : Str → List Sp3) (H0 : Hp) (D : Addr) (pre : List Str) (outs : List V) (H : Hp) : Prop := Same H0 H ∧ Paired (fun v e => ∃ (a : Addr) (ds : List Sp3), v = .ref a ∧ a ≠ D ∧ LR T3 H a ds ∧ Srt3 ds (F e)) outs pre
theorem HearI.nil {F : Str → List Sp3} {H0 : Hp} {D : Addr} (h : H0 D = none) : HearI F H0 D [] [] (upd H0 D (.lst [])) := ⟨Same.upd h, .nil⟩
theorem HearI.put {F : Str → List Sp3} {H0 H H' : Hp} {D q : Addr} {pre : List Str} {outs : List V} {d : Str} {ds : List Sp3} (hI : HearI F H0 D pre outs H) (ho : H D = some (.lst outs)) (s : Same H H') (q0 : H q = none) (lr : LR T3 H' q ds) (srt : Srt3 ds (F d)) (hD : H0 D = none) : HearI F H0 D (pre ++ [d]) (outs ++ [.ref q]) (upd H' D (.lst (outs ++ [.ref q]))) := by
  have hD' := s _ _ ho
  have t : Tk H' (upd H' D (.lst (outs ++ [.ref q]))) := Tk.upd hD' nt_l
  refine ⟨(hI.1.trans s).mut hD, Paired.app (Paired.mapP hI.2 fun v e ⟨a, ds, ea, ne, ⟨vs, h1, h2⟩, h3⟩ => ⟨a, ds, ea, ne, ⟨vs, by rw [upd_ne ne]; exact s _ _ h1, Paired.mapP h2 (T3.tsx (s.ts.trans t))⟩, h3⟩) (Paired.one ?_)⟩
  obtain ⟨vs, h1, h2⟩ := lr
  have ne : q ≠ D := fun z => by rw [z, ho] at q0; cases q0
  exact ⟨q, ds, rfl, ne, ⟨vs, by rw [upd_ne ne]; exact h1, Paired.mapP h2 (T3.tsx t)⟩, srt⟩
theorem HearI.later {F : Str → List Sp3} {H0 H H' : Hp} {D : Addr} {pre : List Str} {outs : List V} (hI : HearI F H0 D pre outs H) (s : Same H H') (hD : H0 D = none) (ho : H D = some (.lst outs)) : HearI F H0 D pre outs H' :=
  ⟨hI.1.trans s, Paired.mapP hI.2 fun v e ⟨a, ds, ea, ne, lr, h3⟩ => ⟨a, ds, ea, ne, lr.same (T3.tsx s.ts) s, h3⟩⟩
theorem HearI.data {K : PySem.W.Frag} {F : Str → List Sp3} {H0 H : Hp} {D : Addr} {outs : List V} (hI : HearI F H0 D ["A", "B"] outs H) (ho : H D = some (.lst outs)) : ∃ dA dB : List Sp3, Dp K H (.ref D) (.list [.list (dA.map dp3), .list (dB.map dp3)]) ∧ Srt3 dA (F "A") ∧ Srt3 dB (F "B") := by
  obtain ⟨_, p⟩ := hI
  cases p with
  | cons f1 t1 =>
    cases t1 with
    | cons f2 t2 =>
      cases t2
      obtain ⟨a, dA, rfl, _, la, sa⟩ := f1
      obtain ⟨c, dB, rfl, _, lb, sb⟩ := f2
      exact ⟨dA, dB, .lst (SqL.of ho) (.cons la.dp3 (.cons lb.dp3 .nil)), sa, sb⟩
theorem lay_ll (a b : List Sp3) : (PyData.list [.list (a.map dp3), .list (b.map dp3)]).canLay0 = true ∧ (PyData.list [.list (a.map dp3), .list (b.map dp3)]).depth ≤ 3 := lay_list fun d hd => by
  simp only [List.mem_cons, List.not_mem_nil, or_false] at hd
  rcases hd with rfl | rfl
  · exact lay_l3 a
  · exact lay_l3 b
theorem eqv_ll (a b : List Sp3) : PyData.eqv (.list [.list (a.map dp3), .list (b.map dp3)]) (.list [.list (a.map dp3), .list (b.map dp3)]) = true := by
  rw [PyData.eqv]
  refine eqvAll_refl fun d hd => ?_
  simp only [List.mem_cons, List.not_mem_nil, or_false] at hd
  rcases hd with rfl | rfl
  · exact eqv_l3 a
  · exact eqv_l3 b
end Wl

namespace Wl
open PySem L2
/-! ### the step tactics -/
local macro_rules | `(tactic| walk_at "lk") => `(tactic| first
  | assumption
  | exact upd_same
  | (refine (?_ : ∀ H, SqT _ H _ _) _; assumption)
  | (apply Step.get; (focus assumption); walk_at "lk")
  | (apply upd_tupL; (focus walk_at "lk"); walk_at "lk")
  | (apply upd_tupT; (focus walk_at "lk"); walk_at "lk")
  | (apply upd_tupK; (focus walk_at "lk"); walk_at "lk")
  | (apply L2.Same.get; (focus assumption); assumption)
  | (apply L2.Same.get; rotate_left; (focus assumption); assumption)
  | (apply SqT.of; walk_at "lk")
  | (apply SqL.of; walk_at "lk"))
local macro_rules | `(tactic| walk_at "sm") => `(tactic| first
  | assumption
  | (apply L2.Same.mut; (focus walk_at "sm"); (focus assumption)))
local macro_rules | `(tactic| walk_at "cond") => `(tactic| first
  | rfl
  | assumption
  | (exact dt (by first | rfl | assumption | omega | (simp; done) | (simp; omega)))
  | (exact df (by first | assumption | omega | (simp; done) | (simp; omega)))
  | (exact ndt (by first | rfl | assumption | omega | (simp; done) | (simp; omega)))
  | (exact ndf (by first | assumption | omega | (simp; done) | (simp; omega)))
  | (simp; done))
local macro_rules | `(tactic| walk_at "cond1") => `(tactic| first
  | assumption
  | with_reducible rfl
  | with_reducible exact n_t
  | with_reducible exact n_f
  | with_reducible exact dt (by assumption)
  | with_reducible exact df (by assumption)
  | with_reducible exact ndt (by assumption)
  | with_reducible exact ndf (by assumption))
local macro_rules | `(tactic| walk_at "g1") => `(tactic| first
  | with_reducible refine i_seq ?_
  | with_reducible refine i_asg ?_
  | with_reducible refine i_name ?_
  | with_reducible refine i_ret ?_
  | with_reducible refine i_drop ?_
  | with_reducible refine i_if ?_
  | with_reducible refine i_next ?_
  | with_reducible refine i_break ?_
  | with_reducible refine i_c ?_
  | ((with_reducible apply i_var); (focus (rfl)))
  | with_reducible refine i_op ?_
  | with_reducible refine i_cons ?_
  | with_reducible refine i_nil ?_
  | with_reducible refine i_cb ?_
  | with_reducible refine i_call ?_
  | ((with_reducible apply i_ixT); (focus (walk_at "lk")); (focus (first | rfl | assumption)))
  | ((with_reducible apply i_ixL); (focus (walk_at "lk")); (focus (first | rfl | assumption)))
  | with_reducible refine i_I0 ?_
  | ((with_reducible apply i_eq); (focus (rfl)))
  | ((with_reducible apply i_ne); (focus (rfl)))
  | with_reducible refine i_un ?_
  | with_reducible refine i_neg ?_
  | with_reducible refine i_andV ?_
  | with_reducible refine i_orV ?_
  | with_reducible refine i_notV ?_
  | with_reducible refine i_chain ?_
  | with_reducible refine i_test ?_
  | with_reducible refine i_B ?_
  | with_reducible refine i_k ?_
  | with_reducible refine i_and ?_
  | with_reducible refine i_or ?_
  | with_reducible refine i_not ?_
  | with_reducible refine i_yes ?_
  | (with_reducible refine i_isiI kit_ii ?_)
  | (with_reducible refine i_isiI kit_ib ?_)
  | (with_reducible refine i_isiS kit_ss ?_)
  | ((with_reducible apply i_isiT); (focus (walk_at "lk")); (focus (exact kit_tt)))
  | ((with_reducible apply i_len); (focus (first | (apply Or.inr; walk_at "lk") | (apply Or.inl; walk_at "lk"))))
  | ((with_reducible apply i_lens); (focus (walk_at "sz")))
  | (with_reducible refine i_sign ?_)
  | ((with_reducible apply i_inT); (focus (walk_at "lk")); (focus (rfl)); (focus (rfl)))
  | ((with_reducible apply i_inL); (focus (walk_at "lk")); (focus (rfl)); (focus (rfl)))
  | ((with_reducible apply i_ninL); (focus (walk_at "lk")); (focus (rfl)); (focus (rfl)))
  | ((with_reducible apply i_all); (focus (walk_at "lk")))
  | ((with_reducible apply i_any); (focus (walk_at "lk")))
  | ((with_reducible apply ift); (focus (walk_at "cond1")))
  | ((with_reducible apply iff_); (focus (walk_at "cond1")))
  | ((with_reducible apply ift); (focus (rfl)))
  | ((with_reducible apply iff_); (focus (rfl)))
  | ((with_reducible apply ift); (focus (walk_at "cond")))
  | ((with_reducible apply iff_); (focus (walk_at "cond")))
  | with_reducible refine i_tup ?_
  | (with_reducible refine i_new2 (by walk_at "sm") ?_; intro _ _ _ _ _ _ _)
  | with_reducible refine i_dnK ?_
  | with_reducible refine i_dnT ?_
  | with_reducible refine i_lc ?_
  | with_reducible refine i_for ?_
  | with_reducible refine i_iTup ?_
  | with_reducible refine i_iList ?_
  | ((with_reducible apply i_tupW); (focus (walk_at "lk")))
  | ((with_reducible apply i_listW); (focus (walk_at "lk")))
  | with_reducible refine i_iRng1 ?_
  | ((with_reducible apply i_rng1); (focus (walk_at "bnd")))
  | with_reducible refine i_iRng2 ?_
  | ((with_reducible apply i_rng2); (focus (walk_at "bnd")))
  | with_reducible refine i_iStr ?_
  | with_reducible refine i_iEnT ?_
  | with_reducible refine i_iEnum ?_
  | ((with_reducible apply i_enTW); (focus (walk_at "lk")))
  | ((with_reducible apply i_enLW); (focus (walk_at "lk")))
  | with_reducible refine i_strW ?_
  | with_reducible refine i_lst ?_
  | with_reducible refine i_bm ?_
  | with_reducible refine i_fld ?_
  | with_reducible refine i_dget2 ?_
  | with_reducible refine i_dget ?_
  | with_reducible refine i_din ?_
  | with_reducible refine i_dnotin ?_
  | with_reducible refine i_dputT ?_
  | with_reducible refine i_isN ?_
  | with_reducible refine i_notN ?_
  | ((with_reducible apply i_gtup); (focus (walk_at "lk")); (focus (rfl)))
  | with_reducible refine i_gcons ?_
  | with_reducible refine i_gnil ?_
  | with_reducible refine i_sl ?_
  | with_reducible refine i_nopart ?_
  | with_reducible refine i_part ?_
  | ((with_reducible apply i_app); (focus (walk_at "lk")); (focus (walk_at "sz")))
  | with_reducible refine i_2i ?_
  | with_reducible refine i_par ?_
  | with_reducible refine i_m1 ?_
  | with_reducible refine i_ex1 ?_
  | with_reducible refine i_isS ?_
  | ((with_reducible apply i_slS); (focus (walk_at "sz")))
  | with_reducible refine i_add_str ?_
  | with_reducible refine i_abs ?_
  | with_reducible refine i_gsub ?_
  | ((with_reducible apply i_setL); (focus (walk_at "lk")); (focus (rfl)))
  | ((with_reducible apply i_I); (focus (walk_at "arith")))
  | ((with_reducible apply i_fldw); (focus (walk_at "lk")); (focus assumption); (focus assumption); (focus (with_reducible first | exact lk_plan | exact lk_hows | exact lk_stops | exact lk_dev)))
  | with_reducible refine i_meth ?_
  | ((with_reducible apply i_methW); (focus (walk_at "lk")); (focus (with_reducible first | exact nm_need | exact nm_change | exact nm_parted | exact nm_act | exact nm_cut | exact nm_short | exact nm_mend | exact nm_rests | exact nm_come | exact nm_heard)))
  | ((with_reducible apply i_isD); (focus (walk_at "lk")))
  | ((with_reducible apply i_ext); (focus (walk_at "lk")); (focus (walk_at "lk")); (focus (walk_at "sz")))
  | ((with_reducible apply And.intro); (focus (first | (show wipe _ _ = wipe _ _; rfl) | (walk_at "sz")))))
local macro_rules | `(tactic| walk_at "arith") => `(tactic| first
  | assumption
  | (refine Or.inl ?_; (constructor <;> omega))
  | (refine Or.inr ?_; (constructor <;> omega))
  | (show (0 : Int) < _; omega)
  | (show 0 < _ ∧ _ < _; (constructor <;> omega))
  | (show CPow 10 18; exact ⟨by decide, by decide, by decide⟩))
local macro_rules | `(tactic| walk_at "bnd") => `(tactic| first
  | omega
  | (refine ⟨?_, ?_⟩ <;> omega))
local macro_rules | `(tactic| walk_at "sz") => `(tactic| first
  | (apply ty_l; walk_at "lk")
  | (apply ty_d; walk_at "lk")
  | (exact szle (by omega))
  | (exact szl (by omega))
  | (exact szle (by simp only [List.length_append, List.length_cons, List.length_nil, List.length_map]; omega))
  | (exact szl (by simp only [List.length_append, List.length_cons, List.length_nil, List.length_map]; omega))
  | (exact Nat.le_of_ble_eq_true rfl))
local macro_rules | `(tactic| walk_at "go") => `(tactic| repeat (first | walk_at "g1" | dsimp only))
section
variable {P : Program} {w : World} {K : PySem.W.Frag} {mg : Str → Option Value} {f : Nat → Addr} {fd : Nat → FuncData} {C aK aT : Addr} {base : Heap}
def sp_law (K : PySem.W.Frag) : Sp := fun vs H Q _ => ∃ (p : Addr) (ns : List Int), vs = [.ref p] ∧ SqL K H p (ns.map V.int) ∧ ns.length ≤ 1000 ∧ ∀ H', Q (.bl true) H'
theorem ok_law (T : Txt K mg f fd C aK aT) : FnOk P w K mg base CX0 9 (f 47) (fd 47) ["_law_script"] (sp_law K) := by
  refine T.F_law.ok sc_law (fun vs H Q E h => ?_) (fun cdv A outer s H vs Q E hr h => ?_)
  · obtain ⟨p, ns, rfl, _⟩ := h; rfl
  · obtain ⟨p, ns, rfl, hp, hns, k⟩ := h
    refine ⟨_, (pss_cons (ps_set (i := 1) sc_law.nd rfl (Or.inl rfl) (pe_call (ok_law_bag T) (hr.mono (by decide)) (by rfl) T.m_law_bag T.F_law_bag.kp T.b_law_bag .nil pass0 (pa_cons (pv 0) (pa_cons pe_int pa_nil))))
      (pss_cons (ps_set (i := 2) sc_law.nd rfl (Or.inl rfl) (pe_call (ok_law_plan T) (hr.mono (by decide)) (by rfl) T.m_law_plan T.F_law_plan.kp T.b_law_plan .nil pass0 (pa_cons (pv 1) (pa_cons pe_int (pa_cons pe_int pa_nil)))))
      (pss_cons (ps_asg (pe_tup (pa_cons (pe_make T.k_Winit (ok_Winit T) (hr.mono (by decide)) (by rfl) T.m_Wires T.b_Winit .nil pass0 (pa_cons (pv 2) pa_nil)) (pa_cons (pe_make T.k_Winit (ok_Winit T) (hr.mono (by decide)) (by rfl) T.m_Wires T.b_Winit .nil pass0 (pa_cons (pv 2) pa_nil)) pa_nil))) (pg_tupK (K := K) (n := 2) rfl rfl (pgs_cons (pg_name (i := 3) sc_law.nd rfl (Or.inr rfl)) (pgs_cons (pg_name (i := 4) sc_law.nd rfl (Or.inr rfl)) pgs_nil))))
      (pss_cons (ps_set (i := 5) sc_law.nd rfl (Or.inl rfl) (pe_lst pa_nil))
      (pss_cons (ps_for PassesOwn.never rfl (pi_range1 (by rfl) T.n_range (pa_cons (pe_callB (call_lenK (K := K) rfl) (by rfl) T.n_len PySem.boot_len (pa_cons (pe_ix (ix_tupK (K := K) rfl) (pv 2) pe_int (fun _ _ => rfl)) pa_nil)) pa_nil)) (pg_name (i := 6) sc_law.nd rfl (Or.inr rfl)) (pss_cons (ps_set (i := 7) sc_law.nd rfl (Or.inr rfl) (pe_ix (ix_tupK (K := K) rfl) (pe_ix (ix_tupK (K := K) rfl) (pv 2) pe_int (fun _ _ => rfl)) (pv 6) (fun _ _ => rfl)))
      (pss_cons (ps_expr (pe_bmK (K := K) rfl PySem.F.plainAttrs_list PySem.F.slot_list_extend PySem.F.type_list_extend mt_extend (pv 5) (pa_cons (pe_lst (pa_cons (pe_tup (pa_cons (pv 6) (pa_cons pe_int pa_nil))) (pa_cons (pe_tup (pa_cons (pv 6) (pa_cons (pe_op op_add (pe_callB (call_lenK (K := K) rfl) (by rfl) T.n_len PySem.boot_len (pa_cons (pv 7) pa_nil)) pe_int) pa_nil))) pa_nil))) pa_nil)))
      (pss_one (ps_expr (pe_bmK (K := K) rfl PySem.F.plainAttrs_list PySem.F.slot_list_extend PySem.F.type_list_extend mt_extend (pv 5) (pa_cons (pe_lc (own := [("_law_at", 8)]) rfl sc_law.nd  (pi_range1 (by rfl) T.n_range (pa_cons (pe_callB (call_lenK (K := K) rfl) (by rfl) T.n_len PySem.boot_len (pa_cons (pv 7) pa_nil)) pa_nil)) (blkOk_by (N := ["_law_script", "_law_bag_here", "_law_plan_here", "_law_one", "_law_other", "_law_gates", "_law_loop_here", "_law_places", "_law_at", "_law_wire_names", "_law_k", "_law_again", "_law_hows", "_law_stretch", "_law_gate", "_law_end"]) (sc := defScope s_law) (by decide +kernel)) (fun _ _ _ _ _ => (pg_name (i := 8) sc_law.nd rfl (Or.inl rfl))) (fun _ _ _ _ _ => pts_one (pt_cmpR op_eq (pe_ix (ix_tupK (K := K) rfl) (pe_ix (ix_tupK (K := K) rfl) (pv 7) (pv 8) (fun _ _ => rfl)) pe_int (fun _ _ => rfl)) pe_str (nomark _))) (fun _ _ _ _ _ => (pe_tup (pa_cons (pv 6) (pa_cons (pe_op op_add (pv 8) pe_int) pa_nil))))) pa_nil)))))))
      (pss_cons (ps_set (i := 9) sc_law.nd rfl (Or.inl rfl) (pe_call (ok_law_stretches T) (hr.mono (by decide)) (by rfl) T.m_law_stretches T.F_law_stretches.kp T.b_law_stretches .nil pass0 (pa_cons (pv 2) pa_nil)))
      (pss_cons (ps_for PassesOwn.never rfl (pi_range1 (by rfl) T.n_range (pa_cons (pe_callB (call_max2 rfl) (by rfl) T.n_max (by decide +kernel) (pa_cons pe_int (pa_cons (pe_callB (call_min2 rfl) (by rfl) T.n_min (by decide +kernel) (pa_cons pe_int (pa_cons (pe_callB (call_lenK (K := K) rfl) (by rfl) T.n_len PySem.boot_len (pa_cons (pv 0) pa_nil)) pa_nil))) pa_nil))) pa_nil)) (pg_name (i := 10) sc_law.nd rfl (Or.inl rfl)) (pss_cons (ps_set (i := 1) sc_law.nd rfl (Or.inl rfl) (pe_call (ok_law_bag T) (hr.mono (by decide)) (by rfl) T.m_law_bag T.F_law_bag.kp T.b_law_bag .nil pass0 (pa_cons (pv 0) (pa_cons (pv 10) pa_nil))))
      (pss_cons (ps_for PassesOwn.never rfl (pi_range1 (by rfl) T.n_range (pa_cons (pe_op op_add pe_int (pe_call (ok_law_take T) (hr.mono (by decide)) (by rfl) T.m_law_take T.F_law_take.kp T.b_law_take .nil pass0 (pa_cons (pv 1) (pa_cons pe_int pa_nil)))) pa_nil)) (pg_name (i := 11) sc_law.nd rfl (Or.inl rfl)) (pss_cons (ps_set (i := 12) sc_law.nd rfl (Or.inl rfl) pe_dnewT)
      (pss_cons (ps_expr (pe_call (ok_law_befall T) (hr.mono (by decide)) (by rfl) T.m_law_befall T.F_law_befall.kp T.b_law_befall .nil pass0 (pa_cons (pv 1) (pa_cons (pv 3) (pa_cons (pv 12) (pa_cons (pv 9) pa_nil))))))
      (pss_one (ps_lock (ps_for PassesOwn.never rfl (pi_keys (pv 12)) (pg_name (i := 13) sc_law.nd rfl (Or.inl rfl)) (pss_one (ps_if (pt_cmpR op_eq (pe_dget (hu_of hr) (pv 12) (pv 13) (fun _ _ => rfl)) pe_str (nomark _)) (pss_one (ps_expr (pe_meth (pv 4) T.cl T.e_Wcut (ok_Wcut T) (hr.mono (by decide)) T.b_Wcut .nil pass0 (pa_cons (pv 13) pa_nil))))
      (pss_one (ps_if (pt_cmpR op_eq (pe_dget (hu_of hr) (pv 12) (pv 13) (fun _ _ => rfl)) pe_str (nomark _)) (pss_one (ps_expr (pe_meth (pv 4) T.cl T.e_Wshort (ok_Wshort T) (hr.mono (by decide)) T.b_Wshort .nil pass0 (pa_cons (pv 13) pa_nil))))
      (pss_one (ps_expr (pe_meth (pv 4) T.cl T.e_Wmend (ok_Wmend T) (hr.mono (by decide)) T.b_Wmend .nil pass0 (pa_cons (pv 13) pa_nil))))))))))))))
      (pss_cons (ps_for PassesOwn.never rfl (pi_range1 (by rfl) T.n_range (pa_cons pe_int pa_nil)) (pg_name (i := 11) sc_law.nd rfl (Or.inl rfl)) (pss_one (ps_for PassesOwn.never rfl (pi_listK (K := K) rfl (pe_call (ok_law_order T) (hr.mono (by decide)) (by rfl) T.m_law_order T.F_law_order.kp T.b_law_order .nil pass0 (pa_cons (pv 1) (pa_cons (pv 5) pa_nil)))) (pg_name (i := 14) sc_law.nd rfl (Or.inl rfl)) (pss_one (ps_expr (pe_meth (pv 3) T.cl T.e_Wact (ok_Wact T) (hr.mono (by decide)) T.b_Wact .nil pass0 (pa_cons (pv 14) pa_nil)))))))
      (pss_cons (ps_expr (pe_meth0 (pv 4) T.cl T.e_Wcome_to_rest (ok_Wcome_to_rest T) (hr.mono (by decide)) T.b_Wcome_to_rest .nil pass0))
      (pss_cons (ps_if (PW.pt (pw_or (pt_not (pt_val (pe_meth0 (pv 3) T.cl T.e_Wrests (ok_Wrests T) (hr.mono (by decide)) T.b_Wrests .nil pass0))) (pw_or (pt_not (pt_val (pe_meth0 (pv 4) T.cl T.e_Wrests (ok_Wrests T) (hr.mono (by decide)) T.b_Wrests .nil pass0))) (pw_or1 (pt_cmpR (op_neDK (K := K) rfl (hu64 hr)) (pe_meth0 (pv 3) T.cl T.e_Wparted (ok_Wparted T) (hr.mono (by decide)) T.b_Wparted .nil pass0) (pe_meth0 (pv 4) T.cl T.e_Wparted (ok_Wparted T) (hr.mono (by decide)) T.b_Wparted .nil pass0) (nomark _)))))) (pss_one ps_never)
      pss_nil)
      (pss_one (ps_for PassesOwn.never rfl (pi_range1 (by rfl) T.n_range (pa_cons (pe_callB (call_lenK (K := K) rfl) (by rfl) T.n_len PySem.boot_len (pa_cons (pe_ix (ix_tupK (K := K) rfl) (pv 2) pe_int (fun _ _ => rfl)) pa_nil)) pa_nil)) (pg_name (i := 6) sc_law.nd rfl (Or.inr rfl)) (pss_one (ps_if (pt_cmpR (op_neDK (K := K) rfl (hu64 hr)) (pe_lc (own := [("_law_end", 15)]) rfl sc_law.nd  (pi_tupK (K := K) rfl (pe_tup (pa_cons pe_str (pa_cons pe_str pa_nil)))) (blkOk_by (N := ["_law_script", "_law_bag_here", "_law_plan_here", "_law_one", "_law_other", "_law_gates", "_law_loop_here", "_law_places", "_law_at", "_law_wire_names", "_law_k", "_law_again", "_law_hows", "_law_stretch", "_law_gate", "_law_end"]) (sc := defScope s_law) (by decide +kernel)) (fun _ _ _ _ _ => (pg_name (i := 15) sc_law.nd rfl (Or.inl rfl))) (fun _ _ _ _ _ => pts_nil) (fun _ _ _ _ _ => (pe_meth (pv 3) T.cl T.e_Wheard (ok_Wheard T) (hr.mono (by decide)) T.b_Wheard .nil pass0 (pa_cons (pv 6) (pa_cons (pv 15) pa_nil))))) (pe_lc (own := [("_law_end", 15)]) rfl sc_law.nd  (pi_tupK (K := K) rfl (pe_tup (pa_cons pe_str (pa_cons pe_str pa_nil)))) (blkOk_by (N := ["_law_script", "_law_bag_here", "_law_plan_here", "_law_one", "_law_other", "_law_gates", "_law_loop_here", "_law_places", "_law_at", "_law_wire_names", "_law_k", "_law_again", "_law_hows", "_law_stretch", "_law_gate", "_law_end"]) (sc := defScope s_law) (by decide +kernel)) (fun _ _ _ _ _ => (pg_name (i := 15) sc_law.nd rfl (Or.inl rfl))) (fun _ _ _ _ _ => pts_nil) (fun _ _ _ _ _ => (pe_meth (pv 4) T.cl T.e_Wheard (ok_Wheard T) (hr.mono (by decide)) T.b_Wheard .nil pass0 (pa_cons (pv 6) (pa_cons (pv 15) pa_nil))))) (nomark _)) (pss_one ps_never)
      pss_nil))))))))))
      (pss_one (ps_ret pe_bl))))))))), ?_⟩
    have s0 := Same.refl H
    walk_at "go"
    refine ⟨p, ns, 0, rfl, hp, by decide, by decide, fun b0 H1 b01 s1 hb1 => ?_⟩
    have hp1 := sqlS s1 hp
    walk_at "go"
    refine ⟨b0, 0, rfl, hb1, by decide, fun v P H2 f2 hb2 hP2 hg => ?_⟩
    have hp2 : SqL K H2 p (ns.map V.int) := sqlF hp fun o _ e => f2 p o (by simp; exact ne_of_none e b01) (s1 p o e)
    walk_at "go"
    refine i_make ?_
    walk_at "go"
    intro x1 dx1 x10 dx10 dx1n
    have sx1 : Same H2 (upd (upd H2 dx1 (.own x1)) x1 (.ins C dx1 [])) := (Same.upd dx10).trans (Same.upd (by rw [upd_ne dx1n.symm]; exact x10))
    have ex1 : upd (upd H2 dx1 (.own x1)) x1 (.ins C dx1 []) x1 = some (.ins C dx1 []) := upd_same
    generalize upd (upd H2 dx1 (.own x1)) x1 (.ins C dx1 []) = H3 at *
    refine ⟨x1, dx1, v, P, rfl, ex1, hP2.ts sx1.ts, hg, fun H4 hw1 sw1 dw1 nhw1 nsw1 ndw1 fr4 wo1 eh1 es1 ahs1 ahd1 asd1 th1 => ⟨rfl, ?_⟩⟩
    have s4 : Same H2 H4 := fun a o e => fr4 a o (by simp; exact ne_of_none e x10) (sx1 a o e)
    walk_at "go"
    refine i_make ?_
    walk_at "go"
    intro x2 dx2 x20 dx20 dx2n
    have sx2 : Same H4 (upd (upd H4 dx2 (.own x2)) x2 (.ins C dx2 [])) := (Same.upd dx20).trans (Same.upd (by rw [upd_ne dx2n.symm]; exact x20))
    have ex2 : upd (upd H4 dx2 (.own x2)) x2 (.ins C dx2 []) x2 = some (.ins C dx2 []) := upd_same
    generalize upd (upd H4 dx2 (.own x2)) x2 (.ins C dx2 []) = H5 at *
    refine ⟨x2, dx2, v, P, rfl, ex2, (hP2.ts s4.ts).ts sx2.ts, hg, fun H6 hw2 sw2 dw2 nhw2 nsw2 ndw2 fr6 wo2 eh2 es2 ahs2 ahd2 asd2 th2 => ⟨rfl, ?_⟩⟩
    have s6 : Same H4 H6 := fun a o e => fr6 a o (by simp; exact ne_of_none e x20) (sx2 a o e)
    have ap : Apart hw1 sw1 dw1 hw2 sw2 dw2 := by
      obtain ⟨kd1, ed1, _⟩ := id th1
      have q1 := sx2 _ _ eh1
      have q2 := sx2 _ _ es1
      have q3 := sx2 _ _ ed1
      have n : ∀ {a c : Addr} {o : HO}, H5 a = some o → H5 c = none → a ≠ c := fun e n z => by rw [z, n] at e; cases e
      exact ⟨ahs1, n q1 nhw2, n q1 nsw2, n q2 nhw2, n q2 nsw2, ahs2, ahd1.symm, asd1.symm, n q3 nhw2, n q3 nsw2, (n q1 ndw2).symm, (n q2 ndw2).symm, ahd2.symm, asd2.symm⟩
    have s26 : Same H2 H6 := s4.trans s6
    have hgl := hg.loops
    have hgl3 := hgl.1
    have cl := T.cl
    have wo1 : WObj C H6 x1 dx1 v hw1 sw1 dw1 := s6 _ _ wo1
    have eh1 := s6 _ _ eh1
    have es1 := s6 _ _ es1
    have th1 := th1.same s6
    have hP6 := hP2.ts s26.ts
    have hp6 := sqlS s26 hp2
    obtain ⟨pp, ls, zs, rfl, hpp, ⟨la, xs, rfl, hla, pr⟩, hzz⟩ := id hP6
    have hxl := Paired.length pr
    have sH6 := Same.refl H6
    walk_at "go"
    rename_i G H7 g1 g2 st7 s7 hG
    rw [Int.toNat_natCast, hxl]
    have hgd : (enumF (fun l lp => ([((l : Int), 0), ((l : Int), (lp.length : Int) + 1)] : List (Int × Int)) ++ enumF (fun a q => opnPl l a q) 0 lp) 0 P.loops).length ≤ 42 := by
      have h1 := (gates_perm P).length_eq
      have h2 := openers_le hgl
      rw [← h1] at h2
      exact h2
    refine forg_rng (fun i σ H' => (∃ a6 a7 a8 a9 b0' b1 b2 b3 b4 b5 : Option V, σ = [some (.ref p), some (.ref b0), some (.ref pp), some (.ref x1), some (.ref x2), some (.ref G), a6, a7, a8, a9, b0', b1, b2, b3, b4, b5]) ∧ Same H6 H' ∧ LR T2 H' G (enumF (fun l lp => ([((l : Int), 0), ((l : Int), (lp.length : Int) + 1)] : List (Int × Int)) ++ enumF (fun a q => opnPl l a q) 0 lp) 0 (P.loops.take i))) ⟨⟨_, _, _, _, _, _, _, _, _, _, rfl⟩, s7, [], hG, .nil⟩ (fun i σ H8 hi hI => ?_) (fun σ H8 hI => ?_)
    · obtain ⟨⟨_, _, _, _, _, _, _, _, _, _, rfl⟩, s8, vG, hG8, pG⟩ := hI
      have e := split_at hi
      have hti : (P.loops.take i).length = i := by rw [List.length_take]; omega
      generalize hlp0 : P.loops[i] = lp at e
      have hlpq : P.loops[i]? = some lp := by rw [List.getElem?_eq_getElem hi, hlp0]
      obtain ⟨x, hx, lb, ys, rfl, hlb, pr2⟩ := Paired.get2 pr hlpq
      have hx2 : atI xs (0 + (i : Int)) = some (.ref lb) := ati i (by omega) hx
      have hyl := Paired.length pr2
      have hm := List.mem_of_getElem? hlpq
      have hlp := (hgl.2 lp hm).2.1
      have e1 := enumF_le (f := fun l lp => ([((l : Int), 0), ((l : Int), (lp.length : Int) + 1)] : List (Int × Int)) ++ enumF (fun a q => opnPl l a q) 0 lp) e
      rw [hti, List.length_append] at e1
      have hvG := Paired.length pG
      have hv3 : vG.length + 2 ≤ 1000 := by omega
      walk_at "go"
      rename_i q1 h1 _ _ st1 sq1 e4 q2 h2 _ _ st2 sq2 e5 q3 h3 _ _ st3 sq3 e6
      have hG3 := st3.get (st2.get (st1.get hG8))
      have hv4 : vG.length + [V.ref q1, V.ref q2].length ≤ 1000 := hv3
      walk_at "go"
      have sU : Same H6 (upd h3 G (.lst (vG ++ [.ref q1, .ref q2]))) := sq3.mut g2
      have hlbU : upd h3 G (.lst (vG ++ [.ref q1, .ref q2])) lb = some (.tup ys) := sU _ _ hlb
      have hyl12 : ys.length ≤ 12 := by omega
      walk_at "go"
      refine lcg_rng sU (by omega) (fun (j : Nat) => if (lp[j]?.map (·.kind)) = some ("opener" : Str) then some (((i : Int), (j : Int) + 1) : Int × Int) else none) T2 T2.tsx (fun j H9 hj s9 s9' Ky Kn ky kn => ?_) (fun D H9 d1 d2 s9 s9' l9 => ?_)
      · have hj2 : j < lp.length := by omega
        have hplq := List.getElem?_eq_getElem hj2
        generalize lp[j] = pl at hplq
        obtain ⟨y, hy, p1, ss, rfl, hp1', _⟩ := Paired.get2 pr2 hplq
        have hy2 : atI ys (0 + (j : Int)) = some (.ref p1) := ati j (by omega) hy
        by_cases hk : pl.kind = "opener"
        · have hk2 : V.str pl.kind = V.str "opener" := by rw [hk]
          walk_at "go"
          rename_i q7 h7 _ _ st7 s7' e7
          rw [Int.zero_add, Int.zero_add] at e7
          exact ky _ _ _ (if_pos (by rw [hplq, ← hk]; rfl)) st7.same ⟨_, rfl, e7⟩
        · have hk2 : ¬ V.str pl.kind = V.str "opener" := fun z => hk (V.str.inj z)
          walk_at "go"
          exact kn _ (if_neg (fun z => hk (by rw [hplq] at z; exact Option.some.inj z))) (Same.refl _)
      · obtain ⟨v9, hD9, p9⟩ := l9
        rw [Int.toNat_natCast, hyl, opn_range] at p9
        have hG9 := s9.get (upd_same (H := h3) (a := G) (o := .lst (vG ++ [.ref q1, .ref q2])))
        have hl9 := Paired.length p9
        have hl10 : (vG ++ [V.ref q1, V.ref q2]).length + v9.length ≤ 1000 := by
          rw [List.length_append]
          show vG.length + 2 + _ ≤ _
          have : ([((i : Int), 0), ((i : Int), (lp.length : Int) + 1)] : List (Int × Int)).length = 2 := rfl
          omega
        walk_at "go"
        refine ⟨⟨_, _, _, _, _, _, _, _, _, _, rfl⟩, s9'.mut g2, ?_⟩
        rw [take_snoc hi, hlp0, enumF_snoc, hti, ← List.append_assoc]
        have tA : Tk H8 (upd h3 G (.lst (vG ++ [.ref q1, .ref q2]))) := (st1.same.ts.trans (st2.same.ts.trans st3.same.ts)).trans (Tk.upd hG3 nt_l)
        have tB : Tk h3 (upd h3 G (.lst (vG ++ [.ref q1, .ref q2]))) := Tk.upd hG3 nt_l
        rw [Int.zero_add] at e4 e5
        rw [hyl] at e5
        refine LR.ext T2.tsx hG9 (Paired.app (Paired.mapP pG (T2.tsx (tA.trans s9.ts))) (.cons ⟨q1, rfl, s9.ts _ _ (tB _ _ (st3.get (st2.get e4)))⟩ (Paired.one ⟨q2, rfl, s9.ts _ _ (tB _ _ (st3.get e5))⟩))) p9
    · obtain ⟨⟨_, _, _, _, _, _, _, _, _, _, rfl⟩, s8, lrG⟩ := hI
      rw [List.take_length] at lrG
      walk_at "go"
      refine ⟨.ref pp, P, rfl, hP6.ts s8.ts, hgl, fun NL H9 nl1 s9 lrN => ?_⟩
      have s9' := s8.trans s9
      have hp9 := sqlS s9' hp6
      have tw : Two K C H9 p ns (.ref pp) P G NL (gatesOf P) x1 dx1 hw1 sw1 dw1 x2 dx2 hw2 sw2 dw2 := ⟨hp9, hP6.ts s9'.ts, lrG.same (T2.tsx s9.ts) s9, lrN, s9' _ _ wo1, s9' _ _ wo2, th1.same s9', th2.same s9'⟩
      have dy : Dyn2 H9 (fun _ => "") 0 [] [] hw1 sw1 hw2 sw2 := ⟨⟨[], s9' _ _ eh1, fun _ => rfl, Nat.le_refl _⟩, ⟨[], s9' _ _ eh2, fun _ => rfl, Nat.le_refl _⟩, ⟨s9' _ _ es1, List.nodup_nil⟩, ⟨s9' _ _ es2, List.nodup_nil⟩⟩
      have hsl1 : 1 ≤ (stretches P).length := by
        have h1 := hg.one
        obtain ⟨lp, r, e⟩ : ∃ lp r, P.loops = lp :: r := by
          cases h : P.loops with
          | nil => rw [h] at h1; cases h1
          | cons a r => exact ⟨a, r, rfl⟩
        rw [stretches, e, enumF]
        simp
      have hol := openers_le hgl
      have hgp := gates_perm P
      have bl : ∀ {qs : List (Int × Int)}, qs.Nodup → (∀ q ∈ qs, q ∈ openers P) → qs.length ≤ 42 := fun hn hs => Nat.le_trans (nodup_le hn hs) hol
      have bdo : ∀ {qs : List (Int × Int)}, (∀ q ∈ qs, q ∈ openers P) → ∀ q ∈ qs, Bd2 q := fun hs q hq => by
        have := openers_bd (hs q hq) hgl
        exact ⟨by omega, by omega, by omega, by omega⟩
      clear dx1n dx2n ahs1 ahd1 asd1 ahs2 ahd2 asd2
      walk_at "go"
      generalize hJ : (if (if ((ns.map V.int).length : Int) < 8 then ((ns.map V.int).length : Int) else 8) > 1 then (if ((ns.map V.int).length : Int) < 8 then ((ns.map V.int).length : Int) else 8) else 1 : Int) = J
      have hJ8 : J ≤ 8 := by rw [← hJ]; split <;> (try split) <;> omega
      refine forg_rng (fun i σ H' => (∃ b a6 a7 a8 b0' b1 b2 b3 b4 b5 : Option V, σ = [some (.ref p), b, some (.ref pp), some (.ref x1), some (.ref x2), some (.ref G), a6, a7, a8, some (.ref NL), b0', b1, b2, b3, b4, b5]) ∧ Two K C H' p ns (.ref pp) P G NL (gatesOf P) x1 dx1 hw1 sw1 dw1 x2 dx2 hw2 sw2 dw2 ∧ ∃ h ps1 ps2, Dyn2 H' h (8 * i) ps1 ps2 hw1 sw1 hw2 sw2 ∧ (∀ r ∈ ps1, r ∈ openers P) ∧ ∀ r ∈ ps2, r ∈ openers P) ⟨⟨_, _, _, _, _, _, _, _, _, _, rfl⟩, tw, _, [], [], dy, by simp, by simp⟩ (fun i σ Hb hi hI => ?_) (fun σ H' hI => ?_)
      · obtain ⟨⟨_, _, _, _, _, _, _, _, _, _, rfl⟩, twb, h, ps1, ps2, dyb, sub1, sub2⟩ := hI
        have hpb := twb.script
        have sHb := Same.refl Hb
        walk_at "go"
        refine ⟨p, ns, 0 + (i : Int), rfl, hpb, by omega, by omega, fun b H10 bn s10 hb10 => ?_⟩
        walk_at "go"
        refine ⟨b, 8, 0, rfl, hb10, by decide, by decide, by decide, fun r H11 r0 r1 f11 hb11 => ?_⟩
        have DYN : ∀ {S : List Addr} {Ha Hc : Hp}, (∀ a ∈ S, a ∈ [hw1, sw1, hw2, sw2] ∨ Hb a = none) → Fr [hw1, sw1, hw2, sw2] Hb Ha → Fr S Ha Hc → Fr [hw1, sw1, hw2, sw2] Hb Hc := fun hS f0 f => fr_into hS f0 f
        have fb11 : Fr [hw1, sw1, hw2, sw2] Hb H11 := DYN (S := [b]) (by simp [bn]) (fr_same s10) f11
        have bne : ∀ {a : Addr} {o : HO}, Hb a = some o → a ≠ b := fun e z => by rw [z, bn] at e; cases e
        have dyA : ∀ a ∈ [hw1, sw1, hw2, sw2], a ≠ b := fun a ha => let ⟨k, e⟩ := dyb.dts a ha; bne e
        have hw1b : Nq hw1 b := ⟨dyA hw1 (by simp)⟩
        have sw1b : Nq sw1 b := ⟨dyA sw1 (by simp)⟩
        have hw2b : Nq hw2 b := ⟨dyA hw2 (by simp)⟩
        have sw2b : Nq sw2 b := ⟨dyA sw2 (by simp)⟩
        have dy11 : Dyn2 H11 h (8 * i + 0) ps1 ps2 hw1 sw1 hw2 sw2 := ⟨(dyb.h1.same s10).fr f11 (by simp; exact hw1b.ne), (dyb.h2.same s10).fr f11 (by simp; exact hw2b.ne), (dyb.s1.same s10).fr f11 (by simp; exact sw1b.ne), (dyb.s2.same s10).fr f11 (by simp; exact sw2b.ne)⟩
        have hi8 : i < 8 := by omega
        walk_at "go"
        refine forg_rng (fun j σ H' => (∃ y6 y7 y8 y10 y11 y12 y13 y14 y15 : Option V, σ = [some (.ref p), some (.ref b), some (.ref pp), some (.ref x1), some (.ref x2), some (.ref G), y6, y7, y8, some (.ref NL), y10, y11, y12, y13, y14, y15]) ∧ Fr [hw1, sw1, hw2, sw2] Hb H' ∧ BagAt H' b (1 + 2 * j) ∧ ∃ h, Dyn2 H' h (8 * i + j) ps1 ps2 hw1 sw1 hw2 sw2) ⟨⟨_, _, _, _, _, _, _, _, _, rfl⟩, fb11, hb11, h, dy11⟩ (fun j σ H12 hj hI => ?_) (fun σ H12 hI => ?_)
        · obtain ⟨⟨_, _, _, _, _, _, _, _, _, rfl⟩, fb12, hb12, h, dy12⟩ := hI
          have tw12 := twb.fr ap dyb fb12
          have s12 := Same.refl H12
          walk_at "go"
          rename_i lh H13 lh0 lh1 st13 s13 hlh
          have hj8 : j < 8 := by omega
          have lhn : ∀ {a : Addr} {o : HO}, H12 a = some o → a ≠ lh := fun e z => by rw [z, lh0] at e; cases e
          have dlh : ∀ a ∈ [hw1, sw1, hw2, sw2], a ≠ lh := fun a ha => let ⟨k, e⟩ := dy12.dts a ha; lhn e
          have hw1l : Nq hw1 lh := ⟨dlh hw1 (by simp)⟩
          have sw1l : Nq sw1 lh := ⟨dlh sw1 (by simp)⟩
          have hw2l : Nq hw2 lh := ⟨dlh hw2 (by simp)⟩
          have sw2l : Nq sw2 lh := ⟨dlh sw2 (by simp)⟩
          have lhb : Hb lh = none := fb12.new (by simp only [List.mem_cons, List.not_mem_nil, or_false]; exact fun z => z.elim hw1l.ne.symm (fun z => z.elim sw1l.ne.symm fun z => z.elim hw2l.ne.symm sw2l.ne.symm)) lh0
          have bl' : Nq b lh := ⟨by obtain ⟨xb, e⟩ := hb12.lst; exact lhn e⟩
          have fb13 := fb12.trans (fr_same s13)
          have tw13 := twb.fr ap dyb fb13
          refine ⟨b, x1, lh, NL, dx1, .ref pp, hw1, sw1, dw1, P, h, 8 * i + j, 1 + 2 * j, rfl, hb12.same s13, by omega, tw13.o1, tw13.plan, hgl, dy12.h1.same s13, by omega, hlh, hw1l.ne, tw13.names, hsl1, fun q s t H14 hq hev f14 hb14 hh14 hl14 => ?_⟩
          have fb14 : Fr [hw1, sw1, hw2, sw2] Hb H14 := DYN (S := [b, hw1, lh]) (by simp [bn, lhb]) fb13 f14
          have n14 : ∀ {a : Addr}, a ≠ b → a ≠ hw1 → a ≠ lh → a ∉ [b, hw1, lh] := fun a c d => by simp only [List.mem_cons, List.not_mem_nil, or_false]; exact fun z => z.elim a (fun z => z.elim c d)
          have h214 := (dy12.h2.same s13).fr f14 (n14 hw2b.ne ap.b.symm hw2l.ne)
          have s114 := (dy12.s1.same s13).fr f14 (n14 sw1b.ne ap.a.symm sw1l.ne)
          have s214 := (dy12.s2.same s13).fr f14 (n14 sw2b.ne ap.c.symm sw2l.ne)
          walk_at "go"
          refine i_lock ⟨lh, _, hl14, trivial, fun od => ?_⟩
          have fb15 : Fr [hw1, sw1, hw2, sw2] Hb (upd H14 lh (.frz od (.dT [(ky3 q, .str s)]))) := fb14.mut lhb
          have h115 : HowsF (upd H14 lh (.frz od (.dT [(ky3 q, .str s)]))) hw1 (setH h q t) (8 * i + j + 1) := hh14.fr (Fr.upd (S := [lh]) (by simp)) (by simp; exact hw1l.ne)
          have h215 : HowsF (upd H14 lh (.frz od (.dT [(ky3 q, .str s)]))) hw2 h (8 * i + j) := h214.fr (Fr.upd (S := [lh]) (by simp)) (by simp; exact hw2l.ne)
          have s115 : StopsF (upd H14 lh (.frz od (.dT [(ky3 q, .str s)]))) sw1 ps1 := s114.fr (Fr.upd (S := [lh]) (by simp)) (by simp; exact sw1l.ne)
          have s215 : StopsF (upd H14 lh (.frz od (.dT [(ky3 q, .str s)]))) sw2 ps2 := s214.fr (Fr.upd (S := [lh]) (by simp)) (by simp; exact sw2l.ne)
          have hb15 : BagAt (upd H14 lh (.frz od (.dT [(ky3 q, .str s)]))) b (1 + 2 * j + 2) := hb14.fr (Fr.upd (S := [lh]) (by simp)) (by simp; exact bl'.ne)
          have hl15 : upd H14 lh (.frz od (.dT [(ky3 q, .str s)])) lh = some (.frz od (.dT [(ky3 q, .str s)])) := upd_same
          generalize upd H14 lh (.frz od (.dT [(ky3 q, .str s)])) = H15 at *
          have tw15 := twb.fr ap dyb fb15
          have s15 := Same.refl H15
          walk_at "go"
          refine i_keys ?_
          walk_at "go"
          refine ⟨lh, od, rfl, .inr ⟨_, hl15, ?_⟩⟩
          refine forg_pre walk_keysT [(ky3 q, V.str s)] rfl (fun pre σ H' => (pre = [] ∧ (∃ y6 y7 y8 y10 y11 y13 y14 y15 : Option V, σ = [some (.ref p), some (.ref b), some (.ref pp), some (.ref x1), some (.ref x2), some (.ref G), y6, y7, y8, some (.ref NL), y10, y11, some (.ref lh), y13, y14, y15]) ∧ H' = H15) ∨ (pre ≠ [] ∧ H' lh = some (.frz od (.dT [(ky3 q, .str s)])) ∧ (∃ y6 y7 y8 y10 y11 y12 y13 y14 y15 : Option V, σ = [some (.ref p), some (.ref b), some (.ref pp), some (.ref x1), some (.ref x2), some (.ref G), y6, y7, y8, some (.ref NL), y10, y11, y12, y13, y14, y15]) ∧ Fr [hw1, sw1, hw2, sw2] Hb (upd H' lh (.dT [(ky3 q, .str s)])) ∧ BagAt (upd H' lh (.dT [(ky3 q, .str s)])) b (1 + 2 * (j + 1)) ∧ Dyn2 (upd H' lh (.dT [(ky3 q, .str s)])) (setH h q t) (8 * i + (j + 1)) ps1 ps2 hw1 sw1 hw2 sw2)) (.inl ⟨rfl, ⟨_, _, _, _, _, _, _, _, rfl⟩, rfl⟩) (fun pre σ H' hI => ?_) (fun pre d post x σ H16 H17 e hI y => ?_) (fun σ H16 hI => ?_)
          · rcases hI with ⟨_, _, rfl⟩ | ⟨_, hl, _⟩
            · exact hl15
            · exact hl
          · obtain rfl : pre = [] := by
              cases pre with
              | nil => rfl
              | cons a r => have := congrArg List.length e; simp at this
            obtain ⟨_, ⟨_, _, _, _, _, _, _, _, rfl⟩, e16⟩ := hI.resolve_right (fun z => z.1 rfl)
            obtain ⟨e17, kk, vv, tq, hkv, rfl, htq⟩ := y
            subst e17
            subst e16
            have hkk : kk = ky3 q := by simp at hkv; exact hkv.1.symm
            subst hkk
            have htq3 : TupOf3 H17 tq q := htq
            have hget : DGet H17 lh (.ref tq) (some (.str s)) := .inr ⟨_, ky3 q, tq, .inr ⟨od, hl15⟩, rfl, htq, by rw [valV_pos rfl]⟩
            have fin : ∀ (H18 : Hp) (σ' : L2.St), (∃ y6 y7 y8 y10 y11 y12 y13 y14 y15 : Option V, σ' = [some (.ref p), some (.ref b), some (.ref pp), some (.ref x1), some (.ref x2), some (.ref G), y6, y7, y8, some (.ref NL), y10, y11, y12, y13, y14, y15]) → Fr [hw2] H17 H18 → HowsF H18 hw2 (setH h q t) (8 * i + j + 1) → H18 lh = some (.frz od (.dT [(ky3 q, .str s)])) ∧ (∃ y6 y7 y8 y10 y11 y12 y13 y14 y15 : Option V, σ' = [some (.ref p), some (.ref b), some (.ref pp), some (.ref x1), some (.ref x2), some (.ref G), y6, y7, y8, some (.ref NL), y10, y11, y12, y13, y14, y15]) ∧ Fr [hw1, sw1, hw2, sw2] Hb (upd H18 lh (.dT [(ky3 q, .str s)])) ∧ BagAt (upd H18 lh (.dT [(ky3 q, .str s)])) b (1 + 2 * (j + 1)) ∧ Dyn2 (upd H18 lh (.dT [(ky3 q, .str s)])) (setH h q t) (8 * i + (j + 1)) ps1 ps2 hw1 sw1 hw2 sw2 := by
              intro H18 σ' hσ f18 hh18
              have g : Fr [lh] H18 (upd H18 lh (.dT [(ky3 q, .str s)])) := Fr.upd (by simp)
              refine ⟨f18.get (by simp; exact hw2l.ne.symm) hl15, hσ, (DYN (S := [hw2]) (by simp) fb15 f18).mut lhb, ?_, ⟨?_, ?_, ?_, ?_⟩⟩
              · exact ((hb15.fr f18 (by simp; exact hw2b.ne.symm)).fr g (by simp; exact bl'.ne)).mono (by omega)
              · exact (h115.fr f18 (by simp; exact ap.b)).fr g (by simp; exact hw1l.ne)
              · exact hh18.fr g (by simp; exact hw2l.ne)
              · exact (s115.fr f18 (by simp; exact ap.d)).fr g (by simp; exact sw1l.ne)
              · exact (s215.fr f18 (by simp; exact ap.f.symm)).fr g (by simp; exact sw2l.ne)
            have o2 : H17 x2 = some (.ins C dx2 (wfs (.ref pp) hw2 sw2 dw2)) := tw15.o2
            walk_at "go"
            refine ⟨lh, _, rfl, hget, ?_⟩
            rcases hev with ⟨rfl, rfl⟩ | ⟨rfl, rfl⟩ | ⟨rfl, rfl⟩
            · have c1 : ¬ V.str ("short" : Str) = V.str "cut" := by decide +kernel
              walk_at "go"
              refine ⟨lh, _, rfl, hget, ?_⟩
              walk_at "go"
              refine ⟨x2, dx2, .ref pp, hw2, sw2, dw2, tq, P, q, h, 8 * i + j, rfl, o2, tw15.plan, hgl, htq3, hq, h215, by omega, fun H18 f18 hh18 => ?_⟩
              walk_at "go"
              exact .inr ⟨by simp, fin H18 _ ⟨_, _, _, _, _, _, _, _, _, rfl⟩ f18 hh18⟩
            · walk_at "go"
              refine ⟨x2, dx2, .ref pp, hw2, sw2, dw2, tq, P, q, h, 8 * i + j, rfl, o2, tw15.plan, hgl, htq3, hq, h215, by omega, fun H18 f18 hh18 => ?_⟩
              walk_at "go"
              exact .inr ⟨by simp, fin H18 _ ⟨_, _, _, _, _, _, _, _, _, rfl⟩ f18 hh18⟩
            · have c1 : ¬ V.str ("whole" : Str) = V.str "cut" := by decide +kernel
              have c2 : ¬ V.str ("whole" : Str) = V.str "short" := by decide +kernel
              walk_at "go"
              refine ⟨lh, _, rfl, hget, ?_⟩
              walk_at "go"
              refine ⟨x2, dx2, .ref pp, hw2, sw2, dw2, tq, P, q, h, 8 * i + j, rfl, o2, tw15.plan, hgl, htq3, hq, h215, by omega, fun H18 f18 hh18 => ?_⟩
              walk_at "go"
              exact .inr ⟨by simp, fin H18 _ ⟨_, _, _, _, _, _, _, _, _, rfl⟩ f18 hh18⟩
          · rcases hI with ⟨h0, _⟩ | ⟨_, hl, hσ, a1, a2, a3⟩
            · cases h0
            · exact ⟨hl, hσ, a1, a2, _, a3⟩
        · obtain ⟨⟨_, _, _, _, _, _, _, _, _, rfl⟩, fb12, hb12, h, dy12⟩ := hI
          have n8 : 8 * i + (1 + r).toNat ≤ 8 * (i + 1) := by omega
          have dy12 : Dyn2 H12 h (8 * (i + 1)) ps1 ps2 hw1 sw1 hw2 sw2 := ⟨dy12.h1.le n8, dy12.h2.le n8, dy12.s1, dy12.s2⟩
          have hb12 : BagAt H12 b 20 := hb12.mono (by omega)
          clear n8 hb11 hb10 dy11 fb11 f11
          have hh1 := dy12.h1.at
          have hh2 := dy12.h2.at
          have hgates := gates_perm P
          have hglen : (gatesOf P).length ≤ 42 := by rw [hgates.length_eq]; exact hol
          have n1 : ∀ {a : Addr}, a ≠ b → a ≠ sw1 → a ∉ [b, sw1] := fun a c => by simp only [List.mem_cons, List.not_mem_nil, or_false]; exact fun z => z.elim a c
          walk_at "go"
          refine forg_rng (fun j σ H' => (∃ y6 y7 y8 y10 y11 y12 y13 y14 y15 : Option V, σ = [some (.ref p), some (.ref b), some (.ref pp), some (.ref x1), some (.ref x2), some (.ref G), y6, y7, y8, some (.ref NL), y10, y11, y12, y13, y14, y15]) ∧ Fr [b, sw1] H12 H' ∧ BagAt H' b (20 + 42 * j) ∧ ∃ ess : List (List (Int × Int)), ess.length = j ∧ (∀ es ∈ ess, es.Perm (openers P)) ∧ StopsF H' sw1 (ess.foldl (fun ps es => es.foldl (actP P h) ps) ps1) ∧ ∀ r ∈ ess.foldl (fun ps es => es.foldl (actP P h) ps) ps1, r ∈ openers P) ⟨⟨_, _, _, _, _, _, _, _, _, rfl⟩, Fr.refl, hb12, [], rfl, by simp, dy12.s1, sub1⟩ (fun j σ H13 hj hI => ?_) (fun σ H13 hI => ?_)
          · obtain ⟨⟨_, _, _, _, _, _, _, _, _, rfl⟩, f13, hb13, ess, hel, hep, hs13, hsub13⟩ := hI
            have fb13 : Fr [hw1, sw1, hw2, sw2] Hb H13 := DYN (S := [b, sw1]) (by simp [bn]) fb12 f13
            have tw13 := twb.fr ap dyb fb13
            have hnew : ∀ es : List (Int × Int), (ess ++ [es]).foldl (fun ps es => es.foldl (actP P h) ps) ps1 = es.foldl (actP P h) (ess.foldl (fun ps es => es.foldl (actP P h) ps) ps1) := fun es => by rw [List.foldl_append]; rfl
            have hj2 : j < 2 := hj
            generalize ess.foldl (fun ps es => es.foldl (actP P h) ps) ps1 = cur at *
            walk_at "go"
            refine ⟨b, G, 20 + 42 * j, gatesOf P, rfl, hb13, by omega, tw13.gates, by omega, fun L es H14 l14 f14 hb14 ⟨vL, hL, pL⟩ hperm => ?_⟩
            have hpo : es.Perm (openers P) := hperm.trans hgates
            have fb14 : Fr [hw1, sw1, hw2, sw2] Hb H14 := DYN (S := [b]) (by simp [bn]) fb13 f14
            have hs14 := hs13.fr f14 (by simp; exact sw1b.ne)
            have Ls : Nq L sw1 := ⟨fun z => by have := hs13.1; rw [← z, l14] at this; cases this⟩
            walk_at "go"
            refine forg_list (K := K) pL (fun pre σ H' => (∃ y6 y7 y8 y10 y11 y12 y13 y14 y15 : Option V, σ = [some (.ref p), some (.ref b), some (.ref pp), some (.ref x1), some (.ref x2), some (.ref G), y6, y7, y8, some (.ref NL), y10, y11, y12, y13, y14, y15]) ∧ Fr [sw1] H14 H' ∧ StopsF H' sw1 (pre.foldl (actP P h) cur) ∧ ∀ r ∈ pre.foldl (actP P h) cur, r ∈ openers P) ⟨⟨_, _, _, _, _, _, _, _, _, rfl⟩, Fr.refl, hs14, hsub13⟩ (fun pre σ H' q => q.2.1.get (by simp; exact Ls.ne) hL) (fun pre q post x σ H15 e hI r => ?_) (fun σ H15 hI => ?_)
            · obtain ⟨⟨_, _, _, _, _, _, _, _, _, rfl⟩, f15, hs15, hsub15⟩ := hI
              obtain ⟨t, rfl, ht⟩ := r
              have tk15 : Tk H14 H15 := f15.ts fun a ha => (by have e := List.mem_singleton.mp ha; subst e; exact ⟨_, hs14.1, nt_d⟩)
              have fb15 : Fr [hw1, sw1, hw2, sw2] Hb H15 := DYN (S := [sw1]) (by simp) fb14 f15
              have tw15 := twb.fr ap dyb fb15
              have hqo : q ∈ openers P := hpo.mem_iff.mp (sub_pre e)
              have hfl : (pre ++ [q]).foldl (actP P h) cur = actP P h (pre.foldl (actP P h) cur) q := by rw [List.foldl_append]; rfl
              rw [hfl]
              have o1 : H15 x1 = some (.ins C dx1 (wfs (.ref pp) hw1 sw1 dw1)) := tw15.o1
              have hh15 : HowsAt H15 hw1 h := ((((dy12.h1.fr f13 (n1 hw1b.ne ap.a)).fr f14 (by simp; exact hw1b.ne))).fr f15 (by simp; exact ap.a)).at
              have hcl := bl hs15.2 hsub15
              generalize pre.foldl (actP P h) cur = qs at *
              walk_at "go"
              refine ⟨x1, dx1, .ref pp, hw1, sw1, dw1, t, P, h, q, qs, rfl, o1, tw15.plan, hgl, hh15, hs15, by omega, tk15 _ _ ht, hqo, fun bb H16 f16 hs16 => ?_⟩
              walk_at "go"
              exact ⟨⟨_, _, _, _, _, _, _, _, _, rfl⟩, f15.trans f16, hs16, actP_sub hsub15 hqo⟩
            · obtain ⟨⟨_, _, _, _, _, _, _, _, _, rfl⟩, f15, hs15, hsub15⟩ := hI
              refine ⟨⟨_, _, _, _, _, _, _, _, _, rfl⟩, (f13.trans (f14.mono (by simp))).trans (f15.mono (by simp)), (hb14.fr f15 (by simp; exact sw1b.ne.symm)).mono (by omega), ess ++ [es], by rw [List.length_append, hel]; rfl, fun e he => ?_, ?_, ?_⟩
              · rcases List.mem_append.mp he with he | he
                · exact hep e he
                · rw [List.mem_singleton] at he; rw [he]; exact hpo
              · rw [hnew]; exact hs15
              · rw [hnew]; exact hsub15
          · obtain ⟨⟨_, _, _, _, _, _, _, _, _, rfl⟩, f13, hb13, ess, hel, hep, hs13, hsub13⟩ := hI
            obtain ⟨ea, eb, rfl⟩ : ∃ ea eb, ess = [ea, eb] := by
              have hel2 : ess.length = 2 := hel
              match ess, hel2 with
              | [a, c], _ => exact ⟨a, c, rfl⟩
            have hra : ∀ r, r ∈ eb.foldl (actP P h) (ea.foldl (actP P h) ps1) ↔ r ∈ openers P ∧ DQ P h r = true := rest_two sub1 (hep ea (by simp)) (hep eb (by simp))
            have hs13 : StopsF H13 sw1 (eb.foldl (actP P h) (ea.foldl (actP P h) ps1)) := hs13
            have hsub13 : ∀ r ∈ eb.foldl (actP P h) (ea.foldl (actP P h) ps1), r ∈ openers P := hsub13
            generalize eb.foldl (actP P h) (ea.foldl (actP P h) ps1) = pa at *
            have fb13 : Fr [hw1, sw1, hw2, sw2] Hb H13 := DYN (S := [b, sw1]) (by simp [bn]) fb12 f13
            have tw13 := twb.fr ap dyb fb13
            have h113 := dy12.h1.fr f13 (n1 hw1b.ne ap.a)
            have h213 := dy12.h2.fr f13 (n1 hw2b.ne ap.d.symm)
            have s213 := dy12.s2.fr f13 (n1 sw2b.ne ap.e.symm)
            have o2 : H13 x2 = some (.ins C dx2 (wfs (.ref pp) hw2 sw2 dw2)) := tw13.o2
            walk_at "go"
            refine ⟨x2, dx2, .ref pp, hw2, sw2, dw2, P, h, ps2, rfl, o2, ap.f, tw13.plan, hgl, h213.at, s213, sub2, fun rw1 ds H14 f14 hsrt hs14 => ?_⟩
            have hrb := rest_row (h := h) sub2 hsrt.1
            generalize ds.foldl (actP P h) ((openers P).foldl (rowP P h) ps2) = pb at *
            have hsub14 : ∀ r ∈ pb, r ∈ openers P := fun r hr => ((hrb r).mp hr).1
            have fb14 : Fr [hw1, sw1, hw2, sw2] Hb H14 := DYN (S := [sw2]) (by simp) fb13 f14
            have tw14 := twb.fr ap dyb fb14
            have h114 := h113.fr f14 (by simp; exact ap.c)
            have h214 := h213.fr f14 (by simp; exact ap.f)
            have s114 := hs13.fr f14 (by simp; exact ap.e)
            have hpp : pa.Perm pb := (List.perm_ext_iff_of_nodup s114.2 hs14.2).mpr fun r => (hra r).trans (hrb r).symm
            have hSS : memB pa = memB pb := funext fun q => by
              rw [memB, memB]
              exact decide_eq_decide.mpr hpp.mem_iff
            have la := bl s114.2 hsub13
            have lb' := bl hs14.2 hsub14
            have o1' : H14 x1 = some (.ins C dx1 (wfs (.ref pp) hw1 sw1 dw1)) := tw14.o1
            have o2' : H14 x2 = some (.ins C dx2 (wfs (.ref pp) hw2 sw2 dw2)) := tw14.o2
            have s14 := Same.refl H14
            walk_at "go"
            refine ⟨x1, dx1, .ref pp, hw1, sw1, dw1, P, h, memB pa, rfl, o1', tw14.plan, hgl, h114.at, s114.at, rest_rests hra, fun H15 s15 => ?_⟩
            have o2'' := s15.get o2'
            walk_at "go"
            refine ⟨x2, dx2, .ref pp, hw2, sw2, dw2, P, h, memB pb, rfl, o2'', tw14.plan.ts s15.ts, hgl, h214.at.same s15, hs14.at.same s15, rest_rests hrb, fun H16 s16 => ?_⟩
            have s16' := s15.trans s16
            have o1'' := s16'.get o1'
            walk_at "go"
            refine ⟨x1, dx1, .ref pp, hw1, sw1, dw1, pa, rfl, o1'', s114.same s16', by omega, bdo hsub13, fun q1 d1 H17 q10 s17 lr1 srt1 => ?_⟩
            have s17' := s16'.trans s17
            have o2t := s17'.get o2'
            walk_at "go"
            refine ⟨x2, dx2, .ref pp, hw2, sw2, dw2, pb, rfl, o2t, hs14.same s17', by omega, bdo hsub14, fun q2 d2 H18 q20 s18 lr2 srt2 => ?_⟩
            have s18' := s17'.trans s18
            obtain rfl : d1 = d2 := srt1.uniq srt2 hpp (bdo hsub13)
            refine ⟨_, _, (lr1.same (T2.tsx s18.ts) s18).dp2, lr2.dp2, shaped_of (lay_l2 _) (by decide), shaped_of (lay_l2 _) (by decide), ?_⟩
            rw [eqv_l2]
            have fb18 : Fr [hw1, sw1, hw2, sw2] Hb H18 := fb14.trans (fr_same s18')
            have tw18 := twb.fr ap dyb fb18
            have dy18 : Dyn2 H18 h (8 * (i + 1)) pa pb hw1 sw1 hw2 sw2 := ⟨h114.same s18', h214.same s18', s114.same s18', hs14.same s18'⟩
            obtain ⟨pp', ls2, zs2', epp, hpp18, ⟨la2, xs2, rfl, hla18, pr18⟩, _⟩ := id tw18.plan
            obtain rfl : pp = pp' := by cases epp; rfl
            have hxl2 := Paired.length pr18
            walk_at "go"
            rw [Int.toNat_natCast, hxl2]
            refine forg_rng (fun j σ H' => (∃ y6 y7 y8 y10 y11 y12 y13 y14 y15 : Option V, σ = [some (.ref p), some (.ref b), some (.ref pp), some (.ref x1), some (.ref x2), some (.ref G), y6, y7, y8, some (.ref NL), y10, y11, y12, y13, y14, y15]) ∧ Same H18 H') ⟨⟨_, _, _, _, _, _, _, _, _, rfl⟩, Same.refl _⟩ (fun j σ H19 hj hI => ?_) (fun σ H19 hI => ?_)
            · obtain ⟨⟨_, _, _, _, _, _, _, _, _, rfl⟩, s19⟩ := hI
              have hlpq : P.loops[j]? = some P.loops[j] := List.getElem?_eq_getElem hj
              generalize P.loops[j] = lp at hlpq
              have o1h : H19 x1 = some (.ins C dx1 (wfs (.ref pp) hw1 sw1 dw1)) := s19 _ _ tw18.o1
              have o2h : H19 x2 = some (.ins C dx2 (wfs (.ref pp) hw2 sw2 dw2)) := s19 _ _ tw18.o2
              have bd3 : ∀ (l : List Sp3), ∀ q ∈ l.filter (devB P), Bd3 q := fun l q hq => by
                have := devs_mem (of_decide_eq_true (List.mem_filter.mp hq).2) hgl
                exact ⟨by omega, by omega, by omega, by omega, by omega, by omega⟩
              have sH19 := Same.refl H19
              have hear1 : ∀ {Hc : Hp}, Same H19 Hc → ∀ (e : Str) (Q : VK) (E : XK), (∀ q ds H', Hc q = none → Same Hc H' → LR T3 H' q ds → Srt3 ds ((heardB h (memB pb) j lp e).filter (devB P)) → Q (.ref q) H') → sp_Wheard C [.ref x1, .int (0 + (j : Int)), .str e] Hc Q E := fun sc e Q E kk =>
                ⟨x1, dx1, .ref pp, hw1, sw1, dw1, P, h, memB pb, j, lp, e, (by rw [Int.zero_add]), sc _ _ o1h, tw18.plan.ts (s19.trans sc).ts, hgl, dy18.h1.at.same (s19.trans sc), hSS ▸ (dy18.s1.at.same (s19.trans sc)), tw18.t1.same (s19.trans sc), hlpq, kk⟩
              have hear2 : ∀ {Hc : Hp}, Same H19 Hc → ∀ (e : Str) (Q : VK) (E : XK), (∀ q ds H', Hc q = none → Same Hc H' → LR T3 H' q ds → Srt3 ds ((heardB h (memB pb) j lp e).filter (devB P)) → Q (.ref q) H') → sp_Wheard C [.ref x2, .int (0 + (j : Int)), .str e] Hc Q E := fun sc e Q E kk =>
                ⟨x2, dx2, .ref pp, hw2, sw2, dw2, P, h, memB pb, j, lp, e, (by rw [Int.zero_add]), sc _ _ o2h, tw18.plan.ts (s19.trans sc).ts, hgl, dy18.h2.at.same (s19.trans sc), dy18.s2.at.same (s19.trans sc), tw18.t2.same (s19.trans sc), hlpq, kk⟩
              generalize hF : (fun e => (heardB h (memB pb) j lp e).filter (devB P)) = F
              have hFe : ∀ e, (heardB h (memB pb) j lp e).filter (devB P) = F e := fun e => by rw [← hF]
              simp only [hFe] at hear1 hear2
              have bdF : ∀ e, ∀ q ∈ F e, Bd3 q := fun e => by rw [← hFe]; exact bd3 _
              walk_at "go"
              rename_i t20 H20 t201 t202 st20 s20 e20
              refine lcg_m walk_tup (["A", "B"] : List Str) rfl (by decide) (HearI F H20) (fun D hD => HearI.nil hD) (fun D pre outs H' hI => SqT.of (hI.1 _ _ e20)) (fun D pre d post outs x H21 H22 hD e hol ho hI y Ky Kn ky kn => ?_) (fun D1 outs1 H21 hD1 hol1 ho1 hI1 => ?_)
              · obtain ⟨rfl, hx⟩ := y
                obtain rfl : x = .str d := two_str e hx
                have o1i : H22 x1 = some (.ins C dx1 (wfs (.ref pp) hw1 sw1 dw1)) := hI.1 _ _ (s20 _ _ o1h)
                walk_at "go"
                exact hear1 (s20.trans hI.1) d _ _ fun q ds H23 q0 s23 lr srt => ky _ _ (s23 _ _ ho) (hI.put ho s23 q0 lr srt hD)
              · have sH21 := s20.trans hI1.1
                have o2i := sH21 _ _ o2h
                walk_at "go"
                rename_i t22 H22 t221 t222 st22 s22 e22
                refine lcg_m walk_tup (["A", "B"] : List Str) rfl (by decide) (HearI F H22) (fun D hD => HearI.nil hD) (fun D pre outs H' hI => SqT.of (hI.1 _ _ e22)) (fun D pre d post outs x H23 H24 hD e hol ho hI y Ky Kn ky kn => ?_) (fun D2 outs2 H23 hD2 hol2 ho2 hI2 => ?_)
                · obtain ⟨rfl, hx⟩ := y
                  obtain rfl : x = .str d := two_str e hx
                  have o2j : H24 x2 = some (.ins C dx2 (wfs (.ref pp) hw2 sw2 dw2)) := hI.1 _ _ (st22.get o2i)
                  walk_at "go"
                  exact hear2 (s22.trans hI.1) d _ _ fun q ds H25 q0 s25 lr srt => ky _ _ (s25 _ _ ho) (hI.put ho s25 q0 lr srt hD)
                · have s2123 : Same H21 H23 := st22.same.trans hI2.1
                  obtain ⟨dA, dB, dp1, sA, sB⟩ := hI1.data (K := K) ho1
                  obtain ⟨dA', dB', dp2, sA', sB'⟩ := hI2.data (K := K) ho2
                  obtain ⟨dA1, dB1, dp1', sA1, sB1⟩ := (hI1.later s2123 hD1 ho1).data (K := K) (s2123 _ _ ho1)
                  obtain rfl : dA1 = dA' := sA1.uniq sA' (bdF _)
                  obtain rfl : dB1 = dB' := sB1.uniq sB' (bdF _)
                  refine ⟨_, _, dp1', dp2, shaped_of (lay_ll _ _) (by decide), shaped_of (lay_ll _ _) (by decide), ?_⟩
                  rw [eqv_ll]
                  walk_at "go"
                  exact ⟨⟨_, _, _, _, _, _, _, _, _, rfl⟩, s19.trans (s22.trans hI2.1)⟩
            · obtain ⟨⟨_, _, _, _, _, _, _, _, _, rfl⟩, s19⟩ := hI
              refine ⟨⟨_, _, _, _, _, _, _, _, _, _, rfl⟩, tw18.fr ap dy18 (fr_same s19), h, pa, pb, ⟨dy18.h1.same s19, dy18.h2.same s19, dy18.s1.same s19, dy18.s2.same s19⟩, hsub13, hsub14⟩
      · obtain ⟨⟨_, _, _, _, _, _, _, _, _, _, rfl⟩, _⟩ := hI
        walk_at "go"
        exact k _
end
end Wl

namespace Wl
open PySem L2
/-! ## the head -/
section Head
open PySem.Spec PyProof.Rows
def d_is_whole : He.DefD := ⟨("is_whole", none), "is_whole", "is_whole", defArgs s_is_whole, defBody s_is_whole, defScope s_is_whole, [], []⟩
def d_is_name : He.DefD := ⟨("is_name", none), "is_name", "is_name", defArgs s_is_name, defBody s_is_name, defScope s_is_name, [], []⟩
def d_rises : He.DefD := ⟨("rises", none), "rises", "rises", defArgs s_rises, defBody s_rises, defScope s_rises, [], []⟩
def d_are_rising : He.DefD := ⟨("are_rising", none), "are_rising", "are_rising", defArgs s_are_rising, defBody s_are_rising, defScope s_are_rising, [], []⟩
def d_are_whole : He.DefD := ⟨("are_whole", none), "are_whole", "are_whole", defArgs s_are_whole, defBody s_are_whole, defScope s_are_whole, [], []⟩
def d_is_device : He.DefD := ⟨("is_device", none), "is_device", "is_device", defArgs s_is_device, defBody s_is_device, defScope s_is_device, [], []⟩
def d_is_place : He.DefD := ⟨("is_place", none), "is_place", "is_place", defArgs s_is_place, defBody s_is_place, defScope s_is_place, [], []⟩
def d_is_loop : He.DefD := ⟨("is_loop", none), "is_loop", "is_loop", defArgs s_is_loop, defBody s_is_loop, defScope s_is_loop, [], []⟩
def d_is_zone : He.DefD := ⟨("is_zone", none), "is_zone", "is_zone", defArgs s_is_zone, defBody s_is_zone, defScope s_is_zone, [], []⟩
def d_are_zones : He.DefD := ⟨("are_zones", none), "are_zones", "are_zones", defArgs s_are_zones, defBody s_are_zones, defScope s_are_zones, [], []⟩
def d_is_plan : He.DefD := ⟨("is_plan", none), "is_plan", "is_plan", defArgs s_is_plan, defBody s_is_plan, defScope s_is_plan, [], []⟩
def d_devices : He.DefD := ⟨("devices", none), "devices", "devices", defArgs s_devices, defBody s_devices, defScope s_devices, [], []⟩
def d_stretches : He.DefD := ⟨("stretches", none), "stretches", "stretches", defArgs s_stretches, defBody s_stretches, defScope s_stretches, [], []⟩
def d_openers : He.DefD := ⟨("openers", none), "openers", "openers", defArgs s_openers, defBody s_openers, defScope s_openers, [], []⟩
def d_parts : He.DefD := ⟨("parts", none), "parts", "parts", defArgs s_parts, defBody s_parts, defScope s_parts, [], []⟩
def d_told_twice : He.DefD := ⟨("told_twice", none), "told_twice", "told_twice", defArgs s_told_twice, defBody s_told_twice, defScope s_told_twice, [], []⟩
def d_crowded : He.DefD := ⟨("crowded", none), "crowded", "crowded", defArgs s_crowded, defBody s_crowded, defScope s_crowded, [], []⟩
def d_zone_at_odds : He.DefD := ⟨("zone_at_odds", none), "zone_at_odds", "zone_at_odds", defArgs s_zone_at_odds, defBody s_zone_at_odds, defScope s_zone_at_odds, [], []⟩
def d_wrong : He.DefD := ⟨("wrong", none), "wrong", "wrong", defArgs s_wrong, defBody s_wrong, defScope s_wrong, [], []⟩
def d_is_let_by : He.DefD := ⟨("is_let_by", none), "is_let_by", "is_let_by", defArgs s_is_let_by, defBody s_is_let_by, defScope s_is_let_by, [], []⟩
def d_spur_come_to : He.DefD := ⟨("spur_come_to", none), "spur_come_to", "spur_come_to", defArgs s_spur_come_to, defBody s_spur_come_to, defScope s_spur_come_to, [], []⟩
def d_come_to : He.DefD := ⟨("come_to", none), "come_to", "come_to", defArgs s_come_to, defBody s_come_to, defScope s_come_to, [], []⟩
def d_steps_of : He.DefD := ⟨("steps_of", none), "steps_of", "steps_of", defArgs s_steps_of, defBody s_steps_of, defScope s_steps_of, [], []⟩
def d_feels : He.DefD := ⟨("feels", none), "feels", "feels", defArgs s_feels, defBody s_feels, defScope s_feels, [], []⟩
def d_all_rest : He.DefD := ⟨("all_rest", none), "all_rest", "all_rest", defArgs s_all_rest, defBody s_all_rest, defScope s_all_rest, [], []⟩
def d_heard_by : He.DefD := ⟨("heard_by", none), "heard_by", "heard_by", defArgs s_heard_by, defBody s_heard_by, defScope s_heard_by, [], []⟩
def d_Winit : He.DefD := ⟨("Wires", some "__init__"), "__init__", "Wires.__init__", defArgs s_Winit, defBody s_Winit, defScope s_Winit, [], []⟩
def d_Wneed_stretch : He.DefD := ⟨("Wires", some "need_stretch"), "need_stretch", "Wires.need_stretch", defArgs s_Wneed_stretch, defBody s_Wneed_stretch, defScope s_Wneed_stretch, [], []⟩
def d_Wcut : He.DefD := ⟨("Wires", some "cut"), "cut", "Wires.cut", defArgs s_Wcut, defBody s_Wcut, defScope s_Wcut, [], []⟩
def d_Wshort : He.DefD := ⟨("Wires", some "short"), "short", "Wires.short", defArgs s_Wshort, defBody s_Wshort, defScope s_Wshort, [], []⟩
def d_Wmend : He.DefD := ⟨("Wires", some "mend"), "mend", "Wires.mend", defArgs s_Wmend, defBody s_Wmend, defScope s_Wmend, [], []⟩
def d_Wparted : He.DefD := ⟨("Wires", some "parted"), "parted", "Wires.parted", defArgs s_Wparted, defBody s_Wparted, defScope s_Wparted, [], []⟩
def d_Wchange : He.DefD := ⟨("Wires", some "change"), "change", "Wires.change", defArgs s_Wchange, defBody s_Wchange, defScope s_Wchange, [], []⟩
def d_Wact : He.DefD := ⟨("Wires", some "act"), "act", "Wires.act", defArgs s_Wact, defBody s_Wact, defScope s_Wact, [], []⟩
def d_Wrests : He.DefD := ⟨("Wires", some "rests"), "rests", "Wires.rests", defArgs s_Wrests, defBody s_Wrests, defScope s_Wrests, [], []⟩
def d_Wcome_to_rest : He.DefD := ⟨("Wires", some "come_to_rest"), "come_to_rest", "Wires.come_to_rest", defArgs s_Wcome_to_rest, defBody s_Wcome_to_rest, defScope s_Wcome_to_rest, [], []⟩
def d_Wheard : He.DefD := ⟨("Wires", some "heard"), "heard", "Wires.heard", defArgs s_Wheard, defBody s_Wheard, defScope s_Wheard, [], []⟩
def d_law_bag : He.DefD := ⟨("_law_bag", none), "_law_bag", "_law_bag", defArgs s_law_bag, defBody s_law_bag, defScope s_law_bag, [], []⟩
def d_law_take : He.DefD := ⟨("_law_take", none), "_law_take", "_law_take", defArgs s_law_take, defBody s_law_take, defScope s_law_take, [], []⟩
def d_law_name : He.DefD := ⟨("_law_name", none), "_law_name", "_law_name", defArgs s_law_name, defBody s_law_name, defScope s_law_name, [], []⟩
def d_law_names : He.DefD := ⟨("_law_names", none), "_law_names", "_law_names", defArgs s_law_names, defBody s_law_names, defScope s_law_names, [], []⟩
def d_law_loop : He.DefD := ⟨("_law_loop", none), "_law_loop", "_law_loop", defArgs s_law_loop, defBody s_law_loop, defScope s_law_loop, [], []⟩
def d_law_parts : He.DefD := ⟨("_law_parts", none), "_law_parts", "_law_parts", defArgs s_law_parts, defBody s_law_parts, defScope s_law_parts, [], []⟩
def d_law_plan : He.DefD := ⟨("_law_plan", none), "_law_plan", "_law_plan", defArgs s_law_plan, defBody s_law_plan, defScope s_law_plan, [], []⟩
def d_law_stretches : He.DefD := ⟨("_law_stretches", none), "_law_stretches", "_law_stretches", defArgs s_law_stretches, defBody s_law_stretches, defScope s_law_stretches, [], []⟩
def d_law_befall : He.DefD := ⟨("_law_befall", none), "_law_befall", "_law_befall", defArgs s_law_befall, defBody s_law_befall, defScope s_law_befall, [], []⟩
def d_law_order : He.DefD := ⟨("_law_order", none), "_law_order", "_law_order", defArgs s_law_order, defBody s_law_order, defScope s_law_order, [], []⟩
def d_law : He.DefD := ⟨("law", none), "law", "law", defArgs s_law, defBody s_law, defScope s_law, [], []⟩
def fnA : List He.DefD := [d_is_whole, d_is_name, d_rises, d_are_rising, d_are_whole, d_is_device, d_is_place, d_is_loop, d_is_zone, d_are_zones, d_is_plan, d_devices, d_stretches, d_openers, d_parts, d_told_twice, d_crowded, d_zone_at_odds, d_wrong, d_is_let_by, d_spur_come_to, d_come_to, d_steps_of, d_feels]
def fnB : List He.DefD := [d_all_rest, d_heard_by, d_Winit, d_Wneed_stretch, d_Wcut, d_Wshort, d_Wmend, d_Wparted, d_Wchange, d_Wact, d_Wrests, d_Wcome_to_rest, d_Wheard, d_law_bag, d_law_take, d_law_name, d_law_names, d_law_loop, d_law_parts, d_law_plan, d_law_stretches, d_law_befall, d_law_order, d_law]
def fnAll : List He.DefD := fnA ++ fnB
def faA : List He.Fa := [.glo "is_whole", .glo "is_name", .glo "rises", .glo "are_rising", .glo "are_whole", .glo "is_device", .glo "is_place", .glo "is_loop", .glo "is_zone", .glo "are_zones", .glo "is_plan", .glo "devices", .glo "stretches", .glo "openers", .glo "parts", .glo "told_twice", .glo "crowded", .glo "zone_at_odds", .glo "wrong", .glo "is_let_by", .glo "spur_come_to", .glo "come_to", .glo "steps_of", .glo "feels", .glo "all_rest", .glo "heard_by", .mkr "Wires", .meth "Wires" "need_stretch", .meth "Wires" "cut", .meth "Wires" "short", .meth "Wires" "mend", .meth "Wires" "parted", .meth "Wires" "change", .meth "Wires" "act", .meth "Wires" "rests", .meth "Wires" "come_to_rest", .meth "Wires" "heard", .glo "_law_bag", .glo "_law_take", .glo "_law_name", .glo "_law_names", .glo "_law_loop", .glo "_law_parts", .glo "_law_plan", .glo "_law_stretches", .glo "_law_befall", .glo "_law_order", .glo "law"]
def faB : List He.Fa := [.free "isinstance", .free "int", .free "bool", .free "tuple", .free "str", .free "len", .free "all", .free "any", .free "range", .free "enumerate", .free "set", .free "sorted", .free "list", .free "dict", .free "min", .free "max", .free "abs", .str "LETTERS" "abcdefghijklmnopqrstuvwxyz", .int "MOST_LETTERS" 8, .str "OPENER" "opener", .int "MOST_ADDRESS" 99, .int "MOST_DEVICES" 30, .int "MOST_LOOPS" 3, .int "MOST_PLACES" 12, .int "MOST_SPUR" 3, .int "MOST_ZONES" 8, .int "MOST_NUMBER" 99, .glo "KINDS", .glo "TOLD_BY", .glo "Wires", .cls "Wires", .noat "Wires" "plan", .noat "Wires" "hows", .noat "Wires" "stops", .noat "Wires" "devices_there"]
def faAll : List He.Fa := faA ++ faB
def exW (K : PySem.W.Frag) : Bool := He.tupB K "KINDS" [.str "seeker", .str "knob", .str "bell", .str "door"] && He.tupB K "TOLD_BY" [.str "seeker", .str "knob"]
abbrev RowO : PySem.W.OpenRow := PySem.W.OpenLaw.row PySem.Challenge.rw_warnloop_k10_whole_any_order_one_rest
abbrev hkW : PySem.W.Hook := He.hookX 4 faAll fnAll [] [] exW
def obW (s : PySem.W.SharedT) : He.AlX := He.obsX 4 faAll fnAll [] [] exW (HandSHeadRun.getT s)
theorem obW_eq (s : PySem.W.SharedT) : obW s = hkW.obs s.abs := He.obsX_eq (HandSHeadRun.getT_eq s)
def lo0 : List PySem.Str := ["_wall", "HouseError", "NoPlan", "NoStretch", "NoOpener", "LETTERS", "MOST_LETTERS", "is_whole", "is_name", "rises", "are_rising", "are_whole", "KINDS", "TOLD_BY", "OPENER", "MOST_ADDRESS", "MOST_DEVICES", "MOST_LOOPS", "MOST_PLACES", "MOST_SPUR"]
def lo1 : List PySem.Str := ["MOST_ZONES", "is_device", "is_place", "is_loop", "is_zone", "are_zones", "is_plan", "devices", "stretches", "openers", "parts", "told_twice", "crowded", "zone_at_odds", "wrong", "is_let_by", "spur_come_to", "come_to", "steps_of", "feels"]
def lo2 : List PySem.Str := ["all_rest", "heard_by", "MOST_NUMBER", "Wires", "_law_bag", "_law_take", "_law_name", "_law_names", "_law_loop", "_law_parts", "_law_plan", "_law_stretches", "_law_befall", "_law_order"]
def looseW : List PySem.Str := lo0 ++ lo1 ++ lo2
theorem runW (w : World) : HandSHeadRun.RunEq RowO (PySem.W.view RowO.prog [60]) hkW obW 3000 looseW w := by
  intro os
  kernel_rfl
theorem fun_of {K : PySem.W.Frag} {x q : Str} {st : Stmt} {a : Addr} {e : FuncData} (F : FunD K x q (defArgs st) (defBody st) (defScope st) [] [] a e) : Fun K x q st a e := by
  obtain ⟨⟨oc, od, dV, kV, doc, pm, an, cdv, ct, osl, h1, h2, h3, h4, _⟩, kp⟩ := F
  rcases h4 with ⟨_, rfl⟩ | ⟨z, _⟩
  · exact ⟨⟨oc, od, kV, doc, pm, an, cdv, ct, osl, h1, h2, h3⟩, kp⟩
  · exact absurd rfl z
theorem txt_of {w : World} {h : Heap} {mg : Str → Option Value} {K : PySem.W.Frag} (X : K.In h) (G : h.Ns mainGlobals mg) (c : He.SaysX faAll fnAll [] [] exW w h K) :
    ∃ fd : Nat → FuncData, Txt K mg (fun i => He.fAd K (fnAll.getD i d_is_whole).at_) fd (He.ga K "Wires") (He.ga K "KINDS") (He.ga K "TOLD_BY") := by
  have t := c.t.d
  obtain ⟨fd0, F0⟩ := t.def_ 0 (d := d_is_whole) rfl
  obtain ⟨fd1, F1⟩ := t.def_ 1 (d := d_is_name) rfl
  obtain ⟨fd2, F2⟩ := t.def_ 2 (d := d_rises) rfl
  obtain ⟨fd3, F3⟩ := t.def_ 3 (d := d_are_rising) rfl
  obtain ⟨fd4, F4⟩ := t.def_ 4 (d := d_are_whole) rfl
  obtain ⟨fd5, F5⟩ := t.def_ 5 (d := d_is_device) rfl
  obtain ⟨fd6, F6⟩ := t.def_ 6 (d := d_is_place) rfl
  obtain ⟨fd7, F7⟩ := t.def_ 7 (d := d_is_loop) rfl
  obtain ⟨fd8, F8⟩ := t.def_ 8 (d := d_is_zone) rfl
  obtain ⟨fd9, F9⟩ := t.def_ 9 (d := d_are_zones) rfl
  obtain ⟨fd10, F10⟩ := t.def_ 10 (d := d_is_plan) rfl
  obtain ⟨fd11, F11⟩ := t.def_ 11 (d := d_devices) rfl
  obtain ⟨fd12, F12⟩ := t.def_ 12 (d := d_stretches) rfl
  obtain ⟨fd13, F13⟩ := t.def_ 13 (d := d_openers) rfl
  obtain ⟨fd14, F14⟩ := t.def_ 14 (d := d_parts) rfl
  obtain ⟨fd15, F15⟩ := t.def_ 15 (d := d_told_twice) rfl
  obtain ⟨fd16, F16⟩ := t.def_ 16 (d := d_crowded) rfl
  obtain ⟨fd17, F17⟩ := t.def_ 17 (d := d_zone_at_odds) rfl
  obtain ⟨fd18, F18⟩ := t.def_ 18 (d := d_wrong) rfl
  obtain ⟨fd19, F19⟩ := t.def_ 19 (d := d_is_let_by) rfl
  obtain ⟨fd20, F20⟩ := t.def_ 20 (d := d_spur_come_to) rfl
  obtain ⟨fd21, F21⟩ := t.def_ 21 (d := d_come_to) rfl
  obtain ⟨fd22, F22⟩ := t.def_ 22 (d := d_steps_of) rfl
  obtain ⟨fd23, F23⟩ := t.def_ 23 (d := d_feels) rfl
  obtain ⟨fd24, F24⟩ := t.def_ 24 (d := d_all_rest) rfl
  obtain ⟨fd25, F25⟩ := t.def_ 25 (d := d_heard_by) rfl
  obtain ⟨fd26, F26⟩ := t.def_ 26 (d := d_Winit) rfl
  obtain ⟨fd27, F27⟩ := t.def_ 27 (d := d_Wneed_stretch) rfl
  obtain ⟨fd28, F28⟩ := t.def_ 28 (d := d_Wcut) rfl
  obtain ⟨fd29, F29⟩ := t.def_ 29 (d := d_Wshort) rfl
  obtain ⟨fd30, F30⟩ := t.def_ 30 (d := d_Wmend) rfl
  obtain ⟨fd31, F31⟩ := t.def_ 31 (d := d_Wparted) rfl
  obtain ⟨fd32, F32⟩ := t.def_ 32 (d := d_Wchange) rfl
  obtain ⟨fd33, F33⟩ := t.def_ 33 (d := d_Wact) rfl
  obtain ⟨fd34, F34⟩ := t.def_ 34 (d := d_Wrests) rfl
  obtain ⟨fd35, F35⟩ := t.def_ 35 (d := d_Wcome_to_rest) rfl
  obtain ⟨fd36, F36⟩ := t.def_ 36 (d := d_Wheard) rfl
  obtain ⟨fd37, F37⟩ := t.def_ 37 (d := d_law_bag) rfl
  obtain ⟨fd38, F38⟩ := t.def_ 38 (d := d_law_take) rfl
  obtain ⟨fd39, F39⟩ := t.def_ 39 (d := d_law_name) rfl
  obtain ⟨fd40, F40⟩ := t.def_ 40 (d := d_law_names) rfl
  obtain ⟨fd41, F41⟩ := t.def_ 41 (d := d_law_loop) rfl
  obtain ⟨fd42, F42⟩ := t.def_ 42 (d := d_law_parts) rfl
  obtain ⟨fd43, F43⟩ := t.def_ 43 (d := d_law_plan) rfl
  obtain ⟨fd44, F44⟩ := t.def_ 44 (d := d_law_stretches) rfl
  obtain ⟨fd45, F45⟩ := t.def_ 45 (d := d_law_befall) rfl
  obtain ⟨fd46, F46⟩ := t.def_ 46 (d := d_law_order) rfl
  obtain ⟨fd47, F47⟩ := t.def_ 47 (d := d_law) rfl
  have b0 : Binds K fd0 ["thing", "least", "most"] [] := FunD.bindsN F0 fun _ _ _ _ _ _ us hl => match us, hl with | [_, _, _], _ => rfl
  have b1 : Binds K fd1 ["thing"] [] := FunD.bindsN F1 fun _ _ _ _ _ _ us hl => match us, hl with | [_], _ => rfl
  have b2 : Binds K fd2 ["things"] [] := FunD.bindsN F2 fun _ _ _ _ _ _ us hl => match us, hl with | [_], _ => rfl
  have b3 : Binds K fd3 ["thing", "many", "least", "most"] [] := FunD.bindsN F3 fun _ _ _ _ _ _ us hl => match us, hl with | [_, _, _, _], _ => rfl
  have b4 : Binds K fd4 ["thing", "many", "least", "most"] [] := FunD.bindsN F4 fun _ _ _ _ _ _ us hl => match us, hl with | [_, _, _, _], _ => rfl
  have b5 : Binds K fd5 ["thing"] [] := FunD.bindsN F5 fun _ _ _ _ _ _ us hl => match us, hl with | [_], _ => rfl
  have b6 : Binds K fd6 ["thing"] [] := FunD.bindsN F6 fun _ _ _ _ _ _ us hl => match us, hl with | [_], _ => rfl
  have b7 : Binds K fd7 ["thing"] [] := FunD.bindsN F7 fun _ _ _ _ _ _ us hl => match us, hl with | [_], _ => rfl
  have b8 : Binds K fd8 ["thing"] [] := FunD.bindsN F8 fun _ _ _ _ _ _ us hl => match us, hl with | [_], _ => rfl
  have b9 : Binds K fd9 ["thing"] [] := FunD.bindsN F9 fun _ _ _ _ _ _ us hl => match us, hl with | [_], _ => rfl
  have b10 : Binds K fd10 ["thing"] [] := FunD.bindsN F10 fun _ _ _ _ _ _ us hl => match us, hl with | [_], _ => rfl
  have b11 : Binds K fd11 ["plan"] [] := FunD.bindsN F11 fun _ _ _ _ _ _ us hl => match us, hl with | [_], _ => rfl
  have b12 : Binds K fd12 ["plan"] [] := FunD.bindsN F12 fun _ _ _ _ _ _ us hl => match us, hl with | [_], _ => rfl
  have b13 : Binds K fd13 ["plan"] [] := FunD.bindsN F13 fun _ _ _ _ _ _ us hl => match us, hl with | [_], _ => rfl
  have b14 : Binds K fd14 ["plan", "loop"] [] := FunD.bindsN F14 fun _ _ _ _ _ _ us hl => match us, hl with | [_, _], _ => rfl
  have b15 : Binds K fd15 ["plan"] [] := FunD.bindsN F15 fun _ _ _ _ _ _ us hl => match us, hl with | [_], _ => rfl
  have b16 : Binds K fd16 ["plan"] [] := FunD.bindsN F16 fun _ _ _ _ _ _ us hl => match us, hl with | [_], _ => rfl
  have b17 : Binds K fd17 ["plan"] [] := FunD.bindsN F17 fun _ _ _ _ _ _ us hl => match us, hl with | [_], _ => rfl
  have b18 : Binds K fd18 ["plan"] [] := FunD.bindsN F18 fun _ _ _ _ _ _ us hl => match us, hl with | [_], _ => rfl
  have b19 : Binds K fd19 ["thing"] [] := FunD.bindsN F19 fun _ _ _ _ _ _ us hl => match us, hl with | [_], _ => rfl
  have b20 : Binds K fd20 ["plan", "hows", "loop", "at"] [] := FunD.bindsN F20 fun _ _ _ _ _ _ us hl => match us, hl with | [_, _, _, _], _ => rfl
  have b21 : Binds K fd21 ["plan", "hows", "stops", "loop", "place", "step"] [] := FunD.bindsN F21 fun _ _ _ _ _ _ us hl => match us, hl with | [_, _, _, _, _, _], _ => rfl
  have b22 : Binds K fd22 ["plan", "opener"] [] := FunD.bindsN F22 fun _ _ _ _ _ _ us hl => match us, hl with | [_, _], _ => rfl
  have b23 : Binds K fd23 ["plan", "hows", "stops", "opener"] [] := FunD.bindsN F23 fun _ _ _ _ _ _ us hl => match us, hl with | [_, _, _, _], _ => rfl
  have b24 : Binds K fd24 ["plan", "hows", "stops"] [] := FunD.bindsN F24 fun _ _ _ _ _ _ us hl => match us, hl with | [_, _, _], _ => rfl
  have b25 : Binds K fd25 ["plan", "hows", "stops", "loop", "end"] [] := FunD.bindsN F25 fun _ _ _ _ _ _ us hl => match us, hl with | [_, _, _, _, _], _ => rfl
  have b26 : Binds K fd26 ["self", "plan"] [] := FunD.bindsN F26 fun _ _ _ _ _ _ us hl => match us, hl with | [_, _], _ => rfl
  have b27 : Binds K fd27 ["self", "stretch"] [] := FunD.bindsN F27 fun _ _ _ _ _ _ us hl => match us, hl with | [_, _], _ => rfl
  have b28 : Binds K fd28 ["self", "stretch"] [] := FunD.bindsN F28 fun _ _ _ _ _ _ us hl => match us, hl with | [_, _], _ => rfl
  have b29 : Binds K fd29 ["self", "stretch"] [] := FunD.bindsN F29 fun _ _ _ _ _ _ us hl => match us, hl with | [_, _], _ => rfl
  have b30 : Binds K fd30 ["self", "stretch"] [] := FunD.bindsN F30 fun _ _ _ _ _ _ us hl => match us, hl with | [_, _], _ => rfl
  have b31 : Binds K fd31 ["self"] [] := FunD.bindsN F31 fun _ _ _ _ _ _ us hl => match us, hl with | [_], _ => rfl
  have b32 : Binds K fd32 ["self", "opener"] [] := FunD.bindsN F32 fun _ _ _ _ _ _ us hl => match us, hl with | [_, _], _ => rfl
  have b33 : Binds K fd33 ["self", "opener"] [] := FunD.bindsN F33 fun _ _ _ _ _ _ us hl => match us, hl with | [_, _], _ => rfl
  have b34 : Binds K fd34 ["self"] [] := FunD.bindsN F34 fun _ _ _ _ _ _ us hl => match us, hl with | [_], _ => rfl
  have b35 : Binds K fd35 ["self"] [] := FunD.bindsN F35 fun _ _ _ _ _ _ us hl => match us, hl with | [_], _ => rfl
  have b36 : Binds K fd36 ["self", "loop", "end"] [] := FunD.bindsN F36 fun _ _ _ _ _ _ us hl => match us, hl with | [_, _, _], _ => rfl
  have b37 : Binds K fd37 ["_law_script", "_law_k"] [] := FunD.bindsN F37 fun _ _ _ _ _ _ us hl => match us, hl with | [_, _], _ => rfl
  have b38 : Binds K fd38 ["_law_bag_here", "_law_many"] [] := FunD.bindsN F38 fun _ _ _ _ _ _ us hl => match us, hl with | [_, _], _ => rfl
  have b39 : Binds K fd39 ["_law_bag_here"] [] := FunD.bindsN F39 fun _ _ _ _ _ _ us hl => match us, hl with | [_], _ => rfl
  have b40 : Binds K fd40 ["_law_bag_here", "_law_many"] [] := FunD.bindsN F40 fun _ _ _ _ _ _ us hl => match us, hl with | [_, _], _ => rfl
  have b41 : Binds K fd41 ["_law_bag_here", "_law_numbers", "_law_most_places"] [] := FunD.bindsN F41 fun _ _ _ _ _ _ us hl => match us, hl with | [_, _, _], _ => rfl
  have b42 : Binds K fd42 ["_law_places"] [] := FunD.bindsN F42 fun _ _ _ _ _ _ us hl => match us, hl with | [_], _ => rfl
  have b43 : Binds K fd43 ["_law_bag_here", "_law_most_loops", "_law_most_places"] [] := FunD.bindsN F43 fun _ _ _ _ _ _ us hl => match us, hl with | [_, _, _], _ => rfl
  have b44 : Binds K fd44 ["_law_plan_here"] [] := FunD.bindsN F44 fun _ _ _ _ _ _ us hl => match us, hl with | [_], _ => rfl
  have b45 : Binds K fd45 ["_law_bag_here", "_law_wires", "_law_hows", "_law_wire_names"] [] := FunD.bindsN F45 fun _ _ _ _ _ _ us hl => match us, hl with | [_, _, _, _], _ => rfl
  have b46 : Binds K fd46 ["_law_bag_here", "_law_gates"] [] := FunD.bindsN F46 fun _ _ _ _ _ _ us hl => match us, hl with | [_, _], _ => rfl
  have b47 : Binds K fd47 ["_law_script"] [] := FunD.bindsN F47 fun _ _ _ _ _ _ us hl => match us, hl with | [_], _ => rfl
  obtain ⟨e1, e2⟩ := He.ba c.more
  refine ⟨fun i => [fd0, fd1, fd2, fd3, fd4, fd5, fd6, fd7, fd8, fd9, fd10, fd11, fd12, fd13, fd14, fd15, fd16, fd17, fd18, fd19, fd20, fd21, fd22, fd23, fd24, fd25, fd26, fd27, fd28, fd29, fd30, fd31, fd32, fd33, fd34, fd35, fd36, fd37, fd38, fd39, fd40, fd41, fd42, fd43, fd44, fd45, fd46, fd47].getD i fd0, ?_⟩
  constructor
  · exact fun_of F0
  · exact b0
  · exact He.glo_ok X G (t.fact 0 (f := .glo "is_whole") rfl)
  · exact fun_of F1
  · exact b1
  · exact He.glo_ok X G (t.fact 1 (f := .glo "is_name") rfl)
  · exact fun_of F2
  · exact b2
  · exact He.glo_ok X G (t.fact 2 (f := .glo "rises") rfl)
  · exact fun_of F3
  · exact b3
  · exact He.glo_ok X G (t.fact 3 (f := .glo "are_rising") rfl)
  · exact fun_of F4
  · exact b4
  · exact He.glo_ok X G (t.fact 4 (f := .glo "are_whole") rfl)
  · exact fun_of F5
  · exact b5
  · exact He.glo_ok X G (t.fact 5 (f := .glo "is_device") rfl)
  · exact fun_of F6
  · exact b6
  · exact He.glo_ok X G (t.fact 6 (f := .glo "is_place") rfl)
  · exact fun_of F7
  · exact b7
  · exact He.glo_ok X G (t.fact 7 (f := .glo "is_loop") rfl)
  · exact fun_of F8
  · exact b8
  · exact He.glo_ok X G (t.fact 8 (f := .glo "is_zone") rfl)
  · exact fun_of F9
  · exact b9
  · exact He.glo_ok X G (t.fact 9 (f := .glo "are_zones") rfl)
  · exact fun_of F10
  · exact b10
  · exact He.glo_ok X G (t.fact 10 (f := .glo "is_plan") rfl)
  · exact fun_of F11
  · exact b11
  · exact He.glo_ok X G (t.fact 11 (f := .glo "devices") rfl)
  · exact fun_of F12
  · exact b12
  · exact He.glo_ok X G (t.fact 12 (f := .glo "stretches") rfl)
  · exact fun_of F13
  · exact b13
  · exact He.glo_ok X G (t.fact 13 (f := .glo "openers") rfl)
  · exact fun_of F14
  · exact b14
  · exact He.glo_ok X G (t.fact 14 (f := .glo "parts") rfl)
  · exact fun_of F15
  · exact b15
  · exact He.glo_ok X G (t.fact 15 (f := .glo "told_twice") rfl)
  · exact fun_of F16
  · exact b16
  · exact He.glo_ok X G (t.fact 16 (f := .glo "crowded") rfl)
  · exact fun_of F17
  · exact b17
  · exact He.glo_ok X G (t.fact 17 (f := .glo "zone_at_odds") rfl)
  · exact fun_of F18
  · exact b18
  · exact He.glo_ok X G (t.fact 18 (f := .glo "wrong") rfl)
  · exact fun_of F19
  · exact b19
  · exact He.glo_ok X G (t.fact 19 (f := .glo "is_let_by") rfl)
  · exact fun_of F20
  · exact b20
  · exact He.glo_ok X G (t.fact 20 (f := .glo "spur_come_to") rfl)
  · exact fun_of F21
  · exact b21
  · exact He.glo_ok X G (t.fact 21 (f := .glo "come_to") rfl)
  · exact fun_of F22
  · exact b22
  · exact He.glo_ok X G (t.fact 22 (f := .glo "steps_of") rfl)
  · exact fun_of F23
  · exact b23
  · exact He.glo_ok X G (t.fact 23 (f := .glo "feels") rfl)
  · exact fun_of F24
  · exact b24
  · exact He.glo_ok X G (t.fact 24 (f := .glo "all_rest") rfl)
  · exact fun_of F25
  · exact b25
  · exact He.glo_ok X G (t.fact 25 (f := .glo "heard_by") rfl)
  · exact fun_of F26
  · exact b26
  · exact He.mkr_ok (t.fact 26 (f := .mkr "Wires") rfl)
  · exact fun_of F27
  · exact b27
  · exact He.meth_ok (t.fact 27 (f := .meth "Wires" "need_stretch") rfl)
  · exact fun_of F28
  · exact b28
  · exact He.meth_ok (t.fact 28 (f := .meth "Wires" "cut") rfl)
  · exact fun_of F29
  · exact b29
  · exact He.meth_ok (t.fact 29 (f := .meth "Wires" "short") rfl)
  · exact fun_of F30
  · exact b30
  · exact He.meth_ok (t.fact 30 (f := .meth "Wires" "mend") rfl)
  · exact fun_of F31
  · exact b31
  · exact He.meth_ok (t.fact 31 (f := .meth "Wires" "parted") rfl)
  · exact fun_of F32
  · exact b32
  · exact He.meth_ok (t.fact 32 (f := .meth "Wires" "change") rfl)
  · exact fun_of F33
  · exact b33
  · exact He.meth_ok (t.fact 33 (f := .meth "Wires" "act") rfl)
  · exact fun_of F34
  · exact b34
  · exact He.meth_ok (t.fact 34 (f := .meth "Wires" "rests") rfl)
  · exact fun_of F35
  · exact b35
  · exact He.meth_ok (t.fact 35 (f := .meth "Wires" "come_to_rest") rfl)
  · exact fun_of F36
  · exact b36
  · exact He.meth_ok (t.fact 36 (f := .meth "Wires" "heard") rfl)
  · exact fun_of F37
  · exact b37
  · exact He.glo_ok X G (t.fact 37 (f := .glo "_law_bag") rfl)
  · exact fun_of F38
  · exact b38
  · exact He.glo_ok X G (t.fact 38 (f := .glo "_law_take") rfl)
  · exact fun_of F39
  · exact b39
  · exact He.glo_ok X G (t.fact 39 (f := .glo "_law_name") rfl)
  · exact fun_of F40
  · exact b40
  · exact He.glo_ok X G (t.fact 40 (f := .glo "_law_names") rfl)
  · exact fun_of F41
  · exact b41
  · exact He.glo_ok X G (t.fact 41 (f := .glo "_law_loop") rfl)
  · exact fun_of F42
  · exact b42
  · exact He.glo_ok X G (t.fact 42 (f := .glo "_law_parts") rfl)
  · exact fun_of F43
  · exact b43
  · exact He.glo_ok X G (t.fact 43 (f := .glo "_law_plan") rfl)
  · exact fun_of F44
  · exact b44
  · exact He.glo_ok X G (t.fact 44 (f := .glo "_law_stretches") rfl)
  · exact fun_of F45
  · exact b45
  · exact He.glo_ok X G (t.fact 45 (f := .glo "_law_befall") rfl)
  · exact fun_of F46
  · exact b46
  · exact He.glo_ok X G (t.fact 46 (f := .glo "_law_order") rfl)
  · exact fun_of F47
  · exact b47
  · exact He.glo_ok X G (t.fact 47 (f := .glo "law") rfl)
  · exact He.free_ok X G (t.fact 48 (f := .free "isinstance") rfl)
  · exact He.free_ok X G (t.fact 49 (f := .free "int") rfl)
  · exact He.free_ok X G (t.fact 50 (f := .free "bool") rfl)
  · exact He.free_ok X G (t.fact 51 (f := .free "tuple") rfl)
  · exact He.free_ok X G (t.fact 52 (f := .free "str") rfl)
  · exact He.free_ok X G (t.fact 53 (f := .free "len") rfl)
  · exact He.free_ok X G (t.fact 54 (f := .free "all") rfl)
  · exact He.free_ok X G (t.fact 55 (f := .free "any") rfl)
  · exact He.free_ok X G (t.fact 56 (f := .free "range") rfl)
  · exact He.free_ok X G (t.fact 57 (f := .free "enumerate") rfl)
  · exact He.free_ok X G (t.fact 58 (f := .free "set") rfl)
  · exact He.free_ok X G (t.fact 59 (f := .free "sorted") rfl)
  · exact He.free_ok X G (t.fact 60 (f := .free "list") rfl)
  · exact He.free_ok X G (t.fact 61 (f := .free "dict") rfl)
  · exact He.free_ok X G (t.fact 62 (f := .free "min") rfl)
  · exact He.free_ok X G (t.fact 63 (f := .free "max") rfl)
  · exact He.free_ok X G (t.fact 64 (f := .free "abs") rfl)
  · exact He.str_ok X G (t.fact 65 (f := .str "LETTERS" "abcdefghijklmnopqrstuvwxyz") rfl)
  · exact He.int_ok X G (t.fact 66 (f := .int "MOST_LETTERS" 8) rfl)
  · exact He.str_ok X G (t.fact 67 (f := .str "OPENER" "opener") rfl)
  · exact He.int_ok X G (t.fact 68 (f := .int "MOST_ADDRESS" 99) rfl)
  · exact He.int_ok X G (t.fact 69 (f := .int "MOST_DEVICES" 30) rfl)
  · exact He.int_ok X G (t.fact 70 (f := .int "MOST_LOOPS" 3) rfl)
  · exact He.int_ok X G (t.fact 71 (f := .int "MOST_PLACES" 12) rfl)
  · exact He.int_ok X G (t.fact 72 (f := .int "MOST_SPUR" 3) rfl)
  · exact He.int_ok X G (t.fact 73 (f := .int "MOST_ZONES" 8) rfl)
  · exact He.int_ok X G (t.fact 74 (f := .int "MOST_NUMBER" 99) rfl)
  · exact He.glo_ok X G (t.fact 75 (f := .glo "KINDS") rfl)
  · exact fun H => He.tupB_ok e1 H
  · exact He.glo_ok X G (t.fact 76 (f := .glo "TOLD_BY") rfl)
  · exact fun H => He.tupB_ok e2 H
  · exact He.glo_ok X G (t.fact 77 (f := .glo "Wires") rfl)
  · exact He.cls_ok (t.fact 78 (f := .cls "Wires") rfl)
  · exact He.noat_ok (t.fact 79 (f := .noat "Wires" "plan") rfl)
  · exact He.noat_ok (t.fact 80 (f := .noat "Wires" "hows") rfl)
  · exact He.noat_ok (t.fact 81 (f := .noat "Wires" "stops") rfl)
  · exact He.noat_ok (t.fact 82 (f := .noat "Wires" "devices_there") rfl)
end Head
end Wl

namespace Wl
open PySem L2 PyProof.Rows
theorem law_binds {K : PySem.W.Frag} {a : Addr} {e : FuncData} (F : Fun K "law" "law" s_law a e) (s : Shared) (v : Value) : BindsTo s e ⟨[v], []⟩ [("_law_script", v)] := by
  obtain ⟨⟨oc, od, kV, doc, pm, an, cdv, ct, osl, rfl, h2, h3⟩, kp⟩ := F
  exact .of_eq rfl
end Wl
open PySem PySem.W PySem.Calls PyProof.Rows
theorem PySem.Challenge.cw_warnloop_k10_whole_any_order_one_rest_holds : PySem.Challenge.rw_warnloop_k10_whole_any_order_one_rest.Holds := by
  w_on; o_law
  refine HandSHeadRun.head_any (r := OpenLaw.row PySem.Challenge.rw_warnloop_k10_whole_any_order_one_rest) (q := view (OpenLaw.row PySem.Challenge.rw_warnloop_k10_whole_any_order_one_rest).prog [60]) (H := Wl.hkW) (ob := Wl.obW) (M := 3000) (loose := Wl.looseW) (d := HandSHeadRun.topDef (OpenLaw.row PySem.Challenge.rw_warnloop_k10_whole_any_order_one_rest).prog 60) (kwd := []) Wl.obW_eq
    (by kernel_rfl) (fun s => by kernel_rfl) Wl.runW (by kernel_rfl) (by kernel_rfl) (by kernel_rfl) (by rfl) (by first | assumption | decide +kernel) (by decide +kernel) ⟨rfl, rfl, rfl, rfl, rfl, by decide +kernel⟩ ?hw ?hc
  case hw => w_witness2
  case hc =>
    refine L2.walk_ofE (l := PySem.Challenge.rw_warnloop_k10_whole_any_order_one_rest) (n := 63) (k := 9) (x := "_law_script") (CX := L2.CX0) rfl (by decide) (by kernel_rfl) ⟨rfl, by decide, by decide⟩ ?F (fun _ _ _ _ z => z)
    intro w mg fa h Y G hmg0
    obtain ⟨K, KX, c⟩ := Y
    have hmg : mg ("law" : PySem.Str) = some (.ref fa) := by
      have e : (HandSHeadRun.topDef (OpenLaw.row PySem.Challenge.rw_warnloop_k10_whole_any_order_one_rest).prog 60).name = ("law" : PySem.Str) := by kernel_rfl
      rw [← e]
      exact hmg0
    obtain ⟨fd, T⟩ := Wl.txt_of KX G c
    have e := hmg.symm.trans T.m_law
    injection e with e
    injection e with e
    subst e
    exact ⟨K, fd 47, Wl.sp_law K, KX, Wl.law_binds T.F_law, fun H a ns hl _ hS => ⟨a, ns, rfl, hS, Nat.le_trans hl (by decide), fun _ => rfl⟩, fun base _ _ => Wl.ok_law T⟩
