import PyProof.Rows.All
import Wide.All
import OpenK.AllK
import Wide.FinOn
import HandS.Base
import HandS.Call
import HandS.List
import HandS.Comp
import HandS.Words
import HandS.WordsList
import HandS.Exc
import HandS.AnyAll
import HandS.Lambda
import KE.KeyNested
import HandS.ExcOwn
import HandS.WordsExc
import HandS.IsInst
import HandS.Wide
import HandS.Gcd
import HandS.Deep
import HandS.Flow
import HandS.TupAny
import HandS.Text
import HandS.Walk
import HandS.Iter
import HandS.Zip
import HandS.Defaults
import KE.KNest
import HandS.GenOver
import HandS.GenList
import HandS.HeadHook4
import KE.KStateDown
import HandS.EndTab
import HandS.HeadWalk
import HandS.Head0
import HandS.Head1
import HandS.Head2
import HandS.HeadEnd
import HandS.Head3
import HandS.Star
import KE.GoesMore
import KE.GoesZip
import HandS.TupLe
import HandS.SortRule
import HandS.SortInts
import HandS.Small
import HandS.Style
import HandS.TupMul
import KE.DataMinMax
import KE.SortData
import HandS.TryOnly
import HandS.ExcInit
import HandS.ExcField
import HandS.ExcIs
import KE.KExcIs
import HandS.Dict
import KE.KMinKey
import KE.KLam
import KE.LtData
import HandS.SortKw
import HandS.IterNext
import HandS.Conv
import KE.DataCmp
import KE.SortKeyHeap
import HandS.Keys
import HandS.TupSets
import KE.DataAny
import HandS.DictComp
import HandS.More
import HandS.Strs
import KE.KDictCopyH
import KE.KDictPairs
import KE.KDictZip
import PySem.Challenge.RW_tollroads_k13_whole_leader_plans
set_option Elab.async false
set_option linter.all false
set_option maxHeartbeats 4000000
set_option maxRecDepth 100000
namespace Tr
open PySem PySem.Spec L2
set_option maxHeartbeats 0
def top (i : Nat) : Stmt := PySem.Challenge.pw_tollroads_k13_whole_leader_plans.main.body.getD i (.Pass ⟨0, 0, 0, 0⟩)
abbrev s_law_taken : Stmt := top 48
abbrev s_law_pick : Stmt := top 49
abbrev s_law_ratio : Stmt := top 51
abbrev s_law_demand : Stmt := top 56
abbrev s_law_lanes : Stmt := top 58
abbrev s_is_in : Stmt := top 9
abbrev s_is_lane : Stmt := top 23
abbrev s_is_ratio : Stmt := top 18
abbrev s_need_demand : Stmt := top 24
abbrev s_need_lanes : Stmt := top 25
abbrev s_need_share : Stmt := top 35
abbrev s_with_ratios : Stmt := top 30
abbrev s_steep : Stmt := top 36
abbrev s_ratio : Stmt := top 11
abbrev s_minus : Stmt := top 13
abbrev s_less : Stmt := top 16
abbrev s_plus : Stmt := top 12
abbrev s_over : Stmt := top 15
abbrev s_taken_at : Stmt := top 26
abbrev s_flows_at : Stmt := top 29
abbrev s_sorted_ratios : Stmt := top 28
abbrev s_sum_of : Stmt := top 17
abbrev s_level_of : Stmt := top 27
abbrev s_best_flows : Stmt := top 37
abbrev s_by : Stmt := top 14
abbrev s_lane_time : Stmt := top 38
abbrev s_falling : Stmt := top 40
abbrev s_led_of : Stmt := top 41
abbrev s_left_lanes : Stmt := top 42
abbrev s_others_of : Stmt := top 43
abbrev s_total_of : Stmt := top 39
abbrev s_leader_plan : Stmt := top 44
abbrev s_law_is_ratio : Stmt := top 57
abbrev s_law_plus : Stmt := top 52
abbrev s_law_sum : Stmt := top 54
abbrev s_law_by : Stmt := top 53
abbrev s_law_time : Stmt := top 59
abbrev s_law_less : Stmt := top 55
abbrev s_law_lane_rests : Stmt := top 60
abbrev s_law_led : Stmt := top 62
abbrev s_law_whole : Stmt := top 61
abbrev s_law_is_plan : Stmt := top 63
abbrev s_law_alike : Stmt := top 50
abbrev s_are_flows : Stmt := top 31
abbrev s_do_rest : Stmt := top 32
abbrev s_rests_behind : Stmt := top 45
abbrev s_shows_plan : Stmt := top 46
abbrev s_law : Stmt := top 64
def dd_law_taken : He.DefD := ⟨("_law_taken", none), "_law_taken", "_law_taken", defArgs s_law_taken, defBody s_law_taken, defScope s_law_taken, [], []⟩
def dd_law_pick : He.DefD := ⟨("_law_pick", none), "_law_pick", "_law_pick", defArgs s_law_pick, defBody s_law_pick, defScope s_law_pick, [], []⟩
def dd_law_ratio : He.DefD := ⟨("_law_ratio", none), "_law_ratio", "_law_ratio", defArgs s_law_ratio, defBody s_law_ratio, defScope s_law_ratio, [], []⟩
def dd_law_demand : He.DefD := ⟨("_law_demand", none), "_law_demand", "_law_demand", defArgs s_law_demand, defBody s_law_demand, defScope s_law_demand, [], []⟩
def dd_law_lanes : He.DefD := ⟨("_law_lanes", none), "_law_lanes", "_law_lanes", defArgs s_law_lanes, defBody s_law_lanes, defScope s_law_lanes, [], []⟩
def dd_is_in : He.DefD := ⟨("is_in", none), "is_in", "is_in", defArgs s_is_in, defBody s_is_in, defScope s_is_in, [], []⟩
def dd_is_lane : He.DefD := ⟨("is_lane", none), "is_lane", "is_lane", defArgs s_is_lane, defBody s_is_lane, defScope s_is_lane, [], []⟩
def dd_is_ratio : He.DefD := ⟨("is_ratio", none), "is_ratio", "is_ratio", defArgs s_is_ratio, defBody s_is_ratio, defScope s_is_ratio, [], []⟩
def dd_need_demand : He.DefD := ⟨("need_demand", none), "need_demand", "need_demand", defArgs s_need_demand, defBody s_need_demand, defScope s_need_demand, [], []⟩
def dd_need_lanes : He.DefD := ⟨("need_lanes", none), "need_lanes", "need_lanes", defArgs s_need_lanes, defBody s_need_lanes, defScope s_need_lanes, [], []⟩
def dd_need_share : He.DefD := ⟨("need_share", none), "need_share", "need_share", defArgs s_need_share, defBody s_need_share, defScope s_need_share, [], []⟩
def dd_with_ratios : He.DefD := ⟨("with_ratios", none), "with_ratios", "with_ratios", defArgs s_with_ratios, defBody s_with_ratios, defScope s_with_ratios, [], []⟩
def dd_steep : He.DefD := ⟨("steep", none), "steep", "steep", defArgs s_steep, defBody s_steep, defScope s_steep, [], []⟩
def dd_ratio : He.DefD := ⟨("ratio", none), "ratio", "ratio", defArgs s_ratio, defBody s_ratio, defScope s_ratio, [], []⟩
def dd_minus : He.DefD := ⟨("minus", none), "minus", "minus", defArgs s_minus, defBody s_minus, defScope s_minus, [], []⟩
def dd_less : He.DefD := ⟨("less", none), "less", "less", defArgs s_less, defBody s_less, defScope s_less, [], []⟩
def dd_plus : He.DefD := ⟨("plus", none), "plus", "plus", defArgs s_plus, defBody s_plus, defScope s_plus, [], []⟩
def dd_over : He.DefD := ⟨("over", none), "over", "over", defArgs s_over, defBody s_over, defScope s_over, [], []⟩
def dd_taken_at : He.DefD := ⟨("taken_at", none), "taken_at", "taken_at", defArgs s_taken_at, defBody s_taken_at, defScope s_taken_at, [], []⟩
def dd_flows_at : He.DefD := ⟨("flows_at", none), "flows_at", "flows_at", defArgs s_flows_at, defBody s_flows_at, defScope s_flows_at, [], []⟩
def dd_sorted_ratios : He.DefD := ⟨("sorted_ratios", none), "sorted_ratios", "sorted_ratios", defArgs s_sorted_ratios, defBody s_sorted_ratios, defScope s_sorted_ratios, [], []⟩
def dd_sum_of : He.DefD := ⟨("sum_of", none), "sum_of", "sum_of", defArgs s_sum_of, defBody s_sum_of, defScope s_sum_of, [], []⟩
def dd_level_of : He.DefD := ⟨("level_of", none), "level_of", "level_of", defArgs s_level_of, defBody s_level_of, defScope s_level_of, [], []⟩
def dd_best_flows : He.DefD := ⟨("best_flows", none), "best_flows", "best_flows", defArgs s_best_flows, defBody s_best_flows, defScope s_best_flows, [], []⟩
def dd_by : He.DefD := ⟨("by", none), "by", "by", defArgs s_by, defBody s_by, defScope s_by, [], []⟩
def dd_lane_time : He.DefD := ⟨("lane_time", none), "lane_time", "lane_time", defArgs s_lane_time, defBody s_lane_time, defScope s_lane_time, [], []⟩
def dd_falling : He.DefD := ⟨("falling", none), "falling", "falling", defArgs s_falling, defBody s_falling, defScope s_falling, [], []⟩
def dd_led_of : He.DefD := ⟨("led_of", none), "led_of", "led_of", defArgs s_led_of, defBody s_led_of, defScope s_led_of, [], []⟩
def dd_left_lanes : He.DefD := ⟨("left_lanes", none), "left_lanes", "left_lanes", defArgs s_left_lanes, defBody s_left_lanes, defScope s_left_lanes, [], []⟩
def dd_others_of : He.DefD := ⟨("others_of", none), "others_of", "others_of", defArgs s_others_of, defBody s_others_of, defScope s_others_of, [], []⟩
def dd_total_of : He.DefD := ⟨("total_of", none), "total_of", "total_of", defArgs s_total_of, defBody s_total_of, defScope s_total_of, [], []⟩
def dd_leader_plan : He.DefD := ⟨("leader_plan", none), "leader_plan", "leader_plan", defArgs s_leader_plan, defBody s_leader_plan, defScope s_leader_plan, [], []⟩
def dd_law_is_ratio : He.DefD := ⟨("_law_is_ratio", none), "_law_is_ratio", "_law_is_ratio", defArgs s_law_is_ratio, defBody s_law_is_ratio, defScope s_law_is_ratio, [], []⟩
def dd_law_plus : He.DefD := ⟨("_law_plus", none), "_law_plus", "_law_plus", defArgs s_law_plus, defBody s_law_plus, defScope s_law_plus, [], []⟩
def dd_law_sum : He.DefD := ⟨("_law_sum", none), "_law_sum", "_law_sum", defArgs s_law_sum, defBody s_law_sum, defScope s_law_sum, [], []⟩
def dd_law_by : He.DefD := ⟨("_law_by", none), "_law_by", "_law_by", defArgs s_law_by, defBody s_law_by, defScope s_law_by, [], []⟩
def dd_law_time : He.DefD := ⟨("_law_time", none), "_law_time", "_law_time", defArgs s_law_time, defBody s_law_time, defScope s_law_time, [], []⟩
def dd_law_less : He.DefD := ⟨("_law_less", none), "_law_less", "_law_less", defArgs s_law_less, defBody s_law_less, defScope s_law_less, [], []⟩
def dd_law_lane_rests : He.DefD := ⟨("_law_lane_rests", none), "_law_lane_rests", "_law_lane_rests", defArgs s_law_lane_rests, defBody s_law_lane_rests, defScope s_law_lane_rests, [], []⟩
def dd_law_led : He.DefD := ⟨("_law_led", none), "_law_led", "_law_led", defArgs s_law_led, defBody s_law_led, defScope s_law_led, [], []⟩
def dd_law_whole : He.DefD := ⟨("_law_whole", none), "_law_whole", "_law_whole", defArgs s_law_whole, defBody s_law_whole, defScope s_law_whole, [], []⟩
def dd_law_is_plan : He.DefD := ⟨("_law_is_plan", none), "_law_is_plan", "_law_is_plan", defArgs s_law_is_plan, defBody s_law_is_plan, defScope s_law_is_plan, [], []⟩
def dd_law_alike : He.DefD := ⟨("_law_alike", none), "_law_alike", "_law_alike", defArgs s_law_alike, defBody s_law_alike, defScope s_law_alike, [], []⟩
def dd_are_flows : He.DefD := ⟨("are_flows", none), "are_flows", "are_flows", defArgs s_are_flows, defBody s_are_flows, defScope s_are_flows, [], []⟩
def dd_do_rest : He.DefD := ⟨("do_rest", none), "do_rest", "do_rest", defArgs s_do_rest, defBody s_do_rest, defScope s_do_rest, [], []⟩
def dd_rests_behind : He.DefD := ⟨("rests_behind", none), "rests_behind", "rests_behind", defArgs s_rests_behind, defBody s_rests_behind, defScope s_rests_behind, [], []⟩
def dd_shows_plan : He.DefD := ⟨("shows_plan", none), "shows_plan", "shows_plan", defArgs s_shows_plan, defBody s_shows_plan, defScope s_shows_plan, [], []⟩
def dd_law : He.DefD := ⟨("law", none), "law", "law", defArgs s_law, defBody s_law, defScope s_law, [], []⟩
def fnT : List He.DefD := ([dd_law_taken, dd_law_pick, dd_law_ratio, dd_law_demand, dd_law_lanes, dd_is_in, dd_is_lane, dd_is_ratio, dd_need_demand, dd_need_lanes, dd_need_share, dd_with_ratios, dd_steep, dd_ratio, dd_minus, dd_less, dd_plus, dd_over, dd_taken_at, dd_flows_at] : List He.DefD) ++
  ([dd_sorted_ratios, dd_sum_of, dd_level_of, dd_best_flows, dd_by, dd_lane_time, dd_falling, dd_led_of, dd_left_lanes, dd_others_of, dd_total_of, dd_leader_plan, dd_law_is_ratio, dd_law_plus, dd_law_sum, dd_law_by, dd_law_time, dd_law_less, dd_law_lane_rests, dd_law_led] : List He.DefD) ++
  ([dd_law_whole, dd_law_is_plan, dd_law_alike, dd_are_flows, dd_do_rest, dd_rests_behind, dd_shows_plan, dd_law] : List He.DefD)
def faT : List He.Fa := ([.glo "_law_taken", .glo "_law_pick", .glo "_law_ratio", .glo "_law_demand", .glo "_law_lanes", .glo "is_in", .glo "is_lane", .glo "is_ratio", .glo "need_demand", .glo "need_lanes", .glo "need_share", .glo "with_ratios", .glo "steep", .glo "ratio", .glo "minus", .glo "less", .glo "plus", .glo "over", .glo "taken_at", .glo "flows_at"] : List He.Fa) ++
  ([.glo "sorted_ratios", .glo "sum_of", .glo "level_of", .glo "best_flows", .glo "by", .glo "lane_time", .glo "falling", .glo "led_of", .glo "left_lanes", .glo "others_of", .glo "total_of", .glo "leader_plan", .glo "_law_is_ratio", .glo "_law_plus", .glo "_law_sum", .glo "_law_by", .glo "_law_time", .glo "_law_less", .glo "_law_lane_rests", .glo "_law_led"] : List He.Fa) ++
  ([.glo "_law_whole", .glo "_law_is_plan", .glo "_law_alike", .glo "are_flows", .glo "do_rest", .glo "rests_behind", .glo "shows_plan", .glo "law", .free "abs", .free "all", .free "bool", .free "enumerate", .free "int", .free "isinstance", .free "len", .free "list", .free "range", .free "str", .free "tuple", .free "zip"] : List He.Fa) ++
  ([.int "MOST_BASE" 1000, .int "MOST_BOTTOM" 100, .int "MOST_LANES" 8, .int "MOST_PART" 100, .int "MOST_SLOPE" 100, .int "MOST_TOP" 1000] : List He.Fa)
def looseT : List Str := (["RoadError", "BadDemand", "BadLanes", "BadShare", "MOST_SLOPE", "MOST_BASE", "is_in", "ratio", "plus", "minus", "by", "over", "less", "sum_of", "is_ratio", "MOST_TOP", "MOST_BOTTOM", "MOST_LANES", "is_lane", "need_demand"] : List Str) ++
  (["need_lanes", "taken_at", "level_of", "sorted_ratios", "flows_at", "with_ratios", "are_flows", "do_rest", "MOST_PART", "need_share", "steep", "best_flows", "lane_time", "total_of", "falling", "led_of", "left_lanes", "others_of", "leader_plan", "rests_behind"] : List Str) ++
  (["shows_plan", "_law_taken", "_law_pick", "_law_alike", "_law_ratio", "_law_plus", "_law_by", "_law_sum", "_law_less", "_law_demand", "_law_is_ratio", "_law_lanes", "_law_time", "_law_lane_rests", "_law_whole", "_law_led", "_law_is_plan"] : List Str)
def tgT : List He.Defn := [("is_ratio", none), ("are_flows", none), ("shows_plan", none)]
def tlT : List (He.Defn × Str) := []
def tfT : List He.Defn := tgT ++ tlT.map (·.1)
def tabA (K : PySem.W.Frag) (p : He.Defn) : Addr := (He.cT K p).2
def lmA (K : PySem.W.Frag) (q : He.Defn × Str) : Addr × Str := (tabA K q.1, q.2)
def nodT (K : PySem.W.Frag) : Bool := decide ((tgT.map (tabA K) ++ (tlT.map (lmA K)).map (·.1)).Nodup)
def exT (K : PySem.W.Frag) : Bool := nodT K && (He.eqO (PySem.W.nsIn K mainGlobals "gcd") (some (some (.builtin "math.gcd"))))
abbrev hkT : PySem.W.Hook := He.hookX 4 faT fnT [] tfT exT
def obT (s : PySem.W.SharedT) : He.AlX := He.obsX 4 faT fnT [] tfT exT (HandSHeadRun.getT s)
theorem obT_eq (s : PySem.W.SharedT) : obT s = hkT.obs s.abs := He.obsX_eq (HandSHeadRun.getT_eq s)
abbrev rwT : PySem.W.OpenRow := PySem.W.OpenLaw.row PySem.Challenge.rw_tollroads_k13_whole_leader_plans
section
open PySem.W PySem.Calls PyProof.Rows HandSHeadRun
theorem hdJ3 {α β γ δ : Type} {o : Option α} {f : α → β} {g : α → γ} {h : α → δ} {b : β} {c : γ} {d : δ} (p : o.map (fun x => (f x, g x)) = some (b, c)) (q : o.map h = some d) : o.map (fun x => (f x, g x, h x)) = some (b, c, d) := by
  cases o with
  | none => cases q
  | some x =>
    have p1 : (f x, g x) = (b, c) := Option.some.inj p
    have q1 : h x = d := Option.some.inj q
    rw [← q1, ← (Prod.mk.inj p1).1, ← (Prod.mk.inj p1).2]
    rfl
def HdL (w : World) : Prop := (wholeF (fun p => stepQ (denQ tabQ) p w) fenceQ 6000 rwT.prog).map (fun x => (looksF rwT.prog x.1.heap x.2.abs, seenQ (PySem.W.view rwT.prog [0, 64]) looseT (importedModules rwT.prog.main.body) (fun s => xlAt (PySem.W.view rwT.prog [0, 64]) [] s && recOk rwT.toRowW.records s) x.2.abs)) = some (true, openGood (PySem.W.view rwT.prog [0, 64]) looseT)
def HdO (w : World) : Prop := (wholeF (fun p => stepQ (denQ tabQ) p w) fenceQ 6000 rwT.prog).map (fun x => obT x.2) = some (hkT.val w)
def kxH (s : PySem.W.SharedT) : PySem.W.Frag := He.frT (HandSHeadRun.getT s) (He.asD (HandSHeadRun.getT s) 4)
theorem hdV (s : PySem.W.SharedT) (w : World) (q1 : (faT.all fun f => f.ok (kxH s)) = true) (q2 : (fnT.all fun d => d.ok (kxH s)) = true) (q3 : (obT s).1.1.2 = fnT.map He.DefD.val) (q4 : (obT s).1.2 = []) (q5 : (obT s).2 = true) : obT s = hkT.val w := by
  have e : obT s = ((((faT.all fun f => f.ok (kxH s)) && (fnT.all fun d => d.ok (kxH s)), (obT s).1.1.2), (obT s).1.2), (obT s).2) := by kernel_rfl
  rw [q1, q2, q3, q4, q5] at e
  rw [e]
  kernel_rfl
theorem hdJ5 {β : Type} {w : World} {o : Option (β × PySem.W.SharedT)} (a1 : o.map (fun x => faT.all fun f => f.ok (kxH x.2)) = some true) (a2 : o.map (fun x => fnT.all fun d => d.ok (kxH x.2)) = some true) (a3 : o.map (fun x => (obT x.2).1.1.2) = some (fnT.map He.DefD.val)) (a4 : o.map (fun x => (obT x.2).1.2) = some []) (a5 : o.map (fun x => (obT x.2).2) = some true) : o.map (fun x => obT x.2) = some (hkT.val w) := by
  cases o with
  | none => cases a1
  | some x => exact congrArg some (hdV x.2 w (Option.some.inj a1) (Option.some.inj a2) (Option.some.inj a3) (Option.some.inj a4) (Option.some.inj a5))
theorem hdO1 (w : World) : (wholeF (fun p => stepQ (denQ tabQ) p w) fenceQ 6000 rwT.prog).map (fun x => faT.all fun f => f.ok (kxH x.2)) = some true := by kernel_rfl
theorem hdO2 (w : World) : (wholeF (fun p => stepQ (denQ tabQ) p w) fenceQ 6000 rwT.prog).map (fun x => fnT.all fun d => d.ok (kxH x.2)) = some true := by kernel_rfl
theorem hdO3 (w : World) : (wholeF (fun p => stepQ (denQ tabQ) p w) fenceQ 6000 rwT.prog).map (fun x => (obT x.2).1.1.2) = some (fnT.map He.DefD.val) := by kernel_rfl
theorem hdO4 (w : World) : (wholeF (fun p => stepQ (denQ tabQ) p w) fenceQ 6000 rwT.prog).map (fun x => (obT x.2).1.2) = some [] := by kernel_rfl
theorem hdO5 (w : World) : (wholeF (fun p => stepQ (denQ tabQ) p w) fenceQ 6000 rwT.prog).map (fun x => (obT x.2).2) = some true := by kernel_rfl
theorem hdO (w : World) : HdO w := by
  unfold HdO
  exact hdJ5 (hdO1 w) (hdO2 w) (hdO3 w) (hdO4 w) (hdO5 w)
theorem hdL (w : World) : HdL w := by
  unfold HdL
  kernel_rfl
theorem runT (w : World) : RunEqI rwT (PySem.W.view rwT.prog [0, 64]) hkT obT 6000 looseT w := by
  have a := hdL w
  have b := hdO w
  unfold HdL at a
  unfold HdO at b
  unfold RunEqI
  exact hdJ3 a b
end
end Tr
set_option maxHeartbeats 4000000
namespace Tr
open PySem PySem.Spec L2

abbrev D := PyData

def Le (H G : Hp) : Prop := ∀ b u, H b = some u → (∀ ps, u ≠ HO.tbl ps) → G b = some u
theorem Le.refl (H : Hp) : Le H H := fun _ _ e _ => e
theorem Le.trans {H G F : Hp} (a : Le H G) (b : Le G F) : Le H F := fun c u e n => b c u (a c u e n) n
theorem Le.rd {H G : Hp} {a : Addr} {u : HO} (l : Le H G) (nt : ∀ ps, u ≠ HO.tbl ps) (r : Rd H a u) : Rd G a u := by
  rcases r with r | ⟨o, r⟩
  · exact .inl (l a u r nt)
  · exact .inr ⟨o, l a _ r fun ps z => by cases z⟩
theorem Le.sqL {K : PySem.W.Frag} {H G : Hp} {a : Addr} {xs : List V} (l : Le H G) (r : SqL K H a xs) : SqL K G a xs := by
  rcases r with r | r
  · exact .inl (l.rd (fun ps z => by cases z) r)
  · exact .inr r
theorem Le.sqT {K : PySem.W.Frag} {H G : Hp} {a : Addr} {xs : List V} (l : Le H G) (r : SqT K H a xs) : SqT K G a xs := by
  rcases r with r | r
  · exact .inl (l.rd (fun ps z => by cases z) r)
  · exact .inr r
def keyD : Key → D
  | .inl i => .int i
  | .inr x => .str x
mutual
def hashN : NestedKey → Int
  | .none => reduceHash 0xFCA86420
  | .num i => hashInt i
  | .text _ => 0
  | .tup ks => reduceHash (PySem.Builtin.Tuple.tupleHashOf (hashNs ks))
def hashNs : List NestedKey → List Int
  | [] => []
  | k :: ks => hashN k :: hashNs ks
end
mutual
def plainN : NestedKey → Bool
  | .num _ => true
  | .tup ks => plainNs ks
  | _ => false
def plainNs : List NestedKey → Bool
  | [] => true
  | k :: ks => plainN k && plainNs ks
end
def KeyG (k : NestedKey) : Prop := plainN k = true ∧ k.depth ≤ 8 ∧ ∃ ks, k = .tup ks
def entX (z : NestedKey × Addr × Value) : DictEntry := ⟨hashN z.1, .ref z.2.1, z.2.2⟩
abbrev RelX : List (NestedKey × Addr × V) → List (NestedKey × Addr × Value) → Prop := Paired fun x z => z.1 = x.1 ∧ z.2.1 = x.2.1 ∧ RelV x.2.2 z.2.2
def DicO (a : Addr) (xs : List (NestedKey × Addr × V)) : HO := .ext fun h => ∃ o es ep zs, h.get? a = some o ∧ o.ExactDict ∧ o.data = .dict es ep ∧ RelX xs zs ∧ es.toList = zs.map entX
mutual
inductive Dp (K : PySem.W.Frag) (H : Hp) : V → D → Prop
  | non : Dp K H .non .none
  | bl (b : Bool) : Dp K H (.bl b) (.bool b)
  | int (i : Int) : Dp K H (.int i) (.int i)
  | str (x : Str) : Dp K H (.str x) (.str x)
  | lst {a : Addr} {xs : List V} {ds : List D} : SqL K H a xs → DpAll K H xs ds → Dp K H (.ref a) (.list ds)
  | tup {a : Addr} {xs : List V} {ds : List D} : SqT K H a xs → DpAll K H xs ds → Dp K H (.ref a) (.tuple ds)
  | dct {a : Addr} {kvs : List (Key × V)} {ds : List (D × D)} : H a = some (.dK kvs) → kvs.map (fun q => keyD q.1) = ds.map (·.1) → DpAll K H (kvs.map (·.2)) (ds.map (·.2)) → Dp K H (.ref a) (.dict ds)
  | dcX {a : Addr} {xs : List (NestedKey × Addr × V)} {ds : List (D × D)} : xs ≠ [] → H a = some (DicO a xs) → (xs.map (·.1)).Nodup → (∀ x ∈ xs, KeyG x.1) → ds.map (·.1) = xs.map (fun x => x.1.data) → DpAll K H (xs.map fun x => V.ref x.2.1) (ds.map (·.1)) → DpAll K H (xs.map fun x => x.2.2) (ds.map (·.2)) → Dp K H (.ref a) (.dict ds)
inductive DpAll (K : PySem.W.Frag) (H : Hp) : List V → List D → Prop
  | nil : DpAll K H [] []
  | cons {v : V} {vs : List V} {d : D} {ds : List D} : Dp K H v d → DpAll K H vs ds → DpAll K H (v :: vs) (d :: ds)
end
mutual
theorem Le.dp {K : PySem.W.Frag} {H G : Hp} (l : Le H G) : ∀ (d : D) (v : V), Dp K H v d → Dp K G v d
  | .none, _, h => by cases h; exact .non
  | .bool b, _, h => by cases h; exact .bl b
  | .int i, _, h => by cases h; exact .int i
  | .str x, _, h => by cases h; exact .str x
  | .list ds, _, h => by
    cases h with
    | lst s a => exact .lst (l.sqL s) (Le.dps l ds _ a)
  | .tuple ds, _, h => by
    cases h with
    | tup s a => exact .tup (l.sqT s) (Le.dps l ds _ a)
  | .dict ds, _, h => by
    cases h with
    | dct s k a => exact .dct (l _ _ s fun ps z => by cases z) k (Le.dpv l ds _ a)
    | dcX e s n g k t a => exact .dcX e (l _ _ s fun ps z => by cases z) n g k (Le.dpk l ds _ t) (Le.dpv l ds _ a)
theorem Le.dps {K : PySem.W.Frag} {H G : Hp} (l : Le H G) : ∀ (ds : List D) (vs : List V), DpAll K H vs ds → DpAll K G vs ds
  | [], _, h => by cases h; exact .nil
  | d :: ds, _, h => by
    cases h with
    | cons a b => exact .cons (Le.dp l d _ a) (Le.dps l ds _ b)
theorem Le.dpk {K : PySem.W.Frag} {H G : Hp} (l : Le H G) : ∀ (ds : List (D × D)) (vs : List V), DpAll K H vs (ds.map (·.1)) → DpAll K G vs (ds.map (·.1))
  | [], _, h => by cases h; exact .nil
  | (k, d) :: ds, _, h => by
    cases h with
    | cons a b => exact .cons (Le.dp l k _ a) (Le.dpk l ds _ b)
theorem Le.dpv {K : PySem.W.Frag} {H G : Hp} (l : Le H G) : ∀ (ds : List (D × D)) (vs : List V), DpAll K H vs (ds.map (·.2)) → DpAll K G vs (ds.map (·.2))
  | [], _, h => by cases h; exact .nil
  | (k, d) :: ds, _, h => by
    cases h with
    | cons a b => exact .cons (Le.dp l d _ a) (Le.dpv l ds _ b)
end
open PySem.PyData (hasDict hasDictAll) in
mutual
theorem Dp.low {K : PySem.W.Frag} {H : Hp} : ∀ (d : D) (v : V), hasDict d = false → Dp K H v d → L2.Dp K H v d
  | .none, _, _, h => by cases h; exact .non
  | .bool b, _, _, h => by cases h; exact .bl b
  | .int i, _, _, h => by cases h; exact .int i
  | .str x, _, _, h => by cases h; exact .str x
  | .list ds, _, n, h => by
    cases h with
    | lst s a => exact .lst s (Dp.lows ds _ (by simpa only [hasDict] using n) a)
  | .tuple ds, _, n, h => by
    cases h with
    | tup s a => exact .tup s (Dp.lows ds _ (by simpa only [hasDict] using n) a)
  | .dict _, _, n, _ => by simp [hasDict] at n
theorem Dp.lows {K : PySem.W.Frag} {H : Hp} : ∀ (ds : List D) (vs : List V), hasDictAll ds = false → DpAll K H vs ds → L2.DpAll K H vs ds
  | [], _, _, h => by cases h; exact .nil
  | d :: ds, _, n, h => by
    have n' : hasDict d = false ∧ hasDictAll ds = false := by simpa only [hasDictAll, Bool.or_eq_false_iff] using n
    cases h with
    | cons a b => exact .cons (Dp.low d _ n'.1 a) (Dp.lows ds _ n'.2 b)
end
theorem Dp.sh {K : PySem.W.Frag} {H : Hp} {d : D} {v : V} (h : Dp K H v d) (s : SeqAt.shaped d = true) : L2.Dp K H v d := Dp.low d v (PySem.PyData.hasDict_of_canLay d (SeqAt.canLay_of_shaped s)) h

class ProtC where
  p : Addr → Str → Prop
variable [ProtC]
structure Grow (H G : Hp) : Prop where
  le : Le H G
  tb : ∀ P, GxR.TabG H P → GxR.TabG G P
  dm : ∀ b, H b ≠ none → G b ≠ none
  pr : ∀ P q, ProtC.p P q → LamX.TabS H P q → LamX.TabS G P q
theorem Grow.refl (H : Hp) : Grow H H := ⟨Le.refl H, fun _ h => h, fun _ h => h, fun _ _ _ h => h⟩
theorem Grow.trans {H G F : Hp} (a : Grow H G) (b : Grow G F) : Grow H F := ⟨a.le.trans b.le, fun P h => b.tb P (a.tb P h), fun c h => b.dm c (a.dm c h), fun P q h t => b.pr P q h (a.pr P q h t)⟩
theorem Grow.new {H : Hp} {p : Addr} {u : HO} (n : H p = none) : Grow H (upd H p u) := by
  have ne : ∀ b w, H b = some w → b ≠ p := fun b w e => ne_of_none e n
  refine ⟨fun b w e _ => by rw [upd_ne (ne b w e)]; exact e, fun P h => ?_, fun b h => ?_, fun P q _ t => t.ext fun b w e => by rw [upd_ne (ne b w e)]; exact e⟩
  · obtain ⟨ps, e, t⟩ := h
    exact ⟨ps, by rw [upd_ne (ne P _ e)]; exact e, t⟩
  · by_cases c : b = p
    · rw [c, upd_same]; exact fun z => nomatch z
    · rw [upd_ne c]; exact h
theorem TabS.put {H : Hp} {a P : Addr} {q : Str} {xs ys : List V} (ha : H a = some (.lst xs)) (t : LamX.TabS H P q) : LamX.TabS (upd H a (.lst ys)) P q := by
  obtain ⟨ps, e1, t1, t2⟩ := t
  have hP : P ≠ a := fun z => by
    rw [z, ha] at e1
    cases e1
  refine ⟨ps, by rw [upd_ne hP]; exact e1, t1, fun pos cv hc => ?_⟩
  obtain ⟨c, e2, e3⟩ := t2 pos cv hc
  have hc : c ≠ a := fun z => by
    rw [z, ha] at e3
    unfold LamX.CodeO at e3
    cases e3
  exact ⟨c, e2, by rw [upd_ne hc]; exact e3⟩
theorem Grow.free {H G : Hp} {p : Addr} (g : Grow H G) (n : G p = none) : H p = none := by
  cases e : H p with
  | none => rfl
  | some u => exact absurd n (g.dm p (by rw [e]; exact fun z => nomatch z))

noncomputable def hid (S : Addr → Prop) (H : Hp) : Hp := fun b => open Classical in if S b then none else H b
theorem hid_in {S : Addr → Prop} {H : Hp} {b : Addr} (h : ¬ S b) : hid S H b = H b := by unfold hid; rw [if_neg h]
theorem hid_out {S : Addr → Prop} {H : Hp} {b : Addr} (h : S b) : hid S H b = none := by unfold hid; rw [if_pos h]
theorem of_hid {S : Addr → Prop} {H : Hp} {b : Addr} {u : HO} (h : hid S H b = some u) : ¬ S b ∧ H b = some u := by
  by_cases c : S b
  · rw [hid_out c] at h; cases h
  · rw [hid_in c] at h; exact ⟨c, h⟩
theorem hid_le {S S' : Addr → Prop} {H G : Hp} (l : Le H G) (s : ∀ b, S' b → S b) : Le (hid S H) (hid S' G) := fun b u e n => by
  obtain ⟨h1, h2⟩ := of_hid e
  rw [hid_in fun z => h1 (s b z)]
  exact l b u h2 n
theorem hid_sub {S : Addr → Prop} {H : Hp} : Le (hid S H) H := fun b u e _ => (of_hid e).2
structure Exn where
  cls : Str
  fld : Option (Str × D)
structure Wp (A : Type) where
  run : (A → Prop) → (Exn → Prop) → Prop
  mono : ∀ {k k' : A → Prop} {e e' : Exn → Prop}, (∀ a, k a → k' a) → (∀ x, e x → e' x) → run k e → run k' e'
def Wp.pure {A : Type} (a : A) : Wp A := ⟨fun k _ => k a, fun h _ r => h _ r⟩
def Wp.stuck {A : Type} : Wp A := ⟨fun _ _ => False, fun _ _ r => r⟩
def Wp.ex {A : Type} (x : Exn) : Wp A := ⟨fun _ e => e x, fun _ h r => h _ r⟩
def Wp.bind {A C : Type} (m : Wp A) (f : A → Wp C) : Wp C := ⟨fun k e => m.run (fun a => (f a).run k e) e, fun h1 h2 r => m.mono (fun a q => (f a).mono h1 h2 q) h2 r⟩
def Wp.any {A : Type} (P : A → Prop) : Wp A := ⟨fun k _ => ∀ a, P a → k a, fun h _ r a p => h a (r a p)⟩
def Wp.need {A : Type} (c : Prop) (m : Wp A) : Wp A := ⟨fun k e => c ∧ m.run k e, fun h1 h2 r => ⟨r.1, m.mono h1 h2 r.2⟩⟩
section
variable {A C : Type} {k : A → Prop} {e : Exn → Prop}
@[simp] theorem run_pure {a : A} : (Wp.pure a).run k e = k a := rfl
@[simp] theorem run_stuck : (Wp.stuck : Wp A).run k e = False := rfl
@[simp] theorem run_ex {x : Exn} : (Wp.ex x : Wp A).run k e = e x := rfl
@[simp] theorem run_bind {k : C → Prop} {m : Wp A} {f : A → Wp C} : (m.bind f).run k e = m.run (fun a => (f a).run k e) e := rfl
@[simp] theorem run_any {P : A → Prop} : (Wp.any P).run k e = ∀ a, P a → k a := rfl
@[simp] theorem run_need {c : Prop} {m : Wp A} : (Wp.need c m).run k e = (c ∧ m.run k e) := rfl
@[simp] theorem pure_bind {a : A} {f : A → Wp C} : (Wp.pure a).bind f = f a := rfl
end

inductive Sl where
  | non
  | p (d : D)
  | o (ds : List D)
  | v (x : V)
  | t (a : Addr) (φ : Heap → Prop)
abbrev De := List Sl

inductive At where
  | d (x : D)
  | o (l : Addr) (ds : List D)
def lsts : List (Str × At) → List Addr
  | [] => []
  | (_, .d _) :: st => lsts st
  | (_, .o l _) :: st => l :: lsts st
structure Ob where
  C : Addr
  a : Addr
  dx : Addr
  st : List (Str × At)
structure Cs where
  K : PySem.W.Frag
  mg : Str → Option Value
  T : List Addr
  Z : List (Addr × List Int)
  np : ∀ P ∈ T, ∀ q, ¬ ProtC.p P q
  TL : List (Addr × Str)
  pl : ∀ p ∈ TL, ProtC.p p.1 p.2
  ob : Option Ob := none
def AtOk (K : PySem.W.Frag) (S : Addr → Prop) (H : Hp) (v : V) : At → Prop
  | .d x => Dp K (hid S H) v x
  | .o l ds => v = .ref l ∧ S l ∧ ∃ xs, H l = some (.lst xs) ∧ DpAll K (hid S H) xs ds
def AtsOk (K : PySem.W.Frag) (S : Addr → Prop) (H : Hp) : List (Str × V) → List (Str × At) → Prop
  | [], [] => True
  | (n, v) :: vs, (m, x) :: st => n = m ∧ AtOk K S H v x ∧ AtsOk K S H vs st
  | _, _ => False
structure ObOk (K : PySem.W.Frag) (S : Addr → Prop) (H : Hp) (o : Ob) : Prop where
  ins : ∃ vs, H o.a = some (.ins o.C o.dx vs) ∧ AtsOk K S H vs o.st
  own : H o.dx = some (.own o.a)
  sa : S o.a
  sd : S o.dx
theorem AtOk.le {K : PySem.W.Frag} {S S' : Addr → Prop} {H G : Hp} (l : Le H G) (h : Le (hid S H) (hid S' G)) (s : ∀ b, S b → S' b) {v : V} {x : At} (a : AtOk K S H v x) : AtOk K S' G v x := by
  cases x with
  | d x => exact Le.dp h x v a
  | o c ds =>
    obtain ⟨e, h1, xs, h2, h3⟩ := a
    exact ⟨e, s c h1, xs, l c _ h2 (fun ps z => by cases z), Le.dps h ds xs h3⟩
theorem AtsOk.le {K : PySem.W.Frag} {S S' : Addr → Prop} {H G : Hp} (l : Le H G) (h : Le (hid S H) (hid S' G)) (s : ∀ b, S b → S' b) : ∀ {vs : List (Str × V)} {st : List (Str × At)}, AtsOk K S H vs st → AtsOk K S' G vs st
  | [], [], _ => trivial
  | (n, v) :: vs, (m, x) :: st, a => ⟨a.1, a.2.1.le l h s, AtsOk.le l h s a.2.2⟩
  | [], _ :: _, a => a.elim
  | _ :: _, [], a => a.elim
theorem ObOk.le {K : PySem.W.Frag} {S S' : Addr → Prop} {H G : Hp} {o : Ob} (l : Le H G) (h : Le (hid S H) (hid S' G)) (s : ∀ b, S b → S' b) (a : ObOk K S H o) : ObOk K S' G o := by
  obtain ⟨vs, e1, e2⟩ := a.ins
  exact ⟨⟨vs, l _ _ e1 (fun ps z => by cases z), e2.le l h s⟩, l _ _ a.own (fun ps z => by cases z), s _ a.sa, s _ a.sd⟩
def Scr (C : Cs) (S : Addr → Prop) (H : Hp) : Prop := (∀ q ∈ C.Z, SqL C.K H q.1 (q.2.map V.int)) ∧ (∀ p ∈ C.TL, LamX.TabS H p.1 p.2) ∧ ∀ o, C.ob = some o → ObOk C.K S H o
theorem Scr.gr {C : Cs} {S S' : Addr → Prop} {H G : Hp} (s : Scr C S H) (g : Grow H G) (h : Le (hid S H) (hid S' G)) (u : ∀ b, S b → S' b) : Scr C S' G := ⟨fun q hq => g.le.sqL (s.1 q hq), fun p hp => g.pr _ _ (C.pl p hp) (s.2.1 p hp), fun o ho => (s.2.2 o ho).le g.le h u⟩
noncomputable def obh (C : Cs) (H : Hp) : Hp := fun b => open Classical in if ∃ o, C.ob = some o ∧ b ∈ lsts o.st then H b else none
theorem obh_le {C : Cs} {H : Hp} : Le (obh C H) H := fun b u e _ => by
  unfold obh at e
  split at e
  · exact e
  · cases e
theorem AtsOk.lst {K : PySem.W.Frag} {S : Addr → Prop} {H : Hp} : ∀ {vs : List (Str × V)} {st : List (Str × At)}, AtsOk K S H vs st → ∀ b ∈ lsts st, ∃ xs, H b = some (.lst xs)
  | [], [], _, _, hb => by cases hb
  | _ :: vs, (m, .d x) :: st, a, b, hb => AtsOk.lst (vs := vs) a.2.2 b hb
  | _ :: vs, (m, .o l ds) :: st, a, b, hb => by
    rcases List.mem_cons.mp hb with rfl | hb
    · obtain ⟨_, ⟨_, _, xs, h2, _⟩, _⟩ := a
      exact ⟨xs, h2⟩
    · exact AtsOk.lst (vs := vs) a.2.2 b hb
  | [], _ :: _, a, _, _ => a.elim
structure Bx where
  c : Cs
  S : Addr → Prop
  H : Hp
abbrev Cs.bx (C : Cs) (S : Addr → Prop) (H : Hp) : Bx := ⟨C, S, H⟩
def Own (B : Bx) (σ : St) (δ : De) (b : Addr) : Prop := B.S b ∨ ∃ (i : Nat) (ds : List D), δ[i]? = some (Sl.o ds) ∧ σ[i]? = some (some (V.ref b))
structure Rep (B : Bx) (Pb : Hp) (σ : St) (H : Hp) (δ : De) : Prop where
  ph : Le Pb (hid (Own B σ δ) H)
  len : σ.length = δ.length
  grow : Grow B.H H
  dom : ∀ b, B.S b → B.H b ≠ none
  tabs : ∀ P ∈ B.c.T, GxR.TabG H P
  pers : ∀ (i : Nat) (d : D), δ[i]? = some (Sl.p d) → ∃ v, σ[i]? = some (some v) ∧ Dp B.c.K (hid (Own B σ δ) H) v d
  own : ∀ (i : Nat) (ds : List D), δ[i]? = some (Sl.o ds) → ∃ a xs, σ[i]? = some (some (V.ref a)) ∧ H a = some (.lst xs) ∧ B.H a = none ∧ DpAll B.c.K (hid (Own B σ δ) H) xs ds
  uniq : ∀ (i j : Nat) (ds es : List D) (a : Addr), δ[i]? = some (Sl.o ds) → δ[j]? = some (Sl.o es) → σ[i]? = some (some (V.ref a)) → σ[j]? = some (some (V.ref a)) → i = j
  val : ∀ (i : Nat) (x : V), δ[i]? = some (Sl.v x) → σ[i]? = some (some x)
  trk : ∀ (i : Nat) (a : Addr) (φ : Heap → Prop), δ[i]? = some (Sl.t a φ) → σ[i]? = some (some (V.ref a)) ∧ hid (Own B σ δ) H a = some (.ext φ)
  scr : Scr B.c B.S B.H
theorem Rep.gr {B : Bx} {Pb : Hp} {σ : St} {H G : Hp} {δ : De} (r : Rep B Pb σ H δ) (g : Grow H G) : Rep B Pb σ G δ where
  ph := r.ph.trans (hid_le g.le fun _ z => z)
  len := r.len
  grow := r.grow.trans g
  dom := r.dom
  tabs := fun P h => g.tb P (r.tabs P h)
  pers := fun i d e => by
    obtain ⟨v, h1, h2⟩ := r.pers i d e
    exact ⟨v, h1, Le.dp (hid_le g.le fun _ z => z) d v h2⟩
  own := fun i ds e => by
    obtain ⟨a, xs, h1, h2, h3, h4⟩ := r.own i ds e
    exact ⟨a, xs, h1, g.le a _ h2 (fun ps z => by cases z), h3, Le.dps (hid_le g.le fun _ z => z) ds xs h4⟩
  uniq := r.uniq
  val := r.val
  trk := fun i a φ e => ⟨(r.trk i a φ e).1, hid_le g.le (fun _ z => z) a _ (r.trk i a φ e).2 fun ps z => by cases z⟩
  scr := r.scr
theorem Rep.leB {B : Bx} {Pb : Hp} {σ : St} {H : Hp} {δ : De} (r : Rep B Pb σ H δ) : Le (hid B.S B.H) (hid (Own B σ δ) H) := fun b u e n => by
  obtain ⟨h1, h2⟩ := of_hid e
  rw [hid_in]
  · exact r.grow.le b u h2 n
  · rintro (z | ⟨i, ds, e1, e2⟩)
    · exact h1 z
    · obtain ⟨a, xs, q1, _, q3, _⟩ := r.own i ds e1
      rw [e2] at q1
      cases q1
      rw [h2] at q3
      cases q3
theorem Rep.scrO {B : Bx} {Pb : Hp} {σ : St} {H : Hp} {δ : De} (r : Rep B Pb σ H δ) : Scr B.c (Own B σ δ) H := r.scr.gr r.grow r.leB fun _ z => .inl z
def ExAt (B : Bx) (x : Exn) (cls : Value) (dc : Option Addr) (H : Hp) : Prop :=
  (∃ C, B.c.mg x.cls = some (.ref C) ∧ cls = .ref C) ∧ match x.fld with
    | none => dc = none
    | some (n, d) => ∃ a v, dc = some a ∧ H a = some (.xd [(n, v)]) ∧ Dp B.c.K (hid B.S H) v d
def Dv (B : Bx) (σ : St) (H : Hp) (δ : De) (Q : VK) (d : D) : Prop := ∀ v G, Grow H G → Dp B.c.K (hid (Own B σ δ) G) v d → Q v G
def Ew (B : Bx) (W : WX) (σ : St) (H : Hp) (x : Exn) : Prop := ∀ cls dc G, Grow H G → ExAt B x cls dc G → W cls dc σ G
theorem Dv.gr {B : Bx} {σ : St} {H G : Hp} {δ : De} {Q : VK} {d : D} (h : Dv B σ H δ Q d) (g : Grow H G) : Dv B σ G δ Q d := fun v F g' => h v F (g.trans g')
theorem Ew.gr {B : Bx} {W : WX} {σ : St} {H G : Hp} {x : Exn} (h : Ew B W σ H x) (g : Grow H G) : Ew B W σ G x := fun c d F g' => h c d F (g.trans g')

abbrev DF := De → Wp D
def DE (X : Cx) (C : Cs) (W : WX) (e : Expr) (f : DF) : Prop :=
  ∃ t, PE X e t ∧ ∀ S0 H0 Pb σ H δ Q, Rep (C.bx S0 H0) Pb σ H δ → (f δ).run (Dv (C.bx S0 H0) σ H δ Q) (Ew (C.bx S0 H0) W σ H) → t σ H Q
def dC (d : D) : DF := fun _ => .pure d
def slotP : Option Sl → Wp D
  | some (.p d) => .pure d
  | _ => .stuck
def dV (i : Nat) : DF := fun δ => slotP δ[i]?
def d2 (F : D → D → Wp D) (f g : DF) : DF := fun δ => (f δ).bind fun d => (g δ).bind fun e => F d e
def d1 (F : D → Wp D) (f : DF) : DF := fun δ => (f δ).bind F
section
variable {X : Cx} {C : Cs} {W : WX} {pos : Pos}
theorem de_int {i : Int} {j} : DE X C W (.Constant (.int i) j pos) (dC (.int i)) := ⟨_, pe_int, fun _ _ _ _ H _ _ _ h => h _ H (Grow.refl H) (.int i)⟩
theorem de_bl {b : Bool} {j} : DE X C W (.Constant (.bool b) j pos) (dC (.bool b)) := ⟨_, pe_bl, fun _ _ _ _ H _ _ _ h => h _ H (Grow.refl H) (.bl b)⟩
theorem de_non {j} : DE X C W (.Constant .none j pos) (dC .none) := ⟨_, pe_non, fun _ _ _ _ H _ _ _ h => h _ H (Grow.refl H) .non⟩
theorem de_v {i : Nat} {x : Str} (hN : X.N[i]? = some x) (hv : Vis X.env.scope x) (hd : (x == ("__debug__" : Str)) = false := by decide) (hcd : (x == ("__classdict__" : Str)) = false := by decide) : DE X C W (.Name x pos) (dV i) := by
  refine ⟨_, pe_var hN hv hd hcd, fun S0 H0 Pb σ H δ Q r h => ?_⟩
  unfold dV at h
  cases e : δ[i]? with
  | none => rw [e] at h; exact h.elim
  | some z =>
    rw [e] at h
    cases z with
    | non => exact h.elim
    | o ds => exact h.elim
    | v x => exact h.elim
    | t a φ => exact h.elim
    | p d =>
      obtain ⟨v, h1, h2⟩ := r.pers i d e
      exact ⟨v, h1, h v H (Grow.refl H) h2⟩
theorem de_glob {x : Str} {v : V} {u : Value} {d : D} (hg : Gl X x) (hm : X.mg x = some u) (r : RelV v u) (hdp : ∀ H, Dp C.K H v d) (hd : (x == ("__debug__" : Str)) = false := by decide) : DE X C W (.Name x pos) (dC d) :=
  ⟨_, pe_glob hg hm r hd, fun _ _ _ _ H _ _ _ h => h v H (Grow.refl H) (hdp _)⟩

def Op2 (X : Cx) (C : Cs) (r : R2) (F : D → D → Wp D) : Prop := ∀ (x y : V) (H : Hp) (d e : D) (Q : VK) (S0 : Addr → Prop) (H0 Pb : Hp) (σ : St) (δ : De) (W : Exn → Prop), Rep (C.bx S0 H0) Pb σ H δ → Dp C.K (hid (Own (C.bx S0 H0) σ δ) H) x d → Dp C.K (hid (Own (C.bx S0 H0) σ δ) H) y e → (F d e).run (Dv (C.bx S0 H0) σ H δ Q) W → r x y H Q
theorem two {a b : Expr} {f g : DF} {F : D → D → Wp D} {r : R2} (ha : DE X C W a f) (hb : DE X C W b g) (hF : Op2 X C r F) :
    ∃ ta tb, PE X a ta ∧ PE X b tb ∧ ∀ S0 H0 Pb σ H δ Q, Rep (C.bx S0 H0) Pb σ H δ → (d2 F f g δ).run (Dv (C.bx S0 H0) σ H δ Q) (Ew (C.bx S0 H0) W σ H) → tOp r ta tb σ H Q := by
  obtain ⟨ta, pa, qa⟩ := ha
  obtain ⟨tb, pb, qb⟩ := hb
  refine ⟨ta, tb, pa, pb, fun S0 H0 Pb σ H δ Q R h => qa S0 H0 Pb σ H δ _ R ((f δ).mono (fun d h x H1 g1 dx => ?_) (fun _ z => z) h)⟩
  refine qb S0 H0 Pb σ H1 δ _ (R.gr g1) ((g δ).mono (fun e h y H2 g2 dy => ?_) (fun _ z => z.gr g1) h)
  exact hF x y H2 d e Q S0 H0 Pb σ δ _ (R.gr (g1.trans g2)) (Le.dp (hid_le g2.le fun _ z => z) d x dx) dy ((F d e).mono (fun _ z => z.gr (g1.trans g2)) (fun _ z => z) h)
theorem de_op {op : Operator} {a b : Expr} {f g : DF} {F : D → D → Wp D} {r : R2} (ho : OpR X (binaryOp op) r) (hF : Op2 X C r F) (ha : DE X C W a f) (hb : DE X C W b g) : DE X C W (.BinOp a op b pos) (d2 F f g) := by
  obtain ⟨ta, tb, pa, pb, q⟩ := two ha hb hF
  exact ⟨_, pe_op ho pa pb, q⟩
theorem de_cmp {op : CmpOp} {a b : Expr} {f g : DF} {F : D → D → Wp D} {r : R2} (ho : OpR X (compareOp op) r) (hF : Op2 X C r F) (hm : behindInMarks op b = false) (ha : DE X C W a f) (hb : DE X C W b g) : DE X C W (.Compare a [op] [b] pos) (d2 F f g) := by
  obtain ⟨ta, tb, pa, pb, q⟩ := two ha hb hF
  exact ⟨_, pe_cmpR ho pa pb hm, q⟩
end
end Tr

namespace Tr
open PySem PySem.Spec L2
variable [ProtC]

section
variable {X : Cx} {C : Cs} {W : WX} {pos : Pos}
theorem op2_int {r : R2} {g : Int → Int → V} {c : Int → Int → Prop} {F : D → D → Wp D} {q : Int → Int → D}
    (hr : ∀ i j H Q, c i j → Q (g i j) H → r (.int i) (.int j) H Q) (hg : ∀ i j H, Dp C.K H (g i j) (q i j))
    (hF : ∀ d e k w, (F d e).run k w → ∃ i j, d = .int i ∧ e = .int j ∧ c i j ∧ k (q i j)) : Op2 X C r F := by
  intro x y H d e Q S0 H0 Pb σ δ w R dx dy h
  obtain ⟨i, j, rfl, rfl, hc, hk⟩ := hF d e _ _ h
  cases dx
  cases dy
  exact hr i j H Q hc (hk _ H (Grow.refl H) (hg i j _))
end
def dInt2 (c : Int → Int → Prop) (q : Int → Int → D) : D → D → Wp D
  | .int i, .int j => .need (c i j) (.pure (q i j))
  | _, _ => .stuck
theorem dInt2_inv {c : Int → Int → Prop} {q : Int → Int → D} {d e : D} {k : D → Prop} {w : Exn → Prop} (h : (dInt2 c q d e).run k w) : ∃ i j, d = .int i ∧ e = .int j ∧ c i j ∧ k (q i j) := by
  unfold dInt2 at h
  split at h
  · exact ⟨_, _, rfl, rfl, h.1, h.2⟩
  · exact h.elim
abbrev dSub : D → D → Wp D := dInt2 (fun _ _ => True) fun i j => .int (i - j)
abbrev dMul : D → D → Wp D := dInt2 CMulW fun i j => .int (i * j)
abbrev dFdv : D → D → Wp D := dInt2 CDivW fun i j => .int (i / j)
abbrev dMod : D → D → Wp D := dInt2 (fun _ j => 0 < j) fun i j => .int (i % j)
abbrev dLt : D → D → Wp D := dInt2 (fun _ _ => True) fun i j => .bool (decide (i < j))
abbrev dLe : D → D → Wp D := dInt2 (fun _ _ => True) fun i j => .bool (decide (i ≤ j))
abbrev dGt : D → D → Wp D := dInt2 (fun _ _ => True) fun i j => .bool (decide (j < i))
abbrev dGe : D → D → Wp D := dInt2 (fun _ _ => True) fun i j => .bool (decide (j ≤ i))
def dAdd : D → D → Wp D
  | .int i, .int j => .pure (.int (i + j))
  | .tuple xs, .tuple ys => .need (xs.length + ys.length ≤ sizeLine) (.pure (.tuple (xs ++ ys)))
  | .list xs, .list ys => .need (xs.length + ys.length ≤ sizeLine) (.pure (.list (xs ++ ys)))
  | .str x, .str y => .need (x.length + y.length ≤ sizeLine) (.pure (.str (x ++ y)))
  | _, _ => .stuck
def dEq : D → D → Wp D := fun d e => .need (SeqAt.shaped d = true ∧ SeqAt.shaped e = true) (.pure (.bool (PyData.eqv d e)))
def dNe : D → D → Wp D := fun d e => .need (SeqAt.shaped d = true ∧ SeqAt.shaped e = true) (.pure (.bool (!PyData.eqv d e)))
def isNoneD : D → Bool
  | .none => true
  | _ => false
def dIs : D → D → Wp D
  | d, .none => .pure (.bool (isNoneD d))
  | _, _ => .stuck
def dIsNot : D → D → Wp D
  | d, .none => .pure (.bool (!isNoneD d))
  | _, _ => .stuck
theorem hid_dp {K : PySem.W.Frag} {S : Addr → Prop} {H : Hp} {v : V} {d : D} (h : Dp K (hid S H) v d) : Dp K H v d := Le.dp hid_sub d v h
theorem dps_len {K : PySem.W.Frag} {H : Hp} : ∀ {vs : List V} {ds : List D}, DpAll K H vs ds → vs.length = ds.length
  | [], _, h => by cases h; rfl
  | v :: vs, _, h => by
    cases h with
    | cons a b => rw [List.length_cons, List.length_cons, dps_len b]
theorem dps_app {K : PySem.W.Frag} {H : Hp} : ∀ {vs us : List V} {ds es : List D}, DpAll K H vs ds → DpAll K H us es → DpAll K H (vs ++ us) (ds ++ es)
  | [], _, _, _, h, g => by cases h; exact g
  | v :: vs, _, _, _, h, g => by
    cases h with
    | cons a b => exact .cons a (dps_app b g)
theorem dps_get {K : PySem.W.Frag} {H : Hp} : ∀ {vs : List V} {ds : List D} {i : Nat} {d : D}, DpAll K H vs ds → ds[i]? = some d → ∃ v, vs[i]? = some v ∧ Dp K H v d
  | [], _, _, _, h, e => by cases h; simp at e
  | v :: vs, _, 0, d, h, e => by
    cases h with
    | cons a b => exact ⟨v, rfl, by simp at e; subst e; exact a⟩
  | v :: vs, _, i + 1, d, h, e => by
    cases h with
    | cons a b => obtain ⟨u, h1, h2⟩ := dps_get (i := i) b (by simpa using e); exact ⟨u, by simpa using h1, h2⟩
theorem dps_take {K : PySem.W.Frag} {H : Hp} : ∀ {vs : List V} {ds : List D} (n : Nat), DpAll K H vs ds → DpAll K H (vs.take n) (ds.take n)
  | _, _, 0, _ => .nil
  | [], _, n + 1, h => by cases h; exact .nil
  | v :: vs, _, n + 1, h => by
    cases h with
    | cons a b => exact .cons a (dps_take n b)
theorem dps_drop {K : PySem.W.Frag} {H : Hp} : ∀ {vs : List V} {ds : List D} (n : Nat), DpAll K H vs ds → DpAll K H (vs.drop n) (ds.drop n)
  | _, _, 0, h => h
  | [], _, n + 1, h => by cases h; exact .nil
  | v :: vs, _, n + 1, h => by
    cases h with
    | cons a b => exact dps_drop n b
theorem new_tup {B : Bx} {Pb : Hp} {σ : St} {H : Hp} {δ : De} {Q : VK} {xs : List V} {ds : List D} (R : Rep B Pb σ H δ) (h : DpAll B.c.K (hid (Own B σ δ) H) xs ds) (k : Dv B σ H δ Q (.tuple ds)) : ∀ p, H p = none → Q (.ref p) (upd H p (.tup xs)) := by
  intro p n
  have g : Grow H (upd H p (.tup xs)) := Grow.new n
  refine k _ _ g (.tup (SqT.of ?_) (Le.dps (hid_le g.le fun _ z => z) ds xs h))
  rw [hid_in, upd_same]
  rintro (z | ⟨i, es, e1, e2⟩)
  · exact R.grow.dm p (R.dom p z) n
  · obtain ⟨a, ys, q1, q2, _⟩ := R.own i es e1
    rw [e2] at q1
    cases q1
    rw [n] at q2
    cases q2
theorem new_lst {B : Bx} {Pb : Hp} {σ : St} {H : Hp} {δ : De} {Q : VK} {xs : List V} {ds : List D} (R : Rep B Pb σ H δ) (h : DpAll B.c.K (hid (Own B σ δ) H) xs ds) (k : Dv B σ H δ Q (.list ds)) : ∀ p, H p = none → Q (.ref p) (upd H p (.lst xs)) := by
  intro p n
  have g : Grow H (upd H p (.lst xs)) := Grow.new n
  refine k _ _ g (.lst (SqL.of ?_) (Le.dps (hid_le g.le fun _ z => z) ds xs h))
  rw [hid_in, upd_same]
  rintro (z | ⟨i, es, e1, e2⟩)
  · exact R.grow.dm p (R.dom p z) n
  · obtain ⟨a, ys, q1, q2, _⟩ := R.own i es e1
    rw [e2] at q1
    cases q1
    rw [n] at q2
    cases q2
section
variable {X : Cx} {C : Cs} {W : WX} {pos : Pos}
theorem o2_int {r : R2} {g : Int → Int → V} {c : Int → Int → Prop} {q : Int → Int → D} (hr : ∀ i j H Q, c i j → Q (g i j) H → r (.int i) (.int j) H Q) (hg : ∀ i j H, Dp C.K H (g i j) (q i j)) : Op2 X C r (dInt2 c q) :=
  op2_int hr hg fun _ _ _ _ h => dInt2_inv h
theorem o2_0 {g : Int → Int → V} {q : Int → Int → D} (hg : ∀ i j H, Dp C.K H (g i j) (q i j)) : Op2 X C (rI0 g) (dInt2 (fun _ _ => True) q) := o2_int (fun i j H Q _ h => ⟨i, j, rfl, rfl, h⟩) hg
theorem o2_c {c : Int → Int → Prop} {g : Int → Int → V} {q : Int → Int → D} (hg : ∀ i j H, Dp C.K H (g i j) (q i j)) : Op2 X C (rI c g) (dInt2 c q) := o2_int (fun i j H Q hc h => ⟨i, j, rfl, rfl, hc, h⟩) hg
variable {a b : Expr} {f g : DF}
theorem de_sub (ha : DE X C W a f) (hb : DE X C W b g) : DE X C W (.BinOp a .Sub b pos) (d2 dSub f g) := de_op op_sub (o2_0 fun _ _ _ => .int _) ha hb
theorem de_mul (ha : DE X C W a f) (hb : DE X C W b g) : DE X C W (.BinOp a .Mult b pos) (d2 dMul f g) := de_op op_mulW (o2_c fun _ _ _ => .int _) ha hb
theorem de_fdv (ha : DE X C W a f) (hb : DE X C W b g) : DE X C W (.BinOp a .FloorDiv b pos) (d2 dFdv f g) := de_op op_fdivW (o2_c fun _ _ _ => .int _) ha hb
theorem de_mod (ha : DE X C W a f) (hb : DE X C W b g) : DE X C W (.BinOp a .Mod b pos) (d2 dMod f g) := de_op op_mod (o2_c fun _ _ _ => .int _) ha hb
theorem de_lt (ha : DE X C W a f) (hb : DE X C W b g) : DE X C W (.Compare a [.Lt] [b] pos) (d2 dLt f g) := de_cmp op_lt (o2_0 fun _ _ _ => .bl _) (nomark _) ha hb
theorem de_gt (ha : DE X C W a f) (hb : DE X C W b g) : DE X C W (.Compare a [.Gt] [b] pos) (d2 dGt f g) := de_cmp op_gt (o2_0 fun _ _ _ => .bl _) (nomark _) ha hb
theorem de_ge (ha : DE X C W a f) (hb : DE X C W b g) : DE X C W (.Compare a [.GtE] [b] pos) (d2 dGe f g) := de_cmp op_ge (o2_0 fun _ _ _ => .bl _) (nomark _) ha hb
theorem o2_eq : Op2 X C (rEqD C.K) dEq := fun x y H d e Q S0 H0 Pb σ δ w R dx dy h => ⟨d, e, (hid_dp dx).sh h.1.1, (hid_dp dy).sh h.1.2, h.1.1, h.1.2, h.2 _ H (Grow.refl H) (.bl _)⟩
theorem o2_ne : Op2 X C (rNeD C.K) dNe := fun x y H d e Q S0 H0 Pb σ δ w R dx dy h => ⟨d, e, (hid_dp dx).sh h.1.1, (hid_dp dy).sh h.1.2, h.1.1, h.1.2, h.2 _ H (Grow.refl H) (.bl _)⟩
theorem de_eq (hK : C.K = X.K) {k : Nat} (hr : Room k X.A) (ha : DE X C W a f) (hb : DE X C W b g) : DE X C W (.Compare a [.Eq] [b] pos) (d2 dEq f g) := de_cmp (op_eqD hr.units) (by rw [← hK]; exact o2_eq) (nomark _) ha hb
theorem isNoneD_v {K : PySem.W.Frag} {H : Hp} {v : V} {d : D} (h : Dp K H v d) : decide (v = V.non) = isNoneD d := by
  cases h <;> simp [isNoneD]
def rCatL (K : PySem.W.Frag) : R2 := fun x y H Q => ∃ l b xs zs, x = .ref l ∧ y = .ref b ∧ SqL K H l xs ∧ SqL K H b zs ∧ xs.length + zs.length ≤ sizeLine ∧ ∀ p, H p = none → Q (.ref p) (upd H p (.lst (xs ++ zs)))
theorem op_catL : OpR X (binaryOp .Add) (rCatL X.K) := by
  intro pins s σ H x y v u Q I rx ry h
  obtain ⟨l, b, xs, zs, rfl, rfl, hl, hb, hz, q⟩ := h
  cases rx
  cases ry
  obtain ⟨its, r1, ⟨⟨c1, d1, t1, sl1⟩, n1, e1, hc1, _, hd1⟩, z1⟩ := I.list hl
  obtain ⟨its2, r2, ⟨⟨c2, d2, t2, sl2⟩, n2, e2, hc2, _, hd2⟩, z2⟩ := I.list hb
  simp only at hc1 hd1 hc2 hd2
  subst hc1 hd1 hc2 hd2
  have k1 := r1.length
  have k2 := r2.length
  have hs : its.toArray.size + its2.toArray.size ≤ sizeLine := by rw [List.size_toArray, List.size_toArray]; omega
  refine concat_meets ⟨_, e1, rfl⟩ ⟨_, e2, rfl⟩ noFill_list_add seq_list_add PySem.F.slot_list_add PySem.F.entry_list_add (PySem.F.args_list_add_2 _ _) (PyProof.Rows.list_addW l b its.toArray its2.toArray n1 n2 _ _ sl1 sl2 hs) ⟨e1, e2, ?_⟩
  have ea : its.toArray ++ its2.toArray = (its ++ its2).toArray := by simp
  rw [ea]
  exact ⟨.ref _, _, I.lnew (t' := s.toks) (r1.append r2) (by rw [List.length_append]; exact hz), rfl, q _ I.fresh⟩
theorem o2_add : Op2 X C (fun x y H Q => rI0 (fun i j => .int (i + j)) x y H Q ∨ (rCatA C.K x y H Q ∨ (rCatL C.K x y H Q ∨ ∃ i j, x = .str i ∧ y = .str j ∧ i.length + j.length ≤ sizeLine ∧ Q (.str (i ++ j)) H))) dAdd := by
  intro x y H d e Q S0 H0 Pb σ δ w R dx dy h
  unfold dAdd at h
  split at h
  · cases dx
    cases dy
    exact .inl ⟨_, _, rfl, rfl, h _ H (Grow.refl H) (.int _)⟩
  · cases dx with
    | tup s1 a1 =>
      cases dy with
      | tup s2 a2 =>
        obtain ⟨hl, hk⟩ := h
        refine .inr (.inl ⟨_, _, _, _, rfl, rfl, Le.sqT hid_sub s1, Le.sqT hid_sub s2, by rw [dps_len a1, dps_len a2]; exact hl, fun e0 => ?_, fun _ e0 => ?_, fun _ _ => new_tup R (dps_app a1 a2) hk⟩)
        · subst e0
          cases a1
          exact hk _ H (Grow.refl H) (.tup s2 a2)
        · subst e0
          cases a2
          rw [List.append_nil] at hk
          exact hk _ H (Grow.refl H) (.tup s1 a1)
  · cases dx with
    | lst s1 a1 =>
      cases dy with
      | lst s2 a2 =>
        obtain ⟨hl, hk⟩ := h
        exact .inr (.inr (.inl ⟨_, _, _, _, rfl, rfl, Le.sqL hid_sub s1, Le.sqL hid_sub s2, by rw [dps_len a1, dps_len a2]; exact hl, new_lst R (dps_app a1 a2) hk⟩))
  · cases dx
    cases dy
    exact .inr (.inr (.inr ⟨_, _, rfl, rfl, h.1, h.2 _ H (Grow.refl H) (.str _)⟩))
  · exact h.elim
theorem de_add (hK : C.K = X.K) (ha : DE X C W a f) (hb : DE X C W b g) : DE X C W (.BinOp a .Add b pos) (d2 dAdd f g) :=
  de_op (OpR.or op_add (OpR.or op_catA (OpR.or op_catL op_add_str))) (by rw [← hK]; exact o2_add) ha hb
abbrev TF := De → Wp Bool
def Bv (H : Hp) (Q : Bool → Hp → Prop) (b : Bool) : Prop := ∀ G, Grow H G → Q b G
theorem Bv.gr {H G : Hp} {Q : Bool → Hp → Prop} {b : Bool} (h : Bv H Q b) (g : Grow H G) : Bv G Q b := fun F g' => h F (g.trans g')
def DT (X : Cx) (C : Cs) (W : WX) (e : Expr) (f : TF) : Prop :=
  ∃ t, PT X e t ∧ ∀ S0 H0 Pb σ H δ Q, Rep (C.bx S0 H0) Pb σ H δ → (f δ).run (Bv H Q) (Ew (C.bx S0 H0) W σ H) → t σ H Q
def truD : D → Wp Bool
  | .none => .pure false
  | .bool b => .pure b
  | .int i => .pure (i != 0)
  | .str y => .need (y.length ≤ sizeLine) (.pure ((y.length : Int) != 0))
  | .list xs => .pure (!xs.isEmpty)
  | .tuple xs => .pure (!xs.isEmpty)
  | .dict _ => .stuck
def tT (f : DF) : TF := fun δ => (f δ).bind truD
theorem isEmpty_dps {K : PySem.W.Frag} {H : Hp} {vs : List V} {ds : List D} (h : DpAll K H vs ds) : (!vs.isEmpty) = !ds.isEmpty := by
  cases h <;> rfl
theorem tru_v {K : PySem.W.Frag} {H : Hp} {v : V} {d : D} {k : Bool → Prop} {w : Exn → Prop} (dp : Dp K H v d) (h : (truD d).run k w) : ∃ b, TruV K v H b ∧ k b := by
  cases dp with
  | non => exact ⟨_, rfl, h⟩
  | bl b => exact ⟨_, rfl, h⟩
  | int i => exact ⟨_, rfl, h⟩
  | str x => exact ⟨_, ⟨h.1, rfl⟩, h.2⟩
  | lst s a => exact ⟨_, .inl ⟨_, s, rfl⟩, by rw [isEmpty_dps a]; exact h⟩
  | tup s a => exact ⟨_, .inr (.inl ⟨_, s, rfl⟩), by rw [isEmpty_dps a]; exact h⟩
  | dct s k a => exact h.elim
  | dcX => exact h.elim
theorem dt_tru (hK : C.K = X.K) (ha : DE X C W a f) (he : ∀ whole, isTrue a X.env whole = (do let v ← whole; standAt a.pos; holding [v] (truthy v)) := by intro _; rfl) : DT X C W a (tT f) := by
  obtain ⟨ta, pa, qa⟩ := ha
  refine ⟨_, pt_truth pa he, fun S0 H0 Pb σ H δ Q R h => qa S0 H0 Pb σ H δ _ R ((f δ).mono (fun d h v G g dp => ?_) (fun _ z => z) h)⟩
  rw [← hK]
  obtain ⟨b, h1, h2⟩ := tru_v (hid_dp dp) h
  exact ⟨b, h1, h2 G g⟩
def asB : D → Wp Bool
  | .bool b => .pure b
  | _ => .stuck
def tBv (f : DF) : TF := fun δ => (f δ).bind asB
theorem asB_inv {d : D} {k : Bool → Prop} {w : Exn → Prop} (h : (asB d).run k w) : ∃ b, d = .bool b ∧ k b := by
  unfold asB at h
  split at h
  · exact ⟨_, rfl, h⟩
  · exact h.elim
theorem dt_cmp {op : CmpOp} {F : D → D → Wp D} {r : R2} (ho : OpR X (compareOp op) r) (hF : Op2 X C r F) (hm : behindInMarks op b = false) (ha : DE X C W a f) (hb : DE X C W b g) : DT X C W (.Compare a [op] [b] pos) (tBv (d2 F f g)) := by
  obtain ⟨ta, tb, pa, pb, q⟩ := two ha hb hF
  refine ⟨_, pt_cmpR ho pa pb hm, fun S0 H0 Pb σ H δ Q R h => q S0 H0 Pb σ H δ _ R ((d2 F f g δ).mono (fun d h v G g' dp => ?_) (fun _ z => z) h)⟩
  obtain ⟨k, rfl, hk⟩ := asB_inv h
  cases dp
  exact ⟨k, rfl, hk G g'⟩
theorem dt_not {f : TF} (ha : DT X C W a f) : DT X C W (.UnaryOp .Not a pos) (fun δ => (f δ).bind fun b => .pure (!b)) := by
  obtain ⟨t, p, q⟩ := ha
  exact ⟨_, pt_not p, fun S0 H0 Pb σ H δ Q R h => q S0 H0 Pb σ H δ _ R h⟩
def DW (X : Cx) (C : Cs) (W : WX) (e : Expr) (f : TF) : Prop :=
  ∃ t, PW X e t ∧ ∀ S0 H0 Pb σ H δ Q, Rep (C.bx S0 H0) Pb σ H δ → (f δ).run (Bv H Q) (Ew (C.bx S0 H0) W σ H) → t σ H Q
theorem dw_dt {f : TF} (h : DW X C W a f) : DT X C W a f := by
  obtain ⟨t, p, q⟩ := h
  exact ⟨t, p.pt, q⟩
def tAnd2 (f g : TF) : TF := fun δ => (f δ).bind fun b => if b then g δ else .pure false
def tOr2 (f g : TF) : TF := fun δ => (f δ).bind fun b => if b then .pure true else g δ
variable {rest : List Expr}
theorem dw_and1 {f : TF} (ha : DT X C W a f) : DW X C W (.BoolOp .And [a] pos) f := by
  obtain ⟨t, p, q⟩ := ha
  exact ⟨t, pw_and1 p, q⟩
theorem dw_or1 {f : TF} (ha : DT X C W a f) : DW X C W (.BoolOp .Or [a] pos) f := by
  obtain ⟨t, p, q⟩ := ha
  exact ⟨t, pw_or1 p, q⟩
theorem dw_and {f g : TF} (ha : DT X C W a f) (hb : DW X C W (.BoolOp .And (b :: rest) pos) g) : DW X C W (.BoolOp .And (a :: b :: rest) pos) (tAnd2 f g) := by
  obtain ⟨t, p, q⟩ := ha
  obtain ⟨u, p2, q2⟩ := hb
  refine ⟨_, pw_and p p2, fun S0 H0 Pb σ H δ Q R h => q S0 H0 Pb σ H δ _ R ((f δ).mono (fun c h G g' => ?_) (fun _ z => z) h)⟩
  cases c with
  | true => exact q2 S0 H0 Pb σ G δ Q (R.gr g') ((g δ).mono (fun _ z => z.gr g') (fun _ z => z.gr g') h)
  | false => exact h G g'
theorem dw_or {f g : TF} (ha : DT X C W a f) (hb : DW X C W (.BoolOp .Or (b :: rest) pos) g) : DW X C W (.BoolOp .Or (a :: b :: rest) pos) (tOr2 f g) := by
  obtain ⟨t, p, q⟩ := ha
  obtain ⟨u, p2, q2⟩ := hb
  refine ⟨_, pw_or p p2, fun S0 H0 Pb σ H δ Q R h => q S0 H0 Pb σ H δ _ R ((f δ).mono (fun c h G g' => ?_) (fun _ z => z) h)⟩
  cases c with
  | false => exact q2 S0 H0 Pb σ G δ Q (R.gr g') ((g δ).mono (fun _ z => z.gr g') (fun _ z => z.gr g') h)
  | true => exact h G g'
theorem de_one {op} (h : DE X C W a f) : DE X C W (.BoolOp op [a] pos) f := by
  obtain ⟨t, p, q⟩ := h
  exact ⟨t, pe_one p, q⟩
def dAndV (f g : DF) : DF := fun δ => (f δ).bind fun d => (truD d).bind fun b => if b then g δ else .pure d
def dOrV (f g : DF) : DF := fun δ => (f δ).bind fun d => (truD d).bind fun b => if b then .pure d else g δ
theorem de_and (hK : C.K = X.K) (ha : DE X C W a f) (hb : DE X C W (.BoolOp .And (b :: rest) pos) g) : DE X C W (.BoolOp .And (a :: b :: rest) pos) (dAndV f g) := by
  obtain ⟨t, p, q⟩ := ha
  obtain ⟨u, p2, q2⟩ := hb
  refine ⟨_, pe_andT p p2, fun S0 H0 Pb σ H δ Q R h => q S0 H0 Pb σ H δ _ R ((f δ).mono (fun d h v G g' dp => ?_) (fun _ z => z) h)⟩
  rw [← hK]
  obtain ⟨c, h1, h2⟩ := tru_v (hid_dp dp) h
  refine ⟨c, h1, ?_⟩
  cases c with
  | true => exact q2 S0 H0 Pb σ G δ Q (R.gr g') ((g δ).mono (fun _ z => z.gr g') (fun _ z => z.gr g') h2)
  | false => exact h2 v G g' dp
theorem de_not (hK : C.K = X.K) (ha : DE X C W a f) : DE X C W (.UnaryOp .Not a pos) (fun δ => (tT f δ).bind fun b => .pure (.bool (!b))) := by
  obtain ⟨t, p, q⟩ := ha
  refine ⟨_, pe_notT p, fun S0 H0 Pb σ H δ Q R h => q S0 H0 Pb σ H δ _ R ((f δ).mono (fun d h v G g' dp => ?_) (fun _ z => z) h)⟩
  rw [← hK]
  obtain ⟨c, h1, h2⟩ := tru_v (hid_dp dp) h
  exact ⟨c, h1, h2 _ G g' (.bl _)⟩
def dIf (t : TF) (f g : DF) : DF := fun δ => (t δ).bind fun b => if b then f δ else g δ
theorem de_if {c : Expr} {t : TF} (hc : DT X C W c t) (ha : DE X C W a f) (hb : DE X C W b g) : DE X C W (.IfExp c a b pos) (dIf t f g) := by
  obtain ⟨tc, pc, qc⟩ := hc
  obtain ⟨ta, pa, qa⟩ := ha
  obtain ⟨tb, pb, qb⟩ := hb
  refine ⟨_, pe_ifExp pc pa pb, fun S0 H0 Pb σ H δ Q R h => qc S0 H0 Pb σ H δ _ R ((t δ).mono (fun k h G g' => ?_) (fun _ z => z) h)⟩
  cases k with
  | true => exact qa S0 H0 Pb σ G δ Q (R.gr g') ((f δ).mono (fun _ z => z.gr g') (fun _ z => z.gr g') h)
  | false => exact qb S0 H0 Pb σ G δ Q (R.gr g') ((g δ).mono (fun _ z => z.gr g') (fun _ z => z.gr g') h)
theorem de_chain {c : Expr} {op op' : CmpOp} {F F' : D → D → Wp D} {r r' : R2} {h : DF} (ho : OpR X (compareOp op) r) (hF : Op2 X C r F) (ho' : OpR X (compareOp op') r') (hF' : Op2 X C r' F') (ha : DE X C W a f) (hb : DE X C W b g) (hc : DE X C W c h)
    (hm : lastMarks [op, op'] [b, c] = false := by with_unfolding_all rfl) :
    DE X C W (.Compare a [op, op'] [b, c] pos) (fun δ => (f δ).bind fun d => (g δ).bind fun e => (F d e).bind fun z => (asB z).bind fun k => if k then (h δ).bind fun x => F' e x else .pure (.bool false)) := by
  obtain ⟨ta, pa, qa⟩ := ha
  obtain ⟨tb, pb, qb⟩ := hb
  obtain ⟨tc, pc, qc⟩ := hc
  refine ⟨_, pe_chain ho ho' pa pb pc hm, fun S0 H0 Pb σ H δ Q R hh => qa S0 H0 Pb σ H δ _ R ((f δ).mono (fun d hh x H1 g1 dx => ?_) (fun _ z => z) hh)⟩
  refine qb S0 H0 Pb σ H1 δ _ (R.gr g1) ((g δ).mono (fun e hh y H2 g2 dy => ?_) (fun _ z => z.gr g1) hh)
  refine hF x y H2 d e _ S0 H0 Pb σ δ _ (R.gr (g1.trans g2)) (Le.dp (hid_le g2.le fun _ z => z) d x dx) dy ((F d e).mono (fun z hz v H3 g3 dz => ?_) (fun _ z => z) hh)
  obtain ⟨k, rfl, hk⟩ := asB_inv hz
  cases dz
  refine ⟨k, rfl, ?_⟩
  cases k with
  | false => exact hk _ H3 (g1.trans (g2.trans g3)) (.bl _)
  | true =>
    refine qc S0 H0 Pb σ H3 δ _ (R.gr (g1.trans (g2.trans g3))) ((h δ).mono (fun x' hx v' H4 g4 dx' => ?_) (fun _ z => z.gr (g1.trans (g2.trans g3))) hk)
    exact hF' y v' H4 e x' Q S0 H0 Pb σ δ _ (R.gr (g1.trans (g2.trans (g3.trans g4)))) (Le.dp (hid_le (g3.trans g4).le fun _ z => z) e y dy) dx' ((F' e x').mono (fun _ z => z.gr (g1.trans (g2.trans (g3.trans g4)))) (fun _ z => z) hx)
end
end Tr

namespace Tr
open PySem PySem.Spec L2
variable [ProtC]

inductive Ar where
  | d (x : D)
  | v (x : V)
  | t (a : Addr) (φ : Heap → Prop)
def ArOk (K : PySem.W.Frag) (H : Hp) (v : V) : Ar → Prop
  | .d x => Dp K H v x
  | .v x => v = x
  | .t a φ => v = .ref a ∧ H a = some (.ext φ)
def ArsOk (K : PySem.W.Frag) (H : Hp) : List V → List Ar → Prop
  | [], [] => True
  | v :: vs, a :: as => ArOk K H v a ∧ ArsOk K H vs as
  | _, _ => False
theorem ArsOk.len {K : PySem.W.Frag} {H : Hp} : ∀ {vs : List V} {as : List Ar}, ArsOk K H vs as → vs.length = as.length
  | [], [], _ => rfl
  | v :: vs, a :: as, h => by rw [List.length_cons, List.length_cons, ArsOk.len h.2]
  | [], _ :: _, h => h.elim
  | _ :: _, [], h => h.elim
theorem ArOk.le {K : PySem.W.Frag} {H G : Hp} (l : Le H G) {v : V} {a : Ar} (h : ArOk K H v a) : ArOk K G v a := by
  cases a with
  | d x => exact Le.dp l x v h
  | v x => exact h
  | t a φ => exact ⟨h.1, l a _ h.2 fun ps z => by cases z⟩
theorem ArsOk.le {K : PySem.W.Frag} {H G : Hp} (l : Le H G) : ∀ {vs : List V} {as : List Ar}, ArsOk K H vs as → ArsOk K G vs as
  | [], [], _ => trivial
  | v :: vs, a :: as, h => ⟨h.1.le l, ArsOk.le l h.2⟩
  | [], _ :: _, h => h.elim
  | _ :: _, [], h => h.elim
def Av (B : Bx) (σ : St) (H : Hp) (δ : De) (Q : List V → Hp → Prop) (as : List Ar) : Prop := ∀ vs G, Grow H G → ArsOk B.c.K (hid (Own B σ δ) G) vs as → Q vs G
theorem Av.gr {B : Bx} {σ : St} {H G : Hp} {δ : De} {Q : List V → Hp → Prop} {as : List Ar} (h : Av B σ H δ Q as) (g : Grow H G) : Av B σ G δ Q as := fun vs F g' => h vs F (g.trans g')
abbrev AF := De → Wp (List Ar)
def DA (X : Cx) (C : Cs) (W : WX) (es : List Expr) (f : AF) : Prop :=
  ∃ t, PA X es t ∧ ∀ S0 H0 Pb σ H δ Q, Rep (C.bx S0 H0) Pb σ H δ → (f δ).run (Av (C.bx S0 H0) σ H δ Q) (Ew (C.bx S0 H0) W σ H) → t σ H Q
def slotT : Option Sl → Wp (Addr × (Heap → Prop))
  | some (.t a φ) => .pure (a, φ)
  | _ => .stuck
def slotV : Option Sl → Wp V
  | some (.v x) => .pure x
  | _ => .stuck
def aNil : AF := fun _ => .pure []
def aCons (f : DF) (r : AF) : AF := fun δ => (f δ).bind fun d => (r δ).bind fun as => .pure (.d d :: as)
def aVal (i : Nat) (r : AF) : AF := fun δ => (slotV δ[i]?).bind fun v => (r δ).bind fun as => .pure (.v v :: as)
def aTrk (i : Nat) (r : AF) : AF := fun δ => (slotT δ[i]?).bind fun q => (r δ).bind fun as => .pure (.t q.1 q.2 :: as)
def allD : List Ar → Wp (List D)
  | [] => .pure []
  | .d x :: as => (allD as).bind fun ds => .pure (x :: ds)
  | .v _ :: _ => .stuck
  | .t _ _ :: _ => .stuck
theorem allD_ok {K : PySem.W.Frag} {H : Hp} : ∀ {as : List Ar} {vs : List V} {k : List D → Prop} {w : Exn → Prop}, ArsOk K H vs as → (allD as).run k w → ∃ ds, DpAll K H vs ds ∧ k ds
  | [], [], _, _, _, h => ⟨[], .nil, h⟩
  | .d x :: as, v :: vs, _, _, o, h => by
    obtain ⟨ds, h1, h2⟩ := allD_ok o.2 h
    exact ⟨x :: ds, .cons o.1 h1, h2⟩
  | .v _ :: _, _, _, _, _, h => h.elim
  | .t _ _ :: _, _, _, _, _, h => h.elim
  | [], _ :: _, _, _, o, _ => o.elim
  | .d _ :: _, [], _, _, o, _ => o.elim
section
variable {X : Cx} {C : Cs} {W : WX} {pos : Pos} {e : Expr} {es : List Expr} {f : DF} {r : AF}
theorem da_nil : DA X C W [] aNil := ⟨_, pa_nil, fun S0 H0 Pb σ H δ Q _ h => h [] H (Grow.refl H) trivial⟩
theorem da_cons (ha : DE X C W e f) (hr : DA X C W es r) (hs : starEach (e :: es) X.env = (false, eval e X.env) :: starEach es X.env := by rfl) : DA X C W (e :: es) (aCons f r) := by
  obtain ⟨t, p, q⟩ := ha
  obtain ⟨u, p2, q2⟩ := hr
  refine ⟨_, pa_cons p p2 hs, fun S0 H0 Pb σ H δ Q R h => q S0 H0 Pb σ H δ _ R ((f δ).mono (fun d h v G g dp => ?_) (fun _ z => z) h)⟩
  refine q2 S0 H0 Pb σ G δ _ (R.gr g) ((r δ).mono (fun as h vs F g' ok => ?_) (fun _ z => z.gr g) h)
  exact h (v :: vs) F (g.trans g') ⟨Le.dp (hid_le g'.le fun _ z => z) d v dp, ok⟩
theorem da_trk {i : Nat} {x : Str} {p : Pos} (hN : X.N[i]? = some x) (hv : Vis X.env.scope x) (hr : DA X C W es r) (hd : (x == ("__debug__" : Str)) = false := by decide) (hcd : (x == ("__classdict__" : Str)) = false := by decide)
    (hs : starEach (.Name x p :: es) X.env = (false, eval (.Name x p) X.env) :: starEach es X.env := by rfl) : DA X C W (.Name x p :: es) (aTrk i r) := by
  obtain ⟨u, p2, q2⟩ := hr
  refine ⟨_, pa_cons (pe_var hN hv hd hcd) p2 hs, fun S0 H0 Pb σ H δ Q R h => ?_⟩
  unfold aTrk at h
  cases hz : δ[i]? with
  | none => rw [hz] at h; exact h.elim
  | some z =>
    rw [hz] at h
    cases z with
    | non => exact h.elim
    | o ds => exact h.elim
    | p d => exact h.elim
    | v x => exact h.elim
    | t a φ =>
      obtain ⟨t1, t2⟩ := R.trk i a φ hz
      refine ⟨.ref a, t1, ?_⟩
      refine q2 S0 H0 Pb σ H δ _ R ((r δ).mono (fun as h vs G g' ok => ?_) (fun _ z => z) h)
      exact h (.ref a :: vs) G g' ⟨⟨rfl, hid_le g'.le (fun _ z => z) a _ t2 fun ps z => by cases z⟩, ok⟩
def dTup (r : AF) : DF := fun δ => (r δ).bind fun as => (allD as).bind fun ds => .need (ds.length ≤ sizeLine) (.pure (.tuple ds))
def dLst (r : AF) : DF := fun δ => (r δ).bind fun as => (allD as).bind fun ds => .need (ds.length ≤ sizeLine) (.pure (.list ds))
theorem de_tup {x1} (h : DA X C W es r) : DE X C W (.Tuple es x1 pos) (dTup r) := by
  obtain ⟨t, p, q⟩ := h
  refine ⟨_, pe_tup p, fun S0 H0 Pb σ H δ Q R h => q S0 H0 Pb σ H δ _ R ((r δ).mono (fun as h vs G g ok => ?_) (fun _ z => z) h)⟩
  obtain ⟨ds, h1, h2, h3⟩ := allD_ok ok h
  exact ⟨by rw [dps_len h1]; exact h2, new_tup (R.gr g) h1 (h3.gr g)⟩
theorem de_lst (h : DA X C W es r) : DE X C W (.List es pos) (dLst r) := by
  obtain ⟨t, p, q⟩ := h
  refine ⟨_, pe_lst p, fun S0 H0 Pb σ H δ Q R h => q S0 H0 Pb σ H δ _ R ((r δ).mono (fun as h vs G g ok => ?_) (fun _ z => z) h)⟩
  obtain ⟨ds, h1, h2, h3⟩ := allD_ok ok h
  exact ⟨by rw [dps_len h1]; exact h2, new_lst (R.gr g) h1 (h3.gr g)⟩
def optW {A : Type} : Option A → Wp A
  | some a => .pure a
  | none => .stuck
theorem optW_inv {A : Type} {o : Option A} {k : A → Prop} {w : Exn → Prop} (h : (optW o).run k w) : ∃ a, o = some a ∧ k a := by
  cases o with
  | none => exact h.elim
  | some a => exact ⟨a, rfl, h⟩
def dIx : D → D → Wp D
  | .list ds, .int i => optW (atI ds i)
  | .tuple ds, .int i => optW (atI ds i)
  | .str z, .int i => .need (z.length ≤ sizeLine) ((optW (atI z.cps.toList i)).bind fun c => .pure (.str ⟨#[c]⟩))
  | _, _ => .stuck
theorem atI_dps {K : PySem.W.Frag} {H : Hp} {vs : List V} {ds : List D} {i : Int} {d : D} (h : DpAll K H vs ds) (e : atI ds i = some d) : ∃ v, atI vs i = some v ∧ Dp K H v d := by
  unfold atI at e ⊢
  rw [dps_len h]
  cases hj : ixN ds.length i with
  | none => rw [hj] at e; cases e
  | some j =>
    rw [hj] at e
    obtain ⟨v, h1, h2⟩ := dps_get h (i := j) e
    exact ⟨v, h1, h2⟩
theorem o2_ix : Op2 X C (rIx C.K) dIx := by
  intro x y H d e Q S0 H0 Pb σ δ w R dx dy h
  unfold dIx at h
  split at h
  · cases dx with
    | lst s a =>
      cases dy
      obtain ⟨d, h1, h2⟩ := optW_inv h
      obtain ⟨v, h3, h4⟩ := atI_dps a h1
      exact .inl ⟨_, _, _, v, rfl, rfl, Le.sqL hid_sub s, h3, h2 v H (Grow.refl H) h4⟩
  · cases dx with
    | tup s a =>
      cases dy
      obtain ⟨d, h1, h2⟩ := optW_inv h
      obtain ⟨v, h3, h4⟩ := atI_dps a h1
      exact .inr (.inl ⟨_, _, _, v, rfl, rfl, Le.sqT hid_sub s, h3, h2 v H (Grow.refl H) h4⟩)
  · cases dx
    cases dy
    obtain ⟨hz, h⟩ := h
    obtain ⟨c, h1, h2⟩ := optW_inv h
    exact .inr (.inr ⟨_, _, c, rfl, rfl, hz, h1, h2 _ H (Grow.refl H) (.str _)⟩)
  · exact h.elim
theorem de_ix {a b : Expr} {f g : DF} (hK : C.K = X.K) (ha : DE X C W a f) (hb : DE X C W b g) (hs : PlainIx b) : DE X C W (.Subscript a b pos) (d2 dIx f g) := by
  obtain ⟨ta, tb, pa, pb, q⟩ := two ha hb o2_ix
  exact ⟨_, pe_ix (by rw [hK]; exact ix_seq) pa pb hs, q⟩
abbrev OF := De → Wp (Option Int)
def DO (X : Cx) (C : Cs) (W : WX) (e : Option Expr) (f : OF) : Prop :=
  ∃ t, PO X e t ∧ ∀ S0 H0 Pb σ H δ Q, Rep (C.bx S0 H0) Pb σ H δ → (f δ).run (fun o => ∀ G, Grow H G → Q o G) (Ew (C.bx S0 H0) W σ H) → t σ H Q
def asI : D → Wp (Option Int)
  | .int i => .pure (some i)
  | _ => .stuck
def oNone : OF := fun _ => .pure none
def oSome (f : DF) : OF := fun δ => (f δ).bind asI
theorem do_none : DO X C W none oNone := ⟨_, po_none, fun S0 H0 Pb σ H δ Q _ h => h H (Grow.refl H)⟩
theorem do_some (h : DE X C W e f) : DO X C W (some e) (oSome f) := by
  obtain ⟨t, p, q⟩ := h
  refine ⟨_, po_some p, fun S0 H0 Pb σ H δ Q R h => q S0 H0 Pb σ H δ _ R ((f δ).mono (fun d h v G g dp => ?_) (fun _ z => z) h)⟩
  unfold asI at h
  split at h
  · cases dp
    exact ⟨_, rfl, h G g⟩
  · exact h.elim
def cutD {A : Type} (xs : List A) (lo hi : Option Int) : List A := (xs.drop (HT.sIx xs.length 0 lo)).take (HT.sIx xs.length xs.length hi - HT.sIx xs.length 0 lo)
theorem cut_dps {K : PySem.W.Frag} {H : Hp} {vs : List V} {ds : List D} (lo hi : Option Int) (h : DpAll K H vs ds) : DpAll K H (cutV vs lo hi) (cutD ds lo hi) := by
  unfold cutV cutD
  rw [dps_len h]
  exact dps_take _ (dps_drop _ h)
def dCut (lo hi : Option Int) : D → Wp D
  | .list ds => .pure (.list (cutD ds lo hi))
  | .tuple ds => .pure (.tuple (cutD ds lo hi))
  | .str z => .need (z.length ≤ sizeLine) (.pure (.str (cutS z lo hi)))
  | _ => .stuck
def dSl (f : DF) (l h : OF) : DF := fun δ => (f δ).bind fun d => (l δ).bind fun lo => (h δ).bind fun hi => dCut lo hi d
theorem cut_all {A : Type} {xs : List A} {lo hi : Option Int} (h : HT.sIx xs.length 0 lo = 0 ∧ HT.sIx xs.length xs.length hi = xs.length) : cutD xs lo hi = xs := by
  unfold cutD
  rw [h.1, h.2]
  simp
theorem de_slice {lo hi : Option Expr} {p2 : Pos} {l h : OF} (hK : C.K = X.K) (ha : DE X C W e f) (hl : DO X C W lo l) (hh : DO X C W hi h) : DE X C W (.Subscript e (.Slice lo hi none p2) pos) (dSl f l h) := by
  obtain ⟨ta, pa, qa⟩ := ha
  obtain ⟨tl, pl, ql⟩ := hl
  obtain ⟨tu, pu, qu⟩ := hh
  refine ⟨_, pe_slice (SlR.or sl_tupA (SlR.or sl_list sl_str)) pa pl pu, fun S0 H0 Pb σ H δ Q R hw => qa S0 H0 Pb σ H δ _ R ((f δ).mono (fun d hw x H1 g1 dx => ?_) (fun _ z => z) hw)⟩
  refine ql S0 H0 Pb σ H1 δ _ (R.gr g1) ((l δ).mono (fun lo' hw H2 g2 => ?_) (fun _ z => z.gr g1) hw)
  refine qu S0 H0 Pb σ H2 δ _ (R.gr (g1.trans g2)) ((h δ).mono (fun hi' hw H3 g3 => ?_) (fun _ z => z.gr (g1.trans g2)) hw)
  have R3 := R.gr (g1.trans (g2.trans g3))
  have dx3 := Le.dp (hid_le (S' := Own (C.bx S0 H0) σ δ) (g2.trans g3).le fun _ z => z) d x dx
  have k3 : (dCut lo' hi' d).run (Dv (C.bx S0 H0) σ H3 δ Q) (Ew (C.bx S0 H0) W σ H) := (dCut lo' hi' d).mono (fun _ z => z.gr (g1.trans (g2.trans g3))) (fun _ z => z) hw
  show rSlA X.K x lo' hi' H3 Q ∨ (rSlL X.K x lo' hi' H3 Q ∨ rSlS x lo' hi' H3 Q)
  rw [← hK]
  unfold dCut at k3
  split at k3
  · cases dx3 with
    | lst s a => exact .inr (.inl ⟨_, _, rfl, Le.sqL hid_sub s, new_lst R3 (cut_dps lo' hi' a) k3⟩)
  · cases dx3 with
    | tup s a =>
      refine .inl ⟨_, _, rfl, Le.sqT hid_sub s, fun ha => ?_, fun _ => new_tup R3 (cut_dps lo' hi' a) k3⟩
      rw [dps_len a] at ha
      rw [cut_all ha] at k3
      exact k3 _ H3 (Grow.refl H3) (.tup s a)
  · cases dx3
    exact .inr (.inr ⟨_, rfl, k3.1, k3.2 _ H3 (Grow.refl H3) (.str _)⟩)
  · exact k3.elim
def OpN (C : Cs) (r : List V → Hp → VK → Prop) (F : List D → Wp D) : Prop := ∀ (vs : List V) (H : Hp) (ds : List D) (Q : VK) (S0 : Addr → Prop) (H0 Pb : Hp) (σ : St) (δ : De) (w : Exn → Prop), Rep (C.bx S0 H0) Pb σ H δ → DpAll C.K (hid (Own (C.bx S0 H0) σ δ) H) vs ds → (F ds).run (Dv (C.bx S0 H0) σ H δ Q) w → r vs H Q
def dCB (F : List D → Wp D) (r : AF) : DF := fun δ => (r δ).bind fun as => (allD as).bind F
variable {x id T : String} {nm : Str} {p : Pos} {rr : List V → Hp → VK → Prop} {F : List D → Wp D}
theorem cb_q {t : TA} (h : ∀ S0 H0 Pb σ H δ Q, Rep (C.bx S0 H0) Pb σ H δ → (r δ).run (Av (C.bx S0 H0) σ H δ Q) (Ew (C.bx S0 H0) W σ H) → t σ H Q) (hF : OpN C rr F) : ∀ S0 H0 Pb σ H δ Q, Rep (C.bx S0 H0) Pb σ H δ → (dCB F r δ).run (Dv (C.bx S0 H0) σ H δ Q) (Ew (C.bx S0 H0) W σ H) → tCB rr t σ H Q := by
  intro S0 H0 Pb σ H δ Q R hw
  refine h S0 H0 Pb σ H δ _ R ((r δ).mono (fun as hw vs G g ok => ?_) (fun _ z => z) hw)
  obtain ⟨ds, h1, h2⟩ := allD_ok ok hw
  exact hF vs G ds Q S0 H0 Pb σ δ _ (R.gr g) h1 ((F ds).mono (fun _ z => z.gr g) (fun _ z => z) h2)
theorem de_callB (hc : CallR X (.builtin id) rr) (hF : OpN C rr F) (hg : Gl X nm) (hm : X.mg nm = none) (hv : bootBuiltins nm = some (.builtin id)) (ha : DA X C W (e :: es) r) (hn : nm ≠ "__name__" := by decide) (hdb : (nm == ("__debug__" : Str)) = false := by decide)
    (he : starEach (e :: es) X.env = (false, eval e X.env) :: starEach es X.env := by rfl) (hpl : (backTo pos (starEach es X.env)).any (·.1) = false := by rfl) : DE X C W (.Call (.Name nm p) (e :: es) [] pos) (dCB F r) := by
  obtain ⟨t, pt, q⟩ := ha
  exact ⟨_, pe_callB hc hg hm hv pt hn hdb he hpl, cb_q q hF⟩
theorem de_callTy (hc : CallR X (.type T) rr) (hF : OpN C rr F) (hg : Gl X nm) (hm : X.mg nm = none) (hv : bootBuiltins nm = some (.type T)) (ha : DA X C W (e :: es) r) (hn : nm ≠ "__name__" := by decide) (hdb : (nm == ("__debug__" : Str)) = false := by decide)
    (he : starEach (e :: es) X.env = (false, eval e X.env) :: starEach es X.env := by rfl) (hpl : (backTo pos (starEach es X.env)).any (·.1) = false := by rfl) : DE X C W (.Call (.Name nm p) (e :: es) [] pos) (dCB F r) := by
  obtain ⟨t, pt, q⟩ := ha
  exact ⟨_, pe_callTy hc hg hm hv pt hn hdb he hpl, cb_q q hF⟩
theorem de_callF (hc : CallR X (.builtin id) rr) (hF : OpN C rr F) (hg : Gl X nm) (hm : X.mg nm = some (.builtin id)) (ha : DA X C W (e :: es) r) (hdb : (nm == ("__debug__" : Str)) = false := by decide)
    (he : starEach (e :: es) X.env = (false, eval e X.env) :: starEach es X.env := by rfl) (hpl : (backTo pos (starEach es X.env)).any (·.1) = false := by rfl) : DE X C W (.Call (.Name nm p) (e :: es) [] pos) (dCB F r) := by
  obtain ⟨t, pt, q⟩ := ha
  exact ⟨_, pe_callBfun hc hg hm pt hdb he hpl, cb_q q hF⟩
def bGcd : List D → Wp D
  | [.int a, .int b] => .pure (.int ((Nat.gcd a.natAbs b.natAbs : Nat) : Int))
  | _ => .stuck
def bLen : List D → Wp D
  | [.list ds] => .pure (.int ds.length)
  | [.tuple ds] => .pure (.int ds.length)
  | [.str z] => .need (z.length ≤ sizeLine) (.pure (.int z.length))
  | _ => .stuck
def bInt : List D → Wp D
  | [.int a] => .pure (.int a)
  | [.bool b] => .pure (.int (if b then 1 else 0))
  | [.str a] => match PySem.intText? a with
    | some n => .need (a.length ≤ 640) (.pure (.int n))
    | none => .stuck
  | _ => .stuck
def bAbs : List D → Wp D
  | [.int i] => .pure (.int (if i < 0 then -i else i))
  | _ => .stuck
def bMin2 : List D → Wp D
  | [.int i, .int j] => .pure (.int (if j < i then j else i))
  | _ => .stuck
def bMax2 : List D → Wp D
  | [.int i, .int j] => .pure (.int (if j > i then j else i))
  | _ => .stuck
def bTuple : List D → Wp D
  | [.list ds] => .pure (.tuple ds)
  | [.tuple ds] => .pure (.tuple ds)
  | _ => .stuck
def bList : List D → Wp D
  | [.list ds] => .pure (.list ds)
  | [.tuple ds] => .pure (.list ds)
  | _ => .stuck
theorem on_gcd : OpN C rGcd bGcd := by
  intro vs H ds Q S0 H0 Pb σ δ w R h hw
  unfold bGcd at hw
  split at hw
  · cases h with
    | cons a b =>
      cases b with
      | cons b c =>
        cases a
        cases b
        cases c
        exact ⟨_, _, rfl, hw _ H (Grow.refl H) (.int _)⟩
  · exact hw.elim
theorem on_len : OpN C (fun xs H Q => ∃ x n, xs = [x] ∧ LenV C.K x H n ∧ Q (.int n) H) bLen := by
  intro vs H ds Q S0 H0 Pb σ δ w R h hw
  unfold bLen at hw
  split at hw
  · cases h with
    | cons a b =>
      cases b
      cases a with
      | lst s a => exact ⟨_, _, rfl, .inl ⟨_, Le.sqL hid_sub s, rfl⟩, by rw [dps_len a]; exact hw _ H (Grow.refl H) (.int _)⟩
  · cases h with
    | cons a b =>
      cases b
      cases a with
      | tup s a => exact ⟨_, _, rfl, .inr ⟨_, Le.sqT hid_sub s, rfl⟩, by rw [dps_len a]; exact hw _ H (Grow.refl H) (.int _)⟩
  · cases h with
    | cons a b =>
      cases b
      cases a
      exact ⟨_, _, rfl, ⟨hw.1, rfl⟩, hw.2 _ H (Grow.refl H) (.int _)⟩
  · exact hw.elim
theorem on_int : OpN C (fun xs H Q => ((∃ i, xs = [.int i] ∧ Q (.int i) H) ∨ ∃ k, xs = [.bl k] ∧ Q (.int (if k then 1 else 0)) H) ∨ ∃ a n, xs = [.str a] ∧ PySem.intText? a = some n ∧ a.length ≤ 640 ∧ Q (.int n) H) bInt := by
  intro vs H ds Q S0 H0 Pb σ δ w R h hw
  unfold bInt at hw
  split at hw
  · cases h with
    | cons a b =>
      cases b
      cases a
      exact .inl (.inl ⟨_, rfl, hw _ H (Grow.refl H) (.int _)⟩)
  · cases h with
    | cons a b =>
      cases b
      cases a
      exact .inl (.inr ⟨_, rfl, hw _ H (Grow.refl H) (.int _)⟩)
  · cases h with
    | cons a b =>
      cases b
      cases a
      split at hw
      · rename_i n e
        exact .inr ⟨_, n, rfl, e, hw.1, hw.2 _ H (Grow.refl H) (.int _)⟩
      · exact hw.elim
  · exact hw.elim
theorem on_abs : OpN C (fun xs H Q => ∃ i, xs = [.int i] ∧ Q (.int (if i < 0 then -i else i)) H) bAbs := by
  intro vs H ds Q S0 H0 Pb σ δ w R h hw
  unfold bAbs at hw
  split at hw
  · cases h with
    | cons a b =>
      cases b
      cases a
      exact ⟨_, rfl, hw _ H (Grow.refl H) (.int _)⟩
  · exact hw.elim
theorem on_tuple : OpN C (fun xs H Q => ∃ p ys, xs = [.ref p] ∧ ((SqL C.K H p ys ∧ ∀ l, H l = none → Q (.ref l) (upd H l (.tup ys))) ∨ (SqT C.K H p ys ∧ Q (.ref p) H))) bTuple := by
  intro vs H ds Q S0 H0 Pb σ δ w R h hw
  unfold bTuple at hw
  split at hw
  · cases h with
    | cons a b =>
      cases b
      cases a with
      | lst s a => exact ⟨_, _, rfl, .inl ⟨Le.sqL hid_sub s, new_tup R a hw⟩⟩
  · cases h with
    | cons a b =>
      cases b
      cases a with
      | tup s a => exact ⟨_, _, rfl, .inr ⟨Le.sqT hid_sub s, hw _ H (Grow.refl H) (.tup s a)⟩⟩
  · exact hw.elim
theorem on_list : OpN C (fun xs H Q => ∃ p ys, xs = [.ref p] ∧ (SqL C.K H p ys ∨ SqT C.K H p ys) ∧ ∀ l, H l = none → Q (.ref l) (upd H l (.lst ys))) bList := by
  intro vs H ds Q S0 H0 Pb σ δ w R h hw
  unfold bList at hw
  split at hw
  · cases h with
    | cons a b =>
      cases b
      cases a with
      | lst s a => exact ⟨_, _, rfl, .inl (Le.sqL hid_sub s), new_lst R a hw⟩
  · cases h with
    | cons a b =>
      cases b
      cases a with
      | tup s a => exact ⟨_, _, rfl, .inr (Le.sqT hid_sub s), new_lst R a hw⟩
  · exact hw.elim
def isTy (T : String) : D → Option Bool
  | .none => kitB "NoneType" T
  | .bool _ => kitB "bool" T
  | .int _ => kitB "int" T
  | .str _ => kitB "str" T
  | .list _ => kitB "list" T
  | .tuple _ => kitB "tuple" T
  | .dict [] => kitB "dict" T
  | .dict (_ :: _) => none
def dIsi (T : String) (f : DF) : DF := fun δ => (f δ).bind fun d => (optW (isTy T d)).bind fun b => .pure (.bool b)
theorem tyx_dp {H : Hp} {v : V} {d : D} (h : Dp C.K H v d) (hn : ∀ q ds, d ≠ .dict (q :: ds)) : ∃ t : String, TyX C.K H v (.type t) ∧ ∀ T, isTy T d = kitB t T := by
  cases h with
  | non => exact ⟨_, .base .non, fun _ => rfl⟩
  | bl b => exact ⟨_, .base (.bl b), fun _ => rfl⟩
  | int i => exact ⟨_, .base (.int i), fun _ => rfl⟩
  | str x => exact ⟨_, .base (.str x), fun _ => rfl⟩
  | lst s a =>
    refine ⟨"list", ?_, fun _ => rfl⟩
    rcases s with (z | ⟨o, z⟩) | ⟨o, its, n, e1, e2, _⟩
    · exact .base (.lst z)
    · exact .base (.frz z)
    · exact .kList e1 e2
  | tup s a =>
    refine ⟨"tuple", ?_, fun _ => rfl⟩
    rcases s with (z | ⟨o, z⟩) | ⟨o, its, n, e1, e2, _⟩
    · exact .base (.tup z)
    · exact .fTuple z
    · exact .kTuple e1 e2
  | @dct _ _ ds s k a =>
    cases ds with
    | nil => exact ⟨"dict", .base (.dK s), fun _ => rfl⟩
    | cons q ds => exact absurd rfl (hn q ds)
  | @dcX _ xs ds e s n g k t a =>
    cases ds with
    | nil =>
      cases xs with
      | nil => exact absurd rfl e
      | cons => cases k
    | cons q ds => exact absurd rfl (hn q ds)
theorem de_isi {T : String} {x2 : Str} {p2 : Pos} (hK : C.K = X.K) (hg : Gl X "isinstance") (hm : X.mg "isinstance" = none) (hg2 : Gl X x2) (hm2 : X.mg x2 = none) (hv2 : bootBuiltins x2 = some (.type T)) (ha : DE X C W e f) (hn2 : x2 ≠ "__name__" := by decide) (hd2 : (x2 == ("__debug__" : Str)) = false := by decide)
    (he : starEach [e, .Name x2 p2] X.env = (false, eval e X.env) :: starEach [.Name x2 p2] X.env := by rfl) (he2 : starEach [.Name x2 p2] X.env = (false, eval (.Name x2 p2) X.env) :: starEach [] X.env := by rfl) (hpl : (backTo pos (starEach [.Name x2 p2] X.env)).any (·.1) = false := by rfl) :
    DE X C W (.Call (.Name "isinstance" p) [e, .Name x2 p2] [] pos) (dIsi T f) := by
  obtain ⟨t, pt, q⟩ := ha
  refine ⟨_, pe_callB call_isi hg hm PyProof.Rows.boot_isinstance (pa_cons pt (pa_cons (pe_bltn hg2 hm2 hv2 (show RelV (.ty T) _ from rfl) hn2 hd2) pa_nil he2) he) (by decide) (by decide) he hpl, fun S0 H0 Pb σ H δ Q R h => q S0 H0 Pb σ H δ _ R ((f δ).mono (fun d h v G g dp => ?_) (fun _ z => z) h)⟩
  obtain ⟨b, h1, h2⟩ := optW_inv h
  obtain ⟨t', h3, h4⟩ := tyx_dp (C := C) (hid_dp dp) (fun q ds e => by rw [e] at h1; cases h1)
  refine ⟨v, .ty T, _, _, b, rfl, .ty T, ?_, kit_ty (a := t') ?_, h2 _ G g (.bl b)⟩
  · rw [← hK]; exact h3
  · rw [← h4 T]; exact h1
def isTys : List String → D → Option Bool
  | [], _ => some false
  | T :: Ts, d => match isTy T d with
    | some true => some true
    | some false => isTys Ts d
    | none => none
def dIsiT (Ts : List String) (f : DF) : DF := fun δ => (f δ).bind fun d => (optW (isTys Ts d)).bind fun b => .pure (.bool b)
theorem kitAny_tys {K : PySem.W.Frag} {t : String} {d : D} (h4 : ∀ T, isTy T d = kitB t T) : ∀ {Ts : List String} {b : Bool}, isTys Ts d = some b → PySem.W.kitAny K (.type t) (Ts.map Value.type) = some b
  | [], b, h => by
    cases h
    exact kitAny_nil
  | T :: Ts, b, h => by
    unfold isTys at h
    cases e : isTy T d with
    | none => rw [e] at h; cases h
    | some c =>
      rw [e] at h
      have e2 : PySem.W.kitOne K (.type t) (.type T) = some c := kit_ty (by rw [← h4 T]; exact e)
      cases c with
      | true =>
        cases h
        exact kitAny_cons e2 (fun z => by cases z) fun _ => rfl
      | false => exact kitAny_cons e2 (fun _ => kitAny_tys h4 h) fun z => by cases z
theorem de_isiT {T1 T2 : String} {x1 x2 : Str} {p1 p2 tp : Pos} {kt : Nat} (hK : C.K = X.K) (hg : Gl X "isinstance") (hm : X.mg "isinstance" = none) (hg1 : Gl X x1) (hm1 : X.mg x1 = none) (hv1 : bootBuiltins x1 = some (.type T1)) (hg2 : Gl X x2) (hm2 : X.mg x2 = none) (hv2 : bootBuiltins x2 = some (.type T2)) (ha : DE X C W e f)
    (hn1 : x1 ≠ "__name__" := by decide) (hd1 : (x1 == ("__debug__" : Str)) = false := by decide) (hn2 : x2 ≠ "__name__" := by decide) (hd2 : (x2 == ("__debug__" : Str)) = false := by decide)
    (he1 : starEach [.Name x1 p1, .Name x2 p2] X.env = (false, eval (.Name x1 p1) X.env) :: starEach [.Name x2 p2] X.env := by rfl) (he2 : starEach [.Name x2 p2] X.env = (false, eval (.Name x2 p2) X.env) :: starEach [] X.env := by rfl)
    (he : starEach [e, .Tuple [.Name x1 p1, .Name x2 p2] kt tp] X.env = (false, eval e X.env) :: starEach [.Tuple [.Name x1 p1, .Name x2 p2] kt tp] X.env := by rfl)
    (he3 : starEach [.Tuple [.Name x1 p1, .Name x2 p2] kt tp] X.env = (false, eval (.Tuple [.Name x1 p1, .Name x2 p2] kt tp) X.env) :: starEach [] X.env := by rfl) (hpl : (backTo pos (starEach [.Tuple [.Name x1 p1, .Name x2 p2] kt tp] X.env)).any (·.1) = false := by rfl) :
    DE X C W (.Call (.Name "isinstance" p) [e, .Tuple [.Name x1 p1, .Name x2 p2] kt tp] [] pos) (dIsiT [T1, T2] f) := by
  obtain ⟨t, pt, q⟩ := ha
  refine ⟨_, pe_callB call_isiT hg hm PyProof.Rows.boot_isinstance (pa_cons pt (pa_cons (pe_tup (pa_cons (pe_bltn hg1 hm1 hv1 (show RelV (.ty T1) _ from rfl) hn1 hd1) (pa_cons (pe_bltn hg2 hm2 hv2 (show RelV (.ty T2) _ from rfl) hn2 hd2) pa_nil he2) he1)) pa_nil he3) he) (by decide) (by decide) he hpl,
    fun S0 H0 Pb σ H δ Q R h => q S0 H0 Pb σ H δ _ R ((f δ).mono (fun d h v G g dp => ?_) (fun _ z => z) h)⟩
  obtain ⟨b, h1, h2⟩ := optW_inv h
  refine ⟨by show 2 ≤ sizeLine; decide, fun u nu => ?_⟩
  have g2 : Grow G (upd G u (.tup [.ty T1, .ty T2])) := Grow.new nu
  obtain ⟨t', h3, h4⟩ := tyx_dp (C := C) (Le.dp g2.le d v (hid_dp dp)) (fun q ds e => by rw [e] at h1; cases h1)
  refine ⟨v, u, _, _, _, b, rfl, upd_same, .cons (.ty T1) (.cons (.ty T2) .nil), ?_, kitAny_tys (Ts := [T1, T2]) h4 h1, h2 _ _ (g.trans g2) (.bl b)⟩
  rw [← hK]; exact h3
end
def spD (C : Cs) (n : Nat) (F : List Ar → Wp D) : Sp := fun vs H Q E => ∃ (S : Addr → Prop) (as : List Ar), as.length = n ∧ (∀ b, S b → H b ≠ none) ∧ (∀ P ∈ C.T, GxR.TabG H P) ∧ Scr C S H ∧ ArsOk C.K (hid S H) vs as ∧
  (F as).run (fun d => ∀ v G, Grow H G → Dp C.K (hid S G) v d → Q v G) (fun x => ∀ cls dc G, Grow H G → ExAt (C.bx S H) x cls dc G → E cls dc G)
theorem spD_len {C : Cs} {n : Nat} {F : List Ar → Wp D} : ∀ vs H Q E, spD C n F vs H Q E → vs.length = n := fun vs H Q E ⟨S, as, h1, _, _, _, h2, _⟩ => h2.len.trans h1
section
variable {X : Cx} {C : Cs} {W : WX} {pos p : Pos} {e : Expr} {es : List Expr} {r : AF} {x : Str} {fa : Addr} {fd : FuncData} {ps : List Str} {k n : Nat} {F : List Ar → Wp D}
def dCall (n : Nat) (F : List Ar → Wp D) (r : AF) : DF := fun δ => (r δ).bind fun as => .need (as.length = n) (F as)
theorem exat_own {B : Bx} {σ : St} {δ : De} {H : Hp} {x : Exn} {cls : Value} {dc : Option Addr} {G : Hp} (h : ExAt ⟨B.c, Own B σ δ, H⟩ x cls dc G) : ExAt B x cls dc G := by
  refine ⟨h.1, ?_⟩
  have h2 := h.2
  revert h2
  cases x.fld with
  | none => exact id
  | some q =>
    rintro ⟨a, v, h3, h4, h5⟩
    exact ⟨a, v, h3, h4, Le.dp (hid_le (Le.refl G) fun b z => .inl z) _ v h5⟩
theorem de_call (hK : C.K = X.K) (tk : Takes X W) (G : FnOk X.prog X.w X.K X.mg X.base (L2.CX X.prog X.w) k fa fd ps (spD C n F)) (hr : Room k X.A) (hg : Gl X x) (hm : X.mg x = some (.ref fa)) (hk : PySem.W.keepIn X.K (.ref fa) = true) (hb : Binds X.K fd ps []) (ha : DA X C W (e :: es) r)
    (hdb : (x == ("__debug__" : Str)) = false := by decide) (he : starEach (e :: es) X.env = (false, eval e X.env) :: starEach es X.env := by rfl) (hpl : (backTo pos (starEach es X.env)).any (·.1) = false := by rfl) :
    DE X C W (.Call (.Name x p) (e :: es) [] pos) (dCall n F r) := by
  obtain ⟨t, pt, q⟩ := ha
  refine ⟨_, pe_callS G hr hg hm hk hb (fun σ => passAt tk σ) pt hdb he hpl, fun S0 H0 Pb σ H δ Q R h => q S0 H0 Pb σ H δ _ R ((r δ).mono (fun as h vs G g ok => ?_) (fun _ z => z) h)⟩
  refine ⟨Own (C.bx S0 H0) σ δ, as, h.1, fun b z => ?_, (R.gr g).tabs, (R.gr g).scrO, ok, (F as).mono (fun d h v G' g' dp => h v G' (g.trans g') dp) (fun y hy cls dc G' g' ex => hy cls dc G' (g.trans g') (exat_own ex)) h.2⟩
  rcases z with z | ⟨i, ds, e1, e2⟩
  · exact (R.gr g).grow.dm b (R.dom b z)
  · obtain ⟨a, xs, q1, q2, _⟩ := (R.gr g).own i ds e1
    rw [e2] at q1
    cases q1
    rw [q2]
    exact fun z => nomatch z
end
end Tr

namespace Tr
open PySem PySem.Spec L2
variable [ProtC]

inductive Out where
  | nx (δ : De)
  | rt (d : D)
  | bk (δ : De)
  | ct (δ : De)
def OutW (B : Bx) (Pb : Hp) (E : Ends) : Out → Prop
  | .nx δ => ∀ σ H, Rep B Pb σ H δ → E.nx σ H
  | .rt d => ∀ v G, Grow B.H G → Dp B.c.K (hid B.S G) v d → E.rt v G
  | .bk δ => ∀ σ H, Rep B Pb σ H δ → E.bk σ H
  | .ct δ => ∀ σ H, Rep B Pb σ H δ → E.ct σ H
def Xw (B : Bx) (W : WX) (x : Exn) : Prop := ∀ cls dc σ G, Grow B.H G → ExAt B x cls dc G → W cls dc σ G
theorem Xw.ew {B : Bx} {W : WX} {x : Exn} {Pb : Hp} {σ : St} {H : Hp} {δ : De} (h : Xw B W x) (R : Rep B Pb σ H δ) : Ew B W σ H x := fun c d G g e => h c d σ G (R.grow.trans g) e
abbrev SF := De → Wp Out
def DS (X : Cx) (C : Cs) (W : WX) (st : Stmt) (F : SF) : Prop :=
  ∃ t, PS X st t ∧ ∀ S0 H0 Pb σ H δ E, Rep (C.bx S0 H0) Pb σ H δ → (F δ).run (OutW (C.bx S0 H0) Pb E) (Xw (C.bx S0 H0) W) → t E σ H
def DSs (X : Cx) (C : Cs) (W : WX) (st : List Stmt) (F : SF) : Prop :=
  ∃ t, PSs X st t ∧ ∀ S0 H0 Pb σ H δ E, Rep (C.bx S0 H0) Pb σ H δ → (F δ).run (OutW (C.bx S0 H0) Pb E) (Xw (C.bx S0 H0) W) → t E σ H

theorem get_set_cases {A : Type} {l : List A} {i j : Nat} {x y : A} (h : (l.set i x)[j]? = some y) : (i = j ∧ y = x ∧ j < l.length) ∨ (i ≠ j ∧ l[j]? = some y) := by
  by_cases e : i = j
  · subst e
    have hl : i < l.length := by
      have := (List.getElem?_eq_some_iff.mp h).1
      rwa [List.length_set] at this
    rw [List.getElem?_set_self hl] at h
    exact .inl ⟨rfl, (Option.some.inj h).symm, hl⟩
  · rw [List.getElem?_set_ne e] at h
    exact .inr ⟨e, h⟩
theorem own_set {B : Bx} {σ : St} {δ : De} {i : Nat} {v : V} {d : D} {b : Addr} (hl : σ.length = δ.length) (h : Own B (σ.set i (some v)) (δ.set i (.p d)) b) : Own B σ δ b := by
  rcases h with z | ⟨j, ds, e1, e2⟩
  · exact .inl z
  · rcases get_set_cases e1 with ⟨_, h1, _⟩ | ⟨h1, h2⟩
    · cases h1
    · rcases get_set_cases e2 with ⟨h3, _⟩ | ⟨_, h4⟩
      · exact absurd h3 h1
      · exact .inr ⟨j, ds, h2, h4⟩
theorem Rep.setP {B : Bx} {Pb : Hp} {σ : St} {H : Hp} {δ : De} {i : Nat} {v : V} {d : D} (R : Rep B Pb σ H δ) (dp : Dp B.c.K (hid (Own B σ δ) H) v d) : Rep B Pb (σ.set i (some v)) H (δ.set i (.p d)) := by
  have sub : ∀ b, Own B (σ.set i (some v)) (δ.set i (.p d)) b → Own B σ δ b := fun b z => own_set R.len z
  have le : Le (hid (Own B σ δ) H) (hid (Own B (σ.set i (some v)) (δ.set i (.p d))) H) := hid_le (Le.refl H) sub
  refine ⟨R.ph.trans le, by rw [List.length_set, List.length_set]; exact R.len, R.grow, R.dom, R.tabs, fun j e h => ?_, fun j es h => ?_, fun j k es fs a h1 h2 h3 h4 => ?_, fun j x h => ?_, fun j b φ h => ?_, R.scr⟩
  · rcases get_set_cases h with ⟨rfl, h1, h2⟩ | ⟨h1, h2⟩
    · cases h1
      exact ⟨v, List.getElem?_set_self (by rw [R.len]; exact h2), Le.dp le _ v dp⟩
    · obtain ⟨u, q1, q2⟩ := R.pers j e h2
      exact ⟨u, by rw [List.getElem?_set_ne h1]; exact q1, Le.dp le _ u q2⟩
  · rcases get_set_cases h with ⟨_, h1, _⟩ | ⟨h1, h2⟩
    · cases h1
    · obtain ⟨a, xs, q1, q2, q3, q4⟩ := R.own j es h2
      exact ⟨a, xs, by rw [List.getElem?_set_ne h1]; exact q1, q2, q3, Le.dps le _ xs q4⟩
  · rcases get_set_cases h1 with ⟨_, z, _⟩ | ⟨n1, g1⟩
    · cases z
    · rcases get_set_cases h2 with ⟨_, z, _⟩ | ⟨n2, g2⟩
      · cases z
      · rw [List.getElem?_set_ne n1] at h3
        rw [List.getElem?_set_ne n2] at h4
        exact R.uniq j k es fs a g1 g2 h3 h4
  · rcases get_set_cases h with ⟨_, z, _⟩ | ⟨n1, g1⟩
    · cases z
    · rw [List.getElem?_set_ne n1]
      exact R.val j x g1
  · rcases get_set_cases h with ⟨_, z, _⟩ | ⟨n1, g1⟩
    · cases z
    · rw [List.getElem?_set_ne n1]
      exact ⟨(R.trk j b φ g1).1, le b _ (R.trk j b φ g1).2 fun ps z => by cases z⟩
theorem Rep.setO {B : Bx} {Pb : Hp} {σ : St} {H G : Hp} {δ : De} {i : Nat} {a : Addr} {xs : List V} {ds : List D} (R : Rep B Pb σ H δ) (g : Grow H G) (na : H a = none) (ha : G a = some (.lst xs)) (dp : DpAll B.c.K (hid (fun b => Own B σ δ b ∨ b = a) G) xs ds) :
    Rep B Pb (σ.set i (some (.ref a))) G (δ.set i (.o ds)) := by
  have R' := R.gr g
  have nB : B.H a = none := R.grow.free na
  have nO : ∀ j es, δ[j]? = some (Sl.o es) → σ[j]? ≠ some (some (V.ref a)) := fun j es e z => by
    obtain ⟨b, ys, q1, q2, _⟩ := R.own j es e
    rw [z] at q1
    cases q1
    rw [na] at q2
    cases q2
  have sub : ∀ b, Own B (σ.set i (some (.ref a))) (δ.set i (.o ds)) b → Own B σ δ b ∨ b = a := fun b z => by
    rcases z with z | ⟨j, es, e1, e2⟩
    · exact .inl (.inl z)
    · rcases get_set_cases e1 with ⟨rfl, h1, h2⟩ | ⟨h1, h2⟩
      · rw [List.getElem?_set_self (by rw [R.len]; exact h2)] at e2
        cases e2
        exact .inr rfl
      · rw [List.getElem?_set_ne h1] at e2
        exact .inl (.inr ⟨j, es, h2, e2⟩)
  have leN : Le (hid (fun b => Own B σ δ b ∨ b = a) G) (hid (Own B (σ.set i (some (.ref a))) (δ.set i (.o ds))) G) := hid_le (Le.refl G) sub
  have leH : Le (hid (Own B σ δ) H) (hid (fun b => Own B σ δ b ∨ b = a) G) := fun b u e n => by
    obtain ⟨h1, h2⟩ := of_hid e
    rw [hid_in]
    · exact g.le b u h2 n
    · rintro (z | z)
      · exact h1 z
      · rw [z, na] at h2
        cases h2
  have le := leH.trans leN
  refine ⟨R.ph.trans le, by rw [List.length_set, List.length_set]; exact R.len, R'.grow, R.dom, R'.tabs, fun j e h => ?_, fun j es h => ?_, fun j k es fs b h1 h2 h3 h4 => ?_, fun j x h => ?_, fun j b φ h => ?_, R.scr⟩
  · rcases get_set_cases h with ⟨_, h1, _⟩ | ⟨h1, h2⟩
    · cases h1
    · obtain ⟨u, q1, q2⟩ := R.pers j e h2
      exact ⟨u, by rw [List.getElem?_set_ne h1]; exact q1, Le.dp le _ u q2⟩
  · rcases get_set_cases h with ⟨rfl, h1, h2⟩ | ⟨h1, h2⟩
    · cases h1
      exact ⟨a, xs, List.getElem?_set_self (by rw [R.len]; exact h2), ha, nB, Le.dps leN _ xs dp⟩
    · obtain ⟨b, ys, q1, q2, q3, q4⟩ := R.own j es h2
      exact ⟨b, ys, by rw [List.getElem?_set_ne h1]; exact q1, g.le b _ q2 (fun ps z => by cases z), q3, Le.dps le _ ys q4⟩
  · rcases get_set_cases h1 with ⟨e1, z1, l1⟩ | ⟨n1, g1⟩
    · rcases get_set_cases h2 with ⟨e2, z2, l2⟩ | ⟨n2, g2⟩
      · exact e1.symm.trans e2
      · subst e1
        rw [List.getElem?_set_self (by rw [R.len]; exact l1)] at h3
        cases h3
        rw [List.getElem?_set_ne n2] at h4
        exact absurd h4 (nO k _ g2)
    · rcases get_set_cases h2 with ⟨e2, z2, l2⟩ | ⟨n2, g2⟩
      · subst e2
        rw [List.getElem?_set_self (by rw [R.len]; exact l2)] at h4
        cases h4
        rw [List.getElem?_set_ne n1] at h3
        exact absurd h3 (nO j _ g1)
      · rw [List.getElem?_set_ne n1] at h3
        rw [List.getElem?_set_ne n2] at h4
        exact R.uniq j k es fs b g1 g2 h3 h4
  · rcases get_set_cases h with ⟨_, z, _⟩ | ⟨n1, g1⟩
    · cases z
    · rw [List.getElem?_set_ne n1]
      exact R.val j x g1
  · rcases get_set_cases h with ⟨_, z, _⟩ | ⟨n1, g1⟩
    · cases z
    · rw [List.getElem?_set_ne n1]
      exact ⟨(R.trk j b φ g1).1, le b _ (R.trk j b φ g1).2 fun ps z => by cases z⟩
theorem Rep.wr {B : Bx} {Pb : Hp} {σ : St} {H : Hp} {δ : De} {i : Nat} {a : Addr} {xs ys : List V} {ds es : List D} (R : Rep B Pb σ H δ) (hd : δ[i]? = some (Sl.o ds)) (hs : σ[i]? = some (some (.ref a))) (ha : H a = some (.lst xs)) (dp : DpAll B.c.K (hid (Own B σ δ) H) ys es) :
    Rep B Pb σ (upd H a (.lst ys)) (δ.set i (.o es)) := by
  obtain ⟨a', xs', q1, q2, q3, q4⟩ := R.own i ds hd
  rw [hs] at q1
  cases q1
  have hi : i < δ.length := (List.getElem?_eq_some_iff.mp hd).1
  have oa : Own B σ δ a := .inr ⟨i, ds, hd, hs⟩
  have own : ∀ b, Own B σ (δ.set i (.o es)) b ↔ Own B σ δ b := fun b => by
    constructor
    · rintro (z | ⟨j, fs, e1, e2⟩)
      · exact .inl z
      · rcases get_set_cases e1 with ⟨rfl, h1, h2⟩ | ⟨h1, h2⟩
        · exact .inr ⟨i, ds, hd, e2⟩
        · exact .inr ⟨j, fs, h2, e2⟩
    · rintro (z | ⟨j, fs, e1, e2⟩)
      · exact .inl z
      · by_cases e : i = j
        · subst e
          exact .inr ⟨i, es, List.getElem?_set_self hi, e2⟩
        · exact .inr ⟨j, fs, by rw [List.getElem?_set_ne e]; exact e1, e2⟩
  have le : Le (hid (Own B σ δ) H) (hid (Own B σ (δ.set i (.o es))) (upd H a (.lst ys))) := fun b u e n => by
    obtain ⟨h1, h2⟩ := of_hid e
    rw [hid_in fun z => h1 ((own b).mp z), upd_ne]
    · exact h2
    · intro z
      subst z
      exact h1 oa
  refine ⟨R.ph.trans le, by rw [List.length_set]; exact R.len, ⟨fun b u e n => ?_, fun P h => ?_, fun b h => ?_, fun P q hp t => TabS.put ha (R.grow.pr P q hp t)⟩, R.dom, fun P h => ?_, fun j e h => ?_, fun j fs h => ?_, fun j k fs fs' b h1 h2 h3 h4 => ?_, fun j x h => ?_, fun j b φ h => ?_, R.scr⟩
  · rw [upd_ne (ne_of_none e q3)]
    exact R.grow.le b u e n
  · obtain ⟨ps, e, t⟩ := R.grow.tb P h
    refine ⟨ps, ?_, t⟩
    rw [upd_ne (ne_of e ha fun z => by cases z)]
    exact e
  · by_cases c : b = a
    · rw [c, upd_same]
      exact fun z => nomatch z
    · rw [upd_ne c]
      exact R.grow.dm b h
  · obtain ⟨ps, e, t⟩ := R.tabs P h
    refine ⟨ps, ?_, t⟩
    rw [upd_ne (ne_of e ha fun z => by cases z)]
    exact e
  · rcases get_set_cases h with ⟨_, h1, _⟩ | ⟨h1, h2⟩
    · cases h1
    · obtain ⟨u, g1, g2⟩ := R.pers j e h2
      exact ⟨u, g1, Le.dp le _ u g2⟩
  · rcases get_set_cases h with ⟨rfl, h1, h2⟩ | ⟨h1, h2⟩
    · cases h1
      exact ⟨a, ys, hs, upd_same, q3, Le.dps le _ ys dp⟩
    · obtain ⟨b, zs, g1, g2, g3, g4⟩ := R.own j fs h2
      refine ⟨b, zs, g1, ?_, g3, Le.dps le _ zs g4⟩
      rw [upd_ne]
      · exact g2
      · intro z
        subst z
        exact h1 (R.uniq i j ds fs b hd h2 hs g1)
  · have ex : ∀ j fs, (δ.set i (.o es))[j]? = some (Sl.o fs) → ∃ fs0, δ[j]? = some (Sl.o fs0) := fun j fs e => by
      rcases get_set_cases e with ⟨rfl, _, _⟩ | ⟨_, h2⟩
      · exact ⟨ds, hd⟩
      · exact ⟨fs, h2⟩
    obtain ⟨f1, g1⟩ := ex j fs h1
    obtain ⟨f2, g2⟩ := ex k fs' h2
    exact R.uniq j k f1 f2 b g1 g2 h3 h4
  · rcases get_set_cases h with ⟨_, z, _⟩ | ⟨n1, g1⟩
    · cases z
    · exact R.val j x g1
  · rcases get_set_cases h with ⟨_, z, _⟩ | ⟨n1, g1⟩
    · cases z
    · exact ⟨(R.trk j b φ g1).1, le b _ (R.trk j b φ g1).2 fun ps z => by cases z⟩
theorem Rep.fz {B : Bx} {Pb : Hp} {σ : St} {H : Hp} {δ : De} {i : Nat} {ds : List D} (R : Rep B Pb σ H δ) (hd : δ[i]? = some (Sl.o ds)) : Rep B Pb σ H (δ.set i (.p (.list ds))) := by
  obtain ⟨a, xs, q1, q2, q3, q4⟩ := R.own i ds hd
  have hi : i < δ.length := (List.getElem?_eq_some_iff.mp hd).1
  have hσ : σ.set i (some (.ref a)) = σ := by
    apply List.ext_getElem?
    intro j
    by_cases e : i = j
    · subst e
      rw [List.getElem?_set_self (by rw [R.len]; exact hi), q1]
    · rw [List.getElem?_set_ne e]
  have sub : ∀ b, Own B σ (δ.set i (.p (.list ds))) b → Own B σ δ b ∧ b ≠ a := fun b z => by
    rcases z with z | ⟨j, es, e1, e2⟩
    · refine ⟨.inl z, ?_⟩
      rintro rfl
      exact R.dom b z q3
    · rcases get_set_cases e1 with ⟨_, h1, _⟩ | ⟨h1, h2⟩
      · cases h1
      · refine ⟨.inr ⟨j, es, h2, e2⟩, ?_⟩
        rintro rfl
        exact h1 (R.uniq i j ds es b hd h2 q1 e2)
  have le : Le (hid (Own B σ δ) H) (hid (Own B σ (δ.set i (.p (.list ds)))) H) := hid_le (Le.refl H) fun b z => (sub b z).1
  refine ⟨R.ph.trans le, by rw [List.length_set]; exact R.len, R.grow, R.dom, R.tabs, fun j e h => ?_, fun j es h => ?_, fun j k es fs b h1 h2 h3 h4 => ?_, fun j x h => ?_, fun j b φ h => ?_, R.scr⟩
  · rcases get_set_cases h with ⟨rfl, h1, _⟩ | ⟨h1, h2⟩
    · cases h1
      refine ⟨.ref a, q1, .lst (SqL.of ?_) (Le.dps le ds xs q4)⟩
      rw [hid_in fun z => (sub a z).2 rfl]
      exact q2
    · obtain ⟨u, g1, g2⟩ := R.pers j e h2
      exact ⟨u, g1, Le.dp le _ u g2⟩
  · rcases get_set_cases h with ⟨_, h1, _⟩ | ⟨h1, h2⟩
    · cases h1
    · obtain ⟨b, ys, g1, g2, g3, g4⟩ := R.own j es h2
      exact ⟨b, ys, g1, g2, g3, Le.dps le _ ys g4⟩
  · rcases get_set_cases h1 with ⟨_, z, _⟩ | ⟨n1, g1⟩
    · cases z
    · rcases get_set_cases h2 with ⟨_, z, _⟩ | ⟨n2, g2⟩
      · cases z
      · exact R.uniq j k es fs b g1 g2 h3 h4
  · rcases get_set_cases h with ⟨_, z, _⟩ | ⟨n1, g1⟩
    · cases z
    · exact R.val j x g1
  · rcases get_set_cases h with ⟨_, z, _⟩ | ⟨n1, g1⟩
    · cases z
    · exact ⟨(R.trk j b φ g1).1, le b _ (R.trk j b φ g1).2 fun ps z => by cases z⟩

section
variable {X : Cx} {C : Cs} {W : WX} {pos : Pos} {e : Expr} {f : DF} {st : Stmt} {rest : List Stmt} {F G : SF}
theorem ds_never : DS X C W st fun _ => .stuck := ⟨_, ps_never, fun _ _ _ _ _ _ _ _ h => h⟩
theorem dss_never {sts : List Stmt} : DSs X C W sts fun _ => .stuck := ⟨_, pss_never, fun _ _ _ _ _ _ _ _ h => h⟩
def sNext : SF := fun δ => .pure (.nx δ)
theorem dss_nil : DSs X C W [] sNext := ⟨_, pss_nil, fun _ _ _ σ H _ _ R h => h σ H R⟩
def sSeq (F G : SF) : SF := fun δ => (F δ).bind fun o => match o with
  | .nx δ' => G δ'
  | o => .pure o
theorem dss_cons (h1 : DS X C W st F) (h2 : DSs X C W rest G) : DSs X C W (st :: rest) (sSeq F G) := by
  obtain ⟨t, p, q⟩ := h1
  obtain ⟨u, p2, q2⟩ := h2
  refine ⟨_, pss_cons p p2, fun S0 H0 Pb σ H δ E R h => q S0 H0 Pb σ H δ _ R ((F δ).mono (fun o h => ?_) (fun _ z => z) h)⟩
  cases o with
  | nx δ' => exact fun σ' H' R' => q2 S0 H0 Pb σ' H' δ' E R' h
  | rt d => exact h
  | bk δ' => exact h
  | ct δ' => exact h
theorem dss_one (h1 : DS X C W st F) : DSs X C W [st] F := by
  obtain ⟨t, p, q⟩ := h1
  exact ⟨_, pss_one p, q⟩
def fz (i : Nat) (δ : De) : De := match δ[i]? with
  | some (.o ds) => δ.set i (.p (.list ds))
  | _ => δ
theorem dss_fz (i : Nat) {sts : List Stmt} (h : DSs X C W sts F) : DSs X C W sts (fun δ => F (fz i δ)) := by
  obtain ⟨t, p, q⟩ := h
  refine ⟨t, p, fun S0 H0 Pb σ H δ E R h => q S0 H0 Pb σ H (fz i δ) E ?_ h⟩
  unfold fz
  split
  · rename_i ds e
    exact R.fz e
  · exact R
def sRet (f : DF) : SF := fun δ => (f δ).bind fun d => .pure (.rt d)
theorem ds_ret (he : DE X C W e f) : DS X C W (.Return (some e) pos) (sRet f) := by
  obtain ⟨t, p, q⟩ := he
  refine ⟨_, ps_ret p, fun S0 H0 Pb σ H δ E R h => q S0 H0 Pb σ H δ _ R ((f δ).mono (fun d h v G g dp => ?_) (fun _ z => z.ew R) h)⟩
  exact h v G (R.grow.trans g) (Le.dp (hid_le (Le.refl G) fun _ z => .inl z) d v dp)
def sDrop (f : DF) : SF := fun δ => (f δ).bind fun _ => .pure (.nx δ)
theorem ds_expr (he : DE X C W e f) (hs : swapsWith e none pos.line X.env = pure false := by rfl) : DS X C W (.Expr e pos) (sDrop f) := by
  obtain ⟨t, p, q⟩ := he
  refine ⟨_, ps_expr p hs, fun S0 H0 Pb σ H δ E R h => q S0 H0 Pb σ H δ _ R ((f δ).mono (fun d h v G g dp => h σ G (R.gr g)) (fun _ z => z.ew R) h)⟩
def sSet (i : Nat) (f : DF) : SF := fun δ => (f δ).bind fun d => .pure (.nx (δ.set i (.p d)))
theorem ds_set {i : Nat} {x : Str} {pos' : Pos} (hN : X.N.Nodup) (hi : X.N[i]? = some x) (hx : Loc X.env.scope x) (he : DE X C W e f) (hs : swapsWith e (some (.Name x pos')) pos.line X.env = pure false := by rfl) (hf : X.fn x = true ∨ X.env.scope.names.lookup x = some .local := by first | exact .inl rfl | exact .inr rfl | assumption) :
    DS X C W (.Assign [.Name x pos'] e pos) (sSet i f) := by
  obtain ⟨t, p, q⟩ := he
  refine ⟨_, ps_set hN hi hx p hs hf, fun S0 H0 Pb σ H δ E R h => q S0 H0 Pb σ H δ _ R ((f δ).mono (fun d h v G g dp => ?_) (fun _ z => z.ew R) h)⟩
  exact h _ G ((R.gr g).setP dp)
def sIf (c : TF) (F G : SF) : SF := fun δ => (c δ).bind fun b => if b then F δ else G δ
theorem ds_if {c : Expr} {a b : List Stmt} {t : TF} (hc : DT X C W c t) (ha : DSs X C W a F) (hb : DSs X C W b G) : DS X C W (.If c a b pos) (sIf t F G) := by
  obtain ⟨tc, pc, qc⟩ := hc
  obtain ⟨ta, pa, qa⟩ := ha
  obtain ⟨tb, pb, qb⟩ := hb
  refine ⟨_, ps_if pc pa pb, fun S0 H0 Pb σ H δ E R h => qc S0 H0 Pb σ H δ _ R ((t δ).mono (fun k h G' g => ?_) (fun _ z => z.ew R) h)⟩
  cases k with
  | true => exact qa S0 H0 Pb σ G' δ E (R.gr g) h
  | false => exact qb S0 H0 Pb σ G' δ E (R.gr g) h
theorem wipe_get {σ : St} {j : Nat} : ∀ {vs : List Nat}, (wipe σ vs)[j]? = if j ∈ vs then (σ[j]?).map (fun _ => none) else σ[j]?
  | [] => by simp [wipe]
  | v :: vs => by
    unfold wipe
    by_cases e : v = j
    · subst e
      rw [if_pos (List.mem_cons_self ..)]
      by_cases hl : v < σ.length
      · rw [List.getElem?_set_self (by rw [wipe_length]; exact hl), List.getElem?_eq_getElem hl]
        rfl
      · rw [List.getElem?_eq_none (by rw [List.length_set, wipe_length]; omega), List.getElem?_eq_none (by omega)]
        rfl
    · rw [List.getElem?_set_ne e, wipe_get (vs := vs)]
      have : (j ∈ v :: vs) ↔ j ∈ vs := by
        rw [List.mem_cons]
        exact ⟨fun z => z.resolve_left fun q => e q.symm, .inr⟩
      simp only [this]
theorem wipe_set {σ : St} {i : Nat} {x : Option V} {vs : List Nat} (h : i ∈ vs) : wipe (σ.set i x) vs = wipe σ vs := by
  apply List.ext_getElem?
  intro j
  rw [wipe_get, wipe_get]
  by_cases e : i = j
  · subst e
    rw [if_pos h, if_pos h]
    by_cases hl : i < σ.length
    · rw [List.getElem?_set_self hl, List.getElem?_eq_getElem hl]
      rfl
    · rw [List.getElem?_eq_none (by rw [List.length_set]; omega), List.getElem?_eq_none (by omega)]
  · rw [List.getElem?_set_ne e]
abbrev BF := D → De → Option De
def DG (X : Cx) (C : Cs) (tg : Expr) (ix : List Nat) (f : BF) : Prop :=
  ∃ g, PG X tg g ∧ ∀ S0 H0 Pb σ H δ x d δ' Q, Rep (C.bx S0 H0) Pb σ H δ → Dp C.K (hid (Own (C.bx S0 H0) σ δ) H) x d → f d δ = some δ' →
    (∀ σ', Rep (C.bx S0 H0) Pb σ' H δ' → (∀ b, Own (C.bx S0 H0) σ' δ' b → Own (C.bx S0 H0) σ δ b) → (∀ vs, (∀ i ∈ ix, i ∈ vs) → wipe σ' vs = wipe σ vs) → Q σ' H) → g x σ H Q
def DGs (X : Cx) (C : Cs) (tgs : List Expr) (ix : List Nat) (f : List D → De → Option De) : Prop :=
  ∃ g, PGs X tgs g ∧ ∀ S0 H0 Pb σ H δ xs ds δ' Q, Rep (C.bx S0 H0) Pb σ H δ → DpAll C.K (hid (Own (C.bx S0 H0) σ δ) H) xs ds → f ds δ = some δ' →
    (∀ σ', Rep (C.bx S0 H0) Pb σ' H δ' → (∀ b, Own (C.bx S0 H0) σ' δ' b → Own (C.bx S0 H0) σ δ b) → (∀ vs, (∀ i ∈ ix, i ∈ vs) → wipe σ' vs = wipe σ vs) → Q σ' H) → g xs σ H Q
def bName (i : Nat) : BF := fun d δ => some (δ.set i (.p d))
theorem dg_name {i : Nat} {x : Str} (hN : X.N.Nodup) (hi : X.N[i]? = some x) (hx : Loc X.env.scope x) (hf : X.fn x = true ∨ X.env.scope.names.lookup x = some .local := by first | exact .inl rfl | exact .inr rfl | assumption) : DG X C (.Name x pos) [i] (bName i) := by
  refine ⟨_, pg_name hN hi hx hf, fun S0 H0 Pb σ H δ x d δ' Q R dp h k => ?_⟩
  cases h
  exact k _ (R.setP dp) (fun b z => own_set R.len z) fun vs h => wipe_set (h i (List.mem_singleton.mpr rfl))
def bNil : List D → De → Option De
  | [], δ => some δ
  | _, _ => none
def bCons (f : BF) (r : List D → De → Option De) : List D → De → Option De
  | d :: ds, δ => (f d δ).bind (r ds)
  | [], _ => none
def bTup (n : Nat) (r : List D → De → Option De) : BF
  | .tuple ds, δ => if ds.length = n then r ds δ else none
  | _, _ => none
theorem dgs_nil : DGs X C [] [] bNil := by
  refine ⟨_, pgs_nil, fun S0 H0 Pb σ H δ xs ds δ' Q R dp h k => ?_⟩
  cases dp with
  | nil =>
    cases h
    exact ⟨rfl, k σ R (fun _ z => z) fun _ _ => rfl⟩
  | cons a b => cases h
theorem dgs_cons {es : List Expr} {ix iy : List Nat} {f : BF} {r : List D → De → Option De} (h1 : DG X C e ix f) (h2 : DGs X C es iy r) (hs : (assignEach (e :: es) X.env).map (·.2) = assign e X.env :: (assignEach es X.env).map (·.2) := by rfl) : DGs X C (e :: es) (ix ++ iy) (bCons f r) := by
  obtain ⟨g, p, q⟩ := h1
  obtain ⟨g2, p2, q2⟩ := h2
  refine ⟨_, pgs_cons p p2 hs, fun S0 H0 Pb σ H δ xs ds δ' Q R dp h k => ?_⟩
  cases dp with
  | nil => cases h
  | cons a b =>
    rename_i v vs d ds
    obtain ⟨δ1, h3, h4⟩ := Option.bind_eq_some_iff.mp h
    refine ⟨v, vs, rfl, q S0 H0 Pb σ H δ v d δ1 _ R a h3 fun σ1 R1 o1 w1 => ?_⟩
    exact q2 S0 H0 Pb σ1 H δ1 vs ds δ' Q R1 (Le.dps (hid_le (Le.refl H) o1) ds vs b) h4 fun σ2 R2 o2 w2 => k σ2 R2 (fun b z => o1 b (o2 b z)) fun vs h => (w2 vs fun i hi => h i (List.mem_append_right _ hi)).trans (w1 vs fun i hi => h i (List.mem_append_left _ hi))
theorem dg_tup {es : List Expr} {ix : List Nat} {kk n : Nat} {r : List D → De → Option De} (hK : C.K = X.K) (hc : X.calm = true) (h : DGs X C es ix r) (hn : (assignEach es X.env).length = n := by rfl) (hst : (assignEach es X.env).findIdx? (·.1) = none := by rfl) : DG X C (.Tuple es kk pos) ix (bTup n r) := by
  obtain ⟨g, p, q⟩ := h
  refine ⟨_, pg_tup hc p hn hst, fun S0 H0 Pb σ H δ x d δ' Q R dp h k => ?_⟩
  unfold bTup at h
  split at h
  · cases dp with
    | tup s a =>
      split at h
      · rename_i hl
        exact ⟨_, _, rfl, by rw [← hK]; exact Le.sqT hid_sub s, by rw [dps_len a]; exact hl, q S0 H0 Pb σ H δ _ _ δ' Q R a h k⟩
      · cases h
  · cases h
def sAsg (f : DF) (g : BF) : SF := fun δ => (f δ).bind fun d => (optW (g d δ)).bind fun δ' => .pure (.nx δ')
theorem ds_asg {tg : Expr} {ix : List Nat} {g : BF} (he : DE X C W e f) (hg : DG X C tg ix g) (hs : swapsWithSole [tg] e pos.line X.env = pure false := by rfl) (hw : swappedStores [tg] e X.env = pure none := by rfl)
    (h1 : (assignEach [tg] X.env).map (·.2) = [assign tg X.env] := by rfl) : DS X C W (.Assign [tg] e pos) (sAsg f g) := by
  obtain ⟨t, p, q⟩ := he
  obtain ⟨u, p2, q2⟩ := hg
  refine ⟨_, ps_asg p p2 hs hw h1, fun S0 H0 Pb σ H δ E R h => q S0 H0 Pb σ H δ _ R ((f δ).mono (fun d h v G g' dp => ?_) (fun _ z => z.ew R) h)⟩
  obtain ⟨δ', h2, h3⟩ := optW_inv h
  exact q2 S0 H0 Pb σ G δ v d δ' _ (R.gr g') dp h2 fun σ' R' _ _ => h3 σ' G R'
def sPar (i j : Nat) (r : AF) : SF := fun δ => (r δ).bind fun as => match as with
  | [.d x, .d y] => .pure (.nx ((δ.set i (.p x)).set j (.p y)))
  | _ => .stuck
theorem ds_par {i j : Nat} {x y : Str} {a b : Expr} {r : AF} {px py pt : Pos} {kt k2 pt2} (hc : X.calm = true) (hN : X.N.Nodup) (hi : X.N[i]? = some x) (hj : X.N[j]? = some y) (hij : i ≠ j)
    (hx : X.env.scope.names.lookup x = some .local) (hy : X.env.scope.names.lookup y = some .local) (ha : DA X C W [a, b] r) (hw : swappedStores [.Tuple [.Name x px, .Name y py] kt pt] (.Tuple [a, b] k2 pt2) X.env = pure (some [x, y]))
    (hs : swapsWithSole [.Tuple [.Name x px, .Name y py] kt pt] (.Tuple [a, b] k2 pt2) pos.line X.env = pure false := by rfl) : DS X C W (.Assign [.Tuple [.Name x px, .Name y py] kt pt] (.Tuple [a, b] k2 pt2) pos) (sPar i j r) := by
  obtain ⟨t, p, q⟩ := ha
  refine ⟨_, ps_par hc hN hi hj hij hx hy p hw hs, fun S0 H0 Pb σ H δ E R h => q S0 H0 Pb σ H δ _ R ((r δ).mono (fun as h vs G g ok => ?_) (fun _ z => z.ew R) h)⟩
  dsimp only at h
  split at h
  · match vs, ok with
    | [v, u], ⟨d1, d2, _⟩ =>
      refine ⟨v, u, rfl, h _ G ?_⟩
      have R1 := (R.gr g).setP (i := i) d1
      exact R1.setP (Le.dp (hid_le (Le.refl G) fun b z => own_set (R.gr g).len z) _ _ d2)
    | [], ok => exact ok.elim
    | [_], ok => exact ok.2.elim
    | _ :: _ :: _ :: _, ok => exact ok.2.2.elim
  · exact h.elim
def sWhile (c : TF) (b : SF) : SF := fun δ => ⟨fun k w => ∃ I : Nat → De → Prop, (∃ m, I m δ) ∧ ∀ m δ, I m δ → (c δ).run (fun t => if t = true then (b δ).run (fun o => match o with
    | .nx δ' => ∃ m', m' < m ∧ I m' δ'
    | .ct δ' => ∃ m', m' < m ∧ I m' δ'
    | .bk δ' => k (.nx δ')
    | .rt d => k (.rt d)) w else k (.nx δ)) w, fun {k k' w w'} hk hw ⟨I, h0, h⟩ => ⟨I, h0, fun m δ hi => (c δ).mono (fun t ht => by
      cases t with
      | false => exact hk _ ht
      | true => exact (b δ).mono (fun o ho => by cases o <;> first | exact ho | exact hk _ ho) hw ht) hw (h m δ hi)⟩⟩
theorem ds_while {c : Expr} {body : List Stmt} {t : TF} (hp : PassesOwn (model X.prog X.w) X.A X.env X.xe) (hc : DT X C W c t) (hb : DSs X C W body F) : DS X C W (.While c body [] pos) (sWhile t F) := by
  obtain ⟨tc, pc, qc⟩ := hc
  obtain ⟨tb, pb, qb⟩ := hb
  refine ⟨_, ps_while hp pc pb, fun S0 H0 Pb σ H δ E R h => ?_⟩
  obtain ⟨I, ⟨m0, i0⟩, h⟩ := h
  refine ⟨fun m σ H => ∃ δ, Rep (C.bx S0 H0) Pb σ H δ ∧ I m δ, ⟨m0, δ, R, i0⟩, fun m σ H ⟨δ, R, i⟩ => ?_⟩
  refine qc S0 H0 Pb σ H δ _ R ((t δ).mono (fun k hk G g => ?_) (fun _ z => z.ew R) (h m δ i))
  cases k with
  | false => exact hk σ G (R.gr g)
  | true =>
    refine ⟨fun σ' H' => ∃ m', m' < m ∧ ∃ δ', Rep (C.bx S0 H0) Pb σ' H' δ' ∧ I m' δ', fun σ' H' q => q, ?_⟩
    refine qb S0 H0 Pb σ G δ _ (R.gr g) ((F δ).mono (fun o ho => ?_) (fun _ z => z) hk)
    cases o with
    | nx δ' => exact fun σ' H' R' => let ⟨m', h1, h2⟩ := ho; ⟨m', h1, δ', R', h2⟩
    | ct δ' => exact fun σ' H' R' => let ⟨m', h1, h2⟩ := ho; ⟨m', h1, δ', R', h2⟩
    | bk δ' => exact ho
    | rt d => exact ho
end
end Tr

namespace Tr
open PySem PySem.Spec L2
variable [ProtC]

theorem Rep.base {B : Bx} {Pb Ph : Hp} {σ : St} {H : Hp} {δ : De} (R : Rep B Ph σ H δ) (l : Le Pb Ph) : Rep B Pb σ H δ :=
  ⟨l.trans R.ph, R.len, R.grow, R.dom, R.tabs, R.pers, R.own, R.uniq, R.val, R.trk, R.scr⟩
theorem Rep.top {B : Bx} {Pb : Hp} {σ : St} {H : Hp} {δ : De} (R : Rep B Pb σ H δ) : Rep B (hid (Own B σ δ) H) σ H δ :=
  ⟨Le.refl _, R.len, R.grow, R.dom, R.tabs, R.pers, R.own, R.uniq, R.val, R.trk, R.scr⟩
theorem Rep.odom {B : Bx} {Pb : Hp} {σ : St} {H : Hp} {δ : De} (R : Rep B Pb σ H δ) : ∀ b, Own B σ δ b → H b ≠ none := fun b z => by
  rcases z with z | ⟨i, ds, e1, e2⟩
  · exact R.grow.dm b (R.dom b z)
  · obtain ⟨a, xs, q1, q2, _⟩ := R.own i ds e1
    rw [e2] at q1
    cases q1
    rw [q2]
    exact fun z => nomatch z

def Items (K : PySem.W.Frag) (Ph Bh : Hp) (ds : List D) (J : It) : Prop := ∃ Gp Y, Walk J ds.length Gp Y ∧ (∀ H1, Le Ph H1 → Le Bh H1 → Gp H1) ∧
  ∀ i H1 x H2 (S : Addr → Prop), i < ds.length → Le Ph (hid S H1) → Le Bh H1 → (∀ b, S b → H1 b ≠ none) → Y i H1 x H2 → Grow H1 H2 ∧ ∃ d, ds[i]? = some d ∧ Dp K (hid S H2) x d
def DI (X : Cx) (C : Cs) (W : WX) (tg iter : Expr) (f : De → Wp (List D)) : Prop :=
  ∃ wi, PI X tg iter wi ∧ ∀ S0 H0 Pb σ H δ Q, Rep (C.bx S0 H0) Pb σ H δ → (f δ).run (fun ds => ∀ J G, Grow H G → Items C.K (hid (Own (C.bx S0 H0) σ δ) G) (obh C H0) ds J → Q J G) (Ew (C.bx S0 H0) W σ H) → wi σ H Q
theorem items_at {K : PySem.W.Frag} {Ph Bh : Hp} {xs : List V} {ds : List D} {J : It} {Gp : Hp → Prop} (w : Walk J xs.length Gp (YAt xs)) (hG : ∀ H1, Le Ph H1 → Le Bh H1 → Gp H1) (dp : DpAll K Ph xs ds) : Items K Ph Bh ds J := by
  refine ⟨Gp, YAt xs, by rw [← dps_len dp]; exact w, hG, fun i H1 x H2 S hi l _ _ y => ?_⟩
  obtain ⟨rfl, e⟩ := y
  obtain ⟨d, hd⟩ : ∃ d, ds[i]? = some d := ⟨ds[i], List.getElem?_eq_getElem hi⟩
  obtain ⟨v, h1, h2⟩ := dps_get dp hd
  rw [e] at h1
  cases h1
  exact ⟨Grow.refl _, d, hd, Le.dp l d x h2⟩
def seqD : D → Wp (List D)
  | .list ds => .pure ds
  | .tuple ds => .pure ds
  | _ => .stuck
section
variable {X : Cx} {C : Cs} {W : WX} {pos p : Pos} {e tg : Expr} {f : DF}
def wSeq (K : PySem.W.Frag) (tl : TE) : TI := fun σ H R => tl σ H fun x H1 => ∃ a, x = .ref a ∧ ((∃ xs, SqL K H1 a xs ∧ R (Itl K a) H1) ∨ ∃ xs, SqT K H1 a xs ∧ R (Itt K a) H1)
theorem pi_seq {tl : TE} (hl : PE X e tl) : PI X tg e (wSeq X.K tl) := by
  constructor
  intro pins s σ H R I h
  refine thn (hl.run pins s σ H _ I h) ?_
  rintro v s1 ⟨x, H1, I1, r1, a, rfl, q⟩
  cases r1
  have one : ∀ b, b ∈ [s1.heap.objs.size] → FpOk X pins H1 b := fun b hb => by
    cases List.mem_singleton.mp hb
    exact I1.fpOk (Nat.le_refl _) (I1.hok.fresh (Nat.le_refl _))
  rcases q with ⟨xs, hq, q⟩ | ⟨xs, hq, q⟩
  · obtain ⟨its, rv, pl, hz⟩ := I1.list hq
    apply wpAny_pyIter_list pl.isList
    exact ⟨s1.heap.objs.size, [s1.heap.objs.size], _, _, H1, rfl, I1.kept (t' := s1.toks) (fun _ _ z => Heap.get?_push_of_some _ z), turn_list a _, ⟨_, Heap.get?_push_size _ rfl, rfl, rfl⟩, one, q⟩
  · obtain ⟨its, rv, pl, hz⟩ := I1.tuple hq
    apply wpAny_pyIter_tuple (show s1.heap.IsTuple a its.toArray from pl)
    exact ⟨s1.heap.objs.size, [s1.heap.objs.size], _, _, H1, rfl, I1.kept (t' := s1.toks) (fun _ _ z => Heap.get?_push_of_some _ z), turn_tuple a _, ⟨_, Heap.get?_push_size _ rfl, rfl, rfl⟩, one, q⟩
def iSeqD (f : DF) : De → Wp (List D) := fun δ => (f δ).bind seqD
theorem di_seq (hK : C.K = X.K) (he : DE X C W e f) : DI X C W tg e (iSeqD f) := by
  obtain ⟨t, pt, q⟩ := he
  refine ⟨_, pi_seq pt, fun S0 H0 Pb σ H δ Q R h => q S0 H0 Pb σ H δ _ R ((f δ).mono (fun d h v G g dp => ?_) (fun _ z => z) h)⟩
  rw [← hK]
  cases dp with
  | lst s a => exact ⟨_, rfl, .inl ⟨_, Le.sqL hid_sub s, h _ G g (items_at walk_list (fun H1 l _ => l.sqL s) a)⟩⟩
  | tup s a => exact ⟨_, rfl, .inr ⟨_, Le.sqT hid_sub s, h _ G g (items_at walk_tup (fun H1 l _ => l.sqT s) a)⟩⟩
  | _ => exact h.elim
def rgD (lo : Int) (n : Nat) : List D := (List.range n).map fun (i : Nat) => .int (lo + (i : Int))
theorem items_range {K : PySem.W.Frag} {Ph Bh : Hp} {lo : Int} {n : Nat} : Items K Ph Bh (rgD lo n) (Itr lo n) := by
  have hl : (rgD lo n).length = n := by simp [rgD]
  refine ⟨_, _, by rw [hl]; exact walk_range, fun _ _ _ => trivial, fun i H1 x H2 S hi _ _ _ y => ?_⟩
  obtain ⟨rfl, rfl⟩ := y
  rw [hl] at hi
  exact ⟨Grow.refl _, .int (lo + i), by simp [rgD, hi], .int _⟩
def asI1 : D → Wp Int
  | .int i => .pure i
  | _ => .stuck
def lo62 (j : Int) : Prop := -(2 ^ 62) ≤ j ∧ j < 2 ^ 62
def iRgD1 (f : DF) : De → Wp (List D) := fun δ => (f δ).bind fun d => (asI1 d).bind fun j => .need (lo62 j) (.pure (rgD 0 j.toNat))
def iRgD2 (f g : DF) : De → Wp (List D) := fun δ => (f δ).bind fun d => (g δ).bind fun e => (asI1 d).bind fun i => (asI1 e).bind fun j => .need (lo62 i ∧ lo62 j) (.pure (rgD i (j - i).toNat))
theorem asI1_dp {K : PySem.W.Frag} {H : Hp} {v : V} {d : D} {k : Int → Prop} {w : Exn → Prop} (dp : Dp K H v d) (h : (asI1 d).run k w) : ∃ i, v = .int i ∧ k i := by
  unfold asI1 at h
  split at h
  · cases dp
    exact ⟨_, rfl, h⟩
  · exact h.elim
theorem di_range1 (hg : Gl X "range") (hm : X.mg "range" = none) (he : DE X C W e f) (hs : starEach [e] X.env = [(false, eval e X.env)] := by rfl) : DI X C W tg (.Call (.Name "range" p) [e] [] pos) (iRgD1 f) := by
  obtain ⟨t, pt, q⟩ := he
  refine ⟨_, pi_range1 hg hm (pa_cons pt pa_nil hs) hs, fun S0 H0 Pb σ H δ Q R h => q S0 H0 Pb σ H δ _ R ((f δ).mono (fun d h v G g dp => ?_) (fun _ z => z) h)⟩
  obtain ⟨j, rfl, hj, hk⟩ := asI1_dp dp h
  exact ⟨j, rfl, hj.1, hj.2, hk _ G g items_range⟩
def sLoop (g : BF) (F : SF) : List D → De → Wp Out
  | [], δ => .pure (.nx δ)
  | d :: ds, δ => (optW (g d δ)).bind fun δ1 => (F δ1).bind fun o => match o with
    | .nx δ' => sLoop g F ds δ'
    | .ct δ' => sLoop g F ds δ'
    | .bk δ' => .pure (.nx δ')
    | .rt d => .pure (.rt d)
def sFor (f : De → Wp (List D)) (g : BF) (F : SF) : SF := fun δ => (f δ).bind fun ds => sLoop g F ds δ
theorem OutW.base {B : Bx} {Pb Ph : Hp} {E : Ends} {o : Out} (l : Le Pb Ph) (h : OutW B Pb E o) : OutW B Ph E o := by
  cases o with
  | nx δ => exact fun σ H R => h σ H (R.base l)
  | rt d => exact h
  | bk δ => exact fun σ H R => h σ H (R.base l)
  | ct δ => exact fun σ H R => h σ H (R.base l)
theorem ds_for {fi : De → Wp (List D)} {g : BF} {ix : List Nat} {F : SF} {body : List Stmt} (hp : PassesOwn (model X.prog X.w) X.A X.env X.xe) (hc : X.calm = true) (hi : DI X C W tg e fi) (hg : DG X C tg ix g) (hb : DSs X C W body F) (hs : ∀ x, foldedSetIterable e X.env x = pure x := by intro _; rfl) : DS X C W (.For tg e body [] pos) (sFor fi g F) := by
  obtain ⟨wi, pw, qw⟩ := hi
  obtain ⟨tg', pg, qg⟩ := hg
  obtain ⟨tb, pb, qb⟩ := hb
  refine ⟨_, ps_for hp hc pw pg pb hs, fun S0 H0 Pb σ H δ E R h => qw S0 H0 Pb σ H δ _ R ((fi δ).mono (fun ds h J G gr it => ?_) (fun _ z => z.ew R) h)⟩
  obtain ⟨Gp, Y, w, hG, hY⟩ := it
  have R1 := (R.gr gr).top
  have lb : Le Pb (hid (Own (C.bx S0 H0) σ δ) G) := (R.gr gr).ph
  revert R1 hY hG lb
  generalize hid (Own (C.bx S0 H0) σ δ) G = Ph
  intro hG hY R1 lb
  refine for_it w (fun i σ H => ∃ δ, Rep (C.bx S0 H0) Ph σ H δ ∧ (sLoop g F (ds.drop i) δ).run (OutW (C.bx S0 H0) Pb E) (Xw (C.bx S0 H0) W)) ⟨δ, R1, h⟩ (fun i σ H _ ⟨δ, R, _⟩ => hG H (R.ph.trans hid_sub) (obh_le.trans R.grow.le)) (fun i x σ H H2 hi ⟨δ, R, hl⟩ y => ?_) (fun σ H ⟨δ, R, hl⟩ => ?_)
  · obtain ⟨gw, d, hd, dp⟩ := hY i H x H2 _ hi R.ph (obh_le.trans R.grow.le) R.odom y
    have ed : ds.drop i = d :: ds.drop (i + 1) := by
      rw [List.drop_eq_getElem_cons hi]
      rw [List.getElem?_eq_getElem hi] at hd
      rw [Option.some.inj hd]
    rw [ed] at hl
    obtain ⟨δ1, h1, h2⟩ := optW_inv hl
    refine qg S0 H0 Ph σ H2 δ x d δ1 _ (R.gr gw) dp h1 fun σ1 R1 _ _ => ?_
    refine qb S0 H0 Ph σ1 H2 δ1 _ R1 ((F δ1).mono (fun o ho => ?_) (fun _ z => z) h2)
    cases o with
    | nx δ' => exact fun σ' H' R' => ⟨δ', R', ho⟩
    | ct δ' => exact fun σ' H' R' => ⟨δ', R', ho⟩
    | bk δ' => exact OutW.base (o := .nx δ') lb ho
    | rt d => exact ho
  · rw [List.drop_length] at hl
    exact hl σ H (R.base lb)
def DN (X : Cx) (C : Cs) (W : WX) (e : Expr) (f : De → Wp (List D)) : Prop :=
  ∃ t, PE X e t ∧ ∀ S0 H0 Pb σ H δ Q, Rep (C.bx S0 H0) Pb σ H δ → (f δ).run (fun ds => ∀ a xs G, Grow H G → H a = none → G a = some (.lst xs) → DpAll C.K (hid (fun b => Own (C.bx S0 H0) σ δ b ∨ b = a) G) xs ds → Q (.ref a) G) (Ew (C.bx S0 H0) W σ H) → t σ H Q
def dNl (f : De → Wp (List D)) : DF := fun δ => (f δ).bind fun ds => .pure (.list ds)
theorem de_dn {fl : De → Wp (List D)} (h : DN X C W e fl) : DE X C W e (dNl fl) := by
  obtain ⟨t, p, q⟩ := h
  refine ⟨t, p, fun S0 H0 Pb σ H δ Q R h => q S0 H0 Pb σ H δ Q R ((fl δ).mono (fun ds h a xs G g na ha dp => ?_) (fun _ z => z) h)⟩
  refine h (.ref a) G g (.lst (SqL.of ?_) (Le.dps (hid_le (Le.refl G) fun b z => .inl z) ds xs dp))
  rw [hid_in]
  · exact ha
  · exact fun z => R.odom a z na
def nLst (r : AF) : De → Wp (List D) := fun δ => (r δ).bind fun as => (allD as).bind fun ds => .need (ds.length ≤ sizeLine) (.pure ds)
theorem dn_lst {es : List Expr} {r : AF} (h : DA X C W es r) : DN X C W (.List es pos) (nLst r) := by
  obtain ⟨t, p, q⟩ := h
  refine ⟨_, pe_lst p, fun S0 H0 Pb σ H δ Q R h => q S0 H0 Pb σ H δ _ R ((r δ).mono (fun as h vs G g ok => ?_) (fun _ z => z) h)⟩
  obtain ⟨ds, h1, h2, h3⟩ := allD_ok ok h
  refine ⟨by rw [dps_len h1]; exact h2, fun a na => h3 a vs _ (g.trans (Grow.new na)) (g.free na) upd_same (Le.dps (fun b u e n => ?_) ds vs h1)⟩
  obtain ⟨h4, h5⟩ := of_hid e
  have nb : b ≠ a := ne_of_none h5 na
  rw [hid_in, upd_ne nb]
  · exact h5
  · exact fun z => z.elim h4 nb
def sSetO (i : Nat) (f : De → Wp (List D)) : SF := fun δ => (f δ).bind fun ds => .pure (.nx (δ.set i (.o ds)))
theorem ds_setO {i : Nat} {x : Str} {pos' : Pos} {fl : De → Wp (List D)} (hN : X.N.Nodup) (hi : X.N[i]? = some x) (hx : Loc X.env.scope x) (he : DN X C W e fl) (hs : swapsWith e (some (.Name x pos')) pos.line X.env = pure false := by rfl) (hf : X.fn x = true ∨ X.env.scope.names.lookup x = some .local := by first | exact .inl rfl | exact .inr rfl | assumption) :
    DS X C W (.Assign [.Name x pos'] e pos) (sSetO i fl) := by
  obtain ⟨t, p, q⟩ := he
  refine ⟨_, ps_set hN hi hx p hs hf, fun S0 H0 Pb σ H δ E R h => q S0 H0 Pb σ H δ _ R ((fl δ).mono (fun ds h a xs G g na ha dp => ?_) (fun _ z => z.ew R) h)⟩
  exact h _ G (R.setO g na ha dp)
def slotO : Option Sl → Wp (List D)
  | some (.o ds) => .pure ds
  | _ => .stuck
def sApp (i : Nat) (f : DF) : SF := fun δ => (slotO δ[i]?).bind fun ds => (f δ).bind fun d => .need (ds.length < sizeLine) (.pure (.nx (δ.set i (.o (ds ++ [d])))))
theorem slotO_inv {o : Option Sl} {k : List D → Prop} {w : Exn → Prop} (h : (slotO o).run k w) : ∃ ds, o = some (.o ds) ∧ k ds := by
  unfold slotO at h
  split at h
  · exact ⟨_, rfl, h⟩
  · exact h.elim
theorem ds_app {i : Nat} {x : Str} {p1 p2 p3 : Pos} (hN : X.N[i]? = some x) (hv : Vis X.env.scope x) (he : DE X C W e f) (hd : (x == ("__debug__" : Str)) = false := by decide) (hcd : (x == ("__classdict__" : Str)) = false := by decide)
    (hsr : starEach [e] X.env = (false, eval e X.env) :: starEach [] X.env := by rfl)
    (hp : ∀ t, PA X [e] t → PE X (.Call (.Attribute (.Name x p1) "append" p2) [e] [] p3) (tBM X.K "list" rAppend (tVar i) t)) (hs : swapsWith (.Call (.Attribute (.Name x p1) "append" p2) [e] [] p3) none pos.line X.env = pure false := by rfl) :
    DS X C W (.Expr (.Call (.Attribute (.Name x p1) "append" p2) [e] [] p3) pos) (sApp i f) := by
  obtain ⟨t, pt, q⟩ := he
  refine ⟨_, ps_expr (hp _ (pa_cons pt pa_nil hsr)) hs, fun S0 H0 Pb σ H δ E R h => ?_⟩
  obtain ⟨ds, hz, h⟩ := slotO_inv h
  obtain ⟨a, xs, q1, q2, q3, q4⟩ := R.own i ds hz
  refine ⟨_, q1, .inl ⟨rfl, xs, SqL.of q2⟩, q S0 H0 Pb σ H δ _ R ((f δ).mono (fun d h v G g dp => ?_) (fun _ z => z.ew R) h)⟩
  have hG : G a = some (.lst xs) := g.le a _ q2 fun ps z => by cases z
  refine ⟨a, xs, v, rfl, rfl, hG, by rw [dps_len q4]; exact h.1, ?_⟩
  exact h.2 σ _ ((R.gr g).wr hz q1 hG (dps_app (Le.dps (hid_le g.le fun _ z => z) ds xs q4) (.cons dp .nil)))
def sSetIx (i : Nat) (fi f : DF) : SF := fun δ => (f δ).bind fun d => (slotO δ[i]?).bind fun ds => (fi δ).bind fun k => (asI1 k).bind fun k => (optW (ixN ds.length k)).bind fun j => .pure (.nx (δ.set i (.o (ds.set j d))))
theorem dps_set {K : PySem.W.Frag} {H : Hp} {v : V} {d : D} (h : Dp K H v d) : ∀ {vs : List V} {ds : List D} (j : Nat), DpAll K H vs ds → DpAll K H (vs.set j v) (ds.set j d)
  | [], _, _, g => by cases g; exact .nil
  | _ :: _, _, 0, g => by
    cases g with
    | cons a b => exact .cons h b
  | _ :: _, _, j + 1, g => by
    cases g with
    | cons a b => exact .cons a (dps_set h j b)
theorem ds_setIx {i : Nat} {x : Str} {p1 p2 : Pos} {e2 : Expr} {fi : DF} (hN : X.N[i]? = some x) (hv : Vis X.env.scope x) (he : DE X C W e f) (hi : DE X C W e2 fi) (hp : ∀ tx ti te, PE X (.Name x p1) tx → PE X e2 ti → PE X e te → PS X (.Assign [.Subscript (.Name x p1) e2 p2] e pos) (tAsg te (gSub tx ti rSetL)))
    (hd : (x == ("__debug__" : Str)) = false := by decide) (hcd : (x == ("__classdict__" : Str)) = false := by decide) : DS X C W (.Assign [.Subscript (.Name x p1) e2 p2] e pos) (sSetIx i fi f) := by
  obtain ⟨t, pt, q⟩ := he
  obtain ⟨u, pu, q2⟩ := hi
  refine ⟨_, hp _ _ _ (pe_var hN hv hd hcd) pu pt, fun S0 H0 Pb σ H δ E R h => q S0 H0 Pb σ H δ _ R ((f δ).mono (fun d h v G g dp => ?_) (fun _ z => z.ew R) h)⟩
  obtain ⟨ds, hz, h⟩ := slotO_inv h
  obtain ⟨a, xs, q1, _, _, _⟩ := R.own i ds hz
  refine ⟨_, q1, q2 S0 H0 Pb σ G δ _ (R.gr g) ((fi δ).mono (fun k h v2 G2 g2 dp2 => ?_) (fun _ z => z.ew (R.gr g)) h)⟩
  have R2 := R.gr (g.trans g2)
  obtain ⟨a', xs, q1', q2', q3', q4'⟩ := R2.own i ds hz
  rw [q1] at q1'
  cases q1'
  obtain ⟨k, rfl, h⟩ := asI1_dp dp2 h
  obtain ⟨j, hj, h⟩ := optW_inv h
  refine ⟨a, xs, k, j, rfl, rfl, q2', by rw [dps_len q4']; exact hj, ?_⟩
  exact h σ _ (R2.wr hz q1 q2' (dps_set (Le.dp (hid_le g2.le fun _ z => z) d v dp) j q4'))
def dOix (i : Nat) (fi : DF) : DF := fun δ => (slotO δ[i]?).bind fun ds => (fi δ).bind fun k => (asI1 k).bind fun k => optW (atI ds k)
theorem de_oix {i : Nat} {x : Str} {p1 : Pos} {e2 : Expr} {fi : DF} (hK : C.K = X.K) (hN : X.N[i]? = some x) (hv : Vis X.env.scope x) (hi : DE X C W e2 fi) (hs : PlainIx e2) (hd : (x == ("__debug__" : Str)) = false := by decide) (hcd : (x == ("__classdict__" : Str)) = false := by decide) : DE X C W (.Subscript (.Name x p1) e2 pos) (dOix i fi) := by
  obtain ⟨u, pu, q2⟩ := hi
  refine ⟨_, pe_ix ix_seq (pe_var hN hv hd hcd) pu hs, fun S0 H0 Pb σ H δ Q R h => ?_⟩
  obtain ⟨ds, hz, h⟩ := slotO_inv h
  obtain ⟨a, xs, q1, _, _, _⟩ := R.own i ds hz
  refine ⟨_, q1, q2 S0 H0 Pb σ H δ _ R ((fi δ).mono (fun k h v2 G2 g2 dp2 => ?_) (fun _ z => z) h)⟩
  obtain ⟨a', xs, q1', q2', q3', q4'⟩ := (R.gr g2).own i ds hz
  rw [q1] at q1'
  cases q1'
  obtain ⟨k, rfl, h⟩ := asI1_dp dp2 h
  obtain ⟨d, hd', h⟩ := optW_inv h
  obtain ⟨v, hv1, hv2⟩ := atI_dps q4' hd'
  exact .inl ⟨a, xs, k, v, rfl, rfl, SqL.of q2', hv1, h v G2 g2 hv2⟩
end
end Tr

namespace Tr
open PySem PySem.Spec L2
variable [ProtC]

def rE (C : Cs) (W : WX) (f : DF) : TE := fun σ H Q => ∃ S0 H0 Pb δ, Rep (C.bx S0 H0) Pb σ H δ ∧ (f δ).run (Dv (C.bx S0 H0) σ H δ Q) (Ew (C.bx S0 H0) W σ H)
def rT (C : Cs) (W : WX) (f : TF) : TT := fun σ H Q => ∃ S0 H0 Pb δ, Rep (C.bx S0 H0) Pb σ H δ ∧ (f δ).run (Bv H Q) (Ew (C.bx S0 H0) W σ H)
def rG (C : Cs) (ix : List Nat) (g : BF) : TG := fun x σ H Q => ∃ S0 H0 Pb δ d δ', Rep (C.bx S0 H0) Pb σ H δ ∧ Dp C.K (hid (Own (C.bx S0 H0) σ δ) H) x d ∧ g d δ = some δ' ∧
  ∀ σ', Rep (C.bx S0 H0) Pb σ' H δ' → (∀ b, Own (C.bx S0 H0) σ' δ' b → Own (C.bx S0 H0) σ δ b) → (∀ vs, (∀ i ∈ ix, i ∈ vs) → wipe σ' vs = wipe σ vs) → Q σ' H
section
variable {X : Cx} {C : Cs} {W : WX} {e : Expr}
theorem DE.to {f : DF} (h : DE X C W e f) : PE X e (rE C W f) := by
  obtain ⟨t, p, q⟩ := h
  exact ⟨fun pins s σ H Q I ⟨S0, H0, Pb, δ, R, z⟩ => p.run pins s σ H Q I (q S0 H0 Pb σ H δ Q R z)⟩
theorem DT.to {f : TF} (h : DT X C W e f) : PT X e (rT C W f) := by
  obtain ⟨t, p, q⟩ := h
  exact ⟨fun pins s σ H Q I ⟨S0, H0, Pb, δ, R, z⟩ => p.run pins s σ H Q I (q S0 H0 Pb σ H δ Q R z)⟩
theorem DG.to {ix : List Nat} {g : BF} (h : DG X C e ix g) : PG X e (rG C ix g) := by
  obtain ⟨t, p, q⟩ := h
  exact ⟨fun pins s σ H x u Q I r ⟨S0, H0, Pb, δ, d, δ', R, dp, hg, z⟩ => p.run pins s σ H x u Q I r (q S0 H0 Pb σ H δ x d δ' Q R dp hg z)⟩
end
abbrev W0 : WX := fun _ _ _ _ => False

def sIn : Sl → Sl
  | .o _ => .non
  | s => s
def dWipe : De → List Nat → De
  | δ, [] => δ.map sIn
  | δ, v :: vs => (dWipe δ vs).set v .non
theorem dWipe_len {δ : De} : ∀ {vs : List Nat}, (dWipe δ vs).length = δ.length
  | [] => by simp [dWipe]
  | v :: vs => by unfold dWipe; rw [List.length_set, dWipe_len]
theorem dWipe_get {δ : De} {j : Nat} {s : Sl} (hs : s ≠ .non) : ∀ {vs : List Nat}, (dWipe δ vs)[j]? = some s → j ∉ vs ∧ δ[j]? = some s ∧ ∀ ds, s ≠ .o ds
  | [], h => by
    unfold dWipe at h
    rw [List.getElem?_map] at h
    cases e : δ[j]? with
    | none => rw [e] at h; cases h
    | some q =>
      rw [e] at h
      have h := Option.some.inj h
      cases q <;> first
        | exact absurd h.symm hs
        | (refine ⟨fun z => (by cases z), congrArg some h, fun ds z => ?_⟩; rw [z] at h; cases h)
  | v :: vs, h => by
    unfold dWipe at h
    rcases get_set_cases h with ⟨_, h1, _⟩ | ⟨h1, h2⟩
    · exact absurd h1 hs
    · obtain ⟨q1, q2, q3⟩ := dWipe_get hs h2
      exact ⟨fun z => (List.mem_cons.mp z).elim (fun z => h1 z.symm) q1, q2, q3⟩
def lcLoop (g : BF) (t : TF) (f : DF) (δ : De) : List D → Wp (List D)
  | [] => .pure []
  | d :: ds => (optW (g d δ)).bind fun δ1 => (t δ1).bind fun b => if b then (f δ1).bind fun y => (lcLoop g t f δ ds).bind fun ys => .pure (y :: ys) else lcLoop g t f δ ds
def Wp.nox {A : Type} (m : Wp A) : Wp A := ⟨fun k _ => m.run k fun _ => False, fun h _ r => m.mono h (fun _ z => z) r⟩
@[simp] theorem run_nox {A : Type} {m : Wp A} {k : A → Prop} {e : Exn → Prop} : m.nox.run k e = m.run k fun _ => False := rfl
def nLc (fi : De → Wp (List D)) (g : BF) (t : TF) (f : DF) (vs : List Nat) : De → Wp (List D) := fun δ => (fi δ).bind fun ds => .need (ds.length ≤ sizeLine) (lcLoop g t f (dWipe δ vs) ds).nox
theorem Rep.blk {C : Cs} {S0 : Addr → Prop} {H0 Pb : Hp} {σ : St} {H G : Hp} {δ : De} {a : Addr} {xs : List V} (vs : List Nat) (R : Rep (C.bx S0 H0) Pb σ H δ) (g : Grow H G) (na : H a = none) (ha : G a = some (.lst xs)) :
    Rep (C.bx (fun b => Own (C.bx S0 H0) σ δ b ∨ b = a) G) (hid (fun b => Own (C.bx S0 H0) σ δ b ∨ b = a) G) (wipe σ vs) G (dWipe δ vs) := by
  have no : ∀ j ds, (dWipe δ vs)[j]? ≠ some (Sl.o ds) := fun j ds h => (dWipe_get (by intro z; cases z) h).2.2 ds rfl
  have own : ∀ b, Own (C.bx (fun b => Own (C.bx S0 H0) σ δ b ∨ b = a) G) (wipe σ vs) (dWipe δ vs) b ↔ (Own (C.bx S0 H0) σ δ b ∨ b = a) := fun b =>
    ⟨fun z => z.elim id fun ⟨j, ds, e1, _⟩ => absurd e1 (no j ds), .inl⟩
  have le : Le (hid (Own (C.bx S0 H0) σ δ) H) (hid (Own (C.bx (fun b => Own (C.bx S0 H0) σ δ b ∨ b = a) G) (wipe σ vs) (dWipe δ vs)) G) := fun b u e n => by
    obtain ⟨h1, h2⟩ := of_hid e
    rw [hid_in]
    · exact g.le b u h2 n
    · intro z
      rcases (own b).mp z with z | z
      · exact h1 z
      · rw [z, na] at h2
        cases h2
  refine ⟨hid_le (Le.refl G) fun b z => (own b).mp z, by rw [wipe_length, dWipe_len]; exact R.len, Grow.refl G, fun b z => ?_, (R.gr g).tabs, fun j d h => ?_, fun j ds h => absurd h (no j ds), fun j k ds es b h => absurd h (no j ds), fun j x h => ?_, fun j b φ h => ?_, R.scr.gr (R.grow.trans g) (R.leB.trans fun b u e n => by
    obtain ⟨h1, h2⟩ := of_hid e
    rw [hid_in]
    · exact g.le b u h2 n
    · rintro (z | z)
      · exact h1 z
      · rw [z, na] at h2
        cases h2) fun b z => .inl (.inl z)⟩
  · show G b ≠ none
    rcases z with z | z
    · exact g.dm b (R.odom b z)
    · rw [z, ha]
      exact fun z => nomatch z
  · obtain ⟨h1, h2, _⟩ := dWipe_get (by intro z; cases z) h
    obtain ⟨v, q1, q2⟩ := R.pers j d h2
    exact ⟨v, by rw [wipe_get, if_neg h1]; exact q1, Le.dp le _ v q2⟩
  · obtain ⟨h1, h2, _⟩ := dWipe_get (by intro z; cases z) h
    rw [wipe_get, if_neg h1]
    exact R.val j x h2
  · obtain ⟨h1, h2, _⟩ := dWipe_get (by intro z; cases z) h
    rw [wipe_get, if_neg h1]
    exact ⟨(R.trk j b φ h2).1, le b _ (R.trk j b φ h2).2 fun ps z => by cases z⟩
theorem lc_read {C : Cs} {W : WX} {wi : TI} {fi : De → Wp (List D)} {g : BF} {ix vs : List Nat} {t : TF} {f : DF}
    (qw : ∀ S0 H0 Pb σ H δ Q, Rep (C.bx S0 H0) Pb σ H δ → (fi δ).run (fun ds => ∀ J G, Grow H G → Items C.K (hid (Own (C.bx S0 H0) σ δ) G) (obh C H0) ds J → Q J G) (Ew (C.bx S0 H0) W σ H) → wi σ H Q) (hix : ∀ i ∈ ix, i ∈ vs)
    {S0 : Addr → Prop} {H0 Pb : Hp} {σ : St} {H : Hp} {δ : De} {Q : VK} (R : Rep (C.bx S0 H0) Pb σ H δ) (E : Exn → Prop) (hE : ∀ x, E x → Ew (C.bx S0 H0) W σ H x ∧ False)
    (h : (fi δ).run (fun ds => ds.length ≤ sizeLine ∧ (lcLoop g t f (dWipe δ vs) ds).run (fun ds => ∀ a xs G, Grow H G → H a = none → G a = some (.lst xs) → DpAll C.K (hid (fun b => Own (C.bx S0 H0) σ δ b ∨ b = a) G) xs ds → Q (.ref a) G) E) (Ew (C.bx S0 H0) W σ H)) :
    tLc wi (rG C ix g) (rT C W0 t) (rE C W0 f) vs σ H Q := by
  refine qw S0 H0 Pb σ H δ _ R ((fi δ).mono (fun ds h J G gr it => ?_) (fun _ z => z) h)
  obtain ⟨hlen, h⟩ := h
  intro a na
  have nH : H a = none := gr.free na
  obtain ⟨Gp, Y, w, hG, hY⟩ := it
  have g0 : Grow G (upd G a (.lst [])) := Grow.new na
  -- behind i items: the list at a holds acc, data ys; the rest gives the end
  refine lc_it w (fun i Hi => Grow H Hi ∧ Le (hid (Own (C.bx S0 H0) σ δ) G) (hid (fun b => Own (C.bx S0 H0) σ δ b ∨ b = a) Hi) ∧ ∃ acc ys, Hi a = some (.lst acc) ∧ acc.length ≤ i ∧ DpAll C.K (hid (fun b => Own (C.bx S0 H0) σ δ b ∨ b = a) Hi) acc ys ∧
    (lcLoop g t f (dWipe δ vs) (ds.drop i)).run (fun zs => ∀ a xs G, Grow H G → H a = none → G a = some (.lst xs) → DpAll C.K (hid (fun b => Own (C.bx S0 H0) σ δ b ∨ b = a) G) xs (ys ++ zs) → Q (.ref a) G) E) ?_ (fun i Hi _ q => hG Hi (q.2.1.trans hid_sub) (obh_le.trans (R.grow.trans q.1).le)) ?_ ?_
  · refine ⟨gr.trans g0, fun b u e n => ?_, [], [], upd_same, Nat.le_refl _, .nil, h⟩
    obtain ⟨h1, h2⟩ := of_hid e
    have nb : b ≠ a := ne_of_none h2 na
    rw [hid_in, upd_ne nb]
    · exact h2
    · exact fun z => z.elim h1 nb
  · rintro i x Hi Hi2 hi ⟨gi, li, acc, ys, ha, hl, dp, hr⟩ y
    have dom : ∀ b, (Own (C.bx S0 H0) σ δ b ∨ b = a) → Hi b ≠ none := fun b z => by
      rcases z with z | z
      · exact gi.dm b (R.odom b z)
      · rw [z, ha]
        exact fun z => nomatch z
    obtain ⟨gw, d, hd, dx⟩ := hY i Hi x Hi2 _ hi li (obh_le.trans (R.grow.trans gi).le) dom y
    have g2 : Grow H Hi2 := gi.trans gw
    have ha2 : Hi2 a = some (.lst acc) := gw.le a _ ha fun ps z => by cases z
    have ed : ds.drop i = d :: ds.drop (i + 1) := by
      rw [List.drop_eq_getElem_cons hi]
      rw [List.getElem?_eq_getElem hi] at hd
      rw [Option.some.inj hd]
    rw [ed] at hr
    obtain ⟨δ1, hg1, hr⟩ := optW_inv hr
    have RB := R.blk vs g2 nH ha2
    have sup : ∀ σ' δ' b, (Own (C.bx S0 H0) σ δ b ∨ b = a) → Own (C.bx (fun b => Own (C.bx S0 H0) σ δ b ∨ b = a) Hi2) σ' δ' b := fun _ _ _ z => .inl z
    have ownB : ∀ b, Own (C.bx (fun b => Own (C.bx S0 H0) σ δ b ∨ b = a) Hi2) (wipe σ vs) (dWipe δ vs) b → (Own (C.bx S0 H0) σ δ b ∨ b = a) := fun b z => by
      rcases z with z | ⟨j, es, e1, _⟩
      · exact z
      · exact absurd rfl ((dWipe_get (by intro z; cases z) e1).2.2 es)
    refine ⟨_, _, _, dWipe δ vs, d, δ1, RB, Le.dp (hid_le (Le.refl _) ownB) d x dx, hg1, fun σ2 R2 o2 w2 => ⟨?_, ?_⟩⟩
    · rw [w2 vs hix]
      apply List.ext_getElem?
      intro j
      rw [wipe_get, wipe_get]
      split
      · rename_i hj
        cases σ[j]? <;> rfl
      · rename_i hj
        rfl
    refine ⟨_, _, _, δ1, R2, (t δ1).mono (fun b hb H3 g3 => ?_) (fun x hx => (hE x hx).2.elim) hr⟩
    have g3' : Grow H H3 := g2.trans g3
    have ha3 : H3 a = some (.lst acc) := g3.le a _ ha2 fun ps z => by cases z
    have li3 : Le (hid (Own (C.bx S0 H0) σ δ) G) (hid (fun b => Own (C.bx S0 H0) σ δ b ∨ b = a) H3) := li.trans (hid_le (gw.trans g3).le fun _ z => z)
    have dp3 : DpAll C.K (hid (fun b => Own (C.bx S0 H0) σ δ b ∨ b = a) H3) acc ys := Le.dps (hid_le (gw.trans g3).le fun _ z => z) ys acc dp
    cases b with
    | false => exact ⟨g3', li3, acc, ys, ha3, Nat.le_succ_of_le hl, dp3, hb⟩
    | true =>
      refine ⟨_, _, _, δ1, R2.gr g3, (f δ1).mono (fun yd hy v H4 g4 dv => ?_) (fun x hx => (hE x hx).2.elim) hb⟩
      have ha4 : H4 a = some (.lst acc) := g4.le a _ ha3 fun ps z => by cases z
      have keep : ∀ b, b ≠ a → upd H4 a (.lst (acc ++ [v])) b = H4 b := fun b nb => upd_ne nb
      have leA : Le (hid (fun b => Own (C.bx S0 H0) σ δ b ∨ b = a) H4) (hid (fun b => Own (C.bx S0 H0) σ δ b ∨ b = a) (upd H4 a (.lst (acc ++ [v])))) := fun b u e n => by
        obtain ⟨h1, h2⟩ := of_hid e
        rw [hid_in h1, keep b fun z => h1 (.inr z)]
        exact h2
      refine ⟨acc, ha4, by omega, ⟨fun b u e n => ?_, fun P hP => ?_, fun b hb => ?_, fun P q hp t => TabS.put ha4 ((g3'.trans g4).pr P q hp t)⟩, li3.trans ((hid_le g4.le fun _ z => z).trans leA), acc ++ [v], ys ++ [yd], upd_same, by rw [List.length_append]; exact Nat.succ_le_succ hl, ?_, ?_⟩
      · rw [keep b (ne_of_none e nH)]
        exact (g3'.trans g4).le b u e n
      · obtain ⟨ps, e, tr⟩ := (g3'.trans g4).tb P hP
        exact ⟨ps, by rw [keep P (ne_of e ha4 fun z => by cases z)]; exact e, tr⟩
      · by_cases c : b = a
        · rw [c, upd_same]
          exact fun z => nomatch z
        · rw [keep b c]
          exact (g3'.trans g4).dm b hb
      · refine Le.dps leA _ _ (dps_app (Le.dps (hid_le g4.le fun _ z => z) ys acc dp3) (.cons ?_ .nil))
        exact Le.dp (hid_le (Le.refl H4) fun b z => sup σ2 δ1 b z) yd v dv
      · refine (lcLoop g t f (dWipe δ vs) (ds.drop (i + 1))).mono (fun zs hz => ?_) (fun _ z => z) hy
        rw [List.append_assoc]
        exact hz
  · rintro Hn ⟨gn, ln, acc, ys, ha, hl, dp, hr⟩
    rw [List.drop_length] at hr
    have hr' : ∀ a xs G, Grow H G → H a = none → G a = some (.lst xs) → DpAll C.K (hid (fun b => Own (C.bx S0 H0) σ δ b ∨ b = a) G) xs (ys ++ []) → Q (.ref a) G := hr
    rw [List.append_nil] at hr'
    exact hr' a acc Hn gn nH ha dp
section
variable {X : Cx} {C : Cs} {W : WX} {pos : Pos} {elt tg iter : Expr} {ifs : List Expr} {scope : Scope} {own : List (Str × Nat)} {fi : De → Wp (List D)} {g : BF} {ix : List Nat} {t : TF} {f : DF}
def DTs (X : Cx) (C : Cs) (W : WX) (ifs : List Expr) (t : TF) : Prop := PTs X ifs (rT C W t)
def tYesD : TF := fun _ => .pure true
theorem dts_nil : DTs X C W [] tYesD := ⟨fun pins s σ H Q I ⟨S0, H0, Pb, δ, R, z⟩ => pts_nil.run pins s σ H Q I (z H (Grow.refl H))⟩
theorem dts_one {c : Expr} (h : DT X C W c t) : DTs X C W [c] t := pts_one h.to
theorem dn_lc (hc : X.calm = true) (hN : X.N.Nodup) (hi : DI X C W tg iter fi) (ok : BlkOk X.N X.env.scope scope own) (hix : ∀ i ∈ ix, i ∈ own.map (·.2))
    (hg : ∀ (s : Shared) (H : Hp) (Ca : Addr) (cl : List (Str × Addr)) (fp : List Addr), DG (X.blk s H scope (compEnvC scope cl Ca X.env) fp) C tg ix g) (ht : ∀ (s : Shared) (H : Hp) (Ca : Addr) (cl : List (Str × Addr)) (fp : List Addr), DTs (X.blk s H scope (compEnvC scope cl Ca X.env) fp) C W0 ifs t)
    (he : ∀ (s : Shared) (H : Hp) (Ca : Addr) (cl : List (Str × Addr)) (fp : List Addr), DE (X.blk s H scope (compEnvC scope cl Ca X.env) fp) C W0 elt f) (hs : ∀ x, foldedSetIterable iter X.env x = pure x := by intro _; rfl) :
    DN X C W (.ListComp elt [⟨tg, iter, ifs, 0⟩] scope pos) (nLc fi g t f (own.map (·.2))) := by
  obtain ⟨wi, pw, qw⟩ := hi
  exact ⟨_, pe_lc hc hN pw ok (fun s H Ca cl fp => (hg s H Ca cl fp).to) ht (fun s H Ca cl fp => (he s H Ca cl fp).to) hs, fun S0 H0 Pb σ H δ Q R h => lc_read qw hix R (fun _ => False) (fun _ z => z.elim) h⟩
theorem setLc {i : Nat} {y : Str} {py spos : Pos} (hc : X.calm = true) (hN : X.N.Nodup) (hy : X.N[i]? = some y) (hyl : X.env.scope.names.lookup y = some .local) (hsw : swapsWith (.ListComp elt [⟨tg, iter, ifs, 0⟩] scope pos) (some (.Name y py)) spos.line X.env = pure true)
    (hi : DI X C W tg iter fi) (ok : BlkOk X.N X.env.scope scope own) (hix : ∀ i ∈ ix, i ∈ own.map (·.2))
    (hg : ∀ (s : Shared) (H : Hp) (Ca : Addr) (cl : List (Str × Addr)) (fp : List Addr), DG (X.blk s H scope (compEnvC scope cl Ca X.env) fp) C tg ix g) (ht : ∀ (s : Shared) (H : Hp) (Ca : Addr) (cl : List (Str × Addr)) (fp : List Addr), DTs (X.blk s H scope (compEnvC scope cl Ca X.env) fp) C W0 ifs t)
    (he : ∀ (s : Shared) (H : Hp) (Ca : Addr) (cl : List (Str × Addr)) (fp : List Addr), DE (X.blk s H scope (compEnvC scope cl Ca X.env) fp) C W0 elt f) (hs : ∀ x, foldedSetIterable iter X.env x = pure x := by intro _; rfl) :
    DS X C W (.Assign [.Name y py] (.ListComp elt [⟨tg, iter, ifs, 0⟩] scope pos) spos) (sSetO i (nLc fi g t f (own.map (·.2)))) := by
  obtain ⟨wi, pw, qw⟩ := hi
  refine ⟨_, ps_setLc hc hN hy hyl hsw pw ok (fun s H Ca cl fp => (hg s H Ca cl fp).to) ht (fun s H Ca cl fp => (he s H Ca cl fp).to) hs, fun S0 H0 Pb σ H δ E R h => ?_⟩
  refine lc_read qw hix R (fun _ => False) (fun _ z => z.elim) ((fi δ).mono (fun ds hd => ⟨hd.1, ?_⟩) (fun _ z => z.ew R) h)
  refine (lcLoop g t f (dWipe δ (own.map (·.2))) ds).mono (fun ys hy => ?_) (fun _ z => z) (show (lcLoop g t f (dWipe δ (own.map (·.2))) ds).run _ _ from hd.2)
  intro a xs G gr na ha dp
  exact hy _ G (R.setO gr na ha dp)
end

def arSl : Ar → Sl
  | .d x => .p x
  | .v x => .v x
  | .t a φ => .t a φ
def dStart (m : Nat) (as : List Ar) : De := as.map arSl ++ List.replicate (m - as.length) .non
def dRun (m : Nat) (bd : SF) (as : List Ar) : Wp D := (bd (dStart m as)).bind fun o => match o with
  | .rt d => .pure d
  | .nx _ => .pure .none
  | _ => .stuck
theorem ars_get {K : PySem.W.Frag} {H : Hp} : ∀ {vs : List V} {as : List Ar} {i : Nat} {a : Ar}, ArsOk K H vs as → as[i]? = some a → ∃ v, vs[i]? = some v ∧ ArOk K H v a
  | v :: vs, b :: as, 0, a, h, e => by
    cases Option.some.inj e
    exact ⟨v, rfl, h.1⟩
  | v :: vs, b :: as, i + 1, a, h, e => ars_get (i := i) h.2 e
  | [], [], _, _, _, e => by simp at e
  | [], _ :: _, _, _, h, _ => h.elim
  | _ :: _, [], _, _, h, _ => h.elim
theorem start_rep {C : Cs} {S : Addr → Prop} {H : Hp} {N : List Str} {vs : List V} {as : List Ar} (dom : ∀ b, S b → H b ≠ none) (tabs : ∀ P ∈ C.T, GxR.TabG H P) (scr : Scr C S H) (ok : ArsOk C.K (hid S H) vs as) : Rep (C.bx S H) (hid S H) (L2.start N vs) H (dStart N.length as) := by
  have hl := ok.len
  have arg : ∀ {i : Nat} {s : Sl}, s ≠ .non → (dStart N.length as)[i]? = some s → ∃ a, as[i]? = some a ∧ arSl a = s := fun {i s} hs e => by
    unfold dStart at e
    by_cases c : i < as.length
    · rw [List.getElem?_append_left (by rw [List.length_map]; exact c), List.getElem?_map, List.getElem?_eq_getElem c] at e
      exact ⟨as[i], List.getElem?_eq_getElem c, Option.some.inj e⟩
    · rw [List.getElem?_append_right (by rw [List.length_map]; omega), List.getElem?_replicate] at e
      split at e
      · exact absurd (Option.some.inj e).symm hs
      · cases e
  have val : ∀ {i : Nat} {v : V}, vs[i]? = some v → (L2.start N vs)[i]? = some (some v) := fun {i v} e => by
    have c : i < vs.length := (List.getElem?_eq_some_iff.mp e).1
    unfold L2.start
    rw [List.getElem?_append_left (by rw [List.length_map]; exact c), List.getElem?_map, e]
    rfl
  have no : ∀ j ds, (dStart N.length as)[j]? ≠ some (Sl.o ds) := fun j ds e => by
    obtain ⟨a, _, h⟩ := arg (by intro z; cases z) e
    cases a <;> cases h
  have own : ∀ b, Own (C.bx S H) (L2.start N vs) (dStart N.length as) b → S b := fun b z => z.elim id fun ⟨j, ds, e, _⟩ => absurd e (no j ds)
  have le : Le (hid S H) (hid (Own (C.bx S H) (L2.start N vs) (dStart N.length as)) H) := hid_le (Le.refl H) own
  refine ⟨le, ?_, Grow.refl H, dom, tabs, fun j d e => ?_, fun j ds e => absurd e (no j ds), fun j k ds es b e => absurd e (no j ds), fun j x e => ?_, fun j b φ e => ?_, scr⟩
  · unfold L2.start dStart
    rw [List.length_append, List.length_append, List.length_map, List.length_map, List.length_replicate, List.length_replicate, hl]
  · obtain ⟨a, h1, h2⟩ := arg (by intro z; cases z) e
    obtain ⟨v, h3, h4⟩ := ars_get ok h1
    cases a with
    | v x => cases h2
    | t a φ => cases h2
    | d x =>
      cases h2
      exact ⟨v, val h3, Le.dp le d v h4⟩
  · obtain ⟨a, h1, h2⟩ := arg (by intro z; cases z) e
    obtain ⟨v, h3, h4⟩ := ars_get ok h1
    cases a with
    | d x => cases h2
    | t a φ => cases h2
    | v y =>
      cases h2
      have h5 : v = x := h4
      rw [← h5]
      exact val h3
  · obtain ⟨a, h1, h2⟩ := arg (by intro z; cases z) e
    obtain ⟨v, h3, h4⟩ := ars_get ok h1
    cases a with
    | d x => cases h2
    | v y => cases h2
    | t c ψ =>
      cases h2
      obtain ⟨rfl, h6⟩ := h4
      exact ⟨val h3, le b _ h6 fun ps z => by cases z⟩
end Tr

namespace Tr
open PySem PySem.Spec L2
variable [ProtC]

def RowI (i j : Int) : Prop := 0 ≤ i ∧ 0 ≤ j ∧ j < 4294967296
def RowP (r a : Addr) (h : Heap) : Prop := ∃ (i j k : Int) (t u v : Tok) (n : Nat), RowI i j ∧ h.get? r = some { cls := .type "list", data := .seq #[.ref a, .int i t, .int j u, .int k v] n }
abbrev rowL (a : Addr) (i j k : Int) : HO := .lst [.ref a, .int i, .int j, .int k]
theorem rowP_stay {r a : Addr} : ∀ h1 h2 : Heap, RowP r a h1 → (∀ o, h1.get? r = some o → h2.get? r = some o) → RowP r a h2 := fun h1 h2 ⟨i, j, k, t, u, v, n, hi, e⟩ st => ⟨i, j, k, t, u, v, n, hi, st _ e⟩
section
variable {X : Cx} {pins : List (Addr × Obj)} {σ : St} {H : Hp} {s : Shared} {r a : Addr}
theorem row_in (I : Inv X pins σ H s) (h : H r = some (.ext (RowP r a))) : ∃ i j k, RowI i j ∧ Inv X pins σ (upd H r (rowL a i j k)) s := by
  obtain ⟨⟨i, j, k, t, u, v, n, hi, e⟩, _, _⟩ := I.hok r _ h
  refine ⟨i, j, k, hi, I.write (x := r) (e := r) (h' := s.heap) (t' := s.toks) (by rw [h]; trivial) (.inl rfl) (fun _ _ _ q => q) ⟨_, e⟩ ?_⟩
  exact ⟨by show 4 ≤ sizeLine; decide, [.ref a, .int i t, .int j u, .int k v], n, .cons rfl (.cons ⟨t, rfl⟩ (.cons ⟨u, rfl⟩ (.cons ⟨v, rfl⟩ .nil))), e⟩
theorem row_out {i j k : Int} (I : Inv X pins σ H s) (hi : RowI i j) (h : H r = some (rowL a i j k)) : Inv X pins σ (upd H r (.ext (RowP r a))) s := by
  obtain ⟨hl, its, n, hv, e⟩ := I.hok r _ h
  refine I.write (x := r) (e := r) (h' := s.heap) (t' := s.toks) (by rw [h]; trivial) (.inl rfl) (fun _ _ _ q => q) ⟨_, e⟩ ?_
  cases hv with
  | cons r0 hv =>
    cases hv with
    | cons r1 hv =>
      cases hv with
      | cons r2 hv =>
        cases hv with
        | cons r3 hv =>
          cases hv
          cases r0
          obtain ⟨t, rfl⟩ := r1
          obtain ⟨u, rfl⟩ := r2
          obtain ⟨v, rfl⟩ := r3
          exact ⟨⟨i, j, k, t, u, v, n, hi, e⟩, ⟨_, e⟩, rowP_stay⟩
def tRow (t : TS) : TS := fun D σ H => ∃ r a, H r = some (.ext (RowP r a)) ∧ ∀ i j k, RowI i j →
  t { nx := fun σ' G => ∃ i j k, RowI i j ∧ G r = some (rowL a i j k) ∧ D.nx σ' (upd G r (.ext (RowP r a)))
      rt := fun v G => ∃ i j k, RowI i j ∧ G r = some (rowL a i j k) ∧ D.rt v (upd G r (.ext (RowP r a)))
      bk := fun σ' G => ∃ i j k, RowI i j ∧ G r = some (rowL a i j k) ∧ D.bk σ' (upd G r (.ext (RowP r a)))
      ct := fun σ' G => ∃ i j k, RowI i j ∧ G r = some (rowL a i j k) ∧ D.ct σ' (upd G r (.ext (RowP r a))) } σ (upd H r (rowL a i j k))
theorem pss_row {sts : List Stmt} {t : TS} (h : PSs X sts t) : PSs X sts (tRow t) := by
  constructor
  intro pins s σ H D I ⟨r, a, hr, q⟩
  obtain ⟨i, j, k, hi, I1⟩ := row_in I hr
  refine thn (h.run pins s σ _ _ I1 (q i j k hi)) fun fl s' hs => ?_
  cases fl with
  | next => obtain ⟨σ', G, J, i, j, k, h1, h2, h3⟩ := hs; exact ⟨σ', _, row_out J h1 h2, h3⟩
  | brk => obtain ⟨σ', G, J, i, j, k, h1, h2, h3⟩ := hs; exact ⟨σ', _, row_out J h1 h2, h3⟩
  | cont => obtain ⟨σ', G, J, i, j, k, h1, h2, h3⟩ := hs; exact ⟨σ', _, row_out J h1 h2, h3⟩
  | ret u => obtain ⟨v, σ', G, J, rv, i, j, k, h1, h2, h3⟩ := hs; exact ⟨v, σ', _, row_out J h1 h2, rv, h3⟩
def tMkRow (t : TS) : TS := fun D σ H => t { D with nx := fun σ' G => ∃ r a i j k, RowI i j ∧ G r = some (rowL a i j k) ∧ D.nx σ' (upd G r (.ext (RowP r a))) } σ H
theorem ps_mkRow {st : Stmt} {t : TS} (h : PS X st t) : PS X st (tMkRow t) := by
  constructor
  intro pins s σ H D I q
  refine thn (h.run pins s σ H _ I q) fun fl s' hs => ?_
  cases fl with
  | next => obtain ⟨σ', G, J, r, a, i, j, k, h1, h2, h3⟩ := hs; exact ⟨σ', _, row_out J h1 h2, h3⟩
  | brk => exact hs
  | cont => exact hs
  | ret u => exact hs
end
def drawn (m : Int) (d : D) : Prop := ∃ n, d = .int n ∧ 0 ≤ n ∧ n < m
open Classical in
noncomputable def fTaken (C : Cs) : List Ar → Wp D
  | [.t r φ, .d (.int m)] => .need ((∃ q ∈ C.Z, φ = RowP r q.1 ∧ q.2.length ≤ 63) ∧ 0 < m ∧ m < 1073741824) (.any (drawn m))
  | _ => .stuck
end Tr

namespace Tr
open PySem PySem.Spec L2
open GxR (TabG Tabbed)
open PyProof.Rows (AllBare)
variable [ProtC]

abbrev gcx (X : Cx) (s : Shared) (H : Hp) (cenv : Env) (A : Around) (fp : List Addr) (pn : List (Addr × Obj)) : Cx :=
  { X with A := A.deeper cenv, s_0 := s, H_0 := H, env := cenv, outer := X.stack, stack := cenv :: X.stack, ex := fp, fn := fun _ => false, calm := true, pn := pn, xe := fun _ _ => False }
abbrev gEnv (X : Cx) (scope : Scope) (C : Addr) (code : Value) : Env := genEnv scope (cloFrom X.env.cells scope.names []) C code builtinsNs X.env
structure GOk (N : List Str) (sc scope : Scope) (own : List (Str × Nat)) : Prop where
  blk : BlkOk N sc scope own
  co : scope.isCoroutine = false
  cell : ∀ y ∈ scope.names, y.2 ≠ .cell
  dot : scope.names.lookup (".0" : Str) = some NameKind.local
section
variable {X : Cx} {pins : List (Addr × Obj)} {σ : St} {H : Hp} {s : Shared}
theorem gen_start {scope : Scope} {own : List (Str × Nat)} {fp : List Addr} {A : Around} {code it : Value} {h5 : Heap} {g5 : Array GenState} {t5 : Nat} {a : Addr} {go : Obj} (I : Inv X pins σ H s) (ok : GOk X.N X.env.scope scope own) (hN : X.N.Nodup)
    (hfp : ∀ b ∈ fp, FpOk X pins H b ∧ b < s.heap.objs.size) (hA : A.handled = none) (hfr : A.frames = some X.stack) (kp : ∀ b o, s.heap.get? b = some o → h5.get? b = some o)
    (hns : h5.Ns s.heap.objs.size (fun y => if y = ".0" then some it else none)) (hb : AllBare g5) (ha : h5.get? a = some go) (hlt : s.heap.objs.size < a) (hgo : ∀ v, go.data ≠ .cell v) :
    Inv (gcx X s H (gEnv X scope s.heap.objs.size code) A fp [(a, go)]) [] (wipe σ (own.map (·.2))) H { s with heap := h5, gens := g5, toks := t5 } := by
  have hfree : ∀ y ∈ scope.names, y.2 = .free → ∃ c, X.env.cells.lookup y.1 = some c := fun y hy e => (ok.blk.free y hy e).elim (fun k => I.ok.has _ (.inl k)) fun k => I.ok.has _ (.inr k)
  have cm : ∀ {y c}, (cloFrom X.env.cells scope.names []).lookup y = some c → X.env.cells.lookup y = some c ∧ c < s.heap.objs.size := fun {y c} e => by
    rcases cloFrom_mem (PySem.mem_of_lookup e) with z | ⟨h1, z⟩
    · cases z
    · obtain ⟨c', hc⟩ := hfree _ h1 rfl
      rw [hc] at z
      have z : c = c' := z
      subst z
      obtain ⟨v, q⟩ := I.cell _ _ hc
      exact ⟨hc, q.lt⟩
  have lk : ∀ {y}, scope.names.lookup y = some .free → ∃ c, (cloFrom X.env.cells scope.names []).lookup y = some c ∧ X.env.cells.lookup y = some c := fun {y} hl => by
    obtain ⟨c, e⟩ := mem_lookup (cloFrom_has (cells := X.env.cells) (acc := []) (PySem.mem_of_lookup hl))
    exact ⟨c, e, (cm e).1⟩
  have nocell : ∀ y, scope.names.lookup y ≠ some .cell := fun y e => ok.cell _ (PySem.mem_of_lookup e) rfl
  have young : H a = none ∧ a ∉ frs X.stack := by
    refine ⟨I.hok.fresh (Nat.le_of_lt hlt), fun z => ?_⟩
    rcases List.mem_cons.mp (I.stkSub a z) with z | z
    · have := I.lt
      rw [← z] at this
      exact absurd (Nat.lt_trans hlt this) (Nat.lt_irrefl _)
    · exact I.nofs (Nat.le_of_lt hlt) z
  refine ⟨⟨I.ok.mod, ok.blk.kind, I.ok.glob, rfl, Nat.le_refl _, fun y z c e1 e2 => I.ok.inj y z c (cm e1).1 (cm e2).1, fun y hy => ?_, fun y c z => Bool.noConfusion z, fun _ => hA, Around.frames_deeper hfr, .inr ⟨rfl, rfl⟩,
      fun b hb => ⟨Nat.ne_of_lt (hfp b hb).2, fun y c e z => (hfp b hb).1.2.2.2.2.1 y c (cm e).1 z⟩, I.bs, Nat.le_trans I.ok.bsz I.sz, fun b o e hb => ?_, fun b hb z => ?_, I.stack, I.stkFree⟩,
    rfl, hb, Un.kept kp, ⟨_, hns, fun i y v e1 e2 e3 => ?_⟩, fun y c e => ?_, I.hok.fresh (Nat.le_refl _), fun y c e => I.freeC y c (cm e).1, fun p hp => ?_, I.hok.kept kp, by rw [wipe_length]; exact I.len⟩
  · have hy : scope.names.lookup y = some .cell ∨ scope.names.lookup y = some .free := hy
    rcases hy with hy | hy
    · exact absurd hy (nocell y)
    · obtain ⟨c, h1, _⟩ := lk hy
      exact ⟨c, h1⟩
  · rcases (hfp b hb).1.2.2.2.1 with z | z
    · exact I.ok.noex b o e z
    · exact absurd (Nat.lt_of_lt_of_le (Heap.lt_size e) (Nat.le_trans I.ok.bsz z)) (Nat.lt_irrefl _)
  · rcases List.mem_cons.mp (I.stkSub b z) with z | z
    · exact (hfp b hb).1.2.1 z
    · exact (hfp b hb).1.2.2.1 z
  · obtain ⟨e2, hne⟩ := wipe_some e2
    have e3 : Vis scope y := e3
    have fr : scope.names.lookup y = some .free := by
      rcases e3 with k | k | k
      · rcases ok.blk.own _ (PySem.mem_of_lookup k) (.inl rfl) with q | q
        · obtain ⟨p, hp, hpy⟩ := List.mem_map.mp q
          have e4 := ok.blk.ix p hp
          have hpy : p.1 = y := hpy
          rw [hpy] at e4
          exact absurd (List.mem_map.mpr ⟨p, hp, nodup_ix hN e4 e1⟩) hne
        · exact absurd (List.mem_of_getElem? e1) q
      · exact absurd k (nocell y)
      · exact k
    obtain ⟨m, hn, hl⟩ := I.loc
    have hf := ok.blk.free _ (PySem.mem_of_lookup fr) rfl
    obtain ⟨w, r, q⟩ := hl i y v e1 e2 (hf.elim (fun k => .inr (.inl k)) fun k => .inr (.inr k))
    obtain ⟨c, h1, h2⟩ := lk fr
    refine ⟨w, r, .inr ⟨.inr fr, c, h1, ?_⟩⟩
    rcases q with ⟨k, _⟩ | ⟨_, c', e', z⟩
    · have k : X.env.scope.names.lookup y = some .local := k
      rcases hf with k' | k' <;> rw [show X.env.scope.names.lookup y = _ from k'] at k <;> cases k
    · rw [h2] at e'
      cases e'
      exact z.keeps kp
  · obtain ⟨v, z⟩ := I.cell y c (cm e).1
    exact ⟨v, z.keeps kp⟩
  · have hp : p ∈ [(a, go)] ++ ([] : List (Addr × Obj)) := hp
    rw [List.append_nil, List.mem_singleton] at hp
    subst hp
    exact ⟨ha, young.1, Nat.ne_of_gt hlt, young.2, hgo⟩
theorem gen_back {cenv : Env} {A : Around} {fp : List Addr} {pn pins' : List (Addr × Obj)} {σ' : St} {H' : Hp} {s' : Shared} (I : Inv X pins σ H s) (J : Inv (gcx X s H cenv A fp pn) pins' σ' H' s') (hfp : ∀ b ∈ fp, FpOk X pins H b) : Inv X pins σ H' s' :=
  I.call' (ch := fp) J.os J.base J.hok J.bare fun b hb => ⟨(hfp b hb).2.2.2.1, (hfp b hb).2.1, (hfp b hb).2.2.2.2.1, (hfp b hb).2.2.2.2.2⟩
end
end Tr

namespace Tr
open PySem PySem.Spec L2
open GxR (TabG Tabbed)
open PyProof.Rows (AllBare)
variable [ProtC]

def SleptB (s t : Shared) : Prop := t.heap = s.heap ∧ t.os = s.os ∧ AllBare t.gens
theorem Inv.slept {X : Cx} {pins : List (Addr × Obj)} {σ : St} {H : Hp} {s t : Shared} (I : Inv X pins σ H s) (z : SleptB s t) : Inv X pins σ H t := by
  have k : ∀ b u, s.heap.get? b = some u → t.heap.get? b = some u := fun b u e => by rw [z.1]; exact e
  exact I.call' (ch := []) z.2.1 (Un.kept k) (I.hok.kept k) z.2.2 fun b hb => by cases hb
def gEnd (X : Cx) (σ : St) (Qe : Hp → Prop) : GenEnd := fun _ s0 r s => r = .ok .next ∧ s0.gens.size ≤ s.gens.size ∧ ∃ H, Inv X [] σ H s ∧ Qe H
def gPro (X : Cx) (σ : St) (on : Bool) (Qs : Hp → Prop) : Protocol := fun _ s0 v s kap => s0.gens.size ≤ s.gens.size ∧ ∃ k H, v = .bool k ∧ Inv X [] σ H s ∧ (k = on → ∀ t, SleptB s t → kap (.send .none) t) ∧ (k ≠ on → Qs H)
section
variable {X : Cx}
def GTurn (J : It) (W : Nat → Nat → Hp → Prop) (Qe Qs : Hp → Prop) (on : Bool) (g : TG) (tt : TT) (te : TE) (vs : List Nat) (σ : St) : Prop := ∀ i m H, W i m H →
  (J.stop i H ∧ Qe H) ∨ (J.go i H ∧ ∃ Nx : Hp → Prop, (∀ G, Nx G → ∃ m', m' < m ∧ W (i + 1) m' G) ∧ ∀ x G, J.yld i H x G → g x σ G fun σ2 H2 => wipe σ2 vs = σ ∧ tt σ2 H2 fun b H3 =>
    if b = true then te σ2 H3 fun y H4 => ∃ k, y = .bl k ∧ if k = on then Nx H4 else Qs H4 else Nx H3)
theorem gen_loop {s4 : Shared} {H0 : Hp} {A : Around} {fp : List Addr} {pn : List (Addr × Obj)} {it C : Addr} {code : Value} {elt tg iter : Expr} {ifs : List Expr} {scope : Scope} {own : List (Str × Nat)} {pos : Pos} {tn : Nat → Heap → Prop} {J : It} {W : Nat → Nat → Hp → Prop} {Qe Qs : Hp → Prop} {on : Bool} {g : TG} {tt : TT} {te : TE} {σ : St}
    (hco : scope.isCoroutine = false) (T : Turn X.prog X.w X.K tg J fp it tn) (hpn : ∀ b ∈ fp, ∀ p ∈ pn, p.1 ≠ b)
    (pg : PG (gcx X s4 H0 (gEnv X scope C code) A fp pn) tg g) (pt : PTs (gcx X s4 H0 (gEnv X scope C code) A fp pn) ifs tt) (pe : PE (gcx X s4 H0 (gEnv X scope C code) A fp pn) elt te)
    (ht : GTurn J W Qe Qs on g tt te (own.map (·.2)) (wipe σ (own.map (·.2)))) : ∀ (m n i : Nat) (s0 s : Shared) (H : Hp), m < n → s0.gens.size ≤ s.gens.size → W i m H → Inv (gcx X s4 H0 (gEnv X scope C code) A fp pn) [] (wipe σ (own.map (·.2))) H s → tn i s.heap → (∀ b ∈ fp, H b = none) →
    Seg (model X.prog X.w) A (gEnd (gcx X s4 H0 (gEnv X scope C code) A fp pn) (wipe σ (own.map (·.2))) Qe) (gPro (gcx X s4 H0 (gEnv X scope C code) A fp pn) (wipe σ (own.map (·.2))) on Qs) n s0
      (.compLoop (.GeneratorExp elt [⟨tg, iter, ifs, 0⟩] scope pos) 0 (.ref it) .none (gEnv X scope C code)) ((model X.prog X.w).den (.compLoop (.GeneratorExp elt [⟨tg, iter, ifs, 0⟩] scope pos) 0 (.ref it) .none (gEnv X scope C code))) [] s := by
  generalize hX : gcx X s4 H0 (gEnv X scope C code) A fp pn = XG at *
  have e1 : XG.prog = X.prog := by rw [← hX]
  have e2 : XG.w = X.w := by rw [← hX]
  have e3 : XG.K = X.K := by rw [← hX]
  have e4 : XG.calm = true := by rw [← hX]
  have e5 : XG.A = A.deeper (gEnv X scope C code) := by rw [← hX]
  have e6 : XG.env = gEnv X scope C code := by rw [← hX]
  have e7 : XG.pn = pn := by rw [← hX]
  have e8 : XG.ex = fp := by rw [← hX]
  have e9 : XG.xe = fun _ _ => False := by rw [← hX]
  intro m
  induction m using Nat.strongRecOn with
  | ind m ih =>
    intro n i s0 s H hmn hz hw I st nf
    have stat : ∀ {σ' : St} {H' : Hp} {s' : Shared}, Inv XG [] σ' H' s' → (∀ b ∈ fp, H' b = none) → ∀ b ∈ fp, FpOk XG [] H' b := fun {σ' H' s'} I' hn b hb => by
      have hb' : b ∈ XG.ex := by rw [e8]; exact hb
      exact ⟨hn b hb, (I'.ok.exf b hb').1, I'.ok.exfs b hb', .inl hb', fun x c e => (I'.ok.exf b hb').2 x c e, fun p hp => by rw [List.append_nil, e7] at hp; exact hpn b hb p hp⟩
    show Seg _ A _ _ _ s0 _ ((compTurn (.GeneratorExp elt [⟨tg, iter, ifs, 0⟩] scope pos) 0 (.ref it) .none (gEnv X scope C code)).onRaise (leaving (gEnv X scope C code))) [] s
    rw [compTurn_gen, Sem.onRaise_eq_wrap]
    refine seg_bind_wrap (wpAny_standAt ?_)
    rcases ht i m H hw with ⟨stop, qe⟩ | ⟨go, Nx, hNx, step⟩
    · have td := T.done XG e1 e2 e3 e4 i [] s _ H (fun _ _ => False) I (stat I nf) st stop
      rw [e5] at td
      refine seg_bind_wrap (GenW.wpAny_gsz hz (wpAny_mono td (fun r s1 hr hz => ?_) fun _ _ z _ => z.elim))
      obtain ⟨rfl, I1⟩ := hr
      exact seg_end (.ok .next) ⟨rfl, hz, H, I1, qe⟩
    · have ti := T.item XG e1 e2 e3 e4 i [] s _ H (fun _ _ => False) I (stat I nf) st go
      rw [e5] at ti
      refine seg_bind_wrap (GenW.wpAny_gsz hz (wpAny_mono ti (fun r s1 hr hz => ?_) fun _ _ z _ => z.elim))
      obtain ⟨u, rfl, h1⟩ := hr
      refine seg_bind_wrap (GenW.wpAny_gsz hz (wpAny_mono h1 (fun _ s2 h2 hz => ?_) fun _ _ z _ => z.elim))
      obtain ⟨x, H2, I2, r2, y2, st2, n2⟩ := h2
      have I2' := I2.pinned (stat I2 n2) (T.obj _ _ st2)
      have pga := pg.run _ s2 _ H2 x u _ I2' r2 (step x H2 y2)
      rw [e1, e2, e5, e6, e9] at pga
      refine seg_bind_wrap (GenW.wpAny_gsz hz (wpAny_mono pga (fun _ s3 h3 hz => ?_) fun _ _ z _ => z.elim))
      obtain ⟨σ3, H3, I3, hw3, q3⟩ := h3
      have pta := pt.run _ s3 σ3 H3 _ I3 q3
      rw [e1, e2, e5, e6, e9] at pta
      refine seg_bind_wrap (GenW.wpAny_gsz hz (wpAny_mono pta (fun b s5 h5 hz => ?_) fun _ _ z _ => z.elim))
      obtain ⟨H5, I5, q5⟩ := h5
      -- the turn's end
      have back : ∀ {s' : Shared} {H' : Hp}, Inv XG ([] ++ pinsAt fp s2.heap) σ3 H' s' → Inv XG [] (wipe σ (own.map (·.2))) H' s' ∧ tn (i + 1) s'.heap ∧ ∀ b ∈ fp, H' b = none := fun {s' H'} I' => by
        have pin' : ∀ b ∈ fp, ∀ o, s2.heap.get? b = some o → s'.heap.get? b = some o ∧ H' b = none := fun b hb o e =>
          let z := I'.pin (b, o) (List.mem_append_right _ (List.mem_append_right _ (mem_pinsAt hb e)))
          ⟨z.1, z.2.1⟩
        refine ⟨(I'.unpinned (pins := [])).weak (by rw [← hw3, wipe_length]) fun j v e => ?_, T.keep _ _ _ st2 fun b hb o e => (pin' b hb o e).1, fun b hb => ?_⟩
        · rw [← hw3] at e
          exact (wipe_some e).1
        · obtain ⟨o, e, _⟩ := T.obj _ _ st2 b hb
          exact (pin' b hb o e).2
      cases b with
      | false =>
        simp only [Bool.false_eq_true, if_false] at q5 ⊢
        obtain ⟨m', hm', w'⟩ := hNx H5 q5
        obtain ⟨b1, b2, b3⟩ := back I5
        exact seg_again rfl (ih m' hm' n (i + 1) s0 s5 H5 (by omega) hz w' b1 b2 b3)
      | true =>
        simp only [if_true] at q5 ⊢
        have hy : ∀ v, yieldOut (gEnv X scope C code) v = yieldValue v := fun v => by
          have hco' : (gEnv X scope C code).scope.isCoroutine = false := hco
          simp only [yieldOut, hco', Bool.false_eq_true, if_false]
        simp only [hy]
        rw [Sem.bind_eq_wrap', Sem.bind_eq_wrap', Sem.wrap_wrap, Sem.wrap_wrap]
        have pea := pe.run _ s5 σ3 H5 _ I5 q5
        rw [e1, e2, e5, e6, e9] at pea
        refine seg_wrap (GenW.wpAny_gsz hz (wpAny_mono pea (fun v s6 h6 hz => ?_) fun _ _ z _ => z.elim))
        obtain ⟨y, H6, I6, r6, k, rfl, q6⟩ := h6
        cases r6
        obtain ⟨b1, b2, b3⟩ := back I6
        obtain ⟨n', rfl⟩ : ∃ n', n = n' + 1 := ⟨n - 1, by omega⟩
        refine seg_at (seg_yield rfl rfl rfl ⟨hz, k, H6, rfl, b1, fun hk t ht => ?_, fun hk => ?_⟩)
        · rw [if_pos hk] at q6
          obtain ⟨m', hm', w'⟩ := hNx H6 q6
          exact seg_again rfl (ih m' hm' n' (i + 1) t t H6 (by omega) (Nat.le_refl _) w' (Inv.slept b1 ht) (by rw [ht.1]; exact b2) b3)
        · rw [if_neg hk] at q6
          exact q6
end
end Tr

namespace Tr
open PySem PySem.Spec L2
open GxR (TabG Tabbed)
open PyProof.Rows (AllBare)
variable [ProtC]
section
variable {prog : Program} {w : World} {A : Around} {E : Value → Shared → Prop}
theorem gen_begin {R : GenEnd} {Y : Protocol} {P : Program} {K : PySem.W.Frag} {n : Nat} {s0 s : Shared} {elt tg iter : Expr} {ifs : List Expr} {scope : Scope} {pos : Pos} {J : It} {fp : List Addr} {it : Addr} {tn : Nat → Heap → Prop} {cenv : Env} (T : Turn prog w K tg J fp it tn) (st : tn 0 s.heap)
    (h : Seg (model prog w) A R Y n s0 (.compLoop (.GeneratorExp elt [⟨tg, iter, ifs, 0⟩] scope pos) 0 (.ref it) .none cenv) ((model prog w).den (.compLoop (.GeneratorExp elt [⟨tg, iter, ifs, 0⟩] scope pos) 0 (.ref it) .none cenv)) [] s) :
    Seg (model prog w) A R Y n s0 (.compStart (.GeneratorExp elt [⟨tg, iter, ifs, 0⟩] scope pos) 0 (.ref it) .none cenv) ((model prog w).den (.compStart (.GeneratorExp elt [⟨tg, iter, ifs, 0⟩] scope pos) 0 (.ref it) .none cenv)) [] s := by
  show Seg _ A R Y n s0 _ ((compStart (.GeneratorExp elt [⟨tg, iter, ifs, 0⟩] scope pos) 0 (.ref it) .none cenv).onRaise (leaving cenv)) [] s
  unfold compStart
  rw [Sem.onRaise_eq_wrap]
  show Seg _ A R Y n s0 _ ((ask >>= _).wrap _ _ _ _) [] s
  apply seg_bind_wrap
  apply wpAny_askSetting
  split
  · exact seg_again rfl h
  · apply seg_bind_wrap
    apply wpAny_rule
    show Seg _ A R Y n s0 _ ((standAt iter.pos >>= _).wrap _ _ _ _) [] s
    apply seg_bind_wrap
    apply wpAny_standAt
    apply seg_bind_wrap
    exact T.self _ 0 s _ _ st (seg_again rfl h)
theorem gen_next {XG : Cx} {σ : St} {Qe Qs : Hp → Prop} {on : Bool} {a : Addr} {g : Nat} {go : Obj} {Q : Option Value → Shared → Prop} (hP : XG.prog = prog) (hW : XG.w = w) (hh : A.handled = none) (hroom : A.depth < recursionLimit) (hpn : XG.pn = [(a, go)])
    (hgo : ∀ h : Heap, h.get? a = some go → h.IsGen a g) {n : Nat} {s : Shared} {gs : GenState} (hl : s.heap.NoLimit) (hg : s.heap.get? a = some go) (hgs : s.gens[g]? = some gs)
    (hr : gs.Goes (model prog w) A.in1 (gEnd XG σ Qe) (gPro XG σ on Qs) n (.send .none) (s.setGen g .running))
    (hv : ∀ k s1, s1.heap.NoLimit → s1.heap.get? a = some go → (∃ H, Inv XG [] σ H s1 ∧ (k ≠ on → Qs H)) → (k = on → ∃ m gs', n = m + 1 ∧ s1.gens[g]? = some gs' ∧ gs'.Goes (model prog w) A.in1 (gEnd XG σ Qe) (gPro XG σ on Qs) m (.send .none) (s1.setGen g .running)) → Q (some (.bool k)) s1)
    (he : ∀ s1, (∃ H, Inv XG [] σ H s1 ∧ Qe H) → Q none s1) : wpAny (model prog w) A (pyNext (.ref a)) Q E s := by
  have bare1 : ∀ (s1 : Shared) (x : GenState), AllBare s1.gens → x.bare = true → AllBare (s1.setGen g x).gens := fun s1 x h hx => allBare_setGen h hx
  have hlt : g < s.gens.size := (Array.getElem?_eq_some_iff.mp hgs).1
  refine wpAny_pyNext_genexpQ (Y := gPro XG σ on Qs) (P := fun _ s0 s1 => s0.gens.size ≤ s1.gens.size ∧ ∃ H, Inv XG [] σ H s1 ∧ Qe H) hh hl hroom (hgo _ hg) hgs hr (fun v s1 gs' hb hy => ?_) (fun s1 hp h' hk => ?_)
  · obtain ⟨hz, k, H, rfl, I, hon, hoff⟩ := hy
    have ha : s1.heap.get? a = some go := (I.pin (a, go) (by rw [hpn]; exact List.mem_cons_self ..)).1
    have I' : Inv XG [] σ H (s1.setGen g gs') := Inv.slept I ⟨rfl, rfl, bare1 s1 gs' I.bare hb⟩
    have hz1 : g < s1.gens.size := by
      have hz2 : (s.setGen g .running).gens.size ≤ s1.gens.size := hz
      rw [GenW.setGen_size] at hz2
      exact Nat.lt_of_lt_of_le hlt hz2
    refine hv k (s1.setGen g gs') I'.nolimit ha ⟨H, I', hoff⟩ fun hk => ?_
    have z := hon hk ((s1.setGen g gs').setGen g .running) ⟨rfl, rfl, bare1 _ _ I'.bare rfl⟩
    cases n with
    | zero => exact z.elim
    | succ m => exact ⟨m, gs', rfl, setGen_self (gs := s1.gens[g]) (Array.getElem?_eq_getElem hz1), z⟩
  · obtain ⟨_, H, I, q⟩ := hp
    have k : ∀ b u, s1.heap.get? b = some u → h'.get? b = some u := hk
    refine he _ ⟨H, ?_, q⟩
    exact I.call' (ch := []) rfl (Un.kept k) (I.hok.kept k) (bare1 s1 _ I.bare rfl) fun b hb => by cases hb
theorem gen_all {XG : Cx} {σ : St} {Qe Qs : Hp → Prop} {a : Addr} {g : Nat} {go : Obj} {R : Result → Shared → Prop} (hP : XG.prog = prog) (hW : XG.w = w) (hh : A.handled = none) (hroom : A.depth < recursionLimit) (hpn : XG.pn = [(a, go)])
    (hgo : ∀ h : Heap, h.get? a = some go → h.IsGen a g) (hR : ∀ k s1, (∃ H, Inv XG [] σ H s1 ∧ (k = true → Qe H) ∧ (k = false → Qs H)) → R (.ok (.ret (.bool k))) s1) : ∀ (n : Nat) (s : Shared) (gs : GenState), s.heap.NoLimit → s.heap.get? a = some go → s.gens[g]? = some gs →
    gs.Goes (model prog w) A.in1.in1 (gEnd XG σ Qe) (gPro XG σ true Qs) n (.send .none) (s.setGen g .running) → codeAny (model prog w) A (.builtin "all.loop" ⟨[.ref a], []⟩) R s := by
  intro n
  induction n with
  | zero =>
    intro s gs hl hg hgs hr
    refine codeAny_builtin F.entry_all_loop ?_
    rw [Around.under_plainId F.plain_all_loop _]
    show wpAny _ A.in1 (pyNext (.ref a) >>= _) _ _ s
    refine wpAny_bind (gen_next (A := A.in1) hP hW hh hroom hpn hgo hl hg hgs hr (fun k s1 hl1 hg1 hs1 hgo1 => ?_) fun s1 ⟨H, I, q⟩ => ?_)
    · refine wpAny_bind (wpAny_holding (wpAny_truthy_bool ?_))
      refine wpAny_bind (wpAny_letGo ?_)
      cases k with
      | true =>
        obtain ⟨m, gs', e, _⟩ := hgo1 rfl
        exact absurd e (by omega)
      | false =>
        simp only [Bool.false_eq_true, if_false]
        obtain ⟨H, I, q⟩ := hs1
        exact wpAny_bind (wpAny_rule (wpAny_pure (hR false s1 ⟨H, I, fun z => (by cases z), fun _ => q (by decide)⟩)))
    · exact wpAny_bind (wpAny_rule (wpAny_pure (hR true s1 ⟨H, I, fun _ => q, fun z => (by cases z)⟩)))
  | succ n ih =>
    intro s gs hl hg hgs hr
    refine codeAny_builtin F.entry_all_loop ?_
    rw [Around.under_plainId F.plain_all_loop _]
    show wpAny _ A.in1 (pyNext (.ref a) >>= _) _ _ s
    refine wpAny_bind (gen_next (A := A.in1) hP hW hh hroom hpn hgo hl hg hgs hr (fun k s1 hl1 hg1 hs1 hgo1 => ?_) fun s1 ⟨H, I, q⟩ => ?_)
    · refine wpAny_bind (wpAny_holding (wpAny_truthy_bool ?_))
      refine wpAny_bind (wpAny_letGo ?_)
      cases k with
      | true =>
        simp only [if_true]
        obtain ⟨m, gs', e, e2, e3⟩ := hgo1 rfl
        cases e
        exact wpAny_pure ⟨plainId_quiet F.plain_all_loop _, ih s1 gs' hl1 hg1 e2 e3⟩
      | false =>
        simp only [Bool.false_eq_true, if_false]
        obtain ⟨H, I, q⟩ := hs1
        exact wpAny_bind (wpAny_rule (wpAny_pure (hR false s1 ⟨H, I, fun z => (by cases z), fun _ => q (by decide)⟩)))
    · exact wpAny_bind (wpAny_rule (wpAny_pure (hR true s1 ⟨H, I, fun _ => q, fun z => (by cases z)⟩)))
end
section
variable {X : Cx} {pins : List (Addr × Obj)} {σ : St} {H : Hp} {s : Shared}
structure Made (X : Cx) (pins : List (Addr × Obj)) (σ : St) (tg iter elt : Expr) (ifs : List Expr) (scope : Scope) (pos : Pos) (J : It) (H2 : Hp) (s4 t : Shared) (a : Addr) : Prop where
  ex : ∃ (it : Addr) (fp : List Addr) (tn : Nat → Heap → Prop) (code : Value) (g : Nat) (go : Obj) (h5 : Heap) (g5 : Array GenState) (t5 : Nat), Inv X pins σ H2 s4 ∧ Turn X.prog X.w X.K tg J fp it tn ∧ tn 0 h5 ∧ (∀ b ∈ fp, FpOk X pins H2 b ∧ b < s4.heap.objs.size) ∧
    t = { s4 with heap := h5, gens := g5, toks := t5 } ∧ (∀ b o, s4.heap.get? b = some o → h5.get? b = some o) ∧ h5.Ns s4.heap.objs.size (fun y => if y = ".0" then some (.ref it) else none) ∧ AllBare g5 ∧ h5.get? a = some go ∧ s4.heap.objs.size < a ∧ (∀ v, go.data ≠ .cell v) ∧
    (∀ h : Heap, h.get? a = some go → h.IsGen a g) ∧ g5[g]? = some (.fresh (.compStart (.GeneratorExp elt [⟨tg, iter, ifs, 0⟩] scope pos) 0 (.ref it) .none (gEnv X scope s4.heap.objs.size code)))
theorem gen_make {c P : Addr} {elt tg iter : Expr} {ifs : List Expr} {gpos : Pos} {scope : Scope} {own : List (Str × Nat)} {wi : TI} {k : Nat} {Q' : Value → Shared → Prop} {R : It → Hp → Prop}
    (hr : Room k X.A) (TB : GxR.TabB X.base X.mg c P) (hcode : X.env.code = .ref c) (ok : GOk X.N X.env.scope scope own) (hi : PI X tg iter wi) (hs : ∀ v, genFold iter X.env v = pure v) (I : Inv X pins σ H s)
    (h : wi σ H fun J H1 => TabG H1 P ∧ ∀ H2, Tabbed P H1 H2 → R J H2) (hQ : ∀ J H2 s4 t a, R J H2 → Made X pins σ tg iter elt ifs scope gpos J H2 s4 t a → Q' (.ref a) t) :
    wpAny (model X.prog X.w) X.A (eval (.GeneratorExp elt [⟨tg, iter, ifs, 0⟩] scope gpos) X.env) Q' X.xe s := by
  have hfree : ∀ y ∈ scope.names, y.2 = .free → ∃ c, X.env.cells.lookup y.1 = some c := fun y hy e => (ok.blk.free y hy e).elim (fun k => I.ok.has _ (.inl k)) fun k => I.ok.has _ (.inr k)
  refine wpAny_GeneratorExp_make ok.co (closure_ok hfree) ok.cell ok.dot ok.blk.kind (by have := hr.dp; omega) ?_ hs
  refine thn (hi.run pins s σ H _ I h) fun xv s1 h1 => thn h1 fun itv s2 h2 => ?_
  obtain ⟨it, fp, tn, J, H1, rfl, I2, T, st2, f2, ⟨ps, hP, htr⟩, q⟩ := h2
  have hPs : s2.heap.get? P = some { cls := .none, data := .fields ps } := I2.hok P _ hP
  have cd : PySem.W.CodeHd s2.heap c P := TB.code.keeps I2.bk
  refine ⟨I2.nolimit, ?_⟩
  have fpP : ∀ b ∈ fp, b ≠ P := fun b hb z => by
    have := (f2 b hb).1
    rw [z, hP] at this
    cases this
  have cont : ∀ (code : Value) (h3 : Heap) (tk : Nat) (ps' more : Array Value), Heap.ExtBut P s2.heap h3 → s2.heap.objs.size ≤ h3.objs.size → h3.get? P = some { cls := .none, data := .fields ps' } → ps' = ps ++ more → TriplesOk ps'.toList →
      wpAny (model X.prog X.w) X.A (builtinsFor X.env.globals X.env.builtins) (fun bi s4 => ∀ h', h'.Ns s4.heap.objs.size (fun y => if y = ".0" then some (.ref it) else none) → Heap.SameBut s4.heap.objs.size (s4.heap.push { cls := .type "frame", data := .dict #[] }) h' →
          Q' (.ref h'.objs.size) { s4 with
            gens := s4.gens.push (.fresh (.compStart (.GeneratorExp elt [⟨tg, iter, ifs, 0⟩] scope gpos) 0 (.ref it) .none (genEnv scope (cloFrom X.env.cells scope.names []) s4.heap.objs.size code bi X.env))),
            toks := s4.toks + 1 + 1 + 1,
            heap := h'.push { cls := .type "generator", data := .fields #[.int s4.gens.size 0, .str "<genexpr>" (s4.toks + 1), .str (X.env.qual ++ "<genexpr>") (s4.toks + 1 + 1)] } }) X.xe { s2 with heap := h3, toks := tk } := by
    intro code h3 tk ps' more hx hsz hP3 hmore ht3
    obtain ⟨bm, ob, e1, e2, e3, e4, e5, e6, e7, e8⟩ := TB.bm
    have keep3 : ∀ b u, b ≠ P → s2.heap.get? b = some u → h3.get? b = some u := fun b u hb e => hx b u hb e
    refine wpAny_builtinsFor (m := X.mg) (by rw [I2.ok.glob]; exact (I2.mod.glob.keeps I2.bk).extBut hx TB.gP) e1 e2 (keep3 _ _ e4 (I2.bk _ _ e5)) e6 e7 e8 ?_
    intro h' hn hsb
    have I3 : Inv X pins σ (upd H1 P (.tbl (ps ++ more))) { s2 with heap := h3, toks := tk } := GxR.inv_tab (g' := s2.gens) (d' := s2.drawn) I2 hP keep3 (by rw [← hmore]; exact hP3) I2.bare
    have sz' : h'.objs.size = h3.objs.size + 1 := by rw [hsb.1, Heap.size_push]
    have kp1 : ∀ b o, h3.get? b = some o → h'.get? b = some o := fun b o e => hsb.extBut b o (Nat.ne_of_lt (Heap.lt_size e)) (Heap.get?_push_of_some _ e)
    refine hQ J (upd H1 P (.tbl (ps ++ more))) { s2 with heap := h3, toks := tk } _ h'.objs.size (q _ ⟨⟨ps ++ more, upd_same, by rw [← hmore]; exact ht3⟩, fun b hb => upd_ne hb⟩) ⟨?_⟩
    refine ⟨it, fp, tn, code, s2.gens.size, _, _, _, _, I3, T, ?_, fun b hb => ?_, rfl, fun b o e => Heap.get?_push_of_some _ (kp1 b o e), hn.push _, AllBare.push I2.bare rfl, Heap.get?_push_size _ rfl, by show h3.objs.size < h'.objs.size; omega, fun v z => (by cases z), fun h e => ⟨_, _, _, e, rfl, rfl, rfl⟩, Array.getElem?_push_size ..⟩
    · exact T.keep _ _ _ st2 fun b hb o e => Heap.get?_push_of_some _ (kp1 b o (keep3 b o (fpP b hb) e))
    · obtain ⟨o, e, _⟩ := T.obj _ _ st2 b hb
      refine ⟨⟨by rw [upd_ne (fpP b hb)]; exact (f2 b hb).1, (f2 b hb).2⟩, Heap.lt_size (keep3 b o (fpP b hb) e)⟩
  cases hf : codeAmong gpos ps.toList with
  | none =>
    refine wpAny_genexprCodeX hcode (cd.code hPs htr) (cd.tab hPs) hf fun c' h3 tk hx hge hlt hco' _ htab' _ => ?_
    obtain ⟨o1, vs, f1, tf, fl, tg', inF, tx, tt, op, _, _, _, _, _, _, _, _, _, htr', _⟩ := hco'
    exact cont _ h3 tk _ _ hx (Nat.le_trans hge (Nat.le_of_lt hlt)) htab'.2 rfl htr'
  | some cv =>
    refine wpAny_genexprCode_hit hcode (cd.code hPs htr) hf ?_
    exact cont cv s2.heap s2.toks ps #[] (Heap.ExtBut.refl _ _) (Nat.le_refl _) hPs (by simp) htr
end
end Tr

namespace Tr
open PySem PySem.Spec L2
open GxR (TabG Tabbed)
open PyProof.Rows (AllBare)
variable [ProtC]

def tGa (on : Bool) (P : Addr) (wi : TI) (g : TG) (tt : TT) (te : TE) (vs : List Nat) : TE := fun σ H Q => wi σ H fun J H1 => TabG H1 P ∧ ∀ H2, Tabbed P H1 H2 →
  ∃ (W : Nat → Nat → Hp → Prop) (Qe Qs : Hp → Prop), (∃ m, W 0 m H2) ∧ GTurn J W Qe Qs on g tt te vs (wipe σ vs) ∧ (∀ G, Qe G → Q (.bl on) G) ∧ ∀ G, Qs G → Q (.bl (!on)) G
section
variable {X : Cx}
abbrev gA (X : Cx) : Around := X.A.in1.in1
def GFr (X : Cx) (scope : Scope) (p : Cx → Prop) : Prop := ∀ (s : Shared) (H : Hp) (C : Addr) (code : Value) (fp : List Addr) (pn : List (Addr × Obj)), p (gcx X s H (gEnv X scope C code) (gA X) fp pn)
theorem ga_goes {pins : List (Addr × Obj)} {σ : St} {tg iter elt : Expr} {ifs : List Expr} {scope : Scope} {pos : Pos} {J : It} {H2 : Hp} {s4 t : Shared} {a : Addr} {own : List (Str × Nat)} {on : Bool} {g : TG} {tt : TT} {te : TE} {W : Nat → Nat → Hp → Prop} {Qe Qs : Hp → Prop}
    (hA : X.A.handled = none) (ok : GOk X.N X.env.scope scope own) (hN : X.N.Nodup) (pg : GFr X scope fun Y => PG Y tg g) (pt : GFr X scope fun Y => PTs Y ifs tt) (pe : GFr X scope fun Y => PE Y elt te)
    (ht : GTurn J W Qe Qs on g tt te (own.map (·.2)) (wipe σ (own.map (·.2)))) (hm : ∃ m, W 0 m H2) (M : Made X pins σ tg iter elt ifs scope pos J H2 s4 t a) :
    ∃ (XG : Cx) (n : Nat) (gi : Nat) (go : Obj) (gs : GenState), XG.prog = X.prog ∧ XG.w = X.w ∧ XG.pn = [(a, go)] ∧ (∀ h : Heap, h.get? a = some go → h.IsGen a gi) ∧ t.heap.NoLimit ∧ t.heap.get? a = some go ∧ t.gens[gi]? = some gs ∧
      gs.Goes (model X.prog X.w) (gA X) (gEnd XG (wipe σ (own.map (·.2))) Qe) (gPro XG (wipe σ (own.map (·.2))) on Qs) n (.send .none) (t.setGen gi .running) ∧
      ∀ H s, Inv XG [] (wipe σ (own.map (·.2))) H s → Inv X pins σ H s := by
  obtain ⟨it, fp, tn, code, gi, go, h5, g5, t5, I2, T, st, hfp, rfl, kp, hns, hb, hga, hlt, hgo, hgen, hgs⟩ := M.ex
  obtain ⟨m, hm⟩ := hm
  have hfr : (gA X).frames = some X.stack := I2.ok.frames
  have IG := gen_start (A := gA X) (code := code) (fp := fp) (t5 := t5) I2 ok hN hfp hA hfr kp hns hb hga hlt hgo
  refine ⟨gcx X s4 H2 (gEnv X scope s4.heap.objs.size code) (gA X) fp [(a, go)], m + 1, gi, go, _, rfl, rfl, rfl, hgen, IG.nolimit, hga, hgs, ⟨rfl, ?_⟩, fun H s J => gen_back I2 J fun b hb => (hfp b hb).1⟩
  refine gen_begin (P := X.prog) T st ?_
  refine gen_loop ok.co T (fun b hb p hp => ?_) (pg ..) (pt ..) (pe ..) ht m (m + 1) 0 _ _ H2 (Nat.lt_succ_self _) (Nat.le_refl _) hm (Inv.slept IG ⟨rfl, rfl, allBare_setGen hb rfl⟩) st fun b hb => (hfp b hb).1.1
  rw [List.mem_singleton] at hp
  subst hp
  exact Nat.ne_of_gt (Nat.lt_trans (hfp b hb).2 hlt)
theorem pe_allG {c P : Addr} {elt tg iter : Expr} {ifs : List Expr} {p pos gpos : Pos} {scope : Scope} {own : List (Str × Nat)} {wi : TI} {g : TG} {tt : TT} {te : TE} {k : Nat}
    (hr : Room k X.A) (hg : Gl X "all") (hm : X.mg "all" = none) (TB : GxR.TabB X.base X.mg c P) (hcode : X.env.code = .ref c) (ok : GOk X.N X.env.scope scope own) (hN : X.N.Nodup) (hi : PI X tg iter wi)
    (pg : GFr X scope fun Y => PG Y tg g) (pt : GFr X scope fun Y => PTs Y ifs tt) (pe : GFr X scope fun Y => PE Y elt te) (hs : ∀ v, genFold iter X.env v = pure v)
    (he : starEach [.GeneratorExp elt [⟨tg, iter, ifs, 0⟩] scope gpos] X.env = (false, eval (.GeneratorExp elt [⟨tg, iter, ifs, 0⟩] scope gpos) X.env) :: starEach [] X.env := by rfl) :
    PE X (.Call (.Name "all" p) [.GeneratorExp elt [⟨tg, iter, ifs, 0⟩] scope gpos] [] pos) (tGa true P wi g tt te (own.map (·.2))) := by
  refine ⟨fun pins s σ H Q I h => ?_⟩
  refine wpAny_Call_Name_kw (ld_blt I hg hm PyProof.Rows.boot_all ?_)
  refine PyProof.Rows.callWith_builtin1 ?_ he (by rfl)
  rw [he]
  show wpAny _ _ (spliced ((false, eval (.GeneratorExp elt [⟨tg, iter, ifs, 0⟩] scope gpos) X.env) :: backTo pos (starEach [] X.env))) _ _ s
  refine Calls.spliced_cons (gen_make hr TB hcode ok hi hs I h fun J H2 s4 t a ⟨W, Qe, Qs, hW, ht, q1, q2⟩ M => ?_)
  refine Calls.spliced_nil ?_
  obtain ⟨XG, n, gi, go, gs, e1, e2, e3, hgen, hl, hga, hgs, hgo, back⟩ := ga_goes hr.hd ok hN pg pt pe ht hW M
  refine call_function_tree F.kind_all F.plain_all F.entry_all (F.args_all1 _) ?_
  unfold Builtin.«all»
  refine wpAny_bind (m := oneArg "all" _) (wpAny_pure ?_)
  refine wpAny_bind (wpAny_pyIter_gen (hgen _ hga) ?_)
  refine wpAny_pure ⟨plainId_quiet F.plain_all_loop _, gen_all e1 e2 hr.hd (by have := hr.dp; show X.A.depth < _; omega) e3 hgen (fun b s1 ⟨H, J, z1, z2⟩ => ?_) n t gs hl hga hgs hgo⟩
  refine ⟨.bl b, H, back H s1 J, rfl, ?_⟩
  cases b with
  | true => exact q1 H (z1 rfl)
  | false => exact q2 H (z2 rfl)
end

def gaLoop (on : Bool) (g : BF) (t : TF) (f : DF) (δ : De) : List D → Wp D
  | [] => .pure (.bool on)
  | d :: ds => (optW (g d δ)).bind fun δ1 => (t δ1).bind fun b => if b then (f δ1).bind fun y => match y with
    | .bool k => if k = on then gaLoop on g t f δ ds else .pure (.bool k)
    | _ => .stuck else gaLoop on g t f δ ds
def dGa (on : Bool) (fi : De → Wp (List D)) (g : BF) (t : TF) (f : DF) (vs : List Nat) : DF := fun δ => (fi δ).bind fun ds => (gaLoop on g t f (dWipe δ vs) ds).nox
theorem Rep.gen {C : Cs} {S0 : Addr → Prop} {H0 Pb : Hp} {σ : St} {H G : Hp} {δ : De} (vs : List Nat) (R : Rep (C.bx S0 H0) Pb σ H δ) (g : Grow H G) :
    Rep (C.bx (Own (C.bx S0 H0) σ δ) G) (hid (Own (C.bx S0 H0) σ δ) G) (wipe σ vs) G (dWipe δ vs) := by
  have no : ∀ j ds, (dWipe δ vs)[j]? ≠ some (Sl.o ds) := fun j ds h => (dWipe_get (by intro z; cases z) h).2.2 ds rfl
  have own : ∀ b, Own (C.bx (Own (C.bx S0 H0) σ δ) G) (wipe σ vs) (dWipe δ vs) b ↔ Own (C.bx S0 H0) σ δ b := fun b =>
    ⟨fun z => z.elim id fun ⟨j, ds, e1, _⟩ => absurd e1 (no j ds), .inl⟩
  have le : Le (hid (Own (C.bx S0 H0) σ δ) H) (hid (Own (C.bx (Own (C.bx S0 H0) σ δ) G) (wipe σ vs) (dWipe δ vs)) G) := hid_le g.le fun b z => (own b).mp z
  refine ⟨hid_le (Le.refl G) fun b z => (own b).mp z, by rw [wipe_length, dWipe_len]; exact R.len, Grow.refl G, fun b z => g.dm b (R.odom b z), (R.gr g).tabs, fun j d h => ?_, fun j ds h => absurd h (no j ds), fun j k ds es b h => absurd h (no j ds), fun j x h => ?_, fun j b φ h => ?_, R.scr.gr (R.grow.trans g) (R.leB.trans (hid_le g.le fun _ z => z)) fun b z => .inl z⟩
  · obtain ⟨h1, h2, _⟩ := dWipe_get (by intro z; cases z) h
    obtain ⟨v, q1, q2⟩ := R.pers j d h2
    exact ⟨v, by rw [wipe_get, if_neg h1]; exact q1, Le.dp le _ v q2⟩
  · obtain ⟨h1, h2, _⟩ := dWipe_get (by intro z; cases z) h
    rw [wipe_get, if_neg h1]
    exact R.val j x h2
  · obtain ⟨h1, h2, _⟩ := dWipe_get (by intro z; cases z) h
    rw [wipe_get, if_neg h1]
    exact ⟨(R.trk j b φ h2).1, le b _ (R.trk j b φ h2).2 fun ps z => by cases z⟩
theorem Tabbed.grow {P : Addr} {H H' : Hp} (np : ∀ q, ¬ ProtC.p P q) (t : TabG H P) (h : Tabbed P H H') : Grow H H' := by
  obtain ⟨ps, e, tr⟩ := t
  refine ⟨fun b u e1 n => ?_, fun P' h' => ?_, fun b hb => ?_, fun P' q hp t => ?_⟩
  · have nb : b ≠ P := fun z => by
      rw [z, e] at e1
      exact n ps (Option.some.inj e1).symm
    rw [h.2 b nb]
    exact e1
  · by_cases c : P' = P
    · rw [c]; exact h.1
    · obtain ⟨qs, e1, tr1⟩ := h'
      exact ⟨qs, by rw [h.2 P' c]; exact e1, tr1⟩
  · by_cases c : b = P
    · obtain ⟨qs, e1, _⟩ := h.1
      rw [c, e1]
      exact fun z => nomatch z
    · rw [h.2 b c]; exact hb
  · have c : P' ≠ P := fun z => np q (z ▸ hp)
    obtain ⟨qs, e1, t1, t2⟩ := t
    refine ⟨qs, by rw [h.2 P' c]; exact e1, t1, fun pos cv hc => ?_⟩
    obtain ⟨c0, e2, e3⟩ := t2 pos cv hc
    have c1 : c0 ≠ P := fun z => by
      rw [z, e] at e3
      exact LamX.codeO_ne ps (Option.some.inj e3).symm
    exact ⟨c0, e2, by rw [h.2 c0 c1]; exact e3⟩
theorem ga_read {C : Cs} {W : WX} {on : Bool} {P : Addr} {wi : TI} {fi : De → Wp (List D)} {g : BF} {ix vs : List Nat} {t : TF} {f : DF} (hP : P ∈ C.T)
    (qw : ∀ S0 H0 Pb σ H δ Q, Rep (C.bx S0 H0) Pb σ H δ → (fi δ).run (fun ds => ∀ J G, Grow H G → Items C.K (hid (Own (C.bx S0 H0) σ δ) G) (obh C H0) ds J → Q J G) (Ew (C.bx S0 H0) W σ H) → wi σ H Q) (hix : ∀ i ∈ ix, i ∈ vs)
    {S0 : Addr → Prop} {H0 Pb : Hp} {σ : St} {H : Hp} {δ : De} {Q : VK} (R : Rep (C.bx S0 H0) Pb σ H δ)
    (h : (dGa on fi g t f vs δ).run (Dv (C.bx S0 H0) σ H δ Q) (Ew (C.bx S0 H0) W σ H)) :
    tGa on P wi (rG C ix g) (rT C W0 t) (rE C W0 f) vs σ H Q := by
  refine qw S0 H0 Pb σ H δ _ R ((fi δ).mono (fun ds h J G gr it => ?_) (fun _ z => z) h)
  have hT : TabG G P := gr.tb P (R.tabs P hP)
  refine ⟨hT, fun H2 hT2 => ?_⟩
  have g2 : Grow H H2 := gr.trans (Tabbed.grow (C.np P hP) hT hT2)
  have l2 : Le (hid (Own (C.bx S0 H0) σ δ) G) (hid (Own (C.bx S0 H0) σ δ) H2) := hid_le (Tabbed.grow (C.np P hP) hT hT2).le fun _ z => z
  obtain ⟨Gp, Y, w, hG, hY⟩ := it
  have h : (gaLoop on g t f (dWipe δ vs) ds).run (Dv (C.bx S0 H0) σ H δ Q) (fun _ => False) := h
  refine ⟨fun i m Hi => m = ds.length - i ∧ i ≤ ds.length ∧ Grow H2 Hi ∧ (gaLoop on g t f (dWipe δ vs) (ds.drop i)).run (Dv (C.bx S0 H0) σ H δ Q) (fun _ => False), fun G => Q (.bl on) G, fun G => Q (.bl (!on)) G, ⟨ds.length, by simp, Nat.zero_le _, Grow.refl _, h⟩, ?_, fun _ z => z, fun _ z => z⟩
  rintro i m Hi ⟨rfl, hi, gi, hr⟩
  have li : Le (hid (Own (C.bx S0 H0) σ δ) G) (hid (Own (C.bx S0 H0) σ δ) Hi) := l2.trans (hid_le gi.le fun _ z => z)
  have lb : Le (obh C H0) Hi := obh_le.trans (R.grow.trans (g2.trans gi)).le
  have gp : Gp Hi := hG Hi (li.trans hid_sub) lb
  by_cases hlt : i < ds.length
  · refine .inr ⟨w.goes i Hi hlt gp, fun G => Grow H2 G ∧ (gaLoop on g t f (dWipe δ vs) (ds.drop (i + 1))).run (Dv (C.bx S0 H0) σ H δ Q) (fun _ => False), fun G p' => ⟨ds.length - (i + 1), by omega, rfl, hlt, p'⟩, fun x Hi2 y => ?_⟩
    have dom : ∀ b, Own (C.bx S0 H0) σ δ b → Hi b ≠ none := fun b z => (g2.trans gi).dm b (R.odom b z)
    obtain ⟨gw, d, hd, dx⟩ := hY i Hi x Hi2 _ hlt li lb dom (w.yields i Hi x Hi2 hlt gp y)
    have ed : ds.drop i = d :: ds.drop (i + 1) := by
      rw [List.drop_eq_getElem_cons hlt]
      rw [List.getElem?_eq_getElem hlt] at hd
      rw [Option.some.inj hd]
    rw [ed] at hr
    obtain ⟨δ1, hg1, hr⟩ := optW_inv hr
    have g3 : Grow H Hi2 := (g2.trans gi).trans gw
    have RB := R.gen vs g3
    have ownB : ∀ b, Own (C.bx (Own (C.bx S0 H0) σ δ) Hi2) (wipe σ vs) (dWipe δ vs) b → Own (C.bx S0 H0) σ δ b := fun b z => by
      rcases z with z | ⟨j, es, e1, _⟩
      · exact z
      · exact absurd rfl ((dWipe_get (by intro z; cases z) e1).2.2 es)
    refine ⟨_, _, _, dWipe δ vs, d, δ1, RB, Le.dp (hid_le (Le.refl _) ownB) d x dx, hg1, fun σ2 R2 o2 w2 => ⟨?_, ?_⟩⟩
    · rw [w2 vs hix]
      apply List.ext_getElem?
      intro j
      rw [wipe_get, wipe_get]
      split
      · rename_i hj
        cases σ[j]? <;> rfl
      · rename_i hj
        rfl
    refine ⟨_, _, _, δ1, R2, (t δ1).mono (fun b hb H3 g3' => ?_) (fun x hx => hx.elim) hr⟩
    cases b with
    | false => exact ⟨(gi.trans gw).trans g3', hb⟩
    | true =>
      refine ⟨_, _, _, δ1, R2.gr g3', (f δ1).mono (fun yd hy v H4 g4 dv => ?_) (fun x hx => hx.elim) hb⟩
      have g5 : Grow H2 H4 := ((gi.trans gw).trans g3').trans g4
      cases dv with
      | bl k =>
        refine ⟨k, rfl, ?_⟩
        simp only [] at hy
        by_cases c : k = on
        · rw [if_pos c] at hy ⊢
          exact ⟨g5, hy⟩
        · rw [if_neg c] at hy ⊢
          have e : k = !on := by
            cases k <;> cases on <;> simp_all
          rw [← e]
          exact hy (.bl k) H4 (g2.trans g5) (.bl k)
      | _ => exact hy.elim
  · have e : i = ds.length := by omega
    subst e
    rw [List.drop_length] at hr
    have hr : Dv (C.bx S0 H0) σ H δ Q (.bool on) := hr
    exact .inl ⟨w.stops Hi gp, hr (.bl on) Hi (g2.trans gi) (.bl on)⟩
section
variable {X : Cx} {C : Cs} {W : WX} {c P : Addr} {elt tg iter : Expr} {ifs : List Expr} {p pos gpos : Pos} {scope : Scope} {own : List (Str × Nat)} {fi : De → Wp (List D)} {g : BF} {ix : List Nat} {t : TF} {f : DF} {k : Nat}
theorem de_allG (hr : Room k X.A) (hg : Gl X "all") (hm : X.mg "all" = none) (TB : GxR.TabB X.base X.mg c P) (hP : P ∈ C.T) (hcode : X.env.code = .ref c) (ok : GOk X.N X.env.scope scope own) (hix : ∀ i ∈ ix, i ∈ own.map (·.2)) (hN : X.N.Nodup) (hi : DI X C W tg iter fi)
    (pg : GFr X scope fun Y => DG Y C tg ix g) (pt : GFr X scope fun Y => DTs Y C W0 ifs t) (pe : GFr X scope fun Y => DE Y C W0 elt f) (hs : ∀ v, genFold iter X.env v = pure v := by intro _; rfl) :
    DE X C W (.Call (.Name "all" p) [.GeneratorExp elt [⟨tg, iter, ifs, 0⟩] scope gpos] [] pos) (dGa true fi g t f (own.map (·.2))) := by
  obtain ⟨wi, pw, qw⟩ := hi
  exact ⟨_, pe_allG hr hg hm TB hcode ok hN pw (fun s H C c fp pn => (pg s H C c fp pn).to) pt (fun s H C c fp pn => (pe s H C c fp pn).to) hs, fun S0 H0 Pb σ H δ Q R h => ga_read hP qw hix R h⟩
end
end Tr

namespace Tr
open PySem PySem.Spec L2
variable [ProtC]

section
variable {X : Cx} {C : Cs} {W : WX} {pos : Pos}
def sRow (i j : Nat) : SF := fun δ => (slotV δ[j]?).bind fun v => match v with
  | .ref a => (Wp.any fun (_ : Addr) => True).bind fun r => .pure (.nx (δ.set i (.t r (RowP r a))))
  | _ => .stuck
theorem Rep.setT {B : Bx} {Pb : Hp} {σ : St} {H G : Hp} {δ : De} {i : Nat} {a : Addr} {φ : Heap → Prop} (R : Rep B Pb σ H δ) (g : Grow H G) (na : H a = none) (ha : G a = some (.ext φ)) : Rep B Pb (σ.set i (some (.ref a))) G (δ.set i (.t a φ)) := by
  have R' := R.gr g
  have sub : ∀ b, Own B (σ.set i (some (.ref a))) (δ.set i (.t a φ)) b → Own B σ δ b := fun b z => by
    rcases z with z | ⟨j, es, e1, e2⟩
    · exact .inl z
    · rcases get_set_cases e1 with ⟨rfl, h1, h2⟩ | ⟨h1, h2⟩
      · cases h1
      · rw [List.getElem?_set_ne h1] at e2
        exact .inr ⟨j, es, h2, e2⟩
  have le : Le (hid (Own B σ δ) G) (hid (Own B (σ.set i (some (.ref a))) (δ.set i (.t a φ))) G) := hid_le (Le.refl G) sub
  have no : ¬ Own B (σ.set i (some (.ref a))) (δ.set i (.t a φ)) a := fun z => R.odom a (sub a z) na
  refine ⟨R'.ph.trans le, by rw [List.length_set, List.length_set]; exact R.len, R'.grow, R.dom, R'.tabs, fun j e h => ?_, fun j es h => ?_, fun j k es fs b h1 h2 h3 h4 => ?_, fun j x h => ?_, fun j b ψ h => ?_, R.scr⟩
  · rcases get_set_cases h with ⟨rfl, h1, h2⟩ | ⟨h1, h2⟩
    · cases h1
    · obtain ⟨u, q1, q2⟩ := R'.pers j e h2
      exact ⟨u, by rw [List.getElem?_set_ne h1]; exact q1, Le.dp le _ u q2⟩
  · rcases get_set_cases h with ⟨rfl, h1, h2⟩ | ⟨h1, h2⟩
    · cases h1
    · obtain ⟨b, ys, q1, q2, q3, q4⟩ := R'.own j es h2
      exact ⟨b, ys, by rw [List.getElem?_set_ne h1]; exact q1, q2, q3, Le.dps le _ ys q4⟩
  · rcases get_set_cases h1 with ⟨e1, z1, l1⟩ | ⟨n1, g1⟩
    · cases z1
    · rcases get_set_cases h2 with ⟨e2, z2, l2⟩ | ⟨n2, g2⟩
      · cases z2
      · rw [List.getElem?_set_ne n1] at h3
        rw [List.getElem?_set_ne n2] at h4
        exact R.uniq j k es fs b g1 g2 h3 h4
  · rcases get_set_cases h with ⟨_, z, _⟩ | ⟨n1, g1⟩
    · cases z
    · rw [List.getElem?_set_ne n1]
      exact R.val j x g1
  · rcases get_set_cases h with ⟨rfl, z, l1⟩ | ⟨n1, g1⟩
    · cases z
      refine ⟨List.getElem?_set_self (by rw [R.len]; exact l1), ?_⟩
      rw [hid_in no]
      exact ha
    · rw [List.getElem?_set_ne n1]
      exact ⟨(R'.trk j b ψ g1).1, le b _ (R'.trk j b ψ g1).2 fun ps z => by cases z⟩
theorem ds_row {i j : Nat} {x y : Str} {p1 p2 p3 p4 p5 p6 : Pos} {c : Int} {j1 j2 j3} (hc : 0 ≤ c ∧ c < 4294967296) (hN : X.N.Nodup) (hi : X.N[i]? = some x) (hx : Loc X.env.scope x) (hj : X.N[j]? = some y) (hv : Vis X.env.scope y)
    (hs : swapsWith (.List [.Name y p2, .Constant (.int 0) j1 p3, .Constant (.int c) j2 p4, .Constant (.int 0) j3 p5] p6) (some (.Name x p1)) pos.line X.env = pure false := by rfl)
    (hd : (y == ("__debug__" : Str)) = false := by decide) (hcd : (y == ("__classdict__" : Str)) = false := by decide)
    (hst : starEach [.Name y p2, .Constant (.int 0) j1 p3, .Constant (.int c) j2 p4, .Constant (.int 0) j3 p5] X.env = (false, eval (.Name y p2) X.env) :: starEach [.Constant (.int 0) j1 p3, .Constant (.int c) j2 p4, .Constant (.int 0) j3 p5] X.env := by rfl)
    (hf : X.fn x = true ∨ X.env.scope.names.lookup x = some .local := by first | exact .inl rfl | exact .inr rfl | assumption) :
    DS X C W (.Assign [.Name x p1] (.List [.Name y p2, .Constant (.int 0) j1 p3, .Constant (.int c) j2 p4, .Constant (.int 0) j3 p5] p6) pos) (sRow i j) := by
  refine ⟨_, ps_mkRow (ps_set hN hi hx (pe_lst (pa_cons (pe_var hj hv hd hcd) (pa_cons pe_int (pa_cons pe_int (pa_cons pe_int pa_nil))) hst)) hs hf), fun S0 H0 Pb σ H δ E R h => ?_⟩
  unfold sRow slotV at h
  split at h
  · rename_i v e
    have h0 := R.val j v e
    cases v with
    | ref a =>
      refine ⟨_, h0, by show 4 ≤ sizeLine; decide, fun p np => ?_⟩
      refine ⟨p, a, 0, c, 0, ⟨by omega, hc.1, hc.2⟩, upd_same, ?_⟩
      have h1 := h p trivial
      have e2 : upd (upd H p (.lst [.ref a, .int 0, .int c, .int 0])) p (.ext (RowP p a)) = upd H p (.ext (RowP p a)) := by
        funext b
        by_cases hb : b = p
        · rw [hb, upd_same, upd_same]
        · rw [upd_ne hb, upd_ne hb, upd_ne hb]
      show E.nx _ (upd (upd H p (.lst [.ref a, .int 0, .int c, .int 0])) p (.ext (RowP p a)))
      rw [e2]
      exact h1 _ _ (R.setT (Grow.new np) np upd_same)
    | _ => exact h.elim
  · exact h.elim
end
abbrev tIxC (K : PySem.W.Frag) (k : Int) : TE := tOp (rIx K) (tVar 0) (tC (.int k))
abbrev rInt1 : List V → Hp → VK → Prop := fun xs H Q => (∃ i, xs = [V.int i] ∧ Q (V.int i) H) ∨ ∃ k, xs = [V.bl k] ∧ Q (V.int (if k = true then 1 else 0)) H
abbrev tI1 (e : TE) : TE := tCB rInt1 (tCons e tNil)
abbrev rMod1 : R2 := rI (fun _ j => 0 < j) fun i j => .int (i % j)
abbrev rFdv1 : R2 := rI CDivW fun i j => .int (i / j)
abbrev rMul1 : R2 := rI CMulW fun i j => .int (i * j)
abbrev rAdd1 : R2 := rI0 fun i j => .int (i + j)
abbrev tPut (k : Int) (e : TE) : TS := tAsg e (gSub (tVar 0) (tC (.int k)) rSetL)
def t_taken (K : PySem.W.Frag) : TS :=
  tSeq (tIfS (tTest (tOp (rI0 fun i j => .bl (decide (j < i))) (tIxC K 3) (tC (.int 0)))) (tSeq (tAsg (tOp rMod1 (tI1 (tIxC K 3)) (tVar 1)) (gName 2)) (tSeq (tPut 3 (tOp rFdv1 (tIxC K 3) (tVar 1))) (tRet (tVar 2)))) tNext)
  (tSeq (tPut 1 (tOp rAdd1 (tIxC K 1) (tC (.int 1))))
  (tSeq (tIfS (tTest (tOp (rI0 fun i j => .bl (decide (j < i))) (tIxC K 1) (tCB (fun xs H Q => ∃ x n, xs = [x] ∧ LenV K x H n ∧ Q (.int n) H) (tCons (tIxC K 0) tNil))))
    (tSeq (tPut 2 (tOp rMod1 (tI1 (tOp rAdd1 (tOp rMul1 (tIxC K 2) (tC (.int 48271))) (tC (.int 11)))) (tC (.int 2147483647)))) (tRet (tOp rMod1 (tI1 (tOp rFdv1 (tIxC K 2) (tC (.int 7)))) (tVar 1)))) tNext)
  (tSeq (tAsg (tOp (rIx K) (tIxC K 0) (tOp (rI0 fun i j => .int (i - j)) (tIxC K 1) (tC (.int 1)))) (gName 3))
  (tSeq (tPut 2 (tOp rMod1 (tI1 (tOp rAdd1 (tOp rAdd1 (tOp rMul1 (tIxC K 2) (tC (.int 48271))) (tVar 3)) (tC (.int 11)))) (tC (.int 2147483647))))
  (tSeq (tIfS (tTest (tOp (rI0 fun i j => .bl (decide (j ≤ i))) (tVar 3) (tOp (rI CPow fun i j => .int (i ^ j.toNat)) (tC (.int 10)) (tC (.int 18))))) (tPut 3 (tOp rFdv1 (tVar 3) (tVar 1))) tNext)
  (tRet (tOp rMod1 (tI1 (tVar 3)) (tVar 1))))))))
section
variable {K : PySem.W.Frag} {r a : Addr} {ns : List Int} {m : Int} {σ : St} {G : Hp} {Q : VK} {D : Ends} {i j k : Int}
theorem ixc {k : Int} {v : V} {xs : List V} (h0 : σ[0]? = some (some (.ref r))) (hg : G r = some (.lst xs)) (e : atI xs k = some v) (q : Q v G) : tIxC K k σ G Q := ⟨_, h0, .inl ⟨r, xs, k, v, rfl, rfl, SqL.of hg, e, q⟩⟩
theorem put {k : Int} {n : Nat} {v : V} {xs : List V} (h0 : σ[0]? = some (some (.ref r))) (hg : G r = some (.lst xs)) (e : ixN xs.length k = some n) (q : D.nx σ (upd G r (.lst (xs.set n v)))) : gSub (tVar 0) (tC (.int k)) rSetL v σ G D.nx := ⟨_, h0, r, xs, k, n, rfl, rfl, hg, e, q⟩
theorem cMulRow {j : Int} (h0 : 0 ≤ j) (h1 : j < 4294967296) : CMulW j 48271 := by
  have h2 : j.natAbs.log2 < 32 := by
    rcases Nat.eq_zero_or_pos j.natAbs with z | z
    · rw [z]; decide
    · exact (Nat.log2_lt (by omega)).mpr (by show j.natAbs < 2 ^ 32; omega)
  have h3 : (48271 : Int).natAbs.log2 = 15 := by decide +kernel
  show j.natAbs.log2 + (48271 : Int).natAbs.log2 < 1000000
  rw [h3]
  omega
theorem cDiv30 {i m : Int} (h0 : 0 < m) (h1 : m < 1073741824) : CDivW i m := by
  refine ⟨h0, ?_⟩
  have : m.natAbs.log2 < 30 := (Nat.log2_lt (by omega)).mpr (by show m.natAbs < 2 ^ 30; omega)
  omega
def RowAt (G : Hp) (r a : Addr) : Prop := ∃ i j k, RowI i j ∧ G r = some (rowL a i j k)
theorem iftt {c : Prop} [Decidable c] {A B : Prop} (h1 : c → A) (h2 : ¬ c → B) : if decide c = true then A else B := by
  by_cases h : c
  · rw [if_pos (decide_eq_true h)]
    exact h1 h
  · rw [if_neg (by simpa using h)]
    exact h2 h
theorem taken_runs (hm : 0 < m ∧ m < 1073741824) (hi : RowI i j) (hG : G r = some (rowL a i j k)) (hS : ∀ G', (∀ b, b ≠ r → G' b = G b) → SqL K G' a (ns.map V.int))
    (hD : ∀ n G', 0 ≤ n → n < m → (∀ b, b ≠ r → G' b = G b) → RowAt G' r a → D.rt (.int n) G') : t_taken K D [some (.ref r), some (.int m), none, none] G := by
  have md : ∀ x : Int, 0 ≤ x % m ∧ x % m < m := fun x => ⟨Int.emod_nonneg _ (by omega), Int.emod_lt_of_pos _ hm.1⟩
  have m2 : ∀ x : Int, 0 ≤ x % 2147483647 ∧ x % 2147483647 < 4294967296 := fun x => ⟨Int.emod_nonneg _ (by decide), by have := Int.emod_lt_of_pos x (show (0 : Int) < 2147483647 by decide); omega⟩
  have hdv : ∀ x, CDivW x m := fun x => cDiv30 hm.1 hm.2
  have h7 : ∀ x, CDivW x 7 := fun x => cDiv30 (by decide) (by decide)
  have hp : CPow 10 18 := ⟨by decide, by decide, by decide +kernel⟩
  have hmul := cMulRow hi.2.1 hi.2.2
  have ne : ∀ {G' : Hp} {u : HO}, (∀ b, b ≠ r → G' b = G b) → ∀ b, b ≠ r → upd G' r u b = G b := fun h b hb => by rw [upd_ne hb]; exact h b hb
  refine ixc rfl hG rfl ⟨_, _, rfl, rfl, _, rfl, iftt (fun c => ?_) fun c => ?_⟩
  · refine ixc rfl hG rfl (.inl ⟨_, rfl, _, rfl, _, _, rfl, rfl, hm.1, ?_⟩)
    refine ixc rfl hG rfl ⟨_, rfl, _, _, rfl, rfl, hdv _, ?_⟩
    refine ⟨_, rfl, r, _, 3, 3, rfl, rfl, hG, rfl, ?_⟩
    exact ⟨_, rfl, hD _ _ (md k).1 (md k).2 (fun b hb => upd_ne hb) ⟨i, j, k / m, hi, upd_same⟩⟩
  · refine ixc rfl hG rfl ⟨_, _, rfl, rfl, ?_⟩
    refine ⟨_, rfl, r, _, 1, 1, rfl, rfl, hG, rfl, ?_⟩
    have n1 : ∀ b, b ≠ r → upd G r (rowL a (i + 1) j k) b = G b := fun b hb => upd_ne hb
    have g1 : upd G r (rowL a (i + 1) j k) r = some (rowL a (i + 1) j k) := upd_same
    have i1 : RowI (i + 1) j := ⟨by have := hi.1; omega, hi.2⟩
    revert n1 g1
    show (∀ b, b ≠ r → upd G r (.lst [.ref a, .int (i + 1), .int j, .int k]) b = G b) → upd G r (.lst [.ref a, .int (i + 1), .int j, .int k]) r = some (rowL a (i + 1) j k) → _
    show _ → _ → tSeq _ _ D _ (upd G r (.lst [.ref a, .int (i + 1), .int j, .int k]))
    generalize upd G r (.lst [.ref a, .int (i + 1), .int j, .int k]) = G1
    intro n1 g1
    refine ixc rfl g1 rfl (ixc rfl g1 rfl ⟨_, ns.length, rfl, ?_, _, _, rfl, rfl, _, rfl, iftt (fun c2 => ?_) fun c2 => ?_⟩)
    · exact .inl ⟨_, hS G1 n1, by rw [List.length_map]⟩
    · refine ixc rfl g1 rfl ⟨_, _, rfl, rfl, hmul, _, _, rfl, rfl, .inl ⟨_, rfl, _, _, rfl, rfl, (by show (0 : Int) < 2147483647; decide), ?_⟩⟩
      refine ⟨_, rfl, r, _, 2, 2, rfl, rfl, g1, rfl, ?_⟩
      refine ixc (xs := [.ref a, .int (i + 1), .int ((j * 48271 + 11) % 2147483647), .int k]) rfl upd_same rfl ⟨_, _, rfl, rfl, h7 _, .inl ⟨_, rfl, _, rfl, _, _, rfl, rfl, hm.1, ?_⟩⟩
      exact hD _ _ (md _).1 (md _).2 (ne n1) ⟨i + 1, _, k, ⟨i1.1, m2 _⟩, upd_same⟩
    · have c3 : i + 1 ≤ (ns.length : Int) := by omega
      obtain ⟨n, rfl⟩ : ∃ n : Nat, i = n := ⟨i.toNat, by have := hi.1; omega⟩
      have hn : n < ns.length := by omega
      have e1 : atI (ns.map V.int) ((n : Int) + 1 - 1) = some (.int ns[n]) := by
        have e0 : (n : Int) + 1 - 1 = n := by omega
        rw [e0]
        unfold atI ixN
        rw [if_pos (by omega), if_pos (by rw [List.length_map]; omega)]
        simp [hn]
      refine ixc rfl g1 rfl (ixc rfl g1 rfl ⟨_, _, rfl, rfl, .inl ⟨a, ns.map V.int, _, _, rfl, rfl, hS G1 n1, e1, ?_⟩⟩)
      refine ixc rfl g1 rfl ⟨_, _, rfl, rfl, hmul, _, rfl, _, _, rfl, rfl, _, _, rfl, rfl, .inl ⟨_, rfl, _, _, rfl, rfl, (by show (0 : Int) < 2147483647; decide), ?_⟩⟩
      refine ⟨_, rfl, r, _, 2, 2, rfl, rfl, g1, rfl, ?_⟩
      refine ⟨_, rfl, _, _, rfl, rfl, hp, _, _, rfl, rfl, _, rfl, iftt (fun c4 => ?_) fun c4 => ?_⟩
      · refine ⟨_, rfl, _, rfl, _, _, rfl, rfl, hdv _, ?_⟩
        refine ⟨_, rfl, r, [.ref a, .int (n + 1), .int ((j * 48271 + ns[n] + 11) % 2147483647), .int k], 3, 3, rfl, rfl, upd_same, rfl, ?_⟩
        refine ⟨_, rfl, .inl ⟨_, rfl, _, rfl, _, _, rfl, rfl, hm.1, ?_⟩⟩
        exact hD _ _ (md _).1 (md _).2 (ne (ne n1)) ⟨n + 1, _, _, ⟨i1.1, m2 _⟩, upd_same⟩
      · refine ⟨_, rfl, .inl ⟨_, rfl, _, rfl, _, _, rfl, rfl, hm.1, ?_⟩⟩
        exact hD _ _ (md _).1 (md _).2 (ne n1) ⟨n + 1, _, k, ⟨i1.1, m2 _⟩, upd_same⟩
end
theorem taken_ok {P : Program} {w : World} {C : Cs} {base : Heap} {x qual : Str} {params : Arguments} {body : List Stmt} {scope : Scope} {fa : Addr} {fd : FuncData} {x1 x2 x3 x4 : Str} {k : Nat}
    (F : FunD C.K x qual params body scope [] [] fa fd) (S : FnScope [x1, x2, x3, x4] [x1, x2] scope) (hb : ∀ (cdv : Value) (A : Around) (outer : List Env) (s : Shared) (H : Hp) (E : XK), PSs (cxOf (L2.CX P w) P w C.K C.mg base [x1, x2, x3, x4] qual scope fa cdv A outer s H E) body (t_taken C.K)) :
    FnOk P w C.K C.mg base (L2.CX P w) (k + 1) fa fd [x1, x2] (spD C 2 (fTaken C)) := by
  refine F.ok S spD_len fun cdv A outer s H vs Q E hr ⟨Sx, as, hn, dom, tabs, scr, ok, hw⟩ => ⟨tRow (t_taken C.K), pss_row (hb cdv A outer s H E), ?_⟩
  unfold fTaken at hw
  split at hw
  · rename_i r φ m
    obtain ⟨⟨⟨q, hq, rfl, hl⟩, h1, h2⟩, hk⟩ := hw
    match vs, ok with
    | [v, u], ⟨d1, d2, _⟩ =>
      obtain ⟨rfl, hr1⟩ := d1
      have d2 : Dp C.K (hid Sx H) u (.int m) := d2
      cases d2
      have hH := (of_hid hr1).2
      refine ⟨r, q.1, hH, fun i j k hi => ?_⟩
      refine taken_runs (ns := q.2) (i := i) (j := j) (k := k) ⟨h1, h2⟩ hi upd_same (fun G' hG' => ?_) fun n G' n0 nm hG' hR => ?_
      · rcases scr.1 q hq with z | z
        · refine .inl ?_
          rcases z with z | ⟨o, z⟩
          · exact .inl (by rw [hG' _ (ne_of z hH fun y => by cases y), upd_ne (ne_of z hH fun y => by cases y)]; exact z)
          · exact .inr ⟨o, by rw [hG' _ (ne_of z hH fun y => by cases y), upd_ne (ne_of z hH fun y => by cases y)]; exact z⟩
        · exact .inr z
      · obtain ⟨i', j', k', hi', hG⟩ := hR
        have e : upd G' r (.ext (RowP r q.1)) = H := by
          funext b
          by_cases hb : b = r
          · rw [hb, upd_same, hH]
          · rw [upd_ne hb, hG' b hb, upd_ne hb]
        refine ⟨i', j', k', hi', hG, ?_⟩
        rw [e]
        exact hk (.int n) ⟨n, rfl, n0, nm⟩ (.int n) H (Grow.refl H) (.int n)
    | [], ok => exact ok.elim
    | [_], ok => exact ok.2.elim
    | _ :: _ :: _ :: _, ok => exact ok.2.2.elim
  · exact hw.elim
end Tr

namespace Tr
open PySem PySem.Spec L2
variable [ProtC]

structure Dn (P : Program) (w : World) (C : Cs) (base : Heap) (x : Str) (n k : Nat) (F : List Ar → Wp D) : Prop where
  ex : ∃ (fa : Addr) (fd : FuncData) (ps : List Str), C.mg x = some (.ref fa) ∧ PySem.W.keepIn C.K (.ref fa) = true ∧ Binds C.K fd ps [] ∧ FnOk P w C.K C.mg base (L2.CX P w) k fa fd ps (spD C n F)
section
variable {X : Cx} {C : Cs} {W : WX} {pos p : Pos} {e : Expr} {es : List Expr} {r : AF} {x : Str} {k k' n : Nat} {F : List Ar → Wp D}
theorem de_callN (hK : C.K = X.K) (hmg : C.mg = X.mg) (tk : Takes X W) (G : Dn X.prog X.w C X.base x n k F) (hr : Room k' X.A) (hk : k ≤ k') (hg : Gl X x) (ha : DA X C W (e :: es) r)
    (hdb : (x == ("__debug__" : Str)) = false := by decide) (he : starEach (e :: es) X.env = (false, eval e X.env) :: starEach es X.env := by rfl) (hpl : (backTo pos (starEach es X.env)).any (·.1) = false := by rfl) :
    DE X C W (.Call (.Name x p) (e :: es) [] pos) (dCall n F r) := by
  obtain ⟨fa, fd, ps, h1, h2, h3, h4⟩ := G.ex
  rw [hK, hmg] at h4
  rw [hK] at h2 h3
  rw [hmg] at h1
  exact de_call hK tk h4 (hr.mono hk) hg h1 h2 h3 ha hdb he hpl
variable {a b : Expr} {f g : DF}
theorem dt_lt (ha : DE X C W a f) (hb : DE X C W b g) : DT X C W (.Compare a [.Lt] [b] pos) (tBv (d2 dLt f g)) := dt_cmp op_lt (o2_0 fun _ _ _ => .bl _) (nomark _) ha hb
theorem dt_gt (ha : DE X C W a f) (hb : DE X C W b g) : DT X C W (.Compare a [.Gt] [b] pos) (tBv (d2 dGt f g)) := dt_cmp op_gt (o2_0 fun _ _ _ => .bl _) (nomark _) ha hb
theorem dt_eq (hK : C.K = X.K) (hr : Room k X.A) (ha : DE X C W a f) (hb : DE X C W b g) : DT X C W (.Compare a [.Eq] [b] pos) (tBv (d2 dEq f g)) := dt_cmp (op_eqD hr.units) (by rw [← hK]; exact o2_eq) (nomark _) ha hb
theorem dt_ne (hK : C.K = X.K) (hr : Room k X.A) (ha : DE X C W a f) (hb : DE X C W b g) : DT X C W (.Compare a [.NotEq] [b] pos) (tBv (d2 dNe f g)) := dt_cmp (op_neD hr.units) (by rw [← hK]; exact o2_ne) (nomark _) ha hb
end
section
variable {P : Program} {w : World} {C : Cs} {base : Heap} {x qual : Str} {params : Arguments} {body : List Stmt} {scope : Scope} {fa : Addr} {fd : FuncData} {N ps : List Str} {k : Nat} {bd : SF}
abbrev cxN (P : Program) (w : World) (C : Cs) (base : Heap) (N : List Str) (qual : Str) (scope : Scope) (fa : Addr) (cdv : Value) (A : Around) (outer : List Env) (s : Shared) (H : Hp) (E : XK) : Cx := cxOf (L2.CX P w) P w C.K C.mg base N qual scope fa cdv A outer s H E
abbrev wxN (E : XK) : WX := fun cls d _ H' => E cls d H'
theorem takesN {cdv : Value} {A : Around} {outer : List Env} {s : Shared} {H : Hp} {E : XK} : Takes (cxN P w C base N qual scope fa cdv A outer s H E) (wxN E) := takes_of rfl rfl rfl rfl
theorem ownsN {cdv : Value} {A : Around} {outer : List Env} {s : Shared} {H : Hp} {E : XK} : PassesOwn (model P w) (cxN P w C base N qual scope fa cdv A outer s H E).A (cxN P w C base N qual scope fa cdv A outer s H E).env (cxN P w C base N qual scope fa cdv A outer s H E).xe :=
  passes_of (X := cxN P w C base N qual scope fa cdv A outer s H E) rfl
theorem takes0 {X : Cx} : Takes X W0 := LamX.takes0
theorem Dn.mk' (F : FunD C.K x qual params body scope [] [] (He.ga C.K x) fd) (S : FnScope N ps scope) (hg : C.mg x = some (.ref (He.ga C.K x))) (hn : ps.length = n)
    (hbi : ∀ (kV doc pm : Value) (an : Option Addr) (cdv ct : Value) (us : List Value), us.length = ps.length → bindArgs (PySem.W.fnOf x qual params body scope .none kV doc pm an cdv ct) ⟨us, []⟩ = pure (ps.zip us))
    (hb : ∀ (A : Around) (outer : List Env) (s : Shared) (H : Hp) (E : XK), Room k (A.deeper (PyProof.Rows.envOfC qual scope s.heap.objs.size (He.ga C.K x) (.ref (He.codeOf C.K (x, none))))) →
      DSs (cxN P w C base N qual scope (He.ga C.K x) (.ref (He.codeOf C.K (x, none))) A outer s H E) C (wxN E) body bd) :
    Dn P w C base x n (k + 1) (dRun N.length bd) := by
  refine ⟨_, fd, ps, hg, F.kp, F.bindsN hbi, ?_⟩
  subst hn
  obtain ⟨oc, od, dV, kV, doc, pm, an, cdv, ct, osl, rfl, lk, hcd, _, _⟩ := F.ex
  obtain ⟨c, hc⟩ := He.codeIn_ref hcd
  have ec : He.codeOf C.K (x, none) = c := He.codeOf_eq (p := (x, none)) lk hc
  subst hc
  rw [ec] at hb
  refine fn_of lk hcd S spD_len fun A outer s H vs Q E hr ⟨Sx, as, hn, dom, tabs, scr, ok, hw⟩ => ?_
  obtain ⟨t, p, q⟩ := hb A outer s H E hr
  refine ⟨t, p, q Sx H (hid Sx H) (L2.start N vs) H (dStart N.length as) _ (start_rep dom tabs scr ok) ((bd (dStart N.length as)).mono (fun o ho => ?_) (fun y hy cls dc σ G g ex => hy cls dc G g ex) hw)⟩
  cases o with
  | nx δ' => exact fun σ' H' R' => ho .non H' R'.grow .non
  | rt d => exact ho
  | bk δ' => exact ho.elim
  | ct δ' => exact ho.elim
theorem Dn.taken {x1 x2 x3 x4 : Str} (F : FunD C.K x qual params body scope [] [] (He.ga C.K x) fd) (S : FnScope [x1, x2, x3, x4] [x1, x2] scope) (hg : C.mg x = some (.ref (He.ga C.K x)))
    (hbi : ∀ (kV doc pm : Value) (an : Option Addr) (cdv ct : Value) (us : List Value), us.length = 2 → bindArgs (PySem.W.fnOf x qual params body scope .none kV doc pm an cdv ct) ⟨us, []⟩ = pure ([x1, x2].zip us))
    (hb : ∀ (cdv : Value) (A : Around) (outer : List Env) (s : Shared) (H : Hp) (E : XK), PSs (cxN P w C base [x1, x2, x3, x4] qual scope (He.ga C.K x) cdv A outer s H E) body (t_taken C.K)) :
    Dn P w C base x 2 (k + 1) (fTaken C) := ⟨_, fd, [x1, x2], hg, F.kp, F.bindsN (ps := [x1, x2]) hbi, taken_ok F S hb⟩
end
def dNeg : D → Wp D
  | .int i => .pure (.int (-i))
  | _ => .stuck
section
variable {X : Cx} {C : Cs} {W : WX} {pos : Pos} {a : Expr} {f : DF}
theorem de_neg (ha : DE X C W a f) : DE X C W (.UnaryOp .USub a pos) (d1 dNeg f) := by
  obtain ⟨t, pt, q⟩ := ha
  refine ⟨_, pe_un un_neg pt, fun S0 H0 Pb σ H δ Q R h => q S0 H0 Pb σ H δ _ R ((f δ).mono (fun d h v G g dp => ?_) (fun _ z => z) h)⟩
  cases dp with
  | int i => exact ⟨i, rfl, h _ G g (.int _)⟩
  | _ => exact h.elim
theorem de_globI {x : Str} {i : Int} (hg : Gl X x) (hm : ∃ t, X.mg x = some (.int i t)) (hd : (x == ("__debug__" : Str)) = false := by decide) : DE X C W (.Name x pos) (dC (.int i)) := by
  obtain ⟨t, hm⟩ := hm
  exact de_glob (v := .int i) hg hm ⟨t, rfl⟩ (fun _ => .int i) hd
end
end Tr

namespace Tr
open PySem PySem.Spec L2
variable [ProtC]

section
variable {X : Cx} {C : Cs} {W : WX} {pos : Pos} {i j : Nat} {x y : Str} {a b : Expr} {px py pt : Pos} {kt k2 pt2} {f : DF} {fl fl2 : De → Wp (List D)}
def sParDO (i j : Nat) (f : DF) (fl : De → Wp (List D)) : SF := fun δ => (f δ).bind fun d => (fl δ).bind fun ds => .pure (.nx ((δ.set j (.o ds)).set i (.p d)))
def sParOD (i j : Nat) (fl : De → Wp (List D)) (f : DF) : SF := fun δ => (fl δ).bind fun ds => (f (dWipe δ [])).nox.bind fun d => .pure (.nx ((δ.set i (.o ds)).set j (.p d)))
theorem ds_parOD (hc : X.calm = true) (hN : X.N.Nodup) (hi : X.N[i]? = some x) (hj : X.N[j]? = some y) (hij : i ≠ j)
    (hx : X.env.scope.names.lookup x = some .local) (hy : X.env.scope.names.lookup y = some .local) (ha : DN X C W a fl) (hb : DE X C W b f) (hw : swappedStores [.Tuple [.Name x px, .Name y py] kt pt] (.Tuple [a, b] k2 pt2) X.env = pure (some [x, y]))
    (hs : swapsWithSole [.Tuple [.Name x px, .Name y py] kt pt] (.Tuple [a, b] k2 pt2) pos.line X.env = pure false := by rfl)
    (h1 : starEach [a, b] X.env = (false, eval a X.env) :: starEach [b] X.env := by rfl) (h2 : starEach [b] X.env = (false, eval b X.env) :: starEach [] X.env := by rfl) :
    DS X C W (.Assign [.Tuple [.Name x px, .Name y py] kt pt] (.Tuple [a, b] k2 pt2) pos) (sParOD i j fl f) := by
  obtain ⟨t, p, q⟩ := ha
  obtain ⟨u, p2, q2⟩ := hb
  refine ⟨_, ps_par hc hN hi hj hij hx hy (pa_cons p (pa_cons p2 pa_nil h2) h1) hw hs, fun S0 H0 Pb σ H δ E R h => q S0 H0 Pb σ H δ _ R ((fl δ).mono (fun ds h l xs G g na hl dps => ?_) (fun _ z => z.ew R) h)⟩
  have RB := R.blk [] g na hl
  have h : (f (dWipe δ [])).run _ (fun _ => False) := h
  refine q2 _ _ _ σ G (dWipe δ []) _ RB ((f (dWipe δ [])).mono (fun d h v G2 g2 dp => ?_) (fun _ z => z.elim) h)
  refine ⟨_, _, rfl, ?_⟩
  have R2 := (R.setO (i := i) g na hl dps).gr g2
  refine h _ G2 (R2.setP (i := j) (Le.dp (hid_le (Le.refl G2) fun c z => ?_) d v dp))
  rcases z with z | ⟨m, es, e1, e2⟩
  · exact .inl (.inl (.inl z))
  · rcases get_set_cases e1 with ⟨e3, e4, e5⟩ | ⟨e3, e4⟩
    · subst e3
      rw [List.getElem?_set_self (by rw [R.len]; exact e5)] at e2
      cases e2
      exact .inl (.inr rfl)
    · rw [List.getElem?_set_ne e3] at e2
      exact .inl (.inl (.inr ⟨m, es, e4, e2⟩))
end
section
variable {X : Cx} {C : Cs} {W : WX} {pos : Pos} {a b : Expr} {f g : DF}
theorem dt_is (ha : DE X C W a f) (hb : DE X C W b g) : DT X C W (.Compare a [.Is] [b] pos) (tBv (d2 dIs f g)) := by
  refine dt_cmp op_isN (fun x y H d e Q S0 H0 Pb σ δ w R dx dy h => ?_) (nomark _) ha hb
  unfold dIs at h
  split at h
  · cases dy
    refine ⟨rfl, ?_⟩
    rw [isNoneD_v dx]
    exact h _ H (Grow.refl H) (.bl _)
  · exact h.elim
end
end Tr

namespace Tr
open PySem PySem.Spec L2
variable [ProtC]

section
variable {P : Program} {w : World} {C : Cs} {base : Heap} {x qual : Str} {params : Arguments} {body : List Stmt} {scope : Scope} {fd : FuncData} {N ps : List Str} {k n : Nat} {bd : SF}
theorem fnL (F : FunD C.K x qual params body scope [] [] (He.ga C.K x) fd) (S : FnScope N ps scope) (hn : ps.length = n)
    (hb : ∀ (A : Around) (outer : List Env) (s : Shared) (H : Hp) (E : XK), Room k (A.deeper (PyProof.Rows.envOfC qual scope s.heap.objs.size (He.ga C.K x) (.ref (He.codeOf C.K (x, none))))) →
      DSs (cxN P w C base N qual scope (He.ga C.K x) (.ref (He.codeOf C.K (x, none))) A outer s H E) C (wxN E) body bd) :
    FnOk P w C.K C.mg base (L2.CX P w) (k + 1) (He.ga C.K x) fd ps (spD C n (dRun N.length bd)) := by
  subst hn
  obtain ⟨oc, od, dV, kV, doc, pm, an, cdv, ct, osl, rfl, lk, hcd, _, _⟩ := F.ex
  obtain ⟨c, hc⟩ := He.codeIn_ref hcd
  have ec : He.codeOf C.K (x, none) = c := He.codeOf_eq (p := (x, none)) lk hc
  subst hc
  rw [ec] at hb
  refine fn_of lk hcd S spD_len fun A outer s H vs Q E hr ⟨Sx, as, hn, dom, tabs, scr, ok, hw⟩ => ?_
  obtain ⟨t, p, q⟩ := hb A outer s H E hr
  refine ⟨t, p, q Sx H (hid Sx H) (L2.start N vs) H (dStart N.length as) _ (start_rep dom tabs scr ok) ((bd (dStart N.length as)).mono (fun o ho => ?_) (fun y hy cls dc σ G g ex => hy cls dc G g ex) hw)⟩
  cases o with
  | nx δ' => exact fun σ' H' R' => ho .non H' R'.grow .non
  | rt d => exact ho
  | bk δ' => exact ho.elim
  | ct δ' => exact ho.elim
end
def mkC (K : PySem.W.Frag) (mg : Str → Option Value) (tg : List Addr) (np : ∀ P ∈ tg, ∀ q, ¬ ProtC.p P q) (tl : List (Addr × Str)) (pl : ∀ p ∈ tl, ProtC.p p.1 p.2) (a : Addr) (ns : List Int) : Cs := ⟨K, mg, tg, [(a, ns)], np, tl, pl, none⟩
theorem lawAt {l : PySem.W.OpenLaw} {w : World} {K : PySem.W.Frag} {mg : Str → Option Value} {fa : Addr} {h : Heap} {k : Nat} {F : Cs → List Ar → Wp D} {cs : List (Addr × Addr)} {x : Str} {fd : FuncData} {tg : List Addr} {tl : List (Addr × Str)} (np : ∀ P ∈ tg, ∀ q, ¬ ProtC.p P q) (pl : ∀ p ∈ tl, ProtC.p p.1 p.2) (htg : ∀ P ∈ tg, ∃ p ∈ cs, p.2 = P) (htl : ∀ q ∈ tl, ∃ p ∈ cs, p.2 = q.1)
    (hT : ∀ p ∈ cs, h.get? p.2 = some { cls := .none, data := .fields #[] }) (nT : ∀ p ∈ cs, K.lookup p.2 = none) (hC : ∀ p ∈ cs, PySem.W.CodeHd h p.1 p.2) (hb : ∀ (s : Shared) (u : Value), BindsTo s fd ⟨[u], []⟩ [(x, u)])
    (hF : ∀ base : Heap, K.In base → base.Ns mainGlobals mg → (∀ p ∈ cs, LamX.TabB base mg p.1 p.2) → ∀ a ns, FnOk l.prog w K mg base (L2.CX l.prog w) k fa fd [x] (spD (mkC K mg tg np tl pl a ns) 1 (F (mkC K mg tg np tl pl a ns))))
    (hl : ∀ (C : Cs) (a : Addr) (ns : List Int), (a, ns) ∈ C.Z → ns.length ≤ 63 → (∀ z ∈ ns, Builtin.Int.intBits z ≤ 1048576) → (F C [.v (.ref a)]).run (fun d => d = .bool true) (fun _ => False)) :
    LamX.LawAtS l w K (L2.CX l.prog w) k 63 x mg fa h := by
  refine ⟨fd, cs, fun vs H Q E => ∃ a ns, vs = [.ref a] ∧ spD (mkC K mg tg np tl pl a ns) 1 (F (mkC K mg tg np tl pl a ns)) vs H Q E, hT, nT, hC, hb, fun H a ns h1 h2 h3 h4 => ⟨a, ns, rfl, fun _ => False, [.v (.ref a)], rfl, fun b z => z.elim, fun P hP => ?_, ⟨fun q hq => ?_, fun q hq => ?_, fun o ho => nomatch ho⟩, ⟨rfl, trivial⟩, ?_⟩, fun base kb ns tb => ⟨fun vs H Q E ⟨a, ns, e, _⟩ => by rw [e]; rfl, fun A outer s H args us vs Q E hr e0 hbt hv ⟨a, ns, _, hs⟩ => ?_⟩⟩
  · obtain ⟨p, hp, rfl⟩ := htg P hP
    exact ⟨#[], h3 p hp, trivial⟩
  · cases List.mem_singleton.mp hq
    exact h4
  · obtain ⟨p, hp, e⟩ := htl q hq
    exact LamX.TabS.nil (by rw [← e]; exact h3 p hp)
  · refine (F (mkC K mg tg np tl pl a ns) [.v (.ref a)]).mono (fun d e v G _ dp => ?_) (fun _ z => z.elim) (hl (mkC K mg tg np tl pl a ns) a ns (List.mem_cons_self ..) h1 h2)
    subst e
    cases dp
    rfl
  · exact (hF base kb ‹_› tb a ns).run A outer s H args us vs Q E hr e0 hbt hv hs
theorem tabGx {base : Heap} {mg : Str → Option Value} {c P : Addr} (t : LamX.TabB base mg c P) : GxR.TabB base mg c P := ⟨t.code, t.bm, t.gP⟩
theorem noOut {P : Program} {w : World} {H : Hp} {s : Shared} {e : Value} {s' : Shared} (h : L2.CX P w [] H s (fun _ _ _ => False) e s') : False := by
  obtain ⟨_, _, _, _, _, _, _, _, _, _, _, _, z⟩ := h
  exact z
def dNotV (f : DF) : DF := fun δ => (tT f δ).bind fun b => .pure (.bool (!b))
def tNotV (f : TF) : TF := fun δ => (f δ).bind fun b => .pure (!b)
def sFz (i : Nat) (F : SF) : SF := fun δ => F (fz i δ)
def sDead : SF := fun _ => .stuck
def sRetN : SF := fun _ => .pure (.rt .none)
def dChain (F G : D → D → Wp D) (f g h : DF) : DF := fun δ => (f δ).bind fun d => (g δ).bind fun e => (F d e).bind fun z => (asB z).bind fun k => if k then (h δ).bind fun x => G e x else .pure (.bool false)
theorem roomG {X : Cx} {k : Nat} {env : Env} (r : Room (k + 1) X.A) : Room k ((gA X).deeper env) := ⟨r.hd, by have := r.dp; show X.A.depth + 1 + 3 * k + 5 < _; omega, by have := r.un; show X.A.units + 1 + 1 + 3 + 16 * k + 200 < _; omega⟩
end Tr

namespace Tr
open PySem PySem.Spec L2
variable [ProtC]

section
variable {A : Type} {k : D → Prop} {kb : Bool → Prop} {ko : Out → Prop} {w : Exn → Prop} {δ : De} {i j n : Nat} {f g h : DF} {t u : TF} {F G : SF} {d e : D} {as : List Ar} {r : AF}
@[simp] theorem slotP_p : slotP (some (.p d)) = .pure d := rfl
@[simp] theorem slotO_o {ds : List D} : slotO (some (.o ds)) = .pure ds := rfl
@[simp] theorem slotT_t {a : Addr} {φ : Heap → Prop} : slotT (some (.t a φ)) = .pure (a, φ) := rfl
@[simp] theorem slotV_v {x : V} : slotV (some (.v x)) = .pure x := rfl
@[simp] theorem rw_dV : dV i δ = slotP δ[i]? := rfl
@[simp] theorem rw_dC : dC d δ = .pure d := rfl
@[simp] theorem rw_d2 {B : D → D → Wp D} : d2 B f g δ = (f δ).bind fun d => (g δ).bind fun e => B d e := rfl
@[simp] theorem rw_d1 {B : D → Wp D} : d1 B f δ = (f δ).bind B := rfl
@[simp] theorem rw_int2 {c : Int → Int → Prop} {q : Int → Int → D} {a b : Int} : dInt2 c q (.int a) (.int b) = .need (c a b) (.pure (q a b)) := rfl
@[simp] theorem rw_addI {a b : Int} : dAdd (.int a) (.int b) = .pure (.int (a + b)) := rfl
@[simp] theorem rw_addT {a b : List D} : dAdd (.tuple a) (.tuple b) = .need (a.length + b.length ≤ sizeLine) (.pure (.tuple (a ++ b))) := rfl
@[simp] theorem rw_addL {a b : List D} : dAdd (.list a) (.list b) = .need (a.length + b.length ≤ sizeLine) (.pure (.list (a ++ b))) := rfl
@[simp] theorem rw_neg {a : Int} : dNeg (.int a) = .pure (.int (-a)) := rfl
@[simp] theorem rw_eq : dEq d e = .need (SeqAt.shaped d = true ∧ SeqAt.shaped e = true) (.pure (.bool (PyData.eqv d e))) := rfl
@[simp] theorem rw_ne : dNe d e = .need (SeqAt.shaped d = true ∧ SeqAt.shaped e = true) (.pure (.bool (!PyData.eqv d e))) := rfl
@[simp] theorem rw_is : dIs d .none = .pure (.bool (isNoneD d)) := rfl
@[simp] theorem rw_isNot : dIsNot d .none = .pure (.bool (!isNoneD d)) := rfl
@[simp] theorem rw_asB {b : Bool} : asB (.bool b) = .pure b := rfl
@[simp] theorem rw_tBv : tBv f δ = (f δ).bind asB := rfl
@[simp] theorem rw_tT : tT f δ = (f δ).bind truD := rfl
@[simp] theorem rw_truB {b : Bool} : truD (.bool b) = .pure b := rfl
@[simp] theorem rw_truI {a : Int} : truD (.int a) = .pure (a != 0) := rfl
@[simp] theorem rw_truL {ds : List D} : truD (.list ds) = .pure (!ds.isEmpty) := rfl
@[simp] theorem rw_truT {ds : List D} : truD (.tuple ds) = .pure (!ds.isEmpty) := rfl
@[simp] theorem rw_tAnd2 : tAnd2 t u δ = (t δ).bind fun b => if b then u δ else .pure false := rfl
@[simp] theorem rw_tOr2 : tOr2 t u δ = (t δ).bind fun b => if b then .pure true else u δ := rfl
@[simp] theorem rw_tNotV : tNotV t δ = (t δ).bind fun b => .pure (!b) := rfl
@[simp] theorem rw_dNotV : dNotV f δ = (tT f δ).bind fun b => .pure (.bool (!b)) := rfl
@[simp] theorem rw_dAndV : dAndV f g δ = (f δ).bind fun d => (truD d).bind fun b => if b then g δ else .pure d := rfl
@[simp] theorem rw_dOrV : dOrV f g δ = (f δ).bind fun d => (truD d).bind fun b => if b then .pure d else g δ := rfl
@[simp] theorem rw_dIf : dIf t f g δ = (t δ).bind fun b => if b then f δ else g δ := rfl
@[simp] theorem rw_dChain {B B' : D → D → Wp D} : dChain B B' f g h δ = (f δ).bind fun d => (g δ).bind fun e => (B d e).bind fun z => (asB z).bind fun k => if k then (h δ).bind fun x => B' e x else .pure (.bool false) := rfl
@[simp] theorem rw_aNil : aNil δ = .pure [] := rfl
@[simp] theorem rw_aCons : aCons f r δ = (f δ).bind fun d => (r δ).bind fun as => .pure (.d d :: as) := rfl
@[simp] theorem rw_aTrk : aTrk i r δ = (slotT δ[i]?).bind fun q => (r δ).bind fun as => .pure (.t q.1 q.2 :: as) := rfl
@[simp] theorem rw_aVal : aVal i r δ = (slotV δ[i]?).bind fun v => (r δ).bind fun as => .pure (.v v :: as) := rfl
@[simp] theorem rw_allD0 : allD [] = .pure [] := rfl
@[simp] theorem rw_allD1 : allD (.d d :: as) = (allD as).bind fun ds => .pure (d :: ds) := rfl
@[simp] theorem rw_dTup : dTup r δ = (r δ).bind fun as => (allD as).bind fun ds => .need (ds.length ≤ sizeLine) (.pure (.tuple ds)) := rfl
@[simp] theorem rw_dLst : dLst r δ = (r δ).bind fun as => (allD as).bind fun ds => .need (ds.length ≤ sizeLine) (.pure (.list ds)) := rfl
@[simp] theorem rw_nLst : nLst r δ = (r δ).bind fun as => (allD as).bind fun ds => .need (ds.length ≤ sizeLine) (.pure ds) := rfl
@[simp] theorem rw_dNl {fl : De → Wp (List D)} : dNl fl δ = (fl δ).bind fun ds => .pure (.list ds) := rfl
@[simp] theorem optW_some {a : A} : optW (some a) = .pure a := rfl
@[simp] theorem rw_ixL {ds : List D} {a : Int} : dIx (.list ds) (.int a) = optW (atI ds a) := rfl
@[simp] theorem rw_ixT {ds : List D} {a : Int} : dIx (.tuple ds) (.int a) = optW (atI ds a) := rfl
@[simp] theorem rw_dSl {l hh : OF} : dSl f l hh δ = (f δ).bind fun d => (l δ).bind fun lo => (hh δ).bind fun hi => dCut lo hi d := rfl
@[simp] theorem rw_oNone : oNone δ = .pure none := rfl
@[simp] theorem rw_oSome : oSome f δ = (f δ).bind asI := rfl
@[simp] theorem rw_asI {a : Int} : asI (.int a) = .pure (some a) := rfl
@[simp] theorem rw_asI1 {a : Int} : asI1 (.int a) = .pure a := rfl
@[simp] theorem rw_cutT {ds : List D} {lo hi : Option Int} : dCut lo hi (.tuple ds) = .pure (.tuple (cutD ds lo hi)) := rfl
@[simp] theorem rw_cutL {ds : List D} {lo hi : Option Int} : dCut lo hi (.list ds) = .pure (.list (cutD ds lo hi)) := rfl
@[simp] theorem rw_dCB {B : List D → Wp D} : dCB B r δ = (r δ).bind fun as => (allD as).bind B := rfl
@[simp] theorem rw_gcd {a b : Int} : bGcd [.int a, .int b] = .pure (.int ((Nat.gcd a.natAbs b.natAbs : Nat) : Int)) := rfl
@[simp] theorem rw_lenL {ds : List D} : bLen [.list ds] = .pure (.int ds.length) := rfl
@[simp] theorem rw_lenT {ds : List D} : bLen [.tuple ds] = .pure (.int ds.length) := rfl
@[simp] theorem rw_intI {a : Int} : bInt [.int a] = .pure (.int a) := rfl
@[simp] theorem rw_abs {a : Int} : bAbs [.int a] = .pure (.int (if a < 0 then -a else a)) := rfl
@[simp] theorem rw_min2 {a b : Int} : bMin2 [.int a, .int b] = .pure (.int (if b < a then b else a)) := rfl
@[simp] theorem rw_max2 {a b : Int} : bMax2 [.int a, .int b] = .pure (.int (if b > a then b else a)) := rfl
@[simp] theorem rw_isi {T : String} : dIsi T f δ = (f δ).bind fun d => (optW (isTy T d)).bind fun b => .pure (.bool b) := rfl
@[simp] theorem rw_isiT {Ts : List String} : dIsiT Ts f δ = (f δ).bind fun d => (optW (isTys Ts d)).bind fun b => .pure (.bool b) := rfl
@[simp] theorem rw_call {M : List Ar → Wp D} : dCall n M r δ = (r δ).bind fun as => .need (as.length = n) (M as) := rfl
@[simp] theorem rw_seq : sSeq F G δ = (F δ).bind fun o => match o with
  | .nx δ' => G δ'
  | o => .pure o := rfl
@[simp] theorem rw_set : sSet i f δ = (f δ).bind fun d => .pure (.nx (δ.set i (.p d))) := rfl
@[simp] theorem rw_setO {fl : De → Wp (List D)} : sSetO i fl δ = (fl δ).bind fun ds => .pure (.nx (δ.set i (.o ds))) := rfl
@[simp] theorem rw_app : sApp i f δ = (slotO δ[i]?).bind fun ds => (f δ).bind fun d => .need (ds.length < sizeLine) (.pure (.nx (δ.set i (.o (ds ++ [d]))))) := rfl
@[simp] theorem rw_ret : sRet f δ = (f δ).bind fun d => .pure (.rt d) := rfl
@[simp] theorem rw_retN : sRetN δ = .pure (.rt .none) := rfl
@[simp] theorem rw_if : sIf t F G δ = (t δ).bind fun b => if b then F δ else G δ := rfl
@[simp] theorem rw_next : sNext δ = .pure (.nx δ) := rfl
@[simp] theorem rw_drop : sDrop f δ = (f δ).bind fun _ => .pure (.nx δ) := rfl
@[simp] theorem rw_sFz : sFz i F δ = F (fz i δ) := rfl
@[simp] theorem rw_fzo {ds : List D} (h : δ[i]? = some (.o ds)) : fz i δ = δ.set i (.p (.list ds)) := by unfold fz; rw [h]
@[simp] theorem rw_fzp (h : δ[i]? = some (.p d)) : fz i δ = δ := by unfold fz; rw [h]
@[simp] theorem rw_asg {q : BF} : sAsg f q δ = (f δ).bind fun d => (optW (q d δ)).bind fun δ' => .pure (.nx δ') := rfl
@[simp] theorem rw_bName : bName i d δ = some (δ.set i (.p d)) := rfl
@[simp] theorem rw_parDO {fl : De → Wp (List D)} : sParDO i j f fl δ = (f δ).bind fun d => (fl δ).bind fun ds => .pure (.nx ((δ.set j (.o ds)).set i (.p d))) := rfl
@[simp] theorem rw_for {fi : De → Wp (List D)} {q : BF} : sFor fi q F δ = (fi δ).bind fun ds => sLoop q F ds δ := rfl
@[simp] theorem rw_loop0 {q : BF} : sLoop q F [] δ = .pure (.nx δ) := rfl
theorem rw_loop1 {q : BF} {ds : List D} : sLoop q F (d :: ds) δ = (optW (q d δ)).bind fun δ1 => (F δ1).bind fun o => match o with
    | .nx δ' => sLoop q F ds δ'
    | .ct δ' => sLoop q F ds δ'
    | .bk δ' => .pure (.nx δ')
    | .rt d => .pure (.rt d) := rfl
@[simp] theorem rw_iSeqD : iSeqD f δ = (f δ).bind seqD := rfl
@[simp] theorem rw_seqL {ds : List D} : seqD (.list ds) = .pure ds := rfl
@[simp] theorem rw_seqT {ds : List D} : seqD (.tuple ds) = .pure ds := rfl
@[simp] theorem rw_rg1 : iRgD1 f δ = (f δ).bind fun d => (asI1 d).bind fun j => .need (lo62 j) (.pure (rgD 0 j.toNat)) := rfl
@[simp] theorem rw_rg2 : iRgD2 f g δ = (f δ).bind fun d => (g δ).bind fun e => (asI1 d).bind fun i => (asI1 e).bind fun j => .need (lo62 i ∧ lo62 j) (.pure (rgD i (j - i).toNat)) := rfl
@[simp] theorem rw_dRun {bd : SF} : dRun n bd as = (bd (dStart n as)).bind fun o => match o with
  | .rt d => .pure d
  | .nx _ => .pure .none
  | _ => .stuck := rfl
@[simp] theorem run_if {c : Prop} [Decidable c] {m m' : Wp A} {k : A → Prop} : (if c then m else m').run k w = if c then m.run k w else m'.run k w := by split <;> rfl
@[simp] theorem shaped_int {a : Int} : SeqAt.shaped (.int a) = true := rfl
@[simp] theorem eqv_int {a b : Int} : PyData.eqv (.int a) (.int b) = decide (a = b) := rfl
end
end Tr

namespace Tr
open PySem PySem.Spec L2
variable [ProtC]

section
variable {A : Type} {a b c d e f : A} {l : List A}
theorem atI_nat {l : List A} {n : Nat} : atI l (n : Int) = l[n]? := by
  unfold atI ixN
  rw [if_pos (by omega)]
  by_cases h : n < l.length
  · rw [if_pos (by omega)]
    rfl
  · rw [if_neg (by omega)]
    simp [List.getElem?_eq_none (Nat.le_of_not_lt h)]
@[simp] theorem atI_0 : atI (a :: l) 0 = some a := atI_nat (n := 0)
@[simp] theorem atI_1 : atI (a :: b :: l) 1 = some b := atI_nat (n := 1)
@[simp] theorem atI_2 : atI (a :: b :: c :: l) 2 = some c := atI_nat (n := 2)
@[simp] theorem atI_3 : atI (a :: b :: c :: d :: l) 3 = some d := atI_nat (n := 3)
@[simp] theorem atI_4 : atI (a :: b :: c :: d :: e :: l) 4 = some e := atI_nat (n := 4)
@[simp] theorem atI_5 : atI (a :: b :: c :: d :: e :: f :: l) 5 = some f := atI_nat (n := 5)
end
def rD (q : Rat) : D := .tuple [.int q.num, .int q.den]
structure RB (q : Rat) (B : Nat) : Prop where
  num : q.num.natAbs < 2 ^ B
  den : q.den < 2 ^ B
theorem RB.mono {q : Rat} {B C : Nat} (h : RB q B) (l : B ≤ C) : RB q C := ⟨Nat.lt_of_lt_of_le h.num (Nat.pow_le_pow_right (by decide) l), Nat.lt_of_lt_of_le h.den (Nat.pow_le_pow_right (by decide) l)⟩
theorem rat_nd (q : Rat) : q = (q.num : Rat) / (q.den : Rat) := by
  rw [← Rat.mkRat_eq_div, Rat.mkRat_self]
theorem den_ne (q : Rat) : (q.den : Rat) ≠ 0 := by
  have := q.den_nz
  exact_mod_cast this
theorem ratio_nd {t b : Int} (hb : 0 < b) : ((t : Rat) / (b : Rat)).num = t / ((Nat.gcd t.natAbs b.natAbs : Nat) : Int) ∧ (((t : Rat) / (b : Rat)).den : Int) = b / ((Nat.gcd t.natAbs b.natAbs : Nat) : Int) := by
  obtain ⟨n, rfl⟩ : ∃ n : Nat, b = n := ⟨b.toNat, by omega⟩
  have hn : n ≠ 0 := by omega
  have e : ((t : Rat) / ((n : Int) : Rat)) = Rat.normalize t n hn := by
    rw [Rat.normalize_eq_mkRat, Rat.mkRat_eq_div]
    rfl
  rw [e, Rat.normalize_eq]
  simp
theorem gcd_pos' {t b : Int} (hb : 0 < b) : 0 < Nat.gcd t.natAbs b.natAbs := Nat.gcd_pos_of_pos_right _ (by omega)
theorem ratio_rb {t b : Int} {B : Nat} (hb : 0 < b) (h1 : t.natAbs < 2 ^ B) (h2 : b.natAbs < 2 ^ B) : RB ((t : Rat) / (b : Rat)) B := by
  obtain ⟨e1, e2⟩ := ratio_nd (t := t) hb
  have g := gcd_pos' (t := t) hb
  constructor
  · rw [e1, Int.natAbs_ediv_of_dvd (Int.ofNat_dvd_left.mpr (Nat.gcd_dvd_left _ _))]
    exact Nat.lt_of_le_of_lt (Nat.div_le_self _ _) h1
  · have e3 : ((t : Rat) / (b : Rat)).den = b.natAbs / Nat.gcd t.natAbs b.natAbs := by
      have := congrArg Int.natAbs e2
      rw [Int.natAbs_ediv_of_dvd (Int.ofNat_dvd_left.mpr (Nat.gcd_dvd_right _ _))] at this
      simpa using this
    rw [e3]
    exact Nat.lt_of_le_of_lt (Nat.div_le_self _ _) h2
theorem log2_lt' {n B : Nat} (h : n < 2 ^ B) : n.log2 < B + 1 := by
  rcases Nat.eq_zero_or_pos n with z | z
  · rw [z]; simp
  · exact Nat.lt_succ_of_lt ((Nat.log2_lt (by omega)).mpr h)
theorem cmul {i j : Int} {a b : Nat} (h1 : i.natAbs < 2 ^ a) (h2 : j.natAbs < 2 ^ b) (h : a + b < 900000) : CMulW i j := by
  have := log2_lt' h1
  have := log2_lt' h2
  show i.natAbs.log2 + j.natAbs.log2 < 1000000
  omega
theorem cdivg {i : Int} {g B : Nat} (hg : 0 < g) (h : g < 2 ^ B) (hB : B < 8900) : CDivW i (g : Int) := by
  refine ⟨by omega, ?_⟩
  have := log2_lt' h
  simp only [Int.natAbs_natCast]
  omega
theorem mul_lt2 {i j : Int} {a b : Nat} (h1 : i.natAbs < 2 ^ a) (h2 : j.natAbs < 2 ^ b) : (i * j).natAbs < 2 ^ (a + b) := by
  rw [Int.natAbs_mul, Nat.pow_add]
  exact Nat.mul_lt_mul'' h1 h2
theorem sub_lt2 {i j : Int} {a : Nat} (h1 : i.natAbs < 2 ^ a) (h2 : j.natAbs < 2 ^ a) : (i - j).natAbs < 2 ^ (a + 1) := by
  rw [Nat.pow_succ]
  omega
theorem add_lt2 {i j : Int} {a : Nat} (h1 : i.natAbs < 2 ^ a) (h2 : j.natAbs < 2 ^ a) : (i + j).natAbs < 2 ^ (a + 1) := by
  rw [Nat.pow_succ]
  omega
theorem two_le_line : (2 : Nat) ≤ sizeLine := by decide
theorem den_lt {q : Rat} {B : Nat} (h : RB q B) : ((q.den : Int)).natAbs < 2 ^ B := by simpa using h.den
theorem dmul_pos {p q : Rat} : (0 : Int) < (p.den : Int) * (q.den : Int) := Int.mul_pos (by have := p.den_pos; omega) (by have := q.den_pos; omega)
theorem sub_nd {p q : Rat} : ((p.num * q.den - q.num * p.den : Int) : Rat) / ((p.den * q.den : Int) : Rat) = p - q := by
  conv => rhs; rw [rat_nd p, rat_nd q]
  have h1 := den_ne p
  have h2 := den_ne q
  push_cast
  grind
theorem add_nd {p q : Rat} : ((p.num * q.den + q.num * p.den : Int) : Rat) / ((p.den * q.den : Int) : Rat) = p + q := by
  conv => rhs; rw [rat_nd p, rat_nd q]
  have h1 := den_ne p
  have h2 := den_ne q
  push_cast
  grind
theorem mul_nd {p q : Rat} : ((p.num * q.num : Int) : Rat) / ((p.den * q.den : Int) : Rat) = p * q := by
  conv => rhs; rw [rat_nd p, rat_nd q]
  have h1 := den_ne p
  have h2 := den_ne q
  push_cast
  grind
theorem div_nd {p q : Rat} (hq : 0 < q.num) : ((p.num * q.den : Int) : Rat) / ((p.den * q.num : Int) : Rat) = p / q := by
  conv => rhs; rw [rat_nd p, rat_nd q]
  have h1 := den_ne p
  have h2 := den_ne q
  have h3 : (q.num : Rat) ≠ 0 := by
    have : q.num ≠ 0 := by omega
    exact_mod_cast this
  push_cast
  grind
end Tr

namespace Tr
open PySem PySem.Spec L2
variable [ProtC]
@[simp] theorem ty_int_none : isTy "int" .none = some false := by show kitB "NoneType" "int" = _; decide +kernel
@[simp] theorem ty_int_bool {b : Bool} : isTy "int" (.bool b) = some true := by show kitB "bool" "int" = _; decide +kernel
@[simp] theorem ty_int_int {a : Int} : isTy "int" (.int a) = some true := by show kitB "int" "int" = _; decide +kernel
@[simp] theorem ty_int_str {s : Str} : isTy "int" (.str s) = some false := by show kitB "str" "int" = _; decide +kernel
@[simp] theorem ty_int_list {ds : List D} : isTy "int" (.list ds) = some false := by show kitB "list" "int" = _; decide +kernel
@[simp] theorem ty_int_tuple {ds : List D} : isTy "int" (.tuple ds) = some false := by show kitB "tuple" "int" = _; decide +kernel
@[simp] theorem ty_bool_none : isTy "bool" .none = some false := by show kitB "NoneType" "bool" = _; decide +kernel
@[simp] theorem ty_bool_bool {b : Bool} : isTy "bool" (.bool b) = some true := by show kitB "bool" "bool" = _; decide +kernel
@[simp] theorem ty_bool_int {a : Int} : isTy "bool" (.int a) = some false := by show kitB "int" "bool" = _; decide +kernel
@[simp] theorem ty_bool_str {s : Str} : isTy "bool" (.str s) = some false := by show kitB "str" "bool" = _; decide +kernel
@[simp] theorem ty_bool_list {ds : List D} : isTy "bool" (.list ds) = some false := by show kitB "list" "bool" = _; decide +kernel
@[simp] theorem ty_bool_tuple {ds : List D} : isTy "bool" (.tuple ds) = some false := by show kitB "tuple" "bool" = _; decide +kernel
@[simp] theorem ty_tuple_none : isTy "tuple" .none = some false := by show kitB "NoneType" "tuple" = _; decide +kernel
@[simp] theorem ty_tuple_bool {b : Bool} : isTy "tuple" (.bool b) = some false := by show kitB "bool" "tuple" = _; decide +kernel
@[simp] theorem ty_tuple_int {a : Int} : isTy "tuple" (.int a) = some false := by show kitB "int" "tuple" = _; decide +kernel
@[simp] theorem ty_tuple_str {s : Str} : isTy "tuple" (.str s) = some false := by show kitB "str" "tuple" = _; decide +kernel
@[simp] theorem ty_tuple_list {ds : List D} : isTy "tuple" (.list ds) = some false := by show kitB "list" "tuple" = _; decide +kernel
@[simp] theorem ty_tuple_tuple {ds : List D} : isTy "tuple" (.tuple ds) = some true := by show kitB "tuple" "tuple" = _; decide +kernel
@[simp] theorem ty_list_none : isTy "list" .none = some false := by show kitB "NoneType" "list" = _; decide +kernel
@[simp] theorem ty_list_bool {b : Bool} : isTy "list" (.bool b) = some false := by show kitB "bool" "list" = _; decide +kernel
@[simp] theorem ty_list_int {a : Int} : isTy "list" (.int a) = some false := by show kitB "int" "list" = _; decide +kernel
@[simp] theorem ty_list_str {s : Str} : isTy "list" (.str s) = some false := by show kitB "str" "list" = _; decide +kernel
@[simp] theorem ty_list_list {ds : List D} : isTy "list" (.list ds) = some true := by show kitB "list" "list" = _; decide +kernel
@[simp] theorem ty_list_tuple {ds : List D} : isTy "list" (.tuple ds) = some false := by show kitB "tuple" "list" = _; decide +kernel
@[simp] theorem ty_str_none : isTy "str" .none = some false := by show kitB "NoneType" "str" = _; decide +kernel
@[simp] theorem ty_str_bool {b : Bool} : isTy "str" (.bool b) = some false := by show kitB "bool" "str" = _; decide +kernel
@[simp] theorem ty_str_int {a : Int} : isTy "str" (.int a) = some false := by show kitB "int" "str" = _; decide +kernel
@[simp] theorem ty_str_str {s : Str} : isTy "str" (.str s) = some true := by show kitB "str" "str" = _; decide +kernel
@[simp] theorem ty_str_list {ds : List D} : isTy "str" (.list ds) = some false := by show kitB "list" "str" = _; decide +kernel
@[simp] theorem ty_str_tuple {ds : List D} : isTy "str" (.tuple ds) = some false := by show kitB "tuple" "str" = _; decide +kernel
section
variable {A : Type} {k : D → Prop} {w : Exn → Prop} {δ : De} {i j n : Nat} {f g h : DF} {t u : TF} {F G : SF} {d e : D} {ds : List D} {on : Bool} {q : BF} {fi : De → Wp (List D)} {vs : List Nat}
@[simp] theorem tys_nil : isTys [] d = some false := rfl
@[simp] theorem tys_cons {T : String} {Ts : List String} : isTys (T :: Ts) d = match isTy T d with
    | some true => some true
    | some false => isTys Ts d
    | none => none := rfl
@[simp] theorem rw_dGa : dGa on fi q t f vs δ = (fi δ).bind fun ds => (gaLoop on q t f (dWipe δ vs) ds).nox := rfl
@[simp] theorem rw_ga0 : gaLoop on q t f δ [] = .pure (.bool on) := rfl
theorem rw_ga1 : gaLoop on q t f δ (d :: ds) = (optW (q d δ)).bind fun δ1 => (t δ1).bind fun b => if b then (f δ1).bind fun y => match y with
    | .bool k => if k = on then gaLoop on q t f δ ds else .pure (.bool k)
    | _ => .stuck else gaLoop on q t f δ ds := rfl
@[simp] theorem rw_nLc : nLc fi q t f vs δ = (fi δ).bind fun ds => .need (ds.length ≤ sizeLine) (lcLoop q t f (dWipe δ vs) ds).nox := rfl
@[simp] theorem rw_lc0 : lcLoop q t f δ [] = .pure [] := rfl
theorem rw_lc1 : lcLoop q t f δ (d :: ds) = (optW (q d δ)).bind fun δ1 => (t δ1).bind fun b => if b then (f δ1).bind fun y => (lcLoop q t f δ ds).bind fun ys => .pure (y :: ys) else lcLoop q t f δ ds := rfl
@[simp] theorem rw_tYes : tYesD δ = .pure true := rfl
@[simp] theorem rw_wipe0 : dWipe δ [] = δ.map sIn := rfl
@[simp] theorem rw_wipe1 {v : Nat} : dWipe δ (v :: vs) = (dWipe δ vs).set v .non := rfl
@[simp] theorem sIn_p : sIn (.p d) = .p d := rfl
@[simp] theorem sIn_o : sIn (.o ds) = .non := rfl
@[simp] theorem sIn_non : sIn .non = .non := rfl
@[simp] theorem sIn_t {a : Addr} {φ : Heap → Prop} : sIn (.t a φ) = .t a φ := rfl
@[simp] theorem sIn_v {x : V} : sIn (.v x) = .v x := rfl
@[simp] theorem bTup_t {r : List D → De → Option De} : bTup n r (.tuple ds) δ = if ds.length = n then r ds δ else none := rfl
@[simp] theorem bNil_n : bNil [] δ = some δ := rfl
@[simp] theorem bCons_c {b : BF} {r : List D → De → Option De} : bCons b r (d :: ds) δ = (b d δ).bind fun δ' => r ds δ' := rfl
@[simp] theorem shaped_rD {p : Rat} : SeqAt.shaped (rD p) = true := rfl
@[simp] theorem eqv_nil : PyData.eqv (.list []) (.list []) = true := rfl
@[simp] theorem shaped_nil : SeqAt.shaped (.list []) = true := rfl
theorem eqvAll_cons {a b : D} {as bs : List D} : PyData.eqv (.tuple (a :: as)) (.tuple (b :: bs)) = (PyData.eqv a b && PyData.eqv (.tuple as) (.tuple bs)) := by simp [PyData.eqv, PyData.eqvAll]
theorem eqv_rD {p q : Rat} : PyData.eqv (rD p) (rD q) = decide (p = q) := by
  have h1 : PyData.eqv (rD p) (rD q) = (decide (p.num = q.num) && decide ((p.den : Int) = q.den)) := by
    simp [rD, PyData.eqv, PyData.eqvAll]
    rfl
  rw [h1]
  by_cases h : p = q
  · subst h; simp
  · have : ¬ (p.num = q.num ∧ p.den = q.den) := fun ⟨a, b⟩ => h (Rat.ext a b)
    simp [h]
    intro a b
    exact this ⟨a, by exact_mod_cast b⟩
end
theorem num_pos {q : Rat} : 0 < q.num ↔ 0 < q := by
  have h1 := Rat.num_nonneg (q := -q)
  rw [Rat.neg_num] at h1
  constructor
  · intro h
    have : ¬ (0 ≤ -q) := fun z => by have := h1.mpr z; omega
    grind
  · intro h
    have : ¬ (0 ≤ -q) := by grind
    have : ¬ (0 ≤ -q.num) := fun z => this (h1.mp z)
    omega
theorem rD_int (a : Int) : PyData.tuple [.int a, .int 1] = rD (a : Rat) := rfl
theorem nb7 {x : Int} (h0 : 0 ≤ x) (h : x ≤ 100) : x.natAbs < 2 ^ 7 := by
  show x.natAbs < 128
  omega
theorem nb10 {x : Int} (h0 : 0 ≤ x) (h : x ≤ 1000) : x.natAbs < 2 ^ 10 := by
  show x.natAbs < 1024
  omega
theorem rb_int {a : Int} {B : Nat} (h : a.natAbs < 2 ^ B) (hB : 0 < B) : RB (a : Rat) B := ⟨by rw [Rat.num_intCast]; exact h, by
  show 1 < 2 ^ B
  exact Nat.one_lt_two_pow (by omega)⟩
def RO (C : Cs) (r : Addr) (φ : Heap → Prop) : Prop := ∃ q ∈ C.Z, φ = RowP r q.1 ∧ q.2.length ≤ 63
theorem taken_run {C : Cs} {r : Addr} {φ : Heap → Prop} {m : Int} {k : D → Prop} {w : Exn → Prop} (hr : RO C r φ) (h0 : 0 < m) (h1 : m < 1073741824) (hk : ∀ n : Int, 0 ≤ n → n < m → k (.int n)) : (fTaken C [.t r φ, .d (.int m)]).run k w :=
  ⟨⟨hr, h0, h1⟩, fun _ ⟨n, e, a, b⟩ => e ▸ hk n a b⟩
theorem loop_inv {q : BF} {F : SF} {ko : Out → Prop} {w : Exn → Prop} (I : Nat → De → Prop) {ds : List D} {δ : De} (h0 : I 0 δ)
    (hs : ∀ i δ d, ds[i]? = some d → I i δ → ∃ δ1, q d δ = some δ1 ∧ (F δ1).run (fun o => match o with
      | .nx δ' => I (i + 1) δ'
      | .ct δ' => I (i + 1) δ'
      | .bk δ' => ko (.nx δ')
      | .rt d => ko (.rt d)) w)
    (hd : ∀ δ, I ds.length δ → ko (.nx δ)) : (sLoop q F ds δ).run ko w := by
  induction ds generalizing I δ with
  | nil => exact hd δ h0
  | cons d ds ih =>
    obtain ⟨δ1, e, h⟩ := hs 0 δ d rfl h0
    rw [rw_loop1, e]
    simp only [optW_some, pure_bind, run_bind]
    refine (F δ1).mono (fun o ho => ?_) (fun _ z => z) h
    have go : ∀ δ', I 1 δ' → (sLoop q F ds δ').run ko w := fun δ' h1 => ih (fun i => I (i + 1)) h1 (fun i δ d e h => hs (i + 1) δ d e h) hd
    cases o with
    | nx δ' => exact go δ' ho
    | ct δ' => exact go δ' ho
    | bk δ' => exact ho
    | rt d => exact ho
@[simp] theorem rw_row {i j : Nat} {δ : De} : sRow i j δ = (slotV δ[j]?).bind fun v => match v with
  | .ref a => (Wp.any fun (_ : Addr) => True).bind fun r => .pure (.nx (δ.set i (.t r (RowP r a))))
  | _ => .stuck := rfl
@[simp] theorem rw_ixR0 {p : Rat} : dIx (rD p) (.int 0) = .pure (.int p.num) := by simp [rD]
@[simp] theorem rw_ixR1 {p : Rat} : dIx (rD p) (.int 1) = .pure (.int p.den) := by simp [rD]
@[simp] theorem shaped_bool {b : Bool} : SeqAt.shaped (.bool b) = true := rfl
@[simp] theorem eqv_bool {a b : Bool} : PyData.eqv (.bool a) (.bool b) = (a == b) := by cases a <;> cases b <;> rfl
theorem RB.neg {q : Rat} {B : Nat} (h : RB q B) : RB (-q) B := ⟨by rw [Rat.neg_num, Int.natAbs_neg]; exact h.num, by rw [Rat.neg_den]; exact h.den⟩
@[simp] theorem rgD_len {lo : Int} {n : Nat} : (rgD lo n).length = n := by simp [rgD]
theorem rat_lt {p q : Rat} : (p.num * (q.den : Int) < q.num * (p.den : Int)) ↔ p < q := (Rat.lt_iff p q).symm
end Tr

namespace Tr
open PySem PySem.Spec L2
variable [ProtC]

section
variable {X : Cx} {C : Cs} {W : WX} {p : Pos} {e : Expr} {es : List Expr} {f : DF} {r : AF}
def aStar (f : DF) (r : AF) : AF := fun δ => (f δ).bind fun d => (seqD d).bind fun ds => (r δ).bind fun as => .pure (ds.map Ar.d ++ as)
theorem arsOk_app {K : PySem.W.Frag} {H : Hp} : ∀ {vs : List V} {ds : List D} {us : List V} {as : List Ar}, DpAll K H vs ds → ArsOk K H us as → ArsOk K H (vs ++ us) (ds.map Ar.d ++ as)
  | [], _, _, _, h, g => by cases h; exact g
  | v :: vs, _, _, _, h, g => by
    cases h with
    | cons a b => exact ⟨a, arsOk_app b g⟩
theorem da_star (hK : C.K = X.K) (he : DE X C W e f) (hr : DA X C W es r) (hs : starEach (.Starred e p :: es) X.env = (true, eval e X.env) :: starEach es X.env := by rfl) : DA X C W (.Starred e p :: es) (aStar f r) := by
  obtain ⟨t, pt, q⟩ := he
  obtain ⟨u, pu, q2⟩ := hr
  refine ⟨_, StX.pa_star pt pu hs, fun S0 H0 Pb σ H δ Q R h => q S0 H0 Pb σ H δ _ R ((f δ).mono (fun d h v G g dp => ?_) (fun _ z => z) h)⟩
  have fin : ∀ (ds : List D) (vs : List V), DpAll C.K (hid (Own (C.bx S0 H0) σ δ) G) vs ds → (r δ).run (fun as => Av (C.bx S0 H0) σ H δ Q (ds.map Ar.d ++ as)) (Ew (C.bx S0 H0) W σ H) → u σ G fun ys H2 => Q (vs ++ ys) H2 := fun ds vs hd h =>
    q2 S0 H0 Pb σ G δ _ (R.gr g) ((r δ).mono (fun as ha us G2 g2 ok => ha (vs ++ us) G2 (g.trans g2) (arsOk_app (Le.dps (hid_le g2.le fun _ z => z) ds vs hd) ok)) (fun _ z => z.gr g) h)
  rw [← hK]
  cases dp with
  | lst s a => exact ⟨_, _, rfl, .inr (Le.sqL hid_sub s), fin _ _ a h⟩
  | tup s a => exact ⟨_, _, rfl, .inl (Le.sqT hid_sub s), fin _ _ a h⟩
  | _ => exact h.elim
@[simp] theorem rw_aStar {δ : De} : aStar f r δ = (f δ).bind fun d => (seqD d).bind fun ds => (r δ).bind fun as => .pure (ds.map Ar.d ++ as) := rfl
theorem allD_map {ds : List D} {as : List Ar} : allD (ds.map Ar.d ++ as) = (allD as).bind fun es => .pure (ds ++ es) := by
  induction ds with
  | nil => rfl
  | cons d ds ih =>
    show (allD (ds.map Ar.d ++ as)).bind _ = _
    rw [ih]
    rfl
end
end Tr

namespace TrE
open PySem PySem.Spec L2
theorem enum_new {v : Value} {o : Obj} {H : Heap → Prop} (B : Begins v o H) :
    Meets (Builtin.«enumerate.__new__» ⟨[.type "enumerate", v], []⟩) (fun _ R s => H s.heap ∧
      R (.ok (.ret (.ref (s.heap.push o).objs.size))) { s with heap := (s.heap.push o).push { cls := .type "enumerate", data := .fields #[.none, .bool false, .ref s.heap.objs.size, rawInt 0, .none, .none] } }) :=
  .of_wp fun prog w A R s h => by
    obtain ⟨hp, g, d, tk, os⟩ := s
    obtain ⟨h1, h⟩ := h
    have hsub := sub_enumerate
    have q1 : ∀ {A' : Around} {E : Value → Shared → Prop} {Q : Value → Shared → Prop}, Q (.ref hp.objs.size) ⟨hp.push o, g, d, tk, os⟩ → wpAny (model prog w) A' (pyIter v) Q E ⟨hp, g, d, tk, os⟩ := fun q => B.iter prog w _ _ ⟨hp, g, d, tk, os⟩ _ h1 q
    wp_walk using q1
    refine wpAny_stack_any fun st => wpAny_pure ?_
    split
    · rename_i c _ _ _ _ _
      cases (c == Value.type "enumerate")
      · wp_walk using q1
        exact ⟨_, rfl, h⟩
      · wp_walk using q1
        exact ⟨_, rfl, h⟩
    · wp_walk using q1
      exact ⟨_, rfl, h⟩
end TrE
namespace Tr
open PySem PySem.Spec L2
variable [ProtC]
def IteT (K : PySem.W.Frag) (a : Addr) : It :=
  ⟨fun i H => ∃ (xs : List V) (x : V), SqT K H a xs ∧ xs[i]? = some x, fun i H v H' => ∃ T x, v = .ref T ∧ H T = none ∧ H' = upd H T (.tup [.int (i : Nat), x]) ∧ ∀ xs, SqT K H a xs → xs[i]? = some x, fun i H => ∃ xs : List V, SqT K H a xs ∧ xs.length = i⟩
theorem walk_enumT {K : PySem.W.Frag} {a : Addr} {xs : List V} : Walk (IteT K a) xs.length (fun H => SqT K H a xs) (YPair (fun i => some (.int (i : Nat))) (fun i => xs[i]?)) :=
  ⟨fun i H hi h => ⟨xs, xs[i], h, List.getElem?_eq_getElem hi⟩, fun H h => ⟨xs, h, rfl⟩, fun i H x H' hi h ⟨T, y, e1, e2, e3, e4⟩ => ⟨T, .int (i : Nat), y, e1, e2, e3, rfl, e4 xs h⟩⟩
theorem turn_enumT {P : Program} {w : World} {K : PySem.W.Frag} {elts : List Expr} {kk : Nat} {tpos : Pos} (a e it : Addr) :
    Turn P w K (.Tuple elts kk tpos) (IteT K a) [e, it] e (fun i h => (∃ old, IsEnum h e it ((i : Nat) : Int) old) ∧ h.IsTupleIter it a i ∧ e ≠ it ∧ e ≠ a ∧ a ≠ it) where
  mem := by simp
  obj := fun i h st b hb => by
    obtain ⟨⟨old, he⟩, ⟨o, ho, hc, hd⟩, _⟩ := st
    have e' : b = e ∨ b = it := by simpa using hb
    rcases e' with z | z
    · rw [z]; exact ⟨_, he, fun v q => nomatch q⟩
    · rw [z]; exact ⟨o, ho, fun v q => by rw [hd] at q; cases q⟩
  keep := fun i h h' st k => let ⟨⟨old, he⟩, hi, hne⟩ := st; ⟨⟨old, k e (by simp) _ he⟩, hi.at fun o q => k it (by simp) o q, hne⟩
  item := by
    intro X hP hw hK hc i pins s σ H E I hf st hg
    subst hP hw hK
    obtain ⟨⟨old, he⟩, hit, hne, hea, hai⟩ := st
    obtain ⟨xs, x, hq, hx⟩ := hg
    obtain ⟨its, rv, p, hz⟩ := I.tuple hq
    obtain ⟨u, hu, ru⟩ := rv.get hx
    have hel : e < s.heap.objs.size := Heap.lt_size he
    have hil : it < s.heap.objs.size := by obtain ⟨_, q, _⟩ := hit; exact Heap.lt_size q
    have hlt : i < its.toArray.size := by
      have := (List.getElem?_eq_some_iff.mp hu).1
      simpa using this
    have D := Draws.tuple (prog := X.prog) (w := X.w) (A := X.A.in1) (I.ok.hd hc) it a hai its.toArray
    refine wpAny_pyNext_enum_itemD D he ⟨hit, show s.heap.IsTuple a its.toArray from p⟩ hlt hne (by simp [hne, hea]) fun x' h' tk hx' ho hs' hT hsz hk => ?_
    have ex : x' = u := by
      have hu' : its.toArray[i]? = some u := by simpa using hu
      rw [hu'] at hx'
      exact (Option.some.inj hx').symm
    subst ex
    refine ⟨_, rfl, wpAny_letOwnedTupleGo_enum (s := { s with heap := h', toks := tk + 1 }) ho fun h'' he' sb => ?_⟩
    have hT2 : h''.get? s.heap.objs.size = some { cls := .type "tuple", data := .seq #[.int i tk, x'] } := (sb.2 _ (Nat.ne_of_gt hel)).trans hT
    have new : ObjOk X.prog X.w (upd H s.heap.objs.size (.tup [.int (i : Nat), x])) h'' s.heap.objs.size (.tup [.int (i : Nat), x]) :=
      ⟨by show 2 ≤ sizeLine; decide, [.int i tk, x'], .cons ⟨_, rfl⟩ (.cons ru .nil), ⟨_, hT2, rfl, _, rfl⟩⟩
    have I1 : Inv X pins σ (upd H s.heap.objs.size (.tup [.int (i : Nat), x])) { s with heap := h'', toks := tk + 1 } :=
      I.turnedNew (ch := [e, it]) (fun b ob hb q => (sb.2 b (fun z => hb (by simp [z]))).trans (hk b ob (fun z => hb (by simp [z])) (fun z => hb (by simp [z])) q)) hf (Nat.le_refl _) new
    refine ⟨.ref s.heap.objs.size, _, I1, rfl, ⟨_, x, rfl, I.hok.fresh (Nat.le_refl _), rfl, fun ys hy => by rw [I.tuple_inj hy hq]; exact hx⟩, ⟨⟨x', ?_⟩, hs'.1.at fun o q => (sb.2 it (Ne.symm hne)).trans q, hne, hea, hai⟩, fun b hb => ?_⟩
    · have e1 : ((i + 1 : Nat) : Int) = (i : Int) + 1 := by omega
      rw [e1]; exact he'
    · have hb' : b < s.heap.objs.size := by
        have e' : b = e ∨ b = it := by simpa using hb
        rcases e' with z | z
        · rw [z]; exact hel
        · rw [z]; exact hil
      rw [upd_ne (Nat.ne_of_lt hb')]
      exact (hf b hb).1
  done := by
    intro X hP hw hK hc i pins s σ H E I hf st hg
    subst hP hw hK
    obtain ⟨⟨old, he⟩, hit, hne, hea, hai⟩ := st
    obtain ⟨xs, hq, hx⟩ := hg
    obtain ⟨its, rv, p, hz⟩ := I.tuple hq
    obtain ⟨f0, f1, f2, f3, f4, f5⟩ := hf it (by simp)
    have hl := rv.length
    have D := Draws.tuple (prog := X.prog) (w := X.w) (A := X.A.in1) (I.ok.hd hc) it a hai its.toArray
    have e1 : its.toArray.size = i := by rw [List.size_toArray]; omega
    exact wpAny_pyNext_enum_endD D he ⟨by rw [e1]; exact hit, p⟩ fun h' eb => ⟨rfl, I.turned (t' := s.toks) (fun b o hb q => eb b o hb q) f0 f1 f3 f4 f5⟩
  self := fun A i s Q E st h => let ⟨⟨_, he⟩, _⟩ := st; wpAny_pyIter_enum he h
def iEnumA (K : PySem.W.Frag) (ta : TA) : TI := fun σ H R => ta σ H fun vs H1 => ∃ a xs, vs = [.ref a] ∧ ((SqL K H1 a xs ∧ R (Ite K a) H1) ∨ (SqT K H1 a xs ∧ R (IteT K a) H1))
theorem pi_enumA {X : Cx} {e : Expr} {ta : TA} {p pos tpos : Pos} {elts : List Expr} {kk : Nat} (hg : Gl X "enumerate") (hm : X.mg "enumerate" = none) (ha : PA X [e] ta) (hs : starEach [e] X.env = [(false, eval e X.env)] := by rfl) :
    PI X (.Tuple elts kk tpos) (.Call (.Name "enumerate" p) [e] [] pos) (iEnumA X.K ta) := by
  refine ⟨fun pins s σ H R I h => ?_⟩
  refine PyProof.Rows.Call_ (ld_blt I hg hm PyProof.Rows.boot_enumerate (PyProof.Rows.callWith_type1 (thn (ha.run pos pins s σ H _ I h) fun us s1 ⟨vs, H1, I1, r1, q1⟩ => ?_) hs rfl))
  obtain ⟨a, xs, ex, q1⟩ := q1
  subst ex
  cases r1 with
  | cons r rr =>
    cases rr
    cases r
    have fp2 : ∀ b ∈ [s1.heap.objs.size + 1, s1.heap.objs.size], FpOk X pins H1 b := fun b hb => by
      have e' : b = s1.heap.objs.size + 1 ∨ b = s1.heap.objs.size := by simpa using hb
      have hle : s1.heap.objs.size ≤ b := by
        rcases e' with z | z
        · rw [z]; exact Nat.le_add_right _ _
        · rw [z]; exact Nat.le_refl _
      exact I1.fpOk hle (I1.hok.fresh hle)
    rcases q1 with ⟨hq, q⟩ | ⟨hq, q⟩
    · obtain ⟨its, rv, p', hz⟩ := I1.list hq
      refine call_enumerate_list p'.isList fun h' he hit hsz hk => wpAny_pyIter_enum he ?_
      have I2 : Inv X pins σ H1 { s1 with heap := h' } := I1.kept (t' := s1.toks) hk
      exact ⟨s1.heap.objs.size + 1, [s1.heap.objs.size + 1, s1.heap.objs.size], _, _, H1, rfl, I2, turn_enum a (s1.heap.objs.size + 1) s1.heap.objs.size, ⟨⟨.none, he⟩, hit, Nat.succ_ne_self _⟩, fp2, q⟩
    · obtain ⟨its, rv, p', hz⟩ := I1.tuple hq
      have p2 : s1.heap.IsTuple a its.toArray := p'
      have al : a < s1.heap.objs.size := by obtain ⟨_, z, _⟩ := p2; exact Heap.lt_size z
      refine callType_new F.called_enumerate (by decide) (F.typeCall_enumerate_1 _) (F.newCall_enumerate_1 _) (fun obj => F.args_object_init_2 obj _) F.entry_enumerate_new (TrE.enum_new (begins_tuple a its.toArray)) ⟨p2, ?_⟩
      have hz2 : (s1.heap.push { cls := .type "tuple_iterator", data := .fields #[.ref a, .int 0 0] }).objs.size = s1.heap.objs.size + 1 := Heap.size_push ..
      show _ ∧ _
      rw [hz2]
      have he : IsEnum ((s1.heap.push { cls := .type "tuple_iterator", data := .fields #[.ref a, .int 0 0] }).push { cls := .type "enumerate", data := .fields #[.none, .bool false, .ref s1.heap.objs.size, rawInt 0, .none, .none] }) (s1.heap.objs.size + 1) s1.heap.objs.size 0 .none := by
        have := Heap.get?_push_size (s1.heap.push { cls := .type "tuple_iterator", data := .fields #[.ref a, .int 0 0] }) (o := { cls := .type "enumerate", data := .fields #[.none, .bool false, .ref s1.heap.objs.size, rawInt 0, .none, .none] }) rfl
        rw [hz2] at this
        exact this
      refine ⟨⟨_, he, rfl⟩, wpAny_pyIter_enum he ?_⟩
      have hk : ∀ b o, s1.heap.get? b = some o → ((s1.heap.push { cls := .type "tuple_iterator", data := .fields #[.ref a, .int 0 0] }).push { cls := .type "enumerate", data := .fields #[.none, .bool false, .ref s1.heap.objs.size, rawInt 0, .none, .none] }).get? b = some o := fun b o x => Heap.get?_push_of_some _ (Heap.get?_push_of_some _ x)
      have I2 := I1.kept (t' := s1.toks) hk
      exact ⟨s1.heap.objs.size + 1, [s1.heap.objs.size + 1, s1.heap.objs.size], _, _, H1, rfl, I2, turn_enumT a (s1.heap.objs.size + 1) s1.heap.objs.size, ⟨⟨.none, he⟩, ⟨_, Heap.get?_push_of_some _ (Heap.get?_push_size _ rfl), rfl, rfl⟩, Nat.succ_ne_self _, Nat.ne_of_gt (Nat.lt_succ_of_lt al), Nat.ne_of_lt al⟩, fp2, q⟩
def enD (ds : List D) : List D := (List.range ds.length).zipWith (fun (i : Nat) d => PyData.tuple [.int (i : Int), d]) ds
theorem enD_len {ds : List D} : (enD ds).length = ds.length := by simp [enD]
theorem enD_get {ds : List D} {i : Nat} {d : D} (h : ds[i]? = some d) : (enD ds)[i]? = some (.tuple [.int (i : Int), d]) := by
  have hi : i < ds.length := (List.getElem?_eq_some_iff.mp h).1
  have hd : ds[i] = d := (List.getElem?_eq_some_iff.mp h).2
  simp [enD, List.getElem?_zipWith, hi, hd]
theorem items_pair {K : PySem.W.Frag} {Ph Bh : Hp} {xs : List V} {ds : List D} {J : It} {Gp : Hp → Prop} (w : Walk J xs.length Gp (YPair (fun i => some (.int (i : Nat))) (fun i => xs[i]?))) (hG : ∀ H1, Le Ph H1 → Le Bh H1 → Gp H1) (dp : DpAll K Ph xs ds) : Items K Ph Bh (enD ds) J := by
  refine ⟨Gp, _, by rw [enD_len, ← dps_len dp]; exact w, hG, fun i H1 x H2 S hi l _ hS y => ?_⟩
  obtain ⟨T, u, v, rfl, hT, rfl, eu, ev⟩ := y
  cases eu
  rw [enD_len] at hi
  obtain ⟨d, hd⟩ : ∃ d, ds[i]? = some d := ⟨ds[i], List.getElem?_eq_getElem hi⟩
  obtain ⟨v', h1, h2⟩ := dps_get dp hd
  have ev : xs[i]? = some v := ev
  rw [ev] at h1
  cases h1
  have nT : ¬ S T := fun z => hS T z hT
  have le : Le (hid S H1) (hid S (upd H1 T (.tup [.int (i : Nat), v]))) := hid_le (Grow.new hT).le fun _ z => z
  refine ⟨Grow.new hT, _, enD_get hd, .tup (SqT.of ?_) (.cons (.int _) (.cons (Le.dp (l.trans le) d v h2) .nil))⟩
  rw [hid_in nT]
  exact upd_same
def iEnD (f : DF) : De → Wp (List D) := fun δ => (f δ).bind fun d => (seqD d).bind fun ds => .pure (enD ds)
theorem di_enum {X : Cx} {C : Cs} {W : WX} {e : Expr} {f : DF} {p pos tpos : Pos} {elts : List Expr} {kk : Nat} (hK : C.K = X.K) (hg : Gl X "enumerate") (hm : X.mg "enumerate" = none) (he : DE X C W e f) (hs : starEach [e] X.env = [(false, eval e X.env)] := by rfl) :
    DI X C W (.Tuple elts kk tpos) (.Call (.Name "enumerate" p) [e] [] pos) (iEnD f) := by
  obtain ⟨t, pt, q⟩ := he
  refine ⟨_, pi_enumA hg hm (pa_cons pt pa_nil hs) hs, fun S0 H0 Pb σ H δ Q R h => q S0 H0 Pb σ H δ _ R ((f δ).mono (fun d h v G g dp => ?_) (fun _ z => z) h)⟩
  rw [← hK]
  cases dp with
  | lst s a => exact ⟨_, _, rfl, .inl ⟨Le.sqL hid_sub s, h _ G g (items_pair walk_enum (fun H1 l _ => l.sqL s) a)⟩⟩
  | tup s a => exact ⟨_, _, rfl, .inr ⟨Le.sqT hid_sub s, h _ G g (items_pair walk_enumT (fun H1 l _ => l.sqT s) a)⟩⟩
  | _ => exact h.elim
@[simp] theorem rw_iEnD {f : DF} {δ : De} : iEnD f δ = (f δ).bind fun d => (seqD d).bind fun ds => .pure (enD ds) := rfl
end Tr

namespace Tr
open PySem PySem.Spec L2
variable [ProtC]
def intsD : List D → Option (List Int)
  | [] => some []
  | .int i :: ds => (intsD ds).map (i :: ·)
  | _ => none
end Tr

namespace Tr
abbrev Ln := Int × Rat
def fL (x : Ln) (t : Rat) : Rat := if 0 < x.1 ∧ x.2 < t then (t - x.2) / (x.1 : Rat) else 0
def rL (x : Ln) (t : Rat) : Rat := if 0 < x.1 ∧ x.2 ≤ t then 1 / (x.1 : Rat) else 0
def tkQ : List Ln → Rat → Rat
  | [], _ => 0
  | x :: L, t => fL x t + tkQ L t
def rtQ : List Ln → Rat → Rat
  | [], _ => 0
  | x :: L, t => rL x t + rtQ L t
theorem qdiv_nonneg {a : Rat} {s : Int} (h : 0 ≤ a) (hs : 0 < s) : 0 ≤ a / (s : Rat) := by
  have h1 : (0 : Rat) < s := by exact_mod_cast hs
  have : 0 < (s : Rat)⁻¹ := Rat.inv_pos.mpr h1
  rw [Rat.div_def]
  exact Rat.mul_nonneg h (Rat.le_of_lt this)
theorem qdiv_pos {a : Rat} {s : Int} (h : 0 < a) (hs : 0 < s) : 0 < a / (s : Rat) := by
  have h1 : (0 : Rat) < s := by exact_mod_cast hs
  have : 0 < (s : Rat)⁻¹ := Rat.inv_pos.mpr h1
  rw [Rat.div_def]
  exact Rat.mul_pos h this
theorem fL_nonneg (x : Ln) (t : Rat) : 0 ≤ fL x t := by
  unfold fL; split
  · exact qdiv_nonneg (by grind) (by grind)
  · grind
theorem fL_pos {x : Ln} {t : Rat} : 0 < fL x t ↔ 0 < x.1 ∧ x.2 < t := by
  unfold fL; split
  · rename_i h
    exact ⟨fun _ => h, fun h => qdiv_pos (by grind) h.1⟩
  · rename_i h
    exact ⟨fun z => by grind, fun z => absurd z h⟩
theorem rL_nonneg (x : Ln) (t : Rat) : 0 ≤ rL x t := by
  unfold rL; split
  · exact qdiv_nonneg (by grind) (by grind)
  · grind
theorem fL_line {x : Ln} {t u v : Rat} (h : 0 < x.1 → x.2 ≤ t ∨ u ≤ x.2) (h1 : t ≤ v) (h2 : v ≤ u) : fL x v = fL x t + (v - t) * rL x t := by
  unfold fL rL
  by_cases hs : 0 < x.1
  · have hq : (x.1 : Rat) ≠ 0 := by
      have : x.1 ≠ 0 := by omega
      exact_mod_cast this
    simp only [hs, true_and]
    rcases h hs with a | a
    · rw [if_pos a]
      by_cases c : x.2 < t
      · rw [if_pos c, if_pos (by grind)]; grind
      · have e : x.2 = t := by grind
        by_cases d : x.2 < v
        · rw [if_pos d, if_neg c]; grind
        · rw [if_neg d, if_neg c]; grind
    · rw [if_neg (by grind)]
      by_cases c : x.2 ≤ t
      · rw [if_pos c, if_neg (by grind)]
        have : v = t := by grind
        subst this
        grind
      · rw [if_neg c, if_neg (by grind)]; grind
  · simp only [hs, false_and, if_false]; grind
theorem fL_mono {x : Ln} {t u : Rat} (h : t ≤ u) : fL x t ≤ fL x u := by
  by_cases c : 0 < x.1 ∧ x.2 < u
  · by_cases d : x.2 ≤ t
    · have := fL_line (x := x) (u := u) (fun _ => .inl d) h (by grind)
      have := Rat.mul_nonneg (show 0 ≤ u - t by grind) (rL_nonneg x t)
      grind
    · have : fL x t = 0 := by unfold fL; rw [if_neg (by grind)]
      have := fL_nonneg x u
      grind
  · have : fL x u = 0 := by unfold fL; rw [if_neg c]
    have : fL x t = 0 := by unfold fL; rw [if_neg (by grind)]
    grind
theorem fL_strict {x : Ln} {t u : Rat} (h : t < u) (hp : 0 < fL x t) : fL x t < fL x u := by
  have c := fL_pos.mp hp
  have e := fL_line (x := x) (u := u) (fun _ => .inl (by grind)) (show t ≤ u by grind) (by grind)
  have : 0 < rL x t := by unfold rL; rw [if_pos ⟨c.1, by grind⟩]; exact qdiv_pos (by grind) c.1
  have := Rat.mul_pos (show 0 < u - t by grind) this
  grind
theorem tk_nonneg (L : List Ln) (t : Rat) : 0 ≤ tkQ L t := by
  induction L with
  | nil => exact Rat.le_refl
  | cons x L ih => have := fL_nonneg x t; simp only [tkQ]; grind
theorem rt_nonneg (L : List Ln) (t : Rat) : 0 ≤ rtQ L t := by
  induction L with
  | nil => exact Rat.le_refl
  | cons x L ih => have := rL_nonneg x t; simp only [rtQ]; grind
theorem tk_mono {L : List Ln} {t u : Rat} (h : t ≤ u) : tkQ L t ≤ tkQ L u := by
  induction L with
  | nil => exact Rat.le_refl
  | cons x L ih => have := fL_mono (x := x) h; simp only [tkQ]; grind
theorem tk_pos {L : List Ln} {t : Rat} : 0 < tkQ L t ↔ ∃ x ∈ L, 0 < x.1 ∧ x.2 < t := by
  induction L with
  | nil => simp [tkQ]
  | cons x L ih =>
    have h1 := fL_nonneg x t
    have h2 := tk_nonneg L t
    simp only [tkQ, List.mem_cons, exists_eq_or_imp]
    rw [← ih, ← fL_pos]
    constructor
    · intro h
      by_cases c : 0 < fL x t
      · exact .inl c
      · exact .inr (by grind)
    · rintro (h | h) <;> grind
theorem tk_zero {L : List Ln} {t : Rat} (h : ∀ x ∈ L, 0 < x.1 → t ≤ x.2) : tkQ L t = 0 := by
  have h1 := tk_nonneg L t
  have h2 : ¬ 0 < tkQ L t := fun z => by
    obtain ⟨x, hx, a, b⟩ := tk_pos.mp z
    have := h x hx a
    grind
  grind
theorem tk_strict {L : List Ln} {t u : Rat} (h : t < u) (hp : 0 < tkQ L t) : tkQ L t < tkQ L u := by
  induction L with
  | nil => simp [tkQ] at hp
  | cons x L ih =>
    have h1 := fL_mono (x := x) (Rat.le_of_lt h)
    have h2 := tk_mono (L := L) (Rat.le_of_lt h)
    have h3 := fL_nonneg x t
    have h4 := tk_nonneg L t
    simp only [tkQ] at hp ⊢
    by_cases c : 0 < fL x t
    · have := fL_strict h c; grind
    · have := ih (by grind); grind
def Free (L : List Ln) (t u : Rat) : Prop := ∀ x ∈ L, 0 < x.1 → x.2 ≤ t ∨ u ≤ x.2
theorem tk_line {L : List Ln} {t u v : Rat} (h : Free L t u) (h1 : t ≤ v) (h2 : v ≤ u) : tkQ L v = tkQ L t + (v - t) * rtQ L t := by
  induction L with
  | nil => simp only [tkQ, rtQ]; grind
  | cons x L ih =>
    have := fL_line (h x (by simp)) h1 h2
    have := ih fun y hy => h y (by simp [hy])
    simp only [tkQ, rtQ]; grind
theorem rt_pos {L : List Ln} {t : Rat} {x : Ln} (hx : x ∈ L) (h0 : 0 < x.1) (h1 : x.2 ≤ t) : 0 < rtQ L t := by
  induction L with
  | nil => cases hx
  | cons y L ih =>
    have a := rL_nonneg y t
    have b := rt_nonneg L t
    simp only [rtQ]
    rcases List.mem_cons.mp hx with rfl | hx
    · have e2 : 0 < rL x t := by unfold rL; rw [if_pos ⟨h0, h1⟩]; exact qdiv_pos (by grind) h0
      grind
    · have := ih hx; grind
structure Lev (L : List Ln) (d t : Rat) : Prop where
  le : ∀ x ∈ L, x.1 = 0 → t ≤ x.2
  tk : tkQ L t ≤ d
  eq : tkQ L t = d ∨ ∃ x ∈ L, x.1 = 0 ∧ x.2 = t
theorem Lev.lt_no {L : List Ln} {d t u : Rat} (hd : 0 < d) (a : Lev L d t) (b : Lev L d u) : ¬ t < u := by
  intro h
  rcases a.eq with e | ⟨x, hx, h0, e⟩
  · have := tk_strict (L := L) h (by grind)
    have := b.tk
    grind
  · have := b.le x hx h0
    grind
theorem Lev.uniq {L : List Ln} {d t u : Rat} (hd : 0 < d) (a : Lev L d t) (b : Lev L d u) : t = u := by
  have := Lev.lt_no hd a b
  have := Lev.lt_no hd b a
  grind
structure Seg (L : List Ln) (d t d' t' : Rat) : Prop where
  tt : t ≤ t'
  e : d = tkQ L t
  dd : d < d'
  le : ∀ x ∈ L, x.1 = 0 → t' ≤ x.2
  k : (d' = tkQ L t' ∧ t < t' ∧ Free L t t') ∨ (t = t' ∧ ∃ x ∈ L, x.1 = 0 ∧ x.2 = t')
def insQ (q : Rat) (l : List Rat) : List Rat := l.take (l.filter fun o => !decide (q < o)).length ++ q :: l.drop (l.filter fun o => !decide (q < o)).length
def sortQ (some : List Rat) : List Rat := some.foldl (fun l q => insQ q l) []
abbrev Srt (l : List Rat) : Prop := l.Pairwise (· ≤ ·)
theorem split_srt {q : Rat} {l : List Rat} (h : Srt l) : l.take (l.filter fun o => !decide (q < o)).length = (l.filter fun o => !decide (q < o)) ∧ l.drop (l.filter fun o => !decide (q < o)).length = (l.filter fun o => decide (q < o)) := by
  induction l with
  | nil => simp
  | cons x l ih =>
    have ⟨h1, h2⟩ := List.pairwise_cons.mp h
    by_cases c : q < x
    · have e1 : (l.filter fun o => !decide (q < o)) = [] := by
        rw [List.filter_eq_nil_iff]
        intro y hy
        have := h1 y hy
        simp
        grind
      have e2 : (l.filter fun o => decide (q < o)) = l := by
        rw [List.filter_eq_self]
        intro y hy
        have := h1 y hy
        simp
        grind
      simp [c, e1, e2]
    · have := ih h2
      simp [c, this.1, this.2]
theorem mem_ins {q x : Rat} {l : List Rat} : x ∈ insQ q l ↔ x = q ∨ x ∈ l := by
  unfold insQ
  generalize (l.filter fun o => !decide (q < o)).length = n
  have e : x ∈ l ↔ x ∈ l.take n ∨ x ∈ l.drop n := by rw [← List.mem_append, List.take_append_drop]
  rw [e]
  simp
  grind
theorem len_ins {q : Rat} {l : List Rat} : (insQ q l).length = l.length + 1 := by
  unfold insQ
  simp
  omega
theorem srt_ins {q : Rat} {l : List Rat} (h : Srt l) : Srt (insQ q l) := by
  unfold insQ
  rw [(split_srt h).1, (split_srt h).2]
  refine List.pairwise_append.mpr ⟨h.filter _, List.pairwise_cons.mpr ⟨fun y hy => ?_, h.filter _⟩, fun a ha b hb => ?_⟩
  · simp at hy
    grind
  · simp at ha hb
    rcases hb with rfl | hb
    · grind
    · grind
theorem sort_aux {s l : List Rat} (h : Srt l) : Srt (s.foldl (fun l q => insQ q l) l) ∧ (∀ x, x ∈ s.foldl (fun l q => insQ q l) l ↔ x ∈ l ∨ x ∈ s) ∧ (s.foldl (fun l q => insQ q l) l).length = l.length + s.length := by
  induction s generalizing l with
  | nil => simp; exact h
  | cons q s ih =>
    have ⟨a, b, c⟩ := ih (srt_ins (q := q) h)
    refine ⟨a, fun x => ?_, ?_⟩
    · simp only [List.foldl_cons, b, mem_ins, List.mem_cons]
      grind
    · simp only [List.foldl_cons, c, len_ins, List.length_cons]
      omega
theorem srt_sort (s : List Rat) : Srt (sortQ s) := (sort_aux List.Pairwise.nil).1
theorem mem_sort {s : List Rat} {x : Rat} : x ∈ sortQ s ↔ x ∈ s := by rw [sortQ, (sort_aux List.Pairwise.nil).2.1]; simp
theorem len_sort {s : List Rat} : (sortQ s).length = s.length := by rw [sortQ, (sort_aux List.Pairwise.nil).2.2]; simp
theorem srt_get {l : List Rat} (h : Srt l) {i j : Nat} {a b : Rat} (hij : i ≤ j) (ha : l[i]? = some a) (hb : l[j]? = some b) : a ≤ b := by
  rcases Nat.lt_or_eq_of_le hij with c | rfl
  · obtain ⟨h1, rfl⟩ := List.getElem?_eq_some_iff.mp ha
    obtain ⟨h2, rfl⟩ := List.getElem?_eq_some_iff.mp hb
    exact List.pairwise_iff_getElem.mp h i j h1 h2 c
  · rw [ha] at hb
    cases hb
    exact Rat.le_refl
theorem srt_head {l : List Rat} (h : Srt l) {a x : Rat} (ha : l[0]? = some a) (hx : x ∈ l) : a ≤ x := by
  obtain ⟨j, hj⟩ := List.mem_iff_getElem?.mp hx
  exact srt_get h (Nat.zero_le j) ha hj
theorem lev_time {L : List Ln} {d b : Rat} {lt : Option Rat} (hb : tkQ L b < d) {x : Ln} (hx : x ∈ L) (h0 : 0 < x.1) (h1 : x.2 = b)
    (hl : match lt with | none => ∀ y ∈ L, 0 < y.1 → y.2 ≤ b | some u => b ≤ u ∧ d ≤ tkQ L u ∧ Free L b u) :
    tkQ L (b + (d - tkQ L b) / rtQ L b) = d ∧ b < b + (d - tkQ L b) / rtQ L b := by
  have r := rt_pos hx h0 (show x.2 ≤ b by grind)
  have p : 0 < (d - tkQ L b) / rtQ L b := by
    rw [Rat.lt_div_iff r]
    grind
  have m : (d - tkQ L b) / rtQ L b * rtQ L b = d - tkQ L b := by
    have : rtQ L b ≠ 0 := by grind
    grind
  refine ⟨?_, by grind⟩
  have go : ∀ u, b + (d - tkQ L b) / rtQ L b ≤ u → Free L b u → tkQ L (b + (d - tkQ L b) / rtQ L b) = d := by
    intro u hu f
    have l1 := tk_line (v := b + (d - tkQ L b) / rtQ L b) f (by grind) hu
    rw [l1]
    grind
  cases lt with
  | none => exact go _ Rat.le_refl fun y hy hp => .inl (hl y hy hp)
  | some u =>
    obtain ⟨a, b', f⟩ := hl
    refine go u ?_ f
    have l1 := tk_line (v := u) f a Rat.le_refl
    have : ¬ u < b + (d - tkQ L b) / rtQ L b := by
      intro z
      have := Rat.mul_pos (show 0 < b + (d - tkQ L b) / rtQ L b - u by grind) r
      grind
    grind
theorem lev_steep {L : List Ln} {d t : Rat} (e : tkQ L t = d) (h : ∀ x ∈ L, x.1 = 0 → t ≤ x.2) : Lev L d t := ⟨h, by grind, .inl e⟩
theorem lev_flat {L : List Ln} {d t m : Rat} (e : tkQ L t = d) (hm : m ≤ t) {x : Ln} (hx : x ∈ L) (h0 : x.1 = 0) (h1 : x.2 = m) (h : ∀ x ∈ L, x.1 = 0 → m ≤ x.2) : Lev L d m := ⟨h, by have := tk_mono (L := L) hm; grind, .inr ⟨x, hx, h0, h1⟩⟩
theorem lev_only {L : List Ln} {d m : Rat} (hd : 0 < d) (hn : ∀ x ∈ L, ¬ 0 < x.1) {x : Ln} (hx : x ∈ L) (h0 : x.1 = 0) (h1 : x.2 = m) (h : ∀ x ∈ L, x.1 = 0 → m ≤ x.2) : Lev L d m :=
  ⟨h, by rw [tk_zero fun x hx h => absurd h (hn x hx)]; grind, .inr ⟨x, hx, h0, h1⟩⟩
structure Crn (L : List Ln) (M b0 : Rat) (ps : List Rat) (cs : List (Rat × Rat)) (d t : Rat) : Prop where
  hd : cs[0]? = some (0, b0)
  la : cs.getLast? = some (d, t)
  seg : ∀ (i : Nat) (c c' : Rat × Rat), cs[i]? = some c → cs[i + 1]? = some c' → Seg L c.1 c.2 c'.1 c'.2
  ba : ∀ c ∈ cs, ∃ x ∈ L, x.2 = c.2
  e : d = tkQ L t
  dM : d < M
  le : ∀ x ∈ L, x.1 = 0 → t ≤ x.2
  pr : ∀ b ∈ ps, b ≤ t ∨ (∃ x ∈ L, x.1 = 0 ∧ x.2 < b) ∨ M ≤ tkQ L b
section
variable {L : List Ln} {M b0 : Rat} {ps : List Rat} {cs : List (Rat × Rat)} {d t : Rat}
theorem Crn.skip {b : Rat} (h : Crn L M b0 ps cs d t) (hb : b ≤ t ∨ (∃ x ∈ L, x.1 = 0 ∧ x.2 < b) ∨ M ≤ tkQ L b) : Crn L M b0 (ps ++ [b]) cs d t :=
  ⟨h.hd, h.la, h.seg, h.ba, h.e, h.dM, h.le, fun b' hb' => by
    rcases List.mem_append.mp hb' with z | z
    · exact h.pr b' z
    · rw [List.mem_singleton] at z
      exact z ▸ hb⟩
theorem Crn.low {b : Rat} (h : Crn L M b0 ps cs d t) (h0 : ∃ x ∈ L, 0 ≤ x.1 ∧ x.2 = b0) (ht : b0 ≤ t) (hb : tkQ L b = 0) (hu : ∀ x ∈ L, x.1 = 0 → b ≤ x.2) : b ≤ t := by
  obtain ⟨x, hx, h0, e⟩ := h0
  by_cases c : x.1 = 0
  · have := hu x hx c
    grind
  · have : ¬ x.2 < b := fun z => by
      have := tk_pos.mpr ⟨x, hx, by omega, z⟩
      grind
    grind
theorem Crn.same {b : Rat} (h : Crn L M b0 ps cs d t) (hb : tkQ L b = d) (hp : 0 < d) : b ≤ t := by
  have : ¬ t < b := fun z => by
    have := tk_strict (L := L) z (by have := h.e; grind)
    have := h.e
    grind
  grind
theorem Crn.free {b : Rat} (h : Crn L M b0 ps cs d t) (hps : ∀ x ∈ L, 0 < x.1 → x.2 < b → x.2 ∈ ps) (hu : ∀ x ∈ L, x.1 = 0 → b ≤ x.2) (hM : tkQ L b ≤ M) (hMp : 0 < M) : Free L t b := by
  intro x hx hp
  by_cases c : x.2 < b
  · rcases h.pr _ (hps x hx hp c) with z | ⟨y, hy, hy0, hyb⟩ | z
    · exact .inl z
    · have := hu y hy hy0
      grind
    · have := tk_strict (L := L) c (by grind)
      grind
  · exact .inr (by grind)
theorem Crn.fin {u : Rat} (h : Crn L M b0 ps cs d t) (hM : 0 < M) (hps : ∀ x ∈ L, x.2 ∈ ps) (hu : Lev L M u) : Seg L d t M u := by
  have e := h.e
  have dM := h.dM
  have tu : t ≤ u := by
    have : ¬ u < t := fun z => by
      rcases hu.eq with q | ⟨x, hx, h0, q⟩
      · have := tk_mono (L := L) (Rat.le_of_lt z)
        grind
      · have := h.le x hx h0
        grind
    grind
  refine ⟨tu, e, dM, hu.le, ?_⟩
  rcases hu.eq with q | ⟨x, hx, h0, q⟩
  · refine .inl ⟨q.symm, ?_, h.free (fun x hx _ _ => hps x hx) hu.le hu.tk hM⟩
    have : t ≠ u := by rintro rfl; grind
    grind
  · by_cases c : tkQ L u = M
    · refine .inl ⟨c.symm, ?_, h.free (fun x hx _ _ => hps x hx) hu.le hu.tk hM⟩
      have : t ≠ u := by rintro rfl; grind
      grind
    · refine .inr ⟨?_, x, hx, h0, q⟩
      rcases h.pr u (q ▸ hps x hx) with z | ⟨y, hy, hy0, hyb⟩ | z
      · grind
      · have := hu.le y hy hy0
        grind
      · have := hu.tk
        grind
end
end Tr
namespace Tr
def sumQ : List Rat → Rat
  | [] => 0
  | q :: s => q + sumQ s
def flQ : List Ln → Rat → Rat → List Rat
  | [], _, _ => []
  | x :: L, t, r => if 0 < x.1 then fL x t :: flQ L t r else if x.2 = t then r :: flQ L t 0 else 0 :: flQ L t r
def RestQ : List Ln → List Rat → Rat → Prop
  | [], [], _ => True
  | x :: L, f :: fs, t => 0 ≤ f ∧ t ≤ x.1 * f + x.2 ∧ (0 < f → x.1 * f + x.2 = t) ∧ RestQ L fs t
  | _, _, _ => False
def whQ : List Ln → List Rat → Rat
  | x :: L, f :: fs => f * (x.1 * f + x.2) + whQ L fs
  | _, _ => 0
def Pos0 (fs : List Rat) : Prop := ∀ f ∈ fs, 0 ≤ f
def Lok (L : List Ln) : Prop := ∀ x ∈ L, 0 ≤ x.1 ∧ 0 ≤ x.2
def steepQ (L : List Ln) : List Ln := L.map fun x => (2 * x.1, x.2)
theorem scast {s : Int} (h : 0 ≤ s) : (0 : Rat) ≤ (s : Rat) := by exact_mod_cast h
theorem fL_time {x : Ln} {t : Rat} (h : 0 < x.1) : t ≤ x.1 * fL x t + x.2 ∧ (0 < fL x t → x.1 * fL x t + x.2 = t) := by
  have hq : (x.1 : Rat) ≠ 0 := by
    have : x.1 ≠ 0 := by omega
    exact_mod_cast this
  unfold fL
  by_cases c : x.2 < t
  · rw [if_pos ⟨h, c⟩]
    have e : (x.1 : Rat) * ((t - x.2) / x.1) = t - x.2 := by grind
    constructor
    · grind
    · intro _; grind
  · rw [if_neg (by grind)]
    constructor
    · grind
    · intro z; grind
theorem fl_rest {L : List Ln} {t r : Rat} (h1 : ∀ x ∈ L, 0 ≤ x.1) (h2 : ∀ x ∈ L, x.1 = 0 → t ≤ x.2) (hr : 0 ≤ r) : RestQ L (flQ L t r) t := by
  induction L generalizing r with
  | nil => trivial
  | cons x L ih =>
    have i1 := fun (r : Rat) (hr : 0 ≤ r) => ih (r := r) (fun y hy => h1 y (by simp [hy])) (fun y hy => h2 y (by simp [hy])) hr
    simp only [flQ]
    by_cases c : 0 < x.1
    · rw [if_pos c]
      exact ⟨fL_nonneg x t, (fL_time c).1, (fL_time c).2, i1 r hr⟩
    · rw [if_neg c]
      have e : x.1 = 0 := by have := h1 x (by simp); omega
      have ec : (x.1 : Rat) = 0 := by rw [e]; rfl
      have hb := h2 x (by simp) e
      by_cases c2 : x.2 = t
      · rw [if_pos c2]
        exact ⟨hr, by rw [ec]; grind, fun _ => by rw [ec]; grind, i1 0 (by grind)⟩
      · rw [if_neg c2]
        exact ⟨by grind, by rw [ec]; grind, fun z => by grind, i1 r hr⟩
theorem fl_sum0 {L : List Ln} {t : Rat} : sumQ (flQ L t 0) = tkQ L t := by
  induction L with
  | nil => rfl
  | cons x L ih =>
    simp only [flQ, tkQ]
    by_cases c : 0 < x.1
    · rw [if_pos c]; simp only [sumQ, ih]
    · have e : fL x t = 0 := by unfold fL; rw [if_neg (by grind)]
      rw [if_neg c, e]
      split <;> simp only [sumQ, ih]
theorem fl_sum {L : List Ln} {t r : Rat} (h : r = 0 ∨ ∃ x ∈ L, x.1 = 0 ∧ x.2 = t) : sumQ (flQ L t r) = tkQ L t + r := by
  rcases h with rfl | h
  · rw [fl_sum0]; grind
  · induction L with
    | nil => obtain ⟨x, hx, _⟩ := h; cases hx
    | cons x L ih =>
      simp only [flQ, tkQ]
      by_cases c : 0 < x.1
      · rw [if_pos c]
        obtain ⟨y, hy, h0, h1⟩ := h
        rcases List.mem_cons.mp hy with rfl | hy
        · omega
        · simp only [sumQ, ih ⟨y, hy, h0, h1⟩]; grind
      · have e : fL x t = 0 := by unfold fL; rw [if_neg (by grind)]
        rw [if_neg c, e]
        by_cases c2 : x.2 = t
        · rw [if_pos c2]
          simp only [sumQ, fl_sum0]; grind
        · rw [if_neg c2]
          obtain ⟨y, hy, h0, h1⟩ := h
          rcases List.mem_cons.mp hy with rfl | hy
          · exact absurd h1 c2
          · simp only [sumQ, ih ⟨y, hy, h0, h1⟩]; grind
theorem Lev.flows {L : List Ln} {d t : Rat} (h1 : ∀ x ∈ L, 0 ≤ x.1) (h : Lev L d t) : RestQ L (flQ L t (d - tkQ L t)) t ∧ sumQ (flQ L t (d - tkQ L t)) = d := by
  have hr : 0 ≤ d - tkQ L t := by have := h.tk; grind
  refine ⟨fl_rest h1 h.le hr, ?_⟩
  rw [fl_sum]
  · grind
  · rcases h.eq with e | e
    · exact .inl (by grind)
    · exact .inr e
theorem RestQ.len {L : List Ln} {f : List Rat} {t : Rat} (h : RestQ L f t) : f.length = L.length := by
  induction L generalizing f with
  | nil => cases f with
    | nil => rfl
    | cons _ _ => exact h.elim
  | cons x L ih => cases f with
    | nil => exact h.elim
    | cons y f => simp [ih h.2.2.2]
theorem RestQ.pos {L : List Ln} {f : List Rat} {t : Rat} (h : RestQ L f t) : Pos0 f := by
  induction L generalizing f with
  | nil => cases f with
    | nil => intro _ h; cases h
    | cons _ _ => exact h.elim
  | cons x L ih => cases f with
    | nil => exact h.elim
    | cons y f =>
      intro z hz
      rcases List.mem_cons.mp hz with rfl | hz
      · exact h.1
      · exact ih h.2.2.2 z hz
theorem rest_whole {L : List Ln} {f : List Rat} {t : Rat} (h : RestQ L f t) : whQ L f = t * sumQ f := by
  induction L generalizing f with
  | nil => cases f with
    | nil => simp only [whQ, sumQ]; grind
    | cons _ _ => exact h.elim
  | cons x L ih => cases f with
    | nil => exact h.elim
    | cons y f =>
      simp only [whQ, sumQ, ih h.2.2.2]
      have : y * (x.1 * y + x.2) = y * t := by
        by_cases c : 0 < y
        · rw [h.2.2.1 c]
        · have : y = 0 := by have := h.1; grind
          rw [this]; grind
      grind
theorem lane_tangent {s b y g l : Rat} (hs : 0 ≤ s) (hy : 0 ≤ y) (hg : 0 ≤ g) (h1 : l ≤ 2 * s * y + b) (h2 : 0 < y → 2 * s * y + b = l) : y * (s * y + b) + l * (g - y) ≤ g * (s * g + b) := by
  have q := Rat.mul_nonneg hs (show 0 ≤ (g - y) * (g - y) by
    rcases @Rat.le_total 0 (g - y) with z | z
    · exact Rat.mul_nonneg z z
    · have := Rat.mul_nonneg (show 0 ≤ -(g - y) by grind) (show 0 ≤ -(g - y) by grind)
      grind)
  have m := Rat.mul_nonneg hg (show 0 ≤ 2 * s * y + b - l by grind)
  have e : y * (2 * s * y + b) = y * l := by
    by_cases c : 0 < y
    · rw [h2 c]
    · have : y = 0 := by grind
      rw [this]; grind
  grind
theorem best_tangent {L : List Ln} {y g : List Rat} {l : Rat} (hL : Lok L) (h : RestQ (steepQ L) y l) (hg : Pos0 g) (hl : g.length = L.length) : whQ L y + l * (sumQ g - sumQ y) ≤ whQ L g := by
  induction L generalizing y g with
  | nil => cases g with
    | nil => cases y with
      | nil => simp only [whQ, sumQ]; grind
      | cons _ _ => exact h.elim
    | cons _ _ => simp at hl
  | cons x L ih => cases y with
    | nil => exact h.elim
    | cons y ys => cases g with
      | nil => simp at hl
      | cons z g =>
        obtain ⟨a, b, c, d⟩ := h
        have i := ih (g := g) (fun y hy => hL y (by simp [hy])) d (fun y hy => hg y (by simp [hy])) (by simpa using hl)
        simp only [whQ, sumQ]
        have hx := hL x (by simp)
        have e : ((2 * x.1 : Int) : Rat) = 2 * (x.1 : Rat) := by push_cast; rfl
        simp only [e] at b c
        have q := lane_tangent (s := x.1) (b := x.2) (y := y) (g := z) (l := l) (scast hx.1) a (hg z (by simp)) b c
        grind
theorem best_least {L : List Ln} {y g : List Rat} {l : Rat} (hL : Lok L) (h : RestQ (steepQ L) y l) (hg : Pos0 g) (hl : g.length = L.length) (hs : sumQ g = sumQ y) : whQ L y ≤ whQ L g := by
  have := best_tangent hL h hg hl
  rw [hs] at this
  grind
theorem tk_append {L M : List Ln} {t : Rat} : tkQ (L ++ M) t = tkQ L t + tkQ M t := by
  induction L with
  | nil => simp only [List.nil_append, tkQ]; grind
  | cons x L ih => simp only [List.cons_append, tkQ, ih]; grind
theorem Lev.more {L : List Ln} {x : Ln} {d t t' : Rat} (hd : 0 < d) (h : Lev L d t) (h' : Lev (L ++ [x]) d t') : ¬ t < t' := by
  intro z
  rcases h.eq with e | ⟨y, hy, h0, e⟩
  · have a := tk_append (L := L) (M := [x]) (t := t)
    have b := tk_nonneg [x] t
    have c := tk_strict (L := L ++ [x]) z (by grind)
    have := h'.tk
    grind
  · have := h'.le y (by simp [hy]) h0
    grind
theorem sum_append {f g : List Rat} : sumQ (f ++ g) = sumQ f + sumQ g := by
  induction f with
  | nil => simp only [List.nil_append, sumQ]; grind
  | cons x L ih => simp only [List.cons_append, sumQ, ih]; grind
end Tr
namespace Tr
def leftQ : List Ln → List Rat → List Ln
  | x :: L, f :: fs => (x.1, x.1 * f + x.2) :: leftQ L fs
  | _, _ => []
def tmsQ : List Ln → List Rat → List Rat
  | x :: L, f :: fs => (x.1 * f + x.2) :: tmsQ L fs
  | _, _ => []
theorem rest_tk {L : List Ln} {z : List Rat} {t : Rat} (h1 : ∀ x ∈ L, 0 ≤ x.1) (h : RestQ L z t) : (∀ x ∈ L, x.1 = 0 → t ≤ x.2) ∧ ((sumQ z = tkQ L t) ∨ (tkQ L t < sumQ z ∧ ∃ x ∈ L, x.1 = 0 ∧ x.2 = t)) := by
  induction L generalizing z with
  | nil => cases z with
    | nil => exact ⟨fun x hx => (by cases hx), .inl rfl⟩
    | cons _ _ => exact h.elim
  | cons x L ih => cases z with
    | nil => exact h.elim
    | cons y z =>
      obtain ⟨a, b, c, d⟩ := h
      obtain ⟨i1, i2⟩ := ih (fun y hy => h1 y (by simp [hy])) d
      have hx0 := h1 x (by simp)
      by_cases hs : 0 < x.1
      · have e : y = fL x t := by
          have hq : (x.1 : Rat) ≠ 0 := by
            have : x.1 ≠ 0 := by omega
            exact_mod_cast this
          have hqp : (0 : Rat) < x.1 := by exact_mod_cast hs
          unfold fL
          by_cases c1 : 0 < y
          · have e := c c1
            have := Rat.mul_pos hqp c1
            rw [if_pos ⟨hs, by grind⟩]
            grind
          · have y0 : y = 0 := by grind
            subst y0
            rw [if_neg (by grind)]
        refine ⟨fun v hv h0 => ?_, ?_⟩
        · rcases List.mem_cons.mp hv with rfl | hv
          · omega
          · exact i1 v hv h0
        · simp only [sumQ, tkQ, e]
          rcases i2 with i2 | ⟨i2, v, hv, h0⟩
          · exact .inl (by rw [i2])
          · exact .inr ⟨by grind, v, by simp [hv], h0⟩
      · have e0 : x.1 = 0 := by omega
        have ec : (x.1 : Rat) = 0 := by rw [e0]; rfl
        have ef : fL x t = 0 := by unfold fL; rw [if_neg (by grind)]
        rw [ec] at b c
        refine ⟨fun v hv h0 => ?_, ?_⟩
        · rcases List.mem_cons.mp hv with rfl | hv
          · grind
          · exact i1 v hv h0
        · simp only [sumQ, tkQ, ef]
          by_cases c1 : 0 < y
          · have := c c1
            refine .inr ⟨?_, x, by simp, e0, by grind⟩
            rcases i2 with i2 | ⟨i2, _⟩ <;> grind
          · have y0 : y = 0 := by grind
            rcases i2 with i2 | ⟨i2, v, hv, h0⟩
            · exact .inl (by grind)
            · exact .inr ⟨by grind, v, by simp [hv], h0⟩
theorem rest_lev {L : List Ln} {z : List Rat} {t : Rat} (h1 : ∀ x ∈ L, 0 ≤ x.1) (h : RestQ L z t) : Lev L (sumQ z) t := by
  obtain ⟨a, b⟩ := rest_tk h1 h
  rcases b with b | ⟨b, c⟩
  · exact ⟨a, by grind, .inl b.symm⟩
  · exact ⟨a, by grind, .inr c⟩
def insF (ts : List Rat) (p : List Nat) (i : Nat) : List Nat := p.take (p.filter fun j => decide (ts.getD i 0 < ts.getD j 0)).length ++ i :: p.drop (p.filter fun j => decide (ts.getD i 0 < ts.getD j 0)).length
def fallQ (ts : List Rat) : List Nat := (List.range ts.length).foldl (insF ts) []
theorem fall_perm_aux {ts : List Rat} (n : Nat) : List.Perm ((List.range n).foldl (insF ts) []) (List.range n) := by
  induction n with
  | zero => exact .refl _
  | succ n ih =>
    rw [List.range_succ, List.foldl_append]
    simp only [List.foldl_cons, List.foldl_nil]
    generalize (List.range n).foldl (insF ts) [] = p at ih
    unfold insF
    refine List.perm_middle.trans ?_
    rw [List.take_append_drop]
    exact (List.perm_append_singleton n p).symm.trans (ih.append_right [n])
theorem fall_perm {ts : List Rat} : List.Perm (fallQ ts) (List.range ts.length) := fall_perm_aux _
def ledG (y : List Rat) : List Nat → Rat → List Rat → List Rat
  | [], _, g => g
  | j :: p, r, g => ledG y p (r - (if r < y.getD j 0 then r else y.getD j 0)) (g.set j (if r < y.getD j 0 then r else y.getD j 0))
def ledQ (y ts : List Rat) (a : Rat) : List Rat := ledG y (fallQ ts) a (List.replicate y.length 0)
theorem led_len {y : List Rat} {p : List Nat} {r : Rat} {g : List Rat} : (ledG y p r g).length = g.length := by
  induction p generalizing r g with
  | nil => rfl
  | cons j p ih => rw [ledG, ih, List.length_set]
theorem getD_nonneg {y : List Rat} (hy : Pos0 y) (j : Nat) : 0 ≤ y.getD j 0 := by
  rw [List.getD_eq_getElem?_getD]
  cases h : y[j]? with
  | none => exact Rat.le_refl
  | some q => exact hy q (List.mem_of_getElem? h)
theorem set_sum {g : List Rat} {j : Nat} {v : Rat} (hj : j < g.length) : sumQ (g.set j v) = sumQ g - g.getD j 0 + v := by
  induction g generalizing j with
  | nil => simp at hj
  | cons q g ih => cases j with
    | zero => simp [sumQ]; grind
    | succ j =>
      have := ih (j := j) (by simpa using hj)
      simp only [List.set_cons_succ, sumQ, this, List.getD_cons_succ]
      grind
def sumJ (y : List Rat) : List Nat → Rat
  | [] => 0
  | j :: p => y.getD j 0 + sumJ y p
theorem led_facts {y : List Rat} (hy : Pos0 y) {p : List Nat} (hn : p.Nodup) {r : Rat} {g : List Rat} (hg : Pos0 g) (hgl : g.length = y.length) (hp : ∀ j ∈ p, j < y.length ∧ g.getD j 0 = 0) (h0 : 0 ≤ r) (h1 : r ≤ sumJ y p) :
    Pos0 (ledG y p r g) ∧ sumQ (ledG y p r g) = sumQ g + r := by
  induction p generalizing r g with
  | nil =>
    simp only [sumJ] at h1
    exact ⟨hg, by simp only [ledG]; grind⟩
  | cons j p ih =>
    have yj := getD_nonneg hy j
    have ⟨n1, n2⟩ := List.nodup_cons.mp hn
    simp only [sumJ] at h1
    obtain ⟨hj, hgj⟩ := hp j (by simp)
    generalize hv : (if r < y.getD j 0 then r else y.getD j 0) = v
    have v0 : 0 ≤ v := by rw [← hv]; split <;> grind
    have vr : v ≤ r := by rw [← hv]; split <;> grind
    have vs : r - v ≤ sumJ y p := by
      rw [← hv]
      split
      · have : ∀ p, 0 ≤ sumJ y p := fun p => by
          induction p with
          | nil => exact Rat.le_refl
          | cons i p ih => have := getD_nonneg hy i; simp only [sumJ]; grind
        have := this p
        grind
      · grind
    have pg : Pos0 (g.set j v) := fun q hq => by
      rcases List.mem_or_eq_of_mem_set hq with z | z
      · exact hg q z
      · rw [z]; exact v0
    obtain ⟨i1, i2⟩ := ih n2 (r := r - v) (g := g.set j v) pg (by simpa using hgl) (fun i hi => by
      obtain ⟨a, b⟩ := hp i (by simp [hi])
      refine ⟨a, ?_⟩
      have ne : j ≠ i := fun z => n1 (z ▸ hi)
      rw [List.getD_eq_getElem?_getD, List.getElem?_set_ne ne, ← List.getD_eq_getElem?_getD]
      exact b) (by grind) vs
    simp only [ledG, hv]
    refine ⟨i1, ?_⟩
    rw [i2, set_sum (by omega), hgj]
    grind
theorem sumJ_perm {y : List Rat} {p q : List Nat} (h : List.Perm p q) : sumJ y p = sumJ y q := by
  induction h with
  | nil => rfl
  | cons x _ ih => simp only [sumJ, ih]
  | swap x z l => simp only [sumJ]; grind
  | trans _ _ i1 i2 => rw [i1, i2]
theorem sumJ_append {y : List Rat} {p q : List Nat} : sumJ y (p ++ q) = sumJ y p + sumJ y q := by
  induction p with
  | nil => simp only [List.nil_append, sumJ]; grind
  | cons j p ih => simp only [List.cons_append, sumJ, ih]; grind
theorem sumJ_take {y : List Rat} (n : Nat) (hn : n ≤ y.length) : sumJ y (List.range n) = sumQ (y.take n) := by
  induction n with
  | zero => simp [sumJ, sumQ]
  | succ n ih =>
    rw [List.range_succ, sumJ_append, ih (by omega), List.take_succ, List.getElem?_eq_getElem (by omega), sum_append]
    simp [sumJ, sumQ, show n < y.length by omega]
theorem sumJ_all {y : List Rat} : sumJ y (List.range y.length) = sumQ y := by rw [sumJ_take _ (Nat.le_refl _), List.take_length]
theorem rep_pos {n : Nat} : Pos0 (List.replicate n (0 : Rat)) := fun q hq => by rw [(List.mem_replicate.mp hq).2]; exact Rat.le_refl
theorem rep_sum {n : Nat} : sumQ (List.replicate n (0 : Rat)) = 0 := by
  induction n with
  | zero => rfl
  | succ n ih => rw [List.replicate_succ, sumQ, ih]; grind
theorem led_all {y ts : List Rat} {a : Rat} (hy : Pos0 y) (hl : ts.length = y.length) (h0 : 0 ≤ a) (h1 : a ≤ sumQ y) : Pos0 (ledQ y ts a) ∧ sumQ (ledQ y ts a) = a ∧ (ledQ y ts a).length = y.length := by
  have P := fall_perm (ts := ts)
  rw [hl] at P
  have f := led_facts hy (p := fallQ ts) (P.nodup_iff.mpr List.nodup_range) (r := a) (g := List.replicate y.length 0) rep_pos (by simp) (fun j hj => by
    have := List.mem_range.mp (P.mem_iff.mp hj)
    exact ⟨this, by simp [List.getD_eq_getElem?_getD, this]⟩) h0 (by rw [sumJ_perm P, sumJ_all]; exact h1)
  refine ⟨f.1, ?_, by simp [ledQ, led_len]⟩
  unfold ledQ
  rw [f.2, rep_sum]
  grind
def IsZ (Q : Nat) (q : Rat) : Prop := ∃ n : Int, q * (Q : Rat) = n
theorem IsZ.sub {Q : Nat} {p q : Rat} (h : IsZ Q p) (h' : IsZ Q q) : IsZ Q (p - q) := by
  obtain ⟨a, ha⟩ := h
  obtain ⟨b, hb⟩ := h'
  refine ⟨a - b, ?_⟩
  push_cast
  grind
theorem IsZ.up {Q k : Nat} {q : Rat} (h : IsZ Q q) : IsZ (Q * k) q := by
  obtain ⟨a, ha⟩ := h
  refine ⟨a * k, ?_⟩
  push_cast
  grind
theorem IsZ.zero {Q : Nat} : IsZ Q 0 := ⟨0, by simp⟩
theorem led_isZ {Q : Nat} {y : List Rat} (hy : ∀ q ∈ y, IsZ Q q) {p : List Nat} {r : Rat} {g : List Rat} (hr : IsZ Q r) (hg : ∀ q ∈ g, IsZ Q q) : ∀ q ∈ ledG y p r g, IsZ Q q := by
  induction p generalizing r g with
  | nil => exact hg
  | cons j p ih =>
    have yj : IsZ Q (y.getD j 0) := by
      rw [List.getD_eq_getElem?_getD]
      cases h : y[j]? with
      | none => exact .zero
      | some q => exact hy q (List.mem_of_getElem? h)
    have v : IsZ Q (if r < y.getD j 0 then r else y.getD j 0) := by split <;> assumption
    refine ih (hr.sub v) fun q hq => ?_
    rcases List.mem_or_eq_of_mem_set hq with z | z
    · exact hg q z
    · rw [z]; exact v
theorem le_sum {g : List Rat} (hg : Pos0 g) : ∀ q ∈ g, q ≤ sumQ g := by
  have nn : ∀ g : List Rat, Pos0 g → 0 ≤ sumQ g := fun g => by
    induction g with
    | nil => intro _; exact Rat.le_refl
    | cons a g ih =>
      intro h
      have := ih fun q hq => h q (by simp [hq])
      have := h a (by simp)
      simp only [sumQ]; grind
  induction g with
  | nil => intro q hq; cases hq
  | cons a g ih =>
    intro q hq
    have h1 := nn g fun q hq => hg q (by simp [hq])
    have h2 := hg a (by simp)
    simp only [sumQ]
    rcases List.mem_cons.mp hq with rfl | hq
    · grind
    · have := ih (fun q hq => hg q (by simp [hq])) q hq
      grind
end Tr
namespace Tr
def Fine (L : List Ln) : Prop := ∀ x ∈ L, (x.1 = 0 ∨ ∃ m : Int, 0 < x.1 ∧ 0 < m ∧ m ≤ 100 ∧ m * x.1 = 200) ∧ ∃ b : Int, x.2 = (b : Rat)
theorem fine_fL {x : Ln} {t : Rat} {m : Int} (h0 : 0 < x.1) (hm : m * x.1 = 200) (h : x.2 < t) : 200 * fL x t = (t - x.2) * m := by
  have hq : (x.1 : Rat) ≠ 0 := by
    have : x.1 ≠ 0 := by omega
    exact_mod_cast this
  have e : (m : Rat) * (x.1 : Rat) = 200 := by exact_mod_cast hm
  unfold fL
  rw [if_pos ⟨h0, h⟩, ← e]
  grind
theorem tk_lin {L : List Ln} (h : Fine L) (t : Rat) : ∃ R N : Int, 0 ≤ R ∧ R ≤ 100 * L.length ∧ 200 * tkQ L t = t * R - N ∧ (0 < tkQ L t → 0 < R) := by
  induction L with
  | nil => exact ⟨0, 0, by omega, by show (0:Int) ≤ 100 * ((0:Nat):Int); omega, by simp only [tkQ]; grind, fun z => by simp only [tkQ] at z; grind⟩
  | cons x L ih =>
    obtain ⟨R, N, r0, r1, r2, r3⟩ := ih fun y hy => h y (by simp [hy])
    obtain ⟨hx, b, hb⟩ := h x (by simp)
    by_cases c : 0 < x.1 ∧ x.2 < t
    · rcases hx with hx | ⟨m, h1, h2, h3, h4⟩
      · omega
      · have e := fine_fL c.1 h4 c.2
        refine ⟨R + m, N + b * m, by omega, by simp; omega, ?_, fun _ => by omega⟩
        simp only [tkQ]
        push_cast
        rw [hb] at e
        grind
    · have e : fL x t = 0 := by unfold fL; rw [if_neg c]
      refine ⟨R, N, r0, by simp; omega, ?_, fun z => r3 ?_⟩
      · simp only [tkQ, e]; grind
      · simp only [tkQ, e] at z; grind
theorem fl_isZ {L : List Ln} (h : Fine L) {t r : Rat} {k : Nat} (ht : ∃ n : Int, t * (k : Rat) = n) (hr : IsZ (200 * k) r) : ∀ q ∈ flQ L t r, IsZ (200 * k) q := by
  induction L generalizing r with
  | nil => intro q hq; cases hq
  | cons x L ih =>
    have i1 := fun (r : Rat) (hr : IsZ (200 * k) r) => ih (fun y hy => h y (by simp [hy])) (r := r) hr
    obtain ⟨hx, b, hb⟩ := h x (by simp)
    have z : IsZ (200 * k) (fL x t) := by
      by_cases c : 0 < x.1 ∧ x.2 < t
      · rcases hx with hx | ⟨m, h1, h2, h3, h4⟩
        · omega
        · have e := fine_fL c.1 h4 c.2
          obtain ⟨n, hn⟩ := ht
          refine ⟨(n - b * k) * m, ?_⟩
          rw [hb] at e
          push_cast
          have : fL x t * (200 * (k : Rat)) = (200 * fL x t) * k := by grind
          rw [this, e]
          grind
      · have e : fL x t = 0 := by unfold fL; rw [if_neg c]
        rw [e]; exact .zero
    intro q hq
    simp only [flQ] at hq
    split at hq
    · rcases List.mem_cons.mp hq with rfl | hq
      · exact z
      · exact i1 r hr q hq
    · split at hq
      · rcases List.mem_cons.mp hq with rfl | hq
        · exact hr
        · exact i1 0 .zero q hq
      · rcases List.mem_cons.mp hq with rfl | hq
        · exact .zero
        · exact i1 r hr q hq
theorem rat_num {d : Rat} : d * (d.den : Rat) = d.num := by
  have h := Rat.mkRat_self d
  have e : d = (d.num : Rat) / (d.den : Rat) := by rw [← Rat.mkRat_eq_div, h]
  have n : (d.den : Rat) ≠ 0 := by
    have := d.den_nz
    exact_mod_cast this
  conv => lhs; rw [e]
  grind
theorem best_isZ {L : List Ln} (h : Fine L) (hn : 1 ≤ L.length) {d t : Rat} (hd : 0 < d) (hl : Lev L d t) : ∃ k : Nat, 0 < k ∧ k ≤ 100 * L.length * d.den ∧ ∀ q ∈ flQ L t (d - tkQ L t), IsZ (200 * k) q := by
  obtain ⟨R, N, r0, r1, r2, r3⟩ := tk_lin h t
  have dn := rat_num (d := d)
  have dp := d.den_pos
  by_cases c : tkQ L t = d
  · have rp := r3 (by rw [c]; exact hd)
    refine ⟨R.toNat * d.den, Nat.mul_pos (by omega) dp, Nat.mul_le_mul_right _ (by omega), fl_isZ h ?_ ?_⟩
    · refine ⟨200 * d.num + N * d.den, ?_⟩
      have eR : ((R.toNat : Nat) : Rat) = (R : Rat) := by
        have : ((R.toNat : Nat) : Int) = R := by omega
        exact_mod_cast this
      push_cast
      rw [eR]
      have : t * (R : Rat) = 200 * d + N := by rw [← c]; grind
      have e2 : t * ((R : Rat) * (d.den : Rat)) = (t * R) * d.den := by grind
      rw [e2, this]
      grind
    · rw [c, show d - d = 0 by grind]; exact .zero
  · rcases hl.eq with z | ⟨x, hx, h0, hb⟩
    · exact absurd z c
    · obtain ⟨_, b, hb'⟩ := h x hx
      have tb : t = (b : Rat) := by rw [← hb, hb']
      refine ⟨d.den, dp, ?_, fl_isZ h ⟨b * d.den, by rw [tb]; push_cast; rfl⟩ ?_⟩
      · have := Nat.mul_le_mul_right d.den (show 1 ≤ 100 * L.length by omega)
        omega
      · refine ⟨200 * d.num - d.den * (b * R - N), ?_⟩
        push_cast
        have : (d - tkQ L t) * (200 * (d.den : Rat)) = 200 * (d * d.den) - d.den * (200 * tkQ L t) := by grind
        rw [this, r2, dn, tb]
end Tr

namespace Tr
open PySem PySem.Spec L2
variable [ProtC]
section
variable {X : Cx} {C : Cs} {W : WX} {pos : Pos} {a b c : Expr} {f g h : DF}
theorem dt_chain {op op' : CmpOp} {F F' : D → D → Wp D} {r r' : R2} (ho : OpR X (compareOp op) r) (hF : Op2 X C r F) (ho' : OpR X (compareOp op') r') (hF' : Op2 X C r' F') (ha : DE X C W a f) (hb : DE X C W b g) (hc : DE X C W c h)
    (hm : lastMarks [op, op'] [b, c] = false := by with_unfolding_all rfl) :
    DT X C W (.Compare a [op, op'] [b, c] pos) (tBv (dChain F F' f g h)) := by
  obtain ⟨ta, pa, qa⟩ := ha
  obtain ⟨tb, pb, qb⟩ := hb
  obtain ⟨tc, pc, qc⟩ := hc
  refine ⟨_, pt_chain ho ho' pa pb pc hm, fun S0 H0 Pb σ H δ Q R hh => qa S0 H0 Pb σ H δ _ R ((f δ).mono (fun d hh x H1 g1 dx => ?_) (fun _ z => z) hh)⟩
  refine qb S0 H0 Pb σ H1 δ _ (R.gr g1) ((g δ).mono (fun e hh y H2 g2 dy => ?_) (fun _ z => z.gr g1) hh)
  refine hF x y H2 d e _ S0 H0 Pb σ δ _ (R.gr (g1.trans g2)) (Le.dp (hid_le g2.le fun _ z => z) d x dx) dy ((F d e).mono (fun z hz v H3 g3 dz => ?_) (fun _ z => z) hh)
  obtain ⟨k, rfl, hk⟩ := asB_inv hz
  cases dz
  refine ⟨k, rfl, ?_⟩
  cases k with
  | false => exact ⟨false, rfl, hk H3 (g1.trans (g2.trans g3))⟩
  | true =>
    refine qc S0 H0 Pb σ H3 δ _ (R.gr (g1.trans (g2.trans g3))) ((h δ).mono (fun x' hx v' H4 g4 dx' => ?_) (fun _ z => z.gr (g1.trans (g2.trans g3))) hk)
    refine hF' y v' H4 e x' _ S0 H0 Pb σ δ _ (R.gr (g1.trans (g2.trans (g3.trans g4)))) (Le.dp (hid_le (g3.trans g4).le fun _ z => z) e y dy) dx' ((F' e x').mono (fun d' hd v2 H5 g5 dp => ?_) (fun _ z => z.gr (g1.trans (g2.trans (g3.trans g4)))) hx)
    obtain ⟨k', rfl, hk'⟩ := asB_inv hd
    cases dp
    exact ⟨k', rfl, hk' H5 ((g1.trans (g2.trans (g3.trans g4))).trans g5)⟩
end
section
variable {α : Type} {g : α → D} {xs : List α} {q : BF} {F : SF} {ko : Out → Prop} {w : Exn → Prop} {δ : De}
theorem loop_pre (I : List α → De → Prop) (h0 : I [] δ)
    (hs : ∀ pre x post δ, xs = pre ++ x :: post → I pre δ → ∃ δ1, q (g x) δ = some δ1 ∧ (F δ1).run (fun o => match o with
      | .nx δ' => I (pre ++ [x]) δ'
      | .ct δ' => I (pre ++ [x]) δ'
      | .bk δ' => ko (.nx δ')
      | .rt d => ko (.rt d)) w)
    (hd : ∀ δ, I xs δ → ko (.nx δ)) : (sLoop q F (xs.map g) δ).run ko w := by
  refine loop_inv (fun i δ => I (xs.take i) δ) (by simpa using h0) (fun i δ d hi hI => ?_) (fun δ h => hd δ (by simpa using h))
  rw [List.getElem?_map] at hi
  cases hx : xs[i]? with
  | none => rw [hx] at hi; cases hi
  | some x =>
    rw [hx] at hi
    obtain ⟨hl, hx'⟩ := List.getElem?_eq_some_iff.mp hx
    have e : xs = xs.take i ++ x :: xs.drop (i + 1) := by rw [← hx', ← List.drop_eq_getElem_cons hl, List.take_append_drop]
    have e2 : xs.take (i + 1) = xs.take i ++ [x] := by rw [List.take_succ, hx]; rfl
    have := hs _ x _ δ e hI
    rw [← e2] at this
    cases hi
    exact this
variable {t : TF} {f : DF} {k : List D → Prop} {p : α → Bool} {h : α → D}
theorem lc_run (hs : ∀ x ∈ xs, ∃ δ1, q (g x) δ = some δ1 ∧ (∀ kb : Bool → Prop, kb (p x) → (t δ1).run kb w) ∧ (p x = true → ∀ kd : D → Prop, kd (h x) → (f δ1).run kd w)) (hk : k ((xs.filter p).map h)) : (lcLoop q t f δ (xs.map g)).run k w := by
  induction xs generalizing k with
  | nil => simpa using hk
  | cons x xs ih =>
    obtain ⟨δ1, e, h1, h2⟩ := hs x (by simp)
    rw [List.map_cons, rw_lc1, e]
    simp only [optW_some, pure_bind, run_bind]
    refine h1 _ ?_
    cases c : p x with
    | true =>
      simp only [if_true]
      simp only [run_bind]
      refine h2 c _ (ih (fun y hy => hs y (by simp [hy])) ?_)
      simpa [c] using hk
    | false =>
      simp only [Bool.false_eq_true, if_false]
      refine ih (fun y hy => hs y (by simp [hy])) ?_
      simpa [c] using hk
theorem ga_run {kd : D → Prop} (hs : ∀ x ∈ xs, ∃ δ1, q (g x) δ = some δ1 ∧ (∀ kb : Bool → Prop, kb true → (t δ1).run kb w) ∧ (∀ kd : D → Prop, kd (.bool (p x)) → (f δ1).run kd w)) (hk : kd (.bool (xs.all p))) : (gaLoop true q t f δ (xs.map g)).run kd w := by
  induction xs with
  | nil => simpa using hk
  | cons x xs ih =>
    obtain ⟨δ1, e, h1, h2⟩ := hs x (by simp)
    rw [List.map_cons, rw_ga1, e]
    simp only [optW_some, pure_bind, run_bind]
    refine h1 _ ?_
    simp only [if_true, run_bind]
    refine h2 _ ?_
    cases c : p x with
    | true =>
      simp only [if_true]
      exact ih (fun y hy => hs y (by simp [hy])) (by simpa [c] using hk)
    | false =>
      simp only [Bool.false_eq_true, if_false]
      simpa [c] using hk
end
theorem cut_take {A : Type} {xs : List A} {n : Nat} : cutD xs none (some (n : Int)) = xs.take n := by
  unfold cutD
  rw [HT.sIx_nat, HT.sIx_none]
  by_cases h : n ≤ xs.length
  · simp [Nat.min_eq_left h]
  · simp [Nat.min_eq_right (Nat.le_of_lt (Nat.lt_of_not_le h)), List.take_of_length_le (Nat.le_of_lt (Nat.lt_of_not_le h))]
theorem cut_drop {A : Type} {xs : List A} {n : Nat} : cutD xs (some (n : Int)) none = xs.drop n := by
  unfold cutD
  rw [HT.sIx_nat, HT.sIx_none]
  by_cases h : n ≤ xs.length
  · rw [Nat.min_eq_left h, List.take_of_length_le (by simp)]
  · simp [Nat.min_eq_right (Nat.le_of_lt (Nat.lt_of_not_le h)), List.drop_eq_nil_of_le (Nat.le_of_lt (Nat.lt_of_not_le h))]
theorem lt_line {n : Nat} (h : n < 1000000) : n ≤ sizeLine := by show n ≤ 16777216; omega
theorem allD_only {ds : List D} : allD (ds.map Ar.d) = .pure ds := by
  have := allD_map (ds := ds) (as := [])
  rw [List.append_nil] at this
  rw [this]
  simp [rw_allD0]
@[simp] theorem rw_tupL {ds : List D} : bTuple [.list ds] = .pure (.tuple ds) := rfl
@[simp] theorem rw_tupT {ds : List D} : bTuple [.tuple ds] = .pure (.tuple ds) := rfl
@[simp] theorem rw_listL {ds : List D} : bList [.list ds] = .pure (.list ds) := rfl
@[simp] theorem rw_listT {ds : List D} : bList [.tuple ds] = .pure (.list ds) := rfl
@[simp] theorem rw_dOix {i : Nat} {f : DF} {δ : De} : dOix i f δ = (slotO δ[i]?).bind fun ds => (f δ).bind fun k => (asI1 k).bind fun k => optW (atI ds k) := rfl
section
variable {q : BF} {w : Exn → Prop} {δ : De} {t : TF} {f : DF}
theorem lc_ex {xs : List D} {P : D → Prop} {k : List D → Prop} (hs : ∀ x ∈ xs, ∃ δ1, q x δ = some δ1 ∧ (∀ kb : Bool → Prop, kb true → (t δ1).run kb w) ∧ (∀ kd : D → Prop, (∀ d, P d → kd d) → (f δ1).run kd w)) (hk : ∀ ds : List D, ds.length = xs.length → (∀ d ∈ ds, P d) → k ds) : (lcLoop q t f δ xs).run k w := by
  induction xs generalizing k with
  | nil => exact hk [] rfl (fun _ h => by cases h)
  | cons x xs ih =>
    obtain ⟨δ1, e, h1, h2⟩ := hs x (by simp)
    rw [rw_lc1, e]
    simp only [optW_some, pure_bind, run_bind]
    refine h1 _ ?_
    simp only [if_true]
    simp only [run_bind]
    refine h2 _ fun d hd => ih (fun y hy => hs y (by simp [hy])) fun ds hl hp => ?_
    refine hk (d :: ds) (by simp [hl]) fun y hy => ?_
    rcases List.mem_cons.mp hy with rfl | hy
    · exact hd
    · exact hp y hy
end
theorem pic {α : Type} {g : α → D} {P : α → Prop} {ds : List D} (h : ∀ d ∈ ds, ∃ x, P x ∧ d = g x) : ∃ xs : List α, ds = xs.map g ∧ ∀ x ∈ xs, P x := by
  induction ds with
  | nil => exact ⟨[], rfl, fun _ h => by cases h⟩
  | cons d ds ih =>
    obtain ⟨x, hx, rfl⟩ := h d (by simp)
    obtain ⟨xs, rfl, hxs⟩ := ih fun d hd => h d (by simp [hd])
    exact ⟨x :: xs, rfl, fun y hy => by
      rcases List.mem_cons.mp hy with rfl | hy
      · exact hx
      · exact hxs y hy⟩
theorem lo62_le {i : Int} (h0 : 0 ≤ i) (h1 : i < 1000000) : lo62 i := by
  unfold lo62
  constructor <;> omega
end Tr

namespace Tr
open PySem PySem.Spec PyProof.Rows L2
variable [ProtC]
def SqB (t : Bool) (K : PySem.W.Frag) (H : Hp) (a : Addr) (xs : List V) : Prop := match t with
  | true => SqT K H a xs
  | false => SqL K H a xs
def IsIt (t : Bool) (h : Heap) (it l : Addr) (i : Nat) : Prop := match t with
  | true => h.IsTupleIter it l i
  | false => h.IsListIter it l i
def IsIs (t : Bool) (h : Heap) (l : Addr) (xs : Array Value) : Prop := match t with
  | true => h.IsTuple l xs
  | false => h.IsList l xs
theorem drawsB {prog : Program} {w : World} {A : Around} (t : Bool) (hh : A.handled = none) (it l : Addr) (hne : l ≠ it) (items : Array Value) :
    Draws prog w A it [it, l] items.size (fun i v => items[i]? = some v) (fun i h => IsIt t h it l i ∧ IsIs t h l items) := by
  cases t
  · exact Draws.list hh it l hne items
  · exact Draws.tuple hh it l hne items
theorem IsIt.at' {t : Bool} {h h' : Heap} {it l : Addr} {i : Nat} (q : IsIt t h it l i) (k : ∀ o, h.get? it = some o → h'.get? it = some o) : IsIt t h' it l i := by
  cases t
  · exact Heap.IsListIter.at q k
  · exact Heap.IsTupleIter.at q k
theorem IsIt.obj {t : Bool} {h : Heap} {it l : Addr} {i : Nat} (q : IsIt t h it l i) : ∃ o, h.get? it = some o ∧ ∃ fs, o.data = .fields fs := by
  cases t <;> (obtain ⟨o, e, _, d⟩ := q; exact ⟨o, e, _, d⟩)
section
variable {X : Cx} {pins : List (Addr × Obj)} {σ : L2.St} {H : Hp} {s : Shared}
theorem seqB (I : Inv X pins σ H s) {t : Bool} {a : Addr} {xs : List V} (h : SqB t X.K H a xs) : ∃ its : List Value, Vals xs its ∧ IsIs t s.heap a its.toArray ∧ xs.length ≤ sizeLine := by
  cases t
  · obtain ⟨its, r, p, z⟩ := I.list h
    exact ⟨its, r, p.isList, z⟩
  · obtain ⟨its, r, p, z⟩ := I.tuple h
    exact ⟨its, r, p, z⟩
theorem seqB_inj (I : Inv X pins σ H s) {t : Bool} {a : Addr} {xs ys : List V} (h : SqB t X.K H a xs) (h' : SqB t X.K H a ys) : xs = ys := by
  cases t
  · exact I.list_inj h h'
  · exact I.tuple_inj h h'
theorem IsIs.lt {t : Bool} {h : Heap} {a : Addr} {xs : Array Value} (q : IsIs t h a xs) : a < h.objs.size := by
  cases t
  · obtain ⟨_, e, _⟩ := q; exact Heap.lt_size e
  · obtain ⟨_, e, _⟩ := q; exact Heap.lt_size e
end
def ItB (t1 t2 : Bool) (K : PySem.W.Frag) (a b : Addr) : It :=
  ⟨fun i H => ∃ (xs ys : List V) (x y : V), SqB t1 K H a xs ∧ SqB t2 K H b ys ∧ xs[i]? = some x ∧ ys[i]? = some y,
    fun i H v H' => ∃ T x y, v = .ref T ∧ H T = none ∧ H' = upd H T (.tup [x, y]) ∧ (∀ xs, SqB t1 K H a xs → xs[i]? = some x) ∧ ∀ ys, SqB t2 K H b ys → ys[i]? = some y,
    fun i H => ∃ xs ys : List V, SqB t1 K H a xs ∧ SqB t2 K H b ys ∧ i ≤ xs.length ∧ i ≤ ys.length ∧ (i = xs.length ∨ i = ys.length)⟩
theorem turn_zipB {P : Program} {w : World} {K : PySem.W.Frag} {elts : List Expr} {kk : Nat} {tpos : Pos} {t1 t2 : Bool} {a b z TI TO i1 i2 : Addr} (D : ZipSep2 z TI TO i1 i2 [i1, a] [i2, b]) (n1 : a ≠ i1) (n2 : b ≠ i2) :
    Turn P w K (.Tuple elts kk tpos) (ItB t1 t2 K a b) [z, TI, TO, i1, i2] z (fun i h => IsZip h z TI TO .none ∧ IsTupOf2 h TI (.ref i1) (.ref i2) ∧ (∃ x y, IsTupOf2 h TO x y) ∧ IsIt t1 h i1 a i ∧ IsIt t2 h i2 b i) where
  mem := by simp
  obj := fun i h st c hc => by
    obtain ⟨hz, hTI, ⟨x, y, hTO⟩, q1, q2⟩ := st
    obtain ⟨o1, e1, f1, d1⟩ := q1.obj
    obtain ⟨o2, e2, f2, d2⟩ := q2.obj
    have e' : c = z ∨ c = TI ∨ c = TO ∨ c = i1 ∨ c = i2 := by simpa using hc
    rcases e' with q | q | q | q | q
    · rw [q]; exact ⟨_, hz, fun v q => nomatch q⟩
    · rw [q]; exact ⟨_, hTI, fun v q => nomatch q⟩
    · rw [q]; exact ⟨_, hTO, fun v q => nomatch q⟩
    · rw [q]; exact ⟨o1, e1, fun v q => by rw [d1] at q; cases q⟩
    · rw [q]; exact ⟨o2, e2, fun v q => by rw [d2] at q; cases q⟩
  keep := fun i h h' st k => by
    obtain ⟨hz, hTI, ⟨x, y, hTO⟩, h1, h2⟩ := st
    exact ⟨k z (by simp) _ hz, k TI (by simp) _ hTI, ⟨x, y, k TO (by simp) _ hTO⟩, h1.at' fun o q => k i1 (by simp) o q, h2.at' fun o q => k i2 (by simp) o q⟩
  item := by
    intro X hP hw hK hc i pins s σ H E I hf st hg
    subst hP hw hK
    obtain ⟨hz, hTI, ⟨x0, y0, hTO⟩, h1, h2⟩ := st
    obtain ⟨xs, ys, x, y, hqx, hqy, hx, hy⟩ := hg
    obtain ⟨its, rv, p, _⟩ := seqB I hqx
    obtain ⟨its2, rv2, p2, _⟩ := seqB I hqy
    obtain ⟨u, hu, ru⟩ := rv.get hx
    obtain ⟨u2, hu2, ru2⟩ := rv2.get hy
    have hzl : z < s.heap.objs.size := Heap.lt_size hz
    have lt1 : i < its.toArray.size := by
      have := (List.getElem?_eq_some_iff.mp hu).1
      simpa using this
    have lt2 : i < its2.toArray.size := by
      have := (List.getElem?_eq_some_iff.mp hu2).1
      simpa using this
    have D1 := drawsB (prog := X.prog) (w := X.w) (A := X.A.in1) t1 (I.ok.hd hc) i1 a n1 its.toArray
    have D2 := drawsB (prog := X.prog) (w := X.w) (A := X.A.in1) t2 (I.ok.hd hc) i2 b n2 its2.toArray
    refine wpAny_pyNext_zipD2_item D D1 D2 hz hTI hTO ⟨h1, p⟩ ⟨h2, p2⟩ lt1 lt2 fun x1 x2 h' tk y1 y2 z' TO' h1' h2' hT hsz hk => ?_
    have ex1 : x1 = u := by
      have hu' : its.toArray[i]? = some u := by simpa using hu
      rw [hu'] at y1
      exact (Option.some.inj y1).symm
    have ex2 : x2 = u2 := by
      have hu' : its2.toArray[i]? = some u2 := by simpa using hu2
      rw [hu'] at y2
      exact (Option.some.inj y2).symm
    subst ex1 ex2
    refine ⟨_, rfl, wpAny_letOwnedTupleGo_zip (s := { s with heap := h', toks := tk }) z' fun h'' z'' sb => ?_⟩
    have hT2 : h''.get? s.heap.objs.size = some { cls := .type "tuple", data := .seq #[x1, x2] } := (sb.2 _ (Nat.ne_of_gt hzl)).trans hT
    have new : ObjOk X.prog X.w (upd H s.heap.objs.size (.tup [x, y])) h'' s.heap.objs.size (.tup [x, y]) :=
      ⟨by show 2 ≤ sizeLine; decide, [x1, x2], .cons ru (.cons ru2 .nil), ⟨_, hT2, rfl, _, rfl⟩⟩
    have I1 : Inv X pins σ (upd H s.heap.objs.size (.tup [x, y])) { s with heap := h'', toks := tk } :=
      I.turnedNew (t' := tk) (ch := [z, TI, TO, i1, i2]) (fun c o hb q => (sb.2 c (fun q' => hb (by simp [q']))).trans (hk c o (fun q' => hb (by simp [q'])) (fun q' => hb (by simp [q'])) (fun q' => hb (by simp [q'])) (fun q' => hb (by simp [q'])) q)) hf (Nat.le_refl _) new
    refine ⟨.ref s.heap.objs.size, _, I1, rfl, ⟨_, x, y, rfl, I.hok.fresh (Nat.le_refl _), rfl, fun l hl => by rw [seqB_inj I hl hqx]; exact hx, fun l hl => by rw [seqB_inj I hl hqy]; exact hy⟩, ⟨z'', ?_, ⟨x1, x2, ?_⟩, ?_, ?_⟩, fun c hcm => ?_⟩
    · exact (sb.2 _ D.TIz).trans (hk _ _ D.TIz D.TITO D.TIi1 D.TIi2 hTI)
    · exact (sb.2 _ D.TOz).trans TO'
    · exact h1'.1.at' fun o q => (sb.2 _ D.zi1.symm).trans q
    · exact h2'.1.at' fun o q => (sb.2 _ D.zi2.symm).trans q
    · have hlt : c < s.heap.objs.size := by
        have e' : c = z ∨ c = TI ∨ c = TO ∨ c = i1 ∨ c = i2 := by simpa using hcm
        rcases e' with q | q | q | q | q
        · rw [q]; exact hzl
        · rw [q]; exact Heap.lt_size hTI
        · rw [q]; exact Heap.lt_size hTO
        · rw [q]; obtain ⟨_, e1, _⟩ := h1.obj; exact Heap.lt_size e1
        · rw [q]; obtain ⟨_, e2, _⟩ := h2.obj; exact Heap.lt_size e2
      rw [upd_ne (Nat.ne_of_lt hlt)]
      exact (hf c hcm).1
  done := by
    intro X hP hw hK hc i pins s σ H E I hf st hg
    subst hP hw hK
    obtain ⟨hz, hTI, ⟨x0, y0, hTO⟩, h1, h2⟩ := st
    obtain ⟨xs, ys, hqx, hqy, l1', l2', hend⟩ := hg
    obtain ⟨its, rv, p, _⟩ := seqB I hqx
    obtain ⟨its2, rv2, p2, _⟩ := seqB I hqy
    have l1 := rv.length
    have l2 := rv2.length
    have D1 := drawsB (prog := X.prog) (w := X.w) (A := X.A.in1) t1 (I.ok.hd hc) i1 a n1 its.toArray
    have D2 := drawsB (prog := X.prog) (w := X.w) (A := X.A.in1) t2 (I.ok.hd hc) i2 b n2 its2.toArray
    exact wpAny_pyNext_zipD2_end D D1 D2 hz hTI hTO ⟨h1, p⟩ ⟨h2, p2⟩ (by simp; omega) (by simp; omega) (by simp; omega) fun h' tk hk => ⟨rfl, I.turnedL (t' := tk) (ch := [z, TI, TO, i1, i2]) (fun c o hb q =>
      hk c o (fun q' => hb (by simp [q'])) (fun q' => hb (by simp [q'])) (fun q' => hb (by simp [q'])) (fun q' => hb (by simp [q'])) q) hf⟩
  self := fun A i s Q E st h => wpAny_pyIter_zip st.1 h
def iZipB (K : PySem.W.Frag) (ta : TA) : TI := fun σ H R => ta σ H fun vs H1 => ∃ a b t1 t2 xs ys, vs = [.ref a, .ref b] ∧ SqB t1 K H1 a xs ∧ SqB t2 K H1 b ys ∧ R (ItB t1 t2 K a b) H1
def itO (t : Bool) (a : Addr) : Obj := match t with
  | true => { cls := .type "tuple_iterator", data := .fields #[.ref a, .int 0 0] }
  | false => { cls := .type "list_iterator", data := .fields #[.ref a, .int 0 0] }
theorem beginsB (t : Bool) (a : Addr) (items : Array Value) : Begins (.ref a) (itO t a) fun h => IsIs t h a items := by
  cases t
  · exact begins_list a items
  · exact begins_tuple a items
theorem itO_is {t : Bool} {h : Heap} {it a : Addr} (e : h.get? it = some (itO t a)) : IsIt t h it a 0 := by
  cases t
  · exact ⟨_, e, rfl, rfl⟩
  · exact ⟨_, e, rfl, rfl⟩
theorem sepB {n a b : Nat} (la : a < n) (lb : b < n) : ZipSep2 (n + 4) (n + 2) (n + 3) n (n + 1) [n, a] [n + 1, b] where
  TIz := by show (_ : Nat) ≠ _; omega
  TOz := by show (_ : Nat) ≠ _; omega
  TITO := by show (_ : Nat) ≠ _; omega
  TIi1 := by show (_ : Nat) ≠ _; omega
  mem1 := by simp
  zf1 := fun h => by
    rcases List.mem_cons.mp h with h | h
    · have h : (_ : Nat) = _ := h
      omega
    · have h : (_ : Nat) = _ := List.mem_singleton.mp h
      omega
  Tf1 := fun h => by
    rcases List.mem_cons.mp h with h | h
    · have h : (_ : Nat) = _ := h
      omega
    · have h : (_ : Nat) = _ := List.mem_singleton.mp h
      omega
  TIi2 := by show (_ : Nat) ≠ _; omega
  mem2 := by simp
  zf2 := fun h => by
    rcases List.mem_cons.mp h with h | h
    · have h : (_ : Nat) = _ := h
      omega
    · have h : (_ : Nat) = _ := List.mem_singleton.mp h
      omega
  Tf2 := fun h => by
    rcases List.mem_cons.mp h with h | h
    · have h : (_ : Nat) = _ := h
      omega
    · have h : (_ : Nat) = _ := List.mem_singleton.mp h
      omega
  sep1_2 := fun h => by
    rcases List.mem_cons.mp h with h | h
    · have h : (_ : Nat) = _ := h
      omega
    · have h : (_ : Nat) = _ := List.mem_singleton.mp h
      omega
  sep2_1 := fun h => by
    rcases List.mem_cons.mp h with h | h
    · have h : (_ : Nat) = _ := h
      omega
    · have h : (_ : Nat) = _ := List.mem_singleton.mp h
      omega
theorem pi_zipB {X : Cx} {e e2 : Expr} {ta : TA} {p pos tpos : Pos} {elts : List Expr} {kk : Nat} (hg : Gl X "zip") (hm : X.mg "zip" = none) (ha : PA X [e, e2] ta)
    (hs : starEach [e, e2] X.env = (false, eval e X.env) :: starEach [e2] X.env := by rfl) (hpl : (backTo pos (starEach [e2] X.env)).any (·.1) = false := by rfl) :
    PI X (.Tuple elts kk tpos) (.Call (.Name "zip" p) [e, e2] [] pos) (iZipB X.K ta) := by
  refine ⟨fun pins s σ H R I h => ?_⟩
  refine Call_ (ld_blt I hg hm PyProof.Rows.boot_zip (PyProof.Rows.callWith_type1 (thn (ha.run pos pins s σ H _ I h) fun us s1 ⟨vs, H1, I1, r1, q1⟩ => ?_) hs hpl))
  obtain ⟨a, b, t1, t2, xs, ys, ex, hqx, hqy, q⟩ := q1
  subst ex
  cases r1 with
  | cons r rr =>
    cases rr with
    | cons r' rr =>
      cases rr
      cases r
      cases r'
      have fresh5 : ∀ c, c ∈ [s1.heap.objs.size + 4, s1.heap.objs.size + 2, s1.heap.objs.size + 3, s1.heap.objs.size, s1.heap.objs.size + 1] → FpOk X pins H1 c := fun c hcm => by
        have e' : c = s1.heap.objs.size + 4 ∨ c = s1.heap.objs.size + 2 ∨ c = s1.heap.objs.size + 3 ∨ c = s1.heap.objs.size ∨ c = s1.heap.objs.size + 1 := by simpa using hcm
        have hle : s1.heap.objs.size ≤ c := by
          rcases e' with z | z | z | z | z
          · rw [z]; exact Nat.le_add_right _ _
          · rw [z]; exact Nat.le_add_right _ _
          · rw [z]; exact Nat.le_add_right _ _
          · rw [z]; exact Nat.le_refl _
          · rw [z]; exact Nat.le_add_right _ _
        exact I1.fpOk hle (I1.hok.fresh hle)
      obtain ⟨its, rv, p1, _⟩ := seqB I1 hqx
      obtain ⟨its2, rv2, p2, _⟩ := seqB I1 hqy
      refine zip_begins2 (beginsB t1 a its.toArray) (beginsB t2 b its2.toArray) p1 p2 fun h' hz hTI hTO g1 g2 hsz hk => wpAny_pyIter_zip hz ?_
      have I2 : Inv X pins σ H1 { s1 with heap := h' } := I1.kept (t' := s1.toks) hk
      exact ⟨s1.heap.objs.size + 4, [s1.heap.objs.size + 4, s1.heap.objs.size + 2, s1.heap.objs.size + 3, s1.heap.objs.size, s1.heap.objs.size + 1], _, _, H1, rfl, I2, turn_zipB (sepB p1.lt p2.lt) (Nat.ne_of_lt p1.lt) (Nat.ne_of_lt (Nat.lt_succ_of_lt p2.lt)), ⟨hz, hTI, ⟨_, _, hTO⟩, itO_is g1, itO_is g2⟩, fresh5, q⟩
end Tr

namespace Tr
open PySem PySem.Spec PyProof.Rows L2
variable [ProtC]
def zipD (ds es : List D) : List D := List.zipWith (fun d e => PyData.tuple [d, e]) ds es
theorem zipD_len {ds es : List D} : (zipD ds es).length = min ds.length es.length := by simp [zipD]
theorem zipD_get {ds es : List D} {i : Nat} {d e : D} (h : ds[i]? = some d) (h' : es[i]? = some e) : (zipD ds es)[i]? = some (.tuple [d, e]) := by
  simp [zipD, List.getElem?_zipWith, h, h']
theorem walk_zipB {K : PySem.W.Frag} {t1 t2 : Bool} {a b : Addr} {xs ys : List V} : Walk (ItB t1 t2 K a b) (min xs.length ys.length) (fun H => SqB t1 K H a xs ∧ SqB t2 K H b ys) (YPair (fun i => xs[i]?) (fun i => ys[i]?)) := by
  refine ⟨fun i _ hi q => ?_, fun _ q => ⟨xs, ys, q.1, q.2, by omega⟩, fun i H v H' _ q y => ?_⟩
  · have h1 : i < xs.length := by omega
    have h2 : i < ys.length := by omega
    exact ⟨xs, ys, xs[i], ys[i], q.1, q.2, by simp [h1], by simp [h2]⟩
  · obtain ⟨T, x, y, e1, e2, e3, e4, e5⟩ := y
    exact ⟨T, x, y, e1, e2, e3, e4 xs q.1, e5 ys q.2⟩
theorem items_zip {K : PySem.W.Frag} {Ph Bh : Hp} {xs ys : List V} {ds es : List D} {J : It} {Gp : Hp → Prop} (w : Walk J (min xs.length ys.length) Gp (YPair (fun i => xs[i]?) (fun i => ys[i]?))) (hG : ∀ H1, Le Ph H1 → Le Bh H1 → Gp H1) (dp : DpAll K Ph xs ds) (ep : DpAll K Ph ys es) : Items K Ph Bh (zipD ds es) J := by
  refine ⟨Gp, _, by rw [zipD_len, ← dps_len dp, ← dps_len ep]; exact w, hG, fun i H1 x H2 S hi l _ hS y => ?_⟩
  obtain ⟨T, u, v, rfl, hT, rfl, eu, ev⟩ := y
  rw [zipD_len] at hi
  have i1 : i < ds.length := by omega
  have i2 : i < es.length := by omega
  obtain ⟨u', h1, h2⟩ := dps_get dp (List.getElem?_eq_getElem i1)
  obtain ⟨v', h3, h4⟩ := dps_get ep (List.getElem?_eq_getElem i2)
  have eu : xs[i]? = some u := eu
  have ev : ys[i]? = some v := ev
  rw [eu] at h1
  cases h1
  rw [ev] at h3
  cases h3
  have nT : ¬ S T := fun z => hS T z hT
  have le : Le (hid S H1) (hid S (upd H1 T (.tup [u, v]))) := hid_le (Grow.new hT).le fun _ z => z
  refine ⟨Grow.new hT, _, zipD_get (List.getElem?_eq_getElem i1) (List.getElem?_eq_getElem i2), .tup (SqT.of ?_) (.cons (Le.dp (l.trans le) _ u h2) (.cons (Le.dp (l.trans le) _ v h4) .nil))⟩
  rw [hid_in nT]
  exact upd_same
def iZpD (f g : DF) : De → Wp (List D) := fun δ => (f δ).bind fun d => (g δ).bind fun e => (seqD d).bind fun ds => (seqD e).bind fun es => .pure (zipD ds es)
theorem seqB_of {K : PySem.W.Frag} {H : Hp} {v : V} {d : D} {k : List D → Prop} {w : Exn → Prop} (dp : Dp K H v d) (h : (seqD d).run k w) : ∃ t a xs ds, v = .ref a ∧ SqB t K H a xs ∧ DpAll K H xs ds ∧ k ds := by
  cases dp with
  | lst s a => exact ⟨false, _, _, _, rfl, s, a, h⟩
  | tup s a => exact ⟨true, _, _, _, rfl, s, a, h⟩
  | _ => exact h.elim
theorem SqB.le {t : Bool} {K : PySem.W.Frag} {H G : Hp} {a : Addr} {xs : List V} (l : Le H G) (h : SqB t K H a xs) : SqB t K G a xs := by
  cases t
  · exact Le.sqL l h
  · exact Le.sqT l h
theorem di_zip {X : Cx} {C : Cs} {W : WX} {e e2 : Expr} {f g : DF} {p pos tpos : Pos} {elts : List Expr} {kk : Nat} (hK : C.K = X.K) (hg : Gl X "zip") (hm : X.mg "zip" = none) (he : DE X C W e f) (he2 : DE X C W e2 g)
    (hs : starEach [e, e2] X.env = (false, eval e X.env) :: starEach [e2] X.env := by rfl) (hs2 : starEach [e2] X.env = [(false, eval e2 X.env)] := by rfl) (hpl : (backTo pos (starEach [e2] X.env)).any (·.1) = false := by rfl) :
    DI X C W (.Tuple elts kk tpos) (.Call (.Name "zip" p) [e, e2] [] pos) (iZpD f g) := by
  obtain ⟨t, pt, q⟩ := he
  obtain ⟨u, pu, q2⟩ := he2
  refine ⟨_, pi_zipB hg hm (pa_cons pt (pa_cons pu pa_nil hs2) hs) hs hpl, fun S0 H0 Pb σ H δ Q R h => q S0 H0 Pb σ H δ _ R ((f δ).mono (fun d h v G g1 dp => ?_) (fun _ z => z) h)⟩
  refine q2 S0 H0 Pb σ G δ _ (R.gr g1) ((g δ).mono (fun e h v2 G2 g2 dp2 => ?_) (fun _ z => z.gr g1) h)
  rw [← hK]
  have dp' := Le.dp (hid_le (S' := Own (C.bx S0 H0) σ δ) g2.le fun _ z => z) d v dp
  simp only [run_bind] at h
  obtain ⟨t1, a, xs, ds, rfl, s1, a1, h⟩ := seqB_of dp' h
  obtain ⟨t2, b, ys, es, rfl, s2, a2, h⟩ := seqB_of dp2 h
  exact ⟨a, b, t1, t2, xs, ys, rfl, SqB.le hid_sub s1, SqB.le hid_sub s2, h _ G2 (g1.trans g2) (items_zip walk_zipB (fun H1 l _ => ⟨SqB.le l s1, SqB.le l s2⟩) a1 a2)⟩
@[simp] theorem rw_iZpD {f g : DF} {δ : De} : iZpD f g δ = (f δ).bind fun d => (g δ).bind fun e => (seqD d).bind fun ds => (seqD e).bind fun es => .pure (zipD ds es) := rfl
theorem zipD_map {α β : Type} {f : α → D} {g : β → D} {xs : List α} {ys : List β} : zipD (xs.map f) (ys.map g) = (xs.zip ys).map fun p => PyData.tuple [f p.1, g p.2] := by
  simp [zipD, List.zipWith_map, List.zip, List.map_zipWith]
section
variable {X : Cx} {C : Cs} {W : WX} {pos : Pos} {a b c d : Expr} {f g h m : DF} {ta tb tc td : TE}
def tChain3 (r r' r'' : R2) (ta tb tc td : TE) : TE := fun σ H Q => ta σ H fun x H1 => tb σ H1 fun y H2 => r x y H2 fun z H3 => ∃ k, z = .bl k ∧
  (if k = true then tc σ H3 fun w' H4 => r' y w' H4 fun z' H5 => ∃ k', z' = .bl k' ∧ (if k' = true then td σ H5 fun w'' H6 => r'' w' w'' H6 Q else Q (.bl false) H5) else Q (.bl false) H3)
theorem pt_chain3 {op op' op'' : CmpOp} {r r' r'' : R2} (ho : OpR X (compareOp op) r) (ho' : OpR X (compareOp op') r') (ho'' : OpR X (compareOp op'') r'') (ha : PE X a ta) (hb : PE X b tb) (hc : PE X c tc) (hd : PE X d td)
    (hm : lastMarks [op, op', op''] [b, c, d] = false := by with_unfolding_all rfl) : PT X (.Compare a [op, op', op''] [b, c, d] pos) (tTest (tChain3 r r' r'' ta tb tc td)) := by
  refine ⟨fun pins s σ H Q I h => ?_⟩
  refine isTrue_chain (thn (ha.run pins s σ H _ I h) fun v s1 ⟨x, H1, I1, r1, q1⟩ => test_link (thn (hb.run pins s1 σ H1 _ I1 q1) fun u s2 ⟨y, H2, I2, r2, q2⟩ =>
    thn (ho pins s2 σ H2 x y v u _ I2 r1 r2 q2) fun dd s3 ⟨z, H3, I3, r3, k, e, q3⟩ => ?_)) hm
  subst e
  cases r3
  refine wpAny_truthy_bool ?_
  cases k with
  | false =>
    obtain ⟨k', e', q'⟩ := q3
    cases e'
    exact ite_ff ⟨H3, I3, q'⟩
  | true =>
    refine ite_tt (test_link (thn (hc.run pins s3 σ H3 _ I3 q3) fun w1 s4 ⟨x4, H4, I4, r4, q4⟩ => thn (ho' pins s4 σ H4 y x4 u w1 _ I4 r2 r4 q4) fun dd s5 ⟨z, H5, I5, r5, k, e, q5⟩ => ?_))
    subst e
    cases r5
    refine wpAny_truthy_bool ?_
    cases k with
    | false =>
      obtain ⟨k', e', q'⟩ := q5
      cases e'
      exact ite_ff ⟨H5, I5, q'⟩
    | true =>
      refine ite_tt (test_last (thn (hd.run pins s5 σ H5 _ I5 q5) fun w2 s6 ⟨x6, H6, I6, r6, q6⟩ => thn (ho'' pins s6 σ H6 x4 x6 w1 w2 _ I6 r4 r6 q6) fun dd s7 ⟨z, H7, I7, r7, k, e, q7⟩ => ?_))
      subst e
      cases r7
      exact wpAny_truthy_bool ⟨H7, I7, q7⟩
def dChain3 (F G J : D → D → Wp D) (f g h m : DF) : DF := fun δ => (f δ).bind fun d => (g δ).bind fun e => (F d e).bind fun z => (asB z).bind fun k => if k then (h δ).bind fun x => (G e x).bind fun z' => (asB z').bind fun k' => if k' then (m δ).bind fun y => J x y else .pure (.bool false) else .pure (.bool false)
theorem dt_chain3 {op op' op'' : CmpOp} {F F' F'' : D → D → Wp D} {r r' r'' : R2} (ho : OpR X (compareOp op) r) (hF : Op2 X C r F) (ho' : OpR X (compareOp op') r') (hF' : Op2 X C r' F') (ho'' : OpR X (compareOp op'') r'') (hF'' : Op2 X C r'' F'')
    (ha : DE X C W a f) (hb : DE X C W b g) (hc : DE X C W c h) (hd : DE X C W d m)
    (hm : lastMarks [op, op', op''] [b, c, d] = false := by with_unfolding_all rfl) :
    DT X C W (.Compare a [op, op', op''] [b, c, d] pos) (tBv (dChain3 F F' F'' f g h m)) := by
  obtain ⟨ta, pa, qa⟩ := ha
  obtain ⟨tb, pb, qb⟩ := hb
  obtain ⟨tc, pc, qc⟩ := hc
  obtain ⟨td, pd, qd⟩ := hd
  refine ⟨_, pt_chain3 ho ho' ho'' pa pb pc pd hm, fun S0 H0 Pb σ H δ Q R hh => qa S0 H0 Pb σ H δ _ R ((f δ).mono (fun d hh x H1 g1 dx => ?_) (fun _ z => z) hh)⟩
  refine qb S0 H0 Pb σ H1 δ _ (R.gr g1) ((g δ).mono (fun e hh y H2 g2 dy => ?_) (fun _ z => z.gr g1) hh)
  refine hF x y H2 d e _ S0 H0 Pb σ δ _ (R.gr (g1.trans g2)) (Le.dp (hid_le g2.le fun _ z => z) d x dx) dy ((F d e).mono (fun z hz v H3 g3 dz => ?_) (fun _ z => z) hh)
  obtain ⟨k, rfl, hk⟩ := asB_inv hz
  cases dz
  refine ⟨k, rfl, ?_⟩
  have g13 := g1.trans (g2.trans g3)
  cases k with
  | false => exact ⟨false, rfl, hk H3 g13⟩
  | true =>
    refine qc S0 H0 Pb σ H3 δ _ (R.gr g13) ((h δ).mono (fun x' hx v' H4 g4 dx' => ?_) (fun _ z => z.gr g13) hk)
    refine hF' y v' H4 e x' _ S0 H0 Pb σ δ _ (R.gr (g13.trans g4)) (Le.dp (hid_le (g3.trans g4).le fun _ z => z) e y dy) dx' ((F' e x').mono (fun d' hd v2 H5 g5 dp => ?_) (fun _ z => z.gr (g13.trans g4)) hx)
    obtain ⟨k', rfl, hk'⟩ := asB_inv hd
    cases dp
    refine ⟨k', rfl, ?_⟩
    have g15 := (g13.trans g4).trans g5
    cases k' with
    | false => exact ⟨false, rfl, hk' H5 g15⟩
    | true =>
      refine qd S0 H0 Pb σ H5 δ _ (R.gr g15) ((m δ).mono (fun y' hy v3 H6 g6 dy' => ?_) (fun _ z => z.gr g15) hk')
      refine hF'' v' v3 H6 x' y' _ S0 H0 Pb σ δ _ (R.gr (g15.trans g6)) (Le.dp (hid_le (g5.trans g6).le fun _ z => z) x' v' dx') dy' ((F'' x' y').mono (fun d' hd v2 H7 g7 dp => ?_) (fun _ z => z.gr (g15.trans g6)) hy)
      obtain ⟨k'', rfl, hk''⟩ := asB_inv hd
      cases dp
      exact ⟨k'', rfl, hk'' H7 ((g15.trans g6).trans g7)⟩
@[simp] theorem rw_dChain3 {F G J : D → D → Wp D} {δ : De} : dChain3 F G J f g h m δ = (f δ).bind fun d => (g δ).bind fun e => (F d e).bind fun z => (asB z).bind fun k => if k then (h δ).bind fun x => (G e x).bind fun z' => (asB z').bind fun k' => if k' then (m δ).bind fun y => J x y else .pure (.bool false) else .pure (.bool false) := rfl
end
end Tr

namespace Tr
open PySem PySem.Spec PyProof.Rows L2
variable [ProtC]
section
variable {X : Cx} {C : Cs} {W : WX} {pos : Pos} {a b : Expr} {f g : DF}
def dIsB : D → D → Wp D
  | .bool a, .bool b => .pure (.bool (decide (a = b)))
  | _, _ => .stuck
def dIsNotB : D → D → Wp D
  | .bool a, .bool b => .pure (.bool (!decide (a = b)))
  | _, _ => .stuck
@[simp] theorem rw_isB {a b : Bool} : dIsB (.bool a) (.bool b) = .pure (.bool (decide (a = b))) := rfl
@[simp] theorem rw_isNotB {a b : Bool} : dIsNotB (.bool a) (.bool b) = .pure (.bool (!decide (a = b))) := rfl
end
section
variable {X : Cx} {C : Cs} {W : WX} {pos p2 : Pos} {a b : Expr} {f g : DF}
def dRev : D → D → Wp D
  | .tuple ds, .int i => .need (i = -1) (.pure (.tuple ds.reverse))
  | _, _ => .stuck
@[simp] theorem rw_rev {ds : List D} : dRev (.tuple ds) (.int (-1)) = .need ((-1 : Int) = -1) (.pure (.tuple ds.reverse)) := rfl
end
end Tr

namespace Tr
open PySem PySem.Spec PyProof.Rows L2
variable [ProtC]
end Tr

namespace TrS
open PySem PyProof.Rows Srt SrtO
abbrev lexT : List Int → List Int → Bool := HT.lexLt
def IsTI (h : Heap) (v : Value) (ns : List Int) : Prop := ∃ a o its n, v = .ref a ∧ h.get? a = some o ∧ o.cls = .type "tuple" ∧ o.data = .seq its n ∧ IntsAre its.toList ns
theorem IsTI.keeps {h h' : Heap} {v : Value} {ns : List Int} (p : IsTI h v ns) (k : ∀ b o, h.get? b = some o → o.cls = .type "tuple" → h'.get? b = some o) : IsTI h' v ns := by
  obtain ⟨a, o, its, n, e, ho, hc, hd, hi⟩ := p
  exact ⟨a, o, its, n, e, k _ _ ho hc, hc, hd, hi⟩
end TrS
namespace Tr
open PySem PySem.Spec PyProof.Rows L2
variable [ProtC]
def tupI (ns : List Int) : D := .tuple (ns.map .int)
def tupsD : List D → Option (List (List Int))
  | [] => some []
  | .tuple es :: ds => (intsD es).bind fun ns => (tupsD ds).map (ns :: ·)
  | _ => none
def bBoolL : List D → Wp D
  | [.list ds] => .pure (.bool (!ds.isEmpty))
  | _ => .stuck
@[simp] theorem rw_boolL {ds : List D} : bBoolL [.list ds] = .pure (.bool (!ds.isEmpty)) := rfl
end Tr

namespace Tr
open PySem PySem.Spec L2
open GxR (TabG Tabbed)
open PyProof.Rows (AllBare)
variable [ProtC]
structure SFx (X : Cx) (fp : List Addr) (S : Addr) : Prop where
  loc : S ≠ X.env.locals
  fs : S ∉ X.fs
  sz : X.s_0.heap.objs.size ≤ S
  cell : ∀ x c, X.env.cells.lookup x = some c → c ≠ S
  pn : ∀ p ∈ X.pn, p.1 ≠ S
  fp : S ∉ fp
theorem SFx.ok {X : Cx} {fp : List Addr} {S : Addr} {H : Hp} (h : SFx X fp S) (n : H S = none) : FpOk X [] H S := ⟨n, h.loc, h.fs, .inr h.sz, h.cell, fun p hp => h.pn p (by simpa using hp)⟩
end Tr

namespace Tr
open PySem PySem.Spec L2
open GxR (TabG Tabbed)
variable [ProtC]
def gsLoop (g : BF) (t : TF) (f : DF) (δ : De) : Int → List D → Wp D
  | acc, [] => .pure (.int acc)
  | acc, d :: ds => (optW (g d δ)).bind fun δ1 => (t δ1).bind fun b => if b then (f δ1).bind fun y => match y with
    | .int k => gsLoop g t f δ (acc + k) ds
    | _ => .stuck else gsLoop g t f δ acc ds
def dGs (fi : De → Wp (List D)) (g : BF) (t : TF) (f : DF) (vs : List Nat) : DF := fun δ => (fi δ).bind fun ds => (gsLoop g t f (dWipe δ vs) 0 ds).nox
section
variable {A α : Type} {k : D → Prop} {w : Exn → Prop} {δ : De} {f : DF} {t : TF} {d : D} {ds : List D} {q : BF} {fi : De → Wp (List D)} {vs : List Nat} {acc : Int}
@[simp] theorem rw_dGs : dGs fi q t f vs δ = (fi δ).bind fun ds => (gsLoop q t f (dWipe δ vs) 0 ds).nox := rfl
@[simp] theorem rw_gs0 : gsLoop q t f δ acc [] = .pure (.int acc) := rfl
end
end Tr

namespace Tr
open PySem PySem.Spec L2
open PyProof.Rows
variable [ProtC]
end Tr

namespace Tr
open PySem PySem.Spec L2 PyProof.Rows
variable [ProtC]
section
variable {X : Cx}
def dInA : D → D → Wp D
  | d, .list ds => .need (SeqAt.shaped d = true ∧ SeqAt.shaped (.list ds) = true) (.pure (.bool (ds.any fun z => PyData.eqv z d)))
  | d, .tuple ds => .need (SeqAt.shaped d = true ∧ SeqAt.shaped (.list ds) = true) (.pure (.bool (ds.any fun z => PyData.eqv z d)))
  | _, _ => .stuck
def dNotInA : D → D → Wp D
  | d, .list ds => .need (SeqAt.shaped d = true ∧ SeqAt.shaped (.list ds) = true) (.pure (.bool (!ds.any fun z => PyData.eqv z d)))
  | d, .tuple ds => .need (SeqAt.shaped d = true ∧ SeqAt.shaped (.list ds) = true) (.pure (.bool (!ds.any fun z => PyData.eqv z d)))
  | _, _ => .stuck
variable {C : Cs} {W : WX} {a b : Expr} {f g : DF} {pos : Pos}
end
theorem tuple_mul1 (l : Addr) (items : Array Value) (n : Nat) (dd : Option Addr) (sl : Array (Option Value)) (u : Tok) :
    Meets (Builtin.«tuple.__mul__» ⟨[.ref l, .int 1 u], []⟩) (fun _ R s => s.heap.get? l = some { cls := .type "tuple", dict := dd, data := .seq items n, slots := sl } ∧ R (.ok (.ret (Value.ref l))) s) :=
  .of_wp fun prog w A R s h => by
    obtain ⟨hp, g, d, tk, os⟩ := s
    obtain ⟨hl, h⟩ := h
    have f1 := AutoSeq1.idx_int
    wp_walk using wpAny_loadPart' hl
    repeat (first
      | (refine wpAny_ite_true (decide_eq_true (by simp)) ?_; wp_walk using wpAny_loadPart' hl)
      | (refine wpAny_ite_false (decide_eq_false (by decide)) ?_; wp_walk using wpAny_loadPart' hl))
    exact ⟨_, rfl, h⟩
section
variable {X : Cx}
def rRep1 (K : PySem.W.Frag) : R2 := fun x y H Q => ∃ l xs, x = .ref l ∧ y = .int 1 ∧ SqT K H l xs ∧ Q (.ref l) H
theorem op_rep1 : OpR X (binaryOp .Mult) (rRep1 X.K) := by
  intro pins s σ H x y v u Q I rx ry h
  obtain ⟨l, xs, rfl, rfl, hT, q⟩ := h
  cases rx
  obtain ⟨t, rfl⟩ := ry
  obtain ⟨its, r, ⟨⟨cls, dd, data, sl⟩, ho, hc, n, hd⟩, hs⟩ := I.tuple hT
  simp only at hc hd
  subst hc hd
  refine wpAny_binaryOp_repeat_ref (T := "tuple") (U := "int") (by decide) ⟨_, ho, rfl⟩ (fun s' => typeIs_int s' 1 t) noFill_tuple_mul F.fills_int_mul F.slot_int_rmul repeat_tuple F.slot_int_index.lookup
    (call_meets F.slot_int_rmul (typeIs_int s 1 t) F.entry_int_rmul (F.args_int_rmul_2 _ _) (int_rmul_tuple 1 t l its.toArray n dd sl)
      ⟨ho, rfl, ⟨_, ho, rfl⟩, call_meets F.slot_tuple_mul ⟨_, ho, rfl⟩ F.entry_tuple_mul (F.args_tuple_mul_2 _ _) (tuple_mul1 l its.toArray n dd sl t) ⟨ho, ?_⟩⟩)
  exact ⟨.ref l, H, I, rfl, q⟩
theorem list_mulW (l : Addr) (items : Array Value) (n : Nat) (dd : Option Addr) (sl : Array (Option Value)) (x : Int) (u : Tok) (hc0 : ¬(!Builtin.List.listFitsIndex x) = true) (hc1 : ¬items.size * x.toNat > (2 ^ 63 - 1) / 8) (hc2 : ¬Builtin.List.listTooLong (items.size * x.toNat) = true) :
    Meets (Builtin.«list.__mul__» ⟨[.ref l, .int x u], []⟩) (fun _ R s => s.heap.get? l = some { cls := .type "list", dict := dd, data := .seq items n, slots := sl } ∧ R (.ok (.ret (Value.ref s.heap.objs.size))) { s with heap := s.heap.push { cls := Value.type "list", data := Data.seq (List.foldl (fun x1 x2 => x1 ++ x2) #[] (List.replicate (if items.isEmpty = true then 0 else x.toNat) items)) }, toks := s.toks }) :=
  .of_wp fun prog w A R s h => by
    obtain ⟨hp, g, d, tk, os⟩ := s; obtain ⟨hl, h⟩ := h
    have hsz := AutoListH.joined_fits hc2
    have f1 := AutoSeq1.idx_int
    wp_walk using wpAny_loadPart' hl
    refine wpAny_ite_false (decide_eq_false (Nat.not_lt.mpr hsz)) ?_; wp_walk using wpAny_loadPart' hl; exact ⟨_, rfl, h⟩
theorem int_rmul_listW (a : Int) (t : Tok) (l : Addr) (items : Array Value) (n : Nat) (dd : Option Addr) (sl : Array (Option Value)) :
    Meets (Builtin.«int.__rmul__» ⟨[.int a t, .ref l], []⟩) (fun _ R s => s.heap.get? l = some { cls := .type "list", dict := dd, data := .seq items n, slots := sl } ∧ R (.ok (.ret Value.notImplemented)) s) :=
  .of_wp fun prog w A R s h => by obtain ⟨hp, g, d, tk, os⟩ := s; obtain ⟨hl, h⟩ := h; wp_walk using wpAny_loadPart' hl; exact ⟨_, rfl, h⟩
def rRepL (K : PySem.W.Frag) : R2 := fun x y H Q => ∃ l k xs, x = .ref l ∧ y = .int k ∧ SqL K H l xs ∧ 0 ≤ k ∧ k ≤ 1000 ∧ xs.length ≤ 1000 ∧
  ∀ p, H p = none → Q (.ref p) (upd H p (.lst (List.replicate k.toNat xs).flatten))
theorem op_repL : OpR X (binaryOp .Mult) (rRepL X.K) := by
  intro pins s σ H x y v u Q I rx ry h
  obtain ⟨l, k, xs, rfl, rfl, hH, h1, h2, hz, q⟩ := h
  cases rx
  obtain ⟨t, rfl⟩ := ry
  obtain ⟨its, r, ⟨⟨cls, dd, data, sl⟩, n, ho, hc, hdd, hd, hsl⟩, hs⟩ := I.list hH
  simp only at hc hdd
  subst hc hdd
  have hle : its.length = xs.length := r.length.symm
  have a1 : xs.length * k.toNat ≤ 1000 * 1000 := Nat.mul_le_mul hz (by omega)
  have hlen : its.toArray.size * k.toNat ≤ sizeLine := by rw [List.size_toArray, hle, sizeLine_eq]; omega
  have hcap : ¬ its.toArray.size * k.toNat > (2 ^ 63 - 1) / 8 := by
    have : (sizeLine : Nat) ≤ (2 ^ 63 - 1) / 8 := by decide
    omega
  have hfit : ¬ (!Builtin.List.listFitsIndex k) = true := by
    rw [fitsIndex_both (by omega) (by omega)]
    exact Bool.false_ne_true
  have hlong : ¬ Builtin.List.listTooLong (its.toArray.size * k.toNat) = true := by
    rw [notLongL hlen]
    exact Bool.false_ne_true
  have hnew : List.foldl (fun x1 x2 => x1 ++ x2) #[] (List.replicate (if its.toArray.isEmpty = true then 0 else k.toNat) its.toArray) = (List.replicate k.toNat its).flatten.toArray := by
    have f0 : ∀ m : Nat, List.foldl (fun x1 x2 => x1 ++ x2) #[] (List.replicate m its.toArray) = (List.replicate m its).flatten.toArray := fun m => by
      have := foldl_rep its m []
      rw [List.nil_append] at this
      exact this
    rw [f0]
    cases its with
    | nil => simp
    | cons a r' => rw [if_neg (by simp)]
  refine wpAny_binaryOp_repeat_ref (T := "list") (U := "int") (by decide) ⟨_, ho, rfl⟩ (fun s' => typeIs_int s' k t) noFill_list_mul F.fills_int_mul F.slot_int_rmul repeat_list F.slot_int_index.lookup
    (call_meets F.slot_int_rmul (typeIs_int s k t) F.entry_int_rmul (F.args_int_rmul_2 _ _) (int_rmul_listW k t l its.toArray n _ sl)
      ⟨ho, rfl, ⟨_, ho, rfl⟩, call_meets F.slot_list_mul ⟨_, ho, rfl⟩ F.entry_list_mul (F.args_list_mul_2 _ _) (list_mulW l its.toArray n _ sl k t hfit hcap hlong) ⟨ho, ?_⟩⟩)
  rw [hnew]
  refine ⟨.ref s.heap.objs.size, _, I.laid (t' := s.toks) (o := .lst (List.replicate k.toNat xs).flatten) (fun b ob q => Heap.get?_push_of_some _ q) (Nat.le_refl _) ?_, rfl, q _ (I.hok.fresh (Nat.le_refl _))⟩
  exact ⟨by rw [PyProof.Rows.lm_len_rep_flat, sizeLine_eq, Nat.mul_comm]; omega, _, 0, r.rep k.toNat, Heap.get?_push_size _ rfl⟩
def rMulA (K : PySem.W.Frag) : R2 := fun x y H Q => rI CMulW (fun i j => .int (i * j)) x y H Q ∨ rRep1 K x y H Q ∨ rRepT K x y H Q ∨ rRepL K x y H Q
theorem op_mulA : OpR X (binaryOp .Mult) (rMulA X.K) := by
  intro pins s σ H x y v u Q I rx ry h
  rcases h with h | h | h | h
  · exact op_mulW pins s σ H x y v u Q I rx ry h
  · exact op_rep1 pins s σ H x y v u Q I rx ry h
  · exact op_repT pins s σ H x y v u Q I rx ry h
  · exact op_repL pins s σ H x y v u Q I rx ry h
end
def dMulA : D → D → Wp D
  | .int i, .int j => .need (CMulW i j) (.pure (.int (i * j)))
  | .tuple ds, .int k => .need (1 ≤ k ∧ k ≤ 1000 ∧ ds ≠ [] ∧ ds.length ≤ 1000) (.pure (.tuple (List.replicate k.toNat ds).flatten))
  | .list ds, .int k => .need (0 ≤ k ∧ k ≤ 1000 ∧ ds.length ≤ 1000) (.pure (.list (List.replicate k.toNat ds).flatten))
  | _, _ => .stuck
theorem rep_dps {K : PySem.W.Frag} {H : Hp} {xs : List V} {ds : List D} (h : DpAll K H xs ds) : ∀ m, DpAll K H (List.replicate m xs).flatten (List.replicate m ds).flatten := by
  intro m
  induction m with
  | zero => exact .nil
  | succ m ih =>
    rw [List.replicate_succ, List.replicate_succ, List.flatten_cons, List.flatten_cons]
    exact dps_app h ih
section
variable {X : Cx} {C : Cs} {W : WX} {a b : Expr} {f g : DF} {pos : Pos}
theorem o2_mulA : Op2 X C (rMulA C.K) dMulA := by
  intro x y H d e Q S0 H0 Pb σ δ w R dx dy h
  unfold dMulA at h
  split at h
  · cases dx
    cases dy
    exact .inl ⟨_, _, rfl, rfl, h.1, h.2 _ H (Grow.refl H) (.int _)⟩
  · obtain ⟨⟨h1, h2, h3, h4⟩, h⟩ := h
    cases dy
    cases dx with
    | @tup a xs _ s dps =>
      rename_i ds k
      have hl := dps_len dps
      by_cases c : k = 1
      · subst c
        refine .inr (.inl ⟨_, xs, rfl, rfl, Le.sqT hid_sub s, h _ H (Grow.refl H) ?_⟩)
        simpa using (Dp.tup s dps)
      · refine .inr (.inr (.inl ⟨_, _, xs, rfl, rfl, Le.sqT hid_sub s, fun z => h3 (by rw [z] at hl; exact List.eq_nil_of_length_eq_zero hl.symm), by omega, h2, by omega, ?_⟩))
        exact new_tup R (rep_dps dps _) h
  · obtain ⟨⟨h1, h2, h4⟩, h⟩ := h
    cases dy
    cases dx with
    | @lst a xs _ s dps =>
      have hl := dps_len dps
      refine .inr (.inr (.inr ⟨_, _, xs, rfl, rfl, Le.sqL hid_sub s, h1, h2, by omega, ?_⟩))
      exact new_lst R (rep_dps dps _) h
  · exact h.elim
theorem de_mulA (hK : C.K = X.K) (ha : DE X C W a f) (hb : DE X C W b g) : DE X C W (.BinOp a .Mult b pos) (d2 dMulA f g) := de_op (r := rMulA X.K) op_mulA (by rw [← hK]; exact o2_mulA) ha hb
end
section
@[simp] theorem rw_mulAI {i j : Int} : dMulA (.int i) (.int j) = .need (CMulW i j) (.pure (.int (i * j))) := rfl
@[simp] theorem rw_mulAT {ds : List D} {k : Int} : dMulA (.tuple ds) (.int k) = .need (1 ≤ k ∧ k ≤ 1000 ∧ ds ≠ [] ∧ ds.length ≤ 1000) (.pure (.tuple (List.replicate k.toNat ds).flatten)) := rfl
@[simp] theorem rw_mulAL {ds : List D} {k : Int} : dMulA (.list ds) (.int k) = .need (0 ≤ k ∧ k ≤ 1000 ∧ ds.length ≤ 1000) (.pure (.list (List.replicate k.toNat ds).flatten)) := rfl
@[simp] theorem rw_inAL {d : D} {ds : List D} : dInA d (.list ds) = .need (SeqAt.shaped d = true ∧ SeqAt.shaped (.list ds) = true) (.pure (.bool (ds.any fun z => PyData.eqv z d))) := rfl
@[simp] theorem rw_inAT {d : D} {ds : List D} : dInA d (.tuple ds) = .need (SeqAt.shaped d = true ∧ SeqAt.shaped (.list ds) = true) (.pure (.bool (ds.any fun z => PyData.eqv z d))) := rfl
@[simp] theorem rw_notInAL {d : D} {ds : List D} : dNotInA d (.list ds) = .need (SeqAt.shaped d = true ∧ SeqAt.shaped (.list ds) = true) (.pure (.bool (!ds.any fun z => PyData.eqv z d))) := rfl
@[simp] theorem rw_notInAT {d : D} {ds : List D} : dNotInA d (.tuple ds) = .need (SeqAt.shaped d = true ∧ SeqAt.shaped (.list ds) = true) (.pure (.bool (!ds.any fun z => PyData.eqv z d))) := rfl
end
end Tr

namespace Tr
open PySem PySem.Spec L2
variable [ProtC]

def rI (C : Cs) (W : WX) (f : De → Wp (List D)) : TI := fun σ H R => ∃ S0 H0 Pb δ, Rep (C.bx S0 H0) Pb σ H δ ∧ (f δ).run (fun ds => ∀ J G, Grow H G → Items C.K (hid (Own (C.bx S0 H0) σ δ) G) (obh C H0) ds J → R J G) (Ew (C.bx S0 H0) W σ H)
theorem DI.to {X : Cx} {C : Cs} {W : WX} {tg e : Expr} {f : De → Wp (List D)} (h : DI X C W tg e f) : PI X tg e (rI C W f) := by
  obtain ⟨t, p, q⟩ := h
  exact ⟨fun pins s σ H Q I ⟨S0, H0, Pb, δ, R, z⟩ => p.run pins s σ H Q I (q S0 H0 Pb σ H δ Q R z)⟩
theorem Items.mono {K : PySem.W.Frag} {Ph Pg Bh Bg : Hp} {ds : List D} {J : It} (h : Items K Ph Bh ds J) (l : Le Ph Pg) (lb : Le Bh Bg) : Items K Pg Bg ds J := by
  obtain ⟨Gp, Y, w, hG, hY⟩ := h
  exact ⟨Gp, Y, w, fun H1 l1 l2 => hG H1 (l.trans l1) (lb.trans l2), fun i H1 x H2 S hi l1 l2 dm y => hY i H1 x H2 S hi (l.trans l1) (lb.trans l2) dm y⟩
def lc2Loop (g : BF) (t : TF) (fi1 : De → Wp (List D)) (g1 : BF) (t1 : TF) (f : DF) (δ : De) (vs1 : List Nat) : Nat → List D → Wp (List D)
  | _, [] => .pure []
  | n, d :: ds => (optW (g d δ)).bind fun δ1 => (t δ1).bind fun b => if b then (fi1 δ1).bind fun es => .need (n + es.length ≤ sizeLine) ((lcLoop g1 t1 f (dWipe δ1 vs1) es).bind fun ys => (lc2Loop g t fi1 g1 t1 f δ vs1 (n + ys.length) ds).bind fun zs => .pure (ys ++ zs)) else lc2Loop g t fi1 g1 t1 f δ vs1 n ds
def nLc2 (fi : De → Wp (List D)) (g : BF) (t : TF) (fi1 : De → Wp (List D)) (g1 : BF) (t1 : TF) (f : DF) (vs vs1 : List Nat) : De → Wp (List D) := fun δ => (fi δ).bind fun ds => (lc2Loop g t fi1 g1 t1 f (dWipe δ vs) vs1 0 ds).nox
section
variable {q q1 : BF} {t t1 : TF} {f : DF} {fi fi1 : De → Wp (List D)} {δ : De} {vs vs1 : List Nat} {n : Nat} {d : D} {ds : List D} {w : Exn → Prop}
@[simp] theorem rw_nLc2 : nLc2 fi q t fi1 q1 t1 f vs vs1 δ = (fi δ).bind fun ds => (lc2Loop q t fi1 q1 t1 f (dWipe δ vs) vs1 0 ds).nox := rfl
@[simp] theorem rw_lc20 : lc2Loop q t fi1 q1 t1 f δ vs1 n [] = .pure [] := rfl
end
end Tr

namespace Tr
open PySem PySem.Spec PyProof.Rows L2
variable [ProtC]
end Tr

namespace Tr
open PySem PySem.Spec L2
open PyProof.Rows
variable [ProtC]
section
variable {X : Cx}
variable {C : Cs} {W : WX} {i j l : Nat} {a b c : Expr} {st : Stmt} {f g : DF} {fl fl2 : De → Wp (List D)}
def sParDOO (i j l : Nat) (f : DF) (fl fl2 : De → Wp (List D)) : SF := fun δ => (f δ).bind fun d => (fl δ).bind fun ds => (fl2 (dWipe δ [])).nox.bind fun es => .pure (.nx (((δ.set j (.o ds)).set l (.o es)).set i (.p d)))
end
@[simp] theorem rw_parDOO {i j l : Nat} {f : DF} {fl fl2 : De → Wp (List D)} {δ : De} : sParDOO i j l f fl fl2 δ = (f δ).bind fun d => (fl δ).bind fun ds => (fl2 (dWipe δ [])).nox.bind fun es => .pure (.nx (((δ.set j (.o ds)).set l (.o es)).set i (.p d))) := rfl
end Tr

namespace Tr
open PySem PySem.Spec PyProof.Rows L2
variable [ProtC]
section
variable {X : Cx} {C : Cs} {W : WX} {pos : Pos} {e a b : Expr} {f g : DF} {t : TF}
def tFz (i : Nat) (t : TF) : TF := fun δ => t (fz i δ)
@[simp] theorem rw_tFz {i : Nat} {t : TF} {δ : De} : tFz i t δ = t (fz i δ) := rfl
def lstD : D → Wp (List D)
  | .list ds => .pure ds
  | _ => .stuck
def dIndexOf (ds : List D) (d : D) : Wp D := .need (SeqAt.shaped d = true ∧ SeqAt.shaped (.list ds) = true) ((optW (ds.findIdx? fun z => PyData.eqv z d)).bind fun j => .pure (.int (j : Nat)))
def dIndex (f g : DF) : DF := fun δ => (f δ).bind fun d => (lstD d).bind fun ds => (g δ).bind fun e => dIndexOf ds e
@[simp] theorem rw_dIndex {δ : De} : dIndex f g δ = (f δ).bind fun d => (lstD d).bind fun ds => (g δ).bind fun e => dIndexOf ds e := rfl
@[simp] theorem rw_lstD {ds : List D} : lstD (.list ds) = .pure ds := rfl
end
end Tr

namespace Tr
open PySem PySem.Spec PyProof.Rows L2
variable [ProtC]
def rS (C : Cs) (W : WX) (F : SF) : TS := fun D σ H => ∃ S0 H0 Pb δ, Rep (C.bx S0 H0) Pb σ H δ ∧ (F δ).run (OutW (C.bx S0 H0) Pb D) (Xw (C.bx S0 H0) W)
def sTry (F : SF) : SF := fun δ => (F δ).nox
@[simp] theorem rw_sTry {F : SF} {δ : De} : sTry F δ = (F δ).nox := rfl
section
variable {X : Cx} {C : Cs} {W : WX} {pos np pos' : Pos} {x n : Str} {c : Value} {body suite : List Stmt} {b₀ : Stmt} {F : SF} {i : Nat}
theorem DSs.to (h : DSs X C W body F) : PSs X body (rS C W F) := by
  obtain ⟨t, p, q⟩ := h
  exact ⟨fun pins s σ H D I ⟨S0, H0, Pb, δ, R, z⟩ => p.run pins s σ H D I (q S0 H0 Pb σ H δ D R z)⟩
end
end Tr

namespace Tr
open PySem PySem.Spec PyProof.Rows L2
variable [ProtC]
def sRaiseF (x f : Str) (g : DF) : SF := fun δ => (g δ).bind fun d => .ex ⟨x, some (f, d)⟩
@[simp] theorem rw_sRaiseF {x f : Str} {g : DF} {δ : De} : sRaiseF x f g δ = (g δ).bind fun d => .ex ⟨x, some (f, d)⟩ := rfl
end Tr

namespace Tr
open PySem PySem.Spec PyProof.Rows L2
open LamX (CodeO TabS Tabs ExtN GivesTo)
variable [ProtC]
end Tr

namespace Tr
open PySem PySem.Spec L2
variable [ProtC]
inductive Ov where
  | d (x : D)
  | o (ds : List D)
structure Os where
  a : Addr
  at_ : List (Str × Ov)
def At.ov : At → Ov
  | .d x => .d x
  | .o _ ds => .o ds
def stv (st : List (Str × At)) : List (Str × Ov) := st.map fun q => (q.1, q.2.ov)
def stp (o : Ob) : Os := ⟨o.a, stv o.st⟩
def fp (o : Ob) (b : Addr) : Prop := b = o.a ∨ b = o.dx ∨ b ∈ lsts o.st
def Cs.wob (C : Cs) (o : Ob) : Cs := { C with ob := some o }
def ownl (σ : St) (δ : De) (b : Addr) : Prop := ∃ (i : Nat) (ds : List D), δ[i]? = some (Sl.o ds) ∧ σ[i]? = some (some (V.ref b))
def AtV (K : PySem.W.Frag) (Hh H : Hp) (v : V) : At → Prop
  | .d x => Dp K Hh v x
  | .o l ds => v = .ref l ∧ ∃ xs, H l = some (.lst xs) ∧ DpAll K Hh xs ds
def AtsV (K : PySem.W.Frag) (Hh H : Hp) : List (Str × V) → List (Str × At) → Prop
  | [], [] => True
  | (n, v) :: vs, (m, x) :: st => n = m ∧ AtV K Hh H v x ∧ AtsV K Hh H vs st
  | _, _ => False
structure ObV (K : PySem.W.Frag) (Hh H : Hp) (o : Ob) : Prop where
  ins : ∃ vs, H o.a = some (.ins o.C o.dx vs) ∧ vs.length < 900 ∧ AtsV K Hh H vs o.st
  own : H o.dx = some (.own o.a)
theorem hid_hid {S T : Addr → Prop} {H : Hp} : hid S (hid T H) = hid (fun b => S b ∨ T b) H := by
  funext b
  by_cases h1 : S b
  · rw [hid_out h1, hid_out (.inl h1)]
  · by_cases h2 : T b
    · rw [hid_in h1, hid_out h2, hid_out (.inr h2)]
    · rw [hid_in h1, hid_in h2, hid_in fun z => z.elim h1 h2]
theorem hid_iff {S T : Addr → Prop} {H : Hp} (h : ∀ b, S b ↔ T b) : hid S H = hid T H := by
  funext b
  by_cases h1 : S b
  · rw [hid_out h1, hid_out ((h b).mp h1)]
  · rw [hid_in h1, hid_in fun z => h1 ((h b).mpr z)]
theorem AtV.le {K : PySem.W.Frag} {Hh Gh H G : Hp} (l : Le Hh Gh) {v : V} {x : At} (a : AtV K Hh H v x) (h : ∀ b xs, H b = some (.lst xs) → (∃ l ds, x = .o l ds ∧ b = l) → G b = some (.lst xs)) : AtV K Gh G v x := by
  cases x with
  | d x => exact Le.dp l x v a
  | o c ds =>
    obtain ⟨e, xs, h2, h3⟩ := a
    exact ⟨e, xs, h c xs h2 ⟨c, ds, rfl, rfl⟩, Le.dps l ds xs h3⟩
theorem AtsV.le {K : PySem.W.Frag} {Hh Gh H G : Hp} (l : Le Hh Gh) : ∀ {vs : List (Str × V)} {st : List (Str × At)}, AtsV K Hh H vs st → (∀ b xs, H b = some (.lst xs) → b ∈ lsts st → G b = some (.lst xs)) → AtsV K Gh G vs st
  | [], [], _, _ => trivial
  | (n, v) :: vs, (m, x) :: st, a, h => ⟨a.1, a.2.1.le l fun b xs e ⟨c, ds, e1, e2⟩ => h b xs e (by subst e1 e2; simp [lsts]), AtsV.le l a.2.2 fun b xs e hb => h b xs e (by
      cases x with
      | d x => exact hb
      | o c ds => exact List.mem_cons_of_mem _ hb)⟩
  | [], _ :: _, a, _ => a.elim
  | _ :: _, [], a, _ => a.elim
theorem AtsV.obOk {K : PySem.W.Frag} {S : Addr → Prop} {Hb H : Hp} (e : Le (hid S H) (hid S Hb)) : ∀ {vs : List (Str × V)} {st : List (Str × At)}, AtsV K (hid S H) H vs st → (∀ b ∈ lsts st, S b ∧ Hb b = H b) → AtsOk K S Hb vs st
  | [], [], _, _ => trivial
  | (n, v) :: vs, (m, .d x) :: st, a, h => ⟨a.1, Le.dp e x v a.2.1, AtsV.obOk e a.2.2 h⟩
  | (n, v) :: vs, (m, .o l ds) :: st, a, h => ⟨a.1, by
      obtain ⟨_, ⟨e1, xs, h2, h3⟩, _⟩ := a
      have := h l (by simp [lsts])
      exact ⟨e1, this.1, xs, by rw [this.2]; exact h2, Le.dps e ds xs h3⟩, AtsV.obOk e a.2.2 fun b hb => h b (by simp [lsts, hb])⟩
  | [], _ :: _, a, _ => a.elim
  | _ :: _, [], a, _ => a.elim
theorem AtsOk.obV {K : PySem.W.Frag} {S : Addr → Prop} {H : Hp} : ∀ {vs : List (Str × V)} {st : List (Str × At)}, AtsOk K S H vs st → AtsV K (hid S H) H vs st
  | [], [], _ => trivial
  | (n, v) :: vs, (m, .d x) :: st, a => ⟨a.1, a.2.1, AtsOk.obV a.2.2⟩
  | (n, v) :: vs, (m, .o l ds) :: st, a => ⟨a.1, ⟨a.2.1.1, a.2.1.2.2⟩, AtsOk.obV a.2.2⟩
  | [], _ :: _, a => a.elim
  | _ :: _, [], a => a.elim
theorem AtsV.len {K : PySem.W.Frag} {Hh H : Hp} : ∀ {vs : List (Str × V)} {st : List (Str × At)}, AtsV K Hh H vs st → vs.length = st.length
  | [], [], _ => rfl
  | _ :: _, _ :: _, a => by rw [List.length_cons, List.length_cons, AtsV.len a.2.2]
  | [], _ :: _, a => a.elim
  | _ :: _, [], a => a.elim
theorem AtsV.lst {K : PySem.W.Frag} {Hh H : Hp} : ∀ {vs : List (Str × V)} {st : List (Str × At)}, AtsV K Hh H vs st → ∀ b ∈ lsts st, ∃ xs, H b = some (.lst xs)
  | [], [], _, _, hb => by cases hb
  | _ :: vs, (m, .d x) :: st, a, b, hb => AtsV.lst (vs := vs) a.2.2 b hb
  | _ :: vs, (m, .o l ds) :: st, a, b, hb => by
    rcases List.mem_cons.mp hb with rfl | hb
    · obtain ⟨_, ⟨_, xs, h2, _⟩, _⟩ := a
      exact ⟨xs, h2⟩
    · exact AtsV.lst (vs := vs) a.2.2 b hb
  | [], _ :: _, a, _, _ => a.elim
theorem ObV.cell {K : PySem.W.Frag} {Hh H : Hp} {o : Ob} (h : ObV K Hh H o) {b : Addr} (hb : fp o b) : (∃ vs, H b = some (.ins o.C o.dx vs)) ∨ (H b = some (.own o.a)) ∨ ∃ xs, H b = some (.lst xs) := by
  obtain ⟨vs, h1, _, h2⟩ := h.ins
  rcases hb with rfl | rfl | hb
  · exact .inl ⟨vs, h1⟩
  · exact .inr (.inl h.own)
  · exact .inr (.inr (h2.lst b hb))
theorem ObV.dom {K : PySem.W.Frag} {Hh H : Hp} {o : Ob} (h : ObV K Hh H o) {b : Addr} (hb : fp o b) : H b ≠ none := by
  rcases h.cell hb with ⟨_, e⟩ | e | ⟨_, e⟩ <;> rw [e] <;> exact fun z => nomatch z
structure RepO (C : Cs) (cl : Addr) (i : Nat) (S0 : Addr → Prop) (H0 Pb : Hp) (a : Addr) (o : Ob) (σ : St) (H : Hp) (δ : De) : Prop where
  cls : o.C = cl
  at_ : o.a = a
  nd : (lsts o.st).Nodup
  sl : δ[i]? = some (.v (.ref a))
  fr : ∀ b, fp o b → H0 b = none
  s0 : ∀ b, S0 b → H0 b ≠ none
  dj : ∀ b, fp o b → ¬ ownl σ δ b
  fo : ∀ b, ownl σ δ b → H0 b = none
  gr : Grow H0 H
  ph : Le Pb (hid (fun b => S0 b ∨ fp o b ∨ ownl σ δ b) H)
  len : σ.length = δ.length
  tabs : ∀ P ∈ C.T, GxR.TabG H P
  pers : ∀ (i : Nat) (d : D), δ[i]? = some (Sl.p d) → ∃ v, σ[i]? = some (some v) ∧ Dp C.K (hid (fun b => S0 b ∨ fp o b ∨ ownl σ δ b) H) v d
  own : ∀ (i : Nat) (ds : List D), δ[i]? = some (Sl.o ds) → ∃ a xs, σ[i]? = some (some (V.ref a)) ∧ H a = some (.lst xs) ∧ DpAll C.K (hid (fun b => S0 b ∨ fp o b ∨ ownl σ δ b) H) xs ds
  uniq : ∀ (i j : Nat) (ds es : List D) (a : Addr), δ[i]? = some (Sl.o ds) → δ[j]? = some (Sl.o es) → σ[i]? = some (some (V.ref a)) → σ[j]? = some (some (V.ref a)) → i = j
  val : ∀ (i : Nat) (x : V), δ[i]? = some (Sl.v x) → σ[i]? = some (some x)
  trk : ∀ (i : Nat) (a : Addr) (φ : Heap → Prop), δ[i]? = some (Sl.t a φ) → σ[i]? = some (some (V.ref a)) ∧ hid (fun b => S0 b ∨ fp o b ∨ ownl σ δ b) H a = some (.ext φ)
  scr : (∀ q ∈ C.Z, SqL C.K H0 q.1 (q.2.map V.int)) ∧ ∀ p ∈ C.TL, LamX.TabS H0 p.1 p.2
  ob : ObV C.K (hid (fun b => S0 b ∨ fp o b ∨ ownl σ δ b) H) H o
section
variable {C : Cs} {cl : Addr} {i : Nat} {S0 : Addr → Prop} {H0 Pb : Hp} {a : Addr} {o : Ob} {σ : St} {H : Hp} {δ : De}
theorem TabS.ext2 {H G : Hp} {P : Addr} {q : Str} (t : LamX.TabS H P q) (e : ∀ b u, H b = some u → (∀ xs, u ≠ .lst xs) → (∀ C d fs, u ≠ .ins C d fs) → (∀ y, u ≠ .own y) → G b = some u) : LamX.TabS G P q := by
  obtain ⟨ps, e1, t1, t2⟩ := t
  refine ⟨ps, e P _ e1 (fun _ z => by cases z) (fun _ _ _ z => by cases z) (fun _ z => by cases z), t1, fun pos cv hc => ?_⟩
  obtain ⟨c, e2, e3⟩ := t2 pos cv hc
  exact ⟨c, e2, e c _ e3 (fun _ z => by unfold LamX.CodeO at z; cases z) (fun _ _ _ z => by unfold LamX.CodeO at z; cases z) (fun _ z => by unfold LamX.CodeO at z; cases z)⟩
theorem RepO.ol (R : RepO C cl i S0 H0 Pb a o σ H δ) {b : Addr} (h : ownl σ δ b) : ∃ xs, H b = some (.lst xs) := by
  obtain ⟨j, ds, e1, e2⟩ := h
  obtain ⟨c, xs, q1, q2, _⟩ := R.own j ds e1
  rw [e2] at q1
  cases q1
  exact ⟨xs, q2⟩
theorem RepO.base (R : RepO C cl i S0 H0 Pb a o σ H δ) : Grow H0 (hid (ownl σ δ) H) ∧ Grow (hid (ownl σ δ) H) H := by
  refine ⟨⟨fun b u e n => ?_, fun P t => ?_, fun b n => ?_, fun P q hp t => ?_⟩, ⟨hid_sub, fun P t => ?_, fun b n z => ?_, fun P q hp t => ?_⟩⟩
  · rw [hid_in fun z => by rw [R.fo b z] at e; cases e]
    exact R.gr.le b u e n
  · obtain ⟨ps, e, tr⟩ := R.gr.tb P t
    refine ⟨ps, ?_, tr⟩
    rw [hid_in fun z => by
      obtain ⟨xs, h⟩ := R.ol z
      rw [e] at h; cases h]
    exact e
  · rw [hid_in fun z => n (R.fo b z)]
    exact R.gr.dm b n
  · refine TabS.ext2 (R.gr.pr P q hp t) fun b u e n1 _ _ => ?_
    rw [hid_in fun z => by
      obtain ⟨xs, h⟩ := R.ol z
      rw [e] at h
      exact n1 xs (Option.some.inj h)]
    exact e
  · obtain ⟨ps, e, tr⟩ := t
    exact ⟨ps, (of_hid e).2, tr⟩
  · by_cases h : ownl σ δ b
    · exact n (hid_out h)
    · exact n (by rw [hid_in h]; exact z)
  · exact t.ext fun b u e => (of_hid e).2
theorem RepO.down (R : RepO C cl i S0 H0 Pb a o σ H δ) : Rep ((C.wob o).bx (fun b => S0 b ∨ fp o b) (hid (ownl σ δ) H)) Pb σ H δ := by
  have own : ∀ b, Own ((C.wob o).bx (fun b => S0 b ∨ fp o b) (hid (ownl σ δ) H)) σ δ b ↔ (S0 b ∨ fp o b ∨ ownl σ δ b) := fun b => or_assoc
  have eh : hid (Own ((C.wob o).bx (fun b => S0 b ∨ fp o b) (hid (ownl σ δ) H)) σ δ) H = hid (fun b => S0 b ∨ fp o b ∨ ownl σ δ b) H := hid_iff own
  have b1 := R.base
  have ob := R.ob
  obtain ⟨vs, i1, _, i2⟩ := ob.ins
  refine ⟨by rw [eh]; exact R.ph, R.len, b1.2, fun b z => ?_, R.tabs, fun j d h => by rw [eh]; exact R.pers j d h, fun j ds h => ?_, R.uniq, R.val, fun j c φ h => by rw [eh]; exact R.trk j c φ h, ⟨fun q hq => b1.1.le.sqL (R.scr.1 q hq), fun p hp => b1.1.pr _ _ (C.pl p hp) (R.scr.2 p hp), fun o' ho => ?_⟩⟩
  · rcases z with z | z
    · exact b1.1.dm b (R.s0 b z)
    · show hid (ownl σ δ) H b ≠ none
      rw [hid_in (R.dj b z)]
      exact ob.dom z
  · obtain ⟨c, xs, q1, q2, q3⟩ := R.own j ds h
    exact ⟨c, xs, q1, q2, hid_out ⟨j, ds, h, q1⟩, by rw [eh]; exact q3⟩
  · have e : o = o' := Option.some.inj ho
    subst e
    have hh : hid (fun b => S0 b ∨ fp o b ∨ ownl σ δ b) H = hid (fun b => S0 b ∨ fp o b) (hid (ownl σ δ) H) := by
      rw [hid_hid]
      exact hid_iff fun b => or_assoc.symm
    refine ⟨⟨vs, ?_, ?_⟩, ?_, .inr (.inl rfl), .inr (.inr (.inl rfl))⟩
    · show hid (ownl σ δ) H o.a = _
      rw [hid_in (R.dj _ (.inl rfl))]
      exact i1
    · show AtsOk C.K (fun b => S0 b ∨ fp o b) (hid (ownl σ δ) H) vs o.st
      have i3 : AtsV C.K (hid (fun b => S0 b ∨ fp o b) (hid (ownl σ δ) H)) (hid (ownl σ δ) H) vs o.st := by
        rw [← hh]
        refine i2.le (Le.refl _) fun b xs e hb => ?_
        rw [hid_in (R.dj b (.inr (.inr hb)))]
        exact e
      exact i3.obOk (Le.refl _) fun b hb => ⟨.inr (.inr (.inr hb)), rfl⟩
    · show hid (ownl σ δ) H o.dx = _
      rw [hid_in (R.dj _ (.inr (.inl rfl)))]
      exact ob.own
theorem RepO.up {σ' : St} {H' : Hp} {δ' : De} (R : RepO C cl i S0 H0 Pb a o σ H δ) (r : Rep ((C.wob o).bx (fun b => S0 b ∨ fp o b) (hid (ownl σ δ) H)) Pb σ' H' δ') (hs : δ'[i]? = some (.v (.ref a))) : RepO C cl i S0 H0 Pb a o σ' H' δ' := by
  have own : ∀ b, Own ((C.wob o).bx (fun b => S0 b ∨ fp o b) (hid (ownl σ δ) H)) σ' δ' b ↔ (S0 b ∨ fp o b ∨ ownl σ' δ' b) := fun b => or_assoc
  have eh : hid (Own ((C.wob o).bx (fun b => S0 b ∨ fp o b) (hid (ownl σ δ) H)) σ' δ') H' = hid (fun b => S0 b ∨ fp o b ∨ ownl σ' δ' b) H' := hid_iff own
  have b1 := R.base
  have fo1 : ∀ b, ownl σ' δ' b → hid (ownl σ δ) H b = none := fun b ⟨j, ds, e1, e2⟩ => by
    obtain ⟨c, xs, q1, _, q3, _⟩ := r.own j ds e1
    rw [e2] at q1
    cases q1
    exact q3
  have keep : ∀ b u, ¬ ownl σ δ b → H b = some u → (∀ ps, u ≠ .tbl ps) → H' b = some u := fun b u h e n => r.grow.le b u (show hid (ownl σ δ) H b = some u by rw [hid_in h]; exact e) n
  have ob := R.ob
  obtain ⟨vs, i1, il, i2⟩ := ob.ins
  have hl : Le (hid (fun b => S0 b ∨ fp o b ∨ ownl σ δ b) H) (hid (fun b => S0 b ∨ fp o b ∨ ownl σ' δ' b) H') := by
    rw [← eh]
    refine Le.trans ?_ r.leB
    intro b u e n
    obtain ⟨h1, h2⟩ := of_hid e
    have h3 : hid (ownl σ δ) H b = some u := by rw [hid_in fun z => h1 (.inr (.inr z))]; exact h2
    show hid (fun b => S0 b ∨ fp o b) (hid (ownl σ δ) H) b = some u
    rw [hid_in fun z => h1 (z.elim .inl fun z => .inr (.inl z))]
    exact h3
  refine ⟨R.cls, R.at_, R.nd, hs, R.fr, R.s0, fun b z1 z2 => ?_, fun b z => ?_, b1.1.trans r.grow, by rw [← eh]; exact r.ph, r.len, r.tabs, fun j d h => by rw [← eh]; exact r.pers j d h, fun j ds h => ?_, r.uniq, r.val, fun j c φ h => by rw [← eh]; exact r.trk j c φ h, R.scr, ⟨⟨vs, ?_, il, ?_⟩, ?_⟩⟩
  · have h1 := fo1 b z2
    rw [hid_in (R.dj b z1)] at h1
    exact ob.dom z1 h1
  · cases e : H0 b with
    | none => rfl
    | some u => exact absurd (fo1 b z) (b1.1.dm b (by rw [e]; exact fun z => nomatch z))
  · obtain ⟨c, xs, q1, q2, _, q4⟩ := r.own j ds h
    exact ⟨c, xs, q1, q2, by rw [← eh]; exact q4⟩
  · exact keep _ _ (R.dj _ (.inl rfl)) i1 fun ps z => by cases z
  · exact i2.le hl fun b xs e hb => keep _ _ (R.dj _ (.inr (.inr hb))) e fun ps z => by cases z
  · exact keep _ _ (R.dj _ (.inr (.inl rfl))) ob.own fun ps z => by cases z
end
end Tr

namespace Tr
open PySem PySem.Spec L2
variable [ProtC]
section
variable {C : Cs} {cl : Addr} {i : Nat} {S0 : Addr → Prop} {H0 Pb Ph : Hp} {a : Addr} {o : Ob} {σ : St} {H G : Hp} {δ : De}
theorem RepO.bas (R : RepO C cl i S0 H0 Ph a o σ H δ) (l : Le Pb Ph) : RepO C cl i S0 H0 Pb a o σ H δ :=
  ⟨R.cls, R.at_, R.nd, R.sl, R.fr, R.s0, R.dj, R.fo, R.gr, l.trans R.ph, R.len, R.tabs, R.pers, R.own, R.uniq, R.val, R.trk, R.scr, R.ob⟩
theorem RepO.top (R : RepO C cl i S0 H0 Pb a o σ H δ) : RepO C cl i S0 H0 (hid (fun b => S0 b ∨ fp o b ∨ ownl σ δ b) H) a o σ H δ :=
  ⟨R.cls, R.at_, R.nd, R.sl, R.fr, R.s0, R.dj, R.fo, R.gr, Le.refl _, R.len, R.tabs, R.pers, R.own, R.uniq, R.val, R.trk, R.scr, R.ob⟩
theorem RepO.odom (R : RepO C cl i S0 H0 Pb a o σ H δ) : ∀ b, (S0 b ∨ fp o b ∨ ownl σ δ b) → H b ≠ none := fun b z => by
  rcases z with z | z | z
  · exact R.gr.dm b (R.s0 b z)
  · exact R.ob.dom z
  · obtain ⟨xs, e⟩ := R.ol z
    rw [e]; exact fun z => nomatch z
theorem RepO.eh (R : RepO C cl i S0 H0 Pb a o σ H δ) {G : Hp} : hid (Own ((C.wob o).bx (fun b => S0 b ∨ fp o b) (hid (ownl σ δ) H)) σ δ) G = hid (fun b => S0 b ∨ fp o b ∨ ownl σ δ b) G := hid_iff fun b => or_assoc
end
abbrev SO := Os → De → Wp (Out × Os)
def OutO (C : Cs) (cl : Addr) (i : Nat) (S0 : Addr → Prop) (H0 Pb : Hp) (a : Addr) (E : Ends) : Out × Os → Prop
  | (.nx δ, os) => ∀ o σ H, stp o = os → RepO C cl i S0 H0 Pb a o σ H δ → E.nx σ H
  | (.rt d, os) => ∀ o v G, o.C = cl → o.a = a → stp o = os → (lsts o.st).Nodup → (∀ b, fp o b → H0 b = none) → Grow H0 G → ObV C.K (hid (fun b => S0 b ∨ fp o b) G) G o → Dp C.K (hid (fun b => S0 b ∨ fp o b) G) v d → E.rt v G
  | (.bk δ, os) => ∀ o σ H, stp o = os → RepO C cl i S0 H0 Pb a o σ H δ → E.bk σ H
  | (.ct δ, os) => ∀ o σ H, stp o = os → RepO C cl i S0 H0 Pb a o σ H δ → E.ct σ H
theorem OutO.base {C : Cs} {cl : Addr} {i : Nat} {S0 : Addr → Prop} {H0 Pb Ph : Hp} {a : Addr} {E : Ends} {o : Out × Os} (l : Le Pb Ph) (h : OutO C cl i S0 H0 Pb a E o) : OutO C cl i S0 H0 Ph a E o := by
  obtain ⟨q, os⟩ := o
  cases q with
  | nx δ => exact fun o σ H e R => h o σ H e (R.bas l)
  | rt d => exact h
  | bk δ => exact fun o σ H e R => h o σ H e (R.bas l)
  | ct δ => exact fun o σ H e R => h o σ H e (R.bas l)
def rOS (C : Cs) (cl : Addr) (i : Nat) (F : SO) : TS := fun E σ H => ∃ S0 H0 Pb a o δ, RepO C cl i S0 H0 Pb a o σ H δ ∧ (F (stp o) δ).run (OutO C cl i S0 H0 Pb a E) fun _ => False
def OSs (X : Cx) (C : Cs) (cl : Addr) (i : Nat) (sts : List Stmt) (F : SO) : Prop := PSs X sts (rOS C cl i F)
section
variable {X : Cx} {C : Cs} {cl : Addr} {i : Nat} {pos : Pos} {e : Expr} {st : Stmt} {sts rest : List Stmt} {F G : SO}
def oL (i : Nat) (F : Os → SF) : SO := fun os δ => (F os δ).bind fun r => match r with
  | .nx δ' => .need (δ'[i]? = δ[i]?) (.pure (.nx δ', os))
  | .rt d => .pure (.rt d, os)
  | .bk δ' => .need (δ'[i]? = δ[i]?) (.pure (.bk δ', os))
  | .ct δ' => .need (δ'[i]? = δ[i]?) (.pure (.ct δ', os))
def oSeq (F G : SO) : SO := fun os δ => (F os δ).bind fun r => match r with
  | (.nx δ', os') => G os' δ'
  | r => .pure r
def oNil : SO := fun os δ => .pure (.nx δ, os)
def oIf (t : Os → TF) (F G : SO) : SO := fun os δ => (t os δ).bind fun b => if b then F os δ else G os δ
def oLoop (i : Nat) (g : BF) (F : SO) : List D → Os → De → Wp (Out × Os)
  | [], os, δ => .pure (.nx δ, os)
  | d :: ds, os, δ => (optW (g d δ)).bind fun δ1 => .need (δ1[i]? = δ[i]?) ((F os δ1).bind fun r => match r with
    | (.nx δ', os') => oLoop i g F ds os' δ'
    | (.ct δ', os') => oLoop i g F ds os' δ'
    | (.bk δ', os') => .pure (.nx δ', os')
    | (.rt d, os') => .pure (.rt d, os'))
def oFor (i : Nat) (f : Os → De → Wp (List D)) (g : BF) (F : SO) : SO := fun os δ => (f os δ).bind fun ds => oLoop i g F ds os δ
end
end Tr

namespace Tr
open PySem PySem.Spec L2
variable [ProtC]
def dFld (i : Nat) (f : Str) (os : Os) : DF := fun δ => .need (δ[i]? = some (.v (.ref os.a))) (match os.at_.lookup f with
  | some (.d d) => .pure d
  | _ => .stuck)
def lFld (i : Nat) (f : Str) (os : Os) : De → Wp (List D) := fun δ => .need (δ[i]? = some (.v (.ref os.a))) (match os.at_.lookup f with
  | some (.o ds) => .pure ds
  | _ => .stuck)
section
variable {X : Cx} {C : Cs} {W : WX} {pos p : Pos} {e : Expr} {f : Str} {i : Nat} {x : Str} {o : Ob}
theorem Rep.obs {B : Bx} {Pb : Hp} {σ : St} {H : Hp} {δ : De} (R : Rep B Pb σ H δ) (ho : B.c.ob = some o) : ∃ vs, H o.a = some (.ins o.C o.dx vs) ∧ AtsV B.c.K (hid (Own B σ δ) H) H vs o.st := by
  obtain ⟨vs, h1, h2⟩ := (R.scrO.2.2 o ho).ins
  exact ⟨vs, h1, h2.obV⟩
def dIxL (l : De → Wp (List D)) (fi : DF) : DF := fun δ => (l δ).bind fun ds => (fi δ).bind fun k => (asI1 k).bind fun k => optW (atI ds k)
def dLenL (l : De → Wp (List D)) : DF := fun δ => (l δ).bind fun ds => .pure (.int ds.length)
def iEnA (l : De → Wp (List D)) : De → Wp (List D) := fun δ => (l δ).bind fun ds => .pure (enD ds)
end
end Tr

namespace Tr
open PySem PySem.Spec L2
variable [ProtC]
def putG {A : Type} (f : Str) (v : A) : List (Str × A) → List (Str × A)
  | [] => [(f, v)]
  | (g, x) :: r => if g = f then (g, v) :: r else (g, x) :: putG f v r
theorem AtsV.put {K : PySem.W.Frag} {Hh H : Hp} {f : Str} {v : V} {x : At} (hx : AtV K Hh H v x) : ∀ {vs : List (Str × V)} {st : List (Str × At)}, AtsV K Hh H vs st → AtsV K Hh H (putG f v vs) (putG f x st)
  | [], [], _ => ⟨rfl, hx, trivial⟩
  | (n, u) :: vs, (m, y) :: st, a => by
    obtain ⟨rfl, a1, a2⟩ := a
    unfold putG
    split
    · exact ⟨rfl, hx, a2⟩
    · exact ⟨rfl, a1, AtsV.put hx a2⟩
  | [], _ :: _, a => a.elim
  | _ :: _, [], a => a.elim
theorem look_mem {f : Str} {l : Addr} {ds : List D} : ∀ {st : List (Str × At)}, st.lookup f = some (.o l ds) → l ∈ lsts st
  | [], h => by simp at h
  | (g, y) :: r, h => by
    rw [List.lookup_cons] at h
    cases e : f == g with
    | true =>
      rw [e] at h
      cases Option.some.inj h
      simp [lsts]
    | false =>
      rw [e] at h
      have := look_mem (st := r) h
      cases y with
      | d d => exact this
      | o l2 ds2 => exact List.mem_cons_of_mem _ this
theorem AtsV.wr {K : PySem.W.Frag} {Hh Gh H G : Hp} {f : Str} {l : Addr} {ds es : List D} {ys : List V} (le : Le Hh Gh) (hl : G l = some (.lst ys)) (hy : DpAll K Gh ys es) : ∀ {vs : List (Str × V)} {st : List (Str × At)}, AtsV K Hh H vs st → st.lookup f = some (.o l ds) → (lsts st).Nodup →
    (∀ b xs, H b = some (.lst xs) → b ∈ lsts st → b ≠ l → G b = some (.lst xs)) → AtsV K Gh G vs (putG f (.o l es) st)
  | [], [], _, h, _, _ => by simp at h
  | (n, v) :: vs, (m, y) :: st, a, h, nd, k => by
    obtain ⟨rfl, a1, a2⟩ := a
    rw [List.lookup_cons] at h
    unfold putG
    cases e : f == n with
    | true =>
      rw [e] at h
      cases Option.some.inj h
      rw [if_pos (by simpa using (beq_iff_eq.mp e).symm)]
      obtain ⟨h1, h2⟩ := List.nodup_cons.mp nd
      exact ⟨rfl, ⟨a1.1, ys, hl, hy⟩, a2.le le fun b xs hb hm => k b xs hb (List.mem_cons_of_mem _ hm) fun z => h1 (z ▸ hm)⟩
    | false =>
      rw [e] at h
      rw [if_neg fun z => by rw [z] at e; simp at e]
      have hm := look_mem h
      cases y with
      | d d => exact ⟨rfl, Le.dp le d v a1, AtsV.wr le hl hy a2 h nd k⟩
      | o l2 ds2 =>
        obtain ⟨h1, h2⟩ := List.nodup_cons.mp nd
        obtain ⟨e1, xs, e2, e3⟩ := a1
        exact ⟨rfl, ⟨e1, xs, k l2 xs e2 (List.mem_cons_self ..) fun z => h1 (z ▸ hm), Le.dps le ds2 xs e3⟩, AtsV.wr le hl hy a2 h h2 fun b xs hb hb2 => k b xs hb (List.mem_cons_of_mem _ hb2)⟩
  | [], _ :: _, a, _, _, _ => a.elim
  | _ :: _, [], a, _, _, _ => a.elim
def Os.put (os : Os) (f : Str) (v : Ov) : Os := ⟨os.a, putG f v os.at_⟩
def Ob.put (o : Ob) (f : Str) (x : At) : Ob := ⟨o.C, o.a, o.dx, putG f x o.st⟩
end Tr

namespace Tr
open PySem PySem.Spec L2
variable [ProtC]
def oSetA (f : Str) (g : Os → DF) : SO := fun os δ => (g os δ).bind fun d => .need ((os.put f (.d d)).at_.length < 900) (.pure (.nx δ, os.put f (.d d)))
def oSetL (f : Str) (g : Os → De → Wp (List D)) : SO := fun os δ => (g os δ).bind fun ds => .need ((os.put f (.o ds)).at_.length < 900) (.pure (.nx δ, os.put f (.o ds)))
def oMov (f : Str) (j : Nat) : SO := fun os δ => (slotO δ[j]?).bind fun ds => .need ((os.put f (.o ds)).at_.length < 900) (.pure (.nx (δ.set j .non), os.put f (.o ds)))
def lOf : Option Ov → Wp (List D)
  | some (.o ds) => .pure ds
  | _ => .stuck
def oSetIx (f : Str) (fi g : Os → DF) : SO := fun os δ => (g os δ).bind fun d => (lOf (os.at_.lookup f)).bind fun ds => (fi os δ).bind fun k => (asI1 k).bind fun k => (optW (ixN ds.length k)).bind fun j => .pure (.nx δ, os.put f (.o (ds.set j d)))
def oApp (f : Str) (g : Os → DF) : SO := fun os δ => (lOf (os.at_.lookup f)).bind fun ds => (g os δ).bind fun d => .need (ds.length < sizeLine) (.pure (.nx δ, os.put f (.o (ds ++ [d]))))
section
variable {X : Cx} {C : Cs} {cl : Addr} {i : Nat} {pos p1 p2 p3 p3' : Pos} {e : Expr} {f x : Str} {g : Os → DF}
theorem RepO.self {S0 : Addr → Prop} {H0 Pb : Hp} {a : Addr} {o : Ob} {σ : St} {H : Hp} {δ : De} (R : RepO C cl i S0 H0 Pb a o σ H δ) : σ[i]? = some (some (.ref a)) ∧ ∃ vs, H a = some (.ins cl o.dx vs) ∧ vs.length < 900 ∧ AtsV C.K (hid (fun b => S0 b ∨ fp o b ∨ ownl σ δ b) H) H vs o.st := by
  have ea := R.at_
  have ec := R.cls
  subst ea ec
  exact ⟨R.val i _ R.sl, R.ob.ins⟩
end
end Tr

namespace Tr
open PySem PySem.Spec L2
variable [ProtC]
structure DMr (P : Program) (w : World) (C : Cs) (base : Heap) (cl : Addr) (m : Str) (n k : Nat) (F : Os → List Ar → Wp D) : Prop where
  ex : ∃ (fa : Addr) (fd : FuncData) (ps : List Str), Cls C.K cl ∧ Meth C.K cl m fa ∧ Binds C.K fd ps [] ∧ ∀ o : Ob, o.C = cl → FnOk P w C.K C.mg base (L2.CX P w) k fa fd ps (spD (C.wob o) n (F (stp o)))
def dMethR (i : Nat) (m : Str) (n : Nat) (F : Os → List Ar → Wp D) (os : Os) (r : AF) : DF := fun δ => .need (δ[i]? = some (.v (.ref os.a)) ∧ os.at_.lookup m = none) ((r δ).bind fun as => .need (as.length + 1 = n) (F os (.v (.ref os.a) :: as)).nox)
theorem fnM {P : Program} {w : World} {C : Cs} {base : Heap} {x qual : Str} {params : Arguments} {body : List Stmt} {scope : Scope} {q : He.Defn} {fd : FuncData} {N ps : List Str} {k : Nat} {sp : Sp}
    (F : FunD C.K x qual params body scope [] [] (He.fAd C.K q) fd) (S : FnScope N ps scope) (len : ∀ vs H Q E, sp vs H Q E → vs.length = ps.length)
    (hb : ∀ (A : Around) (outer : List Env) (s : Shared) (H : Hp) (E : XK) (vs : List V) (Q : VK), Room k (A.deeper (PyProof.Rows.envOfC qual scope s.heap.objs.size (He.fAd C.K q) (.ref (He.codeOf C.K q)))) → sp vs H Q E →
      ∃ t, PSs (cxN P w C base N qual scope (He.fAd C.K q) (.ref (He.codeOf C.K q)) A outer s H E) body t ∧ t { nx := fun _ H' => Q .non H', rt := Q } (L2.start N vs) H) :
    FnOk P w C.K C.mg base (L2.CX P w) (k + 1) (He.fAd C.K q) fd ps sp := by
  obtain ⟨oc, od, dV, kV, doc, pm, an, cdv, ct, osl, rfl, lk, hcd, _, _⟩ := F.ex
  obtain ⟨c, hc⟩ := He.codeIn_ref hcd
  have ec : He.codeOf C.K q = c := He.codeOf_eq (p := q) lk hc
  subst hc
  rw [ec] at hb
  exact fn_of lk hcd S len fun A outer s H vs Q E hr h => hb A outer s H E vs Q hr h
theorem DMr.mk' {P : Program} {w : World} {C : Cs} {base : Heap} {cl : Addr} {m x qual : Str} {params : Arguments} {body : List Stmt} {scope : Scope} {q : He.Defn} {fd : FuncData} {N ps : List Str} {k n : Nat} {bd : Os → SF}
    (c : Cls C.K cl) (hm : Meth C.K cl m (He.fAd C.K q)) (F : FunD C.K x qual params body scope [] [] (He.fAd C.K q) fd) (S : FnScope N ps scope) (hn : ps.length = n)
    (hbi : ∀ (kV doc pm : Value) (an : Option Addr) (cdv ct : Value) (us : List Value), us.length = ps.length → bindArgs (PySem.W.fnOf x qual params body scope .none kV doc pm an cdv ct) ⟨us, []⟩ = pure (ps.zip us))
    (hb : ∀ (o : Ob), o.C = cl → ∀ (A : Around) (outer : List Env) (s : Shared) (H : Hp) (E : XK), Room k (A.deeper (PyProof.Rows.envOfC qual scope s.heap.objs.size (He.fAd C.K q) (.ref (He.codeOf C.K q)))) →
      DSs (cxN P w C base N qual scope (He.fAd C.K q) (.ref (He.codeOf C.K q)) A outer s H E) (C.wob o) (wxN E) body (bd (stp o))) :
    DMr P w C base cl m n (k + 1) (fun os => dRun N.length (bd os)) := by
  subst hn
  refine ⟨_, fd, ps, c, hm, F.bindsN hbi, fun o hcl => fnM F S spD_len fun A outer s H E vs Q hr ⟨Sx, as, hn, dom, tabs, scr, ok, hw⟩ => ?_⟩
  obtain ⟨t, p, qq⟩ := hb o hcl A outer s H E hr
  refine ⟨t, p, qq Sx H (hid Sx H) (L2.start N vs) H (dStart N.length as) _ (start_rep dom tabs scr ok) ((bd (stp o) (dStart N.length as)).mono (fun r hr => ?_) (fun y hy cls dc σ G g ex => hy cls dc G g ex) hw)⟩
  cases r with
  | nx δ' => exact fun σ' H' R' => hr .non H' R'.grow .non
  | rt d => exact hr
  | bk δ' => exact hr.elim
  | ct δ' => exact hr.elim
def spM (C : Cs) (cl : Addr) (n : Nat) (F : Os → List Ar → Wp (D × Os)) : Sp := fun vs H Q E => ∃ (S : Addr → Prop) (o : Ob) (as : List Ar), as.length + 1 = n ∧ o.C = cl ∧ (lsts o.st).Nodup ∧ (∀ b, S b → H b ≠ none ∧ ¬ fp o b) ∧ (∀ P ∈ C.T, GxR.TabG H P) ∧
  ((∀ q ∈ C.Z, SqL C.K (hid (fp o) H) q.1 (q.2.map V.int)) ∧ ∀ p ∈ C.TL, LamX.TabS (hid (fp o) H) p.1 p.2) ∧ ObV C.K (hid (fun b => S b ∨ fp o b) H) H o ∧ ArsOk C.K (hid (fun b => S b ∨ fp o b) H) vs (.v (.ref o.a) :: as) ∧
  (F (stp o) as).run (fun r => ∀ o' v G, o'.C = cl → stp o' = r.2 → (lsts o'.st).Nodup → (∀ b, fp o' b → fp o b ∨ H b = none) → Grow (hid (fp o) H) G → ObV C.K (hid (fun b => S b ∨ fp o' b) G) G o' → Dp C.K (hid (fun b => S b ∨ fp o' b) G) v r.1 → Q v G) fun _ => False
theorem spM_len {C : Cs} {cl : Addr} {n : Nat} {F : Os → List Ar → Wp (D × Os)} : ∀ vs H Q E, spM C cl n F vs H Q E → vs.length = n := fun vs H Q E ⟨S, o, as, h1, _, _, _, _, _, _, h2, _⟩ => h2.len.trans h1
structure DMw (P : Program) (w : World) (C : Cs) (base : Heap) (cl : Addr) (m : Str) (n k : Nat) (F : Os → List Ar → Wp (D × Os)) : Prop where
  ex : ∃ (fa : Addr) (fd : FuncData) (ps : List Str), Cls C.K cl ∧ Meth C.K cl m fa ∧ Binds C.K fd ps [] ∧ FnOk P w C.K C.mg base (L2.CX P w) k fa fd ps (spM C cl n F)
def dRunO (m : Nat) (bd : SO) (os : Os) (as : List Ar) : Wp (D × Os) := (bd os (dStart m (.v (.ref os.a) :: as))).bind fun r => match r with
  | (.rt d, os') => .pure (d, os')
  | (.nx _, os') => .pure (.none, os')
  | _ => .stuck
def Cs.bare (C : Cs) : Cs := { C with ob := none, Z := [], TL := [], pl := fun p hp => by cases hp }
theorem startO {C : Cs} {cl : Addr} {S : Addr → Prop} {H : Hp} {N : List Str} {vs : List V} {as : List Ar} {o : Ob} (cls : o.C = cl) (nd : (lsts o.st).Nodup) (dom : ∀ b, S b → H b ≠ none ∧ ¬ fp o b) (tabs : ∀ P ∈ C.T, GxR.TabG H P)
    (scr : (∀ q ∈ C.Z, SqL C.K (hid (fp o) H) q.1 (q.2.map V.int)) ∧ ∀ p ∈ C.TL, LamX.TabS (hid (fp o) H) p.1 p.2) (ob : ObV C.K (hid (fun b => S b ∨ fp o b) H) H o) (ok : ArsOk C.K (hid (fun b => S b ∨ fp o b) H) vs (.v (.ref o.a) :: as)) :
    RepO C cl 0 S (hid (fp o) H) (hid (fun b => S b ∨ fp o b) H) o.a o (L2.start N vs) H (dStart N.length (.v (.ref o.a) :: as)) := by
  have R0 := start_rep (C := C.bare) (N := N) (S := fun b => S b ∨ fp o b) (H := H) (vs := vs) (as := .v (.ref o.a) :: as) (fun b z => z.elim (fun z => (dom b z).1) fun z => ob.dom z) tabs ⟨fun q hq => (nomatch hq), fun p hp => (nomatch hp), fun o ho => (nomatch ho)⟩ ok
  have no : ∀ j ds, (dStart N.length (.v (.ref o.a) :: as))[j]? ≠ some (Sl.o ds) := fun j ds e => by
    obtain ⟨_, _, _, _, h, _⟩ := R0.own j ds e
    unfold dStart at e
    by_cases c : j < ((Ar.v (.ref o.a)) :: as).length
    · rw [List.getElem?_append_left (by rw [List.length_map]; exact c), List.getElem?_map, List.getElem?_eq_getElem c] at e
      have e := Option.some.inj e
      revert e
      cases ((Ar.v (.ref o.a)) :: as)[j] <;> intro e <;> cases e
    · rw [List.getElem?_append_right (by rw [List.length_map]; omega), List.getElem?_replicate] at e
      split at e
      · cases Option.some.inj e
      · cases e
  have nol : ∀ b, ¬ ownl (L2.start N vs) (dStart N.length (.v (.ref o.a) :: as)) b := fun b ⟨j, ds, e, _⟩ => no j ds e
  have eh : ∀ H : Hp, hid (fun b => S b ∨ fp o b ∨ ownl (L2.start N vs) (dStart N.length (.v (.ref o.a) :: as)) b) H = hid (fun b => S b ∨ fp o b) H := fun H => hid_iff fun b => or_congr Iff.rfl (or_iff_left (nol b))
  have eh2 : ∀ H : Hp, hid (Own (C.bare.bx (fun b => S b ∨ fp o b) H) (L2.start N vs) (dStart N.length (.v (.ref o.a) :: as))) H = hid (fun b => S b ∨ fp o b) H := fun H => hid_iff fun b => or_iff_left (nol b)
  have nfp : ∀ b u, H b = some u → (∀ xs, u ≠ .lst xs) → (∀ C d fs, u ≠ .ins C d fs) → (∀ y, u ≠ .own y) → ¬ fp o b := fun b u e n1 n2 n3 z => by
    rcases ob.cell z with ⟨_, e'⟩ | e' | ⟨_, e'⟩ <;> rw [e] at e'
    · exact n2 _ _ _ (Option.some.inj e')
    · exact n3 _ (Option.some.inj e')
    · exact n1 _ (Option.some.inj e')
  refine ⟨cls, rfl, nd, rfl, fun b z => hid_out z, fun b z => by rw [hid_in (dom b z).2]; exact (dom b z).1, fun b _ => nol b, fun b z => absurd z (nol b), ⟨hid_sub, fun P ⟨ps, e, t⟩ => ⟨ps, (of_hid e).2, t⟩, fun b n z => n ?_, fun P q _ t => t.ext fun b u e => (of_hid e).2⟩,
    by rw [eh]; exact Le.refl _, R0.len, tabs, fun j d h => ?_, fun j ds h => absurd h (no j ds), fun j k ds es b h => absurd h (no j ds), R0.val, fun j b φ h => ?_, scr, by rw [eh]; exact ob⟩
  · by_cases c : fp o b
    · exact hid_out c
    · rw [hid_in c]; exact z
  · obtain ⟨v, h1, h2⟩ := R0.pers j d h
    rw [eh2] at h2
    exact ⟨v, h1, by rw [eh]; exact h2⟩
  · obtain ⟨h1, h2⟩ := R0.trk j b φ h
    rw [eh2] at h2
    exact ⟨h1, by rw [eh]; exact h2⟩
theorem fnMw {P : Program} {w : World} {C : Cs} {base : Heap} {cl : Addr} {x qual : Str} {params : Arguments} {body : List Stmt} {scope : Scope} {q : He.Defn} {fd : FuncData} {N ps : List Str} {k n : Nat} {bd : SO}
    (F : FunD C.K x qual params body scope [] [] (He.fAd C.K q) fd) (S : FnScope N ps scope) (hn : ps.length = n)
    (hb : ∀ (A : Around) (outer : List Env) (s : Shared) (H : Hp) (E : XK), Room k (A.deeper (PyProof.Rows.envOfC qual scope s.heap.objs.size (He.fAd C.K q) (.ref (He.codeOf C.K q)))) →
      OSs (cxN P w C base N qual scope (He.fAd C.K q) (.ref (He.codeOf C.K q)) A outer s H E) C cl 0 body bd) :
    FnOk P w C.K C.mg base (L2.CX P w) (k + 1) (He.fAd C.K q) fd ps (spM C cl n (dRunO N.length bd)) := by
  subst hn
  refine fnM F S spM_len fun A outer s H E vs Q hr ⟨Sx, o, as, hn, cls, nd, dom, tabs, scr, ob, ok, hw⟩ => ?_
  refine ⟨_, hb A outer s H E hr, Sx, _, _, o.a, o, _, startO cls nd dom tabs scr ob ok, (bd (stp o) _).mono (fun r hr => ?_) (fun _ z => z) hw⟩
  have fresh : ∀ {o' : Ob}, (∀ b, fp o' b → hid (fp o) H b = none) → ∀ b, fp o' b → fp o b ∨ H b = none := fun h b z => by
    by_cases c : fp o b
    · exact .inl c
    · have := h b z
      rw [hid_in c] at this
      exact .inr this
  obtain ⟨r, os'⟩ := r
  cases r with
  | nx δ' =>
    intro o' σ' H' e R'
    have le : Le (hid (fun b => Sx b ∨ fp o' b ∨ ownl σ' δ' b) H') (hid (fun b => Sx b ∨ fp o' b) H') := hid_le (Le.refl _) fun b z => z.elim .inl fun z => .inr (.inl z)
    obtain ⟨vs', i1, i2, i3⟩ := R'.ob.ins
    exact hr o' .non H' R'.cls e R'.nd (fresh R'.fr) R'.gr ⟨⟨vs', i1, i2, i3.le le fun b xs h _ => h⟩, R'.ob.own⟩ .non
  | rt d =>
    intro o' v G c1 c2 c3 c4 c5 c6 c7 c8
    exact hr o' v G c1 c3 c4 (fresh c5) c6 c7 c8
  | bk δ' => exact hr.elim
  | ct δ' => exact hr.elim
theorem DMw.mk' {P : Program} {w : World} {C : Cs} {base : Heap} {cl : Addr} {m x qual : Str} {params : Arguments} {body : List Stmt} {scope : Scope} {q : He.Defn} {fd : FuncData} {N ps : List Str} {k n : Nat} {bd : SO}
    (c : Cls C.K cl) (hm : Meth C.K cl m (He.fAd C.K q)) (F : FunD C.K x qual params body scope [] [] (He.fAd C.K q) fd) (S : FnScope N ps scope) (hn : ps.length = n)
    (hbi : ∀ (kV doc pm : Value) (an : Option Addr) (cdv ct : Value) (us : List Value), us.length = ps.length → bindArgs (PySem.W.fnOf x qual params body scope .none kV doc pm an cdv ct) ⟨us, []⟩ = pure (ps.zip us))
    (hb : ∀ (A : Around) (outer : List Env) (s : Shared) (H : Hp) (E : XK), Room k (A.deeper (PyProof.Rows.envOfC qual scope s.heap.objs.size (He.fAd C.K q) (.ref (He.codeOf C.K q)))) →
      OSs (cxN P w C base N qual scope (He.fAd C.K q) (.ref (He.codeOf C.K q)) A outer s H E) C cl 0 body bd) :
    DMw P w C base cl m n (k + 1) (dRunO N.length bd) := ⟨_, fd, ps, c, hm, F.bindsN hbi, fnMw F S hn hb⟩
structure DMk (P : Program) (w : World) (C : Cs) (base : Heap) (x : Str) (cl : Addr) (n k : Nat) (F : Os → List Ar → Wp (D × Os)) : Prop where
  ex : ∃ (fa : Addr) (fd : FuncData) (ps : List Str), C.mg x = some (.ref cl) ∧ Mk C.K cl fa ∧ Binds C.K fd ps [] ∧ FnOk P w C.K C.mg base (L2.CX P w) k fa fd ps (spM C cl n F)
end Tr

namespace Tr
open PySem PySem.Spec L2
variable [ProtC]
section
variable {C : Cs} {cl : Addr} {i : Nat} {S0 : Addr → Prop} {H0 Pb : Hp} {a : Addr} {o o' : Ob} {σ : St} {H G : Hp} {δ : De}
theorem RepO.nfp (R : RepO C cl i S0 H0 Pb a o σ H δ) : ∀ b u, H b = some u → (∀ xs, u ≠ .lst xs) → (∀ C d fs, u ≠ .ins C d fs) → (∀ y, u ≠ .own y) → ¬ fp o b := fun b u e n1 n2 n3 z => by
  rcases R.ob.cell z with ⟨_, e'⟩ | e' | ⟨_, e'⟩ <;> rw [e] at e'
  · exact n2 _ _ _ (Option.some.inj e')
  · exact n3 _ (Option.some.inj e')
  · exact n1 _ (Option.some.inj e')
theorem RepO.g0 (R : RepO C cl i S0 H0 Pb a o σ H δ) : Grow H0 (hid (fp o) H) := by
  refine ⟨fun b u e n => ?_, fun P t => ?_, fun b n => ?_, fun P q hp t => ?_⟩
  · rw [hid_in fun z => by rw [R.fr b z] at e; cases e]
    exact R.gr.le b u e n
  · obtain ⟨ps, e, tr⟩ := R.gr.tb P t
    refine ⟨ps, ?_, tr⟩
    rw [hid_in (R.nfp P _ e (fun _ z => by cases z) (fun _ _ _ z => by cases z) fun _ z => by cases z)]
    exact e
  · rw [hid_in fun z => n (R.fr b z)]
    exact R.gr.dm b n
  · refine TabS.ext2 (R.gr.pr P q hp t) fun b u e n1 n2 n3 => ?_
    rw [hid_in (R.nfp b u e n1 n2 n3)]
    exact e
theorem RepO.drop (hob : C.ob = none) (R : RepO C cl i S0 H0 Pb a o σ H δ) : Rep (C.bx S0 H0) Pb σ H δ := by
  have le : Le (hid (fun b => S0 b ∨ fp o b ∨ ownl σ δ b) H) (hid (Own (C.bx S0 H0) σ δ) H) := hid_le (Le.refl _) fun b z => z.elim .inl fun z => .inr (.inr z)
  refine ⟨R.ph.trans le, R.len, R.gr, R.s0, R.tabs, fun j d h => ?_, fun j ds h => ?_, R.uniq, R.val, fun j c φ h => ?_, ⟨R.scr.1, R.scr.2, fun o ho => ?_⟩⟩
  · obtain ⟨v, h1, h2⟩ := R.pers j d h
    exact ⟨v, h1, Le.dp le d v h2⟩
  · obtain ⟨c, xs, h1, h2, h3⟩ := R.own j ds h
    exact ⟨c, xs, h1, h2, R.fo c ⟨j, ds, h, h1⟩, Le.dps le ds xs h3⟩
  · obtain ⟨h1, h2⟩ := R.trk j c φ h
    exact ⟨h1, le c _ h2 fun ps z => by cases z⟩
  · have ho : C.ob = some o := ho
    rw [hob] at ho
    cases ho
end
def oMethQ (m : Str) (n : Nat) (F : Os → List Ar → Wp (D × Os)) (r : Os → AF) (os : Os) (δ : De) : Wp (D × Os) := .need (os.at_.lookup m = none) ((r os δ).bind fun as => .need (as.length + 1 = n) ((F os as).bind fun q => .need (q.2.a = os.a) (.pure q)))
end Tr

namespace Tr
open PySem PySem.Spec L2
variable [ProtC]
def oNewQ (n : Nat) (Fi : Os → List Ar → Wp (D × Os)) (as : List Ar) : Wp Os := .need (as.length + 1 = n) ((Wp.any fun _ : Addr => True).bind fun a => (Fi ⟨a, []⟩ as).bind fun q => .need (q.1 = .none ∧ q.2.a = a) (.pure q.2))
section
variable {X : Cx} {C : Cs} {cl : Addr} {i : Nat} {pos p pc p2 apos : Pos} {e : Expr} {es : List Expr} {m x cn : Str} {n k k' : Nat} {Fi : Os → List Ar → Wp (D × Os)} {r : AF} {rest : List Stmt} {W : WX} {G : SO}
structure NewAt (C : Cs) (cl : Addr) (S : Addr → Prop) (H G : Hp) (o : Ob) : Prop where
  cls : o.C = cl
  nd : (lsts o.st).Nodup
  fresh : ∀ b, fp o b → H b = none
  gr : Grow H G
  ob : ObV C.K (hid (fun b => S b ∨ fp o b) G) G o
theorem NewAt.base {S : Addr → Prop} {H H1 G : Hp} {o : Ob} (h : NewAt C cl S H1 G o) (g : Grow H H1) : NewAt C cl S H G o := ⟨h.cls, h.nd, fun b z => g.free (h.fresh b z), g.trans h.gr, h.ob⟩
def nNew (n : Nat) (Fi : Os → List Ar → Wp (D × Os)) (r : AF) : De → Wp Os := fun δ => (r δ).bind (oNewQ n Fi)
def spB (C : Cs) (cl : Addr) (n : Nat) (F : List Ar → Wp Os) : Sp := fun vs H Q E => ∃ (S : Addr → Prop) (as : List Ar), as.length = n ∧ (∀ b, S b → H b ≠ none) ∧ (∀ P ∈ C.T, GxR.TabG H P) ∧ Scr C S H ∧ ArsOk C.K (hid S H) vs as ∧
  (F as).run (fun os => ∀ o G, stp o = os → NewAt C cl S H G o → Q (.ref o.a) G) fun _ => False
theorem spB_len {n : Nat} {F : List Ar → Wp Os} : ∀ vs H Q E, spB C cl n F vs H Q E → vs.length = n := fun vs H Q E ⟨S, as, h1, _, _, _, h2, _⟩ => h2.len.trans h1
structure DnB (P : Program) (w : World) (C : Cs) (base : Heap) (x : Str) (cl : Addr) (n k : Nat) (F : List Ar → Wp Os) : Prop where
  ex : ∃ (fa : Addr) (fd : FuncData) (ps : List Str), C.mg x = some (.ref fa) ∧ PySem.W.keepIn C.K (.ref fa) = true ∧ Binds C.K fd ps [] ∧ FnOk P w C.K C.mg base (L2.CX P w) k fa fd ps (spB C cl n F)
def nCall (n : Nat) (F : List Ar → Wp Os) (r : AF) : De → Wp Os := fun δ => (r δ).bind fun as => .need (as.length = n) (F as)
def DSsB (X : Cx) (C : Cs) (cl : Addr) (sts : List Stmt) (F : De → Wp Os) : Prop :=
  ∃ t, PSs X sts t ∧ ∀ S0 H0 Pb σ H δ E, Rep (C.bx S0 H0) Pb σ H δ → (F δ).run (fun os => ∀ o G, stp o = os → NewAt C cl S0 H0 G o → E.rt (.ref o.a) G) (fun _ => False) → t E σ H
def bSeq (F : SF) (G : De → Wp Os) : De → Wp Os := fun δ => (F δ).bind fun r => match r with
  | .nx δ' => G δ'
  | _ => .stuck
def bFz (i : Nat) (G : De → Wp Os) : De → Wp Os := fun δ => G (fz i δ)
def dObjM (f : De → Wp Os) (m : Str) (Fm : Os → List Ar → Wp (D × Os)) : DF := fun δ => ((f δ).bind fun os => .need (os.at_.lookup m = none) ((Fm os []).bind fun q => .pure q.1)).nox
end
def bRun (m : Nat) (bd : De → Wp Os) : List Ar → Wp Os := fun as => bd (dStart m as)
theorem DnB.mk' {P : Program} {w : World} {C : Cs} {base : Heap} {cl : Addr} {x qual : Str} {params : Arguments} {body : List Stmt} {scope : Scope} {fd : FuncData} {N ps : List Str} {k n : Nat} {bd : De → Wp Os}
    (F : FunD C.K x qual params body scope [] [] (He.fAd C.K (x, none)) fd) (S : FnScope N ps scope) (hg : C.mg x = some (.ref (He.fAd C.K (x, none)))) (hn : ps.length = n)
    (hbi : ∀ (kV doc pm : Value) (an : Option Addr) (cdv ct : Value) (us : List Value), us.length = ps.length → bindArgs (PySem.W.fnOf x qual params body scope .none kV doc pm an cdv ct) ⟨us, []⟩ = pure (ps.zip us))
    (hb : ∀ (A : Around) (outer : List Env) (s : Shared) (H : Hp) (E : XK), Room k (A.deeper (PyProof.Rows.envOfC qual scope s.heap.objs.size (He.fAd C.K (x, none)) (.ref (He.codeOf C.K (x, none))))) →
      DSsB (cxN P w C base N qual scope (He.fAd C.K (x, none)) (.ref (He.codeOf C.K (x, none))) A outer s H E) C cl body bd) :
    DnB P w C base x cl n (k + 1) (bRun N.length bd) := by
  subst hn
  refine ⟨_, fd, ps, hg, F.kp, F.bindsN hbi, fnM F S spB_len fun A outer s H E vs Q hr ⟨Sx, as, hn, dom, tabs, scr, ok, hw⟩ => ?_⟩
  obtain ⟨t, p, qq⟩ := hb A outer s H E hr
  exact ⟨t, p, qq Sx H (hid Sx H) (L2.start N vs) H (dStart N.length as) _ (start_rep dom tabs scr ok) ((bd (dStart N.length as)).mono (fun os h o G e1 N => h o G e1 N) (fun _ z => z) hw)⟩
theorem DMk.mk' {P : Program} {w : World} {C : Cs} {base : Heap} {cl : Addr} {cn x qual : Str} {params : Arguments} {body : List Stmt} {scope : Scope} {q : He.Defn} {fd : FuncData} {N ps : List Str} {k n : Nat} {bd : SO}
    (hm : C.mg cn = some (.ref cl)) (mk : Mk C.K cl (He.fAd C.K q)) (F : FunD C.K x qual params body scope [] [] (He.fAd C.K q) fd) (S : FnScope N ps scope) (hn : ps.length = n)
    (hbi : ∀ (kV doc pm : Value) (an : Option Addr) (cdv ct : Value) (us : List Value), us.length = ps.length → bindArgs (PySem.W.fnOf x qual params body scope .none kV doc pm an cdv ct) ⟨us, []⟩ = pure (ps.zip us))
    (hb : ∀ (A : Around) (outer : List Env) (s : Shared) (H : Hp) (E : XK), Room k (A.deeper (PyProof.Rows.envOfC qual scope s.heap.objs.size (He.fAd C.K q) (.ref (He.codeOf C.K q)))) →
      OSs (cxN P w C base N qual scope (He.fAd C.K q) (.ref (He.codeOf C.K q)) A outer s H E) C cl 0 body bd) :
    DMk P w C base cn cl n (k + 1) (dRunO N.length bd) := ⟨_, fd, ps, hm, mk, F.bindsN hbi, fnMw F S hn hb⟩
end Tr

namespace Tr
open PySem PySem.Spec L2
variable [ProtC]
structure LamS1 (sc scope : Scope) (x : Str) : Prop where
  kind : scope.kind = .function
  co : scope.isCoroutine = false
  gen : scope.isGenerator = false
  own : ∀ y ∈ scope.names, y.2 ≠ .cell ∧ (y.2 = .local → y.1 = x)
  par : scope.names.lookup x = some .local
  free : ∀ y ∈ scope.names, y.2 = .free → sc.names.lookup y.1 = some .cell ∨ sc.names.lookup y.1 = some .free
theorem LamS1.has {X : Cx} {scope : Scope} {x : Str} (L : LamS1 X.env.scope scope x) (ok : X.Ok) : ∀ y ∈ scope.names, y.2 = .free → ∃ c, X.env.cells.lookup y.1 = some c := fun y hy e => by
  rcases L.free y hy e with k | k
  · exact ok.has _ (.inl k)
  · exact ok.has _ (.inr k)
end Tr

namespace Tr
open PySem PySem.Spec L2 PyProof.Rows
variable [ProtC]
def KL (K : PySem.W.Frag) (ok : Hp → Prop) (tb : TE) (i : Nat) (σ : L2.St) (Q : VK) : List V → V → V → Hp → Prop
  | [], b, _, H => ok H ∧ Q b H
  | x :: r, b, kb, H => ok H ∧ tb (σ.set i (some x)) H fun k H' => ok H' ∧ ∃ dk db, L2.Dp K H' k dk ∧ L2.Dp K H' kb db ∧ PySem.W.alike dk db = true ∧ dk ≠ .none ∧ min dk.depth db.depth ≤ 60 ∧
      if PySem.W.dataLt dk db then KL K ok tb i σ Q r x k H' else KL K ok tb i σ Q r b kb H'
theorem KL.ok {K : PySem.W.Frag} {ok : Hp → Prop} {tb : TE} {i : Nat} {σ : L2.St} {Q : VK} {r : List V} {b kb : V} {H : Hp} (h : KL K ok tb i σ Q r b kb H) : ok H := by
  cases r with
  | nil => exact h.1
  | cons x r => exact h.1
end Tr

namespace Tr
open PySem PySem.Spec L2
variable [ProtC]
def isO : Option Sl → Bool
  | some (.o _) => true
  | _ => false
end Tr

namespace Tr
open PySem PySem.Spec PyProof.Rows L2
variable [ProtC]
def zip3D : List D → List D → List D → List D
  | d :: ds, e :: es, f :: fs => .tuple [d, e, f] :: zip3D ds es fs
  | _, _, _ => []
def iZ3D (f g m : DF) : De → Wp (List D) := fun δ => (f δ).bind fun d => (g δ).bind fun e => (m δ).bind fun l => (seqD d).bind fun ds => (seqD e).bind fun es => (seqD l).bind fun fs => .pure (zip3D ds es fs)
@[simp] theorem rw_iZ3D {f g m : DF} {δ : De} : iZ3D f g m δ = (f δ).bind fun d => (g δ).bind fun e => (m δ).bind fun l => (seqD d).bind fun ds => (seqD e).bind fun es => (seqD l).bind fun fs => .pure (zip3D ds es fs) := rfl
end Tr

namespace Tr
open PySem PySem.Spec L2
variable [ProtC]
section
variable {C : Cs} {cl : Addr} {i : Nat} {S0 : Addr → Prop} {H0 Pb : Hp} {a : Addr} {o : Ob} {σ : St} {H : Hp} {δ : De}
theorem RepO.fz (R : RepO C cl i S0 H0 Pb a o σ H δ) {j : Nat} {ds : List D} (hd : δ[j]? = some (Sl.o ds)) : RepO C cl i S0 H0 Pb a o σ H (δ.set j (.p (.list ds))) := by
  refine R.up (R.down.fz hd) ?_
  rw [List.getElem?_set_ne]
  · exact R.sl
  · rintro rfl
    rw [R.sl] at hd
    cases hd
end
section
variable {X : Cx} {C : Cs} {cl : Addr} {i : Nat} {sts : List Stmt} {F : SO}
def oFz (j : Nat) (F : SO) : SO := fun os δ => F os (fz j δ)
end
theorem prot_np {tg : List Addr} {tl : List (Addr × Str)} (h : (tg ++ tl.map (·.1)).Nodup) : ∀ P ∈ tg, ∀ q, ¬ (P, q) ∈ tl := fun P hP q hq => by
  have := (List.nodup_append.mp h).2.2 P hP P (List.mem_map_of_mem (f := (·.1)) hq)
  exact this rfl
end Tr

namespace Tr
open PySem PySem.Spec PyProof.Rows L2
variable [ProtC]
def intOf : D → Wp Int
  | .int i => .pure i
  | _ => .stuck
def gRg1 (f : DF) : De → Wp (Int × Int) := fun δ => (f δ).bind fun d => (intOf d).bind fun n => .pure (0, n)
def gRg2 (f g : DF) : De → Wp (Int × Int) := fun δ => (f δ).bind fun d => (g δ).bind fun e => (intOf d).bind fun i => (intOf e).bind fun j => .pure (i, j)
section
variable {X : Cx} {C : Cs} {W : WX} {pos p : Pos} {e a b : Expr} {es : List Expr} {f g : DF} {r : AF} {fr : De → Wp (Int × Int)}
def nRg (fr : De → Wp (Int × Int)) : De → Wp (List D) := fun δ => (fr δ).bind fun p => .need (RgOk p.1 p.2) (.pure (rgD p.1 (p.2 - p.1).toNat))
def nLstOf (f : DF) : De → Wp (List D) := fun δ => (f δ).bind seqD
theorem dn_listOf (hK : C.K = X.K) (hg : Gl X "list") (hm : X.mg "list" = none) (he : DE X C W e f) (hbt : bootBuiltins "list" = some (.type "list") := by decide +kernel)
    (na : starEach [e] X.env = (false, eval e X.env) :: starEach [] X.env := by rfl) (hpl : (backTo pos (starEach [] X.env)).any (·.1) = false := by rfl) : DN X C W (.Call (.Name "list" p) [e] [] pos) (nLstOf f) := by
  obtain ⟨t, pt, q⟩ := he
  refine ⟨_, pe_callTy call_list_of hg hm hbt (pa_cons pt pa_nil na) (by decide) (by decide) na hpl, fun S0 H0 Pb σ H δ Q R h => q S0 H0 Pb σ H δ _ R ((f δ).mono (fun d h v G gr dp => ?_) (fun _ z => z) h)⟩
  have fin : ∀ (vs : List V) (ds : List D), DpAll C.K (hid (Own (C.bx S0 H0) σ δ) G) vs ds → (∀ a xs G, Grow H G → H a = none → G a = some (.lst xs) → DpAll C.K (hid (fun b => Own (C.bx S0 H0) σ δ b ∨ b = a) G) xs ds → Q (.ref a) G) → ∀ l, G l = none → Q (.ref l) (upd G l (.lst vs)) := fun vs ds dps h l nl =>
    h l vs _ (gr.trans (Grow.new nl)) (gr.free nl) upd_same (Le.dps (fun b u e n => by
      obtain ⟨h4, h5⟩ := of_hid e
      have nb : b ≠ l := ne_of_none h5 nl
      rw [hid_in, upd_ne nb]
      · exact h5
      · exact fun z => z.elim h4 nb) ds vs dps)
  rw [← hK]
  cases dp with
  | lst s a => exact ⟨_, _, rfl, .inl (Le.sqL hid_sub s), fin _ _ a h⟩
  | tup s a => exact ⟨_, _, rfl, .inr (Le.sqT hid_sub s), fin _ _ a h⟩
  | _ => exact h.elim
def aStarRg (fr : De → Wp (Int × Int)) (r : AF) : AF := fun δ => (fr δ).bind fun p => .need (RgOk p.1 p.2) ((r δ).bind fun as => .pure ((rgD p.1 (p.2 - p.1).toNat).map Ar.d ++ as))
end
section
variable {δ : De} {f g : DF} {r : AF} {fr : De → Wp (Int × Int)}
@[simp] theorem rw_gRg1 : gRg1 f δ = (f δ).bind fun d => (intOf d).bind fun n => .pure (0, n) := rfl
@[simp] theorem rw_gRg2 : gRg2 f g δ = (f δ).bind fun d => (g δ).bind fun e => (intOf d).bind fun i => (intOf e).bind fun j => .pure (i, j) := rfl
@[simp] theorem rw_intOf {i : Int} : intOf (.int i) = .pure i := rfl
@[simp] theorem rw_nRg : nRg fr δ = (fr δ).bind fun p => .need (RgOk p.1 p.2) (.pure (rgD p.1 (p.2 - p.1).toNat)) := rfl
@[simp] theorem rw_nLstOf : nLstOf f δ = (f δ).bind seqD := rfl
@[simp] theorem rw_aStarRg : aStarRg fr r δ = (fr δ).bind fun p => .need (RgOk p.1 p.2) ((r δ).bind fun as => .pure ((rgD p.1 (p.2 - p.1).toNat).map Ar.d ++ as)) := rfl
end
end Tr

namespace Tr
open PySem PySem.Spec PyProof.Rows L2
variable [ProtC]
def CDivN (i j : Int) : Prop := (0 < j ∨ (j < 0 ∧ j ∣ i)) ∧ j.natAbs.log2 < 9000
theorem op_fdivN {X : Cx} : OpR X (binaryOp .FloorDiv) (L2.rI CDivN fun i j => .int (i / j)) := opI fun i j _ _ _ _ _ hc q => by
  obtain ⟨h, h2⟩ := hc
  have e : i.fdiv j = i / j := by
    rcases h with h | ⟨_, h⟩
    · exact Int.fdiv_eq_ediv_of_nonneg i (by omega)
    · exact Int.fdiv_eq_ediv_of_dvd h
  exact floordiv_int (by omega) (by rw [e]; exact q) (.inl (PyProof.noPylong_of_log2 h2))
abbrev dFdvN : D → D → Wp D := dInt2 CDivN fun i j => .int (i / j)
theorem de_fdvN {X : Cx} {C : Cs} {W : WX} {pos : Pos} {a b : Expr} {f g : DF} (ha : DE X C W a f) (hb : DE X C W b g) : DE X C W (.BinOp a .FloorDiv b pos) (d2 dFdvN f g) := de_op op_fdivN (o2_c fun _ _ _ => .int _) ha hb
section
variable {A : Type} {k : Out × Os → Prop} {w : Exn → Prop} {δ : De} {i j : Nat} {f : Str} {g h : Os → DF} {F G : SO} {os : Os} {l : De → Wp (List D)} {m : DF} {d : D}
@[simp] theorem rw_oL {H : Os → SF} : oL i H os δ = (H os δ).bind fun r => match r with
  | .nx δ' => .need (δ'[i]? = δ[i]?) (.pure (.nx δ', os))
  | .rt d => .pure (.rt d, os)
  | .bk δ' => .need (δ'[i]? = δ[i]?) (.pure (.bk δ', os))
  | .ct δ' => .need (δ'[i]? = δ[i]?) (.pure (.ct δ', os)) := rfl
@[simp] theorem rw_oSeq : oSeq F G os δ = (F os δ).bind fun r => match r with
  | (.nx δ', os') => G os' δ'
  | r => .pure r := rfl
@[simp] theorem rw_oFz : oFz i F os δ = F os (fz i δ) := rfl
@[simp] theorem rw_oNil : oNil os δ = .pure (.nx δ, os) := rfl
@[simp] theorem rw_oIf {t : Os → TF} : oIf t F G os δ = (t os δ).bind fun b => if b then F os δ else G os δ := rfl
@[simp] theorem rw_oSetA : oSetA f g os δ = (g os δ).bind fun d => .need ((os.put f (.d d)).at_.length < 900) (.pure (.nx δ, os.put f (.d d))) := rfl
@[simp] theorem rw_oSetL {gl : Os → De → Wp (List D)} : oSetL f gl os δ = (gl os δ).bind fun ds => .need ((os.put f (.o ds)).at_.length < 900) (.pure (.nx δ, os.put f (.o ds))) := rfl
@[simp] theorem rw_oMov : oMov f j os δ = (slotO δ[j]?).bind fun ds => .need ((os.put f (.o ds)).at_.length < 900) (.pure (.nx (δ.set j .non), os.put f (.o ds))) := rfl
@[simp] theorem rw_oSetIx : oSetIx f g h os δ = (h os δ).bind fun d => (lOf (os.at_.lookup f)).bind fun ds => (g os δ).bind fun k => (asI1 k).bind fun k => (optW (ixN ds.length k)).bind fun j => .pure (.nx δ, os.put f (.o (ds.set j d))) := rfl
@[simp] theorem rw_oApp : oApp f g os δ = (lOf (os.at_.lookup f)).bind fun ds => (g os δ).bind fun d => .need (ds.length < sizeLine) (.pure (.nx δ, os.put f (.o (ds ++ [d])))) := rfl
@[simp] theorem rw_oFor {fi : Os → De → Wp (List D)} {q : BF} : oFor i fi q F os δ = (fi os δ).bind fun ds => oLoop i q F ds os δ := rfl
@[simp] theorem rw_oLoop0 {q : BF} : oLoop i q F [] os δ = .pure (.nx δ, os) := rfl
@[simp] theorem rw_lOf {ds : List D} : lOf (some (.o ds)) = .pure ds := rfl
@[simp] theorem rw_dFld : dFld i f os δ = .need (δ[i]? = some (.v (.ref os.a))) (match os.at_.lookup f with
  | some (.d d) => .pure d
  | _ => .stuck) := rfl
@[simp] theorem rw_lFld : lFld i f os δ = .need (δ[i]? = some (.v (.ref os.a))) (match os.at_.lookup f with
  | some (.o ds) => .pure ds
  | _ => .stuck) := rfl
@[simp] theorem rw_dIxL : dIxL l m δ = (l δ).bind fun ds => (m δ).bind fun k => (asI1 k).bind fun k => optW (atI ds k) := rfl
@[simp] theorem rw_dLenL : dLenL l δ = (l δ).bind fun ds => .pure (.int ds.length) := rfl
@[simp] theorem rw_iEnA : iEnA l δ = (l δ).bind fun ds => .pure (enD ds) := rfl
@[simp] theorem rw_dMethR {n : Nat} {M : Os → List Ar → Wp D} {r : AF} : dMethR i f n M os r δ = .need (δ[i]? = some (.v (.ref os.a)) ∧ os.at_.lookup f = none) ((r δ).bind fun as => .need (as.length + 1 = n) (M os (.v (.ref os.a) :: as)).nox) := rfl
@[simp] theorem rw_oMethQ {n : Nat} {M : Os → List Ar → Wp (D × Os)} {r : Os → AF} : oMethQ f n M r os δ = .need (os.at_.lookup f = none) ((r os δ).bind fun as => .need (as.length + 1 = n) ((M os as).bind fun q => .need (q.2.a = os.a) (.pure q))) := rfl
@[simp] theorem rw_dRunO {n : Nat} {as : List Ar} : dRunO n F os as = (F os (dStart n (.v (.ref os.a) :: as))).bind fun r => match r with
  | (.rt d, os') => .pure (d, os')
  | (.nx _, os') => .pure (.none, os')
  | _ => .stuck := rfl
end
section
variable {k : Os → Prop} {w : Exn → Prop} {δ : De} {i n : Nat} {F : SF} {G : De → Wp Os} {r : AF}
@[simp] theorem rw_bSeq : bSeq F G δ = (F δ).bind fun r => match r with
  | .nx δ' => G δ'
  | _ => .stuck := rfl
@[simp] theorem rw_bFz : bFz i G δ = G (fz i δ) := rfl
@[simp] theorem rw_bRun {as : List Ar} : bRun n G as = G (dStart n as) := rfl
@[simp] theorem rw_nNew {Fi : Os → List Ar → Wp (D × Os)} : nNew n Fi r δ = (r δ).bind (oNewQ n Fi) := rfl
@[simp] theorem rw_nCall {M : List Ar → Wp Os} : nCall n M r δ = (r δ).bind fun as => .need (as.length = n) (M as) := rfl
@[simp] theorem rw_oNewQ {Fi : Os → List Ar → Wp (D × Os)} {as : List Ar} : oNewQ n Fi as = .need (as.length + 1 = n) ((Wp.any fun _ : Addr => True).bind fun a => (Fi ⟨a, []⟩ as).bind fun q => .need (q.1 = .none ∧ q.2.a = a) (.pure q.2)) := rfl
@[simp] theorem rw_dObjM {f : De → Wp Os} {m : Str} {Fm : Os → List Ar → Wp (D × Os)} : dObjM f m Fm δ = ((f δ).bind fun os => .need (os.at_.lookup m = none) ((Fm os []).bind fun q => .pure q.1)).nox := rfl
end
end Tr

namespace Tr
open PySem PySem.Spec L2
variable [ProtC]
end Tr

namespace Tr
open PySem PySem.Spec L2
variable [ProtC]
def addL : D → D → Wp (List D)
  | .list xs, .list ys => .need (xs.length + ys.length ≤ sizeLine) (.pure (xs ++ ys))
  | _, _ => .stuck
def nAddL (f g : DF) : De → Wp (List D) := fun δ => (f δ).bind fun d => (g δ).bind fun e => addL d e
@[simp] theorem rw_addLL {xs ys : List D} : addL (.list xs) (.list ys) = .need (xs.length + ys.length ≤ sizeLine) (.pure (xs ++ ys)) := rfl
@[simp] theorem rw_nAddL {f g : DF} {δ : De} : nAddL f g δ = (f δ).bind fun d => (g δ).bind fun e => addL d e := rfl
@[simp] theorem rw_intB {b : Bool} : bInt [.bool b] = .pure (.int (if b then 1 else 0)) := rfl
end Tr

namespace Tr
open PySem PySem.Spec L2 PyProof.Rows
variable [ProtC]
def KS (ok : Hp → Prop) (tb : TE) (i : Nat) (σ : L2.St) (Q : List Int → Hp → Prop) : List V → List Int → Hp → Prop
  | [], ks, H => ok H ∧ Q ks H
  | x :: r, ks, H => ok H ∧ tb (σ.set i (some x)) H fun k H' => ∃ n, k = V.int n ∧ KS ok tb i σ Q r (ks ++ [n]) H'
theorem KS.ok {ok : Hp → Prop} {tb : TE} {i : Nat} {σ : L2.St} {Q : List Int → Hp → Prop} {r : List V} {ks : List Int} {H : Hp} (h : KS ok tb i σ Q r ks H) : ok H := by
  cases r with
  | nil => exact h.1
  | cons x r => exact h.1
def skL {α : Type} (xs : List α) (ks : List Int) : List α := ((xs.zip ks).mergeSort (PySem.W.dataLe false fun p => PyData.int p.2)).map (·.1)
def sortFin (ds : List D) (ks : List Int) : D := .list (skL ds ks)
def skLoop (f : DF) (i : Nat) (δ : De) (ds : List D) : List D → List Int → Wp D
  | [], ks => .pure (sortFin ds ks)
  | x :: r, ks => (f (δ.set i (.p x))).nox.bind fun k => (asI1 k).bind fun n => skLoop f i δ ds r (ks ++ [n])
def dSortK (i : Nat) (fx : DF) (f : DF) : DF := fun δ => (fx δ).bind fun d => (lstD d).bind fun ds => .need (isO δ[i]? = false) (skLoop f i δ ds ds [])
section
variable {X : Cx} {C : Cs} {W : WX} {x y : Str} {p pos lpos kpos : Pos} {e body : Expr} {params : Arguments} {scope : Scope} {fx f : DF} {k i : Nat} {c P : Addr}
@[simp] theorem rw_dSortK : dSortK i fx f δ = (fx δ).bind fun d => (lstD d).bind fun ds => .need (isO δ[i]? = false) (skLoop f i δ ds ds []) := rfl
end
end Tr

namespace Tr
open PySem PySem.Spec PyProof.Rows L2 Srt SrtO
variable [ProtC]
def dSortSet (f : DF) : DF := fun δ => (f δ).bind fun d => (lstD d).bind fun ds => (optW (tupsD ds)).bind fun nss => .need ((∀ ns ∈ nss, ns ≠ []) ∧ nss.length < 64)
  ((Wp.any fun (ms : List (List Int)) => ms.Nodup ∧ (∀ y, y ∈ ms ↔ y ∈ nss) ∧ ms.Pairwise (fun x y => TrS.lexT y x = false)).bind fun ms => .pure (.list (ms.map tupI)))
section
variable {X : Cx} {C : Cs} {W : WX} {p p2 pos pos2 : Pos} {e : Expr} {f : DF} {k : Nat}
@[simp] theorem rw_dSortSet {δ : De} : dSortSet f δ = (f δ).bind fun d => (lstD d).bind fun ds => (optW (tupsD ds)).bind fun nss => .need ((∀ ns ∈ nss, ns ≠ []) ∧ nss.length < 64)
  ((Wp.any fun (ms : List (List Int)) => ms.Nodup ∧ (∀ y, y ∈ ms ↔ y ∈ nss) ∧ ms.Pairwise (fun x y => TrS.lexT y x = false)).bind fun ms => .pure (.list (ms.map tupI))) := rfl
end
end Tr

namespace Tr
open PySem PySem.Spec L2
variable [ProtC]
end Tr

namespace Tr
open PySem PySem.Spec L2
open PyProof.Rows
variable [ProtC]
inductive Src where
  | d (f : DF)
  | o (f : De → Wp (List D))
def srcW : List Src → De → Wp (List Sl)
  | [], _ => .pure []
  | .d f :: r, δ => (f δ).bind fun d => (srcW r δ).bind fun ss => .pure (.p d :: ss)
  | .o fl :: r, δ => (fl δ).bind fun ds => (srcW r (dWipe δ [])).nox.bind fun ss => .pure (.o ds :: ss)
def stG : List Nat → List Sl → De → De
  | i :: is, s :: ss, δ => stG is ss (δ.set i s)
  | _, _, δ => δ
def sParG (is : List Nat) (ss : List Src) : SF := fun δ => (srcW ss δ).bind fun sl => .pure (.nx (stG is sl δ))
@[simp] theorem rw_parG {is : List Nat} {ss : List Src} {δ : De} : sParG is ss δ = (srcW ss δ).bind fun sl => .pure (.nx (stG is sl δ)) := rfl
@[simp] theorem rw_src0 {δ : De} : srcW [] δ = .pure [] := rfl
@[simp] theorem rw_srcD {f : DF} {r : List Src} {δ : De} : srcW (.d f :: r) δ = (f δ).bind fun d => (srcW r δ).bind fun ss => .pure (.p d :: ss) := rfl
@[simp] theorem rw_srcO {f : De → Wp (List D)} {r : List Src} {δ : De} : srcW (.o f :: r) δ = (f δ).bind fun ds => (srcW r (dWipe δ [])).nox.bind fun ss => .pure (.o ds :: ss) := rfl
@[simp] theorem rw_stG0 {ss : List Sl} {δ : De} : stG [] ss δ = δ := rfl
@[simp] theorem rw_stG1 {i : Nat} {is : List Nat} {s : Sl} {ss : List Sl} {δ : De} : stG (i :: is) (s :: ss) δ = stG is ss (δ.set i s) := rfl
end Tr

namespace Tr
open PySem PySem.Spec L2
variable [ProtC]
theorem de_dnew {X : Cx} {C : Cs} {W : WX} {pos : Pos} : DE X C W (.Dict [] [] pos) (dC (.dict [])) :=
  ⟨_, pe_dnewK, fun S0 H0 Pb σ H δ Q R h p na => h _ _ (Grow.new na) (.dct (kvs := []) (by
    rw [hid_in, upd_same]
    rintro (z | ⟨i, ds, e1, e2⟩)
    · exact R.dom p z (R.grow.free na)
    · obtain ⟨a, xs, q1, q2, _⟩ := R.own i ds e1
      rw [e2] at q1
      cases q1
      rw [na] at q2
      cases q2) rfl .nil)⟩
@[simp] theorem ty_tuple_dict : isTy "tuple" (.dict []) = some false := by show kitB "dict" "tuple" = _; decide +kernel
@[simp] theorem ty_list_dict : isTy "list" (.dict []) = some false := by show kitB "dict" "list" = _; decide +kernel
@[simp] theorem ty_int_dict : isTy "int" (.dict []) = some false := by show kitB "dict" "int" = _; decide +kernel
@[simp] theorem ty_bool_dict : isTy "bool" (.dict []) = some false := by show kitB "dict" "bool" = _; decide +kernel
@[simp] theorem ty_str_dict : isTy "str" (.dict []) = some false := by show kitB "dict" "str" = _; decide +kernel
end Tr

namespace Tr
open PySem PySem.Spec L2
variable [ProtC]
end Tr

namespace Tr
open PySem PySem.Spec L2
variable [ProtC]
def rgDn (lo : Int) (n : Nat) : List D := (List.range n).map fun k : Nat => .int (lo + (k : Nat) * (-1))
def iRgDm (f g h : DF) : De → Wp (List D) := fun δ => (f δ).bind fun d => (g δ).bind fun e => (h δ).bind fun c => (asI1 d).bind fun i => (asI1 e).bind fun j => (asI1 c).bind fun s => .need (lo62 i ∧ lo62 j ∧ s = -1) (.pure (rgDn i (i - j).toNat))
@[simp] theorem rw_rgM {f g h : DF} {δ : De} : iRgDm f g h δ = (f δ).bind fun d => (g δ).bind fun e => (h δ).bind fun c => (asI1 d).bind fun i => (asI1 e).bind fun j => (asI1 c).bind fun s => .need (lo62 i ∧ lo62 j ∧ s = -1) (.pure (rgDn i (i - j).toNat)) := rfl
end Tr

namespace Tr
open PySem PySem.Spec L2
variable [ProtC]
def sNewR (i : Nat) (f : De → Wp Os) (G : SO) : SF := fun δ => ((f δ).bind fun os => .need (i < δ.length) ((G os (δ.set i (.v (.ref os.a)))).bind fun r => match r.1 with
  | .rt d => .pure (.rt d)
  | _ => .stuck)).nox
@[simp] theorem rw_newR {i : Nat} {f : De → Wp Os} {G : SO} {δ : De} : sNewR i f G δ = ((f δ).bind fun os => .need (i < δ.length) ((G os (δ.set i (.v (.ref os.a)))).bind fun r => match r.1 with
  | .rt d => .pure (.rt d)
  | _ => .stuck)).nox := rfl
end Tr

namespace Tr
open PySem PySem.Spec L2
variable [ProtC]
def bI (p : Bool) : Int := if p = true then 1 else 0
def dSubB : D → D → Wp D
  | .bool i, .bool j => .pure (.int (bI i - bI j))
  | _, _ => .stuck
section
variable {X : Cx} {C : Cs} {W : WX} {pos : Pos} {a b : Expr} {f g : DF}
@[simp] theorem rw_subB {i j : Bool} : dSubB (.bool i) (.bool j) = .pure (.int (bI i - bI j)) := rfl
end
end Tr

namespace Tr
open PySem PySem.Spec L2
variable [ProtC]
end Tr

namespace Tr
open PySem PySem.Spec L2
variable [ProtC]
end Tr

namespace L2
open PySem PySem.Spec PyProof.Rows

end L2

namespace Tr
open PySem PySem.Spec L2
variable [ProtC]
end Tr

namespace Tr
open PySem PySem.Spec L2
variable [ProtC]
def dedI (ns : List Int) : List Int := ns.foldl PyProof.Rows.step_dedup []
def dLenSet (f : DF) : DF := fun δ => (f δ).bind fun d => (lstD d).bind fun ds => .need (∃ ns : List Int, ds = ns.map .int ∧ ns.length ≤ 4000) ((Wp.any fun z : Int => ∀ ns : List Int, ds = ns.map .int → z = ((dedI ns).length : Nat)).bind fun z => .pure (.int z))
section
open PyProof.Rows PySem.Calls PySem.W
end
@[simp] theorem rw_dLenSet {f : DF} {δ : De} : dLenSet f δ = (f δ).bind fun d => (lstD d).bind fun ds => .need (∃ ns : List Int, ds = ns.map .int ∧ ns.length ≤ 4000) ((Wp.any fun z : Int => ∀ ns : List Int, ds = ns.map .int → z = ((dedI ns).length : Nat)).bind fun z => .pure (.int z)) := rfl
end Tr

namespace PySem.W
open PySem PySem.Calls PyProof.Rows
end PySem.W
namespace Tr
open PySem PySem.Spec L2 PyProof.Rows PySem.W
variable [ProtC]
end Tr

namespace Tr
open PySem PySem.Spec L2
variable [ProtC]

end Tr

namespace Tr
open PySem PySem.Spec L2
variable [ProtC]
end Tr

namespace Tr
open PySem PySem.Spec PyProof.Rows L2
end Tr

namespace Tr
open PySem PySem.Spec PyProof.Rows L2
variable [ProtC]
def dSortSetI (f : DF) : DF := fun δ => (f δ).bind fun d => (lstD d).bind fun ds => .need (∃ ns : List Int, ds = ns.map .int ∧ ns.length ≤ 4000 ∧ ∃ T : List Int, T.length < 64 ∧ ∀ z ∈ ns, z ∈ T)
  ((Wp.any fun ms : List Int => ms.Pairwise (· < ·) ∧ ∀ ns : List Int, ds = ns.map .int → ∀ z, z ∈ ms ↔ z ∈ ns).bind fun ms => .pure (.list (ms.map .int)))
@[simp] theorem rw_dSortSetI {f : DF} {δ : De} : dSortSetI f δ = (f δ).bind fun d => (lstD d).bind fun ds => .need (∃ ns : List Int, ds = ns.map .int ∧ ns.length ≤ 4000 ∧ ∃ T : List Int, T.length < 64 ∧ ∀ z ∈ ns, z ∈ T)
  ((Wp.any fun ms : List Int => ms.Pairwise (· < ·) ∧ ∀ ns : List Int, ds = ns.map .int → ∀ z, z ∈ ms ↔ z ∈ ns).bind fun ms => .pure (.list (ms.map .int))) := rfl
end Tr

namespace Tr
open PySem PySem.Spec PyProof.Rows L2
variable [ProtC]
end Tr

namespace Tr
open PySem PySem.Spec PyProof.Rows L2
variable [ProtC]
end Tr

namespace Tr
open PySem PySem.Spec PyProof.Rows L2
variable [ProtC]
theorem IsIs.at' {t : Bool} {h h' : Heap} {l : Addr} {xs : Array Value} (q : IsIs t h l xs) (k : ∀ o, h.get? l = some o → h'.get? l = some o) : IsIs t h' l xs := by
  cases t
  · exact Heap.IsList.at q k
  · exact Heap.IsTuple.at q k
theorem IsIs.obj {t : Bool} {h : Heap} {l : Addr} {xs : Array Value} (q : IsIs t h l xs) : ∃ o, h.get? l = some o := by
  cases t
  · obtain ⟨o, e, _⟩ := q; exact ⟨o, e⟩
  · obtain ⟨o, e, _⟩ := q; exact ⟨o, e⟩
end Tr

namespace Tr
open PySem PySem.Spec PyProof.Rows L2
variable [ProtC]
def tupDl : D → Wp (List D)
  | .tuple ds => .pure ds
  | _ => .stuck
def dSortSetP (f : DF) : DF := fun δ => (f δ).bind fun d => (tupDl d).bind fun ds => .need (∃ ns : List Int, ds = ns.map .int ∧ ns.length ≤ 4000 ∧ ∃ T : List Int, T.length < 64 ∧ ∀ z ∈ ns, z ∈ T)
  ((Wp.any fun ms : List Int => ms.Pairwise (· < ·) ∧ ∀ ns : List Int, ds = ns.map .int → ∀ z, z ∈ ms ↔ z ∈ ns).bind fun ms => .pure (.list (ms.map .int)))
@[simp] theorem rw_dSortSetP {f : DF} {δ : De} : dSortSetP f δ = (f δ).bind fun d => (tupDl d).bind fun ds => .need (∃ ns : List Int, ds = ns.map .int ∧ ns.length ≤ 4000 ∧ ∃ T : List Int, T.length < 64 ∧ ∀ z ∈ ns, z ∈ T)
  ((Wp.any fun ms : List Int => ms.Pairwise (· < ·) ∧ ∀ ns : List Int, ds = ns.map .int → ∀ z, z ∈ ms ↔ z ∈ ns).bind fun ms => .pure (.list (ms.map .int))) := rfl
end Tr

namespace Tr
open PySem PySem.Spec PyProof.Rows L2
variable [ProtC]
def mulL : D → D → Wp (List D)
  | .list ds, .int k => .need (0 ≤ k ∧ k ≤ 1000 ∧ ds.length ≤ 1000) (.pure (List.replicate k.toNat ds).flatten)
  | _, _ => .stuck
def nMulL (f g : DF) : De → Wp (List D) := fun δ => (f δ).bind fun d => (g δ).bind fun e => mulL d e
section
variable {X : Cx} {C : Cs} {W : WX} {pos : Pos} {a b : Expr} {f g : DF}
theorem dn_mulL (hK : C.K = X.K) (ha : DE X C W a f) (hb : DE X C W b g) : DN X C W (.BinOp a .Mult b pos) (nMulL f g) := by
  obtain ⟨ta, pa, qa⟩ := ha
  obtain ⟨tb, pb, qb⟩ := hb
  refine ⟨_, pe_op (r := rMulA X.K) op_mulA pa pb, fun S0 H0 Pb σ H δ Q R h => qa S0 H0 Pb σ H δ _ R ((f δ).mono (fun d h x H1 g1 dx => ?_) (fun _ z => z) h)⟩
  refine qb S0 H0 Pb σ H1 δ _ (R.gr g1) ((g δ).mono (fun e h y H2 g2 dy => ?_) (fun _ z => z.gr g1) h)
  have dx' := Le.dp (hid_le g2.le fun _ z => z) d x dx
  change (mulL d e).run _ _ at h
  unfold mulL at h
  rw [← hK]
  split at h
  · cases dy
    cases dx' with
    | @lst a xs _ s dps =>
      obtain ⟨⟨h1, h2, h4⟩, hk⟩ := h
      have hl := dps_len dps
      refine .inr (.inr (.inr ⟨_, _, xs, rfl, rfl, Le.sqL hid_sub s, h1, h2, by omega, fun p na => ?_⟩))
      have g3 := g1.trans g2
      refine hk p _ _ (g3.trans (Grow.new na)) (g3.free na) upd_same (Le.dps (fun b u e n => ?_) _ _ (rep_dps dps _))
      obtain ⟨h4, h5⟩ := of_hid e
      have nb : b ≠ p := ne_of_none h5 na
      rw [hid_in, upd_ne nb]
      · exact h5
      · exact fun z => z.elim h4 nb
  · exact h.elim
end
@[simp] theorem rw_mulL {ds : List D} {k : Int} : mulL (.list ds) (.int k) = .need (0 ≤ k ∧ k ≤ 1000 ∧ ds.length ≤ 1000) (.pure (List.replicate k.toNat ds).flatten) := rfl
@[simp] theorem rw_nMulL {f g : DF} {δ : De} : nMulL f g δ = (f δ).bind fun d => (g δ).bind fun e => mulL d e := rfl
end Tr

namespace Tr
open PySem PySem.Spec L2
variable [ProtC]

theorem sc_law_taken : FnScope ["_law_row", "_law_many", "_law_found", "_law_cell"] ["_law_row", "_law_many"] (defScope s_law_taken) := ⟨rfl, rfl, rfl, by decide +kernel, rfl, by decide +kernel, by decide +kernel⟩
noncomputable abbrev f_law_taken (C : Cs) : List Ar → Wp D := fTaken C

theorem sc_law_pick : FnScope ["_law_row", "_law_things"] ["_law_row", "_law_things"] (defScope s_law_pick) := ⟨rfl, rfl, rfl, by decide +kernel, rfl, by decide +kernel, by decide +kernel⟩
noncomputable def b_law_pick (C : Cs) : SF := (sRet (d2 dIx (dV 1) (dCall 2 (f_law_taken C) (aTrk 0 (aCons (dCB bLen (aCons (dV 1) aNil)) aNil)))))
noncomputable def f_law_pick (C : Cs) : List Ar → Wp D := dRun 2 (b_law_pick C)

theorem sc_law_ratio : FnScope ["_law_top", "_law_bottom", "_law_one", "_law_other"] ["_law_top", "_law_bottom"] (defScope s_law_ratio) := ⟨rfl, rfl, rfl, by decide +kernel, rfl, by decide +kernel, by decide +kernel⟩
noncomputable def b_law_ratio : SF := (sSeq (sPar 2 3 (aCons (dCB bAbs (aCons (dV 0) aNil)) (aCons (dCB bAbs (aCons (dV 1) aNil)) aNil))) (sSeq (sWhile (tBv (d2 dNe (dV 3) (dC (.int 0)))) (sPar 2 3 (aCons (dV 3) (aCons (d2 dMod (dCB bInt (aCons (dV 2) aNil)) (dV 3)) aNil)))) (sRet (dIf (tBv (d2 dGt (dV 1) (dC (.int 0)))) (dTup (aCons (d2 dFdv (dV 0) (dV 2)) (aCons (d2 dFdv (dV 1) (dV 2)) aNil))) (dTup (aCons (d2 dSub (dC (.int 0)) (d2 dFdv (dV 0) (dV 2))) (aCons (d2 dSub (dC (.int 0)) (d2 dFdv (dV 1) (dV 2))) aNil)))))))
noncomputable def f_law_ratio : List Ar → Wp D := dRun 4 b_law_ratio

theorem sc_law_demand : FnScope ["_law_row"] ["_law_row"] (defScope s_law_demand) := ⟨rfl, rfl, rfl, by decide +kernel, rfl, by decide +kernel, by decide +kernel⟩
noncomputable def b_law_demand (C : Cs) : SF := (sRet (dCall 2 (f_law_pick C) (aTrk 0 (aCons (dLst (aCons (dTup (aCons (dC (.int 1)) (aCons (dC (.int 1)) aNil))) (aCons (dTup (aCons (dC (.int 1)) (aCons (dC (.int 2)) aNil))) (aCons (dTup (aCons (dC (.int 10)) (aCons (dC (.int 1)) aNil))) (aCons (dTup (aCons (dC (.int 7)) (aCons (dC (.int 3)) aNil))) (aCons (dTup (aCons (dC (.int 1000)) (aCons (dC (.int 1)) aNil))) (aCons (dCall 2 f_law_ratio (aCons (d2 dAdd (dC (.int 1)) (dCall 2 (f_law_taken C) (aTrk 0 (aCons (dC (.int 30)) aNil)))) (aCons (d2 dAdd (dC (.int 1)) (dCall 2 (f_law_taken C) (aTrk 0 (aCons (dC (.int 6)) aNil)))) aNil))) aNil))))))) aNil))))
noncomputable def f_law_demand (C : Cs) : List Ar → Wp D := dRun 1 (b_law_demand C)

theorem sc_law_lanes : FnScope ["_law_row", "_law_k"] ["_law_row"] (defScope s_law_lanes) := ⟨rfl, rfl, rfl, by decide +kernel, rfl, by decide +kernel, by decide +kernel⟩
noncomputable def b_law_lanes (C : Cs) : SF := (sRet (dCB bTuple (aCons (dNl (nLc (iRgD1 (d2 dAdd (dC (.int 1)) (dCall 2 (f_law_taken C) (aTrk 0 (aCons (dC (.int 5)) aNil))))) (bName 1) tYesD (dTup (aCons (dCall 2 (f_law_pick C) (aTrk 0 (aCons (dLst (aCons (dC (.int 0)) (aCons (dC (.int 1)) (aCons (dC (.int 2)) (aCons (dC (.int 5)) (aCons (dC (.int 100)) aNil)))))) aNil))) (aCons (dCall 2 (f_law_pick C) (aTrk 0 (aCons (dLst (aCons (dC (.int 0)) (aCons (dC (.int 1)) (aCons (dC (.int 10)) (aCons (dC (.int 1000)) (aCons (dCall 2 (f_law_taken C) (aTrk 0 (aCons (dC (.int 30)) aNil))) aNil)))))) aNil))) aNil))) ([1] : List Nat))) aNil)))
noncomputable def f_law_lanes (C : Cs) : List Ar → Wp D := dRun 2 (b_law_lanes C)

theorem sc_is_in : FnScope ["value", "least", "most"] ["value", "least", "most"] (defScope s_is_in) := ⟨rfl, rfl, rfl, by decide +kernel, rfl, by decide +kernel, by decide +kernel⟩
noncomputable def b_is_in : SF := (sRet (dAndV (dIsi "int" (dV 0)) (dAndV (dNotV (dIsi "bool" (dV 0))) (dChain dLe dLe (dV 1) (dV 0) (dV 2)))))
noncomputable def f_is_in : List Ar → Wp D := dRun 3 b_is_in

theorem sc_is_lane : FnScope ["value"] ["value"] (defScope s_is_lane) := ⟨rfl, rfl, rfl, by decide +kernel, rfl, by decide +kernel, by decide +kernel⟩
noncomputable def b_is_lane : SF := (sSeq (sIf (tOr2 (tNotV (tT (dIsi "tuple" (dV 0)))) (tBv (d2 dNe (dCB bLen (aCons (dV 0) aNil)) (dC (.int 2))))) (sRet (dC (.bool false))) sNext) (sRet (dAndV (dCall 3 f_is_in (aCons (d2 dIx (dV 0) (dC (.int 0))) (aCons (dC (.int 0)) (aCons (dC (.int 100)) aNil)))) (dCall 3 f_is_in (aCons (d2 dIx (dV 0) (dC (.int 1))) (aCons (dC (.int 0)) (aCons (dC (.int 1000)) aNil)))))))
noncomputable def f_is_lane : List Ar → Wp D := dRun 1 b_is_lane

theorem sc_is_ratio : FnScope ["value", "one"] ["value"] (defScope s_is_ratio) := ⟨rfl, rfl, rfl, by decide +kernel, rfl, by decide +kernel, by decide +kernel⟩
noncomputable def b_is_ratio : SF := (sSeq (sIf (tOr2 (tNotV (tT (dIsi "tuple" (dV 0)))) (tBv (d2 dNe (dCB bLen (aCons (dV 0) aNil)) (dC (.int 2))))) (sRet (dC (.bool false))) sNext) (sSeq (sIf (tNotV (tT (dGa true (iSeqD (dV 0)) (bName 1) tYesD (dAndV (dIsi "int" (dV 1)) (dNotV (dIsi "bool" (dV 1)))) ([1] : List Nat)))) (sRet (dC (.bool false))) sNext) (sRet (dAndV (d2 dGt (d2 dIx (dV 0) (dC (.int 1))) (dC (.int 0))) (d2 dEq (dCB bGcd (aCons (d2 dIx (dV 0) (dC (.int 0))) (aCons (d2 dIx (dV 0) (dC (.int 1))) aNil))) (dC (.int 1)))))))
noncomputable def f_is_ratio : List Ar → Wp D := dRun 2 b_is_ratio

theorem sc_need_demand : FnScope ["demand"] ["demand"] (defScope s_need_demand) := ⟨rfl, rfl, rfl, by decide +kernel, rfl, by decide +kernel, by decide +kernel⟩
noncomputable def b_need_demand : SF := (sIf (tOr2 (tNotV (tT (dCall 1 f_is_ratio (aCons (dV 0) aNil)))) (tOr2 (tNotV (tBv (dChain dLe dLe (dC (.int 1)) (d2 dIx (dV 0) (dC (.int 0))) (dC (.int 1000))))) (tBv (d2 dGt (d2 dIx (dV 0) (dC (.int 1))) (dC (.int 100)))))) sDead sNext)
noncomputable def f_need_demand : List Ar → Wp D := dRun 1 b_need_demand

theorem sc_need_lanes : FnScope ["lanes", "demand", "index", "one"] ["lanes", "demand"] (defScope s_need_lanes) := ⟨rfl, rfl, rfl, by decide +kernel, rfl, by decide +kernel, by decide +kernel⟩
noncomputable def b_need_lanes : SF := (sSeq (sIf (tOr2 (tNotV (tT (dIsi "tuple" (dV 0)))) (tNotV (tBv (dChain dLe dLe (dC (.int 1)) (dCB bLen (aCons (dV 0) aNil)) (dC (.int 8)))))) sDead sNext) (sSeq (sFor (iEnD (dV 0)) (bTup 2 (bCons (bName 2) (bCons (bName 3) bNil))) (sIf (tNotV (tT (dCall 1 f_is_lane (aCons (dV 3) aNil)))) sDead sNext)) (sDrop (dCall 1 f_need_demand (aCons (dV 1) aNil)))))
noncomputable def f_need_lanes : List Ar → Wp D := dRun 4 b_need_lanes

theorem sc_need_share : FnScope ["lanes", "demand", "share"] ["lanes", "demand", "share"] (defScope s_need_share) := ⟨rfl, rfl, rfl, by decide +kernel, rfl, by decide +kernel, by decide +kernel⟩
noncomputable def b_need_share : SF := (sSeq (sDrop (dCall 2 f_need_lanes (aCons (dV 0) (aCons (dV 1) aNil)))) (sIf (tOr2 (tNotV (tT (dCall 1 f_is_ratio (aCons (dV 2) aNil)))) (tNotV (tBv (dChain3 dLe dLe dLe (dC (.int 0)) (d2 dIx (dV 2) (dC (.int 0))) (d2 dIx (dV 2) (dC (.int 1))) (dC (.int 100)))))) sDead sNext))
noncomputable def f_need_share : List Ar → Wp D := dRun 3 b_need_share

theorem sc_with_ratios : FnScope ["lanes", "slope", "base"] ["lanes"] (defScope s_with_ratios) := ⟨rfl, rfl, rfl, by decide +kernel, rfl, by decide +kernel, by decide +kernel⟩
noncomputable def b_with_ratios : SF := (sRet (dNl (nLc (iSeqD (dV 0)) (bTup 2 (bCons (bName 1) (bCons (bName 2) bNil))) tYesD (dTup (aCons (dV 1) (aCons (dTup (aCons (dV 2) (aCons (dC (.int 1)) aNil))) aNil))) ([1, 2] : List Nat))))
noncomputable def f_with_ratios : List Ar → Wp D := dRun 3 b_with_ratios

theorem sc_steep : FnScope ["lanes", "slope", "base"] ["lanes"] (defScope s_steep) := ⟨rfl, rfl, rfl, by decide +kernel, rfl, by decide +kernel, by decide +kernel⟩
noncomputable def b_steep : SF := (sRet (dNl (nLc (iSeqD (dCall 1 f_with_ratios (aCons (dV 0) aNil))) (bTup 2 (bCons (bName 1) (bCons (bName 2) bNil))) tYesD (dTup (aCons (d2 dMul (dC (.int 2)) (dV 1)) (aCons (dV 2) aNil))) ([1, 2] : List Nat))))
noncomputable def f_steep : List Ar → Wp D := dRun 3 b_steep

theorem sc_ratio : FnScope ["top", "bottom", "common"] ["top", "bottom"] (defScope s_ratio) := ⟨rfl, rfl, rfl, by decide +kernel, rfl, by decide +kernel, by decide +kernel⟩
noncomputable def b_ratio : SF := (sSeq (sSet 2 (dIf (tBv (d2 dGt (dV 1) (dC (.int 0)))) (dCB bGcd (aCons (dV 0) (aCons (dV 1) aNil))) (d2 dSub (dC (.int 0)) (dCB bGcd (aCons (dV 0) (aCons (dV 1) aNil)))))) (sRet (dTup (aCons (d2 dFdvN (dV 0) (dV 2)) (aCons (d2 dFdvN (dV 1) (dV 2)) aNil)))))
noncomputable def f_ratio : List Ar → Wp D := dRun 3 b_ratio

theorem sc_minus : FnScope ["one", "other"] ["one", "other"] (defScope s_minus) := ⟨rfl, rfl, rfl, by decide +kernel, rfl, by decide +kernel, by decide +kernel⟩
noncomputable def b_minus : SF := (sRet (dCall 2 f_ratio (aCons (d2 dSub (d2 dMul (d2 dIx (dV 0) (dC (.int 0))) (d2 dIx (dV 1) (dC (.int 1)))) (d2 dMul (d2 dIx (dV 1) (dC (.int 0))) (d2 dIx (dV 0) (dC (.int 1))))) (aCons (d2 dMul (d2 dIx (dV 0) (dC (.int 1))) (d2 dIx (dV 1) (dC (.int 1)))) aNil))))
noncomputable def f_minus : List Ar → Wp D := dRun 2 b_minus

theorem sc_less : FnScope ["one", "other"] ["one", "other"] (defScope s_less) := ⟨rfl, rfl, rfl, by decide +kernel, rfl, by decide +kernel, by decide +kernel⟩
noncomputable def b_less : SF := (sRet (d2 dLt (d2 dMul (d2 dIx (dV 0) (dC (.int 0))) (d2 dIx (dV 1) (dC (.int 1)))) (d2 dMul (d2 dIx (dV 1) (dC (.int 0))) (d2 dIx (dV 0) (dC (.int 1))))))
noncomputable def f_less : List Ar → Wp D := dRun 2 b_less

theorem sc_plus : FnScope ["one", "other"] ["one", "other"] (defScope s_plus) := ⟨rfl, rfl, rfl, by decide +kernel, rfl, by decide +kernel, by decide +kernel⟩
noncomputable def b_plus : SF := (sRet (dCall 2 f_ratio (aCons (d2 dAdd (d2 dMul (d2 dIx (dV 0) (dC (.int 0))) (d2 dIx (dV 1) (dC (.int 1)))) (d2 dMul (d2 dIx (dV 1) (dC (.int 0))) (d2 dIx (dV 0) (dC (.int 1))))) (aCons (d2 dMul (d2 dIx (dV 0) (dC (.int 1))) (d2 dIx (dV 1) (dC (.int 1)))) aNil))))
noncomputable def f_plus : List Ar → Wp D := dRun 2 b_plus

theorem sc_over : FnScope ["one", "other"] ["one", "other"] (defScope s_over) := ⟨rfl, rfl, rfl, by decide +kernel, rfl, by decide +kernel, by decide +kernel⟩
noncomputable def b_over : SF := (sRet (dCall 2 f_ratio (aCons (d2 dMul (d2 dIx (dV 0) (dC (.int 0))) (d2 dIx (dV 1) (dC (.int 1)))) (aCons (d2 dMul (d2 dIx (dV 0) (dC (.int 1))) (d2 dIx (dV 1) (dC (.int 0)))) aNil))))
noncomputable def f_over : List Ar → Wp D := dRun 2 b_over

theorem sc_taken_at : FnScope ["lanes", "time", "found", "slope", "base"] ["lanes", "time"] (defScope s_taken_at) := ⟨rfl, rfl, rfl, by decide +kernel, rfl, by decide +kernel, by decide +kernel⟩
noncomputable def b_taken_at : SF := (sSeq (sSet 2 (dTup (aCons (dC (.int 0)) (aCons (dC (.int 1)) aNil)))) (sSeq (sFor (iSeqD (dV 0)) (bTup 2 (bCons (bName 3) (bCons (bName 4) bNil))) (sIf (tAnd2 (tBv (d2 dGt (dV 3) (dC (.int 0)))) (tT (dCall 2 f_less (aCons (dV 4) (aCons (dV 1) aNil))))) (sSet 2 (dCall 2 f_plus (aCons (dV 2) (aCons (dCall 2 f_over (aCons (dCall 2 f_minus (aCons (dV 1) (aCons (dV 4) aNil))) (aCons (dTup (aCons (dV 3) (aCons (dC (.int 1)) aNil))) aNil))) aNil)))) sNext)) (sRet (dV 2))))
noncomputable def f_taken_at : List Ar → Wp D := dRun 5 b_taken_at

theorem sc_flows_at : FnScope ["lanes", "demand", "time", "found", "rest", "slope", "base"] ["lanes", "demand", "time"] (defScope s_flows_at) := ⟨rfl, rfl, rfl, by decide +kernel, rfl, by decide +kernel, by decide +kernel⟩
noncomputable def b_flows_at : SF := (sSeq (sParOD 3 4 (nLst aNil) (dCall 2 f_minus (aCons (dV 1) (aCons (dCall 2 f_taken_at (aCons (dV 0) (aCons (dV 2) aNil))) aNil)))) (sSeq (sFor (iSeqD (dV 0)) (bTup 2 (bCons (bName 5) (bCons (bName 6) bNil))) (sIf (tBv (d2 dGt (dV 5) (dC (.int 0)))) (sApp 3 (dIf (tT (dCall 2 f_less (aCons (dV 6) (aCons (dV 2) aNil)))) (dCall 2 f_over (aCons (dCall 2 f_minus (aCons (dV 2) (aCons (dV 6) aNil))) (aCons (dTup (aCons (dV 5) (aCons (dC (.int 1)) aNil))) aNil))) (dTup (aCons (dC (.int 0)) (aCons (dC (.int 1)) aNil))))) (sIf (tBv (d2 dEq (dV 6) (dV 2))) (sSeq (sApp 3 (dV 4)) (sSet 4 (dTup (aCons (dC (.int 0)) (aCons (dC (.int 1)) aNil))))) (sApp 3 (dTup (aCons (dC (.int 0)) (aCons (dC (.int 1)) aNil))))))) (sFz 3 (sRet (dV 3)))))
noncomputable def f_flows_at : List Ar → Wp D := dRun 7 b_flows_at

theorem sc_sorted_ratios : FnScope ["some", "found", "one", "at", "other"] ["some"] (defScope s_sorted_ratios) := ⟨rfl, rfl, rfl, by decide +kernel, rfl, by decide +kernel, by decide +kernel⟩
noncomputable def b_sorted_ratios : SF := (sSeq (sSet 1 (dLst aNil)) (sSeq (sFor (iSeqD (dV 0)) (bName 2) (sSeq (sSet 3 (dCB bLen (aCons (dNl (nLc (iSeqD (dV 1)) (bName 4) (tNotV (tT (dCall 2 f_less (aCons (dV 2) (aCons (dV 4) aNil))))) (dV 4) ([4] : List Nat))) aNil))) (sSet 1 (dLst (aStar (dSl (dV 1) oNone (oSome (dV 3))) (aCons (dV 2) (aStar (dSl (dV 1) (oSome (dV 3)) oNone) aNil))))))) (sRet (dV 1))))
noncomputable def f_sorted_ratios : List Ar → Wp D := dRun 5 b_sorted_ratios

theorem sc_sum_of : FnScope ["some", "found", "one"] ["some"] (defScope s_sum_of) := ⟨rfl, rfl, rfl, by decide +kernel, rfl, by decide +kernel, by decide +kernel⟩
noncomputable def b_sum_of : SF := (sSeq (sSet 1 (dTup (aCons (dC (.int 0)) (aCons (dC (.int 1)) aNil)))) (sSeq (sFor (iSeqD (dV 0)) (bName 2) (sSet 1 (dCall 2 f_plus (aCons (dV 1) (aCons (dV 2) aNil))))) (sRet (dV 1))))
noncomputable def f_sum_of : List Ar → Wp D := dRun 3 b_sum_of

theorem sc_level_of : FnScope ["lanes", "demand", "flat", "slope", "base", "most", "bases", "k", "later", "rate", "one", "time"] ["lanes", "demand"] (defScope s_level_of) := ⟨rfl, rfl, rfl, by decide +kernel, rfl, by decide +kernel, by decide +kernel⟩
noncomputable def b_level_of : SF := (sSeq (sSetO 2 (nLc (iSeqD (dV 0)) (bTup 2 (bCons (bName 3) (bCons (bName 4) bNil))) (tBv (d2 dEq (dV 3) (dC (.int 0)))) (dV 4) ([3, 4] : List Nat))) (sFz 2 (sSeq (sSet 5 (dIf (tT (dV 2)) (d2 dIx (dCall 1 f_sorted_ratios (aCons (dV 2) aNil)) (dC (.int 0))) (dC .none))) (sSeq (sSet 6 (dCall 1 f_sorted_ratios (aCons (dNl (nLc (iSeqD (dV 0)) (bTup 2 (bCons (bName 3) (bCons (bName 4) bNil))) (tBv (d2 dGt (dV 3) (dC (.int 0)))) (dV 4) ([3, 4] : List Nat))) aNil))) (sSeq (sFor (iEnD (dV 6)) (bTup 2 (bCons (bName 7) (bCons (bName 4) bNil))) (sSeq (sSet 8 (dIf (tBv (d2 dLt (d2 dAdd (dV 7) (dC (.int 1))) (dCB bLen (aCons (dV 6) aNil)))) (d2 dIx (dV 6) (d2 dAdd (dV 7) (dC (.int 1)))) (dC .none))) (sIf (tOr2 (tBv (d2 dIs (dV 8) (dC .none))) (tNotV (tT (dCall 2 f_less (aCons (dCall 2 f_taken_at (aCons (dV 0) (aCons (dV 8) aNil))) (aCons (dV 1) aNil)))))) (sSeq (sSet 9 (dCall 1 f_sum_of (aCons (dNl (nLc (iSeqD (dV 0)) (bTup 2 (bCons (bName 3) (bCons (bName 10) bNil))) (tAnd2 (tBv (d2 dGt (dV 3) (dC (.int 0)))) (tNotV (tT (dCall 2 f_less (aCons (dV 4) (aCons (dV 10) aNil)))))) (dTup (aCons (dC (.int 1)) (aCons (dV 3) aNil))) ([3, 10] : List Nat))) aNil))) (sSeq (sSet 11 (dCall 2 f_plus (aCons (dV 4) (aCons (dCall 2 f_over (aCons (dCall 2 f_minus (aCons (dV 1) (aCons (dCall 2 f_taken_at (aCons (dV 0) (aCons (dV 4) aNil))) aNil))) (aCons (dV 9) aNil))) aNil)))) (sRet (dIf (tOr2 (tBv (d2 dIs (dV 5) (dC .none))) (tT (dCall 2 f_less (aCons (dV 11) (aCons (dV 5) aNil))))) (dV 11) (dV 5))))) sNext))) (sRet (dV 5)))))))
noncomputable def f_level_of : List Ar → Wp D := dRun 12 b_level_of

theorem sc_best_flows : FnScope ["lanes", "demand", "some"] ["lanes", "demand"] (defScope s_best_flows) := ⟨rfl, rfl, rfl, by decide +kernel, rfl, by decide +kernel, by decide +kernel⟩
noncomputable def b_best_flows : SF := (sSeq (sSet 2 (dCall 1 f_steep (aCons (dV 0) aNil))) (sRet (dCall 3 f_flows_at (aCons (dV 2) (aCons (dV 1) (aCons (dCall 2 f_level_of (aCons (dV 2) (aCons (dV 1) aNil))) aNil))))))
noncomputable def f_best_flows : List Ar → Wp D := dRun 3 b_best_flows

theorem sc_by : FnScope ["one", "other"] ["one", "other"] (defScope s_by) := ⟨rfl, rfl, rfl, by decide +kernel, rfl, by decide +kernel, by decide +kernel⟩
noncomputable def b_by : SF := (sRet (dCall 2 f_ratio (aCons (d2 dMul (d2 dIx (dV 0) (dC (.int 0))) (d2 dIx (dV 1) (dC (.int 0)))) (aCons (d2 dMul (d2 dIx (dV 0) (dC (.int 1))) (d2 dIx (dV 1) (dC (.int 1)))) aNil))))
noncomputable def f_by : List Ar → Wp D := dRun 2 b_by

theorem sc_lane_time : FnScope ["lane", "flow"] ["lane", "flow"] (defScope s_lane_time) := ⟨rfl, rfl, rfl, by decide +kernel, rfl, by decide +kernel, by decide +kernel⟩
noncomputable def b_lane_time : SF := (sRet (dCall 2 f_plus (aCons (dCall 2 f_by (aCons (dTup (aCons (d2 dIx (dV 0) (dC (.int 0))) (aCons (dC (.int 1)) aNil))) (aCons (dV 1) aNil))) (aCons (dTup (aCons (d2 dIx (dV 0) (dC (.int 1))) (aCons (dC (.int 1)) aNil))) aNil))))
noncomputable def f_lane_time : List Ar → Wp D := dRun 2 b_lane_time

theorem sc_falling : FnScope ["lanes", "some", "found", "index", "lane", "here", "at", "one"] ["lanes", "some"] (defScope s_falling) := ⟨rfl, rfl, rfl, by decide +kernel, rfl, by decide +kernel, by decide +kernel⟩
noncomputable def b_falling : SF := (sSeq (sSet 2 (dLst aNil)) (sSeq (sFor (iEnD (dV 0)) (bTup 2 (bCons (bName 3) (bCons (bName 4) bNil))) (sSeq (sSet 5 (dCall 2 f_lane_time (aCons (dV 4) (aCons (d2 dIx (dV 1) (dV 3)) aNil)))) (sSeq (sSet 6 (dCB bLen (aCons (dNl (nLc (iSeqD (dV 2)) (bName 7) (tT (dCall 2 f_less (aCons (dV 5) (aCons (dCall 2 f_lane_time (aCons (d2 dIx (dV 0) (dV 7)) (aCons (d2 dIx (dV 1) (dV 7)) aNil))) aNil)))) (dV 7) ([7] : List Nat))) aNil))) (sSet 2 (dLst (aStar (dSl (dV 2) oNone (oSome (dV 6))) (aCons (dV 3) (aStar (dSl (dV 2) (oSome (dV 6)) oNone) aNil)))))))) (sRet (dV 2))))
noncomputable def f_falling : List Ar → Wp D := dRun 8 b_falling

theorem sc_led_of : FnScope ["lanes", "some", "amount", "found", "rest", "lane", "index"] ["lanes", "some", "amount"] (defScope s_led_of) := ⟨rfl, rfl, rfl, by decide +kernel, rfl, by decide +kernel, by decide +kernel⟩
noncomputable def b_led_of : SF := (sSeq (sParOD 3 4 (nLc (iSeqD (dV 0)) (bName 5) tYesD (dTup (aCons (dC (.int 0)) (aCons (dC (.int 1)) aNil))) ([5] : List Nat)) (dV 2)) (sSeq (sFor (iSeqD (dCall 2 f_falling (aCons (dV 0) (aCons (dV 1) aNil)))) (bName 6) (sSeq (sSetIx 3 (dV 6) (dIf (tT (dCall 2 f_less (aCons (dV 4) (aCons (d2 dIx (dV 1) (dV 6)) aNil)))) (dV 4) (d2 dIx (dV 1) (dV 6)))) (sSet 4 (dCall 2 f_minus (aCons (dV 4) (aCons (dOix 3 (dV 6)) aNil)))))) (sFz 3 (sRet (dV 3)))))
noncomputable def f_led_of : List Ar → Wp D := dRun 7 b_led_of

theorem sc_left_lanes : FnScope ["lanes", "led", "lane", "flow"] ["lanes", "led"] (defScope s_left_lanes) := ⟨rfl, rfl, rfl, by decide +kernel, rfl, by decide +kernel, by decide +kernel⟩
noncomputable def b_left_lanes : SF := (sRet (dNl (nLc (iZpD (dV 0) (dV 1)) (bTup 2 (bCons (bName 2) (bCons (bName 3) bNil))) tYesD (dTup (aCons (d2 dIx (dV 2) (dC (.int 0))) (aCons (dCall 2 f_lane_time (aCons (dV 2) (aCons (dV 3) aNil))) aNil))) ([2, 3] : List Nat))))
noncomputable def f_left_lanes : List Ar → Wp D := dRun 4 b_left_lanes

theorem sc_others_of : FnScope ["lanes", "led", "amount", "lane", "some"] ["lanes", "led", "amount"] (defScope s_others_of) := ⟨rfl, rfl, rfl, by decide +kernel, rfl, by decide +kernel, by decide +kernel⟩
noncomputable def b_others_of : SF := (sSeq (sIf (tBv (d2 dEq (d2 dIx (dV 2) (dC (.int 0))) (dC (.int 0)))) (sRet (dNl (nLc (iSeqD (dV 0)) (bName 3) tYesD (dTup (aCons (dC (.int 0)) (aCons (dC (.int 1)) aNil))) ([3] : List Nat)))) sNext) (sSeq (sSet 4 (dCall 2 f_left_lanes (aCons (dV 0) (aCons (dV 1) aNil)))) (sRet (dCall 3 f_flows_at (aCons (dV 4) (aCons (dV 2) (aCons (dCall 2 f_level_of (aCons (dV 4) (aCons (dV 2) aNil))) aNil)))))))
noncomputable def f_others_of : List Ar → Wp D := dRun 5 b_others_of

theorem sc_total_of : FnScope ["lanes", "some", "lane", "flow"] ["lanes", "some"] (defScope s_total_of) := ⟨rfl, rfl, rfl, by decide +kernel, rfl, by decide +kernel, by decide +kernel⟩
noncomputable def b_total_of : SF := (sRet (dCall 1 f_sum_of (aCons (dNl (nLc (iZpD (dV 0) (dV 1)) (bTup 2 (bCons (bName 2) (bCons (bName 3) bNil))) tYesD (dCall 2 f_by (aCons (dV 3) (aCons (dCall 2 f_lane_time (aCons (dV 2) (aCons (dV 3) aNil))) aNil))) ([2, 3] : List Nat))) aNil)))
noncomputable def f_total_of : List Ar → Wp D := dRun 4 b_total_of

theorem sc_leader_plan : FnScope ["lanes", "demand", "share", "best", "amount", "led", "rest", "whole", "one", "other"] ["lanes", "demand", "share"] (defScope s_leader_plan) := ⟨rfl, rfl, rfl, by decide +kernel, rfl, by decide +kernel, by decide +kernel⟩
noncomputable def b_leader_plan : SF := (sSeq (sDrop (dCall 3 f_need_share (aCons (dV 0) (aCons (dV 1) (aCons (dV 2) aNil))))) (sSeq (sSet 3 (dCall 2 f_best_flows (aCons (dV 0) (aCons (dV 1) aNil)))) (sSeq (sSet 4 (dCall 2 f_by (aCons (dV 2) (aCons (dV 1) aNil)))) (sSeq (sSet 5 (dCall 3 f_led_of (aCons (dV 0) (aCons (dV 3) (aCons (dV 4) aNil))))) (sSeq (sSet 6 (dCall 3 f_others_of (aCons (dV 0) (aCons (dV 5) (aCons (dCall 2 f_minus (aCons (dV 1) (aCons (dV 4) aNil))) aNil))))) (sSeq (sSetO 7 (nLc (iZpD (dV 5) (dV 6)) (bTup 2 (bCons (bName 8) (bCons (bName 9) bNil))) tYesD (dCall 2 f_plus (aCons (dV 8) (aCons (dV 9) aNil))) ([8, 9] : List Nat))) (sFz 7 (sRet (dTup (aCons (dCB bTuple (aCons (dV 3) aNil)) (aCons (dCB bTuple (aCons (dV 5) aNil)) (aCons (dCB bTuple (aCons (dV 6) aNil)) (aCons (dCall 2 f_total_of (aCons (dV 0) (aCons (dV 7) aNil))) aNil)))))))))))))
noncomputable def f_leader_plan : List Ar → Wp D := dRun 10 b_leader_plan

theorem sc_law_is_ratio : FnScope ["_law_value", "_law_one"] ["_law_value"] (defScope s_law_is_ratio) := ⟨rfl, rfl, rfl, by decide +kernel, rfl, by decide +kernel, by decide +kernel⟩
noncomputable def b_law_is_ratio : SF := (sSeq (sIf (tNotV (tT (dIsi "tuple" (dV 0)))) (sRet (dC (.bool false))) sNext) (sSeq (sIf (tBv (d2 dNe (dCB bLen (aCons (dV 0) aNil)) (dC (.int 2)))) (sRet (dC (.bool false))) sNext) (sSeq (sIf (tBv (d2 dNe (dNl (nLc (iSeqD (dV 0)) (bName 1) (tOr2 (tNotV (tT (dIsi "int" (dV 1)))) (tT (dIsi "bool" (dV 1)))) (dV 1) ([1] : List Nat))) (dLst aNil))) (sRet (dC (.bool false))) sNext) (sRet (dAndV (d2 dGt (d2 dIx (dV 0) (dC (.int 1))) (dC (.int 0))) (d2 dEq (dCall 2 f_law_ratio (aCons (d2 dIx (dV 0) (dC (.int 0))) (aCons (d2 dIx (dV 0) (dC (.int 1))) aNil))) (dV 0)))))))
noncomputable def f_law_is_ratio : List Ar → Wp D := dRun 2 b_law_is_ratio

theorem sc_law_plus : FnScope ["_law_one", "_law_other"] ["_law_one", "_law_other"] (defScope s_law_plus) := ⟨rfl, rfl, rfl, by decide +kernel, rfl, by decide +kernel, by decide +kernel⟩
noncomputable def b_law_plus : SF := (sRet (dCall 2 f_law_ratio (aCons (d2 dAdd (d2 dMul (d2 dIx (dV 0) (dC (.int 0))) (d2 dIx (dV 1) (dC (.int 1)))) (d2 dMul (d2 dIx (dV 1) (dC (.int 0))) (d2 dIx (dV 0) (dC (.int 1))))) (aCons (d2 dMul (d2 dIx (dV 0) (dC (.int 1))) (d2 dIx (dV 1) (dC (.int 1)))) aNil))))
noncomputable def f_law_plus : List Ar → Wp D := dRun 2 b_law_plus

theorem sc_law_sum : FnScope ["_law_some", "_law_found", "_law_one"] ["_law_some"] (defScope s_law_sum) := ⟨rfl, rfl, rfl, by decide +kernel, rfl, by decide +kernel, by decide +kernel⟩
noncomputable def b_law_sum : SF := (sSeq (sSet 1 (dTup (aCons (dC (.int 0)) (aCons (dC (.int 1)) aNil)))) (sSeq (sFor (iSeqD (dV 0)) (bName 2) (sSet 1 (dCall 2 f_law_plus (aCons (dV 1) (aCons (dV 2) aNil))))) (sRet (dV 1))))
noncomputable def f_law_sum : List Ar → Wp D := dRun 3 b_law_sum

theorem sc_law_by : FnScope ["_law_one", "_law_other"] ["_law_one", "_law_other"] (defScope s_law_by) := ⟨rfl, rfl, rfl, by decide +kernel, rfl, by decide +kernel, by decide +kernel⟩
noncomputable def b_law_by : SF := (sRet (dCall 2 f_law_ratio (aCons (d2 dMul (d2 dIx (dV 0) (dC (.int 0))) (d2 dIx (dV 1) (dC (.int 0)))) (aCons (d2 dMul (d2 dIx (dV 0) (dC (.int 1))) (d2 dIx (dV 1) (dC (.int 1)))) aNil))))
noncomputable def f_law_by : List Ar → Wp D := dRun 2 b_law_by

theorem sc_law_time : FnScope ["_law_lane", "_law_flow"] ["_law_lane", "_law_flow"] (defScope s_law_time) := ⟨rfl, rfl, rfl, by decide +kernel, rfl, by decide +kernel, by decide +kernel⟩
noncomputable def b_law_time : SF := (sRet (dCall 2 f_law_plus (aCons (dCall 2 f_law_by (aCons (dTup (aCons (d2 dIx (dV 0) (dC (.int 0))) (aCons (dC (.int 1)) aNil))) (aCons (dV 1) aNil))) (aCons (dIf (tT (dIsi "int" (d2 dIx (dV 0) (dC (.int 1))))) (dTup (aCons (d2 dIx (dV 0) (dC (.int 1))) (aCons (dC (.int 1)) aNil))) (d2 dIx (dV 0) (dC (.int 1)))) aNil))))
noncomputable def f_law_time : List Ar → Wp D := dRun 2 b_law_time

theorem sc_law_less : FnScope ["_law_one", "_law_other"] ["_law_one", "_law_other"] (defScope s_law_less) := ⟨rfl, rfl, rfl, by decide +kernel, rfl, by decide +kernel, by decide +kernel⟩
noncomputable def b_law_less : SF := (sRet (d2 dLt (d2 dMul (d2 dIx (dV 0) (dC (.int 0))) (d2 dIx (dV 1) (dC (.int 1)))) (d2 dMul (d2 dIx (dV 1) (dC (.int 0))) (d2 dIx (dV 0) (dC (.int 1))))))
noncomputable def f_law_less : List Ar → Wp D := dRun 2 b_law_less

theorem sc_law_lane_rests : FnScope ["_law_lanes_here", "_law_demand_here", "_law_some", "_law_one", "_law_all_times", "_law_k", "_law_least"] ["_law_lanes_here", "_law_demand_here", "_law_some"] (defScope s_law_lane_rests) := ⟨rfl, rfl, rfl, by decide +kernel, rfl, by decide +kernel, by decide +kernel⟩
noncomputable def b_law_lane_rests : SF := (sSeq (sIf (tOr2 (tNotV (tT (dIsi "tuple" (dV 2)))) (tOr2 (tBv (d2 dNe (dCB bLen (aCons (dV 2) aNil)) (dCB bLen (aCons (dV 0) aNil)))) (tBv (d2 dNe (dNl (nLc (iSeqD (dV 2)) (bName 3) (tOr2 (tNotV (tT (dCall 1 f_law_is_ratio (aCons (dV 3) aNil)))) (tBv (d2 dLt (d2 dIx (dV 3) (dC (.int 0))) (dC (.int 0))))) (dV 3) ([3] : List Nat))) (dLst aNil))))) (sRet (dC .none)) sNext) (sSeq (sIf (tBv (d2 dNe (dCall 1 f_law_sum (aCons (dCB bList (aCons (dV 2) aNil)) aNil)) (dV 1))) (sRet (dC .none)) sNext) (sSeq (sSet 4 (dNl (nLc (iRgD1 (dCB bLen (aCons (dV 0) aNil))) (bName 5) tYesD (dCall 2 f_law_time (aCons (d2 dIx (dV 0) (dV 5)) (aCons (d2 dIx (dV 2) (dV 5)) aNil))) ([5] : List Nat)))) (sSeq (sSet 6 (d2 dIx (dV 4) (dC (.int 0)))) (sSeq (sFor (iSeqD (dV 4)) (bName 3) (sSet 6 (dIf (tT (dCall 2 f_law_less (aCons (dV 3) (aCons (dV 6) aNil)))) (dV 3) (dV 6)))) (sSeq (sIf (tBv (d2 dNe (dNl (nLc (iRgD1 (dCB bLen (aCons (dV 0) aNil))) (bName 5) (tAnd2 (tBv (d2 dGt (d2 dIx (d2 dIx (dV 2) (dV 5)) (dC (.int 0))) (dC (.int 0)))) (tBv (d2 dNe (d2 dIx (dV 4) (dV 5)) (dV 6)))) (dV 5) ([5] : List Nat))) (dLst aNil))) (sRet (dC .none)) sNext) (sRet (dV 6))))))))
noncomputable def f_law_lane_rests : List Ar → Wp D := dRun 7 b_law_lane_rests

theorem sc_law_led : FnScope ["_law_lanes_here", "_law_best", "_law_amount", "_law_order", "_law_k", "_law_found", "_law_rest", "_law_top"] ["_law_lanes_here", "_law_best", "_law_amount"] (defScope s_law_led) := ⟨rfl, rfl, rfl, by decide +kernel, rfl, by decide +kernel, by decide +kernel⟩
noncomputable def b_law_led : SF := (sSeq (sSetO 3 (nLc (iRgD1 (dCB bLen (aCons (dV 0) aNil))) (bName 4) tYesD (dV 4) ([4] : List Nat))) (sSeq (sParOD 5 6 (nMulL (dLst (aCons (dTup (aCons (dC (.int 0)) (aCons (dC (.int 1)) aNil))) aNil)) (dCB bLen (aCons (dV 0) aNil))) (dV 2)) (sFz 3 (sSeq (sWhile (tBv (d2 dNe (dV 3) (dLst aNil))) (sFz 3 (sSeq (sSet 7 (d2 dIx (dV 3) (dC (.int 0)))) (sFz 3 (sSeq (sFor (iSeqD (dV 3)) (bName 4) (sIf (tNotV (tT (dCall 2 f_law_less (aCons (dCall 2 f_law_time (aCons (d2 dIx (dV 0) (dV 4)) (aCons (d2 dIx (dV 1) (dV 4)) aNil))) (aCons (dCall 2 f_law_time (aCons (d2 dIx (dV 0) (dV 7)) (aCons (d2 dIx (dV 1) (dV 7)) aNil))) aNil))))) (sSet 7 (dV 4)) sNext)) (sFz 3 (sSeq (sSetO 3 (nLc (iSeqD (dV 3)) (bName 4) (tBv (d2 dNe (dV 4) (dV 7))) (dV 4) ([4] : List Nat))) (sFz 3 (sSeq (sSetIx 5 (dV 7) (dIf (tT (dCall 2 f_law_less (aCons (dV 6) (aCons (d2 dIx (dV 1) (dV 7)) aNil)))) (dV 6) (d2 dIx (dV 1) (dV 7)))) (sSet 6 (dCall 2 f_law_plus (aCons (dV 6) (aCons (dTup (aCons (d2 dSub (dC (.int 0)) (d2 dIx (dOix 5 (dV 7)) (dC (.int 0)))) (aCons (d2 dIx (dOix 5 (dV 7)) (dC (.int 1))) aNil))) aNil))))))))))))) (sFz 5 (sRet (dCB bTuple (aCons (dV 5) aNil))))))))
noncomputable def f_law_led : List Ar → Wp D := dRun 8 b_law_led

theorem sc_law_whole : FnScope ["_law_lanes_here", "_law_some", "_law_k"] ["_law_lanes_here", "_law_some"] (defScope s_law_whole) := ⟨rfl, rfl, rfl, by decide +kernel, rfl, by decide +kernel, by decide +kernel⟩
noncomputable def b_law_whole : SF := (sRet (dCall 1 f_law_sum (aCons (dNl (nLc (iRgD1 (dCB bLen (aCons (dV 0) aNil))) (bName 2) tYesD (dCall 2 f_law_by (aCons (d2 dIx (dV 1) (dV 2)) (aCons (dCall 2 f_law_time (aCons (d2 dIx (dV 0) (dV 2)) (aCons (d2 dIx (dV 1) (dV 2)) aNil))) aNil))) ([2] : List Nat))) aNil)))
noncomputable def f_law_whole : List Ar → Wp D := dRun 3 b_law_whole

theorem sc_law_is_plan : FnScope ["_law_lanes_here", "_law_demand_here", "_law_share", "_law_value", "_law_steep", "_law_lane", "_law_amount", "_law_left", "_law_k", "_law_others"] ["_law_lanes_here", "_law_demand_here", "_law_share", "_law_value"] (defScope s_law_is_plan) := ⟨rfl, rfl, rfl, by decide +kernel, rfl, by decide +kernel, by decide +kernel⟩
noncomputable def b_law_is_plan : SF := (sSeq (sIf (tOr2 (tNotV (tT (dIsi "tuple" (dV 3)))) (tOr2 (tBv (d2 dNe (dCB bLen (aCons (dV 3) aNil)) (dC (.int 4)))) (tNotV (tT (dCall 1 f_law_is_ratio (aCons (d2 dIx (dV 3) (dC (.int 3))) aNil)))))) (sRet (dC (.bool false))) sNext) (sSeq (sSet 4 (dCB bTuple (aCons (dNl (nLc (iSeqD (dV 0)) (bName 5) tYesD (dTup (aCons (d2 dMul (dC (.int 2)) (d2 dIx (dV 5) (dC (.int 0)))) (aCons (d2 dIx (dV 5) (dC (.int 1))) aNil))) ([5] : List Nat))) aNil))) (sSeq (sIf (tBv (d2 dIs (dCall 3 f_law_lane_rests (aCons (dV 4) (aCons (dV 1) (aCons (d2 dIx (dV 3) (dC (.int 0))) aNil)))) (dC .none))) (sRet (dC (.bool false))) sNext) (sSeq (sSet 6 (dCall 2 f_law_by (aCons (dV 2) (aCons (dV 1) aNil)))) (sSeq (sIf (tOr2 (tNotV (tT (dIsi "tuple" (d2 dIx (dV 3) (dC (.int 1)))))) (tBv (d2 dNe (d2 dIx (dV 3) (dC (.int 1))) (dCall 3 f_law_led (aCons (dV 0) (aCons (d2 dIx (dV 3) (dC (.int 0))) (aCons (dV 6) aNil))))))) (sRet (dC (.bool false))) sNext) (sSeq (sSet 7 (dCB bTuple (aCons (dNl (nLc (iRgD1 (dCB bLen (aCons (dV 0) aNil))) (bName 8) tYesD (dTup (aCons (d2 dIx (d2 dIx (dV 0) (dV 8)) (dC (.int 0))) (aCons (dCall 2 f_law_time (aCons (d2 dIx (dV 0) (dV 8)) (aCons (d2 dIx (d2 dIx (dV 3) (dC (.int 1))) (dV 8)) aNil))) aNil))) ([8] : List Nat))) aNil))) (sSeq (sSet 9 (dCall 2 f_law_plus (aCons (dV 1) (aCons (dTup (aCons (d2 dSub (dC (.int 0)) (d2 dIx (dV 6) (dC (.int 0)))) (aCons (d2 dIx (dV 6) (dC (.int 1))) aNil))) aNil)))) (sSeq (sIf (tBv (d2 dEq (dV 9) (dTup (aCons (dC (.int 0)) (aCons (dC (.int 1)) aNil))))) (sIf (tBv (d2 dNe (d2 dIx (dV 3) (dC (.int 2))) (d2 dMulA (dTup (aCons (dTup (aCons (dC (.int 0)) (aCons (dC (.int 1)) aNil))) aNil)) (dCB bLen (aCons (dV 0) aNil))))) (sRet (dC (.bool false))) sNext) (sIf (tBv (d2 dIs (dCall 3 f_law_lane_rests (aCons (dV 7) (aCons (dV 9) (aCons (d2 dIx (dV 3) (dC (.int 2))) aNil)))) (dC .none))) (sRet (dC (.bool false))) sNext)) (sRet (d2 dEq (dCall 2 f_law_whole (aCons (dV 0) (aCons (dNl (nLc (iRgD1 (dCB bLen (aCons (dV 0) aNil))) (bName 8) tYesD (dCall 2 f_law_plus (aCons (d2 dIx (d2 dIx (dV 3) (dC (.int 1))) (dV 8)) (aCons (d2 dIx (d2 dIx (dV 3) (dC (.int 2))) (dV 8)) aNil))) ([8] : List Nat))) aNil))) (d2 dIx (dV 3) (dC (.int 3)))))))))))))
noncomputable def f_law_is_plan : List Ar → Wp D := dRun 10 b_law_is_plan

theorem sc_law_alike : FnScope ["_law_found", "_law_due", "_law_k"] ["_law_found", "_law_due"] (defScope s_law_alike) := ⟨rfl, rfl, rfl, by decide +kernel, rfl, by decide +kernel, by decide +kernel⟩
noncomputable def b_law_alike (self : List Ar → Wp D) : SF := (sSeq (sIf (tT (dIsiT ["tuple", "list"] (dV 1))) (sSeq (sIf (tOr2 (tNotV (tT (dIsiT ["tuple", "list"] (dV 0)))) (tBv (d2 dNe (dIsi "list" (dV 0)) (dIsi "list" (dV 1))))) (sRet (dC (.bool false))) sNext) (sSeq (sIf (tBv (d2 dNe (dCB bLen (aCons (dV 0) aNil)) (dCB bLen (aCons (dV 1) aNil)))) (sRet (dC (.bool false))) sNext) (sRet (d2 dEq (dNl (nLc (iRgD1 (dCB bLen (aCons (dV 1) aNil))) (bName 2) (tNotV (tT (dCall 2 self (aCons (d2 dIx (dV 0) (dV 2)) (aCons (d2 dIx (dV 1) (dV 2)) aNil))))) (dV 2) ([2] : List Nat))) (dLst aNil))))) sNext) (sSeq (sIf (tOr2 (tBv (d2 dIs (dV 1) (dC .none))) (tT (dIsi "str" (dV 1)))) (sRet (dAndV (d2 dEq (dV 0) (dV 1)) (d2 dEq (dIsi "str" (dV 0)) (dIsi "str" (dV 1))))) sNext) (sRet (dAndV (dIsi "int" (dV 0)) (dAndV (d2 dEq (dIsi "bool" (dV 0)) (dIsi "bool" (dV 1))) (d2 dEq (dV 0) (dV 1)))))))
noncomputable def f_law_alike : Nat → List Ar → Wp D
  | 0 => dRun 3 fun _ => .stuck
  | z + 1 => dRun 3 (b_law_alike (f_law_alike z))

theorem sc_are_flows : FnScope ["lanes", "value", "one"] ["lanes", "value"] (defScope s_are_flows) := ⟨rfl, rfl, rfl, by decide +kernel, rfl, by decide +kernel, by decide +kernel⟩
noncomputable def b_are_flows : SF := (sSeq (sIf (tOr2 (tNotV (tT (dIsi "tuple" (dV 1)))) (tBv (d2 dNe (dCB bLen (aCons (dV 1) aNil)) (dCB bLen (aCons (dV 0) aNil))))) (sRet (dC (.bool false))) sNext) (sRet (dGa true (iSeqD (dV 1)) (bName 2) tYesD (dAndV (dCall 1 f_is_ratio (aCons (dV 2) aNil)) (d2 dGe (d2 dIx (dV 2) (dC (.int 0))) (dC (.int 0)))) ([2] : List Nat))))
noncomputable def f_are_flows : List Ar → Wp D := dRun 3 b_are_flows

theorem sc_do_rest : FnScope ["lanes", "time", "some", "slope", "base", "flow", "here"] ["lanes", "time", "some"] (defScope s_do_rest) := ⟨rfl, rfl, rfl, by decide +kernel, rfl, by decide +kernel, by decide +kernel⟩
noncomputable def b_do_rest : SF := (sSeq (sFor (iZpD (dV 0) (dV 2)) (bTup 2 (bCons (bTup 2 (bCons (bName 3) (bCons (bName 4) bNil))) (bCons (bName 5) bNil))) (sSeq (sSet 6 (dCall 2 f_plus (aCons (dCall 2 f_by (aCons (dTup (aCons (dV 3) (aCons (dC (.int 1)) aNil))) (aCons (dV 5) aNil))) (aCons (dV 4) aNil)))) (sIf (tOr2 (tT (dCall 2 f_less (aCons (dV 6) (aCons (dV 1) aNil)))) (tAnd2 (tBv (d2 dGt (d2 dIx (dV 5) (dC (.int 0))) (dC (.int 0)))) (tBv (d2 dNe (dV 6) (dV 1))))) (sRet (dC (.bool false))) sNext))) (sRet (dC (.bool true))))
noncomputable def f_do_rest : List Ar → Wp D := dRun 7 b_do_rest

theorem sc_rests_behind : FnScope ["lanes", "led", "amount", "some", "left"] ["lanes", "led", "amount", "some"] (defScope s_rests_behind) := ⟨rfl, rfl, rfl, by decide +kernel, rfl, by decide +kernel, by decide +kernel⟩
noncomputable def b_rests_behind : SF := (sSeq (sIf (tBv (d2 dNe (dCall 1 f_sum_of (aCons (dCB bList (aCons (dV 3) aNil)) aNil)) (dV 2))) (sRet (dC (.bool false))) sNext) (sSeq (sIf (tBv (d2 dEq (d2 dIx (dV 2) (dC (.int 0))) (dC (.int 0)))) (sRet (dC (.bool true))) sNext) (sSeq (sSet 4 (dCall 2 f_left_lanes (aCons (dV 0) (aCons (dV 1) aNil)))) (sRet (dCall 3 f_do_rest (aCons (dV 4) (aCons (dCall 2 f_level_of (aCons (dV 4) (aCons (dV 2) aNil))) (aCons (dV 3) aNil))))))))
noncomputable def f_rests_behind : List Ar → Wp D := dRun 5 b_rests_behind

theorem sc_shows_plan : FnScope ["lanes", "demand", "share", "value", "best", "led", "rest", "total", "one", "amount", "other"] ["lanes", "demand", "share", "value"] (defScope s_shows_plan) := ⟨rfl, rfl, rfl, by decide +kernel, rfl, by decide +kernel, by decide +kernel⟩
noncomputable def b_shows_plan : SF := (sSeq (sDrop (dCall 3 f_need_share (aCons (dV 0) (aCons (dV 1) (aCons (dV 2) aNil))))) (sSeq (sIf (tOr2 (tNotV (tT (dIsi "tuple" (dV 3)))) (tOr2 (tBv (d2 dNe (dCB bLen (aCons (dV 3) aNil)) (dC (.int 4)))) (tNotV (tT (dCall 1 f_is_ratio (aCons (d2 dIx (dV 3) (dC (.int 3))) aNil)))))) (sRet (dC (.bool false))) sNext) (sSeq (sAsg (dV 3) (bTup 4 (bCons (bName 4) (bCons (bName 5) (bCons (bName 6) (bCons (bName 7) bNil)))))) (sSeq (sIf (tOr2 (tNotV (tT (dGa true (iSeqD (dTup (aCons (dV 4) (aCons (dV 5) (aCons (dV 6) aNil))))) (bName 8) tYesD (dCall 2 f_are_flows (aCons (dV 0) (aCons (dV 8) aNil))) ([8] : List Nat)))) (tBv (d2 dNe (dCall 1 f_sum_of (aCons (dCB bList (aCons (dV 4) aNil)) aNil)) (dV 1)))) (sRet (dC (.bool false))) sNext) (sSeq (sIf (tBv (d2 dNe (dCall 2 f_total_of (aCons (dV 0) (aCons (dV 4) aNil))) (dCall 2 f_total_of (aCons (dV 0) (aCons (dCall 2 f_best_flows (aCons (dV 0) (aCons (dV 1) aNil))) aNil))))) (sRet (dC (.bool false))) sNext) (sSeq (sSet 9 (dCall 2 f_by (aCons (dV 2) (aCons (dV 1) aNil)))) (sSeq (sIf (tOr2 (tBv (d2 dNe (dV 5) (dCB bTuple (aCons (dCall 3 f_led_of (aCons (dV 0) (aCons (dV 4) (aCons (dV 9) aNil)))) aNil)))) (tNotV (tT (dCall 4 f_rests_behind (aCons (dV 0) (aCons (dV 5) (aCons (dCall 2 f_minus (aCons (dV 1) (aCons (dV 9) aNil))) (aCons (dV 6) aNil)))))))) (sRet (dC (.bool false))) sNext) (sRet (d2 dEq (dCall 2 f_total_of (aCons (dV 0) (aCons (dNl (nLc (iZpD (dV 5) (dV 6)) (bTup 2 (bCons (bName 8) (bCons (bName 10) bNil))) tYesD (dCall 2 f_plus (aCons (dV 8) (aCons (dV 10) aNil))) ([8, 10] : List Nat))) aNil))) (dV 7))))))))))
noncomputable def f_shows_plan : List Ar → Wp D := dRun 11 b_shows_plan

theorem sc_law : FnScope ["_law_script", "_law_row", "_law_lanes_here", "_law_demand_here", "_law_share", "_law_found", "_law_least", "_law_best", "_law_led_here", "_law_rest", "_law_total", "_law_at", "_law_size", "_law_values", "_law_k", "_law_side", "_law_moved", "_law_value"] ["_law_script"] (defScope s_law) := ⟨rfl, rfl, rfl, by decide +kernel, rfl, by decide +kernel, by decide +kernel⟩
noncomputable def b_law (C : Cs) : SF := (sSeq (sRow 1 0) (sSeq (sPar 2 3 (aCons (dCall 1 (f_law_lanes C) (aTrk 1 aNil)) (aCons (dCall 1 (f_law_demand C) (aTrk 1 aNil)) aNil))) (sSeq (sSet 4 (dCall 2 (f_law_pick C) (aTrk 1 (aCons (dLst (aCons (dTup (aCons (dC (.int 0)) (aCons (dC (.int 1)) aNil))) (aCons (dTup (aCons (dC (.int 1)) (aCons (dC (.int 1)) aNil))) (aCons (dTup (aCons (dC (.int 1)) (aCons (dC (.int 2)) aNil))) (aCons (dTup (aCons (dC (.int 1)) (aCons (dC (.int 3)) aNil))) (aCons (dCall 2 f_law_ratio (aCons (dCall 2 (f_law_taken C) (aTrk 1 (aCons (dC (.int 8)) aNil))) (aCons (dC (.int 7)) aNil))) aNil)))))) aNil)))) (sSeq (sSet 5 (dCall 3 f_leader_plan (aCons (dV 2) (aCons (dV 3) (aCons (dV 4) aNil))))) (sSeq (sIf (tNotV (tT (dCall 4 f_law_is_plan (aCons (dV 2) (aCons (dV 3) (aCons (dV 4) (aCons (dV 5) aNil))))))) (sRet (dC (.bool false))) sNext) (sSeq (sSet 6 (dCall 2 f_law_whole (aCons (dV 2) (aCons (d2 dIx (dV 5) (dC (.int 0))) aNil)))) (sSeq (sIf (tOr2 (tT (dCall 2 f_law_less (aCons (dV 6) (aCons (dCall 2 f_law_by (aCons (dV 4) (aCons (d2 dIx (dV 5) (dC (.int 3))) aNil))) aNil)))) (tT (dCall 2 f_law_less (aCons (d2 dIx (dV 5) (dC (.int 3))) (aCons (dV 6) aNil))))) (sRet (dC (.bool false))) sNext) (sSeq (sAsg (dV 5) (bTup 4 (bCons (bName 7) (bCons (bName 8) (bCons (bName 9) (bCons (bName 10) bNil)))))) (sSeq (sPar 11 12 (aCons (dCall 2 (f_law_taken C) (aTrk 1 (aCons (dCB bLen (aCons (dV 2) aNil)) aNil))) (aCons (dCall 2 (f_law_pick C) (aTrk 1 (aCons (dLst (aCons (dTup (aCons (dC (.int 1)) (aCons (dC (.int 1)) aNil))) (aCons (dTup (aCons (dC (.int 1)) (aCons (dC (.int 3)) aNil))) (aCons (dTup (aCons (d1 dNeg (dC (.int 1))) (aCons (dC (.int 2)) aNil))) aNil)))) aNil))) aNil))) (sSeq (sSetO 13 (nLst (aCons (dV 5) (aCons (dCB bList (aCons (dV 5) aNil)) (aCons (dSl (dV 5) oNone (oSome (dC (.int 3)))) (aCons (d2 dAdd (dV 5) (dTup (aCons (dC (.int 0)) aNil))) (aCons (dTup (aCons (dV 8) (aCons (dV 7) (aCons (dV 9) (aCons (dV 10) aNil))))) (aCons (dTup (aCons (dV 7) (aCons (dV 9) (aCons (dV 8) (aCons (dV 10) aNil))))) (aCons (dTup (aCons (dV 7) (aCons (dV 8) (aCons (dV 9) (aCons (dC (.int 1)) aNil))))) (aCons (dC .none) (aCons (dTup aNil) (aCons (dC (.int 3)) (aCons (dC (.dict [])) aNil))))))))))))) (sSeq (sApp 13 (dTup (aCons (dV 7) (aCons (dV 8) (aCons (dV 9) (aCons (dCall 2 f_law_plus (aCons (dV 10) (aCons (dTup (aCons (dC (.int 1)) (aCons (dC (.int 1)) aNil))) aNil))) aNil)))))) (sSeq (sFor (iRgD1 (dCB bLen (aCons (dV 2) aNil))) (bName 14) (sSeq (sFor (iRgD1 (dC (.int 3))) (bName 15) (sSeq (sSetO 16 (nLstOf (d2 dIx (dV 5) (dV 15)))) (sSeq (sSetIx 16 (dV 11) (dCall 2 f_law_plus (aCons (dOix 16 (dV 11)) (aCons (dV 12) aNil)))) (sSeq (sSetIx 16 (dV 14) (dCall 2 f_law_plus (aCons (dOix 16 (dV 14)) (aCons (dTup (aCons (d2 dSub (dC (.int 0)) (d2 dIx (dV 12) (dC (.int 0)))) (aCons (d2 dIx (dV 12) (dC (.int 1))) aNil))) aNil)))) (sFz 16 (sApp 13 (d2 dAdd (d2 dAdd (dSl (dV 5) oNone (oSome (dV 15))) (dTup (aCons (dCB bTuple (aCons (dV 16) aNil)) aNil))) (dSl (dV 5) (oSome (d2 dAdd (dV 15) (dC (.int 1)))) oNone)))))))) (sApp 13 (dTup (aCons (dV 7) (aCons (dV 8) (aCons (d2 dAdd (d2 dAdd (dSl (dV 9) oNone (oSome (dV 14))) (dTup (aCons (dC (.int 1)) aNil))) (dSl (dV 9) (oSome (d2 dAdd (dV 14) (dC (.int 1)))) oNone)) (aCons (dV 10) aNil)))))))) (sFz 13 (sSeq (sFor (iSeqD (dV 13)) (bName 17) (sIf (tNotV (tT (dCall 2 (f_law_alike 3) (aCons (dCall 4 f_shows_plan (aCons (dV 2) (aCons (dV 3) (aCons (dV 4) (aCons (dV 17) aNil))))) (aCons (dCall 4 f_law_is_plan (aCons (dV 2) (aCons (dV 3) (aCons (dV 4) (aCons (dV 17) aNil))))) aNil))))) (sRet (dC (.bool false))) sNext)) (sRet (dC (.bool true)))))))))))))))))
noncomputable def f_law (C : Cs) : List Ar → Wp D := dRun 18 (b_law C)
end Tr

namespace Tr
open PySem PySem.Spec L2
variable [ProtC]
structure Tp (C : Cs) (base : Heap) : Prop where
  d_law_taken : ∃ fd, FunD C.K "_law_taken" "_law_taken" (defArgs s_law_taken) (defBody s_law_taken) (defScope s_law_taken) [] [] (He.ga C.K "_law_taken") fd
  g_law_taken : C.mg "_law_taken" = some (.ref (He.ga C.K "_law_taken"))
  d_law_pick : ∃ fd, FunD C.K "_law_pick" "_law_pick" (defArgs s_law_pick) (defBody s_law_pick) (defScope s_law_pick) [] [] (He.ga C.K "_law_pick") fd
  g_law_pick : C.mg "_law_pick" = some (.ref (He.ga C.K "_law_pick"))
  d_law_ratio : ∃ fd, FunD C.K "_law_ratio" "_law_ratio" (defArgs s_law_ratio) (defBody s_law_ratio) (defScope s_law_ratio) [] [] (He.ga C.K "_law_ratio") fd
  g_law_ratio : C.mg "_law_ratio" = some (.ref (He.ga C.K "_law_ratio"))
  d_law_demand : ∃ fd, FunD C.K "_law_demand" "_law_demand" (defArgs s_law_demand) (defBody s_law_demand) (defScope s_law_demand) [] [] (He.ga C.K "_law_demand") fd
  g_law_demand : C.mg "_law_demand" = some (.ref (He.ga C.K "_law_demand"))
  d_law_lanes : ∃ fd, FunD C.K "_law_lanes" "_law_lanes" (defArgs s_law_lanes) (defBody s_law_lanes) (defScope s_law_lanes) [] [] (He.ga C.K "_law_lanes") fd
  g_law_lanes : C.mg "_law_lanes" = some (.ref (He.ga C.K "_law_lanes"))
  d_is_in : ∃ fd, FunD C.K "is_in" "is_in" (defArgs s_is_in) (defBody s_is_in) (defScope s_is_in) [] [] (He.ga C.K "is_in") fd
  g_is_in : C.mg "is_in" = some (.ref (He.ga C.K "is_in"))
  d_is_lane : ∃ fd, FunD C.K "is_lane" "is_lane" (defArgs s_is_lane) (defBody s_is_lane) (defScope s_is_lane) [] [] (He.ga C.K "is_lane") fd
  g_is_lane : C.mg "is_lane" = some (.ref (He.ga C.K "is_lane"))
  d_is_ratio : ∃ fd, FunD C.K "is_ratio" "is_ratio" (defArgs s_is_ratio) (defBody s_is_ratio) (defScope s_is_ratio) [] [] (He.ga C.K "is_ratio") fd
  g_is_ratio : C.mg "is_ratio" = some (.ref (He.ga C.K "is_ratio"))
  t_is_ratio : GxR.TabB base C.mg (He.codeOf C.K ("is_ratio", none)) (He.tabOf C.K (He.codeOf C.K ("is_ratio", none)))
  p_is_ratio : He.tabOf C.K (He.codeOf C.K ("is_ratio", none)) ∈ C.T
  d_need_demand : ∃ fd, FunD C.K "need_demand" "need_demand" (defArgs s_need_demand) (defBody s_need_demand) (defScope s_need_demand) [] [] (He.ga C.K "need_demand") fd
  g_need_demand : C.mg "need_demand" = some (.ref (He.ga C.K "need_demand"))
  d_need_lanes : ∃ fd, FunD C.K "need_lanes" "need_lanes" (defArgs s_need_lanes) (defBody s_need_lanes) (defScope s_need_lanes) [] [] (He.ga C.K "need_lanes") fd
  g_need_lanes : C.mg "need_lanes" = some (.ref (He.ga C.K "need_lanes"))
  d_need_share : ∃ fd, FunD C.K "need_share" "need_share" (defArgs s_need_share) (defBody s_need_share) (defScope s_need_share) [] [] (He.ga C.K "need_share") fd
  g_need_share : C.mg "need_share" = some (.ref (He.ga C.K "need_share"))
  d_with_ratios : ∃ fd, FunD C.K "with_ratios" "with_ratios" (defArgs s_with_ratios) (defBody s_with_ratios) (defScope s_with_ratios) [] [] (He.ga C.K "with_ratios") fd
  g_with_ratios : C.mg "with_ratios" = some (.ref (He.ga C.K "with_ratios"))
  d_steep : ∃ fd, FunD C.K "steep" "steep" (defArgs s_steep) (defBody s_steep) (defScope s_steep) [] [] (He.ga C.K "steep") fd
  g_steep : C.mg "steep" = some (.ref (He.ga C.K "steep"))
  d_ratio : ∃ fd, FunD C.K "ratio" "ratio" (defArgs s_ratio) (defBody s_ratio) (defScope s_ratio) [] [] (He.ga C.K "ratio") fd
  g_ratio : C.mg "ratio" = some (.ref (He.ga C.K "ratio"))
  d_minus : ∃ fd, FunD C.K "minus" "minus" (defArgs s_minus) (defBody s_minus) (defScope s_minus) [] [] (He.ga C.K "minus") fd
  g_minus : C.mg "minus" = some (.ref (He.ga C.K "minus"))
  d_less : ∃ fd, FunD C.K "less" "less" (defArgs s_less) (defBody s_less) (defScope s_less) [] [] (He.ga C.K "less") fd
  g_less : C.mg "less" = some (.ref (He.ga C.K "less"))
  d_plus : ∃ fd, FunD C.K "plus" "plus" (defArgs s_plus) (defBody s_plus) (defScope s_plus) [] [] (He.ga C.K "plus") fd
  g_plus : C.mg "plus" = some (.ref (He.ga C.K "plus"))
  d_over : ∃ fd, FunD C.K "over" "over" (defArgs s_over) (defBody s_over) (defScope s_over) [] [] (He.ga C.K "over") fd
  g_over : C.mg "over" = some (.ref (He.ga C.K "over"))
  d_taken_at : ∃ fd, FunD C.K "taken_at" "taken_at" (defArgs s_taken_at) (defBody s_taken_at) (defScope s_taken_at) [] [] (He.ga C.K "taken_at") fd
  g_taken_at : C.mg "taken_at" = some (.ref (He.ga C.K "taken_at"))
  d_flows_at : ∃ fd, FunD C.K "flows_at" "flows_at" (defArgs s_flows_at) (defBody s_flows_at) (defScope s_flows_at) [] [] (He.ga C.K "flows_at") fd
  g_flows_at : C.mg "flows_at" = some (.ref (He.ga C.K "flows_at"))
  d_sorted_ratios : ∃ fd, FunD C.K "sorted_ratios" "sorted_ratios" (defArgs s_sorted_ratios) (defBody s_sorted_ratios) (defScope s_sorted_ratios) [] [] (He.ga C.K "sorted_ratios") fd
  g_sorted_ratios : C.mg "sorted_ratios" = some (.ref (He.ga C.K "sorted_ratios"))
  d_sum_of : ∃ fd, FunD C.K "sum_of" "sum_of" (defArgs s_sum_of) (defBody s_sum_of) (defScope s_sum_of) [] [] (He.ga C.K "sum_of") fd
  g_sum_of : C.mg "sum_of" = some (.ref (He.ga C.K "sum_of"))
  d_level_of : ∃ fd, FunD C.K "level_of" "level_of" (defArgs s_level_of) (defBody s_level_of) (defScope s_level_of) [] [] (He.ga C.K "level_of") fd
  g_level_of : C.mg "level_of" = some (.ref (He.ga C.K "level_of"))
  d_best_flows : ∃ fd, FunD C.K "best_flows" "best_flows" (defArgs s_best_flows) (defBody s_best_flows) (defScope s_best_flows) [] [] (He.ga C.K "best_flows") fd
  g_best_flows : C.mg "best_flows" = some (.ref (He.ga C.K "best_flows"))
  d_by : ∃ fd, FunD C.K "by" "by" (defArgs s_by) (defBody s_by) (defScope s_by) [] [] (He.ga C.K "by") fd
  g_by : C.mg "by" = some (.ref (He.ga C.K "by"))
  d_lane_time : ∃ fd, FunD C.K "lane_time" "lane_time" (defArgs s_lane_time) (defBody s_lane_time) (defScope s_lane_time) [] [] (He.ga C.K "lane_time") fd
  g_lane_time : C.mg "lane_time" = some (.ref (He.ga C.K "lane_time"))
  d_falling : ∃ fd, FunD C.K "falling" "falling" (defArgs s_falling) (defBody s_falling) (defScope s_falling) [] [] (He.ga C.K "falling") fd
  g_falling : C.mg "falling" = some (.ref (He.ga C.K "falling"))
  d_led_of : ∃ fd, FunD C.K "led_of" "led_of" (defArgs s_led_of) (defBody s_led_of) (defScope s_led_of) [] [] (He.ga C.K "led_of") fd
  g_led_of : C.mg "led_of" = some (.ref (He.ga C.K "led_of"))
  d_left_lanes : ∃ fd, FunD C.K "left_lanes" "left_lanes" (defArgs s_left_lanes) (defBody s_left_lanes) (defScope s_left_lanes) [] [] (He.ga C.K "left_lanes") fd
  g_left_lanes : C.mg "left_lanes" = some (.ref (He.ga C.K "left_lanes"))
  d_others_of : ∃ fd, FunD C.K "others_of" "others_of" (defArgs s_others_of) (defBody s_others_of) (defScope s_others_of) [] [] (He.ga C.K "others_of") fd
  g_others_of : C.mg "others_of" = some (.ref (He.ga C.K "others_of"))
  d_total_of : ∃ fd, FunD C.K "total_of" "total_of" (defArgs s_total_of) (defBody s_total_of) (defScope s_total_of) [] [] (He.ga C.K "total_of") fd
  g_total_of : C.mg "total_of" = some (.ref (He.ga C.K "total_of"))
  d_leader_plan : ∃ fd, FunD C.K "leader_plan" "leader_plan" (defArgs s_leader_plan) (defBody s_leader_plan) (defScope s_leader_plan) [] [] (He.ga C.K "leader_plan") fd
  g_leader_plan : C.mg "leader_plan" = some (.ref (He.ga C.K "leader_plan"))
  d_law_is_ratio : ∃ fd, FunD C.K "_law_is_ratio" "_law_is_ratio" (defArgs s_law_is_ratio) (defBody s_law_is_ratio) (defScope s_law_is_ratio) [] [] (He.ga C.K "_law_is_ratio") fd
  g_law_is_ratio : C.mg "_law_is_ratio" = some (.ref (He.ga C.K "_law_is_ratio"))
  d_law_plus : ∃ fd, FunD C.K "_law_plus" "_law_plus" (defArgs s_law_plus) (defBody s_law_plus) (defScope s_law_plus) [] [] (He.ga C.K "_law_plus") fd
  g_law_plus : C.mg "_law_plus" = some (.ref (He.ga C.K "_law_plus"))
  d_law_sum : ∃ fd, FunD C.K "_law_sum" "_law_sum" (defArgs s_law_sum) (defBody s_law_sum) (defScope s_law_sum) [] [] (He.ga C.K "_law_sum") fd
  g_law_sum : C.mg "_law_sum" = some (.ref (He.ga C.K "_law_sum"))
  d_law_by : ∃ fd, FunD C.K "_law_by" "_law_by" (defArgs s_law_by) (defBody s_law_by) (defScope s_law_by) [] [] (He.ga C.K "_law_by") fd
  g_law_by : C.mg "_law_by" = some (.ref (He.ga C.K "_law_by"))
  d_law_time : ∃ fd, FunD C.K "_law_time" "_law_time" (defArgs s_law_time) (defBody s_law_time) (defScope s_law_time) [] [] (He.ga C.K "_law_time") fd
  g_law_time : C.mg "_law_time" = some (.ref (He.ga C.K "_law_time"))
  d_law_less : ∃ fd, FunD C.K "_law_less" "_law_less" (defArgs s_law_less) (defBody s_law_less) (defScope s_law_less) [] [] (He.ga C.K "_law_less") fd
  g_law_less : C.mg "_law_less" = some (.ref (He.ga C.K "_law_less"))
  d_law_lane_rests : ∃ fd, FunD C.K "_law_lane_rests" "_law_lane_rests" (defArgs s_law_lane_rests) (defBody s_law_lane_rests) (defScope s_law_lane_rests) [] [] (He.ga C.K "_law_lane_rests") fd
  g_law_lane_rests : C.mg "_law_lane_rests" = some (.ref (He.ga C.K "_law_lane_rests"))
  d_law_led : ∃ fd, FunD C.K "_law_led" "_law_led" (defArgs s_law_led) (defBody s_law_led) (defScope s_law_led) [] [] (He.ga C.K "_law_led") fd
  g_law_led : C.mg "_law_led" = some (.ref (He.ga C.K "_law_led"))
  d_law_whole : ∃ fd, FunD C.K "_law_whole" "_law_whole" (defArgs s_law_whole) (defBody s_law_whole) (defScope s_law_whole) [] [] (He.ga C.K "_law_whole") fd
  g_law_whole : C.mg "_law_whole" = some (.ref (He.ga C.K "_law_whole"))
  d_law_is_plan : ∃ fd, FunD C.K "_law_is_plan" "_law_is_plan" (defArgs s_law_is_plan) (defBody s_law_is_plan) (defScope s_law_is_plan) [] [] (He.ga C.K "_law_is_plan") fd
  g_law_is_plan : C.mg "_law_is_plan" = some (.ref (He.ga C.K "_law_is_plan"))
  d_law_alike : ∃ fd, FunD C.K "_law_alike" "_law_alike" (defArgs s_law_alike) (defBody s_law_alike) (defScope s_law_alike) [] [] (He.ga C.K "_law_alike") fd
  g_law_alike : C.mg "_law_alike" = some (.ref (He.ga C.K "_law_alike"))
  d_are_flows : ∃ fd, FunD C.K "are_flows" "are_flows" (defArgs s_are_flows) (defBody s_are_flows) (defScope s_are_flows) [] [] (He.ga C.K "are_flows") fd
  g_are_flows : C.mg "are_flows" = some (.ref (He.ga C.K "are_flows"))
  t_are_flows : GxR.TabB base C.mg (He.codeOf C.K ("are_flows", none)) (He.tabOf C.K (He.codeOf C.K ("are_flows", none)))
  p_are_flows : He.tabOf C.K (He.codeOf C.K ("are_flows", none)) ∈ C.T
  d_do_rest : ∃ fd, FunD C.K "do_rest" "do_rest" (defArgs s_do_rest) (defBody s_do_rest) (defScope s_do_rest) [] [] (He.ga C.K "do_rest") fd
  g_do_rest : C.mg "do_rest" = some (.ref (He.ga C.K "do_rest"))
  d_rests_behind : ∃ fd, FunD C.K "rests_behind" "rests_behind" (defArgs s_rests_behind) (defBody s_rests_behind) (defScope s_rests_behind) [] [] (He.ga C.K "rests_behind") fd
  g_rests_behind : C.mg "rests_behind" = some (.ref (He.ga C.K "rests_behind"))
  d_shows_plan : ∃ fd, FunD C.K "shows_plan" "shows_plan" (defArgs s_shows_plan) (defBody s_shows_plan) (defScope s_shows_plan) [] [] (He.ga C.K "shows_plan") fd
  g_shows_plan : C.mg "shows_plan" = some (.ref (He.ga C.K "shows_plan"))
  t_shows_plan : GxR.TabB base C.mg (He.codeOf C.K ("shows_plan", none)) (He.tabOf C.K (He.codeOf C.K ("shows_plan", none)))
  p_shows_plan : He.tabOf C.K (He.codeOf C.K ("shows_plan", none)) ∈ C.T
  d_law : ∃ fd, FunD C.K "law" "law" (defArgs s_law) (defBody s_law) (defScope s_law) [] [] (He.ga C.K "law") fd
  g_law : C.mg "law" = some (.ref (He.ga C.K "law"))
  b_abs : C.mg "abs" = none
  b_all : C.mg "all" = none
  b_bool : C.mg "bool" = none
  b_enumerate : C.mg "enumerate" = none
  b_int : C.mg "int" = none
  b_isinstance : C.mg "isinstance" = none
  b_len : C.mg "len" = none
  b_list : C.mg "list" = none
  b_range : C.mg "range" = none
  b_str : C.mg "str" = none
  b_tuple : C.mg "tuple" = none
  b_zip : C.mg "zip" = none
  i_MOST_BASE : ∃ t, C.mg "MOST_BASE" = some (.int 1000 t)
  i_MOST_BOTTOM : ∃ t, C.mg "MOST_BOTTOM" = some (.int 100 t)
  i_MOST_LANES : ∃ t, C.mg "MOST_LANES" = some (.int 8 t)
  i_MOST_PART : ∃ t, C.mg "MOST_PART" = some (.int 100 t)
  i_MOST_SLOPE : ∃ t, C.mg "MOST_SLOPE" = some (.int 100 t)
  i_MOST_TOP : ∃ t, C.mg "MOST_TOP" = some (.int 1000 t)
  m_gcd : C.mg "gcd" = some (.builtin "math.gcd")
theorem Tp.wob {C : Cs} {base : Heap} (T : Tp C base) (o : Ob) : Tp (C.wob o) base := ⟨T.d_law_taken, T.g_law_taken, T.d_law_pick, T.g_law_pick, T.d_law_ratio, T.g_law_ratio, T.d_law_demand, T.g_law_demand, T.d_law_lanes, T.g_law_lanes, T.d_is_in, T.g_is_in, T.d_is_lane, T.g_is_lane, T.d_is_ratio, T.g_is_ratio, T.t_is_ratio, T.p_is_ratio, T.d_need_demand, T.g_need_demand, T.d_need_lanes, T.g_need_lanes, T.d_need_share, T.g_need_share, T.d_with_ratios, T.g_with_ratios, T.d_steep, T.g_steep, T.d_ratio, T.g_ratio, T.d_minus, T.g_minus, T.d_less, T.g_less, T.d_plus, T.g_plus, T.d_over, T.g_over, T.d_taken_at, T.g_taken_at, T.d_flows_at, T.g_flows_at, T.d_sorted_ratios, T.g_sorted_ratios, T.d_sum_of, T.g_sum_of, T.d_level_of, T.g_level_of, T.d_best_flows, T.g_best_flows, T.d_by, T.g_by, T.d_lane_time, T.g_lane_time, T.d_falling, T.g_falling, T.d_led_of, T.g_led_of, T.d_left_lanes, T.g_left_lanes, T.d_others_of, T.g_others_of, T.d_total_of, T.g_total_of, T.d_leader_plan, T.g_leader_plan, T.d_law_is_ratio, T.g_law_is_ratio, T.d_law_plus, T.g_law_plus, T.d_law_sum, T.g_law_sum, T.d_law_by, T.g_law_by, T.d_law_time, T.g_law_time, T.d_law_less, T.g_law_less, T.d_law_lane_rests, T.g_law_lane_rests, T.d_law_led, T.g_law_led, T.d_law_whole, T.g_law_whole, T.d_law_is_plan, T.g_law_is_plan, T.d_law_alike, T.g_law_alike, T.d_are_flows, T.g_are_flows, T.t_are_flows, T.p_are_flows, T.d_do_rest, T.g_do_rest, T.d_rests_behind, T.g_rests_behind, T.d_shows_plan, T.g_shows_plan, T.t_shows_plan, T.p_shows_plan, T.d_law, T.g_law, T.b_abs, T.b_all, T.b_bool, T.b_enumerate, T.b_int, T.b_isinstance, T.b_len, T.b_list, T.b_range, T.b_str, T.b_tuple, T.b_zip, T.i_MOST_BASE, T.i_MOST_BOTTOM, T.i_MOST_LANES, T.i_MOST_PART, T.i_MOST_SLOPE, T.i_MOST_TOP, T.m_gcd⟩

theorem n_law_taken {P : Program} {w : World} {C : Cs} {base : Heap} (T : Tp C base) : Dn P w C base "_law_taken" 2 1 (f_law_taken C) := by
  obtain ⟨fd, F⟩ := T.d_law_taken
  have gi := T.b_int
  have gl := T.b_len
  exact Dn.taken F sc_law_taken T.g_law_taken (fun _ _ _ _ _ _ us hl => match us, hl with | [_, _], _ => rfl) fun cdv A outer s H E =>
    (pss_cons (ps_if (pt_cmpR op_gt (pe_ix ix_seq (pv 0) pe_int (fun _ _ => rfl)) pe_int (nomark _)) (pss_cons (ps_set (i := 2) sc_law_taken.nd rfl (.inl rfl) (pe_op op_mod (pe_callTy call_int1 rfl gi (by decide +kernel) (pa_cons (pe_ix ix_seq (pv 0) pe_int (fun _ _ => rfl)) pa_nil)) (pv 1))) (pss_cons (ps_asg (pe_op op_fdivW (pe_ix ix_seq (pv 0) pe_int (fun _ _ => rfl)) (pv 1)) (pg_sub (pv 0) pe_int set_list)) (pss_one (ps_ret (pv 2))))) pss_nil)
    (pss_cons (ps_asg (pe_op op_add (pe_ix ix_seq (pv 0) pe_int (fun _ _ => rfl)) pe_int) (pg_sub (pv 0) pe_int set_list))
    (pss_cons (ps_if (pt_cmpR op_gt (pe_ix ix_seq (pv 0) pe_int (fun _ _ => rfl)) (pe_callB call_len rfl gl boot_len (pa_cons (pe_ix ix_seq (pv 0) pe_int (fun _ _ => rfl)) pa_nil)) (nomark _)) (pss_cons (ps_asg (pe_op op_mod (pe_callTy call_int1 rfl gi (by decide +kernel) (pa_cons (pe_op op_add (pe_op op_mulW (pe_ix ix_seq (pv 0) pe_int (fun _ _ => rfl)) pe_int) pe_int) pa_nil)) pe_int) (pg_sub (pv 0) pe_int set_list)) (pss_one (ps_ret (pe_op op_mod (pe_callTy call_int1 rfl gi (by decide +kernel) (pa_cons (pe_op op_fdivW (pe_ix ix_seq (pv 0) pe_int (fun _ _ => rfl)) pe_int) pa_nil)) (pv 1))))) pss_nil)
    (pss_cons (ps_set (i := 3) sc_law_taken.nd rfl (.inl rfl) (pe_ix ix_seq (pe_ix ix_seq (pv 0) pe_int (fun _ _ => rfl)) (pe_op op_sub (pe_ix ix_seq (pv 0) pe_int (fun _ _ => rfl)) pe_int) (fun _ _ => rfl)))
    (pss_cons (ps_asg (pe_op op_mod (pe_callTy call_int1 rfl gi (by decide +kernel) (pa_cons (pe_op op_add (pe_op op_add (pe_op op_mulW (pe_ix ix_seq (pv 0) pe_int (fun _ _ => rfl)) pe_int) (pv 3)) pe_int) pa_nil)) pe_int) (pg_sub (pv 0) pe_int set_list))
    (pss_cons (ps_if (pt_cmpR op_ge (pv 3) (pe_op op_pow pe_int pe_int) (nomark _)) (pss_one (ps_asg (pe_op op_fdivW (pv 3) (pv 1)) (pg_sub (pv 0) pe_int set_list))) pss_nil)
    (pss_one (ps_ret (pe_op op_mod (pe_callTy call_int1 rfl gi (by decide +kernel) (pa_cons (pv 3) pa_nil)) (pv 1))))))))))

theorem n_law_pick {P : Program} {w : World} {C : Cs} {base : Heap} (T : Tp C base) : Dn P w C base "_law_pick" 2 2 (f_law_pick C) := by
  obtain ⟨fd, F⟩ := T.d_law_pick
  exact Dn.mk' F sc_law_pick T.g_law_pick rfl (fun _ _ _ _ _ _ us hl => match us, hl with | [_, _], _ => rfl) fun A outer s H E hr =>
    (dss_one (ds_ret (de_ix rfl (de_v (i := 1) rfl (.inl rfl)) (de_callN rfl rfl takesN (n_law_taken T) hr (by decide) rfl (da_trk (i := 0) rfl (.inl rfl) (da_cons (de_callB call_len on_len rfl T.b_len boot_len (da_cons (de_v (i := 1) rfl (.inl rfl)) da_nil)) da_nil))) (fun _ _ => rfl))))

theorem n_law_ratio {P : Program} {w : World} {C : Cs} {base : Heap} (T : Tp C base) : Dn P w C base "_law_ratio" 2 2 (f_law_ratio) := by
  obtain ⟨fd, F⟩ := T.d_law_ratio
  exact Dn.mk' F sc_law_ratio T.g_law_ratio rfl (fun _ _ _ _ _ _ us hl => match us, hl with | [_, _], _ => rfl) fun A outer s H E hr =>
    (dss_cons (ds_par (i := 2) (j := 3) rfl sc_law_ratio.nd rfl rfl (by decide) rfl rfl (by exact (da_cons (de_callB call_abs on_abs rfl T.b_abs (by decide +kernel) (da_cons (de_v (i := 0) rfl (.inl rfl)) da_nil)) (da_cons (de_callB call_abs on_abs rfl T.b_abs (by decide +kernel) (da_cons (de_v (i := 1) rfl (.inl rfl)) da_nil)) da_nil))) rfl) (dss_cons (ds_while ownsN (dt_ne rfl hr (de_v (i := 3) rfl (.inl rfl)) de_int) (dss_one (ds_par (i := 2) (j := 3) rfl sc_law_ratio.nd rfl rfl (by decide) rfl rfl (by exact (da_cons (de_v (i := 3) rfl (.inl rfl)) (da_cons (de_mod (de_callTy (call_int1.or call_int_str) on_int rfl T.b_int (by decide +kernel) (da_cons (de_v (i := 2) rfl (.inl rfl)) da_nil)) (de_v (i := 3) rfl (.inl rfl))) da_nil))) rfl))) (dss_one (ds_ret (de_if (dt_gt (de_v (i := 1) rfl (.inl rfl)) de_int) (de_tup (da_cons (de_fdv (de_v (i := 0) rfl (.inl rfl)) (de_v (i := 2) rfl (.inl rfl))) (da_cons (de_fdv (de_v (i := 1) rfl (.inl rfl)) (de_v (i := 2) rfl (.inl rfl))) da_nil))) (de_tup (da_cons (de_sub de_int (de_fdv (de_v (i := 0) rfl (.inl rfl)) (de_v (i := 2) rfl (.inl rfl)))) (da_cons (de_sub de_int (de_fdv (de_v (i := 1) rfl (.inl rfl)) (de_v (i := 2) rfl (.inl rfl)))) da_nil))))))))

theorem n_law_demand {P : Program} {w : World} {C : Cs} {base : Heap} (T : Tp C base) : Dn P w C base "_law_demand" 1 3 (f_law_demand C) := by
  obtain ⟨fd, F⟩ := T.d_law_demand
  exact Dn.mk' F sc_law_demand T.g_law_demand rfl (fun _ _ _ _ _ _ us hl => match us, hl with | [_], _ => rfl) fun A outer s H E hr =>
    (dss_one (ds_ret (de_callN rfl rfl takesN (n_law_pick T) hr (by decide) rfl (da_trk (i := 0) rfl (.inl rfl) (da_cons (de_lst (da_cons (de_tup (da_cons de_int (da_cons de_int da_nil))) (da_cons (de_tup (da_cons de_int (da_cons de_int da_nil))) (da_cons (de_tup (da_cons de_int (da_cons de_int da_nil))) (da_cons (de_tup (da_cons de_int (da_cons de_int da_nil))) (da_cons (de_tup (da_cons de_int (da_cons de_int da_nil))) (da_cons (de_callN rfl rfl takesN (n_law_ratio T) hr (by decide) rfl (da_cons (de_add rfl de_int (de_callN rfl rfl takesN (n_law_taken T) hr (by decide) rfl (da_trk (i := 0) rfl (.inl rfl) (da_cons de_int da_nil)))) (da_cons (de_add rfl de_int (de_callN rfl rfl takesN (n_law_taken T) hr (by decide) rfl (da_trk (i := 0) rfl (.inl rfl) (da_cons de_int da_nil)))) da_nil))) da_nil))))))) da_nil)))))

theorem n_law_lanes {P : Program} {w : World} {C : Cs} {base : Heap} (T : Tp C base) : Dn P w C base "_law_lanes" 1 3 (f_law_lanes C) := by
  obtain ⟨fd, F⟩ := T.d_law_lanes
  exact Dn.mk' F sc_law_lanes T.g_law_lanes rfl (fun _ _ _ _ _ _ us hl => match us, hl with | [_], _ => rfl) fun A outer s H E hr =>
    (dss_one (ds_ret (de_callTy call_tuple_of on_tuple rfl T.b_tuple (by decide +kernel) (da_cons (de_dn (dn_lc (own := [("_law_k", 1)]) (ix := [1]) rfl sc_law_lanes.nd (di_range1 rfl T.b_range (de_add rfl de_int (de_callN rfl rfl takesN (n_law_taken T) hr (by decide) rfl (da_trk (i := 0) rfl (.inr (.inl rfl)) (da_cons de_int da_nil))))) (blkOk_by (by kernel_rfl)) (by decide +kernel) (fun _ _ _ _ _ => (dg_name (i := 1) sc_law_lanes.nd rfl (.inl rfl))) (fun _ _ _ _ _ => dts_nil) (fun _ _ _ _ _ => (de_tup (da_cons (de_callN rfl rfl takes0 (n_law_pick T) hr (by decide) rfl (da_trk (i := 0) rfl (.inr (.inl rfl)) (da_cons (de_lst (da_cons de_int (da_cons de_int (da_cons de_int (da_cons de_int (da_cons de_int da_nil)))))) da_nil))) (da_cons (de_callN rfl rfl takes0 (n_law_pick T) hr (by decide) rfl (da_trk (i := 0) rfl (.inr (.inl rfl)) (da_cons (de_lst (da_cons de_int (da_cons de_int (da_cons de_int (da_cons de_int (da_cons (de_callN rfl rfl takes0 (n_law_taken T) hr (by decide) rfl (da_trk (i := 0) rfl (.inr (.inl rfl)) (da_cons de_int da_nil))) da_nil)))))) da_nil))) da_nil)))))) da_nil))))

theorem n_is_in {P : Program} {w : World} {C : Cs} {base : Heap} (T : Tp C base) : Dn P w C base "is_in" 3 2 (f_is_in) := by
  obtain ⟨fd, F⟩ := T.d_is_in
  exact Dn.mk' F sc_is_in T.g_is_in rfl (fun _ _ _ _ _ _ us hl => match us, hl with | [_, _, _], _ => rfl) fun A outer s H E hr =>
    (dss_one (ds_ret (de_and rfl (de_isi rfl rfl T.b_isinstance rfl T.b_int (by decide +kernel) (de_v (i := 0) rfl (.inl rfl))) (de_and rfl (de_not rfl (de_isi rfl rfl T.b_isinstance rfl T.b_bool (by decide +kernel) (de_v (i := 0) rfl (.inl rfl)))) (de_one (de_chain op_le (o2_0 fun _ _ _ => .bl _) op_le (o2_0 fun _ _ _ => .bl _) (de_v (i := 1) rfl (.inl rfl)) (de_v (i := 0) rfl (.inl rfl)) (de_v (i := 2) rfl (.inl rfl))))))))

theorem n_is_lane {P : Program} {w : World} {C : Cs} {base : Heap} (T : Tp C base) : Dn P w C base "is_lane" 1 3 (f_is_lane) := by
  obtain ⟨fd, F⟩ := T.d_is_lane
  exact Dn.mk' F sc_is_lane T.g_is_lane rfl (fun _ _ _ _ _ _ us hl => match us, hl with | [_], _ => rfl) fun A outer s H E hr =>
    (dss_cons (ds_if (dw_dt (dw_or (dt_not (dt_tru rfl (de_isi rfl rfl T.b_isinstance rfl T.b_tuple (by decide +kernel) (de_v (i := 0) rfl (.inl rfl))))) (dw_or1 (dt_ne rfl hr (de_callB call_len on_len rfl T.b_len boot_len (da_cons (de_v (i := 0) rfl (.inl rfl)) da_nil)) de_int)))) (dss_one (ds_ret de_bl)) dss_nil) (dss_one (ds_ret (de_and rfl (de_callN rfl rfl takesN (n_is_in T) hr (by decide) rfl (da_cons (de_ix rfl (de_v (i := 0) rfl (.inl rfl)) de_int (fun _ _ => rfl)) (da_cons de_int (da_cons (de_globI rfl T.i_MOST_SLOPE) da_nil)))) (de_one (de_callN rfl rfl takesN (n_is_in T) hr (by decide) rfl (da_cons (de_ix rfl (de_v (i := 0) rfl (.inl rfl)) de_int (fun _ _ => rfl)) (da_cons de_int (da_cons (de_globI rfl T.i_MOST_BASE) da_nil)))))))))

theorem n_is_ratio {P : Program} {w : World} {C : Cs} {base : Heap} (T : Tp C base) : Dn P w C base "is_ratio" 1 3 (f_is_ratio) := by
  obtain ⟨fd, F⟩ := T.d_is_ratio
  exact Dn.mk' F sc_is_ratio T.g_is_ratio rfl (fun _ _ _ _ _ _ us hl => match us, hl with | [_], _ => rfl) fun A outer s H E hr =>
    (dss_cons (ds_if (dw_dt (dw_or (dt_not (dt_tru rfl (de_isi rfl rfl T.b_isinstance rfl T.b_tuple (by decide +kernel) (de_v (i := 0) rfl (.inl rfl))))) (dw_or1 (dt_ne rfl hr (de_callB call_len on_len rfl T.b_len boot_len (da_cons (de_v (i := 0) rfl (.inl rfl)) da_nil)) de_int)))) (dss_one (ds_ret de_bl)) dss_nil) (dss_cons (ds_if (dt_not (dt_tru rfl (de_allG (own := [("one", 1)]) (ix := [1]) hr rfl T.b_all T.t_is_ratio T.p_is_ratio rfl ⟨blkOk_by (by kernel_rfl), rfl, by decide +kernel, rfl⟩ (by decide +kernel) sc_is_ratio.nd (di_seq rfl (de_v (i := 0) rfl (.inl rfl))) (fun _ _ _ _ _ _ => (dg_name (i := 1) sc_is_ratio.nd rfl (.inl rfl))) (fun _ _ _ _ _ _ => dts_nil) (fun _ _ _ _ _ _ => (de_and rfl (de_isi rfl rfl T.b_isinstance rfl T.b_int (by decide +kernel) (de_v (i := 1) rfl (.inl rfl))) (de_one (de_not rfl (de_isi rfl rfl T.b_isinstance rfl T.b_bool (by decide +kernel) (de_v (i := 1) rfl (.inl rfl)))))))))) (dss_one (ds_ret de_bl)) dss_nil) (dss_one (ds_ret (de_and rfl (de_gt (de_ix rfl (de_v (i := 0) rfl (.inl rfl)) de_int (fun _ _ => rfl)) de_int) (de_one (de_eq rfl hr (de_callF cr_gcd on_gcd rfl T.m_gcd (da_cons (de_ix rfl (de_v (i := 0) rfl (.inl rfl)) de_int (fun _ _ => rfl)) (da_cons (de_ix rfl (de_v (i := 0) rfl (.inl rfl)) de_int (fun _ _ => rfl)) da_nil))) de_int)))))))

theorem n_need_demand {P : Program} {w : World} {C : Cs} {base : Heap} (T : Tp C base) : Dn P w C base "need_demand" 1 4 (f_need_demand) := by
  obtain ⟨fd, F⟩ := T.d_need_demand
  exact Dn.mk' F sc_need_demand T.g_need_demand rfl (fun _ _ _ _ _ _ us hl => match us, hl with | [_], _ => rfl) fun A outer s H E hr =>
    (dss_one (ds_if (dw_dt (dw_or (dt_not (dt_tru rfl (de_callN rfl rfl takesN (n_is_ratio T) hr (by decide) rfl (da_cons (de_v (i := 0) rfl (.inl rfl)) da_nil)))) (dw_or (dt_not (dt_chain op_le (o2_0 fun _ _ _ => .bl _) op_le (o2_0 fun _ _ _ => .bl _) de_int (de_ix rfl (de_v (i := 0) rfl (.inl rfl)) de_int (fun _ _ => rfl)) (de_globI rfl T.i_MOST_TOP))) (dw_or1 (dt_gt (de_ix rfl (de_v (i := 0) rfl (.inl rfl)) de_int (fun _ _ => rfl)) (de_globI rfl T.i_MOST_BOTTOM)))))) (dss_one ds_never) dss_nil))

theorem n_need_lanes {P : Program} {w : World} {C : Cs} {base : Heap} (T : Tp C base) : Dn P w C base "need_lanes" 2 5 (f_need_lanes) := by
  obtain ⟨fd, F⟩ := T.d_need_lanes
  exact Dn.mk' F sc_need_lanes T.g_need_lanes rfl (fun _ _ _ _ _ _ us hl => match us, hl with | [_, _], _ => rfl) fun A outer s H E hr =>
    (dss_cons (ds_if (dw_dt (dw_or (dt_not (dt_tru rfl (de_isi rfl rfl T.b_isinstance rfl T.b_tuple (by decide +kernel) (de_v (i := 0) rfl (.inl rfl))))) (dw_or1 (dt_not (dt_chain op_le (o2_0 fun _ _ _ => .bl _) op_le (o2_0 fun _ _ _ => .bl _) de_int (de_callB call_len on_len rfl T.b_len boot_len (da_cons (de_v (i := 0) rfl (.inl rfl)) da_nil)) (de_globI rfl T.i_MOST_LANES)))))) (dss_one ds_never) dss_nil) (dss_cons (ds_for ownsN rfl (di_enum rfl rfl T.b_enumerate (de_v (i := 0) rfl (.inl rfl))) (dg_tup rfl rfl (dgs_cons (dg_name (i := 2) sc_need_lanes.nd rfl (.inl rfl)) (dgs_cons (dg_name (i := 3) sc_need_lanes.nd rfl (.inl rfl)) dgs_nil))) (dss_one (ds_if (dt_not (dt_tru rfl (de_callN rfl rfl takesN (n_is_lane T) hr (by decide) rfl (da_cons (de_v (i := 3) rfl (.inl rfl)) da_nil)))) (dss_one ds_never) dss_nil))) (dss_one (ds_expr (de_callN rfl rfl takesN (n_need_demand T) hr (by decide) rfl (da_cons (de_v (i := 1) rfl (.inl rfl)) da_nil))))))

theorem n_need_share {P : Program} {w : World} {C : Cs} {base : Heap} (T : Tp C base) : Dn P w C base "need_share" 3 6 (f_need_share) := by
  obtain ⟨fd, F⟩ := T.d_need_share
  exact Dn.mk' F sc_need_share T.g_need_share rfl (fun _ _ _ _ _ _ us hl => match us, hl with | [_, _, _], _ => rfl) fun A outer s H E hr =>
    (dss_cons (ds_expr (de_callN rfl rfl takesN (n_need_lanes T) hr (by decide) rfl (da_cons (de_v (i := 0) rfl (.inl rfl)) (da_cons (de_v (i := 1) rfl (.inl rfl)) da_nil)))) (dss_one (ds_if (dw_dt (dw_or (dt_not (dt_tru rfl (de_callN rfl rfl takesN (n_is_ratio T) hr (by decide) rfl (da_cons (de_v (i := 2) rfl (.inl rfl)) da_nil)))) (dw_or1 (dt_not (dt_chain3 op_le (o2_0 fun _ _ _ => .bl _) op_le (o2_0 fun _ _ _ => .bl _) op_le (o2_0 fun _ _ _ => .bl _) de_int (de_ix rfl (de_v (i := 2) rfl (.inl rfl)) de_int (fun _ _ => rfl)) (de_ix rfl (de_v (i := 2) rfl (.inl rfl)) de_int (fun _ _ => rfl)) (de_globI rfl T.i_MOST_PART)))))) (dss_one ds_never) dss_nil)))

theorem n_with_ratios {P : Program} {w : World} {C : Cs} {base : Heap} (T : Tp C base) : Dn P w C base "with_ratios" 1 2 (f_with_ratios) := by
  obtain ⟨fd, F⟩ := T.d_with_ratios
  exact Dn.mk' F sc_with_ratios T.g_with_ratios rfl (fun _ _ _ _ _ _ us hl => match us, hl with | [_], _ => rfl) fun A outer s H E hr =>
    (dss_one (ds_ret (de_dn (dn_lc (own := [("slope", 1), ("base", 2)]) (ix := [1, 2]) rfl sc_with_ratios.nd (di_seq rfl (de_v (i := 0) rfl (.inl rfl))) (blkOk_by (by kernel_rfl)) (by decide +kernel) (fun _ _ _ _ _ => (dg_tup rfl rfl (dgs_cons (dg_name (i := 1) sc_with_ratios.nd rfl (.inl rfl)) (dgs_cons (dg_name (i := 2) sc_with_ratios.nd rfl (.inl rfl)) dgs_nil)))) (fun _ _ _ _ _ => dts_nil) (fun _ _ _ _ _ => (de_tup (da_cons (de_v (i := 1) rfl (.inl rfl)) (da_cons (de_tup (da_cons (de_v (i := 2) rfl (.inl rfl)) (da_cons de_int da_nil))) da_nil))))))))

theorem n_steep {P : Program} {w : World} {C : Cs} {base : Heap} (T : Tp C base) : Dn P w C base "steep" 1 3 (f_steep) := by
  obtain ⟨fd, F⟩ := T.d_steep
  exact Dn.mk' F sc_steep T.g_steep rfl (fun _ _ _ _ _ _ us hl => match us, hl with | [_], _ => rfl) fun A outer s H E hr =>
    (dss_one (ds_ret (de_dn (dn_lc (own := [("slope", 1), ("base", 2)]) (ix := [1, 2]) rfl sc_steep.nd (di_seq rfl (de_callN rfl rfl takesN (n_with_ratios T) hr (by decide) rfl (da_cons (de_v (i := 0) rfl (.inl rfl)) da_nil))) (blkOk_by (by kernel_rfl)) (by decide +kernel) (fun _ _ _ _ _ => (dg_tup rfl rfl (dgs_cons (dg_name (i := 1) sc_steep.nd rfl (.inl rfl)) (dgs_cons (dg_name (i := 2) sc_steep.nd rfl (.inl rfl)) dgs_nil)))) (fun _ _ _ _ _ => dts_nil) (fun _ _ _ _ _ => (de_tup (da_cons (de_mul de_int (de_v (i := 1) rfl (.inl rfl))) (da_cons (de_v (i := 2) rfl (.inl rfl)) da_nil))))))))

theorem n_ratio {P : Program} {w : World} {C : Cs} {base : Heap} (T : Tp C base) : Dn P w C base "ratio" 2 2 (f_ratio) := by
  obtain ⟨fd, F⟩ := T.d_ratio
  exact Dn.mk' F sc_ratio T.g_ratio rfl (fun _ _ _ _ _ _ us hl => match us, hl with | [_, _], _ => rfl) fun A outer s H E hr =>
    (dss_cons (ds_set (i := 2) sc_ratio.nd rfl (.inl rfl) (de_if (dt_gt (de_v (i := 1) rfl (.inl rfl)) de_int) (de_callF cr_gcd on_gcd rfl T.m_gcd (da_cons (de_v (i := 0) rfl (.inl rfl)) (da_cons (de_v (i := 1) rfl (.inl rfl)) da_nil))) (de_sub de_int (de_callF cr_gcd on_gcd rfl T.m_gcd (da_cons (de_v (i := 0) rfl (.inl rfl)) (da_cons (de_v (i := 1) rfl (.inl rfl)) da_nil)))))) (dss_one (ds_ret (de_tup (da_cons (de_fdvN (de_v (i := 0) rfl (.inl rfl)) (de_v (i := 2) rfl (.inl rfl))) (da_cons (de_fdvN (de_v (i := 1) rfl (.inl rfl)) (de_v (i := 2) rfl (.inl rfl))) da_nil))))))

theorem n_minus {P : Program} {w : World} {C : Cs} {base : Heap} (T : Tp C base) : Dn P w C base "minus" 2 3 (f_minus) := by
  obtain ⟨fd, F⟩ := T.d_minus
  exact Dn.mk' F sc_minus T.g_minus rfl (fun _ _ _ _ _ _ us hl => match us, hl with | [_, _], _ => rfl) fun A outer s H E hr =>
    (dss_one (ds_ret (de_callN rfl rfl takesN (n_ratio T) hr (by decide) rfl (da_cons (de_sub (de_mul (de_ix rfl (de_v (i := 0) rfl (.inl rfl)) de_int (fun _ _ => rfl)) (de_ix rfl (de_v (i := 1) rfl (.inl rfl)) de_int (fun _ _ => rfl))) (de_mul (de_ix rfl (de_v (i := 1) rfl (.inl rfl)) de_int (fun _ _ => rfl)) (de_ix rfl (de_v (i := 0) rfl (.inl rfl)) de_int (fun _ _ => rfl)))) (da_cons (de_mul (de_ix rfl (de_v (i := 0) rfl (.inl rfl)) de_int (fun _ _ => rfl)) (de_ix rfl (de_v (i := 1) rfl (.inl rfl)) de_int (fun _ _ => rfl))) da_nil)))))

theorem n_less {P : Program} {w : World} {C : Cs} {base : Heap} (T : Tp C base) : Dn P w C base "less" 2 2 (f_less) := by
  obtain ⟨fd, F⟩ := T.d_less
  exact Dn.mk' F sc_less T.g_less rfl (fun _ _ _ _ _ _ us hl => match us, hl with | [_, _], _ => rfl) fun A outer s H E hr =>
    (dss_one (ds_ret (de_lt (de_mul (de_ix rfl (de_v (i := 0) rfl (.inl rfl)) de_int (fun _ _ => rfl)) (de_ix rfl (de_v (i := 1) rfl (.inl rfl)) de_int (fun _ _ => rfl))) (de_mul (de_ix rfl (de_v (i := 1) rfl (.inl rfl)) de_int (fun _ _ => rfl)) (de_ix rfl (de_v (i := 0) rfl (.inl rfl)) de_int (fun _ _ => rfl))))))

theorem n_plus {P : Program} {w : World} {C : Cs} {base : Heap} (T : Tp C base) : Dn P w C base "plus" 2 3 (f_plus) := by
  obtain ⟨fd, F⟩ := T.d_plus
  exact Dn.mk' F sc_plus T.g_plus rfl (fun _ _ _ _ _ _ us hl => match us, hl with | [_, _], _ => rfl) fun A outer s H E hr =>
    (dss_one (ds_ret (de_callN rfl rfl takesN (n_ratio T) hr (by decide) rfl (da_cons (de_add rfl (de_mul (de_ix rfl (de_v (i := 0) rfl (.inl rfl)) de_int (fun _ _ => rfl)) (de_ix rfl (de_v (i := 1) rfl (.inl rfl)) de_int (fun _ _ => rfl))) (de_mul (de_ix rfl (de_v (i := 1) rfl (.inl rfl)) de_int (fun _ _ => rfl)) (de_ix rfl (de_v (i := 0) rfl (.inl rfl)) de_int (fun _ _ => rfl)))) (da_cons (de_mul (de_ix rfl (de_v (i := 0) rfl (.inl rfl)) de_int (fun _ _ => rfl)) (de_ix rfl (de_v (i := 1) rfl (.inl rfl)) de_int (fun _ _ => rfl))) da_nil)))))

theorem n_over {P : Program} {w : World} {C : Cs} {base : Heap} (T : Tp C base) : Dn P w C base "over" 2 3 (f_over) := by
  obtain ⟨fd, F⟩ := T.d_over
  exact Dn.mk' F sc_over T.g_over rfl (fun _ _ _ _ _ _ us hl => match us, hl with | [_, _], _ => rfl) fun A outer s H E hr =>
    (dss_one (ds_ret (de_callN rfl rfl takesN (n_ratio T) hr (by decide) rfl (da_cons (de_mul (de_ix rfl (de_v (i := 0) rfl (.inl rfl)) de_int (fun _ _ => rfl)) (de_ix rfl (de_v (i := 1) rfl (.inl rfl)) de_int (fun _ _ => rfl))) (da_cons (de_mul (de_ix rfl (de_v (i := 0) rfl (.inl rfl)) de_int (fun _ _ => rfl)) (de_ix rfl (de_v (i := 1) rfl (.inl rfl)) de_int (fun _ _ => rfl))) da_nil)))))

theorem n_taken_at {P : Program} {w : World} {C : Cs} {base : Heap} (T : Tp C base) : Dn P w C base "taken_at" 2 4 (f_taken_at) := by
  obtain ⟨fd, F⟩ := T.d_taken_at
  exact Dn.mk' F sc_taken_at T.g_taken_at rfl (fun _ _ _ _ _ _ us hl => match us, hl with | [_, _], _ => rfl) fun A outer s H E hr =>
    (dss_cons (ds_set (i := 2) sc_taken_at.nd rfl (.inl rfl) (de_tup (da_cons de_int (da_cons de_int da_nil)))) (dss_cons (ds_for ownsN rfl (di_seq rfl (de_v (i := 0) rfl (.inl rfl))) (dg_tup rfl rfl (dgs_cons (dg_name (i := 3) sc_taken_at.nd rfl (.inl rfl)) (dgs_cons (dg_name (i := 4) sc_taken_at.nd rfl (.inl rfl)) dgs_nil))) (dss_one (ds_if (dw_dt (dw_and (dt_gt (de_v (i := 3) rfl (.inl rfl)) de_int) (dw_and1 (dt_tru rfl (de_callN rfl rfl takesN (n_less T) hr (by decide) rfl (da_cons (de_v (i := 4) rfl (.inl rfl)) (da_cons (de_v (i := 1) rfl (.inl rfl)) da_nil))))))) (dss_one (ds_set (i := 2) sc_taken_at.nd rfl (.inl rfl) (de_callN rfl rfl takesN (n_plus T) hr (by decide) rfl (da_cons (de_v (i := 2) rfl (.inl rfl)) (da_cons (de_callN rfl rfl takesN (n_over T) hr (by decide) rfl (da_cons (de_callN rfl rfl takesN (n_minus T) hr (by decide) rfl (da_cons (de_v (i := 1) rfl (.inl rfl)) (da_cons (de_v (i := 4) rfl (.inl rfl)) da_nil))) (da_cons (de_tup (da_cons (de_v (i := 3) rfl (.inl rfl)) (da_cons de_int da_nil))) da_nil))) da_nil))))) dss_nil))) (dss_one (ds_ret (de_v (i := 2) rfl (.inl rfl))))))

theorem n_flows_at {P : Program} {w : World} {C : Cs} {base : Heap} (T : Tp C base) : Dn P w C base "flows_at" 3 5 (f_flows_at) := by
  obtain ⟨fd, F⟩ := T.d_flows_at
  exact Dn.mk' F sc_flows_at T.g_flows_at rfl (fun _ _ _ _ _ _ us hl => match us, hl with | [_, _, _], _ => rfl) fun A outer s H E hr =>
    (dss_cons (ds_parOD (i := 3) (j := 4) rfl sc_flows_at.nd rfl rfl (by decide) rfl rfl (by exact (dn_lst da_nil)) (by exact (de_callN rfl rfl takesN (n_minus T) hr (by decide) rfl (da_cons (de_v (i := 1) rfl (.inl rfl)) (da_cons (de_callN rfl rfl takesN (n_taken_at T) hr (by decide) rfl (da_cons (de_v (i := 0) rfl (.inl rfl)) (da_cons (de_v (i := 2) rfl (.inl rfl)) da_nil))) da_nil)))) rfl) (dss_cons (ds_for ownsN rfl (di_seq rfl (de_v (i := 0) rfl (.inl rfl))) (dg_tup rfl rfl (dgs_cons (dg_name (i := 5) sc_flows_at.nd rfl (.inl rfl)) (dgs_cons (dg_name (i := 6) sc_flows_at.nd rfl (.inl rfl)) dgs_nil))) (dss_one (ds_if (dt_gt (de_v (i := 5) rfl (.inl rfl)) de_int) (dss_one (ds_app (i := 3) rfl (.inl rfl) (de_if (dt_tru rfl (de_callN rfl rfl takesN (n_less T) hr (by decide) rfl (da_cons (de_v (i := 6) rfl (.inl rfl)) (da_cons (de_v (i := 2) rfl (.inl rfl)) da_nil)))) (de_callN rfl rfl takesN (n_over T) hr (by decide) rfl (da_cons (de_callN rfl rfl takesN (n_minus T) hr (by decide) rfl (da_cons (de_v (i := 2) rfl (.inl rfl)) (da_cons (de_v (i := 6) rfl (.inl rfl)) da_nil))) (da_cons (de_tup (da_cons (de_v (i := 5) rfl (.inl rfl)) (da_cons de_int da_nil))) da_nil))) (de_tup (da_cons de_int (da_cons de_int da_nil)))) (hp := fun t h => pe_bm PySem.F.plainAttrs_list PySem.F.slot_list_append PySem.F.type_list_append mt_append (pe_var (i := 3) rfl (.inl rfl)) h))) (dss_one (ds_if (dt_eq rfl hr (de_v (i := 6) rfl (.inl rfl)) (de_v (i := 2) rfl (.inl rfl))) (dss_cons (ds_app (i := 3) rfl (.inl rfl) (de_v (i := 4) rfl (.inl rfl)) (hp := fun t h => pe_bm PySem.F.plainAttrs_list PySem.F.slot_list_append PySem.F.type_list_append mt_append (pe_var (i := 3) rfl (.inl rfl)) h)) (dss_one (ds_set (i := 4) sc_flows_at.nd rfl (.inl rfl) (de_tup (da_cons de_int (da_cons de_int da_nil)))))) (dss_one (ds_app (i := 3) rfl (.inl rfl) (de_tup (da_cons de_int (da_cons de_int da_nil))) (hp := fun t h => pe_bm PySem.F.plainAttrs_list PySem.F.slot_list_append PySem.F.type_list_append mt_append (pe_var (i := 3) rfl (.inl rfl)) h)))))))) (dss_fz 3 (dss_one (ds_ret (de_v (i := 3) rfl (.inl rfl)))))))

theorem n_sorted_ratios {P : Program} {w : World} {C : Cs} {base : Heap} (T : Tp C base) : Dn P w C base "sorted_ratios" 1 3 (f_sorted_ratios) := by
  obtain ⟨fd, F⟩ := T.d_sorted_ratios
  exact Dn.mk' F sc_sorted_ratios T.g_sorted_ratios rfl (fun _ _ _ _ _ _ us hl => match us, hl with | [_], _ => rfl) fun A outer s H E hr =>
    (dss_cons (ds_set (i := 1) sc_sorted_ratios.nd rfl (.inl rfl) (de_lst da_nil)) (dss_cons (ds_for ownsN rfl (di_seq rfl (de_v (i := 0) rfl (.inl rfl))) (dg_name (i := 2) sc_sorted_ratios.nd rfl (.inr rfl)) (dss_cons (ds_set (i := 3) sc_sorted_ratios.nd rfl (.inl rfl) (de_callB call_len on_len rfl T.b_len boot_len (da_cons (de_dn (dn_lc (own := [("other", 4)]) (ix := [4]) rfl sc_sorted_ratios.nd (di_seq rfl (de_v (i := 1) rfl (.inl rfl))) (blkOk_by (by kernel_rfl)) (by decide +kernel) (fun _ _ _ _ _ => (dg_name (i := 4) sc_sorted_ratios.nd rfl (.inl rfl))) (fun _ _ _ _ _ => (dts_one (dt_not (dt_tru rfl (de_callN rfl rfl takes0 (n_less T) hr (by decide) rfl (da_cons (de_v (i := 2) rfl (.inr (.inl rfl))) (da_cons (de_v (i := 4) rfl (.inl rfl)) da_nil))))))) (fun _ _ _ _ _ => (de_v (i := 4) rfl (.inl rfl))))) da_nil))) (dss_one (ds_set (i := 1) sc_sorted_ratios.nd rfl (.inl rfl) (de_lst (da_star rfl (de_slice rfl (de_v (i := 1) rfl (.inl rfl)) do_none (do_some (de_v (i := 3) rfl (.inl rfl)))) (da_cons (de_v (i := 2) rfl (.inr (.inl rfl))) (da_star rfl (de_slice rfl (de_v (i := 1) rfl (.inl rfl)) (do_some (de_v (i := 3) rfl (.inl rfl))) do_none) da_nil)))))))) (dss_one (ds_ret (de_v (i := 1) rfl (.inl rfl))))))

theorem n_sum_of {P : Program} {w : World} {C : Cs} {base : Heap} (T : Tp C base) : Dn P w C base "sum_of" 1 4 (f_sum_of) := by
  obtain ⟨fd, F⟩ := T.d_sum_of
  exact Dn.mk' F sc_sum_of T.g_sum_of rfl (fun _ _ _ _ _ _ us hl => match us, hl with | [_], _ => rfl) fun A outer s H E hr =>
    (dss_cons (ds_set (i := 1) sc_sum_of.nd rfl (.inl rfl) (de_tup (da_cons de_int (da_cons de_int da_nil)))) (dss_cons (ds_for ownsN rfl (di_seq rfl (de_v (i := 0) rfl (.inl rfl))) (dg_name (i := 2) sc_sum_of.nd rfl (.inl rfl)) (dss_one (ds_set (i := 1) sc_sum_of.nd rfl (.inl rfl) (de_callN rfl rfl takesN (n_plus T) hr (by decide) rfl (da_cons (de_v (i := 1) rfl (.inl rfl)) (da_cons (de_v (i := 2) rfl (.inl rfl)) da_nil)))))) (dss_one (ds_ret (de_v (i := 1) rfl (.inl rfl))))))

theorem n_level_of {P : Program} {w : World} {C : Cs} {base : Heap} (T : Tp C base) : Dn P w C base "level_of" 2 5 (f_level_of) := by
  obtain ⟨fd, F⟩ := T.d_level_of
  exact Dn.mk' F sc_level_of T.g_level_of rfl (fun _ _ _ _ _ _ us hl => match us, hl with | [_, _], _ => rfl) fun A outer s H E hr =>
    (dss_cons (setLc (i := 2) (own := [("slope", 3), ("base", 4)]) (ix := [3, 4]) rfl sc_level_of.nd rfl rfl rfl (di_seq rfl (de_v (i := 0) rfl (.inl rfl))) (blkOk_by (by kernel_rfl)) (by decide +kernel) (fun _ _ _ _ _ => (dg_tup rfl rfl (dgs_cons (dg_name (i := 3) sc_level_of.nd rfl (.inl rfl)) (dgs_cons (dg_name (i := 4) sc_level_of.nd rfl (.inl rfl)) dgs_nil)))) (fun _ _ _ _ _ => (dts_one (dt_eq rfl hr (de_v (i := 3) rfl (.inl rfl)) de_int))) (fun _ _ _ _ _ => (de_v (i := 4) rfl (.inl rfl)))) (dss_fz 2 (dss_cons (ds_set (i := 5) sc_level_of.nd rfl (.inl rfl) (de_if (dt_tru rfl (de_v (i := 2) rfl (.inl rfl))) (de_ix rfl (de_callN rfl rfl takesN (n_sorted_ratios T) hr (by decide) rfl (da_cons (de_v (i := 2) rfl (.inl rfl)) da_nil)) de_int (fun _ _ => rfl)) de_non)) (dss_cons (ds_set (i := 6) sc_level_of.nd rfl (.inl rfl) (de_callN rfl rfl takesN (n_sorted_ratios T) hr (by decide) rfl (da_cons (de_dn (dn_lc (own := [("slope", 3), ("base", 4)]) (ix := [3, 4]) rfl sc_level_of.nd (di_seq rfl (de_v (i := 0) rfl (.inl rfl))) (blkOk_by (by kernel_rfl)) (by decide +kernel) (fun _ _ _ _ _ => (dg_tup rfl rfl (dgs_cons (dg_name (i := 3) sc_level_of.nd rfl (.inl rfl)) (dgs_cons (dg_name (i := 4) sc_level_of.nd rfl (.inl rfl)) dgs_nil)))) (fun _ _ _ _ _ => (dts_one (dt_gt (de_v (i := 3) rfl (.inl rfl)) de_int))) (fun _ _ _ _ _ => (de_v (i := 4) rfl (.inl rfl))))) da_nil))) (dss_cons (ds_for ownsN rfl (di_enum rfl rfl T.b_enumerate (de_v (i := 6) rfl (.inl rfl))) (dg_tup rfl rfl (dgs_cons (dg_name (i := 7) sc_level_of.nd rfl (.inl rfl)) (dgs_cons (dg_name (i := 4) sc_level_of.nd rfl (.inr rfl)) dgs_nil))) (dss_cons (ds_set (i := 8) sc_level_of.nd rfl (.inl rfl) (de_if (dt_lt (de_add rfl (de_v (i := 7) rfl (.inl rfl)) de_int) (de_callB call_len on_len rfl T.b_len boot_len (da_cons (de_v (i := 6) rfl (.inl rfl)) da_nil))) (de_ix rfl (de_v (i := 6) rfl (.inl rfl)) (de_add rfl (de_v (i := 7) rfl (.inl rfl)) de_int) (fun _ _ => rfl)) de_non)) (dss_one (ds_if (dw_dt (dw_or (dt_is (de_v (i := 8) rfl (.inl rfl)) de_non) (dw_or1 (dt_not (dt_tru rfl (de_callN rfl rfl takesN (n_less T) hr (by decide) rfl (da_cons (de_callN rfl rfl takesN (n_taken_at T) hr (by decide) rfl (da_cons (de_v (i := 0) rfl (.inl rfl)) (da_cons (de_v (i := 8) rfl (.inl rfl)) da_nil))) (da_cons (de_v (i := 1) rfl (.inl rfl)) da_nil)))))))) (dss_cons (ds_set (i := 9) sc_level_of.nd rfl (.inl rfl) (de_callN rfl rfl takesN (n_sum_of T) hr (by decide) rfl (da_cons (de_dn (dn_lc (own := [("slope", 3), ("one", 10)]) (ix := [3, 10]) rfl sc_level_of.nd (di_seq rfl (de_v (i := 0) rfl (.inl rfl))) (blkOk_by (by kernel_rfl)) (by decide +kernel) (fun _ _ _ _ _ => (dg_tup rfl rfl (dgs_cons (dg_name (i := 3) sc_level_of.nd rfl (.inl rfl)) (dgs_cons (dg_name (i := 10) sc_level_of.nd rfl (.inl rfl)) dgs_nil)))) (fun _ _ _ _ _ => (dts_one (dw_dt (dw_and (dt_gt (de_v (i := 3) rfl (.inl rfl)) de_int) (dw_and1 (dt_not (dt_tru rfl (de_callN rfl rfl takes0 (n_less T) hr (by decide) rfl (da_cons (de_v (i := 4) rfl (.inr (.inl rfl))) (da_cons (de_v (i := 10) rfl (.inl rfl)) da_nil)))))))))) (fun _ _ _ _ _ => (de_tup (da_cons de_int (da_cons (de_v (i := 3) rfl (.inl rfl)) da_nil)))))) da_nil))) (dss_cons (ds_set (i := 11) sc_level_of.nd rfl (.inl rfl) (de_callN rfl rfl takesN (n_plus T) hr (by decide) rfl (da_cons (de_v (i := 4) rfl (.inr (.inl rfl))) (da_cons (de_callN rfl rfl takesN (n_over T) hr (by decide) rfl (da_cons (de_callN rfl rfl takesN (n_minus T) hr (by decide) rfl (da_cons (de_v (i := 1) rfl (.inl rfl)) (da_cons (de_callN rfl rfl takesN (n_taken_at T) hr (by decide) rfl (da_cons (de_v (i := 0) rfl (.inl rfl)) (da_cons (de_v (i := 4) rfl (.inr (.inl rfl))) da_nil))) da_nil))) (da_cons (de_v (i := 9) rfl (.inl rfl)) da_nil))) da_nil)))) (dss_one (ds_ret (de_if (dw_dt (dw_or (dt_is (de_v (i := 5) rfl (.inl rfl)) de_non) (dw_or1 (dt_tru rfl (de_callN rfl rfl takesN (n_less T) hr (by decide) rfl (da_cons (de_v (i := 11) rfl (.inl rfl)) (da_cons (de_v (i := 5) rfl (.inl rfl)) da_nil))))))) (de_v (i := 11) rfl (.inl rfl)) (de_v (i := 5) rfl (.inl rfl))))))) dss_nil)))) (dss_one (ds_ret (de_v (i := 5) rfl (.inl rfl)))))))))

theorem n_best_flows {P : Program} {w : World} {C : Cs} {base : Heap} (T : Tp C base) : Dn P w C base "best_flows" 2 6 (f_best_flows) := by
  obtain ⟨fd, F⟩ := T.d_best_flows
  exact Dn.mk' F sc_best_flows T.g_best_flows rfl (fun _ _ _ _ _ _ us hl => match us, hl with | [_, _], _ => rfl) fun A outer s H E hr =>
    (dss_cons (ds_set (i := 2) sc_best_flows.nd rfl (.inl rfl) (de_callN rfl rfl takesN (n_steep T) hr (by decide) rfl (da_cons (de_v (i := 0) rfl (.inl rfl)) da_nil))) (dss_one (ds_ret (de_callN rfl rfl takesN (n_flows_at T) hr (by decide) rfl (da_cons (de_v (i := 2) rfl (.inl rfl)) (da_cons (de_v (i := 1) rfl (.inl rfl)) (da_cons (de_callN rfl rfl takesN (n_level_of T) hr (by decide) rfl (da_cons (de_v (i := 2) rfl (.inl rfl)) (da_cons (de_v (i := 1) rfl (.inl rfl)) da_nil))) da_nil)))))))

theorem n_by {P : Program} {w : World} {C : Cs} {base : Heap} (T : Tp C base) : Dn P w C base "by" 2 3 (f_by) := by
  obtain ⟨fd, F⟩ := T.d_by
  exact Dn.mk' F sc_by T.g_by rfl (fun _ _ _ _ _ _ us hl => match us, hl with | [_, _], _ => rfl) fun A outer s H E hr =>
    (dss_one (ds_ret (de_callN rfl rfl takesN (n_ratio T) hr (by decide) rfl (da_cons (de_mul (de_ix rfl (de_v (i := 0) rfl (.inl rfl)) de_int (fun _ _ => rfl)) (de_ix rfl (de_v (i := 1) rfl (.inl rfl)) de_int (fun _ _ => rfl))) (da_cons (de_mul (de_ix rfl (de_v (i := 0) rfl (.inl rfl)) de_int (fun _ _ => rfl)) (de_ix rfl (de_v (i := 1) rfl (.inl rfl)) de_int (fun _ _ => rfl))) da_nil)))))

theorem n_lane_time {P : Program} {w : World} {C : Cs} {base : Heap} (T : Tp C base) : Dn P w C base "lane_time" 2 4 (f_lane_time) := by
  obtain ⟨fd, F⟩ := T.d_lane_time
  exact Dn.mk' F sc_lane_time T.g_lane_time rfl (fun _ _ _ _ _ _ us hl => match us, hl with | [_, _], _ => rfl) fun A outer s H E hr =>
    (dss_one (ds_ret (de_callN rfl rfl takesN (n_plus T) hr (by decide) rfl (da_cons (de_callN rfl rfl takesN (n_by T) hr (by decide) rfl (da_cons (de_tup (da_cons (de_ix rfl (de_v (i := 0) rfl (.inl rfl)) de_int (fun _ _ => rfl)) (da_cons de_int da_nil))) (da_cons (de_v (i := 1) rfl (.inl rfl)) da_nil))) (da_cons (de_tup (da_cons (de_ix rfl (de_v (i := 0) rfl (.inl rfl)) de_int (fun _ _ => rfl)) (da_cons de_int da_nil))) da_nil)))))

theorem n_falling {P : Program} {w : World} {C : Cs} {base : Heap} (T : Tp C base) : Dn P w C base "falling" 2 5 (f_falling) := by
  obtain ⟨fd, F⟩ := T.d_falling
  exact Dn.mk' F sc_falling T.g_falling rfl (fun _ _ _ _ _ _ us hl => match us, hl with | [_, _], _ => rfl) fun A outer s H E hr =>
    (dss_cons (ds_set (i := 2) sc_falling.nd rfl (.inl rfl) (de_lst da_nil)) (dss_cons (ds_for ownsN rfl (di_enum rfl rfl T.b_enumerate (de_v (i := 0) rfl (.inr (.inl rfl)))) (dg_tup rfl rfl (dgs_cons (dg_name (i := 3) sc_falling.nd rfl (.inl rfl)) (dgs_cons (dg_name (i := 4) sc_falling.nd rfl (.inl rfl)) dgs_nil))) (dss_cons (ds_set (i := 5) sc_falling.nd rfl (.inr rfl) (de_callN rfl rfl takesN (n_lane_time T) hr (by decide) rfl (da_cons (de_v (i := 4) rfl (.inl rfl)) (da_cons (de_ix rfl (de_v (i := 1) rfl (.inr (.inl rfl))) (de_v (i := 3) rfl (.inl rfl)) (fun _ _ => rfl)) da_nil)))) (dss_cons (ds_set (i := 6) sc_falling.nd rfl (.inl rfl) (de_callB call_len on_len rfl T.b_len boot_len (da_cons (de_dn (dn_lc (own := [("one", 7)]) (ix := [7]) rfl sc_falling.nd (di_seq rfl (de_v (i := 2) rfl (.inl rfl))) (blkOk_by (by kernel_rfl)) (by decide +kernel) (fun _ _ _ _ _ => (dg_name (i := 7) sc_falling.nd rfl (.inl rfl))) (fun _ _ _ _ _ => (dts_one (dt_tru rfl (de_callN rfl rfl takes0 (n_less T) hr (by decide) rfl (da_cons (de_v (i := 5) rfl (.inr (.inl rfl))) (da_cons (de_callN rfl rfl takes0 (n_lane_time T) hr (by decide) rfl (da_cons (de_ix rfl (de_v (i := 0) rfl (.inr (.inl rfl))) (de_v (i := 7) rfl (.inl rfl)) (fun _ _ => rfl)) (da_cons (de_ix rfl (de_v (i := 1) rfl (.inr (.inl rfl))) (de_v (i := 7) rfl (.inl rfl)) (fun _ _ => rfl)) da_nil))) da_nil)))))) (fun _ _ _ _ _ => (de_v (i := 7) rfl (.inl rfl))))) da_nil))) (dss_one (ds_set (i := 2) sc_falling.nd rfl (.inl rfl) (de_lst (da_star rfl (de_slice rfl (de_v (i := 2) rfl (.inl rfl)) do_none (do_some (de_v (i := 6) rfl (.inl rfl)))) (da_cons (de_v (i := 3) rfl (.inl rfl)) (da_star rfl (de_slice rfl (de_v (i := 2) rfl (.inl rfl)) (do_some (de_v (i := 6) rfl (.inl rfl))) do_none) da_nil))))))))) (dss_one (ds_ret (de_v (i := 2) rfl (.inl rfl))))))

theorem n_led_of {P : Program} {w : World} {C : Cs} {base : Heap} (T : Tp C base) : Dn P w C base "led_of" 3 6 (f_led_of) := by
  obtain ⟨fd, F⟩ := T.d_led_of
  exact Dn.mk' F sc_led_of T.g_led_of rfl (fun _ _ _ _ _ _ us hl => match us, hl with | [_, _, _], _ => rfl) fun A outer s H E hr =>
    (dss_cons (ds_parOD (i := 3) (j := 4) rfl sc_led_of.nd rfl rfl (by decide) rfl rfl (by exact (dn_lc (own := [("lane", 5)]) (ix := [5]) rfl sc_led_of.nd (di_seq rfl (de_v (i := 0) rfl (.inl rfl))) (blkOk_by (by kernel_rfl)) (by decide +kernel) (fun _ _ _ _ _ => (dg_name (i := 5) sc_led_of.nd rfl (.inl rfl))) (fun _ _ _ _ _ => dts_nil) (fun _ _ _ _ _ => (de_tup (da_cons de_int (da_cons de_int da_nil)))))) (by exact (de_v (i := 2) rfl (.inl rfl))) rfl) (dss_cons (ds_for ownsN rfl (di_seq rfl (de_callN rfl rfl takesN (n_falling T) hr (by decide) rfl (da_cons (de_v (i := 0) rfl (.inl rfl)) (da_cons (de_v (i := 1) rfl (.inl rfl)) da_nil)))) (dg_name (i := 6) sc_led_of.nd rfl (.inl rfl)) (dss_cons (ds_setIx (i := 3) rfl (.inl rfl) (de_if (dt_tru rfl (de_callN rfl rfl takesN (n_less T) hr (by decide) rfl (da_cons (de_v (i := 4) rfl (.inl rfl)) (da_cons (de_ix rfl (de_v (i := 1) rfl (.inl rfl)) (de_v (i := 6) rfl (.inl rfl)) (fun _ _ => rfl)) da_nil)))) (de_v (i := 4) rfl (.inl rfl)) (de_ix rfl (de_v (i := 1) rfl (.inl rfl)) (de_v (i := 6) rfl (.inl rfl)) (fun _ _ => rfl))) (de_v (i := 6) rfl (.inl rfl)) (fun _ _ _ h1 h2 h3 => ps_asg h3 (pg_sub h1 h2 set_list))) (dss_one (ds_set (i := 4) sc_led_of.nd rfl (.inl rfl) (de_callN rfl rfl takesN (n_minus T) hr (by decide) rfl (da_cons (de_v (i := 4) rfl (.inl rfl)) (da_cons (de_oix (i := 3) rfl rfl (.inl rfl) (de_v (i := 6) rfl (.inl rfl)) (fun _ _ => rfl)) da_nil))))))) (dss_fz 3 (dss_one (ds_ret (de_v (i := 3) rfl (.inl rfl)))))))

theorem n_left_lanes {P : Program} {w : World} {C : Cs} {base : Heap} (T : Tp C base) : Dn P w C base "left_lanes" 2 5 (f_left_lanes) := by
  obtain ⟨fd, F⟩ := T.d_left_lanes
  exact Dn.mk' F sc_left_lanes T.g_left_lanes rfl (fun _ _ _ _ _ _ us hl => match us, hl with | [_, _], _ => rfl) fun A outer s H E hr =>
    (dss_one (ds_ret (de_dn (dn_lc (own := [("lane", 2), ("flow", 3)]) (ix := [2, 3]) rfl sc_left_lanes.nd (di_zip rfl rfl T.b_zip (de_v (i := 0) rfl (.inl rfl)) (de_v (i := 1) rfl (.inl rfl))) (blkOk_by (by kernel_rfl)) (by decide +kernel) (fun _ _ _ _ _ => (dg_tup rfl rfl (dgs_cons (dg_name (i := 2) sc_left_lanes.nd rfl (.inl rfl)) (dgs_cons (dg_name (i := 3) sc_left_lanes.nd rfl (.inl rfl)) dgs_nil)))) (fun _ _ _ _ _ => dts_nil) (fun _ _ _ _ _ => (de_tup (da_cons (de_ix rfl (de_v (i := 2) rfl (.inl rfl)) de_int (fun _ _ => rfl)) (da_cons (de_callN rfl rfl takes0 (n_lane_time T) hr (by decide) rfl (da_cons (de_v (i := 2) rfl (.inl rfl)) (da_cons (de_v (i := 3) rfl (.inl rfl)) da_nil))) da_nil))))))))

theorem n_others_of {P : Program} {w : World} {C : Cs} {base : Heap} (T : Tp C base) : Dn P w C base "others_of" 3 6 (f_others_of) := by
  obtain ⟨fd, F⟩ := T.d_others_of
  exact Dn.mk' F sc_others_of T.g_others_of rfl (fun _ _ _ _ _ _ us hl => match us, hl with | [_, _, _], _ => rfl) fun A outer s H E hr =>
    (dss_cons (ds_if (dt_eq rfl hr (de_ix rfl (de_v (i := 2) rfl (.inl rfl)) de_int (fun _ _ => rfl)) de_int) (dss_one (ds_ret (de_dn (dn_lc (own := [("lane", 3)]) (ix := [3]) rfl sc_others_of.nd (di_seq rfl (de_v (i := 0) rfl (.inl rfl))) (blkOk_by (by kernel_rfl)) (by decide +kernel) (fun _ _ _ _ _ => (dg_name (i := 3) sc_others_of.nd rfl (.inl rfl))) (fun _ _ _ _ _ => dts_nil) (fun _ _ _ _ _ => (de_tup (da_cons de_int (da_cons de_int da_nil)))))))) dss_nil) (dss_cons (ds_set (i := 4) sc_others_of.nd rfl (.inl rfl) (de_callN rfl rfl takesN (n_left_lanes T) hr (by decide) rfl (da_cons (de_v (i := 0) rfl (.inl rfl)) (da_cons (de_v (i := 1) rfl (.inl rfl)) da_nil)))) (dss_one (ds_ret (de_callN rfl rfl takesN (n_flows_at T) hr (by decide) rfl (da_cons (de_v (i := 4) rfl (.inl rfl)) (da_cons (de_v (i := 2) rfl (.inl rfl)) (da_cons (de_callN rfl rfl takesN (n_level_of T) hr (by decide) rfl (da_cons (de_v (i := 4) rfl (.inl rfl)) (da_cons (de_v (i := 2) rfl (.inl rfl)) da_nil))) da_nil))))))))

theorem n_total_of {P : Program} {w : World} {C : Cs} {base : Heap} (T : Tp C base) : Dn P w C base "total_of" 2 5 (f_total_of) := by
  obtain ⟨fd, F⟩ := T.d_total_of
  exact Dn.mk' F sc_total_of T.g_total_of rfl (fun _ _ _ _ _ _ us hl => match us, hl with | [_, _], _ => rfl) fun A outer s H E hr =>
    (dss_one (ds_ret (de_callN rfl rfl takesN (n_sum_of T) hr (by decide) rfl (da_cons (de_dn (dn_lc (own := [("lane", 2), ("flow", 3)]) (ix := [2, 3]) rfl sc_total_of.nd (di_zip rfl rfl T.b_zip (de_v (i := 0) rfl (.inl rfl)) (de_v (i := 1) rfl (.inl rfl))) (blkOk_by (by kernel_rfl)) (by decide +kernel) (fun _ _ _ _ _ => (dg_tup rfl rfl (dgs_cons (dg_name (i := 2) sc_total_of.nd rfl (.inl rfl)) (dgs_cons (dg_name (i := 3) sc_total_of.nd rfl (.inl rfl)) dgs_nil)))) (fun _ _ _ _ _ => dts_nil) (fun _ _ _ _ _ => (de_callN rfl rfl takes0 (n_by T) hr (by decide) rfl (da_cons (de_v (i := 3) rfl (.inl rfl)) (da_cons (de_callN rfl rfl takes0 (n_lane_time T) hr (by decide) rfl (da_cons (de_v (i := 2) rfl (.inl rfl)) (da_cons (de_v (i := 3) rfl (.inl rfl)) da_nil))) da_nil)))))) da_nil))))

theorem n_leader_plan {P : Program} {w : World} {C : Cs} {base : Heap} (T : Tp C base) : Dn P w C base "leader_plan" 3 7 (f_leader_plan) := by
  obtain ⟨fd, F⟩ := T.d_leader_plan
  exact Dn.mk' F sc_leader_plan T.g_leader_plan rfl (fun _ _ _ _ _ _ us hl => match us, hl with | [_, _, _], _ => rfl) fun A outer s H E hr =>
    (dss_cons (ds_expr (de_callN rfl rfl takesN (n_need_share T) hr (by decide) rfl (da_cons (de_v (i := 0) rfl (.inl rfl)) (da_cons (de_v (i := 1) rfl (.inl rfl)) (da_cons (de_v (i := 2) rfl (.inl rfl)) da_nil))))) (dss_cons (ds_set (i := 3) sc_leader_plan.nd rfl (.inl rfl) (de_callN rfl rfl takesN (n_best_flows T) hr (by decide) rfl (da_cons (de_v (i := 0) rfl (.inl rfl)) (da_cons (de_v (i := 1) rfl (.inl rfl)) da_nil)))) (dss_cons (ds_set (i := 4) sc_leader_plan.nd rfl (.inl rfl) (de_callN rfl rfl takesN (n_by T) hr (by decide) rfl (da_cons (de_v (i := 2) rfl (.inl rfl)) (da_cons (de_v (i := 1) rfl (.inl rfl)) da_nil)))) (dss_cons (ds_set (i := 5) sc_leader_plan.nd rfl (.inl rfl) (de_callN rfl rfl takesN (n_led_of T) hr (by decide) rfl (da_cons (de_v (i := 0) rfl (.inl rfl)) (da_cons (de_v (i := 3) rfl (.inl rfl)) (da_cons (de_v (i := 4) rfl (.inl rfl)) da_nil))))) (dss_cons (ds_set (i := 6) sc_leader_plan.nd rfl (.inl rfl) (de_callN rfl rfl takesN (n_others_of T) hr (by decide) rfl (da_cons (de_v (i := 0) rfl (.inl rfl)) (da_cons (de_v (i := 5) rfl (.inl rfl)) (da_cons (de_callN rfl rfl takesN (n_minus T) hr (by decide) rfl (da_cons (de_v (i := 1) rfl (.inl rfl)) (da_cons (de_v (i := 4) rfl (.inl rfl)) da_nil))) da_nil))))) (dss_cons (setLc (i := 7) (own := [("one", 8), ("other", 9)]) (ix := [8, 9]) rfl sc_leader_plan.nd rfl rfl rfl (di_zip rfl rfl T.b_zip (de_v (i := 5) rfl (.inl rfl)) (de_v (i := 6) rfl (.inl rfl))) (blkOk_by (by kernel_rfl)) (by decide +kernel) (fun _ _ _ _ _ => (dg_tup rfl rfl (dgs_cons (dg_name (i := 8) sc_leader_plan.nd rfl (.inl rfl)) (dgs_cons (dg_name (i := 9) sc_leader_plan.nd rfl (.inl rfl)) dgs_nil)))) (fun _ _ _ _ _ => dts_nil) (fun _ _ _ _ _ => (de_callN rfl rfl takes0 (n_plus T) hr (by decide) rfl (da_cons (de_v (i := 8) rfl (.inl rfl)) (da_cons (de_v (i := 9) rfl (.inl rfl)) da_nil))))) (dss_fz 7 (dss_one (ds_ret (de_tup (da_cons (de_callTy call_tuple_of on_tuple rfl T.b_tuple (by decide +kernel) (da_cons (de_v (i := 3) rfl (.inl rfl)) da_nil)) (da_cons (de_callTy call_tuple_of on_tuple rfl T.b_tuple (by decide +kernel) (da_cons (de_v (i := 5) rfl (.inl rfl)) da_nil)) (da_cons (de_callTy call_tuple_of on_tuple rfl T.b_tuple (by decide +kernel) (da_cons (de_v (i := 6) rfl (.inl rfl)) da_nil)) (da_cons (de_callN rfl rfl takesN (n_total_of T) hr (by decide) rfl (da_cons (de_v (i := 0) rfl (.inl rfl)) (da_cons (de_v (i := 7) rfl (.inl rfl)) da_nil))) da_nil))))))))))))))

theorem n_law_is_ratio {P : Program} {w : World} {C : Cs} {base : Heap} (T : Tp C base) : Dn P w C base "_law_is_ratio" 1 3 (f_law_is_ratio) := by
  obtain ⟨fd, F⟩ := T.d_law_is_ratio
  exact Dn.mk' F sc_law_is_ratio T.g_law_is_ratio rfl (fun _ _ _ _ _ _ us hl => match us, hl with | [_], _ => rfl) fun A outer s H E hr =>
    (dss_cons (ds_if (dt_not (dt_tru rfl (de_isi rfl rfl T.b_isinstance rfl T.b_tuple (by decide +kernel) (de_v (i := 0) rfl (.inl rfl))))) (dss_one (ds_ret de_bl)) dss_nil) (dss_cons (ds_if (dt_ne rfl hr (de_callB call_len on_len rfl T.b_len boot_len (da_cons (de_v (i := 0) rfl (.inl rfl)) da_nil)) de_int) (dss_one (ds_ret de_bl)) dss_nil) (dss_cons (ds_if (dt_ne rfl hr (de_dn (dn_lc (own := [("_law_one", 1)]) (ix := [1]) rfl sc_law_is_ratio.nd (di_seq rfl (de_v (i := 0) rfl (.inl rfl))) (blkOk_by (by kernel_rfl)) (by decide +kernel) (fun _ _ _ _ _ => (dg_name (i := 1) sc_law_is_ratio.nd rfl (.inl rfl))) (fun _ _ _ _ _ => (dts_one (dw_dt (dw_or (dt_not (dt_tru rfl (de_isi rfl rfl T.b_isinstance rfl T.b_int (by decide +kernel) (de_v (i := 1) rfl (.inl rfl))))) (dw_or1 (dt_tru rfl (de_isi rfl rfl T.b_isinstance rfl T.b_bool (by decide +kernel) (de_v (i := 1) rfl (.inl rfl))))))))) (fun _ _ _ _ _ => (de_v (i := 1) rfl (.inl rfl))))) (de_lst da_nil)) (dss_one (ds_ret de_bl)) dss_nil) (dss_one (ds_ret (de_and rfl (de_gt (de_ix rfl (de_v (i := 0) rfl (.inl rfl)) de_int (fun _ _ => rfl)) de_int) (de_one (de_eq rfl hr (de_callN rfl rfl takesN (n_law_ratio T) hr (by decide) rfl (da_cons (de_ix rfl (de_v (i := 0) rfl (.inl rfl)) de_int (fun _ _ => rfl)) (da_cons (de_ix rfl (de_v (i := 0) rfl (.inl rfl)) de_int (fun _ _ => rfl)) da_nil))) (de_v (i := 0) rfl (.inl rfl))))))))))

theorem n_law_plus {P : Program} {w : World} {C : Cs} {base : Heap} (T : Tp C base) : Dn P w C base "_law_plus" 2 3 (f_law_plus) := by
  obtain ⟨fd, F⟩ := T.d_law_plus
  exact Dn.mk' F sc_law_plus T.g_law_plus rfl (fun _ _ _ _ _ _ us hl => match us, hl with | [_, _], _ => rfl) fun A outer s H E hr =>
    (dss_one (ds_ret (de_callN rfl rfl takesN (n_law_ratio T) hr (by decide) rfl (da_cons (de_add rfl (de_mul (de_ix rfl (de_v (i := 0) rfl (.inl rfl)) de_int (fun _ _ => rfl)) (de_ix rfl (de_v (i := 1) rfl (.inl rfl)) de_int (fun _ _ => rfl))) (de_mul (de_ix rfl (de_v (i := 1) rfl (.inl rfl)) de_int (fun _ _ => rfl)) (de_ix rfl (de_v (i := 0) rfl (.inl rfl)) de_int (fun _ _ => rfl)))) (da_cons (de_mul (de_ix rfl (de_v (i := 0) rfl (.inl rfl)) de_int (fun _ _ => rfl)) (de_ix rfl (de_v (i := 1) rfl (.inl rfl)) de_int (fun _ _ => rfl))) da_nil)))))

theorem n_law_sum {P : Program} {w : World} {C : Cs} {base : Heap} (T : Tp C base) : Dn P w C base "_law_sum" 1 4 (f_law_sum) := by
  obtain ⟨fd, F⟩ := T.d_law_sum
  exact Dn.mk' F sc_law_sum T.g_law_sum rfl (fun _ _ _ _ _ _ us hl => match us, hl with | [_], _ => rfl) fun A outer s H E hr =>
    (dss_cons (ds_set (i := 1) sc_law_sum.nd rfl (.inl rfl) (de_tup (da_cons de_int (da_cons de_int da_nil)))) (dss_cons (ds_for ownsN rfl (di_seq rfl (de_v (i := 0) rfl (.inl rfl))) (dg_name (i := 2) sc_law_sum.nd rfl (.inl rfl)) (dss_one (ds_set (i := 1) sc_law_sum.nd rfl (.inl rfl) (de_callN rfl rfl takesN (n_law_plus T) hr (by decide) rfl (da_cons (de_v (i := 1) rfl (.inl rfl)) (da_cons (de_v (i := 2) rfl (.inl rfl)) da_nil)))))) (dss_one (ds_ret (de_v (i := 1) rfl (.inl rfl))))))

theorem n_law_by {P : Program} {w : World} {C : Cs} {base : Heap} (T : Tp C base) : Dn P w C base "_law_by" 2 3 (f_law_by) := by
  obtain ⟨fd, F⟩ := T.d_law_by
  exact Dn.mk' F sc_law_by T.g_law_by rfl (fun _ _ _ _ _ _ us hl => match us, hl with | [_, _], _ => rfl) fun A outer s H E hr =>
    (dss_one (ds_ret (de_callN rfl rfl takesN (n_law_ratio T) hr (by decide) rfl (da_cons (de_mul (de_ix rfl (de_v (i := 0) rfl (.inl rfl)) de_int (fun _ _ => rfl)) (de_ix rfl (de_v (i := 1) rfl (.inl rfl)) de_int (fun _ _ => rfl))) (da_cons (de_mul (de_ix rfl (de_v (i := 0) rfl (.inl rfl)) de_int (fun _ _ => rfl)) (de_ix rfl (de_v (i := 1) rfl (.inl rfl)) de_int (fun _ _ => rfl))) da_nil)))))

theorem n_law_time {P : Program} {w : World} {C : Cs} {base : Heap} (T : Tp C base) : Dn P w C base "_law_time" 2 4 (f_law_time) := by
  obtain ⟨fd, F⟩ := T.d_law_time
  exact Dn.mk' F sc_law_time T.g_law_time rfl (fun _ _ _ _ _ _ us hl => match us, hl with | [_, _], _ => rfl) fun A outer s H E hr =>
    (dss_one (ds_ret (de_callN rfl rfl takesN (n_law_plus T) hr (by decide) rfl (da_cons (de_callN rfl rfl takesN (n_law_by T) hr (by decide) rfl (da_cons (de_tup (da_cons (de_ix rfl (de_v (i := 0) rfl (.inl rfl)) de_int (fun _ _ => rfl)) (da_cons de_int da_nil))) (da_cons (de_v (i := 1) rfl (.inl rfl)) da_nil))) (da_cons (de_if (dt_tru rfl (de_isi rfl rfl T.b_isinstance rfl T.b_int (by decide +kernel) (de_ix rfl (de_v (i := 0) rfl (.inl rfl)) de_int (fun _ _ => rfl)))) (de_tup (da_cons (de_ix rfl (de_v (i := 0) rfl (.inl rfl)) de_int (fun _ _ => rfl)) (da_cons de_int da_nil))) (de_ix rfl (de_v (i := 0) rfl (.inl rfl)) de_int (fun _ _ => rfl))) da_nil)))))

theorem n_law_less {P : Program} {w : World} {C : Cs} {base : Heap} (T : Tp C base) : Dn P w C base "_law_less" 2 2 (f_law_less) := by
  obtain ⟨fd, F⟩ := T.d_law_less
  exact Dn.mk' F sc_law_less T.g_law_less rfl (fun _ _ _ _ _ _ us hl => match us, hl with | [_, _], _ => rfl) fun A outer s H E hr =>
    (dss_one (ds_ret (de_lt (de_mul (de_ix rfl (de_v (i := 0) rfl (.inl rfl)) de_int (fun _ _ => rfl)) (de_ix rfl (de_v (i := 1) rfl (.inl rfl)) de_int (fun _ _ => rfl))) (de_mul (de_ix rfl (de_v (i := 1) rfl (.inl rfl)) de_int (fun _ _ => rfl)) (de_ix rfl (de_v (i := 0) rfl (.inl rfl)) de_int (fun _ _ => rfl))))))

theorem n_law_lane_rests {P : Program} {w : World} {C : Cs} {base : Heap} (T : Tp C base) : Dn P w C base "_law_lane_rests" 3 5 (f_law_lane_rests) := by
  obtain ⟨fd, F⟩ := T.d_law_lane_rests
  exact Dn.mk' F sc_law_lane_rests T.g_law_lane_rests rfl (fun _ _ _ _ _ _ us hl => match us, hl with | [_, _, _], _ => rfl) fun A outer s H E hr =>
    (dss_cons (ds_if (dw_dt (dw_or (dt_not (dt_tru rfl (de_isi rfl rfl T.b_isinstance rfl T.b_tuple (by decide +kernel) (de_v (i := 2) rfl (.inr (.inl rfl)))))) (dw_or (dt_ne rfl hr (de_callB call_len on_len rfl T.b_len boot_len (da_cons (de_v (i := 2) rfl (.inr (.inl rfl))) da_nil)) (de_callB call_len on_len rfl T.b_len boot_len (da_cons (de_v (i := 0) rfl (.inr (.inl rfl))) da_nil))) (dw_or1 (dt_ne rfl hr (de_dn (dn_lc (own := [("_law_one", 3)]) (ix := [3]) rfl sc_law_lane_rests.nd (di_seq rfl (de_v (i := 2) rfl (.inr (.inl rfl)))) (blkOk_by (by kernel_rfl)) (by decide +kernel) (fun _ _ _ _ _ => (dg_name (i := 3) sc_law_lane_rests.nd rfl (.inl rfl))) (fun _ _ _ _ _ => (dts_one (dw_dt (dw_or (dt_not (dt_tru rfl (de_callN rfl rfl takes0 (n_law_is_ratio T) hr (by decide) rfl (da_cons (de_v (i := 3) rfl (.inl rfl)) da_nil)))) (dw_or1 (dt_lt (de_ix rfl (de_v (i := 3) rfl (.inl rfl)) de_int (fun _ _ => rfl)) de_int)))))) (fun _ _ _ _ _ => (de_v (i := 3) rfl (.inl rfl))))) (de_lst da_nil)))))) (dss_one (ds_ret de_non)) dss_nil) (dss_cons (ds_if (dt_ne rfl hr (de_callN rfl rfl takesN (n_law_sum T) hr (by decide) rfl (da_cons (de_callTy call_list_of on_list rfl T.b_list (by decide +kernel) (da_cons (de_v (i := 2) rfl (.inr (.inl rfl))) da_nil)) da_nil)) (de_v (i := 1) rfl (.inl rfl))) (dss_one (ds_ret de_non)) dss_nil) (dss_cons (ds_set (i := 4) sc_law_lane_rests.nd rfl (.inr rfl) (de_dn (dn_lc (own := [("_law_k", 5)]) (ix := [5]) rfl sc_law_lane_rests.nd (di_range1 rfl T.b_range (de_callB call_len on_len rfl T.b_len boot_len (da_cons (de_v (i := 0) rfl (.inr (.inl rfl))) da_nil))) (blkOk_by (by kernel_rfl)) (by decide +kernel) (fun _ _ _ _ _ => (dg_name (i := 5) sc_law_lane_rests.nd rfl (.inl rfl))) (fun _ _ _ _ _ => dts_nil) (fun _ _ _ _ _ => (de_callN rfl rfl takes0 (n_law_time T) hr (by decide) rfl (da_cons (de_ix rfl (de_v (i := 0) rfl (.inr (.inl rfl))) (de_v (i := 5) rfl (.inl rfl)) (fun _ _ => rfl)) (da_cons (de_ix rfl (de_v (i := 2) rfl (.inr (.inl rfl))) (de_v (i := 5) rfl (.inl rfl)) (fun _ _ => rfl)) da_nil))))))) (dss_cons (ds_set (i := 6) sc_law_lane_rests.nd rfl (.inr rfl) (de_ix rfl (de_v (i := 4) rfl (.inr (.inl rfl))) de_int (fun _ _ => rfl))) (dss_cons (ds_for ownsN rfl (di_seq rfl (de_v (i := 4) rfl (.inr (.inl rfl)))) (dg_name (i := 3) sc_law_lane_rests.nd rfl (.inl rfl)) (dss_one (ds_set (i := 6) sc_law_lane_rests.nd rfl (.inr rfl) (de_if (dt_tru rfl (de_callN rfl rfl takesN (n_law_less T) hr (by decide) rfl (da_cons (de_v (i := 3) rfl (.inl rfl)) (da_cons (de_v (i := 6) rfl (.inr (.inl rfl))) da_nil)))) (de_v (i := 3) rfl (.inl rfl)) (de_v (i := 6) rfl (.inr (.inl rfl))))))) (dss_cons (ds_if (dt_ne rfl hr (de_dn (dn_lc (own := [("_law_k", 5)]) (ix := [5]) rfl sc_law_lane_rests.nd (di_range1 rfl T.b_range (de_callB call_len on_len rfl T.b_len boot_len (da_cons (de_v (i := 0) rfl (.inr (.inl rfl))) da_nil))) (blkOk_by (by kernel_rfl)) (by decide +kernel) (fun _ _ _ _ _ => (dg_name (i := 5) sc_law_lane_rests.nd rfl (.inl rfl))) (fun _ _ _ _ _ => (dts_one (dw_dt (dw_and (dt_gt (de_ix rfl (de_ix rfl (de_v (i := 2) rfl (.inr (.inl rfl))) (de_v (i := 5) rfl (.inl rfl)) (fun _ _ => rfl)) de_int (fun _ _ => rfl)) de_int) (dw_and1 (dt_ne rfl hr (de_ix rfl (de_v (i := 4) rfl (.inr (.inl rfl))) (de_v (i := 5) rfl (.inl rfl)) (fun _ _ => rfl)) (de_v (i := 6) rfl (.inr (.inl rfl))))))))) (fun _ _ _ _ _ => (de_v (i := 5) rfl (.inl rfl))))) (de_lst da_nil)) (dss_one (ds_ret de_non)) dss_nil) (dss_one (ds_ret (de_v (i := 6) rfl (.inr (.inl rfl)))))))))))

theorem n_law_led {P : Program} {w : World} {C : Cs} {base : Heap} (T : Tp C base) : Dn P w C base "_law_led" 3 5 (f_law_led) := by
  obtain ⟨fd, F⟩ := T.d_law_led
  exact Dn.mk' F sc_law_led T.g_law_led rfl (fun _ _ _ _ _ _ us hl => match us, hl with | [_, _, _], _ => rfl) fun A outer s H E hr =>
    (dss_cons (setLc (i := 3) (own := [("_law_k", 4)]) (ix := [4]) rfl sc_law_led.nd rfl rfl rfl (di_range1 rfl T.b_range (de_callB call_len on_len rfl T.b_len boot_len (da_cons (de_v (i := 0) rfl (.inl rfl)) da_nil))) (blkOk_by (by kernel_rfl)) (by decide +kernel) (fun _ _ _ _ _ => (dg_name (i := 4) sc_law_led.nd rfl (.inl rfl))) (fun _ _ _ _ _ => dts_nil) (fun _ _ _ _ _ => (de_v (i := 4) rfl (.inl rfl)))) (dss_cons (ds_parOD (i := 5) (j := 6) rfl sc_law_led.nd rfl rfl (by decide) rfl rfl (by exact (dn_mulL rfl (de_lst (da_cons (de_tup (da_cons de_int (da_cons de_int da_nil))) da_nil)) (de_callB call_len on_len rfl T.b_len boot_len (da_cons (de_v (i := 0) rfl (.inl rfl)) da_nil)))) (by exact (de_v (i := 2) rfl (.inl rfl))) rfl) (dss_fz 3 (dss_cons (ds_while ownsN (dt_ne rfl hr (de_v (i := 3) rfl (.inl rfl)) (de_lst da_nil)) (dss_fz 3 (dss_cons (ds_set (i := 7) sc_law_led.nd rfl (.inr rfl) (de_ix rfl (de_v (i := 3) rfl (.inl rfl)) de_int (fun _ _ => rfl))) (dss_fz 3 (dss_cons (ds_for ownsN rfl (di_seq rfl (de_v (i := 3) rfl (.inl rfl))) (dg_name (i := 4) sc_law_led.nd rfl (.inl rfl)) (dss_one (ds_if (dt_not (dt_tru rfl (de_callN rfl rfl takesN (n_law_less T) hr (by decide) rfl (da_cons (de_callN rfl rfl takesN (n_law_time T) hr (by decide) rfl (da_cons (de_ix rfl (de_v (i := 0) rfl (.inl rfl)) (de_v (i := 4) rfl (.inl rfl)) (fun _ _ => rfl)) (da_cons (de_ix rfl (de_v (i := 1) rfl (.inl rfl)) (de_v (i := 4) rfl (.inl rfl)) (fun _ _ => rfl)) da_nil))) (da_cons (de_callN rfl rfl takesN (n_law_time T) hr (by decide) rfl (da_cons (de_ix rfl (de_v (i := 0) rfl (.inl rfl)) (de_v (i := 7) rfl (.inr (.inl rfl))) (fun _ _ => rfl)) (da_cons (de_ix rfl (de_v (i := 1) rfl (.inl rfl)) (de_v (i := 7) rfl (.inr (.inl rfl))) (fun _ _ => rfl)) da_nil))) da_nil))))) (dss_one (ds_set (i := 7) sc_law_led.nd rfl (.inr rfl) (de_v (i := 4) rfl (.inl rfl)))) dss_nil))) (dss_fz 3 (dss_cons (setLc (i := 3) (own := [("_law_k", 4)]) (ix := [4]) rfl sc_law_led.nd rfl rfl rfl (di_seq rfl (de_v (i := 3) rfl (.inl rfl))) (blkOk_by (by kernel_rfl)) (by decide +kernel) (fun _ _ _ _ _ => (dg_name (i := 4) sc_law_led.nd rfl (.inl rfl))) (fun _ _ _ _ _ => (dts_one (dt_ne rfl hr (de_v (i := 4) rfl (.inl rfl)) (de_v (i := 7) rfl (.inr (.inl rfl)))))) (fun _ _ _ _ _ => (de_v (i := 4) rfl (.inl rfl)))) (dss_fz 3 (dss_cons (ds_setIx (i := 5) rfl (.inl rfl) (de_if (dt_tru rfl (de_callN rfl rfl takesN (n_law_less T) hr (by decide) rfl (da_cons (de_v (i := 6) rfl (.inl rfl)) (da_cons (de_ix rfl (de_v (i := 1) rfl (.inl rfl)) (de_v (i := 7) rfl (.inr (.inl rfl))) (fun _ _ => rfl)) da_nil)))) (de_v (i := 6) rfl (.inl rfl)) (de_ix rfl (de_v (i := 1) rfl (.inl rfl)) (de_v (i := 7) rfl (.inr (.inl rfl))) (fun _ _ => rfl))) (de_v (i := 7) rfl (.inr (.inl rfl))) (fun _ _ _ h1 h2 h3 => ps_asg h3 (pg_sub h1 h2 set_list))) (dss_one (ds_set (i := 6) sc_law_led.nd rfl (.inl rfl) (de_callN rfl rfl takesN (n_law_plus T) hr (by decide) rfl (da_cons (de_v (i := 6) rfl (.inl rfl)) (da_cons (de_tup (da_cons (de_sub de_int (de_ix rfl (de_oix (i := 5) rfl rfl (.inl rfl) (de_v (i := 7) rfl (.inr (.inl rfl))) (fun _ _ => rfl)) de_int (fun _ _ => rfl))) (da_cons (de_ix rfl (de_oix (i := 5) rfl rfl (.inl rfl) (de_v (i := 7) rfl (.inr (.inl rfl))) (fun _ _ => rfl)) de_int (fun _ _ => rfl)) da_nil))) da_nil)))))))))))))) (dss_fz 5 (dss_one (ds_ret (de_callTy call_tuple_of on_tuple rfl T.b_tuple (by decide +kernel) (da_cons (de_v (i := 5) rfl (.inl rfl)) da_nil)))))))))

theorem n_law_whole {P : Program} {w : World} {C : Cs} {base : Heap} (T : Tp C base) : Dn P w C base "_law_whole" 2 5 (f_law_whole) := by
  obtain ⟨fd, F⟩ := T.d_law_whole
  exact Dn.mk' F sc_law_whole T.g_law_whole rfl (fun _ _ _ _ _ _ us hl => match us, hl with | [_, _], _ => rfl) fun A outer s H E hr =>
    (dss_one (ds_ret (de_callN rfl rfl takesN (n_law_sum T) hr (by decide) rfl (da_cons (de_dn (dn_lc (own := [("_law_k", 2)]) (ix := [2]) rfl sc_law_whole.nd (di_range1 rfl T.b_range (de_callB call_len on_len rfl T.b_len boot_len (da_cons (de_v (i := 0) rfl (.inr (.inl rfl))) da_nil))) (blkOk_by (by kernel_rfl)) (by decide +kernel) (fun _ _ _ _ _ => (dg_name (i := 2) sc_law_whole.nd rfl (.inl rfl))) (fun _ _ _ _ _ => dts_nil) (fun _ _ _ _ _ => (de_callN rfl rfl takes0 (n_law_by T) hr (by decide) rfl (da_cons (de_ix rfl (de_v (i := 1) rfl (.inr (.inl rfl))) (de_v (i := 2) rfl (.inl rfl)) (fun _ _ => rfl)) (da_cons (de_callN rfl rfl takes0 (n_law_time T) hr (by decide) rfl (da_cons (de_ix rfl (de_v (i := 0) rfl (.inr (.inl rfl))) (de_v (i := 2) rfl (.inl rfl)) (fun _ _ => rfl)) (da_cons (de_ix rfl (de_v (i := 1) rfl (.inr (.inl rfl))) (de_v (i := 2) rfl (.inl rfl)) (fun _ _ => rfl)) da_nil))) da_nil)))))) da_nil))))

theorem n_law_is_plan {P : Program} {w : World} {C : Cs} {base : Heap} (T : Tp C base) : Dn P w C base "_law_is_plan" 4 6 (f_law_is_plan) := by
  obtain ⟨fd, F⟩ := T.d_law_is_plan
  exact Dn.mk' F sc_law_is_plan T.g_law_is_plan rfl (fun _ _ _ _ _ _ us hl => match us, hl with | [_, _, _, _], _ => rfl) fun A outer s H E hr =>
    (dss_cons (ds_if (dw_dt (dw_or (dt_not (dt_tru rfl (de_isi rfl rfl T.b_isinstance rfl T.b_tuple (by decide +kernel) (de_v (i := 3) rfl (.inr (.inl rfl)))))) (dw_or (dt_ne rfl hr (de_callB call_len on_len rfl T.b_len boot_len (da_cons (de_v (i := 3) rfl (.inr (.inl rfl))) da_nil)) de_int) (dw_or1 (dt_not (dt_tru rfl (de_callN rfl rfl takesN (n_law_is_ratio T) hr (by decide) rfl (da_cons (de_ix rfl (de_v (i := 3) rfl (.inr (.inl rfl))) de_int (fun _ _ => rfl)) da_nil)))))))) (dss_one (ds_ret de_bl)) dss_nil) (dss_cons (ds_set (i := 4) sc_law_is_plan.nd rfl (.inl rfl) (de_callTy call_tuple_of on_tuple rfl T.b_tuple (by decide +kernel) (da_cons (de_dn (dn_lc (own := [("_law_lane", 5)]) (ix := [5]) rfl sc_law_is_plan.nd (di_seq rfl (de_v (i := 0) rfl (.inr (.inl rfl)))) (blkOk_by (by kernel_rfl)) (by decide +kernel) (fun _ _ _ _ _ => (dg_name (i := 5) sc_law_is_plan.nd rfl (.inl rfl))) (fun _ _ _ _ _ => dts_nil) (fun _ _ _ _ _ => (de_tup (da_cons (de_mul de_int (de_ix rfl (de_v (i := 5) rfl (.inl rfl)) de_int (fun _ _ => rfl))) (da_cons (de_ix rfl (de_v (i := 5) rfl (.inl rfl)) de_int (fun _ _ => rfl)) da_nil)))))) da_nil))) (dss_cons (ds_if (dt_is (de_callN rfl rfl takesN (n_law_lane_rests T) hr (by decide) rfl (da_cons (de_v (i := 4) rfl (.inl rfl)) (da_cons (de_v (i := 1) rfl (.inl rfl)) (da_cons (de_ix rfl (de_v (i := 3) rfl (.inr (.inl rfl))) de_int (fun _ _ => rfl)) da_nil)))) de_non) (dss_one (ds_ret de_bl)) dss_nil) (dss_cons (ds_set (i := 6) sc_law_is_plan.nd rfl (.inl rfl) (de_callN rfl rfl takesN (n_law_by T) hr (by decide) rfl (da_cons (de_v (i := 2) rfl (.inl rfl)) (da_cons (de_v (i := 1) rfl (.inl rfl)) da_nil)))) (dss_cons (ds_if (dw_dt (dw_or (dt_not (dt_tru rfl (de_isi rfl rfl T.b_isinstance rfl T.b_tuple (by decide +kernel) (de_ix rfl (de_v (i := 3) rfl (.inr (.inl rfl))) de_int (fun _ _ => rfl))))) (dw_or1 (dt_ne rfl hr (de_ix rfl (de_v (i := 3) rfl (.inr (.inl rfl))) de_int (fun _ _ => rfl)) (de_callN rfl rfl takesN (n_law_led T) hr (by decide) rfl (da_cons (de_v (i := 0) rfl (.inr (.inl rfl))) (da_cons (de_ix rfl (de_v (i := 3) rfl (.inr (.inl rfl))) de_int (fun _ _ => rfl)) (da_cons (de_v (i := 6) rfl (.inl rfl)) da_nil)))))))) (dss_one (ds_ret de_bl)) dss_nil) (dss_cons (ds_set (i := 7) sc_law_is_plan.nd rfl (.inl rfl) (de_callTy call_tuple_of on_tuple rfl T.b_tuple (by decide +kernel) (da_cons (de_dn (dn_lc (own := [("_law_k", 8)]) (ix := [8]) rfl sc_law_is_plan.nd (di_range1 rfl T.b_range (de_callB call_len on_len rfl T.b_len boot_len (da_cons (de_v (i := 0) rfl (.inr (.inl rfl))) da_nil))) (blkOk_by (by kernel_rfl)) (by decide +kernel) (fun _ _ _ _ _ => (dg_name (i := 8) sc_law_is_plan.nd rfl (.inl rfl))) (fun _ _ _ _ _ => dts_nil) (fun _ _ _ _ _ => (de_tup (da_cons (de_ix rfl (de_ix rfl (de_v (i := 0) rfl (.inr (.inl rfl))) (de_v (i := 8) rfl (.inl rfl)) (fun _ _ => rfl)) de_int (fun _ _ => rfl)) (da_cons (de_callN rfl rfl takes0 (n_law_time T) hr (by decide) rfl (da_cons (de_ix rfl (de_v (i := 0) rfl (.inr (.inl rfl))) (de_v (i := 8) rfl (.inl rfl)) (fun _ _ => rfl)) (da_cons (de_ix rfl (de_ix rfl (de_v (i := 3) rfl (.inr (.inl rfl))) de_int (fun _ _ => rfl)) (de_v (i := 8) rfl (.inl rfl)) (fun _ _ => rfl)) da_nil))) da_nil)))))) da_nil))) (dss_cons (ds_set (i := 9) sc_law_is_plan.nd rfl (.inl rfl) (de_callN rfl rfl takesN (n_law_plus T) hr (by decide) rfl (da_cons (de_v (i := 1) rfl (.inl rfl)) (da_cons (de_tup (da_cons (de_sub de_int (de_ix rfl (de_v (i := 6) rfl (.inl rfl)) de_int (fun _ _ => rfl))) (da_cons (de_ix rfl (de_v (i := 6) rfl (.inl rfl)) de_int (fun _ _ => rfl)) da_nil))) da_nil)))) (dss_cons (ds_if (dt_eq rfl hr (de_v (i := 9) rfl (.inl rfl)) (de_tup (da_cons de_int (da_cons de_int da_nil)))) (dss_one (ds_if (dt_ne rfl hr (de_ix rfl (de_v (i := 3) rfl (.inr (.inl rfl))) de_int (fun _ _ => rfl)) (de_mulA rfl (de_tup (da_cons (de_tup (da_cons de_int (da_cons de_int da_nil))) da_nil)) (de_callB call_len on_len rfl T.b_len boot_len (da_cons (de_v (i := 0) rfl (.inr (.inl rfl))) da_nil)))) (dss_one (ds_ret de_bl)) dss_nil)) (dss_one (ds_if (dt_is (de_callN rfl rfl takesN (n_law_lane_rests T) hr (by decide) rfl (da_cons (de_v (i := 7) rfl (.inl rfl)) (da_cons (de_v (i := 9) rfl (.inl rfl)) (da_cons (de_ix rfl (de_v (i := 3) rfl (.inr (.inl rfl))) de_int (fun _ _ => rfl)) da_nil)))) de_non) (dss_one (ds_ret de_bl)) dss_nil))) (dss_one (ds_ret (de_eq rfl hr (de_callN rfl rfl takesN (n_law_whole T) hr (by decide) rfl (da_cons (de_v (i := 0) rfl (.inr (.inl rfl))) (da_cons (de_dn (dn_lc (own := [("_law_k", 8)]) (ix := [8]) rfl sc_law_is_plan.nd (di_range1 rfl T.b_range (de_callB call_len on_len rfl T.b_len boot_len (da_cons (de_v (i := 0) rfl (.inr (.inl rfl))) da_nil))) (blkOk_by (by kernel_rfl)) (by decide +kernel) (fun _ _ _ _ _ => (dg_name (i := 8) sc_law_is_plan.nd rfl (.inl rfl))) (fun _ _ _ _ _ => dts_nil) (fun _ _ _ _ _ => (de_callN rfl rfl takes0 (n_law_plus T) hr (by decide) rfl (da_cons (de_ix rfl (de_ix rfl (de_v (i := 3) rfl (.inr (.inl rfl))) de_int (fun _ _ => rfl)) (de_v (i := 8) rfl (.inl rfl)) (fun _ _ => rfl)) (da_cons (de_ix rfl (de_ix rfl (de_v (i := 3) rfl (.inr (.inl rfl))) de_int (fun _ _ => rfl)) (de_v (i := 8) rfl (.inl rfl)) (fun _ _ => rfl)) da_nil)))))) da_nil))) (de_ix rfl (de_v (i := 3) rfl (.inr (.inl rfl))) de_int (fun _ _ => rfl)))))))))))))

theorem n_law_alike {P : Program} {w : World} {C : Cs} {base : Heap} (T : Tp C base) : ∀ z : Nat, Dn P w C base "_law_alike" 2 (2 + z) (f_law_alike z) := by
  obtain ⟨fd, F⟩ := T.d_law_alike
  intro z
  induction z with
  | zero => exact Dn.mk' F sc_law_alike T.g_law_alike rfl (fun _ _ _ _ _ _ us hl => match us, hl with | [_, _], _ => rfl) fun A outer s H E hr => dss_never
  | succ z ih =>
    exact Dn.mk' F sc_law_alike T.g_law_alike rfl (fun _ _ _ _ _ _ us hl => match us, hl with | [_, _], _ => rfl) fun A outer s H E hr =>
      (dss_cons (ds_if (dt_tru rfl (de_isiT rfl rfl T.b_isinstance rfl T.b_tuple (by decide +kernel) rfl T.b_list (by decide +kernel) (de_v (i := 1) rfl (.inr (.inl rfl))))) (dss_cons (ds_if (dw_dt (dw_or (dt_not (dt_tru rfl (de_isiT rfl rfl T.b_isinstance rfl T.b_tuple (by decide +kernel) rfl T.b_list (by decide +kernel) (de_v (i := 0) rfl (.inr (.inl rfl)))))) (dw_or1 (dt_ne rfl hr (de_isi rfl rfl T.b_isinstance rfl T.b_list (by decide +kernel) (de_v (i := 0) rfl (.inr (.inl rfl)))) (de_isi rfl rfl T.b_isinstance rfl T.b_list (by decide +kernel) (de_v (i := 1) rfl (.inr (.inl rfl)))))))) (dss_one (ds_ret de_bl)) dss_nil) (dss_cons (ds_if (dt_ne rfl hr (de_callB call_len on_len rfl T.b_len boot_len (da_cons (de_v (i := 0) rfl (.inr (.inl rfl))) da_nil)) (de_callB call_len on_len rfl T.b_len boot_len (da_cons (de_v (i := 1) rfl (.inr (.inl rfl))) da_nil))) (dss_one (ds_ret de_bl)) dss_nil) (dss_one (ds_ret (de_eq rfl hr (de_dn (dn_lc (own := [("_law_k", 2)]) (ix := [2]) rfl sc_law_alike.nd (di_range1 rfl T.b_range (de_callB call_len on_len rfl T.b_len boot_len (da_cons (de_v (i := 1) rfl (.inr (.inl rfl))) da_nil))) (blkOk_by (by kernel_rfl)) (by decide +kernel) (fun _ _ _ _ _ => (dg_name (i := 2) sc_law_alike.nd rfl (.inl rfl))) (fun _ _ _ _ _ => (dts_one (dt_not (dt_tru rfl (de_callN rfl rfl takes0 ih hr (Nat.le_refl _) rfl (da_cons (de_ix rfl (de_v (i := 0) rfl (.inr (.inl rfl))) (de_v (i := 2) rfl (.inl rfl)) (fun _ _ => rfl)) (da_cons (de_ix rfl (de_v (i := 1) rfl (.inr (.inl rfl))) (de_v (i := 2) rfl (.inl rfl)) (fun _ _ => rfl)) da_nil))))))) (fun _ _ _ _ _ => (de_v (i := 2) rfl (.inl rfl))))) (de_lst da_nil)))))) dss_nil) (dss_cons (ds_if (dw_dt (dw_or (dt_is (de_v (i := 1) rfl (.inr (.inl rfl))) de_non) (dw_or1 (dt_tru rfl (de_isi rfl rfl T.b_isinstance rfl T.b_str (by decide +kernel) (de_v (i := 1) rfl (.inr (.inl rfl)))))))) (dss_one (ds_ret (de_and rfl (de_eq rfl hr (de_v (i := 0) rfl (.inr (.inl rfl))) (de_v (i := 1) rfl (.inr (.inl rfl)))) (de_one (de_eq rfl hr (de_isi rfl rfl T.b_isinstance rfl T.b_str (by decide +kernel) (de_v (i := 0) rfl (.inr (.inl rfl)))) (de_isi rfl rfl T.b_isinstance rfl T.b_str (by decide +kernel) (de_v (i := 1) rfl (.inr (.inl rfl))))))))) dss_nil) (dss_one (ds_ret (de_and rfl (de_isi rfl rfl T.b_isinstance rfl T.b_int (by decide +kernel) (de_v (i := 0) rfl (.inr (.inl rfl)))) (de_and rfl (de_eq rfl hr (de_isi rfl rfl T.b_isinstance rfl T.b_bool (by decide +kernel) (de_v (i := 0) rfl (.inr (.inl rfl)))) (de_isi rfl rfl T.b_isinstance rfl T.b_bool (by decide +kernel) (de_v (i := 1) rfl (.inr (.inl rfl))))) (de_one (de_eq rfl hr (de_v (i := 0) rfl (.inr (.inl rfl))) (de_v (i := 1) rfl (.inr (.inl rfl)))))))))))

theorem n_are_flows {P : Program} {w : World} {C : Cs} {base : Heap} (T : Tp C base) : Dn P w C base "are_flows" 2 5 (f_are_flows) := by
  obtain ⟨fd, F⟩ := T.d_are_flows
  exact Dn.mk' F sc_are_flows T.g_are_flows rfl (fun _ _ _ _ _ _ us hl => match us, hl with | [_, _], _ => rfl) fun A outer s H E hr =>
    (dss_cons (ds_if (dw_dt (dw_or (dt_not (dt_tru rfl (de_isi rfl rfl T.b_isinstance rfl T.b_tuple (by decide +kernel) (de_v (i := 1) rfl (.inl rfl))))) (dw_or1 (dt_ne rfl hr (de_callB call_len on_len rfl T.b_len boot_len (da_cons (de_v (i := 1) rfl (.inl rfl)) da_nil)) (de_callB call_len on_len rfl T.b_len boot_len (da_cons (de_v (i := 0) rfl (.inl rfl)) da_nil)))))) (dss_one (ds_ret de_bl)) dss_nil) (dss_one (ds_ret (de_allG (own := [("one", 2)]) (ix := [2]) hr rfl T.b_all T.t_are_flows T.p_are_flows rfl ⟨blkOk_by (by kernel_rfl), rfl, by decide +kernel, rfl⟩ (by decide +kernel) sc_are_flows.nd (di_seq rfl (de_v (i := 1) rfl (.inl rfl))) (fun _ _ _ _ _ _ => (dg_name (i := 2) sc_are_flows.nd rfl (.inl rfl))) (fun _ _ _ _ _ _ => dts_nil) (fun _ _ _ _ _ _ => (de_and rfl (de_callN rfl rfl takes0 (n_is_ratio T) (roomG hr) (by decide) rfl (da_cons (de_v (i := 2) rfl (.inl rfl)) da_nil)) (de_one (de_ge (de_ix rfl (de_v (i := 2) rfl (.inl rfl)) de_int (fun _ _ => rfl)) de_int))))))))

theorem n_do_rest {P : Program} {w : World} {C : Cs} {base : Heap} (T : Tp C base) : Dn P w C base "do_rest" 3 4 (f_do_rest) := by
  obtain ⟨fd, F⟩ := T.d_do_rest
  exact Dn.mk' F sc_do_rest T.g_do_rest rfl (fun _ _ _ _ _ _ us hl => match us, hl with | [_, _, _], _ => rfl) fun A outer s H E hr =>
    (dss_cons (ds_for ownsN rfl (di_zip rfl rfl T.b_zip (de_v (i := 0) rfl (.inl rfl)) (de_v (i := 2) rfl (.inl rfl))) (dg_tup rfl rfl (dgs_cons (dg_tup rfl rfl (dgs_cons (dg_name (i := 3) sc_do_rest.nd rfl (.inl rfl)) (dgs_cons (dg_name (i := 4) sc_do_rest.nd rfl (.inl rfl)) dgs_nil))) (dgs_cons (dg_name (i := 5) sc_do_rest.nd rfl (.inl rfl)) dgs_nil))) (dss_cons (ds_set (i := 6) sc_do_rest.nd rfl (.inl rfl) (de_callN rfl rfl takesN (n_plus T) hr (by decide) rfl (da_cons (de_callN rfl rfl takesN (n_by T) hr (by decide) rfl (da_cons (de_tup (da_cons (de_v (i := 3) rfl (.inl rfl)) (da_cons de_int da_nil))) (da_cons (de_v (i := 5) rfl (.inl rfl)) da_nil))) (da_cons (de_v (i := 4) rfl (.inl rfl)) da_nil)))) (dss_one (ds_if (dw_dt (dw_or (dt_tru rfl (de_callN rfl rfl takesN (n_less T) hr (by decide) rfl (da_cons (de_v (i := 6) rfl (.inl rfl)) (da_cons (de_v (i := 1) rfl (.inl rfl)) da_nil)))) (dw_or1 (dw_dt (dw_and (dt_gt (de_ix rfl (de_v (i := 5) rfl (.inl rfl)) de_int (fun _ _ => rfl)) de_int) (dw_and1 (dt_ne rfl hr (de_v (i := 6) rfl (.inl rfl)) (de_v (i := 1) rfl (.inl rfl))))))))) (dss_one (ds_ret de_bl)) dss_nil)))) (dss_one (ds_ret de_bl)))

theorem n_rests_behind {P : Program} {w : World} {C : Cs} {base : Heap} (T : Tp C base) : Dn P w C base "rests_behind" 4 6 (f_rests_behind) := by
  obtain ⟨fd, F⟩ := T.d_rests_behind
  exact Dn.mk' F sc_rests_behind T.g_rests_behind rfl (fun _ _ _ _ _ _ us hl => match us, hl with | [_, _, _, _], _ => rfl) fun A outer s H E hr =>
    (dss_cons (ds_if (dt_ne rfl hr (de_callN rfl rfl takesN (n_sum_of T) hr (by decide) rfl (da_cons (de_callTy call_list_of on_list rfl T.b_list (by decide +kernel) (da_cons (de_v (i := 3) rfl (.inl rfl)) da_nil)) da_nil)) (de_v (i := 2) rfl (.inl rfl))) (dss_one (ds_ret de_bl)) dss_nil) (dss_cons (ds_if (dt_eq rfl hr (de_ix rfl (de_v (i := 2) rfl (.inl rfl)) de_int (fun _ _ => rfl)) de_int) (dss_one (ds_ret de_bl)) dss_nil) (dss_cons (ds_set (i := 4) sc_rests_behind.nd rfl (.inl rfl) (de_callN rfl rfl takesN (n_left_lanes T) hr (by decide) rfl (da_cons (de_v (i := 0) rfl (.inl rfl)) (da_cons (de_v (i := 1) rfl (.inl rfl)) da_nil)))) (dss_one (ds_ret (de_callN rfl rfl takesN (n_do_rest T) hr (by decide) rfl (da_cons (de_v (i := 4) rfl (.inl rfl)) (da_cons (de_callN rfl rfl takesN (n_level_of T) hr (by decide) rfl (da_cons (de_v (i := 4) rfl (.inl rfl)) (da_cons (de_v (i := 2) rfl (.inl rfl)) da_nil))) (da_cons (de_v (i := 3) rfl (.inl rfl)) da_nil)))))))))

theorem n_shows_plan {P : Program} {w : World} {C : Cs} {base : Heap} (T : Tp C base) : Dn P w C base "shows_plan" 4 7 (f_shows_plan) := by
  obtain ⟨fd, F⟩ := T.d_shows_plan
  exact Dn.mk' F sc_shows_plan T.g_shows_plan rfl (fun _ _ _ _ _ _ us hl => match us, hl with | [_, _, _, _], _ => rfl) fun A outer s H E hr =>
    (dss_cons (ds_expr (de_callN rfl rfl takesN (n_need_share T) hr (by decide) rfl (da_cons (de_v (i := 0) rfl (.inr (.inl rfl))) (da_cons (de_v (i := 1) rfl (.inl rfl)) (da_cons (de_v (i := 2) rfl (.inl rfl)) da_nil))))) (dss_cons (ds_if (dw_dt (dw_or (dt_not (dt_tru rfl (de_isi rfl rfl T.b_isinstance rfl T.b_tuple (by decide +kernel) (de_v (i := 3) rfl (.inl rfl))))) (dw_or (dt_ne rfl hr (de_callB call_len on_len rfl T.b_len boot_len (da_cons (de_v (i := 3) rfl (.inl rfl)) da_nil)) de_int) (dw_or1 (dt_not (dt_tru rfl (de_callN rfl rfl takesN (n_is_ratio T) hr (by decide) rfl (da_cons (de_ix rfl (de_v (i := 3) rfl (.inl rfl)) de_int (fun _ _ => rfl)) da_nil)))))))) (dss_one (ds_ret de_bl)) dss_nil) (dss_cons (ds_asg (de_v (i := 3) rfl (.inl rfl)) (dg_tup rfl rfl (dgs_cons (dg_name (i := 4) sc_shows_plan.nd rfl (.inl rfl)) (dgs_cons (dg_name (i := 5) sc_shows_plan.nd rfl (.inl rfl)) (dgs_cons (dg_name (i := 6) sc_shows_plan.nd rfl (.inl rfl)) (dgs_cons (dg_name (i := 7) sc_shows_plan.nd rfl (.inl rfl)) dgs_nil)))))) (dss_cons (ds_if (dw_dt (dw_or (dt_not (dt_tru rfl (de_allG (own := [("one", 8)]) (ix := [8]) hr rfl T.b_all T.t_shows_plan T.p_shows_plan rfl ⟨blkOk_by (by kernel_rfl), rfl, by decide +kernel, rfl⟩ (by decide +kernel) sc_shows_plan.nd (di_seq rfl (de_tup (da_cons (de_v (i := 4) rfl (.inl rfl)) (da_cons (de_v (i := 5) rfl (.inl rfl)) (da_cons (de_v (i := 6) rfl (.inl rfl)) da_nil))))) (fun _ _ _ _ _ _ => (dg_name (i := 8) sc_shows_plan.nd rfl (.inl rfl))) (fun _ _ _ _ _ _ => dts_nil) (fun _ _ _ _ _ _ => (de_callN rfl rfl takes0 (n_are_flows T) (roomG hr) (by decide) rfl (da_cons (de_v (i := 0) rfl (.inr (.inr rfl))) (da_cons (de_v (i := 8) rfl (.inl rfl)) da_nil))))))) (dw_or1 (dt_ne rfl hr (de_callN rfl rfl takesN (n_sum_of T) hr (by decide) rfl (da_cons (de_callTy call_list_of on_list rfl T.b_list (by decide +kernel) (da_cons (de_v (i := 4) rfl (.inl rfl)) da_nil)) da_nil)) (de_v (i := 1) rfl (.inl rfl)))))) (dss_one (ds_ret de_bl)) dss_nil) (dss_cons (ds_if (dt_ne rfl hr (de_callN rfl rfl takesN (n_total_of T) hr (by decide) rfl (da_cons (de_v (i := 0) rfl (.inr (.inl rfl))) (da_cons (de_v (i := 4) rfl (.inl rfl)) da_nil))) (de_callN rfl rfl takesN (n_total_of T) hr (by decide) rfl (da_cons (de_v (i := 0) rfl (.inr (.inl rfl))) (da_cons (de_callN rfl rfl takesN (n_best_flows T) hr (by decide) rfl (da_cons (de_v (i := 0) rfl (.inr (.inl rfl))) (da_cons (de_v (i := 1) rfl (.inl rfl)) da_nil))) da_nil)))) (dss_one (ds_ret de_bl)) dss_nil) (dss_cons (ds_set (i := 9) sc_shows_plan.nd rfl (.inl rfl) (de_callN rfl rfl takesN (n_by T) hr (by decide) rfl (da_cons (de_v (i := 2) rfl (.inl rfl)) (da_cons (de_v (i := 1) rfl (.inl rfl)) da_nil)))) (dss_cons (ds_if (dw_dt (dw_or (dt_ne rfl hr (de_v (i := 5) rfl (.inl rfl)) (de_callTy call_tuple_of on_tuple rfl T.b_tuple (by decide +kernel) (da_cons (de_callN rfl rfl takesN (n_led_of T) hr (by decide) rfl (da_cons (de_v (i := 0) rfl (.inr (.inl rfl))) (da_cons (de_v (i := 4) rfl (.inl rfl)) (da_cons (de_v (i := 9) rfl (.inl rfl)) da_nil)))) da_nil))) (dw_or1 (dt_not (dt_tru rfl (de_callN rfl rfl takesN (n_rests_behind T) hr (by decide) rfl (da_cons (de_v (i := 0) rfl (.inr (.inl rfl))) (da_cons (de_v (i := 5) rfl (.inl rfl)) (da_cons (de_callN rfl rfl takesN (n_minus T) hr (by decide) rfl (da_cons (de_v (i := 1) rfl (.inl rfl)) (da_cons (de_v (i := 9) rfl (.inl rfl)) da_nil))) (da_cons (de_v (i := 6) rfl (.inl rfl)) da_nil)))))))))) (dss_one (ds_ret de_bl)) dss_nil) (dss_one (ds_ret (de_eq rfl hr (de_callN rfl rfl takesN (n_total_of T) hr (by decide) rfl (da_cons (de_v (i := 0) rfl (.inr (.inl rfl))) (da_cons (de_dn (dn_lc (own := [("one", 8), ("other", 10)]) (ix := [8, 10]) rfl sc_shows_plan.nd (di_zip rfl rfl T.b_zip (de_v (i := 5) rfl (.inl rfl)) (de_v (i := 6) rfl (.inl rfl))) (blkOk_by (by kernel_rfl)) (by decide +kernel) (fun _ _ _ _ _ => (dg_tup rfl rfl (dgs_cons (dg_name (i := 8) sc_shows_plan.nd rfl (.inl rfl)) (dgs_cons (dg_name (i := 10) sc_shows_plan.nd rfl (.inl rfl)) dgs_nil)))) (fun _ _ _ _ _ => dts_nil) (fun _ _ _ _ _ => (de_callN rfl rfl takes0 (n_plus T) hr (by decide) rfl (da_cons (de_v (i := 8) rfl (.inl rfl)) (da_cons (de_v (i := 10) rfl (.inl rfl)) da_nil)))))) da_nil))) (de_v (i := 7) rfl (.inl rfl))))))))))))

theorem n_law {P : Program} {w : World} {C : Cs} {base : Heap} {fd : FuncData} (T : Tp C base) (F : FunD C.K "law" "law" (defArgs s_law) (defBody s_law) (defScope s_law) [] [] (He.ga C.K "law") fd) :
    FnOk P w C.K C.mg base (L2.CX P w) 8 (He.ga C.K "law") fd ["_law_script"] (spD C 1 (f_law C)) := by
  exact fnL F sc_law rfl fun A outer s H E hr =>
    (dss_cons (ds_row (i := 1) (j := 0) (by decide) sc_law.nd rfl (.inl rfl) rfl (.inl rfl)) (dss_cons (ds_par (i := 2) (j := 3) rfl sc_law.nd rfl rfl (by decide) rfl rfl (by exact (da_cons (de_callN rfl rfl takesN (n_law_lanes T) hr (by decide) rfl (da_trk (i := 1) rfl (.inl rfl) da_nil)) (da_cons (de_callN rfl rfl takesN (n_law_demand T) hr (by decide) rfl (da_trk (i := 1) rfl (.inl rfl) da_nil)) da_nil))) rfl) (dss_cons (ds_set (i := 4) sc_law.nd rfl (.inl rfl) (de_callN rfl rfl takesN (n_law_pick T) hr (by decide) rfl (da_trk (i := 1) rfl (.inl rfl) (da_cons (de_lst (da_cons (de_tup (da_cons de_int (da_cons de_int da_nil))) (da_cons (de_tup (da_cons de_int (da_cons de_int da_nil))) (da_cons (de_tup (da_cons de_int (da_cons de_int da_nil))) (da_cons (de_tup (da_cons de_int (da_cons de_int da_nil))) (da_cons (de_callN rfl rfl takesN (n_law_ratio T) hr (by decide) rfl (da_cons (de_callN rfl rfl takesN (n_law_taken T) hr (by decide) rfl (da_trk (i := 1) rfl (.inl rfl) (da_cons de_int da_nil))) (da_cons de_int da_nil))) da_nil)))))) da_nil)))) (dss_cons (ds_set (i := 5) sc_law.nd rfl (.inl rfl) (de_callN rfl rfl takesN (n_leader_plan T) hr (by decide) rfl (da_cons (de_v (i := 2) rfl (.inl rfl)) (da_cons (de_v (i := 3) rfl (.inl rfl)) (da_cons (de_v (i := 4) rfl (.inl rfl)) da_nil))))) (dss_cons (ds_if (dt_not (dt_tru rfl (de_callN rfl rfl takesN (n_law_is_plan T) hr (by decide) rfl (da_cons (de_v (i := 2) rfl (.inl rfl)) (da_cons (de_v (i := 3) rfl (.inl rfl)) (da_cons (de_v (i := 4) rfl (.inl rfl)) (da_cons (de_v (i := 5) rfl (.inl rfl)) da_nil))))))) (dss_one (ds_ret de_bl)) dss_nil) (dss_cons (ds_set (i := 6) sc_law.nd rfl (.inl rfl) (de_callN rfl rfl takesN (n_law_whole T) hr (by decide) rfl (da_cons (de_v (i := 2) rfl (.inl rfl)) (da_cons (de_ix rfl (de_v (i := 5) rfl (.inl rfl)) de_int (fun _ _ => rfl)) da_nil)))) (dss_cons (ds_if (dw_dt (dw_or (dt_tru rfl (de_callN rfl rfl takesN (n_law_less T) hr (by decide) rfl (da_cons (de_v (i := 6) rfl (.inl rfl)) (da_cons (de_callN rfl rfl takesN (n_law_by T) hr (by decide) rfl (da_cons (de_v (i := 4) rfl (.inl rfl)) (da_cons (de_ix rfl (de_v (i := 5) rfl (.inl rfl)) de_int (fun _ _ => rfl)) da_nil))) da_nil)))) (dw_or1 (dt_tru rfl (de_callN rfl rfl takesN (n_law_less T) hr (by decide) rfl (da_cons (de_ix rfl (de_v (i := 5) rfl (.inl rfl)) de_int (fun _ _ => rfl)) (da_cons (de_v (i := 6) rfl (.inl rfl)) da_nil))))))) (dss_one (ds_ret de_bl)) dss_nil) (dss_cons (ds_asg (de_v (i := 5) rfl (.inl rfl)) (dg_tup rfl rfl (dgs_cons (dg_name (i := 7) sc_law.nd rfl (.inl rfl)) (dgs_cons (dg_name (i := 8) sc_law.nd rfl (.inl rfl)) (dgs_cons (dg_name (i := 9) sc_law.nd rfl (.inl rfl)) (dgs_cons (dg_name (i := 10) sc_law.nd rfl (.inl rfl)) dgs_nil)))))) (dss_cons (ds_par (i := 11) (j := 12) rfl sc_law.nd rfl rfl (by decide) rfl rfl (by exact (da_cons (de_callN rfl rfl takesN (n_law_taken T) hr (by decide) rfl (da_trk (i := 1) rfl (.inl rfl) (da_cons (de_callB call_len on_len rfl T.b_len boot_len (da_cons (de_v (i := 2) rfl (.inl rfl)) da_nil)) da_nil))) (da_cons (de_callN rfl rfl takesN (n_law_pick T) hr (by decide) rfl (da_trk (i := 1) rfl (.inl rfl) (da_cons (de_lst (da_cons (de_tup (da_cons de_int (da_cons de_int da_nil))) (da_cons (de_tup (da_cons de_int (da_cons de_int da_nil))) (da_cons (de_tup (da_cons (de_neg de_int) (da_cons de_int da_nil))) da_nil)))) da_nil))) da_nil))) rfl) (dss_cons (ds_setO (i := 13) sc_law.nd rfl (.inl rfl) (dn_lst (da_cons (de_v (i := 5) rfl (.inl rfl)) (da_cons (de_callTy call_list_of on_list rfl T.b_list (by decide +kernel) (da_cons (de_v (i := 5) rfl (.inl rfl)) da_nil)) (da_cons (de_slice rfl (de_v (i := 5) rfl (.inl rfl)) do_none (do_some de_int)) (da_cons (de_add rfl (de_v (i := 5) rfl (.inl rfl)) (de_tup (da_cons de_int da_nil))) (da_cons (de_tup (da_cons (de_v (i := 8) rfl (.inl rfl)) (da_cons (de_v (i := 7) rfl (.inl rfl)) (da_cons (de_v (i := 9) rfl (.inl rfl)) (da_cons (de_v (i := 10) rfl (.inl rfl)) da_nil))))) (da_cons (de_tup (da_cons (de_v (i := 7) rfl (.inl rfl)) (da_cons (de_v (i := 9) rfl (.inl rfl)) (da_cons (de_v (i := 8) rfl (.inl rfl)) (da_cons (de_v (i := 10) rfl (.inl rfl)) da_nil))))) (da_cons (de_tup (da_cons (de_v (i := 7) rfl (.inl rfl)) (da_cons (de_v (i := 8) rfl (.inl rfl)) (da_cons (de_v (i := 9) rfl (.inl rfl)) (da_cons de_int da_nil))))) (da_cons de_non (da_cons (de_tup da_nil) (da_cons de_int (da_cons de_dnew da_nil))))))))))))) (dss_cons (ds_app (i := 13) rfl (.inl rfl) (de_tup (da_cons (de_v (i := 7) rfl (.inl rfl)) (da_cons (de_v (i := 8) rfl (.inl rfl)) (da_cons (de_v (i := 9) rfl (.inl rfl)) (da_cons (de_callN rfl rfl takesN (n_law_plus T) hr (by decide) rfl (da_cons (de_v (i := 10) rfl (.inl rfl)) (da_cons (de_tup (da_cons de_int (da_cons de_int da_nil))) da_nil))) da_nil))))) (hp := fun t h => pe_bm PySem.F.plainAttrs_list PySem.F.slot_list_append PySem.F.type_list_append mt_append (pe_var (i := 13) rfl (.inl rfl)) h)) (dss_cons (ds_for ownsN rfl (di_range1 rfl T.b_range (de_callB call_len on_len rfl T.b_len boot_len (da_cons (de_v (i := 2) rfl (.inl rfl)) da_nil))) (dg_name (i := 14) sc_law.nd rfl (.inl rfl)) (dss_cons (ds_for ownsN rfl (di_range1 rfl T.b_range de_int) (dg_name (i := 15) sc_law.nd rfl (.inl rfl)) (dss_cons (ds_setO (i := 16) sc_law.nd rfl (.inl rfl) (dn_listOf rfl rfl T.b_list (de_ix rfl (de_v (i := 5) rfl (.inl rfl)) (de_v (i := 15) rfl (.inl rfl)) (fun _ _ => rfl)))) (dss_cons (ds_setIx (i := 16) rfl (.inl rfl) (de_callN rfl rfl takesN (n_law_plus T) hr (by decide) rfl (da_cons (de_oix (i := 16) rfl rfl (.inl rfl) (de_v (i := 11) rfl (.inl rfl)) (fun _ _ => rfl)) (da_cons (de_v (i := 12) rfl (.inl rfl)) da_nil))) (de_v (i := 11) rfl (.inl rfl)) (fun _ _ _ h1 h2 h3 => ps_asg h3 (pg_sub h1 h2 set_list))) (dss_cons (ds_setIx (i := 16) rfl (.inl rfl) (de_callN rfl rfl takesN (n_law_plus T) hr (by decide) rfl (da_cons (de_oix (i := 16) rfl rfl (.inl rfl) (de_v (i := 14) rfl (.inl rfl)) (fun _ _ => rfl)) (da_cons (de_tup (da_cons (de_sub de_int (de_ix rfl (de_v (i := 12) rfl (.inl rfl)) de_int (fun _ _ => rfl))) (da_cons (de_ix rfl (de_v (i := 12) rfl (.inl rfl)) de_int (fun _ _ => rfl)) da_nil))) da_nil))) (de_v (i := 14) rfl (.inl rfl)) (fun _ _ _ h1 h2 h3 => ps_asg h3 (pg_sub h1 h2 set_list))) (dss_fz 16 (dss_one (ds_app (i := 13) rfl (.inl rfl) (de_add rfl (de_add rfl (de_slice rfl (de_v (i := 5) rfl (.inl rfl)) do_none (do_some (de_v (i := 15) rfl (.inl rfl)))) (de_tup (da_cons (de_callTy call_tuple_of on_tuple rfl T.b_tuple (by decide +kernel) (da_cons (de_v (i := 16) rfl (.inl rfl)) da_nil)) da_nil))) (de_slice rfl (de_v (i := 5) rfl (.inl rfl)) (do_some (de_add rfl (de_v (i := 15) rfl (.inl rfl)) de_int)) do_none)) (hp := fun t h => pe_bm PySem.F.plainAttrs_list PySem.F.slot_list_append PySem.F.type_list_append mt_append (pe_var (i := 13) rfl (.inl rfl)) h)))))))) (dss_one (ds_app (i := 13) rfl (.inl rfl) (de_tup (da_cons (de_v (i := 7) rfl (.inl rfl)) (da_cons (de_v (i := 8) rfl (.inl rfl)) (da_cons (de_add rfl (de_add rfl (de_slice rfl (de_v (i := 9) rfl (.inl rfl)) do_none (do_some (de_v (i := 14) rfl (.inl rfl)))) (de_tup (da_cons de_int da_nil))) (de_slice rfl (de_v (i := 9) rfl (.inl rfl)) (do_some (de_add rfl (de_v (i := 14) rfl (.inl rfl)) de_int)) do_none)) (da_cons (de_v (i := 10) rfl (.inl rfl)) da_nil))))) (hp := fun t h => pe_bm PySem.F.plainAttrs_list PySem.F.slot_list_append PySem.F.type_list_append mt_append (pe_var (i := 13) rfl (.inl rfl)) h))))) (dss_fz 13 (dss_cons (ds_for ownsN rfl (di_seq rfl (de_v (i := 13) rfl (.inl rfl))) (dg_name (i := 17) sc_law.nd rfl (.inl rfl)) (dss_one (ds_if (dt_not (dt_tru rfl (de_callN rfl rfl takesN (n_law_alike T 3) hr (by decide) rfl (da_cons (de_callN rfl rfl takesN (n_shows_plan T) hr (by decide) rfl (da_cons (de_v (i := 2) rfl (.inl rfl)) (da_cons (de_v (i := 3) rfl (.inl rfl)) (da_cons (de_v (i := 4) rfl (.inl rfl)) (da_cons (de_v (i := 17) rfl (.inl rfl)) da_nil))))) (da_cons (de_callN rfl rfl takesN (n_law_is_plan T) hr (by decide) rfl (da_cons (de_v (i := 2) rfl (.inl rfl)) (da_cons (de_v (i := 3) rfl (.inl rfl)) (da_cons (de_v (i := 4) rfl (.inl rfl)) (da_cons (de_v (i := 17) rfl (.inl rfl)) da_nil))))) da_nil))))) (dss_one (ds_ret de_bl)) dss_nil))) (dss_one (ds_ret de_bl))))))))))))))))
end Tr

namespace Gm
abbrev Wy := List Int
abbrev Row := List Int × List Int
def okE (ns : List Int) (e : Int × Int) : Bool := decide (ns.getLast? = some e.1) && !decide (e.2 ∈ ns)
def exP (w ns : List Int) (p : (Int × Int) × Nat) : Row := (w ++ [(p.2 : Int)], ns ++ [p.1.2])
def extsP (l : List ((Int × Int) × Nat)) (w ns : List Int) : List Row := (l.filter fun p => okE ns p.1).map (exP w ns)
def exts (E : List (Int × Int)) (r : Row) : List Row := extsP E.zipIdx r.1 r.2
def ext1 (E : List (Int × Int)) (rows : List Row) : List Row := rows.flatMap (exts E)
def isE (b : Int) (r : Row) : Bool := decide (r.2.getLast? = some b)
def fin (b : Int) (rows : List Row) : List Wy := (rows.filter (isE b)).map (·.1)
def rest (b : Int) (rows : List Row) : List Row := rows.filter fun r => !isE b r
def stepR (E : List (Int × Int)) (b : Int) (rows : List Row) : List Row := rest b (ext1 E rows)
def itR (E : List (Int × Int)) (b : Int) : Nat → List Row → List Row
  | 0, rows => rows
  | j + 1, rows => itR E b j (stepR E b rows)
def rows0 (a : Int) : List Row := [([], [a])]
theorem itR_succ {E b j rows} : itR E b (j + 1) rows = stepR E b (itR E b j rows) := by
  induction j generalizing rows with
  | zero => rfl
  | succ j ih => exact ih
def tgt (E : List (Int × Int)) (k : Int) : Int := (E.getD k.toNat (0, 0)).2
structure ROk (E : List (Int × Int)) (n : Nat) (a : Int) (j : Nat) (r : Row) : Prop where
  wl : r.1.length = j
  nl : r.2 = a :: r.1.map (tgt E)
  nd : r.2.Nodup
  rg : ∀ x ∈ r.2, 0 ≤ x ∧ x < n
  ix : ∀ k ∈ r.1, 0 ≤ k ∧ k < E.length
theorem nodup_le {l T : List Int} (h : l.Nodup) (hs : ∀ x ∈ l, x ∈ T) : l.length ≤ T.length := by
  induction l generalizing T with
  | nil => simp
  | cons x l ih =>
    rw [List.nodup_cons] at h
    have m : x ∈ T := hs x (by simp)
    have := ih (T := T.erase x) h.2 fun y hy => (List.mem_erase_of_ne (fun z => h.1 (by rw [← z]; exact hy))).mpr (hs y (by simp [hy]))
    rw [List.length_erase_of_mem m] at this
    have := List.length_pos_of_mem m
    simp only [List.length_cons]
    omega
theorem ROk.lt {E : List (Int × Int)} {n : Nat} {a : Int} {j : Nat} {r : Row} (h : ROk E n a j r) : j < n := by
  have h1 := nodup_le (T := (List.range n).map fun (i : Nat) => (i : Int)) h.nd fun x hx => by
    obtain ⟨h0, h1⟩ := h.rg x hx
    refine List.mem_map.mpr ⟨x.toNat, List.mem_range.mpr (by omega), by omega⟩
  rw [h.nl] at h1
  simp [h.wl] at h1
  omega
theorem ROk.ext {E : List (Int × Int)} {n : Nat} {a : Int} {j : Nat} {r : Row} {p} (h : ROk E n a j r) (hp : p ∈ E.zipIdx) (hE : ∀ e ∈ E, 0 ≤ e.2 ∧ e.2 < n) (ho : okE r.2 p.1 = true) : ROk E n a (j + 1) (exP r.1 r.2 p) := by
  obtain ⟨e, k⟩ := p
  have hk := List.mem_zipIdx hp
  simp at hk
  obtain ⟨k1, he⟩ := hk
  have t1 : tgt E (k : Int) = e.2 := by simp [tgt, k1, he]
  simp only [okE, Bool.and_eq_true, decide_eq_true_eq, Bool.not_eq_true', decide_eq_false_iff_not] at ho
  refine ⟨by simp [exP, h.wl], ?_, ?_, ?_, ?_⟩
  · show r.2 ++ [e.2] = a :: (r.1 ++ [(k : Int)]).map (tgt E)
    rw [h.nl]
    simp [t1]
  · show (r.2 ++ [e.2]).Nodup
    rw [List.nodup_append]
    refine ⟨h.nd, by simp, fun x hx y hy => ?_⟩
    simp at hy
    rw [hy]
    exact fun z => ho.2 (z ▸ hx)
  · intro x hx
    rcases List.mem_append.mp hx with hx | hx
    · exact h.rg x hx
    · simp at hx
      rw [hx]
      rw [he]
      exact hE _ (List.getElem_mem k1)
  · intro x hx
    rcases List.mem_append.mp hx with hx | hx
    · exact h.ix x hx
    · simp at hx
      rw [hx]
      omega
end Gm

namespace Tr
open PySem PySem.Spec L2
variable [ProtC]
inductive Pl : Nat → D → Prop
  | int {n : Nat} {i : Int} : Pl n (.int i)
  | tup {n : Nat} {ds : List D} : (∀ x ∈ ds, Pl n x) → Pl (n + 1) (.tuple ds)
  | lst {n : Nat} {ds : List D} : (∀ x ∈ ds, Pl n x) → Pl (n + 1) (.list ds)
theorem Pl.lay : ∀ {n : Nat} {d : D}, Pl n d → d.canLay0 = true ∧ d.depth ≤ n := by
  have all : ∀ {n : Nat} {ds : List D}, (∀ x ∈ ds, x.canLay0 = true ∧ x.depth ≤ n) → PyData.canLayAll0 ds = true ∧ PyData.depthAll ds ≤ n := by
    intro n ds
    induction ds with
    | nil => intro _; exact ⟨by simp [PyData.canLayAll0], by simp [PyData.depthAll]⟩
    | cons d ds ih =>
      intro h
      obtain ⟨a, b⟩ := h d (by simp)
      obtain ⟨a2, b2⟩ := ih fun x hx => h x (by simp [hx])
      exact ⟨by simp [PyData.canLayAll0, a, a2], by simp only [PyData.depthAll]; omega⟩
  intro n d h
  induction h with
  | int => exact ⟨by simp [PyData.canLay0], by simp [PyData.depth]⟩
  | tup _ ih =>
    obtain ⟨a, b⟩ := all ih
    exact ⟨by simpa [PyData.canLay0] using a, by simp only [PyData.depth]; omega⟩
  | lst _ ih =>
    obtain ⟨a, b⟩ := all ih
    exact ⟨by simpa [PyData.canLay0] using a, by simp only [PyData.depth]; omega⟩
theorem Pl.shaped {n : Nat} {d : D} (h : Pl n d) (hn : n ≤ 64) : SeqAt.shaped d = true := by
  obtain ⟨a, b⟩ := h.lay
  unfold SeqAt.shaped
  rw [a, decide_eq_true (by omega)]
  rfl
theorem Pl.mono {n m : Nat} {d : D} (h : Pl n d) (hm : n ≤ m) : Pl m d := by
  induction h generalizing m with
  | int => exact .int
  | tup _ ih =>
    obtain ⟨k, rfl⟩ : ∃ k, m = k + 1 := ⟨m - 1, by omega⟩
    exact .tup fun x hx => ih x hx (by omega)
  | lst _ ih =>
    obtain ⟨k, rfl⟩ : ∃ k, m = k + 1 := ⟨m - 1, by omega⟩
    exact .lst fun x hx => ih x hx (by omega)
theorem eqvAll_iff {P Q : D → Prop} (h : ∀ a, P a → ∀ b, Q b → (PyData.eqv a b = true ↔ a = b)) : ∀ {as bs : List D}, (∀ x ∈ as, P x) → (∀ x ∈ bs, Q x) → (PyData.eqvAll as bs = true ↔ as = bs) := by
  intro as
  induction as with
  | nil => intro bs _ _; cases bs <;> simp [PyData.eqvAll]
  | cons a as ih =>
    intro bs ha hb
    cases bs with
    | nil => simp [PyData.eqvAll]
    | cons b bs =>
      simp only [PyData.eqvAll, Bool.and_eq_true, List.cons.injEq]
      rw [h a (ha a (by simp)) b (hb b (by simp)), ih (fun x hx => ha x (by simp [hx])) fun x hx => hb x (by simp [hx])]
theorem Pl.eqv {n : Nat} {a : D} (ha : Pl n a) : ∀ {m : Nat} {b : D}, Pl m b → (PyData.eqv a b = true ↔ a = b) := by
  induction ha with
  | int =>
    intro m b hb
    cases hb <;> simp [PyData.eqv]
  | tup h ih =>
    intro m b hb
    cases hb with
    | int => simp [PyData.eqv]
    | lst _ => simp [PyData.eqv]
    | @tup k es hb =>
      simp only [PyData.eqv, PyData.tuple.injEq]
      rename_i n ds
      exact eqvAll_iff (P := fun x => x ∈ ds) (Q := fun b => Pl k b) (fun a h1 b h2 => ih a h1 h2) (fun x hx => hx) (fun x hx => hb x hx)
  | lst h ih =>
    intro m b hb
    cases hb with
    | int => simp [PyData.eqv]
    | tup _ => simp [PyData.eqv]
    | @lst k es hb =>
      simp only [PyData.eqv, PyData.list.injEq]
      rename_i n ds
      exact eqvAll_iff (P := fun x => x ∈ ds) (Q := fun b => Pl k b) (fun a h1 b h2 => ih a h1 h2) (fun x hx => hx) (fun x hx => hb x hx)
theorem in_pic {α : Type} [BEq α] [LawfulBEq α] {f : α → D} {n : Nat} (hp : ∀ x, Pl n (f x)) (hf : ∀ x y, f x = f y → x = y) {x : α} {xs : List α} : ((xs.map f).any fun z => PyData.eqv z (f x)) = decide (x ∈ xs) := by
  rw [Bool.eq_iff_iff, List.any_eq_true, decide_eq_true_eq]
  constructor
  · rintro ⟨z, hz, he⟩
    obtain ⟨y, hy, rfl⟩ := List.mem_map.mp hz
    rw [hf y x (((hp y).eqv (hp x)).mp he)] at hy
    exact hy
  · intro h
    exact ⟨f x, List.mem_map.mpr ⟨x, h, rfl⟩, ((hp x).eqv (hp x)).mpr rfl⟩
theorem pl_tupI {w : List Int} : Pl 1 (tupI w) := .tup fun x hx => by
  obtain ⟨i, _, rfl⟩ := List.mem_map.mp hx
  exact .int
theorem map_inj {α β : Type} {f : α → β} (hf : ∀ x y, f x = f y → x = y) : ∀ {xs ys : List α}, xs.map f = ys.map f → xs = ys := by
  intro xs
  induction xs with
  | nil => intro ys h; cases ys with
    | nil => rfl
    | cons _ _ => cases h
  | cons x xs ih =>
    intro ys h
    cases ys with
    | nil => cases h
    | cons y ys =>
      simp only [List.map_cons, List.cons.injEq] at h
      rw [hf x y h.1, ih h.2]
theorem tupI_inj : ∀ x y : List Int, tupI x = tupI y → x = y := fun x y h => map_inj (fun a b e => by cases e; rfl) (PyData.tuple.inj h)
def stD (st : List (List Int)) : D := .tuple (st.map tupI)
theorem pl_stD {st : List (List Int)} : Pl 2 (stD st) := .tup fun x hx => by
  obtain ⟨i, _, rfl⟩ := List.mem_map.mp hx
  exact pl_tupI
theorem stD_inj : ∀ x y : List (List Int), stD x = stD y → x = y := fun x y h => map_inj tupI_inj (PyData.tuple.inj h)
theorem pl_mapL {α : Type} {f : α → D} {n : Nat} {xs : List α} (h : ∀ x, Pl n (f x)) : Pl (n + 1) (.list (xs.map f)) := .lst fun x hx => by
  obtain ⟨y, _, rfl⟩ := List.mem_map.mp hx
  exact h y
@[simp] theorem in_int {x : Int} {xs : List Int} : ((xs.map PyData.int).any fun z => PyData.eqv z (.int x)) = decide (x ∈ xs) := in_pic (n := 0) (f := PyData.int) (fun _ => .int) fun a b e => by cases e; rfl
@[simp] theorem in_tup {x : List Int} {xs : List (List Int)} : ((xs.map tupI).any fun z => PyData.eqv z (tupI x)) = decide (x ∈ xs) := in_pic (n := 1) (fun _ => pl_tupI) tupI_inj
@[simp] theorem in_st {x : List (List Int)} {xs : List (List (List Int))} : ((xs.map stD).any fun z => PyData.eqv z (stD x)) = decide (x ∈ xs) := in_pic (n := 2) (fun _ => pl_stD) stD_inj
@[simp] theorem shaped_tupI {w : List Int} : SeqAt.shaped (tupI w) = true := pl_tupI.shaped (by omega)
@[simp] theorem shaped_stD {w : List (List Int)} : SeqAt.shaped (stD w) = true := pl_stD.shaped (by omega)
@[simp] theorem shaped_ints {w : List Int} : SeqAt.shaped (.list (w.map .int)) = true := (pl_mapL (n := 0) fun _ => .int).shaped (by omega)
@[simp] theorem shaped_tups {w : List (List Int)} : SeqAt.shaped (.list (w.map tupI)) = true := (pl_mapL fun _ => pl_tupI).shaped (by omega)
@[simp] theorem shaped_sts {w : List (List (List Int))} : SeqAt.shaped (.list (w.map stD)) = true := (pl_mapL fun _ => pl_stD).shaped (by omega)
theorem seqM {F G : SF} {δ : De} {k : Out → Prop} {w : Exn → Prop} (P : De → Prop) (h1 : (F δ).run (fun o => ∃ δ', o = .nx δ' ∧ P δ') w) (h2 : ∀ δ', P δ' → (G δ').run k w) : (sSeq F G δ).run k w := by
  rw [rw_seq]
  simp only [run_bind]
  refine (F δ).mono (fun o ho => ?_) (fun _ z => z) h1
  obtain ⟨δ', rfl, h⟩ := ho
  exact h2 δ' h
theorem while_run {c : TF} {b : SF} {δ : De} {k : Out → Prop} {w : Exn → Prop} (I : Nat → De → Prop) (m : Nat) (h0 : I m δ)
    (h : ∀ m δ, I m δ → (c δ).run (fun t => if t = true then (b δ).run (fun o => match o with
      | .nx δ' => ∃ m', m' < m ∧ I m' δ'
      | .ct δ' => ∃ m', m' < m ∧ I m' δ'
      | .bk δ' => k (.nx δ')
      | .rt d => k (.rt d)) w else k (.nx δ)) w) : (sWhile c b δ).run k w := ⟨I, ⟨m, h0⟩, h⟩
theorem line1 : (1 : Nat) ≤ sizeLine := by decide
theorem line2 : (2 : Nat) ≤ sizeLine := by decide
theorem lineN {n : Nat} (h : n ≤ 16777216) : n ≤ sizeLine := by show n ≤ 16777216; exact h
theorem lineL {n : Nat} (h : n < 16777216) : n < sizeLine := by show n < 16777216; exact h
@[simp] theorem at0 {A : Type} {x : A} {l : List A} : atI (x :: l) 0 = some x := by rw [show (0 : Int) = ((0 : Nat) : Int) from rfl, atI_nat]; rfl
@[simp] theorem at1 {A : Type} {x y : A} {l : List A} : atI (x :: y :: l) 1 = some y := by rw [show (1 : Int) = ((1 : Nat) : Int) from rfl, atI_nat]; rfl
@[simp] theorem at2 {A : Type} {x y z : A} {l : List A} : atI (x :: y :: z :: l) 2 = some z := by rw [show (2 : Int) = ((2 : Nat) : Int) from rfl, atI_nat]; rfl
@[simp] theorem arSl_d {d : D} : arSl (.d d) = .p d := rfl
theorem seqM' {F G : SF} {δ : De} {k : Out → Prop} {w : Exn → Prop} (P : De → Prop) (h1 : (F δ).run (fun o => match o with
    | .nx δ' => P δ'
    | o => k o) w) (h2 : ∀ δ', P δ' → (G δ').run k w) : (sSeq F G δ).run k w := by
  rw [rw_seq]
  simp only [run_bind]
  refine (F δ).mono (fun o ho => ?_) (fun _ z => z) h1
  cases o with
  | nx δ' => exact h2 δ' ho
  | _ => exact ho
end Tr

namespace Lk
def sm : Nat → (Nat → Rat) → Rat
  | 0, _ => 0
  | n + 1, f => sm n f + f n
theorem sm_congr {n : Nat} {f g : Nat → Rat} (h : ∀ i, i < n → f i = g i) : sm n f = sm n g := by
  induction n with
  | zero => rfl
  | succ n ih => rw [sm, sm, ih fun i hi => h i (by omega), h n (by omega)]
theorem sm_add {n : Nat} {f g : Nat → Rat} : sm n (fun i => f i + g i) = sm n f + sm n g := by
  induction n with
  | zero => simp only [sm]; grind
  | succ n ih => rw [sm, sm, sm, ih]; grind
theorem sm_sub {n : Nat} {f g : Nat → Rat} : sm n (fun i => f i - g i) = sm n f - sm n g := by
  induction n with
  | zero => simp only [sm]; grind
  | succ n ih => rw [sm, sm, sm, ih]; grind
theorem sm_neg {n : Nat} {f : Nat → Rat} : sm n (fun i => - f i) = - sm n f := by
  induction n with
  | zero => simp [sm]
  | succ n ih => rw [sm, sm, ih]; grind
theorem sm_mul {n : Nat} {c : Rat} {f : Nat → Rat} : sm n (fun i => c * f i) = c * sm n f := by
  induction n with
  | zero => simp [sm]
  | succ n ih => rw [sm, sm, ih]; grind
theorem sm_mulr {n : Nat} {c : Rat} {f : Nat → Rat} : sm n (fun i => f i * c) = sm n f * c := by
  induction n with
  | zero => simp [sm]
  | succ n ih => rw [sm, sm, ih]; grind
theorem sm_zero {n : Nat} {f : Nat → Rat} (h : ∀ i, i < n → f i = 0) : sm n f = 0 := by
  induction n with
  | zero => rfl
  | succ n ih => rw [sm, ih fun i hi => h i (by omega), h n (by omega)]; grind
theorem sm_swap {n m : Nat} {f : Nat → Nat → Rat} : sm n (fun i => sm m fun j => f i j) = sm m fun j => sm n fun i => f i j := by
  induction n with
  | zero => rw [sm_zero (n := m) (f := fun j => sm 0 fun i => f i j) fun _ _ => rfl]; rfl
  | succ n ih => rw [sm, ih, ← sm_add]; rfl
theorem sm_one {n p : Nat} {f : Nat → Rat} (hp : p < n) (h : ∀ i, i < n → i ≠ p → f i = 0) : sm n f = f p := by
  induction n with
  | zero => omega
  | succ n ih =>
    rw [sm]
    by_cases e : p = n
    · subst e
      rw [sm_zero fun i hi => h i (by omega) (by omega)]; grind
    · rw [ih (by omega) (fun i hi hn => h i (by omega) hn), h n (by omega) (fun z => e z.symm)]; grind
theorem sm_out {n p : Nat} {f : Nat → Rat} (hp : p < n) : sm n f = f p + sm n fun i => if i = p then 0 else f i := by
  have := sm_one (n := n) (p := p) (f := fun i => if i = p then f i else 0) hp (fun i _ h => by simp [h])
  simp only [if_true] at this
  rw [← this, ← sm_add]
  refine sm_congr fun i _ => ?_
  by_cases h : i = p <;> simp [h] <;> grind
theorem sm_nn {n : Nat} {f : Nat → Rat} (h : ∀ i, i < n → 0 ≤ f i) : 0 ≤ sm n f := by
  induction n with
  | zero => exact Rat.le_refl
  | succ n ih => rw [sm]; have := ih fun i hi => h i (by omega); have := h n (by omega); grind
theorem sm_le {n : Nat} {f g : Nat → Rat} (h : ∀ i, i < n → f i ≤ g i) : sm n f ≤ sm n g := by
  induction n with
  | zero => exact Rat.le_refl
  | succ n ih => rw [sm, sm]; have := ih fun i hi => h i (by omega); have := h n (by omega); grind
theorem sm_nn_zero {n : Nat} {f : Nat → Rat} (h : ∀ i, i < n → 0 ≤ f i) (e : sm n f = 0) : ∀ i, i < n → f i = 0 := by
  induction n with
  | zero => intro i hi; omega
  | succ n ih =>
    rw [sm] at e
    have h1 : 0 ≤ sm n f := sm_nn fun i hi => h i (by omega)
    have h2 := h n (by omega)
    intro i hi
    by_cases c : i = n
    · subst c; grind
    · exact ih (fun i hi => h i (by omega)) (by grind) i (by omega)
theorem sm_split {n m : Nat} {f : Nat → Rat} : sm (n + m) f = sm n f + sm m fun i => f (n + i) := by
  induction m with
  | zero => simp [sm]; grind
  | succ m ih => rw [← Nat.add_assoc, sm, sm, ih]; grind
end Lk

namespace Lk
def lp : List Nat → (Nat → Rat) → Prop
  | [], _ => False
  | j :: js, v => 0 < v j ∨ (v j = 0 ∧ lp js v)
theorem lp_congr {K : List Nat} {u v : Nat → Rat} (h : ∀ j ∈ K, u j = v j) (a : lp K u) : lp K v := by
  induction K with
  | nil => exact a
  | cons j K ih =>
    have e := h j (by simp)
    rcases a with a | ⟨a, b⟩
    · exact .inl (by grind)
    · exact .inr ⟨by grind, ih (fun i hi => h i (by simp [hi])) b⟩
theorem lp_add {K : List Nat} {u v : Nat → Rat} (a : lp K u) (b : lp K v) : lp K fun j => u j + v j := by
  induction K with
  | nil => exact a
  | cons j K ih =>
    rcases a with a | ⟨a, a'⟩ <;> rcases b with b | ⟨b, b'⟩
    · exact .inl (by grind)
    · exact .inl (by grind)
    · exact .inl (by grind)
    · exact .inr ⟨by grind, ih a' b'⟩
theorem lp_mul {K : List Nat} {u : Nat → Rat} {c : Rat} (hc : 0 < c) (a : lp K u) : lp K fun j => c * u j := by
  induction K with
  | nil => exact a
  | cons j K ih =>
    rcases a with a | ⟨a, a'⟩
    · exact .inl (Rat.mul_pos hc a)
    · exact .inr ⟨by show c * u j = 0; rw [a]; grind, ih a'⟩
theorem lp_anti {K : List Nat} {u : Nat → Rat} (a : lp K u) : ¬ lp K fun j => - u j := by
  induction K with
  | nil => exact id
  | cons j K ih =>
    rcases a with a | ⟨a, a'⟩
    · rintro (b | ⟨b, _⟩) <;> grind
    · rintro (b | ⟨_, b⟩)
      · grind
      · exact ih a' b
theorem lp_nn {K : List Nat} {u : Nat → Rat} (h : ∀ j ∈ K, 0 ≤ u j) : ¬ lp K fun j => - u j := by
  induction K with
  | nil => exact id
  | cons j K ih =>
    have := h j (by simp)
    rintro (b | ⟨_, b⟩)
    · grind
    · exact ih (fun i hi => h i (by simp [hi])) b

structure Tab (n : Nat) (N T : Nat → Nat → Rat) (b : Nat → Nat) : Prop where
  unit : ∀ i, i < n → ∀ k, k < n → T k (b i) = if k = i then 1 else 0
  left : ∀ i, i < n → ∀ j, T i j = sm n fun k => T i k * N k j
  right : ∀ i, i < n → ∀ j, N i j = sm n fun k => N i (b k) * T k j
def piv (T : Nat → Nat → Rat) (p c : Nat) : Nat → Nat → Rat := fun i j => if i = p then T p j / T p c else T i j - T i c * (T p j / T p c)
def put (b : Nat → Nat) (p c : Nat) : Nat → Nat := fun i => if i = p then c else b i
section
variable {n p c : Nat} {N T T' : Nat → Nat → Rat} {b b' : Nat → Nat}
theorem piv_p {j : Nat} : piv T p c p j = T p j / T p c := by unfold piv; rw [if_pos rfl]
theorem piv_n {i j : Nat} (h : i ≠ p) : piv T p c i j = T i j - T i c * (T p j / T p c) := by unfold piv; rw [if_neg h]
theorem put_p : put b p c p = c := by unfold put; rw [if_pos rfl]
theorem put_n {i : Nat} (h : i ≠ p) : put b p c i = b i := by unfold put; rw [if_neg h]
theorem Tab.start (hb : ∀ i, i < n → ∀ j, j < n → N i j = if i = j then 1 else 0) : Tab n N N id where
  unit i hi k hk := hb k hk i hi
  left i hi j := by
    rw [sm_one hi fun k hk h => by rw [hb i hi k hk, if_neg (fun z => h z.symm)]; grind, hb i hi i hi]
    simp
  right i hi j := by
    simp only [id]
    rw [sm_one hi fun k hk h => by rw [hb i hi k hk, if_neg (fun z => h z.symm)]; grind, hb i hi i hi]
    simp
theorem Tab.inj (h : Tab n N T b) {i k : Nat} (hi : i < n) (hk : k < n) (e : b i = b k) : i = k := by
  have h1 := h.unit i hi k hk
  have h2 := h.unit k hk k hk
  rw [e, h2] at h1
  simp only [if_true] at h1
  by_cases z : k = i
  · exact z.symm
  · rw [if_neg z] at h1
    exact absurd h1 (by decide)
theorem Tab.piv (h : Tab n N T b) (hp : p < n) (hn : T p c ≠ 0) : Tab n N (piv T p c) (put b p c) where
  unit i hi k hk := by
    by_cases e : i = p
    · subst e
      rw [put_p]
      by_cases f : k = i
      · subst f
        rw [piv_p, if_pos rfl]; grind
      · rw [piv_n f, if_neg f]; grind
    · rw [put_n e]
      have h0 := h.unit i hi p hp
      rw [if_neg fun z => e z.symm] at h0
      by_cases f : k = p
      · subst f
        rw [piv_p, h0, if_neg fun z => e z.symm]; grind
      · rw [piv_n f, h0, h.unit i hi k hk]; grind
  left i hi j := by
    by_cases e : i = p
    · subst e
      rw [piv_p, h.left i hi j, Rat.div_def, ← sm_mulr]
      refine sm_congr fun k _ => ?_
      rw [piv_p]; grind
    · rw [piv_n e, h.left i hi j, h.left p hp j, Rat.div_def, ← sm_mulr, ← sm_mul, ← sm_sub]
      refine sm_congr fun k _ => ?_
      rw [piv_n e]; grind
  right i hi j := by
    have h1 := h.right i hi j
    have h2 := h.right i hi c
    rw [sm_out hp] at h1 h2
    rw [sm_out hp, put_p, piv_p]
    have e : (sm n fun k => if k = p then 0 else N i (put b p c k) * Lk.piv T p c k j) = (sm n fun k => if k = p then 0 else N i (b k) * T k j) - (sm n fun k => if k = p then 0 else N i (b k) * T k c) * (T p j / T p c) := by
      rw [← sm_mulr, ← sm_sub]
      refine sm_congr fun k _ => ?_
      by_cases z : k = p
      · simp [z]; grind
      · rw [if_neg z, if_neg z, if_neg z, put_n z, piv_n z]; grind
    rw [e]
    grind
def Sb (n : Nat) (b b' : Nat → Nat) : Prop := ∀ j, (∃ i, i < n ∧ b i = j) ↔ ∃ i, i < n ∧ b' i = j
theorem Sb.symm (h : Sb n b b') : Sb n b' b := fun j => (h j).symm
theorem Sb.refl : Sb n b b := fun _ => Iff.rfl
theorem Tab.same (h : Tab n N T b) (g : Tab n N T' b') (e : Sb n b b') {i i' : Nat} (hi : i < n) (hi' : i' < n) (hb : b i = b' i') (j : Nat) : T i j = T' i' j := by
  have h1 : T' i' j = sm n fun l => (sm n fun k => T' i' k * N k (b l)) * T l j := by
    rw [g.left i' hi' j]
    have : (sm n fun k => T' i' k * N k j) = sm n fun k => sm n fun l => T' i' k * (N k (b l) * T l j) := by
      refine sm_congr fun k hk => ?_
      rw [sm_mul, ← h.right k hk j]
    rw [this, sm_swap]
    refine sm_congr fun l _ => ?_
    rw [← sm_mulr]
    refine sm_congr fun k _ => ?_
    grind
  rw [h1]
  have h2 : ∀ l, l < n → (sm n fun k => T' i' k * N k (b l)) = if l = i then 1 else 0 := fun l hl => by
    rw [← g.left i' hi' (b l)]
    obtain ⟨l', hl', el⟩ := (e (b l)).mp ⟨l, hl, rfl⟩
    rw [← el, g.unit l' hl' i' hi']
    by_cases z : l = i
    · subst z
      rw [if_pos rfl, if_pos (g.inj hi' hl' (hb.symm.trans el.symm))]
    · rw [if_neg z, if_neg]
      intro q
      subst q
      exact z (h.inj hl hi (el.symm.trans hb.symm))
  rw [sm_one hi fun l hl z => by rw [h2 l hl, if_neg z]; grind, h2 i hi, if_pos rfl]
  grind
structure Lv (n : Nat) (K : List Nat) (T : Nat → Nat → Rat) (c p : Nat) : Prop where
  lt : p < n
  pos : 0 < T p c
  min : ∀ k, k < n → k ≠ p → 0 < T k c → lp K fun j => T k j / T k c - T p j / T p c
theorem Lv.uniq {K : List Nat} {q : Nat} (h : Lv n K T c p) (g : Lv n K T c q) : p = q := by
  by_cases e : p = q
  · exact e
  · have h1 := h.min q g.lt (fun z => e z.symm) g.pos
    have h2 := g.min p h.lt e h.pos
    exact absurd (lp_congr (fun j _ => by grind) h2) (lp_anti h1)
theorem Lv.same {K : List Nat} {q : Nat} (h : Tab n N T b) (g : Tab n N T' b') (e : Sb n b b') (l : Lv n K T c p) (hq : q < n) (hb : b p = b' q) : Lv n K T' c q := by
  have eq := h.same g e l.lt hq hb
  refine ⟨hq, by rw [← eq c]; exact l.pos, fun k hk hn hc => ?_⟩
  obtain ⟨k', hk', ek⟩ := (e (b' k)).mpr ⟨k, hk, rfl⟩
  have eqk := h.same g e hk' hk ek
  have hn' : k' ≠ p := by
    rintro rfl
    exact hn (g.inj hk hq (ek.symm.trans hb))
  have := l.min k' hk' hn' (by rw [eqk c]; exact hc)
  refine lp_congr (fun j _ => ?_) this
  rw [eqk j, eqk c, eq j, eq c]
def keys (n : Nat) : List Nat := (2 * n + 1) :: List.range n
theorem Lv.lex (l : Lv n (keys n) T c p) (hl : ∀ i, i < n → lp (keys n) (T i)) : ∀ i, i < n → lp (keys n) (piv T p c i) := by
  intro i hi
  by_cases e : i = p
  · subst e
    refine lp_congr (fun j _ => ?_) (lp_mul (c := (T i c)⁻¹) (Rat.inv_pos.mpr l.pos) (hl i hi))
    rw [piv_p, Rat.div_def]; grind
  · by_cases hc : 0 < T i c
    · refine lp_congr (fun j _ => ?_) (lp_mul hc (l.min i hi e hc))
      rw [piv_n e]; grind
    · by_cases h0 : T i c = 0
      · refine lp_congr (fun j _ => ?_) (hl i hi)
        rw [piv_n e, h0]; grind
      · have hx : 0 < - T i c * (T p c)⁻¹ := Rat.mul_pos (by grind) (Rat.inv_pos.mpr l.pos)
        refine lp_congr (fun j _ => ?_) (lp_add (hl i hi) (lp_mul hx (hl p l.lt)))
        rw [piv_n e, Rat.div_def]; grind
theorem Lv.back (h : Tab n N T b) (l : Lv n (keys n) T c p) (hl : ∀ i, i < n → lp (keys n) (T i)) : Lv n (keys n) (piv T p c) (b p) p := by
  have hu := h.unit p l.lt p l.lt
  rw [if_pos rfl] at hu
  have hpp : piv T p c p (b p) = (T p c)⁻¹ := by rw [piv_p, hu]; grind
  have pos := Rat.inv_pos.mpr l.pos
  refine ⟨l.lt, by rw [hpp]; exact pos, fun k hk hn hc => ?_⟩
  refine lp_congr (fun j _ => ?_) (lp_mul (c := (piv T p c k (b p))⁻¹) (Rat.inv_pos.mpr hc) (hl k hk))
  have hk0 := h.unit p l.lt k hk
  rw [if_neg hn] at hk0
  have e : piv T p c k (b p) = - (T k c * (T p c)⁻¹) := by rw [piv_n hn, hk0, hu]; grind
  rw [hpp, piv_p, e, piv_n hn]
  rw [e] at hc
  have h1 : T k c ≠ 0 := by rintro z; rw [z] at hc; grind
  have h2 := l.pos
  grind
end
end Lk

namespace Lk
def comp (n j : Nat) : Nat := if j < n then j + n else j - n
theorem comp_comp {n j : Nat} (h : j < 2 * n) : comp n (comp n j) = j := by unfold comp; split <;> split <;> omega
theorem comp_lt {n j : Nat} (h : j < 2 * n) : comp n j < 2 * n := by unfold comp; split <;> omega
theorem comp_ne {n j : Nat} (h : j < 2 * n) : comp n j ≠ j := by unfold comp; split <;> omega
structure Ac (n : Nat) (b : Nat → Nat) (c : Nat) : Prop where
  art : ∃ p, p < n ∧ b p = 2 * n
  ran : ∀ i, i < n → b i ≤ 2 * n
  cl : c < 2 * n
  nc : ∀ i, i < n → b i ≠ c
  ncc : ∀ i, i < n → b i ≠ comp n c
  one : ∀ i, i < n → ∀ k, k < n → b i < 2 * n → b k ≠ comp n (b i)
structure Stt where
  T : Nat → Nat → Rat
  b : Nat → Nat
  c : Nat
structure Good (n : Nat) (N : Nat → Nat → Rat) (s : Stt) : Prop where
  tab : Tab n N s.T s.b
  lex : ∀ i, i < n → lp (keys n) (s.T i)
  ac : Ac n s.b s.c
def nxt (n : Nat) (s : Stt) (p : Nat) : Stt := ⟨piv s.T p s.c, put s.b p s.c, comp n (s.b p)⟩
def Nxt (n : Nat) (s s' : Stt) : Prop := ∃ p, Lv n (keys n) s.T s.c p ∧ s.b p ≠ 2 * n ∧ s' = nxt n s p
def Eqv (n : Nat) (s t : Stt) : Prop := Sb n s.b t.b ∧ s.c = t.c
theorem Eqv.symm {n : Nat} {s t : Stt} (h : Eqv n s t) : Eqv n t s := ⟨h.1.symm, h.2.symm⟩
theorem Eqv.trans {n : Nat} {s t u : Stt} (h : Eqv n s t) (g : Eqv n t u) : Eqv n s u := ⟨fun j => (h.1 j).trans (g.1 j), h.2.trans g.2⟩
theorem Eqv.refl {n : Nat} {s : Stt} : Eqv n s s := ⟨Sb.refl, rfl⟩
def rv (n : Nat) (s : Stt) : Stt := ⟨s.T, s.b, comp n s.c⟩
section
variable {n p : Nat} {N : Nat → Nat → Rat} {s s' t t' : Stt} {b : Nat → Nat} {c : Nat}
theorem Ac.put (h : Ac n b c) (inj : ∀ i, i < n → ∀ k, k < n → b i = b k → i = k) (hp : p < n) (ho : b p ≠ 2 * n) : Ac n (put b p c) (comp n (b p)) := by
  have hb : b p < 2 * n := by have := h.ran p hp; omega
  refine ⟨?_, fun i hi => ?_, comp_lt hb, fun i hi z => ?_, fun i hi z => ?_, fun i hi k hk hl z => ?_⟩
  · obtain ⟨q, hq, e⟩ := h.art
    exact ⟨q, hq, by rw [put_n]; exact e; rintro rfl; exact ho e⟩
  · by_cases e : i = p
    · subst e; rw [put_p]; exact Nat.le_of_lt h.cl
    · rw [put_n e]; exact h.ran i hi
  · by_cases e : i = p
    · subst e; rw [put_p] at z
      exact h.ncc i hi (by rw [z, comp_comp hb])
    · rw [put_n e] at z
      exact h.one p hp i hi hb z
  · rw [comp_comp hb] at z
    by_cases e : i = p
    · subst e; rw [put_p] at z
      exact h.nc i hi z.symm
    · rw [put_n e] at z
      exact e (inj i hi p hp z)
  · by_cases e : i = p
    · subst e
      rw [put_p] at z
      by_cases f : k = i
      · subst f; rw [put_p] at z
        exact comp_ne h.cl z.symm
      · rw [put_n f] at z
        exact h.ncc k hk z
    · rw [put_n e] at z hl
      by_cases f : k = p
      · subst f; rw [put_p] at z
        exact h.ncc i hi (by rw [z, comp_comp hl])
      · rw [put_n f] at z
        exact h.one i hi k hk hl z
theorem Good.nx (g : Good n N s) (l : Lv n (keys n) s.T s.c p) (ho : s.b p ≠ 2 * n) : Good n N (nxt n s p) :=
  ⟨g.tab.piv l.lt (by have := l.pos; grind), l.lex g.lex, g.ac.put (fun i hi k hk e => g.tab.inj hi hk e) l.lt ho⟩
theorem Good.step (g : Good n N s) (h : Nxt n s s') : Good n N s' := by
  obtain ⟨p, l, ho, rfl⟩ := h
  exact g.nx l ho
theorem Good.rvv (g : Good n N s) : Good n N (rv n s) :=
  ⟨g.tab, g.lex, g.ac.art, g.ac.ran, comp_lt g.ac.cl, g.ac.ncc, fun i hi => by show s.b i ≠ comp n (comp n s.c); rw [comp_comp g.ac.cl]; exact g.ac.nc i hi, g.ac.one⟩
theorem put_back : put (put b p c) p (b p) = b := by
  funext i
  by_cases e : i = p
  · subst e; rw [put_p]
  · rw [put_n e, put_n e]
theorem Good.blt (g : Good n N s) (hp : p < n) (ho : s.b p ≠ 2 * n) : s.b p < 2 * n := by have := g.ac.ran p hp; omega
theorem Good.back (g : Good n N s) (h : Nxt n s s') : ∃ q, Lv n (keys n) s'.T (comp n s'.c) q ∧ s'.b q = s.c ∧ put s'.b q (comp n s'.c) = s.b ∧ s.b q = comp n s'.c := by
  obtain ⟨p, l, ho, rfl⟩ := h
  have e : comp n (nxt n s p).c = s.b p := comp_comp (g.blt l.lt ho)
  refine ⟨p, ?_, ?_, ?_, e.symm⟩
  · rw [e]; exact l.back g.tab g.lex
  · show put s.b p s.c p = s.c
    exact put_p
  · rw [e]; exact put_back
theorem Good.nxt_rv (g : Good n N s) (h : Nxt n s s') : ∃ t, Nxt n (Lk.rv n s') t ∧ Eqv n t (Lk.rv n s) := by
  obtain ⟨q, l, e1, e2, e3⟩ := g.back h
  refine ⟨_, ⟨q, l, ?_, rfl⟩, ?_, ?_⟩
  · show s'.b q ≠ 2 * n
    rw [e1]
    have := g.ac.cl
    omega
  · show Sb n (put s'.b q (comp n s'.c)) s.b
    rw [e2]; exact Sb.refl
  · show comp n (s'.b q) = comp n s.c
    rw [e1]
theorem put_mem {j : Nat} (inj : ∀ i, i < n → ∀ k, k < n → b i = b k → i = k) (hp : p < n) : (∃ i, i < n ∧ put b p c i = j) ↔ j = c ∨ ((∃ i, i < n ∧ b i = j) ∧ j ≠ b p) := by
  constructor
  · rintro ⟨i, hi, e⟩
    by_cases f : i = p
    · subst f; rw [put_p] at e; exact .inl e.symm
    · rw [put_n f] at e
      refine .inr ⟨⟨i, hi, e⟩, ?_⟩
      rintro rfl
      exact f (inj i hi p hp e)
  · rintro (rfl | ⟨⟨i, hi, e⟩, hn⟩)
    · exact ⟨p, hp, put_p⟩
    · refine ⟨i, hi, ?_⟩
      rw [put_n]
      · exact e
      · rintro rfl
        exact hn e.symm
theorem pred_unique (gs : Good n N s) (gt : Good n N t) (hs : Nxt n s s') (ht : Nxt n t t') (e : Eqv n s' t') : Eqv n s t := by
  have gs' := gs.step hs
  have gt' := gt.step ht
  obtain ⟨p, lp1, p1, p2, _⟩ := gs.back hs
  obtain ⟨q, lq1, q1, q2, _⟩ := gt.back ht
  obtain ⟨p', hp', ep⟩ := (e.1 (s'.b p)).mp ⟨p, lp1.lt, rfl⟩
  have l2 := lp1.same gs'.tab gt'.tab e.1 hp' ep.symm
  rw [e.2] at l2
  have epq := l2.uniq lq1
  subst epq
  have ec : s.c = t.c := by rw [← p1, ← q1, ep]
  refine ⟨fun j => ?_, ec⟩
  rw [← p2, ← q2, put_mem (fun i hi k hk h => gs'.tab.inj hi hk h) lp1.lt, put_mem (fun i hi k hk h => gt'.tab.inj hi hk h) lq1.lt, e.2, p1, q1, ec]
  exact or_congr Iff.rfl (and_congr (e.1 j) Iff.rfl)
end
structure Ini (n : Nat) (N : Nat → Nat → Rat) : Prop where
  un : ∀ i, i < n → ∀ j, j < n → N i j = if i = j then 1 else 0
  ar : ∀ i, i < n → N i (2 * n) = -1
structure First (n : Nat) (N : Nat → Nat → Rat) (r : Nat) : Prop where
  lt : r < n
  neg : N r (2 * n + 1) < 0
  least : ∀ k, k < n → k ≠ r → lp (keys n) fun j => N k j - N r j
def start (n : Nat) (N : Nat → Nat → Rat) (r : Nat) : Stt := ⟨piv N r (2 * n), put id r (2 * n), r + n⟩
section
variable {n r : Nat} {N : Nat → Nat → Rat} {s s' : Stt}
theorem Ini.tab1 (I : Ini n N) (hr : r < n) : Tab n N (piv N r (2 * n)) (put id r (2 * n)) := (Tab.start I.un).piv hr (by rw [I.ar r hr]; decide)
theorem Ini.row_r (I : Ini n N) (hr : r < n) {j : Nat} : piv N r (2 * n) r j = - N r j := by rw [piv_p, I.ar r hr]; grind
theorem Ini.row_n (I : Ini n N) (hr : r < n) {i j : Nat} (hi : i < n) (h : i ≠ r) : piv N r (2 * n) i j = N i j - N r j := by rw [piv_n h, I.ar r hr, I.ar i hi]; grind
theorem First.start (I : Ini n N) (F : First n N r) : Good n N (start n N r) := by
  refine ⟨I.tab1 F.lt, fun i hi => ?_, ⟨r, F.lt, put_p⟩, fun i hi => ?_, ?_, fun i hi z => ?_, fun i hi z => ?_, fun i hi k hk hl z => ?_⟩
  · by_cases e : i = r
    · subst e
      refine lp_congr (u := fun j => - N i j) (fun j _ => (I.row_r hi).symm) (.inl ?_)
      have := F.neg
      grind
    · exact lp_congr (fun j _ => (I.row_n F.lt hi e).symm) (F.least i hi e)
  · show put id r (2 * n) i ≤ 2 * n
    by_cases e : i = r
    · subst e; rw [put_p]; omega
    · rw [put_n e]; show i ≤ 2 * n; omega
  · show r + n < 2 * n
    have := F.lt
    omega
  · have hr := F.lt
    change put id r (2 * n) i = r + n at z
    by_cases e : i = r
    · subst e; rw [put_p] at z; omega
    · rw [put_n e] at z; change i = r + n at z; omega
  · have hr := F.lt
    change put id r (2 * n) i = comp n (r + n) at z
    have ec : comp n (r + n) = r := by unfold comp; split <;> omega
    rw [ec] at z
    by_cases e : i = r
    · subst e; rw [put_p] at z; omega
    · rw [put_n e] at z; exact e z
  · have hr := F.lt
    change put id r (2 * n) k = comp n (put id r (2 * n) i) at z
    change put id r (2 * n) i < 2 * n at hl
    by_cases e : i = r
    · subst e; rw [put_p] at hl; omega
    · rw [put_n e] at z hl
      change put id r (2 * n) k = comp n i at z
      have ec : comp n i = i + n := by unfold comp; split <;> omega
      rw [ec] at z
      by_cases f : k = r
      · subst f; rw [put_p] at z; omega
      · rw [put_n f] at z; change k = i + n at z; omega
structure Path (n : Nat) (N : Nat → Nat → Rat) (r : Nat) (σ : Nat → Stt) (K : Nat) : Prop where
  s0 : σ 0 = start n N r
  st : ∀ i, i < K → Nxt n (σ i) (σ (i + 1))
variable {σ : Nat → Stt} {K : Nat}
theorem Path.good (P : Path n N r σ K) (I : Ini n N) (F : First n N r) : ∀ i, i ≤ K → Good n N (σ i)
  | 0, _ => by rw [P.s0]; exact F.start I
  | i + 1, h => (P.good I F i (by omega)).step (P.st i (by omega))
theorem pigeon {A : Type} [DecidableEq A] : ∀ (m : Nat) (L : List A) (f : Nat → A), (∀ i, i < m → f i ∈ L) → (∀ i j, i < j → j < m → f i ≠ f j) → m ≤ L.length
  | 0, _, _, _, _ => Nat.zero_le _
  | m + 1, L, f, h, inj => by
    have := pigeon m (L.erase (f m)) f (fun i hi => (List.mem_erase_of_ne (inj i m hi (by omega))).mpr (h i (by omega))) fun i j hi hj => inj i j hi (by omega)
    rw [List.length_erase_of_mem (h m (by omega))] at this
    have := List.length_pos_of_mem (h m (by omega))
    omega
def code (n : Nat) (s : Stt) : List Bool := (List.range (2 * n + 1)).map (fun j => (List.range n).any fun i => s.b i == j) ++ (List.range (2 * n + 1)).map fun j => s.c == j
theorem Path.no_turn (P : Path n N r σ K) (I : Ini n N) (F : First n N r) : ¬ Eqv n (σ K) (rv n (start n N r)) := fun e0 => by
  have key : ∀ j, j ≤ K → Eqv n (σ (K - j)) (rv n (σ j)) := by
    intro j
    induction j with
    | zero => intro _; rw [P.s0]; exact e0
    | succ j ih =>
      intro hj
      have h := ih (by omega)
      have g := P.good I F j (by omega)
      have st := P.st j (by omega)
      obtain ⟨t, n1, n2⟩ := g.nxt_rv st
      have st2 := P.st (K - (j + 1)) (by omega)
      have e : K - (j + 1) + 1 = K - j := by omega
      rw [e] at st2
      exact pred_unique (P.good I F _ (by omega)) (g.step st).rvv st2 n1 (h.trans n2.symm)
  rcases Nat.mod_two_eq_zero_or_one K with z | z
  · have h := key (K / 2) (by omega)
    have e : K - K / 2 = K / 2 := by omega
    rw [e] at h
    exact comp_ne (P.good I F (K / 2) (by omega)).ac.cl h.2.symm
  · have h := key (K / 2) (by omega)
    have e : K - K / 2 = K / 2 + 1 := by omega
    rw [e] at h
    have g := P.good I F (K / 2) (by omega)
    obtain ⟨p, l, _, e2⟩ := P.st (K / 2) (by omega)
    have : (σ (K / 2 + 1)).b p = (σ (K / 2)).c := by rw [e2]; exact put_p
    obtain ⟨i, hi, ei⟩ := (h.1 (σ (K / 2)).c).mp ⟨p, l.lt, this⟩
    exact g.ac.nc i hi ei
end
end Lk

namespace Lk
def mv (n : Nat) (M : Nat → Nat → Rat) (y : Nat → Rat) (i : Nat) : Rat := sm n fun j => M i j * y j
def dot (n : Nat) (x y : Nat → Rat) : Rat := sm n fun i => x i * y i
def Psd (n : Nat) (M : Nat → Nat → Rat) : Prop := ∀ y : Nat → Rat, 0 ≤ dot n y (mv n M y)
section
variable {n : Nat} {M : Nat → Nat → Rat} {x y z d : Nat → Rat} {t : Rat}
theorem mv_add {i : Nat} : mv n M (fun j => x j + t * y j) i = mv n M x i + t * mv n M y i := by
  unfold mv
  rw [← sm_mul, ← sm_add]
  exact sm_congr fun j _ => by grind
theorem dot_addr : dot n z (fun i => x i + t * y i) = dot n z x + t * dot n z y := by
  unfold dot
  rw [← sm_mul, ← sm_add]
  exact sm_congr fun j _ => by grind
theorem dot_addl : dot n (fun i => x i + t * y i) z = dot n x z + t * dot n y z := by
  unfold dot
  rw [← sm_mul, ← sm_add]
  exact sm_congr fun j _ => by grind
theorem dot_congr {x' y' : Nat → Rat} (h1 : ∀ i, i < n → x i = x' i) (h2 : ∀ i, i < n → y i = y' i) : dot n x y = dot n x' y' := sm_congr fun j hj => by rw [h1 j hj, h2 j hj]
theorem dot_zero (h : ∀ i, i < n → x i * y i = 0) : dot n x y = 0 := sm_zero h
theorem dot_nn (h : ∀ i, i < n → 0 ≤ x i) (g : ∀ i, i < n → 0 ≤ y i) : 0 ≤ dot n x y := sm_nn fun i hi => Rat.mul_nonneg (h i hi) (g i hi)
theorem Psd.null (P : Psd n M) (h : dot n d (mv n M d) = 0) : dot n d (mv n M y) + dot n y (mv n M d) = 0 := by
  have key : ∀ t : Rat, 0 ≤ t * (dot n d (mv n M y) + dot n y (mv n M d)) + t * t * dot n y (mv n M y) := fun t => by
    have e := P fun j => d j + t * y j
    have e2 : dot n (fun j => d j + t * y j) (mv n M fun j => d j + t * y j) = dot n (fun j => d j + t * y j) fun i => mv n M d i + t * mv n M y i := dot_congr (fun _ _ => rfl) fun i _ => mv_add
    rw [e2, dot_addr, dot_addl, dot_addl, h] at e
    grind
  have hq := P y
  generalize dot n d (mv n M y) + dot n y (mv n M d) = l at key ⊢
  generalize dot n y (mv n M y) = q at key hq
  by_cases z : l = 0
  · exact z
  · exfalso
    have h1 : 0 < q + 1 := by grind
    have k := key (-(l / (q + 1)))
    have e : -(l / (q + 1)) * l + -(l / (q + 1)) * -(l / (q + 1)) * q = -(l / (q + 1)) * (l / (q + 1)) := by grind
    rw [e] at k
    have h2 : l / (q + 1) ≠ 0 := by rw [Rat.div_def]; have := Rat.inv_pos.mpr h1; grind
    generalize l / (q + 1) = m at k h2
    by_cases s : 0 < m
    · have := Rat.mul_pos s s; grind
    · have := Rat.mul_pos (a := -m) (b := -m) (by grind) (by grind); grind
end
def xcol (n : Nat) (T : Nat → Nat → Rat) (b : Nat → Nat) (κ j : Nat) : Rat := sm n fun k => if b k = j then T k κ else 0
def dcol (n : Nat) (T : Nat → Nat → Rat) (b : Nat → Nat) (c j : Nat) : Rat := (if j = c then 1 else 0) - xcol n T b c j
def matOf (n : Nat) (N : Nat → Nat → Rat) (i j : Nat) : Rat := - N i (n + j)
section
variable {n : Nat} {N T : Nat → Nat → Rat} {b : Nat → Nat} {c κ : Nat}
theorem xcol_b (h : Tab n N T b) {k : Nat} (hk : k < n) : xcol n T b κ (b k) = T k κ := by
  unfold xcol
  rw [sm_one hk fun i hi e => if_neg fun z => e (h.inj hi hk z), if_pos rfl]
theorem xcol_out {j : Nat} (h : ∀ k, k < n → b k ≠ j) : xcol n T b κ j = 0 := sm_zero fun k hk => if_neg (h k hk)
theorem xcol_sum (h : Tab n N T b) (hr : ∀ i, i < n → b i ≤ 2 * n) {i : Nat} (hi : i < n) : (sm (2 * n + 1) fun j => N i j * xcol n T b κ j) = N i κ := by
  rw [h.right i hi κ]
  unfold xcol
  have : (sm (2 * n + 1) fun j => N i j * sm n fun k => if b k = j then T k κ else 0) = sm (2 * n + 1) fun j => sm n fun k => N i j * if b k = j then T k κ else 0 := sm_congr fun j _ => by rw [sm_mul]
  rw [this, sm_swap]
  refine sm_congr fun k hk => ?_
  rw [sm_one (p := b k) (by have := hr k hk; omega) fun j _ e => by rw [if_neg fun z => e z.symm]; grind, if_pos rfl]
theorem dcol_sum (h : Tab n N T b) (hr : ∀ i, i < n → b i ≤ 2 * n) (hc : c ≤ 2 * n) {i : Nat} (hi : i < n) : (sm (2 * n + 1) fun j => N i j * dcol n T b c j) = 0 := by
  unfold dcol
  have : (sm (2 * n + 1) fun j => N i j * ((if j = c then 1 else 0) - xcol n T b c j)) = (sm (2 * n + 1) fun j => N i j * if j = c then 1 else 0) - sm (2 * n + 1) fun j => N i j * xcol n T b c j := by
    rw [← sm_sub]
    exact sm_congr fun j _ => by grind
  rw [this, xcol_sum h hr hi, sm_one (p := c) (by omega) fun j _ e => by rw [if_neg e]; grind, if_pos rfl]
  grind
theorem Ini.eqn (I : Ini n N) {X : Nat → Rat} {i : Nat} {q : Rat} (hi : i < n) (h : (sm (2 * n + 1) fun j => N i j * X j) = q) : X i = mv n (matOf n N) (fun j => X (n + j)) i + X (2 * n) + q := by
  have e1 : 2 * n + 1 = n + n + 1 := by omega
  rw [e1, sm, sm_split] at h
  have h1 : (sm n fun j => N i j * X j) = X i := by
    rw [sm_one hi fun j hj e => by rw [I.un i hi j hj, if_neg fun z => e z.symm]; grind, I.un i hi i hi, if_pos rfl]
    grind
  have h2 : (sm n fun j => N i (n + j) * X (n + j)) = - mv n (matOf n N) (fun j => X (n + j)) i := by
    unfold mv matOf
    rw [← sm_neg]
    exact sm_congr fun j _ => by grind
  have e2 : n + n = 2 * n := by omega
  rw [h1, h2, e2, I.ar i hi] at h
  grind
end
section
variable {n r : Nat} {N : Nat → Nat → Rat} {s : Stt}
theorem no_ray (I : Ini n N) (F : First n N r) (P : Psd n (matOf n N)) (Y : ∃ y : Nat → Rat, (∀ i, i < n → 0 ≤ y i) ∧ ∀ i, i < n → 0 ≤ mv n (matOf n N) y i + N i (2 * n + 1))
    (g : Good n N s) (hn : ¬ Eqv n s (rv n (start n N r))) (h0 : ∀ k, k < n → ¬ 0 < s.T k s.c) : False := by
  obtain ⟨⟨T, b, c⟩, rfl⟩ : ∃ q : Stt, s = q := ⟨s, rfl⟩
  have tab : Tab n N T b := g.tab
  have ac : Ac n b c := g.ac
  have hcl := ac.cl
  simp only at h0
  -- the direction
  have dnn : ∀ j, 0 ≤ dcol n T b c j := fun j => by
    have : 0 ≤ sm n fun k => if b k = j then - T k c else 0 := sm_nn fun k hk => by
      have := h0 k hk
      split <;> grind
    have e : (sm n fun k => if b k = j then - T k c else 0) = - xcol n T b c j := by
      unfold xcol
      rw [← sm_neg]
      exact sm_congr fun k _ => by split <;> grind
    rw [e] at this
    unfold dcol
    split <;> grind
  have dsup : ∀ j, dcol n T b c j ≠ 0 → (∃ k, k < n ∧ b k = j) ∨ j = c := fun j h => by
    refine Classical.byContradiction fun z => h ?_
    have z1 : j ≠ c := fun e => z (.inr e)
    unfold dcol
    rw [if_neg z1, xcol_out fun k hk e => z (.inl ⟨k, hk, e⟩)]
    grind
  have xsup : ∀ κ j, xcol n T b κ j ≠ 0 → ∃ k, k < n ∧ b k = j := fun κ j h => Classical.byContradiction fun z => h (xcol_out fun k hk e => z ⟨k, hk, e⟩)
  have dc : dcol n T b c c = 1 := by
    unfold dcol
    rw [if_pos rfl, xcol_out ac.nc]; grind
  have both : ∀ i, i < n → ((∃ k, k < n ∧ b k = i) ∨ i = c) → ((∃ k, k < n ∧ b k = n + i) ∨ n + i = c) → False := by
    have ec : ∀ i, i < n → comp n i = n + i := fun i hi => by unfold comp; split <;> omega
    have ec2 : ∀ i, i < n → comp n (n + i) = i := fun i hi => by unfold comp; split <;> omega
    rintro i hi (⟨k, hk, e⟩ | e) (⟨k', hk', e'⟩ | e')
    · exact ac.one k hk k' hk' (by omega) (by rw [e, ec i hi]; exact e')
    · exact ac.ncc k hk (by rw [← e', ec2 i hi]; exact e)
    · exact ac.ncc k' hk' (by rw [← e, ec i hi]; exact e')
    · omega
  have E1 : ∀ i, i < n → dcol n T b c i = mv n (matOf n N) (fun j => dcol n T b c (n + j)) i + dcol n T b c (2 * n) := fun i hi => by
    have := I.eqn hi (dcol_sum tab ac.ran (Nat.le_of_lt hcl) hi)
    grind
  have E2 : ∀ κ i, i < n → xcol n T b κ i = mv n (matOf n N) (fun j => xcol n T b κ (n + j)) i + xcol n T b κ (2 * n) + N i κ := fun κ i hi => I.eqn hi (xcol_sum tab ac.ran hi)
  have c1 : dot n (fun j => dcol n T b c (n + j)) (fun i => dcol n T b c i) = 0 := dot_zero fun i hi => Classical.byContradiction fun z => both i hi (dsup i fun q => z (by rw [q]; grind)) (dsup (n + i) fun q => z (by simp only [q]; grind))
  have c2 : ∀ κ, dot n (fun j => dcol n T b c (n + j)) (fun i => xcol n T b κ i) = 0 := fun κ => dot_zero fun i hi => Classical.byContradiction fun z => both i hi (.inl (xsup κ i fun q => z (by rw [q]; grind))) (dsup (n + i) fun q => z (by simp only [q]; grind))
  have c3 : ∀ κ, dot n (fun j => xcol n T b κ (n + j)) (fun i => dcol n T b c i) = 0 := fun κ => dot_zero fun i hi => Classical.byContradiction fun z => both i hi (dsup i fun q => z (by rw [q]; grind)) (.inl (xsup κ (n + i) fun q => z (by simp only [q]; grind)))
  have dotc : ∀ (x : Nat → Rat) (a : Rat), (dot n x fun _ => a) = a * sm n x := fun x a => by
    unfold dot; rw [sm_mulr]; grind
  have F1 : dot n (fun j => dcol n T b c (n + j)) (mv n (matOf n N) fun j => dcol n T b c (n + j)) + dcol n T b c (2 * n) * (sm n fun j => dcol n T b c (n + j)) = 0 := by
    rw [← c1, ← dotc]
    unfold dot
    rw [← sm_add]
    refine sm_congr fun i hi => ?_
    show _ = dcol n T b c (n + i) * dcol n T b c i
    rw [E1 i hi]; grind
  have p1 := P fun j => dcol n T b c (n + j)
  have p2 : 0 ≤ sm n fun j => dcol n T b c (n + j) := sm_nn fun j _ => dnn (n + j)
  have p3 := Rat.mul_nonneg (dnn (2 * n)) p2
  have G1 : dot n (fun j => dcol n T b c (n + j)) (mv n (matOf n N) fun j => dcol n T b c (n + j)) = 0 := by grind
  have G2 : dcol n T b c (2 * n) * (sm n fun j => dcol n T b c (n + j)) = 0 := by grind
  by_cases hS : (sm n fun j => dcol n T b c (n + j)) = 0
  · -- nothing but w and a: the first basis
    have z0 := sm_nn_zero (fun j _ => dnn (n + j)) hS
    have ew : ∀ i, i < n → dcol n T b c i = dcol n T b c (2 * n) := fun i hi => by
      rw [E1 i hi]
      have : mv n (matOf n N) (fun j => dcol n T b c (n + j)) i = 0 := sm_zero fun j hj => by simp only [z0 j hj]; grind
      rw [this]; grind
    have hcn : c < n := by
      by_cases q : c < n
      · exact q
      · have := z0 (c - n) (by omega)
        have e : n + (c - n) = c := by omega
        rw [e, dc] at this
        exact absurd this (by decide)
    have ha : dcol n T b c (2 * n) = 1 := by rw [← ew c hcn, dc]
    have hin : ∀ i, i < n → (∃ k, k < n ∧ b k = i) ∨ i = c := fun i hi => dsup i (by rw [ew i hi, ha]; decide)
    have sb : Sb n b (put id c (2 * n)) := fun j => by
      rw [put_mem (b := id) (fun i _ k _ e => e) hcn]
      constructor
      · rintro ⟨k, hk, rfl⟩
        by_cases q : b k = 2 * n
        · exact .inl q
        · have hr := ac.ran k hk
          by_cases q2 : b k < n
          · exact .inr ⟨⟨b k, q2, rfl⟩, ac.nc k hk⟩
          · exfalso
            refine both (b k - n) (by omega) (hin _ (by omega)) (.inl ⟨k, hk, by omega⟩)
      · rintro (rfl | ⟨⟨i, hi, rfl⟩, hne⟩)
        · exact ac.art
        · rcases hin i hi with q | q
          · exact q
          · exact absurd q hne
    have hcr : c = r := Classical.byContradiction fun q => by
      have hl := F.least c hcn q
      obtain ⟨k, hk, ek⟩ := (hin r F.lt).resolve_right fun e => q e.symm
      have hb : b k = put id c (2 * n) r := by rw [put_n fun e => q e.symm]; exact ek
      have hx : lp (keys n) (T k) := g.lex k hk
      refine lp_anti hl (lp_congr (fun j _ => ?_) hx)
      rw [tab.same (I.tab1 hcn) sb hk F.lt hb j, I.row_n hcn F.lt fun e => q e.symm]
      grind
    refine hn ⟨?_, ?_⟩
    · subst hcr; exact sb
    · show c = comp n (r + n)
      rw [hcr]
      unfold comp; split <;> omega
  · have hda : dcol n T b c (2 * n) = 0 := by grind
    have ew : ∀ i, i < n → dcol n T b c i = mv n (matOf n N) (fun j => dcol n T b c (n + j)) i := fun i hi => by rw [E1 i hi, hda]; grind
    have K1 : ∀ κ, dot n (fun j => dcol n T b c (n + j)) (mv n (matOf n N) fun j => xcol n T b κ (n + j)) = 0 := fun κ => by
      have h1 := P.null (y := fun j => xcol n T b κ (n + j)) G1
      have h2 : dot n (fun j => xcol n T b κ (n + j)) (mv n (matOf n N) fun j => dcol n T b c (n + j)) = 0 := by
        rw [← c3 κ]
        exact dot_congr (fun _ _ => rfl) fun i hi => (ew i hi).symm
      rw [h2] at h1
      grind
    have K2 : ∀ κ, dot n (fun j => dcol n T b c (n + j)) (fun i => N i κ) = - ((sm n fun j => dcol n T b c (n + j)) * xcol n T b κ (2 * n)) := fun κ => by
      have h1 := c2 κ
      have h2 : dot n (fun j => dcol n T b c (n + j)) (fun i => xcol n T b κ i) = dot n (fun j => dcol n T b c (n + j)) (mv n (matOf n N) fun j => xcol n T b κ (n + j)) + dot n (fun j => dcol n T b c (n + j)) (fun _ => xcol n T b κ (2 * n)) + dot n (fun j => dcol n T b c (n + j)) (fun i => N i κ) := by
        unfold dot
        rw [← sm_add, ← sm_add]
        refine sm_congr fun i hi => ?_
        show dcol n T b c (n + i) * xcol n T b κ i = _
        rw [E2 κ i hi]; grind
      rw [h2, K1, dotc] at h1
      grind
    obtain ⟨p, hp, ep⟩ := ac.art
    have hx : lp (keys n) (T p) := g.lex p hp
    have hSp : 0 < sm n fun j => dcol n T b c (n + j) := by grind
    obtain ⟨y, y1, y2⟩ := Y
    refine lp_nn (K := keys n) (u := fun κ => dot n (fun j => dcol n T b c (n + j)) (fun i => N i κ)) (fun κ hκ => ?_) (lp_congr (fun κ _ => ?_) (lp_mul hSp hx))
    · unfold keys at hκ
      rcases List.mem_cons.mp hκ with rfl | hκ
      · have h1 := dot_nn (fun j _ => dnn (n + j)) y2
        have h2 : dot n (fun j => dcol n T b c (n + j)) (fun i => mv n (matOf n N) y i + N i (2 * n + 1)) = dot n (fun j => dcol n T b c (n + j)) (mv n (matOf n N) y) + dot n (fun j => dcol n T b c (n + j)) (fun i => N i (2 * n + 1)) := by
          unfold dot
          rw [← sm_add]
          exact sm_congr fun i _ => by grind
        have h3 := P.null (y := y) G1
        have h4 : 0 ≤ dot n y (mv n (matOf n N) fun j => dcol n T b c (n + j)) := dot_nn y1 fun i hi => by rw [← ew i hi]; exact dnn i
        rw [h2] at h1
        grind
      · have hκ' : κ < n := by simpa using hκ
        have : dot n (fun j => dcol n T b c (n + j)) (fun i => N i κ) = dcol n T b c (n + κ) := by
          unfold dot
          rw [sm_one hκ' fun i hi e => by simp only [I.un i hi κ hκ', if_neg e]; grind]
          simp only [I.un κ hκ' κ hκ', if_true]
          grind
        rw [this]
        exact dnn _
    · rw [K2, ← ep, xcol_b tab hp]; grind
theorem Path.go {σ : Nat → Stt} {K : Nat} (W : Path n N r σ K) (I : Ini n N) (F : First n N r) (P : Psd n (matOf n N)) (Y : ∃ y : Nat → Rat, (∀ i, i < n → 0 ≤ y i) ∧ ∀ i, i < n → 0 ≤ mv n (matOf n N) y i + N i (2 * n + 1)) : ∃ k, k < n ∧ 0 < (σ K).T k (σ K).c :=
  Classical.byContradiction fun z => no_ray I F P Y (W.good I F K (Nat.le_refl K)) (W.no_turn I F) fun k hk h => z ⟨k, hk, h⟩
end
end Lk

namespace Lk
def skip (j k : Nat) : Nat := if k < j then k else k + 1
def sg (j : Nat) : Rat := if j % 2 = 0 then 1 else -1
def det : Nat → (Nat → Nat → Rat) → Rat
  | 0, _ => 1
  | n + 1, A => sm (n + 1) fun j => sg j * A 0 j * det n fun i k => A (i + 1) (skip j k)
theorem skip_lt {n j k : Nat} (h : k < n) : skip j k < n + 1 := by unfold skip; split <;> omega
theorem skip_ne {j k : Nat} : skip j k ≠ j := by unfold skip; split <;> omega
theorem det_congr : ∀ {n : Nat} {A B : Nat → Nat → Rat}, (∀ i j, i < n → j < n → A i j = B i j) → det n A = det n B
  | 0, _, _, _ => rfl
  | n + 1, A, B, h => by
    rw [det, det]
    refine sm_congr fun j hj => ?_
    rw [h 0 j (by omega) hj, det_congr (n := n) (A := fun i k => A (i + 1) (skip j k)) (B := fun i k => B (i + 1) (skip j k)) fun i k hi hk => h (i + 1) (skip j k) (by omega) (skip_lt hk)]
theorem det_lin : ∀ {n p : Nat} {A B C : Nat → Nat → Rat} {x y : Rat}, p < n → (∀ i j, j ≠ p → A i j = B i j) → (∀ i j, j ≠ p → A i j = C i j) → (∀ i, A i p = x * B i p + y * C i p) → det n A = x * det n B + y * det n C
  | 0, _, _, _, _, _, _, h, _, _, _ => by omega
  | n + 1, p, A, B, C, x, y, hp, hB, hC, hl => by
    rw [det, det, det, ← sm_mul, ← sm_mul, ← sm_add]
    refine sm_congr fun j hj => ?_
    by_cases e : j = p
    · subst e
      have e1 : det n (fun i k => A (i + 1) (skip j k)) = det n fun i k => B (i + 1) (skip j k) := det_congr fun i k _ _ => hB _ _ skip_ne
      have e2 : det n (fun i k => A (i + 1) (skip j k)) = det n fun i k => C (i + 1) (skip j k) := det_congr fun i k _ _ => hC _ _ skip_ne
      rw [← e1, ← e2, hl 0]; grind
    · have hn : 0 < n := by omega
      rw [det_lin (p := if p < j then p else p - 1) (n := n) (A := fun i k => A (i + 1) (skip j k)) (B := fun i k => B (i + 1) (skip j k)) (C := fun i k => C (i + 1) (skip j k)) (x := x) (y := y) (by split <;> omega)
        (fun i k hk => hB _ _ fun z => hk (by unfold skip at z; split at z <;> split <;> omega)) (fun i k hk => hC _ _ fun z => hk (by unfold skip at z; split at z <;> split <;> omega))
        (fun i => by
          have : skip j (if p < j then p else p - 1) = p := by
            unfold skip
            repeat' split
            all_goals omega
          simp only [this]
          exact hl _), hB 0 j e, ← hC 0 j e, hB 0 j e]
      grind
theorem sg_succ {j : Nat} : sg (j + 1) = - sg j := by
  unfold sg
  rcases Nat.mod_two_eq_zero_or_one j with h | h
  · have : (j + 1) % 2 = 1 := by omega
    rw [h, this]; simp
  · have : (j + 1) % 2 = 0 := by omega
    rw [h, this]; simp
theorem det_adj : ∀ {n p : Nat} {A : Nat → Nat → Rat}, p + 1 < n → (∀ i, A i p = A i (p + 1)) → det n A = 0
  | 0, _, _, h, _ => by omega
  | n + 1, p, A, hp, h => by
    rw [det, sm_out (p := p) (by omega), sm_out (p := p + 1) hp]
    rw [if_neg (by omega)]
    have e1 : (fun i k => A (i + 1) (skip p k)) = fun i k => A (i + 1) (skip (p + 1) k) := by
      funext i k
      by_cases e : k = p
      · subst e
        have : skip k k = k + 1 := by unfold skip; split <;> omega
        have : skip (k + 1) k = k := by unfold skip; split <;> omega
        simp only [*]
      · have : skip p k = skip (p + 1) k := by unfold skip; split <;> split <;> omega
        rw [this]
    have e2 : (sm (n + 1) fun i => if i = p + 1 then 0 else if i = p then 0 else sg i * A 0 i * det n fun i' k => A (i' + 1) (skip i k)) = 0 := by
      refine sm_zero fun j hj => ?_
      by_cases c1 : j = p + 1
      · rw [if_pos c1]
      · rw [if_neg c1]
        by_cases c2 : j = p
        · rw [if_pos c2]
        · rw [if_neg c2, det_adj (n := n) (p := if p < j then p else p - 1) (A := fun i k => A (i + 1) (skip j k)) (by split <;> omega) fun i => ?_]
          · grind
          · have q1 : skip j (if p < j then p else p - 1) = p := by
              unfold skip
              repeat' split
              all_goals omega
            have q2 : skip j ((if p < j then p else p - 1) + 1) = p + 1 := by
              unfold skip
              repeat' split
              all_goals omega
            simp only [q1, q2]
            exact h _
    rw [e2, e1, sg_succ, h 0]
    grind
def colp (A : Nat → Nat → Rat) (p : Nat) (v : Nat → Rat) : Nat → Nat → Rat := fun i j => if j = p then v i else A i j
theorem colp_p {A : Nat → Nat → Rat} {p i : Nat} {v : Nat → Rat} : colp A p v i p = v i := by unfold colp; rw [if_pos rfl]
theorem colp_n {A : Nat → Nat → Rat} {p i j : Nat} {v : Nat → Rat} (h : j ≠ p) : colp A p v i j = A i j := by unfold colp; rw [if_neg h]
theorem det_swap {n p : Nat} {A : Nat → Nat → Rat} (hp : p + 1 < n) : det n (colp (colp A p fun i => A i (p + 1)) (p + 1) fun i => A i p) = - det n A := by
  -- both columns the sum
  have ne : p ≠ p + 1 := by omega
  have X := det_adj (A := colp (colp A p fun i => A i p + A i (p + 1)) (p + 1) fun i => A i p + A i (p + 1)) hp fun i => by rw [colp_n ne, colp_p, colp_p]
  have l1 := det_lin (n := n) (p := p) (x := 1) (y := 1) (A := colp (colp A p fun i => A i p + A i (p + 1)) (p + 1) fun i => A i p + A i (p + 1)) (B := colp A (p + 1) fun i => A i p + A i (p + 1)) (C := colp (colp A p fun i => A i (p + 1)) (p + 1) fun i => A i p + A i (p + 1)) (by omega)
    (fun i j hj => by unfold colp; simp [hj]) (fun i j hj => by unfold colp; simp [hj]) (fun i => by unfold colp; simp <;> grind)
  have l2 := det_lin (n := n) (p := p + 1) (x := 1) (y := 1) (A := colp A (p + 1) fun i => A i p + A i (p + 1)) (B := colp A (p + 1) fun i => A i p) (C := A) hp
    (fun i j hj => by unfold colp; simp [hj]) (fun i j hj => by unfold colp; simp [hj]) (fun i => by unfold colp; simp <;> grind)
  have l3 := det_lin (n := n) (p := p + 1) (x := 1) (y := 1) (A := colp (colp A p fun i => A i (p + 1)) (p + 1) fun i => A i p + A i (p + 1)) (B := colp (colp A p fun i => A i (p + 1)) (p + 1) fun i => A i p) (C := colp A p fun i => A i (p + 1)) hp
    (fun i j hj => by unfold colp; simp [hj]) (fun i j hj => by unfold colp; simp [hj]) (fun i => by unfold colp; simp <;> grind)
  have z1 := det_adj (A := colp A (p + 1) fun i => A i p) hp fun i => by rw [colp_n ne, colp_p]
  have z2 := det_adj (A := colp A p fun i => A i (p + 1)) hp fun i => by rw [colp_p, colp_n ne.symm]
  grind
theorem det_eqc {n p : Nat} : ∀ (m : Nat) {A : Nat → Nat → Rat}, p + 1 + m < n → (∀ i, A i p = A i (p + 1 + m)) → det n A = 0
  | 0, A, hn, h => det_adj hn h
  | m + 1, A, hn, h => by
    have hs := det_swap (n := n) (p := p + 1 + m) (A := A) (by omega)
    have := det_eqc (n := n) (p := p) m (A := colp (colp A (p + 1 + m) fun i => A i (p + 1 + m + 1)) (p + 1 + m + 1) fun i => A i (p + 1 + m)) (by omega) fun i => by
      rw [colp_n (show p ≠ p + 1 + m + 1 by omega), colp_n (show p ≠ p + 1 + m by omega), colp_n (show p + 1 + m ≠ p + 1 + m + 1 by omega), colp_p]
      exact h i
    rw [this] at hs
    grind
theorem det_alt {n p q : Nat} {A : Nat → Nat → Rat} (hp : p < n) (hq : q < n) (hn : p ≠ q) (h : ∀ i, A i p = A i q) : det n A = 0 := by
  rcases Nat.lt_or_gt_of_ne hn with c | c
  · refine det_eqc (p := p) (q - p - 1) (by omega) fun i => ?_
    have e : p + 1 + (q - p - 1) = q := by omega
    rw [e]; exact h i
  · refine det_eqc (p := q) (p - q - 1) (by omega) fun i => ?_
    have e : q + 1 + (p - q - 1) = p := by omega
    rw [e]; exact (h i).symm
theorem colp_self {A : Nat → Nat → Rat} {p : Nat} : (colp A p fun i => A i p) = A := by
  funext i j
  unfold colp
  split
  · rename_i e; rw [e]
  · rfl
theorem det_sum {n p : Nat} {A : Nat → Nat → Rat} (hp : p < n) {x : Nat → Rat} {B : Nat → Nat → Rat} : ∀ m : Nat, det n (colp A p fun i => sm m fun k => B i k * x k) = sm m fun k => x k * det n (colp A p fun i => B i k)
  | 0 => by
    have := det_lin (n := n) (p := p) (x := 0) (y := 0) (A := colp A p fun i => sm 0 fun k => B i k * x k) (B := A) (C := A) hp (fun i j hj => colp_n hj) (fun i j hj => colp_n hj) fun i => by rw [colp_p, sm]; grind
    rw [this, sm]; grind
  | m + 1 => by
    have := det_lin (n := n) (p := p) (x := 1) (y := x m) (A := colp A p fun i => sm (m + 1) fun k => B i k * x k) (B := colp A p fun i => sm m fun k => B i k * x k) (C := colp A p fun i => B i m) hp (fun i j hj => by rw [colp_n hj, colp_n hj]) (fun i j hj => by rw [colp_n hj, colp_n hj]) fun i => by rw [colp_p, colp_p, colp_p, sm]; grind
    rw [this, det_sum hp m, sm]; grind
theorem cramer {n p : Nat} {A : Nat → Nat → Rat} {v x : Nat → Rat} (hp : p < n) (h : ∀ i, i < n → v i = sm n fun k => A i k * x k) : det n (colp A p v) = x p * det n A := by
  have e : det n (colp A p v) = det n (colp A p fun i => sm n fun k => A i k * x k) := det_congr fun i j hi _ => by
    unfold colp
    split
    · exact h i hi
    · rfl
  rw [e, det_sum hp n, sm_one hp fun k hk hn => ?_, colp_self]
  rw [det_alt hp hk (fun z => hn z.symm) fun i => by rw [colp_p, colp_n hn]]
  grind
theorem det_one : ∀ n, det n (fun i j => if i = j then 1 else 0) = 1
  | 0 => rfl
  | n + 1 => by
    rw [det, sm_one (p := 0) (by omega) fun j _ hj => by rw [if_neg fun z => hj z.symm]; grind, if_pos rfl]
    have : det n (fun i k => if i + 1 = skip 0 k then (1 : Rat) else 0) = det n fun i j => if i = j then 1 else 0 := det_congr fun i j _ _ => by
      have : skip 0 j = j + 1 := by unfold skip; split <;> omega
      rw [this]
      simp
    rw [this, det_one n]
    unfold sg
    simp
def IsInt (x : Rat) (K : Nat) : Prop := ∃ u : Int, x = (u : Rat) ∧ u.natAbs ≤ K
theorem IsInt.mul {x y : Rat} {K L : Nat} (h : IsInt x K) (g : IsInt y L) : IsInt (x * y) (K * L) := by
  obtain ⟨u, rfl, hu⟩ := h
  obtain ⟨v, rfl, hv⟩ := g
  exact ⟨u * v, by rw [Rat.intCast_mul], by rw [Int.natAbs_mul]; exact Nat.mul_le_mul hu hv⟩
theorem IsInt.add {x y : Rat} {K L : Nat} (h : IsInt x K) (g : IsInt y L) : IsInt (x + y) (K + L) := by
  obtain ⟨u, rfl, hu⟩ := h
  obtain ⟨v, rfl, hv⟩ := g
  exact ⟨u + v, by rw [Rat.intCast_add], Nat.le_trans (Int.natAbs_add_le _ _) (Nat.add_le_add hu hv)⟩
theorem IsInt.mono {x : Rat} {K L : Nat} (h : IsInt x K) (l : K ≤ L) : IsInt x L := by
  obtain ⟨u, e, hu⟩ := h
  exact ⟨u, e, Nat.le_trans hu l⟩
theorem IsInt.zero : IsInt 0 0 := ⟨0, rfl, Nat.le_refl _⟩
theorem IsInt.sm {n K : Nat} {f : Nat → Rat} (h : ∀ i, i < n → IsInt (f i) K) : IsInt (sm n f) (n * K) := by
  induction n with
  | zero => rw [Nat.zero_mul]; exact .zero
  | succ n ih =>
    rw [Nat.succ_mul]
    exact (ih fun i hi => h i (by omega)).add (h n (by omega))
theorem sg_int {j : Nat} : IsInt (sg j) 1 := by
  unfold sg
  split
  · exact ⟨1, rfl, Nat.le_refl _⟩
  · exact ⟨-1, rfl, Nat.le_refl _⟩
theorem det_int : ∀ {n K m : Nat} {A : Nat → Nat → Rat}, n ≤ m → (∀ i j, i < n → j < n → IsInt (A i j) K) → IsInt (det n A) ((m * K) ^ n)
  | 0, _, _, _, _, _ => ⟨1, rfl, by simp⟩
  | n + 1, K, m, A, hm, h => by
    rw [det]
    refine (IsInt.sm fun j hj => ((sg_int.mul (h 0 j (by omega) hj)).mul (det_int (m := m) (by omega) fun i k hi hk => h (i + 1) (skip j k) (by omega) (skip_lt hk)))).mono ?_
    rw [Nat.pow_succ, Nat.one_mul, ← Nat.mul_assoc, Nat.mul_comm ((m * K) ^ n)]
    exact Nat.mul_le_mul_right _ (Nat.mul_le_mul_right _ hm)
def CD (E K : Nat) (x : Rat) : Prop := 0 < E ∧ IsInt (x * (E : Rat)) K
section
variable {n : Nat} {N T : Nat → Nat → Rat} {b : Nat → Nat} {p c : Nat}
def dB (n : Nat) (N : Nat → Nat → Rat) (b : Nat → Nat) : Rat := det n fun i k => N i (b k)
theorem dB_put (h : Tab n N T b) (hp : p < n) : dB n N (put b p c) = T p c * dB n N b := by
  unfold dB
  have := cramer (A := fun i k => N i (b k)) (v := fun i => N i c) (x := fun k => T k c) hp fun i hi => h.right i hi c
  rw [← this]
  refine det_congr fun i j _ _ => ?_
  unfold put colp
  split <;> rfl
theorem dB_start (hb : ∀ i, i < n → ∀ j, j < n → N i j = if i = j then 1 else 0) : dB n N id = 1 := by
  unfold dB
  rw [← det_one n]
  exact det_congr fun i j hi hj => hb i hi j hj
theorem Tab.cd {K : Nat} (h : Tab n N T b) (hd : dB n N b ≠ 0) (hK : ∀ i j, i < n → j ≤ 2 * n → IsInt (N i j) K) (hr : ∀ i, i < n → b i ≤ 2 * n) :
    ∃ D : Nat, 0 < D ∧ D ≤ (n * K) ^ n ∧ (∀ k j, k < n → j ≤ 2 * n → CD D ((n * K) ^ n) (T k j)) := by
  obtain ⟨u, hu, hb⟩ := det_int (n := n) (m := n) (A := fun i k => N i (b k)) (Nat.le_refl n) fun i j hi hj => hK i (b j) hi (hr j hj)
  change dB n N b = u at hu
  have hu0 : u ≠ 0 := by
    rintro rfl
    exact hd (hu.trans rfl)
  refine ⟨u.natAbs, by omega, hb, fun k j hk hj => ⟨by omega, ?_⟩⟩
  obtain ⟨t, ht, hb2⟩ := det_int (n := n) (m := n) (A := fun i l => N i (put b k j l)) (Nat.le_refl n) fun i l hi hl => hK i (put b k j l) hi (by
    unfold put
    split
    · exact hj
    · exact hr l hl)
  change dB n N (put b k j) = t at ht
  rw [dB_put h hk, hu] at ht
  rcases Int.natAbs_eq u with e | e
  · refine ⟨t, ?_, hb2⟩
    rw [← ht]
    have : ((u.natAbs : Nat) : Rat) = ((u : Int) : Rat) := by
      rw [show ((u : Int) : Rat) = (((u.natAbs : Nat) : Int) : Rat) from congrArg _ e]; rfl
    rw [this]
  · refine ⟨-t, ?_, by rw [Int.natAbs_neg]; exact hb2⟩
    rw [Rat.intCast_neg, ← ht]
    have : ((u.natAbs : Nat) : Rat) = - ((u : Int) : Rat) := by
      rw [show ((u : Int) : Rat) = ((-((u.natAbs : Nat) : Int) : Int) : Rat) from congrArg _ e, Rat.intCast_neg, Rat.neg_neg]; rfl
    rw [this]; grind
theorem Tab.cd_last {D e K G : Nat} (h : Tab n N T b) (hD : ∀ k j, k < n → j ≤ 2 * n → CD D G (T k j)) (he : ∀ i, i < n → CD e K (N i (2 * n + 1))) {k : Nat} (hk : k < n) : CD (D * e) (n * (G * K)) (T k (2 * n + 1)) := by
  refine ⟨Nat.mul_pos (hD k 0 hk (by omega)).1 (he k hk).1, ?_⟩
  rw [h.left k hk, ← sm_mulr]
  refine IsInt.sm fun i hi => ?_
  have h1 := (hD k i hk (by omega)).2.mul (he i hi).2
  have : T k i * N i (2 * n + 1) * ((D * e : Nat) : Rat) = T k i * (D : Rat) * (N i (2 * n + 1) * (e : Rat)) := by
    rw [Rat.natCast_mul]; grind
  rw [this]
  exact h1
end
end Lk

namespace Lk
theorem sm_term {n p : Nat} {f : Nat → Rat} (hp : p < n) (h : ∀ i, i < n → 0 ≤ f i) : f p ≤ sm n f := by
  rw [sm_out hp]
  have : 0 ≤ sm n fun i => if i = p then 0 else f i := sm_nn fun i hi => by
    have := h i hi
    split <;> grind
  grind
structure Pr where
  u : Nat
  T : Nat
  r : Nat
  tr : Nat → Nat
  ind : Nat → Nat → Rat
  s : Nat → Rat
  be : Nat → Rat
  d : Nat → Rat
structure Pr.Ok (P : Pr) : Prop where
  trT : ∀ j, j < P.u → P.tr j < P.T
  i01 : ∀ j x, P.ind j x = 0 ∨ P.ind j x = 1
  s0 : ∀ x, 0 ≤ P.s x
  b0 : ∀ x, 0 ≤ P.be x
  d0 : ∀ t, 0 ≤ P.d t
  has : ∀ t, t < P.T → ∃ j, j < P.u ∧ P.tr j = t
def Pr.m (P : Pr) : Nat := P.u + P.T
def Pr.ov (P : Pr) (i j : Nat) : Rat := sm P.r fun x => P.s x * (P.ind i x * P.ind j x)
def Pr.M (P : Pr) (i j : Nat) : Rat := if i < P.u then (if j < P.u then P.ov i j else if j - P.u = P.tr i then -1 else 0) else if j < P.u then (if P.tr j = i - P.u then 1 else 0) else 0
def Pr.bc (P : Pr) (i : Nat) : Rat := sm P.r fun x => P.ind i x * P.be x
def Pr.q (P : Pr) (i : Nat) : Rat := if i < P.u then P.bc i else - P.d (i - P.u)
def Pr.fl (P : Pr) (z : Nat → Rat) (x : Nat) : Rat := sm P.u fun j => P.ind j x * z j
def Pr.cst (P : Pr) (z : Nat → Rat) (i : Nat) : Rat := sm P.r fun x => P.ind i x * (P.s x * P.fl z x + P.be x)
def Pr.tot (P : Pr) (z : Nat → Rat) (t : Nat) : Rat := sm P.u fun j => if P.tr j = t then z j else 0
section
variable {P : Pr} {y z : Nat → Rat}
theorem Pr.mv_hi (h : P.Ok) {i : Nat} (hi : i < P.u) : mv P.m P.M y i = (sm P.u fun j => P.ov i j * y j) - y (P.u + P.tr i) := by
  unfold mv Pr.m
  rw [sm_split]
  have e1 : (sm P.u fun j => P.M i j * y j) = sm P.u fun j => P.ov i j * y j := sm_congr fun j hj => by
    unfold Pr.M
    rw [if_pos hi, if_pos hj]
  have e2 : (sm P.T fun t => P.M i (P.u + t) * y (P.u + t)) = - y (P.u + P.tr i) := by
    rw [sm_one (h.trT i hi) fun t ht hn => ?_]
    · unfold Pr.M
      rw [if_pos hi, if_neg (by omega), Nat.add_sub_cancel_left, if_pos rfl]
      grind
    · unfold Pr.M
      rw [if_pos hi, if_neg (by omega), Nat.add_sub_cancel_left, if_neg hn]
      grind
  rw [e1, e2]
  grind
theorem Pr.mv_lo {t : Nat} (ht : t < P.T) : mv P.m P.M y (P.u + t) = P.tot y t := by
  unfold mv Pr.m Pr.tot
  rw [sm_split]
  have e2 : (sm P.T fun k => P.M (P.u + t) (P.u + k) * y (P.u + k)) = 0 := sm_zero fun k hk => by
    unfold Pr.M
    rw [if_neg (by omega), if_neg (by omega)]
    grind
  rw [e2]
  have e1 : (sm P.u fun j => P.M (P.u + t) j * y j) = sm P.u fun j => if P.tr j = t then y j else 0 := sm_congr fun j hj => by
    unfold Pr.M
    rw [if_neg (by omega), if_pos hj, Nat.add_sub_cancel_left]
    split <;> grind
  rw [e1]
  grind
theorem Pr.ov_fl {i : Nat} : (sm P.u fun j => P.ov i j * y j) = sm P.r fun x => P.ind i x * (P.s x * P.fl y x) := by
  have e1 : (sm P.u fun j => P.ov i j * y j) = sm P.u fun j => sm P.r fun x => P.s x * (P.ind i x * P.ind j x) * y j := sm_congr fun j _ => by
    unfold Pr.ov
    rw [← sm_mulr]
  rw [e1, sm_swap]
  refine sm_congr fun x _ => ?_
  unfold Pr.fl
  have : P.ind i x * (P.s x * sm P.u fun j => P.ind j x * y j) = sm P.u fun j => (P.ind i x * P.s x) * (P.ind j x * y j) := by
    rw [sm_mul]
    grind
  rw [this]
  exact sm_congr fun j _ => by grind
theorem Pr.ov_nn (h : P.Ok) {i j : Nat} : 0 ≤ P.ov i j := sm_nn fun x _ => Rat.mul_nonneg (h.s0 x) (by
  rcases h.i01 i x with e | e <;> rcases h.i01 j x with f | f <;> rw [e, f] <;> grind)
theorem Pr.bc_nn (h : P.Ok) {i : Nat} : 0 ≤ P.bc i := sm_nn fun x _ => Rat.mul_nonneg (by rcases h.i01 i x with e | e <;> rw [e] <;> decide) (h.b0 x)
theorem Pr.feas (h : P.Ok) : ∃ y : Nat → Rat, (∀ i, i < P.m → 0 ≤ y i) ∧ ∀ i, i < P.m → 0 ≤ mv P.m P.M y i + P.q i := by
  have L0 : 0 ≤ sm P.T P.d := sm_nn fun t _ => h.d0 t
  refine ⟨fun i => if i < P.u then sm P.T P.d else 0, fun i _ => by show 0 ≤ if i < P.u then sm P.T P.d else 0; split <;> grind, fun i hi => ?_⟩
  by_cases c : i < P.u
  · rw [Pr.mv_hi h c, if_neg (by omega)]
    unfold Pr.q
    rw [if_pos c]
    have a : 0 ≤ sm P.u fun j => P.ov i j * (if j < P.u then sm P.T P.d else 0) := sm_nn fun j hj => by
      rw [if_pos hj]
      exact Rat.mul_nonneg (Pr.ov_nn h) L0
    have b := Pr.bc_nn h (i := i)
    grind
  · obtain ⟨t, rfl⟩ : ∃ t, i = P.u + t := ⟨i - P.u, by omega⟩
    have ht : t < P.T := by unfold Pr.m at hi; omega
    rw [Pr.mv_lo ht]
    unfold Pr.q Pr.tot
    rw [if_neg c, Nat.add_sub_cancel_left]
    obtain ⟨j, hj, ej⟩ := h.has t ht
    have a : sm P.T P.d ≤ sm P.u fun k => if P.tr k = t then (if k < P.u then sm P.T P.d else 0) else 0 := by
      have e := sm_term (f := fun k => if P.tr k = t then (if k < P.u then sm P.T P.d else 0) else 0) hj fun k hk => by
        show 0 ≤ if P.tr k = t then (if k < P.u then sm P.T P.d else 0) else 0
        rw [if_pos hk]
        split <;> grind
      have e2 : (fun k => if P.tr k = t then (if k < P.u then sm P.T P.d else 0) else 0) j = sm P.T P.d := by
        show (if P.tr j = t then (if j < P.u then sm P.T P.d else 0) else 0) = _
        rw [if_pos ej, if_pos hj]
      exact Rat.le_trans (by rw [if_pos ej, if_pos hj]; exact Rat.le_refl) e
    have b : P.d t ≤ sm P.T P.d := sm_term ht fun k _ => h.d0 k
    grind
structure Pr.Sol (P : Pr) (z : Nat → Rat) : Prop where
  nn : ∀ j, j < P.u → 0 ≤ z j
  un : ∀ t, t < P.T → 0 ≤ z (P.u + t)
  low : ∀ j, j < P.u → z (P.u + P.tr j) ≤ P.cst z j
  eq : ∀ j, j < P.u → 0 < z j → P.cst z j = z (P.u + P.tr j)
  dem : ∀ t, t < P.T → P.d t ≤ P.tot z t
  full : ∀ t, t < P.T → 0 < z (P.u + t) → P.tot z t = P.d t
theorem Pr.fl_nn (h : P.Ok) (hz : ∀ j, j < P.u → 0 ≤ z j) {x : Nat} : 0 ≤ P.fl z x := sm_nn fun j hj => Rat.mul_nonneg (by rcases h.i01 j x with e | e <;> rw [e] <;> grind) (hz j hj)
end
end Lk

namespace Lk
structure Rt where
  u : Nat
  tr : Nat → Nat
  ind : Nat → Nat → Rat
  y : Nat → Rat
def Rt.fl (A : Rt) (x : Nat) : Rat := sm A.u fun j => A.ind j x * A.y j
end Lk

namespace Lk
structure Pg where
  u : Nat
  T : Nat
  r : Nat
  tr : Nat → Nat
  ind : Nat → Nat → Rat
  s : Nat → Rat
  o : Rat
  cb : Nat → Rat
  f : Nat → Rat
  d : Nat → Rat
structure Pg.Ok (P : Pg) : Prop where
  trT : ∀ j, j < P.u → P.tr j < P.T
  i01 : ∀ j x, P.ind j x = 0 ∨ P.ind j x = 1
  s0 : ∀ x, 0 ≤ P.s x
  o0 : 0 ≤ P.o
  c0 : ∀ j, 0 ≤ P.cb j
  f0 : ∀ t, 0 ≤ P.f t
  d0 : ∀ t, 0 ≤ P.d t
  has : ∀ t, t < P.T → ∃ j, j < P.u ∧ P.tr j = t
def Pg.m (P : Pg) : Nat := P.u + P.T
def Pg.ov (P : Pg) (i j : Nat) : Rat := sm P.r fun x => P.s x * (P.ind i x * P.ind j x)
def Pg.M (P : Pg) (i j : Nat) : Rat :=
  if i < P.u then (if j < P.u then (if P.tr j = P.tr i then (1 + P.o) * P.ov i j else P.ov i j) else if j - P.u = P.tr i then -1 else 0)
  else if j < P.u then (if P.tr j = i - P.u then 1 else 0) else if j = i then P.f (i - P.u) else 0
def Pg.q (P : Pg) (i : Nat) : Rat := if i < P.u then P.cb i else - P.d (i - P.u)
def Pg.fl (P : Pg) (z : Nat → Rat) (x : Nat) : Rat := sm P.u fun j => P.ind j x * z j
def Pg.own (P : Pg) (z : Nat → Rat) (t x : Nat) : Rat := sm P.u fun j => if P.tr j = t then P.ind j x * z j else 0
def Pg.cst (P : Pg) (z : Nat → Rat) (i : Nat) : Rat := (sm P.r fun x => P.ind i x * (P.s x * (P.fl z x + P.o * P.own z (P.tr i) x))) + P.cb i
def Pg.tot (P : Pg) (z : Nat → Rat) (t : Nat) : Rat := sm P.u fun j => if P.tr j = t then z j else 0
section
variable {P : Pg} {y z : Nat → Rat}
theorem Pg.ov_fl {i : Nat} {c : Nat → Rat} : (sm P.u fun j => c j * P.ov i j * y j) = sm P.r fun x => P.ind i x * (P.s x * sm P.u fun j => c j * (P.ind j x * y j)) := by
  have e1 : (sm P.u fun j => c j * P.ov i j * y j) = sm P.u fun j => sm P.r fun x => (c j * y j) * (P.s x * (P.ind i x * P.ind j x)) := sm_congr fun j _ => by
    rw [sm_mul]
    unfold Pg.ov
    grind
  rw [e1, sm_swap]
  refine sm_congr fun x _ => ?_
  have : P.ind i x * (P.s x * sm P.u fun j => c j * (P.ind j x * y j)) = sm P.u fun j => (P.ind i x * P.s x) * (c j * (P.ind j x * y j)) := by
    rw [sm_mul]
    grind
  rw [this]
  exact sm_congr fun j _ => by grind
theorem Pg.fo {t x : Nat} : (sm P.u fun j => (if P.tr j = t then 1 + P.o else 1) * (P.ind j x * y j)) = P.fl y x + P.o * P.own y t x := by
  unfold Pg.fl Pg.own
  rw [← sm_mul, ← sm_add]
  exact sm_congr fun j _ => by split <;> grind
theorem Pg.mv_hi (h : P.Ok) {i : Nat} (hi : i < P.u) : mv P.m P.M y i = (sm P.r fun x => P.ind i x * (P.s x * (P.fl y x + P.o * P.own y (P.tr i) x))) - y (P.u + P.tr i) := by
  unfold mv Pg.m
  rw [sm_split]
  have e1 : (sm P.u fun j => P.M i j * y j) = sm P.u fun j => (if P.tr j = P.tr i then 1 + P.o else 1) * P.ov i j * y j := sm_congr fun j hj => by
    unfold Pg.M
    rw [if_pos hi, if_pos hj]
    split <;> grind
  have e2 : (sm P.T fun t => P.M i (P.u + t) * y (P.u + t)) = - y (P.u + P.tr i) := by
    rw [sm_one (h.trT i hi) fun t ht hn => ?_]
    · unfold Pg.M
      rw [if_pos hi, if_neg (by omega), Nat.add_sub_cancel_left, if_pos rfl]
      grind
    · unfold Pg.M
      rw [if_pos hi, if_neg (by omega), Nat.add_sub_cancel_left, if_neg hn]
      grind
  rw [e1, e2, Pg.ov_fl]
  have : (sm P.r fun x => P.ind i x * (P.s x * sm P.u fun j => (if P.tr j = P.tr i then 1 + P.o else 1) * (P.ind j x * y j))) = sm P.r fun x => P.ind i x * (P.s x * (P.fl y x + P.o * P.own y (P.tr i) x)) := sm_congr fun x _ => by rw [Pg.fo]
  rw [this]
  grind
theorem Pg.mv_lo {t : Nat} (ht : t < P.T) : mv P.m P.M y (P.u + t) = P.tot y t + P.f t * y (P.u + t) := by
  unfold mv Pg.m Pg.tot
  rw [sm_split]
  have e2 : (sm P.T fun k => P.M (P.u + t) (P.u + k) * y (P.u + k)) = P.f t * y (P.u + t) := by
    rw [sm_one ht fun k hk hn => ?_]
    · unfold Pg.M
      rw [if_neg (by omega), if_neg (by omega), if_pos rfl, Nat.add_sub_cancel_left]
    · unfold Pg.M
      rw [if_neg (by omega), if_neg (by omega), if_neg (by omega)]
      grind
  rw [e2]
  have e1 : (sm P.u fun j => P.M (P.u + t) j * y j) = sm P.u fun j => if P.tr j = t then y j else 0 := sm_congr fun j hj => by
    unfold Pg.M
    rw [if_neg (by omega), if_pos hj, Nat.add_sub_cancel_left]
    split <;> grind
  rw [e1]
theorem Pg.fl_nn (h : P.Ok) (hz : ∀ j, j < P.u → 0 ≤ z j) {x : Nat} : 0 ≤ P.fl z x := sm_nn fun j hj => Rat.mul_nonneg (by rcases h.i01 j x with e | e <;> rw [e] <;> grind) (hz j hj)
theorem Pg.own_nn (h : P.Ok) (hz : ∀ j, j < P.u → 0 ≤ z j) {t x : Nat} : 0 ≤ P.own z t x := sm_nn fun j hj => by
  show 0 ≤ if P.tr j = t then P.ind j x * z j else 0
  split
  · exact Rat.mul_nonneg (by rcases h.i01 j x with e | e <;> rw [e] <;> grind) (hz j hj)
  · grind
theorem Pg.feas (h : P.Ok) : ∃ y : Nat → Rat, (∀ i, i < P.m → 0 ≤ y i) ∧ ∀ i, i < P.m → 0 ≤ mv P.m P.M y i + P.q i := by
  have L0 : 0 ≤ sm P.T P.d := sm_nn fun t _ => h.d0 t
  refine ⟨fun i => if i < P.u then sm P.T P.d else 0, fun i _ => by show 0 ≤ if i < P.u then sm P.T P.d else 0; split <;> grind, fun i hi => ?_⟩
  have y0 : ∀ j, j < P.u → 0 ≤ (fun i => if i < P.u then sm P.T P.d else 0) j := fun j hj => by show 0 ≤ if j < P.u then _ else _; rw [if_pos hj]; exact L0
  by_cases c : i < P.u
  · rw [Pg.mv_hi h c, if_neg (by omega)]
    unfold Pg.q
    rw [if_pos c]
    have a : 0 ≤ sm P.r fun x => P.ind i x * (P.s x * (P.fl (fun i => if i < P.u then sm P.T P.d else 0) x + P.o * P.own (fun i => if i < P.u then sm P.T P.d else 0) (P.tr i) x)) := sm_nn fun x _ => by
      refine Rat.mul_nonneg (by rcases h.i01 i x with e | e <;> rw [e] <;> grind) (Rat.mul_nonneg (h.s0 x) ?_)
      have a := Pg.fl_nn (x := x) h y0
      have b := Rat.mul_nonneg h.o0 (Pg.own_nn (t := P.tr i) (x := x) h y0)
      grind
    have b := h.c0 i
    grind
  · obtain ⟨t, rfl⟩ : ∃ t, i = P.u + t := ⟨i - P.u, by omega⟩
    have ht : t < P.T := by unfold Pg.m at hi; omega
    rw [Pg.mv_lo ht, if_neg (by omega)]
    unfold Pg.q Pg.tot
    rw [if_neg c, Nat.add_sub_cancel_left]
    obtain ⟨j, hj, ej⟩ := h.has t ht
    have a : sm P.T P.d ≤ sm P.u fun k => if P.tr k = t then (if k < P.u then sm P.T P.d else 0) else 0 := by
      have e := sm_term (f := fun k => if P.tr k = t then (if k < P.u then sm P.T P.d else 0) else 0) hj fun k hk => by
        show 0 ≤ if P.tr k = t then (if k < P.u then sm P.T P.d else 0) else 0
        rw [if_pos hk]
        split <;> grind
      exact Rat.le_trans (by rw [if_pos ej, if_pos hj]; exact Rat.le_refl) e
    have b : P.d t ≤ sm P.T P.d := sm_term ht fun k _ => h.d0 k
    grind
structure Pg.Sol (P : Pg) (z : Nat → Rat) : Prop where
  nn : ∀ j, j < P.u → 0 ≤ z j
  un : ∀ t, t < P.T → 0 ≤ z (P.u + t)
  low : ∀ j, j < P.u → z (P.u + P.tr j) ≤ P.cst z j
  eq : ∀ j, j < P.u → 0 < z j → P.cst z j = z (P.u + P.tr j)
  dem : ∀ t, t < P.T → P.d t ≤ P.tot z t + P.f t * z (P.u + t)
  full : ∀ t, t < P.T → 0 < z (P.u + t) → P.tot z t + P.f t * z (P.u + t) = P.d t
end
end Lk

namespace Lk
section
variable {n p c : Nat} {N T T' : Nat → Nat → Rat} {b b' : Nat → Nat} {w : Nat → Rat}
theorem Tab.via (h : Tab n N T b) (g : Tab n N T' b') {i : Nat} (hi : i < n) (j : Nat) : T' i j = sm n fun l => T' i (b l) * T l j := by
  rw [g.left i hi j]
  have e1 : (sm n fun k => T' i k * N k j) = sm n fun k => sm n fun l => T' i k * (N k (b l) * T l j) := sm_congr fun k hk => by
    rw [h.right k hk j, ← sm_mul]
  rw [e1, sm_swap]
  refine sm_congr fun l hl => ?_
  rw [g.left i hi (b l), ← sm_mulr]
  exact sm_congr fun k _ => by grind
def zc (n : Nat) (w : Nat → Rat) (T : Nat → Nat → Rat) (b : Nat → Nat) (j : Nat) : Rat := sm n fun i => w (b i) * T i j
def rc (n : Nat) (w : Nat → Rat) (T : Nat → Nat → Rat) (b : Nat → Nat) (j : Nat) : Rat := w j - zc n w T b j
theorem Tab.rc_basic (h : Tab n N T b) {i : Nat} (hi : i < n) : rc n w T b (b i) = 0 := by
  unfold rc zc
  rw [sm_one hi fun k hk e => by rw [h.unit i hi k hk, if_neg e]; grind, h.unit i hi i hi, if_pos rfl]
  grind
theorem Tab.rc_via (h : Tab n N T b) (g : Tab n N T' b') (j : Nat) : rc n w T' b' j = rc n w T b j + sm n fun l => rc n w T' b' (b l) * T l j := by
  have e : zc n w T' b' j = sm n fun l => zc n w T' b' (b l) * T l j := by
    unfold zc
    have e1 : (sm n fun i => w (b' i) * T' i j) = sm n fun i => sm n fun l => w (b' i) * (T' i (b l) * T l j) := sm_congr fun i hi => by
      rw [h.via g hi j, ← sm_mul]
    rw [e1, sm_swap]
    refine sm_congr fun l _ => ?_
    rw [← sm_mulr]
    exact sm_congr fun i _ => by grind
  unfold rc
  rw [e]
  have e2 : (sm n fun l => (w (b l) - zc n w T' b' (b l)) * T l j) = zc n w T b j - sm n fun l => zc n w T' b' (b l) * T l j := by
    rw [show zc n w T b j = sm n fun l => w (b l) * T l j from rfl, ← sm_sub]
    exact sm_congr fun l _ => by grind
  rw [e2]
  grind
structure Bst (n M ρ : Nat) (w : Nat → Rat) (T : Nat → Nat → Rat) (b : Nat → Nat) (p s : Nat) : Prop where
  s0 : n ≤ s
  s1 : s < M
  up : 0 < rc n w T b s
  lo : ∀ k, n ≤ k → k < s → rc n w T b k ≤ 0
  hp : p < n
  tp : 0 < T p s
  mn : ∀ l, l < n → 0 < T l s → T p ρ / T p s ≤ T l ρ / T l s
  tie : ∀ l, l < n → 0 < T l s → T p ρ / T p s = T l ρ / T l s → n ≤ b p → n ≤ b l → b p ≤ b l
structure Bs where
  T : Nat → Nat → Rat
  b : Nat → Nat
def Bs.at_ (σ : Bs) (p s : Nat) : Bs := ⟨piv σ.T p s, put σ.b p s⟩
structure Bpath (n M ρ : Nat) (w : Nat → Rat) (N : Nat → Nat → Rat) (σ : Nat → Bs) (K : Nat) : Prop where
  tab : Tab n N (σ 0).T (σ 0).b
  nn : ∀ i, i < n → 0 ≤ (σ 0).T i ρ
  ran : ∀ i, i < n → (σ 0).b i < M
  nxt : ∀ k, k < K → ∃ p s, Bst n M ρ w (σ k).T (σ k).b p s ∧ σ (k + 1) = (σ k).at_ p s
variable {M ρ : Nat} {σ : Nat → Bs} {K : Nat}
theorem Bst.share (B : Bst n M ρ w T b p c) (h : ∀ i, i < n → 0 ≤ T i ρ) : 0 ≤ T p ρ / T p c := by
  rw [Rat.div_def]
  exact Rat.mul_nonneg (h p B.hp) (Rat.le_of_lt (Rat.inv_pos.mpr B.tp))
theorem Bst.nn (B : Bst n M ρ w T b p c) (h : ∀ i, i < n → 0 ≤ T i ρ) : ∀ i, i < n → 0 ≤ piv T p c i ρ := fun i hi => by
  have sh := B.share h
  by_cases e : i = p
  · rw [e, piv_p]; exact sh
  · rw [piv_n e]
    by_cases z : 0 < T i c
    · have m := B.mn i hi z
      have t0 : T i c ≠ 0 := by grind
      have e2 : T i ρ / T i c * T i c = T i ρ := by rw [Rat.div_def, Rat.mul_assoc, Rat.inv_mul_cancel _ t0]; grind
      have := Rat.mul_le_mul_of_nonneg_right m (Rat.le_of_lt z)
      rw [e2] at this
      grind
    · have := Rat.mul_nonneg (show 0 ≤ - T i c by grind) sh
      have := h i hi
      grind
theorem Bpath.st (P : Bpath n M ρ w N σ K) : ∀ k, k ≤ K → Tab n N (σ k).T (σ k).b ∧ (∀ i, i < n → 0 ≤ (σ k).T i ρ) ∧ ∀ i, i < n → (σ k).b i < M
  | 0, _ => ⟨P.tab, P.nn, P.ran⟩
  | k + 1, h => by
    obtain ⟨t, a, r⟩ := P.st k (by omega)
    obtain ⟨p, s, B, e⟩ := P.nxt k (by omega)
    rw [e]
    refine ⟨t.piv B.hp (by have := B.tp; grind), B.nn a, fun i hi => ?_⟩
    show put (σ k).b p s i < M
    by_cases z : i = p
    · rw [z, put_p]; exact B.s1
    · rw [put_n z]; exact r i hi
theorem Bst.val (t : Tab n N T b) (B : Bst n M ρ w T b p c) : rc n w (piv T p c) (put b p c) ρ = rc n w T b ρ - rc n w T b c * (T p ρ / T p c) := by
  have t' := t.piv B.hp (show T p c ≠ 0 by have := B.tp; grind)
  have h := t'.rc_via (w := w) t ρ
  -- the old table by the new one
  rw [sm_one B.hp fun l hl e => by rw [put_n e, t.rc_basic hl]; grind, put_p, piv_p] at h
  grind
end
end Lk

namespace Lk
section
variable {n M ρ : Nat} {N : Nat → Nat → Rat} {w : Nat → Rat} {σ : Nat → Bs} {K : Nat}
theorem Bpath.from (P : Bpath n M ρ w N σ K) {i : Nat} (hi : i ≤ K) : Bpath n M ρ w N (fun k => σ (i + k)) (K - i) := by
  obtain ⟨a, b, c⟩ := P.st i hi
  exact ⟨a, b, c, fun k hk => P.nxt (i + k) (by omega)⟩
end
end Lk

namespace Lk
def cl (n m c : Nat) : Nat := if c < m then n + c else if c < m + n then c - m else c
def bcl (n m x : Nat) : Nat := if n ≤ x then x - n else m + x
theorem cl_real {n m c : Nat} (h : c < m) : cl n m c = n + c := by unfold cl; rw [if_pos h]
theorem cl_help {n m j : Nat} (h : j < n) : cl n m (m + j) = j := by unfold cl; rw [if_neg (by omega), if_pos (by omega)]; omega
theorem cl_last {n m : Nat} : cl n m (m + n) = n + m := by unfold cl; rw [if_neg (by omega), if_neg (by omega)]; omega
theorem bcl_real {n m c : Nat} : bcl n m (n + c) = c := by unfold bcl; rw [if_pos (by omega)]; omega
theorem bcl_help {n m x : Nat} (h : x < n) : bcl n m x = m + x := by unfold bcl; rw [if_neg (by omega)]
section
variable {n m q : Nat} {N T T' : Nat → Nat → Rat} {b b' : Nat → Nat} {W : Nat → Nat → Rat} {β ℓ : Nat → Nat}
structure Rel (n m q : Nat) (ℓ : Nat → Nat) (T : Nat → Nat → Rat) (b : Nat → Nat) (W : Nat → Nat → Rat) (β : Nat → Nat) : Prop where
  lam : ∀ t, t < q → ℓ t < n
  inj : ∀ t, t < q → ∀ s, s < q → ℓ t = ℓ s → t = s
  ent : ∀ t, t < q → ∀ c, W t c = T (ℓ t) (cl n m c)
  bas : ∀ t, t < q → β t = bcl n m (b (ℓ t))
  out : ∀ i, i < n → (∀ t, t < q → ℓ t ≠ i) → b i < n ∧ (∀ c, c < m → T i (n + c) = 0) ∧ T i (n + m) = 0
theorem Rel.piv (R : Rel n m q ℓ T b W β) {p c : Nat} (hp : p < q) (hc : c < m) : Rel n m q ℓ (piv T (ℓ p) (n + c)) (put b (ℓ p) (n + c)) (piv W p c) (put β p c) := by
  refine ⟨R.lam, R.inj, fun t ht j => ?_, fun t ht => ?_, fun i hi ho => ?_⟩
  · by_cases e : t = p
    · subst e
      rw [piv_p, piv_p, R.ent t ht, R.ent t ht, cl_real hc]
    · have e' : ℓ t ≠ ℓ p := fun z => e (R.inj t ht p hp z)
      rw [piv_n e, piv_n e', R.ent t ht, R.ent t ht, R.ent p hp, R.ent p hp, cl_real hc]
  · by_cases e : t = p
    · subst e
      rw [put_p, put_p, bcl_real]
    · have e' : ℓ t ≠ ℓ p := fun z => e (R.inj t ht p hp z)
      rw [put_n e, put_n e', R.bas t ht]
  · have e' : i ≠ ℓ p := fun z => ho p hp z.symm
    obtain ⟨h1, h2, h3⟩ := R.out i hi ho
    refine ⟨by rw [put_n e']; exact h1, fun j hj => ?_, ?_⟩
    · rw [piv_n e', h2 j hj, h2 c hc]; grind
    · rw [piv_n e', h3, h2 c hc]; grind
theorem Rel.sum (R : Rel n m q ℓ T b W β) {f : Nat → Rat} (h : ∀ i, i < n → (∀ t, t < q → ℓ t ≠ i) → f i = 0) : (sm q fun t => f (ℓ t)) = sm n f := by
  have e1 : (sm q fun t => f (ℓ t)) = sm q fun t => sm n fun i => if ℓ t = i then f i else 0 := sm_congr fun t ht => by
    rw [sm_one (R.lam t ht) fun i hi e => if_neg fun z => e z.symm, if_pos rfl]
  rw [e1, sm_swap]
  refine sm_congr fun i hi => ?_
  by_cases c : ∃ t, t < q ∧ ℓ t = i
  · obtain ⟨t, ht, e⟩ := c
    rw [sm_one ht fun s hs hn => if_neg fun z => hn (R.inj s hs t ht (by rw [z, e])), if_pos e]
  · have ho : ∀ t, t < q → ℓ t ≠ i := fun t ht z => c ⟨t, ht, z⟩
    rw [h i hi ho, sm_zero fun t ht => if_neg (ho t ht)]
theorem Rel.mu (R : Rel n m q ℓ T b W β) {γ : Nat → Rat} (h : q = n ∨ ∀ c, m ≤ c → γ c = 0) (c : Nat) : (sm q fun t => γ (β t) * W t c) = zc n (fun x => γ (bcl n m x)) T b (cl n m c) := by
  have e : (sm q fun t => γ (β t) * W t c) = sm q fun t => (fun i => γ (bcl n m (b i)) * T i (cl n m c)) (ℓ t) := sm_congr fun t ht => by
    rw [R.bas t ht, R.ent t ht]
  rw [e]
  refine R.sum (f := fun i => γ (bcl n m (b i)) * T i (cl n m c)) fun i hi ho => ?_
  rcases h with h | h
  · -- all rows are there
    exfalso
    subst h
    exact (show ∀ (k : Nat) (f : Nat → Nat), (∀ t, t < k → f t < k) → (∀ t, t < k → ∀ s, s < k → f t = f s → t = s) → ∀ i, i < k → ∃ t, t < k ∧ f t = i from by
      intro k
      induction k with
      | zero => intro f _ _ i hi; omega
      | succ k ih =>
        intro f hf hj i hi
        -- the last value leaves, its place is taken by k
        by_cases ck : f k = i
        · exact ⟨k, by omega, ck⟩
        obtain ⟨t, ht, e⟩ := ih (fun t => if f t = k then f k else f t) (fun t ht => by
          have h1 := hf t (by omega)
          have h2 := hf k (by omega)
          by_cases z : f t = k
          · rw [if_pos z]
            have : f k ≠ k := fun y => by have := hj t (by omega) k (by omega) (by rw [z, y]); omega
            omega
          · rw [if_neg z]; omega) (fun t ht s hs e => by
          have h1 := hf t (by omega)
          have h2 := hf s (by omega)
          by_cases z : f t = k
          · by_cases y : f s = k
            · exact hj t (by omega) s (by omega) (by rw [z, y])
            · rw [if_pos z, if_neg y] at e
              have := hj k (by omega) s (by omega) e
              omega
          · by_cases y : f s = k
            · rw [if_neg z, if_pos y] at e
              have := hj t (by omega) k (by omega) e
              omega
            · rw [if_neg z, if_neg y] at e
              exact hj t (by omega) s (by omega) e) (if i = k then f k else i) (by
          have h2 := hf k (by omega)
          split
          · have : f k ≠ k := fun y => by omega
            omega
          · omega)
        by_cases z : f t = k
        · rw [if_pos z] at e
          by_cases y : i = k
          · exact ⟨t, by omega, by rw [z, y]⟩
          · rw [if_neg y] at e
            exact absurd e ck
        · rw [if_neg z] at e
          by_cases y : i = k
          · rw [if_pos y] at e
            have := hj t (by omega) k (by omega) e
            omega
          · rw [if_neg y] at e
            exact ⟨t, by omega, e⟩) q ℓ R.lam R.inj i hi |>.elim fun t ht => ho t ht.1 ht.2
  · have h1 := (R.out i hi ho).1
    show γ (bcl n m (b i)) * _ = 0
    rw [bcl_help h1, h _ (by omega)]
    grind
theorem Rel.drop (R : Rel n m q ℓ T b W β) {j : Nat} (hj : j < q) (hb : b (ℓ j) < n) (hz : ∀ c, c < m → W j c = 0) (hr : T (ℓ j) (n + m) = 0) : Rel n m (q - 1) (fun t => ℓ (skip j t)) T b (fun t => W (skip j t)) fun t => β (skip j t) := by
  have sk : ∀ t, t < q - 1 → skip j t < q := fun t ht => by unfold skip; split <;> omega
  refine ⟨fun t ht => R.lam _ (sk t ht), fun t ht s hs e => ?_, fun t ht c => R.ent _ (sk t ht) c, fun t ht => R.bas _ (sk t ht), fun i hi ho => ?_⟩
  · have := R.inj _ (sk t ht) _ (sk s hs) e
    unfold skip at this
    split at this <;> split at this <;> omega
  · by_cases e : i = ℓ j
    · subst e
      refine ⟨hb, fun c hc => ?_, hr⟩
      have := hz c hc
      rw [R.ent j hj, cl_real hc] at this
      exact this
    · refine R.out i hi fun t ht z => ?_
      have tj : t ≠ j := fun y => e (by rw [← z, y])
      by_cases l : t < j
      · refine ho t (by omega) ?_
        show ℓ (skip j t) = i
        unfold skip
        rw [if_pos l]; exact z
      · refine ho (t - 1) (by omega) ?_
        show ℓ (skip j (t - 1)) = i
        unfold skip
        rw [if_neg (by omega), show t - 1 + 1 = t by omega]; exact z
theorem Tab.cdM {M K : Nat} (h : Tab n N T b) (hd : dB n N b ≠ 0) (hK : ∀ i j, i < n → j < M → IsInt (N i j) K) (hr : ∀ i, i < n → b i < M) :
    ∃ D : Nat, 0 < D ∧ D ≤ (n * K) ^ n ∧ (∀ k j, k < n → j < M → CD D ((n * K) ^ n) (T k j)) := by
  obtain ⟨u, hu, hb⟩ := det_int (n := n) (m := n) (A := fun i k => N i (b k)) (Nat.le_refl n) fun i j hi hj => hK i (b j) hi (hr j hj)
  change dB n N b = u at hu
  have hu0 : u ≠ 0 := by
    rintro rfl
    exact hd (hu.trans rfl)
  refine ⟨u.natAbs, by omega, hb, fun k j hk hj => ⟨by omega, ?_⟩⟩
  obtain ⟨t, ht, hb2⟩ := det_int (n := n) (m := n) (A := fun i l => N i (put b k j l)) (Nat.le_refl n) fun i l hi hl => hK i (put b k j l) hi (by
    unfold put
    split
    · exact hj
    · exact hr l hl)
  change dB n N (put b k j) = t at ht
  rw [dB_put h hk, hu] at ht
  rcases Int.natAbs_eq u with e | e
  · refine ⟨t, ?_, hb2⟩
    rw [← ht]
    have : ((u.natAbs : Nat) : Rat) = ((u : Int) : Rat) := by
      rw [show ((u : Int) : Rat) = (((u.natAbs : Nat) : Int) : Rat) from congrArg _ e]; rfl
    rw [this]
  · refine ⟨-t, ?_, by rw [Int.natAbs_neg]; exact hb2⟩
    rw [Rat.intCast_neg, ← ht]
    have : ((u.natAbs : Nat) : Rat) = - ((u : Int) : Rat) := by
      rw [show ((u : Int) : Rat) = ((-((u.natAbs : Nat) : Int) : Int) : Rat) from congrArg _ e, Rat.intCast_neg, Rat.neg_neg]; rfl
    rw [this]; grind
theorem Tab.cdR {D e K G ρ : Nat} (h : Tab n N T b) (hD : ∀ k j, k < n → j < n → CD D G (T k j)) (he : ∀ i, i < n → CD e K (N i ρ)) {k : Nat} (hk : k < n) : CD (D * e) (n * (G * K)) (T k ρ) := by
  refine ⟨Nat.mul_pos (hD k 0 hk (by omega)).1 (he k hk).1, ?_⟩
  rw [h.left k hk, ← sm_mulr]
  refine IsInt.sm fun i hi => ?_
  have h1 := (hD k i hk hi).2.mul (he i hi).2
  have : T k i * N i ρ * ((D * e : Nat) : Rat) = T k i * (D : Rat) * (N i ρ * (e : Rat)) := by
    rw [Rat.natCast_mul]; grind
  rw [this]
  exact h1
theorem CD.mul {E F K L : Nat} {x y : Rat} (h : CD E K x) (g : CD F L y) : CD (E * F) (K * L) (x * y) := by
  refine ⟨Nat.mul_pos h.1 g.1, ?_⟩
  have := h.2.mul g.2
  have e : x * y * ((E * F : Nat) : Rat) = x * (E : Rat) * (y * (F : Rat)) := by
    rw [Rat.natCast_mul]; grind
  rw [e]
  exact this
theorem CD.sm {k E K : Nat} {f : Nat → Rat} (hE : 0 < E) (h : ∀ i, i < k → CD E K (f i)) : CD E (k * K) (sm k f) := by
  refine ⟨hE, ?_⟩
  rw [← sm_mulr]
  exact IsInt.sm fun i hi => (h i hi).2
end
end Lk

namespace Lk
def sgq (q : Rat) : Rat := if q < 0 then -1 else 1
theorem sgq_sq {q : Rat} : sgq q * sgq q = 1 := by unfold sgq; split <;> grind
theorem sgq_nn {q : Rat} : 0 ≤ q * sgq q := by
  unfold sgq
  split
  · grind
  · grind
theorem sgq_or {q : Rat} : sgq q = 1 ∨ sgq q = -1 := by unfold sgq; split <;> simp
def Nz (n m : Nat) (A : Nat → Nat → Rat) (g : Nat → Rat) : Nat → Nat → Rat := fun i x => if x < n then (if i = x then 1 else 0) else if x < n + m then A i (x - n) * sgq (g i) else g i * sgq (g i)
section
variable {n m q : Nat} {A : Nat → Nat → Rat} {g : Nat → Rat} {T T' : Nat → Nat → Rat} {b b' : Nat → Nat} {W : Nat → Nat → Rat} {β ℓ : Nat → Nat} {γ : Nat → Rat}
theorem Nz_unit : ∀ i, i < n → ∀ j, j < n → Nz n m A g i j = if i = j then 1 else 0 := fun i hi j hj => by unfold Nz; rw [if_pos hj]
theorem Nz_real {i c : Nat} (hc : c < m) : Nz n m A g i (n + c) = A i c * sgq (g i) := by unfold Nz; rw [if_neg (by omega), if_pos (by omega), show n + c - n = c by omega]
theorem Nz_last {i : Nat} : Nz n m A g i (n + m) = g i * sgq (g i) := by unfold Nz; rw [if_neg (by omega), if_neg (by omega)]
structure Gq (n M : Nat) (N T : Nat → Nat → Rat) (b : Nat → Nat) : Prop where
  tab : Tab n N T b
  ran : ∀ i, i < n → b i < M
  det : dB n N b ≠ 0
theorem Gq.start : Gq n (n + m) (Nz n m A g) (Nz n m A g) id := ⟨Tab.start Nz_unit, fun i hi => by simp; omega, by rw [dB_start Nz_unit]; decide⟩
theorem Gq.piv {N : Nat → Nat → Rat} {M : Nat} (G : Gq n M N T b) {p c : Nat} (hp : p < n) (hc : c < M) (h0 : T p c ≠ 0) : Gq n M N (Lk.piv T p c) (put b p c) := by
  refine ⟨G.tab.piv hp h0, fun i hi => ?_, ?_⟩
  · by_cases e : i = p
    · subst e; rw [put_p]; exact hc
    · rw [put_n e]; exact G.ran i hi
  · rw [dB_put G.tab hp]
    exact fun z => (Rat.mul_eq_zero.mp z).elim h0 G.det
structure Cl (n m q : Nat) (A : Nat → Nat → Rat) (g : Nat → Rat) (ℓ : Nat → Nat) (γ : Nat → Rat) (K : Nat) (T : Nat → Nat → Rat) (b : Nat → Nat) (W : Nat → Nat → Rat) (β : Nat → Nat) : Prop where
  path : ∃ σ : Nat → Bs, Bpath n (n + m) (n + m) (fun x => γ (bcl n m x)) (Nz n m A g) σ K ∧ σ K = ⟨T, b⟩
  gd : Gq n (n + m) (Nz n m A g) T b
  rel : Rel n m q ℓ T b W β
theorem Cl.nn {K : Nat} (C : Cl n m q A g ℓ γ K T b W β) : ∀ i, i < n → 0 ≤ T i (n + m) := by
  obtain ⟨σ, P, e⟩ := C.path
  have := (P.st K (Nat.le_refl K)).2.1
  rw [e] at this
  exact this
theorem Cl.step {K p s : Nat} (C : Cl n m q A g ℓ γ K T b W β) (hz : q = n ∨ ∀ c, m ≤ c → γ c = 0) (hs : s < m) (up : (sm q fun t => γ (β t) * W t s) < γ s) (lo : ∀ c, c < s → ¬ (sm q fun t => γ (β t) * W t c) < γ c)
    (hp : p < q) (tp : 0 < W p s) (mn : ∀ l, l < q → 0 < W l s → W p (m + n) / W p s ≤ W l (m + n) / W l s) (tie : ∀ l, l < q → 0 < W l s → W p (m + n) / W p s = W l (m + n) / W l s → β p ≤ β l) :
    Cl n m q A g ℓ γ (K + 1) (piv T (ℓ p) (n + s)) (put b (ℓ p) (n + s)) (piv W p s) (put β p s) := by
  have R := C.rel
  obtain ⟨σ, P, e⟩ := C.path
  have rc_of : ∀ c, c < m → rc n (fun x => γ (bcl n m x)) T b (n + c) = γ c - sm q fun t => γ (β t) * W t c := fun c hc => by
    unfold rc
    rw [R.mu hz c, cl_real hc]
    show γ (bcl n m (n + c)) - _ = _
    rw [bcl_real]
  have hpn := R.lam p hp
  have ent : ∀ t, t < q → W t s = T (ℓ t) (n + s) := fun t ht => by rw [R.ent t ht, cl_real hs]
  have lst : ∀ t, t < q → W t (m + n) = T (ℓ t) (n + m) := fun t ht => by rw [R.ent t ht, cl_last]
  have tp' : 0 < T (ℓ p) (n + s) := by rw [← ent p hp]; exact tp
  have kept : ∀ i, i < n → 0 < T i (n + s) → ∃ t, t < q ∧ ℓ t = i := fun i hi h => Classical.byContradiction fun z => by
    have := (R.out i hi fun t ht y => z ⟨t, ht, y⟩).2.1 s hs
    rw [this] at h
    exact absurd h (by decide)
  have B : Bst n (n + m) (n + m) (fun x => γ (bcl n m x)) T b (ℓ p) (n + s) := by
    refine ⟨by omega, by omega, ?_, fun k h1 h2 => ?_, hpn, tp', fun i hi h => ?_, fun i hi h e1 h3 h4 => ?_⟩
    · rw [rc_of s hs]; grind
    · have : k = n + (k - n) := by omega
      rw [this, rc_of (k - n) (by omega)]
      have := lo (k - n) (by omega)
      grind
    · obtain ⟨t, ht, rfl⟩ := kept i hi h
      rw [← ent p hp, ← lst p hp, ← ent t ht, ← lst t ht]
      exact mn t ht (by rw [ent t ht]; exact h)
    · obtain ⟨t, ht, rfl⟩ := kept i hi h
      rw [← ent p hp, ← lst p hp, ← ent t ht, ← lst t ht] at e1
      have := tie t ht (by rw [ent t ht]; exact h) e1
      rw [R.bas p hp, R.bas t ht] at this
      unfold bcl at this
      rw [if_pos h3, if_pos h4] at this
      omega
  refine ⟨⟨fun k => if k ≤ K then σ k else ⟨piv T (ℓ p) (n + s), put b (ℓ p) (n + s)⟩, ⟨?_, ?_, ?_, fun k hk => ?_⟩, ?_⟩, C.gd.piv hpn (by omega) (by grind), R.piv hp hs⟩
  · rw [if_pos (Nat.zero_le _)]; exact P.tab
  · rw [if_pos (Nat.zero_le _)]; exact P.nn
  · rw [if_pos (Nat.zero_le _)]; exact P.ran
  · rw [if_pos (show k ≤ K by omega)]
    by_cases c : k < K
    · rw [if_pos (show k + 1 ≤ K by omega)]
      exact P.nxt k c
    · have : k = K := by omega
      subst this
      rw [if_neg (by omega), e]
      exact ⟨ℓ p, n + s, B, rfl⟩
  · show (if K + 1 ≤ K then σ (K + 1) else _) = _
    rw [if_neg (by omega)]
def xam (q r : Nat) (W : Nat → Nat → Rat) (β : Nat → Nat) (c : Nat) : Rat := sm q fun t => if β t = c then W t r else 0
theorem xam_whole (R : Rel n m q ℓ T b W β) {c j : Nat} (hj : j < m) (h0 : c = m + n ∨ c < m) : xam q c W β j = sm n fun i => if b i = n + j then T i (cl n m c) else 0 := by
  unfold xam
  have e : (sm q fun t => if β t = j then W t c else 0) = sm q fun t => (fun i => if b i = n + j then T i (cl n m c) else 0) (ℓ t) := sm_congr fun t ht => by
    rw [R.bas t ht, R.ent t ht]
    by_cases z : b (ℓ t) = n + j
    · show _ = if b (ℓ t) = n + j then T (ℓ t) (cl n m c) else 0
      rw [if_pos (by rw [z, bcl_real]), if_pos z]
    · have : ¬ bcl n m (b (ℓ t)) = j := fun y => by
        unfold bcl at y
        split at y <;> omega
      show _ = if b (ℓ t) = n + j then T (ℓ t) (cl n m c) else 0
      rw [if_neg this, if_neg z]
  rw [e]
  refine R.sum (f := fun i => if b i = n + j then T i (cl n m c) else 0) fun i hi ho => ?_
  have := (R.out i hi ho).1
  show (if b i = n + j then _ else _) = _
  rw [if_neg (by omega)]
theorem col_real (G : Gq n (n + m) (Nz n m A g) T b) {x : Nat} (hh : ∀ i, i < n → b i < n → T i x = 0) {i : Nat} (hi : i < n) : Nz n m A g i x = sm m fun c => Nz n m A g i (n + c) * sm n fun k => if b k = n + c then T k x else 0 := by
  rw [G.tab.right i hi x]
  have e : (sm m fun c => Nz n m A g i (n + c) * sm n fun k => if b k = n + c then T k x else 0) = sm m fun c => sm n fun k => if b k = n + c then Nz n m A g i (n + c) * T k x else 0 := sm_congr fun c _ => by
    rw [← sm_mul]
    refine sm_congr fun k _ => ?_
    split <;> grind
  rw [e, sm_swap]
  refine sm_congr fun k hk => ?_
  by_cases c : b k < n
  · rw [hh k hk c, sm_zero fun j _ => if_neg (by omega)]; grind
  · have h1 := G.ran k hk
    rw [sm_one (p := b k - n) (by omega) fun j _ hn => if_neg (by omega), if_pos (by omega), show n + (b k - n) = b k by omega]
theorem zc_left (G : Gq n (n + m) (Nz n m A g) T b) (w : Nat → Rat) (x : Nat) : zc n w T b x = sm n fun j => zc n w T b j * Nz n m A g j x := by
  unfold zc
  have e1 : (sm n fun i => w (b i) * T i x) = sm n fun i => sm n fun j => w (b i) * T i j * Nz n m A g j x := sm_congr fun i hi => by
    rw [G.tab.left i hi x, ← sm_mul]
    exact sm_congr fun j _ => by grind
  rw [e1, sm_swap]
  exact sm_congr fun j _ => by rw [sm_mulr]
theorem zc_real (G : Gq n (n + m) (Nz n m A g) T b) (w : Nat → Rat) {c : Nat} (hc : c < m) : zc n w T b (n + c) = sm n fun j => sgq (g j) * zc n w T b j * A j c := by
  rw [zc_left G]
  exact sm_congr fun j _ => by rw [Nz_real hc]; grind
theorem zc_last (G : Gq n (n + m) (Nz n m A g) T b) (w : Nat → Rat) : zc n w T b (n + m) = sm n fun j => sgq (g j) * zc n w T b j * g j := by
  rw [zc_left G]
  exact sm_congr fun j _ => by rw [Nz_last]; grind
theorem unsign {i : Nat} {x y : Rat} (h : x * sgq (g i) = y * sgq (g i)) : x = y := by
  have : x * sgq (g i) * sgq (g i) = y * sgq (g i) * sgq (g i) := by rw [h]
  rw [Rat.mul_assoc, Rat.mul_assoc, sgq_sq] at this
  grind
theorem eqn_of (G : Gq n (n + m) (Nz n m A g) T b) (hh : ∀ i, i < n → b i < n → T i (n + m) = 0) {i : Nat} (hi : i < n) : (sm m fun c => A i c * sm n fun k => if b k = n + c then T k (n + m) else 0) = g i := by
  have h := col_real G (x := n + m) hh hi
  rw [Nz_last] at h
  refine unsign (g := g) (i := i) ?_
  rw [h, ← sm_mulr]
  exact sm_congr fun c hc => by rw [Nz_real hc]; grind
theorem ray_of (G : Gq n (n + m) (Nz n m A g) T b) {s : Nat} (hs : s < m) (hh : ∀ i, i < n → b i < n → T i (n + s) = 0) {i : Nat} (hi : i < n) : (sm m fun c => A i c * sm n fun k => if b k = n + c then T k (n + s) else 0) = A i s := by
  have h := col_real G (x := n + s) hh hi
  rw [Nz_real hs] at h
  refine unsign (g := g) (i := i) ?_
  rw [h, ← sm_mulr]
  exact sm_congr fun c hc => by rw [Nz_real hc]; grind
theorem cost_of (G : Gq n (n + m) (Nz n m A g) T b) {w : Nat → Rat} {x : Nat} (hh : ∀ i, i < n → b i < n → T i x = 0) : zc n w T b x = sm m fun c => w (n + c) * sm n fun k => if b k = n + c then T k x else 0 := by
  unfold zc
  have e : (sm m fun c => w (n + c) * sm n fun k => if b k = n + c then T k x else 0) = sm m fun c => sm n fun k => if b k = n + c then w (n + c) * T k x else 0 := sm_congr fun c _ => by
    rw [← sm_mul]
    refine sm_congr fun k _ => ?_
    split <;> grind
  rw [e, sm_swap]
  refine sm_congr fun k hk => ?_
  by_cases c : b k < n
  · rw [hh k hk c, sm_zero fun j _ => if_neg (by omega)]; grind
  · have h1 := G.ran k hk
    rw [sm_one (p := b k - n) (by omega) fun j _ hn => if_neg (by omega), if_pos (by omega), show n + (b k - n) = b k by omega]
end
end Lk

namespace Lk
def γh (m : Nat) (c : Nat) : Rat := if c < m then 0 else -1
def γc (m : Nat) (γ : Nat → Rat) (c : Nat) : Rat := if c < m then γ c else 0
structure LBest (n m : Nat) (A : Nat → Nat → Rat) (g γ x y : Nat → Rat) : Prop where
  nn : ∀ c, c < m → 0 ≤ x c
  eq : ∀ i, i < n → (sm m fun c => A i c * x c) = g i
  ge : ∀ c, c < m → γ c ≤ sm n fun j => y j * A j c
  val : (sm n fun j => y j * g j) = sm m fun c => γ c * x c
structure LNone (n m : Nat) (A : Nat → Nat → Rat) (g y : Nat → Rat) : Prop where
  ge : ∀ c, c < m → 0 ≤ sm n fun j => y j * A j c
  neg : (sm n fun j => y j * g j) < 0
structure LFree (n m : Nat) (A : Nat → Nat → Rat) (g γ x d : Nat → Rat) : Prop where
  nn : ∀ c, c < m → 0 ≤ x c
  eq : ∀ i, i < n → (sm m fun c => A i c * x c) = g i
  dn : ∀ c, c < m → 0 ≤ d c
  dz : ∀ i, i < n → (sm m fun c => A i c * d c) = 0
  up : 0 < sm m fun c => γ c * d c
section
variable {n m q : Nat} {A : Nat → Nat → Rat} {g : Nat → Rat} {T T' : Nat → Nat → Rat} {b b' : Nat → Nat} {W : Nat → Nat → Rat} {β ℓ : Nat → Nat} {γ : Nat → Rat}
theorem Cl.start (h : ∀ t, t < n → ∀ c, W t c = Nz n m A g t (cl n m c)) (hb : ∀ t, t < n → β t = m + t) : Cl n m n A g id γ 0 (Nz n m A g) id W β := by
  refine ⟨⟨fun _ => ⟨Nz n m A g, id⟩, ⟨Gq.start.tab, fun i hi => ?_, (Gq.start (A := A) (g := g)).ran, fun k hk => absurd hk (by omega)⟩, rfl⟩, Gq.start, ⟨fun t ht => ht, fun _ _ _ _ e => e, fun t ht c => h t ht c, fun t ht => ?_, fun i hi ho => absurd rfl (ho i hi)⟩⟩
  · show 0 ≤ Nz n m A g i (n + m)
    rw [Nz_last]; exact sgq_nn
  · rw [hb t ht]; exact (bcl_help ht).symm
theorem Cl.none {K : Nat} (C : Cl n m n A g ℓ (γh m) K T b W β) (top : ∀ c, c < m → ¬ (sm n fun t => γh m (β t) * W t c) < γh m c) (neg : (sm n fun t => γh m (β t) * W t (m + n)) < 0) :
    LNone n m A g fun j => sgq (g j) * sm n fun t => γh m (β t) * W t (m + j) := by
  have mu := fun c => C.rel.mu (γ := γh m) (.inl rfl) c
  refine ⟨fun c hc => ?_, ?_⟩
  · have e : (sm n fun j => sgq (g j) * (sm n fun t => γh m (β t) * W t (m + j)) * A j c) = zc n (fun x => γh m (bcl n m x)) T b (n + c) := by
      rw [zc_real C.gd _ hc]
      exact sm_congr fun j hj => by rw [mu, cl_help hj]
    rw [e, ← cl_real hc, ← mu]
    have := top c hc
    unfold γh at this ⊢
    rw [if_pos hc] at this
    exact Rat.not_lt.mp this
  · have e : (sm n fun j => sgq (g j) * (sm n fun t => γh m (β t) * W t (m + j)) * g j) = zc n (fun x => γh m (bcl n m x)) T b (n + m) := by
      rw [zc_last C.gd]
      exact sm_congr fun j hj => by rw [mu, cl_help hj]
    rw [e, ← cl_last, ← mu]
    exact neg
theorem Cl.zero {K : Nat} (C : Cl n m n A g ℓ (γh m) K T b W β) (hn : ¬ (sm n fun t => γh m (β t) * W t (m + n)) < 0) : ∀ i, i < n → b i < n → T i (n + m) = 0 := by
  have nn := C.nn
  have e := C.rel.mu (γ := γh m) (.inl rfl) (m + n)
  rw [cl_last] at e
  rw [e] at hn
  unfold zc at hn
  have h1 : ∀ i, i < n → 0 ≤ -(γh m (bcl n m (b i)) * T i (n + m)) := fun i hi => by
    have := nn i hi
    unfold γh
    split <;> grind
  have h2 : (sm n fun i => -(γh m (bcl n m (b i)) * T i (n + m))) = 0 := by
    have a := sm_nn h1
    rw [sm_neg] at a ⊢
    grind
  intro i hi hb
  have := sm_nn_zero h1 h2 i hi
  rw [bcl_help hb] at this
  unfold γh at this
  rw [if_neg (by omega)] at this
  grind
structure Lvg (n m : Nat) (A : Nat → Nat → Rat) (g : Nat → Rat) (j q : Nat) (W : Nat → Nat → Rat) (β : Nat → Nat) : Prop where
  ex : ∃ T b ℓ, Gq n (n + m) (Nz n m A g) T b ∧ Rel n m q ℓ T b W β ∧ (∀ i, i < n → 0 ≤ T i (n + m)) ∧ (∀ i, i < n → b i < n → T i (n + m) = 0) ∧ ∀ t, j ≤ t → t < q → n ≤ b (ℓ t)
  jq : j ≤ q
  qn : q ≤ n
theorem Lvg.swap {j c : Nat} (L : Lvg n m A g (j + 1) q W β) (h : m ≤ β j) (hc : c < m) (h0 : W j c ≠ 0) : Lvg n m A g j q (piv W j c) (put β j c) := by
  obtain ⟨⟨T, b, ℓ, G, R, nn, hz, hr⟩, jq, qn⟩ := L
  have hj : j < q := by omega
  have hjn := R.lam j hj
  have hb : b (ℓ j) < n := by
    rw [R.bas j hj] at h
    have := G.ran (ℓ j) hjn
    unfold bcl at h
    split at h <;> omega
  have z := hz (ℓ j) hjn hb
  have ne : T (ℓ j) (n + c) ≠ 0 := by rw [← cl_real hc, ← R.ent j hj]; exact h0
  have same : ∀ i, Lk.piv T (ℓ j) (n + c) i (n + m) = T i (n + m) := fun i => by
    have e0 : (0 : Rat) / T (ℓ j) (n + c) = 0 := by grind
    by_cases e : i = ℓ j
    · subst e
      rw [piv_p, z, e0]
    · rw [piv_n e, z, e0]; grind
  refine ⟨⟨_, _, ℓ, G.piv hjn (by omega) ne, R.piv hj hc, fun i hi => by rw [same]; exact nn i hi, fun i hi hbi => ?_, fun t h1 h2 => ?_⟩, by omega, qn⟩
  · rw [same]
    by_cases e : i = ℓ j
    · subst e; exact z
    · rw [put_n e] at hbi
      exact hz i hi hbi
  · by_cases e : t = j
    · subst e
      rw [put_p]; omega
    · rw [put_n fun y => e (R.inj t h2 j hj y)]
      exact hr t (by omega) h2
theorem Lvg.drop {j : Nat} (L : Lvg n m A g (j + 1) q W β) (h : m ≤ β j) (h0 : ∀ c, c < m → W j c = 0) : Lvg n m A g j (q - 1) (fun t => W (skip j t)) fun t => β (skip j t) := by
  obtain ⟨⟨T, b, ℓ, G, R, nn, hz, hr⟩, jq, qn⟩ := L
  have hj : j < q := by omega
  have hjn := R.lam j hj
  have hb : b (ℓ j) < n := by
    rw [R.bas j hj] at h
    have := G.ran (ℓ j) hjn
    unfold bcl at h
    split at h <;> omega
  refine ⟨⟨T, b, _, G, R.drop hj hb h0 (hz _ hjn hb), nn, hz, fun t h1 h2 => ?_⟩, by omega, by omega⟩
  show n ≤ b (ℓ (skip j t))
  unfold skip
  rw [if_neg (by omega)]
  exact hr (t + 1) (by omega) (by omega)
structure Cl2 (n m q : Nat) (A : Nat → Nat → Rat) (g γ : Nat → Rat) (K : Nat) (W : Nat → Nat → Rat) (β : Nat → Nat) : Prop where
  ex : ∃ T b ℓ, Cl n m q A g ℓ (γc m γ) K T b W β ∧ ∀ t, t < q → n ≤ b (ℓ t)
theorem γc_help : ∀ c, m ≤ c → γc m γ c = 0 := fun c h => by unfold γc; rw [if_neg (by omega)]
theorem Cl2.step {K p s : Nat} (C : Cl2 n m q A g γ K W β) (hs : s < m) (up : (sm q fun t => γc m γ (β t) * W t s) < γc m γ s) (lo : ∀ c, c < s → ¬ (sm q fun t => γc m γ (β t) * W t c) < γc m γ c)
    (hp : p < q) (tp : 0 < W p s) (mn : ∀ l, l < q → 0 < W l s → W p (m + n) / W p s ≤ W l (m + n) / W l s) (tie : ∀ l, l < q → 0 < W l s → W p (m + n) / W p s = W l (m + n) / W l s → β p ≤ β l) :
    Cl2 n m q A g γ (K + 1) (piv W p s) (put β p s) := by
  obtain ⟨T, b, ℓ, C, hr⟩ := C
  refine ⟨_, _, ℓ, C.step (.inr γc_help) hs up lo hp tp mn tie, fun t ht => ?_⟩
  by_cases e : t = p
  · subst e
    rw [put_p]; omega
  · rw [put_n fun y => e (C.rel.inj t ht p hp y)]
    exact hr t ht
theorem Cl2.help {K : Nat} {T : Nat → Nat → Rat} {b ℓ : Nat → Nat} (C : Cl n m q A g ℓ (γc m γ) K T b W β) (hr : ∀ t, t < q → n ≤ b (ℓ t)) : ∀ i, i < n → b i < n → (∀ c, c < m → T i (n + c) = 0) ∧ T i (n + m) = 0 := fun i hi hb =>
  (C.rel.out i hi fun t ht e => by have := hr t ht; rw [e] at this; omega).2
theorem γc_real {c : Nat} (h : c < m) : γc m γ c = γ c := by unfold γc; rw [if_pos h]
theorem Cl2.feas {K : Nat} (C : Cl2 n m q A g γ K W β) : (∀ c, c < m → 0 ≤ xam q (m + n) W β c) ∧ ∀ i, i < n → (sm m fun c => A i c * xam q (m + n) W β c) = g i := by
  obtain ⟨T, b, ℓ, C, hr⟩ := C
  have hh := Cl2.help C hr
  refine ⟨fun c hc => sm_nn fun t ht => ?_, fun i hi => ?_⟩
  · split
    · rw [C.rel.ent t ht, cl_last]
      exact C.nn _ (C.rel.lam t ht)
    · exact Rat.le_refl
  · rw [← eqn_of C.gd (fun i hi hb => (hh i hi hb).2) hi]
    exact sm_congr fun c hc => by rw [xam_whole C.rel hc (.inl rfl), cl_last]
theorem Cl2.best {K : Nat} (C : Cl2 n m q A g γ K W β) (top : ∀ c, c < m → ¬ (sm q fun t => γc m γ (β t) * W t c) < γc m γ c) :
    LBest n m A g γ (xam q (m + n) W β) fun j => sgq (g j) * sm q fun t => γc m γ (β t) * W t (m + j) := by
  obtain ⟨f1, f2⟩ := C.feas
  obtain ⟨T, b, ℓ, C, hr⟩ := C
  have hh := Cl2.help C hr
  have mu := fun c => C.rel.mu (γ := γc m γ) (.inr γc_help) c
  refine ⟨f1, f2, fun c hc => ?_, ?_⟩
  · have e : (sm n fun j => sgq (g j) * (sm q fun t => γc m γ (β t) * W t (m + j)) * A j c) = zc n (fun x => γc m γ (bcl n m x)) T b (n + c) := by
      rw [zc_real C.gd _ hc]
      exact sm_congr fun j hj => by rw [mu, cl_help hj]
    rw [e, ← cl_real hc, ← mu, ← γc_real (γ := γ) hc]
    exact Rat.not_lt.mp (top c hc)
  · have e : (sm n fun j => sgq (g j) * (sm q fun t => γc m γ (β t) * W t (m + j)) * g j) = zc n (fun x => γc m γ (bcl n m x)) T b (n + m) := by
      rw [zc_last C.gd]
      exact sm_congr fun j hj => by rw [mu, cl_help hj]
    rw [e, cost_of C.gd fun i hi hb => (hh i hi hb).2]
    exact sm_congr fun c hc => by
      rw [xam_whole C.rel hc (.inl rfl), cl_last]
      show γc m γ (bcl n m (n + c)) * _ = _
      rw [bcl_real, γc_real hc]
theorem Cl2.free {K s : Nat} (C : Cl2 n m q A g γ K W β) (hs : s < m) (up : (sm q fun t => γc m γ (β t) * W t s) < γc m γ s) (h : ∀ t, t < q → ¬ 0 < W t s) :
    LFree n m A g γ (xam q (m + n) W β) fun c => (if c = s then 1 else 0) - xam q s W β c := by
  obtain ⟨f1, f2⟩ := C.feas
  obtain ⟨T, b, ℓ, C, hr⟩ := C
  have hh := Cl2.help C hr
  have mu := C.rel.mu (γ := γc m γ) (.inr γc_help) s
  have one : ∀ f : Nat → Rat, (sm m fun c => f c * ((if c = s then 1 else 0) - xam q s W β c)) = f s - sm m fun c => f c * xam q s W β c := fun f => by
    have e : (sm m fun c => f c * ((if c = s then 1 else 0) - xam q s W β c)) = (sm m fun c => if c = s then f c else 0) - sm m fun c => f c * xam q s W β c := by
      rw [← sm_sub]
      exact sm_congr fun c _ => by split <;> grind
    rw [e, sm_one hs fun i hi hn => if_neg hn, if_pos rfl]
  refine ⟨f1, f2, fun c hc => ?_, fun i hi => ?_, ?_⟩
  · have : 0 ≤ sm q fun t => -(if β t = c then W t s else 0) := sm_nn fun t ht => by
      have := h t ht
      split <;> grind
    rw [sm_neg] at this
    have e : xam q s W β c = sm q fun t => if β t = c then W t s else 0 := rfl
    rw [e]
    split <;> grind
  · rw [one]
    have := ray_of C.gd hs (fun i hi hb => (hh i hi hb).1 s hs) hi
    have e : (sm m fun c => A i c * xam q s W β c) = sm m fun c => A i c * sm n fun k => if b k = n + c then T k (n + s) else 0 := sm_congr fun c hc => by rw [xam_whole C.rel hc (.inr hs), cl_real hs]
    rw [e, this]
    grind
  · rw [one]
    rw [mu, cl_real hs, cost_of C.gd fun i hi hb => (hh i hi hb).1 s hs, γc_real hs] at up
    have e : (sm m fun c => γ c * xam q s W β c) = sm m fun c => γc m γ (bcl n m (n + c)) * sm n fun k => if b k = n + c then T k (n + s) else 0 := sm_congr fun c hc => by rw [xam_whole C.rel hc (.inr hs), cl_real hs, bcl_real, γc_real hc]
    rw [e]
    grind
end
end Lk

namespace Lk
structure Lsz (n m : Nat) (A : Nat → Nat → Rat) (g γ : Nat → Rat) (K0 e Kg ec Kc gb eb kg cb kc : Nat) : Prop where
  k1 : 1 ≤ K0
  ai : ∀ i c, i < n → c < m → IsInt (A i c) K0
  gi : ∀ i, i < n → CD e Kg (g i)
  ci : ∀ c, c < m → CD ec Kc (γ c)
  e0 : 0 < ec
  c1 : 1 ≤ Kc
  hg : (n * K0) ^ n < 2 ^ gb
  he : e < 2 ^ eb
  hq : Kg < 2 ^ kg
  hc : ec < 2 ^ cb
  hk : Kc < 2 ^ kc
  hn : n < 128
section
variable {n m q : Nat} {A : Nat → Nat → Rat} {g γ : Nat → Rat} {T : Nat → Nat → Rat} {b : Nat → Nat} {W : Nat → Nat → Rat} {β ℓ : Nat → Nat} {K0 e Kg ec Kc gb eb kg cb kc : Nat}
theorem sgq_int {q : Rat} : IsInt (sgq q) 1 := by
  rcases sgq_or (q := q) with h | h
  · rw [h]; exact ⟨1, rfl, by decide⟩
  · rw [h]; exact ⟨-1, rfl, by decide⟩
theorem CD.sgn {E K : Nat} {x y : Rat} (h : CD E K x) (g : IsInt y 1) : CD E K (y * x) := by
  refine ⟨h.1, ?_⟩
  have := g.mul h.2
  rw [Nat.one_mul] at this
  rw [Rat.mul_assoc]
  exact this
theorem CD.mono {E K L : Nat} {x : Rat} (h : CD E K x) (l : K ≤ L) : CD E L x := ⟨h.1, h.2.mono l⟩
theorem CD.zero {E K : Nat} (h : 0 < E) : CD E K 0 := ⟨h, ⟨0, by grind, by simp⟩⟩
theorem Lsz.ent (S : Lsz n m A g γ K0 e Kg ec Kc gb eb kg cb kc) : ∀ i j, i < n → j < n + m → IsInt (Nz n m A g i j) K0 := by
  intro i j hi hj
  unfold Nz
  by_cases c1 : j < n
  · rw [if_pos c1]
    split
    · exact ⟨1, rfl, by simpa using S.k1⟩
    · exact ⟨0, rfl, by simp⟩
  · rw [if_neg c1, if_pos hj]
    have := (S.ai i (j - n) hi (by omega)).mul (sgq_int (q := g i))
    rwa [Nat.mul_one] at this
theorem Lsz.tab (S : Lsz n m A g γ K0 e Kg ec Kc gb eb kg cb kc) (G : Gq n (n + m) (Nz n m A g) T b) : ∃ D : Nat, 0 < D ∧ D < 2 ^ gb ∧ (∀ k j, k < n → j < n + m → CD D ((n * K0) ^ n) (T k j)) ∧ ∀ k, k < n → CD (D * e) (n * ((n * K0) ^ n * Kg)) (T k (n + m)) := by
  obtain ⟨D, h0, h1, h2⟩ := G.tab.cdM G.det (fun i j hi hj => S.ent i j hi hj) G.ran
  refine ⟨D, h0, Nat.lt_of_le_of_lt h1 S.hg, h2, fun k hk => G.tab.cdR (fun k j hk hj => h2 k j hk (by omega)) (fun i hi => ?_) hk⟩
  rw [Nz_last, Rat.mul_comm]
  exact (S.gi i hi).sgn sgq_int
theorem Lsz.top (S : Lsz n m A g γ K0 e Kg ec Kc gb eb kg cb kc) : n * ((n * K0) ^ n * Kg) < 2 ^ (7 + (gb + kg)) := by
  rw [Nat.pow_add, Nat.pow_add]
  have h1 : (n * K0) ^ n * Kg < 2 ^ gb * 2 ^ kg := Nat.mul_lt_mul'' S.hg S.hq
  have h2 : n < 2 ^ 7 := S.hn
  exact Nat.mul_lt_mul'' h2 h1
end
end Lk

namespace Lk
section
variable {n m : Nat} {A : Nat → Nat → Rat} {g γ x y x' y' : Nat → Rat}
theorem dual_sum (h : ∀ i, i < n → (sm m fun c => A i c * x c) = g i) : (sm n fun j => y j * g j) = sm m fun c => (sm n fun j => y j * A j c) * x c := by
  have e : (sm m fun c => (sm n fun j => y j * A j c) * x c) = sm m fun c => sm n fun j => y j * A j c * x c := sm_congr fun c _ => by rw [sm_mulr]
  rw [e, sm_swap]
  refine sm_congr fun j hj => ?_
  rw [← h j hj, ← sm_mul]
  exact sm_congr fun c _ => by grind
theorem LBest.le (B : LBest n m A g γ x y) (nn : ∀ c, c < m → 0 ≤ x' c) (eq : ∀ i, i < n → (sm m fun c => A i c * x' c) = g i) : (sm m fun c => γ c * x' c) ≤ sm m fun c => γ c * x c := by
  rw [← B.val, dual_sum eq]
  refine sm_le fun c hc => ?_
  exact Rat.mul_le_mul_of_nonneg_right (B.ge c hc) (nn c hc)
theorem LBest.same (B : LBest n m A g γ x y) (B' : LBest n m A g γ x' y') : (sm m fun c => γ c * x' c) = sm m fun c => γ c * x c :=
  Rat.le_antisymm (B.le B'.nn B'.eq) (B'.le B.nn B.eq)
theorem LNone.no (N : LNone n m A g y) (nn : ∀ c, c < m → 0 ≤ x c) (eq : ∀ i, i < n → (sm m fun c => A i c * x c) = g i) : False := by
  have h : 0 ≤ sm n fun j => y j * g j := by
    rw [dual_sum eq]
    exact sm_nn fun c hc => Rat.mul_nonneg (N.ge c hc) (nn c hc)
  exact absurd N.neg (Rat.not_lt.mpr h)
end
end Lk

namespace Lk
end Lk

namespace Tr
open PySem PySem.Spec L2
variable [ProtC]
section
variable {k : D → Prop} {w : Exn → Prop} {t b : Int} {p q : Rat} {B : Nat} {C : Cs} {r : Addr} {φ : Heap → Prop}
theorem RB.mul {p q : Rat} {B : Nat} (hp : RB p B) (hq : RB q B) : RB (p * q) (B + B) := by
  rw [← mul_nd]
  exact ratio_rb dmul_pos (mul_lt2 hp.num hq.num) (mul_lt2 (den_lt hp) (den_lt hq))
theorem RB.add {p q : Rat} {B : Nat} (hp : RB p B) (hq : RB q B) : RB (p + q) (B + B + 1) := by
  rw [← add_nd]
  exact ratio_rb dmul_pos (add_lt2 (mul_lt2 hp.num (den_lt hq)) (mul_lt2 hq.num (den_lt hp))) (Nat.lt_of_lt_of_le (mul_lt2 (den_lt hp) (den_lt hq)) (Nat.pow_le_pow_right (by decide) (by omega)))
theorem RB.sub {p q : Rat} {B : Nat} (hp : RB p B) (hq : RB q B) : RB (p - q) (B + B + 1) := by
  rw [← sub_nd]
  exact ratio_rb dmul_pos (sub_lt2 (mul_lt2 hp.num (den_lt hq)) (mul_lt2 hq.num (den_lt hp))) (Nat.lt_of_lt_of_le (mul_lt2 (den_lt hp) (den_lt hq)) (Nat.pow_le_pow_right (by decide) (by omega)))
theorem seq_mid {F G : SF} {δ : De} {k : Out → Prop} {w : Exn → Prop} (P : De → Prop) (h1 : (F δ).run (fun o => ∃ δ', o = .nx δ' ∧ P δ') w) (h2 : ∀ δ', P δ' → (G δ').run k w) : (sSeq F G δ).run k w := by
  rw [rw_seq]
  simp only [run_bind]
  refine (F δ).mono (fun o ho => ?_) (fun _ z => z) h1
  obtain ⟨δ', rfl, hp⟩ := ho
  exact h2 δ' hp
theorem cdivn {i : Int} {g B : Nat} (hg : 0 < g) (h : g < 2 ^ B) (hB : B < 8900) : CDivN i (g : Int) := by
  have := cdivg (i := i) hg h hB
  exact ⟨.inl this.1, this.2⟩
theorem cdivm {i : Int} {g B : Nat} (hg : 0 < g) (h : g < 2 ^ B) (hB : B < 8900) (hd : (g : Int) ∣ i) : CDivN i (-(g : Int)) := by
  have := cdivg (i := i) hg h hB
  exact ⟨.inr ⟨by omega, Int.neg_dvd.mpr hd⟩, by rw [Int.natAbs_neg]; exact this.2⟩
theorem ratio_runN (hb : b ≠ 0) (h1 : t.natAbs < 2 ^ B) (h2 : b.natAbs < 2 ^ B) (hB : B < 8900) (hk : RB ((t : Rat) / (b : Rat)) B → k (rD ((t : Rat) / (b : Rat)))) : (f_ratio [.d (.int t), .d (.int b)]).run k w := by
  have gl : Nat.gcd t.natAbs b.natAbs < 2 ^ B := Nat.lt_of_le_of_lt (Nat.gcd_le_right _ (by omega)) h2
  have g : 0 < Nat.gcd t.natAbs b.natAbs := Nat.gcd_pos_of_pos_right _ (by omega)
  by_cases hp : 0 < b
  · obtain ⟨e1, e2⟩ := ratio_nd (t := t) hp
    simp [f_ratio, b_ratio, dStart, arSl, hp]
    refine ⟨cdivn g gl hB, cdivn g gl hB, two_le_line, ?_⟩
    rw [← e1, ← e2]
    exact hk (ratio_rb hp h1 h2)
  · have hn : 0 < -b := by omega
    obtain ⟨e1, e2⟩ := ratio_nd (t := -t) hn
    rw [Int.natAbs_neg, Int.natAbs_neg] at e1 e2
    have eq : (((-t : Int) : Rat) / ((-b : Int) : Rat)) = (t : Rat) / (b : Rat) := by
      have : (b : Rat) ≠ 0 := by exact_mod_cast hb
      push_cast
      grind
    have rb := ratio_rb (t := -t) hn (by rw [Int.natAbs_neg]; exact h1) (by rw [Int.natAbs_neg]; exact h2)
    rw [eq] at e1 e2 rb
    have d1 : ((Nat.gcd t.natAbs b.natAbs : Nat) : Int) ∣ t := Int.ofNat_dvd_left.mpr (Nat.gcd_dvd_left _ _)
    have d2 : ((Nat.gcd t.natAbs b.natAbs : Nat) : Int) ∣ b := Int.ofNat_dvd_left.mpr (Nat.gcd_dvd_right _ _)
    simp [f_ratio, b_ratio, dStart, arSl, hp]
    refine ⟨cdivm g gl hB d1, cdivm g gl hB d2, two_le_line, ?_⟩
    rw [Int.neg_ediv_of_dvd d1] at e1
    rw [Int.neg_ediv_of_dvd d2] at e2
    have := hk rb
    unfold rD at this
    rw [e1, e2] at this
    exact this
theorem ratio_run (hb : 0 < b) (h1 : t.natAbs < 2 ^ B) (h2 : b.natAbs < 2 ^ B) (hB : B < 8900) (hk : RB ((t : Rat) / (b : Rat)) B → k (rD ((t : Rat) / (b : Rat)))) : (f_ratio [.d (.int t), .d (.int b)]).run k w := ratio_runN (by omega) h1 h2 hB hk
theorem minus_run (hp : RB p B) (hq : RB q B) (hB : B < 4000) (hk : RB (p - q) (B + B + 1) → k (rD (p - q))) : (f_minus [.d (rD p), .d (rD q)]).run k w := by
  simp [f_minus, b_minus, dStart, arSl, rD]
  refine ⟨cmul hp.num (den_lt hq) (by omega), cmul hq.num (den_lt hp) (by omega), cmul (den_lt hp) (den_lt hq) (by omega), ?_⟩
  refine ratio_run (B := B + B + 1) dmul_pos (sub_lt2 (mul_lt2 hp.num (den_lt hq)) (mul_lt2 hq.num (den_lt hp))) (Nat.lt_of_lt_of_le (mul_lt2 (den_lt hp) (den_lt hq)) (Nat.pow_le_pow_right (by decide) (by omega))) (by omega) fun h => ?_
  rw [sub_nd] at h ⊢
  exact hk h
theorem by_run (hp : RB p B) (hq : RB q B) (hB : B < 4000) (hk : RB (p * q) (B + B) → k (rD (p * q))) : (f_by [.d (rD p), .d (rD q)]).run k w := by
  simp [f_by, b_by, dStart, arSl, rD]
  refine ⟨cmul hp.num hq.num (by omega), cmul (den_lt hp) (den_lt hq) (by omega), ?_⟩
  refine ratio_run (B := B + B) dmul_pos (mul_lt2 hp.num hq.num) (mul_lt2 (den_lt hp) (den_lt hq)) (by omega) fun h => ?_
  rw [mul_nd] at h ⊢
  exact hk h
theorem div_ndN {p q : Rat} (hq : q.num ≠ 0) : ((p.num * q.den : Int) : Rat) / ((p.den * q.num : Int) : Rat) = p / q := by
  conv => rhs; rw [rat_nd p, rat_nd q]
  have h1 := den_ne p
  have h2 := den_ne q
  have h3 : (q.num : Rat) ≠ 0 := by exact_mod_cast hq
  push_cast
  grind
theorem over_runN (h0 : q.num ≠ 0) (hp : RB p B) (hq : RB q B) (hB : B < 4000) (hk : RB (p / q) (B + B) → k (rD (p / q))) : (f_over [.d (rD p), .d (rD q)]).run k w := by
  simp [f_over, b_over, dStart, arSl, rD]
  refine ⟨cmul hp.num (den_lt hq) (by omega), cmul (den_lt hp) hq.num (by omega), ?_⟩
  refine ratio_runN (B := B + B) (Int.mul_ne_zero (by have := p.den_pos; omega) h0) (mul_lt2 hp.num (den_lt hq)) (mul_lt2 (den_lt hp) hq.num) (by omega) fun h => ?_
  rw [div_ndN h0] at h ⊢
  exact hk h
theorem over_run (h0 : 0 < q.num) (hp : RB p B) (hq : RB q B) (hB : B < 4000) (hk : RB (p / q) (B + B) → k (rD (p / q))) : (f_over [.d (rD p), .d (rD q)]).run k w := over_runN (by omega) hp hq hB hk
theorem lratio_run (hb : 0 < b) (h1 : t.natAbs < 2 ^ B) (h2 : b.natAbs < 2 ^ B) (hB : B < 8900) (hk : RB ((t : Rat) / (b : Rat)) B → k (rD ((t : Rat) / (b : Rat)))) : (f_law_ratio [.d (.int t), .d (.int b)]).run k w := by
  obtain ⟨e1, e2⟩ := ratio_nd (t := t) hb
  have g := gcd_pos' (t := t) hb
  have gl : Nat.gcd t.natAbs b.natAbs < 2 ^ B := Nat.lt_of_le_of_lt (Nat.gcd_le_right _ (by omega)) h2
  have ab : ∀ x : Int, (if x < 0 then -x else x) = (x.natAbs : Int) := fun x => by split <;> omega
  simp [f_law_ratio, b_law_ratio, dStart, arSl, sPar, ab]
  refine ⟨fun m δ => ∃ x : Nat, δ = [.p (.int t), .p (.int b), .p (.int x), .p (.int m)] ∧ Nat.gcd x m = Nat.gcd t.natAbs b.natAbs, ⟨_, _, rfl, rfl⟩, ?_⟩
  rintro y δ ⟨x, rfl, hg⟩
  simp
  by_cases hy : y = 0
  · subst hy
    simp [hb]
    rw [Nat.gcd_zero_right] at hg
    subst hg
    refine ⟨cdivg g gl hB, cdivg g gl hB, two_le_line, ?_⟩
    rw [← e1, ← e2]
    exact hk (ratio_rb hb h1 h2)
  · simp [hy]
    refine ⟨by omega, x % y, Nat.mod_lt _ (by omega), y, ?_, ?_⟩
    · simp
    rw [← hg, Nat.gcd_comm x y, Nat.gcd_rec y x, Nat.gcd_comm]
theorem lplus_run (hp : RB p B) (hq : RB q B) (hB : B < 4000) (hk : RB (p + q) (B + B + 1) → k (rD (p + q))) : (f_law_plus [.d (rD p), .d (rD q)]).run k w := by
  simp [f_law_plus, b_law_plus, dStart, arSl, rD]
  refine ⟨cmul hp.num (den_lt hq) (by omega), cmul hq.num (den_lt hp) (by omega), cmul (den_lt hp) (den_lt hq) (by omega), ?_⟩
  refine lratio_run (B := B + B + 1) dmul_pos (add_lt2 (mul_lt2 hp.num (den_lt hq)) (mul_lt2 hq.num (den_lt hp))) (Nat.lt_of_lt_of_le (mul_lt2 (den_lt hp) (den_lt hq)) (Nat.pow_le_pow_right (by decide) (by omega))) (by omega) fun h => ?_
  rw [add_nd] at h ⊢
  exact hk h
theorem lby_run (hp : RB p B) (hq : RB q B) (hB : B < 4000) (hk : RB (p * q) (B + B) → k (rD (p * q))) : (f_law_by [.d (rD p), .d (rD q)]).run k w := by
  simp [f_law_by, b_law_by, dStart, arSl, rD]
  refine ⟨cmul hp.num hq.num (by omega), cmul (den_lt hp) (den_lt hq) (by omega), ?_⟩
  refine lratio_run (B := B + B) dmul_pos (mul_lt2 hp.num hq.num) (mul_lt2 (den_lt hp) (den_lt hq)) (by omega) fun h => ?_
  rw [mul_nd] at h ⊢
  exact hk h
theorem isin_run {a lo hi : Int} (hk : k (.bool (decide (lo ≤ a) && decide (a ≤ hi)))) : (f_is_in [.d (.int a), .d (.int lo), .d (.int hi)]).run k w := by
  simp [f_is_in, b_is_in, dStart, arSl]
  by_cases h : lo ≤ a
  · simpa [h] using hk
  · simpa [h] using hk
theorem isratio_run (hk : k (.bool true)) : (f_is_ratio [.d (rD p)]).run k w := by
  have h1 := p.den_pos
  have h2 : Nat.gcd p.num.natAbs p.den = 1 := p.reduced
  simp [f_is_ratio, b_is_ratio, dStart, arSl, rD, rw_ga1, h1, h2]
  exact hk
theorem lisratio_run (hb : RB p B) (hB : B < 8900) (hk : k (.bool true)) : (f_law_is_ratio [.d (rD p)]).run k w := by
  have h1 := p.den_pos
  have e : ((p.num : Rat) / ((p.den : Int) : Rat)) = p := (rat_nd p).symm
  simp [f_law_is_ratio, b_law_is_ratio, dStart, arSl, rD, rw_lc1, h1]
  refine ⟨two_le_line, lratio_run (by omega) hb.num (den_lt hb) hB fun _ => ⟨⟨rfl, rfl⟩, ?_⟩⟩
  rw [e]
  have : PyData.eqv (rD p) (rD p) = true := by rw [eqv_rD]; simp
  rw [show PyData.tuple [PyData.int p.num, PyData.int ↑p.den] = rD p from rfl, this]
  exact hk
theorem pick_run {ds : List D} (hr : RO C r φ) (h0 : 0 < ds.length) (h1 : ds.length < 1073741824) (hk : ∀ d ∈ ds, k d) : (f_law_pick C [.t r φ, .d (.list ds)]).run k w := by
  simp [f_law_pick, b_law_pick, dStart, arSl]
  refine taken_run hr (by omega) (by omega) fun n a b => ?_
  obtain ⟨m, rfl⟩ : ∃ m : Nat, n = m := ⟨n.toNat, by omega⟩
  have hm : m < ds.length := by omega
  simp [atI_nat, hm]
  exact hk _ (List.getElem_mem hm)
theorem plus_run (hp : RB p B) (hq : RB q B) (hB : B < 4400) (hk : RB (p + q) (B + B + 1) → k (rD (p + q))) : (f_plus [.d (rD p), .d (rD q)]).run k w := by
  simp [f_plus, b_plus, dStart, arSl]
  refine ⟨cmul hp.num (den_lt hq) (by omega), cmul hq.num (den_lt hp) (by omega), cmul (den_lt hp) (den_lt hq) (by omega), ?_⟩
  refine ratio_run (B := B + B + 1) dmul_pos (add_lt2 (mul_lt2 hp.num (den_lt hq)) (mul_lt2 hq.num (den_lt hp))) (Nat.lt_of_lt_of_le (mul_lt2 (den_lt hp) (den_lt hq)) (Nat.pow_le_pow_right (by decide) (by omega))) (by omega) fun h => ?_
  rw [add_nd] at h ⊢
  exact hk h
theorem less_run (hp : RB p B) (hq : RB q B) (hB : B < 9000) (hk : k (.bool (decide (p < q)))) : (f_less [.d (rD p), .d (rD q)]).run k w := by
  simp [f_less, b_less, dStart, arSl]
  refine ⟨cmul hp.num (den_lt hq) (by omega), cmul hq.num (den_lt hp) (by omega), ?_⟩
  simpa only [rat_lt] using hk
theorem lless_run (hp : RB p B) (hq : RB q B) (hB : B < 9000) (hk : k (.bool (decide (p < q)))) : (f_law_less [.d (rD p), .d (rD q)]).run k w := by
  simp [f_law_less, b_law_less, dStart, arSl]
  refine ⟨cmul hp.num (den_lt hq) (by omega), cmul hq.num (den_lt hp) (by omega), ?_⟩
  simpa only [rat_lt] using hk
theorem sq0_d : PyData.tuple [.int 0, .int 1] = rD 0 := rfl
theorem RB.add' {a b : Nat} (hp : RB p a) (hq : RB q b) : RB (p + q) (a + b + 1) := by
  rw [← add_nd]
  refine ratio_rb dmul_pos (add_lt2 (mul_lt2 hp.num (den_lt hq)) ?_) (Nat.lt_of_lt_of_le (mul_lt2 (den_lt hp) (den_lt hq)) (Nat.pow_le_pow_right (by decide) (by omega)))
  rw [Nat.add_comm a b]
  exact mul_lt2 hq.num (den_lt hp)
theorem RB.sub' {a b : Nat} (hp : RB p a) (hq : RB q b) : RB (p - q) (a + b + 1) := by
  rw [← sub_nd]
  refine ratio_rb dmul_pos (sub_lt2 (mul_lt2 hp.num (den_lt hq)) ?_) (Nat.lt_of_lt_of_le (mul_lt2 (den_lt hp) (den_lt hq)) (Nat.pow_le_pow_right (by decide) (by omega)))
  rw [Nat.add_comm a b]
  exact mul_lt2 hq.num (den_lt hp)
theorem RB.mul' {a b : Nat} (hp : RB p a) (hq : RB q b) : RB (p * q) (a + b) := by
  rw [← mul_nd]
  exact ratio_rb dmul_pos (mul_lt2 hp.num hq.num) (mul_lt2 (den_lt hp) (den_lt hq))
theorem RB.div' {a b : Nat} (h0 : 0 < q) (hp : RB p a) (hq : RB q b) : RB (p / q) (a + b) := by
  have h0' := num_pos.mpr h0
  rw [← div_nd h0']
  exact ratio_rb (Int.mul_pos (by have := p.den_pos; omega) h0') (mul_lt2 hp.num (den_lt hq)) (mul_lt2 (den_lt hp) hq.num)
theorem plus_run' {a b : Nat} (hp : RB p a) (hq : RB q b) (hB : a + b < 4400) (hk : RB (p + q) (a + b + 1) → k (rD (p + q))) : (f_plus [.d (rD p), .d (rD q)]).run k w :=
  plus_run (B := a + b) (hp.mono (by omega)) (hq.mono (by omega)) hB fun _ => hk (hp.add' hq)
theorem minus_run' {a b : Nat} (hp : RB p a) (hq : RB q b) (hB : a + b < 4000) (hk : RB (p - q) (a + b + 1) → k (rD (p - q))) : (f_minus [.d (rD p), .d (rD q)]).run k w :=
  minus_run (B := a + b) (hp.mono (by omega)) (hq.mono (by omega)) hB fun _ => hk (hp.sub' hq)
theorem by_run' {a b : Nat} (hp : RB p a) (hq : RB q b) (hB : a + b < 4000) (hk : RB (p * q) (a + b) → k (rD (p * q))) : (f_by [.d (rD p), .d (rD q)]).run k w :=
  by_run (B := a + b) (hp.mono (by omega)) (hq.mono (by omega)) hB fun _ => hk (hp.mul' hq)
theorem over_run' {a b : Nat} (h0 : 0 < q) (hp : RB p a) (hq : RB q b) (hB : a + b < 4000) (hk : RB (p / q) (a + b) → k (rD (p / q))) : (f_over [.d (rD p), .d (rD q)]).run k w :=
  over_run (B := a + b) (num_pos.mpr h0) (hp.mono (by omega)) (hq.mono (by omega)) hB fun _ => hk (hp.div' h0 hq)
theorem less_run' {a b : Nat} (hp : RB p a) (hq : RB q b) (hB : a + b < 9000) (hk : k (.bool (decide (p < q)))) : (f_less [.d (rD p), .d (rD q)]).run k w :=
  less_run (B := a + b) (hp.mono (by omega)) (hq.mono (by omega)) hB hk
theorem lplus_run' {a b : Nat} (hp : RB p a) (hq : RB q b) (hB : a + b < 4000) (hk : RB (p + q) (a + b + 1) → k (rD (p + q))) : (f_law_plus [.d (rD p), .d (rD q)]).run k w :=
  lplus_run (B := a + b) (hp.mono (by omega)) (hq.mono (by omega)) hB fun _ => hk (hp.add' hq)
theorem lby_run' {a b : Nat} (hp : RB p a) (hq : RB q b) (hB : a + b < 4000) (hk : RB (p * q) (a + b) → k (rD (p * q))) : (f_law_by [.d (rD p), .d (rD q)]).run k w :=
  lby_run (B := a + b) (hp.mono (by omega)) (hq.mono (by omega)) hB fun _ => hk (hp.mul' hq)
theorem lless_run' {a b : Nat} (hp : RB p a) (hq : RB q b) (hB : a + b < 9000) (hk : k (.bool (decide (p < q)))) : (f_law_less [.d (rD p), .d (rD q)]).run k w :=
  lless_run (B := a + b) (hp.mono (by omega)) (hq.mono (by omega)) hB hk
theorem gcd_le_sq {p q : Rat} {s : Int} (hs : s = 1 ∨ s = -1) : Nat.gcd (p.num * q.den + s * (q.num * p.den)).natAbs ((p.den : Int) * q.den).natAbs ≤ q.den * q.den := by
  have h1 : ((Nat.gcd (p.num * q.den + s * (q.num * p.den)).natAbs ((p.den : Int) * q.den).natAbs : Nat) : Int) ∣ p.num * q.den + s * (q.num * p.den) := Int.ofNat_dvd_left.mpr (Nat.gcd_dvd_left _ _)
  have h2 : ((Nat.gcd (p.num * q.den + s * (q.num * p.den)).natAbs ((p.den : Int) * q.den).natAbs : Nat) : Int) ∣ (p.den : Int) * q.den := Int.ofNat_dvd_left.mpr (Nat.gcd_dvd_right _ _)
  generalize Nat.gcd (p.num * q.den + s * (q.num * p.den)).natAbs ((p.den : Int) * q.den).natAbs = g at h1 h2 ⊢
  have h3 : (g : Int) ∣ p.num * (q.den * q.den) := by
    have a := Int.dvd_trans h1 (Int.dvd_mul_right _ (q.den : Int))
    have b := Int.dvd_trans h2 (Int.dvd_mul_left (s * q.num) _)
    have e : p.num * (q.den * q.den) = (p.num * q.den + s * (q.num * p.den)) * q.den - s * q.num * ((p.den : Int) * q.den) := by grind
    rw [e]
    exact Int.dvd_sub a b
  have h4 : (g : Int) ∣ (p.den : Int) * (q.den * q.den) := by
    have := Int.dvd_trans h2 (Int.dvd_mul_right _ (q.den : Int))
    rwa [Int.mul_assoc] at this
  have h5 : g ∣ Nat.gcd (p.num.natAbs * (q.den * q.den)) (p.den * (q.den * q.den)) := by
    refine Nat.dvd_gcd ?_ ?_
    · have := Int.natAbs_dvd_natAbs.mpr h3
      simpa [Int.natAbs_mul] using this
    · have := Int.natAbs_dvd_natAbs.mpr h4
      simpa [Int.natAbs_mul] using this
  rw [Nat.gcd_mul_right, p.reduced, Nat.one_mul] at h5
  exact Nat.le_of_dvd (Nat.mul_pos q.den_pos q.den_pos) h5
theorem gcd_le_mul {p q : Rat} (hq : q.num ≠ 0) : Nat.gcd (p.num * q.num).natAbs ((p.den : Int) * q.den).natAbs ≤ q.num.natAbs * q.den := by
  have h5 : Nat.gcd (p.num * q.num).natAbs ((p.den : Int) * q.den).natAbs ∣ Nat.gcd (p.num.natAbs * (q.num.natAbs * q.den)) (p.den * (q.num.natAbs * q.den)) := by
    refine Nat.dvd_gcd ?_ ?_
    · have := Nat.dvd_mul_right_of_dvd (Nat.gcd_dvd_left (p.num * q.num).natAbs ((p.den : Int) * q.den).natAbs) q.den
      have e : (p.num * q.num).natAbs * q.den = p.num.natAbs * (q.num.natAbs * q.den) := by rw [Int.natAbs_mul, Nat.mul_assoc]
      rwa [e] at this
    · have := Nat.dvd_mul_right_of_dvd (Nat.gcd_dvd_right (p.num * q.num).natAbs ((p.den : Int) * q.den).natAbs) q.num.natAbs
      have e : ((p.den : Int) * q.den).natAbs * q.num.natAbs = p.den * (q.num.natAbs * q.den) := by
        rw [Int.natAbs_mul, Int.natAbs_natCast, Int.natAbs_natCast, Nat.mul_assoc, Nat.mul_comm q.den]
      rwa [e] at this
  rw [Nat.gcd_mul_right, p.reduced, Nat.one_mul] at h5
  exact Nat.le_of_dvd (Nat.mul_pos (by omega) q.den_pos) h5
theorem ratio_runG {G : Nat} (hb : 0 < b) (hg : Nat.gcd t.natAbs b.natAbs < 2 ^ G) (hG : G < 8900) (h1 : t.natAbs < 2 ^ B) (h2 : b.natAbs < 2 ^ B) (hk : RB ((t : Rat) / (b : Rat)) B → k (rD ((t : Rat) / (b : Rat)))) : (f_ratio [.d (.int t), .d (.int b)]).run k w := by
  obtain ⟨e1, e2⟩ := ratio_nd (t := t) hb
  have g := gcd_pos' (t := t) hb
  simp [f_ratio, b_ratio, dStart, arSl, hb]
  refine ⟨cdivn g hg hG, cdivn g hg hG, two_le_line, ?_⟩
  rw [← e1, ← e2]
  exact hk (ratio_rb hb h1 h2)
theorem lratio_runG {G : Nat} (hb : 0 < b) (hg : Nat.gcd t.natAbs b.natAbs < 2 ^ G) (hG : G < 8900) (h1 : t.natAbs < 2 ^ B) (h2 : b.natAbs < 2 ^ B) (hk : RB ((t : Rat) / (b : Rat)) B → k (rD ((t : Rat) / (b : Rat)))) : (f_law_ratio [.d (.int t), .d (.int b)]).run k w := by
  obtain ⟨e1, e2⟩ := ratio_nd (t := t) hb
  have g := gcd_pos' (t := t) hb
  have ab : ∀ x : Int, (if x < 0 then -x else x) = (x.natAbs : Int) := fun x => by split <;> omega
  simp [f_law_ratio, b_law_ratio, dStart, arSl, sPar, ab]
  refine ⟨fun m δ => ∃ x : Nat, δ = [.p (.int t), .p (.int b), .p (.int x), .p (.int m)] ∧ Nat.gcd x m = Nat.gcd t.natAbs b.natAbs, ⟨_, _, rfl, rfl⟩, ?_⟩
  rintro y δ ⟨x, rfl, hg'⟩
  simp
  by_cases hy : y = 0
  · subst hy
    simp [hb]
    rw [Nat.gcd_zero_right] at hg'
    subst hg'
    refine ⟨cdivg g hg hG, cdivg g hg hG, two_le_line, ?_⟩
    rw [← e1, ← e2]
    exact hk (ratio_rb hb h1 h2)
  · simp [hy]
    refine ⟨by omega, x % y, Nat.mod_lt _ (by omega), y, ?_, ?_⟩
    · simp
    rw [← hg', Nat.gcd_comm x y, Nat.gcd_rec y x, Nat.gcd_comm]
theorem sq_lt {n b : Nat} (h : n < 2 ^ b) : n * n < 2 ^ (b + b) := by
  rw [Nat.pow_add]
  exact Nat.mul_lt_mul'' h h
theorem pow_leG {a b : Nat} (h : a ≤ b) : 2 ^ a ≤ 2 ^ b := Nat.pow_le_pow_right (by decide) h
theorem plus_runG {a b : Nat} (hp : RB p a) (hq : RB q b) (hB : a + b < 400000) (hm : b < 4400) (hk : RB (p + q) (a + b + 1) → k (rD (p + q))) : (f_plus [.d (rD p), .d (rD q)]).run k w := by
  simp [f_plus, b_plus, dStart, arSl]
  refine ⟨cmul hp.num (den_lt hq) (by omega), cmul hq.num (den_lt hp) (by omega), cmul (den_lt hp) (den_lt hq) (by omega), ?_⟩
  have e : p.num * q.den + q.num * p.den = p.num * q.den + 1 * (q.num * p.den) := by rw [Int.one_mul]
  refine ratio_runG (B := a + b + 1) (G := b + b) dmul_pos ?_ (by omega) (add_lt2 (mul_lt2 hp.num (den_lt hq)) ?_) (Nat.lt_of_lt_of_le (mul_lt2 (den_lt hp) (den_lt hq)) (pow_leG (by omega))) fun h => ?_
  · rw [e]
    exact Nat.lt_of_le_of_lt (gcd_le_sq (.inl rfl)) (sq_lt hq.den)
  · rw [Nat.add_comm a b]; exact mul_lt2 hq.num (den_lt hp)
  · rw [add_nd] at h ⊢
    exact hk h
theorem minus_runG {a b : Nat} (hp : RB p a) (hq : RB q b) (hB : a + b < 400000) (hm : b < 4400) (hk : RB (p - q) (a + b + 1) → k (rD (p - q))) : (f_minus [.d (rD p), .d (rD q)]).run k w := by
  simp [f_minus, b_minus, dStart, arSl, rD]
  refine ⟨cmul hp.num (den_lt hq) (by omega), cmul hq.num (den_lt hp) (by omega), cmul (den_lt hp) (den_lt hq) (by omega), ?_⟩
  have e : p.num * q.den - q.num * p.den = p.num * q.den + -1 * (q.num * p.den) := by omega
  refine ratio_runG (B := a + b + 1) (G := b + b) dmul_pos ?_ (by omega) (sub_lt2 (mul_lt2 hp.num (den_lt hq)) ?_) (Nat.lt_of_lt_of_le (mul_lt2 (den_lt hp) (den_lt hq)) (pow_leG (by omega))) fun h => ?_
  · rw [e]
    exact Nat.lt_of_le_of_lt (gcd_le_sq (.inr rfl)) (sq_lt hq.den)
  · rw [Nat.add_comm a b]; exact mul_lt2 hq.num (den_lt hp)
  · rw [sub_nd] at h ⊢
    exact hk h
theorem gcd_swap {p q : Rat} : Nat.gcd (p.num * q.den - q.num * p.den).natAbs ((p.den : Int) * q.den).natAbs = Nat.gcd (q.num * p.den - p.num * q.den).natAbs ((q.den : Int) * p.den).natAbs := by
  rw [← Int.natAbs_neg (p.num * q.den - q.num * p.den), Int.neg_sub, Int.mul_comm (p.den : Int)]
theorem minus_runG' {a b : Nat} (hp : RB p a) (hq : RB q b) (hB : a + b < 400000) (hm : a < 4400) (hk : RB (p - q) (a + b + 1) → k (rD (p - q))) : (f_minus [.d (rD p), .d (rD q)]).run k w := by
  simp [f_minus, b_minus, dStart, arSl, rD]
  refine ⟨cmul hp.num (den_lt hq) (by omega), cmul hq.num (den_lt hp) (by omega), cmul (den_lt hp) (den_lt hq) (by omega), ?_⟩
  have e : q.num * p.den - p.num * q.den = q.num * p.den + -1 * (p.num * q.den) := by omega
  refine ratio_runG (B := a + b + 1) (G := a + a) dmul_pos ?_ (by omega) (sub_lt2 (mul_lt2 hp.num (den_lt hq)) ?_) (Nat.lt_of_lt_of_le (mul_lt2 (den_lt hp) (den_lt hq)) (pow_leG (by omega))) fun h => ?_
  · rw [gcd_swap, e]
    exact Nat.lt_of_le_of_lt (gcd_le_sq (.inr rfl)) (sq_lt hp.den)
  · rw [Nat.add_comm a b]; exact mul_lt2 hq.num (den_lt hp)
  · rw [sub_nd] at h ⊢
    exact hk h
theorem lplus_runG {a b : Nat} (hp : RB p a) (hq : RB q b) (hB : a + b < 400000) (hm : b < 4400) (hk : RB (p + q) (a + b + 1) → k (rD (p + q))) : (f_law_plus [.d (rD p), .d (rD q)]).run k w := by
  simp [f_law_plus, b_law_plus, dStart, arSl, rD]
  refine ⟨cmul hp.num (den_lt hq) (by omega), cmul hq.num (den_lt hp) (by omega), cmul (den_lt hp) (den_lt hq) (by omega), ?_⟩
  have e : p.num * q.den + q.num * p.den = p.num * q.den + 1 * (q.num * p.den) := by rw [Int.one_mul]
  refine lratio_runG (B := a + b + 1) (G := b + b) dmul_pos ?_ (by omega) (add_lt2 (mul_lt2 hp.num (den_lt hq)) ?_) (Nat.lt_of_lt_of_le (mul_lt2 (den_lt hp) (den_lt hq)) (pow_leG (by omega))) fun h => ?_
  · rw [e]
    exact Nat.lt_of_le_of_lt (gcd_le_sq (.inl rfl)) (sq_lt hq.den)
  · rw [Nat.add_comm a b]; exact mul_lt2 hq.num (den_lt hp)
  · rw [add_nd] at h ⊢
    exact hk h
theorem lby_runG {a b : Nat} (hp : RB p a) (hq : RB q b) (h0 : p.num ≠ 0) (hB : a + b < 400000) (hm : a < 4400) (hk : RB (p * q) (a + b) → k (rD (p * q))) : (f_law_by [.d (rD p), .d (rD q)]).run k w := by
  simp [f_law_by, b_law_by, dStart, arSl, rD]
  refine ⟨cmul hp.num hq.num (by omega), cmul (den_lt hp) (den_lt hq) (by omega), ?_⟩
  refine lratio_runG (B := a + b) (G := a + a) dmul_pos ?_ (by omega) (mul_lt2 hp.num hq.num) (mul_lt2 (den_lt hp) (den_lt hq)) fun h => ?_
  · have := gcd_le_mul (p := q) (q := p) h0
    rw [Int.mul_comm q.num, Int.mul_comm (q.den : Int)] at this
    refine Nat.lt_of_le_of_lt this ?_
    rw [Nat.pow_add]
    exact Nat.mul_lt_mul'' hp.num hp.den
  · rw [mul_nd] at h ⊢
    exact hk h
end
section
def pO (a : Addr) (n : Nat) (R B : List D) : Os := ⟨a, [("many", .d (.int (n : Int))), ("rows", .o R), ("basis", .o B)]⟩
variable {a : Addr} {n : Nat} {R B R' : List D} {N : Nat → Nat → Rat} {b : Nat → Nat}
@[simp] theorem pO_a : (pO a n R B).a = a := rfl
@[simp] theorem lk_many : List.lookup ("many" : Str) (pO a n R B).at_ = some (.d (.int (n : Int))) := rfl
@[simp] theorem lk_rows : List.lookup ("rows" : Str) (pO a n R B).at_ = some (.o R) := rfl
@[simp] theorem lk_basis : List.lookup ("basis" : Str) (pO a n R B).at_ = some (.o B) := rfl
@[simp] theorem lk_turn : List.lookup ("turn" : Str) (pO a n R B).at_ = none := rfl
@[simp] theorem lk_leaving : List.lookup ("leaving" : Str) (pO a n R B).at_ = none := rfl
@[simp] theorem lk_before : List.lookup ("is_before" : Str) (pO a n R B).at_ = none := rfl
@[simp] theorem lk_first : List.lookup ("first_row" : Str) (pO a n R B).at_ = none := rfl
@[simp] theorem lk_solved : List.lookup ("solved" : Str) (pO a n R B).at_ = none := rfl
@[simp] theorem put_rows : (pO a n R B).put "rows" (.o R') = pO a n R' B := rfl
@[simp] theorem put_basis : (pO a n R B).put "basis" (.o R') = pO a n R R' := rfl
@[simp] theorem pO_len : (pO a n R B).at_.length = 3 := rfl
end
section
variable {n B : Nat} {N T : Nat → Nat → Rat} {b : Nat → Nat} {a : Addr} {w : Exn → Prop}
structure Gd (n : Nat) (N T : Nat → Nat → Rat) (b : Nat → Nat) : Prop where
  tab : Lk.Tab n N T b
  ran : ∀ i, i < n → b i ≤ 2 * n
  det : Lk.dB n N b ≠ 0
theorem Gd.start (I : Lk.Ini n N) : Gd n N N id := ⟨Lk.Tab.start I.un, fun i hi => by simp; omega, by rw [Lk.dB_start I.un]; decide⟩
theorem Gd.piv (g : Gd n N T b) {p c : Nat} (hp : p < n) (hc : c ≤ 2 * n) (h0 : T p c ≠ 0) : Gd n N (Lk.piv T p c) (Lk.put b p c) := by
  refine ⟨g.tab.piv hp h0, fun i hi => ?_, ?_⟩
  · by_cases e : i = p
    · subst e; rw [Lk.put_p]; exact hc
    · rw [Lk.put_n e]; exact g.ran i hi
  · rw [Lk.dB_put g.tab hp]
    exact fun z => (Rat.mul_eq_zero.mp z).elim h0 g.det
end
section
variable {n B : Nat} {M : Nat → Nat → Rat} {q : Nat → Rat} {a : Addr} {w : Exn → Prop}
def N0 (n : Nat) (M : Nat → Nat → Rat) (q : Nat → Rat) : Nat → Nat → Rat := fun i j => if j < n then (if i = j then 1 else 0) else if j < 2 * n then - M i (j - n) else if j = 2 * n then -1 else q i
theorem N0_last {i : Nat} : N0 n M q i (2 * n + 1) = q i := by
  unfold N0
  rw [if_neg (by omega), if_neg (by omega), if_neg (by omega)]
theorem neg_rD {x : Rat} : PyData.tuple [.int (-x.num), .int x.den] = rD (-x) := by
  unfold rD
  rw [Rat.neg_num, Rat.neg_den]
end
section
variable {n B : Nat} {M : Nat → Nat → Rat} {q : Nat → Rat} {a : Addr} {w : Exn → Prop}
def pO1 (a : Addr) (n : Nat) (R : List D) : Os := ⟨a, [("many", .d (.int (n : Int))), ("rows", .o R)]⟩
@[simp] theorem lk1_rows {R : List D} : List.lookup ("rows" : Str) (pO1 a n R).at_ = some (.o R) := rfl
@[simp] theorem put1_rows {R R' : List D} : (pO1 a n R).put "rows" (.o R') = pO1 a n R' := rfl
@[simp] theorem put1_basis {R R' : List D} : (pO1 a n R).put "basis" (.o R') = pO a n R R' := rfl
@[simp] theorem pO1_a {R : List D} : (pO1 a n R).a = a := rfl
end
section
abbrev Rd4 := Int × Int × Int × Int
def slR (R : List Rd4) (x : Int) : Int := (R.getD x.toNat (0, 0, 0, 0)).2.2.1
def ovR (R : List Rd4) (w v : List Int) : Int := ((w.filter fun x => decide (x ∈ v)).map (slR R)).sum
abbrev Us := List (Nat × List Int)
variable {nn : Int} {R : List Rd4} {U : Us} {ds bs : List Rat} {w : Exn → Prop}
end
section
variable {nn : Int} {R : List Rd4} {U : Us} {ds bs : List Rat} {w : Exn → Prop} {B : Nat}
def wcR (bs : List Rat) (wy : List Int) : Rat := sumQ (wy.map fun x => bs.getD x.toNat 0)
end
section
variable {nn : Int} {R : List Rd4} {U : Us} {ds bs : List Rat} {w : Exn → Prop} {B : Nat}
def ug (U : Us) (j : Nat) : Nat × List Int := U.getD j (0, [])
def MU (R : List Rd4) (U : Us) : Nat → Nat → Rat := fun i j =>
  if i < U.length then (if j < U.length then (ovR R (ug U i).2 (ug U j).2 : Rat) else if j - U.length = (ug U i).1 then -1 else 0) else if j < U.length then (if (ug U j).1 = i - U.length then 1 else 0) else 0
def qU (bs : List Rat) (U : Us) (ds : List Rat) : Nat → Rat := fun i => if i < U.length then wcR bs (ug U i).2 else - ds.getD (i - U.length) 0
def mU (U : Us) (ds : List Rat) : Nat := U.length + ds.length
theorem ug_get {j : Nat} (h : j < U.length) : ug U j = U[j] := by unfold ug; simp [h]
end
section
open Lk
theorem sumQ_sm {r : Nat} {g : Int → Rat} : ∀ {l : List Int}, l.Nodup → (∀ x ∈ l, 0 ≤ x ∧ x < r) → sumQ (l.map g) = sm r fun (x : Nat) => if (x : Int) ∈ l then g x else 0
  | [], _, _ => by
    rw [sm_zero fun x _ => by simp]
    rfl
  | a :: l, hn, hr => by
    obtain ⟨h1, h2⟩ := List.nodup_cons.mp hn
    obtain ⟨a0, ar⟩ := hr a (by simp)
    obtain ⟨n, rfl⟩ : ∃ n : Nat, a = n := ⟨a.toNat, by omega⟩
    have hnr : n < r := by omega
    rw [List.map_cons]
    show g n + sumQ (l.map g) = _
    rw [sumQ_sm h2 fun x hx => hr x (by simp [hx]), sm_out hnr, sm_out (f := fun (x : Nat) => if (x : Int) ∈ (n : Int) :: l then g x else 0) hnr]
    have e1 : (if (n : Int) ∈ l then g n else 0) = 0 := if_neg h1
    have e2 : (if (n : Int) ∈ (n : Int) :: l then g n else 0) = g n := if_pos (by simp)
    rw [e1, e2]
    have e3 : (sm r fun i => if i = n then 0 else if (i : Int) ∈ l then g i else 0) = sm r fun i => if i = n then 0 else if (i : Int) ∈ (n : Int) :: l then g i else 0 := sm_congr fun i _ => by
      by_cases c : i = n
      · rw [if_pos c, if_pos c]
      · have : ((i : Int) ∈ (n : Int) :: l) ↔ (i : Int) ∈ l := by
          simp only [List.mem_cons]
          constructor
          · rintro (h | h)
            · omega
            · exact h
          · exact .inr
        simp only [this]
    rw [e3]
    grind
def indW (w : List Int) (x : Nat) : Rat := if (x : Int) ∈ w then 1 else 0
def PrU (R : List Rd4) (U : Us) (ds bs : List Rat) : Pr := ⟨U.length, ds.length, R.length, fun j => (ug U j).1, fun j => indW (ug U j).2, fun x => (slR R x : Rat), fun x => bs.getD x 0, fun t => ds.getD t 0⟩
variable {R : List Rd4} {U : Us} {ds bs : List Rat} {T : Nat}
structure UOk (R : List Rd4) (U : Us) (ds bs : List Rat) : Prop where
  pos : 0 < U.length
  len : bs.length = R.length
  nod : ∀ u ∈ U, u.2.Nodup
  rng : ∀ u ∈ U, ∀ x ∈ u.2, 0 ≤ x ∧ x < R.length
  trp : ∀ u ∈ U, u.1 < ds.length
  all : ∀ t, t < ds.length → ∃ u ∈ U, u.1 = t
  s0 : ∀ x, 0 ≤ slR R x
  b0 : ∀ q ∈ bs, 0 ≤ q
  d0 : ∀ q ∈ ds, 0 < q
theorem ug_mem {j : Nat} (h : j < U.length) : ug U j ∈ U := by rw [ug_get h]; exact List.getElem_mem h
theorem PrU.ok (h : UOk R U ds bs) : (PrU R U ds bs).Ok := by
  refine ⟨fun j hj => h.trp _ (ug_mem hj), fun j x => ?_, fun x => ?_, fun x => ?_, fun t => ?_, fun t ht => ?_⟩
  · show indW _ _ = 0 ∨ indW _ _ = 1
    unfold indW
    split <;> simp
  · exact Rat.intCast_nonneg.mpr (h.s0 _)
  · show 0 ≤ bs.getD x 0
    by_cases c : x < bs.length
    · simp [c]; exact h.b0 _ (List.getElem_mem c)
    · simp [c]
  · show 0 ≤ ds.getD t 0
    by_cases c : t < ds.length
    · simp [c]; have := h.d0 _ (List.getElem_mem c); grind
    · simp [c]
  · obtain ⟨u, hu, e⟩ := h.all t ht
    obtain ⟨j, hj, e2⟩ := List.getElem_of_mem hu
    exact ⟨j, hj, by show (ug U j).1 = t; rw [ug_get hj, e2, e]⟩
variable {n : Nat} {q : Nat → Rat} {M : Nat → Nat → Rat}
end
section
open Lk
theorem rb_cd {E K : Nat} {x : Rat} {B : Nat} (h : CD E K x) (hE : E < 2 ^ B) (hK : K < 2 ^ B) : RB x B := by
  obtain ⟨h0, u, hu, hk⟩ := h
  have e : x = (u : Rat) / ((E : Int) : Rat) := by
    have : ((E : Int) : Rat) ≠ 0 := by
      have : (E : Int) ≠ 0 := by omega
      exact_mod_cast this
    have e2 : ((E : Int) : Rat) = (E : Rat) := rfl
    rw [← hu, e2]
    rw [e2] at this
    grind
  rw [e]
  exact ratio_rb (by omega) (by omega) (by simpa using hE)
variable {R : List Rd4} {U : Us} {ds bs : List Rat} {w : Exn → Prop} {n : Nat} {M : Nat → Nat → Rat} {q : Nat → Rat}
structure Szs (n : Nat) (M : Nat → Nat → Rat) (q : Nat → Rat) (K0 e Kq g ee kq : Nat) : Prop where
  k1 : 1 ≤ K0
  mi : ∀ i j, i < n → j < n → IsInt (M i j) K0
  qi : ∀ i, i < n → CD e Kq (q i)
  hg : (n * K0) ^ n < 2 ^ g
  he : e < 2 ^ ee
  hq : Kq < 2 ^ kq
  hn : n < 128
variable {K0 e Kq g ee kq : Nat}
theorem isInt_small {x : Rat} {K : Nat} (h : x = 0 ∨ x = 1 ∨ x = -1) (hK : 1 ≤ K) : IsInt x K := by
  rcases h with rfl | rfl | rfl
  · exact ⟨0, rfl, by simp⟩
  · exact ⟨1, rfl, by simpa using hK⟩
  · exact ⟨-1, rfl, by simpa using hK⟩
theorem Szs.ent (S : Szs n M q K0 e Kq g ee kq) : ∀ i j, i < n → j ≤ 2 * n → IsInt (N0 n M q i j) K0 := by
  intro i j hi hj
  unfold N0
  by_cases c1 : j < n
  · rw [if_pos c1]
    exact isInt_small (by split <;> simp) S.k1
  rw [if_neg c1]
  by_cases c2 : j < 2 * n
  · rw [if_pos c2]
    obtain ⟨u, hu, hk⟩ := S.mi i (j - n) hi (by omega)
    exact ⟨-u, by rw [hu, Rat.intCast_neg], by rw [Int.natAbs_neg]; exact hk⟩
  · rw [if_neg c2, if_pos (by omega)]
    exact isInt_small (by simp) S.k1
theorem Szs.tab (S : Szs n M q K0 e Kq g ee kq) {T : Nat → Nat → Rat} {b : Nat → Nat} (G : Gd n (N0 n M q) T b) : ∃ D : Nat, 0 < D ∧ D < 2 ^ g ∧ (∀ k j, k < n → j ≤ 2 * n → CD D ((n * K0) ^ n) (T k j)) ∧ ∀ k, k < n → CD (D * e) (n * ((n * K0) ^ n * Kq)) (T k (2 * n + 1)) := by
  obtain ⟨D, h0, h1, h2⟩ := G.tab.cd G.det (fun i j hi hj => S.ent i j hi hj) G.ran
  exact ⟨D, h0, Nat.lt_of_le_of_lt h1 S.hg, h2, fun k hk => G.tab.cd_last h2 (fun i hi => by rw [N0_last]; exact S.qi i hi) hk⟩
theorem Szs.top (S : Szs n M q K0 e Kq g ee kq) : n * ((n * K0) ^ n * Kq) < 2 ^ (7 + (g + kq)) := by
  rw [Nat.pow_add, Nat.pow_add]
  have h1 : (n * K0) ^ n * Kq < 2 ^ g * 2 ^ kq := Nat.mul_lt_mul'' S.hg S.hq
  have h2 : n < 2 ^ 7 := S.hn
  exact Nat.mul_lt_mul'' h2 h1
theorem Szs.rb (S : Szs n M q K0 e Kq g ee kq) {T : Nat → Nat → Rat} {b : Nat → Nat} (G : Gd n (N0 n M q) T b) : ∀ i, i < n → ∀ j, j < 2 * n + 2 → RB (T i j) (7 + (g + (ee + kq))) := by
  obtain ⟨D, h0, h1, h2, h3⟩ := S.tab G
  have p : ∀ {a b : Nat}, a ≤ b → 2 ^ a ≤ 2 ^ b := fun h => Nat.pow_le_pow_right (by decide) h
  intro i hi j hj
  by_cases c : j ≤ 2 * n
  · exact rb_cd (h2 i j hi c) (Nat.lt_of_lt_of_le h1 (p (by omega))) (Nat.lt_of_lt_of_le S.hg (p (by omega)))
  · have : j = 2 * n + 1 := by omega
    subst this
    refine rb_cd (h3 i hi) ?_ (Nat.lt_of_lt_of_le S.top (p (by omega)))
    have : D * e < 2 ^ g * 2 ^ ee := Nat.mul_lt_mul'' h1 S.he
    rw [← Nat.pow_add] at this
    exact Nat.lt_of_lt_of_le this (p (by omega))
end
section
open Lk
abbrev Pt := List (List Int × Rat)
theorem cd_add {E K L : Nat} {r s : Rat} (h : CD E K r) (g : CD E L s) : CD E (K + L) (r + s) := by
  obtain ⟨p, u, hu, hk⟩ := h
  obtain ⟨_, v, hv, hk'⟩ := g
  refine ⟨p, u + v, ?_, by omega⟩
  have : (r + s) * (E : Rat) = r * E + s * E := by grind
  rw [this, hu, hv, Rat.intCast_add]
theorem cd_mono {E K L : Nat} {r : Rat} (h : CD E K r) (l : K ≤ L) : CD E L r := ⟨h.1, h.2.mono l⟩
theorem cd_zero {E : Nat} (h : 0 < E) : CD E 0 0 := ⟨h, 0, by rw [Rat.zero_mul]; rfl, by simp⟩
noncomputable def trimP : Pt → Rat → Pt
  | [], _ => []
  | (w, a) :: p, r => if 0 < (if r < a then r else a) then (w, if r < a then r else a) :: trimP p (r - if r < a then r else a) else trimP p r
variable {E K B : Nat} {wx : Exn → Prop}
end
section
open Lk
def flL : Pt → Nat → Rat
  | [], _ => 0
  | q :: L, x => (if (x : Int) ∈ q.1 then q.2 else 0) + flL L x
theorem flL_app {L L' : Pt} {x : Nat} : flL (L ++ L') x = flL L x + flL L' x := by
  induction L with
  | nil => simp [flL]; grind
  | cons q L ih =>
    show _ + flL (L ++ L') x = _ + flL L x + _
    rw [ih]
    grind
variable {E K B : Nat} {w : Exn → Prop} {nn : Int} {R : List Rd4}
theorem flL_cd {L : Pt} {x : Nat} (hE : 0 < E) (h : ∀ q ∈ L, CD E K q.2) : CD E (L.length * K) (flL L x) := by
  induction L with
  | nil => rw [List.length_nil, Nat.zero_mul]; exact cd_zero hE
  | cons q L ih =>
    have h1 : CD E K (if (x : Int) ∈ q.1 then q.2 else 0) := by
      split
      · exact h q (by simp)
      · exact cd_mono (cd_zero hE) (by omega)
    have := cd_add h1 (ih fun y hy => h y (by simp [hy]))
    rw [List.length_cons, Nat.succ_mul, Nat.add_comm]
    exact this
theorem flL_nn {L : Pt} {x : Nat} (h : ∀ q ∈ L, 0 ≤ q.2) : 0 ≤ flL L x := by
  induction L with
  | nil => exact Rat.le_refl
  | cons q L ih =>
    have h1 := h q (by simp)
    have h2 := ih fun y hy => h y (by simp [hy])
    show 0 ≤ _ + flL L x
    split <;> grind
end
section
open Lk
variable {B : Nat} {w : Exn → Prop}
def pd (Cx : Nat → Rat) : Nat → Nat
  | 0 => 1
  | n + 1 => pd Cx n * (Cx n).den
def wcC (Cx : Nat → Rat) (wy : List Int) : Rat := sumQ (wy.map fun x => Cx x.toNat)
end
section
open Lk
variable {B : Nat} {w : Exn → Prop}
abbrev Ws := List (List (List Int))
end
section
open Lk
variable {B : Nat} {w : Exn → Prop}
structure Chp (Cx : Nat → Rat) (W : Ws) (P : List Pt) (n : Nat) (F : Us) : Prop where
  lt : ∀ u ∈ F, u.1 < n
  mem : ∀ u ∈ F, u.2 ∈ W.getD u.1 []
  chp : ∀ u ∈ F, ∃ q ∈ P.getD u.1 [], wcC Cx u.2 < wcC Cx q.1
  no : ∀ t, t < n → (∀ u ∈ F, u.1 ≠ t) → ∀ q ∈ P.getD t [], ∀ x ∈ W.getD t [], wcC Cx q.1 ≤ wcC Cx x
  nd : F.Nodup
end
section
open Lk
variable {w : Exn → Prop} {U : Us} {z : Nat → Rat} {t m : Nat}
def btP (U : Us) (z : Nat → Rat) (t : Nat) : Pt := ((List.range U.length).filter fun j => decide ((ug U j).1 = t)).map fun j => ((ug U j).2, z j)
end
section
open Lk
def amS : Pt → Rat
  | [] => 0
  | q :: p => q.2 + amS p
theorem trim_cons {wy : List Int} {a r : Rat} {p : Pt} : trimP ((wy, a) :: p) r = if 0 < (if r < a then r else a) then (wy, if r < a then r else a) :: trimP p (r - if r < a then r else a) else trimP p r := rfl
theorem trim_zero {p : Pt} (hp : ∀ q ∈ p, 0 < q.2) : trimP p 0 = [] := by
  induction p with
  | nil => rfl
  | cons y p ih =>
    obtain ⟨wy, a⟩ := y
    have h : (0 : Rat) < a := hp (wy, a) (by simp)
    rw [trim_cons, if_pos h, if_neg (by grind)]
    exact ih fun q hq => hp q (by simp [hq])
theorem trim_pos {p : Pt} : ∀ {r : Rat}, ∀ q ∈ trimP p r, 0 < q.2 := by
  induction p with
  | nil => intro r q hq; cases hq
  | cons y p ih =>
    obtain ⟨wy, a⟩ := y
    intro r q hq
    rw [trim_cons] at hq
    generalize (if r < a then r else a) = s at hq
    split at hq
    · rcases List.mem_cons.mp hq with rfl | hq
      · assumption
      · exact ih q hq
    · exact ih q hq
theorem trim_sub {p : Pt} : ∀ {r : Rat}, ((trimP p r).map (·.1)).Sublist (p.map (·.1)) := by
  induction p with
  | nil => intro r; exact List.Sublist.refl _
  | cons y p ih =>
    obtain ⟨wy, a⟩ := y
    intro r
    rw [trim_cons]
    generalize (if r < a then r else a) = s
    split
    · exact (ih).cons₂ _
    · exact (ih).cons _
theorem amS_pos {p : Pt} (hp : ∀ q ∈ p, 0 < q.2) : 0 ≤ amS p := by
  induction p with
  | nil => exact Rat.le_refl
  | cons y p ih =>
    have h1 := hp y (by simp)
    have h2 := ih fun q hq => hp q (by simp [hq])
    show 0 ≤ y.2 + amS p
    grind
theorem trim_sum {p : Pt} : ∀ {r : Rat}, (∀ q ∈ p, 0 < q.2) → 0 ≤ r → r ≤ amS p → amS (trimP p r) = r := by
  induction p with
  | nil =>
    intro r _ r0 h
    have h : r ≤ 0 := h
    show (0 : Rat) = r
    grind
  | cons y p ih =>
    obtain ⟨wy, a⟩ := y
    intro r hp r0 h
    have ha : (0 : Rat) < a := hp (wy, a) (by simp)
    have h : r ≤ a + amS p := h
    have hp' : ∀ q ∈ p, 0 < q.2 := fun q hq => hp q (by simp [hq])
    rw [trim_cons]
    by_cases c : r < a
    · simp only [if_pos c]
      have e : r - r = 0 := by grind
      rw [e, trim_zero hp']
      by_cases c2 : 0 < r
      · rw [if_pos c2]
        show r + 0 = r
        grind
      · have e0 : r = 0 := by grind
        rw [if_neg c2, e0, trim_zero hp']
        rfl
    · simp only [if_neg c]
      rw [if_pos ha]
      show a + amS (trimP p (r - a)) = r
      rw [ih hp' (by grind) (by grind)]
      grind
theorem trim_all {p : Pt} : ∀ {r : Rat}, (∀ q ∈ p, 0 < q.2) → amS p = r → trimP p r = p := by
  induction p with
  | nil => intro r _ _; rfl
  | cons y p ih =>
    obtain ⟨wy, a⟩ := y
    intro r hp h
    have ha : (0 : Rat) < a := hp (wy, a) (by simp)
    have h : a + amS p = r := h
    have hp' : ∀ q ∈ p, 0 < q.2 := fun q hq => hp q (by simp [hq])
    have h0 := amS_pos hp'
    have c : ¬ r < a := by grind
    rw [trim_cons]
    simp only [if_neg c]
    rw [if_pos ha, ih hp' (by grind)]
theorem trim_fl {p : Pt} {x : Nat} : ∀ {r : Rat}, (∀ q ∈ p, 0 < q.2) → 0 ≤ r → flL (trimP p r) x ≤ flL p x := by
  induction p with
  | nil => intro r _ _; exact Rat.le_refl
  | cons y p ih =>
    obtain ⟨wy, a⟩ := y
    intro r hp r0
    have ha : (0 : Rat) < a := hp (wy, a) (by simp)
    have hp' : ∀ q ∈ p, 0 < q.2 := fun q hq => hp q (by simp [hq])
    rw [trim_cons]
    have s1 : (if r < a then r else a) ≤ a := by split <;> grind
    have s3 : (if r < a then r else a) ≤ r := by split <;> grind
    generalize (if r < a then r else a) = s at s1 s3 ⊢
    split
    · have := ih (r := r - s) hp' (by grind)
      show (if (x : Int) ∈ wy then s else 0) + flL (trimP p (r - s)) x ≤ (if (x : Int) ∈ wy then a else 0) + flL p x
      split <;> grind
    · have := ih (r := r) hp' r0
      show flL (trimP p r) x ≤ (if (x : Int) ∈ wy then a else 0) + flL p x
      split <;> grind
theorem fl_perm {p q : Pt} {x : Nat} (h : p.Perm q) : flL p x = flL q x := by
  induction h with
  | nil => rfl
  | cons a _ ih => show _ + _ = _ + _; rw [ih]
  | swap a b l => show _ + (_ + _) = _ + (_ + _); grind
  | trans _ _ h1 h2 => rw [h1, h2]
theorem am_perm {p q : Pt} (h : p.Perm q) : amS p = amS q := by
  induction h with
  | nil => rfl
  | cons a _ ih => show _ + _ = _ + _; rw [ih]
  | swap a b l => show _ + (_ + _) = _ + (_ + _); grind
  | trans _ _ h1 h2 => rw [h1, h2]
theorem fl_filter {p : Pt} {x : Nat} (hp : ∀ q ∈ p, 0 ≤ q.2) : flL (p.filter fun q => decide (0 < q.2)) x = flL p x := by
  induction p with
  | nil => rfl
  | cons y p ih =>
    have h0 := hp y (by simp)
    have e := ih fun q hq => hp q (by simp [hq])
    rw [List.filter_cons]
    split
    · show _ + flL (p.filter _) x = _ + _
      rw [e]
    · rename_i c
      have c : ¬ 0 < y.2 := fun z => c (decide_eq_true z)
      have y0 : y.2 = 0 := by grind
      rw [e]
      show flL p x = (if (x : Int) ∈ y.1 then y.2 else 0) + flL p x
      rw [y0]
      split <;> grind
theorem am_filter {p : Pt} (hp : ∀ q ∈ p, 0 ≤ q.2) : amS (p.filter fun q => decide (0 < q.2)) = amS p := by
  induction p with
  | nil => rfl
  | cons y p ih =>
    have h0 := hp y (by simp)
    have e := ih fun q hq => hp q (by simp [hq])
    rw [List.filter_cons]
    split
    · show _ + amS (p.filter _) = _ + _
      rw [e]
    · rename_i c
      have c : ¬ 0 < y.2 := fun z => c (decide_eq_true z)
      have y0 : y.2 = 0 := by grind
      rw [e]
      show amS p = y.2 + amS p
      rw [y0]
      grind
end
section
open Lk
variable {R : List Rd4} {U : Us} {ds bs : List Rat} {z : Nat → Rat} {P : List Pt}
theorem amS_app {p q : Pt} : amS (p ++ q) = amS p + amS q := by
  induction p with
  | nil => show amS q = 0 + amS q; grind
  | cons y p ih => show _ + amS (p ++ q) = _ + _ + _; rw [ih]; grind
theorem bt_mem {t : Nat} {r : List Int × Rat} : r ∈ btP U z t ↔ ∃ j, j < U.length ∧ (ug U j).1 = t ∧ r = ((ug U j).2, z j) := by
  unfold btP
  constructor
  · intro h
    obtain ⟨j, hj, rfl⟩ := List.mem_map.mp h
    obtain ⟨a, b⟩ := List.mem_filter.mp hj
    exact ⟨j, List.mem_range.mp a, of_decide_eq_true b, rfl⟩
  · rintro ⟨j, h1, h2, rfl⟩
    exact List.mem_map.mpr ⟨j, List.mem_filter.mpr ⟨List.mem_range.mpr h1, decide_eq_true h2⟩, rfl⟩
theorem bt_nn {t : Nat} (S : (PrU R U ds bs).Sol z) : ∀ r ∈ btP U z t, 0 ≤ r.2 := fun r hr => by
  obtain ⟨j, h1, h2, rfl⟩ := bt_mem.mp hr
  exact S.nn j h1
theorem am_range {t : Nat} : ∀ n, amS (((List.range n).filter fun j => decide ((ug U j).1 = t)).map fun j => ((ug U j).2, z j)) = sm n fun j => if (ug U j).1 = t then z j else 0
  | 0 => rfl
  | n + 1 => by
    rw [List.range_succ, List.filter_append, List.map_append, amS_app, am_range n]
    show _ = sm n _ + _
    congr 1
    show _ = if (ug U n).1 = t then z n else 0
    by_cases c : (ug U n).1 = t
    · rw [if_pos c, List.filter_cons, if_pos (decide_eq_true c)]
      show z n + 0 = z n
      grind
    · rw [if_neg c, List.filter_cons, if_neg (by simpa using c)]
      rfl
theorem fl_range {t x : Nat} : ∀ n, flL (((List.range n).filter fun j => decide ((ug U j).1 = t)).map fun j => ((ug U j).2, z j)) x = sm n fun j => if (ug U j).1 = t then indW (ug U j).2 x * z j else 0
  | 0 => rfl
  | n + 1 => by
    rw [List.range_succ, List.filter_append, List.map_append, flL_app, fl_range n]
    show _ = sm n _ + _
    congr 1
    show _ = if (ug U n).1 = t then indW (ug U n).2 x * z n else 0
    by_cases c : (ug U n).1 = t
    · rw [if_pos c, List.filter_cons, if_pos (decide_eq_true c)]
      show (if (x : Int) ∈ (ug U n).2 then z n else 0) + 0 = _
      unfold indW
      split <;> grind
    · rw [if_neg c, List.filter_cons, if_neg (by simpa using c)]
      rfl
theorem am_bt {t : Nat} : amS (btP U z t) = (PrU R U ds bs).tot z t := am_range _
theorem fl_bt {x : Nat} (h : UOk R U ds bs) : (PrU R U ds bs).fl z x = sm ds.length fun t => flL (btP U z t) x := by
  have e : (sm ds.length fun t => flL (btP U z t) x) = sm ds.length fun t => sm U.length fun j => if (ug U j).1 = t then indW (ug U j).2 x * z j else 0 := sm_congr fun t _ => fl_range _
  rw [e, sm_swap]
  show (sm U.length fun j => indW (ug U j).2 x * z j) = _
  refine sm_congr fun j hj => ?_
  rw [sm_one (h.trp _ (ug_mem hj)) fun t _ hn => if_neg fun y => hn y.symm, if_pos rfl]
def Cut (U : Us) (z : Nat → Rat) (ds : List Rat) (n : Nat) (P : List Pt) : Prop := P.length = n ∧ ∀ t, t < n → ∃ q : Pt, q.Perm (btP U z t) ∧ q.Pairwise (fun x y => x.1 < y.1) ∧ P.getD t [] = trimP (q.filter fun r => decide (0 < r.2)) (ds.getD t 0)
theorem fl_flat {x : Nat} : ∀ {P : List Pt}, flL (P.flatMap id) x = sm P.length fun t => flL (P.getD t []) x := by
  intro P
  have : ∀ n, n ≤ P.length → flL ((P.take n).flatMap id) x = sm n fun t => flL (P.getD t []) x := by
    intro n
    induction n with
    | zero => intro _; rfl
    | succ n ih =>
      intro hn
      rw [List.take_succ, List.flatMap_append, flL_app, ih (by omega), List.getElem?_eq_getElem (by omega)]
      show _ + flL ((P[n] :: []).flatMap id) x = sm n _ + _
      simp [List.getElem?_eq_getElem (show n < P.length by omega)]
  have h := this P.length (Nat.le_refl _)
  rwa [List.take_length] at h
variable {n : Nat}
theorem cut_rows (h : UOk R U ds bs) (S : (PrU R U ds bs).Sol z) (C : Cut U z ds ds.length P) {t : Nat} (ht : t < ds.length) :
    (∀ r ∈ P.getD t [], 0 < r.2 ∧ ∃ j, j < U.length ∧ (ug U j).1 = t ∧ r.1 = (ug U j).2 ∧ 0 < z j) ∧ (P.getD t []).Pairwise (fun x y => x.1 < y.1) ∧ amS (P.getD t []) = ds.getD t 0 ∧
    (∀ x, 0 ≤ flL (P.getD t []) x ∧ flL (P.getD t []) x ≤ flL (btP U z t) x) ∧ (0 < z (U.length + t) → ∀ x, flL (P.getD t []) x = flL (btP U z t) x) := by
  obtain ⟨q, qp, qs, e⟩ := C.2 t ht
  have q0 : ∀ r ∈ q, 0 ≤ r.2 := fun r hr => bt_nn S r (qp.mem_iff.mp hr)
  have p0 : ∀ r ∈ q.filter fun r => decide (0 < r.2), 0 < r.2 := fun r hr => of_decide_eq_true (List.mem_filter.mp hr).2
  have d0 : 0 < ds.getD t 0 := by
    have := h.d0 _ (List.getElem_mem ht)
    simpa [ht] using this
  have am : amS (q.filter fun r => decide (0 < r.2)) = (PrU R U ds bs).tot z t := by rw [am_filter q0, am_perm qp, am_bt (R := R) (ds := ds) (bs := bs)]
  have dm : ds.getD t 0 ≤ (PrU R U ds bs).tot z t := S.dem t ht
  rw [e]
  have sub := trim_sub (p := q.filter fun r => decide (0 < r.2)) (r := ds.getD t 0)
  refine ⟨fun r hr => ⟨trim_pos r hr, ?_⟩, ?_, trim_sum p0 (by grind) (by rw [am]; exact dm), fun x => ⟨flL_nn fun r hr => by have := trim_pos r hr; grind, ?_⟩, fun up x => ?_⟩
  · obtain ⟨s, hs, es⟩ := List.mem_map.mp (sub.subset (List.mem_map.mpr ⟨r, hr, rfl⟩))
    obtain ⟨a, b⟩ := List.mem_filter.mp hs
    obtain ⟨j, j1, j2, rfl⟩ := bt_mem.mp (qp.mem_iff.mp a)
    exact ⟨j, j1, j2, es.symm, of_decide_eq_true b⟩
  · have h1 : (q.map (·.1)).Pairwise (fun x y => x < y) := List.pairwise_map.mpr qs
    have h2 := (List.Pairwise.sublist sub (h1.sublist (List.filter_sublist.map _)))
    exact List.pairwise_map.mp h2
  · have := trim_fl (p := q.filter fun r => decide (0 < r.2)) (x := x) (r := ds.getD t 0) p0 (by grind)
    rw [fl_filter q0, fl_perm qp] at this
    exact this
  · have f : (PrU R U ds bs).tot z t = ds.getD t 0 := S.full t ht up
    rw [trim_all p0 (by rw [am, f]), fl_filter q0, fl_perm qp]
theorem cut_fl (h : UOk R U ds bs) (S : (PrU R U ds bs).Sol z) (C : Cut U z ds ds.length P) {x : Nat} (hx : x < R.length) : (slR R x : Rat) * flL (P.flatMap id) x = (slR R x : Rat) * (PrU R U ds bs).fl z x := by
  have ok := PrU.ok h
  have s0 : (0 : Rat) ≤ (slR R x : Rat) := ok.s0 x
  have f1 : flL (P.flatMap id) x = sm ds.length fun t => flL (P.getD t []) x := by rw [fl_flat, C.1]
  have le : flL (P.flatMap id) x ≤ (PrU R U ds bs).fl z x := by
    rw [f1, fl_bt h]
    exact sm_le fun t ht => ((cut_rows h S C ht).2.2.2.1 x).2
  have nn : 0 ≤ flL (P.flatMap id) x := by
    rw [f1]
    exact sm_nn fun t ht => ((cut_rows h S C ht).2.2.2.1 x).1
  by_cases c : (slR R x : Rat) * (PrU R U ds bs).fl z x = 0
  · have a := Rat.mul_le_mul_of_nonneg_left le s0
    have b := Rat.mul_nonneg s0 nn
    grind
  · congr 1
    rw [f1, fl_bt h]
    refine sm_congr fun t ht => ?_
    obtain ⟨_, _, _, k1, k2⟩ := cut_rows h S C ht
    by_cases up : 0 < z (U.length + t)
    · exact k2 up x
    have u0 : z (U.length + t) = 0 := by have : 0 ≤ z (U.length + t) := S.un t ht; grind
    have e0 : flL (btP U z t) x = 0 := by
      unfold btP
      rw [fl_range]
      refine sm_zero fun j hj => ?_
      by_cases c1 : (ug U j).1 = t
      · rw [if_pos c1]
        by_cases zp : 0 < z j
        · have c0 : (PrU R U ds bs).cst z j = 0 := by
            rw [S.eq j hj zp]
            show z (U.length + (ug U j).1) = 0
            rw [c1, u0]
          have fz := fun y => Pr.fl_nn (x := y) ok S.nn
          have i0 : ∀ y, 0 ≤ (PrU R U ds bs).ind j y := fun y => by rcases ok.i01 j y with e | e <;> rw [e] <;> decide
          have t0 := sm_nn_zero (fun y _ => Rat.mul_nonneg (i0 y) (by
            have := Rat.mul_nonneg (ok.s0 y) (fz y)
            have := ok.b0 y
            grind : 0 ≤ (PrU R U ds bs).s y * (PrU R U ds bs).fl z y + (PrU R U ds bs).be y)) c0 x hx
          show (PrU R U ds bs).ind j x * z j = 0
          rcases ok.i01 j x with e | e
          · rw [e]; grind
          · exfalso
            rw [e] at t0
            have a1 := Rat.mul_nonneg (ok.s0 x) (fz x)
            have a2 := ok.b0 x
            have a3 : (PrU R U ds bs).s x * (PrU R U ds bs).fl z x = 0 := by grind
            exact c a3
        · have : 0 ≤ z j := S.nn j hj
          have z0 : z j = 0 := by grind
          rw [z0]; grind
      · rw [if_neg c1]
    have := k1 x
    rw [e0] at this ⊢
    grind
end
section
open Lk
variable {R : List Rd4} {U : Us} {ds bs : List Rat} {z : Nat → Rat} {P : List Pt} {W : Ws} {F : Us}
def cxP (R : List Rd4) (bs : List Rat) (P : List Pt) (x : Nat) : Rat := (slR R x : Rat) * flL (P.flatMap id) x + bs.getD x 0
theorem wcC_sm {Cx : Nat → Rat} {r : Nat} {wy : List Int} (hn : wy.Nodup) (hr : ∀ x ∈ wy, 0 ≤ x ∧ x < r) : wcC Cx wy = sm r fun x => indW wy x * Cx x := by
  unfold wcC
  rw [sumQ_sm (g := fun x => Cx x.toNat) hn hr]
  refine sm_congr fun x _ => ?_
  unfold indW
  rw [Int.toNat_natCast]
  split <;> grind
theorem cut_cost (h : UOk R U ds bs) (S : (PrU R U ds bs).Sol z) (C : Cut U z ds ds.length P) {j : Nat} (hj : j < U.length) : wcC (cxP R bs P) (ug U j).2 = (PrU R U ds bs).cst z j := by
  rw [wcC_sm (h.nod _ (ug_mem hj)) (h.rng _ (ug_mem hj))]
  show (sm R.length _) = sm R.length _
  refine sm_congr fun x hx => ?_
  unfold cxP
  rw [cut_fl h S C hx]
  rfl
theorem fresh (h : UOk R U ds bs) (S : (PrU R U ds bs).Sol z) (C : Cut U z ds ds.length P) (c : Chp (cxP R bs P) W P ds.length F) : ∀ u ∈ F, u ∉ U := by
  intro u hu hU
  obtain ⟨q, hq, lt⟩ := c.chp u hu
  obtain ⟨_, j, hj, e1, e2, zp⟩ := (cut_rows h S C (c.lt u hu)).1 q hq
  rw [e2, cut_cost h S C hj, S.eq j hj zp] at lt
  obtain ⟨i, hi, ei⟩ := List.getElem_of_mem hU
  have lo := S.low i hi
  have eu : ug U i = u := by rw [ug_get hi, ei]
  rw [← cut_cost h S C hi, eu] at lo
  have a : (PrU R U ds bs).tr j = u.1 := e1
  have b : (PrU R U ds bs).tr i = u.1 := congrArg Prod.fst eu
  rw [a] at lt
  rw [b] at lo
  grind
structure RestP (R : List Rd4) (ds bs : List Rat) (W : Ws) (P : List Pt) : Prop where
  len : P.length = ds.length
  mem : ∀ t, t < ds.length → ∀ q ∈ P.getD t [], 0 < q.2 ∧ q.1 ∈ W.getD t []
  ord : ∀ t, t < ds.length → (P.getD t []).Pairwise (fun x y => x.1 < y.1)
  sum : ∀ t, t < ds.length → amS (P.getD t []) = ds.getD t 0
  rst : ∀ t, t < ds.length → ∀ q ∈ P.getD t [], ∀ x ∈ W.getD t [], wcC (cxP R bs P) q.1 ≤ wcC (cxP R bs P) x
end
section
open Lk
variable {R : List Rd4} {U F : Us} {ds bs : List Rat} {W : Ws} {Cx : Nat → Rat} {P : List Pt}
def allU (W : Ws) : Us := W.zipIdx.flatMap fun p => p.1.map fun y => (p.2, y)
theorem allU_mem {u : Nat × List Int} (h : u.2 ∈ W.getD u.1 []) : u ∈ allU W := by
  obtain ⟨t, y⟩ := u
  by_cases c : t < W.length
  · have h : y ∈ W[t] := by simpa [c] using h
    refine List.mem_flatMap.mpr ⟨(W[t], t), ?_, List.mem_map.mpr ⟨y, h, rfl⟩⟩
    rw [List.mem_iff_getElem?]
    exact ⟨t, by rw [List.getElem?_zipIdx, List.getElem?_eq_getElem c]; simp⟩
  · have h : y ∈ W.getD t [] := h
    rw [List.getD_eq_getElem?_getD, List.getElem?_eq_none (by omega)] at h
    cases h
structure UIn (R : List Rd4) (ds bs : List Rat) (W : Ws) (U : Us) : Prop where
  ok : UOk R U ds bs
  mem : ∀ u ∈ U, u.2 ∈ W.getD u.1 []
  nd : U.Nodup
theorem UIn.le (h : UIn R ds bs W U) : U.length ≤ (allU W).length := by
  refine Lk.pigeon U.length (allU W) (fun i => ug U i) (fun i hi => allU_mem (h.mem _ (ug_mem hi))) fun i j hij hj e => ?_
  rw [ug_get (by omega), ug_get hj] at e
  have := (List.getElem_inj h.nd).mp e
  omega
theorem getD_mem {t : Nat} {y : List Int} (h : y ∈ W.getD t []) : ∃ l ∈ W, y ∈ l := by
  by_cases c : t < W.length
  · exact ⟨W[t], List.getElem_mem c, by simpa [c] using h⟩
  · rw [List.getD_eq_getElem?_getD, List.getElem?_eq_none (by omega)] at h
    cases h
theorem UIn.add (h : UIn R ds bs W U) (hw : ∀ l ∈ W, ∀ y ∈ l, y.Nodup ∧ ∀ x ∈ y, 0 ≤ x ∧ x < R.length) (c : Chp Cx W P ds.length F) (fr : ∀ u ∈ F, u ∉ U) : UIn R ds bs W (U ++ F) := by
  have fw : ∀ u ∈ F, u.2.Nodup ∧ ∀ x ∈ u.2, 0 ≤ x ∧ x < R.length := fun u hu => by
    obtain ⟨l, hl, hy⟩ := getD_mem (c.mem u hu)
    exact hw l hl _ hy
  refine ⟨⟨by rw [List.length_append]; have := h.ok.pos; omega, h.ok.len, fun u hu => ?_, fun u hu => ?_, fun u hu => ?_, fun t ht => ?_, h.ok.s0, h.ok.b0, h.ok.d0⟩, fun u hu => ?_, ?_⟩
  · rcases List.mem_append.mp hu with hu | hu
    · exact h.ok.nod u hu
    · exact (fw u hu).1
  · rcases List.mem_append.mp hu with hu | hu
    · exact h.ok.rng u hu
    · exact (fw u hu).2
  · rcases List.mem_append.mp hu with hu | hu
    · exact h.ok.trp u hu
    · exact c.lt u hu
  · obtain ⟨u, hu, e⟩ := h.ok.all t ht
    exact ⟨u, List.mem_append_left _ hu, e⟩
  · rcases List.mem_append.mp hu with hu | hu
    · exact h.mem u hu
    · exact c.mem u hu
  · refine List.nodup_append.mpr ⟨h.nd, c.nd, fun x hx y hy e => ?_⟩
    subst e
    exact fr x hy hx
end
section
open Lk
variable {nn : Int} {R : List Rd4} {ds bs : List Rat} {W : Ws} {w : Exn → Prop}
structure RSz (R : List Rd4) (ds bs : List Rat) (W : Ws) (K0 e Kq g ee kq sm Kb Kd N L B B2 : Nat) : Prop where
  szs : ∀ U, UIn R ds bs W U → Szs (mU U ds) (MU R U) (qU bs U ds) K0 e Kq g ee kq
  e0 : 0 < e
  bd : ∀ q ∈ bs, CD e Kb q
  dd : ∀ d ∈ ds, CD e Kd d
  hKd : Kd * 2 ^ (g + ee) ≤ 2 ^ (7 + (g + kq))
  sl : ∀ x, (slR R x).natAbs ≤ sm
  sm1 : sm < 2 ^ 20
  hN : ds.length * (allU W).length ≤ N
  hW : (allU W).length < 1000
  hT : ds.length < 1000
  hWl : W.length = ds.length
  hg : 7 + (g + (ee + kq)) < 1900
  b1 : 2 ^ (g + ee) ≤ 2 ^ B
  b2 : (N + 1) * 2 ^ (7 + (g + kq)) < 2 ^ B
  b3 : sm * (N * 2 ^ (7 + (g + kq))) + Kb * 2 ^ (g + ee) < 2 ^ B
  hB : B < 1900
  rb : ∀ q ∈ bs, RB q B2
  hB2 : B2 ≤ B
  wl : ∀ l ∈ W, ∀ y ∈ l, y.length ≤ L
  wn : ∀ l ∈ W, ∀ y ∈ l, y.Nodup ∧ ∀ x ∈ y, 0 ≤ x ∧ x < R.length
  we : ∀ l ∈ W, l ≠ []
  hR : R.length ≤ 100
  l1 : (L + 1) * (B + 1) + 1 < 100000
  l2 : L * (B + 1) + 1 < 9000
variable {K0 e Kq g ee kq sm Kb Kd N L B B2 : Nat} {U : Us} {z : Nat → Rat} {P : List Pt}
theorem mem_getD {p : Pt} (h : p ∈ P) : ∃ t, t < P.length ∧ P.getD t [] = p := by
  obtain ⟨t, ht, e⟩ := List.getElem_of_mem h
  exact ⟨t, ht, by simp [ht, e]⟩
end
section
open Lk
variable {nn : Int} {R : List Rd4} {ds bs : List Rat} {W : Ws} {w : Exn → Prop} {K0 e Kq g ee kq sm Kb Kd N L B B2 : Nat}
abbrev Trs := List (Int × Int × Rat)
def Ini (W : Ws) (n : Nat) (U : Us) : Prop := U.length = n ∧ ∀ t, t < n → (ug U t).1 = t ∧ (ug U t).2 ∈ W.getD t []
end
section
open Lk
variable {nn : Int} {R : List Rd4} {ds bs : List Rat} {W : Ws} {w : Exn → Prop} {K0 e Kq g ee kq sm Kb Kd N L B B2 : Nat} {P : List Pt}
theorem RestP.wy (Z : RSz R ds bs W K0 e Kq g ee kq sm Kb Kd N L B B2) (h : RestP R ds bs W P) : ∀ p ∈ P, ∀ q ∈ p, q.1.Nodup ∧ (∀ x ∈ q.1, 0 ≤ x ∧ x < R.length) ∧ q.1.length ≤ L := fun p hp q hq => by
  obtain ⟨t, ht, rfl⟩ := mem_getD hp
  obtain ⟨l, hl, hy⟩ := getD_mem (h.mem t (by rw [← h.len]; exact ht) q hq).2
  exact ⟨(Z.wn l hl _ hy).1, (Z.wn l hl _ hy).2, Z.wl l hl _ hy⟩
end
section
theorem pth_e1 {E : List (Int × Int)} {rows : List Gm.Row} {q : Gm.Row} {p : (Int × Int) × Nat} (hq : q ∈ rows) (hp : p ∈ E.zipIdx) (ok : Gm.okE q.2 p.1 = true) : Gm.exP q.1 q.2 p ∈ Gm.ext1 E rows :=
  List.mem_flatMap.mpr ⟨q, hq, List.mem_map.mpr ⟨p, List.mem_filter.mpr ⟨hp, ok⟩, rfl⟩⟩
structure Pth (E : List (Int × Int)) (b : Int) (m : Nat) (f : Nat → Int) : Prop where
  z : f 0 = 0
  e : ∀ i, i < m → E[i]? = some (f i, f (i + 1))
  lt : ∀ i, i < m → f i < f (i + 1)
  b : f m = b
  m0 : 1 ≤ m
theorem Pth.up {E : List (Int × Int)} {b : Int} {m : Nat} {f : Nat → Int} (h : Pth E b m f) : ∀ j i, i + j ≤ m → f i + j ≤ f (i + j) := by
  intro j
  induction j with
  | zero => intro i _; simp
  | succ j ih =>
    intro i hi
    have h1 := ih i (by omega)
    have h2 := h.lt (i + j) (by omega)
    have e : i + (j + 1) = i + j + 1 := by omega
    rw [e]
    omega
theorem Pth.row {E : List (Int × Int)} {b : Int} {m : Nat} {f : Nat → Int} (h : Pth E b m f) : ∀ i, i < m → ∃ r ∈ Gm.itR E b i (Gm.rows0 0), r.2.getLast? = some (f i) ∧ ∀ x ∈ r.2, x ≤ f i := by
  intro i
  induction i with
  | zero =>
    intro _
    exact ⟨([], [0]), by simp [Gm.itR, Gm.rows0], by simp [h.z], by simp [h.z]⟩
  | succ i ih =>
    intro hi
    obtain ⟨r, hr, hl, hx⟩ := ih (by omega)
    have lt := h.lt i (by omega)
    have hp : ((f i, f (i + 1)), i) ∈ E.zipIdx := List.mk_mem_zipIdx_iff_getElem?.mpr (h.e i (by omega))
    have ok : Gm.okE r.2 (f i, f (i + 1)) = true := by
      have : f (i + 1) ∉ r.2 := fun z => by
        have := hx _ z
        omega
      simp [Gm.okE, hl, this]
    have hm := pth_e1 hr hp ok
    have ne : f (i + 1) ≠ b := by
      have := h.up (m - (i + 1)) (i + 1) (by omega)
      have e : i + 1 + (m - (i + 1)) = m := by omega
      rw [e, h.b] at this
      omega
    refine ⟨Gm.exP r.1 r.2 ((f i, f (i + 1)), i), ?_, ?_, fun x hx2 => ?_⟩
    · rw [Gm.itR_succ]
      refine List.mem_filter.mpr ⟨hm, ?_⟩
      simp [Gm.isE, Gm.exP, ne]
    · simp [Gm.exP]
    · rcases List.mem_append.mp hx2 with z | z
      · have := hx x z
        omega
      · have : x = f (i + 1) := by simpa using z
        omega
end
section
open Lk
variable {k : D → Prop} {w : Exn → Prop} {C : Cs} {r : Addr} {φ : Heap → Prop}
structure OrdL (m : Nat) (l : List Int) : Prop where
  h0 : l[0]? = some 0
  up : l.Pairwise (· < ·)
  bd : ∀ x ∈ l, 0 ≤ x ∧ x < m
  len : l.length ≤ m
theorem OrdL.more {m : Nat} {l : List Int} (h : OrdL m l) : OrdL (m + 1) l := ⟨h.h0, h.up, fun x hx => by have := h.bd x hx; omega, by have := h.len; omega⟩
end
section
open Lk
variable {w : Exn → Prop} {nn : Int} {R : List Rd4} {E K B : Nat}
theorem flat_mem_len {rt : List Pt} {p : Pt} (h : p ∈ rt) : p.length ≤ (rt.flatMap id).length := by
  induction rt with
  | nil => cases h
  | cons q rt ih =>
    rw [List.flatMap_cons, List.length_append]
    rcases List.mem_cons.mp h with rfl | h
    · exact Nat.le_add_right _ _
    · have := ih h
      omega
end
section
open Lk
variable {w : Exn → Prop} {R : List Rd4} {B Bc n E K : Nat} {Cx : Nat → Rat} {X : Trs} {ta : List Rat} {P : List Pt} {s : Int}
structure ASz (E K B : Nat) (P : List Pt) : Prop where
  e0 : 0 < E
  e1 : E < 2 ^ B
  cd : ∀ p ∈ P, ∀ q ∈ p, CD E K q.2
  k1 : ((P.flatMap id).length + 1) * K < 2 ^ B
  b0 : 100 ≤ B
  b1 : B < 1480
  len : (P.flatMap id).length ≤ 200
theorem ASz.fl (h : ASz E K B P) (x : Nat) : RB (flL (P.flatMap id) x) B := by
  have k1 := h.k1
  refine rb_cd (flL_cd (K := K) h.e0 fun q hq => ?_) h.e1 ?_
  · obtain ⟨p, hp1, hp2⟩ := List.mem_flatMap.mp hq
    exact h.cd p hp1 q hp2
  · rw [Nat.succ_mul] at k1
    exact Nat.lt_of_le_of_lt (Nat.le_add_right _ _) k1
end
section
open Lk
variable {R : List Rd4} {n : Nat} {X : Trs} {ta : List Rat} {P : List Pt}
theorem ASz.rb {E K B : Nat} (h : ASz E K B P) : ∀ p ∈ P, ∀ q ∈ p, RB q.2 B := fun p hp q hq => by
  have k1 := h.k1
  refine rb_cd (h.cd p hp q hq) h.e1 ?_
  have : 1 * K ≤ ((P.flatMap id).length + 1) * K := Nat.mul_le_mul_right _ (by omega)
  omega
theorem ASz.pl {E K B : Nat} (h : ASz E K B P) : ∀ p ∈ P, p.length ≤ 200 := fun p hp => Nat.le_trans (flat_mem_len hp) h.len
end

end Tr

namespace Tr
def gsQ : List Ln → List Rat → List Rat → Rat
  | x :: L, f :: fs, q :: zs => f * (x.1 * (f + q) + x.2) + gsQ L fs zs
  | _, _, _ => 0
theorem gs_whole {L : List Ln} {g z : List Rat} {t : Rat} (hl : g.length = L.length) (h : RestQ (leftQ L g) z t) : whQ L (List.zipWith (· + ·) g z) = gsQ L g z + t * sumQ z := by
  induction L generalizing g z with
  | nil => cases g with
    | nil => cases z with
      | nil => simp only [List.zipWith_nil_left, whQ, gsQ, sumQ]; grind
      | cons _ _ => exact h.elim
    | cons _ _ => cases hl
  | cons x L ih => cases g with
    | nil => cases hl
    | cons f g => cases z with
      | nil => exact h.elim
      | cons q z =>
        have i := ih (g := g) (z := z) (by simpa using hl) h.2.2.2
        obtain ⟨h1, h2, h3, _⟩ := h
        simp only [List.zipWith_cons_cons, whQ, gsQ, sumQ] at i ⊢
        rw [i]
        by_cases c : 0 < q
        · have := h3 c
          simp only at this
          grind
        · have : q = 0 := by grind
          subst this
          grind
theorem gs_low {L : List Ln} {g z : List Rat} {t : Rat} (hl : g.length = L.length) (hg : Pos0 g) (h : RestQ (leftQ L g) z t) : t * sumQ g ≤ gsQ L g z := by
  induction L generalizing g z with
  | nil => cases g with
    | nil => simp [gsQ, sumQ]
    | cons _ _ => cases hl
  | cons x L ih => cases g with
    | nil => cases hl
    | cons f g => cases z with
      | nil => exact h.elim
      | cons q z =>
        have i := ih (g := g) (z := z) (by simpa using hl) (fun v hv => hg v (by simp [hv])) h.2.2.2
        obtain ⟨h1, h2, h3, _⟩ := h
        have f0 := hg f (by simp)
        simp only at h2
        have := Rat.mul_nonneg f0 (show 0 ≤ x.1 * q + (x.1 * f + x.2) - t by grind)
        simp only [gsQ, sumQ]
        grind
theorem gs_high {L : List Ln} {y g z : List Rat} {t : Rat} (hL : Lok L) (hl : g.length = L.length) (hy : y.length = L.length) (hg : Pos0 g) (hle : ∀ i, g.getD i 0 ≤ y.getD i 0) (h : RestQ (leftQ L g) z t)
    (hh : ∀ i, 0 < g.getD i 0 → 0 < z.getD i 0 → t ≤ (tmsQ L y).getD i 0) : gsQ L g z ≤ whQ L y := by
  induction L generalizing g z y with
  | nil => cases g with
    | nil => cases y with
      | nil => simp [gsQ, whQ]
      | cons _ _ => cases hy
    | cons _ _ => cases hl
  | cons x L ih => cases g with
    | nil => cases hl
    | cons f g => cases y with
      | nil => cases hy
      | cons v y => cases z with
        | nil => exact h.elim
        | cons q z =>
          have i := ih (g := g) (z := z) (y := y) (fun x hx => hL x (by simp [hx])) (by simpa using hl) (by simpa using hy) (fun v hv => hg v (by simp [hv])) (fun i => by have := hle (i + 1); simpa using this) h.2.2.2 (fun i h1 h2 => by
            have := hh (i + 1) (by simpa using h1) (by simpa using h2)
            simpa [tmsQ] using this)
          obtain ⟨h1, h2, h3, _⟩ := h
          have f0 := hg f (by simp)
          have fv : f ≤ v := by have := hle 0; simpa using this
          have s0 := scast (hL x (by simp)).1
          have b0 := (hL x (by simp)).2
          simp only [gsQ, whQ]
          have key : f * (x.1 * (f + q) + x.2) ≤ v * (x.1 * v + x.2) := by
            have v0 : 0 ≤ v := Rat.le_trans f0 fv
            have tv : 0 ≤ x.1 * v + x.2 := Rat.add_nonneg (Rat.mul_nonneg s0 v0) b0
            have m2 := Rat.mul_nonneg (show 0 ≤ v - f by grind) tv
            by_cases c : 0 < q
            · by_cases c2 : 0 < f
              · have e := h3 c
                simp only at e
                have hv := hh 0 (by simpa using c2) (by simpa using c)
                simp only [tmsQ, List.getD_cons_zero] at hv
                have m1 := Rat.mul_nonneg f0 (show 0 ≤ x.1 * v + x.2 - t by grind)
                have e' : x.1 * (f + q) + x.2 = t := by rw [← e, Rat.mul_add, Rat.add_comm (x.1 * f), Rat.add_assoc]
                rw [e']
                generalize x.1 * v + x.2 = l at *
                grind
              · have : f = 0 := by grind
                subst this
                have := Rat.mul_nonneg v0 tv
                grind
            · have : q = 0 := by grind
              subst this
              have m1 := Rat.mul_nonneg f0 (Rat.mul_nonneg s0 (show 0 ≤ v - f by grind))
              grind
          grind
theorem sum_above {a b : List Rat} (hl : a.length = b.length) (hs : sumQ a = sumQ b) {i : Nat} (hi : b.getD i 0 < a.getD i 0) : ∃ j, a.getD j 0 < b.getD j 0 := by
  have : ¬ ∀ j, b.getD j 0 ≤ a.getD j 0 := by
    intro h
    have : ∀ (a b : List Rat), a.length = b.length → (∀ j, b.getD j 0 ≤ a.getD j 0) → sumQ b ≤ sumQ a ∧ ∀ i, b.getD i 0 < a.getD i 0 → sumQ b < sumQ a := by
      intro a
      induction a with
      | nil => intro b hl h; cases b with
        | nil => exact ⟨Rat.le_refl, fun i hi => by simp at hi⟩
        | cons _ _ => cases hl
      | cons q a ih => intro b hl h; cases b with
        | nil => cases hl
        | cons p b =>
          have h0 := h 0
          simp only [List.getD_cons_zero] at h0
          have := ih b (by simpa using hl) fun j => by have := h (j + 1); simpa using this
          simp only [sumQ]
          refine ⟨by have := this.1; grind, fun i hi => ?_⟩
          cases i with
          | zero =>
            simp only [List.getD_cons_zero] at hi
            have := this.1
            grind
          | succ i =>
            have := this.2 i (by simpa using hi)
            grind
    have := (this a b hl h).2 i hi
    rw [hs] at this
    exact absurd this Rat.lt_irrefl
  exact Classical.byContradiction fun z => this fun j => by
    have : ¬ a.getD j 0 < b.getD j 0 := fun q => z ⟨j, q⟩
    grind
theorem fall_split {ts : List Rat} {i : Nat} {p : List Nat} (h : p.Pairwise fun a b => ts.getD b 0 ≤ ts.getD a 0) :
    p.take (p.filter fun j => decide (ts.getD i 0 < ts.getD j 0)).length = (p.filter fun j => decide (ts.getD i 0 < ts.getD j 0)) ∧ p.drop (p.filter fun j => decide (ts.getD i 0 < ts.getD j 0)).length = (p.filter fun j => !decide (ts.getD i 0 < ts.getD j 0)) := by
  induction p with
  | nil => exact ⟨rfl, rfl⟩
  | cons a p ih =>
    have ⟨h1, h2⟩ := List.pairwise_cons.mp h
    have i2 := ih h2
    by_cases c : ts.getD i 0 < ts.getD a 0
    · simp only [List.filter_cons, c, decide_true, if_true, List.length_cons, List.take_succ_cons, List.drop_succ_cons, Bool.not_true, Bool.false_eq_true, if_false]
      exact ⟨by rw [i2.1], i2.2⟩
    · have e : (p.filter fun j => decide (ts.getD i 0 < ts.getD j 0)) = [] := List.filter_eq_nil_iff.mpr fun j hj => by
        have := h1 j hj
        simp only [decide_eq_true_eq]
        grind
      have e2 : (p.filter fun j => !decide (ts.getD i 0 < ts.getD j 0)) = p := List.filter_eq_self.mpr fun j hj => by
        have := h1 j hj
        have : ¬ ts.getD i 0 < ts.getD j 0 := by grind
        rw [decide_eq_false this]; rfl
      simp only [List.filter_cons, c, decide_false, Bool.false_eq_true, if_false, e, List.length_nil, List.take_zero, List.drop_zero, Bool.not_false, if_true, e2]
      exact ⟨trivial, trivial⟩
theorem fall_sorted {ts : List Rat} : (fallQ ts).Pairwise fun a b => ts.getD b 0 ≤ ts.getD a 0 := by
  unfold fallQ
  generalize ts.length = n
  induction n with
  | zero => exact List.Pairwise.nil
  | succ n ih =>
    rw [List.range_succ, List.foldl_append]
    simp only [List.foldl_cons, List.foldl_nil]
    generalize (List.range n).foldl (insF ts) [] = p at ih
    unfold insF
    rw [(fall_split ih).1, (fall_split ih).2]
    refine List.pairwise_append.mpr ⟨ih.filter _, List.pairwise_cons.mpr ⟨fun b hb => ?_, ih.filter _⟩, fun a ha b hb => ?_⟩
    · have := (List.mem_filter.mp hb).2
      simp only [Bool.not_eq_true', decide_eq_false_iff_not] at this
      grind
    · have ha := (List.mem_filter.mp ha).2
      simp only [decide_eq_true_eq] at ha
      rcases List.mem_cons.mp hb with rfl | hb
      · grind
      · have hb := (List.mem_filter.mp hb).2
        simp only [Bool.not_eq_true', decide_eq_false_iff_not] at hb
        grind
theorem getD_set {g : List Rat} {j i : Nat} {v : Rat} (hj : j < g.length) : (g.set j v).getD i 0 = if i = j then v else g.getD i 0 := by
  by_cases e : i = j
  · subst e
    simp [List.getD_eq_getElem?_getD, hj]
  · simp [List.getD_eq_getElem?_getD, List.getElem?_set, e, Ne.symm e]
theorem led_out {y : List Rat} {p : List Nat} {r : Rat} {g : List Rat} {i : Nat} (h : i ∉ p) : (ledG y p r g).getD i 0 = g.getD i 0 := by
  induction p generalizing r g with
  | nil => rfl
  | cons j p ih =>
    have n1 : i ≠ j := fun z => h (by simp [z])
    rw [ledG, ih fun z => h (by simp [z])]
    simp [List.getD_eq_getElem?_getD, List.getElem?_set, Ne.symm n1]
theorem led_greedy {y : List Rat} (hy : Pos0 y) {p : List Nat} (hn : p.Nodup) {r : Rat} {g : List Rat} (hgl : g.length = y.length) (hp : ∀ j ∈ p, j < y.length) (h0 : 0 ≤ r) :
    (∀ j ∈ p, (ledG y p r g).getD j 0 ≤ y.getD j 0 ∧ (ledG y p r g).getD j 0 ≤ r) ∧ p.Pairwise fun j i => 0 < (ledG y p r g).getD i 0 → (ledG y p r g).getD j 0 = y.getD j 0 := by
  induction p generalizing r g with
  | nil => exact ⟨fun j hj => by simp at hj, List.Pairwise.nil⟩
  | cons j p ih =>
    have ⟨n1, n2⟩ := List.nodup_cons.mp hn
    have yj := getD_nonneg hy j
    have hjl := hp j (by simp)
    have i2 := ih n2 (r := r - (if r < y.getD j 0 then r else y.getD j 0)) (g := g.set j (if r < y.getD j 0 then r else y.getD j 0)) (by simpa using hgl) (fun k hk => hp k (by simp [hk])) (by split <;> grind)
    have ej : (ledG y (j :: p) r g).getD j 0 = (if r < y.getD j 0 then r else y.getD j 0) := by
      rw [ledG, led_out n1, getD_set (by omega)]
      simp
    refine ⟨fun k hk => ?_, List.pairwise_cons.mpr ⟨fun i hi hpos => ?_, i2.2⟩⟩
    · rcases List.mem_cons.mp hk with rfl | hk
      · rw [ej]
        split <;> constructor <;> grind
      · have := i2.1 k hk
        refine ⟨this.1, Rat.le_trans this.2 ?_⟩
        split <;> grind
    · rw [ej]
      have := (i2.1 i hi).2
      rw [ledG] at hpos
      by_cases c : r < y.getD j 0
      · rw [if_pos c] at this hpos
        grind
      · rw [if_neg c]
theorem pair_of {α : Type} {R : α → α → Prop} {p : List α} (h : p.Pairwise R) {a b : α} (ha : a ∈ p) (hb : b ∈ p) (ne : a ≠ b) : R a b ∨ R b a := by
  induction p with
  | nil => cases ha
  | cons c p ih =>
    have ⟨h1, h2⟩ := List.pairwise_cons.mp h
    rcases List.mem_cons.mp ha with rfl | ha
    · rcases List.mem_cons.mp hb with rfl | hb
      · exact absurd rfl ne
      · exact .inl (h1 b hb)
    · rcases List.mem_cons.mp hb with e | hb
      · exact .inr (e ▸ h1 a ha)
      · exact ih h2 ha hb
theorem getD_out {y : List Rat} {i : Nat} (h : ¬ i < y.length) : y.getD i 0 = 0 := by
  rw [List.getD_eq_getElem?_getD, List.getElem?_eq_none (by omega)]
  rfl
theorem led_order {y ts : List Rat} {a : Rat} (hy : Pos0 y) (hl : ts.length = y.length) (h0 : 0 ≤ a) : (∀ i, (ledQ y ts a).getD i 0 ≤ y.getD i 0) ∧ ∀ i j, 0 < (ledQ y ts a).getD i 0 → (ledQ y ts a).getD j 0 < y.getD j 0 → ts.getD j 0 ≤ ts.getD i 0 := by
  have P := fall_perm (ts := ts)
  rw [hl] at P
  have nd : (fallQ ts).Nodup := P.nodup_iff.mpr List.nodup_range
  have mem : ∀ i, i < y.length → i ∈ fallQ ts := fun i hi => P.mem_iff.mpr (List.mem_range.mpr hi)
  have G := led_greedy hy nd (r := a) (g := List.replicate y.length 0) (by simp) (fun j hj => List.mem_range.mp (P.mem_iff.mp hj)) h0
  have gl : (ledQ y ts a).length = y.length := by simp [ledQ, led_len]
  have le : ∀ i, (ledQ y ts a).getD i 0 ≤ y.getD i 0 := fun i => by
    by_cases c : i < y.length
    · exact (G.1 i (mem i c)).1
    · rw [getD_out c, getD_out (by omega)]
      exact Rat.le_refl
  refine ⟨le, fun i j hi hj => ?_⟩
  have il : i < y.length := Classical.byContradiction fun c => by rw [getD_out (by omega)] at hi; exact Rat.lt_irrefl hi
  have jl : j < y.length := Classical.byContradiction fun c => by
    rw [getD_out c, getD_out (by omega)] at hj; exact Rat.lt_irrefl hj
  by_cases e : i = j
  · rw [e]; exact Rat.le_refl
  · rcases pair_of (G.2.and fall_sorted) (mem i il) (mem j jl) e with q | q
    · exact q.2
    · have := q.1 hi
      unfold ledQ at hj
      rw [this] at hj
      exact absurd hj Rat.lt_irrefl
theorem tms_getD {L : List Ln} {y : List Rat} {i : Nat} (hy : y.length = L.length) (hi : i < L.length) : ∃ x, L[i]? = some x ∧ (tmsQ L y).getD i 0 = x.1 * y.getD i 0 + x.2 := by
  induction L generalizing y i with
  | nil => simp at hi
  | cons x L ih => cases y with
    | nil => cases hy
    | cons v y => cases i with
      | zero => exact ⟨x, rfl, by simp [tmsQ]⟩
      | succ i =>
        obtain ⟨w, h1, h2⟩ := ih (y := y) (i := i) (by simpa using hy) (by simpa using hi)
        exact ⟨w, by simpa using h1, by simpa [tmsQ] using h2⟩
theorem left_get {L : List Ln} {g z : List Rat} {t : Rat} (hl : g.length = L.length) (h : RestQ (leftQ L g) z t) {i : Nat} {x : Ln} (hx : L[i]? = some x) :
    0 ≤ z.getD i 0 ∧ t ≤ x.1 * (g.getD i 0 + z.getD i 0) + x.2 ∧ (0 < z.getD i 0 → x.1 * (g.getD i 0 + z.getD i 0) + x.2 = t) := by
  induction L generalizing g z i with
  | nil => simp at hx
  | cons w L ih => cases g with
    | nil => cases hl
    | cons f g => cases z with
      | nil => exact h.elim
      | cons q z => cases i with
        | zero =>
          cases hx
          obtain ⟨h1, h2, h3, _⟩ := h
          simp only at h2 h3
          refine ⟨h1, ?_, fun c => ?_⟩
          · simp only [List.getD_cons_zero]; grind
          · have := h3 c
            simp only [List.getD_cons_zero]; grind
        | succ i => exact ih (g := g) (z := z) (i := i) (by simpa using hl) h.2.2.2 (by simpa using hx)
theorem zip_sum : ∀ {g z : List Rat}, g.length = z.length → sumQ (List.zipWith (· + ·) g z) = sumQ g + sumQ z
  | [], [], _ => by simp only [List.zipWith_nil_left, sumQ]; grind
  | a :: g, b :: z, h => by
    have := zip_sum (g := g) (z := z) (by simpa using h)
    simp only [List.zipWith_cons_cons, sumQ, this]
    grind
  | [], _ :: _, h => by cases h
  | _ :: _, [], h => by cases h
theorem zip_getD : ∀ {g z : List Rat} {i : Nat}, g.length = z.length → (List.zipWith (· + ·) g z).getD i 0 = g.getD i 0 + z.getD i 0
  | [], [], i, _ => by simp only [List.zipWith_nil_left, List.getD_nil]; grind
  | a :: g, b :: z, 0, h => by simp
  | a :: g, b :: z, i + 1, h => by
    have := zip_getD (g := g) (z := z) (i := i) (by simpa using h)
    simpa using this
  | [], _ :: _, _, h => by cases h
  | _ :: _, [], _, h => by cases h
theorem led_bound {L : List Ln} {y z : List Rat} {t d σ : Rat} (hL : Lok L) (hy : Pos0 y) (yl : y.length = L.length) (ys : sumQ y = d) (s0 : 0 ≤ σ) (s1 : σ ≤ 1) (d0 : 0 ≤ d)
    (zl : z.length = L.length) (zs : sumQ z = d - σ * d) (h : RestQ (leftQ L (ledQ y (tmsQ L y) (σ * d))) z t) : σ * whQ L (List.zipWith (· + ·) (ledQ y (tmsQ L y) (σ * d)) z) ≤ whQ L y := by
  have tl : (tmsQ L y).length = y.length := by
    have : ∀ (L : List Ln) (y : List Rat), y.length = L.length → (tmsQ L y).length = y.length := by
      intro L
      induction L with
      | nil => intro y hy; cases y with
        | nil => rfl
        | cons _ _ => cases hy
      | cons x L ih => intro y hy; cases y with
        | nil => cases hy
        | cons v y => simp only [tmsQ, List.length_cons, ih y (by simpa using hy)]
    exact this L y yl
  have a0 : 0 ≤ σ * d := Rat.mul_nonneg s0 d0
  have a1 : σ * d ≤ sumQ y := by
    have := Rat.mul_nonneg (show 0 ≤ 1 - σ by grind) d0
    rw [ys]; grind
  obtain ⟨gp, gs, gl⟩ := led_all (ts := tmsQ L y) hy tl a0 a1
  obtain ⟨gle, ord⟩ := led_order (ts := tmsQ L y) (a := σ * d) hy tl a0
  generalize ledQ y (tmsQ L y) (σ * d) = g at gp gs gl gle ord h ⊢
  have gL : g.length = L.length := by omega
  have gz : g.length = z.length := by omega
  have hi : gsQ L g z ≤ whQ L y := by
    refine gs_high hL gL yl gp gle h fun i h1 h2 => ?_
    refine Classical.byContradiction fun c => ?_
    have il : i < L.length := Classical.byContradiction fun c => by rw [getD_out (by omega)] at h1; exact Rat.lt_irrefl h1
    obtain ⟨x, hx, ex⟩ := tms_getD yl il
    have fx := left_get gL h hx
    have e1 := fx.2.2 h2
    have x0 := scast (hL x (List.mem_of_getElem? hx)).1
    have up : y.getD i 0 < (List.zipWith (· + ·) g z).getD i 0 := by
      rw [zip_getD gz]
      refine Classical.byContradiction fun c2 => ?_
      have := Rat.mul_nonneg x0 (show 0 ≤ y.getD i 0 - (g.getD i 0 + z.getD i 0) by grind)
      rw [ex] at c
      grind
    obtain ⟨j, hj⟩ := sum_above (a := List.zipWith (· + ·) g z) (b := y) (by simp; omega) (by rw [zip_sum gz, gs, zs, ys]; grind) up
    rw [zip_getD gz] at hj
    have jl : j < L.length := Classical.byContradiction fun c => by
      rw [getD_out (y := y) (by omega), getD_out (y := g) (by omega), getD_out (y := z) (by omega)] at hj
      grind
    obtain ⟨w, hw, ew⟩ := tms_getD yl jl
    have fw := left_get gL h hw
    have w0 := scast (hL w (List.mem_of_getElem? hw)).1
    have o := ord i j h1 (by grind)
    have := Rat.mul_nonneg w0 (show 0 ≤ y.getD j 0 - (g.getD j 0 + z.getD j 0) by grind)
    rw [ew] at o
    grind
  have lo := gs_low gL gp h
  rw [gs_whole gL h, zs]
  rw [gs] at lo
  have := Rat.mul_nonneg (show 0 ≤ 1 - σ by grind) (show 0 ≤ gsQ L g z - t * (σ * d) by grind)
  grind
end Tr

namespace Tr
theorem lane_tangent_eq {s b y g l : Rat} (hs : 0 ≤ s) (hy : 0 ≤ y) (hg : 0 ≤ g) (h1 : l ≤ 2 * s * y + b) (h2 : 0 < y → 2 * s * y + b = l) (e : y * (s * y + b) + l * (g - y) = g * (s * g + b)) :
    l ≤ 2 * s * g + b ∧ (0 < g → 2 * s * g + b = l) := by
  have e1 : s * ((g - y) * (g - y)) + (2 * s * y + b - l) * (g - y) = 0 := by grind
  have sq : 0 ≤ (g - y) * (g - y) := by
    by_cases c : 0 ≤ g - y
    · exact Rat.mul_nonneg c c
    · have := Rat.mul_nonneg (show 0 ≤ y - g by grind) (show 0 ≤ y - g by grind)
      grind
  have p1 := Rat.mul_nonneg hs sq
  have p2 : 0 ≤ (2 * s * y + b - l) * (g - y) := by
    by_cases c : 0 < y
    · rw [h2 c]
      have : (l - l) * (g - y) = 0 := by grind
      rw [this]
      exact Rat.le_refl
    · have : y = 0 := by grind
      subst this
      exact Rat.mul_nonneg (by grind) (by grind)
  have z1 : s * ((g - y) * (g - y)) = 0 := by grind
  have z2 : (2 * s * y + b - l) * (g - y) = 0 := by grind
  have sg : s * (g - y) = 0 := by
    rcases Rat.mul_eq_zero.mp z1 with z | z
    · rw [z]; grind
    · rcases Rat.mul_eq_zero.mp z with z | z <;> rw [z] <;> grind
  have e2 : 2 * s * g + b = 2 * s * y + b := by grind
  rw [e2]
  refine ⟨h1, fun c => ?_⟩
  rcases Rat.mul_eq_zero.mp z2 with z | z
  · grind
  · have : g = y := by grind
    exact h2 (this ▸ c)
theorem best_tangent_eq {L : List Ln} {y g : List Rat} {l : Rat} (hL : Lok L) (h : RestQ (steepQ L) y l) (hg : Pos0 g) (hl : g.length = L.length) (e : whQ L y + l * (sumQ g - sumQ y) = whQ L g) : RestQ (steepQ L) g l := by
  induction L generalizing y g with
  | nil => cases g with
    | nil => exact trivial
    | cons _ _ => cases hl
  | cons x L ih => cases y with
    | nil => exact h.elim
    | cons f y => cases g with
      | nil => cases hl
      | cons q g =>
        have hx := hL x (by simp)
        have hL' : Lok L := fun x hx => hL x (by simp [hx])
        obtain ⟨h1, h2, h3, h4⟩ := h
        have c2 : ((2 * x.1 : Int) : Rat) = 2 * (x.1 : Rat) := by push_cast; rfl
        simp only [c2] at h2 h3
        have g0 := hg q (by simp)
        have gp : Pos0 g := fun v hv => hg v (by simp [hv])
        have t1 := lane_tangent (s := x.1) (b := x.2) (y := f) (g := q) (l := l) (scast hx.1) h1 g0 h2 h3
        have t2 := best_tangent hL' h4 gp (by simpa using hl)
        simp only [whQ, sumQ] at e
        have e1 : f * (x.1 * f + x.2) + l * (q - f) = q * (x.1 * q + x.2) := by grind
        have e2 : whQ L y + l * (sumQ g - sumQ y) = whQ L g := by grind
        have k := lane_tangent_eq (scast hx.1) h1 g0 h2 h3 e1
        refine ⟨g0, ?_, ?_, ih hL' h4 gp (by simpa using hl) e2⟩
        · simp only [c2]; exact k.1
        · simp only [c2]; exact k.2
theorem best_iff {L : List Ln} {y g : List Rat} {l : Rat} (hL : Lok L) (h : RestQ (steepQ L) y l) (hg : Pos0 g) (hl : g.length = L.length) (hs : sumQ g = sumQ y) : whQ L g = whQ L y ↔ ∃ m, RestQ (steepQ L) g m := by
  constructor
  · intro e
    refine ⟨l, best_tangent_eq hL h hg hl ?_⟩
    rw [e, hs]
    grind
  · rintro ⟨m, hm⟩
    have yl : y.length = L.length := by rw [h.len]; simp [steepQ]
    exact Rat.le_antisymm (best_least hL hm h.pos yl hs.symm) (best_least hL h hg hl hs)
theorem rest_least {L : List Ln} {z : List Rat} {t : Rat} (hz : Pos0 z) (hl : z.length = L.length) (h1 : ∀ q ∈ tmsQ L z, t ≤ q) (h2 : ∀ i, 0 < z.getD i 0 → (tmsQ L z).getD i 0 = t) : RestQ L z t := by
  induction L generalizing z with
  | nil => cases z with
    | nil => exact trivial
    | cons _ _ => cases hl
  | cons x L ih => cases z with
    | nil => cases hl
    | cons q z =>
      refine ⟨hz q (by simp), h1 _ (by simp [tmsQ]), fun c => ?_, ih (fun v hv => hz v (by simp [hv])) (by simpa using hl) (fun v hv => h1 v (by simp [tmsQ, hv])) fun i hi => ?_⟩
      · have := h2 0 (by simpa using c)
        simpa [tmsQ] using this
      · have := h2 (i + 1) (by simpa using hi)
        simpa [tmsQ] using this
theorem rest_facts {L : List Ln} {z : List Rat} {t : Rat} (h : RestQ L z t) : (∀ q ∈ tmsQ L z, t ≤ q) ∧ ∀ i, 0 < z.getD i 0 → (tmsQ L z).getD i 0 = t := by
  induction L generalizing z with
  | nil => cases z with
    | nil => exact ⟨fun q hq => by simp [tmsQ] at hq, fun i hi => by simp at hi⟩
    | cons _ _ => exact h.elim
  | cons x L ih => cases z with
    | nil => exact h.elim
    | cons q z =>
      obtain ⟨h0, h1, h2, h3⟩ := h
      obtain ⟨a, b⟩ := ih h3
      refine ⟨fun v hv => ?_, fun i hi => ?_⟩
      · simp only [tmsQ, List.mem_cons] at hv
        rcases hv with rfl | hv
        · exact h1
        · exact a v hv
      · cases i with
        | zero => simpa [tmsQ] using h2 (by simpa using hi)
        | succ i => simpa [tmsQ] using b i (by simpa using hi)
theorem used_of {z : List Rat} (hz : Pos0 z) (h : 0 < sumQ z) : ∃ i, i < z.length ∧ 0 < z.getD i 0 := by
  induction z with
  | nil => exact absurd h Rat.lt_irrefl
  | cons q z ih =>
    by_cases c : 0 < q
    · exact ⟨0, by simp, by simpa using c⟩
    · have q0 := hz q (by simp)
      have : 0 < sumQ z := by simp only [sumQ] at h; grind
      obtain ⟨i, hi, hp⟩ := ih (fun v hv => hz v (by simp [hv])) this
      exact ⟨i + 1, by simpa using hi, by simpa using hp⟩
def leastQ (ts : List Rat) : Rat := ts.foldl (fun m q => if q < m then q else m) (ts.headD 0)
theorem least_fold {ts : List Rat} {m : Rat} : (ts.foldl (fun m q => if q < m then q else m) m ≤ m ∧ ∀ q ∈ ts, ts.foldl (fun m q => if q < m then q else m) m ≤ q) ∧ (ts.foldl (fun m q => if q < m then q else m) m = m ∨ ts.foldl (fun m q => if q < m then q else m) m ∈ ts) := by
  induction ts generalizing m with
  | nil => exact ⟨⟨Rat.le_refl, fun q hq => by simp at hq⟩, .inl rfl⟩
  | cons a ts ih =>
    simp only [List.foldl_cons]
    obtain ⟨⟨h1, h2⟩, h3⟩ := ih (m := if a < m then a else m)
    refine ⟨⟨?_, fun q hq => ?_⟩, ?_⟩
    · split at h1 <;> grind
    · rcases List.mem_cons.mp hq with rfl | hq
      · split at h1 <;> grind
      · exact h2 q hq
    · rcases h3 with h3 | h3
      · rw [h3]
        split
        · exact .inr (by simp)
        · exact .inl rfl
      · exact .inr (by simp [h3])
theorem leastQ_spec {ts : List Rat} (h : ts ≠ []) : (∀ q ∈ ts, leastQ ts ≤ q) ∧ leastQ ts ∈ ts := by
  cases ts with
  | nil => exact absurd rfl h
  | cons a ts =>
    unfold leastQ
    obtain ⟨⟨h1, h2⟩, h3⟩ := least_fold (ts := a :: ts) (m := (a :: ts).headD 0)
    refine ⟨h2, ?_⟩
    rcases h3 with h3 | h3
    · rw [h3]; simp
    · exact h3
theorem rest_iff {L : List Ln} {z : List Rat} (hz : Pos0 z) (hl : z.length = L.length) (hs : 0 < sumQ z) : (∀ i, 0 < z.getD i 0 → (tmsQ L z).getD i 0 = leastQ (tmsQ L z)) ↔ ∃ t, RestQ L z t := by
  have tl : ∀ (L : List Ln) (y : List Rat), y.length = L.length → (tmsQ L y).length = y.length := by
    intro L
    induction L with
    | nil => intro y hy; cases y with
      | nil => rfl
      | cons _ _ => cases hy
    | cons x L ih => intro y hy; cases y with
      | nil => cases hy
      | cons v y => simp only [tmsQ, List.length_cons, ih y (by simpa using hy)]
  have tl := tl L z hl
  obtain ⟨i, hi, hp⟩ := used_of hz hs
  have ne : tmsQ L z ≠ [] := fun e => by rw [e] at tl; simp at tl; omega
  obtain ⟨a, b⟩ := leastQ_spec ne
  constructor
  · intro h
    exact ⟨_, rest_least hz hl a h⟩
  · rintro ⟨t, ht⟩ j hj
    obtain ⟨f1, f2⟩ := rest_facts ht
    have e1 : t = leastQ (tmsQ L z) := by
      refine Rat.le_antisymm (f1 _ b) ?_
      rw [← f2 i hp]
      refine a _ ?_
      rw [List.getD_eq_getElem?_getD, List.getElem?_eq_getElem (by omega)]
      exact List.getElem_mem _
    rw [← e1]
    exact f2 j hj
def topQ (ts : List Rat) : List Nat → Nat
  | [] => 0
  | j :: p => p.foldl (fun a k => if ts.getD k 0 < ts.getD a 0 then a else k) j
def selQ (ts : List Rat) : Nat → List Nat → List Nat
  | 0, _ => []
  | _ + 1, [] => []
  | n + 1, j :: p => topQ ts (j :: p) :: selQ ts n ((j :: p).filter fun k => decide (k ≠ topQ ts (j :: p)))
def Slow (ts : List Rat) (a b : Nat) : Prop := ts.getD b 0 < ts.getD a 0 ∨ (ts.getD b 0 = ts.getD a 0 ∧ b < a)
theorem fall_strict {ts : List Rat} : (fallQ ts).Pairwise (Slow ts) := by
  unfold fallQ
  generalize ts.length = n
  have key : ((List.range n).foldl (insF ts) []).Pairwise (Slow ts) ∧ ∀ j ∈ (List.range n).foldl (insF ts) [], j < n := by
    induction n with
    | zero => exact ⟨List.Pairwise.nil, fun j hj => by simp at hj⟩
    | succ n ih =>
      obtain ⟨i1, i2⟩ := ih
      refine ⟨?_, fun j hj => ?_⟩
      · rw [List.range_succ, List.foldl_append]
        simp only [List.foldl_cons, List.foldl_nil]
        generalize (List.range n).foldl (insF ts) [] = p at i1 i2
        have i1' : p.Pairwise fun a b => ts.getD b 0 ≤ ts.getD a 0 := i1.imp fun h => by rcases h with h | h <;> grind
        unfold insF
        rw [(fall_split i1').1, (fall_split i1').2]
        refine List.pairwise_append.mpr ⟨i1.filter _, List.pairwise_cons.mpr ⟨fun b hb => ?_, i1.filter _⟩, fun a ha b hb => ?_⟩
        · have hb' := List.mem_filter.mp hb
          have := hb'.2
          simp only [Bool.not_eq_true', decide_eq_false_iff_not] at this
          have := i2 b hb'.1
          unfold Slow
          by_cases c : ts.getD b 0 < ts.getD n 0
          · exact .inl c
          · exact .inr ⟨by grind, this⟩
        · have ha := (List.mem_filter.mp ha).2
          simp only [decide_eq_true_eq] at ha
          rcases List.mem_cons.mp hb with rfl | hb
          · exact .inl ha
          · have hb := (List.mem_filter.mp hb).2
            simp only [Bool.not_eq_true', decide_eq_false_iff_not] at hb
            exact .inl (by grind)
      · have P := fall_perm_aux (ts := ts) (n + 1)
        exact List.mem_range.mp (P.mem_iff.mp hj)
  exact key.1
theorem top_fold {ts : List Rat} {p : List Nat} {a : Nat} (hp : (a :: p).Pairwise (· < ·)) :
    (p.foldl (fun a k => if ts.getD k 0 < ts.getD a 0 then a else k) a ∈ a :: p) ∧ ∀ k ∈ a :: p, k ≠ p.foldl (fun a k => if ts.getD k 0 < ts.getD a 0 then a else k) a → Slow ts (p.foldl (fun a k => if ts.getD k 0 < ts.getD a 0 then a else k) a) k := by
  induction p generalizing a with
  | nil => exact ⟨by simp, fun k hk ne => absurd (by simpa using hk) ne⟩
  | cons b p ih =>
    have ⟨h1, h2⟩ := List.pairwise_cons.mp hp
    have ⟨h3, h4⟩ := List.pairwise_cons.mp h2
    simp only [List.foldl_cons]
    by_cases c : ts.getD b 0 < ts.getD a 0
    · rw [if_pos c]
      have i := ih (a := a) (List.pairwise_cons.mpr ⟨fun k hk => h1 k (by simp [hk]), h4⟩)
      refine ⟨?_, fun k hk ne => ?_⟩
      · rcases List.mem_cons.mp i.1 with e | e
        · rw [e]; simp
        · exact List.mem_cons_of_mem _ (List.mem_cons_of_mem _ e)
      · rcases List.mem_cons.mp hk with rfl | hk
        · exact i.2 k (by simp) ne
        · rcases List.mem_cons.mp hk with rfl | hk
          · by_cases e : a = p.foldl (fun a k => if ts.getD k 0 < ts.getD a 0 then a else k) a
            · rw [← e]; exact .inl c
            · have := i.2 a (by simp) e
              rcases this with q | q
              · exact .inl (by grind)
              · exact .inl (by grind)
          · exact i.2 k (by simp [hk]) ne
    · rw [if_neg c]
      have i := ih (a := b) h2
      refine ⟨List.mem_cons_of_mem _ i.1, fun k hk ne => ?_⟩
      rcases List.mem_cons.mp hk with rfl | hk
      · have ab := h1 b (by simp)
        by_cases e : b = p.foldl (fun a k => if ts.getD k 0 < ts.getD a 0 then a else k) b
        · rw [← e]
          by_cases c2 : ts.getD k 0 < ts.getD b 0
          · exact .inl c2
          · exact .inr ⟨by grind, ab⟩
        · rcases i.2 b (by simp) e with q | q
          · exact .inl (by grind)
          · by_cases c2 : ts.getD k 0 < ts.getD b 0
            · exact .inl (by grind)
            · exact .inr ⟨by grind, by omega⟩
      · exact i.2 k hk ne
theorem top_spec {ts : List Rat} {p : List Nat} (hp : p.Pairwise (· < ·)) (ne : p ≠ []) : topQ ts p ∈ p ∧ ∀ k ∈ p, k ≠ topQ ts p → Slow ts (topQ ts p) k := by
  cases p with
  | nil => exact absurd rfl ne
  | cons a p => exact top_fold hp
theorem sel_spec {ts : List Rat} : ∀ (n : Nat) (p : List Nat), p.Pairwise (· < ·) → p.length ≤ n → (selQ ts n p).Perm p ∧ (selQ ts n p).Pairwise (Slow ts)
  | 0, p, _, h => by
    have : p = [] := List.eq_nil_of_length_eq_zero (by omega)
    subst this
    exact ⟨.refl _, List.Pairwise.nil⟩
  | n + 1, [], _, _ => ⟨.refl _, List.Pairwise.nil⟩
  | n + 1, a :: p, hp, h => by
    obtain ⟨m, s⟩ := top_spec (ts := ts) hp (by simp)
    have nd : (a :: p).Nodup := hp.imp fun h => by omega
    rw [selQ]
    generalize topQ ts (a :: p) = t at m s
    have hl : ((a :: p).filter fun k => decide (k ≠ t)).length ≤ n := by
      have : ((a :: p).filter fun k => decide (k ≠ t)).length < (a :: p).length := List.length_filter_lt_length_iff_exists.mpr ⟨t, m, by simp⟩
      omega
    obtain ⟨i1, i2⟩ := sel_spec n ((a :: p).filter fun k => decide (k ≠ t)) (hp.filter _) hl
    refine ⟨?_, List.pairwise_cons.mpr ⟨fun k hk => ?_, i2⟩⟩
    · refine (List.Perm.cons t i1).trans ?_
      have e : (a :: p).filter (fun k => decide (k ≠ t)) = (a :: p).erase t := by
        rw [nd.erase_eq_filter]
        congr 1
        funext k
        by_cases c : k = t <;> simp [c]
      rw [e]
      exact (List.perm_cons_erase m).symm
    · have := List.mem_filter.mp (i1.mem_iff.mp hk)
      exact s k this.1 (by simpa using this.2)
theorem sel_fall {ts : List Rat} : selQ ts ts.length (List.range ts.length) = fallQ ts := by
  obtain ⟨i1, i2⟩ := sel_spec (ts := ts) ts.length (List.range ts.length) List.pairwise_lt_range (by simp)
  refine (i1.trans (fall_perm (ts := ts)).symm).eq_of_pairwise (fun a b _ _ h1 h2 => ?_) i2 fall_strict
  unfold Slow at h1 h2
  rcases h1 with h1 | h1 <;> rcases h2 with h2 | h2
  · grind
  · grind
  · grind
  · omega
end Tr

namespace Tr
open PySem PySem.Spec L2
variable [ProtC]
section
variable {k : D → Prop} {w : Exn → Prop} {L : List Ln} {t d : Rat} {n S Bb Bt Bd : Nat}
def lnD (x : Ln) : D := .tuple [.int x.1, rD x.2]
structure LOk (L : List Ln) (n S Bb : Nat) : Prop where
  len : L.length ≤ n
  sl : ∀ x ∈ L, 0 ≤ x.1 ∧ x.1.natAbs < 2 ^ S
  bs : ∀ x ∈ L, RB x.2 Bb
theorem rb_zero {B : Nat} (h : 0 < B) : RB (0 : Rat) B := rb_int (a := 0) (Nat.two_pow_pos _) h
theorem rat_pos_int {s : Int} (h : 0 < s) : (0 : Rat) < (s : Rat) := by exact_mod_cast h
theorem fL_rb {x : Ln} (h1 : 0 ≤ x.1 ∧ x.1.natAbs < 2 ^ S) (h2 : RB x.2 Bb) (ht : RB t Bt) (hS : 0 < S) : RB (fL x t) (Bt + Bb + 1 + S) := by
  unfold fL
  split
  · rename_i c
    exact (ht.sub' h2).div' (rat_pos_int c.1) (rb_int h1.2 hS)
  · exact rb_zero (by omega)
theorem rL_rb {x : Ln} (h1 : 0 ≤ x.1 ∧ x.1.natAbs < 2 ^ S) (hS : 0 < S) : RB (rL x t) (S + 1) := by
  unfold rL
  split
  · rename_i c
    have : RB (1 / (x.1 : Rat)) (1 + S) := RB.div' (p := 1) (rat_pos_int c.1) (rb_int (a := 1) (by decide) (by omega)) (rb_int h1.2 hS)
    exact this.mono (by omega)
  · exact rb_zero (by omega)
theorem tk_rb (h : LOk L n S Bb) (ht : RB t Bt) (hS : 0 < S) : RB (tkQ L t) (L.length * (Bt + Bb + S + 2) + 1) := by
  have h1 := h.sl
  have h2 := h.bs
  clear h
  induction L with
  | nil => exact rb_zero (by omega)
  | cons x L ih =>
    have a := fL_rb (h1 x (by simp)) (h2 x (by simp)) ht hS
    have b := ih (fun y hy => h1 y (by simp [hy])) (fun y hy => h2 y (by simp [hy]))
    have := a.add' b
    refine this.mono ?_
    rw [List.length_cons, Nat.add_mul]
    omega
theorem rt_rb (h : LOk L n S Bb) (hS : 0 < S) : RB (rtQ L t) (L.length * (S + 2) + 1) := by
  have h1 := h.sl
  clear h
  induction L with
  | nil => exact rb_zero (by omega)
  | cons x L ih =>
    have a := rL_rb (t := t) (h1 x (by simp)) hS
    have b := ih (fun y hy => h1 y (by simp [hy]))
    have := a.add' b
    refine this.mono ?_
    rw [List.length_cons, Nat.add_mul]
    omega
theorem tk_snoc {L : List Ln} {x : Ln} : tkQ (L ++ [x]) t = tkQ L t + fL x t := by
  induction L with
  | nil => simp only [List.nil_append, tkQ]; grind
  | cons y L ih => simp only [List.cons_append, tkQ, ih]; grind
theorem LOk.pre {L : List Ln} (h : LOk L n S Bb) {a : List Ln} {x : Ln} {b : List Ln} (e : L = a ++ x :: b) : LOk a n S Bb ∧ a.length < L.length ∧ x ∈ L := by
  subst e
  exact ⟨⟨by have := h.len; simp at this; omega, fun y hy => h.sl y (by simp [hy]), fun y hy => h.bs y (by simp [hy])⟩, by simp, by simp⟩
theorem taken_at_run (h : LOk L n S Bb) (ht : RB t Bt) (hS : 0 < S) (hB : (L.length + 1) * (Bt + Bb + S + 2) + 1 < 300000) (hm : Bt + Bb + S + 2 < 4000) (hk : RB (tkQ L t) (L.length * (Bt + Bb + S + 2) + 1) → k (rD (tkQ L t))) : (f_taken_at [.d (.list (L.map lnD)), .d (rD t)]).run k w := by
  simp [f_taken_at, b_taken_at, dStart, arSl]
  refine ⟨two_le_line, loop_pre (fun pre δ => ∃ s3 s4, δ = [Sl.p (PyData.list (List.map lnD L)), Sl.p (rD t), Sl.p (rD (tkQ pre t)), s3, s4]) ⟨_, _, rfl⟩ ?_ ?_⟩
  · rintro pre x post δ e ⟨s3, s4, rfl⟩
    obtain ⟨h1, h2, h3⟩ := h.pre e
    have rb := tk_rb h1 ht hS
    have l1 : (pre.length + 1) * (Bt + Bb + S + 2) ≤ L.length * (Bt + Bb + S + 2) := Nat.mul_le_mul_right _ (by omega)
    rw [Nat.add_mul] at hB l1
    refine ⟨_, rfl, ?_⟩
    by_cases c : 0 < x.1
    · simp [c]
      refine less_run' (h.bs x h3) ht (by omega) ?_
      by_cases c2 : x.2 < t
      · simp [c2]
        refine minus_run' ht (h.bs x h3) (by omega) fun m => ⟨two_le_line, ?_⟩
        rw [rD_int]
        refine over_run' (rat_pos_int c) m (rb_int (h.sl x h3).2 hS) (by omega) fun o => ?_
        refine plus_runG rb o (by omega) (by omega) fun _ => ?_
        rw [tk_snoc]
        simp [fL, c, c2]
      · simp [c2]
        rw [tk_snoc]
        simp [fL, c, c2, Rat.add_zero]
    · simp [c]
      rw [tk_snoc]
      simp [fL, c, Rat.add_zero]
  · rintro δ ⟨s3, s4, rfl⟩
    simp
    exact hk (tk_rb h ht hS)
theorem sortedq_run {s : List Rat} {B : Nat} (h : ∀ q ∈ s, RB q B) (hl : s.length < 1000) (hB : B < 4000) (hk : k (.list ((sortQ s).map rD))) : (f_sorted_ratios [.d (.list (s.map rD))]).run k w := by
  simp [f_sorted_ratios, b_sorted_ratios, dStart, arSl]
  refine loop_pre (fun pre δ => ∃ s2 s3 s4, δ = [Sl.p (PyData.list (List.map rD s)), Sl.p (.list ((sortQ pre).map rD)), s2, s3, s4]) ⟨_, _, _, rfl⟩ ?_ ?_
  · rintro pre x post δ e ⟨s2, s3, s4, rfl⟩
    have hm : ∀ y ∈ sortQ pre, RB y B := fun y hy => h y (by rw [e]; simp [mem_sort.mp hy])
    have hx : RB x B := h x (by rw [e]; simp)
    have hlen : (sortQ pre).length < 1000 := by rw [len_sort]; have := congrArg List.length e; simp at this; omega
    refine ⟨_, rfl, ?_⟩
    simp
    refine ⟨lt_line (by omega), lc_run (p := fun o => !decide (x < o)) (h := rD) (fun y hy => ⟨_, rfl, fun kb hkb => ?_, fun _ kd hkd => ?_⟩) ?_⟩
    · simp
      refine less_run' hx (hm y hy) (by omega) ?_
      simpa using hkb
    · simpa using hkd
    rw [cut_take, cut_drop, allD_map, List.length_map, rw_allD1, allD_only]
    simp
    refine ⟨lt_line (by omega), ?_⟩
    simp [sortQ, insQ]
  · rintro δ ⟨s2, s3, s4, rfl⟩
    simp
    exact hk
def optLD : Option Rat → D
  | none => .none
  | some m => rD m
theorem sum_snoc {s : List Rat} {q : Rat} : sumQ (s ++ [q]) = sumQ s + q := by
  induction s with
  | nil => simp only [List.nil_append, sumQ]; grind
  | cons y L ih => simp only [List.cons_append, sumQ, ih]; grind
theorem sum_rb {s : List Rat} {B : Nat} (h : ∀ q ∈ s, RB q B) : RB (sumQ s) (s.length * (B + 1) + 1) := by
  induction s with
  | nil => exact rb_zero (by omega)
  | cons q s ih =>
    have := (h q (by simp)).add' (ih fun y hy => h y (by simp [hy]))
    refine this.mono ?_
    rw [List.length_cons, Nat.add_mul]
    omega
theorem sum_run {s : List Rat} {B : Nat} (h : ∀ q ∈ s, RB q B) (hB : (s.length + 1) * (B + 1) + 1 < 300000) (hm : B < 4400) (hk : RB (sumQ s) (s.length * (B + 1) + 1) → k (rD (sumQ s))) : (f_sum_of [.d (.list (s.map rD))]).run k w := by
  simp [f_sum_of, b_sum_of, dStart, arSl]
  refine ⟨two_le_line, loop_pre (fun pre δ => ∃ s2, δ = [Sl.p (PyData.list (List.map rD s)), Sl.p (rD (sumQ pre)), s2]) ⟨_, rfl⟩ ?_ ?_⟩
  · rintro pre x post δ e ⟨s2, rfl⟩
    have rb := sum_rb (s := pre) (B := B) fun q hq => h q (by rw [e]; simp [hq])
    have l1 : (pre.length + 1) * (B + 1) ≤ s.length * (B + 1) := Nat.mul_le_mul_right _ (by rw [e]; simp)
    rw [Nat.add_mul] at hB l1
    refine ⟨_, rfl, ?_⟩
    simp
    refine plus_runG rb (h x (by rw [e]; simp)) (by omega) (by omega) fun _ => ?_
    rw [sum_snoc]
  · rintro δ ⟨s2, rfl⟩
    simp
    exact hk (sum_rb h)
theorem inv_rD {s : Int} (h : 0 < s) : PyData.tuple [.int 1, .int s] = rD (1 / (s : Rat)) := by
  have ⟨a, b⟩ := ratio_nd (t := 1) h
  simp at a b
  have e : ((1 : Int) : Rat) = 1 := rfl
  rw [rD, a, b]
theorem rt_sum {b : Rat} : rtQ L b = sumQ ((L.filter fun x => decide (0 < x.1) && !decide (b < x.2)).map fun x => 1 / (x.1 : Rat)) := by
  induction L with
  | nil => rfl
  | cons x L ih =>
    simp only [rtQ, ih, rL]
    by_cases c : 0 < x.1 ∧ x.2 ≤ b
    · have c2 : ¬ b < x.2 := by grind
      simp [c.1, c.2, c2, sumQ]
    · have : (decide (0 < x.1) && !decide (b < x.2)) = false := by
        simp
        intro z
        grind
      rw [if_neg c, List.filter_cons, this]
      simp [Rat.zero_add]
theorem enD_get' {ds : List D} {i : Nat} {d : D} (h : (enD ds)[i]? = some d) : ∃ x, ds[i]? = some x ∧ d = .tuple [.int i, x] := by
  unfold enD at h
  rw [List.getElem?_zipWith] at h
  by_cases c : i < ds.length
  · rw [List.getElem?_range c, List.getElem?_eq_getElem c] at h
    exact ⟨ds[i], List.getElem?_eq_getElem c, (Option.some.inj h).symm⟩
  · rw [List.getElem?_eq_none (by omega : ds.length ≤ i)] at h
    cases hh : (List.range ds.length)[i]? <;> rw [hh] at h <;> cases h
theorem level_run (h : LOk L n S Bb) (hL : L ≠ []) (hsl : ∀ x ∈ L, x.1 = 0 ∨ 0 < x.1) (hl : L.length < 1000) (hd : RB d Bd) (h0 : 0 < d) (hS : 0 < S) (hB : (L.length + 1) * (Bb + Bb + S + 2) + (L.length + 1) * (S + 3) + Bd + Bb + 10 < 2000)
    (hk : ∀ t, Lev L d t → RB t (Bb + (Bd + (L.length * (Bb + Bb + S + 2) + 1) + 1 + (L.length * (S + 2) + 1)) + 1) → (tkQ L t = d ∨ RB t Bb) → k (rD t)) : (f_level_of [.d (.list (L.map lnD)), .d (rD d)]).run k w := by
  have hB1 : L.length * (Bb + Bb + S + 2) + L.length * (S + 3) + Bd + Bb + 10 + (Bb + Bb + S + 2) + (S + 3) < 2000 := by
    have := Nat.add_mul L.length 1 (Bb + Bb + S + 2)
    have := Nat.add_mul L.length 1 (S + 3)
    omega
  have hB2 : L.length * (S + 2) ≤ L.length * (S + 3) := Nat.mul_le_mul_left _ (by omega)
  have fl : ∀ (p : Ln → Bool), ∀ q ∈ (L.filter p).map (·.2), RB q Bb := by
    intro p q hq
    simp at hq
    obtain ⟨a, hq, _⟩ := hq
    exact h.bs _ hq
  have fll : ∀ (p : Ln → Bool), ((L.filter p).map (·.2)).length < 1000 := by
    intro p
    have := List.length_filter_le p L
    simp
    omega
  simp only [f_level_of, rw_dRun, dStart, arSl, List.map_cons, List.map_nil]
  unfold b_level_of
  simp only [run_bind]
  refine seq_mid (fun δ => δ = [.p (.list (L.map lnD)), .p (rD d), .o (((L.filter fun x => decide (x.1 = 0)).map (·.2)).map rD), .non, .non, .non, .non, .non, .non, .non, .non, .non]) ?_ ?_
  · simp
    refine ⟨lt_line (by omega), lc_run (p := fun x => decide (x.1 = 0)) (h := fun x => rD x.2) (fun y hy => ⟨_, rfl, fun kb hkb => ?_, fun _ kd hkd => ?_⟩) ?_⟩
    · simpa using hkb
    · simpa using hkd
    · simp [Function.comp_def]
  rintro δ rfl
  simp only [rw_sFz]
  generalize hfl : ((L.filter fun x => decide (x.1 = 0)).map (·.2)) = fs
  have mfl : ∀ x ∈ L, x.1 = 0 → x.2 ∈ fs := by
    intro x hx hz
    rw [← hfl]
    exact List.mem_map.mpr ⟨x, List.mem_filter.mpr ⟨hx, by simp [hz]⟩, rfl⟩
  have mfl2 : ∀ q ∈ fs, ∃ x ∈ L, x.1 = 0 ∧ x.2 = q := by
    intro q hq
    rw [← hfl] at hq
    obtain ⟨x, hx, e⟩ := List.mem_map.mp hq
    have := List.mem_filter.mp hx
    exact ⟨x, this.1, by simpa using this.2, e⟩
  have rbf : ∀ q ∈ fs, RB q Bb := by rw [← hfl]; exact fl _
  have lfs : fs.length < 1000 := by rw [← hfl]; exact fll _
  clear hfl
  refine seq_mid (fun δ => ∃ m : Option Rat, δ = [.p (.list (L.map lnD)), .p (rD d), .p (.list (fs.map rD)), .non, .non, .p (optLD m), .non, .non, .non, .non, .non, .non] ∧ (match m with | none => ∀ x ∈ L, x.1 ≠ 0 | some m => RB m Bb ∧ (∃ x ∈ L, x.1 = 0 ∧ x.2 = m) ∧ ∀ x ∈ L, x.1 = 0 → m ≤ x.2)) ?_ ?_
  · simp
    by_cases c : fs = []
    · simp [c]
      refine ⟨none, rfl, fun a b hx hz => ?_⟩
      have := mfl _ hx hz
      rw [c] at this
      cases this
    · simp [c]
      refine sortedq_run rbf (by omega) (by omega) ?_
      have hne : 0 < (sortQ fs).length := by rw [len_sort]; exact List.length_pos_iff.mpr c
      obtain ⟨m, hm⟩ : ∃ m, (sortQ fs)[0]? = some m := ⟨_, List.getElem?_eq_getElem hne⟩
      have hmm : m ∈ fs := mem_sort.mp (List.mem_of_getElem? hm)
      have : atI (List.map rD (sortQ fs)) 0 = some (rD m) := by
        rw [show (0 : Int) = ((0 : Nat) : Int) from rfl, atI_nat, List.getElem?_map, hm]
        rfl
      simp [this]
      refine ⟨some m, rfl, rbf m hmm, ?_, fun a b hx hz => ?_⟩
      · obtain ⟨x, hx, h1, h2⟩ := mfl2 m hmm
        have e : x = (0, m) := Prod.ext h1 h2
        exact e ▸ hx
      · exact srt_head (srt_sort fs) hm (mem_sort.mpr (mfl _ hx hz))
  rintro δ ⟨m, rfl, hm⟩
  refine seq_mid (fun δ => δ = [.p (.list (L.map lnD)), .p (rD d), .p (.list (fs.map rD)), .non, .non, .p (optLD m), .p (.list ((sortQ ((L.filter fun x => decide (0 < x.1)).map (·.2))).map rD)), .non, .non, .non, .non, .non]) ?_ ?_
  · simp
    refine ⟨lt_line (by omega), lc_run (p := fun x => decide (0 < x.1)) (h := fun x => rD x.2) (fun y hy => ⟨_, rfl, fun kb hkb => ?_, fun _ kd hkd => ?_⟩) ?_⟩
    · simpa using hkb
    · simpa using hkd
    · rw [show ((L.filter fun x => decide (0 < x.1)).map fun x => rD x.2) = ((L.filter fun x => decide (0 < x.1)).map (·.2)).map rD by simp [Function.comp_def]]
      refine sortedq_run (fl _) (fll _) (by omega) ?_
      simp
  rintro δ rfl
  generalize hbs : sortQ ((L.filter fun x => decide (0 < x.1)).map (·.2)) = bs
  have sbs : Srt bs := by rw [← hbs]; exact srt_sort _
  have mbs : ∀ x ∈ L, 0 < x.1 → x.2 ∈ bs := by
    intro x hx hz
    rw [← hbs, mem_sort]
    exact List.mem_map.mpr ⟨x, List.mem_filter.mpr ⟨hx, by simp [hz]⟩, rfl⟩
  have mbs2 : ∀ q ∈ bs, ∃ x ∈ L, 0 < x.1 ∧ x.2 = q := by
    intro q hq
    rw [← hbs, mem_sort] at hq
    obtain ⟨x, hx, e⟩ := List.mem_map.mp hq
    have := List.mem_filter.mp hx
    exact ⟨x, this.1, by simpa using this.2, e⟩
  have rbb : ∀ q ∈ bs, RB q Bb := fun q hq => by
    obtain ⟨x, hx, _, e⟩ := mbs2 q hq
    exact e ▸ h.bs x hx
  clear hbs
  rw [rw_seq, rw_for, rw_iEnD]
  simp only [run_bind, rw_dV, List.getElem?_cons_succ, List.getElem?_cons_zero, slotP_p, pure_bind, rw_seqL]
  refine loop_inv (fun i δ => (i = 0 ∨ i < bs.length) ∧ (∀ b, bs[i]? = some b → tkQ L b < d) ∧ ∃ s3 s4 s7 s8 s9 s10 s11, δ = [.p (.list (L.map lnD)), .p (rD d), .p (.list (fs.map rD)), s3, s4, .p (optLD m), .p (.list (bs.map rD)), s7, s8, s9, s10, s11]) ⟨.inl rfl, fun b hb => ?_, _, _, _, _, _, _, _, rfl⟩ ?_ ?_
  · rw [tk_zero fun x hx hp => srt_head sbs hb (mbs x hx hp)]
    exact h0
  · rintro i δ e he ⟨hi, hlt, s3, s4, s7, s8, s9, s10, s11, rfl⟩
    obtain ⟨x, hx, rfl⟩ := enD_get' he
    rw [List.getElem?_map] at hx
    obtain ⟨b, hb, rfl⟩ : ∃ b, bs[i]? = some b ∧ x = rD b := by
      cases hh : bs[i]? <;> rw [hh] at hx <;> cases hx
      exact ⟨_, rfl, rfl⟩
    have hbm := List.mem_of_getElem? hb
    have hil : i < bs.length := by
      obtain ⟨hl, _⟩ := List.getElem?_eq_some_iff.mp hb
      exact hl
    obtain ⟨xb, hxb, hxb0, hxb1⟩ := mbs2 b hbm
    refine ⟨_, rfl, ?_⟩
    refine seq_mid (fun δ => ∃ lt : Option Rat, δ = [.p (.list (L.map lnD)), .p (rD d), .p (.list (fs.map rD)), s3, .p (rD b), .p (optLD m), .p (.list (bs.map rD)), .p (.int i), .p (optLD lt), s9, s10, s11] ∧ lt = bs[i + 1]?) ?_ ?_
    · simp
      by_cases c : i + 1 < bs.length
      · have c' : (i : Int) + 1 < bs.length := by omega
        simp [c']
        have e1 : atI (List.map rD bs) ((i : Int) + 1) = some (rD bs[i + 1]) := by
          rw [show (i : Int) + 1 = ((i + 1 : Nat) : Int) by omega, atI_nat, List.getElem?_map, List.getElem?_eq_getElem c]
          rfl
        simp [e1, List.getElem?_eq_getElem c, optLD]
      · have c' : ¬ (i : Int) + 1 < bs.length := by omega
        simp [c', List.getElem?_eq_none (Nat.le_of_not_lt c), optLD]
    rintro δ ⟨lt, rfl, hlt'⟩
    have fin : (match lt with | none => ∀ y ∈ L, 0 < y.1 → y.2 ≤ b | some u => b ≤ u ∧ d ≤ tkQ L u ∧ Free L b u) → (sSeq (sSet 9 (dCall 1 f_sum_of (aCons (dNl (nLc (iSeqD (dV 0)) (bTup 2 (bCons (bName 3) (bCons (bName 10) bNil))) (tAnd2 (tBv (d2 dGt (dV 3) (dC (.int 0)))) (tNotV (tT (dCall 2 f_less (aCons (dV 4) (aCons (dV 10) aNil)))))) (dTup (aCons (dC (.int 1)) (aCons (dV 3) aNil))) ([3, 10] : List Nat))) aNil))) (sSeq (sSet 11 (dCall 2 f_plus (aCons (dV 4) (aCons (dCall 2 f_over (aCons (dCall 2 f_minus (aCons (dV 1) (aCons (dCall 2 f_taken_at (aCons (dV 0) (aCons (dV 4) aNil))) aNil))) (aCons (dV 9) aNil))) aNil)))) (sRet (dIf (tOr2 (tBv (d2 dIs (dV 5) (dC .none))) (tT (dCall 2 f_less (aCons (dV 11) (aCons (dV 5) aNil))))) (dV 11) (dV 5)))) [.p (.list (L.map lnD)), .p (rD d), .p (.list (fs.map rD)), s3, .p (rD b), .p (optLD m), .p (.list (bs.map rD)), .p (.int i), .p (optLD lt), s9, s10, s11]).run (fun o => ∃ t, o = .rt (rD t) ∧ Lev L d t ∧ RB t (Bb + (Bd + (L.length * (Bb + Bb + S + 2) + 1) + 1 + (L.length * (S + 2) + 1)) + 1) ∧ (tkQ L t = d ∨ RB t Bb)) w := by
      intro hfr
      obtain ⟨ht1, ht2⟩ := lev_time (lt := lt) (hlt b hb) hxb hxb0 hxb1 (by cases lt <;> exact hfr)
      have rt0 := rt_pos hxb hxb0 (show xb.2 ≤ b by grind)
      have rbt := rt_rb (t := b) h hS
      have rbk := tk_rb (t := b) h (rbb b hbm) hS
      simp
      refine ⟨lt_line (by omega), lc_run (p := fun x => decide (0 < x.1) && !decide (b < x.2)) (h := fun x => .tuple [.int 1, .int x.1]) (fun y hy => ⟨_, rfl, fun kb hkb => ?_, fun _ kd hkd => ?_⟩) ?_⟩
      · by_cases c : 0 < y.1
        · simp [c]
          refine less_run' (rbb b hbm) (h.bs y hy) (by omega) ?_
          simpa [c] using hkb
        · simpa [c] using hkb
      · simp
        exact ⟨two_le_line, hkd⟩
      have e1 : ((L.filter fun x => decide (0 < x.1) && !decide (b < x.2)).map fun x => PyData.tuple [.int 1, .int x.1]) = ((L.filter fun x => decide (0 < x.1) && !decide (b < x.2)).map fun x => 1 / (x.1 : Rat)).map rD := by
        rw [List.map_map]
        refine List.map_congr_left fun x hx => ?_
        simp at hx
        exact inv_rD hx.2.1
      rw [e1]
      have hlen := List.length_filter_le (fun x : Ln => decide (0 < x.1) && !decide (b < x.2)) L
      have hlm : ((L.filter fun x => decide (0 < x.1) && !decide (b < x.2)).length + 1) * (S + 1 + 1) ≤ (L.length + 1) * (S + 2) := Nat.mul_le_mul_right _ (by omega)
      have hlm2 : (L.length + 1) * (S + 2) = L.length * (S + 2) + 1 * (S + 2) := Nat.add_mul _ _ _
      refine sum_run (B := S + 1) (fun q hq => ?_) (by rw [List.length_map]; omega) (by omega) ?_
      · obtain ⟨a, ha', rfl⟩ := List.mem_map.mp hq
        have ha := (List.mem_filter.mp ha').1
        have ha1 : 0 < a.1 := by have := (List.mem_filter.mp ha').2; simp at this; exact this.1
        have := RB.div' (p := 1) (a := 1) (b := S) (rat_pos_int ha1) (rb_int (a := 1) (by decide) (by omega)) (rb_int (h.sl _ ha).2 hS)
        exact this.mono (by omega)
      rw [← rt_sum]
      intro _
      refine taken_at_run h (rbb b hbm) hS (by have := Nat.add_mul L.length 1 (Bb + Bb + S + 2); omega) (by omega) fun hk1 => ?_
      refine minus_run' hd hk1 (by omega) fun hk2 => ?_
      refine over_run' rt0 hk2 rbt (by omega) fun hk3 => ?_
      refine plus_run' (rbb b hbm) hk3 (by omega) fun hk4 => ?_
      cases m with
      | none =>
        simp [optLD]
        exact ⟨_, rfl, lev_steep ht1 fun x hx hz => absurd hz (hm x hx), hk4, .inl ht1⟩
      | some m =>
        obtain ⟨hm1, ⟨xm, hxm, hxm0, hxm1⟩, hm2⟩ := hm
        simp [optLD]
        refine less_run' hk4 hm1 (by omega) ?_
        by_cases c : b + (d - tkQ L b) / rtQ L b < m
        · simp [c]
          exact ⟨_, rfl, lev_steep ht1 fun x hx hz => by have := hm2 x hx hz; grind, hk4, .inl ht1⟩
        · simp [c]
          exact ⟨_, rfl, lev_flat ht1 (by grind) hxm hxm0 hxm1 hm2, hm1.mono (by omega), .inr hm1⟩
    simp only [rw_if, run_bind]
    cases lt with
    | none =>
      simp only [rw_tOr2, rw_tBv, rw_d2, rw_dV, List.getElem?_cons_succ, List.getElem?_cons_zero, slotP_p, pure_bind, rw_dC, optLD, rw_is, isNoneD, rw_asB, run_pure, if_true]
      refine Wp.mono _ (fun o ho => ?_) (fun _ z => z) (fin fun y hy hp => ?_)
      · obtain ⟨t, rfl, ht1, ht2, ht3⟩ := ho
        simp
        exact hk t ht1 ht2 ht3
      · obtain ⟨j, hj⟩ := List.mem_iff_getElem?.mp (mbs y hy hp)
        have : bs.length ≤ i + 1 := by rcases Nat.lt_or_ge (i + 1) bs.length with z | z; · rw [List.getElem?_eq_getElem z] at hlt'; cases hlt'
                                       · exact z
        have hjl : j < bs.length := (List.getElem?_eq_some_iff.mp hj).1
        exact srt_get sbs (by omega) hj hb
    | some u =>
      have hu := hlt'.symm
      have hum := List.mem_of_getElem? hu
      have hul : i + 1 < bs.length := (List.getElem?_eq_some_iff.mp hu).1
      simp only [rw_tOr2, rw_tBv, rw_tNotV, rw_tT, rw_call, rw_aCons, rw_aNil, rw_d2, rw_dV, List.getElem?_cons_succ, List.getElem?_cons_zero, slotP_p, pure_bind, rw_dC, rw_is, show isNoneD (rD u) = false from rfl, true_and, List.length_nil, Nat.zero_add, Nat.reduceAdd, show optLD (some u) = rD u from rfl, rw_asB, run_pure, run_bind, run_need, List.length_cons, List.length_nil, Bool.false_eq_true, if_false]
      refine taken_at_run h (rbb u hum) hS (by have := Nat.add_mul L.length 1 (Bb + Bb + S + 2); omega) (by omega) fun hk1 => ?_
      refine less_run' hk1 hd (by omega) ?_
      by_cases c : tkQ L u < d
      · simp [c]
        exact ⟨hul, fun b' hb' => by rw [hu] at hb'; cases hb'; exact c⟩
      · simp only [decide_eq_false c, rw_truB, run_pure, Bool.not_false, if_true]
        refine Wp.mono _ (fun o ho => ?_) (fun _ z => z) (fin ⟨srt_get sbs (by omega) hb hu, by grind, fun x hx hp => ?_⟩)
        · obtain ⟨t, rfl, ht1, ht2, ht3⟩ := ho
          simp
          exact hk t ht1 ht2 ht3
        · obtain ⟨j, hj⟩ := List.mem_iff_getElem?.mp (mbs x hx hp)
          rcases Nat.lt_or_ge i j with z | z
          · exact .inr (srt_get sbs z hu hj)
          · exact .inl (srt_get sbs z hj hb)
  · rintro δ ⟨hi, hlt, s3, s4, s7, s8, s9, s10, s11, rfl⟩
    rw [enD_len, List.length_map] at hi
    have hb0 : bs = [] := List.length_eq_zero_iff.mp (by omega)
    simp
    have hno : ∀ x ∈ L, ¬ 0 < x.1 := fun x hx hp => by
      have := mbs x hx hp
      rw [hb0] at this
      cases this
    cases m with
    | none =>
      obtain ⟨x, hx⟩ := List.exists_mem_of_ne_nil L hL
      rcases hsl x hx with z | z
      · exact absurd z (hm x hx)
      · exact absurd z (hno x hx)
    | some m =>
      obtain ⟨hm1, ⟨xm, hxm, hxm0, hxm1⟩, hm2⟩ := hm
      exact hk m (lev_only h0 hno hxm hxm0 hxm1 hm2) (hm1.mono (by omega)) (.inr hm1)
end

end Tr

namespace Tr
open PySem PySem.Spec L2
variable [ProtC]
section
variable {k : D → Prop} {w : Exn → Prop} {L : List Ln} {I : List (Int × Int)} {t d : Rat} {n S Bb Bt Bd : Nat}
def lnI (x : Int × Int) : D := .tuple [.int x.1, .int x.2]
def toL (x : Int × Int) : Ln := (x.1, (x.2 : Rat))
structure Ins (I : List (Int × Int)) : Prop where
  l1 : 1 ≤ I.length
  l2 : I.length ≤ 8
  sl : ∀ x ∈ I, 0 ≤ x.1 ∧ x.1 ≤ 100
  bs : ∀ x ∈ I, 0 ≤ x.2 ∧ x.2 ≤ 1000
structure Dm (d : Rat) : Prop where
  n1 : 1 ≤ d.num
  n2 : d.num ≤ 1000
  d2 : d.den ≤ 100
theorem Dm.pos (h : Dm d) : 0 < d := num_pos.mp (by have := h.n1; omega)
theorem Dm.rb (h : Dm d) : RB d 10 := ⟨by have := h.n1; have := h.n2; show _ < 1024; omega, by have := h.d2; show _ < 1024; omega⟩
theorem Ins.ok (h : Ins I) : LOk (I.map toL) I.length 7 10 := ⟨by simp, fun x hx => by
  obtain ⟨y, hy, rfl⟩ := List.mem_map.mp hx
  have := h.sl y hy
  exact ⟨this.1, nb7 this.1 this.2⟩, fun x hx => by
  obtain ⟨y, hy, rfl⟩ := List.mem_map.mp hx
  have := h.bs y hy
  exact rb_int (nb10 this.1 this.2) (by omega)⟩
theorem Ins.ne (h : Ins I) : I.map toL ≠ [] := by
  have := h.l1
  intro z
  rw [List.map_eq_nil_iff] at z
  subst z
  simp at this
theorem Ins.sg (h : Ins I) : ∀ x ∈ I.map toL, x.1 = 0 ∨ 0 < x.1 := fun x hx => by
  obtain ⟨y, hy, rfl⟩ := List.mem_map.mp hx
  have := (h.sl y hy).1
  show y.1 = 0 ∨ 0 < y.1
  omega
theorem islane_run {x : Int × Int} (h1 : 0 ≤ x.1 ∧ x.1 ≤ 100) (h2 : 0 ≤ x.2 ∧ x.2 ≤ 1000) (hk : k (.bool true)) : (f_is_lane [.d (lnI x)]).run k w := by
  simp [f_is_lane, b_is_lane, dStart, arSl, lnI]
  refine isin_run ?_
  simp [h1.1, h1.2]
  refine isin_run ?_
  simp [h2.1, h2.2]
  exact hk
theorem needd_run (h : Dm d) (hk : k .none) : (f_need_demand [.d (rD d)]).run k w := by
  have h1 := h.n1
  have h2 := h.n2
  have h3 : ¬ (100 : Int) < (d.den : Int) := by have := h.d2; omega
  simp [f_need_demand, b_need_demand, dStart, arSl]
  refine isratio_run ?_
  simp [h1, h2, h3]
  exact hk
theorem needl_run (hI : Ins I) (h : Dm d) (hk : k .none) : (f_need_lanes [.d (.tuple (I.map lnI)), .d (rD d)]).run k w := by
  have h1 : (1 : Int) ≤ (I.length : Int) := by have := hI.l1; omega
  have h2 : (I.length : Int) ≤ 8 := by have := hI.l2; omega
  simp [f_need_lanes, b_need_lanes, dStart, arSl, h1, h2]
  refine loop_inv (fun i δ => ∃ s2 s3, δ = [.p (.tuple (I.map lnI)), .p (rD d), s2, s3]) ⟨_, _, rfl⟩ ?_ ?_
  · rintro i δ e he ⟨s2, s3, rfl⟩
    obtain ⟨x, hx, rfl⟩ := enD_get' he
    obtain ⟨y, hy, rfl⟩ := List.mem_map.mp (List.mem_of_getElem? hx)
    refine ⟨_, rfl, ?_⟩
    simp
    refine islane_run (hI.sl y hy) (hI.bs y hy) ?_
    simp
  · rintro δ ⟨s2, s3, rfl⟩
    simp
    exact needd_run h hk
theorem with_run (hl : I.length < 1000) (hk : k (.list ((I.map toL).map lnD))) : (f_with_ratios [.d (.tuple (I.map lnI))]).run k w := by
  simp [f_with_ratios, b_with_ratios, dStart, arSl]
  refine ⟨lt_line (by omega), lc_run (p := fun _ => true) (h := fun x => lnD (toL x)) (fun y hy => ⟨_, rfl, fun kb hkb => ?_, fun _ kd hkd => ?_⟩) ?_⟩
  · simpa using hkb
  · simp
    exact ⟨two_le_line, hkd⟩
  · rw [List.filter_eq_self.mpr (by simp)]
    simpa [Function.comp_def] using hk
def flF (t : Rat) (p : List Rat × Rat) (x : Ln) : List Rat × Rat := if 0 < x.1 then (p.1 ++ [fL x t], p.2) else if x.2 = t then (p.1 ++ [p.2], 0) else (p.1 ++ [0], p.2)
def flR (L : List Ln) (t r : Rat) : List Rat × Rat := L.foldl (flF t) ([], r)
theorem flF_eq {L : List Ln} {fs : List Rat} {r : Rat} : (L.foldl (flF t) (fs, r)).1 = fs ++ flQ L t r := by
  induction L generalizing fs r with
  | nil => simp [flQ]
  | cons x L ih =>
    rw [List.foldl_cons]
    by_cases c : 0 < x.1
    · rw [show flF t (fs, r) x = (fs ++ [fL x t], r) by simp [flF, c], ih]
      simp [flQ, c]
    · by_cases c2 : x.2 = t
      · rw [show flF t (fs, r) x = (fs ++ [r], 0) by simp [flF, c, c2], ih]
        simp [flQ, c, c2]
      · rw [show flF t (fs, r) x = (fs ++ [0], r) by simp [flF, c, c2], ih]
        simp [flQ, c, c2]
theorem flR_eq {L : List Ln} {r : Rat} : (flR L t r).1 = flQ L t r := flF_eq
theorem flR_snoc {L : List Ln} {x : Ln} {r : Rat} : flR (L ++ [x]) t r = flF t (flR L t r) x := by simp [flR]
theorem fl_len {L : List Ln} {r : Rat} : (flQ L t r).length = L.length := by
  induction L generalizing r with
  | nil => rfl
  | cons x L ih =>
    simp only [flQ]
    split
    · simp [ih]
    · split <;> simp [ih]
theorem fl_rb {r : Rat} {Br : Nat} (h1 : ∀ x ∈ L, 0 ≤ x.1 ∧ x.1.natAbs < 2 ^ S) (h2 : ∀ x ∈ L, RB x.2 Bb) (ht : RB t Bt) (hS : 0 < S) (hr : RB r Br) : ∀ q ∈ flQ L t r, RB q (Bt + Bb + 1 + S + Br) := by
  induction L generalizing r with
  | nil => intro q hq; cases hq
  | cons x L ih =>
    have i1 := fun r (hr : RB r Br) => ih (r := r) (fun y hy => h1 y (by simp [hy])) (fun y hy => h2 y (by simp [hy])) hr
    have z : 0 < Br := by
      rcases Nat.eq_zero_or_pos Br with z | z
      · have := hr.den
        have := r.den_pos
        subst z
        simp at this
        omega
      · exact z
    intro q hq
    simp only [flQ] at hq
    split at hq
    · rcases List.mem_cons.mp hq with rfl | hq
      · exact (fL_rb (h1 x (by simp)) (h2 x (by simp)) ht hS).mono (by omega)
      · exact i1 _ hr q hq
    · split at hq
      · rcases List.mem_cons.mp hq with rfl | hq
        · exact hr.mono (by omega)
        · exact i1 0 (rb_zero z) q hq
      · rcases List.mem_cons.mp hq with rfl | hq
        · exact rb_zero (by omega)
        · exact i1 _ hr q hq
theorem flowsat_run (h : LOk L n S Bb) (hl : L.length < 1000) (ht : RB t Bt) (hd : RB d Bd) (hS : 0 < S) (hB : (L.length + 1) * (Bt + Bb + S + 2) + Bd + 10 < 300000) (hm : Bt + Bb + S + 2 < 4000) (hm2 : Bd < 4000)
    (hk : k (.list ((flQ L t (d - tkQ L t)).map rD))) : (f_flows_at [.d (.list (L.map lnD)), .d (rD d), .d (rD t)]).run k w := by
  have hB1 := Nat.add_mul L.length 1 (Bt + Bb + S + 2)
  have rbk := tk_rb (t := t) h ht hS
  simp [f_flows_at, b_flows_at, dStart, arSl, sParOD]
  refine taken_at_run h ht hS (by omega) (by omega) fun _ => ?_
  refine minus_runG' hd rbk (by omega) (by omega) fun hm => ?_
  refine loop_pre (fun pre δ => ∃ s5 s6, δ = [Sl.p (PyData.list (List.map lnD L)), Sl.p (rD d), Sl.p (rD t), .o ((flR pre t (d - tkQ L t)).1.map rD), .p (rD (flR pre t (d - tkQ L t)).2), s5, s6]) ⟨_, _, rfl⟩ ?_ ?_
  · rintro pre x post δ e ⟨s5, s6, rfl⟩
    obtain ⟨h1, h2, h3⟩ := h.pre e
    have lp : (flR pre t (d - tkQ L t)).1.length = pre.length := by rw [flR_eq, fl_len]
    have hlp : (flR pre t (d - tkQ L t)).1.length < sizeLine := by rw [lp]; show _ < 16777216; omega
    rw [flR_snoc]
    generalize flR pre t (d - tkQ L t) = fr at hlp
    refine ⟨_, rfl, ?_⟩
    by_cases c : 0 < x.1
    · simp [c]
      refine less_run' (h.bs x h3) ht (by omega) ?_
      by_cases c2 : x.2 < t
      · simp [c2]
        refine minus_run' ht (h.bs x h3) (by omega) fun m => ⟨two_le_line, ?_⟩
        rw [rD_int]
        refine over_run' (rat_pos_int c) m (rb_int (h.sl x h3).2 hS) (by omega) fun o => ?_
        simp [hlp, flF, c, c2, fL]
      · simp [c2]
        refine ⟨two_le_line, ?_⟩
        simp [hlp, flF, c, c2, fL]
        exact sq0_d
    · simp [c, eqv_rD]
      by_cases c2 : x.2 = t
      · simp [c2]
        simp [hlp, flF, c, c2, fL]
        exact ⟨two_le_line, sq0_d⟩
      · simp [c2]
        simp [hlp, flF, c, c2, fL]
        exact ⟨two_le_line, sq0_d⟩
  · rintro δ ⟨s5, s6, rfl⟩
    simp
    rw [flR_eq]
    exact hk
theorem fl_sharp {B : Nat} (h : LOk L n S Bb) (ht : RB t Bt) (hd : RB d Bd) (hS : 0 < S) (he : tkQ L t = d ∨ RB t Bb) (h1 : Bt + Bb + 1 + S + 1 ≤ B) (h2 : Bb + Bb + 1 + S + (Bd + (L.length * (Bb + Bb + S + 2) + 1) + 1) ≤ B) : ∀ q ∈ flQ L t (d - tkQ L t), RB q B := by
  intro q hq
  rcases he with e | e
  · rw [e, show d - d = 0 by grind] at hq
    exact (fl_rb h.sl h.bs ht hS (rb_zero (by omega : 0 < 1)) q hq).mono h1
  · exact (fl_rb h.sl h.bs e hS (hd.sub' (tk_rb h e hS)) q hq).mono h2
end

end Tr

namespace Tr
open PySem PySem.Spec L2
variable [ProtC]
section
variable {k : D → Prop} {w : Exn → Prop} {C : Cs} {r : Addr} {φ : Heap → Prop}
theorem dm_mk {a b : Int} (a1 : 1 ≤ a) (a2 : a ≤ 1000) (b1 : 1 ≤ b) (b2 : b ≤ 100) : Dm ((a : Rat) / (b : Rat)) := by
  have hb : 0 < b := by omega
  obtain ⟨e1, e2⟩ := ratio_nd (t := a) hb
  have g := gcd_pos' (t := a) hb
  have l1 := Int.ediv_le_self (b := ((Nat.gcd a.natAbs b.natAbs : Nat) : Int)) (show 0 ≤ a by omega)
  have l2 := Int.ediv_le_self (b := ((Nat.gcd a.natAbs b.natAbs : Nat) : Int)) (show 0 ≤ b by omega)
  have p : 0 < ((a : Rat) / (b : Rat)).num := num_pos.mpr (qdiv_pos (by exact_mod_cast a1) hb)
  exact ⟨by omega, by omega, by omega⟩
theorem dm_raw {a b : Int} (hb : 0 < b) (hg : Nat.gcd a.natAbs b.natAbs = 1) : PyData.tuple [.int a, .int b] = rD ((a : Rat) / (b : Rat)) := by
  obtain ⟨e1, e2⟩ := ratio_nd (t := a) hb
  rw [rD, e1, e2, hg]
  simp
theorem ldemandL_run (hr : RO C r φ) (hk : ∀ d, Dm d → k (rD d)) : (f_law_demand C [.t r φ]).run k w := by
  simp [f_law_demand, b_law_demand, dStart, arSl]
  refine ⟨two_le_line, taken_run hr (by omega) (by omega) fun a a0 a1 => taken_run hr (by omega) (by omega) fun b b0 b1 => ?_⟩
  refine lratio_run (B := 8) (by omega) (by show _ < 256; omega) (by show _ < 256; omega) (by omega) fun _ => ⟨by decide, pick_run hr (by simp) (by simp) fun d hd => ?_⟩
  have R : ∀ a b : Int, 1 ≤ a → a ≤ 1000 → 1 ≤ b → b ≤ 100 → Nat.gcd a.natAbs b.natAbs = 1 → k (.tuple [.int a, .int b]) := fun a b a1 a2 b1 b2 g => by
    rw [dm_raw (by omega) g]
    exact hk _ (dm_mk a1 a2 b1 b2)
  simp at hd
  rcases hd with rfl | rfl | rfl | rfl | rfl | rfl
  · exact R 1 1 (by omega) (by omega) (by omega) (by omega) (by decide)
  · exact R 1 2 (by omega) (by omega) (by omega) (by omega) (by decide)
  · exact R 10 1 (by omega) (by omega) (by omega) (by omega) (by decide)
  · exact R 7 3 (by omega) (by omega) (by omega) (by omega) (by decide)
  · exact R 1000 1 (by omega) (by omega) (by omega) (by omega) (by decide)
  · have := hk _ (dm_mk (a := 1 + a) (b := 1 + b) (by omega) (by omega) (by omega) (by omega))
    simpa using this
structure Lw (I : List (Int × Int)) : Prop where
  l1 : 1 ≤ I.length
  l2 : I.length ≤ 5
  sl : ∀ x ∈ I, x.1 = 0 ∨ x.1 = 1 ∨ x.1 = 2 ∨ x.1 = 5 ∨ x.1 = 100
  bs : ∀ x ∈ I, 0 ≤ x.2 ∧ x.2 ≤ 1000
theorem Lw.ins {I : List (Int × Int)} (h : Lw I) : Ins I := ⟨h.l1, by have := h.l2; omega, fun x hx => by have := h.sl x hx; omega, h.bs⟩
theorem llanes_run (hr : RO C r φ) (hk : ∀ I, Lw I → k (.tuple (I.map lnI))) : (f_law_lanes C [.t r φ]).run k w := by
  simp [f_law_lanes, b_law_lanes, dStart, arSl]
  refine taken_run hr (by omega) (by omega) fun n n0 n1 => ⟨lo62_le (by omega) (by omega), by have := lt_line (n := 10) (by omega); omega, ?_⟩
  refine lc_ex (P := fun d => ∃ x : Int × Int, ((x.1 = 0 ∨ x.1 = 1 ∨ x.1 = 2 ∨ x.1 = 5 ∨ x.1 = 100) ∧ 0 ≤ x.2 ∧ x.2 ≤ 1000) ∧ d = lnI x) (fun x hx => ⟨_, rfl, fun kb hkb => ?_, fun kd hkd => ?_⟩) fun ds hl hp => ?_
  · simpa using hkb
  · simp
    refine ⟨by decide, pick_run hr (by simp) (by simp) fun d hd => ?_⟩
    obtain ⟨s, rfl, hs⟩ : ∃ s : Int, d = .int s ∧ (s = 0 ∨ s = 1 ∨ s = 2 ∨ s = 5 ∨ s = 100) := by
      simp at hd
      rcases hd with rfl | rfl | rfl | rfl | rfl <;> exact ⟨_, rfl, by omega⟩
    refine taken_run hr (by omega) (by omega) fun a a0 a1 => ⟨by decide, pick_run hr (by simp) (by simp) fun d hd => ?_⟩
    obtain ⟨b, rfl, hb⟩ : ∃ b : Int, d = .int b ∧ 0 ≤ b ∧ b ≤ 1000 := by
      simp at hd
      rcases hd with rfl | rfl | rfl | rfl | rfl <;> exact ⟨_, rfl, by omega⟩
    exact ⟨two_le_line, hkd _ ⟨(s, b), ⟨hs, hb⟩, rfl⟩⟩
  · obtain ⟨I, rfl, hI⟩ := pic hp
    simp at hl
    exact hk I ⟨by omega, by omega, fun x hx => (hI x hx).1, fun x hx => (hI x hx).2⟩
end

end Tr

namespace Tr
open PySem PySem.Spec L2
variable [ProtC]
section
variable {k : D → Prop} {w : Exn → Prop} {L : List Ln} {I : List (Int × Int)} {t d : Rat} {n S Bb Bt Bd B : Nat}
@[simp] theorem rw_setIx {i : Nat} {fi f : DF} {δ : De} : sSetIx i fi f δ = (f δ).bind fun d => (slotO δ[i]?).bind fun ds => (fi δ).bind fun k => (asI1 k).bind fun k => (optW (ixN ds.length k)).bind fun j => .pure (.nx (δ.set i (.o (ds.set j d)))) := rfl
theorem ixN_natL {n i : Nat} (h : i < n) : ixN n (i : Int) = some i := by
  unfold ixN
  rw [if_pos (by omega), if_pos (by omega)]
  rfl
theorem get_map {α : Type} {g : α → D} {xs : List α} {i : Nat} {x : α} (h : xs[i]? = some x) : atI (xs.map g) (i : Int) = some (g x) := by rw [atI_nat, List.getElem?_map, h]; rfl
def tmQ (x : Int × Int) (f : Rat) : Rat := (x.1 : Rat) * f + (x.2 : Rat)
theorem tmL_rb {x : Int × Int} {f : Rat} (h1 : 0 ≤ x.1 ∧ x.1 ≤ 100) (h2 : 0 ≤ x.2 ∧ x.2 ≤ 1000) (hf : RB f B) : RB (tmQ x f) (7 + B + 10 + 1) :=
  RB.add' (RB.mul' (rb_int (nb7 h1.1 h1.2) (by omega)) hf) (rb_int (nb10 h2.1 h2.2) (by omega))
theorem ltm_run {x : Int × Int} {f : Rat} (h1 : 0 ≤ x.1 ∧ x.1 ≤ 100) (h2 : 0 ≤ x.2 ∧ x.2 ≤ 1000) (hf : RB f B) (hB : B < 3000) (hk : RB (tmQ x f) (7 + B + 10 + 1) → k (rD (tmQ x f))) : (f_lane_time [.d (lnI x), .d (rD f)]).run k w := by
  simp [f_lane_time, b_lane_time, dStart, arSl, lnI]
  simp only [rD_int]
  refine ⟨two_le_line, by_run' (rb_int (nb7 h1.1 h1.2) (by omega)) hf (by omega) fun g => ⟨two_le_line, ?_⟩⟩
  exact plus_run' g (rb_int (nb10 h2.1 h2.2) (by omega)) (by omega) fun g => hk g
theorem llt_run {x : Int × Int} {f : Rat} (h1 : 0 ≤ x.1 ∧ x.1 ≤ 100) (h2 : 0 ≤ x.2 ∧ x.2 ≤ 1000) (hf : RB f B) (hB : B < 3000) (hk : RB (tmQ x f) (7 + B + 10 + 1) → k (rD (tmQ x f))) : (f_law_time [.d (lnI x), .d (rD f)]).run k w := by
  simp [f_law_time, b_law_time, dStart, arSl, lnI]
  simp only [rD_int]
  refine ⟨two_le_line, lby_run' (rb_int (nb7 h1.1 h1.2) (by omega)) hf (by omega) fun g => ⟨two_le_line, ?_⟩⟩
  exact lplus_run' g (rb_int (nb10 h2.1 h2.2) (by omega)) (by omega) fun g => hk g
def wtQ (p : (Int × Int) × Rat) : Rat := p.2 * tmQ p.1 p.2
theorem wt_sum {I : List (Int × Int)} {fs : List Rat} : sumQ ((I.zip fs).map wtQ) = whQ (I.map toL) fs := by
  induction I generalizing fs with
  | nil => rfl
  | cons x I ih => cases fs with
    | nil => rfl
    | cons f fs =>
      simp only [List.zip_cons_cons, List.map_cons, sumQ, whQ, ih]
      rfl
theorem zipL_mem {I : List (Int × Int)} {fs : List Rat} {p : (Int × Int) × Rat} (h : p ∈ I.zip fs) : p.1 ∈ I ∧ p.2 ∈ fs := ⟨(List.of_mem_zip h).1, (List.of_mem_zip h).2⟩
theorem wt_rb (hI : Ins I) {fs : List Rat} (hf : ∀ q ∈ fs, RB q B) : ∀ q ∈ (I.zip fs).map wtQ, RB q (B + (7 + B + 10 + 1)) := by
  intro q hq
  obtain ⟨p, hp, rfl⟩ := List.mem_map.mp hq
  obtain ⟨h1, h2⟩ := zipL_mem hp
  exact RB.mul' (hf _ h2) (tmL_rb (hI.sl _ h1) (hI.bs _ h1) (hf _ h2))
theorem total_run (hI : Ins I) {fs : List Rat} (hl : fs.length = I.length) (hf : ∀ q ∈ fs, RB q B) (hB : (I.length + 1) * (B + (7 + B + 10 + 1) + 1) + 1 < 300000) (hm : B < 1900) (hk : RB (whQ (I.map toL) fs) (I.length * (B + (7 + B + 10 + 1) + 1) + 1) → k (rD (whQ (I.map toL) fs))) : (f_total_of [.d (.tuple (I.map lnI)), .d (.list (fs.map rD))]).run k w := by
  have l2 := hI.l2
  have hz : (I.zip fs).length = I.length := by simp [hl]
  simp [f_total_of, b_total_of, dStart, arSl]
  rw [zipD_map]
  refine ⟨by simp [hl]; exact lt_line (by omega), lc_run (p := fun _ => true) (h := fun p => rD (wtQ p)) (fun y hy => ⟨_, rfl, fun kb hkb => ?_, fun _ kd hkd => ?_⟩) ?_⟩
  · simpa using hkb
  · obtain ⟨m1, m2⟩ := zipL_mem hy
    simp
    refine ltm_run (hI.sl _ m1) (hI.bs _ m1) (hf _ m2) (by omega) fun g => ?_
    refine by_run' (hf _ m2) g (by omega) fun _ => ?_
    exact hkd
  · rw [List.filter_eq_self.mpr (by simp), show ((I.zip fs).map fun p => rD (wtQ p)) = ((I.zip fs).map wtQ).map rD by simp [Function.comp_def]]
    refine sum_run (wt_rb hI hf) (by simp only [List.length_map, hz]; exact hB) (by omega) fun g => ?_
    rw [wt_sum] at g ⊢
    refine hk (g.mono ?_)
    simp only [List.length_map, hz]
    omega
theorem total_runT {tp : List D → D} (hI : Ins I) (htp : tp = PyData.tuple ∨ tp = PyData.list) {fs : List Rat} (hl : fs.length = I.length) (hf : ∀ q ∈ fs, RB q B) (hB : (I.length + 1) * (B + (7 + B + 10 + 1) + 1) + 1 < 300000) (hm : B < 1900) (hk : RB (whQ (I.map toL) fs) (I.length * (B + (7 + B + 10 + 1) + 1) + 1) → k (rD (whQ (I.map toL) fs))) : (f_total_of [.d (.tuple (I.map lnI)), .d (tp (fs.map rD))]).run k w := by
  have l2 := hI.l2
  have hz : (I.zip fs).length = I.length := by simp [hl]
  have hsq : seqD (tp (fs.map rD)) = .pure (fs.map rD) := by rcases htp with rfl | rfl <;> rfl
  simp [f_total_of, b_total_of, dStart, arSl, hsq]
  rw [zipD_map]
  refine ⟨by simp [hl]; exact lt_line (by omega), lc_run (p := fun _ => true) (h := fun p => rD (wtQ p)) (fun y hy => ⟨_, rfl, fun kb hkb => ?_, fun _ kd hkd => ?_⟩) ?_⟩
  · simpa using hkb
  · obtain ⟨m1, m2⟩ := zipL_mem hy
    simp
    refine ltm_run (hI.sl _ m1) (hI.bs _ m1) (hf _ m2) (by omega) fun g => ?_
    refine by_run' (hf _ m2) g (by omega) fun _ => ?_
    exact hkd
  · rw [List.filter_eq_self.mpr (by simp), show ((I.zip fs).map fun p => rD (wtQ p)) = ((I.zip fs).map wtQ).map rD by simp [Function.comp_def]]
    refine sum_run (wt_rb hI hf) (by simp only [List.length_map, hz]; exact hB) (by omega) fun g => ?_
    rw [wt_sum] at g ⊢
    refine hk (g.mono ?_)
    simp only [List.length_map, hz]
    omega
theorem steep_run (hI : Ins I) (hk : k (.list ((steepQ (I.map toL)).map lnD))) : (f_steep [.d (.tuple (I.map lnI))]).run k w := by
  have l2 := hI.l2
  simp [f_steep, b_steep, dStart, arSl]
  refine with_run (by omega) ?_
  simp only [run_pure, rw_seqL, run_need, run_bind, rw_dNl, rw_nLc]
  refine ⟨lt_line (by simp; omega), lc_run (p := fun _ => true) (h := fun x : Ln => lnD (2 * x.1, x.2)) (fun y hy => ⟨_, rfl, fun kb hkb => ?_, fun _ kd hkd => ?_⟩) ?_⟩
  · simpa using hkb
  · obtain ⟨z, hz, rfl⟩ := List.mem_map.mp hy
    have := hI.sl z hz
    simp [toL]
    exact ⟨cmul (a := 2) (b := 7) (by decide) (nb7 this.1 this.2) (by omega), two_le_line, hkd⟩
  · rw [List.filter_eq_self.mpr (by simp)]
    simpa [steepQ, Function.comp_def] using hk
theorem Ins.sok (hI : Ins I) : LOk (steepQ (I.map toL)) I.length 8 10 := ⟨by simp [steepQ], fun x hx => by
  obtain ⟨y, hy, rfl⟩ := List.mem_map.mp hx
  obtain ⟨z, hz, rfl⟩ := List.mem_map.mp hy
  have := hI.sl z hz
  show 0 ≤ 2 * z.1 ∧ (2 * z.1).natAbs < 256
  omega, fun x hx => by
  obtain ⟨y, hy, rfl⟩ := List.mem_map.mp hx
  obtain ⟨z, hz, rfl⟩ := List.mem_map.mp hy
  have := hI.bs z hz
  exact rb_int (nb10 this.1 this.2) (by omega)⟩
theorem Ins.ssg (hI : Ins I) : ∀ x ∈ steepQ (I.map toL), x.1 = 0 ∨ 0 < x.1 := fun x hx => by
  obtain ⟨y, hy, rfl⟩ := List.mem_map.mp hx
  have := hI.sg y hy
  show 2 * y.1 = 0 ∨ 0 < 2 * y.1
  omega
theorem Ins.lok (hI : Ins I) : Lok (I.map toL) := fun x hx => by
  obtain ⟨z, hz, rfl⟩ := List.mem_map.mp hx
  exact ⟨(hI.sl z hz).1, scast (hI.bs z hz).1⟩
structure BestQ (I : List (Int × Int)) (d : Rat) (y : List Rat) : Prop where
  rest : ∃ l, RestQ (steepQ (I.map toL)) y l
  sum : sumQ y = d
  rb : ∀ q ∈ y, RB q 250
  ex : ∃ l, Lev (steepQ (I.map toL)) d l ∧ y = flQ (steepQ (I.map toL)) l (d - tkQ (steepQ (I.map toL)) l)
theorem BestQ.len {y : List Rat} (h : BestQ I d y) : y.length = I.length := by
  obtain ⟨l, hl⟩ := h.rest
  rw [hl.len]
  simp [steepQ]
theorem BestQ.pos {y : List Rat} (h : BestQ I d y) : Pos0 y := by
  obtain ⟨l, hl⟩ := h.rest
  exact hl.pos
theorem best_run (hI : Ins I) (h5 : I.length ≤ 5) (h : Dm d) (hk : ∀ y, BestQ I d y → k (.list (y.map rD))) : (f_best_flows [.d (.tuple (I.map lnI)), .d (rD d)]).run k w := by
  have lm : (steepQ (I.map toL)).length ≤ 5 := by simp [steepQ, h5]
  have lm1 : 1 ≤ (steepQ (I.map toL)).length := by have := hI.l1; simp [steepQ]; omega
  have b1 : ((steepQ (I.map toL)).length + 1) * (10 + 10 + 8 + 2) ≤ 6 * (10 + 10 + 8 + 2) := Nat.mul_le_mul_right _ (by omega)
  have b2 : ((steepQ (I.map toL)).length + 1) * (8 + 3) ≤ 6 * (8 + 3) := Nat.mul_le_mul_right _ (by omega)
  have b3 : ((steepQ (I.map toL)).length) * (10 + 10 + 8 + 2) ≤ 5 * (10 + 10 + 8 + 2) := Nat.mul_le_mul_right _ (by omega)
  have b4 : ((steepQ (I.map toL)).length) * (8 + 2) ≤ 5 * (8 + 2) := Nat.mul_le_mul_right _ (by omega)
  have b5 : ((steepQ (I.map toL)).length + 1) * (230 + 10 + 8 + 2) ≤ 6 * (230 + 10 + 8 + 2) := Nat.mul_le_mul_right _ (by omega)
  have hne : steepQ (I.map toL) ≠ [] := fun z => by rw [z] at lm1; simp at lm1
  simp [f_best_flows, b_best_flows, dStart, arSl]
  refine steep_run hI ?_
  refine level_run hI.sok hne hI.ssg (by omega) h.rb h.pos (by omega) (by omega) fun t ht hrb he => ?_
  have hrb' : RB t 230 := hrb.mono (by omega)
  refine flowsat_run hI.sok (by omega) hrb' h.rb (by omega) (by omega) (by omega) (by omega) ?_
  have h0 : ∀ x ∈ steepQ (I.map toL), 0 ≤ x.1 := fun x hx => by rcases hI.ssg x hx with z | z <;> omega
  exact hk _ ⟨⟨t, (ht.flows h0).1⟩, (ht.flows h0).2, fl_sharp (n := I.length) (S := 8) (Bb := 10) hI.sok hrb' h.rb (by omega) he (by omega) (by omega), ⟨t, ht, rfl⟩⟩
def natD (i : Nat) : D := .int (i : Int)
theorem one_rD : PyData.tuple [.int 1, .int 1] = rD 1 := rfl
theorem others0_run (hl : I.length < 1000) {s : D} (hk : k (.list ((I.map fun _ => (0 : Rat)).map rD))) : (f_others_of [.d (.tuple (I.map lnI)), .d s, .d (rD 0)]).run k w := by
  have e1 : (0 : Rat).num = 0 := rfl
  simp [f_others_of, b_others_of, dStart, arSl, e1]
  refine ⟨lt_line (by omega), lc_run (p := fun _ => true) (h := fun _ => rD 0) (fun y hy => ⟨_, rfl, fun kb hkb => ?_, fun _ kd hkd => ?_⟩) ?_⟩
  · simpa using hkb
  · simp
    exact ⟨two_le_line, hkd⟩
  · rw [List.filter_eq_self.mpr (by simp)]
    simpa [Function.comp_def] using hk
theorem lsum_run {s : List Rat} (h : ∀ q ∈ s, RB q B) (hB : (s.length + 1) * (B + 1) + 1 < 300000) (hm : B < 4400) (hk : RB (sumQ s) (s.length * (B + 1) + 1) → k (rD (sumQ s))) : (f_law_sum [.d (.list (s.map rD))]).run k w := by
  simp [f_law_sum, b_law_sum, dStart, arSl]
  refine ⟨two_le_line, loop_pre (fun pre δ => ∃ s2, δ = [Sl.p (PyData.list (List.map rD s)), Sl.p (rD (sumQ pre)), s2]) ⟨_, rfl⟩ ?_ ?_⟩
  · rintro pre x post δ e ⟨s2, rfl⟩
    have rb := sum_rb (s := pre) (B := B) fun q hq => h q (by rw [e]; simp [hq])
    have l1 : (pre.length + 1) * (B + 1) ≤ s.length * (B + 1) := Nat.mul_le_mul_right _ (by rw [e]; simp)
    rw [Nat.add_mul] at hB l1
    refine ⟨_, rfl, ?_⟩
    simp
    refine lplus_runG rb (h x (by rw [e]; simp)) (by omega) (by omega) fun _ => ?_
    rw [sum_snoc]
  · rintro δ ⟨s2, rfl⟩
    simp
    exact hk (sum_rb h)
theorem rg_zip {I : List (Int × Int)} {fs : List Rat} (hl : fs.length = I.length) {G : Nat → D} (hG : ∀ i x f, I[i]? = some x → fs[i]? = some f → G i = rD (wtQ (x, f))) : (List.range I.length).map G = ((I.zip fs).map wtQ).map rD := by
  apply List.ext_getElem?
  intro i
  rw [List.getElem?_map, List.getElem?_map, List.getElem?_map]
  by_cases h : i < I.length
  · have h2 : i < fs.length := by omega
    rw [List.getElem?_range h, (List.getElem?_zip_eq_some (z := (I[i], fs[i]))).mpr ⟨List.getElem?_eq_getElem h, List.getElem?_eq_getElem h2⟩]
    simp [hG i _ _ (List.getElem?_eq_getElem h) (List.getElem?_eq_getElem h2)]
  · rw [List.getElem?_eq_none (by simpa using h), List.getElem?_eq_none (by simp; omega)]
    rfl
end

end Tr

namespace Tr
open PySem PySem.Spec L2
variable [ProtC]
section
variable {k : D → Prop} {w : Exn → Prop} {L : List Ln} {I : List (Int × Int)} {t d σ a : Rat} {n S Bb Bt Bd B : Nat} {tp : List D → D}
theorem tp_seq (h : tp = PyData.tuple ∨ tp = PyData.list) {ds : List D} : seqD (tp ds) = .pure ds := by rcases h with rfl | rfl <;> rfl
theorem tp_ix (h : tp = PyData.tuple ∨ tp = PyData.list) {y : List Rat} {i : Nat} {q : Rat} (hq : y[i]? = some q) : dIx (tp (y.map rD)) (.int (i : Int)) = .pure (rD q) := by
  rcases h with rfl | rfl
  · rw [rw_ixT, get_map hq]; rfl
  · rw [rw_ixL, get_map hq]; rfl
theorem tms_len {y : List Rat} (h : y.length = L.length) : (tmsQ L y).length = L.length := by
  induction L generalizing y with
  | nil => rfl
  | cons x L ih => cases y with
    | nil => simp at h
    | cons q y => simp [tmsQ, ih (y := y) (by simpa using h)]
theorem tms_get {y : List Rat} {i : Nat} {x : Int × Int} {q : Rat} (hx : I[i]? = some x) (hq : y[i]? = some q) : (tmsQ (I.map toL) y).getD i 0 = tmQ x q := by
  induction I generalizing y i with
  | nil => cases hx
  | cons x' I ih => cases y with
    | nil => cases hq
    | cons q' y => cases i with
      | zero =>
        cases hx
        cases hq
        rfl
      | succ i => exact ih (y := y) (i := i) (by simpa using hx) (by simpa using hq)
theorem falling_runG (hI : Ins I) (htp : tp = PyData.tuple ∨ tp = PyData.list) {y : List Rat} (hl : y.length = I.length) (hy : ∀ q ∈ y, RB q B) (hB : B < 1000) (hk : k (.list ((fallQ (tmsQ (I.map toL) y)).map natD))) : (f_falling [.d (.tuple (I.map lnI)), .d (tp (y.map rD))]).run k w := by
  have l2 := hI.l2
  have tl : (tmsQ (I.map toL) y).length = I.length := by rw [tms_len (by simpa using hl)]; simp
  simp [f_falling, b_falling, dStart, arSl]
  refine loop_inv (fun i δ => ∃ (s3 s4 s5 s6 s7 : Sl), δ = [.p (.tuple (I.map lnI)), .p (tp (y.map rD)), .p (.list (((List.range i).foldl (insF (tmsQ (I.map toL) y)) []).map natD)), s3, s4, s5, s6, s7]) ⟨_, _, _, _, _, rfl⟩ ?_ ?_
  · rintro i δ e he ⟨s3, s4, s5, s6, s7, rfl⟩
    obtain ⟨x, hx, rfl⟩ := enD_get' he
    rw [List.getElem?_map] at hx
    obtain ⟨z, hz, rfl⟩ : ∃ z, I[i]? = some z ∧ x = lnI z := by
      cases hh : I[i]? <;> rw [hh] at hx <;> cases hx
      exact ⟨_, rfl, rfl⟩
    have hi : i < I.length := (List.getElem?_eq_some_iff.mp hz).1
    have hzm := List.mem_of_getElem? hz
    obtain ⟨f, hf⟩ : ∃ f, y[i]? = some f := ⟨_, List.getElem?_eq_getElem (by omega)⟩
    have hfm := List.mem_of_getElem? hf
    have hp := fall_perm_aux (ts := tmsQ (I.map toL) y) i
    rw [List.range_succ, List.foldl_append]
    simp only [List.foldl_cons, List.foldl_nil]
    generalize (List.range i).foldl (insF (tmsQ (I.map toL) y)) [] = p at hp ⊢
    have pl : p.length = i := by have := hp.length_eq; simpa using this
    refine ⟨_, rfl, ?_⟩
    simp [tp_ix htp hf]
    refine ltm_run (hI.sl _ hzm) (hI.bs _ hzm) (hy _ hfm) (by omega) fun g => ⟨lt_line (by omega), ?_⟩
    refine lc_run (p := fun j => decide ((tmsQ (I.map toL) y).getD i 0 < (tmsQ (I.map toL) y).getD j 0)) (h := natD) (fun j hj => ⟨_, rfl, fun kb hkb => ?_, fun _ kd hkd => ?_⟩) ?_
    · have hj' : j < i := List.mem_range.mp (hp.mem_iff.mp hj)
      obtain ⟨v, hv⟩ : ∃ v, I[j]? = some v := ⟨_, List.getElem?_eq_getElem (by omega)⟩
      obtain ⟨q, hq⟩ : ∃ q, y[j]? = some q := ⟨_, List.getElem?_eq_getElem (by omega)⟩
      rw [tms_get hz hf, tms_get hv hq] at hkb
      simp [natD, get_map hv, tp_ix htp hq]
      refine ltm_run (hI.sl _ (List.mem_of_getElem? hv)) (hI.bs _ (List.mem_of_getElem? hv)) (hy _ (List.mem_of_getElem? hq)) (by omega) fun g2 => ?_
      refine less_run' g g2 (by omega) ?_
      simpa using hkb
    · simpa using hkd
    unfold insF
    have hfl := List.length_filter_le (fun j => decide ((tmsQ (I.map toL) y).getD i 0 < (tmsQ (I.map toL) y).getD j 0)) p
    generalize (p.filter fun j => decide ((tmsQ (I.map toL) y).getD i 0 < (tmsQ (I.map toL) y).getD j 0)) = fl at hfl ⊢
    simp only [List.length_map]
    rw [cut_take, cut_drop, allD_map, rw_allD1, allD_only]
    simp
    exact ⟨lt_line (by omega), by simp [natD]⟩
  · rintro δ ⟨s3, s4, s5, s6, s7, rfl⟩
    simp
    rw [enD_len, List.length_map]
    unfold fallQ at hk
    rw [tl] at hk
    exact hk
theorem led_runG (hI : Ins I) (htp : tp = PyData.tuple ∨ tp = PyData.list) {y : List Rat} (hl : y.length = I.length) (hy : ∀ q ∈ y, RB q B) (h0 : 0 < B) (ha : RB a 30) (hB : B < 400) (hk : k (.list ((ledQ y (tmsQ (I.map toL) y) a).map rD))) : (f_led_of [.d (.tuple (I.map lnI)), .d (tp (y.map rD)), .d (rD a)]).run k w := by
  have l2 := hI.l2
  have tl : (tmsQ (I.map toL) y).length = I.length := by rw [tms_len (by simpa using hl)]; simp
  simp [f_led_of, b_led_of, dStart, arSl, sParOD]
  refine ⟨lt_line (by omega), lc_run (p := fun _ => true) (h := fun _ => rD 0) (fun y hy => ⟨_, rfl, fun kb hkb => ?_, fun _ kd hkd => ?_⟩) ?_⟩
  · simpa using hkb
  · simp
    exact ⟨two_le_line, hkd⟩
  rw [List.filter_eq_self.mpr (by simp)]
  refine falling_runG hI htp hl hy (by omega) ?_
  have hp := fall_perm (ts := tmsQ (I.map toL) y)
  rw [tl] at hp
  unfold ledQ at hk
  generalize fallQ (tmsQ (I.map toL) y) = p at hp hk ⊢
  have pl : p.length = I.length := by have := hp.length_eq; simpa using this
  simp only [run_pure, rw_seqL]
  refine loop_pre (fun pre δ => ∃ (g : List Rat) (r : Rat) (post : List Nat) (s5 s6 : Sl), p = pre ++ post ∧ g.length = I.length ∧ RB r (30 + pre.length * (B + 1)) ∧ ledG y post r g = ledG y p a (List.replicate y.length 0) ∧ δ = [.p (.tuple (I.map lnI)), .p (tp (y.map rD)), .p (rD a), .o (g.map rD), .p (rD r), s5, s6]) ?_ ?_ ?_
  · refine ⟨List.replicate y.length 0, a, p, .non, .non, rfl, by simp [hl], by simpa using ha, rfl, ?_⟩
    rw [hl]
    congr 4
    rw [List.map_replicate, ← List.map_const']
  · rintro pre j post δ e ⟨g, r, post', s5, s6, e', hg, rbr, hled, rfl⟩
    have epost : post' = j :: post := by
      rw [e] at e'
      exact (List.append_cancel_left e').symm
    subst epost
    have hj : j < I.length := List.mem_range.mp (hp.mem_iff.mp (by rw [e]; simp))
    obtain ⟨q, hq⟩ : ∃ q, y[j]? = some q := ⟨_, List.getElem?_eq_getElem (by omega)⟩
    have hqm := List.mem_of_getElem? hq
    have eq : y.getD j 0 = q := by rw [List.getD_eq_getElem?_getD, hq]; rfl
    have lpre : pre.length ≤ 8 := by have := congrArg List.length e; simp at this; omega
    have mm : pre.length * (B + 1) ≤ 8 * (B + 1) := Nat.mul_le_mul_right _ lpre
    refine ⟨_, rfl, ?_⟩
    simp only [rw_seq, rw_setIx, rw_dIf, rw_tT, rw_call, rw_aCons, rw_aNil, rw_dV, rw_d2, List.getElem?_cons_succ, List.getElem?_cons_zero, slotP_p, slotO_o, pure_bind, List.set_cons_succ, List.set_cons_zero, List.length_cons, List.length_nil, Nat.zero_add, Nat.reduceAdd, run_bind, run_need, true_and, natD, tp_ix htp hq]
    refine less_run' rbr (hy _ hqm) (by omega) ?_
    by_cases c : r < q
    · rw [decide_eq_true c]
      simp [ixN_natL (show j < g.length by omega)]
      have eg : atI (List.map rD (g.set j r)) (j : Int) = some (rD r) := get_map (by rw [List.getElem?_set_self (by omega)])
      rw [← List.map_set, eg]
      simp
      refine minus_runG rbr rbr (by omega) (by omega) fun _ => ?_
      refine ⟨g.set j r, r - r, post, e, by simpa using hg, ?_, ?_, by rw [List.map_set], rfl⟩
      · rw [show r - r = 0 by grind]
        exact rb_zero (by omega)
      · rw [← hled, ledG, eq, if_pos c]
    · rw [decide_eq_false c]
      simp [ixN_natL (show j < g.length by omega), tp_ix htp hq]
      have eg : atI (List.map rD (g.set j q)) (j : Int) = some (rD q) := get_map (by rw [List.getElem?_set_self (by omega)])
      rw [← List.map_set, eg]
      simp
      refine minus_runG rbr (hy _ hqm) (by omega) (by omega) fun hm => ?_
      refine ⟨g.set j q, r - q, post, e, by simpa using hg, ?_, ?_, by rw [List.map_set], rfl⟩
      · refine hm.mono ?_
        rw [Nat.add_mul]
        omega
      · rw [← hled, ledG, eq, if_neg c]
  · rintro δ ⟨g, r, post, s5, s6, e, hg, rbr, hled, rfl⟩
    have : post = [] := by
      have := congrArg List.length e
      simp at this
      exact this
    subst this
    simp
    rw [← hled] at hk
    exact hk
theorem left_eq {I : List (Int × Int)} {g : List Rat} : ((I.zip g).map fun p => lnD (p.1.1, tmQ p.1 p.2)) = (leftQ (I.map toL) g).map lnD := by
  induction I generalizing g with
  | nil => rfl
  | cons x I ih => cases g with
    | nil => rfl
    | cons q g =>
      simp only [List.zip_cons_cons, List.map_cons, leftQ, ih]
      rfl
theorem left_ok (hI : Ins I) {g : List Rat} (hg : ∀ q ∈ g, RB q 50) : LOk (leftQ (I.map toL) g) I.length 7 68 := by
  have e : ∀ x ∈ leftQ (I.map toL) g, ∃ p ∈ I.zip g, x = (p.1.1, tmQ p.1 p.2) := by
    clear hI hg
    induction I generalizing g with
    | nil => intro x hx; cases hx
    | cons y I ih => cases g with
      | nil => intro x hx; cases hx
      | cons q g =>
        intro x hx
        rcases List.mem_cons.mp hx with rfl | hx
        · exact ⟨(y, q), by simp, rfl⟩
        · obtain ⟨p, hp, e⟩ := ih x hx
          exact ⟨p, by simp [hp], e⟩
  refine ⟨?_, fun x hx => ?_, fun x hx => ?_⟩
  · clear hI hg e
    induction I generalizing g with
    | nil => simp [leftQ]
    | cons y I ih => cases g with
      | nil => simp [leftQ]
      | cons q g => simpa [leftQ] using ih
  · obtain ⟨p, hp, rfl⟩ := e x hx
    have := hI.sl _ (zipL_mem hp).1
    exact ⟨this.1, nb7 this.1 this.2⟩
  · obtain ⟨p, hp, rfl⟩ := e x hx
    obtain ⟨m1, m2⟩ := zipL_mem hp
    exact (tmL_rb (hI.sl _ m1) (hI.bs _ m1) (hg _ m2)).mono (by omega)
theorem left_len {g : List Rat} (h : g.length = L.length) : (leftQ L g).length = L.length := by
  induction L generalizing g with
  | nil => rfl
  | cons x L ih => cases g with
    | nil => simp at h
    | cons q g => simp [leftQ, ih (g := g) (by simpa using h)]
theorem left_fst {g : List Rat} : ∀ x ∈ leftQ L g, ∃ y ∈ L, x.1 = y.1 := by
  induction L generalizing g with
  | nil => intro x hx; cases hx
  | cons y L ih => cases g with
    | nil => intro x hx; cases hx
    | cons q g =>
      intro x hx
      rcases List.mem_cons.mp hx with rfl | hx
      · exact ⟨y, by simp, rfl⟩
      · obtain ⟨z, hz, e⟩ := ih x hx
        exact ⟨z, by simp [hz], e⟩
theorem leftl_run (hI : Ins I) (htp : tp = PyData.tuple ∨ tp = PyData.list) {g : List Rat} (hl : g.length = I.length) (hg : ∀ q ∈ g, RB q 50) (hk : k (.list ((leftQ (I.map toL) g).map lnD))) : (f_left_lanes [.d (.tuple (I.map lnI)), .d (tp (g.map rD))]).run k w := by
  have l2 := hI.l2
  simp [f_left_lanes, b_left_lanes, dStart, arSl, tp_seq htp]
  rw [zipD_map]
  refine ⟨by simp [hl]; exact lt_line (by omega), lc_run (p := fun _ => true) (h := fun p => lnD (p.1.1, tmQ p.1 p.2)) (fun p hp => ⟨_, rfl, fun kb hkb => ?_, fun _ kd hkd => ?_⟩) ?_⟩
  · simpa using hkb
  · obtain ⟨m1, m2⟩ := zipL_mem hp
    simp
    have e1 : dIx (lnI p.1) (.int 0) = .pure (.int p.1.1) := by unfold lnI; simp
    rw [e1]
    simp
    refine ltm_run (hI.sl _ m1) (hI.bs _ m1) (hg _ m2) (by omega) fun _ => ⟨two_le_line, hkd⟩
  · rw [List.filter_eq_self.mpr (by simp), left_eq]
    exact hk
theorem leftlev_run (hI : Ins I) (h5 : I.length ≤ 5) {g : List Rat} (hl : g.length = I.length) (hg : ∀ q ∈ g, RB q 50) (ha : RB a 30) (h0 : 0 < a) (hk : ∀ t, Lev (leftQ (I.map toL) g) a t → RB t 880 → (tkQ (leftQ (I.map toL) g) t = a ∨ RB t 68) → k (rD t)) : (f_level_of [.d (.list ((leftQ (I.map toL) g).map lnD)), .d (rD a)]).run k w := by
  have ll : (leftQ (I.map toL) g).length = I.length := by rw [left_len (by simpa using hl)]; simp
  have l1 := hI.l1
  have b1 : ((leftQ (I.map toL) g).length + 1) * (68 + 68 + 7 + 2) ≤ 6 * (68 + 68 + 7 + 2) := Nat.mul_le_mul_right _ (by omega)
  have b2 : ((leftQ (I.map toL) g).length + 1) * (7 + 3) ≤ 6 * (7 + 3) := Nat.mul_le_mul_right _ (by omega)
  have b3 : ((leftQ (I.map toL) g).length) * (68 + 68 + 7 + 2) ≤ 5 * (68 + 68 + 7 + 2) := Nat.mul_le_mul_right _ (by omega)
  have b4 : ((leftQ (I.map toL) g).length) * (7 + 2) ≤ 5 * (7 + 2) := Nat.mul_le_mul_right _ (by omega)
  have hne : leftQ (I.map toL) g ≠ [] := fun z => by rw [z] at ll; simp at ll; omega
  refine level_run (left_ok hI hg) hne (fun x hx => ?_) (by omega) ha h0 (by omega) (by omega) fun t ht hrb he => hk t ht (hrb.mono (by omega)) he
  obtain ⟨y, hy, e⟩ := left_fst x hx
  rw [e]
  exact hI.sg y hy
theorem others_runG (hI : Ins I) (h5 : I.length ≤ 5) (htp : tp = PyData.tuple ∨ tp = PyData.list) {g : List Rat} (hl : g.length = I.length) (hg : ∀ q ∈ g, RB q 50) (ha : RB a 30) (h0 : 0 < a) (hk : ∀ t z, RestQ (leftQ (I.map toL) g) z t → sumQ z = a → (∀ q ∈ z, RB q 1000) → k (.list (z.map rD))) : (f_others_of [.d (.tuple (I.map lnI)), .d (tp (g.map rD)), .d (rD a)]).run k w := by
  have ll : (leftQ (I.map toL) g).length = I.length := by rw [left_len (by simpa using hl)]; simp
  have hn : ¬ a.num = 0 := by have := num_pos.mpr h0; omega
  have b3 : ((leftQ (I.map toL) g).length) * (68 + 68 + 7 + 2) ≤ 5 * (68 + 68 + 7 + 2) := Nat.mul_le_mul_right _ (by omega)
  have b5 : ((leftQ (I.map toL) g).length + 1) * (880 + 68 + 7 + 2) ≤ 6 * (880 + 68 + 7 + 2) := Nat.mul_le_mul_right _ (by omega)
  have hs : ∀ x ∈ leftQ (I.map toL) g, 0 ≤ x.1 := fun x hx => by
    obtain ⟨y, hy, e⟩ := left_fst x hx
    rw [e]
    rcases hI.sg y hy with z | z <;> omega
  simp [f_others_of, b_others_of, dStart, arSl]
  rw [if_neg (by grind)]
  refine leftl_run hI htp hl hg ?_
  refine leftlev_run hI h5 hl hg ha h0 fun t ht htb he => ?_
  refine flowsat_run (left_ok hI hg) (by omega) htb ha (by omega) (by omega) (by omega) (by omega) ?_
  exact hk t _ (ht.flows hs).1 (ht.flows hs).2 (fl_sharp (n := I.length) (S := 7) (Bb := 68) (left_ok hI hg) htb ha (by omega) he (by omega) (by omega))
structure Sh (σ : Rat) : Prop where
  n0 : 0 ≤ σ.num
  n1 : σ.num ≤ σ.den
  d1 : σ.den ≤ 100
theorem Sh.rb (h : Sh σ) : RB σ 7 := ⟨by have := h.n0; have := h.n1; have := h.d1; show _ < 128; omega, by have := h.d1; show _ < 128; omega⟩
theorem Sh.pos (h : Sh σ) : 0 ≤ σ := Rat.num_nonneg.mp h.n0
theorem Sh.le1 (h : Sh σ) : σ ≤ 1 := by
  have e := rat_nd σ
  have dp : (0 : Rat) < (σ.den : Rat) := by have := σ.den_pos; exact_mod_cast this
  have : ¬ 1 < σ := fun z => by
    rw [e, Rat.lt_div_iff dp] at z
    have h1 : ((σ.num : Int) : Rat) ≤ ((σ.den : Int) : Rat) := by exact_mod_cast h.n1
    have h2 : ((σ.den : Int) : Rat) = (σ.den : Rat) := rfl
    rw [h2] at h1
    grind
  grind
theorem shareL_run (hI : Ins I) (h : Dm d) (hs : Sh σ) (hk : k .none) : (f_need_share [.d (.tuple (I.map lnI)), .d (rD d), .d (rD σ)]).run k w := by
  have e1 := hs.n0
  have e2 := hs.n1
  have e3 : (σ.den : Int) ≤ 100 := by have := hs.d1; omega
  simp [f_need_share, b_need_share, dStart, arSl]
  refine needl_run hI h ?_
  refine isratio_run ?_
  simp only [run_pure, rw_truB, Bool.not_true, Bool.false_eq_true, if_false, rw_ixR0, rw_ixR1, run_bind, rw_asB]
  simp [dLe, e1, e2, e3]
  rw [if_pos hs.pos]
  exact hk
def plusL (g z : List Rat) : List Rat := List.zipWith (· + ·) g z
theorem plusL_len {g z : List Rat} (h : z.length = g.length) : (plusL g z).length = g.length := by simp [plusL, h]
theorem plusL_eq {g z : List Rat} : ((g.zip z).map fun p => p.1 + p.2) = plusL g z := by simp [plusL, List.zip, List.map_zipWith]
structure PlanQ (I : List (Int × Int)) (d σ : Rat) (y g z : List Rat) : Prop where
  best : ∃ l, RestQ (steepQ (I.map toL)) y l
  ys : sumQ y = d
  led : g = ledQ y (tmsQ (I.map toL) y) (σ * d)
  gl : g.length = I.length
  gp : Pos0 g
  zl : z.length = I.length
  zp : Pos0 z
  zs : sumQ z = d - σ * d
  rest : d - σ * d = 0 ∨ (0 < d - σ * d ∧ ∃ t, RestQ (leftQ (I.map toL) g) z t)
theorem whole_rb {g z : List Rat} (hg : ∀ q ∈ g, RB q 50) (hz : ∀ q ∈ z, RB q 1010) : ∀ q ∈ plusL g z, RB q 1061 := by
  intro q hq
  rw [← plusL_eq] at hq
  obtain ⟨p, hp, rfl⟩ := List.mem_map.mp hq
  have := List.of_mem_zip hp
  exact (hg _ this.1).add' (hz _ this.2)
theorem wholelc_run {g z : List Rat} {δ : De} {kl : List D → Prop} {i j : Nat} (hq : ∀ p ∈ g.zip z, ∃ δ1, bTup 2 (bCons (bName i) (bCons (bName j) bNil)) (PyData.tuple [rD p.1, rD p.2]) δ = some δ1 ∧ dV i δ1 = .pure (rD p.1) ∧ dV j δ1 = .pure (rD p.2)) (hg : ∀ q ∈ g, RB q 50) (hz : ∀ q ∈ z, RB q 1010) (hk : kl ((plusL g z).map rD)) :
    (lcLoop (bTup 2 (bCons (bName i) (bCons (bName j) bNil))) tYesD (dCall 2 f_plus (aCons (dV i) (aCons (dV j) aNil))) δ (zipD (g.map rD) (z.map rD))).run kl w := by
  rw [zipD_map]
  refine lc_run (p := fun _ => true) (h := fun p => rD (p.1 + p.2)) (fun p hp => ?_) ?_
  · obtain ⟨δ1, e1, e2, e3⟩ := hq p hp
    have := List.of_mem_zip hp
    refine ⟨δ1, e1, fun kb hkb => by simpa using hkb, fun _ kd hkd => ?_⟩
    simp only [rw_call, rw_aCons, rw_aNil, e2, e3, pure_bind, run_need]
    exact ⟨rfl, plus_runG (hg _ this.1) (hz _ this.2) (by omega) (by omega) fun _ => hkd⟩
  · rw [List.filter_eq_self.mpr (by simp), show ((g.zip z).map fun p => rD (p.1 + p.2)) = ((g.zip z).map fun p => p.1 + p.2).map rD by simp [Function.comp_def], plusL_eq]
    exact hk
theorem Lw.fine {I : List (Int × Int)} (h : Lw I) : Fine (steepQ (I.map toL)) := fun x hx => by
  obtain ⟨y, hy, rfl⟩ := List.mem_map.mp hx
  obtain ⟨v, hv, rfl⟩ := List.mem_map.mp hy
  refine ⟨?_, v.2, rfl⟩
  show 2 * v.1 = 0 ∨ ∃ m : Int, 0 < 2 * v.1 ∧ 0 < m ∧ m ≤ 100 ∧ m * (2 * v.1) = 200
  rcases h.sl v hv with e | e | e | e | e
  · exact .inl (by omega)
  · exact .inr ⟨100, by omega, by omega, by omega, by rw [e]; rfl⟩
  · exact .inr ⟨50, by omega, by omega, by omega, by rw [e]; rfl⟩
  · exact .inr ⟨20, by omega, by omega, by omega, by rw [e]; rfl⟩
  · exact .inr ⟨1, by omega, by omega, by omega, by rw [e]; rfl⟩
theorem isZ_rb {Q : Nat} {q : Rat} (h : IsZ Q q) (hQ : 0 < Q) (hb : Q < 2 ^ B) (h0 : 0 ≤ q) (h1 : q ≤ 1000) : RB q (B + 10) := by
  obtain ⟨n, hn⟩ := h
  have Qp : (0 : Rat) < (Q : Rat) := by exact_mod_cast hQ
  have e : q = (n : Rat) / ((Q : Int) : Rat) := by
    show q = (n : Rat) / (Q : Rat)
    have : (Q : Rat) ≠ 0 := by grind
    grind
  have n0 : (0 : Rat) ≤ (n : Rat) := by rw [← hn]; exact Rat.mul_nonneg h0 (Rat.le_of_lt Qp)
  have n1 : (n : Rat) ≤ ((1000 * (Q : Int) : Int) : Rat) := by
    rw [← hn]
    have := Rat.mul_nonneg (show 0 ≤ 1000 - q by grind) (Rat.le_of_lt Qp)
    push_cast
    show q * (Q : Rat) ≤ 1000 * (Q : Rat)
    grind
  have n0' : 0 ≤ n := by exact_mod_cast n0
  have n1' : n ≤ 1000 * (Q : Int) := by exact_mod_cast n1
  rw [e]
  refine ratio_rb (by omega) ?_ ?_
  · rw [Nat.pow_add, show (2 : Nat) ^ 10 = 1024 by decide]
    omega
  · rw [Nat.pow_add, show (2 : Nat) ^ 10 = 1024 by decide, Int.natAbs_natCast]
    omega
theorem dm_le {d : Rat} (h : Dm d) : d ≤ 1000 := by
  have dp : (0 : Rat) < (d.den : Rat) := by have := d.den_pos; exact_mod_cast this
  have dn := rat_num (d := d)
  have h1 : ((d.num : Int) : Rat) ≤ ((1000 : Int) : Rat) := by exact_mod_cast h.n2
  have h2 : ((1 : Int) : Rat) ≤ ((d.den : Int) : Rat) := by have := d.den_pos; exact_mod_cast (show (1 : Int) ≤ (d.den : Int) by omega)
  have e1 : ((1000 : Int) : Rat) = 1000 := rfl
  have e2 : ((1 : Int) : Rat) = 1 := rfl
  have e3 : ((d.den : Int) : Rat) = (d.den : Rat) := rfl
  rw [e1] at h1
  rw [e2, e3] at h2
  have hp := h.pos
  have := Rat.mul_nonneg (Rat.le_of_lt hp) (show 0 ≤ (d.den : Rat) - 1 by grind)
  grind
theorem best_small {y : List Rat} (hw : Lw I) (h : Dm d) (hy : BestQ I d y) : ∃ Q : Nat, 0 < Q ∧ Q < 2 ^ 24 ∧ ∀ q ∈ y, IsZ Q q := by
  obtain ⟨l, hl, e⟩ := hy.ex
  have ln : (steepQ (I.map toL)).length = I.length := by simp [steepQ]
  have l1 := hw.l1
  have l2 := hw.l2
  obtain ⟨k, k0, k1, k2⟩ := best_isZ hw.fine (by omega) h.pos hl
  rw [ln] at k1
  rw [← e] at k2
  refine ⟨200 * k, by omega, ?_, k2⟩
  have m1 : 100 * I.length * d.den ≤ 500 * 100 := Nat.mul_le_mul (by omega) h.d2
  show _ < 16777216
  omega
theorem plan_small {y : List Rat} (hw : Lw I) (h : Dm d) (hy : BestQ I d y) (hs : Sh σ) (h7 : σ.den ≤ 10) : (∀ q ∈ y, RB q 34) ∧ ∀ q ∈ ledQ y (tmsQ (I.map toL) y) (σ * d), RB q 44 := by
  obtain ⟨Q, q0, q1, q2⟩ := best_small hw h hy
  have d1 := dm_le h
  have yl := hy.len
  have sd : σ * d ≤ d := by
    have := Rat.mul_nonneg (show 0 ≤ 1 - σ by have := hs.le1; grind) (Rat.le_of_lt h.pos)
    grind
  have s0 : 0 ≤ σ * d := Rat.mul_nonneg hs.pos (Rat.le_of_lt h.pos)
  obtain ⟨f1, f2, f3⟩ := led_all (y := y) (ts := tmsQ (I.map toL) y) hy.pos (by rw [tms_len (by simpa using yl)]; simp [yl]) s0 (by rw [hy.sum]; exact sd)
  constructor
  · intro q hq
    refine isZ_rb (B := 24) (q2 q hq) q0 q1 (hy.pos q hq) ?_
    have := le_sum hy.pos q hq
    rw [hy.sum] at this
    exact Rat.le_trans this d1
  · intro q hq
    have z : IsZ (Q * (σ.den * d.den)) q := by
      refine led_isZ (fun q hq => (q2 q hq).up) ?_ ?_ q hq
      · have e1 := rat_num (d := σ)
        have e2 := rat_num (d := d)
        refine ⟨Q * (σ.num * d.num), ?_⟩
        push_cast
        rw [← e1, ← e2]
        grind
      · intro q hq
        rw [(List.mem_replicate.mp hq).2]
        exact .zero
    have m1 : σ.den * d.den ≤ 10 * 100 := Nat.mul_le_mul h7 h.d2
    have m0 : 0 < σ.den * d.den := Nat.mul_pos σ.den_pos d.den_pos
    refine isZ_rb (B := 34) z (Nat.mul_pos q0 m0) ?_ (f1 q hq) ?_
    · have : Q * (σ.den * d.den) ≤ Q * 1024 := Nat.mul_le_mul_left _ (by omega)
      have e : (2 : Nat) ^ 34 = 2 ^ 24 * 1024 := by decide
      rw [e]
      exact Nat.lt_of_le_of_lt this (Nat.mul_lt_mul_of_pos_right q1 (by decide))
    · have := le_sum f1 q hq
      rw [f2] at this
      exact Rat.le_trans this (Rat.le_trans sd d1)
theorem plan_runG (hw : Lw I) (h : Dm d) (hs : Sh σ) (h7 : σ.den ≤ 10) (hk : ∀ y g z, PlanQ I d σ y g z → (∀ q ∈ y, RB q 34) → (∀ q ∈ g, RB q 44) → (∀ q ∈ z, RB q 1000) → RB (whQ (I.map toL) (plusL g z)) 11000 → k (.tuple [.tuple (y.map rD), .tuple (g.map rD), .tuple (z.map rD), rD (whQ (I.map toL) (plusL g z))])) : (f_leader_plan [.d (.tuple (I.map lnI)), .d (rD d), .d (rD σ)]).run k w := by
  have hI := hw.ins
  have l1 := hw.l1
  have h5 := hw.l2
  simp only [f_leader_plan, rw_dRun, dStart, arSl, List.map_cons, List.map_nil]
  unfold b_leader_plan
  simp only [run_bind]
  refine seq_mid (fun δ => δ = [.p (.tuple (I.map lnI)), .p (rD d), .p (rD σ), .non, .non, .non, .non, .non, .non, .non]) (by simp; exact shareL_run hI h hs (by simp)) ?_
  rintro δ rfl
  refine seq_mid (fun δ => ∃ y, BestQ I d y ∧ δ = [.p (.tuple (I.map lnI)), .p (rD d), .p (rD σ), .p (.list (y.map rD)), .non, .non, .non, .non, .non, .non]) (by simp only [rw_set, rw_call]; simp; exact best_run hI h5 h fun y hy => ⟨y, hy, rfl⟩) ?_
  rintro δ ⟨y, hy, rfl⟩
  have yl := hy.len
  obtain ⟨ry, rg⟩ := plan_small hw h hy hs h7
  have sd : σ * d ≤ d := by
    have := Rat.mul_nonneg (show 0 ≤ 1 - σ by have := hs.le1; grind) (Rat.le_of_lt h.pos)
    grind
  have s0 : 0 ≤ σ * d := Rat.mul_nonneg hs.pos (Rat.le_of_lt h.pos)
  have ra : RB (σ * d) 17 := (hs.rb.mul' h.rb).mono (by omega)
  have rr : RB (d - σ * d) 30 := (h.rb.sub' ra).mono (by omega)
  obtain ⟨f1, f2, f3⟩ := led_all (y := y) (ts := tmsQ (I.map toL) y) hy.pos (by rw [tms_len (by simpa using yl)]; simp [yl]) s0 (by rw [hy.sum]; exact sd)
  refine seq_mid (fun δ => δ = [.p (.tuple (I.map lnI)), .p (rD d), .p (rD σ), .p (.list (y.map rD)), .p (rD (σ * d)), .non, .non, .non, .non, .non]) ?_ ?_
  · simp
    exact by_run' hs.rb h.rb (by omega) fun _ => rfl
  rintro δ rfl
  refine seq_mid (fun δ => δ = [.p (.tuple (I.map lnI)), .p (rD d), .p (rD σ), .p (.list (y.map rD)), .p (rD (σ * d)), .p (.list ((ledQ y (tmsQ (I.map toL) y) (σ * d)).map rD)), .non, .non, .non, .non]) ?_ ?_
  · simp
    exact led_runG (tp := PyData.list) hI (.inr rfl) yl ry (by omega) (ra.mono (by omega)) (by omega) rfl
  rintro δ rfl
  generalize hg : ledQ y (tmsQ (I.map toL) y) (σ * d) = g at *
  have gl : g.length = I.length := by rw [f3, yl]
  refine seq_mid (fun δ => ∃ z, PlanQ I d σ y g z ∧ (∀ q ∈ z, RB q 1000) ∧ δ = [.p (.tuple (I.map lnI)), .p (rD d), .p (rD σ), .p (.list (y.map rD)), .p (rD (σ * d)), .p (.list (g.map rD)), .p (.list (z.map rD)), .non, .non, .non]) ?_ ?_
  · simp only [rw_set, rw_call, rw_aCons, rw_aNil, rw_dV, List.getElem?_cons_succ, List.getElem?_cons_zero, slotP_p, pure_bind, run_bind, run_need, run_pure, List.length_cons, List.length_nil, Nat.zero_add, Nat.reduceAdd, true_and]
    refine minus_run' h.rb ra (by omega) fun _ => ?_
    by_cases c : d - σ * d = 0
    · rw [c]
      refine others0_run (by omega) ⟨_, rfl, I.map fun _ => 0, ⟨hy.rest, hy.sum, hg.symm, gl, f1, by simp, fun q hq => ?_, ?_, .inl c⟩, fun q hq => ?_, rfl⟩
      · obtain ⟨_, _, rfl⟩ := List.mem_map.mp hq
        exact Rat.le_refl
      · rw [c, List.map_const', rep_sum]
      · obtain ⟨_, _, rfl⟩ := List.mem_map.mp hq
        exact rb_zero (by omega)
    · have rp : 0 < d - σ * d := by grind
      refine others_runG (tp := PyData.list) hI h5 (.inr rfl) gl (fun q hq => (rg q hq).mono (by omega)) rr rp fun t z hz hzs hzb => ?_
      exact ⟨_, rfl, z, ⟨hy.rest, hy.sum, hg.symm, gl, f1, by rw [hz.len, left_len (by simpa using gl)]; simp, hz.pos, hzs, .inr ⟨rp, t, hz⟩⟩, hzb, rfl⟩
  rintro δ ⟨z, hp, rz, rfl⟩
  have rg5 : ∀ q ∈ g, RB q 50 := fun q hq => (rg q hq).mono (by omega)
  have rz5 : ∀ q ∈ z, RB q 1010 := fun q hq => (rz q hq).mono (by omega)
  refine seq_mid (fun δ => δ = [.p (.tuple (I.map lnI)), .p (rD d), .p (rD σ), .p (.list (y.map rD)), .p (rD (σ * d)), .p (.list (g.map rD)), .p (.list (z.map rD)), .o ((plusL g z).map rD), .non, .non]) ?_ ?_
  · rw [rw_setO, rw_nLc, rw_iZpD]
    simp only [run_bind, rw_dV, List.getElem?_cons_succ, List.getElem?_cons_zero, slotP_p, pure_bind, rw_seqL, run_pure, run_need]
    refine ⟨by simp [zipD_len, gl, hp.zl]; exact lt_line (by omega), wholelc_run (fun p hp => ⟨_, rfl, rfl, rfl⟩) rg5 rz5 ?_⟩
    exact ⟨_, rfl, rfl⟩
  rintro δ rfl
  simp
  have m5 : (I.length + 1) * (1061 + (7 + 1061 + 10 + 1) + 1) ≤ 6 * (1061 + (7 + 1061 + 10 + 1) + 1) := Nat.mul_le_mul_right _ (by omega)
  have m6 : I.length * (1061 + (7 + 1061 + 10 + 1) + 1) ≤ 5 * (1061 + (7 + 1061 + 10 + 1) + 1) := Nat.mul_le_mul_right _ (by omega)
  refine total_run hI (by rw [plusL_len (by rw [hp.zl, gl]), gl]) (whole_rb rg5 rz5) (by omega) (by omega) fun q => ⟨by decide, hk y g z hp ry rg rz (q.mono (by omega))⟩
theorem shaped_list (cs : List Rat) : SeqAt.shaped (.tuple (cs.map rD)) = true := by
  have h1 : PyData.canLayAll0 (cs.map rD) = true := by
    induction cs with
    | nil => rfl
    | cons c cs ih => rw [List.map_cons, PyData.canLayAll0, ih]; rfl
  have h3 : PyData.depthAll (cs.map rD) ≤ 1 := by
    clear h1
    induction cs with
    | nil => exact Nat.zero_le _
    | cons c cs ih =>
      rw [List.map_cons, PyData.depthAll]
      have : (rD c).depth = 1 := by simp [rD, PyData.depth, PyData.depthAll]
      omega
  have h2 : (PyData.tuple (cs.map rD)).depth ≤ 64 := by
    rw [PyData.depth]
    omega
  unfold SeqAt.shaped
  rw [show (PyData.tuple (cs.map rD)).canLay0 = PyData.canLayAll0 (cs.map rD) by simp [PyData.canLay0], h1, decide_eq_true h2]
  rfl
theorem lshare_q (n : Int) (n0 : 0 ≤ n) (n1 : n < 8) : Sh ((n : Rat) / ((7 : Int) : Rat)) ∧ ((n : Rat) / ((7 : Int) : Rat)).den ≤ 7 := by
  obtain ⟨e1, e2⟩ := ratio_nd (t := n) (b := 7) (by omega)
  have g := gcd_pos' (t := n) (b := 7) (by omega)
  have l2 := Int.ediv_le_self (b := ((Nat.gcd n.natAbs (7 : Int).natAbs : Nat) : Int)) (show 0 ≤ (7 : Int) by omega)
  have l1 : n / ((Nat.gcd n.natAbs (7 : Int).natAbs : Nat) : Int) ≤ 7 / ((Nat.gcd n.natAbs (7 : Int).natAbs : Nat) : Int) := Int.ediv_le_ediv (by omega) (by omega)
  have l0 : 0 ≤ n / ((Nat.gcd n.natAbs (7 : Int).natAbs : Nat) : Int) := Int.ediv_nonneg n0 (by omega)
  exact ⟨⟨by omega, by omega, by omega⟩, by omega⟩
end

end Tr

namespace Tr
open PySem PySem.Spec L2
variable [ProtC]
section
variable {I : List (Int × Int)} {d σ M : Rat} {y g z fs : List Rat}
theorem eq_of_getD {a b : List Rat} (hl : a.length = b.length) (h : ∀ i, a.getD i 0 = b.getD i 0) : a = b := by
  refine List.ext_getElem hl fun i h1 h2 => ?_
  have := h i
  simpa [List.getD_eq_getElem?_getD, h1, h2] using this
theorem zeros_of {z : List Rat} (hz : Pos0 z) (hs : sumQ z = 0) : z = List.replicate z.length 0 := by
  refine List.eq_replicate_iff.mpr ⟨rfl, fun q hq => ?_⟩
  have a := hz q hq
  have b := le_sum hz q hq
  rw [hs] at b
  exact Rat.le_antisymm b a
theorem plus_zero {n : Nat} (h : y.length = n) : plusL y (List.replicate n 0) = y := by
  subst h
  induction y with
  | nil => rfl
  | cons q y ih =>
    unfold plusL at ih ⊢
    rw [List.length_cons, List.replicate_succ, List.zipWith_cons_cons, ih, Rat.add_zero]
theorem zero_plus {n : Nat} (h : y.length = n) : plusL (List.replicate n 0) y = y := by
  subst h
  induction y with
  | nil => rfl
  | cons q y ih =>
    unfold plusL at ih ⊢
    rw [List.length_cons, List.replicate_succ, List.zipWith_cons_cons, ih, Rat.zero_add]
theorem left_zero : ∀ {L : List Ln}, leftQ L (List.replicate L.length 0) = L
  | [] => rfl
  | x :: L => by
    rw [List.length_cons, List.replicate_succ, leftQ, left_zero, Rat.mul_zero, Rat.zero_add]
theorem PlanQ.yl (h : PlanQ I d σ y g z) : y.length = I.length ∧ Pos0 y := by
  obtain ⟨l, hl⟩ := h.best
  exact ⟨by rw [hl.len]; simp [steepQ], hl.pos⟩
theorem PlanQ.gle (h : PlanQ I d σ y g z) (s0 : 0 ≤ σ) (d0 : 0 < d) : ∀ i, g.getD i 0 ≤ y.getD i 0 := by
  rw [h.led]
  exact (led_order h.yl.2 (by rw [tms_len (by simpa using h.yl.1)]; simp [h.yl.1]) (Rat.mul_nonneg s0 (Rat.le_of_lt d0))).1
theorem PlanQ.gs (h : PlanQ I d σ y g z) (s0 : 0 ≤ σ) (s1 : σ ≤ 1) (d0 : 0 < d) : sumQ g = σ * d := by
  rw [h.led]
  refine (led_all h.yl.2 (by rw [tms_len (by simpa using h.yl.1)]; simp [h.yl.1]) (Rat.mul_nonneg s0 (Rat.le_of_lt d0)) ?_).2.1
  rw [h.ys]
  have := Rat.mul_nonneg (show 0 ≤ 1 - σ by grind) (Rat.le_of_lt d0)
  grind
theorem plan_one (d0 : 0 < d) (h : PlanQ I d 1 y g z) : g = y ∧ z = List.replicate I.length 0 ∧ plusL g z = y := by
  have yl := h.yl
  have le := h.gle (by decide) d0
  have gs := h.gs (by decide) (by decide) d0
  have e1 : g = y := by
    refine eq_of_getD (by rw [h.gl, yl.1]) fun i => ?_
    refine Rat.le_antisymm (le i) (Classical.byContradiction fun c => ?_)
    obtain ⟨j, hj⟩ := sum_above (a := y) (b := g) (by rw [h.gl, yl.1]) (by rw [gs, h.ys]; grind) (i := i) (by grind)
    have := le j
    grind
  have e2 : z = List.replicate I.length 0 := by
    have := zeros_of h.zp (by rw [h.zs]; grind)
    rw [h.zl] at this
    exact this
  exact ⟨e1, e2, by rw [e1, e2, plus_zero yl.1]⟩
theorem plan_zero (d0 : 0 < d) (h : PlanQ I d 0 y g z) : g = List.replicate I.length 0 ∧ plusL g z = z ∧ sumQ z = d ∧ ∃ t, RestQ (I.map toL) z t := by
  have gs := h.gs (by decide) (by decide) d0
  have e1 : g = List.replicate I.length 0 := by
    have := zeros_of h.gp (by rw [gs]; grind)
    rw [h.gl] at this
    exact this
  refine ⟨e1, by rw [e1, zero_plus h.zl], by rw [h.zs]; grind, ?_⟩
  rcases h.rest with q | ⟨_, t, ht⟩
  · grind
  · refine ⟨t, ?_⟩
    rw [e1] at ht
    have e := left_zero (L := I.map toL)
    rw [List.length_map] at e
    rw [e] at ht
    exact ht
theorem plan_bound (hL : Lok (I.map toL)) (d0 : 0 < d) (s0 : 0 ≤ σ) (s1 : σ ≤ 1) (h : PlanQ I d σ y g z) : whQ (I.map toL) y ≤ whQ (I.map toL) (plusL g z) ∧ σ * whQ (I.map toL) (plusL g z) ≤ whQ (I.map toL) y := by
  obtain ⟨l, hl⟩ := h.best
  have yl := h.yl
  have gs := h.gs s0 s1 d0
  have pl : (plusL g z).length = I.length := by rw [plusL_len (by rw [h.zl, h.gl]), h.gl]
  have ps : sumQ (plusL g z) = d := by
    unfold plusL
    rw [zip_sum (by rw [h.zl, h.gl]), gs, h.zs]
    grind
  have pp : Pos0 (plusL g z) := fun q hq => by
    rw [← plusL_eq] at hq
    obtain ⟨p, hp, rfl⟩ := List.mem_map.mp hq
    have m := List.of_mem_zip hp
    exact Rat.add_nonneg (h.gp _ m.1) (h.zp _ m.2)
  refine ⟨best_least hL hl pp (by rw [pl, List.length_map]) (by rw [ps, h.ys]), ?_⟩
  rcases h.rest with q | ⟨_, t, ht⟩
  · have e : σ = 1 := by
      have : (1 - σ) * d = 0 := by grind
      rcases Rat.mul_eq_zero.mp this with z | z
      · grind
      · grind
    subst e
    rw [(plan_one d0 h).2.2, Rat.one_mul]
    exact Rat.le_refl
  · have eg := h.led
    rw [eg] at ht ⊢
    exact led_bound hL yl.2 (by rw [yl.1, List.length_map]) h.ys s0 s1 (Rat.le_of_lt d0) (by rw [h.zl, List.length_map]) h.zs ht
end

end Tr

namespace Tr
open PySem PySem.Spec L2
variable [ProtC]
section
variable {k : D → Prop} {w : Exn → Prop} {L : List Ln} {t d : Rat} {n S Bb Bt Bd B : Nat} {fs : List Rat}
inductive Fe where
  | q (r : Rat)
  | one
def feD : Fe → D
  | .q r => rD r
  | .one => .int 1
def feOk : Fe → Bool
  | .q r => decide (0 ≤ r)
  | .one => false
def feQ : Fe → Rat
  | .q r => r
  | .one => 0
def FeB (B : Nat) : Fe → Prop
  | .q r => RB r B
  | .one => True
theorem fe_all {es : List Fe} (h : es.all feOk = true) : es.map feD = (es.map feQ).map rD ∧ Pos0 (es.map feQ) := by
  induction es with
  | nil => exact ⟨rfl, fun q hq => by simp at hq⟩
  | cons e es ih =>
    simp only [List.all_cons, Bool.and_eq_true] at h
    obtain ⟨a, b⟩ := ih h.2
    cases e with
    | one => simp [feOk] at h
    | q r =>
      refine ⟨by simp only [List.map_cons, a, feD, feQ], fun q hq => ?_⟩
      simp only [List.map_cons, List.mem_cons, feQ] at hq
      rcases hq with rfl | hq
      · simpa [feOk] using h.1
      · exact b q hq
theorem isratio_int {z : Int} (hk : k (.bool false)) : (f_is_ratio [.d (.int z)]).run k w := by
  simp [f_is_ratio, b_is_ratio, dStart, arSl]
  exact hk
theorem areflows_dec {s : List D} {es : List Fe} (hk : k (.bool (decide (es.length = s.length) && es.all feOk))) : (f_are_flows [.d (.tuple s), .d (.tuple (es.map feD))]).run k w := by
  simp [f_are_flows, b_are_flows, dStart, arSl]
  by_cases c : es.length = s.length
  · simp [c]
    refine ga_run (p := feOk) (fun e he => ⟨_, rfl, fun kb hkb => ?_, fun kd hkd => ?_⟩) ?_
    · simpa using hkb
    · cases e with
      | one =>
        simp [feD]
        refine isratio_int ?_
        simpa [feOk] using hkd
      | q r =>
        simp [feD]
        refine isratio_run ?_
        simp
        exact hkd
    · simpa [c] using hk
  · have c' : ¬ ((es.length : Int) = s.length) := by omega
    simpa [c, c'] using hk
theorem dorest_dec (h : LOk L n S Bb) (hS : 0 < S) (hl : fs.length = L.length) (hp : Pos0 fs) (hf : ∀ q ∈ fs, RB q B) (ht : RB t Bt) (hB : S + B + Bb + Bt + 10 < 4000) (hk : ∀ b : Bool, (b = true ↔ RestQ L fs t) → k (.bool b)) : (f_do_rest [.d (.list (L.map lnD)), .d (rD t), .d (.tuple (fs.map rD))]).run k w := by
  simp [f_do_rest, b_do_rest, dStart, arSl]
  rw [zipD_map]
  have key : ∀ (L : List Ln) (fs : List Rat), fs.length = L.length → Pos0 fs → (RestQ L fs t ↔ ∀ p ∈ L.zip fs, t ≤ p.1.1 * p.2 + p.1.2 ∧ (0 < p.2 → p.1.1 * p.2 + p.1.2 = t)) := by
    intro L
    induction L with
    | nil => intro fs hl _; cases fs with
      | nil => exact ⟨fun _ p hp => by simp at hp, fun _ => trivial⟩
      | cons _ _ => cases hl
    | cons x L ih => intro fs hl hp; cases fs with
      | nil => cases hl
      | cons f fs =>
        have i := ih fs (by simpa using hl) fun q hq => hp q (by simp [hq])
        constructor
        · rintro ⟨_, h2, h3, h4⟩ p hp
          rcases List.mem_cons.mp hp with rfl | hp
          · exact ⟨h2, h3⟩
          · exact i.mp h4 p hp
        · intro h
          have := h (x, f) (by simp)
          exact ⟨hp f (by simp), this.1, this.2, i.mpr fun p hp => h p (by simp [hp])⟩
  have key := key L fs hl hp
  refine loop_pre (fun pre δ => (∀ p ∈ pre, t ≤ p.1.1 * p.2 + p.1.2 ∧ (0 < p.2 → p.1.1 * p.2 + p.1.2 = t)) ∧ ∃ s3 s4 s5 s6, δ = [.p (.list (L.map lnD)), .p (rD t), .p (.tuple (fs.map rD)), s3, s4, s5, s6]) ⟨by simp, _, _, _, _, rfl⟩ ?_ ?_
  · rintro pre p post δ e ⟨hpre, s3, s4, s5, s6, rfl⟩
    have hp : p ∈ L.zip fs := by rw [e]; simp
    obtain ⟨m1, m2⟩ := List.of_mem_zip hp
    refine ⟨_, rfl, ?_⟩
    simp
    simp only [rD_int]
    refine ⟨two_le_line, by_run' (rb_int (h.sl _ m1).2 hS) (hf _ m2) (by omega) fun g => plus_run' g (h.bs _ m1) (by omega) fun g => ?_⟩
    simp
    refine less_run' g ht (by omega) ?_
    by_cases c1 : p.1.1 * p.2 + p.1.2 < t
    · have : ¬ RestQ L fs t := fun z => by
        have := (key.mp z p hp).1
        grind
      simp [c1]
      exact hk false (by simpa using this)
    · simp [c1]
      by_cases c : 0 < p.2
      · simp [num_pos.mpr c, eqv_rD]
        by_cases c2 : p.1.1 * p.2 + p.1.2 = t
        · simp [c2]
          intro a b q hq
          rcases hq with hq | hq
          · exact hpre _ hq
          · have e3 : a = p.1.1 ∧ b = p.1.2 ∧ q = p.2 := by rw [← hq]; exact ⟨rfl, rfl, rfl⟩
            rw [e3.1, e3.2.1, e3.2.2]
            exact ⟨by rw [c2]; exact Rat.le_refl, fun _ => c2⟩
        · have : ¬ RestQ L fs t := fun z => c2 ((key.mp z p hp).2 c)
          simp [c2]
          exact hk false (by simpa using this)
      · have c' : ¬ 0 < p.2.num := fun z => c (num_pos.mp z)
        simp [c']
        intro a b q hq
        rcases hq with hq | hq
        · exact hpre _ hq
        · have e3 : a = p.1.1 ∧ b = p.1.2 ∧ q = p.2 := by rw [← hq]; exact ⟨rfl, rfl, rfl⟩
          rw [e3.1, e3.2.1, e3.2.2]
          exact ⟨by grind, fun z => absurd z c⟩
  · rintro δ ⟨hall, s3, s4, s5, s6, rfl⟩
    simp
    exact hk true (by simpa using key.mpr hall)
inductive LaneD : Ln → D → Prop
  | int (s b : Int) : LaneD (s, (b : Rat)) (.tuple [.int s, .int b])
  | rat (x : Ln) : LaneD x (lnD x)
theorem lisratio_int {z : Int} (hk : k (.bool false)) : (f_law_is_ratio [.d (.int z)]).run k w := by
  simp [f_law_is_ratio, b_law_is_ratio, dStart, arSl]
  exact hk
theorem ltime_dec {x : Ln} {xd : D} {f : Rat} (hx : LaneD x xd) (h1 : 0 ≤ x.1 ∧ x.1.natAbs < 2 ^ S) (hS : 0 < S) (h2 : RB x.2 Bb) (hf : RB f B) (hB : S + B + Bb + 10 < 4000) (hk : RB (x.1 * f + x.2) (S + B + Bb + 1) → k (rD (x.1 * f + x.2))) : (f_law_time [.d xd, .d (rD f)]).run k w := by
  cases hx with
  | int s b =>
    simp [f_law_time, b_law_time, dStart, arSl]
    simp only [rD_int]
    refine ⟨two_le_line, lby_run' (rb_int h1.2 hS) hf (by omega) fun g => ⟨two_le_line, lplus_run' g h2 (by omega) fun g => hk (g.mono (by omega))⟩⟩
  | rat x =>
    simp [f_law_time, b_law_time, dStart, arSl, lnD]
    simp only [rD_int]
    refine ⟨two_le_line, lby_run' (rb_int h1.2 hS) hf (by omega) fun g => ?_⟩
    rw [show isTy "int" (rD x.2) = some false from rfl]
    simp
    exact lplus_run' g h2 (by omega) fun g => hk (g.mono (by omega))
theorem shaped_flat {ds : List D} (h : ∀ d ∈ ds, d.canLay0 = true ∧ d.depth ≤ 2) : SeqAt.shaped (.list ds) = true ∧ SeqAt.shaped (.tuple ds) = true := by
  have h1 : PyData.canLayAll0 ds = true := by
    induction ds with
    | nil => rfl
    | cons c cs ih => rw [PyData.canLayAll0, ih fun d hd => h d (by simp [hd]), (h c (by simp)).1]; rfl
  have h3 : PyData.depthAll ds ≤ 2 := by
    clear h1
    induction ds with
    | nil => exact Nat.zero_le _
    | cons c cs ih =>
      rw [PyData.depthAll]
      have := (h c (by simp)).2
      have := ih fun d hd => h d (by simp [hd])
      omega
  have h2 : (PyData.tuple ds).depth ≤ 64 ∧ (PyData.list ds).depth ≤ 64 := by
    rw [PyData.depth, PyData.depth]
    omega
  unfold SeqAt.shaped
  rw [show (PyData.tuple ds).canLay0 = PyData.canLayAll0 ds by simp [PyData.canLay0], show (PyData.list ds).canLay0 = PyData.canLayAll0 ds by simp [PyData.canLay0], h1, decide_eq_true h2.1, decide_eq_true h2.2]
  exact ⟨rfl, rfl⟩
theorem rD_flat (q : Rat) : (rD q).canLay0 = true ∧ (rD q).depth ≤ 2 := ⟨by simp [rD, PyData.canLay0, PyData.canLayAll0], by simp [rD, PyData.depth, PyData.depthAll]⟩
theorem int_flat (z : Int) : (PyData.int z).canLay0 = true ∧ (PyData.int z).depth ≤ 2 := ⟨rfl, by simp [PyData.depth]⟩
theorem fe_flat (e : Fe) : (feD e).canLay0 = true ∧ (feD e).depth ≤ 2 := by
  cases e with
  | q r => exact rD_flat r
  | one => exact int_flat 1
theorem eqv_lnil {ds : List D} : PyData.eqv (.list ds) (.list []) = ds.isEmpty := by cases ds <;> rfl
theorem tms_map {G : Nat → D} {fs : List Rat} (hl : fs.length = L.length) (hG : ∀ i, i < L.length → G i = rD ((tmsQ L fs).getD i 0)) : (List.range L.length).map G = (tmsQ L fs).map rD := by
  have tl := tms_len hl
  apply List.ext_getElem?
  intro i
  by_cases h : i < L.length
  · rw [List.getElem?_map, List.getElem?_range h, List.getElem?_map, List.getElem?_eq_getElem (by omega)]
    simp [hG i h, List.getD_eq_getElem?_getD, tl, h]
  · rw [List.getElem?_eq_none (by simpa using h), List.getElem?_eq_none (by simp [tl]; omega)]
theorem lrests_dec {ls : List D} {es : List Fe} (h : LOk L n S Bb) (hS : 0 < S) (hl1 : 1 ≤ L.length) (hl9 : L.length ≤ 9) (hls : ls.length = L.length) (hld : ∀ (i : Nat) (x : Ln) (xd : D), L[i]? = some x → ls[i]? = some xd → LaneD x xd)
    (hent : ∀ e ∈ es, FeB B e) (hes : es.length < 1000) (hd : RB d Bd) (d0 : 0 < d) (hB : S + B + Bb + 10 < 4000) (hm : B < 3000) (hy : es.length = L.length → es.all feOk = true → sumQ (es.map feQ) = d → (∃ t, RestQ L (es.map feQ) t) → RB (leastQ (tmsQ L (es.map feQ))) (S + B + Bb + 1) → k (rD (leastQ (tmsQ L (es.map feQ)))))
    (hn : ¬ (es.length = L.length ∧ es.all feOk = true ∧ sumQ (es.map feQ) = d ∧ ∃ t, RestQ L (es.map feQ) t) → k .none) : (f_law_lane_rests [.d (.tuple ls), .d (rD d), .d (.tuple (es.map feD))]).run k w := by
  show ((b_law_lane_rests (dStart 7 [.d (.tuple ls), .d (rD d), .d (.tuple (es.map feD))])).bind _).run _ _
  rw [run_bind]
  have e0 : dStart 7 [.d (.tuple ls), .d (rD d), .d (.tuple (es.map feD))] = [.p (.tuple ls), .p (rD d), .p (.tuple (es.map feD)), .non, .non, .non, .non] := rfl
  rw [e0]
  unfold b_law_lane_rests
  refine seqM' (fun δ => (es.length = L.length ∧ es.all feOk = true) ∧ δ = [.p (.tuple ls), .p (rD d), .p (.tuple (es.map feD)), .non, .non, .non, .non]) ?_ ?_
  · rw [rw_if]
    simp [hls]
    by_cases c : es.length = L.length
    · simp only [c, if_true]
      refine ⟨lineN (by omega), lc_run (p := fun e => !feOk e) (h := feD) (fun e he => ⟨_, rfl, fun kb hb => ?_, fun _ kd hkd => ?_⟩) ?_⟩
      · cases e with
        | one =>
          simp [feD]
          refine lisratio_int ?_
          simpa [feOk] using hb
        | q r =>
          have rb : RB r B := hent _ he
          simp [feD]
          refine lisratio_run rb (by omega) ?_
          have e1 : (!feOk (.q r)) = decide (r.num < 0) := by
            unfold feOk
            by_cases c : 0 ≤ r
            · have : ¬ r.num < 0 := by have := Rat.num_nonneg.mpr c; omega
              simp [c, this]
            · have : r.num < 0 := by
                have : ¬ 0 ≤ r.num := fun z => c (Rat.num_nonneg.mp z)
                omega
              simp [c, this]
          rw [e1] at hb
          simpa using hb
      · simpa using hkd
      · refine ⟨(shaped_flat fun d hd => by obtain ⟨e, _, rfl⟩ := List.mem_map.mp hd; exact fe_flat e).1, ?_⟩
        rw [eqv_lnil]
        by_cases ca : es.all feOk = true
        · have : es.filter (fun e => !feOk e) = [] := List.filter_eq_nil_iff.mpr fun e he => by
            have := List.all_eq_true.mp ca e he
            simp [this]
          rw [this]
          simpa using ca
        · have : es.filter (fun e => !feOk e) ≠ [] := fun z => ca (List.all_eq_true.mpr fun e he => by
            have := List.filter_eq_nil_iff.mp z e he
            simpa using this)
          obtain ⟨e, r, er⟩ := List.exists_cons_of_ne_nil this
          rw [er]
          simp
          exact hn fun z => ca z.2.1
    · have c' : ¬ ((es.length : Int) = L.length) := by omega
      rw [if_neg c']
      exact hn fun z => c z.1
  rintro _ ⟨⟨el, ea⟩, rfl⟩
  obtain ⟨ed, ep⟩ := fe_all ea
  obtain ⟨fs, hfs⟩ : ∃ fs, fs = es.map feQ := ⟨_, rfl⟩
  rw [← hfs] at ed ep hy hn
  have fl : fs.length = L.length := by rw [hfs, List.length_map, el]
  have frb : ∀ q ∈ fs, RB q B := fun q hq => by
    rw [hfs] at hq
    obtain ⟨e, hm, rfl⟩ := List.mem_map.mp hq
    have := hent e hm
    cases e with
    | q r => exact this
    | one => have := List.all_eq_true.mp ea _ hm; simp [feOk] at this
  rw [ed]
  refine seqM' (fun δ => sumQ fs = d ∧ δ = [.p (.tuple ls), .p (rD d), .p (.tuple (fs.map rD)), .non, .non, .non, .non]) ?_ ?_
  · rw [rw_if]
    simp
    refine lsum_run frb ?_ (by omega) fun _ => ?_
    · have : (fs.length + 1) * (B + 1) ≤ 10 * (B + 1) := Nat.mul_le_mul_right _ (by omega)
      omega
    · simp
      rw [eqv_rD]
      by_cases c : sumQ fs = d
      · simp [c]
      · simp [c]
        exact hn fun z => c z.2.2.1
  rintro _ ⟨hsum, rfl⟩
  have tl := tms_len fl
  have trb : ∀ q ∈ tmsQ L fs, RB q (S + B + Bb + 1) := fun q hq => by
    obtain ⟨i, hi, rfl⟩ := List.getElem_of_mem hq
    have hi' : i < L.length := by omega
    obtain ⟨x, hx, ex⟩ := tms_getD fl hi'
    have m1 := List.mem_of_getElem? hx
    have m2 : fs.getD i 0 ∈ fs := by
      rw [List.getD_eq_getElem?_getD, List.getElem?_eq_getElem (by omega)]
      exact List.getElem_mem _
    have e : (tmsQ L fs)[i] = (tmsQ L fs).getD i 0 := by simp [List.getD_eq_getElem?_getD, hi]
    rw [e, ex]
    exact (((rb_int (h.sl _ m1).2 hS).mul' (frb _ m2)).add' (h.bs _ m1)).mono (by omega)
  refine seqM (fun δ => ∃ s5, δ = [.p (.tuple ls), .p (rD d), .p (.tuple (fs.map rD)), .non, .p (.list ((tmsQ L fs).map rD)), s5, .non]) ?_ ?_
  · simp only [rw_set, rw_dNl, rw_nLc, rw_rg1, rw_dCB, rw_aCons, rw_aNil, rw_dV, List.getElem?_cons_succ, List.getElem?_cons_zero, slotP_p, pure_bind, run_bind, run_pure, run_need, List.length_cons, List.length_nil]
    simp [hls]
    refine ⟨lo62_le (by omega) (by omega), lt_line (by omega), ?_⟩
    rw [show rgD 0 L.length = (List.range L.length).map natD by unfold rgD natD; simp]
    refine lc_run (p := fun _ => true) (h := fun i => rD ((tmsQ L fs).getD i 0)) (fun i hi => ⟨_, rfl, fun kb hkb => ?_, fun _ kd hkd => ?_⟩) ?_
    · simpa using hkb
    · have hi := List.mem_range.mp hi
      obtain ⟨x, hx, ex⟩ := tms_getD fl hi
      have m1 := List.mem_of_getElem? hx
      have hf2 : fs[i]? = some (fs[i]'(by omega)) := List.getElem?_eq_getElem (by omega)
      have m2 := List.mem_of_getElem? hf2
      have ef : fs.getD i 0 = fs[i]'(by omega) := by simp [List.getD_eq_getElem?_getD, hf2]
      have hxd : ls[i]? = some (ls[i]'(by omega)) := List.getElem?_eq_getElem (by omega)
      simp [natD, get_map hf2]
      rw [atI_nat, hxd]
      simp
      refine ltime_dec (hld i x _ hx hxd) (h.sl _ m1) hS (h.bs _ m1) (frb _ m2) hB fun g => ?_
      rw [ex, ef] at hkd
      exact hkd
    · rw [List.filter_eq_self.mpr (by simp), tms_map fl fun i hi => rfl]
  rintro _ ⟨s5, rfl⟩
  obtain ⟨a, r, ear⟩ : ∃ a r, tmsQ L fs = a :: r := List.exists_cons_of_ne_nil fun z => by rw [z] at tl; simp at tl; omega
  have hm0 : leastQ (tmsQ L fs) = (tmsQ L fs).foldl (fun m q => if q < m then q else m) a := by
    unfold leastQ
    rw [ear]
    rfl
  refine seqM (fun δ => δ = [.p (.tuple ls), .p (rD d), .p (.tuple (fs.map rD)), .non, .p (.list ((tmsQ L fs).map rD)), s5, .p (rD a)]) ?_ ?_
  · rw [ear]
    simp
  rintro _ rfl
  refine seqM (fun δ => ∃ s3 : Sl, RB (leastQ (tmsQ L fs)) (S + B + Bb + 1) ∧ δ = [.p (.tuple ls), .p (rD d), .p (.tuple (fs.map rD)), s3, .p (.list ((tmsQ L fs).map rD)), s5, .p (rD (leastQ (tmsQ L fs)))]) ?_ ?_
  · rw [rw_for]
    simp only [rw_iSeqD, rw_dV, List.getElem?_cons_succ, List.getElem?_cons_zero, slotP_p, pure_bind, run_bind, rw_seqL, run_pure]
    refine loop_pre (fun pre δ => ∃ s3 : Sl, RB (pre.foldl (fun m q => if q < m then q else m) a) (S + B + Bb + 1) ∧ δ = [.p (.tuple ls), .p (rD d), .p (.tuple (fs.map rD)), s3, .p (.list ((tmsQ L fs).map rD)), s5, .p (rD (pre.foldl (fun m q => if q < m then q else m) a))]) ⟨_, trb a (by rw [ear]; simp), rfl⟩ ?_ ?_
    · rintro pre q post δ e ⟨s3, rb, rfl⟩
      have rq := trb q (by rw [e]; simp)
      refine ⟨_, rfl, ?_⟩
      simp
      refine lless_run' rq rb (by omega) ?_
      by_cases c : q < pre.foldl (fun m q => if q < m then q else m) a
      · simp [c, rq]
      · simp [c, rb]
    · rintro δ ⟨s3, rb, rfl⟩
      rw [hm0]
      exact ⟨_, rfl, s3, rb, rfl⟩
  rintro _ ⟨s3, lrb, rfl⟩
  obtain ⟨m, hm⟩ : ∃ m, m = leastQ (tmsQ L fs) := ⟨_, rfl⟩
  have iff := rest_iff (L := L) ep fl (by rw [hsum]; exact d0)
  rw [← hm] at hy lrb iff ⊢
  refine seqM' (fun δ => (∃ t, RestQ L fs t) ∧ ∃ s5 : Sl, δ = [.p (.tuple ls), .p (rD d), .p (.tuple (fs.map rD)), s3, .p (.list ((tmsQ L fs).map rD)), s5, .p (rD m)]) ?_ ?_
  · rw [rw_if]
    simp [hls]
    refine ⟨lo62_le (by omega) (by omega), lt_line (by omega), ?_⟩
    rw [show rgD 0 L.length = (List.range L.length).map natD by unfold rgD natD; simp]
    refine lc_run (p := fun i => decide (0 < fs.getD i 0) && !decide ((tmsQ L fs).getD i 0 = m)) (h := natD) (fun i hi => ⟨_, rfl, fun kb hkb => ?_, fun _ kd hkd => ?_⟩) ?_
    · have hi := List.mem_range.mp hi
      have hf2 : fs[i]? = some (fs[i]'(by omega)) := List.getElem?_eq_getElem (by omega)
      have ef : fs.getD i 0 = fs[i]'(by omega) := by simp [List.getD_eq_getElem?_getD, hf2]
      have ht2 : (tmsQ L fs)[i]? = some ((tmsQ L fs)[i]'(by omega)) := List.getElem?_eq_getElem (by omega)
      have et : (tmsQ L fs).getD i 0 = (tmsQ L fs)[i]'(by omega) := by simp [List.getD_eq_getElem?_getD, ht2]
      rw [ef, et] at hkb
      simp [natD, get_map hf2, get_map ht2]
      by_cases c : 0 < fs[i]'(by omega)
      · rw [if_pos (num_pos.mpr c), eqv_rD]
        simpa [c] using hkb
      · rw [if_neg fun z => c (num_pos.mp z)]
        simpa [c] using hkb
    · simpa using hkd
    · refine ⟨(shaped_flat fun d hd => by obtain ⟨e, _, rfl⟩ := List.mem_map.mp hd; exact int_flat _).1, ?_⟩
      rw [eqv_lnil]
      by_cases c : ∀ i, 0 < fs.getD i 0 → (tmsQ L fs).getD i 0 = m
      · have : (List.range L.length).filter (fun i => decide (0 < fs.getD i 0) && !decide ((tmsQ L fs).getD i 0 = m)) = [] := List.filter_eq_nil_iff.mpr fun i _ => by
          by_cases c2 : 0 < fs.getD i 0
          · rw [decide_eq_true c2, decide_eq_true (c i c2)]; decide
          · rw [decide_eq_false c2]; simp
        rw [this]
        simpa using iff.mp c
      · obtain ⟨i, hi⟩ := Classical.not_forall.mp c
        have ⟨h1, h2⟩ := Classical.not_imp.mp hi
        have il : i < L.length := Classical.byContradiction fun z => by
          rw [getD_out (by omega)] at h1
          exact Rat.lt_irrefl h1
        have : (List.range L.length).filter (fun i => decide (0 < fs.getD i 0) && !decide ((tmsQ L fs).getD i 0 = m)) ≠ [] := fun z => by
          have := List.filter_eq_nil_iff.mp z i (List.mem_range.mpr il)
          rw [decide_eq_true h1, decide_eq_false h2] at this
          exact this rfl
        obtain ⟨e, r', er⟩ := List.exists_cons_of_ne_nil this
        rw [er]
        simp
        exact hn fun z => c (iff.mpr z.2.2.2)
  rintro _ ⟨hr, s5, rfl⟩
  simp
  exact hy el ea hsum hr lrb
end

end Tr

namespace Tr
open PySem PySem.Spec L2
variable [ProtC]
section
variable {k : D → Prop} {w : Exn → Prop} {I : List (Int × Int)} {a d σ : Rat} {B : Nat} {y : List Rat}
theorem selQ_len {ts : List Rat} {j : Nat} {q : List Nat} (hp : (j :: q).Pairwise (· < ·)) : ((j :: q).filter fun k => decide (k ≠ topQ ts (j :: q))).length = q.length := by
  have m := (top_spec (ts := ts) hp (by simp)).1
  have nd : (j :: q).Nodup := hp.imp fun h => by omega
  have e : (j :: q).filter (fun k => decide (k ≠ topQ ts (j :: q))) = (j :: q).erase (topQ ts (j :: q)) := by
    rw [nd.erase_eq_filter]
    congr 1
    funext k
    by_cases c : k = topQ ts (j :: q) <;> simp [c]
  rw [e, List.length_erase_of_mem m]
  simp
theorem natD_flat {p : List Nat} : SeqAt.shaped (.list (p.map natD)) = true := (shaped_flat fun d hd => by obtain ⟨e, _, rfl⟩ := List.mem_map.mp hd; exact int_flat _).1
theorem sub_neg' {p q : Rat} : p + -q = p - q := by grind
theorem lled_run (hI : Ins I) {y : List Rat} (hl : y.length = I.length) (hy : ∀ q ∈ y, RB q B) (h0 : 0 < B) (ha : RB a 30) (hB : B < 100) (hk : k (.tuple ((ledQ y (tmsQ (I.map toL) y) a).map rD))) : (f_law_led [.d (.tuple (I.map lnI)), .d (.tuple (y.map rD)), .d (rD a)]).run k w := by
  have l1 := hI.l1
  have l2 := hI.l2
  have fl : y.length = (I.map toL).length := by simpa using hl
  have tl : (tmsQ (I.map toL) y).length = I.length := by rw [tms_len fl]; simp
  obtain ⟨ts, hts⟩ : ∃ ts, ts = tmsQ (I.map toL) y := ⟨_, rfl⟩
  have tml : ∀ i, i < I.length → ∃ x q, I[i]? = some x ∧ y[i]? = some q ∧ ∀ {w : Exn → Prop} (k' : D → Prop), (RB (ts.getD i 0) (B + 20) → k' (rD (ts.getD i 0))) → (f_law_time [.d (lnI x), .d (rD q)]).run k' w := fun i hi => by
    obtain ⟨x, hx, ex⟩ := tms_getD fl (show i < (I.map toL).length by simpa using hi)
    rw [← hts] at ex
    have hx1 : I[i]? = some I[i] := List.getElem?_eq_getElem hi
    have ex1 : x = toL I[i] := by
      rw [List.getElem?_map, hx1] at hx
      exact (Option.some.inj hx).symm
    have hq : y[i]? = some (y[i]'(by omega)) := List.getElem?_eq_getElem (by omega)
    have eq : y.getD i 0 = y[i]'(by omega) := by simp [List.getD_eq_getElem?_getD, hq]
    refine ⟨_, _, hx1, hq, fun k' hk' => ltime_dec (S := 7) (Bb := 10) (LaneD.int I[i].1 I[i].2) (hI.ok.sl (toL I[i]) (List.mem_map.mpr ⟨_, List.getElem_mem _, rfl⟩)) (by omega) (hI.ok.bs (toL I[i]) (List.mem_map.mpr ⟨_, List.getElem_mem _, rfl⟩)) (hy _ (List.mem_of_getElem? hq)) (by omega) fun g => ?_⟩
    have e : ts.getD i 0 = (I[i].1 : Rat) * (y[i]'(by omega)) + (I[i].2 : Rat) := by rw [ex, eq, ex1]; rfl
    rw [e] at hk'
    exact hk' (g.mono (by omega))
  show ((b_law_led (dStart 8 [.d (.tuple (I.map lnI)), .d (.tuple (y.map rD)), .d (rD a)])).bind _).run _ _
  rw [run_bind]
  have e0 : dStart 8 [.d (.tuple (I.map lnI)), .d (.tuple (y.map rD)), .d (rD a)] = [.p (.tuple (I.map lnI)), .p (.tuple (y.map rD)), .p (rD a), .non, .non, .non, .non, .non] := rfl
  rw [e0]
  unfold b_law_led
  refine seqM (fun δ => ∃ s4, δ = [.p (.tuple (I.map lnI)), .p (.tuple (y.map rD)), .p (rD a), .o ((List.range I.length).map natD), s4, .non, .non, .non]) ?_ ?_
  · simp
    refine ⟨lo62_le (by omega) (by omega), lt_line (by omega), ?_⟩
    rw [show rgD 0 I.length = (List.range I.length).map natD by unfold rgD natD; simp]
    refine lc_run (p := fun _ => true) (h := natD) (fun i hi => ⟨_, rfl, fun kb hkb => ?_, fun _ kd hkd => ?_⟩) ?_
    · simpa using hkb
    · simpa using hkd
    · rw [List.filter_eq_self.mpr (by simp)]
  rintro _ ⟨s4, rfl⟩
  refine seqM (fun δ => δ = [.p (.tuple (I.map lnI)), .p (.tuple (y.map rD)), .p (rD a), .o ((List.range I.length).map natD), s4, .o ((List.replicate I.length (0 : Rat)).map rD), .p (rD a), .non]) ?_ ?_
  · simp [sParOD]
    exact ⟨line2, line1, by omega, .inr rfl⟩
  rintro _ rfl
  rw [rw_sFz, rw_fzo (i := 3) rfl]
  simp only [List.set_cons_succ, List.set_cons_zero]
  refine seqM (fun δ => ∃ (s3 s4 s7 : Sl) (r : Rat), δ = [.p (.tuple (I.map lnI)), .p (.tuple (y.map rD)), .p (rD a), s3, s4, .o ((ledQ y ts a).map rD), .p (rD r), s7]) ?_ ?_
  · refine while_run (fun m δ => ∃ (p : List Nat) (g : List Rat) (r : Rat) (s4 s7 : Sl), m = p.length ∧ p.Pairwise (· < ·) ∧ (∀ j ∈ p, j < I.length) ∧ p.length ≤ 8 ∧ g.length = I.length ∧ RB r (30 + (8 - p.length) * (B + 1)) ∧ ledG y (selQ ts p.length p) r g = ledQ y ts a ∧ δ = [.p (.tuple (I.map lnI)), .p (.tuple (y.map rD)), .p (rD a), .p (.list (p.map natD)), s4, .o (g.map rD), .p (rD r), s7]) I.length ?_ ?_
    · refine ⟨List.range I.length, List.replicate I.length 0, a, s4, .non, by simp, List.pairwise_lt_range, fun j hj => List.mem_range.mp hj, by simp; omega, by simp, ha.mono (by omega), ?_, rfl⟩
      have e := sel_fall (ts := ts)
      rw [hts, tl, ← hts] at e
      rw [List.length_range, e]
      unfold ledQ
      rw [hl]
    · rintro m δ ⟨p, g, r, s4, s7, rfl, hp, hpi, p8, hg, rb, hled, rfl⟩
      have sh := natD_flat (p := p)
      cases p with
      | nil =>
        simp
        refine ⟨?_, r, rfl⟩
        rw [← hled]
        simp [selQ, ledG]
      | cons j q =>
        have hj := hpi j (by simp)
        have ht0 : (tBv (d2 dNe (dV 3) (dLst aNil)) [.p (.tuple (I.map lnI)), .p (.tuple (y.map rD)), .p (rD a), .p (.list ((j :: q).map natD)), s4, .o (g.map rD), .p (rD r), s7]).run = (Wp.pure true).run := by
          funext k1 k2
          simp [eqv_lnil]
          intro _
          exact sh
        rw [ht0, run_pure, if_pos rfl, rw_sFz, rw_fzp (i := 3) rfl]
        refine seqM (fun δ => δ = [.p (.tuple (I.map lnI)), .p (.tuple (y.map rD)), .p (rD a), .p (.list ((j :: q).map natD)), s4, .o (g.map rD), .p (rD r), .p (natD j)]) ?_ ?_
        · simp
        rintro _ rfl
        rw [rw_sFz, rw_fzp (i := 3) rfl]
        obtain ⟨F, hF⟩ : ∃ F : Nat → Nat → Nat, F = fun a k => if ts.getD k 0 < ts.getD a 0 then a else k := ⟨_, rfl⟩
        obtain ⟨P, hP⟩ : ∃ P, P = j :: q := ⟨_, rfl⟩
        obtain ⟨tp, htp⟩ : ∃ tp, tp = topQ ts (j :: q) := ⟨_, rfl⟩
        have tm := (top_spec (ts := ts) hp (by simp)).1
        rw [← htp] at tm
        have tpl := hpi tp tm
        refine seqM (fun δ => ∃ s4 : Sl, δ = [.p (.tuple (I.map lnI)), .p (.tuple (y.map rD)), .p (rD a), .p (.list ((j :: q).map natD)), s4, .o (g.map rD), .p (rD r), .p (natD tp)]) ?_ ?_
        · rw [rw_for, ← hP]
          simp only [rw_iSeqD, rw_dV, List.getElem?_cons_succ, List.getElem?_cons_zero, slotP_p, pure_bind, run_bind, rw_seqL, run_pure]
          refine loop_pre (fun pre δ => ∃ (s4 : Sl) (c : Nat), c ∈ P ∧ c = pre.foldl F j ∧ δ = [.p (.tuple (I.map lnI)), .p (.tuple (y.map rD)), .p (rD a), .p (.list (P.map natD)), s4, .o (g.map rD), .p (rD r), .p (natD c)]) ⟨_, j, by rw [hP]; simp, rfl, rfl⟩ ?_ ?_
          · rintro pre x post δ e ⟨s4, c, hc, ec, rfl⟩
            have hx : x ∈ P := by rw [e]; simp
            have hpi' : ∀ j ∈ P, j < I.length := by rw [hP]; exact hpi
            refine ⟨_, rfl, ?_⟩
            obtain ⟨x1, q1, a1, b1, r1⟩ := tml x (hpi' x hx)
            obtain ⟨x2, q2, a2, b2, r2⟩ := tml c (hpi' c hc)
            have eF : F c x = if ts.getD x 0 < ts.getD c 0 then c else x := by rw [hF]
            rw [List.foldl_append, List.foldl_cons, List.foldl_nil, ← ec]
            generalize ts.getD x 0 = u at r1 eF
            generalize ts.getD c 0 = v at r2 eF
            simp [natD, get_map a1, get_map b1, get_map a2, get_map b2]
            refine r1 _ fun g1 => r2 _ fun g2 => ?_
            refine lless_run' g1 g2 (by omega) ?_
            by_cases cc : u < v
            · simp [cc]
              rw [eF, if_pos cc]
              exact ⟨_, c, hc, rfl, rfl, rfl⟩
            · simp [cc]
              rw [eF, if_neg cc]
              exact ⟨_, x, hx, rfl, rfl, rfl⟩
          · rintro δ ⟨s4, c, hc, ec, rfl⟩
            have : c = tp := by
              rw [ec, htp, hP, hF]
              show List.foldl _ j (j :: q) = List.foldl _ j q
              rw [List.foldl_cons, if_neg Rat.lt_irrefl]
            rw [this]
            exact ⟨_, rfl, s4, rfl⟩
        rintro _ ⟨s4, rfl⟩
        rw [rw_sFz, rw_fzp (i := 3) rfl]
        obtain ⟨q', hq'⟩ : ∃ q', q' = (j :: q).filter fun k => decide (k ≠ tp) := ⟨_, rfl⟩
        have ql : q'.length = q.length := by rw [hq', htp]; exact selQ_len hp
        refine seqM (fun δ => ∃ s4 : Sl, δ = [.p (.tuple (I.map lnI)), .p (.tuple (y.map rD)), .p (rD a), .o (q'.map natD), s4, .o (g.map rD), .p (rD r), .p (natD tp)]) ?_ ?_
        · have l8 : (j :: q).length ≤ sizeLine := lineN (by omega)
          simp only [rw_setO, rw_nLc, rw_iSeqD, rw_dV, List.getElem?_cons_succ, List.getElem?_cons_zero, slotP_p, pure_bind, run_bind, rw_seqL, run_pure, run_need, run_nox, List.length_map]
          refine ⟨l8, lc_run (p := fun k => decide (k ≠ tp)) (h := natD) (fun x hx => ⟨_, rfl, fun kb hkb => ?_, fun _ kd hkd => ?_⟩) ?_⟩
          · simp [natD]
            have e : (!decide ((x : Int) = (tp : Int))) = decide (x ≠ tp) := by
              by_cases c : x = tp
              · simp [c]
              · have : ¬ ((x : Int) = (tp : Int)) := by omega
                simp [c, this]
            rw [e]
            exact hkb
          · simpa using hkd
          · rw [← hq']
            exact ⟨_, rfl, _, rfl⟩
        rintro _ ⟨s4, rfl⟩
        rw [rw_sFz, rw_fzo (i := 3) rfl]
        simp only [List.set_cons_succ, List.set_cons_zero]
        obtain ⟨v, hv⟩ : ∃ v, v = if r < y.getD tp 0 then r else y.getD tp 0 := ⟨_, rfl⟩
        have hyq : y[tp]? = some (y[tp]'(by omega)) := List.getElem?_eq_getElem (by omega)
        have eyq : y.getD tp 0 = y[tp]'(by omega) := by simp [List.getD_eq_getElem?_getD, hyq]
        have ryq := hy _ (List.mem_of_getElem? hyq)
        obtain ⟨N, hN⟩ : ∃ N, N = 8 - (j :: q).length := ⟨_, rfl⟩
        rw [← hN] at rb
        have hm8 : N * (B + 1) ≤ 8 * (B + 1) := Nat.mul_le_mul_right _ (by omega)
        refine seqM (fun δ => RB v (30 + N * (B + 1) + B) ∧ δ = [.p (.tuple (I.map lnI)), .p (.tuple (y.map rD)), .p (rD a), .p (.list (q'.map natD)), s4, .o ((g.set tp v).map rD), .p (rD r), .p (natD tp)]) ?_ ?_
        · rw [eyq] at hv
          simp [get_map hyq, natD]
          refine lless_run' rb ryq (by omega) ?_
          by_cases c : r < y[tp]'(by omega)
          · rw [if_pos c] at hv
            subst hv
            simp [c, ixN_natL (show tp < g.length by omega)]
            exact rb.mono (by omega)
          · rw [if_neg c] at hv
            subst hv
            simp [c, ixN_natL (show tp < g.length by omega), get_map hyq]
            exact ryq.mono (by omega)
        rintro _ ⟨rv, rfl⟩
        have eg : atI (List.map rD (g.set tp v)) (tp : Int) = some (rD v) := get_map (by rw [List.getElem?_set_self (by omega)])
        simp [natD]
        rw [← List.map_set, eg]
        have e5 : ∀ z : Rat, (PyData.tuple [.int (-z.num), .int (z.den : Int)]) = rD (-z) := fun z => neg_rD
        have rv2 : RB (-v) (30 + N * (B + 1) + B) := ⟨by rw [show (-v).num = -v.num from rfl, Int.natAbs_neg]; exact rv.num, rv.den⟩
        simp [e5]
        refine ⟨line2, lplus_run' rb rv2 (by omega) fun rs => ?_⟩
        rw [sub_neg'] at rs ⊢
        refine ⟨q'.length, by omega, q', rfl, ?_, ?_, by simp at p8; omega, g.set tp v, by simpa using hg, r - v, ?_, ?_, rfl, by rw [List.map_set], rfl⟩
        · rw [hq']; exact hp.filter _
        · intro k hk
          rw [hq'] at hk
          exact hpi k (List.mem_filter.mp hk).1
        · have eN : 8 - q'.length = N + 1 := by
            rw [hN, ql, List.length_cons]
            simp only [List.length_cons] at p8
            omega
          rw [eN, Nat.add_mul, Nat.one_mul]
          by_cases c : r < y.getD tp 0
          · rw [if_pos c] at hv
            rw [hv, show r - r = 0 by grind]
            exact rb_zero (by omega)
          · rw [if_neg c] at hv
            rw [hv, eyq]
            exact (rb.sub' ryq).mono (by omega)
        · rw [← hled, List.length_cons, selQ, ledG, ← htp, ← hq', ql, ← hv]
  rintro _ ⟨s3, s4, s7, r, rfl⟩
  simp
  rw [hts]
  exact hk
end

end Tr

namespace Tr
open PySem PySem.Spec L2
variable [ProtC]
section
variable {k : D → Prop} {w : Exn → Prop} {I : List (Int × Int)} {a d σ q : Rat} {as bs : List Rat} {cs : List Fe}
structure PlanP (I : List (Int × Int)) (d σ : Rat) (as bs : List Rat) (cs : List Fe) (q : Rat) : Prop where
  ap : Pos0 as
  sum : sumQ as = d
  best : ∃ l, RestQ (steepQ (I.map toL)) as l
  led : bs = ledQ as (tmsQ (I.map toL) as) (σ * d)
  cok : cs.all feOk = true
  csum : sumQ (cs.map feQ) = d - σ * d
  rest : d - σ * d = 0 ∨ ∃ t, RestQ (leftQ (I.map toL) bs) (cs.map feQ) t
  tot : whQ (I.map toL) (plusL bs (cs.map feQ)) = q
theorem PlanP.bp (hI : Ins I) (h : Dm d) (hs : Sh σ) (al : as.length = I.length) (p : PlanP I d σ as bs cs q) : Pos0 bs ∧ sumQ bs = σ * d ∧ bs.length = as.length := by
  have s0 : 0 ≤ σ * d := Rat.mul_nonneg hs.pos (Rat.le_of_lt h.pos)
  have sd : σ * d ≤ d := by
    have := Rat.mul_nonneg (show 0 ≤ 1 - σ by have := hs.le1; grind) (Rat.le_of_lt h.pos)
    grind
  rw [p.led]
  exact led_all p.ap (by rw [tms_len (by simpa using al)]; simp [al]) s0 (by rw [p.sum]; exact sd)
theorem areflows_q {s : List D} {fs : List Rat} (hl : fs.length = s.length) (hy : Pos0 fs → k (.bool true)) (hn : ¬ Pos0 fs → k (.bool false)) : (f_are_flows [.d (.tuple s), .d (.tuple (fs.map rD))]).run k w := by
  have e : fs.map rD = (fs.map Fe.q).map feD := by rw [List.map_map]; rfl
  rw [e]
  refine areflows_dec ?_
  have e2 : (fs.map Fe.q).all feOk = true ↔ Pos0 fs := by
    rw [List.all_map, List.all_eq_true]
    exact ⟨fun h q hq => by simpa [feOk] using h q hq, fun h q hq => by simpa [feOk] using h q hq⟩
  by_cases c : Pos0 fs
  · rw [e2.mpr c]
    simpa [hl] using hy c
  · have : (fs.map Fe.q).all feOk = false := by
      cases h : (fs.map Fe.q).all feOk with
      | true => exact absurd (e2.mp h) c
      | false => rfl
    rw [this]
    simpa using hn c
theorem rats_eqv : ∀ {s t : List Rat}, PyData.eqv (.tuple (s.map rD)) (.tuple (t.map rD)) = true ↔ s = t
  | [], [] => ⟨fun _ => rfl, fun _ => rfl⟩
  | [], b :: t => by
    constructor
    · intro h
      have e : PyData.eqv (.tuple (([] : List Rat).map rD)) (.tuple ((b :: t).map rD)) = false := rfl
      rw [e] at h
      cases h
    · intro h
      cases h
  | a :: s, [] => by
    constructor
    · intro h
      have e : PyData.eqv (.tuple ((a :: s).map rD)) (.tuple (([] : List Rat).map rD)) = false := rfl
      rw [e] at h
      cases h
    · intro h
      cases h
  | a :: s, b :: t => by
    rw [List.map_cons, List.map_cons, eqvAll_cons, Bool.and_eq_true, eqv_rD, decide_eq_true_eq, rats_eqv, List.cons.injEq]
theorem fe_rb {cs : List Fe} {B : Nat} (h : ∀ e ∈ cs, FeB B e) (hc : cs.all feOk = true) : ∀ q ∈ cs.map feQ, RB q B := fun q hq => by
  obtain ⟨e, hm, rfl⟩ := List.mem_map.mp hq
  have := h e hm
  cases e with
  | q r => exact this
  | one => have := List.all_eq_true.mp hc _ hm; simp [feOk] at this
theorem left_nn (hI : Ins I) {g : List Rat} : ∀ x ∈ leftQ (I.map toL) g, 0 ≤ x.1 := fun x hx => by
  obtain ⟨y, hy, e⟩ := left_fst x hx
  rw [e]
  rcases hI.sg y hy with z | z <;> omega
theorem rbehind_dec (hI : Ins I) (h5 : I.length ≤ 5) {g z : List Rat} (gl : g.length = I.length) (hg : ∀ q ∈ g, RB q 50) (zl : z.length = I.length) (hp : Pos0 z) (hz : ∀ q ∈ z, RB q 1010) (ha : RB a 30) (a0 : 0 ≤ a)
    (hk : ∀ b : Bool, (b = true ↔ sumQ z = a ∧ (a = 0 ∨ ∃ t, RestQ (leftQ (I.map toL) g) z t)) → k (.bool b)) : (f_rests_behind [.d (.tuple (I.map lnI)), .d (.tuple (g.map rD)), .d (rD a), .d (.tuple (z.map rD))]).run k w := by
  have b3 : (z.length + 1) * (1010 + 1) ≤ 6 * (1010 + 1) := Nat.mul_le_mul_right _ (by omega)
  simp [f_rests_behind, b_rests_behind, dStart, arSl]
  refine sum_run hz (by omega) (by omega) fun _ => ?_
  simp [eqv_rD]
  by_cases c : sumQ z = a
  · simp [c]
    by_cases c0 : a = 0
    · rw [if_pos c0]
      exact hk true (by simp [c, c0])
    · rw [if_neg c0]
      have ap : 0 < a := by grind
      refine leftl_run (tp := PyData.tuple) hI (.inl rfl) gl hg ?_
      refine leftlev_run hI h5 gl hg ha ap fun u hu hub _ => ?_
      refine dorest_dec (left_ok hI hg) (by omega) (by rw [left_len (by simpa using gl)]; simpa using zl) hp hz hub (by omega) fun b hb => hk b ?_
      rw [hb]
      constructor
      · intro h
        exact ⟨c, .inr ⟨u, h⟩⟩
      · rintro ⟨_, h | ⟨t, ht⟩⟩
        · exact absurd h c0
        · have hl := rest_lev (left_nn hI) ht
          rw [c] at hl
          rw [hu.uniq ap hl]
          exact ht
  · simp [c]
    exact hk false (by simp [c])
theorem shows_dec (hI : Ins I) (h5 : I.length ≤ 5) (h : Dm d) (hs : Sh σ) (al : as.length = I.length) (bl : bs.length = I.length) (cl : cs.length = I.length) (ra0 : ∀ q ∈ as, RB q 50) (rg : bs = ledQ as (tmsQ (I.map toL) as) (σ * d) → ∀ q ∈ bs, RB q 50) (rc : ∀ e ∈ cs, FeB 1010 e)
    (hk : ∀ b : Bool, (b = true ↔ PlanP I d σ as bs cs q) → k (.bool b)) :
    (f_shows_plan [.d (.tuple (I.map lnI)), .d (rD d), .d (rD σ), .d (.tuple [.tuple (as.map rD), .tuple (bs.map rD), .tuple (cs.map feD), rD q])]).run k w := by
  have l1 := hI.l1
  have lok := hI.lok
  have ra : RB (σ * d) 17 := (hs.rb.mul' h.rb).mono (by omega)
  have rr : RB (d - σ * d) 30 := (h.rb.sub' ra).mono (by omega)
  have sd : 0 ≤ d - σ * d := by
    have := Rat.mul_nonneg (show 0 ≤ 1 - σ by have := hs.le1; grind) (Rat.le_of_lt h.pos)
    grind
  have b3 : (as.length + 1) * (50 + 1) ≤ 6 * (50 + 1) := Nat.mul_le_mul_right _ (by omega)
  have m5 : (I.length + 1) * (1061 + (7 + 1061 + 10 + 1) + 1) ≤ 6 * (1061 + (7 + 1061 + 10 + 1) + 1) := Nat.mul_le_mul_right _ (by omega)
  have m6 : (I.length + 1) * (250 + (7 + 250 + 10 + 1) + 1) ≤ 6 * (250 + (7 + 250 + 10 + 1) + 1) := Nat.mul_le_mul_right _ (by omega)
  have m7 : (I.length + 1) * (50 + (7 + 50 + 10 + 1) + 1) ≤ 6 * (50 + (7 + 50 + 10 + 1) + 1) := Nat.mul_le_mul_right _ (by omega)
  obtain ⟨Cd, hCd⟩ : ∃ Cd, Cd = cs.map feD := ⟨_, rfl⟩
  rw [← hCd]
  show ((b_shows_plan (dStart 11 [.d (.tuple (I.map lnI)), .d (rD d), .d (rD σ), .d (.tuple [.tuple (as.map rD), .tuple (bs.map rD), .tuple Cd, rD q])])).bind _).run _ _
  rw [run_bind]
  have e0 : dStart 11 [.d (.tuple (I.map lnI)), .d (rD d), .d (rD σ), .d (.tuple [.tuple (as.map rD), .tuple (bs.map rD), .tuple Cd, rD q])] = [.p (.tuple (I.map lnI)), .p (rD d), .p (rD σ), .p (.tuple [.tuple (as.map rD), .tuple (bs.map rD), .tuple Cd, rD q]), .non, .non, .non, .non, .non, .non, .non] := rfl
  rw [e0]
  unfold b_shows_plan
  refine seqM (fun δ => δ = [.p (.tuple (I.map lnI)), .p (rD d), .p (rD σ), .p (.tuple [.tuple (as.map rD), .tuple (bs.map rD), .tuple Cd, rD q]), .non, .non, .non, .non, .non, .non, .non]) (by simp; exact shareL_run hI h hs (by simp)) ?_
  rintro _ rfl
  refine seqM (fun δ => δ = [.p (.tuple (I.map lnI)), .p (rD d), .p (rD σ), .p (.tuple [.tuple (as.map rD), .tuple (bs.map rD), .tuple Cd, rD q]), .non, .non, .non, .non, .non, .non, .non]) ?_ ?_
  · simp
    refine isratio_run ?_
    simp
  rintro _ rfl
  refine seqM (fun δ => δ = [.p (.tuple (I.map lnI)), .p (rD d), .p (rD σ), .p (.tuple [.tuple (as.map rD), .tuple (bs.map rD), .tuple Cd, rD q]), .p (.tuple (as.map rD)), .p (.tuple (bs.map rD)), .p (.tuple Cd), .p (rD q), .non, .non, .non]) (by simp) ?_
  rintro _ rfl
  refine seqM' (fun δ => (Pos0 as ∧ Pos0 bs ∧ cs.all feOk = true ∧ sumQ as = d) ∧ δ = [.p (.tuple (I.map lnI)), .p (rD d), .p (rD σ), .p (.tuple [.tuple (as.map rD), .tuple (bs.map rD), .tuple Cd, rD q]), .p (.tuple (as.map rD)), .p (.tuple (bs.map rD)), .p (.tuple Cd), .p (rD q), .non, .non, .non]) ?_ ?_
  · rw [rw_if]
    simp [rw_ga1]
    refine ⟨by decide, areflows_q (by simpa using al) (fun ap => ?_) fun ap => ?_⟩
    · simp
      refine areflows_q (by simpa using bl) (fun bp => ?_) fun bp => ?_
      · simp
        rw [hCd]
        refine areflows_dec ?_
        by_cases cc : cs.all feOk = true
        · simp [cc, cl]
          refine sum_run ra0 (by omega) (by omega) fun _ => ?_
          simp [eqv_rD]
          by_cases c4 : sumQ as = d
          · simp [c4]
            exact ⟨ap, bp, by simpa using cc⟩
          · simp [c4]
            exact hk false (by simp; exact fun p => c4 p.sum)
        · simp [cc]
          exact hk false (by simp; exact fun p => cc p.cok)
      · simp
        exact hk false (by simp; exact fun p => bp (p.bp hI h hs al).1)
    · simp
      exact hk false (by simp; exact fun p => ap p.ap)
  rintro _ ⟨⟨ap, bp, cc, asum⟩, rfl⟩
  obtain ⟨ec, cp⟩ := fe_all cc
  rw [ec] at hCd
  have rz := fe_rb rc cc
  have zl : (cs.map feQ).length = I.length := by rw [List.length_map, cl]
  refine seqM' (fun δ => (∃ l, RestQ (steepQ (I.map toL)) as l) ∧ δ = [.p (.tuple (I.map lnI)), .p (rD d), .p (rD σ), .p (.tuple [.tuple (as.map rD), .tuple (bs.map rD), .tuple Cd, rD q]), .p (.tuple (as.map rD)), .p (.tuple (bs.map rD)), .p (.tuple Cd), .p (rD q), .non, .non, .non]) ?_ ?_
  · rw [rw_if]
    simp
    refine total_runT hI (.inl rfl) al ra0 (by omega) (by omega) fun _ => ?_
    refine best_run hI h5 h fun u hu => ?_
    refine total_run hI hu.len hu.rb (by omega) (by omega) fun _ => ?_
    obtain ⟨l2, hul⟩ := hu.rest
    have e := best_iff lok hul ap (by simpa using al) (by rw [hu.sum, asum])
    by_cases c : whQ (I.map toL) as = whQ (I.map toL) u
    · simp [eqv_rD, c]
      exact e.mp c
    · simp [eqv_rD, c]
      exact hk false (by simp; exact fun p => c (e.mpr p.best))
  rintro _ ⟨ab, rfl⟩
  refine seqM (fun δ => δ = [.p (.tuple (I.map lnI)), .p (rD d), .p (rD σ), .p (.tuple [.tuple (as.map rD), .tuple (bs.map rD), .tuple Cd, rD q]), .p (.tuple (as.map rD)), .p (.tuple (bs.map rD)), .p (.tuple Cd), .p (rD q), .non, .p (rD (σ * d)), .non]) ?_ ?_
  · simp
    exact by_run' hs.rb h.rb (by omega) fun _ => rfl
  rintro _ rfl
  refine seqM' (fun δ => (bs = ledQ as (tmsQ (I.map toL) as) (σ * d) ∧ sumQ (cs.map feQ) = d - σ * d ∧ (d - σ * d = 0 ∨ ∃ t, RestQ (leftQ (I.map toL) bs) (cs.map feQ) t)) ∧ δ = [.p (.tuple (I.map lnI)), .p (rD d), .p (rD σ), .p (.tuple [.tuple (as.map rD), .tuple (bs.map rD), .tuple Cd, rD q]), .p (.tuple (as.map rD)), .p (.tuple (bs.map rD)), .p (.tuple Cd), .p (rD q), .non, .p (rD (σ * d)), .non]) ?_ ?_
  · rw [rw_if]
    simp
    refine led_runG (tp := PyData.tuple) hI (.inl rfl) al ra0 (by omega) (ra.mono (by omega)) (by omega) ?_
    simp
    refine ⟨⟨shaped_list _, shaped_list _⟩, ?_⟩
    by_cases c : bs = ledQ as (tmsQ (I.map toL) as) (σ * d)
    · rw [rats_eqv.mpr c]
      simp
      refine minus_run' h.rb ra (by omega) fun _ => ?_
      rw [hCd]
      refine rbehind_dec hI h5 bl (rg c) zl cp rz rr sd fun b hb => ?_
      cases b with
      | true =>
        simp
        exact ⟨c, hb.mp rfl⟩
      | false =>
        simp
        exact hk false (by simp; exact fun p => by have := hb.mpr ⟨p.csum, p.rest⟩; cases this)
    · have : PyData.eqv (.tuple (bs.map rD)) (.tuple ((ledQ as (tmsQ (I.map toL) as) (σ * d)).map rD)) = false := by
        cases e : PyData.eqv (.tuple (bs.map rD)) (.tuple ((ledQ as (tmsQ (I.map toL) as) (σ * d)).map rD)) with
        | false => rfl
        | true => exact absurd (rats_eqv.mp e) c
      rw [this]
      simp
      exact hk false (by simp; exact fun p => c p.led)
  rintro _ ⟨⟨bled, csum, crest⟩, rfl⟩
  rw [hCd]
  simp
  refine ⟨by simp [zipD_len, bl, cl]; exact lt_line (by omega), ?_⟩
  rw [← List.map_map]
  refine wholelc_run (fun p hp => ⟨_, rfl, rfl, rfl⟩) (rg bled) rz ?_
  refine total_run hI (by rw [plusL_len (by rw [zl, bl]), bl]) (whole_rb (rg bled) rz) (by omega) (by omega) fun _ => ?_
  simp [eqv_rD]
  refine hk _ ?_
  rw [decide_eq_true_eq]
  exact ⟨fun e => ⟨ap, asum, ab, bled, cc, csum, crest, e⟩, fun p => p.tot⟩
end

end Tr

namespace Tr
open PySem PySem.Spec L2
variable [ProtC]
section
variable {k : D → Prop} {w : Exn → Prop} {I : List (Int × Int)} {a d σ q : Rat} {as bs : List Rat} {cs : List Fe} {B : Nat}
theorem lisratioG {p : Rat} (hb : RB p B) (hk : k (.bool true)) : (f_law_is_ratio [.d (rD p)]).run k w := by
  have h1 := p.den_pos
  have e : ((p.num : Rat) / ((p.den : Int) : Rat)) = p := (rat_nd p).symm
  simp [f_law_is_ratio, b_law_is_ratio, dStart, arSl, rD, rw_lc1, h1]
  refine ⟨two_le_line, lratio_runG (G := 1) (by omega) (by
    show Nat.gcd p.num.natAbs (p.den : Int).natAbs < 2
    rw [Int.natAbs_natCast, p.reduced]
    decide) (by omega) hb.num (den_lt hb) fun _ => ⟨⟨rfl, rfl⟩, ?_⟩⟩
  rw [e]
  have : PyData.eqv (rD p) (rD p) = true := by rw [eqv_rD]; simp
  rw [show PyData.tuple [PyData.int p.num, PyData.int ↑p.den] = rD p from rfl, this]
  exact hk
theorem lwholeG (hI : Ins I) {fs : List Rat} (hl : fs.length = I.length) (hf : ∀ q ∈ fs, RB q B) (hB : B < 1500) {tp : List D → D} (htp : tp = PyData.tuple ∨ tp = PyData.list) (hk : RB (whQ (I.map toL) fs) (I.length * (B + (7 + B + 10 + 1) + 1) + 1) → k (rD (whQ (I.map toL) fs))) : (f_law_whole [.d (.tuple (I.map lnI)), .d (tp (fs.map rD))]).run k w := by
  have l2 := hI.l2
  have hz : (I.zip fs).length = I.length := by simp [hl]
  have hix : ∀ (i : Nat) (f : Rat), fs[i]? = some f → dIx (tp (fs.map rD)) (.int i) = .pure (rD f) := by
    intro i f h
    rcases htp with rfl | rfl
    · rw [rw_ixT, get_map h]; rfl
    · rw [rw_ixL, get_map h]; rfl
  simp [f_law_whole, b_law_whole, dStart, arSl]
  refine ⟨lo62_le (by omega) (by omega), lt_line (by omega), ?_⟩
  rw [show rgD 0 I.length = (List.range I.length).map natD by unfold rgD natD; simp]
  let G : Nat → D := fun i => match I[i]?, fs[i]? with
    | some x, some f => rD (wtQ (x, f))
    | _, _ => .none
  refine lc_run (p := fun _ => true) (h := G) (fun i hi => ⟨_, rfl, fun kb hkb => ?_, fun _ kd hkd => ?_⟩) ?_
  · simpa using hkb
  · have hi := List.mem_range.mp hi
    have hx := List.getElem?_eq_getElem hi
    have hf2 : fs[i]? = some (fs[i]'(by omega)) := List.getElem?_eq_getElem (by omega)
    have eG : G i = rD (wtQ (I[i], fs[i]'(by omega))) := by show (match I[i]?, fs[i]? with | some x, some f => rD (wtQ (x, f)) | _, _ => .none) = _; rw [hx, hf2]
    rw [eG] at hkd
    have m1 := List.mem_of_getElem? hx
    have m2 := List.mem_of_getElem? hf2
    simp [natD, hix i _ hf2, get_map hx]
    refine llt_run (hI.sl _ m1) (hI.bs _ m1) (hf _ m2) (by omega) fun g => ?_
    refine lby_run' (hf _ m2) g (by omega) fun _ => ?_
    exact hkd
  · have mm : (I.length + 1) * (B + (7 + B + 10 + 1) + 1) ≤ 9 * (B + (7 + B + 10 + 1) + 1) := Nat.mul_le_mul_right _ (by omega)
    rw [List.filter_eq_self.mpr (by simp), rg_zip hl fun i x f hx hf => by show (match I[i]?, fs[i]? with | some x, some f => rD (wtQ (x, f)) | _, _ => .none) = _; rw [hx, hf]]
    refine lsum_run (wt_rb hI hf) (by simp only [List.length_map, hz]; omega) (by omega) fun g => ?_
    rw [wt_sum] at g ⊢
    refine hk (g.mono ?_)
    simp only [List.length_map, hz]
    omega
theorem ratsFe {fs : List Rat} : fs.map rD = (fs.map Fe.q).map feD ∧ (fs.map Fe.q).map feQ = fs ∧ ((fs.map Fe.q).all feOk = true ↔ Pos0 fs) := by
  refine ⟨by rw [List.map_map]; rfl, by rw [List.map_map]; exact List.map_id _, ?_⟩
  rw [List.all_map, List.all_eq_true]
  exact ⟨fun h q hq => by simpa [feOk] using h q hq, fun h q hq => by simpa [feOk] using h q hq⟩
theorem leftQ_get {L : List Ln} {g : List Rat} {i : Nat} {x : Ln} {f : Rat} (hx : L[i]? = some x) (hf : g[i]? = some f) : (leftQ L g)[i]? = some (x.1, x.1 * f + x.2) := by
  induction L generalizing g i with
  | nil => simp at hx
  | cons y L ih => cases g with
    | nil => simp at hf
    | cons b g => cases i with
      | zero =>
        cases hx
        cases hf
        rfl
      | succ i => exact ih (g := g) (i := i) (by simpa using hx) (by simpa using hf)
theorem rg_map {α : Type} {xs : List α} {g : α → D} {n : Nat} {G : Nat → D} (hn : xs.length = n) (hG : ∀ i x, xs[i]? = some x → G i = g x) : (List.range n).map G = xs.map g := by
  apply List.ext_getElem?
  intro i
  by_cases h : i < n
  · rw [List.getElem?_map, List.getElem?_range h, List.getElem?_map, List.getElem?_eq_getElem (by omega)]
    simp only [Option.map_some]
    rw [hG i _ (List.getElem?_eq_getElem (by omega))]
  · rw [List.getElem?_eq_none (by simpa using h), List.getElem?_eq_none (by simp; omega)]
theorem fe_zero : ∀ {cs : List Fe} {n : Nat}, cs.length = n → (PyData.eqv (.tuple (cs.map feD)) (.tuple (List.replicate n (rD 0))) = true ↔ cs.all feOk = true ∧ ∀ q ∈ cs.map feQ, q = 0)
  | [], 0, _ => ⟨fun _ => ⟨rfl, by simp⟩, fun _ => rfl⟩
  | [], _ + 1, h => by cases h
  | _ :: _, 0, h => by cases h
  | e :: cs, n + 1, h => by
    rw [List.map_cons, List.replicate_succ, eqvAll_cons, Bool.and_eq_true, fe_zero (cs := cs) (n := n) (by simpa using h)]
    cases e with
    | one =>
      have e1 : PyData.eqv (feD .one) (rD 0) = false := rfl
      rw [e1]
      simp [feOk]
    | q r =>
      have e1 : PyData.eqv (feD (.q r)) (rD 0) = decide (r = 0) := eqv_rD
      rw [e1, decide_eq_true_eq]
      simp only [List.all_cons, Bool.and_eq_true, List.map_cons, List.mem_cons, feQ, feOk, decide_eq_true_eq]
      constructor
      · rintro ⟨a, b, c⟩
        exact ⟨⟨by rw [a]; exact Rat.le_refl, b⟩, fun q hq => by rcases hq with rfl | hq; exact a; exact c q hq⟩
      · rintro ⟨⟨_, b⟩, c⟩
        exact ⟨c r (.inl rfl), b, fun q hq => c q (.inr hq)⟩
theorem sum_zeros {z : List Rat} (h : ∀ q ∈ z, q = 0) : sumQ z = 0 := by
  induction z with
  | nil => rfl
  | cons a z ih =>
    rw [sumQ, ih fun q hq => h q (by simp [hq]), h a (by simp)]
    exact Rat.add_zero 0
theorem lplan_dec (hI : Ins I) (h5 : I.length ≤ 5) (h : Dm d) (hs : Sh σ) (al : as.length = I.length) (bl : bs.length = I.length) (cl : cs.length = I.length) (ra0 : ∀ q ∈ as, RB q 50) (rg : bs = ledQ as (tmsQ (I.map toL) as) (σ * d) → ∀ q ∈ bs, RB q 50) (rc : ∀ e ∈ cs, FeB 1010 e) (rq : RB q B)
    (hk : ∀ b : Bool, (b = true ↔ PlanP I d σ as bs cs q) → k (.bool b)) :
    (f_law_is_plan [.d (.tuple (I.map lnI)), .d (rD d), .d (rD σ), .d (.tuple [.tuple (as.map rD), .tuple (bs.map rD), .tuple (cs.map feD), rD q])]).run k w := by
  have l1 := hI.l1
  have lok := hI.lok
  have ra : RB (σ * d) 17 := (hs.rb.mul' h.rb).mono (by omega)
  have rr : RB (d - σ * d) 30 := (h.rb.sub' ra).mono (by omega)
  have sd : 0 ≤ d - σ * d := by
    have := Rat.mul_nonneg (show 0 ≤ 1 - σ by have := hs.le1; grind) (Rat.le_of_lt h.pos)
    grind
  obtain ⟨V, hV⟩ : ∃ V : D, V = .tuple [.tuple (as.map rD), .tuple (bs.map rD), .tuple (cs.map feD), rD q] := ⟨_, rfl⟩
  have v0 : dIx V (.int 0) = .pure (.tuple (as.map rD)) := by rw [hV, rw_ixT]; rfl
  have v1 : dIx V (.int 1) = .pure (.tuple (bs.map rD)) := by rw [hV, rw_ixT]; rfl
  have v2 : dIx V (.int 2) = .pure (.tuple (cs.map feD)) := by rw [hV, rw_ixT]; rfl
  have v3 : dIx V (.int 3) = .pure (rD q) := by rw [hV, rw_ixT]; rfl
  rw [← hV]
  show ((b_law_is_plan (dStart 10 [.d (.tuple (I.map lnI)), .d (rD d), .d (rD σ), .d V])).bind _).run _ _
  rw [run_bind]
  have e0 : dStart 10 [.d (.tuple (I.map lnI)), .d (rD d), .d (rD σ), .d V] = [.p (.tuple (I.map lnI)), .p (rD d), .p (rD σ), .p V, .non, .non, .non, .non, .non, .non] := rfl
  rw [e0]
  unfold b_law_is_plan
  refine seqM (fun δ => δ = [.p (.tuple (I.map lnI)), .p (rD d), .p (rD σ), .p V, .non, .non, .non, .non, .non, .non]) ?_ ?_
  · rw [rw_if]
    simp [v3]
    rw [hV]
    simp
    exact lisratioG rq (by simp)
  rintro _ rfl
  obtain ⟨SD, hSD⟩ : ∃ SD, SD = I.map fun x => PyData.tuple [.int (2 * x.1), .int x.2] := ⟨_, rfl⟩
  refine seqM (fun δ => ∃ s5, δ = [.p (.tuple (I.map lnI)), .p (rD d), .p (rD σ), .p V, .p (.tuple SD), s5, .non, .non, .non, .non]) ?_ ?_
  · simp
    refine ⟨lt_line (by omega), lc_run (p := fun _ => true) (h := fun x => PyData.tuple [.int (2 * x.1), .int x.2]) (fun x hx => ⟨_, rfl, fun kb hkb => ?_, fun _ kd hkd => ?_⟩) ?_⟩
    · simpa using hkb
    · simp [lnI]
      have hx1 := hI.sl x hx
      refine ⟨cmul (a := 4) (b := 10) (by decide) (by show _ < 1024; omega) (by omega), line2, hkd⟩
    · rw [List.filter_eq_self.mpr (by simp), ← hSD]
  rintro _ ⟨s5, rfl⟩
  obtain ⟨f1, f2, f3⟩ := ratsFe (fs := as)
  refine seqM' (fun δ => (Pos0 as ∧ sumQ as = d ∧ ∃ l, RestQ (steepQ (I.map toL)) as l) ∧ δ = [.p (.tuple (I.map lnI)), .p (rD d), .p (rD σ), .p V, .p (.tuple SD), s5, .non, .non, .non, .non]) ?_ ?_
  · rw [rw_if]
    simp [v0]
    rw [f1]
    refine lrests_dec (L := steepQ (I.map toL)) (n := I.length) (S := 8) (Bb := 10) (B := 50) (Bd := 10) hI.sok (by omega) (by simp [steepQ]; omega) (by simp [steepQ]; omega) (by rw [hSD]; simp [steepQ]) (fun i x xd hx hxd => ?_) (fun e he => ?_) (by simp; omega) h.rb h.pos (by omega) (by omega) (fun c1 c2 c3 c4 _ => ?_) fun cn => ?_
    · unfold steepQ at hx
      rw [List.getElem?_map, List.getElem?_map] at hx
      rw [hSD, List.getElem?_map] at hxd
      cases hi : I[i]? with
      | none => rw [hi] at hx; cases hx
      | some v =>
        rw [hi] at hx hxd
        cases hx
        cases hxd
        exact LaneD.int _ _
    · obtain ⟨v, hv, rfl⟩ := List.mem_map.mp he
      exact ra0 v hv
    · rw [f2] at c3 c4
      rw [show isNoneD (rD (leastQ (tmsQ (steepQ (I.map toL)) ((as.map Fe.q).map feQ)))) = false from rfl, if_neg (by simp)]
      exact ⟨f3.mp c2, c3, c4⟩
    · rw [f2, f3] at cn
      rw [show isNoneD .none = true from rfl, if_pos rfl]
      refine hk false (by simp; exact fun p => cn ⟨by simp [steepQ, al], p.ap, p.sum, p.best⟩)
  rintro _ ⟨⟨ap, asum, ab⟩, rfl⟩
  refine seqM (fun δ => δ = [.p (.tuple (I.map lnI)), .p (rD d), .p (rD σ), .p V, .p (.tuple SD), s5, .p (rD (σ * d)), .non, .non, .non]) ?_ ?_
  · simp
    exact lby_run' hs.rb h.rb (by omega) fun _ => rfl
  rintro _ rfl
  refine seqM' (fun δ => bs = ledQ as (tmsQ (I.map toL) as) (σ * d) ∧ δ = [.p (.tuple (I.map lnI)), .p (rD d), .p (rD σ), .p V, .p (.tuple SD), s5, .p (rD (σ * d)), .non, .non, .non]) ?_ ?_
  · rw [rw_if]
    simp [v0, v1]
    refine lled_run hI al ra0 (by omega) (ra.mono (by omega)) (by omega) ?_
    refine ⟨⟨shaped_list _, shaped_list _⟩, ?_⟩
    by_cases c : bs = ledQ as (tmsQ (I.map toL) as) (σ * d)
    · rw [rats_eqv.mpr c]
      simpa using c
    · have : PyData.eqv (.tuple (bs.map rD)) (.tuple ((ledQ as (tmsQ (I.map toL) as) (σ * d)).map rD)) = false := by
        cases e : PyData.eqv (.tuple (bs.map rD)) (.tuple ((ledQ as (tmsQ (I.map toL) as) (σ * d)).map rD)) with
        | false => rfl
        | true => exact absurd (rats_eqv.mp e) c
      rw [this]
      simp
      exact hk false (by simp; exact fun p => c p.led)
  rintro _ ⟨bled, rfl⟩
  have rg := rg bled
  refine seqM (fun δ => ∃ s8, δ = [.p (.tuple (I.map lnI)), .p (rD d), .p (rD σ), .p V, .p (.tuple SD), s5, .p (rD (σ * d)), .p (.tuple ((leftQ (I.map toL) bs).map lnD)), s8, .non]) ?_ ?_
  · simp
    refine ⟨lo62_le (by omega) (by omega), lt_line (by omega), ?_⟩
    rw [show rgD 0 I.length = (List.range I.length).map natD by unfold rgD natD; simp]
    refine lc_run (p := fun _ => true) (h := fun i => lnD ((leftQ (I.map toL) bs).getD i (0, 0))) (fun i hi => ⟨_, rfl, fun kb hkb => ?_, fun _ kd hkd => ?_⟩) ?_
    · simpa using hkb
    · have hi := List.mem_range.mp hi
      have hx : I[i]? = some I[i] := List.getElem?_eq_getElem hi
      have hb : bs[i]? = some (bs[i]'(by omega)) := List.getElem?_eq_getElem (by omega)
      have hl := leftQ_get (L := I.map toL) (g := bs) (i := i) (by rw [List.getElem?_map, hx]; rfl) hb
      rw [List.getD_eq_getElem?_getD, hl] at hkd
      have m1 := List.mem_of_getElem? hx
      simp [natD, get_map hx, v1, get_map hb, lnI]
      refine ltime_dec (S := 7) (Bb := 10) (LaneD.int I[i].1 I[i].2) (hI.ok.sl (toL I[i]) (List.mem_map.mpr ⟨_, m1, rfl⟩)) (by omega) (hI.ok.bs (toL I[i]) (List.mem_map.mpr ⟨_, m1, rfl⟩)) (rg _ (List.mem_of_getElem? hb)) (by omega) fun g => ?_
      exact ⟨line2, hkd⟩
    · rw [List.filter_eq_self.mpr (by simp)]
      exact rg_map (by rw [left_len (by simpa using bl)]; simp) fun i x hx => by rw [List.getD_eq_getElem?_getD, hx]; rfl
  rintro _ ⟨s8, rfl⟩
  refine seqM (fun δ => δ = [.p (.tuple (I.map lnI)), .p (rD d), .p (rD σ), .p V, .p (.tuple SD), s5, .p (rD (σ * d)), .p (.tuple ((leftQ (I.map toL) bs).map lnD)), s8, .p (rD (d - σ * d))]) ?_ ?_
  · simp
    have e5 : ∀ z : Rat, (PyData.tuple [.int (-z.num), .int (z.den : Int)]) = rD (-z) := fun z => neg_rD
    have rv2 : RB (-(σ * d)) 17 := ⟨by rw [show (-(σ * d)).num = -(σ * d).num from rfl, Int.natAbs_neg]; exact ra.num, ra.den⟩
    rw [e5]
    refine ⟨line2, lplus_run' h.rb rv2 (by omega) fun rs => ?_⟩
    rw [sub_neg']
  rintro _ rfl
  refine seqM' (fun δ => (cs.all feOk = true ∧ sumQ (cs.map feQ) = d - σ * d ∧ (d - σ * d = 0 ∨ ∃ t, RestQ (leftQ (I.map toL) bs) (cs.map feQ) t)) ∧ δ = [.p (.tuple (I.map lnI)), .p (rD d), .p (rD σ), .p V, .p (.tuple SD), s5, .p (rD (σ * d)), .p (.tuple ((leftQ (I.map toL) bs).map lnD)), s8, .p (rD (d - σ * d))]) ?_ ?_
  · rw [rw_if]
    simp [v2]
    have z0 : PyData.tuple [.int 0, .int 1] = rD 0 := rfl
    have zsh : SeqAt.shaped (rD 0) = true := rfl
    have ssh : SeqAt.shaped (.tuple (cs.map feD)) = true := (shaped_flat fun d hd => by obtain ⟨e, _, rfl⟩ := List.mem_map.mp hd; exact fe_flat e).2
    rw [z0, eqv_rD]
    refine ⟨line2, zsh, ?_⟩
    by_cases c : d - σ * d = 0
    · rw [if_pos (by simpa using c)]
      refine ⟨line2, line1, ⟨by omega, by omega⟩, ⟨ssh, (shaped_flat fun d hd => by rw [List.eq_of_mem_replicate hd]; exact rD_flat 0).2⟩, ?_⟩
      have iff := fe_zero cl
      by_cases c2 : PyData.eqv (.tuple (cs.map feD)) (.tuple (List.replicate I.length (rD 0))) = true
      · rw [if_pos c2]
        obtain ⟨g1, g2⟩ := iff.mp c2
        refine ⟨by simpa using g1, ?_, .inl c⟩
        rw [c]
        exact sum_zeros g2
      · rw [if_neg c2]
        have np : ¬ PlanP I d σ as bs cs q := fun p => c2 (iff.mpr ⟨p.cok, fun q hq => by
          have cp := (fe_all p.cok).2
          have := le_sum cp q hq
          rw [p.csum, c] at this
          exact Rat.le_antisymm this (cp q hq)⟩)
        exact hk false (by simpa using np)
    · rw [if_neg (by simpa using c)]
      have op : 0 < d - σ * d := by grind
      have ll : (leftQ (I.map toL) bs).length = I.length := by rw [left_len (by simpa using bl)]; simp
      refine lrests_dec (L := leftQ (I.map toL) bs) (n := I.length) (S := 7) (Bb := 68) (B := 1010) (Bd := 30) (left_ok hI rg) (by omega) (by omega) (by omega) (by simp) (fun i x xd hx hxd => ?_) rc (by omega) rr op (by omega) (by omega) (fun c1 c2 c3 c4 _ => ?_) fun cn => ?_
      · rw [List.getElem?_map, hx] at hxd
        cases hxd
        exact LaneD.rat x
      · rw [show isNoneD (rD (leastQ (tmsQ (leftQ (I.map toL) bs) (cs.map feQ)))) = false from rfl, if_neg (by simp)]
        exact ⟨by simpa using c2, c3, .inr c4⟩
      · rw [show isNoneD .none = true from rfl, if_pos rfl]
        have np : ¬ PlanP I d σ as bs cs q := fun p => cn ⟨by rw [ll, cl], p.cok, p.csum, by
          rcases p.rest with r | r
          · exact absurd r c
          · exact r⟩
        exact hk false (by simpa using np)
  rintro _ ⟨⟨cok, csum, crest⟩, rfl⟩
  obtain ⟨ec, cp⟩ := fe_all cok
  have rz := fe_rb rc cok
  have zl : (cs.map feQ).length = I.length := by rw [List.length_map, cl]
  rw [ec] at v2
  have pl : (plusL bs (cs.map feQ)).length = I.length := by rw [plusL_len (by rw [zl, bl]), bl]
  simp [v1, v2, v3]
  refine ⟨lo62_le (by omega) (by omega), lt_line (by omega), ?_⟩
  rw [show rgD 0 I.length = (List.range I.length).map natD by unfold rgD natD; simp]
  refine lc_run (p := fun _ => true) (h := fun i => rD ((plusL bs (cs.map feQ)).getD i 0)) (fun i hi => ⟨_, rfl, fun kb hkb => ?_, fun _ kd hkd => ?_⟩) ?_
  · simpa using hkb
  · have hi := List.mem_range.mp hi
    have hb : bs[i]? = some (bs[i]'(by omega)) := List.getElem?_eq_getElem (by omega)
    have hc : (cs.map feQ)[i]? = some ((cs.map feQ)[i]'(by omega)) := List.getElem?_eq_getElem (by omega)
    have e := zip_getD (g := bs) (z := cs.map feQ) (i := i) (by rw [bl, zl])
    have e2 : (plusL bs (cs.map feQ)).getD i 0 = bs[i]'(by omega) + (cs.map feQ)[i]'(by omega) := by
      unfold plusL
      rw [e]
      simp [List.getD_eq_getElem?_getD, hb, hc]
    rw [e2] at hkd
    have hc2 : (List.map (rD ∘ feQ) cs) = (cs.map feQ).map rD := by rw [List.map_map]
    simp only [natD, List.set_cons_succ, List.set_cons_zero, rw_call, rw_aCons, rw_aNil, rw_d2, rw_dV, rw_dC, List.getElem?_cons_succ, List.getElem?_cons_zero, slotP_p, pure_bind, run_bind, run_pure, run_need, v1, v2, rw_ixT, get_map hb, get_map hc, optW_some, List.length_cons, List.length_nil, true_and]
    exact lplus_run' (rg _ (List.mem_of_getElem? hb)) (rz _ (List.mem_of_getElem? hc)) (by omega) fun _ => hkd
  · rw [List.filter_eq_self.mpr (by simp), rg_map (xs := plusL bs (cs.map feQ)) (g := rD) pl fun i x hx => by rw [List.getD_eq_getElem?_getD, hx]; rfl]
    refine lwholeG hI pl (whole_rb rg rz) (by omega) (.inr rfl) fun _ => ?_
    refine ⟨rfl, ?_⟩
    rw [eqv_rD]
    refine hk _ ?_
    rw [decide_eq_true_eq]
    exact ⟨fun e => ⟨ap, asum, ab, bled, cok, csum, crest, e⟩, fun p => p.tot⟩
end

end Tr

namespace Tr
open PySem PySem.Spec L2
variable [ProtC]
theorem llessG {p q : Rat} {k : D → Prop} {w : Exn → Prop} {a b : Nat} (hp : RB p a) (hq : RB q b) (hB : a + b < 900000) (hk : k (.bool (decide (p < q)))) : (f_law_less [.d (rD p), .d (rD q)]).run k w := by
  simp [f_law_less, b_law_less, dStart, arSl]
  refine ⟨cmul hp.num (den_lt hq) (by omega), cmul hq.num (den_lt hp) (by omega), ?_⟩
  simpa only [rat_lt] using hk
def Jd (I : List (Int × Int)) (d σ : Rat) (v : D) : Prop := ∃ b : Bool, (∀ {k : D → Prop} {w : Exn → Prop}, k (.bool b) → (f_shows_plan [.d (.tuple (I.map lnI)), .d (rD d), .d (rD σ), .d v]).run k w) ∧ ∀ {k : D → Prop} {w : Exn → Prop}, k (.bool b) → (f_law_is_plan [.d (.tuple (I.map lnI)), .d (rD d), .d (rD σ), .d v]).run k w
section
variable {I : List (Int × Int)} {d σ q : Rat} {as bs : List Rat} {cs : List Fe} {B : Nat} {y g z : List Rat}
theorem jd_plan (hI : Ins I) (h5 : I.length ≤ 5) (h : Dm d) (hs : Sh σ) (al : as.length = I.length) (bl : bs.length = I.length) (cl : cs.length = I.length) (ra0 : ∀ q ∈ as, RB q 50) (rg : bs = ledQ as (tmsQ (I.map toL) as) (σ * d) → ∀ q ∈ bs, RB q 50) (rc : ∀ e ∈ cs, FeB 1010 e) (rq : RB q B) :
    Jd I d σ (.tuple [.tuple (as.map rD), .tuple (bs.map rD), .tuple (cs.map feD), rD q]) := by
  open Classical in
  refine ⟨decide (PlanP I d σ as bs cs q), fun hk => shows_dec hI h5 h hs al bl cl ra0 rg rc fun b hb => ?_, fun hk => lplan_dec hI h5 h hs al bl cl ra0 rg rc rq fun b hb => ?_⟩
  · have : b = decide (PlanP I d σ as bs cs q) := by
      rw [Bool.eq_iff_iff, hb, decide_eq_true_eq]
    rw [this]
    exact hk
  · have : b = decide (PlanP I d σ as bs cs q) := by
      rw [Bool.eq_iff_iff, hb, decide_eq_true_eq]
    rw [this]
    exact hk
theorem jd_rats (hI : Ins I) (h5 : I.length ≤ 5) (h : Dm d) (hs : Sh σ) {zs : List Rat} (al : as.length = I.length) (bl : bs.length = I.length) (cl : zs.length = I.length) (ra0 : ∀ q ∈ as, RB q 50) (rg : bs = ledQ as (tmsQ (I.map toL) as) (σ * d) → ∀ q ∈ bs, RB q 50) (rc : ∀ q ∈ zs, RB q 1010) (rq : RB q B) :
    Jd I d σ (.tuple [.tuple (as.map rD), .tuple (bs.map rD), .tuple (zs.map rD), rD q]) := by
  rw [(ratsFe (fs := zs)).1]
  refine jd_plan hI h5 h hs al bl (by simpa using cl) ra0 rg (fun e he => ?_) rq
  obtain ⟨v, hv, rfl⟩ := List.mem_map.mp he
  exact rc v hv
theorem jd_odd (hI : Ins I) (h : Dm d) (hs : Sh σ) {v : D} (hv : (∃ ds, v = .tuple ds ∧ ds.length ≠ 4) ∨ (∃ ds, v = .list ds) ∨ v = .none ∨ v = .dict [] ∨ ∃ i, v = .int i) : Jd I d σ v := by
  refine ⟨false, fun hk => ?_, fun hk => ?_⟩
  · simp [f_shows_plan, b_shows_plan, dStart, arSl]
    refine shareL_run hI h hs ?_
    rcases hv with ⟨ds, rfl, hl⟩ | ⟨ds, rfl⟩ | rfl | rfl | ⟨i, rfl⟩
    · simp
      have : ¬ ((ds.length : Int) = 4) := by omega
      simp [this]
      exact hk
    · simp
      exact hk
    · simp
      exact hk
    · simp
      exact hk
    · simp
      exact hk
  · rcases hv with ⟨ds, rfl, hl⟩ | ⟨ds, rfl⟩ | rfl | rfl | ⟨i, rfl⟩
    · simp [f_law_is_plan, b_law_is_plan, dStart, arSl]
      have : ¬ ((ds.length : Int) = 4) := by omega
      simp [this]
      exact hk
    · simp [f_law_is_plan, b_law_is_plan, dStart, arSl]
      exact hk
    · simp [f_law_is_plan, b_law_is_plan, dStart, arSl]
      exact hk
    · simp [f_law_is_plan, b_law_is_plan, dStart, arSl]
      exact hk
    · simp [f_law_is_plan, b_law_is_plan, dStart, arSl]
      exact hk
theorem jd_last (hI : Ins I) (h : Dm d) (hs : Sh σ) {a b c : D} : Jd I d σ (.tuple [a, b, c, .int 1]) := by
  refine ⟨false, fun hk => ?_, fun hk => ?_⟩
  · simp [f_shows_plan, b_shows_plan, dStart, arSl]
    exact shareL_run hI h hs (isratio_int (by simpa using hk))
  · simp [f_law_is_plan, b_law_is_plan, dStart, arSl]
    exact lisratio_int (by simpa using hk)
theorem plan_is (hI : Ins I) (h : PlanQ I d σ y g z) : PlanP I d σ y g (z.map Fe.q) (whQ (I.map toL) (plusL g z)) := by
  obtain ⟨f1, f2, f3⟩ := ratsFe (fs := z)
  refine ⟨h.yl.2, h.ys, h.best, h.led, f3.mpr h.zp, by rw [f2, h.zs], ?_, by rw [f2]⟩
  rw [f2]
  rcases h.rest with r | ⟨_, t, ht⟩
  · exact .inl r
  · exact .inr ⟨t, ht⟩
end
def SzP (s : Rat) : Prop := RB s 2
theorem moved_rb {Ls : List Rat} {i j : Nat} {s : Rat} (hs : SzP s) (h : ∀ q ∈ Ls, RB q B) (h1 : 1 ≤ B) : ∀ q ∈ (Ls.set i (Ls.getD i 0 + s)).set j ((Ls.set i (Ls.getD i 0 + s)).getD j 0 + -s), RB q (B + 6) := by
  have hg : ∀ {l : List Rat} {C : Nat} {i : Nat}, (∀ q ∈ l, RB q C) → 1 ≤ C → RB (l.getD i 0) C := fun {l C i} hl hC => by
    rw [List.getD_eq_getElem?_getD]
    cases e : l[i]? with
    | none => exact rb_zero (by omega)
    | some v => exact hl v (List.mem_of_getElem? e)
  have a1 : ∀ q ∈ Ls.set i (Ls.getD i 0 + s), RB q (B + 3) := fun q hq => by
    rcases List.mem_or_eq_of_mem_set hq with m | rfl
    · exact (h q m).mono (by omega)
    · exact ((hg h h1).add' hs).mono (by omega)
  have hn : RB (-s) 2 := ⟨by rw [show (-s).num = -s.num from rfl, Int.natAbs_neg]; exact hs.num, hs.den⟩
  intro q hq
  rcases List.mem_or_eq_of_mem_set hq with m | rfl
  · exact (a1 q m).mono (by omega)
  · exact ((hg a1 (by omega)).add' hn).mono (by omega)
theorem zero_w (hI : Ins I) (hd : Dm d) (h : PlanQ I d 0 y g z) (rz : ∀ q ∈ z, RB q 1000) : RB (whQ (I.map toL) (plusL g z)) 1100 := by
  obtain ⟨e1, e2, e3, t, ht⟩ := plan_zero hd.pos h
  rw [e2, rest_whole ht, e3]
  obtain ⟨i, hi, hp⟩ := used_of h.zp (by rw [e3]; exact hd.pos)
  have zl := h.zl
  obtain ⟨x, hx, ex⟩ := tms_getD (L := I.map toL) (y := z) (i := i) (by simpa using zl) (by simp; omega)
  have f := (rest_facts ht).2 i hp
  rw [ex] at f
  have m1 := List.mem_of_getElem? hx
  have rt : RB t 1018 := by
    rw [← f]
    refine (((rb_int (hI.ok.sl x m1).2 (by omega)).mul' (rz (z.getD i 0) ?_)).add' (hI.ok.bs x m1)).mono (by omega)
    rw [List.getD_eq_getElem?_getD, List.getElem?_eq_getElem hi]
    exact List.getElem_mem _
  exact (rt.mul' hd.rb).mono (by omega)
theorem alike_boolL {k : D → Prop} {w : Exn → Prop} {z : Nat} {b : Bool} (hk : k (.bool true)) : (f_law_alike (z + 1) [.d (.bool b), .d (.bool b)]).run k w := by
  simp [f_law_alike, b_law_alike, dStart, arSl]
  exact hk
theorem law_true (C : Cs) (a : Addr) (ns : List Int) (hz : (a, ns) ∈ C.Z) (hn : ns.length ≤ 63) (hb : ∀ z ∈ ns, Builtin.Int.intBits z ≤ 1048576) : (f_law C [.v (.ref a)]).run (fun d => d = .bool true) (fun _ => False) := by
  show ((b_law C (dStart 18 [.v (.ref a)])).bind _).run _ _
  rw [run_bind]
  unfold b_law
  refine seqM (fun δ => ∃ r, δ = [.v (.ref a), .t r (RowP r a), .non, .non, .non, .non, .non, .non, .non, .non, .non, .non, .non, .non, .non, .non, .non, .non]) ?_ ?_
  · simp [dStart, arSl]
  rintro _ ⟨r, rfl⟩
  have hr : RO C r (RowP r a) := ⟨(a, ns), hz, rfl, hn⟩
  refine seqM (fun δ => ∃ I d, Lw I ∧ Dm d ∧ δ = [.v (.ref a), .t r (RowP r a), .p (.tuple (I.map lnI)), .p (rD d), .non, .non, .non, .non, .non, .non, .non, .non, .non, .non, .non, .non, .non, .non]) ?_ ?_
  · unfold sPar
    simp
    exact llanes_run hr fun I hI => ldemandL_run hr fun d hd => ⟨I, hI, d, hd, rfl, rfl⟩
  rintro _ ⟨I, d, hI, hd, rfl⟩
  have hi := hI.ins
  have l1 := hI.l1
  have l5 := hI.l2
  have dp := hd.pos
  have hL := hi.lok
  refine seqM (fun δ => ∃ σ, Sh σ ∧ σ.den ≤ 7 ∧ δ = [.v (.ref a), .t r (RowP r a), .p (.tuple (I.map lnI)), .p (rD d), .p (rD σ), .non, .non, .non, .non, .non, .non, .non, .non, .non, .non, .non, .non, .non]) ?_ ?_
  · simp
    refine ⟨two_le_line, taken_run hr (by omega) (by omega) fun n n0 n1 => ?_⟩
    refine lratio_run (B := 4) (by omega) (by show _ < 16; omega) (by decide) (by omega) fun _ => ⟨by decide, pick_run hr (by simp) (by simp) fun e he => ?_⟩
    have R : ∀ q : Rat, Sh q ∧ q.den ≤ 7 → e = rD q → ∃ σ, Sh σ ∧ σ.den ≤ 7 ∧ e = rD σ := fun q h1 h2 => ⟨q, h1.1, h1.2, h2⟩
    simp at he
    suffices h : ∃ σ, Sh σ ∧ σ.den ≤ 7 ∧ e = rD σ by
      obtain ⟨σ, h1, h2, h3⟩ := h
      exact ⟨σ, h1, h2, h3⟩
    rcases he with rfl | rfl | rfl | rfl | rfl
    · exact R ⟨0, 1, by decide, by decide⟩ ⟨⟨by decide, by decide, by decide⟩, by decide⟩ rfl
    · exact R ⟨1, 1, by decide, by decide⟩ ⟨⟨by decide, by decide, by decide⟩, by decide⟩ rfl
    · exact R ⟨1, 2, by decide, by decide⟩ ⟨⟨by decide, by decide, by decide⟩, by decide⟩ rfl
    · exact R ⟨1, 3, by decide, by decide⟩ ⟨⟨by decide, by decide, by decide⟩, by decide⟩ rfl
    · exact R _ (lshare_q n n0 n1) rfl
  rintro _ ⟨σ, hs, h7, rfl⟩
  refine seqM (fun δ => ∃ y g z, PlanQ I d σ y g z ∧ (∀ q ∈ y, RB q 34) ∧ (∀ q ∈ g, RB q 44) ∧ (∀ q ∈ z, RB q 1000) ∧ RB (whQ (I.map toL) (plusL g z)) 11000 ∧ δ = [.v (.ref a), .t r (RowP r a), .p (.tuple (I.map lnI)), .p (rD d), .p (rD σ), .p (.tuple [.tuple (y.map rD), .tuple (g.map rD), .tuple (z.map rD), rD (whQ (I.map toL) (plusL g z))]), .non, .non, .non, .non, .non, .non, .non, .non, .non, .non, .non, .non]) ?_ ?_
  · simp
    exact plan_runG hI hd hs (by omega) fun y g z hp r1 r2 r3 r4 => ⟨y, g, z, hp, r1, r2, r3, r4, rfl⟩
  rintro _ ⟨y, g, z, hp, ry, rg, rz, rC, rfl⟩
  have yl := hp.yl
  have gl := hp.gl
  have zl := hp.zl
  obtain ⟨W, hW⟩ : ∃ W, W = whQ (I.map toL) (plusL g z) := ⟨_, rfl⟩
  have hpl := plan_is hi hp
  rw [← hW] at rC hpl ⊢
  obtain ⟨V, hV⟩ : ∃ V : D, V = .tuple [.tuple (y.map rD), .tuple (g.map rD), .tuple (z.map rD), rD W] := ⟨_, rfl⟩
  have v0 : dIx V (.int 0) = .pure (.tuple (y.map rD)) := by rw [hV, rw_ixT]; rfl
  have v3 : dIx V (.int 3) = .pure (rD W) := by rw [hV, rw_ixT]; rfl
  have ry50 : ∀ q ∈ y, RB q 50 := fun q hq => (ry q hq).mono (by omega)
  have rg50 : ∀ q ∈ g, RB q 50 := fun q hq => (rg q hq).mono (by omega)
  rw [← hV]
  refine seqM (fun δ => δ = [.v (.ref a), .t r (RowP r a), .p (.tuple (I.map lnI)), .p (rD d), .p (rD σ), .p V, .non, .non, .non, .non, .non, .non, .non, .non, .non, .non, .non, .non]) ?_ ?_
  · rw [rw_if]
    simp
    rw [hV, (ratsFe (fs := z)).1]
    refine lplan_dec hi l5 hd hs yl.1 gl (by simpa using zl) ry50 (fun _ => rg50) (fun e he => ?_) rC fun b hb => ?_
    · obtain ⟨v, hv, rfl⟩ := List.mem_map.mp he
      exact (rz v hv).mono (by omega)
    · rw [hb.mpr hpl]
      simp
  rintro _ rfl
  refine seqM (fun δ => RB (whQ (I.map toL) y) 1000 ∧ δ = [.v (.ref a), .t r (RowP r a), .p (.tuple (I.map lnI)), .p (rD d), .p (rD σ), .p V, .p (rD (whQ (I.map toL) y)), .non, .non, .non, .non, .non, .non, .non, .non, .non, .non, .non]) ?_ ?_
  · simp [v0]
    refine lwholeG hi yl.1 ry (by omega) (.inl rfl) fun rb => ?_
    have : I.length * (34 + (7 + 34 + 10 + 1) + 1) ≤ 5 * (34 + (7 + 34 + 10 + 1) + 1) := Nat.mul_le_mul_right _ (by omega)
    exact ⟨rfl, rb.mono (show _ ≤ 1000 by omega)⟩
  rintro _ ⟨rY, rfl⟩
  obtain ⟨Y, hY⟩ : ∃ Y, Y = whQ (I.map toL) y := ⟨_, rfl⟩
  have bnd := plan_bound hL dp hs.pos hs.le1 hp
  rw [← hW, ← hY] at bnd
  rw [← hY] at rY ⊢
  refine seqM (fun δ => δ = [.v (.ref a), .t r (RowP r a), .p (.tuple (I.map lnI)), .p (rD d), .p (rD σ), .p V, .p (rD Y), .non, .non, .non, .non, .non, .non, .non, .non, .non, .non, .non]) ?_ ?_
  · rw [rw_if]
    simp [v3]
    have n1 : ¬ Y < σ * W := fun z => by grind
    have n2 : ¬ W < Y := fun z => by grind
    have fin : ∀ {B : Nat}, RB (σ * W) B → B < 20000 → (f_law_less [.d (rD Y), .d (rD (σ * W))]).run (fun a_1 => (truD a_1).run (fun b => b = false ∧ (f_law_less [.d (rD W), .d (rD Y)]).run (fun a_1 => (truD a_1).run (fun b => b = false) fun _ => False) fun _ => False) fun _ => False) fun _ => False := fun rb hB => by
      refine llessG rY rb (by omega) ?_
      simp [n1]
      refine llessG rC rY (by omega) ?_
      simp [n2]
    by_cases c : σ = 0
    · have rW : RB W 1100 := by
        rw [hW]
        rw [c] at hp
        exact zero_w hi hd hp rz
      exact lby_run' hs.rb rW (by omega) fun rb => fin rb (by omega)
    · exact lby_runG hs.rb rC (fun z => c (Rat.num_eq_zero.mp z)) (by omega) (by omega) fun rb => fin rb (by omega)
  rintro _ rfl
  refine seqM (fun δ => δ = [.v (.ref a), .t r (RowP r a), .p (.tuple (I.map lnI)), .p (rD d), .p (rD σ), .p V, .p (rD Y), .p (.tuple (y.map rD)), .p (.tuple (g.map rD)), .p (.tuple (z.map rD)), .p (rD W), .non, .non, .non, .non, .non, .non, .non]) ?_ ?_
  · rw [hV]
    simp
  rintro _ rfl
  refine seqM (fun δ => ∃ (t : Nat) (s : Rat), t < I.length ∧ SzP s ∧ δ = [.v (.ref a), .t r (RowP r a), .p (.tuple (I.map lnI)), .p (rD d), .p (rD σ), .p V, .p (rD Y), .p (.tuple (y.map rD)), .p (.tuple (g.map rD)), .p (.tuple (z.map rD)), .p (rD W), .p (.int (t : Int)), .p (rD s), .non, .non, .non, .non, .non]) ?_ ?_
  · unfold sPar
    simp
    refine taken_run hr (by omega) (by omega) fun n n0 n1 => ?_
    refine ⟨two_le_line, by decide, pick_run hr (by simp) (by simp) fun e he => ?_⟩
    obtain ⟨m, rfl⟩ : ∃ m : Nat, n = m := ⟨n.toNat, by omega⟩
    simp at he
    suffices hh : ∃ s, SzP s ∧ e = rD s by
      obtain ⟨s, h1, rfl⟩ := hh
      exact ⟨m, by omega, s, h1, rfl, rfl⟩
    rcases he with rfl | rfl | rfl
    · exact ⟨1, ⟨by decide, by decide⟩, rfl⟩
    · exact ⟨1 / 3, ⟨by decide +kernel, by decide +kernel⟩, by unfold rD; rw [show (1 / 3 : Rat).num = 1 by decide +kernel, show (1 / 3 : Rat).den = 3 by decide +kernel]; rfl⟩
    · exact ⟨-1 / 2, ⟨by decide +kernel, by decide +kernel⟩, by unfold rD; rw [show (-1 / 2 : Rat).num = -1 by decide +kernel, show (-1 / 2 : Rat).den = 2 by decide +kernel]; rfl⟩
  rintro _ ⟨t, s, ht, hsz, rfl⟩
  have jt : ∀ {as bs cs : List Rat} {q : Rat} {B : Nat}, as.length = I.length → bs.length = I.length → cs.length = I.length → (∀ q ∈ as, RB q 50) → (bs = ledQ as (tmsQ (I.map toL) as) (σ * d) → ∀ q ∈ bs, RB q 50) → (∀ q ∈ cs, RB q 1010) → RB q B → Jd I d σ (.tuple [.tuple (as.map rD), .tuple (bs.map rD), .tuple (cs.map rD), rD q]) := fun al bl cl h1 h2 h3 h4 => jd_rats hi l5 hd hs al bl cl h1 h2 h3 h4
  have rz10 : ∀ q ∈ z, RB q 1010 := fun q hq => (rz q hq).mono (by omega)
  have jV : Jd I d σ V := by rw [hV]; exact jt yl.1 gl zl ry50 (fun _ => rg50) rz10 rC
  refine seqM (fun δ => ∃ vs : List D, vs.length ≤ 11 ∧ (∀ v ∈ vs, Jd I d σ v) ∧ δ = [.v (.ref a), .t r (RowP r a), .p (.tuple (I.map lnI)), .p (rD d), .p (rD σ), .p V, .p (rD Y), .p (.tuple (y.map rD)), .p (.tuple (g.map rD)), .p (.tuple (z.map rD)), .p (rD W), .p (.int (t : Int)), .p (rD s), .o vs, .non, .non, .non, .non]) ?_ ?_
  · simp
    rw [hV]
    simp
    rw [hV] at jV
    refine ⟨line1, by decide, by decide, by decide, jV, jd_odd hi hd hs (.inr (.inl ⟨_, rfl⟩)), jd_odd hi hd hs (.inl ⟨_, rfl, by show (3 : Nat) ≠ 4; decide⟩), jd_odd hi hd hs (.inl ⟨_, rfl, by show (5 : Nat) ≠ 4; decide⟩), ?_, ?_, jd_last hi hd hs, jd_odd hi hd hs (by simp), jd_odd hi hd hs (.inl ⟨_, rfl, by decide⟩), jd_odd hi hd hs (by simp), jd_odd hi hd hs (by simp)⟩
    · exact jt gl yl.1 zl rg50 (fun _ => ry50) rz10 rC
    · refine jt yl.1 zl gl ry50 (fun e => ?_) (fun q hq => (rg q hq).mono (by omega)) rC
      rw [e, ← hp.led]
      exact rg50
  rintro _ ⟨vs, vl, hvs, rfl⟩
  refine seqM (fun δ => ∃ vs : List D, vs.length ≤ 12 ∧ (∀ v ∈ vs, Jd I d σ v) ∧ δ = [.v (.ref a), .t r (RowP r a), .p (.tuple (I.map lnI)), .p (rD d), .p (rD σ), .p V, .p (rD Y), .p (.tuple (y.map rD)), .p (.tuple (g.map rD)), .p (.tuple (z.map rD)), .p (rD W), .p (.int (t : Int)), .p (rD s), .o vs, .non, .non, .non, .non]) ?_ ?_
  · simp
    refine ⟨line2, ?_⟩
    rw [one_rD]
    refine lplus_runG (b := 1) rC ⟨by decide, by decide⟩ (by omega) (by omega) fun rb => ?_
    refine ⟨by decide, lineL (by omega), vl, fun v hv => ?_⟩
    rcases hv with hv | rfl
    · exact hvs v hv
    · exact jt yl.1 gl zl ry50 (fun _ => rg50) rz10 rb
  rintro _ ⟨vs, vl, hvs, rfl⟩
  refine seqM (fun δ => ∃ (vs : List D) (s14 s15 s16 : Sl), vs.length ≤ 50 ∧ (∀ v ∈ vs, Jd I d σ v) ∧ δ = [.v (.ref a), .t r (RowP r a), .p (.tuple (I.map lnI)), .p (rD d), .p (rD σ), .p V, .p (rD Y), .p (.tuple (y.map rD)), .p (.tuple (g.map rD)), .p (.tuple (z.map rD)), .p (rD W), .p (.int (t : Int)), .p (rD s), .o vs, s14, s15, s16, .non]) ?_ ?_
  · rw [rw_for]
    simp only [rw_rg1, rw_dCB, rw_aCons, rw_aNil, rw_dV, List.getElem?_cons_succ, List.getElem?_cons_zero, slotP_p, pure_bind, run_bind, run_pure, run_need, List.length_cons, List.length_nil]
    have eb : ∀ ds : List D, bLen [.tuple ds] = .pure (.int (ds.length : Nat)) := fun _ => rfl
    have ea1 : ∀ z : Int, asI1 (.int z) = .pure z := fun _ => rfl
    simp only [rw_allD1, rw_allD0, pure_bind, run_pure, eb, ea1, List.length_map, Int.toNat_natCast]
    refine ⟨lo62_le (by omega) (by omega), ?_⟩
    rw [show rgD 0 I.length = (List.range I.length).map natD by unfold rgD natD; simp]
    refine loop_pre (fun pre δ => ∃ (vs : List D) (s14 s15 s16 : Sl), vs.length ≤ 12 + 4 * pre.length ∧ (∀ v ∈ vs, Jd I d σ v) ∧ δ = [.v (.ref a), .t r (RowP r a), .p (.tuple (I.map lnI)), .p (rD d), .p (rD σ), .p V, .p (rD Y), .p (.tuple (y.map rD)), .p (.tuple (g.map rD)), .p (.tuple (z.map rD)), .p (rD W), .p (.int (t : Int)), .p (rD s), .o vs, s14, s15, s16, .non]) ⟨vs, _, _, _, by simpa using vl, hvs, rfl⟩ ?_ ?_
    · rintro pre j post δ e ⟨vs, s14, s15, s16, vl, hvs, rfl⟩
      have hj : j < I.length := List.mem_range.mp (by rw [e]; simp)
      have lp : pre.length < I.length := by
        have := congrArg List.length e
        simp at this
        omega
      refine ⟨_, rfl, ?_⟩
      refine seqM (fun δ => ∃ (vs : List D) (s15 s16 : Sl), vs.length ≤ 12 + 4 * pre.length + 3 ∧ (∀ v ∈ vs, Jd I d σ v) ∧ δ = [.v (.ref a), .t r (RowP r a), .p (.tuple (I.map lnI)), .p (rD d), .p (rD σ), .p V, .p (rD Y), .p (.tuple (y.map rD)), .p (.tuple (g.map rD)), .p (.tuple (z.map rD)), .p (rD W), .p (.int (t : Int)), .p (rD s), .o vs, .p (natD j), s15, s16, .non]) ?_ ?_
      · rw [rw_for]
        simp only [rw_rg1, rw_dC, pure_bind, run_bind, run_pure, run_need, ea1]
        refine ⟨lo62_le (by omega) (by omega), ?_⟩
        rw [show rgD 0 (3 : Int).toNat = (List.range 3).map natD from rfl]
        refine loop_pre (fun pr δ => ∃ (vs : List D) (s15 s16 : Sl), vs.length ≤ 12 + 4 * pre.length + pr.length ∧ (∀ v ∈ vs, Jd I d σ v) ∧ δ = [.v (.ref a), .t r (RowP r a), .p (.tuple (I.map lnI)), .p (rD d), .p (rD σ), .p V, .p (rD Y), .p (.tuple (y.map rD)), .p (.tuple (g.map rD)), .p (.tuple (z.map rD)), .p (rD W), .p (.int (t : Int)), .p (rD s), .o vs, .p (natD j), s15, s16, .non]) ⟨vs, _, _, by simpa using vl, hvs, rfl⟩ ?_ ?_
        · rintro pr i po δ ei ⟨vs, s15, s16, vl, hvs, rfl⟩
          have hi3 : i < 3 := List.mem_range.mp (by rw [ei]; simp)
          obtain ⟨Ls, hLs⟩ : ∃ Ls, Ls = [y, g, z].getD i [] := ⟨_, rfl⟩
          have i3 : i = 0 ∨ i = 1 ∨ i = 2 := by omega
          have Ll : Ls.length = I.length := by rcases i3 with rfl | rfl | rfl <;> rw [hLs] <;> simp [yl.1, gl, zl]
          have vi : dIx V (.int (i : Int)) = .pure (.tuple (Ls.map rD)) := by rcases i3 with rfl | rfl | rfl <;> rw [hV, rw_ixT, hLs] <;> rfl
          refine ⟨_, rfl, ?_⟩
          refine seqM (fun δ => δ = [.v (.ref a), .t r (RowP r a), .p (.tuple (I.map lnI)), .p (rD d), .p (rD σ), .p V, .p (rD Y), .p (.tuple (y.map rD)), .p (.tuple (g.map rD)), .p (.tuple (z.map rD)), .p (rD W), .p (.int (t : Int)), .p (rD s), .o vs, .p (natD j), .p (natD i), .o (Ls.map rD), .non]) ?_ ?_
          · simp [natD, vi]
          rintro _ rfl
          have rL : ∀ q ∈ Ls, RB q 1000 := by
            rcases i3 with rfl | rfl | rfl <;> rw [hLs]
            · exact fun q hq => (ry q hq).mono (by omega)
            · exact fun q hq => (rg q hq).mono (by omega)
            · exact rz
          obtain ⟨M1, hM1⟩ : ∃ M1, M1 = Ls.set t (Ls.getD t 0 + s) := ⟨_, rfl⟩
          obtain ⟨M, hM⟩ : ∃ M, M = M1.set j (M1.getD j 0 + -s) := ⟨_, rfl⟩
          have rM : ∀ {B : Nat}, 1 ≤ B → (∀ q ∈ Ls, RB q B) → ∀ q ∈ M, RB q (B + 6) := fun h1 h => by
            rw [hM, hM1]
            exact moved_rb hsz h h1
          have M1l : M1.length = I.length := by rw [hM1, List.length_set, Ll]
          have Ml : M.length = I.length := by rw [hM, List.length_set, M1l]
          have gLt : Ls[t]? = some (Ls.getD t 0) := by rw [List.getElem?_eq_getElem (by omega), List.getD_eq_getElem?_getD, List.getElem?_eq_getElem (by omega)]; rfl
          have gMj : M1[j]? = some (M1.getD j 0) := by rw [List.getElem?_eq_getElem (by omega), List.getD_eq_getElem?_getD, List.getElem?_eq_getElem (by omega)]; rfl
          refine seqM (fun δ => δ = [.v (.ref a), .t r (RowP r a), .p (.tuple (I.map lnI)), .p (rD d), .p (rD σ), .p V, .p (rD Y), .p (.tuple (y.map rD)), .p (.tuple (g.map rD)), .p (.tuple (z.map rD)), .p (rD W), .p (.int (t : Int)), .p (rD s), .o vs, .p (natD j), .p (natD i), .o (M1.map rD), .non]) ?_ ?_
          · simp only [rw_setIx, rw_call, rw_aCons, rw_aNil, rw_dOix, rw_dV, List.getElem?_cons_succ, List.getElem?_cons_zero, slotP_p, slotO_o, pure_bind, run_bind, run_pure, run_need, ea1, get_map gLt, optW_some, List.length_cons, List.length_nil, true_and]
            refine lplus_run' (rL _ (List.mem_of_getElem? gLt)) hsz (by omega) fun _ => ?_
            rw [List.length_map, ixN_natL (show t < Ls.length by omega)]
            simp
            rw [hM1, List.map_set]
            simp
          rintro _ rfl
          refine seqM (fun δ => δ = [.v (.ref a), .t r (RowP r a), .p (.tuple (I.map lnI)), .p (rD d), .p (rD σ), .p V, .p (rD Y), .p (.tuple (y.map rD)), .p (.tuple (g.map rD)), .p (.tuple (z.map rD)), .p (rD W), .p (.int (t : Int)), .p (rD s), .o vs, .p (natD j), .p (natD i), .o (M.map rD), .non]) ?_ ?_
          · have hn2 : RB (-s) 2 := ⟨by rw [show (-s).num = -s.num from rfl, Int.natAbs_neg]; exact hsz.num, hsz.den⟩
            have hM1r : ∀ q ∈ M1, RB q 1003 := fun q hq => by
              rw [hM1] at hq
              rcases List.mem_or_eq_of_mem_set hq with m | rfl
              · exact (rL q m).mono (by omega)
              · exact ((rL _ (List.mem_of_getElem? gLt)).add' hsz).mono (by omega)
            have e5 : ∀ z : Rat, (PyData.tuple [.int (-z.num), .int (z.den : Int)]) = rD (-z) := fun z => neg_rD
            simp only [natD, rw_setIx, rw_call, rw_aCons, rw_aNil, rw_dOix, rw_dTup, rw_dC, rw_d2, rw_dV, List.getElem?_cons_succ, List.getElem?_cons_zero, slotP_p, slotO_o, pure_bind, run_bind, run_pure, run_need, ea1, get_map gMj, optW_some, rw_ixR0, rw_ixR1, List.length_cons, List.length_nil, true_and]
            have ds0 : ∀ (k : D → Prop) (e : Exn → Prop), (dSub (.int 0) (.int s.num)).run k e = k (.int (-s.num)) := fun k e => by simp
            simp only [ds0, rw_allD1, rw_allD0, run_pure, run_bind, pure_bind, List.length_cons, List.length_nil, e5]
            refine ⟨line2, lplus_run' (hM1r _ (List.mem_of_getElem? gMj)) hn2 (by omega) fun _ => ?_⟩
            rw [List.length_map, ixN_natL (show j < M1.length by omega)]
            simp
            rw [hM, List.map_set]
            simp
          rintro _ rfl
          rw [rw_sFz, rw_fzo (i := 16) rfl]
          simp only [List.set_cons_succ, List.set_cons_zero]
          have cc : ∀ a b c e : D, cutD [a, b, c, e] none (some 0) = [] ∧ cutD [a, b, c, e] (some 1) none = [b, c, e] ∧ cutD [a, b, c, e] none (some 1) = [a] ∧ cutD [a, b, c, e] (some 2) none = [c, e] ∧ cutD [a, b, c, e] none (some 2) = [a, b] ∧ cutD [a, b, c, e] (some 3) none = [e] := fun _ _ _ _ => ⟨rfl, rfl, rfl, rfl, rfl, rfl⟩
          have lpr : pr.length < 3 := by
            have := congrArg List.length ei
            simp at this
            omega
          rcases i3 with rfl | rfl | rfl
          · have rM0 := rM (B := 34) (by omega) (by rw [hLs]; exact ry)
            have J := jt (as := M) (bs := g) (cs := z) (q := W) Ml gl zl (fun q hq => (rM0 q hq).mono (by omega)) (fun _ => rg50) rz10 rC
            simp [natD]
            rw [hV]
            simp [cc]
            refine ⟨line1, by decide, lineL (by omega), by omega, fun v hv => ?_⟩
            rcases hv with hv | rfl
            · exact hvs v hv
            · exact J
          · have rM0 := rM (B := 44) (by omega) (by rw [hLs]; exact rg)
            have J := jt (as := y) (bs := M) (cs := z) (q := W) yl.1 Ml zl ry50 (fun _ q hq => (rM0 q hq).mono (by omega)) rz10 rC
            simp [natD]
            rw [hV]
            simp [cc]
            refine ⟨line1, by decide, by decide, lineL (by omega), by omega, fun v hv => ?_⟩
            rcases hv with hv | rfl
            · exact hvs v hv
            · exact J
          · have rM0 := rM (B := 1000) (by omega) (by rw [hLs]; exact rz)
            have J := jt (as := y) (bs := g) (cs := M) (q := W) yl.1 gl Ml ry50 (fun _ => rg50) (fun q hq => (rM0 q hq).mono (by omega)) rC
            simp [natD]
            rw [hV]
            simp [cc]
            refine ⟨line1, by decide, by decide, lineL (by omega), by omega, fun v hv => ?_⟩
            rcases hv with hv | rfl
            · exact hvs v hv
            · exact J
        · rintro δ ⟨vs, s15, s16, vl, hvs, rfl⟩
          exact ⟨_, rfl, vs, s15, s16, by simpa using vl, hvs, rfl⟩
      rintro _ ⟨vs, s15, s16, vl, hvs, rfl⟩
      have ea : ∀ a : Int, asI (.int a) = .pure (some a) := fun _ => rfl
      have ead : dAdd (.int (j : Int)) (.int 1) = .pure (.int ((j + 1 : Nat) : Int)) := rfl
      have cd : cutD (z.map rD) (some ((j : Int) + 1)) none = (z.map rD).drop (j + 1) := cut_drop (n := j + 1)
      have ez : (z.map rD).take j ++ .int 1 :: (z.map rD).drop (j + 1) = ((z.map Fe.q).set j .one).map feD := by
        rw [List.map_set, ← (ratsFe (fs := z)).1, List.set_eq_take_append_cons_drop, if_pos (by simp; omega)]
        rfl
      simp [natD, ea, cut_take, ead, cd, -List.map_drop, -List.map_take]
      have lt' : ((z.map rD).take j).length ≤ 5 := by rw [List.length_take, List.length_map]; omega
      have J : Jd I d σ (.tuple [.tuple (y.map rD), .tuple (g.map rD), .tuple (((z.map Fe.q).set j .one).map feD), rD W]) := by
        refine jd_plan hi l5 hd hs yl.1 gl (by simpa using zl) ry50 (fun _ => rg50) (fun e he => ?_) rC
        rcases List.mem_or_eq_of_mem_set he with m | rfl
        · obtain ⟨v, hv, rfl⟩ := List.mem_map.mp m
          exact rz10 v hv
        · exact trivial
      refine ⟨line1, lineN (by omega), lineN (by omega), by decide, lineL (by omega), by omega, fun v hv => ?_⟩
      rcases hv with hv | rfl
      · exact hvs v hv
      · rw [ez]
        exact J
    · rintro δ ⟨vs, s14, s15, s16, vl, hvs, rfl⟩
      exact ⟨_, rfl, vs, s14, s15, s16, by simp at vl; omega, hvs, rfl⟩
  rintro _ ⟨vs, s14, s15, s16, vl, hvs, rfl⟩
  rw [rw_sFz, rw_fzo (i := 13) rfl]
  simp only [List.set_cons_succ, List.set_cons_zero]
  refine seqM (fun δ => ∃ s17 : Sl, δ = [.v (.ref a), .t r (RowP r a), .p (.tuple (I.map lnI)), .p (rD d), .p (rD σ), .p V, .p (rD Y), .p (.tuple (y.map rD)), .p (.tuple (g.map rD)), .p (.tuple (z.map rD)), .p (rD W), .p (.int (t : Int)), .p (rD s), .p (.list vs), s14, s15, s16, s17]) ?_ ?_
  · rw [rw_for]
    simp only [rw_iSeqD, rw_dV, List.getElem?_cons_succ, List.getElem?_cons_zero, slotP_p, pure_bind, run_bind, rw_seqL, run_pure]
    have e0 : vs = vs.map id := (List.map_id _).symm
    rw [e0]
    refine loop_pre (fun pre δ => ∃ s17 : Sl, δ = [.v (.ref a), .t r (RowP r a), .p (.tuple (I.map lnI)), .p (rD d), .p (rD σ), .p V, .p (rD Y), .p (.tuple (y.map rD)), .p (.tuple (g.map rD)), .p (.tuple (z.map rD)), .p (rD W), .p (.int (t : Int)), .p (rD s), .p (.list (vs.map id)), s14, s15, s16, s17]) ⟨_, rfl⟩ ?_ ?_
    · rintro pre v post δ e ⟨s17, rfl⟩
      obtain ⟨b, j1, j2⟩ := hvs v (by rw [e]; simp)
      refine ⟨_, rfl, ?_⟩
      rw [rw_if]
      simp
      refine j1 (j2 (alike_boolL ?_))
      simp
    · rintro δ ⟨s17, rfl⟩
      exact ⟨_, rfl, s17, rfl⟩
  rintro _ ⟨s17, rfl⟩
  simp
end Tr

set_option maxHeartbeats 0
namespace Tr
open PySem PySem.Spec L2
@[reducible] def protT (K : PySem.W.Frag) : ProtC := ⟨fun P q => (P, q) ∈ tlT.map (lmA K)⟩
theorem tpT {K : PySem.W.Frag} {h base : Heap} {mg : Str → Option Value} {w : World} {a : Addr} {ns : List Int} (X : K.In h) (G : h.Ns mainGlobals mg) (c0 : He.SaysX faT fnT [] tfT exT w h K) (tb : ∀ p ∈ tfT.map (He.cT K), LamX.TabB base mg p.1 p.2)
    (hu : ((tlT.map (lmA K)).map (·.1)).Nodup) : letI := protT K; ∀ (np : ∀ P ∈ tgT.map (tabA K), ∀ q, ¬ ProtC.p P q) (pl : ∀ p ∈ tlT.map (lmA K), ProtC.p p.1 p.2), Tp (mkC K mg (tgT.map (tabA K)) np (tlT.map (lmA K)) pl a ns) base :=
  letI := protT K
  have c := c0.t.d
  have hex := (Bool.and_eq_true_iff.mp c0.more).2
  fun np pl => {
    d_law_taken := c.def_ 0 (d := dd_law_taken) rfl
    g_law_taken := He.glo_ok X G (c.fact 0 (f := .glo "_law_taken") rfl)
    d_law_pick := c.def_ 1 (d := dd_law_pick) rfl
    g_law_pick := He.glo_ok X G (c.fact 1 (f := .glo "_law_pick") rfl)
    d_law_ratio := c.def_ 2 (d := dd_law_ratio) rfl
    g_law_ratio := He.glo_ok X G (c.fact 2 (f := .glo "_law_ratio") rfl)
    d_law_demand := c.def_ 3 (d := dd_law_demand) rfl
    g_law_demand := He.glo_ok X G (c.fact 3 (f := .glo "_law_demand") rfl)
    d_law_lanes := c.def_ 4 (d := dd_law_lanes) rfl
    g_law_lanes := He.glo_ok X G (c.fact 4 (f := .glo "_law_lanes") rfl)
    d_is_in := c.def_ 5 (d := dd_is_in) rfl
    g_is_in := He.glo_ok X G (c.fact 5 (f := .glo "is_in") rfl)
    d_is_lane := c.def_ 6 (d := dd_is_lane) rfl
    g_is_lane := He.glo_ok X G (c.fact 6 (f := .glo "is_lane") rfl)
    d_is_ratio := c.def_ 7 (d := dd_is_ratio) rfl
    g_is_ratio := He.glo_ok X G (c.fact 7 (f := .glo "is_ratio") rfl)
    t_is_ratio := tabGx (tb (He.cT K ("is_ratio", none)) (List.mem_map_of_mem (f := He.cT K) (a := (("is_ratio", none) : He.Defn)) (by decide +kernel)))
    p_is_ratio := List.mem_map_of_mem (f := tabA K) (a := (("is_ratio", none) : He.Defn)) (by decide +kernel)
    d_need_demand := c.def_ 8 (d := dd_need_demand) rfl
    g_need_demand := He.glo_ok X G (c.fact 8 (f := .glo "need_demand") rfl)
    d_need_lanes := c.def_ 9 (d := dd_need_lanes) rfl
    g_need_lanes := He.glo_ok X G (c.fact 9 (f := .glo "need_lanes") rfl)
    d_need_share := c.def_ 10 (d := dd_need_share) rfl
    g_need_share := He.glo_ok X G (c.fact 10 (f := .glo "need_share") rfl)
    d_with_ratios := c.def_ 11 (d := dd_with_ratios) rfl
    g_with_ratios := He.glo_ok X G (c.fact 11 (f := .glo "with_ratios") rfl)
    d_steep := c.def_ 12 (d := dd_steep) rfl
    g_steep := He.glo_ok X G (c.fact 12 (f := .glo "steep") rfl)
    d_ratio := c.def_ 13 (d := dd_ratio) rfl
    g_ratio := He.glo_ok X G (c.fact 13 (f := .glo "ratio") rfl)
    d_minus := c.def_ 14 (d := dd_minus) rfl
    g_minus := He.glo_ok X G (c.fact 14 (f := .glo "minus") rfl)
    d_less := c.def_ 15 (d := dd_less) rfl
    g_less := He.glo_ok X G (c.fact 15 (f := .glo "less") rfl)
    d_plus := c.def_ 16 (d := dd_plus) rfl
    g_plus := He.glo_ok X G (c.fact 16 (f := .glo "plus") rfl)
    d_over := c.def_ 17 (d := dd_over) rfl
    g_over := He.glo_ok X G (c.fact 17 (f := .glo "over") rfl)
    d_taken_at := c.def_ 18 (d := dd_taken_at) rfl
    g_taken_at := He.glo_ok X G (c.fact 18 (f := .glo "taken_at") rfl)
    d_flows_at := c.def_ 19 (d := dd_flows_at) rfl
    g_flows_at := He.glo_ok X G (c.fact 19 (f := .glo "flows_at") rfl)
    d_sorted_ratios := c.def_ 20 (d := dd_sorted_ratios) rfl
    g_sorted_ratios := He.glo_ok X G (c.fact 20 (f := .glo "sorted_ratios") rfl)
    d_sum_of := c.def_ 21 (d := dd_sum_of) rfl
    g_sum_of := He.glo_ok X G (c.fact 21 (f := .glo "sum_of") rfl)
    d_level_of := c.def_ 22 (d := dd_level_of) rfl
    g_level_of := He.glo_ok X G (c.fact 22 (f := .glo "level_of") rfl)
    d_best_flows := c.def_ 23 (d := dd_best_flows) rfl
    g_best_flows := He.glo_ok X G (c.fact 23 (f := .glo "best_flows") rfl)
    d_by := c.def_ 24 (d := dd_by) rfl
    g_by := He.glo_ok X G (c.fact 24 (f := .glo "by") rfl)
    d_lane_time := c.def_ 25 (d := dd_lane_time) rfl
    g_lane_time := He.glo_ok X G (c.fact 25 (f := .glo "lane_time") rfl)
    d_falling := c.def_ 26 (d := dd_falling) rfl
    g_falling := He.glo_ok X G (c.fact 26 (f := .glo "falling") rfl)
    d_led_of := c.def_ 27 (d := dd_led_of) rfl
    g_led_of := He.glo_ok X G (c.fact 27 (f := .glo "led_of") rfl)
    d_left_lanes := c.def_ 28 (d := dd_left_lanes) rfl
    g_left_lanes := He.glo_ok X G (c.fact 28 (f := .glo "left_lanes") rfl)
    d_others_of := c.def_ 29 (d := dd_others_of) rfl
    g_others_of := He.glo_ok X G (c.fact 29 (f := .glo "others_of") rfl)
    d_total_of := c.def_ 30 (d := dd_total_of) rfl
    g_total_of := He.glo_ok X G (c.fact 30 (f := .glo "total_of") rfl)
    d_leader_plan := c.def_ 31 (d := dd_leader_plan) rfl
    g_leader_plan := He.glo_ok X G (c.fact 31 (f := .glo "leader_plan") rfl)
    d_law_is_ratio := c.def_ 32 (d := dd_law_is_ratio) rfl
    g_law_is_ratio := He.glo_ok X G (c.fact 32 (f := .glo "_law_is_ratio") rfl)
    d_law_plus := c.def_ 33 (d := dd_law_plus) rfl
    g_law_plus := He.glo_ok X G (c.fact 33 (f := .glo "_law_plus") rfl)
    d_law_sum := c.def_ 34 (d := dd_law_sum) rfl
    g_law_sum := He.glo_ok X G (c.fact 34 (f := .glo "_law_sum") rfl)
    d_law_by := c.def_ 35 (d := dd_law_by) rfl
    g_law_by := He.glo_ok X G (c.fact 35 (f := .glo "_law_by") rfl)
    d_law_time := c.def_ 36 (d := dd_law_time) rfl
    g_law_time := He.glo_ok X G (c.fact 36 (f := .glo "_law_time") rfl)
    d_law_less := c.def_ 37 (d := dd_law_less) rfl
    g_law_less := He.glo_ok X G (c.fact 37 (f := .glo "_law_less") rfl)
    d_law_lane_rests := c.def_ 38 (d := dd_law_lane_rests) rfl
    g_law_lane_rests := He.glo_ok X G (c.fact 38 (f := .glo "_law_lane_rests") rfl)
    d_law_led := c.def_ 39 (d := dd_law_led) rfl
    g_law_led := He.glo_ok X G (c.fact 39 (f := .glo "_law_led") rfl)
    d_law_whole := c.def_ 40 (d := dd_law_whole) rfl
    g_law_whole := He.glo_ok X G (c.fact 40 (f := .glo "_law_whole") rfl)
    d_law_is_plan := c.def_ 41 (d := dd_law_is_plan) rfl
    g_law_is_plan := He.glo_ok X G (c.fact 41 (f := .glo "_law_is_plan") rfl)
    d_law_alike := c.def_ 42 (d := dd_law_alike) rfl
    g_law_alike := He.glo_ok X G (c.fact 42 (f := .glo "_law_alike") rfl)
    d_are_flows := c.def_ 43 (d := dd_are_flows) rfl
    g_are_flows := He.glo_ok X G (c.fact 43 (f := .glo "are_flows") rfl)
    t_are_flows := tabGx (tb (He.cT K ("are_flows", none)) (List.mem_map_of_mem (f := He.cT K) (a := (("are_flows", none) : He.Defn)) (by decide +kernel)))
    p_are_flows := List.mem_map_of_mem (f := tabA K) (a := (("are_flows", none) : He.Defn)) (by decide +kernel)
    d_do_rest := c.def_ 44 (d := dd_do_rest) rfl
    g_do_rest := He.glo_ok X G (c.fact 44 (f := .glo "do_rest") rfl)
    d_rests_behind := c.def_ 45 (d := dd_rests_behind) rfl
    g_rests_behind := He.glo_ok X G (c.fact 45 (f := .glo "rests_behind") rfl)
    d_shows_plan := c.def_ 46 (d := dd_shows_plan) rfl
    g_shows_plan := He.glo_ok X G (c.fact 46 (f := .glo "shows_plan") rfl)
    t_shows_plan := tabGx (tb (He.cT K ("shows_plan", none)) (List.mem_map_of_mem (f := He.cT K) (a := (("shows_plan", none) : He.Defn)) (by decide +kernel)))
    p_shows_plan := List.mem_map_of_mem (f := tabA K) (a := (("shows_plan", none) : He.Defn)) (by decide +kernel)
    d_law := c.def_ 47 (d := dd_law) rfl
    g_law := He.glo_ok X G (c.fact 47 (f := .glo "law") rfl)
    b_abs := He.free_ok X G (c.fact 48 (f := .free "abs") rfl)
    b_all := He.free_ok X G (c.fact 49 (f := .free "all") rfl)
    b_bool := He.free_ok X G (c.fact 50 (f := .free "bool") rfl)
    b_enumerate := He.free_ok X G (c.fact 51 (f := .free "enumerate") rfl)
    b_int := He.free_ok X G (c.fact 52 (f := .free "int") rfl)
    b_isinstance := He.free_ok X G (c.fact 53 (f := .free "isinstance") rfl)
    b_len := He.free_ok X G (c.fact 54 (f := .free "len") rfl)
    b_list := He.free_ok X G (c.fact 55 (f := .free "list") rfl)
    b_range := He.free_ok X G (c.fact 56 (f := .free "range") rfl)
    b_str := He.free_ok X G (c.fact 57 (f := .free "str") rfl)
    b_tuple := He.free_ok X G (c.fact 58 (f := .free "tuple") rfl)
    b_zip := He.free_ok X G (c.fact 59 (f := .free "zip") rfl)
    i_MOST_BASE := He.int_ok X G (c.fact 60 (f := .int "MOST_BASE" 1000) rfl)
    i_MOST_BOTTOM := He.int_ok X G (c.fact 61 (f := .int "MOST_BOTTOM" 100) rfl)
    i_MOST_LANES := He.int_ok X G (c.fact 62 (f := .int "MOST_LANES" 8) rfl)
    i_MOST_PART := He.int_ok X G (c.fact 63 (f := .int "MOST_PART" 100) rfl)
    i_MOST_SLOPE := He.int_ok X G (c.fact 64 (f := .int "MOST_SLOPE" 100) rfl)
    i_MOST_TOP := He.int_ok X G (c.fact 65 (f := .int "MOST_TOP" 1000) rfl)
    m_gcd := PySem.W.mg_of X G (He.eqO_ok hex) }
theorem lawT (w : World) (mg : Str → Option Value) (fa : Addr) (h : Heap) (hl : ∀ (I : ProtC) (C : @Cs I) (a : Addr) (ns : List Int), (a, ns) ∈ C.Z → ns.length ≤ 63 → (∀ z ∈ ns, Builtin.Int.intBits z ≤ 1048576) → (@f_law I C [.v (.ref a)]).run (fun d => d = .bool true) (fun _ => False))
    (Y : hkT.says w h) (G : h.Ns mainGlobals mg) (hm : mg "law" = some (.ref fa)) : ∃ K : PySem.W.Frag, K.In h ∧ LamX.LawAtS PySem.Challenge.rw_tollroads_k13_whole_leader_plans w K (L2.CX (PySem.Challenge.rw_tollroads_k13_whole_leader_plans).prog w) 8 63 "_law_script" mg fa h := by
  obtain ⟨K, X, c⟩ := Y
  have e := hm.symm.trans (He.glo_ok X G (c.t.d.fact 47 (f := .glo "law") rfl))
  cases e
  obtain ⟨fd, F⟩ := c.t.d.def_ 47 (d := dd_law) rfl
  have b := FunD.bindsA (ps := ["_law_script"]) F fun _ _ _ _ _ _ us hl => match us, hl with | [_], _ => rfl
  have nod : (tgT.map (tabA K) ++ (tlT.map (lmA K)).map (·.1)).Nodup := of_decide_eq_true (Bool.and_eq_true_iff.mp c.more).1
  letI := protT K
  have np : ∀ P ∈ tgT.map (tabA K), ∀ q, ¬ ProtC.p P q := prot_np nod
  have pl : ∀ p ∈ tlT.map (lmA K), ProtC.p p.1 p.2 := fun p hp => hp
  refine ⟨K, X, lawAt (F := fun C => f_law C) (cs := tfT.map (He.cT K)) np pl (fun P hP => ?_) (fun q hq => ?_) (fun p hp => ?_) (fun p hp => ?_) (fun p hp => ?_) (fun s v => b s [v] rfl) (fun base kb gb tb a ns => n_law (tpT X G c tb (List.nodup_append.mp nod).2.1 np pl) F) (hl _)⟩
  · obtain ⟨q, hq, rfl⟩ := List.mem_map.mp hP
    exact ⟨_, List.mem_map_of_mem (f := He.cT K) (List.mem_append_left _ hq), rfl⟩
  · obtain ⟨q', hq', rfl⟩ := List.mem_map.mp hq
    exact ⟨_, List.mem_map_of_mem (f := He.cT K) (List.mem_append_right _ (List.mem_map_of_mem (f := (·.1)) hq')), rfl⟩
  · obtain ⟨q, hq, rfl⟩ := List.mem_map.mp hp
    exact c.empty q hq
  · obtain ⟨q, hq, rfl⟩ := List.mem_map.mp hp
    exact c.out q hq
  · obtain ⟨q, hq, rfl⟩ := List.mem_map.mp hp
    exact PySem.W.codeHd_of_K X (c.hd q hq)
end Tr
open PySem PySem.W PySem.Calls PyProof.Rows
theorem PySem.Challenge.cw_tollroads_k13_whole_leader_plans_holds : PySem.Challenge.rw_tollroads_k13_whole_leader_plans.Holds := by
  w_on; o_law
  refine HandSHeadRun.head_imp (r := Tr.rwT) (q := view Tr.rwT.prog [0, 64]) (H := Tr.hkT) (ob := Tr.obT) (M := 6000) (loose := Tr.looseT) (d := HandSHeadRun.topDef Tr.rwT.prog 64) (kwd := []) Tr.obT_eq
    Tr.runT (by kernel_rfl) (by kernel_rfl) (by kernel_rfl) (by rfl) (by first | assumption | decide +kernel) (by decide +kernel) ⟨rfl, rfl, rfl, rfl, rfl, by decide +kernel⟩ ?hw ?hc
  case hw => w_witness2
  case hc =>
    refine LamX.walk_ofTsE (l := PySem.Challenge.rw_tollroads_k13_whole_leader_plans) (n := 63) (k := 8) (x := "_law_script") (CX := L2.CX (PySem.Challenge.rw_tollroads_k13_whole_leader_plans).prog) rfl (by decide) (by kernel_rfl) ⟨rfl, by decide, by decide⟩ ?F (letI : Tr.ProtC := ⟨fun _ _ => False⟩; fun _ _ _ _ _ z => Tr.noOut z)
    intro w mg fa h Y G hmg0
    have hmg : mg ("law" : PySem.Str) = some (.ref fa) := by
      have e : (HandSHeadRun.topDef Tr.rwT.prog 64).name = ("law" : PySem.Str) := by kernel_rfl
      rw [← e]
      exact hmg0
    exact Tr.lawT w mg fa h (fun I => @Tr.law_true I) Y G hmg
