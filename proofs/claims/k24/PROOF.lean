import PyProof.Rows.All
import Wide.All
import OpenK.AllK
import Wide.FinOn
import HandS.Base
import HandS.Call
import HandS.List
import HandS.Comp
import HandS.Words
import HandS.WordsList
import HandS.Exc
import HandS.AnyAll
import HandS.Lambda
import HandS.ExcOwn
import HandS.WordsExc
import HandS.IsInst
import HandS.Wide
import HandS.Gcd
import HandS.Deep
import HandS.Flow
import HandS.TupAny
import HandS.Text
import HandS.Walk
import HandS.Iter
import HandS.Zip
import HandS.Defaults
import KE.KNest
import HandS.GenOver
import HandS.GenList
import HandS.HeadHook4
import KE.KStateDown
import HandS.EndTab
import HandS.HeadWalk
import HandS.Head0
import HandS.Head1
import HandS.Head2
import HandS.HeadEnd
import HandS.Head3
import HandS.Star
import KE.GoesMore
import KE.GoesZip
import HandS.TupLe
import HandS.SortRule
import HandS.SortInts
import HandS.Small
import HandS.Style
import HandS.TupMul
import KE.DataMinMax
import KE.SortData
import HandS.TryOnly
import HandS.ExcInit
import HandS.ExcField
import HandS.ExcIs
import KE.KExcIs
import HandS.Dict
import KE.KMinKey
import KE.KLam
import KE.LtData
import HandS.SortKw
import HandS.IterNext
import HandS.Conv
import KE.DataCmp
import KE.SortKeyHeap
import HandS.Keys
import HandS.TupSets
import KE.DataAny
import PySem.Challenge.RW_tollroads_k24_whole_walks
set_option Elab.async false
set_option linter.all false
set_option maxHeartbeats 4000000
set_option maxRecDepth 100000
namespace Tr
open PySem PySem.Spec L2
set_option maxHeartbeats 0
def top (i : Nat) : Stmt := PySem.Challenge.pw_tollroads_k24_whole_walks.main.body.getD i (.Pass ⟨0, 0, 0, 0⟩)
abbrev s_law_taken : Stmt := top 32
abbrev s_law_pick : Stmt := top 33
abbrev s_law_table : Stmt := top 36
abbrev s_law_game_ways : Stmt := top 35
abbrev s_law_game : Stmt := top 37
abbrev s_law_states : Stmt := top 38
abbrev s_is_in : Stmt := top 7
abbrev s_is_table : Stmt := top 15
abbrev s_is_game_road : Stmt := top 16
abbrev s_all_ways : Stmt := top 8
abbrev s_net_of : Stmt := top 17
abbrev s_is_player : Stmt := top 18
abbrev s_need_game : Stmt := top 19
abbrev s_is_state : Stmt := top 21
abbrev s_choices_of : Stmt := top 20
abbrev s_need_state : Stmt := top 22
abbrev s_loads_of : Stmt := top 23
abbrev s_time_in : Stmt := top 24
abbrev s_steps_in : Stmt := top 27
abbrev s_ones : Stmt := top 25
abbrev s_walk_to_standing : Stmt := top 28
abbrev s_law_player_time : Stmt := top 39
abbrev s_law_steps : Stmt := top 40
abbrev s_law_is_walk : Stmt := top 43
abbrev s_law_alike : Stmt := top 34
abbrev s_is_step : Stmt := top 29
abbrev s_shows_walk : Stmt := top 30
abbrev s_law : Stmt := top 44
def dd_law_taken : He.DefD := ⟨("_law_taken", none), "_law_taken", "_law_taken", defArgs s_law_taken, defBody s_law_taken, defScope s_law_taken, [], []⟩
def dd_law_pick : He.DefD := ⟨("_law_pick", none), "_law_pick", "_law_pick", defArgs s_law_pick, defBody s_law_pick, defScope s_law_pick, [], []⟩
def dd_law_table : He.DefD := ⟨("_law_table", none), "_law_table", "_law_table", defArgs s_law_table, defBody s_law_table, defScope s_law_table, [], []⟩
def dd_law_game_ways : He.DefD := ⟨("_law_game_ways", none), "_law_game_ways", "_law_game_ways", defArgs s_law_game_ways, defBody s_law_game_ways, defScope s_law_game_ways, [], []⟩
def dd_law_game : He.DefD := ⟨("_law_game", none), "_law_game", "_law_game", defArgs s_law_game, defBody s_law_game, defScope s_law_game, [], []⟩
def dd_law_states : He.DefD := ⟨("_law_states", none), "_law_states", "_law_states", defArgs s_law_states, defBody s_law_states, defScope s_law_states, [], []⟩
def dd_is_in : He.DefD := ⟨("is_in", none), "is_in", "is_in", defArgs s_is_in, defBody s_is_in, defScope s_is_in, [], []⟩
def dd_is_table : He.DefD := ⟨("is_table", none), "is_table", "is_table", defArgs s_is_table, defBody s_is_table, defScope s_is_table, [], []⟩
def dd_is_game_road : He.DefD := ⟨("is_game_road", none), "is_game_road", "is_game_road", defArgs s_is_game_road, defBody s_is_game_road, defScope s_is_game_road, [], []⟩
def dd_all_ways : He.DefD := ⟨("all_ways", none), "all_ways", "all_ways", defArgs s_all_ways, defBody s_all_ways, defScope s_all_ways, [], []⟩
def dd_net_of : He.DefD := ⟨("net_of", none), "net_of", "net_of", defArgs s_net_of, defBody s_net_of, defScope s_net_of, [], []⟩
def dd_is_player : He.DefD := ⟨("is_player", none), "is_player", "is_player", defArgs s_is_player, defBody s_is_player, defScope s_is_player, [], []⟩
def dd_need_game : He.DefD := ⟨("need_game", none), "need_game", "need_game", defArgs s_need_game, defBody s_need_game, defScope s_need_game, [], []⟩
def dd_is_state : He.DefD := ⟨("is_state", none), "is_state", "is_state", defArgs s_is_state, defBody s_is_state, defScope s_is_state, [], []⟩
def dd_choices_of : He.DefD := ⟨("choices_of", none), "choices_of", "choices_of", defArgs s_choices_of, defBody s_choices_of, defScope s_choices_of, [], []⟩
def dd_need_state : He.DefD := ⟨("need_state", none), "need_state", "need_state", defArgs s_need_state, defBody s_need_state, defScope s_need_state, [], []⟩
def dd_loads_of : He.DefD := ⟨("loads_of", none), "loads_of", "loads_of", defArgs s_loads_of, defBody s_loads_of, defScope s_loads_of, [], []⟩
def dd_time_in : He.DefD := ⟨("time_in", none), "time_in", "time_in", defArgs s_time_in, defBody s_time_in, defScope s_time_in, [], []⟩
def dd_steps_in : He.DefD := ⟨("steps_in", none), "steps_in", "steps_in", defArgs s_steps_in, defBody s_steps_in, defScope s_steps_in, [], []⟩
def dd_ones : He.DefD := ⟨("ones", none), "ones", "ones", defArgs s_ones, defBody s_ones, defScope s_ones, [], []⟩
def dd_walk_to_standing : He.DefD := ⟨("walk_to_standing", none), "walk_to_standing", "walk_to_standing", defArgs s_walk_to_standing, defBody s_walk_to_standing, defScope s_walk_to_standing, [], []⟩
def dd_law_player_time : He.DefD := ⟨("_law_player_time", none), "_law_player_time", "_law_player_time", defArgs s_law_player_time, defBody s_law_player_time, defScope s_law_player_time, [], []⟩
def dd_law_steps : He.DefD := ⟨("_law_steps", none), "_law_steps", "_law_steps", defArgs s_law_steps, defBody s_law_steps, defScope s_law_steps, [], []⟩
def dd_law_is_walk : He.DefD := ⟨("_law_is_walk", none), "_law_is_walk", "_law_is_walk", defArgs s_law_is_walk, defBody s_law_is_walk, defScope s_law_is_walk, [], []⟩
def dd_law_alike : He.DefD := ⟨("_law_alike", none), "_law_alike", "_law_alike", defArgs s_law_alike, defBody s_law_alike, defScope s_law_alike, [], []⟩
def dd_is_step : He.DefD := ⟨("is_step", none), "is_step", "is_step", defArgs s_is_step, defBody s_is_step, defScope s_is_step, [], []⟩
def dd_shows_walk : He.DefD := ⟨("shows_walk", none), "shows_walk", "shows_walk", defArgs s_shows_walk, defBody s_shows_walk, defScope s_shows_walk, [], []⟩
def dd_law : He.DefD := ⟨("law", none), "law", "law", defArgs s_law, defBody s_law, defScope s_law, [], []⟩
def fnT : List He.DefD := ([dd_law_taken, dd_law_pick, dd_law_table, dd_law_game_ways, dd_law_game, dd_law_states, dd_is_in, dd_is_table, dd_is_game_road, dd_all_ways, dd_net_of, dd_is_player, dd_need_game, dd_is_state, dd_choices_of, dd_need_state, dd_loads_of, dd_time_in, dd_steps_in, dd_ones] : List He.DefD) ++
  ([dd_walk_to_standing, dd_law_player_time, dd_law_steps, dd_law_is_walk, dd_law_alike, dd_is_step, dd_shows_walk, dd_law] : List He.DefD)
def faT : List He.Fa := ([.glo "_law_taken", .glo "_law_pick", .glo "_law_table", .glo "_law_game_ways", .glo "_law_game", .glo "_law_states", .glo "is_in", .glo "is_table", .glo "is_game_road", .glo "all_ways", .glo "net_of", .glo "is_player", .glo "need_game", .glo "is_state", .glo "choices_of", .glo "need_state", .glo "loads_of", .glo "time_in", .glo "steps_in", .glo "ones"] : List He.Fa) ++
  ([.glo "walk_to_standing", .glo "_law_player_time", .glo "_law_steps", .glo "_law_is_walk", .glo "_law_alike", .glo "is_step", .glo "shows_walk", .glo "law", .free "all", .free "any", .free "bool", .free "enumerate", .free "int", .free "isinstance", .free "len", .free "list", .free "max", .free "range", .free "sorted", .free "str"] : List He.Fa) ++
  ([.free "sum", .free "tuple", .free "zip", .int "MOST_CHOICES" 8, .int "MOST_COST" 1000, .int "MOST_NODES" 6, .int "MOST_PLAYERS" 4, .int "MOST_ROADS" 8, .int "MOST_STATES" 1000] : List He.Fa)
def looseT : List Str := (["RoadError", "BadGame", "BadState", "TooMany", "MOST_NODES", "is_in", "all_ways", "MOST_ROADS", "MOST_PLAYERS", "MOST_COST", "MOST_CHOICES", "MOST_STATES", "is_table", "is_game_road", "net_of", "is_player", "need_game", "choices_of", "is_state", "need_state"] : List Str) ++
  (["loads_of", "time_in", "ones", "steps_in", "walk_to_standing", "is_step", "shows_walk", "_law_taken", "_law_pick", "_law_alike", "_law_game_ways", "_law_table", "_law_game", "_law_states", "_law_player_time", "_law_steps", "_law_whole", "_law_height", "_law_is_walk"] : List Str)
def tgT : List He.Defn := [("is_table", none), ("is_game_road", none), ("is_player", none), ("is_state", none), ("choices_of", none), ("loads_of", none), ("time_in", none), ("is_step", none)]
def tlT : List (He.Defn × Str) := []
def tfT : List He.Defn := tgT ++ tlT.map (·.1)
def tabA (K : PySem.W.Frag) (p : He.Defn) : Addr := (He.cT K p).2
def lmA (K : PySem.W.Frag) (q : He.Defn × Str) : Addr × Str := (tabA K q.1, q.2)
def nodT (K : PySem.W.Frag) : Bool := decide ((tgT.map (tabA K) ++ (tlT.map (lmA K)).map (·.1)).Nodup)
def exT (K : PySem.W.Frag) : Bool := nodT K && true
abbrev hkT : PySem.W.Hook := He.hookX 4 faT fnT [] tfT exT
def obT (s : PySem.W.SharedT) : He.AlX := He.obsX 4 faT fnT [] tfT exT (HandSHeadRun.getT s)
theorem obT_eq (s : PySem.W.SharedT) : obT s = hkT.obs s.abs := He.obsX_eq (HandSHeadRun.getT_eq s)
abbrev rwT : PySem.W.OpenRow := PySem.W.OpenLaw.row PySem.Challenge.rw_tollroads_k24_whole_walks
theorem runT (w : World) : HandSHeadRun.RunEq rwT (PySem.W.view rwT.prog [44]) hkT obT 6000 looseT w := by
  intro os
  kernel_rfl
end Tr
set_option maxHeartbeats 4000000
namespace Tr
open PySem PySem.Spec L2

abbrev D := PyData

def Le (H G : Hp) : Prop := ∀ b u, H b = some u → (∀ ps, u ≠ HO.tbl ps) → G b = some u
theorem Le.refl (H : Hp) : Le H H := fun _ _ e _ => e
theorem Le.trans {H G F : Hp} (a : Le H G) (b : Le G F) : Le H F := fun c u e n => b c u (a c u e n) n
theorem Le.rd {H G : Hp} {a : Addr} {u : HO} (l : Le H G) (nt : ∀ ps, u ≠ HO.tbl ps) (r : Rd H a u) : Rd G a u := by
  rcases r with r | ⟨o, r⟩
  · exact .inl (l a u r nt)
  · exact .inr ⟨o, l a _ r fun ps z => by cases z⟩
theorem Le.sqL {K : PySem.W.Frag} {H G : Hp} {a : Addr} {xs : List V} (l : Le H G) (r : SqL K H a xs) : SqL K G a xs := by
  rcases r with r | r
  · exact .inl (l.rd (fun ps z => by cases z) r)
  · exact .inr r
theorem Le.sqT {K : PySem.W.Frag} {H G : Hp} {a : Addr} {xs : List V} (l : Le H G) (r : SqT K H a xs) : SqT K G a xs := by
  rcases r with r | r
  · exact .inl (l.rd (fun ps z => by cases z) r)
  · exact .inr r
def keyD : Key → D
  | .inl i => .int i
  | .inr x => .str x
mutual
inductive Dp (K : PySem.W.Frag) (H : Hp) : V → D → Prop
  | non : Dp K H .non .none
  | bl (b : Bool) : Dp K H (.bl b) (.bool b)
  | int (i : Int) : Dp K H (.int i) (.int i)
  | str (x : Str) : Dp K H (.str x) (.str x)
  | lst {a : Addr} {xs : List V} {ds : List D} : SqL K H a xs → DpAll K H xs ds → Dp K H (.ref a) (.list ds)
  | tup {a : Addr} {xs : List V} {ds : List D} : SqT K H a xs → DpAll K H xs ds → Dp K H (.ref a) (.tuple ds)
  | dct {a : Addr} {kvs : List (Key × V)} {ds : List (D × D)} : H a = some (.dK kvs) → kvs.map (fun q => keyD q.1) = ds.map (·.1) → DpAll K H (kvs.map (·.2)) (ds.map (·.2)) → Dp K H (.ref a) (.dict ds)
inductive DpAll (K : PySem.W.Frag) (H : Hp) : List V → List D → Prop
  | nil : DpAll K H [] []
  | cons {v : V} {vs : List V} {d : D} {ds : List D} : Dp K H v d → DpAll K H vs ds → DpAll K H (v :: vs) (d :: ds)
end
mutual
theorem Le.dp {K : PySem.W.Frag} {H G : Hp} (l : Le H G) : ∀ (d : D) (v : V), Dp K H v d → Dp K G v d
  | .none, _, h => by cases h; exact .non
  | .bool b, _, h => by cases h; exact .bl b
  | .int i, _, h => by cases h; exact .int i
  | .str x, _, h => by cases h; exact .str x
  | .list ds, _, h => by
    cases h with
    | lst s a => exact .lst (l.sqL s) (Le.dps l ds _ a)
  | .tuple ds, _, h => by
    cases h with
    | tup s a => exact .tup (l.sqT s) (Le.dps l ds _ a)
  | .dict ds, _, h => by
    cases h with
    | dct s k a => exact .dct (l _ _ s fun ps z => by cases z) k (Le.dpv l ds _ a)
theorem Le.dps {K : PySem.W.Frag} {H G : Hp} (l : Le H G) : ∀ (ds : List D) (vs : List V), DpAll K H vs ds → DpAll K G vs ds
  | [], _, h => by cases h; exact .nil
  | d :: ds, _, h => by
    cases h with
    | cons a b => exact .cons (Le.dp l d _ a) (Le.dps l ds _ b)
theorem Le.dpv {K : PySem.W.Frag} {H G : Hp} (l : Le H G) : ∀ (ds : List (D × D)) (vs : List V), DpAll K H vs (ds.map (·.2)) → DpAll K G vs (ds.map (·.2))
  | [], _, h => by cases h; exact .nil
  | (k, d) :: ds, _, h => by
    cases h with
    | cons a b => exact .cons (Le.dp l d _ a) (Le.dpv l ds _ b)
end
open PySem.PyData (hasDict hasDictAll) in
mutual
theorem Dp.low {K : PySem.W.Frag} {H : Hp} : ∀ (d : D) (v : V), hasDict d = false → Dp K H v d → L2.Dp K H v d
  | .none, _, _, h => by cases h; exact .non
  | .bool b, _, _, h => by cases h; exact .bl b
  | .int i, _, _, h => by cases h; exact .int i
  | .str x, _, _, h => by cases h; exact .str x
  | .list ds, _, n, h => by
    cases h with
    | lst s a => exact .lst s (Dp.lows ds _ (by simpa only [hasDict] using n) a)
  | .tuple ds, _, n, h => by
    cases h with
    | tup s a => exact .tup s (Dp.lows ds _ (by simpa only [hasDict] using n) a)
  | .dict _, _, n, _ => by simp [hasDict] at n
theorem Dp.lows {K : PySem.W.Frag} {H : Hp} : ∀ (ds : List D) (vs : List V), hasDictAll ds = false → DpAll K H vs ds → L2.DpAll K H vs ds
  | [], _, _, h => by cases h; exact .nil
  | d :: ds, _, n, h => by
    have n' : hasDict d = false ∧ hasDictAll ds = false := by simpa only [hasDictAll, Bool.or_eq_false_iff] using n
    cases h with
    | cons a b => exact .cons (Dp.low d _ n'.1 a) (Dp.lows ds _ n'.2 b)
end
theorem Dp.sh {K : PySem.W.Frag} {H : Hp} {d : D} {v : V} (h : Dp K H v d) (s : SeqAt.shaped d = true) : L2.Dp K H v d := Dp.low d v (PySem.PyData.hasDict_of_canLay d (SeqAt.canLay_of_shaped s)) h

class ProtC where
  p : Addr → Str → Prop
variable [ProtC]
structure Grow (H G : Hp) : Prop where
  le : Le H G
  tb : ∀ P, GxR.TabG H P → GxR.TabG G P
  dm : ∀ b, H b ≠ none → G b ≠ none
  pr : ∀ P q, ProtC.p P q → LamX.TabS H P q → LamX.TabS G P q
theorem Grow.refl (H : Hp) : Grow H H := ⟨Le.refl H, fun _ h => h, fun _ h => h, fun _ _ _ h => h⟩
theorem Grow.trans {H G F : Hp} (a : Grow H G) (b : Grow G F) : Grow H F := ⟨a.le.trans b.le, fun P h => b.tb P (a.tb P h), fun c h => b.dm c (a.dm c h), fun P q h t => b.pr P q h (a.pr P q h t)⟩
theorem Grow.new {H : Hp} {p : Addr} {u : HO} (n : H p = none) : Grow H (upd H p u) := by
  have ne : ∀ b w, H b = some w → b ≠ p := fun b w e => ne_of_none e n
  refine ⟨fun b w e _ => by rw [upd_ne (ne b w e)]; exact e, fun P h => ?_, fun b h => ?_, fun P q _ t => t.ext fun b w e => by rw [upd_ne (ne b w e)]; exact e⟩
  · obtain ⟨ps, e, t⟩ := h
    exact ⟨ps, by rw [upd_ne (ne P _ e)]; exact e, t⟩
  · by_cases c : b = p
    · rw [c, upd_same]; exact fun z => nomatch z
    · rw [upd_ne c]; exact h
theorem TabS.put {H : Hp} {a P : Addr} {q : Str} {xs ys : List V} (ha : H a = some (.lst xs)) (t : LamX.TabS H P q) : LamX.TabS (upd H a (.lst ys)) P q := by
  obtain ⟨ps, e1, t1, t2⟩ := t
  have hP : P ≠ a := fun z => by
    rw [z, ha] at e1
    cases e1
  refine ⟨ps, by rw [upd_ne hP]; exact e1, t1, fun pos cv hc => ?_⟩
  obtain ⟨c, e2, e3⟩ := t2 pos cv hc
  have hc : c ≠ a := fun z => by
    rw [z, ha] at e3
    unfold LamX.CodeO at e3
    cases e3
  exact ⟨c, e2, by rw [upd_ne hc]; exact e3⟩
theorem Grow.free {H G : Hp} {p : Addr} (g : Grow H G) (n : G p = none) : H p = none := by
  cases e : H p with
  | none => rfl
  | some u => exact absurd n (g.dm p (by rw [e]; exact fun z => nomatch z))

noncomputable def hid (S : Addr → Prop) (H : Hp) : Hp := fun b => open Classical in if S b then none else H b
theorem hid_in {S : Addr → Prop} {H : Hp} {b : Addr} (h : ¬ S b) : hid S H b = H b := by unfold hid; rw [if_neg h]
theorem hid_out {S : Addr → Prop} {H : Hp} {b : Addr} (h : S b) : hid S H b = none := by unfold hid; rw [if_pos h]
theorem of_hid {S : Addr → Prop} {H : Hp} {b : Addr} {u : HO} (h : hid S H b = some u) : ¬ S b ∧ H b = some u := by
  by_cases c : S b
  · rw [hid_out c] at h; cases h
  · rw [hid_in c] at h; exact ⟨c, h⟩
theorem hid_le {S S' : Addr → Prop} {H G : Hp} (l : Le H G) (s : ∀ b, S' b → S b) : Le (hid S H) (hid S' G) := fun b u e n => by
  obtain ⟨h1, h2⟩ := of_hid e
  rw [hid_in fun z => h1 (s b z)]
  exact l b u h2 n
theorem hid_sub {S : Addr → Prop} {H : Hp} : Le (hid S H) H := fun b u e _ => (of_hid e).2
structure Exn where
  cls : Str
  fld : Option (Str × D)
structure Wp (A : Type) where
  run : (A → Prop) → (Exn → Prop) → Prop
  mono : ∀ {k k' : A → Prop} {e e' : Exn → Prop}, (∀ a, k a → k' a) → (∀ x, e x → e' x) → run k e → run k' e'
def Wp.pure {A : Type} (a : A) : Wp A := ⟨fun k _ => k a, fun h _ r => h _ r⟩
def Wp.stuck {A : Type} : Wp A := ⟨fun _ _ => False, fun _ _ r => r⟩
def Wp.ex {A : Type} (x : Exn) : Wp A := ⟨fun _ e => e x, fun _ h r => h _ r⟩
def Wp.bind {A C : Type} (m : Wp A) (f : A → Wp C) : Wp C := ⟨fun k e => m.run (fun a => (f a).run k e) e, fun h1 h2 r => m.mono (fun a q => (f a).mono h1 h2 q) h2 r⟩
def Wp.any {A : Type} (P : A → Prop) : Wp A := ⟨fun k _ => ∀ a, P a → k a, fun h _ r a p => h a (r a p)⟩
def Wp.need {A : Type} (c : Prop) (m : Wp A) : Wp A := ⟨fun k e => c ∧ m.run k e, fun h1 h2 r => ⟨r.1, m.mono h1 h2 r.2⟩⟩
section
variable {A C : Type} {k : A → Prop} {e : Exn → Prop}
@[simp] theorem run_pure {a : A} : (Wp.pure a).run k e = k a := rfl
@[simp] theorem run_stuck : (Wp.stuck : Wp A).run k e = False := rfl
@[simp] theorem run_ex {x : Exn} : (Wp.ex x : Wp A).run k e = e x := rfl
@[simp] theorem run_bind {k : C → Prop} {m : Wp A} {f : A → Wp C} : (m.bind f).run k e = m.run (fun a => (f a).run k e) e := rfl
@[simp] theorem run_any {P : A → Prop} : (Wp.any P).run k e = ∀ a, P a → k a := rfl
@[simp] theorem run_need {c : Prop} {m : Wp A} : (Wp.need c m).run k e = (c ∧ m.run k e) := rfl
@[simp] theorem pure_bind {a : A} {f : A → Wp C} : (Wp.pure a).bind f = f a := rfl
end

inductive Sl where
  | non
  | p (d : D)
  | o (ds : List D)
  | v (x : V)
  | t (a : Addr) (φ : Heap → Prop)
abbrev De := List Sl

inductive At where
  | d (x : D)
  | o (l : Addr) (ds : List D)
def lsts : List (Str × At) → List Addr
  | [] => []
  | (_, .d _) :: st => lsts st
  | (_, .o l _) :: st => l :: lsts st
structure Ob where
  C : Addr
  a : Addr
  dx : Addr
  st : List (Str × At)
structure Cs where
  K : PySem.W.Frag
  mg : Str → Option Value
  T : List Addr
  Z : List (Addr × List Int)
  np : ∀ P ∈ T, ∀ q, ¬ ProtC.p P q
  TL : List (Addr × Str)
  pl : ∀ p ∈ TL, ProtC.p p.1 p.2
  ob : Option Ob := none
def AtOk (K : PySem.W.Frag) (S : Addr → Prop) (H : Hp) (v : V) : At → Prop
  | .d x => Dp K (hid S H) v x
  | .o l ds => v = .ref l ∧ S l ∧ ∃ xs, H l = some (.lst xs) ∧ DpAll K (hid S H) xs ds
def AtsOk (K : PySem.W.Frag) (S : Addr → Prop) (H : Hp) : List (Str × V) → List (Str × At) → Prop
  | [], [] => True
  | (n, v) :: vs, (m, x) :: st => n = m ∧ AtOk K S H v x ∧ AtsOk K S H vs st
  | _, _ => False
structure ObOk (K : PySem.W.Frag) (S : Addr → Prop) (H : Hp) (o : Ob) : Prop where
  ins : ∃ vs, H o.a = some (.ins o.C o.dx vs) ∧ AtsOk K S H vs o.st
  own : H o.dx = some (.own o.a)
  sa : S o.a
  sd : S o.dx
theorem AtOk.le {K : PySem.W.Frag} {S S' : Addr → Prop} {H G : Hp} (l : Le H G) (h : Le (hid S H) (hid S' G)) (s : ∀ b, S b → S' b) {v : V} {x : At} (a : AtOk K S H v x) : AtOk K S' G v x := by
  cases x with
  | d x => exact Le.dp h x v a
  | o c ds =>
    obtain ⟨e, h1, xs, h2, h3⟩ := a
    exact ⟨e, s c h1, xs, l c _ h2 (fun ps z => by cases z), Le.dps h ds xs h3⟩
theorem AtsOk.le {K : PySem.W.Frag} {S S' : Addr → Prop} {H G : Hp} (l : Le H G) (h : Le (hid S H) (hid S' G)) (s : ∀ b, S b → S' b) : ∀ {vs : List (Str × V)} {st : List (Str × At)}, AtsOk K S H vs st → AtsOk K S' G vs st
  | [], [], _ => trivial
  | (n, v) :: vs, (m, x) :: st, a => ⟨a.1, a.2.1.le l h s, AtsOk.le l h s a.2.2⟩
  | [], _ :: _, a => a.elim
  | _ :: _, [], a => a.elim
theorem ObOk.le {K : PySem.W.Frag} {S S' : Addr → Prop} {H G : Hp} {o : Ob} (l : Le H G) (h : Le (hid S H) (hid S' G)) (s : ∀ b, S b → S' b) (a : ObOk K S H o) : ObOk K S' G o := by
  obtain ⟨vs, e1, e2⟩ := a.ins
  exact ⟨⟨vs, l _ _ e1 (fun ps z => by cases z), e2.le l h s⟩, l _ _ a.own (fun ps z => by cases z), s _ a.sa, s _ a.sd⟩
def Scr (C : Cs) (S : Addr → Prop) (H : Hp) : Prop := (∀ q ∈ C.Z, SqL C.K H q.1 (q.2.map V.int)) ∧ (∀ p ∈ C.TL, LamX.TabS H p.1 p.2) ∧ ∀ o, C.ob = some o → ObOk C.K S H o
theorem Scr.gr {C : Cs} {S S' : Addr → Prop} {H G : Hp} (s : Scr C S H) (g : Grow H G) (h : Le (hid S H) (hid S' G)) (u : ∀ b, S b → S' b) : Scr C S' G := ⟨fun q hq => g.le.sqL (s.1 q hq), fun p hp => g.pr _ _ (C.pl p hp) (s.2.1 p hp), fun o ho => (s.2.2 o ho).le g.le h u⟩
noncomputable def obh (C : Cs) (H : Hp) : Hp := fun b => open Classical in if ∃ o, C.ob = some o ∧ b ∈ lsts o.st then H b else none
theorem obh_le {C : Cs} {H : Hp} : Le (obh C H) H := fun b u e _ => by
  unfold obh at e
  split at e
  · exact e
  · cases e
theorem AtsOk.lst {K : PySem.W.Frag} {S : Addr → Prop} {H : Hp} : ∀ {vs : List (Str × V)} {st : List (Str × At)}, AtsOk K S H vs st → ∀ b ∈ lsts st, ∃ xs, H b = some (.lst xs)
  | [], [], _, _, hb => by cases hb
  | _ :: vs, (m, .d x) :: st, a, b, hb => AtsOk.lst (vs := vs) a.2.2 b hb
  | _ :: vs, (m, .o l ds) :: st, a, b, hb => by
    rcases List.mem_cons.mp hb with rfl | hb
    · obtain ⟨_, ⟨_, _, xs, h2, _⟩, _⟩ := a
      exact ⟨xs, h2⟩
    · exact AtsOk.lst (vs := vs) a.2.2 b hb
  | [], _ :: _, a, _, _ => a.elim
structure Bx where
  c : Cs
  S : Addr → Prop
  H : Hp
abbrev Cs.bx (C : Cs) (S : Addr → Prop) (H : Hp) : Bx := ⟨C, S, H⟩
def Own (B : Bx) (σ : St) (δ : De) (b : Addr) : Prop := B.S b ∨ ∃ (i : Nat) (ds : List D), δ[i]? = some (Sl.o ds) ∧ σ[i]? = some (some (V.ref b))
structure Rep (B : Bx) (Pb : Hp) (σ : St) (H : Hp) (δ : De) : Prop where
  ph : Le Pb (hid (Own B σ δ) H)
  len : σ.length = δ.length
  grow : Grow B.H H
  dom : ∀ b, B.S b → B.H b ≠ none
  tabs : ∀ P ∈ B.c.T, GxR.TabG H P
  pers : ∀ (i : Nat) (d : D), δ[i]? = some (Sl.p d) → ∃ v, σ[i]? = some (some v) ∧ Dp B.c.K (hid (Own B σ δ) H) v d
  own : ∀ (i : Nat) (ds : List D), δ[i]? = some (Sl.o ds) → ∃ a xs, σ[i]? = some (some (V.ref a)) ∧ H a = some (.lst xs) ∧ B.H a = none ∧ DpAll B.c.K (hid (Own B σ δ) H) xs ds
  uniq : ∀ (i j : Nat) (ds es : List D) (a : Addr), δ[i]? = some (Sl.o ds) → δ[j]? = some (Sl.o es) → σ[i]? = some (some (V.ref a)) → σ[j]? = some (some (V.ref a)) → i = j
  val : ∀ (i : Nat) (x : V), δ[i]? = some (Sl.v x) → σ[i]? = some (some x)
  trk : ∀ (i : Nat) (a : Addr) (φ : Heap → Prop), δ[i]? = some (Sl.t a φ) → σ[i]? = some (some (V.ref a)) ∧ hid (Own B σ δ) H a = some (.ext φ)
  scr : Scr B.c B.S B.H
theorem Rep.gr {B : Bx} {Pb : Hp} {σ : St} {H G : Hp} {δ : De} (r : Rep B Pb σ H δ) (g : Grow H G) : Rep B Pb σ G δ where
  ph := r.ph.trans (hid_le g.le fun _ z => z)
  len := r.len
  grow := r.grow.trans g
  dom := r.dom
  tabs := fun P h => g.tb P (r.tabs P h)
  pers := fun i d e => by
    obtain ⟨v, h1, h2⟩ := r.pers i d e
    exact ⟨v, h1, Le.dp (hid_le g.le fun _ z => z) d v h2⟩
  own := fun i ds e => by
    obtain ⟨a, xs, h1, h2, h3, h4⟩ := r.own i ds e
    exact ⟨a, xs, h1, g.le a _ h2 (fun ps z => by cases z), h3, Le.dps (hid_le g.le fun _ z => z) ds xs h4⟩
  uniq := r.uniq
  val := r.val
  trk := fun i a φ e => ⟨(r.trk i a φ e).1, hid_le g.le (fun _ z => z) a _ (r.trk i a φ e).2 fun ps z => by cases z⟩
  scr := r.scr
theorem Rep.leB {B : Bx} {Pb : Hp} {σ : St} {H : Hp} {δ : De} (r : Rep B Pb σ H δ) : Le (hid B.S B.H) (hid (Own B σ δ) H) := fun b u e n => by
  obtain ⟨h1, h2⟩ := of_hid e
  rw [hid_in]
  · exact r.grow.le b u h2 n
  · rintro (z | ⟨i, ds, e1, e2⟩)
    · exact h1 z
    · obtain ⟨a, xs, q1, _, q3, _⟩ := r.own i ds e1
      rw [e2] at q1
      cases q1
      rw [h2] at q3
      cases q3
theorem Rep.scrO {B : Bx} {Pb : Hp} {σ : St} {H : Hp} {δ : De} (r : Rep B Pb σ H δ) : Scr B.c (Own B σ δ) H := r.scr.gr r.grow r.leB fun _ z => .inl z
def ExAt (B : Bx) (x : Exn) (cls : Value) (dc : Option Addr) (H : Hp) : Prop :=
  (∃ C, B.c.mg x.cls = some (.ref C) ∧ cls = .ref C) ∧ match x.fld with
    | none => dc = none
    | some (n, d) => ∃ a v, dc = some a ∧ H a = some (.xd [(n, v)]) ∧ Dp B.c.K (hid B.S H) v d
def Dv (B : Bx) (σ : St) (H : Hp) (δ : De) (Q : VK) (d : D) : Prop := ∀ v G, Grow H G → Dp B.c.K (hid (Own B σ δ) G) v d → Q v G
def Ew (B : Bx) (W : WX) (σ : St) (H : Hp) (x : Exn) : Prop := ∀ cls dc G, Grow H G → ExAt B x cls dc G → W cls dc σ G
theorem Dv.gr {B : Bx} {σ : St} {H G : Hp} {δ : De} {Q : VK} {d : D} (h : Dv B σ H δ Q d) (g : Grow H G) : Dv B σ G δ Q d := fun v F g' => h v F (g.trans g')
theorem Ew.gr {B : Bx} {W : WX} {σ : St} {H G : Hp} {x : Exn} (h : Ew B W σ H x) (g : Grow H G) : Ew B W σ G x := fun c d F g' => h c d F (g.trans g')

abbrev DF := De → Wp D
def DE (X : Cx) (C : Cs) (W : WX) (e : Expr) (f : DF) : Prop :=
  ∃ t, PE X e t ∧ ∀ S0 H0 Pb σ H δ Q, Rep (C.bx S0 H0) Pb σ H δ → (f δ).run (Dv (C.bx S0 H0) σ H δ Q) (Ew (C.bx S0 H0) W σ H) → t σ H Q
def dC (d : D) : DF := fun _ => .pure d
def slotP : Option Sl → Wp D
  | some (.p d) => .pure d
  | _ => .stuck
def dV (i : Nat) : DF := fun δ => slotP δ[i]?
def d2 (F : D → D → Wp D) (f g : DF) : DF := fun δ => (f δ).bind fun d => (g δ).bind fun e => F d e
def d1 (F : D → Wp D) (f : DF) : DF := fun δ => (f δ).bind F
section
variable {X : Cx} {C : Cs} {W : WX} {pos : Pos}
theorem de_int {i : Int} {j} : DE X C W (.Constant (.int i) j pos) (dC (.int i)) := ⟨_, pe_int, fun _ _ _ _ H _ _ _ h => h _ H (Grow.refl H) (.int i)⟩
theorem de_bl {b : Bool} {j} : DE X C W (.Constant (.bool b) j pos) (dC (.bool b)) := ⟨_, pe_bl, fun _ _ _ _ H _ _ _ h => h _ H (Grow.refl H) (.bl b)⟩
theorem de_non {j} : DE X C W (.Constant .none j pos) (dC .none) := ⟨_, pe_non, fun _ _ _ _ H _ _ _ h => h _ H (Grow.refl H) .non⟩
theorem de_v {i : Nat} {x : Str} (hN : X.N[i]? = some x) (hv : Vis X.env.scope x) (hd : (x == ("__debug__" : Str)) = false := by decide) (hcd : (x == ("__classdict__" : Str)) = false := by decide) : DE X C W (.Name x pos) (dV i) := by
  refine ⟨_, pe_var hN hv hd hcd, fun S0 H0 Pb σ H δ Q r h => ?_⟩
  unfold dV at h
  cases e : δ[i]? with
  | none => rw [e] at h; exact h.elim
  | some z =>
    rw [e] at h
    cases z with
    | non => exact h.elim
    | o ds => exact h.elim
    | v x => exact h.elim
    | t a φ => exact h.elim
    | p d =>
      obtain ⟨v, h1, h2⟩ := r.pers i d e
      exact ⟨v, h1, h v H (Grow.refl H) h2⟩
theorem de_glob {x : Str} {v : V} {u : Value} {d : D} (hg : Gl X x) (hm : X.mg x = some u) (r : RelV v u) (hdp : ∀ H, Dp C.K H v d) (hd : (x == ("__debug__" : Str)) = false := by decide) : DE X C W (.Name x pos) (dC d) :=
  ⟨_, pe_glob hg hm r hd, fun _ _ _ _ H _ _ _ h => h v H (Grow.refl H) (hdp _)⟩

def Op2 (X : Cx) (C : Cs) (r : R2) (F : D → D → Wp D) : Prop := ∀ (x y : V) (H : Hp) (d e : D) (Q : VK) (S0 : Addr → Prop) (H0 Pb : Hp) (σ : St) (δ : De) (W : Exn → Prop), Rep (C.bx S0 H0) Pb σ H δ → Dp C.K (hid (Own (C.bx S0 H0) σ δ) H) x d → Dp C.K (hid (Own (C.bx S0 H0) σ δ) H) y e → (F d e).run (Dv (C.bx S0 H0) σ H δ Q) W → r x y H Q
theorem two {a b : Expr} {f g : DF} {F : D → D → Wp D} {r : R2} (ha : DE X C W a f) (hb : DE X C W b g) (hF : Op2 X C r F) :
    ∃ ta tb, PE X a ta ∧ PE X b tb ∧ ∀ S0 H0 Pb σ H δ Q, Rep (C.bx S0 H0) Pb σ H δ → (d2 F f g δ).run (Dv (C.bx S0 H0) σ H δ Q) (Ew (C.bx S0 H0) W σ H) → tOp r ta tb σ H Q := by
  obtain ⟨ta, pa, qa⟩ := ha
  obtain ⟨tb, pb, qb⟩ := hb
  refine ⟨ta, tb, pa, pb, fun S0 H0 Pb σ H δ Q R h => qa S0 H0 Pb σ H δ _ R ((f δ).mono (fun d h x H1 g1 dx => ?_) (fun _ z => z) h)⟩
  refine qb S0 H0 Pb σ H1 δ _ (R.gr g1) ((g δ).mono (fun e h y H2 g2 dy => ?_) (fun _ z => z.gr g1) h)
  exact hF x y H2 d e Q S0 H0 Pb σ δ _ (R.gr (g1.trans g2)) (Le.dp (hid_le g2.le fun _ z => z) d x dx) dy ((F d e).mono (fun _ z => z.gr (g1.trans g2)) (fun _ z => z) h)
theorem de_op {op : Operator} {a b : Expr} {f g : DF} {F : D → D → Wp D} {r : R2} (ho : OpR X (binaryOp op) r) (hF : Op2 X C r F) (ha : DE X C W a f) (hb : DE X C W b g) : DE X C W (.BinOp a op b pos) (d2 F f g) := by
  obtain ⟨ta, tb, pa, pb, q⟩ := two ha hb hF
  exact ⟨_, pe_op ho pa pb, q⟩
theorem de_cmp {op : CmpOp} {a b : Expr} {f g : DF} {F : D → D → Wp D} {r : R2} (ho : OpR X (compareOp op) r) (hF : Op2 X C r F) (hm : behindInMarks op b = false) (ha : DE X C W a f) (hb : DE X C W b g) : DE X C W (.Compare a [op] [b] pos) (d2 F f g) := by
  obtain ⟨ta, tb, pa, pb, q⟩ := two ha hb hF
  exact ⟨_, pe_cmpR ho pa pb hm, q⟩
end
end Tr

namespace Tr
open PySem PySem.Spec L2
variable [ProtC]

section
variable {X : Cx} {C : Cs} {W : WX} {pos : Pos}
theorem op2_int {r : R2} {g : Int → Int → V} {c : Int → Int → Prop} {F : D → D → Wp D} {q : Int → Int → D}
    (hr : ∀ i j H Q, c i j → Q (g i j) H → r (.int i) (.int j) H Q) (hg : ∀ i j H, Dp C.K H (g i j) (q i j))
    (hF : ∀ d e k w, (F d e).run k w → ∃ i j, d = .int i ∧ e = .int j ∧ c i j ∧ k (q i j)) : Op2 X C r F := by
  intro x y H d e Q S0 H0 Pb σ δ w R dx dy h
  obtain ⟨i, j, rfl, rfl, hc, hk⟩ := hF d e _ _ h
  cases dx
  cases dy
  exact hr i j H Q hc (hk _ H (Grow.refl H) (hg i j _))
end
def dInt2 (c : Int → Int → Prop) (q : Int → Int → D) : D → D → Wp D
  | .int i, .int j => .need (c i j) (.pure (q i j))
  | _, _ => .stuck
theorem dInt2_inv {c : Int → Int → Prop} {q : Int → Int → D} {d e : D} {k : D → Prop} {w : Exn → Prop} (h : (dInt2 c q d e).run k w) : ∃ i j, d = .int i ∧ e = .int j ∧ c i j ∧ k (q i j) := by
  unfold dInt2 at h
  split at h
  · exact ⟨_, _, rfl, rfl, h.1, h.2⟩
  · exact h.elim
abbrev dSub : D → D → Wp D := dInt2 (fun _ _ => True) fun i j => .int (i - j)
abbrev dMul : D → D → Wp D := dInt2 CMulW fun i j => .int (i * j)
abbrev dMod : D → D → Wp D := dInt2 (fun _ j => 0 < j) fun i j => .int (i % j)
abbrev dLt : D → D → Wp D := dInt2 (fun _ _ => True) fun i j => .bool (decide (i < j))
abbrev dLe : D → D → Wp D := dInt2 (fun _ _ => True) fun i j => .bool (decide (i ≤ j))
abbrev dGt : D → D → Wp D := dInt2 (fun _ _ => True) fun i j => .bool (decide (j < i))
def dAdd : D → D → Wp D
  | .int i, .int j => .pure (.int (i + j))
  | .tuple xs, .tuple ys => .need (xs.length + ys.length ≤ sizeLine) (.pure (.tuple (xs ++ ys)))
  | .list xs, .list ys => .need (xs.length + ys.length ≤ sizeLine) (.pure (.list (xs ++ ys)))
  | .str x, .str y => .need (x.length + y.length ≤ sizeLine) (.pure (.str (x ++ y)))
  | _, _ => .stuck
def dEq : D → D → Wp D := fun d e => .need (SeqAt.shaped d = true ∧ SeqAt.shaped e = true) (.pure (.bool (PyData.eqv d e)))
def dNe : D → D → Wp D := fun d e => .need (SeqAt.shaped d = true ∧ SeqAt.shaped e = true) (.pure (.bool (!PyData.eqv d e)))
def isNoneD : D → Bool
  | .none => true
  | _ => false
def dIs : D → D → Wp D
  | d, .none => .pure (.bool (isNoneD d))
  | _, _ => .stuck
def dIsNot : D → D → Wp D
  | d, .none => .pure (.bool (!isNoneD d))
  | _, _ => .stuck
theorem hid_dp {K : PySem.W.Frag} {S : Addr → Prop} {H : Hp} {v : V} {d : D} (h : Dp K (hid S H) v d) : Dp K H v d := Le.dp hid_sub d v h
theorem dps_len {K : PySem.W.Frag} {H : Hp} : ∀ {vs : List V} {ds : List D}, DpAll K H vs ds → vs.length = ds.length
  | [], _, h => by cases h; rfl
  | v :: vs, _, h => by
    cases h with
    | cons a b => rw [List.length_cons, List.length_cons, dps_len b]
theorem dps_app {K : PySem.W.Frag} {H : Hp} : ∀ {vs us : List V} {ds es : List D}, DpAll K H vs ds → DpAll K H us es → DpAll K H (vs ++ us) (ds ++ es)
  | [], _, _, _, h, g => by cases h; exact g
  | v :: vs, _, _, _, h, g => by
    cases h with
    | cons a b => exact .cons a (dps_app b g)
theorem dps_get {K : PySem.W.Frag} {H : Hp} : ∀ {vs : List V} {ds : List D} {i : Nat} {d : D}, DpAll K H vs ds → ds[i]? = some d → ∃ v, vs[i]? = some v ∧ Dp K H v d
  | [], _, _, _, h, e => by cases h; simp at e
  | v :: vs, _, 0, d, h, e => by
    cases h with
    | cons a b => exact ⟨v, rfl, by simp at e; subst e; exact a⟩
  | v :: vs, _, i + 1, d, h, e => by
    cases h with
    | cons a b => obtain ⟨u, h1, h2⟩ := dps_get (i := i) b (by simpa using e); exact ⟨u, by simpa using h1, h2⟩
theorem dps_take {K : PySem.W.Frag} {H : Hp} : ∀ {vs : List V} {ds : List D} (n : Nat), DpAll K H vs ds → DpAll K H (vs.take n) (ds.take n)
  | _, _, 0, _ => .nil
  | [], _, n + 1, h => by cases h; exact .nil
  | v :: vs, _, n + 1, h => by
    cases h with
    | cons a b => exact .cons a (dps_take n b)
theorem dps_drop {K : PySem.W.Frag} {H : Hp} : ∀ {vs : List V} {ds : List D} (n : Nat), DpAll K H vs ds → DpAll K H (vs.drop n) (ds.drop n)
  | _, _, 0, h => h
  | [], _, n + 1, h => by cases h; exact .nil
  | v :: vs, _, n + 1, h => by
    cases h with
    | cons a b => exact dps_drop n b
theorem new_tup {B : Bx} {Pb : Hp} {σ : St} {H : Hp} {δ : De} {Q : VK} {xs : List V} {ds : List D} (R : Rep B Pb σ H δ) (h : DpAll B.c.K (hid (Own B σ δ) H) xs ds) (k : Dv B σ H δ Q (.tuple ds)) : ∀ p, H p = none → Q (.ref p) (upd H p (.tup xs)) := by
  intro p n
  have g : Grow H (upd H p (.tup xs)) := Grow.new n
  refine k _ _ g (.tup (SqT.of ?_) (Le.dps (hid_le g.le fun _ z => z) ds xs h))
  rw [hid_in, upd_same]
  rintro (z | ⟨i, es, e1, e2⟩)
  · exact R.grow.dm p (R.dom p z) n
  · obtain ⟨a, ys, q1, q2, _⟩ := R.own i es e1
    rw [e2] at q1
    cases q1
    rw [n] at q2
    cases q2
theorem new_lst {B : Bx} {Pb : Hp} {σ : St} {H : Hp} {δ : De} {Q : VK} {xs : List V} {ds : List D} (R : Rep B Pb σ H δ) (h : DpAll B.c.K (hid (Own B σ δ) H) xs ds) (k : Dv B σ H δ Q (.list ds)) : ∀ p, H p = none → Q (.ref p) (upd H p (.lst xs)) := by
  intro p n
  have g : Grow H (upd H p (.lst xs)) := Grow.new n
  refine k _ _ g (.lst (SqL.of ?_) (Le.dps (hid_le g.le fun _ z => z) ds xs h))
  rw [hid_in, upd_same]
  rintro (z | ⟨i, es, e1, e2⟩)
  · exact R.grow.dm p (R.dom p z) n
  · obtain ⟨a, ys, q1, q2, _⟩ := R.own i es e1
    rw [e2] at q1
    cases q1
    rw [n] at q2
    cases q2
section
variable {X : Cx} {C : Cs} {W : WX} {pos : Pos}
theorem o2_int {r : R2} {g : Int → Int → V} {c : Int → Int → Prop} {q : Int → Int → D} (hr : ∀ i j H Q, c i j → Q (g i j) H → r (.int i) (.int j) H Q) (hg : ∀ i j H, Dp C.K H (g i j) (q i j)) : Op2 X C r (dInt2 c q) :=
  op2_int hr hg fun _ _ _ _ h => dInt2_inv h
theorem o2_0 {g : Int → Int → V} {q : Int → Int → D} (hg : ∀ i j H, Dp C.K H (g i j) (q i j)) : Op2 X C (rI0 g) (dInt2 (fun _ _ => True) q) := o2_int (fun i j H Q _ h => ⟨i, j, rfl, rfl, h⟩) hg
theorem o2_c {c : Int → Int → Prop} {g : Int → Int → V} {q : Int → Int → D} (hg : ∀ i j H, Dp C.K H (g i j) (q i j)) : Op2 X C (rI c g) (dInt2 c q) := o2_int (fun i j H Q hc h => ⟨i, j, rfl, rfl, hc, h⟩) hg
variable {a b : Expr} {f g : DF}
theorem de_sub (ha : DE X C W a f) (hb : DE X C W b g) : DE X C W (.BinOp a .Sub b pos) (d2 dSub f g) := de_op op_sub (o2_0 fun _ _ _ => .int _) ha hb
theorem de_mul (ha : DE X C W a f) (hb : DE X C W b g) : DE X C W (.BinOp a .Mult b pos) (d2 dMul f g) := de_op op_mulW (o2_c fun _ _ _ => .int _) ha hb
theorem de_mod (ha : DE X C W a f) (hb : DE X C W b g) : DE X C W (.BinOp a .Mod b pos) (d2 dMod f g) := de_op op_mod (o2_c fun _ _ _ => .int _) ha hb
theorem de_lt (ha : DE X C W a f) (hb : DE X C W b g) : DE X C W (.Compare a [.Lt] [b] pos) (d2 dLt f g) := de_cmp op_lt (o2_0 fun _ _ _ => .bl _) (nomark _) ha hb
theorem de_le (ha : DE X C W a f) (hb : DE X C W b g) : DE X C W (.Compare a [.LtE] [b] pos) (d2 dLe f g) := de_cmp op_le (o2_0 fun _ _ _ => .bl _) (nomark _) ha hb
theorem de_gt (ha : DE X C W a f) (hb : DE X C W b g) : DE X C W (.Compare a [.Gt] [b] pos) (d2 dGt f g) := de_cmp op_gt (o2_0 fun _ _ _ => .bl _) (nomark _) ha hb
theorem o2_eq : Op2 X C (rEqD C.K) dEq := fun x y H d e Q S0 H0 Pb σ δ w R dx dy h => ⟨d, e, (hid_dp dx).sh h.1.1, (hid_dp dy).sh h.1.2, h.1.1, h.1.2, h.2 _ H (Grow.refl H) (.bl _)⟩
theorem o2_ne : Op2 X C (rNeD C.K) dNe := fun x y H d e Q S0 H0 Pb σ δ w R dx dy h => ⟨d, e, (hid_dp dx).sh h.1.1, (hid_dp dy).sh h.1.2, h.1.1, h.1.2, h.2 _ H (Grow.refl H) (.bl _)⟩
theorem de_eq (hK : C.K = X.K) {k : Nat} (hr : Room k X.A) (ha : DE X C W a f) (hb : DE X C W b g) : DE X C W (.Compare a [.Eq] [b] pos) (d2 dEq f g) := de_cmp (op_eqD hr.units) (by rw [← hK]; exact o2_eq) (nomark _) ha hb
theorem de_ne (hK : C.K = X.K) {k : Nat} (hr : Room k X.A) (ha : DE X C W a f) (hb : DE X C W b g) : DE X C W (.Compare a [.NotEq] [b] pos) (d2 dNe f g) := de_cmp (op_neD hr.units) (by rw [← hK]; exact o2_ne) (nomark _) ha hb
theorem room65 {k : Nat} {A : Around} (hr : Room k A) : A.units + 65 < cLine := by have := hr.un; omega
theorem isNoneD_v {K : PySem.W.Frag} {H : Hp} {v : V} {d : D} (h : Dp K H v d) : decide (v = V.non) = isNoneD d := by
  cases h <;> simp [isNoneD]
def rCatL (K : PySem.W.Frag) : R2 := fun x y H Q => ∃ l b xs zs, x = .ref l ∧ y = .ref b ∧ SqL K H l xs ∧ SqL K H b zs ∧ xs.length + zs.length ≤ sizeLine ∧ ∀ p, H p = none → Q (.ref p) (upd H p (.lst (xs ++ zs)))
theorem op_catL : OpR X (binaryOp .Add) (rCatL X.K) := by
  intro pins s σ H x y v u Q I rx ry h
  obtain ⟨l, b, xs, zs, rfl, rfl, hl, hb, hz, q⟩ := h
  cases rx
  cases ry
  obtain ⟨its, r1, ⟨⟨c1, d1, t1, sl1⟩, n1, e1, hc1, _, hd1⟩, z1⟩ := I.list hl
  obtain ⟨its2, r2, ⟨⟨c2, d2, t2, sl2⟩, n2, e2, hc2, _, hd2⟩, z2⟩ := I.list hb
  simp only at hc1 hd1 hc2 hd2
  subst hc1 hd1 hc2 hd2
  have k1 := r1.length
  have k2 := r2.length
  have hs : its.toArray.size + its2.toArray.size ≤ sizeLine := by rw [List.size_toArray, List.size_toArray]; omega
  refine concat_meets ⟨_, e1, rfl⟩ ⟨_, e2, rfl⟩ noFill_list_add seq_list_add PySem.F.slot_list_add PySem.F.entry_list_add (PySem.F.args_list_add_2 _ _) (PyProof.Rows.list_addW l b its.toArray its2.toArray n1 n2 _ _ sl1 sl2 hs) ⟨e1, e2, ?_⟩
  have ea : its.toArray ++ its2.toArray = (its ++ its2).toArray := by simp
  rw [ea]
  exact ⟨.ref _, _, I.lnew (t' := s.toks) (r1.append r2) (by rw [List.length_append]; exact hz), rfl, q _ I.fresh⟩
theorem o2_add : Op2 X C (fun x y H Q => rI0 (fun i j => .int (i + j)) x y H Q ∨ (rCatA C.K x y H Q ∨ (rCatL C.K x y H Q ∨ ∃ i j, x = .str i ∧ y = .str j ∧ i.length + j.length ≤ sizeLine ∧ Q (.str (i ++ j)) H))) dAdd := by
  intro x y H d e Q S0 H0 Pb σ δ w R dx dy h
  unfold dAdd at h
  split at h
  · cases dx
    cases dy
    exact .inl ⟨_, _, rfl, rfl, h _ H (Grow.refl H) (.int _)⟩
  · cases dx with
    | tup s1 a1 =>
      cases dy with
      | tup s2 a2 =>
        obtain ⟨hl, hk⟩ := h
        refine .inr (.inl ⟨_, _, _, _, rfl, rfl, Le.sqT hid_sub s1, Le.sqT hid_sub s2, by rw [dps_len a1, dps_len a2]; exact hl, fun e0 => ?_, fun _ e0 => ?_, fun _ _ => new_tup R (dps_app a1 a2) hk⟩)
        · subst e0
          cases a1
          exact hk _ H (Grow.refl H) (.tup s2 a2)
        · subst e0
          cases a2
          rw [List.append_nil] at hk
          exact hk _ H (Grow.refl H) (.tup s1 a1)
  · cases dx with
    | lst s1 a1 =>
      cases dy with
      | lst s2 a2 =>
        obtain ⟨hl, hk⟩ := h
        exact .inr (.inr (.inl ⟨_, _, _, _, rfl, rfl, Le.sqL hid_sub s1, Le.sqL hid_sub s2, by rw [dps_len a1, dps_len a2]; exact hl, new_lst R (dps_app a1 a2) hk⟩))
  · cases dx
    cases dy
    exact .inr (.inr (.inr ⟨_, _, rfl, rfl, h.1, h.2 _ H (Grow.refl H) (.str _)⟩))
  · exact h.elim
theorem de_add (hK : C.K = X.K) (ha : DE X C W a f) (hb : DE X C W b g) : DE X C W (.BinOp a .Add b pos) (d2 dAdd f g) :=
  de_op (OpR.or op_add (OpR.or op_catA (OpR.or op_catL op_add_str))) (by rw [← hK]; exact o2_add) ha hb
abbrev TF := De → Wp Bool
def Bv (H : Hp) (Q : Bool → Hp → Prop) (b : Bool) : Prop := ∀ G, Grow H G → Q b G
theorem Bv.gr {H G : Hp} {Q : Bool → Hp → Prop} {b : Bool} (h : Bv H Q b) (g : Grow H G) : Bv G Q b := fun F g' => h F (g.trans g')
def DT (X : Cx) (C : Cs) (W : WX) (e : Expr) (f : TF) : Prop :=
  ∃ t, PT X e t ∧ ∀ S0 H0 Pb σ H δ Q, Rep (C.bx S0 H0) Pb σ H δ → (f δ).run (Bv H Q) (Ew (C.bx S0 H0) W σ H) → t σ H Q
def truD : D → Wp Bool
  | .none => .pure false
  | .bool b => .pure b
  | .int i => .pure (i != 0)
  | .str y => .need (y.length ≤ sizeLine) (.pure ((y.length : Int) != 0))
  | .list xs => .pure (!xs.isEmpty)
  | .tuple xs => .pure (!xs.isEmpty)
  | .dict _ => .stuck
def tT (f : DF) : TF := fun δ => (f δ).bind truD
theorem isEmpty_dps {K : PySem.W.Frag} {H : Hp} {vs : List V} {ds : List D} (h : DpAll K H vs ds) : (!vs.isEmpty) = !ds.isEmpty := by
  cases h <;> rfl
theorem tru_v {K : PySem.W.Frag} {H : Hp} {v : V} {d : D} {k : Bool → Prop} {w : Exn → Prop} (dp : Dp K H v d) (h : (truD d).run k w) : ∃ b, TruV K v H b ∧ k b := by
  cases dp with
  | non => exact ⟨_, rfl, h⟩
  | bl b => exact ⟨_, rfl, h⟩
  | int i => exact ⟨_, rfl, h⟩
  | str x => exact ⟨_, ⟨h.1, rfl⟩, h.2⟩
  | lst s a => exact ⟨_, .inl ⟨_, s, rfl⟩, by rw [isEmpty_dps a]; exact h⟩
  | tup s a => exact ⟨_, .inr (.inl ⟨_, s, rfl⟩), by rw [isEmpty_dps a]; exact h⟩
  | dct s k a => exact h.elim
theorem dt_tru (hK : C.K = X.K) (ha : DE X C W a f) (he : ∀ whole, isTrue a X.env whole = (do let v ← whole; standAt a.pos; holding [v] (truthy v)) := by intro _; rfl) : DT X C W a (tT f) := by
  obtain ⟨ta, pa, qa⟩ := ha
  refine ⟨_, pt_truth pa he, fun S0 H0 Pb σ H δ Q R h => qa S0 H0 Pb σ H δ _ R ((f δ).mono (fun d h v G g dp => ?_) (fun _ z => z) h)⟩
  rw [← hK]
  obtain ⟨b, h1, h2⟩ := tru_v (hid_dp dp) h
  exact ⟨b, h1, h2 G g⟩
def asB : D → Wp Bool
  | .bool b => .pure b
  | _ => .stuck
def tBv (f : DF) : TF := fun δ => (f δ).bind asB
theorem asB_inv {d : D} {k : Bool → Prop} {w : Exn → Prop} (h : (asB d).run k w) : ∃ b, d = .bool b ∧ k b := by
  unfold asB at h
  split at h
  · exact ⟨_, rfl, h⟩
  · exact h.elim
theorem dt_cmp {op : CmpOp} {F : D → D → Wp D} {r : R2} (ho : OpR X (compareOp op) r) (hF : Op2 X C r F) (hm : behindInMarks op b = false) (ha : DE X C W a f) (hb : DE X C W b g) : DT X C W (.Compare a [op] [b] pos) (tBv (d2 F f g)) := by
  obtain ⟨ta, tb, pa, pb, q⟩ := two ha hb hF
  refine ⟨_, pt_cmpR ho pa pb hm, fun S0 H0 Pb σ H δ Q R h => q S0 H0 Pb σ H δ _ R ((d2 F f g δ).mono (fun d h v G g' dp => ?_) (fun _ z => z) h)⟩
  obtain ⟨k, rfl, hk⟩ := asB_inv h
  cases dp
  exact ⟨k, rfl, hk G g'⟩
theorem dt_not {f : TF} (ha : DT X C W a f) : DT X C W (.UnaryOp .Not a pos) (fun δ => (f δ).bind fun b => .pure (!b)) := by
  obtain ⟨t, p, q⟩ := ha
  exact ⟨_, pt_not p, fun S0 H0 Pb σ H δ Q R h => q S0 H0 Pb σ H δ _ R h⟩
def DW (X : Cx) (C : Cs) (W : WX) (e : Expr) (f : TF) : Prop :=
  ∃ t, PW X e t ∧ ∀ S0 H0 Pb σ H δ Q, Rep (C.bx S0 H0) Pb σ H δ → (f δ).run (Bv H Q) (Ew (C.bx S0 H0) W σ H) → t σ H Q
theorem dw_dt {f : TF} (h : DW X C W a f) : DT X C W a f := by
  obtain ⟨t, p, q⟩ := h
  exact ⟨t, p.pt, q⟩
def tAnd2 (f g : TF) : TF := fun δ => (f δ).bind fun b => if b then g δ else .pure false
def tOr2 (f g : TF) : TF := fun δ => (f δ).bind fun b => if b then .pure true else g δ
variable {rest : List Expr}
theorem dw_and1 {f : TF} (ha : DT X C W a f) : DW X C W (.BoolOp .And [a] pos) f := by
  obtain ⟨t, p, q⟩ := ha
  exact ⟨t, pw_and1 p, q⟩
theorem dw_or1 {f : TF} (ha : DT X C W a f) : DW X C W (.BoolOp .Or [a] pos) f := by
  obtain ⟨t, p, q⟩ := ha
  exact ⟨t, pw_or1 p, q⟩
theorem dw_and {f g : TF} (ha : DT X C W a f) (hb : DW X C W (.BoolOp .And (b :: rest) pos) g) : DW X C W (.BoolOp .And (a :: b :: rest) pos) (tAnd2 f g) := by
  obtain ⟨t, p, q⟩ := ha
  obtain ⟨u, p2, q2⟩ := hb
  refine ⟨_, pw_and p p2, fun S0 H0 Pb σ H δ Q R h => q S0 H0 Pb σ H δ _ R ((f δ).mono (fun c h G g' => ?_) (fun _ z => z) h)⟩
  cases c with
  | true => exact q2 S0 H0 Pb σ G δ Q (R.gr g') ((g δ).mono (fun _ z => z.gr g') (fun _ z => z.gr g') h)
  | false => exact h G g'
theorem dw_or {f g : TF} (ha : DT X C W a f) (hb : DW X C W (.BoolOp .Or (b :: rest) pos) g) : DW X C W (.BoolOp .Or (a :: b :: rest) pos) (tOr2 f g) := by
  obtain ⟨t, p, q⟩ := ha
  obtain ⟨u, p2, q2⟩ := hb
  refine ⟨_, pw_or p p2, fun S0 H0 Pb σ H δ Q R h => q S0 H0 Pb σ H δ _ R ((f δ).mono (fun c h G g' => ?_) (fun _ z => z) h)⟩
  cases c with
  | false => exact q2 S0 H0 Pb σ G δ Q (R.gr g') ((g δ).mono (fun _ z => z.gr g') (fun _ z => z.gr g') h)
  | true => exact h G g'
theorem de_one {op} (h : DE X C W a f) : DE X C W (.BoolOp op [a] pos) f := by
  obtain ⟨t, p, q⟩ := h
  exact ⟨t, pe_one p, q⟩
def dAndV (f g : DF) : DF := fun δ => (f δ).bind fun d => (truD d).bind fun b => if b then g δ else .pure d
def dOrV (f g : DF) : DF := fun δ => (f δ).bind fun d => (truD d).bind fun b => if b then .pure d else g δ
theorem de_and (hK : C.K = X.K) (ha : DE X C W a f) (hb : DE X C W (.BoolOp .And (b :: rest) pos) g) : DE X C W (.BoolOp .And (a :: b :: rest) pos) (dAndV f g) := by
  obtain ⟨t, p, q⟩ := ha
  obtain ⟨u, p2, q2⟩ := hb
  refine ⟨_, pe_andT p p2, fun S0 H0 Pb σ H δ Q R h => q S0 H0 Pb σ H δ _ R ((f δ).mono (fun d h v G g' dp => ?_) (fun _ z => z) h)⟩
  rw [← hK]
  obtain ⟨c, h1, h2⟩ := tru_v (hid_dp dp) h
  refine ⟨c, h1, ?_⟩
  cases c with
  | true => exact q2 S0 H0 Pb σ G δ Q (R.gr g') ((g δ).mono (fun _ z => z.gr g') (fun _ z => z.gr g') h2)
  | false => exact h2 v G g' dp
theorem de_not (hK : C.K = X.K) (ha : DE X C W a f) : DE X C W (.UnaryOp .Not a pos) (fun δ => (tT f δ).bind fun b => .pure (.bool (!b))) := by
  obtain ⟨t, p, q⟩ := ha
  refine ⟨_, pe_notT p, fun S0 H0 Pb σ H δ Q R h => q S0 H0 Pb σ H δ _ R ((f δ).mono (fun d h v G g' dp => ?_) (fun _ z => z) h)⟩
  rw [← hK]
  obtain ⟨c, h1, h2⟩ := tru_v (hid_dp dp) h
  exact ⟨c, h1, h2 _ G g' (.bl _)⟩
def dIf (t : TF) (f g : DF) : DF := fun δ => (t δ).bind fun b => if b then f δ else g δ
theorem de_if {c : Expr} {t : TF} (hc : DT X C W c t) (ha : DE X C W a f) (hb : DE X C W b g) : DE X C W (.IfExp c a b pos) (dIf t f g) := by
  obtain ⟨tc, pc, qc⟩ := hc
  obtain ⟨ta, pa, qa⟩ := ha
  obtain ⟨tb, pb, qb⟩ := hb
  refine ⟨_, pe_ifExp pc pa pb, fun S0 H0 Pb σ H δ Q R h => qc S0 H0 Pb σ H δ _ R ((t δ).mono (fun k h G g' => ?_) (fun _ z => z) h)⟩
  cases k with
  | true => exact qa S0 H0 Pb σ G δ Q (R.gr g') ((f δ).mono (fun _ z => z.gr g') (fun _ z => z.gr g') h)
  | false => exact qb S0 H0 Pb σ G δ Q (R.gr g') ((g δ).mono (fun _ z => z.gr g') (fun _ z => z.gr g') h)
theorem de_chain {c : Expr} {op op' : CmpOp} {F F' : D → D → Wp D} {r r' : R2} {h : DF} (ho : OpR X (compareOp op) r) (hF : Op2 X C r F) (ho' : OpR X (compareOp op') r') (hF' : Op2 X C r' F') (ha : DE X C W a f) (hb : DE X C W b g) (hc : DE X C W c h)
    (hm : lastMarks [op, op'] [b, c] = false := by with_unfolding_all rfl) :
    DE X C W (.Compare a [op, op'] [b, c] pos) (fun δ => (f δ).bind fun d => (g δ).bind fun e => (F d e).bind fun z => (asB z).bind fun k => if k then (h δ).bind fun x => F' e x else .pure (.bool false)) := by
  obtain ⟨ta, pa, qa⟩ := ha
  obtain ⟨tb, pb, qb⟩ := hb
  obtain ⟨tc, pc, qc⟩ := hc
  refine ⟨_, pe_chain ho ho' pa pb pc hm, fun S0 H0 Pb σ H δ Q R hh => qa S0 H0 Pb σ H δ _ R ((f δ).mono (fun d hh x H1 g1 dx => ?_) (fun _ z => z) hh)⟩
  refine qb S0 H0 Pb σ H1 δ _ (R.gr g1) ((g δ).mono (fun e hh y H2 g2 dy => ?_) (fun _ z => z.gr g1) hh)
  refine hF x y H2 d e _ S0 H0 Pb σ δ _ (R.gr (g1.trans g2)) (Le.dp (hid_le g2.le fun _ z => z) d x dx) dy ((F d e).mono (fun z hz v H3 g3 dz => ?_) (fun _ z => z) hh)
  obtain ⟨k, rfl, hk⟩ := asB_inv hz
  cases dz
  refine ⟨k, rfl, ?_⟩
  cases k with
  | false => exact hk _ H3 (g1.trans (g2.trans g3)) (.bl _)
  | true =>
    refine qc S0 H0 Pb σ H3 δ _ (R.gr (g1.trans (g2.trans g3))) ((h δ).mono (fun x' hx v' H4 g4 dx' => ?_) (fun _ z => z.gr (g1.trans (g2.trans g3))) hk)
    exact hF' y v' H4 e x' Q S0 H0 Pb σ δ _ (R.gr (g1.trans (g2.trans (g3.trans g4)))) (Le.dp (hid_le (g3.trans g4).le fun _ z => z) e y dy) dx' ((F' e x').mono (fun _ z => z.gr (g1.trans (g2.trans (g3.trans g4)))) (fun _ z => z) hx)
end
end Tr

namespace Tr
open PySem PySem.Spec L2
variable [ProtC]

inductive Ar where
  | d (x : D)
  | v (x : V)
  | t (a : Addr) (φ : Heap → Prop)
def ArOk (K : PySem.W.Frag) (H : Hp) (v : V) : Ar → Prop
  | .d x => Dp K H v x
  | .v x => v = x
  | .t a φ => v = .ref a ∧ H a = some (.ext φ)
def ArsOk (K : PySem.W.Frag) (H : Hp) : List V → List Ar → Prop
  | [], [] => True
  | v :: vs, a :: as => ArOk K H v a ∧ ArsOk K H vs as
  | _, _ => False
theorem ArsOk.len {K : PySem.W.Frag} {H : Hp} : ∀ {vs : List V} {as : List Ar}, ArsOk K H vs as → vs.length = as.length
  | [], [], _ => rfl
  | v :: vs, a :: as, h => by rw [List.length_cons, List.length_cons, ArsOk.len h.2]
  | [], _ :: _, h => h.elim
  | _ :: _, [], h => h.elim
theorem ArOk.le {K : PySem.W.Frag} {H G : Hp} (l : Le H G) {v : V} {a : Ar} (h : ArOk K H v a) : ArOk K G v a := by
  cases a with
  | d x => exact Le.dp l x v h
  | v x => exact h
  | t a φ => exact ⟨h.1, l a _ h.2 fun ps z => by cases z⟩
theorem ArsOk.le {K : PySem.W.Frag} {H G : Hp} (l : Le H G) : ∀ {vs : List V} {as : List Ar}, ArsOk K H vs as → ArsOk K G vs as
  | [], [], _ => trivial
  | v :: vs, a :: as, h => ⟨h.1.le l, ArsOk.le l h.2⟩
  | [], _ :: _, h => h.elim
  | _ :: _, [], h => h.elim
def Av (B : Bx) (σ : St) (H : Hp) (δ : De) (Q : List V → Hp → Prop) (as : List Ar) : Prop := ∀ vs G, Grow H G → ArsOk B.c.K (hid (Own B σ δ) G) vs as → Q vs G
theorem Av.gr {B : Bx} {σ : St} {H G : Hp} {δ : De} {Q : List V → Hp → Prop} {as : List Ar} (h : Av B σ H δ Q as) (g : Grow H G) : Av B σ G δ Q as := fun vs F g' => h vs F (g.trans g')
abbrev AF := De → Wp (List Ar)
def DA (X : Cx) (C : Cs) (W : WX) (es : List Expr) (f : AF) : Prop :=
  ∃ t, PA X es t ∧ ∀ S0 H0 Pb σ H δ Q, Rep (C.bx S0 H0) Pb σ H δ → (f δ).run (Av (C.bx S0 H0) σ H δ Q) (Ew (C.bx S0 H0) W σ H) → t σ H Q
def slotT : Option Sl → Wp (Addr × (Heap → Prop))
  | some (.t a φ) => .pure (a, φ)
  | _ => .stuck
def slotV : Option Sl → Wp V
  | some (.v x) => .pure x
  | _ => .stuck
def aNil : AF := fun _ => .pure []
def aCons (f : DF) (r : AF) : AF := fun δ => (f δ).bind fun d => (r δ).bind fun as => .pure (.d d :: as)
def aVal (i : Nat) (r : AF) : AF := fun δ => (slotV δ[i]?).bind fun v => (r δ).bind fun as => .pure (.v v :: as)
def aTrk (i : Nat) (r : AF) : AF := fun δ => (slotT δ[i]?).bind fun q => (r δ).bind fun as => .pure (.t q.1 q.2 :: as)
def allD : List Ar → Wp (List D)
  | [] => .pure []
  | .d x :: as => (allD as).bind fun ds => .pure (x :: ds)
  | .v _ :: _ => .stuck
  | .t _ _ :: _ => .stuck
theorem allD_ok {K : PySem.W.Frag} {H : Hp} : ∀ {as : List Ar} {vs : List V} {k : List D → Prop} {w : Exn → Prop}, ArsOk K H vs as → (allD as).run k w → ∃ ds, DpAll K H vs ds ∧ k ds
  | [], [], _, _, _, h => ⟨[], .nil, h⟩
  | .d x :: as, v :: vs, _, _, o, h => by
    obtain ⟨ds, h1, h2⟩ := allD_ok o.2 h
    exact ⟨x :: ds, .cons o.1 h1, h2⟩
  | .v _ :: _, _, _, _, _, h => h.elim
  | .t _ _ :: _, _, _, _, _, h => h.elim
  | [], _ :: _, _, _, o, _ => o.elim
  | .d _ :: _, [], _, _, o, _ => o.elim
section
variable {X : Cx} {C : Cs} {W : WX} {pos : Pos} {e : Expr} {es : List Expr} {f : DF} {r : AF}
theorem da_nil : DA X C W [] aNil := ⟨_, pa_nil, fun S0 H0 Pb σ H δ Q _ h => h [] H (Grow.refl H) trivial⟩
theorem da_cons (ha : DE X C W e f) (hr : DA X C W es r) (hs : starEach (e :: es) X.env = (false, eval e X.env) :: starEach es X.env := by rfl) : DA X C W (e :: es) (aCons f r) := by
  obtain ⟨t, p, q⟩ := ha
  obtain ⟨u, p2, q2⟩ := hr
  refine ⟨_, pa_cons p p2 hs, fun S0 H0 Pb σ H δ Q R h => q S0 H0 Pb σ H δ _ R ((f δ).mono (fun d h v G g dp => ?_) (fun _ z => z) h)⟩
  refine q2 S0 H0 Pb σ G δ _ (R.gr g) ((r δ).mono (fun as h vs F g' ok => ?_) (fun _ z => z.gr g) h)
  exact h (v :: vs) F (g.trans g') ⟨Le.dp (hid_le g'.le fun _ z => z) d v dp, ok⟩
theorem da_trk {i : Nat} {x : Str} {p : Pos} (hN : X.N[i]? = some x) (hv : Vis X.env.scope x) (hr : DA X C W es r) (hd : (x == ("__debug__" : Str)) = false := by decide) (hcd : (x == ("__classdict__" : Str)) = false := by decide)
    (hs : starEach (.Name x p :: es) X.env = (false, eval (.Name x p) X.env) :: starEach es X.env := by rfl) : DA X C W (.Name x p :: es) (aTrk i r) := by
  obtain ⟨u, p2, q2⟩ := hr
  refine ⟨_, pa_cons (pe_var hN hv hd hcd) p2 hs, fun S0 H0 Pb σ H δ Q R h => ?_⟩
  unfold aTrk at h
  cases hz : δ[i]? with
  | none => rw [hz] at h; exact h.elim
  | some z =>
    rw [hz] at h
    cases z with
    | non => exact h.elim
    | o ds => exact h.elim
    | p d => exact h.elim
    | v x => exact h.elim
    | t a φ =>
      obtain ⟨t1, t2⟩ := R.trk i a φ hz
      refine ⟨.ref a, t1, ?_⟩
      refine q2 S0 H0 Pb σ H δ _ R ((r δ).mono (fun as h vs G g' ok => ?_) (fun _ z => z) h)
      exact h (.ref a :: vs) G g' ⟨⟨rfl, hid_le g'.le (fun _ z => z) a _ t2 fun ps z => by cases z⟩, ok⟩
def dTup (r : AF) : DF := fun δ => (r δ).bind fun as => (allD as).bind fun ds => .need (ds.length ≤ sizeLine) (.pure (.tuple ds))
def dLst (r : AF) : DF := fun δ => (r δ).bind fun as => (allD as).bind fun ds => .need (ds.length ≤ sizeLine) (.pure (.list ds))
theorem de_tup {x1} (h : DA X C W es r) : DE X C W (.Tuple es x1 pos) (dTup r) := by
  obtain ⟨t, p, q⟩ := h
  refine ⟨_, pe_tup p, fun S0 H0 Pb σ H δ Q R h => q S0 H0 Pb σ H δ _ R ((r δ).mono (fun as h vs G g ok => ?_) (fun _ z => z) h)⟩
  obtain ⟨ds, h1, h2, h3⟩ := allD_ok ok h
  exact ⟨by rw [dps_len h1]; exact h2, new_tup (R.gr g) h1 (h3.gr g)⟩
theorem de_lst (h : DA X C W es r) : DE X C W (.List es pos) (dLst r) := by
  obtain ⟨t, p, q⟩ := h
  refine ⟨_, pe_lst p, fun S0 H0 Pb σ H δ Q R h => q S0 H0 Pb σ H δ _ R ((r δ).mono (fun as h vs G g ok => ?_) (fun _ z => z) h)⟩
  obtain ⟨ds, h1, h2, h3⟩ := allD_ok ok h
  exact ⟨by rw [dps_len h1]; exact h2, new_lst (R.gr g) h1 (h3.gr g)⟩
def optW {A : Type} : Option A → Wp A
  | some a => .pure a
  | none => .stuck
theorem optW_inv {A : Type} {o : Option A} {k : A → Prop} {w : Exn → Prop} (h : (optW o).run k w) : ∃ a, o = some a ∧ k a := by
  cases o with
  | none => exact h.elim
  | some a => exact ⟨a, rfl, h⟩
def dIx : D → D → Wp D
  | .list ds, .int i => optW (atI ds i)
  | .tuple ds, .int i => optW (atI ds i)
  | .str z, .int i => .need (z.length ≤ sizeLine) ((optW (atI z.cps.toList i)).bind fun c => .pure (.str ⟨#[c]⟩))
  | _, _ => .stuck
theorem atI_dps {K : PySem.W.Frag} {H : Hp} {vs : List V} {ds : List D} {i : Int} {d : D} (h : DpAll K H vs ds) (e : atI ds i = some d) : ∃ v, atI vs i = some v ∧ Dp K H v d := by
  unfold atI at e ⊢
  rw [dps_len h]
  cases hj : ixN ds.length i with
  | none => rw [hj] at e; cases e
  | some j =>
    rw [hj] at e
    obtain ⟨v, h1, h2⟩ := dps_get h (i := j) e
    exact ⟨v, h1, h2⟩
theorem o2_ix : Op2 X C (rIx C.K) dIx := by
  intro x y H d e Q S0 H0 Pb σ δ w R dx dy h
  unfold dIx at h
  split at h
  · cases dx with
    | lst s a =>
      cases dy
      obtain ⟨d, h1, h2⟩ := optW_inv h
      obtain ⟨v, h3, h4⟩ := atI_dps a h1
      exact .inl ⟨_, _, _, v, rfl, rfl, Le.sqL hid_sub s, h3, h2 v H (Grow.refl H) h4⟩
  · cases dx with
    | tup s a =>
      cases dy
      obtain ⟨d, h1, h2⟩ := optW_inv h
      obtain ⟨v, h3, h4⟩ := atI_dps a h1
      exact .inr (.inl ⟨_, _, _, v, rfl, rfl, Le.sqT hid_sub s, h3, h2 v H (Grow.refl H) h4⟩)
  · cases dx
    cases dy
    obtain ⟨hz, h⟩ := h
    obtain ⟨c, h1, h2⟩ := optW_inv h
    exact .inr (.inr ⟨_, _, c, rfl, rfl, hz, h1, h2 _ H (Grow.refl H) (.str _)⟩)
  · exact h.elim
theorem de_ix {a b : Expr} {f g : DF} (hK : C.K = X.K) (ha : DE X C W a f) (hb : DE X C W b g) (hs : PlainIx b) : DE X C W (.Subscript a b pos) (d2 dIx f g) := by
  obtain ⟨ta, tb, pa, pb, q⟩ := two ha hb o2_ix
  exact ⟨_, pe_ix (by rw [hK]; exact ix_seq) pa pb hs, q⟩
abbrev OF := De → Wp (Option Int)
def DO (X : Cx) (C : Cs) (W : WX) (e : Option Expr) (f : OF) : Prop :=
  ∃ t, PO X e t ∧ ∀ S0 H0 Pb σ H δ Q, Rep (C.bx S0 H0) Pb σ H δ → (f δ).run (fun o => ∀ G, Grow H G → Q o G) (Ew (C.bx S0 H0) W σ H) → t σ H Q
def asI : D → Wp (Option Int)
  | .int i => .pure (some i)
  | _ => .stuck
def oNone : OF := fun _ => .pure none
def oSome (f : DF) : OF := fun δ => (f δ).bind asI
theorem do_none : DO X C W none oNone := ⟨_, po_none, fun S0 H0 Pb σ H δ Q _ h => h H (Grow.refl H)⟩
theorem do_some (h : DE X C W e f) : DO X C W (some e) (oSome f) := by
  obtain ⟨t, p, q⟩ := h
  refine ⟨_, po_some p, fun S0 H0 Pb σ H δ Q R h => q S0 H0 Pb σ H δ _ R ((f δ).mono (fun d h v G g dp => ?_) (fun _ z => z) h)⟩
  unfold asI at h
  split at h
  · cases dp
    exact ⟨_, rfl, h G g⟩
  · exact h.elim
def cutD {A : Type} (xs : List A) (lo hi : Option Int) : List A := (xs.drop (HT.sIx xs.length 0 lo)).take (HT.sIx xs.length xs.length hi - HT.sIx xs.length 0 lo)
theorem cut_dps {K : PySem.W.Frag} {H : Hp} {vs : List V} {ds : List D} (lo hi : Option Int) (h : DpAll K H vs ds) : DpAll K H (cutV vs lo hi) (cutD ds lo hi) := by
  unfold cutV cutD
  rw [dps_len h]
  exact dps_take _ (dps_drop _ h)
def dCut (lo hi : Option Int) : D → Wp D
  | .list ds => .pure (.list (cutD ds lo hi))
  | .tuple ds => .pure (.tuple (cutD ds lo hi))
  | .str z => .need (z.length ≤ sizeLine) (.pure (.str (cutS z lo hi)))
  | _ => .stuck
def dSl (f : DF) (l h : OF) : DF := fun δ => (f δ).bind fun d => (l δ).bind fun lo => (h δ).bind fun hi => dCut lo hi d
theorem cut_all {A : Type} {xs : List A} {lo hi : Option Int} (h : HT.sIx xs.length 0 lo = 0 ∧ HT.sIx xs.length xs.length hi = xs.length) : cutD xs lo hi = xs := by
  unfold cutD
  rw [h.1, h.2]
  simp
theorem de_slice {lo hi : Option Expr} {p2 : Pos} {l h : OF} (hK : C.K = X.K) (ha : DE X C W e f) (hl : DO X C W lo l) (hh : DO X C W hi h) : DE X C W (.Subscript e (.Slice lo hi none p2) pos) (dSl f l h) := by
  obtain ⟨ta, pa, qa⟩ := ha
  obtain ⟨tl, pl, ql⟩ := hl
  obtain ⟨tu, pu, qu⟩ := hh
  refine ⟨_, pe_slice (SlR.or sl_tupA (SlR.or sl_list sl_str)) pa pl pu, fun S0 H0 Pb σ H δ Q R hw => qa S0 H0 Pb σ H δ _ R ((f δ).mono (fun d hw x H1 g1 dx => ?_) (fun _ z => z) hw)⟩
  refine ql S0 H0 Pb σ H1 δ _ (R.gr g1) ((l δ).mono (fun lo' hw H2 g2 => ?_) (fun _ z => z.gr g1) hw)
  refine qu S0 H0 Pb σ H2 δ _ (R.gr (g1.trans g2)) ((h δ).mono (fun hi' hw H3 g3 => ?_) (fun _ z => z.gr (g1.trans g2)) hw)
  have R3 := R.gr (g1.trans (g2.trans g3))
  have dx3 := Le.dp (hid_le (S' := Own (C.bx S0 H0) σ δ) (g2.trans g3).le fun _ z => z) d x dx
  have k3 : (dCut lo' hi' d).run (Dv (C.bx S0 H0) σ H3 δ Q) (Ew (C.bx S0 H0) W σ H) := (dCut lo' hi' d).mono (fun _ z => z.gr (g1.trans (g2.trans g3))) (fun _ z => z) hw
  show rSlA X.K x lo' hi' H3 Q ∨ (rSlL X.K x lo' hi' H3 Q ∨ rSlS x lo' hi' H3 Q)
  rw [← hK]
  unfold dCut at k3
  split at k3
  · cases dx3 with
    | lst s a => exact .inr (.inl ⟨_, _, rfl, Le.sqL hid_sub s, new_lst R3 (cut_dps lo' hi' a) k3⟩)
  · cases dx3 with
    | tup s a =>
      refine .inl ⟨_, _, rfl, Le.sqT hid_sub s, fun ha => ?_, fun _ => new_tup R3 (cut_dps lo' hi' a) k3⟩
      rw [dps_len a] at ha
      rw [cut_all ha] at k3
      exact k3 _ H3 (Grow.refl H3) (.tup s a)
  · cases dx3
    exact .inr (.inr ⟨_, rfl, k3.1, k3.2 _ H3 (Grow.refl H3) (.str _)⟩)
  · exact k3.elim
def OpN (C : Cs) (r : List V → Hp → VK → Prop) (F : List D → Wp D) : Prop := ∀ (vs : List V) (H : Hp) (ds : List D) (Q : VK) (S0 : Addr → Prop) (H0 Pb : Hp) (σ : St) (δ : De) (w : Exn → Prop), Rep (C.bx S0 H0) Pb σ H δ → DpAll C.K (hid (Own (C.bx S0 H0) σ δ) H) vs ds → (F ds).run (Dv (C.bx S0 H0) σ H δ Q) w → r vs H Q
def dCB (F : List D → Wp D) (r : AF) : DF := fun δ => (r δ).bind fun as => (allD as).bind F
variable {x id T : String} {nm : Str} {p : Pos} {rr : List V → Hp → VK → Prop} {F : List D → Wp D}
theorem cb_q {t : TA} (h : ∀ S0 H0 Pb σ H δ Q, Rep (C.bx S0 H0) Pb σ H δ → (r δ).run (Av (C.bx S0 H0) σ H δ Q) (Ew (C.bx S0 H0) W σ H) → t σ H Q) (hF : OpN C rr F) : ∀ S0 H0 Pb σ H δ Q, Rep (C.bx S0 H0) Pb σ H δ → (dCB F r δ).run (Dv (C.bx S0 H0) σ H δ Q) (Ew (C.bx S0 H0) W σ H) → tCB rr t σ H Q := by
  intro S0 H0 Pb σ H δ Q R hw
  refine h S0 H0 Pb σ H δ _ R ((r δ).mono (fun as hw vs G g ok => ?_) (fun _ z => z) hw)
  obtain ⟨ds, h1, h2⟩ := allD_ok ok hw
  exact hF vs G ds Q S0 H0 Pb σ δ _ (R.gr g) h1 ((F ds).mono (fun _ z => z.gr g) (fun _ z => z) h2)
theorem de_callB (hc : CallR X (.builtin id) rr) (hF : OpN C rr F) (hg : Gl X nm) (hm : X.mg nm = none) (hv : bootBuiltins nm = some (.builtin id)) (ha : DA X C W (e :: es) r) (hn : nm ≠ "__name__" := by decide) (hdb : (nm == ("__debug__" : Str)) = false := by decide)
    (he : starEach (e :: es) X.env = (false, eval e X.env) :: starEach es X.env := by rfl) (hpl : (backTo pos (starEach es X.env)).any (·.1) = false := by rfl) : DE X C W (.Call (.Name nm p) (e :: es) [] pos) (dCB F r) := by
  obtain ⟨t, pt, q⟩ := ha
  exact ⟨_, pe_callB hc hg hm hv pt hn hdb he hpl, cb_q q hF⟩
theorem de_callTy (hc : CallR X (.type T) rr) (hF : OpN C rr F) (hg : Gl X nm) (hm : X.mg nm = none) (hv : bootBuiltins nm = some (.type T)) (ha : DA X C W (e :: es) r) (hn : nm ≠ "__name__" := by decide) (hdb : (nm == ("__debug__" : Str)) = false := by decide)
    (he : starEach (e :: es) X.env = (false, eval e X.env) :: starEach es X.env := by rfl) (hpl : (backTo pos (starEach es X.env)).any (·.1) = false := by rfl) : DE X C W (.Call (.Name nm p) (e :: es) [] pos) (dCB F r) := by
  obtain ⟨t, pt, q⟩ := ha
  exact ⟨_, pe_callTy hc hg hm hv pt hn hdb he hpl, cb_q q hF⟩
def bGcd : List D → Wp D
  | [.int a, .int b] => .pure (.int ((Nat.gcd a.natAbs b.natAbs : Nat) : Int))
  | _ => .stuck
def bLen : List D → Wp D
  | [.list ds] => .pure (.int ds.length)
  | [.tuple ds] => .pure (.int ds.length)
  | [.str z] => .need (z.length ≤ sizeLine) (.pure (.int z.length))
  | _ => .stuck
def bInt : List D → Wp D
  | [.int a] => .pure (.int a)
  | [.bool b] => .pure (.int (if b then 1 else 0))
  | [.str a] => match PySem.intText? a with
    | some n => .need (a.length ≤ 640) (.pure (.int n))
    | none => .stuck
  | _ => .stuck
def bAbs : List D → Wp D
  | [.int i] => .pure (.int (if i < 0 then -i else i))
  | _ => .stuck
def bMin2 : List D → Wp D
  | [.int i, .int j] => .pure (.int (if j < i then j else i))
  | _ => .stuck
def bMax2 : List D → Wp D
  | [.int i, .int j] => .pure (.int (if j > i then j else i))
  | _ => .stuck
def bTuple : List D → Wp D
  | [.list ds] => .pure (.tuple ds)
  | [.tuple ds] => .pure (.tuple ds)
  | _ => .stuck
def bList : List D → Wp D
  | [.list ds] => .pure (.list ds)
  | [.tuple ds] => .pure (.list ds)
  | _ => .stuck
theorem on_len : OpN C (fun xs H Q => ∃ x n, xs = [x] ∧ LenV C.K x H n ∧ Q (.int n) H) bLen := by
  intro vs H ds Q S0 H0 Pb σ δ w R h hw
  unfold bLen at hw
  split at hw
  · cases h with
    | cons a b =>
      cases b
      cases a with
      | lst s a => exact ⟨_, _, rfl, .inl ⟨_, Le.sqL hid_sub s, rfl⟩, by rw [dps_len a]; exact hw _ H (Grow.refl H) (.int _)⟩
  · cases h with
    | cons a b =>
      cases b
      cases a with
      | tup s a => exact ⟨_, _, rfl, .inr ⟨_, Le.sqT hid_sub s, rfl⟩, by rw [dps_len a]; exact hw _ H (Grow.refl H) (.int _)⟩
  · cases h with
    | cons a b =>
      cases b
      cases a
      exact ⟨_, _, rfl, ⟨hw.1, rfl⟩, hw.2 _ H (Grow.refl H) (.int _)⟩
  · exact hw.elim
theorem on_int : OpN C (fun xs H Q => ((∃ i, xs = [.int i] ∧ Q (.int i) H) ∨ ∃ k, xs = [.bl k] ∧ Q (.int (if k then 1 else 0)) H) ∨ ∃ a n, xs = [.str a] ∧ PySem.intText? a = some n ∧ a.length ≤ 640 ∧ Q (.int n) H) bInt := by
  intro vs H ds Q S0 H0 Pb σ δ w R h hw
  unfold bInt at hw
  split at hw
  · cases h with
    | cons a b =>
      cases b
      cases a
      exact .inl (.inl ⟨_, rfl, hw _ H (Grow.refl H) (.int _)⟩)
  · cases h with
    | cons a b =>
      cases b
      cases a
      exact .inl (.inr ⟨_, rfl, hw _ H (Grow.refl H) (.int _)⟩)
  · cases h with
    | cons a b =>
      cases b
      cases a
      split at hw
      · rename_i n e
        exact .inr ⟨_, n, rfl, e, hw.1, hw.2 _ H (Grow.refl H) (.int _)⟩
      · exact hw.elim
  · exact hw.elim
theorem on_tuple : OpN C (fun xs H Q => ∃ p ys, xs = [.ref p] ∧ ((SqL C.K H p ys ∧ ∀ l, H l = none → Q (.ref l) (upd H l (.tup ys))) ∨ (SqT C.K H p ys ∧ Q (.ref p) H))) bTuple := by
  intro vs H ds Q S0 H0 Pb σ δ w R h hw
  unfold bTuple at hw
  split at hw
  · cases h with
    | cons a b =>
      cases b
      cases a with
      | lst s a => exact ⟨_, _, rfl, .inl ⟨Le.sqL hid_sub s, new_tup R a hw⟩⟩
  · cases h with
    | cons a b =>
      cases b
      cases a with
      | tup s a => exact ⟨_, _, rfl, .inr ⟨Le.sqT hid_sub s, hw _ H (Grow.refl H) (.tup s a)⟩⟩
  · exact hw.elim
theorem on_list : OpN C (fun xs H Q => ∃ p ys, xs = [.ref p] ∧ (SqL C.K H p ys ∨ SqT C.K H p ys) ∧ ∀ l, H l = none → Q (.ref l) (upd H l (.lst ys))) bList := by
  intro vs H ds Q S0 H0 Pb σ δ w R h hw
  unfold bList at hw
  split at hw
  · cases h with
    | cons a b =>
      cases b
      cases a with
      | lst s a => exact ⟨_, _, rfl, .inl (Le.sqL hid_sub s), new_lst R a hw⟩
  · cases h with
    | cons a b =>
      cases b
      cases a with
      | tup s a => exact ⟨_, _, rfl, .inr (Le.sqT hid_sub s), new_lst R a hw⟩
  · exact hw.elim
def isTy (T : String) : D → Option Bool
  | .none => kitB "NoneType" T
  | .bool _ => kitB "bool" T
  | .int _ => kitB "int" T
  | .str _ => kitB "str" T
  | .list _ => kitB "list" T
  | .tuple _ => kitB "tuple" T
  | .dict _ => kitB "dict" T
def dIsi (T : String) (f : DF) : DF := fun δ => (f δ).bind fun d => (optW (isTy T d)).bind fun b => .pure (.bool b)
theorem tyx_dp {H : Hp} {v : V} {d : D} (h : Dp C.K H v d) : ∃ t : String, TyX C.K H v (.type t) ∧ ∀ T, isTy T d = kitB t T := by
  cases h with
  | non => exact ⟨_, .base .non, fun _ => rfl⟩
  | bl b => exact ⟨_, .base (.bl b), fun _ => rfl⟩
  | int i => exact ⟨_, .base (.int i), fun _ => rfl⟩
  | str x => exact ⟨_, .base (.str x), fun _ => rfl⟩
  | lst s a =>
    refine ⟨"list", ?_, fun _ => rfl⟩
    rcases s with (z | ⟨o, z⟩) | ⟨o, its, n, e1, e2, _⟩
    · exact .base (.lst z)
    · exact .base (.frz z)
    · exact .kList e1 e2
  | tup s a =>
    refine ⟨"tuple", ?_, fun _ => rfl⟩
    rcases s with (z | ⟨o, z⟩) | ⟨o, its, n, e1, e2, _⟩
    · exact .base (.tup z)
    · exact .fTuple z
    · exact .kTuple e1 e2
  | dct s k a => exact ⟨"dict", .base (.dK s), fun _ => rfl⟩
theorem de_isi {T : String} {x2 : Str} {p2 : Pos} (hK : C.K = X.K) (hg : Gl X "isinstance") (hm : X.mg "isinstance" = none) (hg2 : Gl X x2) (hm2 : X.mg x2 = none) (hv2 : bootBuiltins x2 = some (.type T)) (ha : DE X C W e f) (hn2 : x2 ≠ "__name__" := by decide) (hd2 : (x2 == ("__debug__" : Str)) = false := by decide)
    (he : starEach [e, .Name x2 p2] X.env = (false, eval e X.env) :: starEach [.Name x2 p2] X.env := by rfl) (he2 : starEach [.Name x2 p2] X.env = (false, eval (.Name x2 p2) X.env) :: starEach [] X.env := by rfl) (hpl : (backTo pos (starEach [.Name x2 p2] X.env)).any (·.1) = false := by rfl) :
    DE X C W (.Call (.Name "isinstance" p) [e, .Name x2 p2] [] pos) (dIsi T f) := by
  obtain ⟨t, pt, q⟩ := ha
  refine ⟨_, pe_callB call_isi hg hm PyProof.Rows.boot_isinstance (pa_cons pt (pa_cons (pe_bltn hg2 hm2 hv2 (show RelV (.ty T) _ from rfl) hn2 hd2) pa_nil he2) he) (by decide) (by decide) he hpl, fun S0 H0 Pb σ H δ Q R h => q S0 H0 Pb σ H δ _ R ((f δ).mono (fun d h v G g dp => ?_) (fun _ z => z) h)⟩
  obtain ⟨b, h1, h2⟩ := optW_inv h
  obtain ⟨t', h3, h4⟩ := tyx_dp (C := C) (hid_dp dp)
  refine ⟨v, .ty T, _, _, b, rfl, .ty T, ?_, kit_ty (a := t') ?_, h2 _ G g (.bl b)⟩
  · rw [← hK]; exact h3
  · rw [← h4 T]; exact h1
def isTys : List String → D → Option Bool
  | [], _ => some false
  | T :: Ts, d => match isTy T d with
    | some true => some true
    | some false => isTys Ts d
    | none => none
def dIsiT (Ts : List String) (f : DF) : DF := fun δ => (f δ).bind fun d => (optW (isTys Ts d)).bind fun b => .pure (.bool b)
theorem kitAny_tys {K : PySem.W.Frag} {t : String} {d : D} (h4 : ∀ T, isTy T d = kitB t T) : ∀ {Ts : List String} {b : Bool}, isTys Ts d = some b → PySem.W.kitAny K (.type t) (Ts.map Value.type) = some b
  | [], b, h => by
    cases h
    exact kitAny_nil
  | T :: Ts, b, h => by
    unfold isTys at h
    cases e : isTy T d with
    | none => rw [e] at h; cases h
    | some c =>
      rw [e] at h
      have e2 : PySem.W.kitOne K (.type t) (.type T) = some c := kit_ty (by rw [← h4 T]; exact e)
      cases c with
      | true =>
        cases h
        exact kitAny_cons e2 (fun z => by cases z) fun _ => rfl
      | false => exact kitAny_cons e2 (fun _ => kitAny_tys h4 h) fun z => by cases z
theorem de_isiT {T1 T2 : String} {x1 x2 : Str} {p1 p2 tp : Pos} {kt : Nat} (hK : C.K = X.K) (hg : Gl X "isinstance") (hm : X.mg "isinstance" = none) (hg1 : Gl X x1) (hm1 : X.mg x1 = none) (hv1 : bootBuiltins x1 = some (.type T1)) (hg2 : Gl X x2) (hm2 : X.mg x2 = none) (hv2 : bootBuiltins x2 = some (.type T2)) (ha : DE X C W e f)
    (hn1 : x1 ≠ "__name__" := by decide) (hd1 : (x1 == ("__debug__" : Str)) = false := by decide) (hn2 : x2 ≠ "__name__" := by decide) (hd2 : (x2 == ("__debug__" : Str)) = false := by decide)
    (he1 : starEach [.Name x1 p1, .Name x2 p2] X.env = (false, eval (.Name x1 p1) X.env) :: starEach [.Name x2 p2] X.env := by rfl) (he2 : starEach [.Name x2 p2] X.env = (false, eval (.Name x2 p2) X.env) :: starEach [] X.env := by rfl)
    (he : starEach [e, .Tuple [.Name x1 p1, .Name x2 p2] kt tp] X.env = (false, eval e X.env) :: starEach [.Tuple [.Name x1 p1, .Name x2 p2] kt tp] X.env := by rfl)
    (he3 : starEach [.Tuple [.Name x1 p1, .Name x2 p2] kt tp] X.env = (false, eval (.Tuple [.Name x1 p1, .Name x2 p2] kt tp) X.env) :: starEach [] X.env := by rfl) (hpl : (backTo pos (starEach [.Tuple [.Name x1 p1, .Name x2 p2] kt tp] X.env)).any (·.1) = false := by rfl) :
    DE X C W (.Call (.Name "isinstance" p) [e, .Tuple [.Name x1 p1, .Name x2 p2] kt tp] [] pos) (dIsiT [T1, T2] f) := by
  obtain ⟨t, pt, q⟩ := ha
  refine ⟨_, pe_callB call_isiT hg hm PyProof.Rows.boot_isinstance (pa_cons pt (pa_cons (pe_tup (pa_cons (pe_bltn hg1 hm1 hv1 (show RelV (.ty T1) _ from rfl) hn1 hd1) (pa_cons (pe_bltn hg2 hm2 hv2 (show RelV (.ty T2) _ from rfl) hn2 hd2) pa_nil he2) he1)) pa_nil he3) he) (by decide) (by decide) he hpl,
    fun S0 H0 Pb σ H δ Q R h => q S0 H0 Pb σ H δ _ R ((f δ).mono (fun d h v G g dp => ?_) (fun _ z => z) h)⟩
  obtain ⟨b, h1, h2⟩ := optW_inv h
  refine ⟨by show 2 ≤ sizeLine; decide, fun u nu => ?_⟩
  have g2 : Grow G (upd G u (.tup [.ty T1, .ty T2])) := Grow.new nu
  obtain ⟨t', h3, h4⟩ := tyx_dp (C := C) (Le.dp g2.le d v (hid_dp dp))
  refine ⟨v, u, _, _, _, b, rfl, upd_same, .cons (.ty T1) (.cons (.ty T2) .nil), ?_, kitAny_tys (Ts := [T1, T2]) h4 h1, h2 _ _ (g.trans g2) (.bl b)⟩
  rw [← hK]; exact h3
end
def spD (C : Cs) (n : Nat) (F : List Ar → Wp D) : Sp := fun vs H Q E => ∃ (S : Addr → Prop) (as : List Ar), as.length = n ∧ (∀ b, S b → H b ≠ none) ∧ (∀ P ∈ C.T, GxR.TabG H P) ∧ Scr C S H ∧ ArsOk C.K (hid S H) vs as ∧
  (F as).run (fun d => ∀ v G, Grow H G → Dp C.K (hid S G) v d → Q v G) (fun x => ∀ cls dc G, Grow H G → ExAt (C.bx S H) x cls dc G → E cls dc G)
theorem spD_len {C : Cs} {n : Nat} {F : List Ar → Wp D} : ∀ vs H Q E, spD C n F vs H Q E → vs.length = n := fun vs H Q E ⟨S, as, h1, _, _, _, h2, _⟩ => h2.len.trans h1
section
variable {X : Cx} {C : Cs} {W : WX} {pos p : Pos} {e : Expr} {es : List Expr} {r : AF} {x : Str} {fa : Addr} {fd : FuncData} {ps : List Str} {k n : Nat} {F : List Ar → Wp D}
def dCall (n : Nat) (F : List Ar → Wp D) (r : AF) : DF := fun δ => (r δ).bind fun as => .need (as.length = n) (F as)
theorem exat_own {B : Bx} {σ : St} {δ : De} {H : Hp} {x : Exn} {cls : Value} {dc : Option Addr} {G : Hp} (h : ExAt ⟨B.c, Own B σ δ, H⟩ x cls dc G) : ExAt B x cls dc G := by
  refine ⟨h.1, ?_⟩
  have h2 := h.2
  revert h2
  cases x.fld with
  | none => exact id
  | some q =>
    rintro ⟨a, v, h3, h4, h5⟩
    exact ⟨a, v, h3, h4, Le.dp (hid_le (Le.refl G) fun b z => .inl z) _ v h5⟩
theorem de_call (hK : C.K = X.K) (tk : Takes X W) (G : FnOk X.prog X.w X.K X.mg X.base (L2.CX X.prog X.w) k fa fd ps (spD C n F)) (hr : Room k X.A) (hg : Gl X x) (hm : X.mg x = some (.ref fa)) (hk : PySem.W.keepIn X.K (.ref fa) = true) (hb : Binds X.K fd ps []) (ha : DA X C W (e :: es) r)
    (hdb : (x == ("__debug__" : Str)) = false := by decide) (he : starEach (e :: es) X.env = (false, eval e X.env) :: starEach es X.env := by rfl) (hpl : (backTo pos (starEach es X.env)).any (·.1) = false := by rfl) :
    DE X C W (.Call (.Name x p) (e :: es) [] pos) (dCall n F r) := by
  obtain ⟨t, pt, q⟩ := ha
  refine ⟨_, pe_callS G hr hg hm hk hb (fun σ => passAt tk σ) pt hdb he hpl, fun S0 H0 Pb σ H δ Q R h => q S0 H0 Pb σ H δ _ R ((r δ).mono (fun as h vs G g ok => ?_) (fun _ z => z) h)⟩
  refine ⟨Own (C.bx S0 H0) σ δ, as, h.1, fun b z => ?_, (R.gr g).tabs, (R.gr g).scrO, ok, (F as).mono (fun d h v G' g' dp => h v G' (g.trans g') dp) (fun y hy cls dc G' g' ex => hy cls dc G' (g.trans g') (exat_own ex)) h.2⟩
  rcases z with z | ⟨i, ds, e1, e2⟩
  · exact (R.gr g).grow.dm b (R.dom b z)
  · obtain ⟨a, xs, q1, q2, _⟩ := (R.gr g).own i ds e1
    rw [e2] at q1
    cases q1
    rw [q2]
    exact fun z => nomatch z
end
end Tr

namespace Tr
open PySem PySem.Spec L2
variable [ProtC]

inductive Out where
  | nx (δ : De)
  | rt (d : D)
  | bk (δ : De)
  | ct (δ : De)
def OutW (B : Bx) (Pb : Hp) (E : Ends) : Out → Prop
  | .nx δ => ∀ σ H, Rep B Pb σ H δ → E.nx σ H
  | .rt d => ∀ v G, Grow B.H G → Dp B.c.K (hid B.S G) v d → E.rt v G
  | .bk δ => ∀ σ H, Rep B Pb σ H δ → E.bk σ H
  | .ct δ => ∀ σ H, Rep B Pb σ H δ → E.ct σ H
def Xw (B : Bx) (W : WX) (x : Exn) : Prop := ∀ cls dc σ G, Grow B.H G → ExAt B x cls dc G → W cls dc σ G
theorem Xw.ew {B : Bx} {W : WX} {x : Exn} {Pb : Hp} {σ : St} {H : Hp} {δ : De} (h : Xw B W x) (R : Rep B Pb σ H δ) : Ew B W σ H x := fun c d G g e => h c d σ G (R.grow.trans g) e
abbrev SF := De → Wp Out
def DS (X : Cx) (C : Cs) (W : WX) (st : Stmt) (F : SF) : Prop :=
  ∃ t, PS X st t ∧ ∀ S0 H0 Pb σ H δ E, Rep (C.bx S0 H0) Pb σ H δ → (F δ).run (OutW (C.bx S0 H0) Pb E) (Xw (C.bx S0 H0) W) → t E σ H
def DSs (X : Cx) (C : Cs) (W : WX) (st : List Stmt) (F : SF) : Prop :=
  ∃ t, PSs X st t ∧ ∀ S0 H0 Pb σ H δ E, Rep (C.bx S0 H0) Pb σ H δ → (F δ).run (OutW (C.bx S0 H0) Pb E) (Xw (C.bx S0 H0) W) → t E σ H

theorem get_set_cases {A : Type} {l : List A} {i j : Nat} {x y : A} (h : (l.set i x)[j]? = some y) : (i = j ∧ y = x ∧ j < l.length) ∨ (i ≠ j ∧ l[j]? = some y) := by
  by_cases e : i = j
  · subst e
    have hl : i < l.length := by
      have := (List.getElem?_eq_some_iff.mp h).1
      rwa [List.length_set] at this
    rw [List.getElem?_set_self hl] at h
    exact .inl ⟨rfl, (Option.some.inj h).symm, hl⟩
  · rw [List.getElem?_set_ne e] at h
    exact .inr ⟨e, h⟩
theorem own_set {B : Bx} {σ : St} {δ : De} {i : Nat} {v : V} {d : D} {b : Addr} (hl : σ.length = δ.length) (h : Own B (σ.set i (some v)) (δ.set i (.p d)) b) : Own B σ δ b := by
  rcases h with z | ⟨j, ds, e1, e2⟩
  · exact .inl z
  · rcases get_set_cases e1 with ⟨_, h1, _⟩ | ⟨h1, h2⟩
    · cases h1
    · rcases get_set_cases e2 with ⟨h3, _⟩ | ⟨_, h4⟩
      · exact absurd h3 h1
      · exact .inr ⟨j, ds, h2, h4⟩
theorem Rep.setP {B : Bx} {Pb : Hp} {σ : St} {H : Hp} {δ : De} {i : Nat} {v : V} {d : D} (R : Rep B Pb σ H δ) (dp : Dp B.c.K (hid (Own B σ δ) H) v d) : Rep B Pb (σ.set i (some v)) H (δ.set i (.p d)) := by
  have sub : ∀ b, Own B (σ.set i (some v)) (δ.set i (.p d)) b → Own B σ δ b := fun b z => own_set R.len z
  have le : Le (hid (Own B σ δ) H) (hid (Own B (σ.set i (some v)) (δ.set i (.p d))) H) := hid_le (Le.refl H) sub
  refine ⟨R.ph.trans le, by rw [List.length_set, List.length_set]; exact R.len, R.grow, R.dom, R.tabs, fun j e h => ?_, fun j es h => ?_, fun j k es fs a h1 h2 h3 h4 => ?_, fun j x h => ?_, fun j b φ h => ?_, R.scr⟩
  · rcases get_set_cases h with ⟨rfl, h1, h2⟩ | ⟨h1, h2⟩
    · cases h1
      exact ⟨v, List.getElem?_set_self (by rw [R.len]; exact h2), Le.dp le _ v dp⟩
    · obtain ⟨u, q1, q2⟩ := R.pers j e h2
      exact ⟨u, by rw [List.getElem?_set_ne h1]; exact q1, Le.dp le _ u q2⟩
  · rcases get_set_cases h with ⟨_, h1, _⟩ | ⟨h1, h2⟩
    · cases h1
    · obtain ⟨a, xs, q1, q2, q3, q4⟩ := R.own j es h2
      exact ⟨a, xs, by rw [List.getElem?_set_ne h1]; exact q1, q2, q3, Le.dps le _ xs q4⟩
  · rcases get_set_cases h1 with ⟨_, z, _⟩ | ⟨n1, g1⟩
    · cases z
    · rcases get_set_cases h2 with ⟨_, z, _⟩ | ⟨n2, g2⟩
      · cases z
      · rw [List.getElem?_set_ne n1] at h3
        rw [List.getElem?_set_ne n2] at h4
        exact R.uniq j k es fs a g1 g2 h3 h4
  · rcases get_set_cases h with ⟨_, z, _⟩ | ⟨n1, g1⟩
    · cases z
    · rw [List.getElem?_set_ne n1]
      exact R.val j x g1
  · rcases get_set_cases h with ⟨_, z, _⟩ | ⟨n1, g1⟩
    · cases z
    · rw [List.getElem?_set_ne n1]
      exact ⟨(R.trk j b φ g1).1, le b _ (R.trk j b φ g1).2 fun ps z => by cases z⟩
theorem Rep.setO {B : Bx} {Pb : Hp} {σ : St} {H G : Hp} {δ : De} {i : Nat} {a : Addr} {xs : List V} {ds : List D} (R : Rep B Pb σ H δ) (g : Grow H G) (na : H a = none) (ha : G a = some (.lst xs)) (dp : DpAll B.c.K (hid (fun b => Own B σ δ b ∨ b = a) G) xs ds) :
    Rep B Pb (σ.set i (some (.ref a))) G (δ.set i (.o ds)) := by
  have R' := R.gr g
  have nB : B.H a = none := R.grow.free na
  have nO : ∀ j es, δ[j]? = some (Sl.o es) → σ[j]? ≠ some (some (V.ref a)) := fun j es e z => by
    obtain ⟨b, ys, q1, q2, _⟩ := R.own j es e
    rw [z] at q1
    cases q1
    rw [na] at q2
    cases q2
  have sub : ∀ b, Own B (σ.set i (some (.ref a))) (δ.set i (.o ds)) b → Own B σ δ b ∨ b = a := fun b z => by
    rcases z with z | ⟨j, es, e1, e2⟩
    · exact .inl (.inl z)
    · rcases get_set_cases e1 with ⟨rfl, h1, h2⟩ | ⟨h1, h2⟩
      · rw [List.getElem?_set_self (by rw [R.len]; exact h2)] at e2
        cases e2
        exact .inr rfl
      · rw [List.getElem?_set_ne h1] at e2
        exact .inl (.inr ⟨j, es, h2, e2⟩)
  have leN : Le (hid (fun b => Own B σ δ b ∨ b = a) G) (hid (Own B (σ.set i (some (.ref a))) (δ.set i (.o ds))) G) := hid_le (Le.refl G) sub
  have leH : Le (hid (Own B σ δ) H) (hid (fun b => Own B σ δ b ∨ b = a) G) := fun b u e n => by
    obtain ⟨h1, h2⟩ := of_hid e
    rw [hid_in]
    · exact g.le b u h2 n
    · rintro (z | z)
      · exact h1 z
      · rw [z, na] at h2
        cases h2
  have le := leH.trans leN
  refine ⟨R.ph.trans le, by rw [List.length_set, List.length_set]; exact R.len, R'.grow, R.dom, R'.tabs, fun j e h => ?_, fun j es h => ?_, fun j k es fs b h1 h2 h3 h4 => ?_, fun j x h => ?_, fun j b φ h => ?_, R.scr⟩
  · rcases get_set_cases h with ⟨_, h1, _⟩ | ⟨h1, h2⟩
    · cases h1
    · obtain ⟨u, q1, q2⟩ := R.pers j e h2
      exact ⟨u, by rw [List.getElem?_set_ne h1]; exact q1, Le.dp le _ u q2⟩
  · rcases get_set_cases h with ⟨rfl, h1, h2⟩ | ⟨h1, h2⟩
    · cases h1
      exact ⟨a, xs, List.getElem?_set_self (by rw [R.len]; exact h2), ha, nB, Le.dps leN _ xs dp⟩
    · obtain ⟨b, ys, q1, q2, q3, q4⟩ := R.own j es h2
      exact ⟨b, ys, by rw [List.getElem?_set_ne h1]; exact q1, g.le b _ q2 (fun ps z => by cases z), q3, Le.dps le _ ys q4⟩
  · rcases get_set_cases h1 with ⟨e1, z1, l1⟩ | ⟨n1, g1⟩
    · rcases get_set_cases h2 with ⟨e2, z2, l2⟩ | ⟨n2, g2⟩
      · exact e1.symm.trans e2
      · subst e1
        rw [List.getElem?_set_self (by rw [R.len]; exact l1)] at h3
        cases h3
        rw [List.getElem?_set_ne n2] at h4
        exact absurd h4 (nO k _ g2)
    · rcases get_set_cases h2 with ⟨e2, z2, l2⟩ | ⟨n2, g2⟩
      · subst e2
        rw [List.getElem?_set_self (by rw [R.len]; exact l2)] at h4
        cases h4
        rw [List.getElem?_set_ne n1] at h3
        exact absurd h3 (nO j _ g1)
      · rw [List.getElem?_set_ne n1] at h3
        rw [List.getElem?_set_ne n2] at h4
        exact R.uniq j k es fs b g1 g2 h3 h4
  · rcases get_set_cases h with ⟨_, z, _⟩ | ⟨n1, g1⟩
    · cases z
    · rw [List.getElem?_set_ne n1]
      exact R.val j x g1
  · rcases get_set_cases h with ⟨_, z, _⟩ | ⟨n1, g1⟩
    · cases z
    · rw [List.getElem?_set_ne n1]
      exact ⟨(R.trk j b φ g1).1, le b _ (R.trk j b φ g1).2 fun ps z => by cases z⟩
theorem Rep.wr {B : Bx} {Pb : Hp} {σ : St} {H : Hp} {δ : De} {i : Nat} {a : Addr} {xs ys : List V} {ds es : List D} (R : Rep B Pb σ H δ) (hd : δ[i]? = some (Sl.o ds)) (hs : σ[i]? = some (some (.ref a))) (ha : H a = some (.lst xs)) (dp : DpAll B.c.K (hid (Own B σ δ) H) ys es) :
    Rep B Pb σ (upd H a (.lst ys)) (δ.set i (.o es)) := by
  obtain ⟨a', xs', q1, q2, q3, q4⟩ := R.own i ds hd
  rw [hs] at q1
  cases q1
  have hi : i < δ.length := (List.getElem?_eq_some_iff.mp hd).1
  have oa : Own B σ δ a := .inr ⟨i, ds, hd, hs⟩
  have own : ∀ b, Own B σ (δ.set i (.o es)) b ↔ Own B σ δ b := fun b => by
    constructor
    · rintro (z | ⟨j, fs, e1, e2⟩)
      · exact .inl z
      · rcases get_set_cases e1 with ⟨rfl, h1, h2⟩ | ⟨h1, h2⟩
        · exact .inr ⟨i, ds, hd, e2⟩
        · exact .inr ⟨j, fs, h2, e2⟩
    · rintro (z | ⟨j, fs, e1, e2⟩)
      · exact .inl z
      · by_cases e : i = j
        · subst e
          exact .inr ⟨i, es, List.getElem?_set_self hi, e2⟩
        · exact .inr ⟨j, fs, by rw [List.getElem?_set_ne e]; exact e1, e2⟩
  have le : Le (hid (Own B σ δ) H) (hid (Own B σ (δ.set i (.o es))) (upd H a (.lst ys))) := fun b u e n => by
    obtain ⟨h1, h2⟩ := of_hid e
    rw [hid_in fun z => h1 ((own b).mp z), upd_ne]
    · exact h2
    · intro z
      subst z
      exact h1 oa
  refine ⟨R.ph.trans le, by rw [List.length_set]; exact R.len, ⟨fun b u e n => ?_, fun P h => ?_, fun b h => ?_, fun P q hp t => TabS.put ha (R.grow.pr P q hp t)⟩, R.dom, fun P h => ?_, fun j e h => ?_, fun j fs h => ?_, fun j k fs fs' b h1 h2 h3 h4 => ?_, fun j x h => ?_, fun j b φ h => ?_, R.scr⟩
  · rw [upd_ne (ne_of_none e q3)]
    exact R.grow.le b u e n
  · obtain ⟨ps, e, t⟩ := R.grow.tb P h
    refine ⟨ps, ?_, t⟩
    rw [upd_ne (ne_of e ha fun z => by cases z)]
    exact e
  · by_cases c : b = a
    · rw [c, upd_same]
      exact fun z => nomatch z
    · rw [upd_ne c]
      exact R.grow.dm b h
  · obtain ⟨ps, e, t⟩ := R.tabs P h
    refine ⟨ps, ?_, t⟩
    rw [upd_ne (ne_of e ha fun z => by cases z)]
    exact e
  · rcases get_set_cases h with ⟨_, h1, _⟩ | ⟨h1, h2⟩
    · cases h1
    · obtain ⟨u, g1, g2⟩ := R.pers j e h2
      exact ⟨u, g1, Le.dp le _ u g2⟩
  · rcases get_set_cases h with ⟨rfl, h1, h2⟩ | ⟨h1, h2⟩
    · cases h1
      exact ⟨a, ys, hs, upd_same, q3, Le.dps le _ ys dp⟩
    · obtain ⟨b, zs, g1, g2, g3, g4⟩ := R.own j fs h2
      refine ⟨b, zs, g1, ?_, g3, Le.dps le _ zs g4⟩
      rw [upd_ne]
      · exact g2
      · intro z
        subst z
        exact h1 (R.uniq i j ds fs b hd h2 hs g1)
  · have ex : ∀ j fs, (δ.set i (.o es))[j]? = some (Sl.o fs) → ∃ fs0, δ[j]? = some (Sl.o fs0) := fun j fs e => by
      rcases get_set_cases e with ⟨rfl, _, _⟩ | ⟨_, h2⟩
      · exact ⟨ds, hd⟩
      · exact ⟨fs, h2⟩
    obtain ⟨f1, g1⟩ := ex j fs h1
    obtain ⟨f2, g2⟩ := ex k fs' h2
    exact R.uniq j k f1 f2 b g1 g2 h3 h4
  · rcases get_set_cases h with ⟨_, z, _⟩ | ⟨n1, g1⟩
    · cases z
    · exact R.val j x g1
  · rcases get_set_cases h with ⟨_, z, _⟩ | ⟨n1, g1⟩
    · cases z
    · exact ⟨(R.trk j b φ g1).1, le b _ (R.trk j b φ g1).2 fun ps z => by cases z⟩
theorem Rep.fz {B : Bx} {Pb : Hp} {σ : St} {H : Hp} {δ : De} {i : Nat} {ds : List D} (R : Rep B Pb σ H δ) (hd : δ[i]? = some (Sl.o ds)) : Rep B Pb σ H (δ.set i (.p (.list ds))) := by
  obtain ⟨a, xs, q1, q2, q3, q4⟩ := R.own i ds hd
  have hi : i < δ.length := (List.getElem?_eq_some_iff.mp hd).1
  have hσ : σ.set i (some (.ref a)) = σ := by
    apply List.ext_getElem?
    intro j
    by_cases e : i = j
    · subst e
      rw [List.getElem?_set_self (by rw [R.len]; exact hi), q1]
    · rw [List.getElem?_set_ne e]
  have sub : ∀ b, Own B σ (δ.set i (.p (.list ds))) b → Own B σ δ b ∧ b ≠ a := fun b z => by
    rcases z with z | ⟨j, es, e1, e2⟩
    · refine ⟨.inl z, ?_⟩
      rintro rfl
      exact R.dom b z q3
    · rcases get_set_cases e1 with ⟨_, h1, _⟩ | ⟨h1, h2⟩
      · cases h1
      · refine ⟨.inr ⟨j, es, h2, e2⟩, ?_⟩
        rintro rfl
        exact h1 (R.uniq i j ds es b hd h2 q1 e2)
  have le : Le (hid (Own B σ δ) H) (hid (Own B σ (δ.set i (.p (.list ds)))) H) := hid_le (Le.refl H) fun b z => (sub b z).1
  refine ⟨R.ph.trans le, by rw [List.length_set]; exact R.len, R.grow, R.dom, R.tabs, fun j e h => ?_, fun j es h => ?_, fun j k es fs b h1 h2 h3 h4 => ?_, fun j x h => ?_, fun j b φ h => ?_, R.scr⟩
  · rcases get_set_cases h with ⟨rfl, h1, _⟩ | ⟨h1, h2⟩
    · cases h1
      refine ⟨.ref a, q1, .lst (SqL.of ?_) (Le.dps le ds xs q4)⟩
      rw [hid_in fun z => (sub a z).2 rfl]
      exact q2
    · obtain ⟨u, g1, g2⟩ := R.pers j e h2
      exact ⟨u, g1, Le.dp le _ u g2⟩
  · rcases get_set_cases h with ⟨_, h1, _⟩ | ⟨h1, h2⟩
    · cases h1
    · obtain ⟨b, ys, g1, g2, g3, g4⟩ := R.own j es h2
      exact ⟨b, ys, g1, g2, g3, Le.dps le _ ys g4⟩
  · rcases get_set_cases h1 with ⟨_, z, _⟩ | ⟨n1, g1⟩
    · cases z
    · rcases get_set_cases h2 with ⟨_, z, _⟩ | ⟨n2, g2⟩
      · cases z
      · exact R.uniq j k es fs b g1 g2 h3 h4
  · rcases get_set_cases h with ⟨_, z, _⟩ | ⟨n1, g1⟩
    · cases z
    · exact R.val j x g1
  · rcases get_set_cases h with ⟨_, z, _⟩ | ⟨n1, g1⟩
    · cases z
    · exact ⟨(R.trk j b φ g1).1, le b _ (R.trk j b φ g1).2 fun ps z => by cases z⟩

section
variable {X : Cx} {C : Cs} {W : WX} {pos : Pos} {e : Expr} {f : DF} {st : Stmt} {rest : List Stmt} {F G : SF}
theorem ds_never : DS X C W st fun _ => .stuck := ⟨_, ps_never, fun _ _ _ _ _ _ _ _ h => h⟩
theorem dss_never {sts : List Stmt} : DSs X C W sts fun _ => .stuck := ⟨_, pss_never, fun _ _ _ _ _ _ _ _ h => h⟩
def sNext : SF := fun δ => .pure (.nx δ)
theorem dss_nil : DSs X C W [] sNext := ⟨_, pss_nil, fun _ _ _ σ H _ _ R h => h σ H R⟩
def sSeq (F G : SF) : SF := fun δ => (F δ).bind fun o => match o with
  | .nx δ' => G δ'
  | o => .pure o
theorem dss_cons (h1 : DS X C W st F) (h2 : DSs X C W rest G) : DSs X C W (st :: rest) (sSeq F G) := by
  obtain ⟨t, p, q⟩ := h1
  obtain ⟨u, p2, q2⟩ := h2
  refine ⟨_, pss_cons p p2, fun S0 H0 Pb σ H δ E R h => q S0 H0 Pb σ H δ _ R ((F δ).mono (fun o h => ?_) (fun _ z => z) h)⟩
  cases o with
  | nx δ' => exact fun σ' H' R' => q2 S0 H0 Pb σ' H' δ' E R' h
  | rt d => exact h
  | bk δ' => exact h
  | ct δ' => exact h
theorem dss_one (h1 : DS X C W st F) : DSs X C W [st] F := by
  obtain ⟨t, p, q⟩ := h1
  exact ⟨_, pss_one p, q⟩
def fz (i : Nat) (δ : De) : De := match δ[i]? with
  | some (.o ds) => δ.set i (.p (.list ds))
  | _ => δ
theorem dss_fz (i : Nat) {sts : List Stmt} (h : DSs X C W sts F) : DSs X C W sts (fun δ => F (fz i δ)) := by
  obtain ⟨t, p, q⟩ := h
  refine ⟨t, p, fun S0 H0 Pb σ H δ E R h => q S0 H0 Pb σ H (fz i δ) E ?_ h⟩
  unfold fz
  split
  · rename_i ds e
    exact R.fz e
  · exact R
def sRet (f : DF) : SF := fun δ => (f δ).bind fun d => .pure (.rt d)
theorem ds_ret (he : DE X C W e f) : DS X C W (.Return (some e) pos) (sRet f) := by
  obtain ⟨t, p, q⟩ := he
  refine ⟨_, ps_ret p, fun S0 H0 Pb σ H δ E R h => q S0 H0 Pb σ H δ _ R ((f δ).mono (fun d h v G g dp => ?_) (fun _ z => z.ew R) h)⟩
  exact h v G (R.grow.trans g) (Le.dp (hid_le (Le.refl G) fun _ z => .inl z) d v dp)
def sDrop (f : DF) : SF := fun δ => (f δ).bind fun _ => .pure (.nx δ)
theorem ds_expr (he : DE X C W e f) (hs : swapsWith e none pos.line X.env = pure false := by rfl) : DS X C W (.Expr e pos) (sDrop f) := by
  obtain ⟨t, p, q⟩ := he
  refine ⟨_, ps_expr p hs, fun S0 H0 Pb σ H δ E R h => q S0 H0 Pb σ H δ _ R ((f δ).mono (fun d h v G g dp => h σ G (R.gr g)) (fun _ z => z.ew R) h)⟩
def sSet (i : Nat) (f : DF) : SF := fun δ => (f δ).bind fun d => .pure (.nx (δ.set i (.p d)))
theorem ds_set {i : Nat} {x : Str} {pos' : Pos} (hN : X.N.Nodup) (hi : X.N[i]? = some x) (hx : Loc X.env.scope x) (he : DE X C W e f) (hs : swapsWith e (some (.Name x pos')) pos.line X.env = pure false := by rfl) (hf : X.fn x = true ∨ X.env.scope.names.lookup x = some .local := by first | exact .inl rfl | exact .inr rfl | assumption) :
    DS X C W (.Assign [.Name x pos'] e pos) (sSet i f) := by
  obtain ⟨t, p, q⟩ := he
  refine ⟨_, ps_set hN hi hx p hs hf, fun S0 H0 Pb σ H δ E R h => q S0 H0 Pb σ H δ _ R ((f δ).mono (fun d h v G g dp => ?_) (fun _ z => z.ew R) h)⟩
  exact h _ G ((R.gr g).setP dp)
def sIf (c : TF) (F G : SF) : SF := fun δ => (c δ).bind fun b => if b then F δ else G δ
theorem ds_if {c : Expr} {a b : List Stmt} {t : TF} (hc : DT X C W c t) (ha : DSs X C W a F) (hb : DSs X C W b G) : DS X C W (.If c a b pos) (sIf t F G) := by
  obtain ⟨tc, pc, qc⟩ := hc
  obtain ⟨ta, pa, qa⟩ := ha
  obtain ⟨tb, pb, qb⟩ := hb
  refine ⟨_, ps_if pc pa pb, fun S0 H0 Pb σ H δ E R h => qc S0 H0 Pb σ H δ _ R ((t δ).mono (fun k h G' g => ?_) (fun _ z => z.ew R) h)⟩
  cases k with
  | true => exact qa S0 H0 Pb σ G' δ E (R.gr g) h
  | false => exact qb S0 H0 Pb σ G' δ E (R.gr g) h
theorem wipe_get {σ : St} {j : Nat} : ∀ {vs : List Nat}, (wipe σ vs)[j]? = if j ∈ vs then (σ[j]?).map (fun _ => none) else σ[j]?
  | [] => by simp [wipe]
  | v :: vs => by
    unfold wipe
    by_cases e : v = j
    · subst e
      rw [if_pos (List.mem_cons_self ..)]
      by_cases hl : v < σ.length
      · rw [List.getElem?_set_self (by rw [wipe_length]; exact hl), List.getElem?_eq_getElem hl]
        rfl
      · rw [List.getElem?_eq_none (by rw [List.length_set, wipe_length]; omega), List.getElem?_eq_none (by omega)]
        rfl
    · rw [List.getElem?_set_ne e, wipe_get (vs := vs)]
      have : (j ∈ v :: vs) ↔ j ∈ vs := by
        rw [List.mem_cons]
        exact ⟨fun z => z.resolve_left fun q => e q.symm, .inr⟩
      simp only [this]
theorem wipe_set {σ : St} {i : Nat} {x : Option V} {vs : List Nat} (h : i ∈ vs) : wipe (σ.set i x) vs = wipe σ vs := by
  apply List.ext_getElem?
  intro j
  rw [wipe_get, wipe_get]
  by_cases e : i = j
  · subst e
    rw [if_pos h, if_pos h]
    by_cases hl : i < σ.length
    · rw [List.getElem?_set_self hl, List.getElem?_eq_getElem hl]
      rfl
    · rw [List.getElem?_eq_none (by rw [List.length_set]; omega), List.getElem?_eq_none (by omega)]
  · rw [List.getElem?_set_ne e]
abbrev BF := D → De → Option De
def DG (X : Cx) (C : Cs) (tg : Expr) (ix : List Nat) (f : BF) : Prop :=
  ∃ g, PG X tg g ∧ ∀ S0 H0 Pb σ H δ x d δ' Q, Rep (C.bx S0 H0) Pb σ H δ → Dp C.K (hid (Own (C.bx S0 H0) σ δ) H) x d → f d δ = some δ' →
    (∀ σ', Rep (C.bx S0 H0) Pb σ' H δ' → (∀ b, Own (C.bx S0 H0) σ' δ' b → Own (C.bx S0 H0) σ δ b) → (∀ vs, (∀ i ∈ ix, i ∈ vs) → wipe σ' vs = wipe σ vs) → Q σ' H) → g x σ H Q
def DGs (X : Cx) (C : Cs) (tgs : List Expr) (ix : List Nat) (f : List D → De → Option De) : Prop :=
  ∃ g, PGs X tgs g ∧ ∀ S0 H0 Pb σ H δ xs ds δ' Q, Rep (C.bx S0 H0) Pb σ H δ → DpAll C.K (hid (Own (C.bx S0 H0) σ δ) H) xs ds → f ds δ = some δ' →
    (∀ σ', Rep (C.bx S0 H0) Pb σ' H δ' → (∀ b, Own (C.bx S0 H0) σ' δ' b → Own (C.bx S0 H0) σ δ b) → (∀ vs, (∀ i ∈ ix, i ∈ vs) → wipe σ' vs = wipe σ vs) → Q σ' H) → g xs σ H Q
def bName (i : Nat) : BF := fun d δ => some (δ.set i (.p d))
theorem dg_name {i : Nat} {x : Str} (hN : X.N.Nodup) (hi : X.N[i]? = some x) (hx : Loc X.env.scope x) (hf : X.fn x = true ∨ X.env.scope.names.lookup x = some .local := by first | exact .inl rfl | exact .inr rfl | assumption) : DG X C (.Name x pos) [i] (bName i) := by
  refine ⟨_, pg_name hN hi hx hf, fun S0 H0 Pb σ H δ x d δ' Q R dp h k => ?_⟩
  cases h
  exact k _ (R.setP dp) (fun b z => own_set R.len z) fun vs h => wipe_set (h i (List.mem_singleton.mpr rfl))
def bNil : List D → De → Option De
  | [], δ => some δ
  | _, _ => none
def bCons (f : BF) (r : List D → De → Option De) : List D → De → Option De
  | d :: ds, δ => (f d δ).bind (r ds)
  | [], _ => none
def bTup (n : Nat) (r : List D → De → Option De) : BF
  | .tuple ds, δ => if ds.length = n then r ds δ else none
  | _, _ => none
theorem dgs_nil : DGs X C [] [] bNil := by
  refine ⟨_, pgs_nil, fun S0 H0 Pb σ H δ xs ds δ' Q R dp h k => ?_⟩
  cases dp with
  | nil =>
    cases h
    exact ⟨rfl, k σ R (fun _ z => z) fun _ _ => rfl⟩
  | cons a b => cases h
theorem dgs_cons {es : List Expr} {ix iy : List Nat} {f : BF} {r : List D → De → Option De} (h1 : DG X C e ix f) (h2 : DGs X C es iy r) (hs : (assignEach (e :: es) X.env).map (·.2) = assign e X.env :: (assignEach es X.env).map (·.2) := by rfl) : DGs X C (e :: es) (ix ++ iy) (bCons f r) := by
  obtain ⟨g, p, q⟩ := h1
  obtain ⟨g2, p2, q2⟩ := h2
  refine ⟨_, pgs_cons p p2 hs, fun S0 H0 Pb σ H δ xs ds δ' Q R dp h k => ?_⟩
  cases dp with
  | nil => cases h
  | cons a b =>
    rename_i v vs d ds
    obtain ⟨δ1, h3, h4⟩ := Option.bind_eq_some_iff.mp h
    refine ⟨v, vs, rfl, q S0 H0 Pb σ H δ v d δ1 _ R a h3 fun σ1 R1 o1 w1 => ?_⟩
    exact q2 S0 H0 Pb σ1 H δ1 vs ds δ' Q R1 (Le.dps (hid_le (Le.refl H) o1) ds vs b) h4 fun σ2 R2 o2 w2 => k σ2 R2 (fun b z => o1 b (o2 b z)) fun vs h => (w2 vs fun i hi => h i (List.mem_append_right _ hi)).trans (w1 vs fun i hi => h i (List.mem_append_left _ hi))
theorem dg_tup {es : List Expr} {ix : List Nat} {kk n : Nat} {r : List D → De → Option De} (hK : C.K = X.K) (hc : X.calm = true) (h : DGs X C es ix r) (hn : (assignEach es X.env).length = n := by rfl) (hst : (assignEach es X.env).findIdx? (·.1) = none := by rfl) : DG X C (.Tuple es kk pos) ix (bTup n r) := by
  obtain ⟨g, p, q⟩ := h
  refine ⟨_, pg_tup hc p hn hst, fun S0 H0 Pb σ H δ x d δ' Q R dp h k => ?_⟩
  unfold bTup at h
  split at h
  · cases dp with
    | tup s a =>
      split at h
      · rename_i hl
        exact ⟨_, _, rfl, by rw [← hK]; exact Le.sqT hid_sub s, by rw [dps_len a]; exact hl, q S0 H0 Pb σ H δ _ _ δ' Q R a h k⟩
      · cases h
  · cases h
def sAsg (f : DF) (g : BF) : SF := fun δ => (f δ).bind fun d => (optW (g d δ)).bind fun δ' => .pure (.nx δ')
theorem ds_asg {tg : Expr} {ix : List Nat} {g : BF} (he : DE X C W e f) (hg : DG X C tg ix g) (hs : swapsWithSole [tg] e pos.line X.env = pure false := by rfl) (hw : swappedStores [tg] e X.env = pure none := by rfl)
    (h1 : (assignEach [tg] X.env).map (·.2) = [assign tg X.env] := by rfl) : DS X C W (.Assign [tg] e pos) (sAsg f g) := by
  obtain ⟨t, p, q⟩ := he
  obtain ⟨u, p2, q2⟩ := hg
  refine ⟨_, ps_asg p p2 hs hw h1, fun S0 H0 Pb σ H δ E R h => q S0 H0 Pb σ H δ _ R ((f δ).mono (fun d h v G g' dp => ?_) (fun _ z => z.ew R) h)⟩
  obtain ⟨δ', h2, h3⟩ := optW_inv h
  exact q2 S0 H0 Pb σ G δ v d δ' _ (R.gr g') dp h2 fun σ' R' _ _ => h3 σ' G R'
def sPar (i j : Nat) (r : AF) : SF := fun δ => (r δ).bind fun as => match as with
  | [.d x, .d y] => .pure (.nx ((δ.set i (.p x)).set j (.p y)))
  | _ => .stuck
theorem ds_par {i j : Nat} {x y : Str} {a b : Expr} {r : AF} {px py pt : Pos} {kt k2 pt2} (hc : X.calm = true) (hN : X.N.Nodup) (hi : X.N[i]? = some x) (hj : X.N[j]? = some y) (hij : i ≠ j)
    (hx : X.env.scope.names.lookup x = some .local) (hy : X.env.scope.names.lookup y = some .local) (ha : DA X C W [a, b] r) (hw : swappedStores [.Tuple [.Name x px, .Name y py] kt pt] (.Tuple [a, b] k2 pt2) X.env = pure (some [x, y]))
    (hs : swapsWithSole [.Tuple [.Name x px, .Name y py] kt pt] (.Tuple [a, b] k2 pt2) pos.line X.env = pure false := by rfl) : DS X C W (.Assign [.Tuple [.Name x px, .Name y py] kt pt] (.Tuple [a, b] k2 pt2) pos) (sPar i j r) := by
  obtain ⟨t, p, q⟩ := ha
  refine ⟨_, ps_par hc hN hi hj hij hx hy p hw hs, fun S0 H0 Pb σ H δ E R h => q S0 H0 Pb σ H δ _ R ((r δ).mono (fun as h vs G g ok => ?_) (fun _ z => z.ew R) h)⟩
  dsimp only at h
  split at h
  · match vs, ok with
    | [v, u], ⟨d1, d2, _⟩ =>
      refine ⟨v, u, rfl, h _ G ?_⟩
      have R1 := (R.gr g).setP (i := i) d1
      exact R1.setP (Le.dp (hid_le (Le.refl G) fun b z => own_set (R.gr g).len z) _ _ d2)
    | [], ok => exact ok.elim
    | [_], ok => exact ok.2.elim
    | _ :: _ :: _ :: _, ok => exact ok.2.2.elim
  · exact h.elim
def sWhile (c : TF) (b : SF) : SF := fun δ => ⟨fun k w => ∃ I : Nat → De → Prop, (∃ m, I m δ) ∧ ∀ m δ, I m δ → (c δ).run (fun t => if t = true then (b δ).run (fun o => match o with
    | .nx δ' => ∃ m', m' < m ∧ I m' δ'
    | .ct δ' => ∃ m', m' < m ∧ I m' δ'
    | .bk δ' => k (.nx δ')
    | .rt d => k (.rt d)) w else k (.nx δ)) w, fun {k k' w w'} hk hw ⟨I, h0, h⟩ => ⟨I, h0, fun m δ hi => (c δ).mono (fun t ht => by
      cases t with
      | false => exact hk _ ht
      | true => exact (b δ).mono (fun o ho => by cases o <;> first | exact ho | exact hk _ ho) hw ht) hw (h m δ hi)⟩⟩
theorem ds_while {c : Expr} {body : List Stmt} {t : TF} (hp : PassesOwn (model X.prog X.w) X.A X.env X.xe) (hc : DT X C W c t) (hb : DSs X C W body F) : DS X C W (.While c body [] pos) (sWhile t F) := by
  obtain ⟨tc, pc, qc⟩ := hc
  obtain ⟨tb, pb, qb⟩ := hb
  refine ⟨_, ps_while hp pc pb, fun S0 H0 Pb σ H δ E R h => ?_⟩
  obtain ⟨I, ⟨m0, i0⟩, h⟩ := h
  refine ⟨fun m σ H => ∃ δ, Rep (C.bx S0 H0) Pb σ H δ ∧ I m δ, ⟨m0, δ, R, i0⟩, fun m σ H ⟨δ, R, i⟩ => ?_⟩
  refine qc S0 H0 Pb σ H δ _ R ((t δ).mono (fun k hk G g => ?_) (fun _ z => z.ew R) (h m δ i))
  cases k with
  | false => exact hk σ G (R.gr g)
  | true =>
    refine ⟨fun σ' H' => ∃ m', m' < m ∧ ∃ δ', Rep (C.bx S0 H0) Pb σ' H' δ' ∧ I m' δ', fun σ' H' q => q, ?_⟩
    refine qb S0 H0 Pb σ G δ _ (R.gr g) ((F δ).mono (fun o ho => ?_) (fun _ z => z) hk)
    cases o with
    | nx δ' => exact fun σ' H' R' => let ⟨m', h1, h2⟩ := ho; ⟨m', h1, δ', R', h2⟩
    | ct δ' => exact fun σ' H' R' => let ⟨m', h1, h2⟩ := ho; ⟨m', h1, δ', R', h2⟩
    | bk δ' => exact ho
    | rt d => exact ho
end
end Tr

namespace Tr
open PySem PySem.Spec L2
variable [ProtC]

theorem Rep.base {B : Bx} {Pb Ph : Hp} {σ : St} {H : Hp} {δ : De} (R : Rep B Ph σ H δ) (l : Le Pb Ph) : Rep B Pb σ H δ :=
  ⟨l.trans R.ph, R.len, R.grow, R.dom, R.tabs, R.pers, R.own, R.uniq, R.val, R.trk, R.scr⟩
theorem Rep.top {B : Bx} {Pb : Hp} {σ : St} {H : Hp} {δ : De} (R : Rep B Pb σ H δ) : Rep B (hid (Own B σ δ) H) σ H δ :=
  ⟨Le.refl _, R.len, R.grow, R.dom, R.tabs, R.pers, R.own, R.uniq, R.val, R.trk, R.scr⟩
theorem Rep.odom {B : Bx} {Pb : Hp} {σ : St} {H : Hp} {δ : De} (R : Rep B Pb σ H δ) : ∀ b, Own B σ δ b → H b ≠ none := fun b z => by
  rcases z with z | ⟨i, ds, e1, e2⟩
  · exact R.grow.dm b (R.dom b z)
  · obtain ⟨a, xs, q1, q2, _⟩ := R.own i ds e1
    rw [e2] at q1
    cases q1
    rw [q2]
    exact fun z => nomatch z

def Items (K : PySem.W.Frag) (Ph Bh : Hp) (ds : List D) (J : It) : Prop := ∃ Gp Y, Walk J ds.length Gp Y ∧ (∀ H1, Le Ph H1 → Le Bh H1 → Gp H1) ∧
  ∀ i H1 x H2 (S : Addr → Prop), i < ds.length → Le Ph (hid S H1) → Le Bh H1 → (∀ b, S b → H1 b ≠ none) → Y i H1 x H2 → Grow H1 H2 ∧ ∃ d, ds[i]? = some d ∧ Dp K (hid S H2) x d
def DI (X : Cx) (C : Cs) (W : WX) (tg iter : Expr) (f : De → Wp (List D)) : Prop :=
  ∃ wi, PI X tg iter wi ∧ ∀ S0 H0 Pb σ H δ Q, Rep (C.bx S0 H0) Pb σ H δ → (f δ).run (fun ds => ∀ J G, Grow H G → Items C.K (hid (Own (C.bx S0 H0) σ δ) G) (obh C H0) ds J → Q J G) (Ew (C.bx S0 H0) W σ H) → wi σ H Q
theorem items_at {K : PySem.W.Frag} {Ph Bh : Hp} {xs : List V} {ds : List D} {J : It} {Gp : Hp → Prop} (w : Walk J xs.length Gp (YAt xs)) (hG : ∀ H1, Le Ph H1 → Le Bh H1 → Gp H1) (dp : DpAll K Ph xs ds) : Items K Ph Bh ds J := by
  refine ⟨Gp, YAt xs, by rw [← dps_len dp]; exact w, hG, fun i H1 x H2 S hi l _ _ y => ?_⟩
  obtain ⟨rfl, e⟩ := y
  obtain ⟨d, hd⟩ : ∃ d, ds[i]? = some d := ⟨ds[i], List.getElem?_eq_getElem hi⟩
  obtain ⟨v, h1, h2⟩ := dps_get dp hd
  rw [e] at h1
  cases h1
  exact ⟨Grow.refl _, d, hd, Le.dp l d x h2⟩
def seqD : D → Wp (List D)
  | .list ds => .pure ds
  | .tuple ds => .pure ds
  | _ => .stuck
section
variable {X : Cx} {C : Cs} {W : WX} {pos p : Pos} {e tg : Expr} {f : DF}
def wSeq (K : PySem.W.Frag) (tl : TE) : TI := fun σ H R => tl σ H fun x H1 => ∃ a, x = .ref a ∧ ((∃ xs, SqL K H1 a xs ∧ R (Itl K a) H1) ∨ ∃ xs, SqT K H1 a xs ∧ R (Itt K a) H1)
theorem pi_seq {tl : TE} (hl : PE X e tl) : PI X tg e (wSeq X.K tl) := by
  constructor
  intro pins s σ H R I h
  refine thn (hl.run pins s σ H _ I h) ?_
  rintro v s1 ⟨x, H1, I1, r1, a, rfl, q⟩
  cases r1
  have one : ∀ b, b ∈ [s1.heap.objs.size] → FpOk X pins H1 b := fun b hb => by
    cases List.mem_singleton.mp hb
    exact I1.fpOk (Nat.le_refl _) (I1.hok.fresh (Nat.le_refl _))
  rcases q with ⟨xs, hq, q⟩ | ⟨xs, hq, q⟩
  · obtain ⟨its, rv, pl, hz⟩ := I1.list hq
    apply wpAny_pyIter_list pl.isList
    exact ⟨s1.heap.objs.size, [s1.heap.objs.size], _, _, H1, rfl, I1.kept (t' := s1.toks) (fun _ _ z => Heap.get?_push_of_some _ z), turn_list a _, ⟨_, Heap.get?_push_size _ rfl, rfl, rfl⟩, one, q⟩
  · obtain ⟨its, rv, pl, hz⟩ := I1.tuple hq
    apply wpAny_pyIter_tuple (show s1.heap.IsTuple a its.toArray from pl)
    exact ⟨s1.heap.objs.size, [s1.heap.objs.size], _, _, H1, rfl, I1.kept (t' := s1.toks) (fun _ _ z => Heap.get?_push_of_some _ z), turn_tuple a _, ⟨_, Heap.get?_push_size _ rfl, rfl, rfl⟩, one, q⟩
def iSeqD (f : DF) : De → Wp (List D) := fun δ => (f δ).bind seqD
theorem di_seq (hK : C.K = X.K) (he : DE X C W e f) : DI X C W tg e (iSeqD f) := by
  obtain ⟨t, pt, q⟩ := he
  refine ⟨_, pi_seq pt, fun S0 H0 Pb σ H δ Q R h => q S0 H0 Pb σ H δ _ R ((f δ).mono (fun d h v G g dp => ?_) (fun _ z => z) h)⟩
  rw [← hK]
  cases dp with
  | lst s a => exact ⟨_, rfl, .inl ⟨_, Le.sqL hid_sub s, h _ G g (items_at walk_list (fun H1 l _ => l.sqL s) a)⟩⟩
  | tup s a => exact ⟨_, rfl, .inr ⟨_, Le.sqT hid_sub s, h _ G g (items_at walk_tup (fun H1 l _ => l.sqT s) a)⟩⟩
  | _ => exact h.elim
def rgD (lo : Int) (n : Nat) : List D := (List.range n).map fun (i : Nat) => .int (lo + (i : Int))
theorem items_range {K : PySem.W.Frag} {Ph Bh : Hp} {lo : Int} {n : Nat} : Items K Ph Bh (rgD lo n) (Itr lo n) := by
  have hl : (rgD lo n).length = n := by simp [rgD]
  refine ⟨_, _, by rw [hl]; exact walk_range, fun _ _ _ => trivial, fun i H1 x H2 S hi _ _ _ y => ?_⟩
  obtain ⟨rfl, rfl⟩ := y
  rw [hl] at hi
  exact ⟨Grow.refl _, .int (lo + i), by simp [rgD, hi], .int _⟩
def asI1 : D → Wp Int
  | .int i => .pure i
  | _ => .stuck
def lo62 (j : Int) : Prop := -(2 ^ 62) ≤ j ∧ j < 2 ^ 62
def iRgD1 (f : DF) : De → Wp (List D) := fun δ => (f δ).bind fun d => (asI1 d).bind fun j => .need (lo62 j) (.pure (rgD 0 j.toNat))
def iRgD2 (f g : DF) : De → Wp (List D) := fun δ => (f δ).bind fun d => (g δ).bind fun e => (asI1 d).bind fun i => (asI1 e).bind fun j => .need (lo62 i ∧ lo62 j) (.pure (rgD i (j - i).toNat))
theorem asI1_dp {K : PySem.W.Frag} {H : Hp} {v : V} {d : D} {k : Int → Prop} {w : Exn → Prop} (dp : Dp K H v d) (h : (asI1 d).run k w) : ∃ i, v = .int i ∧ k i := by
  unfold asI1 at h
  split at h
  · cases dp
    exact ⟨_, rfl, h⟩
  · exact h.elim
theorem di_range1 (hg : Gl X "range") (hm : X.mg "range" = none) (he : DE X C W e f) (hs : starEach [e] X.env = [(false, eval e X.env)] := by rfl) : DI X C W tg (.Call (.Name "range" p) [e] [] pos) (iRgD1 f) := by
  obtain ⟨t, pt, q⟩ := he
  refine ⟨_, pi_range1 hg hm (pa_cons pt pa_nil hs) hs, fun S0 H0 Pb σ H δ Q R h => q S0 H0 Pb σ H δ _ R ((f δ).mono (fun d h v G g dp => ?_) (fun _ z => z) h)⟩
  obtain ⟨j, rfl, hj, hk⟩ := asI1_dp dp h
  exact ⟨j, rfl, hj.1, hj.2, hk _ G g items_range⟩
def sLoop (g : BF) (F : SF) : List D → De → Wp Out
  | [], δ => .pure (.nx δ)
  | d :: ds, δ => (optW (g d δ)).bind fun δ1 => (F δ1).bind fun o => match o with
    | .nx δ' => sLoop g F ds δ'
    | .ct δ' => sLoop g F ds δ'
    | .bk δ' => .pure (.nx δ')
    | .rt d => .pure (.rt d)
def sFor (f : De → Wp (List D)) (g : BF) (F : SF) : SF := fun δ => (f δ).bind fun ds => sLoop g F ds δ
theorem OutW.base {B : Bx} {Pb Ph : Hp} {E : Ends} {o : Out} (l : Le Pb Ph) (h : OutW B Pb E o) : OutW B Ph E o := by
  cases o with
  | nx δ => exact fun σ H R => h σ H (R.base l)
  | rt d => exact h
  | bk δ => exact fun σ H R => h σ H (R.base l)
  | ct δ => exact fun σ H R => h σ H (R.base l)
theorem ds_for {fi : De → Wp (List D)} {g : BF} {ix : List Nat} {F : SF} {body : List Stmt} (hp : PassesOwn (model X.prog X.w) X.A X.env X.xe) (hc : X.calm = true) (hi : DI X C W tg e fi) (hg : DG X C tg ix g) (hb : DSs X C W body F) (hs : ∀ x, foldedSetIterable e X.env x = pure x := by intro _; rfl) : DS X C W (.For tg e body [] pos) (sFor fi g F) := by
  obtain ⟨wi, pw, qw⟩ := hi
  obtain ⟨tg', pg, qg⟩ := hg
  obtain ⟨tb, pb, qb⟩ := hb
  refine ⟨_, ps_for hp hc pw pg pb hs, fun S0 H0 Pb σ H δ E R h => qw S0 H0 Pb σ H δ _ R ((fi δ).mono (fun ds h J G gr it => ?_) (fun _ z => z.ew R) h)⟩
  obtain ⟨Gp, Y, w, hG, hY⟩ := it
  have R1 := (R.gr gr).top
  have lb : Le Pb (hid (Own (C.bx S0 H0) σ δ) G) := (R.gr gr).ph
  revert R1 hY hG lb
  generalize hid (Own (C.bx S0 H0) σ δ) G = Ph
  intro hG hY R1 lb
  refine for_it w (fun i σ H => ∃ δ, Rep (C.bx S0 H0) Ph σ H δ ∧ (sLoop g F (ds.drop i) δ).run (OutW (C.bx S0 H0) Pb E) (Xw (C.bx S0 H0) W)) ⟨δ, R1, h⟩ (fun i σ H _ ⟨δ, R, _⟩ => hG H (R.ph.trans hid_sub) (obh_le.trans R.grow.le)) (fun i x σ H H2 hi ⟨δ, R, hl⟩ y => ?_) (fun σ H ⟨δ, R, hl⟩ => ?_)
  · obtain ⟨gw, d, hd, dp⟩ := hY i H x H2 _ hi R.ph (obh_le.trans R.grow.le) R.odom y
    have ed : ds.drop i = d :: ds.drop (i + 1) := by
      rw [List.drop_eq_getElem_cons hi]
      rw [List.getElem?_eq_getElem hi] at hd
      rw [Option.some.inj hd]
    rw [ed] at hl
    obtain ⟨δ1, h1, h2⟩ := optW_inv hl
    refine qg S0 H0 Ph σ H2 δ x d δ1 _ (R.gr gw) dp h1 fun σ1 R1 _ _ => ?_
    refine qb S0 H0 Ph σ1 H2 δ1 _ R1 ((F δ1).mono (fun o ho => ?_) (fun _ z => z) h2)
    cases o with
    | nx δ' => exact fun σ' H' R' => ⟨δ', R', ho⟩
    | ct δ' => exact fun σ' H' R' => ⟨δ', R', ho⟩
    | bk δ' => exact OutW.base (o := .nx δ') lb ho
    | rt d => exact ho
  · rw [List.drop_length] at hl
    exact hl σ H (R.base lb)
def DN (X : Cx) (C : Cs) (W : WX) (e : Expr) (f : De → Wp (List D)) : Prop :=
  ∃ t, PE X e t ∧ ∀ S0 H0 Pb σ H δ Q, Rep (C.bx S0 H0) Pb σ H δ → (f δ).run (fun ds => ∀ a xs G, Grow H G → H a = none → G a = some (.lst xs) → DpAll C.K (hid (fun b => Own (C.bx S0 H0) σ δ b ∨ b = a) G) xs ds → Q (.ref a) G) (Ew (C.bx S0 H0) W σ H) → t σ H Q
def dNl (f : De → Wp (List D)) : DF := fun δ => (f δ).bind fun ds => .pure (.list ds)
theorem de_dn {fl : De → Wp (List D)} (h : DN X C W e fl) : DE X C W e (dNl fl) := by
  obtain ⟨t, p, q⟩ := h
  refine ⟨t, p, fun S0 H0 Pb σ H δ Q R h => q S0 H0 Pb σ H δ Q R ((fl δ).mono (fun ds h a xs G g na ha dp => ?_) (fun _ z => z) h)⟩
  refine h (.ref a) G g (.lst (SqL.of ?_) (Le.dps (hid_le (Le.refl G) fun b z => .inl z) ds xs dp))
  rw [hid_in]
  · exact ha
  · exact fun z => R.odom a z na
def nLst (r : AF) : De → Wp (List D) := fun δ => (r δ).bind fun as => (allD as).bind fun ds => .need (ds.length ≤ sizeLine) (.pure ds)
theorem dn_lst {es : List Expr} {r : AF} (h : DA X C W es r) : DN X C W (.List es pos) (nLst r) := by
  obtain ⟨t, p, q⟩ := h
  refine ⟨_, pe_lst p, fun S0 H0 Pb σ H δ Q R h => q S0 H0 Pb σ H δ _ R ((r δ).mono (fun as h vs G g ok => ?_) (fun _ z => z) h)⟩
  obtain ⟨ds, h1, h2, h3⟩ := allD_ok ok h
  refine ⟨by rw [dps_len h1]; exact h2, fun a na => h3 a vs _ (g.trans (Grow.new na)) (g.free na) upd_same (Le.dps (fun b u e n => ?_) ds vs h1)⟩
  obtain ⟨h4, h5⟩ := of_hid e
  have nb : b ≠ a := ne_of_none h5 na
  rw [hid_in, upd_ne nb]
  · exact h5
  · exact fun z => z.elim h4 nb
def sSetO (i : Nat) (f : De → Wp (List D)) : SF := fun δ => (f δ).bind fun ds => .pure (.nx (δ.set i (.o ds)))
theorem ds_setO {i : Nat} {x : Str} {pos' : Pos} {fl : De → Wp (List D)} (hN : X.N.Nodup) (hi : X.N[i]? = some x) (hx : Loc X.env.scope x) (he : DN X C W e fl) (hs : swapsWith e (some (.Name x pos')) pos.line X.env = pure false := by rfl) (hf : X.fn x = true ∨ X.env.scope.names.lookup x = some .local := by first | exact .inl rfl | exact .inr rfl | assumption) :
    DS X C W (.Assign [.Name x pos'] e pos) (sSetO i fl) := by
  obtain ⟨t, p, q⟩ := he
  refine ⟨_, ps_set hN hi hx p hs hf, fun S0 H0 Pb σ H δ E R h => q S0 H0 Pb σ H δ _ R ((fl δ).mono (fun ds h a xs G g na ha dp => ?_) (fun _ z => z.ew R) h)⟩
  exact h _ G (R.setO g na ha dp)
def slotO : Option Sl → Wp (List D)
  | some (.o ds) => .pure ds
  | _ => .stuck
def sApp (i : Nat) (f : DF) : SF := fun δ => (slotO δ[i]?).bind fun ds => (f δ).bind fun d => .need (ds.length < sizeLine) (.pure (.nx (δ.set i (.o (ds ++ [d])))))
theorem slotO_inv {o : Option Sl} {k : List D → Prop} {w : Exn → Prop} (h : (slotO o).run k w) : ∃ ds, o = some (.o ds) ∧ k ds := by
  unfold slotO at h
  split at h
  · exact ⟨_, rfl, h⟩
  · exact h.elim
theorem ds_app {i : Nat} {x : Str} {p1 p2 p3 : Pos} (hN : X.N[i]? = some x) (hv : Vis X.env.scope x) (he : DE X C W e f) (hd : (x == ("__debug__" : Str)) = false := by decide) (hcd : (x == ("__classdict__" : Str)) = false := by decide)
    (hsr : starEach [e] X.env = (false, eval e X.env) :: starEach [] X.env := by rfl)
    (hp : ∀ t, PA X [e] t → PE X (.Call (.Attribute (.Name x p1) "append" p2) [e] [] p3) (tBM X.K "list" rAppend (tVar i) t)) (hs : swapsWith (.Call (.Attribute (.Name x p1) "append" p2) [e] [] p3) none pos.line X.env = pure false := by rfl) :
    DS X C W (.Expr (.Call (.Attribute (.Name x p1) "append" p2) [e] [] p3) pos) (sApp i f) := by
  obtain ⟨t, pt, q⟩ := he
  refine ⟨_, ps_expr (hp _ (pa_cons pt pa_nil hsr)) hs, fun S0 H0 Pb σ H δ E R h => ?_⟩
  obtain ⟨ds, hz, h⟩ := slotO_inv h
  obtain ⟨a, xs, q1, q2, q3, q4⟩ := R.own i ds hz
  refine ⟨_, q1, .inl ⟨rfl, xs, SqL.of q2⟩, q S0 H0 Pb σ H δ _ R ((f δ).mono (fun d h v G g dp => ?_) (fun _ z => z.ew R) h)⟩
  have hG : G a = some (.lst xs) := g.le a _ q2 fun ps z => by cases z
  refine ⟨a, xs, v, rfl, rfl, hG, by rw [dps_len q4]; exact h.1, ?_⟩
  exact h.2 σ _ ((R.gr g).wr hz q1 hG (dps_app (Le.dps (hid_le g.le fun _ z => z) ds xs q4) (.cons dp .nil)))
def dOix (i : Nat) (fi : DF) : DF := fun δ => (slotO δ[i]?).bind fun ds => (fi δ).bind fun k => (asI1 k).bind fun k => optW (atI ds k)
end
end Tr

namespace Tr
open PySem PySem.Spec L2
variable [ProtC]

def rE (C : Cs) (W : WX) (f : DF) : TE := fun σ H Q => ∃ S0 H0 Pb δ, Rep (C.bx S0 H0) Pb σ H δ ∧ (f δ).run (Dv (C.bx S0 H0) σ H δ Q) (Ew (C.bx S0 H0) W σ H)
def rT (C : Cs) (W : WX) (f : TF) : TT := fun σ H Q => ∃ S0 H0 Pb δ, Rep (C.bx S0 H0) Pb σ H δ ∧ (f δ).run (Bv H Q) (Ew (C.bx S0 H0) W σ H)
def rG (C : Cs) (ix : List Nat) (g : BF) : TG := fun x σ H Q => ∃ S0 H0 Pb δ d δ', Rep (C.bx S0 H0) Pb σ H δ ∧ Dp C.K (hid (Own (C.bx S0 H0) σ δ) H) x d ∧ g d δ = some δ' ∧
  ∀ σ', Rep (C.bx S0 H0) Pb σ' H δ' → (∀ b, Own (C.bx S0 H0) σ' δ' b → Own (C.bx S0 H0) σ δ b) → (∀ vs, (∀ i ∈ ix, i ∈ vs) → wipe σ' vs = wipe σ vs) → Q σ' H
section
variable {X : Cx} {C : Cs} {W : WX} {e : Expr}
theorem DE.to {f : DF} (h : DE X C W e f) : PE X e (rE C W f) := by
  obtain ⟨t, p, q⟩ := h
  exact ⟨fun pins s σ H Q I ⟨S0, H0, Pb, δ, R, z⟩ => p.run pins s σ H Q I (q S0 H0 Pb σ H δ Q R z)⟩
theorem DT.to {f : TF} (h : DT X C W e f) : PT X e (rT C W f) := by
  obtain ⟨t, p, q⟩ := h
  exact ⟨fun pins s σ H Q I ⟨S0, H0, Pb, δ, R, z⟩ => p.run pins s σ H Q I (q S0 H0 Pb σ H δ Q R z)⟩
theorem DG.to {ix : List Nat} {g : BF} (h : DG X C e ix g) : PG X e (rG C ix g) := by
  obtain ⟨t, p, q⟩ := h
  exact ⟨fun pins s σ H x u Q I r ⟨S0, H0, Pb, δ, d, δ', R, dp, hg, z⟩ => p.run pins s σ H x u Q I r (q S0 H0 Pb σ H δ x d δ' Q R dp hg z)⟩
end
abbrev W0 : WX := fun _ _ _ _ => False

def sIn : Sl → Sl
  | .o _ => .non
  | s => s
def dWipe : De → List Nat → De
  | δ, [] => δ.map sIn
  | δ, v :: vs => (dWipe δ vs).set v .non
theorem dWipe_len {δ : De} : ∀ {vs : List Nat}, (dWipe δ vs).length = δ.length
  | [] => by simp [dWipe]
  | v :: vs => by unfold dWipe; rw [List.length_set, dWipe_len]
theorem dWipe_get {δ : De} {j : Nat} {s : Sl} (hs : s ≠ .non) : ∀ {vs : List Nat}, (dWipe δ vs)[j]? = some s → j ∉ vs ∧ δ[j]? = some s ∧ ∀ ds, s ≠ .o ds
  | [], h => by
    unfold dWipe at h
    rw [List.getElem?_map] at h
    cases e : δ[j]? with
    | none => rw [e] at h; cases h
    | some q =>
      rw [e] at h
      have h := Option.some.inj h
      cases q <;> first
        | exact absurd h.symm hs
        | (refine ⟨fun z => (by cases z), congrArg some h, fun ds z => ?_⟩; rw [z] at h; cases h)
  | v :: vs, h => by
    unfold dWipe at h
    rcases get_set_cases h with ⟨_, h1, _⟩ | ⟨h1, h2⟩
    · exact absurd h1 hs
    · obtain ⟨q1, q2, q3⟩ := dWipe_get hs h2
      exact ⟨fun z => (List.mem_cons.mp z).elim (fun z => h1 z.symm) q1, q2, q3⟩
def lcLoop (g : BF) (t : TF) (f : DF) (δ : De) : List D → Wp (List D)
  | [] => .pure []
  | d :: ds => (optW (g d δ)).bind fun δ1 => (t δ1).bind fun b => if b then (f δ1).bind fun y => (lcLoop g t f δ ds).bind fun ys => .pure (y :: ys) else lcLoop g t f δ ds
def Wp.nox {A : Type} (m : Wp A) : Wp A := ⟨fun k _ => m.run k fun _ => False, fun h _ r => m.mono h (fun _ z => z) r⟩
@[simp] theorem run_nox {A : Type} {m : Wp A} {k : A → Prop} {e : Exn → Prop} : m.nox.run k e = m.run k fun _ => False := rfl
def nLc (fi : De → Wp (List D)) (g : BF) (t : TF) (f : DF) (vs : List Nat) : De → Wp (List D) := fun δ => (fi δ).bind fun ds => .need (ds.length ≤ sizeLine) (lcLoop g t f (dWipe δ vs) ds).nox
theorem Rep.blk {C : Cs} {S0 : Addr → Prop} {H0 Pb : Hp} {σ : St} {H G : Hp} {δ : De} {a : Addr} {xs : List V} (vs : List Nat) (R : Rep (C.bx S0 H0) Pb σ H δ) (g : Grow H G) (na : H a = none) (ha : G a = some (.lst xs)) :
    Rep (C.bx (fun b => Own (C.bx S0 H0) σ δ b ∨ b = a) G) (hid (fun b => Own (C.bx S0 H0) σ δ b ∨ b = a) G) (wipe σ vs) G (dWipe δ vs) := by
  have no : ∀ j ds, (dWipe δ vs)[j]? ≠ some (Sl.o ds) := fun j ds h => (dWipe_get (by intro z; cases z) h).2.2 ds rfl
  have own : ∀ b, Own (C.bx (fun b => Own (C.bx S0 H0) σ δ b ∨ b = a) G) (wipe σ vs) (dWipe δ vs) b ↔ (Own (C.bx S0 H0) σ δ b ∨ b = a) := fun b =>
    ⟨fun z => z.elim id fun ⟨j, ds, e1, _⟩ => absurd e1 (no j ds), .inl⟩
  have le : Le (hid (Own (C.bx S0 H0) σ δ) H) (hid (Own (C.bx (fun b => Own (C.bx S0 H0) σ δ b ∨ b = a) G) (wipe σ vs) (dWipe δ vs)) G) := fun b u e n => by
    obtain ⟨h1, h2⟩ := of_hid e
    rw [hid_in]
    · exact g.le b u h2 n
    · intro z
      rcases (own b).mp z with z | z
      · exact h1 z
      · rw [z, na] at h2
        cases h2
  refine ⟨hid_le (Le.refl G) fun b z => (own b).mp z, by rw [wipe_length, dWipe_len]; exact R.len, Grow.refl G, fun b z => ?_, (R.gr g).tabs, fun j d h => ?_, fun j ds h => absurd h (no j ds), fun j k ds es b h => absurd h (no j ds), fun j x h => ?_, fun j b φ h => ?_, R.scr.gr (R.grow.trans g) (R.leB.trans fun b u e n => by
    obtain ⟨h1, h2⟩ := of_hid e
    rw [hid_in]
    · exact g.le b u h2 n
    · rintro (z | z)
      · exact h1 z
      · rw [z, na] at h2
        cases h2) fun b z => .inl (.inl z)⟩
  · show G b ≠ none
    rcases z with z | z
    · exact g.dm b (R.odom b z)
    · rw [z, ha]
      exact fun z => nomatch z
  · obtain ⟨h1, h2, _⟩ := dWipe_get (by intro z; cases z) h
    obtain ⟨v, q1, q2⟩ := R.pers j d h2
    exact ⟨v, by rw [wipe_get, if_neg h1]; exact q1, Le.dp le _ v q2⟩
  · obtain ⟨h1, h2, _⟩ := dWipe_get (by intro z; cases z) h
    rw [wipe_get, if_neg h1]
    exact R.val j x h2
  · obtain ⟨h1, h2, _⟩ := dWipe_get (by intro z; cases z) h
    rw [wipe_get, if_neg h1]
    exact ⟨(R.trk j b φ h2).1, le b _ (R.trk j b φ h2).2 fun ps z => by cases z⟩
theorem lc_read {C : Cs} {W : WX} {wi : TI} {fi : De → Wp (List D)} {g : BF} {ix vs : List Nat} {t : TF} {f : DF}
    (qw : ∀ S0 H0 Pb σ H δ Q, Rep (C.bx S0 H0) Pb σ H δ → (fi δ).run (fun ds => ∀ J G, Grow H G → Items C.K (hid (Own (C.bx S0 H0) σ δ) G) (obh C H0) ds J → Q J G) (Ew (C.bx S0 H0) W σ H) → wi σ H Q) (hix : ∀ i ∈ ix, i ∈ vs)
    {S0 : Addr → Prop} {H0 Pb : Hp} {σ : St} {H : Hp} {δ : De} {Q : VK} (R : Rep (C.bx S0 H0) Pb σ H δ) (E : Exn → Prop) (hE : ∀ x, E x → Ew (C.bx S0 H0) W σ H x ∧ False)
    (h : (fi δ).run (fun ds => ds.length ≤ sizeLine ∧ (lcLoop g t f (dWipe δ vs) ds).run (fun ds => ∀ a xs G, Grow H G → H a = none → G a = some (.lst xs) → DpAll C.K (hid (fun b => Own (C.bx S0 H0) σ δ b ∨ b = a) G) xs ds → Q (.ref a) G) E) (Ew (C.bx S0 H0) W σ H)) :
    tLc wi (rG C ix g) (rT C W0 t) (rE C W0 f) vs σ H Q := by
  refine qw S0 H0 Pb σ H δ _ R ((fi δ).mono (fun ds h J G gr it => ?_) (fun _ z => z) h)
  obtain ⟨hlen, h⟩ := h
  intro a na
  have nH : H a = none := gr.free na
  obtain ⟨Gp, Y, w, hG, hY⟩ := it
  have g0 : Grow G (upd G a (.lst [])) := Grow.new na
  -- behind i items: the list at a holds acc, data ys; the rest gives the end
  refine lc_it w (fun i Hi => Grow H Hi ∧ Le (hid (Own (C.bx S0 H0) σ δ) G) (hid (fun b => Own (C.bx S0 H0) σ δ b ∨ b = a) Hi) ∧ ∃ acc ys, Hi a = some (.lst acc) ∧ acc.length ≤ i ∧ DpAll C.K (hid (fun b => Own (C.bx S0 H0) σ δ b ∨ b = a) Hi) acc ys ∧
    (lcLoop g t f (dWipe δ vs) (ds.drop i)).run (fun zs => ∀ a xs G, Grow H G → H a = none → G a = some (.lst xs) → DpAll C.K (hid (fun b => Own (C.bx S0 H0) σ δ b ∨ b = a) G) xs (ys ++ zs) → Q (.ref a) G) E) ?_ (fun i Hi _ q => hG Hi (q.2.1.trans hid_sub) (obh_le.trans (R.grow.trans q.1).le)) ?_ ?_
  · refine ⟨gr.trans g0, fun b u e n => ?_, [], [], upd_same, Nat.le_refl _, .nil, h⟩
    obtain ⟨h1, h2⟩ := of_hid e
    have nb : b ≠ a := ne_of_none h2 na
    rw [hid_in, upd_ne nb]
    · exact h2
    · exact fun z => z.elim h1 nb
  · rintro i x Hi Hi2 hi ⟨gi, li, acc, ys, ha, hl, dp, hr⟩ y
    have dom : ∀ b, (Own (C.bx S0 H0) σ δ b ∨ b = a) → Hi b ≠ none := fun b z => by
      rcases z with z | z
      · exact gi.dm b (R.odom b z)
      · rw [z, ha]
        exact fun z => nomatch z
    obtain ⟨gw, d, hd, dx⟩ := hY i Hi x Hi2 _ hi li (obh_le.trans (R.grow.trans gi).le) dom y
    have g2 : Grow H Hi2 := gi.trans gw
    have ha2 : Hi2 a = some (.lst acc) := gw.le a _ ha fun ps z => by cases z
    have ed : ds.drop i = d :: ds.drop (i + 1) := by
      rw [List.drop_eq_getElem_cons hi]
      rw [List.getElem?_eq_getElem hi] at hd
      rw [Option.some.inj hd]
    rw [ed] at hr
    obtain ⟨δ1, hg1, hr⟩ := optW_inv hr
    have RB := R.blk vs g2 nH ha2
    have sup : ∀ σ' δ' b, (Own (C.bx S0 H0) σ δ b ∨ b = a) → Own (C.bx (fun b => Own (C.bx S0 H0) σ δ b ∨ b = a) Hi2) σ' δ' b := fun _ _ _ z => .inl z
    have ownB : ∀ b, Own (C.bx (fun b => Own (C.bx S0 H0) σ δ b ∨ b = a) Hi2) (wipe σ vs) (dWipe δ vs) b → (Own (C.bx S0 H0) σ δ b ∨ b = a) := fun b z => by
      rcases z with z | ⟨j, es, e1, _⟩
      · exact z
      · exact absurd rfl ((dWipe_get (by intro z; cases z) e1).2.2 es)
    refine ⟨_, _, _, dWipe δ vs, d, δ1, RB, Le.dp (hid_le (Le.refl _) ownB) d x dx, hg1, fun σ2 R2 o2 w2 => ⟨?_, ?_⟩⟩
    · rw [w2 vs hix]
      apply List.ext_getElem?
      intro j
      rw [wipe_get, wipe_get]
      split
      · rename_i hj
        cases σ[j]? <;> rfl
      · rename_i hj
        rfl
    refine ⟨_, _, _, δ1, R2, (t δ1).mono (fun b hb H3 g3 => ?_) (fun x hx => (hE x hx).2.elim) hr⟩
    have g3' : Grow H H3 := g2.trans g3
    have ha3 : H3 a = some (.lst acc) := g3.le a _ ha2 fun ps z => by cases z
    have li3 : Le (hid (Own (C.bx S0 H0) σ δ) G) (hid (fun b => Own (C.bx S0 H0) σ δ b ∨ b = a) H3) := li.trans (hid_le (gw.trans g3).le fun _ z => z)
    have dp3 : DpAll C.K (hid (fun b => Own (C.bx S0 H0) σ δ b ∨ b = a) H3) acc ys := Le.dps (hid_le (gw.trans g3).le fun _ z => z) ys acc dp
    cases b with
    | false => exact ⟨g3', li3, acc, ys, ha3, Nat.le_succ_of_le hl, dp3, hb⟩
    | true =>
      refine ⟨_, _, _, δ1, R2.gr g3, (f δ1).mono (fun yd hy v H4 g4 dv => ?_) (fun x hx => (hE x hx).2.elim) hb⟩
      have ha4 : H4 a = some (.lst acc) := g4.le a _ ha3 fun ps z => by cases z
      have keep : ∀ b, b ≠ a → upd H4 a (.lst (acc ++ [v])) b = H4 b := fun b nb => upd_ne nb
      have leA : Le (hid (fun b => Own (C.bx S0 H0) σ δ b ∨ b = a) H4) (hid (fun b => Own (C.bx S0 H0) σ δ b ∨ b = a) (upd H4 a (.lst (acc ++ [v])))) := fun b u e n => by
        obtain ⟨h1, h2⟩ := of_hid e
        rw [hid_in h1, keep b fun z => h1 (.inr z)]
        exact h2
      refine ⟨acc, ha4, by omega, ⟨fun b u e n => ?_, fun P hP => ?_, fun b hb => ?_, fun P q hp t => TabS.put ha4 ((g3'.trans g4).pr P q hp t)⟩, li3.trans ((hid_le g4.le fun _ z => z).trans leA), acc ++ [v], ys ++ [yd], upd_same, by rw [List.length_append]; exact Nat.succ_le_succ hl, ?_, ?_⟩
      · rw [keep b (ne_of_none e nH)]
        exact (g3'.trans g4).le b u e n
      · obtain ⟨ps, e, tr⟩ := (g3'.trans g4).tb P hP
        exact ⟨ps, by rw [keep P (ne_of e ha4 fun z => by cases z)]; exact e, tr⟩
      · by_cases c : b = a
        · rw [c, upd_same]
          exact fun z => nomatch z
        · rw [keep b c]
          exact (g3'.trans g4).dm b hb
      · refine Le.dps leA _ _ (dps_app (Le.dps (hid_le g4.le fun _ z => z) ys acc dp3) (.cons ?_ .nil))
        exact Le.dp (hid_le (Le.refl H4) fun b z => sup σ2 δ1 b z) yd v dv
      · refine (lcLoop g t f (dWipe δ vs) (ds.drop (i + 1))).mono (fun zs hz => ?_) (fun _ z => z) hy
        rw [List.append_assoc]
        exact hz
  · rintro Hn ⟨gn, ln, acc, ys, ha, hl, dp, hr⟩
    rw [List.drop_length] at hr
    have hr' : ∀ a xs G, Grow H G → H a = none → G a = some (.lst xs) → DpAll C.K (hid (fun b => Own (C.bx S0 H0) σ δ b ∨ b = a) G) xs (ys ++ []) → Q (.ref a) G := hr
    rw [List.append_nil] at hr'
    exact hr' a acc Hn gn nH ha dp
section
variable {X : Cx} {C : Cs} {W : WX} {pos : Pos} {elt tg iter : Expr} {ifs : List Expr} {scope : Scope} {own : List (Str × Nat)} {fi : De → Wp (List D)} {g : BF} {ix : List Nat} {t : TF} {f : DF}
def DTs (X : Cx) (C : Cs) (W : WX) (ifs : List Expr) (t : TF) : Prop := PTs X ifs (rT C W t)
def tYesD : TF := fun _ => .pure true
theorem dts_nil : DTs X C W [] tYesD := ⟨fun pins s σ H Q I ⟨S0, H0, Pb, δ, R, z⟩ => pts_nil.run pins s σ H Q I (z H (Grow.refl H))⟩
theorem dts_one {c : Expr} (h : DT X C W c t) : DTs X C W [c] t := pts_one h.to
theorem dn_lc (hc : X.calm = true) (hN : X.N.Nodup) (hi : DI X C W tg iter fi) (ok : BlkOk X.N X.env.scope scope own) (hix : ∀ i ∈ ix, i ∈ own.map (·.2))
    (hg : ∀ (s : Shared) (H : Hp) (Ca : Addr) (cl : List (Str × Addr)) (fp : List Addr), DG (X.blk s H scope (compEnvC scope cl Ca X.env) fp) C tg ix g) (ht : ∀ (s : Shared) (H : Hp) (Ca : Addr) (cl : List (Str × Addr)) (fp : List Addr), DTs (X.blk s H scope (compEnvC scope cl Ca X.env) fp) C W0 ifs t)
    (he : ∀ (s : Shared) (H : Hp) (Ca : Addr) (cl : List (Str × Addr)) (fp : List Addr), DE (X.blk s H scope (compEnvC scope cl Ca X.env) fp) C W0 elt f) (hs : ∀ x, foldedSetIterable iter X.env x = pure x := by intro _; rfl) :
    DN X C W (.ListComp elt [⟨tg, iter, ifs, 0⟩] scope pos) (nLc fi g t f (own.map (·.2))) := by
  obtain ⟨wi, pw, qw⟩ := hi
  exact ⟨_, pe_lc hc hN pw ok (fun s H Ca cl fp => (hg s H Ca cl fp).to) ht (fun s H Ca cl fp => (he s H Ca cl fp).to) hs, fun S0 H0 Pb σ H δ Q R h => lc_read qw hix R (fun _ => False) (fun _ z => z.elim) h⟩
theorem setLc {i : Nat} {y : Str} {py spos : Pos} (hc : X.calm = true) (hN : X.N.Nodup) (hy : X.N[i]? = some y) (hyl : X.env.scope.names.lookup y = some .local) (hsw : swapsWith (.ListComp elt [⟨tg, iter, ifs, 0⟩] scope pos) (some (.Name y py)) spos.line X.env = pure true)
    (hi : DI X C W tg iter fi) (ok : BlkOk X.N X.env.scope scope own) (hix : ∀ i ∈ ix, i ∈ own.map (·.2))
    (hg : ∀ (s : Shared) (H : Hp) (Ca : Addr) (cl : List (Str × Addr)) (fp : List Addr), DG (X.blk s H scope (compEnvC scope cl Ca X.env) fp) C tg ix g) (ht : ∀ (s : Shared) (H : Hp) (Ca : Addr) (cl : List (Str × Addr)) (fp : List Addr), DTs (X.blk s H scope (compEnvC scope cl Ca X.env) fp) C W0 ifs t)
    (he : ∀ (s : Shared) (H : Hp) (Ca : Addr) (cl : List (Str × Addr)) (fp : List Addr), DE (X.blk s H scope (compEnvC scope cl Ca X.env) fp) C W0 elt f) (hs : ∀ x, foldedSetIterable iter X.env x = pure x := by intro _; rfl) :
    DS X C W (.Assign [.Name y py] (.ListComp elt [⟨tg, iter, ifs, 0⟩] scope pos) spos) (sSetO i (nLc fi g t f (own.map (·.2)))) := by
  obtain ⟨wi, pw, qw⟩ := hi
  refine ⟨_, ps_setLc hc hN hy hyl hsw pw ok (fun s H Ca cl fp => (hg s H Ca cl fp).to) ht (fun s H Ca cl fp => (he s H Ca cl fp).to) hs, fun S0 H0 Pb σ H δ E R h => ?_⟩
  refine lc_read qw hix R (fun _ => False) (fun _ z => z.elim) ((fi δ).mono (fun ds hd => ⟨hd.1, ?_⟩) (fun _ z => z.ew R) h)
  refine (lcLoop g t f (dWipe δ (own.map (·.2))) ds).mono (fun ys hy => ?_) (fun _ z => z) (show (lcLoop g t f (dWipe δ (own.map (·.2))) ds).run _ _ from hd.2)
  intro a xs G gr na ha dp
  exact hy _ G (R.setO gr na ha dp)
end

def arSl : Ar → Sl
  | .d x => .p x
  | .v x => .v x
  | .t a φ => .t a φ
def dStart (m : Nat) (as : List Ar) : De := as.map arSl ++ List.replicate (m - as.length) .non
def dRun (m : Nat) (bd : SF) (as : List Ar) : Wp D := (bd (dStart m as)).bind fun o => match o with
  | .rt d => .pure d
  | .nx _ => .pure .none
  | _ => .stuck
theorem ars_get {K : PySem.W.Frag} {H : Hp} : ∀ {vs : List V} {as : List Ar} {i : Nat} {a : Ar}, ArsOk K H vs as → as[i]? = some a → ∃ v, vs[i]? = some v ∧ ArOk K H v a
  | v :: vs, b :: as, 0, a, h, e => by
    cases Option.some.inj e
    exact ⟨v, rfl, h.1⟩
  | v :: vs, b :: as, i + 1, a, h, e => ars_get (i := i) h.2 e
  | [], [], _, _, _, e => by simp at e
  | [], _ :: _, _, _, h, _ => h.elim
  | _ :: _, [], _, _, h, _ => h.elim
theorem start_rep {C : Cs} {S : Addr → Prop} {H : Hp} {N : List Str} {vs : List V} {as : List Ar} (dom : ∀ b, S b → H b ≠ none) (tabs : ∀ P ∈ C.T, GxR.TabG H P) (scr : Scr C S H) (ok : ArsOk C.K (hid S H) vs as) : Rep (C.bx S H) (hid S H) (L2.start N vs) H (dStart N.length as) := by
  have hl := ok.len
  have arg : ∀ {i : Nat} {s : Sl}, s ≠ .non → (dStart N.length as)[i]? = some s → ∃ a, as[i]? = some a ∧ arSl a = s := fun {i s} hs e => by
    unfold dStart at e
    by_cases c : i < as.length
    · rw [List.getElem?_append_left (by rw [List.length_map]; exact c), List.getElem?_map, List.getElem?_eq_getElem c] at e
      exact ⟨as[i], List.getElem?_eq_getElem c, Option.some.inj e⟩
    · rw [List.getElem?_append_right (by rw [List.length_map]; omega), List.getElem?_replicate] at e
      split at e
      · exact absurd (Option.some.inj e).symm hs
      · cases e
  have val : ∀ {i : Nat} {v : V}, vs[i]? = some v → (L2.start N vs)[i]? = some (some v) := fun {i v} e => by
    have c : i < vs.length := (List.getElem?_eq_some_iff.mp e).1
    unfold L2.start
    rw [List.getElem?_append_left (by rw [List.length_map]; exact c), List.getElem?_map, e]
    rfl
  have no : ∀ j ds, (dStart N.length as)[j]? ≠ some (Sl.o ds) := fun j ds e => by
    obtain ⟨a, _, h⟩ := arg (by intro z; cases z) e
    cases a <;> cases h
  have own : ∀ b, Own (C.bx S H) (L2.start N vs) (dStart N.length as) b → S b := fun b z => z.elim id fun ⟨j, ds, e, _⟩ => absurd e (no j ds)
  have le : Le (hid S H) (hid (Own (C.bx S H) (L2.start N vs) (dStart N.length as)) H) := hid_le (Le.refl H) own
  refine ⟨le, ?_, Grow.refl H, dom, tabs, fun j d e => ?_, fun j ds e => absurd e (no j ds), fun j k ds es b e => absurd e (no j ds), fun j x e => ?_, fun j b φ e => ?_, scr⟩
  · unfold L2.start dStart
    rw [List.length_append, List.length_append, List.length_map, List.length_map, List.length_replicate, List.length_replicate, hl]
  · obtain ⟨a, h1, h2⟩ := arg (by intro z; cases z) e
    obtain ⟨v, h3, h4⟩ := ars_get ok h1
    cases a with
    | v x => cases h2
    | t a φ => cases h2
    | d x =>
      cases h2
      exact ⟨v, val h3, Le.dp le d v h4⟩
  · obtain ⟨a, h1, h2⟩ := arg (by intro z; cases z) e
    obtain ⟨v, h3, h4⟩ := ars_get ok h1
    cases a with
    | d x => cases h2
    | t a φ => cases h2
    | v y =>
      cases h2
      have h5 : v = x := h4
      rw [← h5]
      exact val h3
  · obtain ⟨a, h1, h2⟩ := arg (by intro z; cases z) e
    obtain ⟨v, h3, h4⟩ := ars_get ok h1
    cases a with
    | d x => cases h2
    | v y => cases h2
    | t c ψ =>
      cases h2
      obtain ⟨rfl, h6⟩ := h4
      exact ⟨val h3, le b _ h6 fun ps z => by cases z⟩
end Tr

namespace Tr
open PySem PySem.Spec L2
variable [ProtC]

def RowI (i j : Int) : Prop := 0 ≤ i ∧ 0 ≤ j ∧ j < 4294967296
def RowP (r a : Addr) (h : Heap) : Prop := ∃ (i j k : Int) (t u v : Tok) (n : Nat), RowI i j ∧ h.get? r = some { cls := .type "list", data := .seq #[.ref a, .int i t, .int j u, .int k v] n }
abbrev rowL (a : Addr) (i j k : Int) : HO := .lst [.ref a, .int i, .int j, .int k]
theorem rowP_stay {r a : Addr} : ∀ h1 h2 : Heap, RowP r a h1 → (∀ o, h1.get? r = some o → h2.get? r = some o) → RowP r a h2 := fun h1 h2 ⟨i, j, k, t, u, v, n, hi, e⟩ st => ⟨i, j, k, t, u, v, n, hi, st _ e⟩
section
variable {X : Cx} {pins : List (Addr × Obj)} {σ : St} {H : Hp} {s : Shared} {r a : Addr}
theorem row_in (I : Inv X pins σ H s) (h : H r = some (.ext (RowP r a))) : ∃ i j k, RowI i j ∧ Inv X pins σ (upd H r (rowL a i j k)) s := by
  obtain ⟨⟨i, j, k, t, u, v, n, hi, e⟩, _, _⟩ := I.hok r _ h
  refine ⟨i, j, k, hi, I.write (x := r) (e := r) (h' := s.heap) (t' := s.toks) (by rw [h]; trivial) (.inl rfl) (fun _ _ _ q => q) ⟨_, e⟩ ?_⟩
  exact ⟨by show 4 ≤ sizeLine; decide, [.ref a, .int i t, .int j u, .int k v], n, .cons rfl (.cons ⟨t, rfl⟩ (.cons ⟨u, rfl⟩ (.cons ⟨v, rfl⟩ .nil))), e⟩
theorem row_out {i j k : Int} (I : Inv X pins σ H s) (hi : RowI i j) (h : H r = some (rowL a i j k)) : Inv X pins σ (upd H r (.ext (RowP r a))) s := by
  obtain ⟨hl, its, n, hv, e⟩ := I.hok r _ h
  refine I.write (x := r) (e := r) (h' := s.heap) (t' := s.toks) (by rw [h]; trivial) (.inl rfl) (fun _ _ _ q => q) ⟨_, e⟩ ?_
  cases hv with
  | cons r0 hv =>
    cases hv with
    | cons r1 hv =>
      cases hv with
      | cons r2 hv =>
        cases hv with
        | cons r3 hv =>
          cases hv
          cases r0
          obtain ⟨t, rfl⟩ := r1
          obtain ⟨u, rfl⟩ := r2
          obtain ⟨v, rfl⟩ := r3
          exact ⟨⟨i, j, k, t, u, v, n, hi, e⟩, ⟨_, e⟩, rowP_stay⟩
def tRow (t : TS) : TS := fun D σ H => ∃ r a, H r = some (.ext (RowP r a)) ∧ ∀ i j k, RowI i j →
  t { nx := fun σ' G => ∃ i j k, RowI i j ∧ G r = some (rowL a i j k) ∧ D.nx σ' (upd G r (.ext (RowP r a)))
      rt := fun v G => ∃ i j k, RowI i j ∧ G r = some (rowL a i j k) ∧ D.rt v (upd G r (.ext (RowP r a)))
      bk := fun σ' G => ∃ i j k, RowI i j ∧ G r = some (rowL a i j k) ∧ D.bk σ' (upd G r (.ext (RowP r a)))
      ct := fun σ' G => ∃ i j k, RowI i j ∧ G r = some (rowL a i j k) ∧ D.ct σ' (upd G r (.ext (RowP r a))) } σ (upd H r (rowL a i j k))
theorem pss_row {sts : List Stmt} {t : TS} (h : PSs X sts t) : PSs X sts (tRow t) := by
  constructor
  intro pins s σ H D I ⟨r, a, hr, q⟩
  obtain ⟨i, j, k, hi, I1⟩ := row_in I hr
  refine thn (h.run pins s σ _ _ I1 (q i j k hi)) fun fl s' hs => ?_
  cases fl with
  | next => obtain ⟨σ', G, J, i, j, k, h1, h2, h3⟩ := hs; exact ⟨σ', _, row_out J h1 h2, h3⟩
  | brk => obtain ⟨σ', G, J, i, j, k, h1, h2, h3⟩ := hs; exact ⟨σ', _, row_out J h1 h2, h3⟩
  | cont => obtain ⟨σ', G, J, i, j, k, h1, h2, h3⟩ := hs; exact ⟨σ', _, row_out J h1 h2, h3⟩
  | ret u => obtain ⟨v, σ', G, J, rv, i, j, k, h1, h2, h3⟩ := hs; exact ⟨v, σ', _, row_out J h1 h2, rv, h3⟩
def tMkRow (t : TS) : TS := fun D σ H => t { D with nx := fun σ' G => ∃ r a i j k, RowI i j ∧ G r = some (rowL a i j k) ∧ D.nx σ' (upd G r (.ext (RowP r a))) } σ H
theorem ps_mkRow {st : Stmt} {t : TS} (h : PS X st t) : PS X st (tMkRow t) := by
  constructor
  intro pins s σ H D I q
  refine thn (h.run pins s σ H _ I q) fun fl s' hs => ?_
  cases fl with
  | next => obtain ⟨σ', G, J, r, a, i, j, k, h1, h2, h3⟩ := hs; exact ⟨σ', _, row_out J h1 h2, h3⟩
  | brk => exact hs
  | cont => exact hs
  | ret u => exact hs
end
def drawn (m : Int) (d : D) : Prop := ∃ n, d = .int n ∧ 0 ≤ n ∧ n < m
open Classical in
noncomputable def fTaken (C : Cs) : List Ar → Wp D
  | [.t r φ, .d (.int m)] => .need ((∃ q ∈ C.Z, φ = RowP r q.1 ∧ q.2.length ≤ 63) ∧ 0 < m ∧ m < 1073741824) (.any (drawn m))
  | _ => .stuck
end Tr

namespace Tr
open PySem PySem.Spec L2
open GxR (TabG Tabbed)
open PyProof.Rows (AllBare)
variable [ProtC]

abbrev gcx (X : Cx) (s : Shared) (H : Hp) (cenv : Env) (A : Around) (fp : List Addr) (pn : List (Addr × Obj)) : Cx :=
  { X with A := A.deeper cenv, s_0 := s, H_0 := H, env := cenv, outer := X.stack, stack := cenv :: X.stack, ex := fp, fn := fun _ => false, calm := true, pn := pn, xe := fun _ _ => False }
abbrev gEnv (X : Cx) (scope : Scope) (C : Addr) (code : Value) : Env := genEnv scope (cloFrom X.env.cells scope.names []) C code builtinsNs X.env
structure GOk (N : List Str) (sc scope : Scope) (own : List (Str × Nat)) : Prop where
  blk : BlkOk N sc scope own
  co : scope.isCoroutine = false
  cell : ∀ y ∈ scope.names, y.2 ≠ .cell
  dot : scope.names.lookup (".0" : Str) = some NameKind.local
section
variable {X : Cx} {pins : List (Addr × Obj)} {σ : St} {H : Hp} {s : Shared}
theorem gen_start {scope : Scope} {own : List (Str × Nat)} {fp : List Addr} {A : Around} {code it : Value} {h5 : Heap} {g5 : Array GenState} {t5 : Nat} {a : Addr} {go : Obj} (I : Inv X pins σ H s) (ok : GOk X.N X.env.scope scope own) (hN : X.N.Nodup)
    (hfp : ∀ b ∈ fp, FpOk X pins H b ∧ b < s.heap.objs.size) (hA : A.handled = none) (hfr : A.frames = some X.stack) (kp : ∀ b o, s.heap.get? b = some o → h5.get? b = some o)
    (hns : h5.Ns s.heap.objs.size (fun y => if y = ".0" then some it else none)) (hb : AllBare g5) (ha : h5.get? a = some go) (hlt : s.heap.objs.size < a) (hgo : ∀ v, go.data ≠ .cell v) :
    Inv (gcx X s H (gEnv X scope s.heap.objs.size code) A fp [(a, go)]) [] (wipe σ (own.map (·.2))) H { s with heap := h5, gens := g5, toks := t5 } := by
  have hfree : ∀ y ∈ scope.names, y.2 = .free → ∃ c, X.env.cells.lookup y.1 = some c := fun y hy e => (ok.blk.free y hy e).elim (fun k => I.ok.has _ (.inl k)) fun k => I.ok.has _ (.inr k)
  have cm : ∀ {y c}, (cloFrom X.env.cells scope.names []).lookup y = some c → X.env.cells.lookup y = some c ∧ c < s.heap.objs.size := fun {y c} e => by
    rcases cloFrom_mem (PySem.mem_of_lookup e) with z | ⟨h1, z⟩
    · cases z
    · obtain ⟨c', hc⟩ := hfree _ h1 rfl
      rw [hc] at z
      have z : c = c' := z
      subst z
      obtain ⟨v, q⟩ := I.cell _ _ hc
      exact ⟨hc, q.lt⟩
  have lk : ∀ {y}, scope.names.lookup y = some .free → ∃ c, (cloFrom X.env.cells scope.names []).lookup y = some c ∧ X.env.cells.lookup y = some c := fun {y} hl => by
    obtain ⟨c, e⟩ := mem_lookup (cloFrom_has (cells := X.env.cells) (acc := []) (PySem.mem_of_lookup hl))
    exact ⟨c, e, (cm e).1⟩
  have nocell : ∀ y, scope.names.lookup y ≠ some .cell := fun y e => ok.cell _ (PySem.mem_of_lookup e) rfl
  have young : H a = none ∧ a ∉ frs X.stack := by
    refine ⟨I.hok.fresh (Nat.le_of_lt hlt), fun z => ?_⟩
    rcases List.mem_cons.mp (I.stkSub a z) with z | z
    · have := I.lt
      rw [← z] at this
      exact absurd (Nat.lt_trans hlt this) (Nat.lt_irrefl _)
    · exact I.nofs (Nat.le_of_lt hlt) z
  refine ⟨⟨I.ok.mod, ok.blk.kind, I.ok.glob, rfl, Nat.le_refl _, fun y z c e1 e2 => I.ok.inj y z c (cm e1).1 (cm e2).1, fun y hy => ?_, fun y c z => Bool.noConfusion z, fun _ => hA, Around.frames_deeper hfr, .inr ⟨rfl, rfl⟩,
      fun b hb => ⟨Nat.ne_of_lt (hfp b hb).2, fun y c e z => (hfp b hb).1.2.2.2.2.1 y c (cm e).1 z⟩, I.bs, Nat.le_trans I.ok.bsz I.sz, fun b o e hb => ?_, fun b hb z => ?_, I.stack, I.stkFree⟩,
    rfl, hb, Un.kept kp, ⟨_, hns, fun i y v e1 e2 e3 => ?_⟩, fun y c e => ?_, I.hok.fresh (Nat.le_refl _), fun y c e => I.freeC y c (cm e).1, fun p hp => ?_, I.hok.kept kp, by rw [wipe_length]; exact I.len⟩
  · have hy : scope.names.lookup y = some .cell ∨ scope.names.lookup y = some .free := hy
    rcases hy with hy | hy
    · exact absurd hy (nocell y)
    · obtain ⟨c, h1, _⟩ := lk hy
      exact ⟨c, h1⟩
  · rcases (hfp b hb).1.2.2.2.1 with z | z
    · exact I.ok.noex b o e z
    · exact absurd (Nat.lt_of_lt_of_le (Heap.lt_size e) (Nat.le_trans I.ok.bsz z)) (Nat.lt_irrefl _)
  · rcases List.mem_cons.mp (I.stkSub b z) with z | z
    · exact (hfp b hb).1.2.1 z
    · exact (hfp b hb).1.2.2.1 z
  · obtain ⟨e2, hne⟩ := wipe_some e2
    have e3 : Vis scope y := e3
    have fr : scope.names.lookup y = some .free := by
      rcases e3 with k | k | k
      · rcases ok.blk.own _ (PySem.mem_of_lookup k) (.inl rfl) with q | q
        · obtain ⟨p, hp, hpy⟩ := List.mem_map.mp q
          have e4 := ok.blk.ix p hp
          have hpy : p.1 = y := hpy
          rw [hpy] at e4
          exact absurd (List.mem_map.mpr ⟨p, hp, nodup_ix hN e4 e1⟩) hne
        · exact absurd (List.mem_of_getElem? e1) q
      · exact absurd k (nocell y)
      · exact k
    obtain ⟨m, hn, hl⟩ := I.loc
    have hf := ok.blk.free _ (PySem.mem_of_lookup fr) rfl
    obtain ⟨w, r, q⟩ := hl i y v e1 e2 (hf.elim (fun k => .inr (.inl k)) fun k => .inr (.inr k))
    obtain ⟨c, h1, h2⟩ := lk fr
    refine ⟨w, r, .inr ⟨.inr fr, c, h1, ?_⟩⟩
    rcases q with ⟨k, _⟩ | ⟨_, c', e', z⟩
    · have k : X.env.scope.names.lookup y = some .local := k
      rcases hf with k' | k' <;> rw [show X.env.scope.names.lookup y = _ from k'] at k <;> cases k
    · rw [h2] at e'
      cases e'
      exact z.keeps kp
  · obtain ⟨v, z⟩ := I.cell y c (cm e).1
    exact ⟨v, z.keeps kp⟩
  · have hp : p ∈ [(a, go)] ++ ([] : List (Addr × Obj)) := hp
    rw [List.append_nil, List.mem_singleton] at hp
    subst hp
    exact ⟨ha, young.1, Nat.ne_of_gt hlt, young.2, hgo⟩
theorem gen_back {cenv : Env} {A : Around} {fp : List Addr} {pn pins' : List (Addr × Obj)} {σ' : St} {H' : Hp} {s' : Shared} (I : Inv X pins σ H s) (J : Inv (gcx X s H cenv A fp pn) pins' σ' H' s') (hfp : ∀ b ∈ fp, FpOk X pins H b) : Inv X pins σ H' s' :=
  I.call' (ch := fp) J.os J.base J.hok J.bare fun b hb => ⟨(hfp b hb).2.2.2.1, (hfp b hb).2.1, (hfp b hb).2.2.2.2.1, (hfp b hb).2.2.2.2.2⟩
end
end Tr

namespace Tr
open PySem PySem.Spec L2
open GxR (TabG Tabbed)
open PyProof.Rows (AllBare)
variable [ProtC]

def SleptB (s t : Shared) : Prop := t.heap = s.heap ∧ t.os = s.os ∧ AllBare t.gens
theorem Inv.slept {X : Cx} {pins : List (Addr × Obj)} {σ : St} {H : Hp} {s t : Shared} (I : Inv X pins σ H s) (z : SleptB s t) : Inv X pins σ H t := by
  have k : ∀ b u, s.heap.get? b = some u → t.heap.get? b = some u := fun b u e => by rw [z.1]; exact e
  exact I.call' (ch := []) z.2.1 (Un.kept k) (I.hok.kept k) z.2.2 fun b hb => by cases hb
def gEnd (X : Cx) (σ : St) (Qe : Hp → Prop) : GenEnd := fun _ s0 r s => r = .ok .next ∧ s0.gens.size ≤ s.gens.size ∧ ∃ H, Inv X [] σ H s ∧ Qe H
def gPro (X : Cx) (σ : St) (on : Bool) (Qs : Hp → Prop) : Protocol := fun _ s0 v s kap => s0.gens.size ≤ s.gens.size ∧ ∃ k H, v = .bool k ∧ Inv X [] σ H s ∧ (k = on → ∀ t, SleptB s t → kap (.send .none) t) ∧ (k ≠ on → Qs H)
section
variable {X : Cx}
def GTurn (J : It) (W : Nat → Nat → Hp → Prop) (Qe Qs : Hp → Prop) (on : Bool) (g : TG) (tt : TT) (te : TE) (vs : List Nat) (σ : St) : Prop := ∀ i m H, W i m H →
  (J.stop i H ∧ Qe H) ∨ (J.go i H ∧ ∃ Nx : Hp → Prop, (∀ G, Nx G → ∃ m', m' < m ∧ W (i + 1) m' G) ∧ ∀ x G, J.yld i H x G → g x σ G fun σ2 H2 => wipe σ2 vs = σ ∧ tt σ2 H2 fun b H3 =>
    if b = true then te σ2 H3 fun y H4 => ∃ k, y = .bl k ∧ if k = on then Nx H4 else Qs H4 else Nx H3)
theorem gen_loop {s4 : Shared} {H0 : Hp} {A : Around} {fp : List Addr} {pn : List (Addr × Obj)} {it C : Addr} {code : Value} {elt tg iter : Expr} {ifs : List Expr} {scope : Scope} {own : List (Str × Nat)} {pos : Pos} {tn : Nat → Heap → Prop} {J : It} {W : Nat → Nat → Hp → Prop} {Qe Qs : Hp → Prop} {on : Bool} {g : TG} {tt : TT} {te : TE} {σ : St}
    (hco : scope.isCoroutine = false) (T : Turn X.prog X.w X.K tg J fp it tn) (hpn : ∀ b ∈ fp, ∀ p ∈ pn, p.1 ≠ b)
    (pg : PG (gcx X s4 H0 (gEnv X scope C code) A fp pn) tg g) (pt : PTs (gcx X s4 H0 (gEnv X scope C code) A fp pn) ifs tt) (pe : PE (gcx X s4 H0 (gEnv X scope C code) A fp pn) elt te)
    (ht : GTurn J W Qe Qs on g tt te (own.map (·.2)) (wipe σ (own.map (·.2)))) : ∀ (m n i : Nat) (s0 s : Shared) (H : Hp), m < n → s0.gens.size ≤ s.gens.size → W i m H → Inv (gcx X s4 H0 (gEnv X scope C code) A fp pn) [] (wipe σ (own.map (·.2))) H s → tn i s.heap → (∀ b ∈ fp, H b = none) →
    Seg (model X.prog X.w) A (gEnd (gcx X s4 H0 (gEnv X scope C code) A fp pn) (wipe σ (own.map (·.2))) Qe) (gPro (gcx X s4 H0 (gEnv X scope C code) A fp pn) (wipe σ (own.map (·.2))) on Qs) n s0
      (.compLoop (.GeneratorExp elt [⟨tg, iter, ifs, 0⟩] scope pos) 0 (.ref it) .none (gEnv X scope C code)) ((model X.prog X.w).den (.compLoop (.GeneratorExp elt [⟨tg, iter, ifs, 0⟩] scope pos) 0 (.ref it) .none (gEnv X scope C code))) [] s := by
  generalize hX : gcx X s4 H0 (gEnv X scope C code) A fp pn = XG at *
  have e1 : XG.prog = X.prog := by rw [← hX]
  have e2 : XG.w = X.w := by rw [← hX]
  have e3 : XG.K = X.K := by rw [← hX]
  have e4 : XG.calm = true := by rw [← hX]
  have e5 : XG.A = A.deeper (gEnv X scope C code) := by rw [← hX]
  have e6 : XG.env = gEnv X scope C code := by rw [← hX]
  have e7 : XG.pn = pn := by rw [← hX]
  have e8 : XG.ex = fp := by rw [← hX]
  have e9 : XG.xe = fun _ _ => False := by rw [← hX]
  intro m
  induction m using Nat.strongRecOn with
  | ind m ih =>
    intro n i s0 s H hmn hz hw I st nf
    have stat : ∀ {σ' : St} {H' : Hp} {s' : Shared}, Inv XG [] σ' H' s' → (∀ b ∈ fp, H' b = none) → ∀ b ∈ fp, FpOk XG [] H' b := fun {σ' H' s'} I' hn b hb => by
      have hb' : b ∈ XG.ex := by rw [e8]; exact hb
      exact ⟨hn b hb, (I'.ok.exf b hb').1, I'.ok.exfs b hb', .inl hb', fun x c e => (I'.ok.exf b hb').2 x c e, fun p hp => by rw [List.append_nil, e7] at hp; exact hpn b hb p hp⟩
    show Seg _ A _ _ _ s0 _ ((compTurn (.GeneratorExp elt [⟨tg, iter, ifs, 0⟩] scope pos) 0 (.ref it) .none (gEnv X scope C code)).onRaise (leaving (gEnv X scope C code))) [] s
    rw [compTurn_gen, Sem.onRaise_eq_wrap]
    refine seg_bind_wrap (wpAny_standAt ?_)
    rcases ht i m H hw with ⟨stop, qe⟩ | ⟨go, Nx, hNx, step⟩
    · have td := T.done XG e1 e2 e3 e4 i [] s _ H (fun _ _ => False) I (stat I nf) st stop
      rw [e5] at td
      refine seg_bind_wrap (GenW.wpAny_gsz hz (wpAny_mono td (fun r s1 hr hz => ?_) fun _ _ z _ => z.elim))
      obtain ⟨rfl, I1⟩ := hr
      exact seg_end (.ok .next) ⟨rfl, hz, H, I1, qe⟩
    · have ti := T.item XG e1 e2 e3 e4 i [] s _ H (fun _ _ => False) I (stat I nf) st go
      rw [e5] at ti
      refine seg_bind_wrap (GenW.wpAny_gsz hz (wpAny_mono ti (fun r s1 hr hz => ?_) fun _ _ z _ => z.elim))
      obtain ⟨u, rfl, h1⟩ := hr
      refine seg_bind_wrap (GenW.wpAny_gsz hz (wpAny_mono h1 (fun _ s2 h2 hz => ?_) fun _ _ z _ => z.elim))
      obtain ⟨x, H2, I2, r2, y2, st2, n2⟩ := h2
      have I2' := I2.pinned (stat I2 n2) (T.obj _ _ st2)
      have pga := pg.run _ s2 _ H2 x u _ I2' r2 (step x H2 y2)
      rw [e1, e2, e5, e6, e9] at pga
      refine seg_bind_wrap (GenW.wpAny_gsz hz (wpAny_mono pga (fun _ s3 h3 hz => ?_) fun _ _ z _ => z.elim))
      obtain ⟨σ3, H3, I3, hw3, q3⟩ := h3
      have pta := pt.run _ s3 σ3 H3 _ I3 q3
      rw [e1, e2, e5, e6, e9] at pta
      refine seg_bind_wrap (GenW.wpAny_gsz hz (wpAny_mono pta (fun b s5 h5 hz => ?_) fun _ _ z _ => z.elim))
      obtain ⟨H5, I5, q5⟩ := h5
      -- the turn's end
      have back : ∀ {s' : Shared} {H' : Hp}, Inv XG ([] ++ pinsAt fp s2.heap) σ3 H' s' → Inv XG [] (wipe σ (own.map (·.2))) H' s' ∧ tn (i + 1) s'.heap ∧ ∀ b ∈ fp, H' b = none := fun {s' H'} I' => by
        have pin' : ∀ b ∈ fp, ∀ o, s2.heap.get? b = some o → s'.heap.get? b = some o ∧ H' b = none := fun b hb o e =>
          let z := I'.pin (b, o) (List.mem_append_right _ (List.mem_append_right _ (mem_pinsAt hb e)))
          ⟨z.1, z.2.1⟩
        refine ⟨(I'.unpinned (pins := [])).weak (by rw [← hw3, wipe_length]) fun j v e => ?_, T.keep _ _ _ st2 fun b hb o e => (pin' b hb o e).1, fun b hb => ?_⟩
        · rw [← hw3] at e
          exact (wipe_some e).1
        · obtain ⟨o, e, _⟩ := T.obj _ _ st2 b hb
          exact (pin' b hb o e).2
      cases b with
      | false =>
        simp only [Bool.false_eq_true, if_false] at q5 ⊢
        obtain ⟨m', hm', w'⟩ := hNx H5 q5
        obtain ⟨b1, b2, b3⟩ := back I5
        exact seg_again rfl (ih m' hm' n (i + 1) s0 s5 H5 (by omega) hz w' b1 b2 b3)
      | true =>
        simp only [if_true] at q5 ⊢
        have hy : ∀ v, yieldOut (gEnv X scope C code) v = yieldValue v := fun v => by
          have hco' : (gEnv X scope C code).scope.isCoroutine = false := hco
          simp only [yieldOut, hco', Bool.false_eq_true, if_false]
        simp only [hy]
        rw [Sem.bind_eq_wrap', Sem.bind_eq_wrap', Sem.wrap_wrap, Sem.wrap_wrap]
        have pea := pe.run _ s5 σ3 H5 _ I5 q5
        rw [e1, e2, e5, e6, e9] at pea
        refine seg_wrap (GenW.wpAny_gsz hz (wpAny_mono pea (fun v s6 h6 hz => ?_) fun _ _ z _ => z.elim))
        obtain ⟨y, H6, I6, r6, k, rfl, q6⟩ := h6
        cases r6
        obtain ⟨b1, b2, b3⟩ := back I6
        obtain ⟨n', rfl⟩ : ∃ n', n = n' + 1 := ⟨n - 1, by omega⟩
        refine seg_at (seg_yield rfl rfl rfl ⟨hz, k, H6, rfl, b1, fun hk t ht => ?_, fun hk => ?_⟩)
        · rw [if_pos hk] at q6
          obtain ⟨m', hm', w'⟩ := hNx H6 q6
          exact seg_again rfl (ih m' hm' n' (i + 1) t t H6 (by omega) (Nat.le_refl _) w' (Inv.slept b1 ht) (by rw [ht.1]; exact b2) b3)
        · rw [if_neg hk] at q6
          exact q6
end
end Tr

namespace Tr
open PySem PySem.Spec L2
open GxR (TabG Tabbed)
open PyProof.Rows (AllBare)
variable [ProtC]
section
variable {prog : Program} {w : World} {A : Around} {E : Value → Shared → Prop}
theorem gen_begin {R : GenEnd} {Y : Protocol} {P : Program} {K : PySem.W.Frag} {n : Nat} {s0 s : Shared} {elt tg iter : Expr} {ifs : List Expr} {scope : Scope} {pos : Pos} {J : It} {fp : List Addr} {it : Addr} {tn : Nat → Heap → Prop} {cenv : Env} (T : Turn prog w K tg J fp it tn) (st : tn 0 s.heap)
    (h : Seg (model prog w) A R Y n s0 (.compLoop (.GeneratorExp elt [⟨tg, iter, ifs, 0⟩] scope pos) 0 (.ref it) .none cenv) ((model prog w).den (.compLoop (.GeneratorExp elt [⟨tg, iter, ifs, 0⟩] scope pos) 0 (.ref it) .none cenv)) [] s) :
    Seg (model prog w) A R Y n s0 (.compStart (.GeneratorExp elt [⟨tg, iter, ifs, 0⟩] scope pos) 0 (.ref it) .none cenv) ((model prog w).den (.compStart (.GeneratorExp elt [⟨tg, iter, ifs, 0⟩] scope pos) 0 (.ref it) .none cenv)) [] s := by
  show Seg _ A R Y n s0 _ ((compStart (.GeneratorExp elt [⟨tg, iter, ifs, 0⟩] scope pos) 0 (.ref it) .none cenv).onRaise (leaving cenv)) [] s
  unfold compStart
  rw [Sem.onRaise_eq_wrap]
  show Seg _ A R Y n s0 _ ((ask >>= _).wrap _ _ _ _) [] s
  apply seg_bind_wrap
  apply wpAny_askSetting
  split
  · exact seg_again rfl h
  · apply seg_bind_wrap
    apply wpAny_rule
    show Seg _ A R Y n s0 _ ((standAt iter.pos >>= _).wrap _ _ _ _) [] s
    apply seg_bind_wrap
    apply wpAny_standAt
    apply seg_bind_wrap
    exact T.self _ 0 s _ _ st (seg_again rfl h)
theorem gen_next {XG : Cx} {σ : St} {Qe Qs : Hp → Prop} {on : Bool} {a : Addr} {g : Nat} {go : Obj} {Q : Option Value → Shared → Prop} (hP : XG.prog = prog) (hW : XG.w = w) (hh : A.handled = none) (hroom : A.depth < recursionLimit) (hpn : XG.pn = [(a, go)])
    (hgo : ∀ h : Heap, h.get? a = some go → h.IsGen a g) {n : Nat} {s : Shared} {gs : GenState} (hl : s.heap.NoLimit) (hg : s.heap.get? a = some go) (hgs : s.gens[g]? = some gs)
    (hr : gs.Goes (model prog w) A.in1 (gEnd XG σ Qe) (gPro XG σ on Qs) n (.send .none) (s.setGen g .running))
    (hv : ∀ k s1, s1.heap.NoLimit → s1.heap.get? a = some go → (∃ H, Inv XG [] σ H s1 ∧ (k ≠ on → Qs H)) → (k = on → ∃ m gs', n = m + 1 ∧ s1.gens[g]? = some gs' ∧ gs'.Goes (model prog w) A.in1 (gEnd XG σ Qe) (gPro XG σ on Qs) m (.send .none) (s1.setGen g .running)) → Q (some (.bool k)) s1)
    (he : ∀ s1, (∃ H, Inv XG [] σ H s1 ∧ Qe H) → Q none s1) : wpAny (model prog w) A (pyNext (.ref a)) Q E s := by
  have bare1 : ∀ (s1 : Shared) (x : GenState), AllBare s1.gens → x.bare = true → AllBare (s1.setGen g x).gens := fun s1 x h hx => allBare_setGen h hx
  have hlt : g < s.gens.size := (Array.getElem?_eq_some_iff.mp hgs).1
  refine wpAny_pyNext_genexpQ (Y := gPro XG σ on Qs) (P := fun _ s0 s1 => s0.gens.size ≤ s1.gens.size ∧ ∃ H, Inv XG [] σ H s1 ∧ Qe H) hh hl hroom (hgo _ hg) hgs hr (fun v s1 gs' hb hy => ?_) (fun s1 hp h' hk => ?_)
  · obtain ⟨hz, k, H, rfl, I, hon, hoff⟩ := hy
    have ha : s1.heap.get? a = some go := (I.pin (a, go) (by rw [hpn]; exact List.mem_cons_self ..)).1
    have I' : Inv XG [] σ H (s1.setGen g gs') := Inv.slept I ⟨rfl, rfl, bare1 s1 gs' I.bare hb⟩
    have hz1 : g < s1.gens.size := by
      have hz2 : (s.setGen g .running).gens.size ≤ s1.gens.size := hz
      rw [GenW.setGen_size] at hz2
      exact Nat.lt_of_lt_of_le hlt hz2
    refine hv k (s1.setGen g gs') I'.nolimit ha ⟨H, I', hoff⟩ fun hk => ?_
    have z := hon hk ((s1.setGen g gs').setGen g .running) ⟨rfl, rfl, bare1 _ _ I'.bare rfl⟩
    cases n with
    | zero => exact z.elim
    | succ m => exact ⟨m, gs', rfl, setGen_self (gs := s1.gens[g]) (Array.getElem?_eq_getElem hz1), z⟩
  · obtain ⟨_, H, I, q⟩ := hp
    have k : ∀ b u, s1.heap.get? b = some u → h'.get? b = some u := hk
    refine he _ ⟨H, ?_, q⟩
    exact I.call' (ch := []) rfl (Un.kept k) (I.hok.kept k) (bare1 s1 _ I.bare rfl) fun b hb => by cases hb
theorem gen_all {XG : Cx} {σ : St} {Qe Qs : Hp → Prop} {a : Addr} {g : Nat} {go : Obj} {R : Result → Shared → Prop} (hP : XG.prog = prog) (hW : XG.w = w) (hh : A.handled = none) (hroom : A.depth < recursionLimit) (hpn : XG.pn = [(a, go)])
    (hgo : ∀ h : Heap, h.get? a = some go → h.IsGen a g) (hR : ∀ k s1, (∃ H, Inv XG [] σ H s1 ∧ (k = true → Qe H) ∧ (k = false → Qs H)) → R (.ok (.ret (.bool k))) s1) : ∀ (n : Nat) (s : Shared) (gs : GenState), s.heap.NoLimit → s.heap.get? a = some go → s.gens[g]? = some gs →
    gs.Goes (model prog w) A.in1.in1 (gEnd XG σ Qe) (gPro XG σ true Qs) n (.send .none) (s.setGen g .running) → codeAny (model prog w) A (.builtin "all.loop" ⟨[.ref a], []⟩) R s := by
  intro n
  induction n with
  | zero =>
    intro s gs hl hg hgs hr
    refine codeAny_builtin F.entry_all_loop ?_
    rw [Around.under_plainId F.plain_all_loop _]
    show wpAny _ A.in1 (pyNext (.ref a) >>= _) _ _ s
    refine wpAny_bind (gen_next (A := A.in1) hP hW hh hroom hpn hgo hl hg hgs hr (fun k s1 hl1 hg1 hs1 hgo1 => ?_) fun s1 ⟨H, I, q⟩ => ?_)
    · refine wpAny_bind (wpAny_holding (wpAny_truthy_bool ?_))
      refine wpAny_bind (wpAny_letGo ?_)
      cases k with
      | true =>
        obtain ⟨m, gs', e, _⟩ := hgo1 rfl
        exact absurd e (by omega)
      | false =>
        simp only [Bool.false_eq_true, if_false]
        obtain ⟨H, I, q⟩ := hs1
        exact wpAny_bind (wpAny_rule (wpAny_pure (hR false s1 ⟨H, I, fun z => (by cases z), fun _ => q (by decide)⟩)))
    · exact wpAny_bind (wpAny_rule (wpAny_pure (hR true s1 ⟨H, I, fun _ => q, fun z => (by cases z)⟩)))
  | succ n ih =>
    intro s gs hl hg hgs hr
    refine codeAny_builtin F.entry_all_loop ?_
    rw [Around.under_plainId F.plain_all_loop _]
    show wpAny _ A.in1 (pyNext (.ref a) >>= _) _ _ s
    refine wpAny_bind (gen_next (A := A.in1) hP hW hh hroom hpn hgo hl hg hgs hr (fun k s1 hl1 hg1 hs1 hgo1 => ?_) fun s1 ⟨H, I, q⟩ => ?_)
    · refine wpAny_bind (wpAny_holding (wpAny_truthy_bool ?_))
      refine wpAny_bind (wpAny_letGo ?_)
      cases k with
      | true =>
        simp only [if_true]
        obtain ⟨m, gs', e, e2, e3⟩ := hgo1 rfl
        cases e
        exact wpAny_pure ⟨plainId_quiet F.plain_all_loop _, ih s1 gs' hl1 hg1 e2 e3⟩
      | false =>
        simp only [Bool.false_eq_true, if_false]
        obtain ⟨H, I, q⟩ := hs1
        exact wpAny_bind (wpAny_rule (wpAny_pure (hR false s1 ⟨H, I, fun z => (by cases z), fun _ => q (by decide)⟩)))
    · exact wpAny_bind (wpAny_rule (wpAny_pure (hR true s1 ⟨H, I, fun _ => q, fun z => (by cases z)⟩)))
theorem gen_any {XG : Cx} {σ : St} {Qe Qs : Hp → Prop} {a : Addr} {g : Nat} {go : Obj} {R : Result → Shared → Prop} (hP : XG.prog = prog) (hW : XG.w = w) (hh : A.handled = none) (hroom : A.depth < recursionLimit) (hpn : XG.pn = [(a, go)])
    (hgo : ∀ h : Heap, h.get? a = some go → h.IsGen a g) (hR : ∀ k s1, (∃ H, Inv XG [] σ H s1 ∧ (k = false → Qe H) ∧ (k = true → Qs H)) → R (.ok (.ret (.bool k))) s1) : ∀ (n : Nat) (s : Shared) (gs : GenState), s.heap.NoLimit → s.heap.get? a = some go → s.gens[g]? = some gs →
    gs.Goes (model prog w) A.in1.in1 (gEnd XG σ Qe) (gPro XG σ false Qs) n (.send .none) (s.setGen g .running) → codeAny (model prog w) A (.builtin "any.loop" ⟨[.ref a], []⟩) R s := by
  intro n
  induction n with
  | zero =>
    intro s gs hl hg hgs hr
    refine codeAny_builtin F.entry_any_loop ?_
    rw [Around.under_plainId F.plain_any_loop _]
    show wpAny _ A.in1 (pyNext (.ref a) >>= _) _ _ s
    refine wpAny_bind (gen_next (A := A.in1) hP hW hh hroom hpn hgo hl hg hgs hr (fun k s1 hl1 hg1 hs1 hgo1 => ?_) fun s1 ⟨H, I, q⟩ => ?_)
    · refine wpAny_bind (wpAny_holding (wpAny_truthy_bool ?_))
      refine wpAny_bind (wpAny_letGo ?_)
      cases k with
      | false =>
        obtain ⟨m, gs', e, _⟩ := hgo1 rfl
        exact absurd e (by omega)
      | true =>
        simp only [if_true]
        obtain ⟨H, I, q⟩ := hs1
        exact wpAny_bind (wpAny_rule (wpAny_pure (hR true s1 ⟨H, I, fun z => (by cases z), fun _ => q (by decide)⟩)))
    · exact wpAny_bind (wpAny_rule (wpAny_pure (hR false s1 ⟨H, I, fun _ => q, fun z => (by cases z)⟩)))
  | succ n ih =>
    intro s gs hl hg hgs hr
    refine codeAny_builtin F.entry_any_loop ?_
    rw [Around.under_plainId F.plain_any_loop _]
    show wpAny _ A.in1 (pyNext (.ref a) >>= _) _ _ s
    refine wpAny_bind (gen_next (A := A.in1) hP hW hh hroom hpn hgo hl hg hgs hr (fun k s1 hl1 hg1 hs1 hgo1 => ?_) fun s1 ⟨H, I, q⟩ => ?_)
    · refine wpAny_bind (wpAny_holding (wpAny_truthy_bool ?_))
      refine wpAny_bind (wpAny_letGo ?_)
      cases k with
      | false =>
        simp only [Bool.false_eq_true, if_false]
        obtain ⟨m, gs', e, e2, e3⟩ := hgo1 rfl
        cases e
        exact wpAny_pure ⟨plainId_quiet F.plain_any_loop _, ih s1 gs' hl1 hg1 e2 e3⟩
      | true =>
        simp only [if_true]
        obtain ⟨H, I, q⟩ := hs1
        exact wpAny_bind (wpAny_rule (wpAny_pure (hR true s1 ⟨H, I, fun z => (by cases z), fun _ => q (by decide)⟩)))
    · exact wpAny_bind (wpAny_rule (wpAny_pure (hR false s1 ⟨H, I, fun _ => q, fun z => (by cases z)⟩)))
end
section
variable {X : Cx} {pins : List (Addr × Obj)} {σ : St} {H : Hp} {s : Shared}
structure Made (X : Cx) (pins : List (Addr × Obj)) (σ : St) (tg iter elt : Expr) (ifs : List Expr) (scope : Scope) (pos : Pos) (J : It) (H2 : Hp) (s4 t : Shared) (a : Addr) : Prop where
  ex : ∃ (it : Addr) (fp : List Addr) (tn : Nat → Heap → Prop) (code : Value) (g : Nat) (go : Obj) (h5 : Heap) (g5 : Array GenState) (t5 : Nat), Inv X pins σ H2 s4 ∧ Turn X.prog X.w X.K tg J fp it tn ∧ tn 0 h5 ∧ (∀ b ∈ fp, FpOk X pins H2 b ∧ b < s4.heap.objs.size) ∧
    t = { s4 with heap := h5, gens := g5, toks := t5 } ∧ (∀ b o, s4.heap.get? b = some o → h5.get? b = some o) ∧ h5.Ns s4.heap.objs.size (fun y => if y = ".0" then some (.ref it) else none) ∧ AllBare g5 ∧ h5.get? a = some go ∧ s4.heap.objs.size < a ∧ (∀ v, go.data ≠ .cell v) ∧
    (∀ h : Heap, h.get? a = some go → h.IsGen a g) ∧ g5[g]? = some (.fresh (.compStart (.GeneratorExp elt [⟨tg, iter, ifs, 0⟩] scope pos) 0 (.ref it) .none (gEnv X scope s4.heap.objs.size code)))
theorem gen_make {c P : Addr} {elt tg iter : Expr} {ifs : List Expr} {gpos : Pos} {scope : Scope} {own : List (Str × Nat)} {wi : TI} {k : Nat} {Q' : Value → Shared → Prop} {R : It → Hp → Prop}
    (hr : Room k X.A) (TB : GxR.TabB X.base X.mg c P) (hcode : X.env.code = .ref c) (ok : GOk X.N X.env.scope scope own) (hi : PI X tg iter wi) (hs : ∀ v, genFold iter X.env v = pure v) (I : Inv X pins σ H s)
    (h : wi σ H fun J H1 => TabG H1 P ∧ ∀ H2, Tabbed P H1 H2 → R J H2) (hQ : ∀ J H2 s4 t a, R J H2 → Made X pins σ tg iter elt ifs scope gpos J H2 s4 t a → Q' (.ref a) t) :
    wpAny (model X.prog X.w) X.A (eval (.GeneratorExp elt [⟨tg, iter, ifs, 0⟩] scope gpos) X.env) Q' X.xe s := by
  have hfree : ∀ y ∈ scope.names, y.2 = .free → ∃ c, X.env.cells.lookup y.1 = some c := fun y hy e => (ok.blk.free y hy e).elim (fun k => I.ok.has _ (.inl k)) fun k => I.ok.has _ (.inr k)
  refine wpAny_GeneratorExp_make ok.co (closure_ok hfree) ok.cell ok.dot ok.blk.kind (by have := hr.dp; omega) ?_ hs
  refine thn (hi.run pins s σ H _ I h) fun xv s1 h1 => thn h1 fun itv s2 h2 => ?_
  obtain ⟨it, fp, tn, J, H1, rfl, I2, T, st2, f2, ⟨ps, hP, htr⟩, q⟩ := h2
  have hPs : s2.heap.get? P = some { cls := .none, data := .fields ps } := I2.hok P _ hP
  have cd : PySem.W.CodeHd s2.heap c P := TB.code.keeps I2.bk
  refine ⟨I2.nolimit, ?_⟩
  have fpP : ∀ b ∈ fp, b ≠ P := fun b hb z => by
    have := (f2 b hb).1
    rw [z, hP] at this
    cases this
  have cont : ∀ (code : Value) (h3 : Heap) (tk : Nat) (ps' more : Array Value), Heap.ExtBut P s2.heap h3 → s2.heap.objs.size ≤ h3.objs.size → h3.get? P = some { cls := .none, data := .fields ps' } → ps' = ps ++ more → TriplesOk ps'.toList →
      wpAny (model X.prog X.w) X.A (builtinsFor X.env.globals X.env.builtins) (fun bi s4 => ∀ h', h'.Ns s4.heap.objs.size (fun y => if y = ".0" then some (.ref it) else none) → Heap.SameBut s4.heap.objs.size (s4.heap.push { cls := .type "frame", data := .dict #[] }) h' →
          Q' (.ref h'.objs.size) { s4 with
            gens := s4.gens.push (.fresh (.compStart (.GeneratorExp elt [⟨tg, iter, ifs, 0⟩] scope gpos) 0 (.ref it) .none (genEnv scope (cloFrom X.env.cells scope.names []) s4.heap.objs.size code bi X.env))),
            toks := s4.toks + 1 + 1 + 1,
            heap := h'.push { cls := .type "generator", data := .fields #[.int s4.gens.size 0, .str "<genexpr>" (s4.toks + 1), .str (X.env.qual ++ "<genexpr>") (s4.toks + 1 + 1)] } }) X.xe { s2 with heap := h3, toks := tk } := by
    intro code h3 tk ps' more hx hsz hP3 hmore ht3
    obtain ⟨bm, ob, e1, e2, e3, e4, e5, e6, e7, e8⟩ := TB.bm
    have keep3 : ∀ b u, b ≠ P → s2.heap.get? b = some u → h3.get? b = some u := fun b u hb e => hx b u hb e
    refine wpAny_builtinsFor (m := X.mg) (by rw [I2.ok.glob]; exact (I2.mod.glob.keeps I2.bk).extBut hx TB.gP) e1 e2 (keep3 _ _ e4 (I2.bk _ _ e5)) e6 e7 e8 ?_
    intro h' hn hsb
    have I3 : Inv X pins σ (upd H1 P (.tbl (ps ++ more))) { s2 with heap := h3, toks := tk } := GxR.inv_tab (g' := s2.gens) (d' := s2.drawn) I2 hP keep3 (by rw [← hmore]; exact hP3) I2.bare
    have sz' : h'.objs.size = h3.objs.size + 1 := by rw [hsb.1, Heap.size_push]
    have kp1 : ∀ b o, h3.get? b = some o → h'.get? b = some o := fun b o e => hsb.extBut b o (Nat.ne_of_lt (Heap.lt_size e)) (Heap.get?_push_of_some _ e)
    refine hQ J (upd H1 P (.tbl (ps ++ more))) { s2 with heap := h3, toks := tk } _ h'.objs.size (q _ ⟨⟨ps ++ more, upd_same, by rw [← hmore]; exact ht3⟩, fun b hb => upd_ne hb⟩) ⟨?_⟩
    refine ⟨it, fp, tn, code, s2.gens.size, _, _, _, _, I3, T, ?_, fun b hb => ?_, rfl, fun b o e => Heap.get?_push_of_some _ (kp1 b o e), hn.push _, AllBare.push I2.bare rfl, Heap.get?_push_size _ rfl, by show h3.objs.size < h'.objs.size; omega, fun v z => (by cases z), fun h e => ⟨_, _, _, e, rfl, rfl, rfl⟩, Array.getElem?_push_size ..⟩
    · exact T.keep _ _ _ st2 fun b hb o e => Heap.get?_push_of_some _ (kp1 b o (keep3 b o (fpP b hb) e))
    · obtain ⟨o, e, _⟩ := T.obj _ _ st2 b hb
      refine ⟨⟨by rw [upd_ne (fpP b hb)]; exact (f2 b hb).1, (f2 b hb).2⟩, Heap.lt_size (keep3 b o (fpP b hb) e)⟩
  cases hf : codeAmong gpos ps.toList with
  | none =>
    refine wpAny_genexprCodeX hcode (cd.code hPs htr) (cd.tab hPs) hf fun c' h3 tk hx hge hlt hco' _ htab' _ => ?_
    obtain ⟨o1, vs, f1, tf, fl, tg', inF, tx, tt, op, _, _, _, _, _, _, _, _, _, htr', _⟩ := hco'
    exact cont _ h3 tk _ _ hx (Nat.le_trans hge (Nat.le_of_lt hlt)) htab'.2 rfl htr'
  | some cv =>
    refine wpAny_genexprCode_hit hcode (cd.code hPs htr) hf ?_
    exact cont cv s2.heap s2.toks ps #[] (Heap.ExtBut.refl _ _) (Nat.le_refl _) hPs (by simp) htr
end
end Tr

namespace Tr
open PySem PySem.Spec L2
open GxR (TabG Tabbed)
open PyProof.Rows (AllBare)
variable [ProtC]

def tGa (on : Bool) (P : Addr) (wi : TI) (g : TG) (tt : TT) (te : TE) (vs : List Nat) : TE := fun σ H Q => wi σ H fun J H1 => TabG H1 P ∧ ∀ H2, Tabbed P H1 H2 →
  ∃ (W : Nat → Nat → Hp → Prop) (Qe Qs : Hp → Prop), (∃ m, W 0 m H2) ∧ GTurn J W Qe Qs on g tt te vs (wipe σ vs) ∧ (∀ G, Qe G → Q (.bl on) G) ∧ ∀ G, Qs G → Q (.bl (!on)) G
section
variable {X : Cx}
abbrev gA (X : Cx) : Around := X.A.in1.in1
def GFr (X : Cx) (scope : Scope) (p : Cx → Prop) : Prop := ∀ (s : Shared) (H : Hp) (C : Addr) (code : Value) (fp : List Addr) (pn : List (Addr × Obj)), p (gcx X s H (gEnv X scope C code) (gA X) fp pn)
theorem ga_goes {pins : List (Addr × Obj)} {σ : St} {tg iter elt : Expr} {ifs : List Expr} {scope : Scope} {pos : Pos} {J : It} {H2 : Hp} {s4 t : Shared} {a : Addr} {own : List (Str × Nat)} {on : Bool} {g : TG} {tt : TT} {te : TE} {W : Nat → Nat → Hp → Prop} {Qe Qs : Hp → Prop}
    (hA : X.A.handled = none) (ok : GOk X.N X.env.scope scope own) (hN : X.N.Nodup) (pg : GFr X scope fun Y => PG Y tg g) (pt : GFr X scope fun Y => PTs Y ifs tt) (pe : GFr X scope fun Y => PE Y elt te)
    (ht : GTurn J W Qe Qs on g tt te (own.map (·.2)) (wipe σ (own.map (·.2)))) (hm : ∃ m, W 0 m H2) (M : Made X pins σ tg iter elt ifs scope pos J H2 s4 t a) :
    ∃ (XG : Cx) (n : Nat) (gi : Nat) (go : Obj) (gs : GenState), XG.prog = X.prog ∧ XG.w = X.w ∧ XG.pn = [(a, go)] ∧ (∀ h : Heap, h.get? a = some go → h.IsGen a gi) ∧ t.heap.NoLimit ∧ t.heap.get? a = some go ∧ t.gens[gi]? = some gs ∧
      gs.Goes (model X.prog X.w) (gA X) (gEnd XG (wipe σ (own.map (·.2))) Qe) (gPro XG (wipe σ (own.map (·.2))) on Qs) n (.send .none) (t.setGen gi .running) ∧
      ∀ H s, Inv XG [] (wipe σ (own.map (·.2))) H s → Inv X pins σ H s := by
  obtain ⟨it, fp, tn, code, gi, go, h5, g5, t5, I2, T, st, hfp, rfl, kp, hns, hb, hga, hlt, hgo, hgen, hgs⟩ := M.ex
  obtain ⟨m, hm⟩ := hm
  have hfr : (gA X).frames = some X.stack := I2.ok.frames
  have IG := gen_start (A := gA X) (code := code) (fp := fp) (t5 := t5) I2 ok hN hfp hA hfr kp hns hb hga hlt hgo
  refine ⟨gcx X s4 H2 (gEnv X scope s4.heap.objs.size code) (gA X) fp [(a, go)], m + 1, gi, go, _, rfl, rfl, rfl, hgen, IG.nolimit, hga, hgs, ⟨rfl, ?_⟩, fun H s J => gen_back I2 J fun b hb => (hfp b hb).1⟩
  refine gen_begin (P := X.prog) T st ?_
  refine gen_loop ok.co T (fun b hb p hp => ?_) (pg ..) (pt ..) (pe ..) ht m (m + 1) 0 _ _ H2 (Nat.lt_succ_self _) (Nat.le_refl _) hm (Inv.slept IG ⟨rfl, rfl, allBare_setGen hb rfl⟩) st fun b hb => (hfp b hb).1.1
  rw [List.mem_singleton] at hp
  subst hp
  exact Nat.ne_of_gt (Nat.lt_trans (hfp b hb).2 hlt)
theorem pe_allG {c P : Addr} {elt tg iter : Expr} {ifs : List Expr} {p pos gpos : Pos} {scope : Scope} {own : List (Str × Nat)} {wi : TI} {g : TG} {tt : TT} {te : TE} {k : Nat}
    (hr : Room k X.A) (hg : Gl X "all") (hm : X.mg "all" = none) (TB : GxR.TabB X.base X.mg c P) (hcode : X.env.code = .ref c) (ok : GOk X.N X.env.scope scope own) (hN : X.N.Nodup) (hi : PI X tg iter wi)
    (pg : GFr X scope fun Y => PG Y tg g) (pt : GFr X scope fun Y => PTs Y ifs tt) (pe : GFr X scope fun Y => PE Y elt te) (hs : ∀ v, genFold iter X.env v = pure v)
    (he : starEach [.GeneratorExp elt [⟨tg, iter, ifs, 0⟩] scope gpos] X.env = (false, eval (.GeneratorExp elt [⟨tg, iter, ifs, 0⟩] scope gpos) X.env) :: starEach [] X.env := by rfl) :
    PE X (.Call (.Name "all" p) [.GeneratorExp elt [⟨tg, iter, ifs, 0⟩] scope gpos] [] pos) (tGa true P wi g tt te (own.map (·.2))) := by
  refine ⟨fun pins s σ H Q I h => ?_⟩
  refine wpAny_Call_Name_kw (ld_blt I hg hm PyProof.Rows.boot_all ?_)
  refine PyProof.Rows.callWith_builtin1 ?_ he (by rfl)
  rw [he]
  show wpAny _ _ (spliced ((false, eval (.GeneratorExp elt [⟨tg, iter, ifs, 0⟩] scope gpos) X.env) :: backTo pos (starEach [] X.env))) _ _ s
  refine Calls.spliced_cons (gen_make hr TB hcode ok hi hs I h fun J H2 s4 t a ⟨W, Qe, Qs, hW, ht, q1, q2⟩ M => ?_)
  refine Calls.spliced_nil ?_
  obtain ⟨XG, n, gi, go, gs, e1, e2, e3, hgen, hl, hga, hgs, hgo, back⟩ := ga_goes hr.hd ok hN pg pt pe ht hW M
  refine call_function_tree F.kind_all F.plain_all F.entry_all (F.args_all1 _) ?_
  unfold Builtin.«all»
  refine wpAny_bind (m := oneArg "all" _) (wpAny_pure ?_)
  refine wpAny_bind (wpAny_pyIter_gen (hgen _ hga) ?_)
  refine wpAny_pure ⟨plainId_quiet F.plain_all_loop _, gen_all e1 e2 hr.hd (by have := hr.dp; show X.A.depth < _; omega) e3 hgen (fun b s1 ⟨H, J, z1, z2⟩ => ?_) n t gs hl hga hgs hgo⟩
  refine ⟨.bl b, H, back H s1 J, rfl, ?_⟩
  cases b with
  | true => exact q1 H (z1 rfl)
  | false => exact q2 H (z2 rfl)
theorem pe_anyG {c P : Addr} {elt tg iter : Expr} {ifs : List Expr} {p pos gpos : Pos} {scope : Scope} {own : List (Str × Nat)} {wi : TI} {g : TG} {tt : TT} {te : TE} {k : Nat}
    (hr : Room k X.A) (hg : Gl X "any") (hm : X.mg "any" = none) (TB : GxR.TabB X.base X.mg c P) (hcode : X.env.code = .ref c) (ok : GOk X.N X.env.scope scope own) (hN : X.N.Nodup) (hi : PI X tg iter wi)
    (pg : GFr X scope fun Y => PG Y tg g) (pt : GFr X scope fun Y => PTs Y ifs tt) (pe : GFr X scope fun Y => PE Y elt te) (hs : ∀ v, genFold iter X.env v = pure v)
    (he : starEach [.GeneratorExp elt [⟨tg, iter, ifs, 0⟩] scope gpos] X.env = (false, eval (.GeneratorExp elt [⟨tg, iter, ifs, 0⟩] scope gpos) X.env) :: starEach [] X.env := by rfl) :
    PE X (.Call (.Name "any" p) [.GeneratorExp elt [⟨tg, iter, ifs, 0⟩] scope gpos] [] pos) (tGa false P wi g tt te (own.map (·.2))) := by
  refine ⟨fun pins s σ H Q I h => ?_⟩
  refine wpAny_Call_Name_kw (ld_blt I hg hm PyProof.Rows.boot_any ?_)
  refine PyProof.Rows.callWith_builtin1 ?_ he (by rfl)
  rw [he]
  show wpAny _ _ (spliced ((false, eval (.GeneratorExp elt [⟨tg, iter, ifs, 0⟩] scope gpos) X.env) :: backTo pos (starEach [] X.env))) _ _ s
  refine Calls.spliced_cons (gen_make hr TB hcode ok hi hs I h fun J H2 s4 t a ⟨W, Qe, Qs, hW, ht, q1, q2⟩ M => ?_)
  refine Calls.spliced_nil ?_
  obtain ⟨XG, n, gi, go, gs, e1, e2, e3, hgen, hl, hga, hgs, hgo, back⟩ := ga_goes hr.hd ok hN pg pt pe ht hW M
  refine call_function_tree F.kind_any F.plain_any F.entry_any (F.args_any1 _) ?_
  unfold Builtin.«any»
  refine wpAny_bind (m := oneArg "any" _) (wpAny_pure ?_)
  refine wpAny_bind (wpAny_pyIter_gen (hgen _ hga) ?_)
  refine wpAny_pure ⟨plainId_quiet F.plain_any_loop _, gen_any e1 e2 hr.hd (by have := hr.dp; show X.A.depth < _; omega) e3 hgen (fun b s1 ⟨H, J, z1, z2⟩ => ?_) n t gs hl hga hgs hgo⟩
  refine ⟨.bl b, H, back H s1 J, rfl, ?_⟩
  cases b with
  | true => exact q2 H (z2 rfl)
  | false => exact q1 H (z1 rfl)
end

def gaLoop (on : Bool) (g : BF) (t : TF) (f : DF) (δ : De) : List D → Wp D
  | [] => .pure (.bool on)
  | d :: ds => (optW (g d δ)).bind fun δ1 => (t δ1).bind fun b => if b then (f δ1).bind fun y => match y with
    | .bool k => if k = on then gaLoop on g t f δ ds else .pure (.bool k)
    | _ => .stuck else gaLoop on g t f δ ds
def dGa (on : Bool) (fi : De → Wp (List D)) (g : BF) (t : TF) (f : DF) (vs : List Nat) : DF := fun δ => (fi δ).bind fun ds => (gaLoop on g t f (dWipe δ vs) ds).nox
theorem Rep.gen {C : Cs} {S0 : Addr → Prop} {H0 Pb : Hp} {σ : St} {H G : Hp} {δ : De} (vs : List Nat) (R : Rep (C.bx S0 H0) Pb σ H δ) (g : Grow H G) :
    Rep (C.bx (Own (C.bx S0 H0) σ δ) G) (hid (Own (C.bx S0 H0) σ δ) G) (wipe σ vs) G (dWipe δ vs) := by
  have no : ∀ j ds, (dWipe δ vs)[j]? ≠ some (Sl.o ds) := fun j ds h => (dWipe_get (by intro z; cases z) h).2.2 ds rfl
  have own : ∀ b, Own (C.bx (Own (C.bx S0 H0) σ δ) G) (wipe σ vs) (dWipe δ vs) b ↔ Own (C.bx S0 H0) σ δ b := fun b =>
    ⟨fun z => z.elim id fun ⟨j, ds, e1, _⟩ => absurd e1 (no j ds), .inl⟩
  have le : Le (hid (Own (C.bx S0 H0) σ δ) H) (hid (Own (C.bx (Own (C.bx S0 H0) σ δ) G) (wipe σ vs) (dWipe δ vs)) G) := hid_le g.le fun b z => (own b).mp z
  refine ⟨hid_le (Le.refl G) fun b z => (own b).mp z, by rw [wipe_length, dWipe_len]; exact R.len, Grow.refl G, fun b z => g.dm b (R.odom b z), (R.gr g).tabs, fun j d h => ?_, fun j ds h => absurd h (no j ds), fun j k ds es b h => absurd h (no j ds), fun j x h => ?_, fun j b φ h => ?_, R.scr.gr (R.grow.trans g) (R.leB.trans (hid_le g.le fun _ z => z)) fun b z => .inl z⟩
  · obtain ⟨h1, h2, _⟩ := dWipe_get (by intro z; cases z) h
    obtain ⟨v, q1, q2⟩ := R.pers j d h2
    exact ⟨v, by rw [wipe_get, if_neg h1]; exact q1, Le.dp le _ v q2⟩
  · obtain ⟨h1, h2, _⟩ := dWipe_get (by intro z; cases z) h
    rw [wipe_get, if_neg h1]
    exact R.val j x h2
  · obtain ⟨h1, h2, _⟩ := dWipe_get (by intro z; cases z) h
    rw [wipe_get, if_neg h1]
    exact ⟨(R.trk j b φ h2).1, le b _ (R.trk j b φ h2).2 fun ps z => by cases z⟩
theorem Tabbed.grow {P : Addr} {H H' : Hp} (np : ∀ q, ¬ ProtC.p P q) (t : TabG H P) (h : Tabbed P H H') : Grow H H' := by
  obtain ⟨ps, e, tr⟩ := t
  refine ⟨fun b u e1 n => ?_, fun P' h' => ?_, fun b hb => ?_, fun P' q hp t => ?_⟩
  · have nb : b ≠ P := fun z => by
      rw [z, e] at e1
      exact n ps (Option.some.inj e1).symm
    rw [h.2 b nb]
    exact e1
  · by_cases c : P' = P
    · rw [c]; exact h.1
    · obtain ⟨qs, e1, tr1⟩ := h'
      exact ⟨qs, by rw [h.2 P' c]; exact e1, tr1⟩
  · by_cases c : b = P
    · obtain ⟨qs, e1, _⟩ := h.1
      rw [c, e1]
      exact fun z => nomatch z
    · rw [h.2 b c]; exact hb
  · have c : P' ≠ P := fun z => np q (z ▸ hp)
    obtain ⟨qs, e1, t1, t2⟩ := t
    refine ⟨qs, by rw [h.2 P' c]; exact e1, t1, fun pos cv hc => ?_⟩
    obtain ⟨c0, e2, e3⟩ := t2 pos cv hc
    have c1 : c0 ≠ P := fun z => by
      rw [z, e] at e3
      exact LamX.codeO_ne ps (Option.some.inj e3).symm
    exact ⟨c0, e2, by rw [h.2 c0 c1]; exact e3⟩
theorem ga_read {C : Cs} {W : WX} {on : Bool} {P : Addr} {wi : TI} {fi : De → Wp (List D)} {g : BF} {ix vs : List Nat} {t : TF} {f : DF} (hP : P ∈ C.T)
    (qw : ∀ S0 H0 Pb σ H δ Q, Rep (C.bx S0 H0) Pb σ H δ → (fi δ).run (fun ds => ∀ J G, Grow H G → Items C.K (hid (Own (C.bx S0 H0) σ δ) G) (obh C H0) ds J → Q J G) (Ew (C.bx S0 H0) W σ H) → wi σ H Q) (hix : ∀ i ∈ ix, i ∈ vs)
    {S0 : Addr → Prop} {H0 Pb : Hp} {σ : St} {H : Hp} {δ : De} {Q : VK} (R : Rep (C.bx S0 H0) Pb σ H δ)
    (h : (dGa on fi g t f vs δ).run (Dv (C.bx S0 H0) σ H δ Q) (Ew (C.bx S0 H0) W σ H)) :
    tGa on P wi (rG C ix g) (rT C W0 t) (rE C W0 f) vs σ H Q := by
  refine qw S0 H0 Pb σ H δ _ R ((fi δ).mono (fun ds h J G gr it => ?_) (fun _ z => z) h)
  have hT : TabG G P := gr.tb P (R.tabs P hP)
  refine ⟨hT, fun H2 hT2 => ?_⟩
  have g2 : Grow H H2 := gr.trans (Tabbed.grow (C.np P hP) hT hT2)
  have l2 : Le (hid (Own (C.bx S0 H0) σ δ) G) (hid (Own (C.bx S0 H0) σ δ) H2) := hid_le (Tabbed.grow (C.np P hP) hT hT2).le fun _ z => z
  obtain ⟨Gp, Y, w, hG, hY⟩ := it
  have h : (gaLoop on g t f (dWipe δ vs) ds).run (Dv (C.bx S0 H0) σ H δ Q) (fun _ => False) := h
  refine ⟨fun i m Hi => m = ds.length - i ∧ i ≤ ds.length ∧ Grow H2 Hi ∧ (gaLoop on g t f (dWipe δ vs) (ds.drop i)).run (Dv (C.bx S0 H0) σ H δ Q) (fun _ => False), fun G => Q (.bl on) G, fun G => Q (.bl (!on)) G, ⟨ds.length, by simp, Nat.zero_le _, Grow.refl _, h⟩, ?_, fun _ z => z, fun _ z => z⟩
  rintro i m Hi ⟨rfl, hi, gi, hr⟩
  have li : Le (hid (Own (C.bx S0 H0) σ δ) G) (hid (Own (C.bx S0 H0) σ δ) Hi) := l2.trans (hid_le gi.le fun _ z => z)
  have lb : Le (obh C H0) Hi := obh_le.trans (R.grow.trans (g2.trans gi)).le
  have gp : Gp Hi := hG Hi (li.trans hid_sub) lb
  by_cases hlt : i < ds.length
  · refine .inr ⟨w.goes i Hi hlt gp, fun G => Grow H2 G ∧ (gaLoop on g t f (dWipe δ vs) (ds.drop (i + 1))).run (Dv (C.bx S0 H0) σ H δ Q) (fun _ => False), fun G p' => ⟨ds.length - (i + 1), by omega, rfl, hlt, p'⟩, fun x Hi2 y => ?_⟩
    have dom : ∀ b, Own (C.bx S0 H0) σ δ b → Hi b ≠ none := fun b z => (g2.trans gi).dm b (R.odom b z)
    obtain ⟨gw, d, hd, dx⟩ := hY i Hi x Hi2 _ hlt li lb dom (w.yields i Hi x Hi2 hlt gp y)
    have ed : ds.drop i = d :: ds.drop (i + 1) := by
      rw [List.drop_eq_getElem_cons hlt]
      rw [List.getElem?_eq_getElem hlt] at hd
      rw [Option.some.inj hd]
    rw [ed] at hr
    obtain ⟨δ1, hg1, hr⟩ := optW_inv hr
    have g3 : Grow H Hi2 := (g2.trans gi).trans gw
    have RB := R.gen vs g3
    have ownB : ∀ b, Own (C.bx (Own (C.bx S0 H0) σ δ) Hi2) (wipe σ vs) (dWipe δ vs) b → Own (C.bx S0 H0) σ δ b := fun b z => by
      rcases z with z | ⟨j, es, e1, _⟩
      · exact z
      · exact absurd rfl ((dWipe_get (by intro z; cases z) e1).2.2 es)
    refine ⟨_, _, _, dWipe δ vs, d, δ1, RB, Le.dp (hid_le (Le.refl _) ownB) d x dx, hg1, fun σ2 R2 o2 w2 => ⟨?_, ?_⟩⟩
    · rw [w2 vs hix]
      apply List.ext_getElem?
      intro j
      rw [wipe_get, wipe_get]
      split
      · rename_i hj
        cases σ[j]? <;> rfl
      · rename_i hj
        rfl
    refine ⟨_, _, _, δ1, R2, (t δ1).mono (fun b hb H3 g3' => ?_) (fun x hx => hx.elim) hr⟩
    cases b with
    | false => exact ⟨(gi.trans gw).trans g3', hb⟩
    | true =>
      refine ⟨_, _, _, δ1, R2.gr g3', (f δ1).mono (fun yd hy v H4 g4 dv => ?_) (fun x hx => hx.elim) hb⟩
      have g5 : Grow H2 H4 := ((gi.trans gw).trans g3').trans g4
      cases dv with
      | bl k =>
        refine ⟨k, rfl, ?_⟩
        simp only [] at hy
        by_cases c : k = on
        · rw [if_pos c] at hy ⊢
          exact ⟨g5, hy⟩
        · rw [if_neg c] at hy ⊢
          have e : k = !on := by
            cases k <;> cases on <;> simp_all
          rw [← e]
          exact hy (.bl k) H4 (g2.trans g5) (.bl k)
      | _ => exact hy.elim
  · have e : i = ds.length := by omega
    subst e
    rw [List.drop_length] at hr
    have hr : Dv (C.bx S0 H0) σ H δ Q (.bool on) := hr
    exact .inl ⟨w.stops Hi gp, hr (.bl on) Hi (g2.trans gi) (.bl on)⟩
section
variable {X : Cx} {C : Cs} {W : WX} {c P : Addr} {elt tg iter : Expr} {ifs : List Expr} {p pos gpos : Pos} {scope : Scope} {own : List (Str × Nat)} {fi : De → Wp (List D)} {g : BF} {ix : List Nat} {t : TF} {f : DF} {k : Nat}
theorem de_allG (hr : Room k X.A) (hg : Gl X "all") (hm : X.mg "all" = none) (TB : GxR.TabB X.base X.mg c P) (hP : P ∈ C.T) (hcode : X.env.code = .ref c) (ok : GOk X.N X.env.scope scope own) (hix : ∀ i ∈ ix, i ∈ own.map (·.2)) (hN : X.N.Nodup) (hi : DI X C W tg iter fi)
    (pg : GFr X scope fun Y => DG Y C tg ix g) (pt : GFr X scope fun Y => DTs Y C W0 ifs t) (pe : GFr X scope fun Y => DE Y C W0 elt f) (hs : ∀ v, genFold iter X.env v = pure v := by intro _; rfl) :
    DE X C W (.Call (.Name "all" p) [.GeneratorExp elt [⟨tg, iter, ifs, 0⟩] scope gpos] [] pos) (dGa true fi g t f (own.map (·.2))) := by
  obtain ⟨wi, pw, qw⟩ := hi
  exact ⟨_, pe_allG hr hg hm TB hcode ok hN pw (fun s H C c fp pn => (pg s H C c fp pn).to) pt (fun s H C c fp pn => (pe s H C c fp pn).to) hs, fun S0 H0 Pb σ H δ Q R h => ga_read hP qw hix R h⟩
theorem de_anyG (hr : Room k X.A) (hg : Gl X "any") (hm : X.mg "any" = none) (TB : GxR.TabB X.base X.mg c P) (hP : P ∈ C.T) (hcode : X.env.code = .ref c) (ok : GOk X.N X.env.scope scope own) (hix : ∀ i ∈ ix, i ∈ own.map (·.2)) (hN : X.N.Nodup) (hi : DI X C W tg iter fi)
    (pg : GFr X scope fun Y => DG Y C tg ix g) (pt : GFr X scope fun Y => DTs Y C W0 ifs t) (pe : GFr X scope fun Y => DE Y C W0 elt f) (hs : ∀ v, genFold iter X.env v = pure v := by intro _; rfl) :
    DE X C W (.Call (.Name "any" p) [.GeneratorExp elt [⟨tg, iter, ifs, 0⟩] scope gpos] [] pos) (dGa false fi g t f (own.map (·.2))) := by
  obtain ⟨wi, pw, qw⟩ := hi
  exact ⟨_, pe_anyG hr hg hm TB hcode ok hN pw (fun s H C c fp pn => (pg s H C c fp pn).to) pt (fun s H C c fp pn => (pe s H C c fp pn).to) hs, fun S0 H0 Pb σ H δ Q R h => ga_read hP qw hix R h⟩
end
end Tr

namespace Tr
open PySem PySem.Spec L2
variable [ProtC]

section
variable {X : Cx} {C : Cs} {W : WX} {pos : Pos}
def sRow (i j : Nat) : SF := fun δ => (slotV δ[j]?).bind fun v => match v with
  | .ref a => (Wp.any fun (_ : Addr) => True).bind fun r => .pure (.nx (δ.set i (.t r (RowP r a))))
  | _ => .stuck
theorem Rep.setT {B : Bx} {Pb : Hp} {σ : St} {H G : Hp} {δ : De} {i : Nat} {a : Addr} {φ : Heap → Prop} (R : Rep B Pb σ H δ) (g : Grow H G) (na : H a = none) (ha : G a = some (.ext φ)) : Rep B Pb (σ.set i (some (.ref a))) G (δ.set i (.t a φ)) := by
  have R' := R.gr g
  have sub : ∀ b, Own B (σ.set i (some (.ref a))) (δ.set i (.t a φ)) b → Own B σ δ b := fun b z => by
    rcases z with z | ⟨j, es, e1, e2⟩
    · exact .inl z
    · rcases get_set_cases e1 with ⟨rfl, h1, h2⟩ | ⟨h1, h2⟩
      · cases h1
      · rw [List.getElem?_set_ne h1] at e2
        exact .inr ⟨j, es, h2, e2⟩
  have le : Le (hid (Own B σ δ) G) (hid (Own B (σ.set i (some (.ref a))) (δ.set i (.t a φ))) G) := hid_le (Le.refl G) sub
  have no : ¬ Own B (σ.set i (some (.ref a))) (δ.set i (.t a φ)) a := fun z => R.odom a (sub a z) na
  refine ⟨R'.ph.trans le, by rw [List.length_set, List.length_set]; exact R.len, R'.grow, R.dom, R'.tabs, fun j e h => ?_, fun j es h => ?_, fun j k es fs b h1 h2 h3 h4 => ?_, fun j x h => ?_, fun j b ψ h => ?_, R.scr⟩
  · rcases get_set_cases h with ⟨rfl, h1, h2⟩ | ⟨h1, h2⟩
    · cases h1
    · obtain ⟨u, q1, q2⟩ := R'.pers j e h2
      exact ⟨u, by rw [List.getElem?_set_ne h1]; exact q1, Le.dp le _ u q2⟩
  · rcases get_set_cases h with ⟨rfl, h1, h2⟩ | ⟨h1, h2⟩
    · cases h1
    · obtain ⟨b, ys, q1, q2, q3, q4⟩ := R'.own j es h2
      exact ⟨b, ys, by rw [List.getElem?_set_ne h1]; exact q1, q2, q3, Le.dps le _ ys q4⟩
  · rcases get_set_cases h1 with ⟨e1, z1, l1⟩ | ⟨n1, g1⟩
    · cases z1
    · rcases get_set_cases h2 with ⟨e2, z2, l2⟩ | ⟨n2, g2⟩
      · cases z2
      · rw [List.getElem?_set_ne n1] at h3
        rw [List.getElem?_set_ne n2] at h4
        exact R.uniq j k es fs b g1 g2 h3 h4
  · rcases get_set_cases h with ⟨_, z, _⟩ | ⟨n1, g1⟩
    · cases z
    · rw [List.getElem?_set_ne n1]
      exact R.val j x g1
  · rcases get_set_cases h with ⟨rfl, z, l1⟩ | ⟨n1, g1⟩
    · cases z
      refine ⟨List.getElem?_set_self (by rw [R.len]; exact l1), ?_⟩
      rw [hid_in no]
      exact ha
    · rw [List.getElem?_set_ne n1]
      exact ⟨(R'.trk j b ψ g1).1, le b _ (R'.trk j b ψ g1).2 fun ps z => by cases z⟩
theorem ds_row {i j : Nat} {x y : Str} {p1 p2 p3 p4 p5 p6 : Pos} {c : Int} {j1 j2 j3} (hc : 0 ≤ c ∧ c < 4294967296) (hN : X.N.Nodup) (hi : X.N[i]? = some x) (hx : Loc X.env.scope x) (hj : X.N[j]? = some y) (hv : Vis X.env.scope y)
    (hs : swapsWith (.List [.Name y p2, .Constant (.int 0) j1 p3, .Constant (.int c) j2 p4, .Constant (.int 0) j3 p5] p6) (some (.Name x p1)) pos.line X.env = pure false := by rfl)
    (hd : (y == ("__debug__" : Str)) = false := by decide) (hcd : (y == ("__classdict__" : Str)) = false := by decide)
    (hst : starEach [.Name y p2, .Constant (.int 0) j1 p3, .Constant (.int c) j2 p4, .Constant (.int 0) j3 p5] X.env = (false, eval (.Name y p2) X.env) :: starEach [.Constant (.int 0) j1 p3, .Constant (.int c) j2 p4, .Constant (.int 0) j3 p5] X.env := by rfl)
    (hf : X.fn x = true ∨ X.env.scope.names.lookup x = some .local := by first | exact .inl rfl | exact .inr rfl | assumption) :
    DS X C W (.Assign [.Name x p1] (.List [.Name y p2, .Constant (.int 0) j1 p3, .Constant (.int c) j2 p4, .Constant (.int 0) j3 p5] p6) pos) (sRow i j) := by
  refine ⟨_, ps_mkRow (ps_set hN hi hx (pe_lst (pa_cons (pe_var hj hv hd hcd) (pa_cons pe_int (pa_cons pe_int (pa_cons pe_int pa_nil))) hst)) hs hf), fun S0 H0 Pb σ H δ E R h => ?_⟩
  unfold sRow slotV at h
  split at h
  · rename_i v e
    have h0 := R.val j v e
    cases v with
    | ref a =>
      refine ⟨_, h0, by show 4 ≤ sizeLine; decide, fun p np => ?_⟩
      refine ⟨p, a, 0, c, 0, ⟨by omega, hc.1, hc.2⟩, upd_same, ?_⟩
      have h1 := h p trivial
      have e2 : upd (upd H p (.lst [.ref a, .int 0, .int c, .int 0])) p (.ext (RowP p a)) = upd H p (.ext (RowP p a)) := by
        funext b
        by_cases hb : b = p
        · rw [hb, upd_same, upd_same]
        · rw [upd_ne hb, upd_ne hb, upd_ne hb]
      show E.nx _ (upd (upd H p (.lst [.ref a, .int 0, .int c, .int 0])) p (.ext (RowP p a)))
      rw [e2]
      exact h1 _ _ (R.setT (Grow.new np) np upd_same)
    | _ => exact h.elim
  · exact h.elim
end
abbrev tIxC (K : PySem.W.Frag) (k : Int) : TE := tOp (rIx K) (tVar 0) (tC (.int k))
abbrev rInt1 : List V → Hp → VK → Prop := fun xs H Q => (∃ i, xs = [V.int i] ∧ Q (V.int i) H) ∨ ∃ k, xs = [V.bl k] ∧ Q (V.int (if k = true then 1 else 0)) H
abbrev tI1 (e : TE) : TE := tCB rInt1 (tCons e tNil)
abbrev rMod1 : R2 := rI (fun _ j => 0 < j) fun i j => .int (i % j)
abbrev rFdv1 : R2 := rI CDivW fun i j => .int (i / j)
abbrev rMul1 : R2 := rI CMulW fun i j => .int (i * j)
abbrev rAdd1 : R2 := rI0 fun i j => .int (i + j)
abbrev tPut (k : Int) (e : TE) : TS := tAsg e (gSub (tVar 0) (tC (.int k)) rSetL)
def t_taken (K : PySem.W.Frag) : TS :=
  tSeq (tIfS (tTest (tOp (rI0 fun i j => .bl (decide (j < i))) (tIxC K 3) (tC (.int 0)))) (tSeq (tAsg (tOp rMod1 (tI1 (tIxC K 3)) (tVar 1)) (gName 2)) (tSeq (tPut 3 (tOp rFdv1 (tIxC K 3) (tVar 1))) (tRet (tVar 2)))) tNext)
  (tSeq (tPut 1 (tOp rAdd1 (tIxC K 1) (tC (.int 1))))
  (tSeq (tIfS (tTest (tOp (rI0 fun i j => .bl (decide (j < i))) (tIxC K 1) (tCB (fun xs H Q => ∃ x n, xs = [x] ∧ LenV K x H n ∧ Q (.int n) H) (tCons (tIxC K 0) tNil))))
    (tSeq (tPut 2 (tOp rMod1 (tI1 (tOp rAdd1 (tOp rMul1 (tIxC K 2) (tC (.int 48271))) (tC (.int 11)))) (tC (.int 2147483647)))) (tRet (tOp rMod1 (tI1 (tOp rFdv1 (tIxC K 2) (tC (.int 7)))) (tVar 1)))) tNext)
  (tSeq (tAsg (tOp (rIx K) (tIxC K 0) (tOp (rI0 fun i j => .int (i - j)) (tIxC K 1) (tC (.int 1)))) (gName 3))
  (tSeq (tPut 2 (tOp rMod1 (tI1 (tOp rAdd1 (tOp rAdd1 (tOp rMul1 (tIxC K 2) (tC (.int 48271))) (tVar 3)) (tC (.int 11)))) (tC (.int 2147483647))))
  (tSeq (tIfS (tTest (tOp (rI0 fun i j => .bl (decide (j ≤ i))) (tVar 3) (tOp (rI CPow fun i j => .int (i ^ j.toNat)) (tC (.int 10)) (tC (.int 18))))) (tPut 3 (tOp rFdv1 (tVar 3) (tVar 1))) tNext)
  (tRet (tOp rMod1 (tI1 (tVar 3)) (tVar 1))))))))
section
variable {K : PySem.W.Frag} {r a : Addr} {ns : List Int} {m : Int} {σ : St} {G : Hp} {Q : VK} {D : Ends} {i j k : Int}
theorem ixc {k : Int} {v : V} {xs : List V} (h0 : σ[0]? = some (some (.ref r))) (hg : G r = some (.lst xs)) (e : atI xs k = some v) (q : Q v G) : tIxC K k σ G Q := ⟨_, h0, .inl ⟨r, xs, k, v, rfl, rfl, SqL.of hg, e, q⟩⟩
theorem put {k : Int} {n : Nat} {v : V} {xs : List V} (h0 : σ[0]? = some (some (.ref r))) (hg : G r = some (.lst xs)) (e : ixN xs.length k = some n) (q : D.nx σ (upd G r (.lst (xs.set n v)))) : gSub (tVar 0) (tC (.int k)) rSetL v σ G D.nx := ⟨_, h0, r, xs, k, n, rfl, rfl, hg, e, q⟩
theorem cMulRow {j : Int} (h0 : 0 ≤ j) (h1 : j < 4294967296) : CMulW j 48271 := by
  have h2 : j.natAbs.log2 < 32 := by
    rcases Nat.eq_zero_or_pos j.natAbs with z | z
    · rw [z]; decide
    · exact (Nat.log2_lt (by omega)).mpr (by show j.natAbs < 2 ^ 32; omega)
  have h3 : (48271 : Int).natAbs.log2 = 15 := by decide +kernel
  show j.natAbs.log2 + (48271 : Int).natAbs.log2 < 1000000
  rw [h3]
  omega
theorem cDiv30 {i m : Int} (h0 : 0 < m) (h1 : m < 1073741824) : CDivW i m := by
  refine ⟨h0, ?_⟩
  have : m.natAbs.log2 < 30 := (Nat.log2_lt (by omega)).mpr (by show m.natAbs < 2 ^ 30; omega)
  omega
def RowAt (G : Hp) (r a : Addr) : Prop := ∃ i j k, RowI i j ∧ G r = some (rowL a i j k)
theorem iftt {c : Prop} [Decidable c] {A B : Prop} (h1 : c → A) (h2 : ¬ c → B) : if decide c = true then A else B := by
  by_cases h : c
  · rw [if_pos (decide_eq_true h)]
    exact h1 h
  · rw [if_neg (by simpa using h)]
    exact h2 h
theorem taken_runs (hm : 0 < m ∧ m < 1073741824) (hi : RowI i j) (hG : G r = some (rowL a i j k)) (hS : ∀ G', (∀ b, b ≠ r → G' b = G b) → SqL K G' a (ns.map V.int))
    (hD : ∀ n G', 0 ≤ n → n < m → (∀ b, b ≠ r → G' b = G b) → RowAt G' r a → D.rt (.int n) G') : t_taken K D [some (.ref r), some (.int m), none, none] G := by
  have md : ∀ x : Int, 0 ≤ x % m ∧ x % m < m := fun x => ⟨Int.emod_nonneg _ (by omega), Int.emod_lt_of_pos _ hm.1⟩
  have m2 : ∀ x : Int, 0 ≤ x % 2147483647 ∧ x % 2147483647 < 4294967296 := fun x => ⟨Int.emod_nonneg _ (by decide), by have := Int.emod_lt_of_pos x (show (0 : Int) < 2147483647 by decide); omega⟩
  have hdv : ∀ x, CDivW x m := fun x => cDiv30 hm.1 hm.2
  have h7 : ∀ x, CDivW x 7 := fun x => cDiv30 (by decide) (by decide)
  have hp : CPow 10 18 := ⟨by decide, by decide, by decide +kernel⟩
  have hmul := cMulRow hi.2.1 hi.2.2
  have ne : ∀ {G' : Hp} {u : HO}, (∀ b, b ≠ r → G' b = G b) → ∀ b, b ≠ r → upd G' r u b = G b := fun h b hb => by rw [upd_ne hb]; exact h b hb
  refine ixc rfl hG rfl ⟨_, _, rfl, rfl, _, rfl, iftt (fun c => ?_) fun c => ?_⟩
  · refine ixc rfl hG rfl (.inl ⟨_, rfl, _, rfl, _, _, rfl, rfl, hm.1, ?_⟩)
    refine ixc rfl hG rfl ⟨_, rfl, _, _, rfl, rfl, hdv _, ?_⟩
    refine ⟨_, rfl, r, _, 3, 3, rfl, rfl, hG, rfl, ?_⟩
    exact ⟨_, rfl, hD _ _ (md k).1 (md k).2 (fun b hb => upd_ne hb) ⟨i, j, k / m, hi, upd_same⟩⟩
  · refine ixc rfl hG rfl ⟨_, _, rfl, rfl, ?_⟩
    refine ⟨_, rfl, r, _, 1, 1, rfl, rfl, hG, rfl, ?_⟩
    have n1 : ∀ b, b ≠ r → upd G r (rowL a (i + 1) j k) b = G b := fun b hb => upd_ne hb
    have g1 : upd G r (rowL a (i + 1) j k) r = some (rowL a (i + 1) j k) := upd_same
    have i1 : RowI (i + 1) j := ⟨by have := hi.1; omega, hi.2⟩
    revert n1 g1
    show (∀ b, b ≠ r → upd G r (.lst [.ref a, .int (i + 1), .int j, .int k]) b = G b) → upd G r (.lst [.ref a, .int (i + 1), .int j, .int k]) r = some (rowL a (i + 1) j k) → _
    show _ → _ → tSeq _ _ D _ (upd G r (.lst [.ref a, .int (i + 1), .int j, .int k]))
    generalize upd G r (.lst [.ref a, .int (i + 1), .int j, .int k]) = G1
    intro n1 g1
    refine ixc rfl g1 rfl (ixc rfl g1 rfl ⟨_, ns.length, rfl, ?_, _, _, rfl, rfl, _, rfl, iftt (fun c2 => ?_) fun c2 => ?_⟩)
    · exact .inl ⟨_, hS G1 n1, by rw [List.length_map]⟩
    · refine ixc rfl g1 rfl ⟨_, _, rfl, rfl, hmul, _, _, rfl, rfl, .inl ⟨_, rfl, _, _, rfl, rfl, (by show (0 : Int) < 2147483647; decide), ?_⟩⟩
      refine ⟨_, rfl, r, _, 2, 2, rfl, rfl, g1, rfl, ?_⟩
      refine ixc (xs := [.ref a, .int (i + 1), .int ((j * 48271 + 11) % 2147483647), .int k]) rfl upd_same rfl ⟨_, _, rfl, rfl, h7 _, .inl ⟨_, rfl, _, rfl, _, _, rfl, rfl, hm.1, ?_⟩⟩
      exact hD _ _ (md _).1 (md _).2 (ne n1) ⟨i + 1, _, k, ⟨i1.1, m2 _⟩, upd_same⟩
    · have c3 : i + 1 ≤ (ns.length : Int) := by omega
      obtain ⟨n, rfl⟩ : ∃ n : Nat, i = n := ⟨i.toNat, by have := hi.1; omega⟩
      have hn : n < ns.length := by omega
      have e1 : atI (ns.map V.int) ((n : Int) + 1 - 1) = some (.int ns[n]) := by
        have e0 : (n : Int) + 1 - 1 = n := by omega
        rw [e0]
        unfold atI ixN
        rw [if_pos (by omega), if_pos (by rw [List.length_map]; omega)]
        simp [hn]
      refine ixc rfl g1 rfl (ixc rfl g1 rfl ⟨_, _, rfl, rfl, .inl ⟨a, ns.map V.int, _, _, rfl, rfl, hS G1 n1, e1, ?_⟩⟩)
      refine ixc rfl g1 rfl ⟨_, _, rfl, rfl, hmul, _, rfl, _, _, rfl, rfl, _, _, rfl, rfl, .inl ⟨_, rfl, _, _, rfl, rfl, (by show (0 : Int) < 2147483647; decide), ?_⟩⟩
      refine ⟨_, rfl, r, _, 2, 2, rfl, rfl, g1, rfl, ?_⟩
      refine ⟨_, rfl, _, _, rfl, rfl, hp, _, _, rfl, rfl, _, rfl, iftt (fun c4 => ?_) fun c4 => ?_⟩
      · refine ⟨_, rfl, _, rfl, _, _, rfl, rfl, hdv _, ?_⟩
        refine ⟨_, rfl, r, [.ref a, .int (n + 1), .int ((j * 48271 + ns[n] + 11) % 2147483647), .int k], 3, 3, rfl, rfl, upd_same, rfl, ?_⟩
        refine ⟨_, rfl, .inl ⟨_, rfl, _, rfl, _, _, rfl, rfl, hm.1, ?_⟩⟩
        exact hD _ _ (md _).1 (md _).2 (ne (ne n1)) ⟨n + 1, _, _, ⟨i1.1, m2 _⟩, upd_same⟩
      · refine ⟨_, rfl, .inl ⟨_, rfl, _, rfl, _, _, rfl, rfl, hm.1, ?_⟩⟩
        exact hD _ _ (md _).1 (md _).2 (ne n1) ⟨n + 1, _, k, ⟨i1.1, m2 _⟩, upd_same⟩
end
theorem taken_ok {P : Program} {w : World} {C : Cs} {base : Heap} {x qual : Str} {params : Arguments} {body : List Stmt} {scope : Scope} {fa : Addr} {fd : FuncData} {x1 x2 x3 x4 : Str} {k : Nat}
    (F : FunD C.K x qual params body scope [] [] fa fd) (S : FnScope [x1, x2, x3, x4] [x1, x2] scope) (hb : ∀ (cdv : Value) (A : Around) (outer : List Env) (s : Shared) (H : Hp) (E : XK), PSs (cxOf (L2.CX P w) P w C.K C.mg base [x1, x2, x3, x4] qual scope fa cdv A outer s H E) body (t_taken C.K)) :
    FnOk P w C.K C.mg base (L2.CX P w) (k + 1) fa fd [x1, x2] (spD C 2 (fTaken C)) := by
  refine F.ok S spD_len fun cdv A outer s H vs Q E hr ⟨Sx, as, hn, dom, tabs, scr, ok, hw⟩ => ⟨tRow (t_taken C.K), pss_row (hb cdv A outer s H E), ?_⟩
  unfold fTaken at hw
  split at hw
  · rename_i r φ m
    obtain ⟨⟨⟨q, hq, rfl, hl⟩, h1, h2⟩, hk⟩ := hw
    match vs, ok with
    | [v, u], ⟨d1, d2, _⟩ =>
      obtain ⟨rfl, hr1⟩ := d1
      have d2 : Dp C.K (hid Sx H) u (.int m) := d2
      cases d2
      have hH := (of_hid hr1).2
      refine ⟨r, q.1, hH, fun i j k hi => ?_⟩
      refine taken_runs (ns := q.2) (i := i) (j := j) (k := k) ⟨h1, h2⟩ hi upd_same (fun G' hG' => ?_) fun n G' n0 nm hG' hR => ?_
      · rcases scr.1 q hq with z | z
        · refine .inl ?_
          rcases z with z | ⟨o, z⟩
          · exact .inl (by rw [hG' _ (ne_of z hH fun y => by cases y), upd_ne (ne_of z hH fun y => by cases y)]; exact z)
          · exact .inr ⟨o, by rw [hG' _ (ne_of z hH fun y => by cases y), upd_ne (ne_of z hH fun y => by cases y)]; exact z⟩
        · exact .inr z
      · obtain ⟨i', j', k', hi', hG⟩ := hR
        have e : upd G' r (.ext (RowP r q.1)) = H := by
          funext b
          by_cases hb : b = r
          · rw [hb, upd_same, hH]
          · rw [upd_ne hb, hG' b hb, upd_ne hb]
        refine ⟨i', j', k', hi', hG, ?_⟩
        rw [e]
        exact hk (.int n) ⟨n, rfl, n0, nm⟩ (.int n) H (Grow.refl H) (.int n)
    | [], ok => exact ok.elim
    | [_], ok => exact ok.2.elim
    | _ :: _ :: _ :: _, ok => exact ok.2.2.elim
  · exact hw.elim
end Tr

namespace Tr
open PySem PySem.Spec L2
variable [ProtC]

structure Dn (P : Program) (w : World) (C : Cs) (base : Heap) (x : Str) (n k : Nat) (F : List Ar → Wp D) : Prop where
  ex : ∃ (fa : Addr) (fd : FuncData) (ps : List Str), C.mg x = some (.ref fa) ∧ PySem.W.keepIn C.K (.ref fa) = true ∧ Binds C.K fd ps [] ∧ FnOk P w C.K C.mg base (L2.CX P w) k fa fd ps (spD C n F)
section
variable {X : Cx} {C : Cs} {W : WX} {pos p : Pos} {e : Expr} {es : List Expr} {r : AF} {x : Str} {k k' n : Nat} {F : List Ar → Wp D}
theorem de_callN (hK : C.K = X.K) (hmg : C.mg = X.mg) (tk : Takes X W) (G : Dn X.prog X.w C X.base x n k F) (hr : Room k' X.A) (hk : k ≤ k') (hg : Gl X x) (ha : DA X C W (e :: es) r)
    (hdb : (x == ("__debug__" : Str)) = false := by decide) (he : starEach (e :: es) X.env = (false, eval e X.env) :: starEach es X.env := by rfl) (hpl : (backTo pos (starEach es X.env)).any (·.1) = false := by rfl) :
    DE X C W (.Call (.Name x p) (e :: es) [] pos) (dCall n F r) := by
  obtain ⟨fa, fd, ps, h1, h2, h3, h4⟩ := G.ex
  rw [hK, hmg] at h4
  rw [hK] at h2 h3
  rw [hmg] at h1
  exact de_call hK tk h4 (hr.mono hk) hg h1 h2 h3 ha hdb he hpl
variable {a b : Expr} {f g : DF}
theorem dt_lt (ha : DE X C W a f) (hb : DE X C W b g) : DT X C W (.Compare a [.Lt] [b] pos) (tBv (d2 dLt f g)) := dt_cmp op_lt (o2_0 fun _ _ _ => .bl _) (nomark _) ha hb
theorem dt_le (ha : DE X C W a f) (hb : DE X C W b g) : DT X C W (.Compare a [.LtE] [b] pos) (tBv (d2 dLe f g)) := dt_cmp op_le (o2_0 fun _ _ _ => .bl _) (nomark _) ha hb
theorem dt_gt (ha : DE X C W a f) (hb : DE X C W b g) : DT X C W (.Compare a [.Gt] [b] pos) (tBv (d2 dGt f g)) := dt_cmp op_gt (o2_0 fun _ _ _ => .bl _) (nomark _) ha hb
theorem dt_eq (hK : C.K = X.K) (hr : Room k X.A) (ha : DE X C W a f) (hb : DE X C W b g) : DT X C W (.Compare a [.Eq] [b] pos) (tBv (d2 dEq f g)) := dt_cmp (op_eqD hr.units) (by rw [← hK]; exact o2_eq) (nomark _) ha hb
theorem dt_ne (hK : C.K = X.K) (hr : Room k X.A) (ha : DE X C W a f) (hb : DE X C W b g) : DT X C W (.Compare a [.NotEq] [b] pos) (tBv (d2 dNe f g)) := dt_cmp (op_neD hr.units) (by rw [← hK]; exact o2_ne) (nomark _) ha hb
end
section
variable {P : Program} {w : World} {C : Cs} {base : Heap} {x qual : Str} {params : Arguments} {body : List Stmt} {scope : Scope} {fa : Addr} {fd : FuncData} {N ps : List Str} {k : Nat} {bd : SF}
abbrev cxN (P : Program) (w : World) (C : Cs) (base : Heap) (N : List Str) (qual : Str) (scope : Scope) (fa : Addr) (cdv : Value) (A : Around) (outer : List Env) (s : Shared) (H : Hp) (E : XK) : Cx := cxOf (L2.CX P w) P w C.K C.mg base N qual scope fa cdv A outer s H E
abbrev wxN (E : XK) : WX := fun cls d _ H' => E cls d H'
theorem takesN {cdv : Value} {A : Around} {outer : List Env} {s : Shared} {H : Hp} {E : XK} : Takes (cxN P w C base N qual scope fa cdv A outer s H E) (wxN E) := takes_of rfl rfl rfl rfl
theorem ownsN {cdv : Value} {A : Around} {outer : List Env} {s : Shared} {H : Hp} {E : XK} : PassesOwn (model P w) (cxN P w C base N qual scope fa cdv A outer s H E).A (cxN P w C base N qual scope fa cdv A outer s H E).env (cxN P w C base N qual scope fa cdv A outer s H E).xe :=
  passes_of (X := cxN P w C base N qual scope fa cdv A outer s H E) rfl
theorem takes0 {X : Cx} : Takes X W0 := LamX.takes0
theorem Dn.mk' (F : FunD C.K x qual params body scope [] [] (He.ga C.K x) fd) (S : FnScope N ps scope) (hg : C.mg x = some (.ref (He.ga C.K x))) (hn : ps.length = n)
    (hbi : ∀ (kV doc pm : Value) (an : Option Addr) (cdv ct : Value) (us : List Value), us.length = ps.length → bindArgs (PySem.W.fnOf x qual params body scope .none kV doc pm an cdv ct) ⟨us, []⟩ = pure (ps.zip us))
    (hb : ∀ (A : Around) (outer : List Env) (s : Shared) (H : Hp) (E : XK), Room k (A.deeper (PyProof.Rows.envOfC qual scope s.heap.objs.size (He.ga C.K x) (.ref (He.codeOf C.K (x, none))))) →
      DSs (cxN P w C base N qual scope (He.ga C.K x) (.ref (He.codeOf C.K (x, none))) A outer s H E) C (wxN E) body bd) :
    Dn P w C base x n (k + 1) (dRun N.length bd) := by
  refine ⟨_, fd, ps, hg, F.kp, F.bindsN hbi, ?_⟩
  subst hn
  obtain ⟨oc, od, dV, kV, doc, pm, an, cdv, ct, osl, rfl, lk, hcd, _, _⟩ := F.ex
  obtain ⟨c, hc⟩ := He.codeIn_ref hcd
  have ec : He.codeOf C.K (x, none) = c := He.codeOf_eq (p := (x, none)) lk hc
  subst hc
  rw [ec] at hb
  refine fn_of lk hcd S spD_len fun A outer s H vs Q E hr ⟨Sx, as, hn, dom, tabs, scr, ok, hw⟩ => ?_
  obtain ⟨t, p, q⟩ := hb A outer s H E hr
  refine ⟨t, p, q Sx H (hid Sx H) (L2.start N vs) H (dStart N.length as) _ (start_rep dom tabs scr ok) ((bd (dStart N.length as)).mono (fun o ho => ?_) (fun y hy cls dc σ G g ex => hy cls dc G g ex) hw)⟩
  cases o with
  | nx δ' => exact fun σ' H' R' => ho .non H' R'.grow .non
  | rt d => exact ho
  | bk δ' => exact ho.elim
  | ct δ' => exact ho.elim
theorem Dn.taken {x1 x2 x3 x4 : Str} (F : FunD C.K x qual params body scope [] [] (He.ga C.K x) fd) (S : FnScope [x1, x2, x3, x4] [x1, x2] scope) (hg : C.mg x = some (.ref (He.ga C.K x)))
    (hbi : ∀ (kV doc pm : Value) (an : Option Addr) (cdv ct : Value) (us : List Value), us.length = 2 → bindArgs (PySem.W.fnOf x qual params body scope .none kV doc pm an cdv ct) ⟨us, []⟩ = pure ([x1, x2].zip us))
    (hb : ∀ (cdv : Value) (A : Around) (outer : List Env) (s : Shared) (H : Hp) (E : XK), PSs (cxN P w C base [x1, x2, x3, x4] qual scope (He.ga C.K x) cdv A outer s H E) body (t_taken C.K)) :
    Dn P w C base x 2 (k + 1) (fTaken C) := ⟨_, fd, [x1, x2], hg, F.kp, F.bindsN (ps := [x1, x2]) hbi, taken_ok F S hb⟩
end
def dNeg : D → Wp D
  | .int i => .pure (.int (-i))
  | _ => .stuck
section
variable {X : Cx} {C : Cs} {W : WX} {pos : Pos} {a : Expr} {f : DF}
theorem de_neg (ha : DE X C W a f) : DE X C W (.UnaryOp .USub a pos) (d1 dNeg f) := by
  obtain ⟨t, pt, q⟩ := ha
  refine ⟨_, pe_un un_neg pt, fun S0 H0 Pb σ H δ Q R h => q S0 H0 Pb σ H δ _ R ((f δ).mono (fun d h v G g dp => ?_) (fun _ z => z) h)⟩
  cases dp with
  | int i => exact ⟨i, rfl, h _ G g (.int _)⟩
  | _ => exact h.elim
theorem de_globI {x : Str} {i : Int} (hg : Gl X x) (hm : ∃ t, X.mg x = some (.int i t)) (hd : (x == ("__debug__" : Str)) = false := by decide) : DE X C W (.Name x pos) (dC (.int i)) := by
  obtain ⟨t, hm⟩ := hm
  exact de_glob (v := .int i) hg hm ⟨t, rfl⟩ (fun _ => .int i) hd
end
end Tr

namespace Tr
open PySem PySem.Spec L2
variable [ProtC]

section
variable {X : Cx} {C : Cs} {W : WX} {pos : Pos} {i j : Nat} {x y : Str} {a b : Expr} {px py pt : Pos} {kt k2 pt2} {f : DF} {fl fl2 : De → Wp (List D)}
def sParDO (i j : Nat) (f : DF) (fl : De → Wp (List D)) : SF := fun δ => (f δ).bind fun d => (fl δ).bind fun ds => .pure (.nx ((δ.set j (.o ds)).set i (.p d)))
def sParOD (i j : Nat) (fl : De → Wp (List D)) (f : DF) : SF := fun δ => (fl δ).bind fun ds => (f (dWipe δ [])).nox.bind fun d => .pure (.nx ((δ.set i (.o ds)).set j (.p d)))
theorem ds_parDO (hc : X.calm = true) (hN : X.N.Nodup) (hi : X.N[i]? = some x) (hj : X.N[j]? = some y) (hij : i ≠ j)
    (hx : X.env.scope.names.lookup x = some .local) (hy : X.env.scope.names.lookup y = some .local) (ha : DE X C W a f) (hb : DN X C W b fl) (hw : swappedStores [.Tuple [.Name x px, .Name y py] kt pt] (.Tuple [a, b] k2 pt2) X.env = pure (some [x, y]))
    (hs : swapsWithSole [.Tuple [.Name x px, .Name y py] kt pt] (.Tuple [a, b] k2 pt2) pos.line X.env = pure false := by rfl)
    (h1 : starEach [a, b] X.env = (false, eval a X.env) :: starEach [b] X.env := by rfl) (h2 : starEach [b] X.env = (false, eval b X.env) :: starEach [] X.env := by rfl) :
    DS X C W (.Assign [.Tuple [.Name x px, .Name y py] kt pt] (.Tuple [a, b] k2 pt2) pos) (sParDO i j f fl) := by
  obtain ⟨t, p, q⟩ := ha
  obtain ⟨u, p2, q2⟩ := hb
  refine ⟨_, ps_par hc hN hi hj hij hx hy (pa_cons p (pa_cons p2 pa_nil h2) h1) hw hs, fun S0 H0 Pb σ H δ E R h => q S0 H0 Pb σ H δ _ R ((f δ).mono (fun d h v G g dp => ?_) (fun _ z => z.ew R) h)⟩
  have R1 := R.gr g
  refine q2 S0 H0 Pb σ G δ _ R1 ((fl δ).mono (fun ds h l xs G2 g2 na hl dps => ?_) (fun _ z => z.ew R1) h)
  refine ⟨_, _, rfl, ?_⟩
  have le := (R1.top.setO (i := j) g2 na hl dps).ph
  have R2 := R1.setO (i := j) g2 na hl dps
  rw [List.set_comm _ _ hij]
  exact h _ G2 (R2.setP (i := i) (Le.dp le d v dp))
theorem ds_parOD (hc : X.calm = true) (hN : X.N.Nodup) (hi : X.N[i]? = some x) (hj : X.N[j]? = some y) (hij : i ≠ j)
    (hx : X.env.scope.names.lookup x = some .local) (hy : X.env.scope.names.lookup y = some .local) (ha : DN X C W a fl) (hb : DE X C W b f) (hw : swappedStores [.Tuple [.Name x px, .Name y py] kt pt] (.Tuple [a, b] k2 pt2) X.env = pure (some [x, y]))
    (hs : swapsWithSole [.Tuple [.Name x px, .Name y py] kt pt] (.Tuple [a, b] k2 pt2) pos.line X.env = pure false := by rfl)
    (h1 : starEach [a, b] X.env = (false, eval a X.env) :: starEach [b] X.env := by rfl) (h2 : starEach [b] X.env = (false, eval b X.env) :: starEach [] X.env := by rfl) :
    DS X C W (.Assign [.Tuple [.Name x px, .Name y py] kt pt] (.Tuple [a, b] k2 pt2) pos) (sParOD i j fl f) := by
  obtain ⟨t, p, q⟩ := ha
  obtain ⟨u, p2, q2⟩ := hb
  refine ⟨_, ps_par hc hN hi hj hij hx hy (pa_cons p (pa_cons p2 pa_nil h2) h1) hw hs, fun S0 H0 Pb σ H δ E R h => q S0 H0 Pb σ H δ _ R ((fl δ).mono (fun ds h l xs G g na hl dps => ?_) (fun _ z => z.ew R) h)⟩
  have RB := R.blk [] g na hl
  have h : (f (dWipe δ [])).run _ (fun _ => False) := h
  refine q2 _ _ _ σ G (dWipe δ []) _ RB ((f (dWipe δ [])).mono (fun d h v G2 g2 dp => ?_) (fun _ z => z.elim) h)
  refine ⟨_, _, rfl, ?_⟩
  have R2 := (R.setO (i := i) g na hl dps).gr g2
  refine h _ G2 (R2.setP (i := j) (Le.dp (hid_le (Le.refl G2) fun c z => ?_) d v dp))
  rcases z with z | ⟨m, es, e1, e2⟩
  · exact .inl (.inl (.inl z))
  · rcases get_set_cases e1 with ⟨e3, e4, e5⟩ | ⟨e3, e4⟩
    · subst e3
      rw [List.getElem?_set_self (by rw [R.len]; exact e5)] at e2
      cases e2
      exact .inl (.inr rfl)
    · rw [List.getElem?_set_ne e3] at e2
      exact .inl (.inl (.inr ⟨m, es, e4, e2⟩))
end
section
variable {X : Cx} {C : Cs} {W : WX} {pos : Pos} {a b : Expr} {f g : DF}
theorem dt_is (ha : DE X C W a f) (hb : DE X C W b g) : DT X C W (.Compare a [.Is] [b] pos) (tBv (d2 dIs f g)) := by
  refine dt_cmp op_isN (fun x y H d e Q S0 H0 Pb σ δ w R dx dy h => ?_) (nomark _) ha hb
  unfold dIs at h
  split at h
  · cases dy
    refine ⟨rfl, ?_⟩
    rw [isNoneD_v dx]
    exact h _ H (Grow.refl H) (.bl _)
  · exact h.elim
end
end Tr

namespace Tr
open PySem PySem.Spec L2
variable [ProtC]

section
variable {P : Program} {w : World} {C : Cs} {base : Heap} {x qual : Str} {params : Arguments} {body : List Stmt} {scope : Scope} {fd : FuncData} {N ps : List Str} {k n : Nat} {bd : SF}
theorem fnL (F : FunD C.K x qual params body scope [] [] (He.ga C.K x) fd) (S : FnScope N ps scope) (hn : ps.length = n)
    (hb : ∀ (A : Around) (outer : List Env) (s : Shared) (H : Hp) (E : XK), Room k (A.deeper (PyProof.Rows.envOfC qual scope s.heap.objs.size (He.ga C.K x) (.ref (He.codeOf C.K (x, none))))) →
      DSs (cxN P w C base N qual scope (He.ga C.K x) (.ref (He.codeOf C.K (x, none))) A outer s H E) C (wxN E) body bd) :
    FnOk P w C.K C.mg base (L2.CX P w) (k + 1) (He.ga C.K x) fd ps (spD C n (dRun N.length bd)) := by
  subst hn
  obtain ⟨oc, od, dV, kV, doc, pm, an, cdv, ct, osl, rfl, lk, hcd, _, _⟩ := F.ex
  obtain ⟨c, hc⟩ := He.codeIn_ref hcd
  have ec : He.codeOf C.K (x, none) = c := He.codeOf_eq (p := (x, none)) lk hc
  subst hc
  rw [ec] at hb
  refine fn_of lk hcd S spD_len fun A outer s H vs Q E hr ⟨Sx, as, hn, dom, tabs, scr, ok, hw⟩ => ?_
  obtain ⟨t, p, q⟩ := hb A outer s H E hr
  refine ⟨t, p, q Sx H (hid Sx H) (L2.start N vs) H (dStart N.length as) _ (start_rep dom tabs scr ok) ((bd (dStart N.length as)).mono (fun o ho => ?_) (fun y hy cls dc σ G g ex => hy cls dc G g ex) hw)⟩
  cases o with
  | nx δ' => exact fun σ' H' R' => ho .non H' R'.grow .non
  | rt d => exact ho
  | bk δ' => exact ho.elim
  | ct δ' => exact ho.elim
end
def mkC (K : PySem.W.Frag) (mg : Str → Option Value) (tg : List Addr) (np : ∀ P ∈ tg, ∀ q, ¬ ProtC.p P q) (tl : List (Addr × Str)) (pl : ∀ p ∈ tl, ProtC.p p.1 p.2) (a : Addr) (ns : List Int) : Cs := ⟨K, mg, tg, [(a, ns)], np, tl, pl, none⟩
theorem lawAt {l : PySem.W.OpenLaw} {w : World} {K : PySem.W.Frag} {mg : Str → Option Value} {fa : Addr} {h : Heap} {k : Nat} {F : Cs → List Ar → Wp D} {cs : List (Addr × Addr)} {x : Str} {fd : FuncData} {tg : List Addr} {tl : List (Addr × Str)} (np : ∀ P ∈ tg, ∀ q, ¬ ProtC.p P q) (pl : ∀ p ∈ tl, ProtC.p p.1 p.2) (htg : ∀ P ∈ tg, ∃ p ∈ cs, p.2 = P) (htl : ∀ q ∈ tl, ∃ p ∈ cs, p.2 = q.1)
    (hT : ∀ p ∈ cs, h.get? p.2 = some { cls := .none, data := .fields #[] }) (nT : ∀ p ∈ cs, K.lookup p.2 = none) (hC : ∀ p ∈ cs, PySem.W.CodeHd h p.1 p.2) (hb : ∀ (s : Shared) (u : Value), BindsTo s fd ⟨[u], []⟩ [(x, u)])
    (hF : ∀ base : Heap, K.In base → base.Ns mainGlobals mg → (∀ p ∈ cs, LamX.TabB base mg p.1 p.2) → ∀ a ns, FnOk l.prog w K mg base (L2.CX l.prog w) k fa fd [x] (spD (mkC K mg tg np tl pl a ns) 1 (F (mkC K mg tg np tl pl a ns))))
    (hl : ∀ (C : Cs) (a : Addr) (ns : List Int), (a, ns) ∈ C.Z → ns.length ≤ 63 → (∀ z ∈ ns, Builtin.Int.intBits z ≤ 1048576) → (F C [.v (.ref a)]).run (fun d => d = .bool true) (fun _ => False)) :
    LamX.LawAtS l w K (L2.CX l.prog w) k 63 x mg fa h := by
  refine ⟨fd, cs, fun vs H Q E => ∃ a ns, vs = [.ref a] ∧ spD (mkC K mg tg np tl pl a ns) 1 (F (mkC K mg tg np tl pl a ns)) vs H Q E, hT, nT, hC, hb, fun H a ns h1 h2 h3 h4 => ⟨a, ns, rfl, fun _ => False, [.v (.ref a)], rfl, fun b z => z.elim, fun P hP => ?_, ⟨fun q hq => ?_, fun q hq => ?_, fun o ho => nomatch ho⟩, ⟨rfl, trivial⟩, ?_⟩, fun base kb ns tb => ⟨fun vs H Q E ⟨a, ns, e, _⟩ => by rw [e]; rfl, fun A outer s H args us vs Q E hr e0 hbt hv ⟨a, ns, _, hs⟩ => ?_⟩⟩
  · obtain ⟨p, hp, rfl⟩ := htg P hP
    exact ⟨#[], h3 p hp, trivial⟩
  · cases List.mem_singleton.mp hq
    exact h4
  · obtain ⟨p, hp, e⟩ := htl q hq
    exact LamX.TabS.nil (by rw [← e]; exact h3 p hp)
  · refine (F (mkC K mg tg np tl pl a ns) [.v (.ref a)]).mono (fun d e v G _ dp => ?_) (fun _ z => z.elim) (hl (mkC K mg tg np tl pl a ns) a ns (List.mem_cons_self ..) h1 h2)
    subst e
    cases dp
    rfl
  · exact (hF base kb ‹_› tb a ns).run A outer s H args us vs Q E hr e0 hbt hv hs
theorem tabGx {base : Heap} {mg : Str → Option Value} {c P : Addr} (t : LamX.TabB base mg c P) : GxR.TabB base mg c P := ⟨t.code, t.bm, t.gP⟩
theorem noOut {P : Program} {w : World} {H : Hp} {s : Shared} {e : Value} {s' : Shared} (h : L2.CX P w [] H s (fun _ _ _ => False) e s') : False := by
  obtain ⟨_, _, _, _, _, _, _, _, _, _, _, _, z⟩ := h
  exact z
def dNotV (f : DF) : DF := fun δ => (tT f δ).bind fun b => .pure (.bool (!b))
def tNotV (f : TF) : TF := fun δ => (f δ).bind fun b => .pure (!b)
def sFz (i : Nat) (F : SF) : SF := fun δ => F (fz i δ)
def sDead : SF := fun _ => .stuck
def sRetN : SF := fun _ => .pure (.rt .none)
def dChain (F G : D → D → Wp D) (f g h : DF) : DF := fun δ => (f δ).bind fun d => (g δ).bind fun e => (F d e).bind fun z => (asB z).bind fun k => if k then (h δ).bind fun x => G e x else .pure (.bool false)
theorem roomG {X : Cx} {k : Nat} {env : Env} (r : Room (k + 1) X.A) : Room k ((gA X).deeper env) := ⟨r.hd, by have := r.dp; show X.A.depth + 1 + 3 * k + 5 < _; omega, by have := r.un; show X.A.units + 1 + 1 + 3 + 16 * k + 200 < _; omega⟩
end Tr

namespace Tr
open PySem PySem.Spec L2
variable [ProtC]

section
variable {A : Type} {k : D → Prop} {kb : Bool → Prop} {ko : Out → Prop} {w : Exn → Prop} {δ : De} {i j n : Nat} {f g h : DF} {t u : TF} {F G : SF} {d e : D} {as : List Ar} {r : AF}
@[simp] theorem slotP_p : slotP (some (.p d)) = .pure d := rfl
@[simp] theorem slotO_o {ds : List D} : slotO (some (.o ds)) = .pure ds := rfl
@[simp] theorem slotT_t {a : Addr} {φ : Heap → Prop} : slotT (some (.t a φ)) = .pure (a, φ) := rfl
@[simp] theorem slotV_v {x : V} : slotV (some (.v x)) = .pure x := rfl
@[simp] theorem rw_dV : dV i δ = slotP δ[i]? := rfl
@[simp] theorem rw_dC : dC d δ = .pure d := rfl
@[simp] theorem rw_d2 {B : D → D → Wp D} : d2 B f g δ = (f δ).bind fun d => (g δ).bind fun e => B d e := rfl
@[simp] theorem rw_d1 {B : D → Wp D} : d1 B f δ = (f δ).bind B := rfl
@[simp] theorem rw_int2 {c : Int → Int → Prop} {q : Int → Int → D} {a b : Int} : dInt2 c q (.int a) (.int b) = .need (c a b) (.pure (q a b)) := rfl
@[simp] theorem rw_addI {a b : Int} : dAdd (.int a) (.int b) = .pure (.int (a + b)) := rfl
@[simp] theorem rw_addT {a b : List D} : dAdd (.tuple a) (.tuple b) = .need (a.length + b.length ≤ sizeLine) (.pure (.tuple (a ++ b))) := rfl
@[simp] theorem rw_addL {a b : List D} : dAdd (.list a) (.list b) = .need (a.length + b.length ≤ sizeLine) (.pure (.list (a ++ b))) := rfl
@[simp] theorem rw_neg {a : Int} : dNeg (.int a) = .pure (.int (-a)) := rfl
@[simp] theorem rw_eq : dEq d e = .need (SeqAt.shaped d = true ∧ SeqAt.shaped e = true) (.pure (.bool (PyData.eqv d e))) := rfl
@[simp] theorem rw_ne : dNe d e = .need (SeqAt.shaped d = true ∧ SeqAt.shaped e = true) (.pure (.bool (!PyData.eqv d e))) := rfl
@[simp] theorem rw_is : dIs d .none = .pure (.bool (isNoneD d)) := rfl
@[simp] theorem rw_isNot : dIsNot d .none = .pure (.bool (!isNoneD d)) := rfl
@[simp] theorem rw_asB {b : Bool} : asB (.bool b) = .pure b := rfl
@[simp] theorem rw_tBv : tBv f δ = (f δ).bind asB := rfl
@[simp] theorem rw_tT : tT f δ = (f δ).bind truD := rfl
@[simp] theorem rw_truB {b : Bool} : truD (.bool b) = .pure b := rfl
@[simp] theorem rw_truI {a : Int} : truD (.int a) = .pure (a != 0) := rfl
@[simp] theorem rw_truL {ds : List D} : truD (.list ds) = .pure (!ds.isEmpty) := rfl
@[simp] theorem rw_truT {ds : List D} : truD (.tuple ds) = .pure (!ds.isEmpty) := rfl
@[simp] theorem rw_tAnd2 : tAnd2 t u δ = (t δ).bind fun b => if b then u δ else .pure false := rfl
@[simp] theorem rw_tOr2 : tOr2 t u δ = (t δ).bind fun b => if b then .pure true else u δ := rfl
@[simp] theorem rw_tNotV : tNotV t δ = (t δ).bind fun b => .pure (!b) := rfl
@[simp] theorem rw_dNotV : dNotV f δ = (tT f δ).bind fun b => .pure (.bool (!b)) := rfl
@[simp] theorem rw_dAndV : dAndV f g δ = (f δ).bind fun d => (truD d).bind fun b => if b then g δ else .pure d := rfl
@[simp] theorem rw_dOrV : dOrV f g δ = (f δ).bind fun d => (truD d).bind fun b => if b then .pure d else g δ := rfl
@[simp] theorem rw_dIf : dIf t f g δ = (t δ).bind fun b => if b then f δ else g δ := rfl
@[simp] theorem rw_dChain {B B' : D → D → Wp D} : dChain B B' f g h δ = (f δ).bind fun d => (g δ).bind fun e => (B d e).bind fun z => (asB z).bind fun k => if k then (h δ).bind fun x => B' e x else .pure (.bool false) := rfl
@[simp] theorem rw_aNil : aNil δ = .pure [] := rfl
@[simp] theorem rw_aCons : aCons f r δ = (f δ).bind fun d => (r δ).bind fun as => .pure (.d d :: as) := rfl
@[simp] theorem rw_aTrk : aTrk i r δ = (slotT δ[i]?).bind fun q => (r δ).bind fun as => .pure (.t q.1 q.2 :: as) := rfl
@[simp] theorem rw_aVal : aVal i r δ = (slotV δ[i]?).bind fun v => (r δ).bind fun as => .pure (.v v :: as) := rfl
@[simp] theorem rw_allD0 : allD [] = .pure [] := rfl
@[simp] theorem rw_allD1 : allD (.d d :: as) = (allD as).bind fun ds => .pure (d :: ds) := rfl
@[simp] theorem rw_dTup : dTup r δ = (r δ).bind fun as => (allD as).bind fun ds => .need (ds.length ≤ sizeLine) (.pure (.tuple ds)) := rfl
@[simp] theorem rw_dLst : dLst r δ = (r δ).bind fun as => (allD as).bind fun ds => .need (ds.length ≤ sizeLine) (.pure (.list ds)) := rfl
@[simp] theorem rw_nLst : nLst r δ = (r δ).bind fun as => (allD as).bind fun ds => .need (ds.length ≤ sizeLine) (.pure ds) := rfl
@[simp] theorem rw_dNl {fl : De → Wp (List D)} : dNl fl δ = (fl δ).bind fun ds => .pure (.list ds) := rfl
@[simp] theorem optW_some {a : A} : optW (some a) = .pure a := rfl
@[simp] theorem rw_ixL {ds : List D} {a : Int} : dIx (.list ds) (.int a) = optW (atI ds a) := rfl
@[simp] theorem rw_ixT {ds : List D} {a : Int} : dIx (.tuple ds) (.int a) = optW (atI ds a) := rfl
@[simp] theorem rw_dSl {l hh : OF} : dSl f l hh δ = (f δ).bind fun d => (l δ).bind fun lo => (hh δ).bind fun hi => dCut lo hi d := rfl
@[simp] theorem rw_oNone : oNone δ = .pure none := rfl
@[simp] theorem rw_oSome : oSome f δ = (f δ).bind asI := rfl
@[simp] theorem rw_asI {a : Int} : asI (.int a) = .pure (some a) := rfl
@[simp] theorem rw_asI1 {a : Int} : asI1 (.int a) = .pure a := rfl
@[simp] theorem rw_cutT {ds : List D} {lo hi : Option Int} : dCut lo hi (.tuple ds) = .pure (.tuple (cutD ds lo hi)) := rfl
@[simp] theorem rw_cutL {ds : List D} {lo hi : Option Int} : dCut lo hi (.list ds) = .pure (.list (cutD ds lo hi)) := rfl
@[simp] theorem rw_dCB {B : List D → Wp D} : dCB B r δ = (r δ).bind fun as => (allD as).bind B := rfl
@[simp] theorem rw_gcd {a b : Int} : bGcd [.int a, .int b] = .pure (.int ((Nat.gcd a.natAbs b.natAbs : Nat) : Int)) := rfl
@[simp] theorem rw_lenL {ds : List D} : bLen [.list ds] = .pure (.int ds.length) := rfl
@[simp] theorem rw_lenT {ds : List D} : bLen [.tuple ds] = .pure (.int ds.length) := rfl
@[simp] theorem rw_intI {a : Int} : bInt [.int a] = .pure (.int a) := rfl
@[simp] theorem rw_abs {a : Int} : bAbs [.int a] = .pure (.int (if a < 0 then -a else a)) := rfl
@[simp] theorem rw_min2 {a b : Int} : bMin2 [.int a, .int b] = .pure (.int (if b < a then b else a)) := rfl
@[simp] theorem rw_max2 {a b : Int} : bMax2 [.int a, .int b] = .pure (.int (if b > a then b else a)) := rfl
@[simp] theorem rw_isi {T : String} : dIsi T f δ = (f δ).bind fun d => (optW (isTy T d)).bind fun b => .pure (.bool b) := rfl
@[simp] theorem rw_isiT {Ts : List String} : dIsiT Ts f δ = (f δ).bind fun d => (optW (isTys Ts d)).bind fun b => .pure (.bool b) := rfl
@[simp] theorem rw_call {M : List Ar → Wp D} : dCall n M r δ = (r δ).bind fun as => .need (as.length = n) (M as) := rfl
@[simp] theorem rw_seq : sSeq F G δ = (F δ).bind fun o => match o with
  | .nx δ' => G δ'
  | o => .pure o := rfl
@[simp] theorem rw_set : sSet i f δ = (f δ).bind fun d => .pure (.nx (δ.set i (.p d))) := rfl
@[simp] theorem rw_setO {fl : De → Wp (List D)} : sSetO i fl δ = (fl δ).bind fun ds => .pure (.nx (δ.set i (.o ds))) := rfl
@[simp] theorem rw_app : sApp i f δ = (slotO δ[i]?).bind fun ds => (f δ).bind fun d => .need (ds.length < sizeLine) (.pure (.nx (δ.set i (.o (ds ++ [d]))))) := rfl
@[simp] theorem rw_ret : sRet f δ = (f δ).bind fun d => .pure (.rt d) := rfl
@[simp] theorem rw_retN : sRetN δ = .pure (.rt .none) := rfl
@[simp] theorem rw_if : sIf t F G δ = (t δ).bind fun b => if b then F δ else G δ := rfl
@[simp] theorem rw_next : sNext δ = .pure (.nx δ) := rfl
@[simp] theorem rw_drop : sDrop f δ = (f δ).bind fun _ => .pure (.nx δ) := rfl
@[simp] theorem rw_sFz : sFz i F δ = F (fz i δ) := rfl
@[simp] theorem rw_fzo {ds : List D} (h : δ[i]? = some (.o ds)) : fz i δ = δ.set i (.p (.list ds)) := by unfold fz; rw [h]
@[simp] theorem rw_fzp (h : δ[i]? = some (.p d)) : fz i δ = δ := by unfold fz; rw [h]
@[simp] theorem rw_asg {q : BF} : sAsg f q δ = (f δ).bind fun d => (optW (q d δ)).bind fun δ' => .pure (.nx δ') := rfl
@[simp] theorem rw_bName : bName i d δ = some (δ.set i (.p d)) := rfl
@[simp] theorem rw_parDO {fl : De → Wp (List D)} : sParDO i j f fl δ = (f δ).bind fun d => (fl δ).bind fun ds => .pure (.nx ((δ.set j (.o ds)).set i (.p d))) := rfl
@[simp] theorem rw_for {fi : De → Wp (List D)} {q : BF} : sFor fi q F δ = (fi δ).bind fun ds => sLoop q F ds δ := rfl
@[simp] theorem rw_loop0 {q : BF} : sLoop q F [] δ = .pure (.nx δ) := rfl
theorem rw_loop1 {q : BF} {ds : List D} : sLoop q F (d :: ds) δ = (optW (q d δ)).bind fun δ1 => (F δ1).bind fun o => match o with
    | .nx δ' => sLoop q F ds δ'
    | .ct δ' => sLoop q F ds δ'
    | .bk δ' => .pure (.nx δ')
    | .rt d => .pure (.rt d) := rfl
@[simp] theorem rw_iSeqD : iSeqD f δ = (f δ).bind seqD := rfl
@[simp] theorem rw_seqL {ds : List D} : seqD (.list ds) = .pure ds := rfl
@[simp] theorem rw_seqT {ds : List D} : seqD (.tuple ds) = .pure ds := rfl
@[simp] theorem rw_rg1 : iRgD1 f δ = (f δ).bind fun d => (asI1 d).bind fun j => .need (lo62 j) (.pure (rgD 0 j.toNat)) := rfl
@[simp] theorem rw_rg2 : iRgD2 f g δ = (f δ).bind fun d => (g δ).bind fun e => (asI1 d).bind fun i => (asI1 e).bind fun j => .need (lo62 i ∧ lo62 j) (.pure (rgD i (j - i).toNat)) := rfl
@[simp] theorem rw_dRun {bd : SF} : dRun n bd as = (bd (dStart n as)).bind fun o => match o with
  | .rt d => .pure d
  | .nx _ => .pure .none
  | _ => .stuck := rfl
@[simp] theorem run_if {c : Prop} [Decidable c] {m m' : Wp A} {k : A → Prop} : (if c then m else m').run k w = if c then m.run k w else m'.run k w := by split <;> rfl
@[simp] theorem shaped_int {a : Int} : SeqAt.shaped (.int a) = true := rfl
@[simp] theorem eqv_int {a b : Int} : PyData.eqv (.int a) (.int b) = decide (a = b) := rfl
end
end Tr

namespace Tr
open PySem PySem.Spec L2
variable [ProtC]

section
variable {A : Type} {a b c d e f : A} {l : List A}
theorem atI_nat {l : List A} {n : Nat} : atI l (n : Int) = l[n]? := by
  unfold atI ixN
  rw [if_pos (by omega)]
  by_cases h : n < l.length
  · rw [if_pos (by omega)]
    rfl
  · rw [if_neg (by omega)]
    simp [List.getElem?_eq_none (Nat.le_of_not_lt h)]
@[simp] theorem atI_0 : atI (a :: l) 0 = some a := atI_nat (n := 0)
@[simp] theorem atI_1 : atI (a :: b :: l) 1 = some b := atI_nat (n := 1)
@[simp] theorem atI_2 : atI (a :: b :: c :: l) 2 = some c := atI_nat (n := 2)
@[simp] theorem atI_3 : atI (a :: b :: c :: d :: l) 3 = some d := atI_nat (n := 3)
@[simp] theorem atI_4 : atI (a :: b :: c :: d :: e :: l) 4 = some e := atI_nat (n := 4)
@[simp] theorem atI_5 : atI (a :: b :: c :: d :: e :: f :: l) 5 = some f := atI_nat (n := 5)
end
def rD (q : Rat) : D := .tuple [.int q.num, .int q.den]
structure RB (q : Rat) (B : Nat) : Prop where
  num : q.num.natAbs < 2 ^ B
  den : q.den < 2 ^ B
theorem RB.mono {q : Rat} {B C : Nat} (h : RB q B) (l : B ≤ C) : RB q C := ⟨Nat.lt_of_lt_of_le h.num (Nat.pow_le_pow_right (by decide) l), Nat.lt_of_lt_of_le h.den (Nat.pow_le_pow_right (by decide) l)⟩
theorem rat_nd (q : Rat) : q = (q.num : Rat) / (q.den : Rat) := by
  rw [← Rat.mkRat_eq_div, Rat.mkRat_self]
theorem den_ne (q : Rat) : (q.den : Rat) ≠ 0 := by
  have := q.den_nz
  exact_mod_cast this
theorem ratio_nd {t b : Int} (hb : 0 < b) : ((t : Rat) / (b : Rat)).num = t / ((Nat.gcd t.natAbs b.natAbs : Nat) : Int) ∧ (((t : Rat) / (b : Rat)).den : Int) = b / ((Nat.gcd t.natAbs b.natAbs : Nat) : Int) := by
  obtain ⟨n, rfl⟩ : ∃ n : Nat, b = n := ⟨b.toNat, by omega⟩
  have hn : n ≠ 0 := by omega
  have e : ((t : Rat) / ((n : Int) : Rat)) = Rat.normalize t n hn := by
    rw [Rat.normalize_eq_mkRat, Rat.mkRat_eq_div]
    rfl
  rw [e, Rat.normalize_eq]
  simp
theorem gcd_pos' {t b : Int} (hb : 0 < b) : 0 < Nat.gcd t.natAbs b.natAbs := Nat.gcd_pos_of_pos_right _ (by omega)
theorem ratio_rb {t b : Int} {B : Nat} (hb : 0 < b) (h1 : t.natAbs < 2 ^ B) (h2 : b.natAbs < 2 ^ B) : RB ((t : Rat) / (b : Rat)) B := by
  obtain ⟨e1, e2⟩ := ratio_nd (t := t) hb
  have g := gcd_pos' (t := t) hb
  constructor
  · rw [e1, Int.natAbs_ediv_of_dvd (Int.ofNat_dvd_left.mpr (Nat.gcd_dvd_left _ _))]
    exact Nat.lt_of_le_of_lt (Nat.div_le_self _ _) h1
  · have e3 : ((t : Rat) / (b : Rat)).den = b.natAbs / Nat.gcd t.natAbs b.natAbs := by
      have := congrArg Int.natAbs e2
      rw [Int.natAbs_ediv_of_dvd (Int.ofNat_dvd_left.mpr (Nat.gcd_dvd_right _ _))] at this
      simpa using this
    rw [e3]
    exact Nat.lt_of_le_of_lt (Nat.div_le_self _ _) h2
theorem mul_lt2 {i j : Int} {a b : Nat} (h1 : i.natAbs < 2 ^ a) (h2 : j.natAbs < 2 ^ b) : (i * j).natAbs < 2 ^ (a + b) := by
  rw [Int.natAbs_mul, Nat.pow_add]
  exact Nat.mul_lt_mul'' h1 h2
theorem sub_lt2 {i j : Int} {a : Nat} (h1 : i.natAbs < 2 ^ a) (h2 : j.natAbs < 2 ^ a) : (i - j).natAbs < 2 ^ (a + 1) := by
  rw [Nat.pow_succ]
  omega
theorem add_lt2 {i j : Int} {a : Nat} (h1 : i.natAbs < 2 ^ a) (h2 : j.natAbs < 2 ^ a) : (i + j).natAbs < 2 ^ (a + 1) := by
  rw [Nat.pow_succ]
  omega
theorem den_lt {q : Rat} {B : Nat} (h : RB q B) : ((q.den : Int)).natAbs < 2 ^ B := by simpa using h.den
theorem dmul_pos {p q : Rat} : (0 : Int) < (p.den : Int) * (q.den : Int) := Int.mul_pos (by have := p.den_pos; omega) (by have := q.den_pos; omega)
theorem sub_nd {p q : Rat} : ((p.num * q.den - q.num * p.den : Int) : Rat) / ((p.den * q.den : Int) : Rat) = p - q := by
  conv => rhs; rw [rat_nd p, rat_nd q]
  have h1 := den_ne p
  have h2 := den_ne q
  push_cast
  grind
theorem add_nd {p q : Rat} : ((p.num * q.den + q.num * p.den : Int) : Rat) / ((p.den * q.den : Int) : Rat) = p + q := by
  conv => rhs; rw [rat_nd p, rat_nd q]
  have h1 := den_ne p
  have h2 := den_ne q
  push_cast
  grind
theorem mul_nd {p q : Rat} : ((p.num * q.num : Int) : Rat) / ((p.den * q.den : Int) : Rat) = p * q := by
  conv => rhs; rw [rat_nd p, rat_nd q]
  have h1 := den_ne p
  have h2 := den_ne q
  push_cast
  grind
end Tr

namespace Tr
open PySem PySem.Spec L2
variable [ProtC]
@[simp] theorem ty_int_none : isTy "int" .none = some false := by show kitB "NoneType" "int" = _; decide +kernel
@[simp] theorem ty_int_bool {b : Bool} : isTy "int" (.bool b) = some true := by show kitB "bool" "int" = _; decide +kernel
@[simp] theorem ty_int_int {a : Int} : isTy "int" (.int a) = some true := by show kitB "int" "int" = _; decide +kernel
@[simp] theorem ty_int_str {s : Str} : isTy "int" (.str s) = some false := by show kitB "str" "int" = _; decide +kernel
@[simp] theorem ty_int_list {ds : List D} : isTy "int" (.list ds) = some false := by show kitB "list" "int" = _; decide +kernel
@[simp] theorem ty_int_tuple {ds : List D} : isTy "int" (.tuple ds) = some false := by show kitB "tuple" "int" = _; decide +kernel
@[simp] theorem ty_bool_none : isTy "bool" .none = some false := by show kitB "NoneType" "bool" = _; decide +kernel
@[simp] theorem ty_bool_bool {b : Bool} : isTy "bool" (.bool b) = some true := by show kitB "bool" "bool" = _; decide +kernel
@[simp] theorem ty_bool_int {a : Int} : isTy "bool" (.int a) = some false := by show kitB "int" "bool" = _; decide +kernel
@[simp] theorem ty_bool_str {s : Str} : isTy "bool" (.str s) = some false := by show kitB "str" "bool" = _; decide +kernel
@[simp] theorem ty_bool_list {ds : List D} : isTy "bool" (.list ds) = some false := by show kitB "list" "bool" = _; decide +kernel
@[simp] theorem ty_bool_tuple {ds : List D} : isTy "bool" (.tuple ds) = some false := by show kitB "tuple" "bool" = _; decide +kernel
@[simp] theorem ty_tuple_none : isTy "tuple" .none = some false := by show kitB "NoneType" "tuple" = _; decide +kernel
@[simp] theorem ty_tuple_bool {b : Bool} : isTy "tuple" (.bool b) = some false := by show kitB "bool" "tuple" = _; decide +kernel
@[simp] theorem ty_tuple_int {a : Int} : isTy "tuple" (.int a) = some false := by show kitB "int" "tuple" = _; decide +kernel
@[simp] theorem ty_tuple_str {s : Str} : isTy "tuple" (.str s) = some false := by show kitB "str" "tuple" = _; decide +kernel
@[simp] theorem ty_tuple_list {ds : List D} : isTy "tuple" (.list ds) = some false := by show kitB "list" "tuple" = _; decide +kernel
@[simp] theorem ty_tuple_tuple {ds : List D} : isTy "tuple" (.tuple ds) = some true := by show kitB "tuple" "tuple" = _; decide +kernel
@[simp] theorem ty_list_none : isTy "list" .none = some false := by show kitB "NoneType" "list" = _; decide +kernel
@[simp] theorem ty_list_bool {b : Bool} : isTy "list" (.bool b) = some false := by show kitB "bool" "list" = _; decide +kernel
@[simp] theorem ty_list_int {a : Int} : isTy "list" (.int a) = some false := by show kitB "int" "list" = _; decide +kernel
@[simp] theorem ty_list_str {s : Str} : isTy "list" (.str s) = some false := by show kitB "str" "list" = _; decide +kernel
@[simp] theorem ty_list_list {ds : List D} : isTy "list" (.list ds) = some true := by show kitB "list" "list" = _; decide +kernel
@[simp] theorem ty_list_tuple {ds : List D} : isTy "list" (.tuple ds) = some false := by show kitB "tuple" "list" = _; decide +kernel
@[simp] theorem ty_str_none : isTy "str" .none = some false := by show kitB "NoneType" "str" = _; decide +kernel
@[simp] theorem ty_str_bool {b : Bool} : isTy "str" (.bool b) = some false := by show kitB "bool" "str" = _; decide +kernel
@[simp] theorem ty_str_int {a : Int} : isTy "str" (.int a) = some false := by show kitB "int" "str" = _; decide +kernel
@[simp] theorem ty_str_str {s : Str} : isTy "str" (.str s) = some true := by show kitB "str" "str" = _; decide +kernel
@[simp] theorem ty_str_list {ds : List D} : isTy "str" (.list ds) = some false := by show kitB "list" "str" = _; decide +kernel
@[simp] theorem ty_str_tuple {ds : List D} : isTy "str" (.tuple ds) = some false := by show kitB "tuple" "str" = _; decide +kernel
section
variable {A : Type} {k : D → Prop} {w : Exn → Prop} {δ : De} {i j n : Nat} {f g h : DF} {t u : TF} {F G : SF} {d e : D} {ds : List D} {on : Bool} {q : BF} {fi : De → Wp (List D)} {vs : List Nat}
@[simp] theorem tys_nil : isTys [] d = some false := rfl
@[simp] theorem tys_cons {T : String} {Ts : List String} : isTys (T :: Ts) d = match isTy T d with
    | some true => some true
    | some false => isTys Ts d
    | none => none := rfl
@[simp] theorem rw_dGa : dGa on fi q t f vs δ = (fi δ).bind fun ds => (gaLoop on q t f (dWipe δ vs) ds).nox := rfl
@[simp] theorem rw_ga0 : gaLoop on q t f δ [] = .pure (.bool on) := rfl
theorem rw_ga1 : gaLoop on q t f δ (d :: ds) = (optW (q d δ)).bind fun δ1 => (t δ1).bind fun b => if b then (f δ1).bind fun y => match y with
    | .bool k => if k = on then gaLoop on q t f δ ds else .pure (.bool k)
    | _ => .stuck else gaLoop on q t f δ ds := rfl
@[simp] theorem rw_nLc : nLc fi q t f vs δ = (fi δ).bind fun ds => .need (ds.length ≤ sizeLine) (lcLoop q t f (dWipe δ vs) ds).nox := rfl
@[simp] theorem rw_lc0 : lcLoop q t f δ [] = .pure [] := rfl
theorem rw_lc1 : lcLoop q t f δ (d :: ds) = (optW (q d δ)).bind fun δ1 => (t δ1).bind fun b => if b then (f δ1).bind fun y => (lcLoop q t f δ ds).bind fun ys => .pure (y :: ys) else lcLoop q t f δ ds := rfl
@[simp] theorem rw_tYes : tYesD δ = .pure true := rfl
@[simp] theorem rw_wipe0 : dWipe δ [] = δ.map sIn := rfl
@[simp] theorem rw_wipe1 {v : Nat} : dWipe δ (v :: vs) = (dWipe δ vs).set v .non := rfl
@[simp] theorem sIn_p : sIn (.p d) = .p d := rfl
@[simp] theorem sIn_o : sIn (.o ds) = .non := rfl
@[simp] theorem sIn_non : sIn .non = .non := rfl
@[simp] theorem sIn_t {a : Addr} {φ : Heap → Prop} : sIn (.t a φ) = .t a φ := rfl
@[simp] theorem sIn_v {x : V} : sIn (.v x) = .v x := rfl
@[simp] theorem bTup_t {r : List D → De → Option De} : bTup n r (.tuple ds) δ = if ds.length = n then r ds δ else none := rfl
@[simp] theorem bNil_n : bNil [] δ = some δ := rfl
@[simp] theorem bCons_c {b : BF} {r : List D → De → Option De} : bCons b r (d :: ds) δ = (b d δ).bind fun δ' => r ds δ' := rfl
@[simp] theorem shaped_rD {p : Rat} : SeqAt.shaped (rD p) = true := rfl
@[simp] theorem eqv_nil : PyData.eqv (.list []) (.list []) = true := rfl
@[simp] theorem shaped_nil : SeqAt.shaped (.list []) = true := rfl
end
def RO (C : Cs) (r : Addr) (φ : Heap → Prop) : Prop := ∃ q ∈ C.Z, φ = RowP r q.1 ∧ q.2.length ≤ 63
theorem taken_run {C : Cs} {r : Addr} {φ : Heap → Prop} {m : Int} {k : D → Prop} {w : Exn → Prop} (hr : RO C r φ) (h0 : 0 < m) (h1 : m < 1073741824) (hk : ∀ n : Int, 0 ≤ n → n < m → k (.int n)) : (fTaken C [.t r φ, .d (.int m)]).run k w :=
  ⟨⟨hr, h0, h1⟩, fun _ ⟨n, e, a, b⟩ => e ▸ hk n a b⟩
theorem loop_inv {q : BF} {F : SF} {ko : Out → Prop} {w : Exn → Prop} (I : Nat → De → Prop) {ds : List D} {δ : De} (h0 : I 0 δ)
    (hs : ∀ i δ d, ds[i]? = some d → I i δ → ∃ δ1, q d δ = some δ1 ∧ (F δ1).run (fun o => match o with
      | .nx δ' => I (i + 1) δ'
      | .ct δ' => I (i + 1) δ'
      | .bk δ' => ko (.nx δ')
      | .rt d => ko (.rt d)) w)
    (hd : ∀ δ, I ds.length δ → ko (.nx δ)) : (sLoop q F ds δ).run ko w := by
  induction ds generalizing I δ with
  | nil => exact hd δ h0
  | cons d ds ih =>
    obtain ⟨δ1, e, h⟩ := hs 0 δ d rfl h0
    rw [rw_loop1, e]
    simp only [optW_some, pure_bind, run_bind]
    refine (F δ1).mono (fun o ho => ?_) (fun _ z => z) h
    have go : ∀ δ', I 1 δ' → (sLoop q F ds δ').run ko w := fun δ' h1 => ih (fun i => I (i + 1)) h1 (fun i δ d e h => hs (i + 1) δ d e h) hd
    cases o with
    | nx δ' => exact go δ' ho
    | ct δ' => exact go δ' ho
    | bk δ' => exact ho
    | rt d => exact ho
@[simp] theorem rw_row {i j : Nat} {δ : De} : sRow i j δ = (slotV δ[j]?).bind fun v => match v with
  | .ref a => (Wp.any fun (_ : Addr) => True).bind fun r => .pure (.nx (δ.set i (.t r (RowP r a))))
  | _ => .stuck := rfl
@[simp] theorem rw_ixR0 {p : Rat} : dIx (rD p) (.int 0) = .pure (.int p.num) := by simp [rD]
@[simp] theorem rw_ixR1 {p : Rat} : dIx (rD p) (.int 1) = .pure (.int p.den) := by simp [rD]
@[simp] theorem shaped_bool {b : Bool} : SeqAt.shaped (.bool b) = true := rfl
@[simp] theorem eqv_bool {a b : Bool} : PyData.eqv (.bool a) (.bool b) = (a == b) := by cases a <;> cases b <;> rfl
theorem RB.neg {q : Rat} {B : Nat} (h : RB q B) : RB (-q) B := ⟨by rw [Rat.neg_num, Int.natAbs_neg]; exact h.num, by rw [Rat.neg_den]; exact h.den⟩
theorem rgD_get {lo : Int} {n i : Nat} {d : D} (h : (rgD lo n)[i]? = some d) : i < n ∧ d = .int (lo + i) := by
  unfold rgD at h
  rw [List.getElem?_map] at h
  by_cases c : i < n
  · rw [List.getElem?_range c] at h
    exact ⟨c, (Option.some.inj h).symm⟩
  · rw [List.getElem?_eq_none (by simpa using c)] at h
    cases h
@[simp] theorem rgD_len {lo : Int} {n : Nat} : (rgD lo n).length = n := by simp [rgD]
end Tr

namespace Tr
open PySem PySem.Spec L2
variable [ProtC]

section
variable {X : Cx} {C : Cs} {W : WX} {p : Pos} {e : Expr} {es : List Expr} {f : DF} {r : AF}
def aStar (f : DF) (r : AF) : AF := fun δ => (f δ).bind fun d => (seqD d).bind fun ds => (r δ).bind fun as => .pure (ds.map Ar.d ++ as)
theorem arsOk_app {K : PySem.W.Frag} {H : Hp} : ∀ {vs : List V} {ds : List D} {us : List V} {as : List Ar}, DpAll K H vs ds → ArsOk K H us as → ArsOk K H (vs ++ us) (ds.map Ar.d ++ as)
  | [], _, _, _, h, g => by cases h; exact g
  | v :: vs, _, _, _, h, g => by
    cases h with
    | cons a b => exact ⟨a, arsOk_app b g⟩
theorem da_star (hK : C.K = X.K) (he : DE X C W e f) (hr : DA X C W es r) (hs : starEach (.Starred e p :: es) X.env = (true, eval e X.env) :: starEach es X.env := by rfl) : DA X C W (.Starred e p :: es) (aStar f r) := by
  obtain ⟨t, pt, q⟩ := he
  obtain ⟨u, pu, q2⟩ := hr
  refine ⟨_, StX.pa_star pt pu hs, fun S0 H0 Pb σ H δ Q R h => q S0 H0 Pb σ H δ _ R ((f δ).mono (fun d h v G g dp => ?_) (fun _ z => z) h)⟩
  have fin : ∀ (ds : List D) (vs : List V), DpAll C.K (hid (Own (C.bx S0 H0) σ δ) G) vs ds → (r δ).run (fun as => Av (C.bx S0 H0) σ H δ Q (ds.map Ar.d ++ as)) (Ew (C.bx S0 H0) W σ H) → u σ G fun ys H2 => Q (vs ++ ys) H2 := fun ds vs hd h =>
    q2 S0 H0 Pb σ G δ _ (R.gr g) ((r δ).mono (fun as ha us G2 g2 ok => ha (vs ++ us) G2 (g.trans g2) (arsOk_app (Le.dps (hid_le g2.le fun _ z => z) ds vs hd) ok)) (fun _ z => z.gr g) h)
  rw [← hK]
  cases dp with
  | lst s a => exact ⟨_, _, rfl, .inr (Le.sqL hid_sub s), fin _ _ a h⟩
  | tup s a => exact ⟨_, _, rfl, .inl (Le.sqT hid_sub s), fin _ _ a h⟩
  | _ => exact h.elim
@[simp] theorem rw_aStar {δ : De} : aStar f r δ = (f δ).bind fun d => (seqD d).bind fun ds => (r δ).bind fun as => .pure (ds.map Ar.d ++ as) := rfl
theorem allD_map {ds : List D} {as : List Ar} : allD (ds.map Ar.d ++ as) = (allD as).bind fun es => .pure (ds ++ es) := by
  induction ds with
  | nil => rfl
  | cons d ds ih =>
    show (allD (ds.map Ar.d ++ as)).bind _ = _
    rw [ih]
    rfl
end
end Tr

namespace TrE
open PySem PySem.Spec L2
theorem enum_new {v : Value} {o : Obj} {H : Heap → Prop} (B : Begins v o H) :
    Meets (Builtin.«enumerate.__new__» ⟨[.type "enumerate", v], []⟩) (fun _ R s => H s.heap ∧
      R (.ok (.ret (.ref (s.heap.push o).objs.size))) { s with heap := (s.heap.push o).push { cls := .type "enumerate", data := .fields #[.none, .bool false, .ref s.heap.objs.size, rawInt 0, .none, .none] } }) :=
  .of_wp fun prog w A R s h => by
    obtain ⟨hp, g, d, tk, os⟩ := s
    obtain ⟨h1, h⟩ := h
    have hsub := sub_enumerate
    have q1 : ∀ {A' : Around} {E : Value → Shared → Prop} {Q : Value → Shared → Prop}, Q (.ref hp.objs.size) ⟨hp.push o, g, d, tk, os⟩ → wpAny (model prog w) A' (pyIter v) Q E ⟨hp, g, d, tk, os⟩ := fun q => B.iter prog w _ _ ⟨hp, g, d, tk, os⟩ _ h1 q
    wp_walk using q1
    refine wpAny_stack_any fun st => wpAny_pure ?_
    split
    · rename_i c _ _ _ _ _
      cases (c == Value.type "enumerate")
      · wp_walk using q1
        exact ⟨_, rfl, h⟩
      · wp_walk using q1
        exact ⟨_, rfl, h⟩
    · wp_walk using q1
      exact ⟨_, rfl, h⟩
end TrE
namespace Tr
open PySem PySem.Spec L2
variable [ProtC]
def IteT (K : PySem.W.Frag) (a : Addr) : It :=
  ⟨fun i H => ∃ (xs : List V) (x : V), SqT K H a xs ∧ xs[i]? = some x, fun i H v H' => ∃ T x, v = .ref T ∧ H T = none ∧ H' = upd H T (.tup [.int (i : Nat), x]) ∧ ∀ xs, SqT K H a xs → xs[i]? = some x, fun i H => ∃ xs : List V, SqT K H a xs ∧ xs.length = i⟩
theorem walk_enumT {K : PySem.W.Frag} {a : Addr} {xs : List V} : Walk (IteT K a) xs.length (fun H => SqT K H a xs) (YPair (fun i => some (.int (i : Nat))) (fun i => xs[i]?)) :=
  ⟨fun i H hi h => ⟨xs, xs[i], h, List.getElem?_eq_getElem hi⟩, fun H h => ⟨xs, h, rfl⟩, fun i H x H' hi h ⟨T, y, e1, e2, e3, e4⟩ => ⟨T, .int (i : Nat), y, e1, e2, e3, rfl, e4 xs h⟩⟩
theorem turn_enumT {P : Program} {w : World} {K : PySem.W.Frag} {elts : List Expr} {kk : Nat} {tpos : Pos} (a e it : Addr) :
    Turn P w K (.Tuple elts kk tpos) (IteT K a) [e, it] e (fun i h => (∃ old, IsEnum h e it ((i : Nat) : Int) old) ∧ h.IsTupleIter it a i ∧ e ≠ it ∧ e ≠ a ∧ a ≠ it) where
  mem := by simp
  obj := fun i h st b hb => by
    obtain ⟨⟨old, he⟩, ⟨o, ho, hc, hd⟩, _⟩ := st
    have e' : b = e ∨ b = it := by simpa using hb
    rcases e' with z | z
    · rw [z]; exact ⟨_, he, fun v q => nomatch q⟩
    · rw [z]; exact ⟨o, ho, fun v q => by rw [hd] at q; cases q⟩
  keep := fun i h h' st k => let ⟨⟨old, he⟩, hi, hne⟩ := st; ⟨⟨old, k e (by simp) _ he⟩, hi.at fun o q => k it (by simp) o q, hne⟩
  item := by
    intro X hP hw hK hc i pins s σ H E I hf st hg
    subst hP hw hK
    obtain ⟨⟨old, he⟩, hit, hne, hea, hai⟩ := st
    obtain ⟨xs, x, hq, hx⟩ := hg
    obtain ⟨its, rv, p, hz⟩ := I.tuple hq
    obtain ⟨u, hu, ru⟩ := rv.get hx
    have hel : e < s.heap.objs.size := Heap.lt_size he
    have hil : it < s.heap.objs.size := by obtain ⟨_, q, _⟩ := hit; exact Heap.lt_size q
    have hlt : i < its.toArray.size := by
      have := (List.getElem?_eq_some_iff.mp hu).1
      simpa using this
    have D := Draws.tuple (prog := X.prog) (w := X.w) (A := X.A.in1) (I.ok.hd hc) it a hai its.toArray
    refine wpAny_pyNext_enum_itemD D he ⟨hit, show s.heap.IsTuple a its.toArray from p⟩ hlt hne (by simp [hne, hea]) fun x' h' tk hx' ho hs' hT hsz hk => ?_
    have ex : x' = u := by
      have hu' : its.toArray[i]? = some u := by simpa using hu
      rw [hu'] at hx'
      exact (Option.some.inj hx').symm
    subst ex
    refine ⟨_, rfl, wpAny_letOwnedTupleGo_enum (s := { s with heap := h', toks := tk + 1 }) ho fun h'' he' sb => ?_⟩
    have hT2 : h''.get? s.heap.objs.size = some { cls := .type "tuple", data := .seq #[.int i tk, x'] } := (sb.2 _ (Nat.ne_of_gt hel)).trans hT
    have new : ObjOk X.prog X.w (upd H s.heap.objs.size (.tup [.int (i : Nat), x])) h'' s.heap.objs.size (.tup [.int (i : Nat), x]) :=
      ⟨by show 2 ≤ sizeLine; decide, [.int i tk, x'], .cons ⟨_, rfl⟩ (.cons ru .nil), ⟨_, hT2, rfl, _, rfl⟩⟩
    have I1 : Inv X pins σ (upd H s.heap.objs.size (.tup [.int (i : Nat), x])) { s with heap := h'', toks := tk + 1 } :=
      I.turnedNew (ch := [e, it]) (fun b ob hb q => (sb.2 b (fun z => hb (by simp [z]))).trans (hk b ob (fun z => hb (by simp [z])) (fun z => hb (by simp [z])) q)) hf (Nat.le_refl _) new
    refine ⟨.ref s.heap.objs.size, _, I1, rfl, ⟨_, x, rfl, I.hok.fresh (Nat.le_refl _), rfl, fun ys hy => by rw [I.tuple_inj hy hq]; exact hx⟩, ⟨⟨x', ?_⟩, hs'.1.at fun o q => (sb.2 it (Ne.symm hne)).trans q, hne, hea, hai⟩, fun b hb => ?_⟩
    · have e1 : ((i + 1 : Nat) : Int) = (i : Int) + 1 := by omega
      rw [e1]; exact he'
    · have hb' : b < s.heap.objs.size := by
        have e' : b = e ∨ b = it := by simpa using hb
        rcases e' with z | z
        · rw [z]; exact hel
        · rw [z]; exact hil
      rw [upd_ne (Nat.ne_of_lt hb')]
      exact (hf b hb).1
  done := by
    intro X hP hw hK hc i pins s σ H E I hf st hg
    subst hP hw hK
    obtain ⟨⟨old, he⟩, hit, hne, hea, hai⟩ := st
    obtain ⟨xs, hq, hx⟩ := hg
    obtain ⟨its, rv, p, hz⟩ := I.tuple hq
    obtain ⟨f0, f1, f2, f3, f4, f5⟩ := hf it (by simp)
    have hl := rv.length
    have D := Draws.tuple (prog := X.prog) (w := X.w) (A := X.A.in1) (I.ok.hd hc) it a hai its.toArray
    have e1 : its.toArray.size = i := by rw [List.size_toArray]; omega
    exact wpAny_pyNext_enum_endD D he ⟨by rw [e1]; exact hit, p⟩ fun h' eb => ⟨rfl, I.turned (t' := s.toks) (fun b o hb q => eb b o hb q) f0 f1 f3 f4 f5⟩
  self := fun A i s Q E st h => let ⟨⟨_, he⟩, _⟩ := st; wpAny_pyIter_enum he h
def iEnumA (K : PySem.W.Frag) (ta : TA) : TI := fun σ H R => ta σ H fun vs H1 => ∃ a xs, vs = [.ref a] ∧ ((SqL K H1 a xs ∧ R (Ite K a) H1) ∨ (SqT K H1 a xs ∧ R (IteT K a) H1))
theorem pi_enumA {X : Cx} {e : Expr} {ta : TA} {p pos tpos : Pos} {elts : List Expr} {kk : Nat} (hg : Gl X "enumerate") (hm : X.mg "enumerate" = none) (ha : PA X [e] ta) (hs : starEach [e] X.env = [(false, eval e X.env)] := by rfl) :
    PI X (.Tuple elts kk tpos) (.Call (.Name "enumerate" p) [e] [] pos) (iEnumA X.K ta) := by
  refine ⟨fun pins s σ H R I h => ?_⟩
  refine PyProof.Rows.Call_ (ld_blt I hg hm PyProof.Rows.boot_enumerate (PyProof.Rows.callWith_type1 (thn (ha.run pos pins s σ H _ I h) fun us s1 ⟨vs, H1, I1, r1, q1⟩ => ?_) hs rfl))
  obtain ⟨a, xs, ex, q1⟩ := q1
  subst ex
  cases r1 with
  | cons r rr =>
    cases rr
    cases r
    have fp2 : ∀ b ∈ [s1.heap.objs.size + 1, s1.heap.objs.size], FpOk X pins H1 b := fun b hb => by
      have e' : b = s1.heap.objs.size + 1 ∨ b = s1.heap.objs.size := by simpa using hb
      have hle : s1.heap.objs.size ≤ b := by
        rcases e' with z | z
        · rw [z]; exact Nat.le_add_right _ _
        · rw [z]; exact Nat.le_refl _
      exact I1.fpOk hle (I1.hok.fresh hle)
    rcases q1 with ⟨hq, q⟩ | ⟨hq, q⟩
    · obtain ⟨its, rv, p', hz⟩ := I1.list hq
      refine call_enumerate_list p'.isList fun h' he hit hsz hk => wpAny_pyIter_enum he ?_
      have I2 : Inv X pins σ H1 { s1 with heap := h' } := I1.kept (t' := s1.toks) hk
      exact ⟨s1.heap.objs.size + 1, [s1.heap.objs.size + 1, s1.heap.objs.size], _, _, H1, rfl, I2, turn_enum a (s1.heap.objs.size + 1) s1.heap.objs.size, ⟨⟨.none, he⟩, hit, Nat.succ_ne_self _⟩, fp2, q⟩
    · obtain ⟨its, rv, p', hz⟩ := I1.tuple hq
      have p2 : s1.heap.IsTuple a its.toArray := p'
      have al : a < s1.heap.objs.size := by obtain ⟨_, z, _⟩ := p2; exact Heap.lt_size z
      refine callType_new F.called_enumerate (by decide) (F.typeCall_enumerate_1 _) (F.newCall_enumerate_1 _) (fun obj => F.args_object_init_2 obj _) F.entry_enumerate_new (TrE.enum_new (begins_tuple a its.toArray)) ⟨p2, ?_⟩
      have hz2 : (s1.heap.push { cls := .type "tuple_iterator", data := .fields #[.ref a, .int 0 0] }).objs.size = s1.heap.objs.size + 1 := Heap.size_push ..
      show _ ∧ _
      rw [hz2]
      have he : IsEnum ((s1.heap.push { cls := .type "tuple_iterator", data := .fields #[.ref a, .int 0 0] }).push { cls := .type "enumerate", data := .fields #[.none, .bool false, .ref s1.heap.objs.size, rawInt 0, .none, .none] }) (s1.heap.objs.size + 1) s1.heap.objs.size 0 .none := by
        have := Heap.get?_push_size (s1.heap.push { cls := .type "tuple_iterator", data := .fields #[.ref a, .int 0 0] }) (o := { cls := .type "enumerate", data := .fields #[.none, .bool false, .ref s1.heap.objs.size, rawInt 0, .none, .none] }) rfl
        rw [hz2] at this
        exact this
      refine ⟨⟨_, he, rfl⟩, wpAny_pyIter_enum he ?_⟩
      have hk : ∀ b o, s1.heap.get? b = some o → ((s1.heap.push { cls := .type "tuple_iterator", data := .fields #[.ref a, .int 0 0] }).push { cls := .type "enumerate", data := .fields #[.none, .bool false, .ref s1.heap.objs.size, rawInt 0, .none, .none] }).get? b = some o := fun b o x => Heap.get?_push_of_some _ (Heap.get?_push_of_some _ x)
      have I2 := I1.kept (t' := s1.toks) hk
      exact ⟨s1.heap.objs.size + 1, [s1.heap.objs.size + 1, s1.heap.objs.size], _, _, H1, rfl, I2, turn_enumT a (s1.heap.objs.size + 1) s1.heap.objs.size, ⟨⟨.none, he⟩, ⟨_, Heap.get?_push_of_some _ (Heap.get?_push_size _ rfl), rfl, rfl⟩, Nat.succ_ne_self _, Nat.ne_of_gt (Nat.lt_succ_of_lt al), Nat.ne_of_lt al⟩, fp2, q⟩
def enD (ds : List D) : List D := (List.range ds.length).zipWith (fun (i : Nat) d => PyData.tuple [.int (i : Int), d]) ds
theorem enD_len {ds : List D} : (enD ds).length = ds.length := by simp [enD]
theorem enD_get {ds : List D} {i : Nat} {d : D} (h : ds[i]? = some d) : (enD ds)[i]? = some (.tuple [.int (i : Int), d]) := by
  have hi : i < ds.length := (List.getElem?_eq_some_iff.mp h).1
  have hd : ds[i] = d := (List.getElem?_eq_some_iff.mp h).2
  simp [enD, List.getElem?_zipWith, hi, hd]
theorem items_pair {K : PySem.W.Frag} {Ph Bh : Hp} {xs : List V} {ds : List D} {J : It} {Gp : Hp → Prop} (w : Walk J xs.length Gp (YPair (fun i => some (.int (i : Nat))) (fun i => xs[i]?))) (hG : ∀ H1, Le Ph H1 → Le Bh H1 → Gp H1) (dp : DpAll K Ph xs ds) : Items K Ph Bh (enD ds) J := by
  refine ⟨Gp, _, by rw [enD_len, ← dps_len dp]; exact w, hG, fun i H1 x H2 S hi l _ hS y => ?_⟩
  obtain ⟨T, u, v, rfl, hT, rfl, eu, ev⟩ := y
  cases eu
  rw [enD_len] at hi
  obtain ⟨d, hd⟩ : ∃ d, ds[i]? = some d := ⟨ds[i], List.getElem?_eq_getElem hi⟩
  obtain ⟨v', h1, h2⟩ := dps_get dp hd
  have ev : xs[i]? = some v := ev
  rw [ev] at h1
  cases h1
  have nT : ¬ S T := fun z => hS T z hT
  have le : Le (hid S H1) (hid S (upd H1 T (.tup [.int (i : Nat), v]))) := hid_le (Grow.new hT).le fun _ z => z
  refine ⟨Grow.new hT, _, enD_get hd, .tup (SqT.of ?_) (.cons (.int _) (.cons (Le.dp (l.trans le) d v h2) .nil))⟩
  rw [hid_in nT]
  exact upd_same
def iEnD (f : DF) : De → Wp (List D) := fun δ => (f δ).bind fun d => (seqD d).bind fun ds => .pure (enD ds)
theorem di_enum {X : Cx} {C : Cs} {W : WX} {e : Expr} {f : DF} {p pos tpos : Pos} {elts : List Expr} {kk : Nat} (hK : C.K = X.K) (hg : Gl X "enumerate") (hm : X.mg "enumerate" = none) (he : DE X C W e f) (hs : starEach [e] X.env = [(false, eval e X.env)] := by rfl) :
    DI X C W (.Tuple elts kk tpos) (.Call (.Name "enumerate" p) [e] [] pos) (iEnD f) := by
  obtain ⟨t, pt, q⟩ := he
  refine ⟨_, pi_enumA hg hm (pa_cons pt pa_nil hs) hs, fun S0 H0 Pb σ H δ Q R h => q S0 H0 Pb σ H δ _ R ((f δ).mono (fun d h v G g dp => ?_) (fun _ z => z) h)⟩
  rw [← hK]
  cases dp with
  | lst s a => exact ⟨_, _, rfl, .inl ⟨Le.sqL hid_sub s, h _ G g (items_pair walk_enum (fun H1 l _ => l.sqL s) a)⟩⟩
  | tup s a => exact ⟨_, _, rfl, .inr ⟨Le.sqT hid_sub s, h _ G g (items_pair walk_enumT (fun H1 l _ => l.sqT s) a)⟩⟩
  | _ => exact h.elim
@[simp] theorem rw_iEnD {f : DF} {δ : De} : iEnD f δ = (f δ).bind fun d => (seqD d).bind fun ds => .pure (enD ds) := rfl
end Tr

namespace Tr
open PySem PySem.Spec L2
variable [ProtC]
def intsD : List D → Option (List Int)
  | [] => some []
  | .int i :: ds => (intsD ds).map (i :: ·)
  | _ => none
theorem ints_dps {K : PySem.W.Frag} {H : Hp} : ∀ {xs : List V} {ds : List D} {ns : List Int}, DpAll K H xs ds → intsD ds = some ns → xs = ns.map V.int
  | [], _, _, h, e => by cases h; cases e; rfl
  | x :: xs, _, _, h, e => by
    cases h with
    | cons a b =>
      cases a with
      | int i =>
        unfold intsD at e
        obtain ⟨ms, e1, e2⟩ := Option.map_eq_some_iff.mp e
        subst e2
        rw [ints_dps b e1]
        rfl
      | _ => cases e
end Tr

namespace Tr
abbrev Ln := Int × Rat
def fL (x : Ln) (t : Rat) : Rat := if 0 < x.1 ∧ x.2 < t then (t - x.2) / (x.1 : Rat) else 0
def rL (x : Ln) (t : Rat) : Rat := if 0 < x.1 ∧ x.2 ≤ t then 1 / (x.1 : Rat) else 0
def tkQ : List Ln → Rat → Rat
  | [], _ => 0
  | x :: L, t => fL x t + tkQ L t
theorem qdiv_nonneg {a : Rat} {s : Int} (h : 0 ≤ a) (hs : 0 < s) : 0 ≤ a / (s : Rat) := by
  have h1 : (0 : Rat) < s := by exact_mod_cast hs
  have : 0 < (s : Rat)⁻¹ := Rat.inv_pos.mpr h1
  rw [Rat.div_def]
  exact Rat.mul_nonneg h (Rat.le_of_lt this)
theorem qdiv_pos {a : Rat} {s : Int} (h : 0 < a) (hs : 0 < s) : 0 < a / (s : Rat) := by
  have h1 : (0 : Rat) < s := by exact_mod_cast hs
  have : 0 < (s : Rat)⁻¹ := Rat.inv_pos.mpr h1
  rw [Rat.div_def]
  exact Rat.mul_pos h this
theorem fL_nonneg (x : Ln) (t : Rat) : 0 ≤ fL x t := by
  unfold fL; split
  · exact qdiv_nonneg (by grind) (by grind)
  · grind
theorem fL_pos {x : Ln} {t : Rat} : 0 < fL x t ↔ 0 < x.1 ∧ x.2 < t := by
  unfold fL; split
  · rename_i h
    exact ⟨fun _ => h, fun h => qdiv_pos (by grind) h.1⟩
  · rename_i h
    exact ⟨fun z => by grind, fun z => absurd z h⟩
theorem rL_nonneg (x : Ln) (t : Rat) : 0 ≤ rL x t := by
  unfold rL; split
  · exact qdiv_nonneg (by grind) (by grind)
  · grind
theorem fL_line {x : Ln} {t u v : Rat} (h : 0 < x.1 → x.2 ≤ t ∨ u ≤ x.2) (h1 : t ≤ v) (h2 : v ≤ u) : fL x v = fL x t + (v - t) * rL x t := by
  unfold fL rL
  by_cases hs : 0 < x.1
  · have hq : (x.1 : Rat) ≠ 0 := by
      have : x.1 ≠ 0 := by omega
      exact_mod_cast this
    simp only [hs, true_and]
    rcases h hs with a | a
    · rw [if_pos a]
      by_cases c : x.2 < t
      · rw [if_pos c, if_pos (by grind)]; grind
      · have e : x.2 = t := by grind
        by_cases d : x.2 < v
        · rw [if_pos d, if_neg c]; grind
        · rw [if_neg d, if_neg c]; grind
    · rw [if_neg (by grind)]
      by_cases c : x.2 ≤ t
      · rw [if_pos c, if_neg (by grind)]
        have : v = t := by grind
        subst this
        grind
      · rw [if_neg c, if_neg (by grind)]; grind
  · simp only [hs, false_and, if_false]; grind
theorem fL_mono {x : Ln} {t u : Rat} (h : t ≤ u) : fL x t ≤ fL x u := by
  by_cases c : 0 < x.1 ∧ x.2 < u
  · by_cases d : x.2 ≤ t
    · have := fL_line (x := x) (u := u) (fun _ => .inl d) h (by grind)
      have := Rat.mul_nonneg (show 0 ≤ u - t by grind) (rL_nonneg x t)
      grind
    · have : fL x t = 0 := by unfold fL; rw [if_neg (by grind)]
      have := fL_nonneg x u
      grind
  · have : fL x u = 0 := by unfold fL; rw [if_neg c]
    have : fL x t = 0 := by unfold fL; rw [if_neg (by grind)]
    grind
theorem fL_strict {x : Ln} {t u : Rat} (h : t < u) (hp : 0 < fL x t) : fL x t < fL x u := by
  have c := fL_pos.mp hp
  have e := fL_line (x := x) (u := u) (fun _ => .inl (by grind)) (show t ≤ u by grind) (by grind)
  have : 0 < rL x t := by unfold rL; rw [if_pos ⟨c.1, by grind⟩]; exact qdiv_pos (by grind) c.1
  have := Rat.mul_pos (show 0 < u - t by grind) this
  grind
theorem tk_nonneg (L : List Ln) (t : Rat) : 0 ≤ tkQ L t := by
  induction L with
  | nil => exact Rat.le_refl
  | cons x L ih => have := fL_nonneg x t; simp only [tkQ]; grind
theorem tk_mono {L : List Ln} {t u : Rat} (h : t ≤ u) : tkQ L t ≤ tkQ L u := by
  induction L with
  | nil => exact Rat.le_refl
  | cons x L ih => have := fL_mono (x := x) h; simp only [tkQ]; grind
theorem tk_pos {L : List Ln} {t : Rat} : 0 < tkQ L t ↔ ∃ x ∈ L, 0 < x.1 ∧ x.2 < t := by
  induction L with
  | nil => simp [tkQ]
  | cons x L ih =>
    have h1 := fL_nonneg x t
    have h2 := tk_nonneg L t
    simp only [tkQ, List.mem_cons, exists_eq_or_imp]
    rw [← ih, ← fL_pos]
    constructor
    · intro h
      by_cases c : 0 < fL x t
      · exact .inl c
      · exact .inr (by grind)
    · rintro (h | h) <;> grind
theorem tk_strict {L : List Ln} {t u : Rat} (h : t < u) (hp : 0 < tkQ L t) : tkQ L t < tkQ L u := by
  induction L with
  | nil => simp [tkQ] at hp
  | cons x L ih =>
    have h1 := fL_mono (x := x) (Rat.le_of_lt h)
    have h2 := tk_mono (L := L) (Rat.le_of_lt h)
    have h3 := fL_nonneg x t
    have h4 := tk_nonneg L t
    simp only [tkQ] at hp ⊢
    by_cases c : 0 < fL x t
    · have := fL_strict h c; grind
    · have := ih (by grind); grind
def Free (L : List Ln) (t u : Rat) : Prop := ∀ x ∈ L, 0 < x.1 → x.2 ≤ t ∨ u ≤ x.2
structure Lev (L : List Ln) (d t : Rat) : Prop where
  le : ∀ x ∈ L, x.1 = 0 → t ≤ x.2
  tk : tkQ L t ≤ d
  eq : tkQ L t = d ∨ ∃ x ∈ L, x.1 = 0 ∧ x.2 = t
theorem Lev.lt_no {L : List Ln} {d t u : Rat} (hd : 0 < d) (a : Lev L d t) (b : Lev L d u) : ¬ t < u := by
  intro h
  rcases a.eq with e | ⟨x, hx, h0, e⟩
  · have := tk_strict (L := L) h (by grind)
    have := b.tk
    grind
  · have := b.le x hx h0
    grind
theorem Lev.uniq {L : List Ln} {d t u : Rat} (hd : 0 < d) (a : Lev L d t) (b : Lev L d u) : t = u := by
  have := Lev.lt_no hd a b
  have := Lev.lt_no hd b a
  grind
structure Seg (L : List Ln) (d t d' t' : Rat) : Prop where
  tt : t ≤ t'
  e : d = tkQ L t
  dd : d < d'
  le : ∀ x ∈ L, x.1 = 0 → t' ≤ x.2
  k : (d' = tkQ L t' ∧ t < t' ∧ Free L t t') ∨ (t = t' ∧ ∃ x ∈ L, x.1 = 0 ∧ x.2 = t')
structure Crn (L : List Ln) (M b0 : Rat) (ps : List Rat) (cs : List (Rat × Rat)) (d t : Rat) : Prop where
  hd : cs[0]? = some (0, b0)
  la : cs.getLast? = some (d, t)
  seg : ∀ (i : Nat) (c c' : Rat × Rat), cs[i]? = some c → cs[i + 1]? = some c' → Seg L c.1 c.2 c'.1 c'.2
  ba : ∀ c ∈ cs, ∃ x ∈ L, x.2 = c.2
  e : d = tkQ L t
  dM : d < M
  le : ∀ x ∈ L, x.1 = 0 → t ≤ x.2
  pr : ∀ b ∈ ps, b ≤ t ∨ (∃ x ∈ L, x.1 = 0 ∧ x.2 < b) ∨ M ≤ tkQ L b
section
variable {L : List Ln} {M b0 : Rat} {ps : List Rat} {cs : List (Rat × Rat)} {d t : Rat}
theorem seg_snoc {c0 : Rat × Rat} (la : cs.getLast? = some c0) {c1 : Rat × Rat} (seg : ∀ (i : Nat) (c c' : Rat × Rat), cs[i]? = some c → cs[i + 1]? = some c' → Seg L c.1 c.2 c'.1 c'.2) (h : Seg L c0.1 c0.2 c1.1 c1.2) (i : Nat) (c c' : Rat × Rat)
    (h1 : (cs ++ [c1])[i]? = some c) (h2 : (cs ++ [c1])[i + 1]? = some c') : Seg L c.1 c.2 c'.1 c'.2 := by
  have hl : cs ≠ [] := by rintro rfl; cases la
  have hp : 0 < cs.length := List.length_pos_iff.mpr hl
  by_cases hi : i + 1 < cs.length
  · rw [List.getElem?_append_left (by omega)] at h1
    rw [List.getElem?_append_left hi] at h2
    exact seg i c c' h1 h2
  · by_cases hi' : i + 1 = cs.length
    · rw [List.getElem?_append_left (by omega)] at h1
      rw [hi', List.getElem?_append_right (Nat.le_refl _)] at h2
      simp at h2
      rw [List.getLast?_eq_getElem?] at la
      rw [show cs.length - 1 = i by omega, h1] at la
      cases la
      cases h2
      exact h
    · rw [List.getElem?_eq_none (by simp; omega)] at h2
      cases h2
theorem Crn.skip {b : Rat} (h : Crn L M b0 ps cs d t) (hb : b ≤ t ∨ (∃ x ∈ L, x.1 = 0 ∧ x.2 < b) ∨ M ≤ tkQ L b) : Crn L M b0 (ps ++ [b]) cs d t :=
  ⟨h.hd, h.la, h.seg, h.ba, h.e, h.dM, h.le, fun b' hb' => by
    rcases List.mem_append.mp hb' with z | z
    · exact h.pr b' z
    · rw [List.mem_singleton] at z
      exact z ▸ hb⟩
theorem Crn.low {b : Rat} (h : Crn L M b0 ps cs d t) (h0 : ∃ x ∈ L, 0 ≤ x.1 ∧ x.2 = b0) (ht : b0 ≤ t) (hb : tkQ L b = 0) (hu : ∀ x ∈ L, x.1 = 0 → b ≤ x.2) : b ≤ t := by
  obtain ⟨x, hx, h0, e⟩ := h0
  by_cases c : x.1 = 0
  · have := hu x hx c
    grind
  · have : ¬ x.2 < b := fun z => by
      have := tk_pos.mpr ⟨x, hx, by omega, z⟩
      grind
    grind
theorem Crn.same {b : Rat} (h : Crn L M b0 ps cs d t) (hb : tkQ L b = d) (hp : 0 < d) : b ≤ t := by
  have : ¬ t < b := fun z => by
    have := tk_strict (L := L) z (by have := h.e; grind)
    have := h.e
    grind
  grind
theorem Crn.free {b : Rat} (h : Crn L M b0 ps cs d t) (hps : ∀ x ∈ L, 0 < x.1 → x.2 < b → x.2 ∈ ps) (hu : ∀ x ∈ L, x.1 = 0 → b ≤ x.2) (hM : tkQ L b ≤ M) (hMp : 0 < M) : Free L t b := by
  intro x hx hp
  by_cases c : x.2 < b
  · rcases h.pr _ (hps x hx hp c) with z | ⟨y, hy, hy0, hyb⟩ | z
    · exact .inl z
    · have := hu y hy hy0
      grind
    · have := tk_strict (L := L) c (by grind)
      grind
  · exact .inr (by grind)
theorem Crn.snoc {b : Rat} (h : Crn L M b0 ps cs d t) (hps : ∀ x ∈ L, 0 < x.1 → x.2 < b → x.2 ∈ ps) (hbL : ∃ x ∈ L, x.2 = b) (hu : ∀ x ∈ L, x.1 = 0 → b ≤ x.2) (hp : 0 < tkQ L b) (hM : tkQ L b < M) (hd : tkQ L b ≠ d) (htb : ∀ b' ∈ ps, b' ≤ b) (ht : t ∈ ps ∨ t ≤ b) :
    Crn L M b0 (ps ++ [b]) (cs ++ [(tkQ L b, b)]) (tkQ L b) b := by
  have tb : t ≤ b := by
    rcases ht with z | z
    · exact htb t z
    · exact z
  have ne : t ≠ b := by rintro rfl; exact hd h.e.symm
  have lt : t < b := by grind
  have hl : cs ≠ [] := by rintro rfl; cases h.la
  have dd : d < tkQ L b := by
    have := tk_mono (L := L) tb
    have := h.e
    grind
  refine ⟨?_, by simp, seg_snoc h.la h.seg ⟨tb, h.e, dd, hu, .inl ⟨rfl, lt, h.free hps hu (by grind) (by grind)⟩⟩, fun c hc => ?_, rfl, hM, hu, fun b' hb' => ?_⟩
  · rw [List.getElem?_append_left (List.length_pos_iff.mpr hl)]
    exact h.hd
  · rcases List.mem_append.mp hc with z | z
    · exact h.ba c z
    · rw [List.mem_singleton] at z
      subst z
      exact hbL
  · rcases List.mem_append.mp hb' with z | z
    · exact .inl (htb b' z)
    · rw [List.mem_singleton] at z
      exact .inl (by rw [z]; exact Rat.le_refl)
theorem Crn.fin {u : Rat} (h : Crn L M b0 ps cs d t) (hM : 0 < M) (hps : ∀ x ∈ L, x.2 ∈ ps) (hu : Lev L M u) : Seg L d t M u := by
  have e := h.e
  have dM := h.dM
  have tu : t ≤ u := by
    have : ¬ u < t := fun z => by
      rcases hu.eq with q | ⟨x, hx, h0, q⟩
      · have := tk_mono (L := L) (Rat.le_of_lt z)
        grind
      · have := h.le x hx h0
        grind
    grind
  refine ⟨tu, e, dM, hu.le, ?_⟩
  rcases hu.eq with q | ⟨x, hx, h0, q⟩
  · refine .inl ⟨q.symm, ?_, h.free (fun x hx _ _ => hps x hx) hu.le hu.tk hM⟩
    have : t ≠ u := by rintro rfl; grind
    grind
  · by_cases c : tkQ L u = M
    · refine .inl ⟨c.symm, ?_, h.free (fun x hx _ _ => hps x hx) hu.le hu.tk hM⟩
      have : t ≠ u := by rintro rfl; grind
      grind
    · refine .inr ⟨?_, x, hx, h0, q⟩
      rcases h.pr u (q ▸ hps x hx) with z | ⟨y, hy, hy0, hyb⟩ | z
      · grind
      · have := hu.le y hy hy0
        grind
      · have := hu.tk
        grind
end
end Tr
namespace Tr
def sumQ : List Rat → Rat
  | [] => 0
  | q :: s => q + sumQ s
def RestQ : List Ln → List Rat → Rat → Prop
  | [], [], _ => True
  | x :: L, f :: fs, t => 0 ≤ f ∧ t ≤ x.1 * f + x.2 ∧ (0 < f → x.1 * f + x.2 = t) ∧ RestQ L fs t
  | _, _, _ => False
def Pos0 (fs : List Rat) : Prop := ∀ f ∈ fs, 0 ≤ f
theorem RestQ.len {L : List Ln} {f : List Rat} {t : Rat} (h : RestQ L f t) : f.length = L.length := by
  induction L generalizing f with
  | nil => cases f with
    | nil => rfl
    | cons _ _ => exact h.elim
  | cons x L ih => cases f with
    | nil => exact h.elim
    | cons y f => simp [ih h.2.2.2]
theorem RestQ.pos {L : List Ln} {f : List Rat} {t : Rat} (h : RestQ L f t) : Pos0 f := by
  induction L generalizing f with
  | nil => cases f with
    | nil => intro _ h; cases h
    | cons _ _ => exact h.elim
  | cons x L ih => cases f with
    | nil => exact h.elim
    | cons y f =>
      intro z hz
      rcases List.mem_cons.mp hz with rfl | hz
      · exact h.1
      · exact ih h.2.2.2 z hz
theorem tk_append {L M : List Ln} {t : Rat} : tkQ (L ++ M) t = tkQ L t + tkQ M t := by
  induction L with
  | nil => simp only [List.nil_append, tkQ]; grind
  | cons x L ih => simp only [List.cons_append, tkQ, ih]; grind
theorem Lev.more {L : List Ln} {x : Ln} {d t t' : Rat} (hd : 0 < d) (h : Lev L d t) (h' : Lev (L ++ [x]) d t') : ¬ t < t' := by
  intro z
  rcases h.eq with e | ⟨y, hy, h0, e⟩
  · have a := tk_append (L := L) (M := [x]) (t := t)
    have b := tk_nonneg [x] t
    have c := tk_strict (L := L ++ [x]) z (by grind)
    have := h'.tk
    grind
  · have := h'.le y (by simp [hy]) h0
    grind
theorem sum_append {f g : List Rat} : sumQ (f ++ g) = sumQ f + sumQ g := by
  induction f with
  | nil => simp only [List.nil_append, sumQ]; grind
  | cons x L ih => simp only [List.cons_append, sumQ, ih]; grind
end Tr
namespace Tr
def IsZ (Q : Nat) (q : Rat) : Prop := ∃ n : Int, q * (Q : Rat) = n
theorem IsZ.sub {Q : Nat} {p q : Rat} (h : IsZ Q p) (h' : IsZ Q q) : IsZ Q (p - q) := by
  obtain ⟨a, ha⟩ := h
  obtain ⟨b, hb⟩ := h'
  refine ⟨a - b, ?_⟩
  push_cast
  grind
theorem IsZ.up {Q k : Nat} {q : Rat} (h : IsZ Q q) : IsZ (Q * k) q := by
  obtain ⟨a, ha⟩ := h
  refine ⟨a * k, ?_⟩
  push_cast
  grind
theorem IsZ.zero {Q : Nat} : IsZ Q 0 := ⟨0, by simp⟩
end Tr
namespace Tr
end Tr

namespace Tr
open PySem PySem.Spec L2
variable [ProtC]
section
variable {X : Cx} {C : Cs} {W : WX} {pos : Pos} {a b c : Expr} {f g h : DF}
theorem dt_chain {op op' : CmpOp} {F F' : D → D → Wp D} {r r' : R2} (ho : OpR X (compareOp op) r) (hF : Op2 X C r F) (ho' : OpR X (compareOp op') r') (hF' : Op2 X C r' F') (ha : DE X C W a f) (hb : DE X C W b g) (hc : DE X C W c h)
    (hm : lastMarks [op, op'] [b, c] = false := by with_unfolding_all rfl) :
    DT X C W (.Compare a [op, op'] [b, c] pos) (tBv (dChain F F' f g h)) := by
  obtain ⟨ta, pa, qa⟩ := ha
  obtain ⟨tb, pb, qb⟩ := hb
  obtain ⟨tc, pc, qc⟩ := hc
  refine ⟨_, pt_chain ho ho' pa pb pc hm, fun S0 H0 Pb σ H δ Q R hh => qa S0 H0 Pb σ H δ _ R ((f δ).mono (fun d hh x H1 g1 dx => ?_) (fun _ z => z) hh)⟩
  refine qb S0 H0 Pb σ H1 δ _ (R.gr g1) ((g δ).mono (fun e hh y H2 g2 dy => ?_) (fun _ z => z.gr g1) hh)
  refine hF x y H2 d e _ S0 H0 Pb σ δ _ (R.gr (g1.trans g2)) (Le.dp (hid_le g2.le fun _ z => z) d x dx) dy ((F d e).mono (fun z hz v H3 g3 dz => ?_) (fun _ z => z) hh)
  obtain ⟨k, rfl, hk⟩ := asB_inv hz
  cases dz
  refine ⟨k, rfl, ?_⟩
  cases k with
  | false => exact ⟨false, rfl, hk H3 (g1.trans (g2.trans g3))⟩
  | true =>
    refine qc S0 H0 Pb σ H3 δ _ (R.gr (g1.trans (g2.trans g3))) ((h δ).mono (fun x' hx v' H4 g4 dx' => ?_) (fun _ z => z.gr (g1.trans (g2.trans g3))) hk)
    refine hF' y v' H4 e x' _ S0 H0 Pb σ δ _ (R.gr (g1.trans (g2.trans (g3.trans g4)))) (Le.dp (hid_le (g3.trans g4).le fun _ z => z) e y dy) dx' ((F' e x').mono (fun d' hd v2 H5 g5 dp => ?_) (fun _ z => z.gr (g1.trans (g2.trans (g3.trans g4)))) hx)
    obtain ⟨k', rfl, hk'⟩ := asB_inv hd
    cases dp
    exact ⟨k', rfl, hk' H5 ((g1.trans (g2.trans (g3.trans g4))).trans g5)⟩
end
section
variable {α : Type} {g : α → D} {xs : List α} {q : BF} {F : SF} {ko : Out → Prop} {w : Exn → Prop} {δ : De}
theorem loop_pre (I : List α → De → Prop) (h0 : I [] δ)
    (hs : ∀ pre x post δ, xs = pre ++ x :: post → I pre δ → ∃ δ1, q (g x) δ = some δ1 ∧ (F δ1).run (fun o => match o with
      | .nx δ' => I (pre ++ [x]) δ'
      | .ct δ' => I (pre ++ [x]) δ'
      | .bk δ' => ko (.nx δ')
      | .rt d => ko (.rt d)) w)
    (hd : ∀ δ, I xs δ → ko (.nx δ)) : (sLoop q F (xs.map g) δ).run ko w := by
  refine loop_inv (fun i δ => I (xs.take i) δ) (by simpa using h0) (fun i δ d hi hI => ?_) (fun δ h => hd δ (by simpa using h))
  rw [List.getElem?_map] at hi
  cases hx : xs[i]? with
  | none => rw [hx] at hi; cases hi
  | some x =>
    rw [hx] at hi
    obtain ⟨hl, hx'⟩ := List.getElem?_eq_some_iff.mp hx
    have e : xs = xs.take i ++ x :: xs.drop (i + 1) := by rw [← hx', ← List.drop_eq_getElem_cons hl, List.take_append_drop]
    have e2 : xs.take (i + 1) = xs.take i ++ [x] := by rw [List.take_succ, hx]; rfl
    have := hs _ x _ δ e hI
    rw [← e2] at this
    cases hi
    exact this
variable {t : TF} {f : DF} {k : List D → Prop} {p : α → Bool} {h : α → D}
theorem lc_run (hs : ∀ x ∈ xs, ∃ δ1, q (g x) δ = some δ1 ∧ (∀ kb : Bool → Prop, kb (p x) → (t δ1).run kb w) ∧ (p x = true → ∀ kd : D → Prop, kd (h x) → (f δ1).run kd w)) (hk : k ((xs.filter p).map h)) : (lcLoop q t f δ (xs.map g)).run k w := by
  induction xs generalizing k with
  | nil => simpa using hk
  | cons x xs ih =>
    obtain ⟨δ1, e, h1, h2⟩ := hs x (by simp)
    rw [List.map_cons, rw_lc1, e]
    simp only [optW_some, pure_bind, run_bind]
    refine h1 _ ?_
    cases c : p x with
    | true =>
      simp only [if_true]
      simp only [run_bind]
      refine h2 c _ (ih (fun y hy => hs y (by simp [hy])) ?_)
      simpa [c] using hk
    | false =>
      simp only [Bool.false_eq_true, if_false]
      refine ih (fun y hy => hs y (by simp [hy])) ?_
      simpa [c] using hk
theorem ga_run {kd : D → Prop} (hs : ∀ x ∈ xs, ∃ δ1, q (g x) δ = some δ1 ∧ (∀ kb : Bool → Prop, kb true → (t δ1).run kb w) ∧ (∀ kd : D → Prop, kd (.bool (p x)) → (f δ1).run kd w)) (hk : kd (.bool (xs.all p))) : (gaLoop true q t f δ (xs.map g)).run kd w := by
  induction xs with
  | nil => simpa using hk
  | cons x xs ih =>
    obtain ⟨δ1, e, h1, h2⟩ := hs x (by simp)
    rw [List.map_cons, rw_ga1, e]
    simp only [optW_some, pure_bind, run_bind]
    refine h1 _ ?_
    simp only [if_true, run_bind]
    refine h2 _ ?_
    cases c : p x with
    | true =>
      simp only [if_true]
      exact ih (fun y hy => hs y (by simp [hy])) (by simpa [c] using hk)
    | false =>
      simp only [Bool.false_eq_true, if_false]
      simpa [c] using hk
end
theorem cut_take {A : Type} {xs : List A} {n : Nat} : cutD xs none (some (n : Int)) = xs.take n := by
  unfold cutD
  rw [HT.sIx_nat, HT.sIx_none]
  by_cases h : n ≤ xs.length
  · simp [Nat.min_eq_left h]
  · simp [Nat.min_eq_right (Nat.le_of_lt (Nat.lt_of_not_le h)), List.take_of_length_le (Nat.le_of_lt (Nat.lt_of_not_le h))]
theorem cut_drop {A : Type} {xs : List A} {n : Nat} : cutD xs (some (n : Int)) none = xs.drop n := by
  unfold cutD
  rw [HT.sIx_nat, HT.sIx_none]
  by_cases h : n ≤ xs.length
  · rw [Nat.min_eq_left h, List.take_of_length_le (by simp)]
  · simp [Nat.min_eq_right (Nat.le_of_lt (Nat.lt_of_not_le h)), List.drop_eq_nil_of_le (Nat.le_of_lt (Nat.lt_of_not_le h))]
theorem allD_only {ds : List D} : allD (ds.map Ar.d) = .pure ds := by
  have := allD_map (ds := ds) (as := [])
  rw [List.append_nil] at this
  rw [this]
  simp [rw_allD0]
@[simp] theorem rw_tupL {ds : List D} : bTuple [.list ds] = .pure (.tuple ds) := rfl
@[simp] theorem rw_tupT {ds : List D} : bTuple [.tuple ds] = .pure (.tuple ds) := rfl
@[simp] theorem rw_listL {ds : List D} : bList [.list ds] = .pure (.list ds) := rfl
@[simp] theorem rw_listT {ds : List D} : bList [.tuple ds] = .pure (.list ds) := rfl
@[simp] theorem rw_dOix {i : Nat} {f : DF} {δ : De} : dOix i f δ = (slotO δ[i]?).bind fun ds => (f δ).bind fun k => (asI1 k).bind fun k => optW (atI ds k) := rfl
theorem atI_last {A : Type} {l : List A} : atI l (-1) = l.getLast? := by
  unfold atI ixN
  rw [List.getLast?_eq_getElem?, if_neg (by omega)]
  by_cases h : l = []
  · subst h; rfl
  · have : 0 < l.length := List.length_pos_iff.mpr h
    rw [if_pos (by omega)]
    show l[((-1 : Int) + l.length).toNat]? = _
    rw [show ((-1 : Int) + l.length).toNat = l.length - 1 by omega]
theorem lo62_le {i : Int} (h0 : 0 ≤ i) (h1 : i < 1000000) : lo62 i := by
  unfold lo62
  constructor <;> omega
theorem ints_map {ns : List Int} : intsD (ns.map PyData.int) = some ns := by
  induction ns with
  | nil => rfl
  | cons n ns ih => simp [intsD, ih]
end Tr

namespace Tr
open PySem PySem.Spec PyProof.Rows L2
variable [ProtC]
def SqB (t : Bool) (K : PySem.W.Frag) (H : Hp) (a : Addr) (xs : List V) : Prop := match t with
  | true => SqT K H a xs
  | false => SqL K H a xs
def IsIt (t : Bool) (h : Heap) (it l : Addr) (i : Nat) : Prop := match t with
  | true => h.IsTupleIter it l i
  | false => h.IsListIter it l i
def IsIs (t : Bool) (h : Heap) (l : Addr) (xs : Array Value) : Prop := match t with
  | true => h.IsTuple l xs
  | false => h.IsList l xs
theorem drawsB {prog : Program} {w : World} {A : Around} (t : Bool) (hh : A.handled = none) (it l : Addr) (hne : l ≠ it) (items : Array Value) :
    Draws prog w A it [it, l] items.size (fun i v => items[i]? = some v) (fun i h => IsIt t h it l i ∧ IsIs t h l items) := by
  cases t
  · exact Draws.list hh it l hne items
  · exact Draws.tuple hh it l hne items
theorem IsIt.at' {t : Bool} {h h' : Heap} {it l : Addr} {i : Nat} (q : IsIt t h it l i) (k : ∀ o, h.get? it = some o → h'.get? it = some o) : IsIt t h' it l i := by
  cases t
  · exact Heap.IsListIter.at q k
  · exact Heap.IsTupleIter.at q k
theorem IsIt.obj {t : Bool} {h : Heap} {it l : Addr} {i : Nat} (q : IsIt t h it l i) : ∃ o, h.get? it = some o ∧ ∃ fs, o.data = .fields fs := by
  cases t <;> (obtain ⟨o, e, _, d⟩ := q; exact ⟨o, e, _, d⟩)
section
variable {X : Cx} {pins : List (Addr × Obj)} {σ : L2.St} {H : Hp} {s : Shared}
theorem seqB (I : Inv X pins σ H s) {t : Bool} {a : Addr} {xs : List V} (h : SqB t X.K H a xs) : ∃ its : List Value, Vals xs its ∧ IsIs t s.heap a its.toArray ∧ xs.length ≤ sizeLine := by
  cases t
  · obtain ⟨its, r, p, z⟩ := I.list h
    exact ⟨its, r, p.isList, z⟩
  · obtain ⟨its, r, p, z⟩ := I.tuple h
    exact ⟨its, r, p, z⟩
theorem seqB_inj (I : Inv X pins σ H s) {t : Bool} {a : Addr} {xs ys : List V} (h : SqB t X.K H a xs) (h' : SqB t X.K H a ys) : xs = ys := by
  cases t
  · exact I.list_inj h h'
  · exact I.tuple_inj h h'
theorem IsIs.lt {t : Bool} {h : Heap} {a : Addr} {xs : Array Value} (q : IsIs t h a xs) : a < h.objs.size := by
  cases t
  · obtain ⟨_, e, _⟩ := q; exact Heap.lt_size e
  · obtain ⟨_, e, _⟩ := q; exact Heap.lt_size e
end
def ItB (t1 t2 : Bool) (K : PySem.W.Frag) (a b : Addr) : It :=
  ⟨fun i H => ∃ (xs ys : List V) (x y : V), SqB t1 K H a xs ∧ SqB t2 K H b ys ∧ xs[i]? = some x ∧ ys[i]? = some y,
    fun i H v H' => ∃ T x y, v = .ref T ∧ H T = none ∧ H' = upd H T (.tup [x, y]) ∧ (∀ xs, SqB t1 K H a xs → xs[i]? = some x) ∧ ∀ ys, SqB t2 K H b ys → ys[i]? = some y,
    fun i H => ∃ xs ys : List V, SqB t1 K H a xs ∧ SqB t2 K H b ys ∧ i ≤ xs.length ∧ i ≤ ys.length ∧ (i = xs.length ∨ i = ys.length)⟩
theorem turn_zipB {P : Program} {w : World} {K : PySem.W.Frag} {elts : List Expr} {kk : Nat} {tpos : Pos} {t1 t2 : Bool} {a b z TI TO i1 i2 : Addr} (D : ZipSep2 z TI TO i1 i2 [i1, a] [i2, b]) (n1 : a ≠ i1) (n2 : b ≠ i2) :
    Turn P w K (.Tuple elts kk tpos) (ItB t1 t2 K a b) [z, TI, TO, i1, i2] z (fun i h => IsZip h z TI TO .none ∧ IsTupOf2 h TI (.ref i1) (.ref i2) ∧ (∃ x y, IsTupOf2 h TO x y) ∧ IsIt t1 h i1 a i ∧ IsIt t2 h i2 b i) where
  mem := by simp
  obj := fun i h st c hc => by
    obtain ⟨hz, hTI, ⟨x, y, hTO⟩, q1, q2⟩ := st
    obtain ⟨o1, e1, f1, d1⟩ := q1.obj
    obtain ⟨o2, e2, f2, d2⟩ := q2.obj
    have e' : c = z ∨ c = TI ∨ c = TO ∨ c = i1 ∨ c = i2 := by simpa using hc
    rcases e' with q | q | q | q | q
    · rw [q]; exact ⟨_, hz, fun v q => nomatch q⟩
    · rw [q]; exact ⟨_, hTI, fun v q => nomatch q⟩
    · rw [q]; exact ⟨_, hTO, fun v q => nomatch q⟩
    · rw [q]; exact ⟨o1, e1, fun v q => by rw [d1] at q; cases q⟩
    · rw [q]; exact ⟨o2, e2, fun v q => by rw [d2] at q; cases q⟩
  keep := fun i h h' st k => by
    obtain ⟨hz, hTI, ⟨x, y, hTO⟩, h1, h2⟩ := st
    exact ⟨k z (by simp) _ hz, k TI (by simp) _ hTI, ⟨x, y, k TO (by simp) _ hTO⟩, h1.at' fun o q => k i1 (by simp) o q, h2.at' fun o q => k i2 (by simp) o q⟩
  item := by
    intro X hP hw hK hc i pins s σ H E I hf st hg
    subst hP hw hK
    obtain ⟨hz, hTI, ⟨x0, y0, hTO⟩, h1, h2⟩ := st
    obtain ⟨xs, ys, x, y, hqx, hqy, hx, hy⟩ := hg
    obtain ⟨its, rv, p, _⟩ := seqB I hqx
    obtain ⟨its2, rv2, p2, _⟩ := seqB I hqy
    obtain ⟨u, hu, ru⟩ := rv.get hx
    obtain ⟨u2, hu2, ru2⟩ := rv2.get hy
    have hzl : z < s.heap.objs.size := Heap.lt_size hz
    have lt1 : i < its.toArray.size := by
      have := (List.getElem?_eq_some_iff.mp hu).1
      simpa using this
    have lt2 : i < its2.toArray.size := by
      have := (List.getElem?_eq_some_iff.mp hu2).1
      simpa using this
    have D1 := drawsB (prog := X.prog) (w := X.w) (A := X.A.in1) t1 (I.ok.hd hc) i1 a n1 its.toArray
    have D2 := drawsB (prog := X.prog) (w := X.w) (A := X.A.in1) t2 (I.ok.hd hc) i2 b n2 its2.toArray
    refine wpAny_pyNext_zipD2_item D D1 D2 hz hTI hTO ⟨h1, p⟩ ⟨h2, p2⟩ lt1 lt2 fun x1 x2 h' tk y1 y2 z' TO' h1' h2' hT hsz hk => ?_
    have ex1 : x1 = u := by
      have hu' : its.toArray[i]? = some u := by simpa using hu
      rw [hu'] at y1
      exact (Option.some.inj y1).symm
    have ex2 : x2 = u2 := by
      have hu' : its2.toArray[i]? = some u2 := by simpa using hu2
      rw [hu'] at y2
      exact (Option.some.inj y2).symm
    subst ex1 ex2
    refine ⟨_, rfl, wpAny_letOwnedTupleGo_zip (s := { s with heap := h', toks := tk }) z' fun h'' z'' sb => ?_⟩
    have hT2 : h''.get? s.heap.objs.size = some { cls := .type "tuple", data := .seq #[x1, x2] } := (sb.2 _ (Nat.ne_of_gt hzl)).trans hT
    have new : ObjOk X.prog X.w (upd H s.heap.objs.size (.tup [x, y])) h'' s.heap.objs.size (.tup [x, y]) :=
      ⟨by show 2 ≤ sizeLine; decide, [x1, x2], .cons ru (.cons ru2 .nil), ⟨_, hT2, rfl, _, rfl⟩⟩
    have I1 : Inv X pins σ (upd H s.heap.objs.size (.tup [x, y])) { s with heap := h'', toks := tk } :=
      I.turnedNew (t' := tk) (ch := [z, TI, TO, i1, i2]) (fun c o hb q => (sb.2 c (fun q' => hb (by simp [q']))).trans (hk c o (fun q' => hb (by simp [q'])) (fun q' => hb (by simp [q'])) (fun q' => hb (by simp [q'])) (fun q' => hb (by simp [q'])) q)) hf (Nat.le_refl _) new
    refine ⟨.ref s.heap.objs.size, _, I1, rfl, ⟨_, x, y, rfl, I.hok.fresh (Nat.le_refl _), rfl, fun l hl => by rw [seqB_inj I hl hqx]; exact hx, fun l hl => by rw [seqB_inj I hl hqy]; exact hy⟩, ⟨z'', ?_, ⟨x1, x2, ?_⟩, ?_, ?_⟩, fun c hcm => ?_⟩
    · exact (sb.2 _ D.TIz).trans (hk _ _ D.TIz D.TITO D.TIi1 D.TIi2 hTI)
    · exact (sb.2 _ D.TOz).trans TO'
    · exact h1'.1.at' fun o q => (sb.2 _ D.zi1.symm).trans q
    · exact h2'.1.at' fun o q => (sb.2 _ D.zi2.symm).trans q
    · have hlt : c < s.heap.objs.size := by
        have e' : c = z ∨ c = TI ∨ c = TO ∨ c = i1 ∨ c = i2 := by simpa using hcm
        rcases e' with q | q | q | q | q
        · rw [q]; exact hzl
        · rw [q]; exact Heap.lt_size hTI
        · rw [q]; exact Heap.lt_size hTO
        · rw [q]; obtain ⟨_, e1, _⟩ := h1.obj; exact Heap.lt_size e1
        · rw [q]; obtain ⟨_, e2, _⟩ := h2.obj; exact Heap.lt_size e2
      rw [upd_ne (Nat.ne_of_lt hlt)]
      exact (hf c hcm).1
  done := by
    intro X hP hw hK hc i pins s σ H E I hf st hg
    subst hP hw hK
    obtain ⟨hz, hTI, ⟨x0, y0, hTO⟩, h1, h2⟩ := st
    obtain ⟨xs, ys, hqx, hqy, l1', l2', hend⟩ := hg
    obtain ⟨its, rv, p, _⟩ := seqB I hqx
    obtain ⟨its2, rv2, p2, _⟩ := seqB I hqy
    have l1 := rv.length
    have l2 := rv2.length
    have D1 := drawsB (prog := X.prog) (w := X.w) (A := X.A.in1) t1 (I.ok.hd hc) i1 a n1 its.toArray
    have D2 := drawsB (prog := X.prog) (w := X.w) (A := X.A.in1) t2 (I.ok.hd hc) i2 b n2 its2.toArray
    exact wpAny_pyNext_zipD2_end D D1 D2 hz hTI hTO ⟨h1, p⟩ ⟨h2, p2⟩ (by simp; omega) (by simp; omega) (by simp; omega) fun h' tk hk => ⟨rfl, I.turnedL (t' := tk) (ch := [z, TI, TO, i1, i2]) (fun c o hb q =>
      hk c o (fun q' => hb (by simp [q'])) (fun q' => hb (by simp [q'])) (fun q' => hb (by simp [q'])) (fun q' => hb (by simp [q'])) q) hf⟩
  self := fun A i s Q E st h => wpAny_pyIter_zip st.1 h
def iZipB (K : PySem.W.Frag) (ta : TA) : TI := fun σ H R => ta σ H fun vs H1 => ∃ a b t1 t2 xs ys, vs = [.ref a, .ref b] ∧ SqB t1 K H1 a xs ∧ SqB t2 K H1 b ys ∧ R (ItB t1 t2 K a b) H1
def itO (t : Bool) (a : Addr) : Obj := match t with
  | true => { cls := .type "tuple_iterator", data := .fields #[.ref a, .int 0 0] }
  | false => { cls := .type "list_iterator", data := .fields #[.ref a, .int 0 0] }
theorem beginsB (t : Bool) (a : Addr) (items : Array Value) : Begins (.ref a) (itO t a) fun h => IsIs t h a items := by
  cases t
  · exact begins_list a items
  · exact begins_tuple a items
theorem itO_is {t : Bool} {h : Heap} {it a : Addr} (e : h.get? it = some (itO t a)) : IsIt t h it a 0 := by
  cases t
  · exact ⟨_, e, rfl, rfl⟩
  · exact ⟨_, e, rfl, rfl⟩
theorem sepB {n a b : Nat} (la : a < n) (lb : b < n) : ZipSep2 (n + 4) (n + 2) (n + 3) n (n + 1) [n, a] [n + 1, b] where
  TIz := by show (_ : Nat) ≠ _; omega
  TOz := by show (_ : Nat) ≠ _; omega
  TITO := by show (_ : Nat) ≠ _; omega
  TIi1 := by show (_ : Nat) ≠ _; omega
  mem1 := by simp
  zf1 := fun h => by
    rcases List.mem_cons.mp h with h | h
    · have h : (_ : Nat) = _ := h
      omega
    · have h : (_ : Nat) = _ := List.mem_singleton.mp h
      omega
  Tf1 := fun h => by
    rcases List.mem_cons.mp h with h | h
    · have h : (_ : Nat) = _ := h
      omega
    · have h : (_ : Nat) = _ := List.mem_singleton.mp h
      omega
  TIi2 := by show (_ : Nat) ≠ _; omega
  mem2 := by simp
  zf2 := fun h => by
    rcases List.mem_cons.mp h with h | h
    · have h : (_ : Nat) = _ := h
      omega
    · have h : (_ : Nat) = _ := List.mem_singleton.mp h
      omega
  Tf2 := fun h => by
    rcases List.mem_cons.mp h with h | h
    · have h : (_ : Nat) = _ := h
      omega
    · have h : (_ : Nat) = _ := List.mem_singleton.mp h
      omega
  sep1_2 := fun h => by
    rcases List.mem_cons.mp h with h | h
    · have h : (_ : Nat) = _ := h
      omega
    · have h : (_ : Nat) = _ := List.mem_singleton.mp h
      omega
  sep2_1 := fun h => by
    rcases List.mem_cons.mp h with h | h
    · have h : (_ : Nat) = _ := h
      omega
    · have h : (_ : Nat) = _ := List.mem_singleton.mp h
      omega
theorem pi_zipB {X : Cx} {e e2 : Expr} {ta : TA} {p pos tpos : Pos} {elts : List Expr} {kk : Nat} (hg : Gl X "zip") (hm : X.mg "zip" = none) (ha : PA X [e, e2] ta)
    (hs : starEach [e, e2] X.env = (false, eval e X.env) :: starEach [e2] X.env := by rfl) (hpl : (backTo pos (starEach [e2] X.env)).any (·.1) = false := by rfl) :
    PI X (.Tuple elts kk tpos) (.Call (.Name "zip" p) [e, e2] [] pos) (iZipB X.K ta) := by
  refine ⟨fun pins s σ H R I h => ?_⟩
  refine Call_ (ld_blt I hg hm PyProof.Rows.boot_zip (PyProof.Rows.callWith_type1 (thn (ha.run pos pins s σ H _ I h) fun us s1 ⟨vs, H1, I1, r1, q1⟩ => ?_) hs hpl))
  obtain ⟨a, b, t1, t2, xs, ys, ex, hqx, hqy, q⟩ := q1
  subst ex
  cases r1 with
  | cons r rr =>
    cases rr with
    | cons r' rr =>
      cases rr
      cases r
      cases r'
      have fresh5 : ∀ c, c ∈ [s1.heap.objs.size + 4, s1.heap.objs.size + 2, s1.heap.objs.size + 3, s1.heap.objs.size, s1.heap.objs.size + 1] → FpOk X pins H1 c := fun c hcm => by
        have e' : c = s1.heap.objs.size + 4 ∨ c = s1.heap.objs.size + 2 ∨ c = s1.heap.objs.size + 3 ∨ c = s1.heap.objs.size ∨ c = s1.heap.objs.size + 1 := by simpa using hcm
        have hle : s1.heap.objs.size ≤ c := by
          rcases e' with z | z | z | z | z
          · rw [z]; exact Nat.le_add_right _ _
          · rw [z]; exact Nat.le_add_right _ _
          · rw [z]; exact Nat.le_add_right _ _
          · rw [z]; exact Nat.le_refl _
          · rw [z]; exact Nat.le_add_right _ _
        exact I1.fpOk hle (I1.hok.fresh hle)
      obtain ⟨its, rv, p1, _⟩ := seqB I1 hqx
      obtain ⟨its2, rv2, p2, _⟩ := seqB I1 hqy
      refine zip_begins2 (beginsB t1 a its.toArray) (beginsB t2 b its2.toArray) p1 p2 fun h' hz hTI hTO g1 g2 hsz hk => wpAny_pyIter_zip hz ?_
      have I2 : Inv X pins σ H1 { s1 with heap := h' } := I1.kept (t' := s1.toks) hk
      exact ⟨s1.heap.objs.size + 4, [s1.heap.objs.size + 4, s1.heap.objs.size + 2, s1.heap.objs.size + 3, s1.heap.objs.size, s1.heap.objs.size + 1], _, _, H1, rfl, I2, turn_zipB (sepB p1.lt p2.lt) (Nat.ne_of_lt p1.lt) (Nat.ne_of_lt (Nat.lt_succ_of_lt p2.lt)), ⟨hz, hTI, ⟨_, _, hTO⟩, itO_is g1, itO_is g2⟩, fresh5, q⟩
end Tr

namespace Tr
open PySem PySem.Spec PyProof.Rows L2
variable [ProtC]
def zipD (ds es : List D) : List D := List.zipWith (fun d e => PyData.tuple [d, e]) ds es
theorem zipD_len {ds es : List D} : (zipD ds es).length = min ds.length es.length := by simp [zipD]
theorem zipD_get {ds es : List D} {i : Nat} {d e : D} (h : ds[i]? = some d) (h' : es[i]? = some e) : (zipD ds es)[i]? = some (.tuple [d, e]) := by
  simp [zipD, List.getElem?_zipWith, h, h']
theorem walk_zipB {K : PySem.W.Frag} {t1 t2 : Bool} {a b : Addr} {xs ys : List V} : Walk (ItB t1 t2 K a b) (min xs.length ys.length) (fun H => SqB t1 K H a xs ∧ SqB t2 K H b ys) (YPair (fun i => xs[i]?) (fun i => ys[i]?)) := by
  refine ⟨fun i _ hi q => ?_, fun _ q => ⟨xs, ys, q.1, q.2, by omega⟩, fun i H v H' _ q y => ?_⟩
  · have h1 : i < xs.length := by omega
    have h2 : i < ys.length := by omega
    exact ⟨xs, ys, xs[i], ys[i], q.1, q.2, by simp [h1], by simp [h2]⟩
  · obtain ⟨T, x, y, e1, e2, e3, e4, e5⟩ := y
    exact ⟨T, x, y, e1, e2, e3, e4 xs q.1, e5 ys q.2⟩
theorem items_zip {K : PySem.W.Frag} {Ph Bh : Hp} {xs ys : List V} {ds es : List D} {J : It} {Gp : Hp → Prop} (w : Walk J (min xs.length ys.length) Gp (YPair (fun i => xs[i]?) (fun i => ys[i]?))) (hG : ∀ H1, Le Ph H1 → Le Bh H1 → Gp H1) (dp : DpAll K Ph xs ds) (ep : DpAll K Ph ys es) : Items K Ph Bh (zipD ds es) J := by
  refine ⟨Gp, _, by rw [zipD_len, ← dps_len dp, ← dps_len ep]; exact w, hG, fun i H1 x H2 S hi l _ hS y => ?_⟩
  obtain ⟨T, u, v, rfl, hT, rfl, eu, ev⟩ := y
  rw [zipD_len] at hi
  have i1 : i < ds.length := by omega
  have i2 : i < es.length := by omega
  obtain ⟨u', h1, h2⟩ := dps_get dp (List.getElem?_eq_getElem i1)
  obtain ⟨v', h3, h4⟩ := dps_get ep (List.getElem?_eq_getElem i2)
  have eu : xs[i]? = some u := eu
  have ev : ys[i]? = some v := ev
  rw [eu] at h1
  cases h1
  rw [ev] at h3
  cases h3
  have nT : ¬ S T := fun z => hS T z hT
  have le : Le (hid S H1) (hid S (upd H1 T (.tup [u, v]))) := hid_le (Grow.new hT).le fun _ z => z
  refine ⟨Grow.new hT, _, zipD_get (List.getElem?_eq_getElem i1) (List.getElem?_eq_getElem i2), .tup (SqT.of ?_) (.cons (Le.dp (l.trans le) _ u h2) (.cons (Le.dp (l.trans le) _ v h4) .nil))⟩
  rw [hid_in nT]
  exact upd_same
def iZpD (f g : DF) : De → Wp (List D) := fun δ => (f δ).bind fun d => (g δ).bind fun e => (seqD d).bind fun ds => (seqD e).bind fun es => .pure (zipD ds es)
theorem seqB_of {K : PySem.W.Frag} {H : Hp} {v : V} {d : D} {k : List D → Prop} {w : Exn → Prop} (dp : Dp K H v d) (h : (seqD d).run k w) : ∃ t a xs ds, v = .ref a ∧ SqB t K H a xs ∧ DpAll K H xs ds ∧ k ds := by
  cases dp with
  | lst s a => exact ⟨false, _, _, _, rfl, s, a, h⟩
  | tup s a => exact ⟨true, _, _, _, rfl, s, a, h⟩
  | _ => exact h.elim
theorem SqB.le {t : Bool} {K : PySem.W.Frag} {H G : Hp} {a : Addr} {xs : List V} (l : Le H G) (h : SqB t K H a xs) : SqB t K G a xs := by
  cases t
  · exact Le.sqL l h
  · exact Le.sqT l h
theorem di_zip {X : Cx} {C : Cs} {W : WX} {e e2 : Expr} {f g : DF} {p pos tpos : Pos} {elts : List Expr} {kk : Nat} (hK : C.K = X.K) (hg : Gl X "zip") (hm : X.mg "zip" = none) (he : DE X C W e f) (he2 : DE X C W e2 g)
    (hs : starEach [e, e2] X.env = (false, eval e X.env) :: starEach [e2] X.env := by rfl) (hs2 : starEach [e2] X.env = [(false, eval e2 X.env)] := by rfl) (hpl : (backTo pos (starEach [e2] X.env)).any (·.1) = false := by rfl) :
    DI X C W (.Tuple elts kk tpos) (.Call (.Name "zip" p) [e, e2] [] pos) (iZpD f g) := by
  obtain ⟨t, pt, q⟩ := he
  obtain ⟨u, pu, q2⟩ := he2
  refine ⟨_, pi_zipB hg hm (pa_cons pt (pa_cons pu pa_nil hs2) hs) hs hpl, fun S0 H0 Pb σ H δ Q R h => q S0 H0 Pb σ H δ _ R ((f δ).mono (fun d h v G g1 dp => ?_) (fun _ z => z) h)⟩
  refine q2 S0 H0 Pb σ G δ _ (R.gr g1) ((g δ).mono (fun e h v2 G2 g2 dp2 => ?_) (fun _ z => z.gr g1) h)
  rw [← hK]
  have dp' := Le.dp (hid_le (S' := Own (C.bx S0 H0) σ δ) g2.le fun _ z => z) d v dp
  simp only [run_bind] at h
  obtain ⟨t1, a, xs, ds, rfl, s1, a1, h⟩ := seqB_of dp' h
  obtain ⟨t2, b, ys, es, rfl, s2, a2, h⟩ := seqB_of dp2 h
  exact ⟨a, b, t1, t2, xs, ys, rfl, SqB.le hid_sub s1, SqB.le hid_sub s2, h _ G2 (g1.trans g2) (items_zip walk_zipB (fun H1 l _ => ⟨SqB.le l s1, SqB.le l s2⟩) a1 a2)⟩
@[simp] theorem rw_iZpD {f g : DF} {δ : De} : iZpD f g δ = (f δ).bind fun d => (g δ).bind fun e => (seqD d).bind fun ds => (seqD e).bind fun es => .pure (zipD ds es) := rfl
theorem zipD_map {α β : Type} {f : α → D} {g : β → D} {xs : List α} {ys : List β} : zipD (xs.map f) (ys.map g) = (xs.zip ys).map fun p => PyData.tuple [f p.1, g p.2] := by
  simp [zipD, List.zipWith_map, List.zip, List.map_zipWith]
section
variable {X : Cx} {C : Cs} {W : WX} {pos : Pos} {a b c d : Expr} {f g h m : DF} {ta tb tc td : TE}
def dChain3 (F G J : D → D → Wp D) (f g h m : DF) : DF := fun δ => (f δ).bind fun d => (g δ).bind fun e => (F d e).bind fun z => (asB z).bind fun k => if k then (h δ).bind fun x => (G e x).bind fun z' => (asB z').bind fun k' => if k' then (m δ).bind fun y => J x y else .pure (.bool false) else .pure (.bool false)
@[simp] theorem rw_dChain3 {F G J : D → D → Wp D} {δ : De} : dChain3 F G J f g h m δ = (f δ).bind fun d => (g δ).bind fun e => (F d e).bind fun z => (asB z).bind fun k => if k then (h δ).bind fun x => (G e x).bind fun z' => (asB z').bind fun k' => if k' then (m δ).bind fun y => J x y else .pure (.bool false) else .pure (.bool false) := rfl
end
end Tr

namespace Tr
open PySem PySem.Spec PyProof.Rows L2
variable [ProtC]
section
variable {X : Cx} {C : Cs} {W : WX} {pos : Pos} {a b : Expr} {f g : DF}
def dIsB : D → D → Wp D
  | .bool a, .bool b => .pure (.bool (decide (a = b)))
  | _, _ => .stuck
def dIsNotB : D → D → Wp D
  | .bool a, .bool b => .pure (.bool (!decide (a = b)))
  | _, _ => .stuck
@[simp] theorem rw_isB {a b : Bool} : dIsB (.bool a) (.bool b) = .pure (.bool (decide (a = b))) := rfl
@[simp] theorem rw_isNotB {a b : Bool} : dIsNotB (.bool a) (.bool b) = .pure (.bool (!decide (a = b))) := rfl
end
section
variable {prog : Program} {w : World} {A : Around} {E : Value → Shared → Prop} {s : Shared}
theorem pick_rev (xs : Array Value) : ((List.range xs.size).filterMap fun (m : Nat) => xs[(((xs.size : Int) - 1) + (m : Int) * (-1)).toNat]?).toArray = xs.toList.reverse.toArray := by
  congr 1
  have key : ∀ n : Nat, n ≤ xs.size → ((List.range n).filterMap fun (m : Nat) => xs[(((xs.size : Int) - 1) + (m : Int) * (-1)).toNat]?) = xs.toList.reverse.take n := by
    intro n
    induction n with
    | zero => intro _; simp
    | succ n ih =>
      intro hn
      rw [List.range_succ, List.filterMap_append, ih (by omega)]
      have e : (((xs.size : Int) - 1) + (n : Int) * (-1)).toNat = xs.size - 1 - n := by omega
      have hl : n < xs.toList.reverse.length := by simp; omega
      rw [List.take_succ, List.getElem?_eq_getElem hl]
      simp only [List.filterMap_cons, List.filterMap_nil, e]
      rw [Array.getElem?_eq_getElem (by omega)]
      simp
  rw [key _ (Nat.le_refl _), List.take_of_length_le (by simp)]
theorem applied_rev {sl : Addr} {t : Tok} {n : Nat} {Q : Int × Int × Nat → Shared → Prop} (hs : s.heap.IsSliceOf sl .none .none (.int (-1) t))
    (h : Q ((n : Int) - 1, -1, n) s) : wpAny (model prog w) A (Builtin.Slice.sliceApplied (.ref sl) (pure (n : Int))) Q E s := by
  obtain ⟨os, hos, hcs, hds⟩ := id hs
  unfold Builtin.Slice.sliceApplied Builtin.Slice.sliceFields
  refine wpAny_bind (wpAny_bind (wpAny_field hos hds (x := .none) rfl (wpAny_bind (wpAny_field hos hds (x := .none) rfl (wpAny_bind (wpAny_field hos hds (x := .int (-1) t) rfl (wpAny_pure ?_)))))))
  refine wpAny_bind (slicePart_int ?_)
  show wpAny _ _ (if ((-1 : Int) == 0) = true then _ else _) _ _ s
  rw [if_neg (by decide)]
  refine wpAny_bind (slicePart_none (wpAny_bind (slicePart_none (wpAny_bind (wpAny_pure ?_)))))
  show wpAny _ _ (pure (((n : Int) - 1), (-1 : Int), Builtin.Slice.slicePlaces ((n : Int) - 1) (-1) (-1))) _ _ s
  have e : Builtin.Slice.slicePlaces ((n : Int) - 1) (-1) (-1) = n := by
    unfold Builtin.Slice.slicePlaces
    have h1 : ¬ ((-1 : Int) > 0) := by omega
    simp only [h1, if_false]
    split
    · have : ((n : Int) - 1 - -1 - 1) / (- -1) = n - 1 := by
        rw [show (- -1 : Int) = 1 by omega, Int.ediv_one]
        omega
      rw [this]
      omega
    · omega
  rw [e]
  exact wpAny_pure h
theorem getItem_tuple_rev {t sl : Addr} {items : Array Value} {tk : Tok} {Q : Value → Shared → Prop} (ht : IsTup s.heap t items) (hs : s.heap.IsSliceOf sl .none .none (.int (-1) tk))
    (h : Q (.ref s.heap.objs.size) { s with heap := s.heap.push { cls := .type "tuple", data := .seq items.toList.reverse.toArray } })
    (hsz : items.size ≤ sizeLine) : wpAny (model prog w) A (getItem (.ref t) (.ref sl)) Q E s := by
  have htake : sizeOk (.seq items.toList.reverse.toArray) := by
    show items.toList.reverse.toArray.size ≤ sizeLine
    rw [List.size_toArray, List.length_reverse, Array.length_toList]
    omega
  obtain ⟨os, hos, hcs, hds⟩ := id hs
  have hTs : s.TypeIs (.ref sl) "slice" := ⟨os, hos, hcs⟩
  unfold getItem
  try with_reducible refine wpAny_holding ?_
  first | refine wpAny_bind (wpAny_pure ?_) | skip
  refine wpAny_bind (wpAny_sequenceKey ht.typeIs (by decide) ?_)
  refine wpAny_bind (wpAny_callSpecial?_slot (name := Str.ofString "__getitem__") ht.typeIs PyProof.Rows.slot_tuple_getitem
    (wpAny_call_entry PyProof.Rows.slot_tuple_getitem ht.typeIs entry_tuple_getitem ?_ (args_tuple_getitem _ _)))
  show wpAny _ _ (Builtin.Tuple.tupleItemsOf (.ref t) >>= _) _ _ s
  refine wpAny_bind (tupleItemsOf_ ht ?_)
  refine wpAny_bind (wpAny_typeOf hTs ?_)
  rw [if_pos (by decide)]
  refine wpAny_bind (applied_rev hs ?_)
  have hno : ¬ ((((items.size : Int) - 1) == 0 && (-1 : Int) == 1 && items.size == items.size) = true) := by
    intro q
    rw [Bool.and_eq_true, Bool.and_eq_true] at q
    exact absurd q.1.2 (by decide)
  show wpAny _ _ (if (((items.size : Int) - 1) == 0 && (-1 : Int) == 1 && items.size == items.size) = true then _ else _) _ _ s
  rw [if_neg hno, pick_rev]
  first
    | exact wpAny_bind (m := Builtin.Tuple.tupleExact _) (wpAny_newObj_type (wpAny_pure ⟨_, rfl, wpAny_pure h⟩) htake)
    | exact wpAny_bind (m := Builtin.Tuple.tupleExact _) (wpAny_newObj_type (wpAny_bind (wpAny_pure (wpAny_pure ⟨_, rfl, wpAny_pure h⟩))) htake)
    | exact wpAny_bind (wpAny_bind (m := Builtin.Tuple.tupleExact _) (wpAny_newObj_type (wpAny_pure (wpAny_pure ⟨_, rfl, wpAny_pure h⟩)) htake))
    | exact wpAny_bind (wpAny_bind (m := Builtin.Tuple.tupleExact _) (wpAny_newObj_type (wpAny_pure ⟨_, rfl, wpAny_pure h⟩) htake))
end
section
variable {X : Cx} {e st : Expr} {te ts : TE} {pos p2 : Pos}
def tRev (K : PySem.W.Frag) (te ts : TE) : TE := fun σ H Q => te σ H fun x H1 => ts σ H1 fun y H2 => y = .int (-1) ∧ ∃ a xs, x = .ref a ∧ SqT K H2 a xs ∧ ∀ p, H2 p = none → Q (.ref p) (upd H2 p (.tup xs.reverse))
theorem vals_rev {xs : List V} {us : List Value} (r : Vals xs us) : Vals xs.reverse us.reverse := by
  induction r with
  | nil => exact .nil
  | cons a r ih =>
    rw [List.reverse_cons, List.reverse_cons]
    exact ih.append (.cons a .nil)
theorem pe_rev (he : PE X e te) (hs : PE X st ts) : PE X (.Subscript e (.Slice none none (some st) p2) pos) (tRev X.K te ts) := by
  refine ⟨fun pins s σ H Q I h => ?_⟩
  refine Subscript_ (thn (he.run pins s σ H _ I h) fun v s1 ⟨x, H1, I1, r1, q1⟩ => ?_)
  refine wpAny_Slice ?_
  rw [evalPart_none]
  refine wpAny_pure ?_
  refine wpAny_pure ?_
  rw [evalPart_some]
  refine thn (hs.run pins s1 σ H1 _ I1 q1) fun vs s3 ⟨y, H3, I3, ry, q3⟩ => ?_
  obtain ⟨rfl, a, xs, rfl, hx, q⟩ := q3
  obtain ⟨tk, rfl⟩ := ry
  cases r1
  have I4 : Inv X pins σ H3 { s3 with heap := s3.heap.push { cls := .type "slice", data := .fields #[.none, .none, .int (-1) tk] } } := I3.kept (t' := s3.toks) fun b ob q => Heap.get?_push_of_some _ q
  obtain ⟨its, r, ht, hz⟩ := I4.tuple hx
  have hlen : its.toArray.size = xs.length := by rw [List.size_toArray]; exact r.length.symm
  have hg : wpAny (model X.prog X.w) X.A (getItem (.ref a) (.ref s3.heap.objs.size)) (EP X pins σ Q) X.xe { s3 with heap := s3.heap.push { cls := .type "slice", data := .fields #[.none, .none, .int (-1) tk] } } := by
    refine getItem_tuple_rev ht (Heap.IsSliceOf.new ..) ?_ (by rw [hlen]; exact hz)
    refine ⟨.ref _, _, I4.laid (t' := s3.toks) (o := .tup xs.reverse) (fun b ob q => Heap.get?_push_of_some _ q) (Nat.le_refl _) ?_, rfl, q _ (I4.hok.fresh (Nat.le_refl _))⟩
    exact ⟨by rw [List.length_reverse]; exact hz, _, vals_rev r, IsTup.new _ _⟩
  show wpAny (model X.prog X.w) X.A (subscriptTail e (.Slice none none (some st) p2) (.ref a) (.ref s3.heap.objs.size)) (EP X pins σ Q) X.xe { s3 with heap := s3.heap.push { cls := .type "slice", data := .fields #[.none, .none, .int (-1) tk] } }
  exact tail_any (ops := [.ref a, .ref s3.heap.objs.size]) ht.typeIs PyProof.Rows.slot_tuple_getitem.lookup hg (by with_unfolding_all rfl)
end
section
variable {X : Cx} {C : Cs} {W : WX} {pos p2 : Pos} {a b : Expr} {f g : DF}
theorem dps_rev {K : PySem.W.Frag} {H : Hp} : ∀ {vs : List V} {ds : List D}, DpAll K H vs ds → DpAll K H vs.reverse ds.reverse
  | [], [], _ => .nil
  | v :: vs, d :: ds, .cons x r => by
    rw [List.reverse_cons, List.reverse_cons]
    exact dps_app (dps_rev r) (.cons x .nil)
def dRev : D → D → Wp D
  | .tuple ds, .int i => .need (i = -1) (.pure (.tuple ds.reverse))
  | _, _ => .stuck
@[simp] theorem rw_rev {ds : List D} : dRev (.tuple ds) (.int (-1)) = .need ((-1 : Int) = -1) (.pure (.tuple ds.reverse)) := rfl
theorem de_rev (hK : C.K = X.K) (ha : DE X C W a f) (hb : DE X C W b g) : DE X C W (.Subscript a (.Slice none none (some b) p2) pos) (d2 dRev f g) := by
  obtain ⟨ta, pa, qa⟩ := ha
  obtain ⟨tb, pb, qb⟩ := hb
  refine ⟨_, pe_rev pa pb, fun S0 H0 Pb σ H δ Q R hw => qa S0 H0 Pb σ H δ _ R ((f δ).mono (fun d hw x H1 g1 dx => ?_) (fun _ z => z) hw)⟩
  refine qb S0 H0 Pb σ H1 δ _ (R.gr g1) ((g δ).mono (fun e hw y H2 g2 dy => ?_) (fun _ z => z.gr g1) hw)
  have R2 := R.gr (g1.trans g2)
  have dx2 := Le.dp (hid_le (S' := Own (C.bx S0 H0) σ δ) g2.le fun _ z => z) d x dx
  have k2 : (dRev d e).run (Dv (C.bx S0 H0) σ H2 δ Q) (Ew (C.bx S0 H0) W σ H) := (dRev d e).mono (fun _ z => z.gr (g1.trans g2)) (fun _ z => z) hw
  unfold dRev at k2
  split at k2
  · cases dy
    cases dx2 with
    | tup s a =>
      obtain ⟨rfl, k3⟩ := k2
      rw [← hK]
      exact ⟨rfl, _, _, rfl, Le.sqT hid_sub s, new_tup R2 (dps_rev a) k3⟩
  · exact k2.elim
end
end Tr

namespace Tr
open PySem PySem.Spec PyProof.Rows L2
variable [ProtC]
section
variable {prog : Program} {w : World} {A : Around} {E : Value → Shared → Prop} {s : Shared} {l : Addr}
theorem iter_intTup {xs : Array (Int × Tok)} {Q : Value → Shared → Prop} (hl : s.heap.IsTuple l (intItems xs))
    (h : ∀ s₂, s₂ = { s with heap := s.heap.push { cls := .type "tuple_iterator", data := .fields #[.ref l, .int 0 0] } } →
      (s₂.heap.IsTupleIter s.heap.objs.size l 0 ∧ s₂.heap.IsTuple l (intItems xs)) → (∀ b ∈ [s.heap.objs.size, l], b < s₂.heap.objs.size) → l ≠ s.heap.objs.size → Q (.ref s.heap.objs.size) s₂) :
    wpAny (model prog w) A (pyIter (.ref l)) Q E s := by
  have hlt : l < s.heap.objs.size := by obtain ⟨_, e, _⟩ := hl; exact Heap.lt_size e
  refine wpAny_pyIter_tuple hl (h _ rfl ⟨⟨_, Heap.get?_push_size _ rfl, rfl, rfl⟩, hl.push _⟩ (fun b hb => ?_) (Nat.ne_of_lt hlt))
  show b < (s.heap.push _).objs.size
  rw [Heap.size_push]
  rcases List.mem_cons.mp hb with rfl | hb
  · exact Nat.lt_succ_self _
  · rcases List.mem_cons.mp hb with rfl | hb
    · exact Nat.lt_succ_of_lt hlt
    · cases hb
theorem old_keptT {h' : Heap} (hk : ∀ b o, b ∉ [s.heap.objs.size] → (s.heap.push { cls := .type "tuple_iterator", data := .fields #[.ref l, .int 0 0] }).get? b = some o → h'.get? b = some o) :
    ∀ b o, s.heap.get? b = some o → h'.get? b = some o := fun b o e => by
  refine hk b o (fun hm => ?_) (Heap.get?_push_of_some _ e)
  rcases List.mem_cons.mp hm with e1 | hm
  · exact absurd (e1 ▸ Heap.lt_size e) (Nat.lt_irrefl _)
  · cases hm
end
end Tr

namespace TrS
open PySem PyProof.Rows Srt SrtO
abbrev lexT : List Int → List Int → Bool := HT.lexLt
theorem lex_asym : ∀ x y : List Int, lexT x y = true → lexT y x = false
  | [], [], h => by cases h
  | [], _ :: _, _ => rfl
  | _ :: _, [], h => by cases h
  | a :: x, b :: y, h => by
    have h' : (if a = b then lexT x y else decide (a < b)) = true := h
    show (if b = a then lexT y x else decide (b < a)) = false
    by_cases e : a = b
    · rw [if_pos e] at h'
      rw [if_pos e.symm]
      exact lex_asym x y h'
    · rw [if_neg e] at h'
      rw [if_neg (Ne.symm e)]
      have := of_decide_eq_true h'
      exact decide_eq_false (by omega)
theorem lex_tr : ∀ x y z : List Int, lexT y x = false → lexT z y = false → lexT z x = false
  | [], _, [], _, _ => rfl
  | [], _, _ :: _, _, _ => rfl
  | _ :: _, [], [], h, _ => by cases h
  | _ :: _, [], _ :: _, h, _ => by cases h
  | _ :: _, _ :: _, [], _, h => by cases h
  | a :: x, b :: y, c :: z, h1, h2 => by
    have h1' : (if b = a then lexT y x else decide (b < a)) = false := h1
    have h2' : (if c = b then lexT z y else decide (c < b)) = false := h2
    show (if c = a then lexT z x else decide (c < a)) = false
    by_cases e1 : b = a
    · rw [if_pos e1] at h1'
      by_cases e2 : c = b
      · rw [if_pos e2] at h2'
        rw [if_pos (e2.trans e1)]
        exact lex_tr x y z h1' h2'
      · rw [if_neg e2] at h2'
        rw [if_neg (by omega)]
        have := of_decide_eq_false h2'
        exact decide_eq_false (by omega)
    · rw [if_neg e1] at h1'
      have q1 := of_decide_eq_false h1'
      by_cases e2 : c = b
      · rw [if_neg (by omega)]
        exact decide_eq_false (by omega)
      · rw [if_neg e2] at h2'
        have q2 := of_decide_eq_false h2'
        rw [if_neg (by omega)]
        exact decide_eq_false (by omega)
theorem lex_eq : ∀ x y : List Int, lexT x y = false → lexT y x = false → x = y
  | [], [], _, _ => rfl
  | [], _ :: _, h, _ => by cases h
  | _ :: _, [], _, h => by cases h
  | a :: x, b :: y, h1, h2 => by
    have h1' : (if a = b then lexT x y else decide (a < b)) = false := h1
    have h2' : (if b = a then lexT y x else decide (b < a)) = false := h2
    by_cases e : a = b
    · rw [if_pos e] at h1'
      rw [if_pos e.symm] at h2'
      rw [e, lex_eq x y h1' h2']
    · rw [if_neg e] at h1'
      rw [if_neg (Ne.symm e)] at h2'
      have := of_decide_eq_false h1'
      have := of_decide_eq_false h2'
      omega
theorem swo_lexT {α : Type} (k : α → List Int) : Swo fun v u => lexT (k v) (k u) := ⟨fun x y h => lex_asym _ _ h, fun x y z h1 h2 => lex_tr _ _ _ h1 h2⟩
def IsTI (h : Heap) (v : Value) (ns : List Int) : Prop := ∃ a o its n, v = .ref a ∧ h.get? a = some o ∧ o.cls = .type "tuple" ∧ o.data = .seq its n ∧ IntsAre its.toList ns
theorem IsTI.keeps {h h' : Heap} {v : Value} {ns : List Int} (p : IsTI h v ns) (k : ∀ b o, h.get? b = some o → o.cls = .type "tuple" → h'.get? b = some o) : IsTI h' v ns := by
  obtain ⟨a, o, its, n, e, ho, hc, hd, hi⟩ := p
  exact ⟨a, o, its, n, e, k _ _ ho hc, hc, hd, hi⟩
section
variable {prog : Program} {w : World} {A : Around} {E : Value → Shared → Prop} {s : Shared}
theorem katlex_ints (b : Bool) : ∀ {xs ys : List Value} {ns ms : List Int} (_ : IntsAre xs ns) (_ : IntsAre ys ms) (i : Nat) (fin : Bool) (_ : fin = decide (xs.length < ys.length)),
    PySem.W.KatLex prog w A b fin (fun r s' => s' = s ∧ r = lexT ns ms) (xs.zip ys) i s
  | _, _, _, _, .nil, .nil, i, fin, hf => PySem.W.kat_nil ⟨rfl, hf⟩
  | _, _, _, _, .nil, .cons _ _ _, i, fin, hf => PySem.W.kat_nil ⟨rfl, hf⟩
  | _, _, _, _, .cons _ _ _, .nil, i, fin, hf => PySem.W.kat_nil ⟨rfl, hf⟩
  | _, _, _, _, .cons x t rx, .cons y u ry, i, fin, hf => by
    have ih := katlex_ints b rx ry (i + 1) fin (by rw [hf]; simp)
    rename_i vs ns us ms
    show PySem.W.KatLex prog w A b fin (fun r s' => s' = s ∧ r = (if x = y then lexT ns ms else decide (x < y))) ((Value.int x t, Value.int y u) :: vs.zip us) i s
    refine PySem.W.kat_cons (SeqAt.EqAt.int_int x t y u prog w _ _ ?_)
    refine PySem.W.kat_go (fun e1 => ?_) (fun e1 => ?_)
    · have ex : x = y := by simpa using e1
      refine PySem.W.kat_yes ?_
      rw [show (fun (r : Bool) (s' : Shared) => s' = s ∧ r = (if x = y then lexT ns ms else decide (x < y))) = fun r s' => s' = s ∧ r = lexT ns ms by simp only [if_pos ex]]
      exact ih
    · have ex : ¬ x = y := by simpa using e1
      refine PySem.W.kat_no ?_
      rw [show (fun (r : Bool) (s' : Shared) => s' = s ∧ r = (if x = y then lexT ns ms else decide (x < y))) = fun r s' => s' = s ∧ r = decide (x < y) by simp only [if_neg ex]]
      generalize (b && i == 0) = c
      cases c with
      | true => exact oneLt_int ⟨rfl, rfl⟩
      | false =>
        refine PySem.W.kat_one _ _ (PyProof.Rows.lt_int ?_)
        exact (show s = s ∧ decide (x < y) = decide (x < y) from ⟨rfl, rfl⟩)
theorem tup_cmp {vs : List Value} {k : Value → List Int} (hp : ∀ v ∈ vs, IsTI s.heap v (k v)) : Cmp prog w A s (tuples' true) (fun p => p.1 ∈ vs) (lt2 fun v u => lexT (k v) (k u)) := by
  intro p q hm hm'
  have h1 := hp _ hm
  have h2 := hp _ hm'
  show wpAny (model prog w) A (keyLt' (tuples' true) p.1 q.1) (fun r s' => s' = s ∧ r = lexT (k p.1) (k q.1)) (fun _ _ => False) s
  generalize k p.1 = x at h1 ⊢
  generalize k q.1 = y at h2 ⊢
  obtain ⟨a, o, its, n, e, ho, hc, hd, hi⟩ := h1
  obtain ⟨a', o', its', n', e', ho', hc', hd', hi'⟩ := h2
  rw [e, e']
  refine PySem.W.kat_lt ho hd ho' hd' ?_
  exact katlex_ints true hi hi' 0 _ (by simp)
theorem firsts_tup {h : Heap} {k : Value → List Int} : ∀ {vs : List Value}, (∀ v ∈ vs, IsTI h v (k v) ∧ k v ≠ []) → ∃ fs : List Value, PySem.W.KatTups h vs fs ∧ fs.length = vs.length ∧ ∀ f ∈ fs, ∃ x t, f = Value.int x t
  | [], _ => ⟨[], PySem.W.KatTups.nil, rfl, fun _ hm => by simp at hm⟩
  | v :: vs, hp => by
    obtain ⟨fs, h1, h2, h3⟩ := firsts_tup (vs := vs) fun v' hm => hp v' (List.mem_cons_of_mem _ hm)
    obtain ⟨⟨a, o, its, n, e, ho, hc, hd, hi⟩, hne⟩ := hp v (List.mem_cons_self ..)
    obtain ⟨its⟩ := its
    subst e
    generalize k (Value.ref a) = ns at hi hne
    cases hi with
    | nil => exact absurd rfl hne
    | cons x t r =>
      refine ⟨.int x t :: fs, PySem.W.KatTups.cons ho hc hd rfl h1, by rw [List.length_cons, List.length_cons, h2], fun f hm => ?_⟩
      rcases List.mem_cons.mp hm with rfl | hm
      · exact ⟨x, t, rfl⟩
      · exact h3 f hm
theorem tups_sortable {a : Addr} {vs : List Value} {k : Value → List Int} (h0 : 0 < vs.length) (hp : ∀ v ∈ vs, IsTI s.heap v (k v) ∧ k v ≠ []) (ha : ∀ o, s.heap.get? a = some o → o.cls ≠ .type "tuple") : SortableO prog w A s a vs fun v u => lexT (k v) (k u) := by
  intro h' keep
  have hp' : ∀ v ∈ vs, IsTI h' v (k v) := fun v hm => (hp v hm).1.keeps fun b o e c => keep b o (fun z => by subst z; exact ha o e c) e
  obtain ⟨fs, h1, h2, h3⟩ := firsts_tup fun v hm => ⟨hp' v hm, (hp v hm).2⟩
  refine ⟨tuples' true, fun Q E hq => ?_, tup_cmp hp'⟩
  refine PySem.W.kat_kind (T := .type "int") h1 (by omega) (fun f hm => ?_) (by rfl) ?_
  · obtain ⟨x, t, rfl⟩ := h3 f hm
    exact PySem.W.Looks.now
  · have e : (Value.type "int" != Value.type "tuple") = true := by first | decide +kernel | rfl | decide
    rw [e]
    exact hq
theorem sorted_tups {l : Addr} {vs : List Value} {k : Value → List Int} {Q : Value → Shared → Prop} (hl : s.heap.IsList l vs.toArray) (hz : vs.length ≤ sizeLine) (hp : ∀ v ∈ vs, IsTI s.heap v (k v) ∧ k v ≠ [])
    (h : ∀ (h' : Heap) (d : Addr) (out : List Value), Srtd (fun v u => lexT (k v) (k u)) out → Stb (fun v u => lexT (k v) (k u)) out vs → (∀ b o, s.heap.get? b = some o → h'.get? b = some o) → s.heap.objs.size ≤ d → (∃ n, h'.get? d = some (seqObj "list" out.toArray n)) → Q (.ref d) { s with heap := h' }) :
    wpAny (model prog w) A (call (.builtin "sorted") [.ref l]) Q E s := by
  refine sorted_ord (swo_lexT k) hl hz (fun h2 h₁ a ha kk => ?_) fun out hs hb => ?_
  · refine tups_sortable (s := { s with heap := h₁ }) (by omega) (fun v hm => ⟨(hp v hm).1.keeps fun b o e _ => (kk b o e).2, (hp v hm).2⟩) fun o e => ?_
    have e' : some o = some (seqObj "list" vs.toArray 0) := e.symm.trans ha
    cases e'
    intro c
    exact absurd (Value.type.inj c) (by decide)
  · exact h _ _ out hs hb (fun b o e => sortedAll_old e) (Nat.le_succ _) (sortedAll_at s.heap vs out.toArray)
end
end TrS
namespace Tr
open PySem PySem.Spec PyProof.Rows L2
variable [ProtC]
abbrev lexV (k : V → List Int) (x y : V) : Bool := TrS.lexT (k x) (k y)
def rSortedTI (K : PySem.W.Frag) : List V → Hp → VK → Prop := fun vs H Q => ∃ (a : Addr) (xs : List V) (k : V → List Int), vs = [V.ref a] ∧ SqL K H a xs ∧ (∀ x ∈ xs, (∃ t, x = V.ref t ∧ SqT K H t ((k x).map V.int)) ∧ k x ≠ []) ∧
  ∀ ys p, SrtO.Srtd (lexV k) ys → ys.Perm xs → H p = none → Q (.ref p) (upd H p (.lst ys))
theorem cr_sortedTI {X : Cx} : CallR X (.builtin "sorted") (rSortedTI X.K) := by
  intro pins s σ H vs us Q I r h
  obtain ⟨a, xs, k, rfl, hs, hx, q⟩ := h
  obtain ⟨its, rv, hl, hz⟩ := I.list hs
  obtain ⟨u, rfl, ru⟩ := vals1 r
  obtain rfl : u = Value.ref a := ru
  obtain ⟨e1, e2⟩ := refs_back rv fun x m => by
    obtain ⟨⟨t, e, _⟩, _⟩ := hx x m
    exact ⟨t, e⟩
  refine TrS.sorted_tups (k := fun u => k (backV u)) hl.isList (by rw [← rv.length]; exact hz) (fun v hv => ?_) fun h' d out h1 h2 kp hd hn => ?_
  · obtain ⟨t, rfl⟩ := e2 v hv
    have hm : V.ref t ∈ xs := by rw [e1]; exact List.mem_map.mpr ⟨_, hv, rfl⟩
    obtain ⟨⟨t', e, ht⟩, hne⟩ := hx _ hm
    cases e
    obtain ⟨its2, r2, ⟨o, ho, hc, n, hd⟩, _⟩ := I.tuple ht
    exact ⟨⟨t, o, its2.toArray, n, rfl, ho, hc, hd, r2.ints⟩, hne⟩
  · have h3 : ∀ u ∈ out, ∃ a, u = Value.ref a := fun u hu => e2 u (h2.perm.mem_iff.mp hu)
    obtain ⟨n, hn⟩ := hn
    have hb : SrtO.Stb (lexV k) (out.map backV) xs := by
      rw [e1]
      exact SrtO.Stb.map (TrS.swo_lexT k) backV h2
    refine ⟨.ref d, upd H d (.lst (out.map backV)), I.laid (t' := s.toks) kp hd ⟨?_, out, n, vals_back h3, hn⟩, rfl, q _ d (SrtO.srtd_map h1) hb.perm (I.hok.fresh hd)⟩
    rw [hb.len]
    exact hz
def rSortedTZ (K : PySem.W.Frag) : List V → Hp → VK → Prop := fun vs H Q => ∃ (a : Addr) (zs : List (V × List Int)), vs = [V.ref a] ∧ SqL K H a (zs.map (·.1)) ∧ (∀ z ∈ zs, (∃ t, z.1 = V.ref t ∧ SqT K H t (z.2.map V.int)) ∧ z.2 ≠ []) ∧
  ∀ (ws : List (V × List Int)) (p : Addr), ws.Pairwise (fun x y => TrS.lexT y.2 x.2 = false) → ws.Perm zs → H p = none → Q (.ref p) (upd H p (.lst (ws.map (·.1))))
open Classical in
noncomputable def keyV (K : PySem.W.Frag) (H : Hp) (x : V) : List Int := if h : ∃ ns : List Int, ∃ t, x = V.ref t ∧ SqT K H t (ns.map V.int) then choose h else []
theorem int_inj : ∀ {a b : List Int}, a.map V.int = b.map V.int → a = b
  | [], [], _ => rfl
  | [], _ :: _, h => by simp at h
  | _ :: _, [], h => by simp at h
  | a :: x, b :: y, h => by
    simp only [List.map_cons, List.cons.injEq, V.int.injEq] at h
    rw [h.1, int_inj h.2]
theorem cr_sortedTZ {X : Cx} : CallR X (.builtin "sorted") (rSortedTZ X.K) := by
  intro pins s σ H vs us Q I r h
  obtain ⟨a, zs, rfl, hs, hx, q⟩ := h
  have kz : ∀ z ∈ zs, keyV X.K H z.1 = z.2 := fun z hz => by
    obtain ⟨⟨t, e, ht⟩, _⟩ := hx z hz
    have ex : ∃ ns : List Int, ∃ t, z.1 = V.ref t ∧ SqT X.K H t (ns.map V.int) := ⟨z.2, t, e, ht⟩
    unfold keyV
    rw [dif_pos ex]
    obtain ⟨t', e', ht'⟩ := Classical.choose_spec ex
    rw [e] at e'
    cases e'
    exact int_inj (I.tuple_inj ht' ht)
  refine cr_sortedTI pins s σ H _ us Q I r ⟨a, _, keyV X.K H, rfl, hs, fun x hxm => ?_, fun ys p h1 h2 hp => ?_⟩
  · obtain ⟨z, hz, rfl⟩ := List.mem_map.mp hxm
    rw [kz z hz]
    exact hx z hz
  · have e : (ys.map fun y => (y, keyV X.K H y)).map (·.1) = ys := by rw [List.map_map]; exact List.map_id _
    have := q (ys.map fun y => (y, keyV X.K H y)) p (List.pairwise_map.mpr h1) ?_ hp
    · rwa [e] at this
    · have h3 := h2.map fun y => (y, keyV X.K H y)
      rw [List.map_map] at h3
      have e2 : zs.map ((fun y => (y, keyV X.K H y)) ∘ fun x => x.1) = zs := by
        conv => rhs; rw [← List.map_id zs]
        refine List.map_congr_left fun z hz => ?_
        show (z.1, keyV X.K H z.1) = z
        rw [kz z hz]
      rwa [e2] at h3
def tupI (ns : List Int) : D := .tuple (ns.map .int)
def tupsD : List D → Option (List (List Int))
  | [] => some []
  | .tuple es :: ds => (intsD es).bind fun ns => (tupsD ds).map (ns :: ·)
  | _ => none
theorem tups_dps {K : PySem.W.Frag} {H : Hp} : ∀ {xs : List V} {ds : List D} {nss : List (List Int)}, DpAll K H xs ds → tupsD ds = some nss → xs.length = nss.length ∧ ∀ z ∈ xs.zip nss, ∃ t, z.1 = V.ref t ∧ SqT K H t (z.2.map V.int)
  | [], _, _, h, e => by cases h; cases e; exact ⟨rfl, fun _ h => by cases h⟩
  | x :: xs, _, _, h, e => by
    cases h with
    | cons a b =>
      cases a with
      | tup s dps =>
        unfold tupsD at e
        obtain ⟨ns, e1, e2⟩ := Option.bind_eq_some_iff.mp e
        obtain ⟨ms, e3, e4⟩ := Option.map_eq_some_iff.mp e2
        subst e4
        obtain ⟨l, ih⟩ := tups_dps b e3
        refine ⟨by simp [l], fun z hz => ?_⟩
        rcases List.mem_cons.mp hz with rfl | hz
        · rw [ints_dps dps e1] at s
          exact ⟨_, rfl, s⟩
        · exact ih z hz
      | _ => cases e
theorem ints_dp {K : PySem.W.Frag} {H : Hp} : ∀ ns : List Int, DpAll K H (ns.map V.int) (ns.map PyData.int)
  | [] => .nil
  | n :: ns => .cons (.int n) (ints_dp ns)
def bSortedT : List D → Wp D
  | [.list ds] => (optW (tupsD ds)).bind fun nss => .need (∀ ns ∈ nss, ns ≠ []) ((Wp.any fun (ms : List (List Int)) => ms.Perm nss ∧ ms.Pairwise (fun x y => TrS.lexT y x = false)).bind fun ms => .pure (.list (ms.map tupI)))
  | _ => .stuck
theorem on_sortedT {C : Cs} : OpN C (rSortedTZ C.K) bSortedT := by
  intro vs H ds Q S0 H0 Pb σ δ w R dp h
  unfold bSortedT at h
  split at h
  · rename_i es
    obtain ⟨nss, e, h1, h2⟩ := optW_inv h
    cases dp with
    | cons a b =>
      cases b
      cases a with
      | @lst a xs _ s dps =>
        obtain ⟨l, hz⟩ := tups_dps dps e
        have ez : (xs.zip nss).map (·.1) = xs := by rw [List.map_fst_zip]; omega
        refine ⟨a, xs.zip nss, rfl, ?_, fun z hzm => ?_, fun ws p w1 w2 hp => ?_⟩
        · rw [ez]
          exact Le.sqL hid_sub s
        · obtain ⟨t, e1, e2⟩ := hz z hzm
          exact ⟨⟨t, e1, Le.sqT hid_sub e2⟩, h1 _ (List.of_mem_zip hzm).2⟩
        · have em : (xs.zip nss).map (·.2) = nss := by rw [List.map_snd_zip]; omega
          have k := h2 (ws.map (·.2)) ⟨by have := w2.map (·.2); rwa [em] at this, List.pairwise_map.mpr w1⟩
          have k' : Dv (C.bx S0 H0) σ H δ Q (.list ((ws.map (·.2)).map tupI)) := k
          refine new_lst R (xs := ws.map (·.1)) (ds := (ws.map (·.2)).map tupI) ?_ k' p hp
          have all : ∀ z ∈ ws, ∃ t, z.1 = V.ref t ∧ SqT C.K (hid (Own (C.bx S0 H0) σ δ) H) t (z.2.map V.int) := fun z hzm => hz z (w2.mem_iff.mp hzm)
          clear w1 w2 k k' h2 h1
          induction ws with
          | nil => exact .nil
          | cons z ws ih =>
            obtain ⟨t, e1, e2⟩ := all z (by simp)
            simp only [List.map_cons]
            rw [e1]
            exact .cons (.tup e2 (ints_dp _)) (ih fun z hz => all z (by simp [hz]))
  · exact h.elim
def bSortedI : List D → Wp D
  | [.list ds] => (optW (intsD ds)).bind fun ns => ((Wp.any fun (ms : List Int) => ms.Perm ns ∧ ms.Pairwise (· ≤ ·)).bind fun ms => .pure (.list (ms.map .int)))
  | _ => .stuck
theorem on_sortedI {C : Cs} : OpN C (rSortedI C.K) bSortedI := by
  intro vs H ds Q S0 H0 Pb σ δ w R dp h
  unfold bSortedI at h
  split at h
  · rename_i es
    obtain ⟨ns, e, h2⟩ := optW_inv h
    cases dp with
    | cons a b =>
      cases b
      cases a with
      | lst s dps =>
        rw [ints_dps dps e] at s
        refine ⟨_, ns, rfl, Le.sqL hid_sub s, fun ms p m1 m2 hp => ?_⟩
        have k' : Dv (C.bx S0 H0) σ H δ Q (.list (ms.map .int)) := h2 ms ⟨m1, m2⟩
        exact new_lst R (ints_dp ms) k' p hp
  · exact h.elim
def bSorted (ds : List D) : Wp D := match ds with
  | [.list es] => if (intsD es).isSome then bSortedI ds else bSortedT ds
  | _ => .stuck
theorem cr_sortedA {X : Cx} : CallR X (.builtin "sorted") (fun vs H Q => rSortedI X.K vs H Q ∨ rSortedTZ X.K vs H Q) := by
  intro pins s σ H vs us Q I r h
  rcases h with h | h
  · exact cr_sortedI pins s σ H vs us Q I r h
  · exact cr_sortedTZ pins s σ H vs us Q I r h
theorem on_sortedA {C : Cs} : OpN C (fun vs H Q => rSortedI C.K vs H Q ∨ rSortedTZ C.K vs H Q) bSorted := by
  intro vs H ds Q S0 H0 Pb σ δ w R dp h
  unfold bSorted at h
  split at h
  · split at h
    · exact .inl (on_sortedI vs H _ Q S0 H0 Pb σ δ w R dp h)
    · exact .inr (on_sortedT vs H _ Q S0 H0 Pb σ δ w R dp h)
  · exact h.elim
def bBoolL : List D → Wp D
  | [.list ds] => .pure (.bool (!ds.isEmpty))
  | _ => .stuck
theorem on_boolL {C : Cs} : OpN C (fun xs H Q => ∃ (a : Addr) (zs : List V), xs = [.ref a] ∧ SqL C.K H a zs ∧ Q (.bl (!zs.isEmpty)) H) bBoolL := by
  intro vs H ds Q S0 H0 Pb σ δ w R dp h
  unfold bBoolL at h
  split at h
  · rename_i es
    cases dp with
    | cons a b =>
      cases b
      cases a with
      | lst s dps =>
        refine ⟨_, _, rfl, Le.sqL hid_sub s, ?_⟩
        rw [isEmpty_dps dps]
        exact h _ H (Grow.refl H) (.bl _)
  · exact h.elim
@[simp] theorem rw_boolL {ds : List D} : bBoolL [.list ds] = .pure (.bool (!ds.isEmpty)) := rfl
end Tr

namespace Tr
open PySem PySem.Spec L2
open GxR (TabG Tabbed)
open PyProof.Rows (AllBare)
variable [ProtC]
def cellS (S : Addr) (acc : Int) (h : Heap) : Prop := ∃ t c, h.get? S = some { cls := .type "list", dict := none, data := .seq #[.int acc t] c, slots := #[] }
structure SFx (X : Cx) (fp : List Addr) (S : Addr) : Prop where
  loc : S ≠ X.env.locals
  fs : S ∉ X.fs
  sz : X.s_0.heap.objs.size ≤ S
  cell : ∀ x c, X.env.cells.lookup x = some c → c ≠ S
  pn : ∀ p ∈ X.pn, p.1 ≠ S
  fp : S ∉ fp
theorem SFx.ok {X : Cx} {fp : List Addr} {S : Addr} {H : Hp} (h : SFx X fp S) (n : H S = none) : FpOk X [] H S := ⟨n, h.loc, h.fs, .inr h.sz, h.cell, fun p hp => h.pn p (by simpa using hp)⟩
def gEndS (X : Cx) (σ : St) (S : Addr) (Qe : Int → Hp → Prop) : GenEnd := fun _ s0 r s => r = .ok .next ∧ s0.gens.size ≤ s.gens.size ∧ ∃ H acc, cellS S acc s0.heap ∧ s.heap.get? S = s0.heap.get? S ∧ H S = none ∧ Inv X [] σ H s ∧ Qe acc H
def gProS (X : Cx) (σ : St) (S : Addr) : Protocol := fun _ s0 v s kap => s0.gens.size ≤ s.gens.size ∧ ∃ (i acc : Int) (tk : Tok) (H : Hp), v = .int i tk ∧ cellS S acc s0.heap ∧ s.heap.get? S = s0.heap.get? S ∧ H S = none ∧ Inv X [] σ H s ∧
  ∀ t, Inv X [] σ H t → (∀ b o, b ≠ S → s.heap.get? b = some o → t.heap.get? b = some o) → cellS S (acc + i) t.heap → kap (.send .none) t
def GTurnS (J : It) (W : Nat → Nat → Int → Hp → Prop) (Qe : Int → Hp → Prop) (g : TG) (tt : TT) (te : TE) (vs : List Nat) (σ : St) : Prop := ∀ i m acc H, W i m acc H →
  (J.stop i H ∧ Qe acc H) ∨ (J.go i H ∧ ∃ Nx : Int → Hp → Prop, (∀ a G, Nx a G → ∃ m', m' < m ∧ W (i + 1) m' a G) ∧ ∀ x G, J.yld i H x G → g x σ G fun σ2 H2 => wipe σ2 vs = σ ∧ tt σ2 H2 fun b H3 =>
    if b = true then te σ2 H3 fun y H4 => ∃ v, y = .int v ∧ Nx (acc + v) H4 else Nx acc H3)
section
variable {X : Cx}
theorem gen_loopS {s4 : Shared} {H0 : Hp} {A : Around} {fp : List Addr} {pn : List (Addr × Obj)} {it C : Addr} {code : Value} {elt tg iter : Expr} {ifs : List Expr} {scope : Scope} {own : List (Str × Nat)} {pos : Pos} {tn : Nat → Heap → Prop} {J : It} {W : Nat → Nat → Int → Hp → Prop} {Qe : Int → Hp → Prop} {S : Addr} {g : TG} {tt : TT} {te : TE} {σ : St}
    (hco : scope.isCoroutine = false) (T : Turn X.prog X.w X.K tg J fp it tn) (hpn : ∀ b ∈ fp, ∀ p ∈ pn, p.1 ≠ b)
    (pg : PG (gcx X s4 H0 (gEnv X scope C code) A fp pn) tg g) (pt : PTs (gcx X s4 H0 (gEnv X scope C code) A fp pn) ifs tt) (pe : PE (gcx X s4 H0 (gEnv X scope C code) A fp pn) elt te)
    (sf : SFx (gcx X s4 H0 (gEnv X scope C code) A fp pn) fp S)
    (ht : GTurnS J W Qe g tt te (own.map (·.2)) (wipe σ (own.map (·.2)))) : ∀ (m n i : Nat) (acc : Int) (s0 s : Shared) (H : Hp), m < n → s0.gens.size ≤ s.gens.size → W i m acc H → Inv (gcx X s4 H0 (gEnv X scope C code) A fp pn) [] (wipe σ (own.map (·.2))) H s → tn i s.heap → (∀ b ∈ fp, H b = none) → H S = none → cellS S acc s0.heap → s.heap.get? S = s0.heap.get? S →
    PySem.Seg (model X.prog X.w) A (gEndS (gcx X s4 H0 (gEnv X scope C code) A fp pn) (wipe σ (own.map (·.2))) S Qe) (gProS (gcx X s4 H0 (gEnv X scope C code) A fp pn) (wipe σ (own.map (·.2))) S) n s0
      (.compLoop (.GeneratorExp elt [⟨tg, iter, ifs, 0⟩] scope pos) 0 (.ref it) .none (gEnv X scope C code)) ((model X.prog X.w).den (.compLoop (.GeneratorExp elt [⟨tg, iter, ifs, 0⟩] scope pos) 0 (.ref it) .none (gEnv X scope C code))) [] s := by
  generalize hX : gcx X s4 H0 (gEnv X scope C code) A fp pn = XG at *
  have e1 : XG.prog = X.prog := by rw [← hX]
  have e2 : XG.w = X.w := by rw [← hX]
  have e3 : XG.K = X.K := by rw [← hX]
  have e4 : XG.calm = true := by rw [← hX]
  have e5 : XG.A = A.deeper (gEnv X scope C code) := by rw [← hX]
  have e6 : XG.env = gEnv X scope C code := by rw [← hX]
  have e7 : XG.pn = pn := by rw [← hX]
  have e8 : XG.ex = fp := by rw [← hX]
  have e9 : XG.xe = fun _ _ => False := by rw [← hX]
  intro m
  induction m using Nat.strongRecOn with
  | ind m ih =>
    intro n i acc s0 s H hmn hz hw I st nf nS hcell hSS
    obtain ⟨tkS, cS, hS0⟩ := hcell
    have hSs : s.heap.get? S = some { cls := .type "list", dict := none, data := .seq #[.int acc tkS] cS, slots := #[] } := hSS.trans hS0
    have IP := I.pinned (fp := [S]) (fun b hb => by rw [List.mem_singleton.mp hb]; exact sf.ok nS) (fun b hb => by rw [List.mem_singleton.mp hb]; exact ⟨_, hSs, fun v z => nomatch z⟩)
    have memP : (S, ({ cls := .type "list", dict := none, data := .seq #[.int acc tkS] cS, slots := #[] } : Obj)) ∈ [] ++ pinsAt [S] s.heap := List.mem_append_right _ (mem_pinsAt (List.mem_singleton.mpr rfl) hSs)
    have onlyP : ∀ p ∈ [] ++ pinsAt [S] s.heap, p.1 = S := fun p hp => by
      rcases List.mem_append.mp hp with z | z
      · cases z
      · exact List.mem_singleton.mp (of_pinsAt z).1
    generalize hPP : [] ++ pinsAt [S] s.heap = P at IP memP onlyP
    have keepS : ∀ {Pl : List (Addr × Obj)} {σ' : St} {H' : Hp} {s' : Shared}, Inv XG (P ++ Pl) σ' H' s' → s'.heap.get? S = s0.heap.get? S ∧ H' S = none := fun {Pl σ' H' s'} I' => by
      have z := I'.pin (S, _) (List.mem_append_right _ (List.mem_append_left _ memP))
      exact ⟨z.1.trans hS0.symm, z.2.1⟩
    have keepS0 : ∀ {σ' : St} {H' : Hp} {s' : Shared}, Inv XG P σ' H' s' → s'.heap.get? S = s0.heap.get? S ∧ H' S = none := fun {σ' H' s'} I' => by
      have z := I'.pin (S, _) (List.mem_append_right _ memP)
      exact ⟨z.1.trans hS0.symm, z.2.1⟩
    have free : ∀ {σ' : St} {H' : Hp} {s' : Shared}, Inv XG P σ' H' s' → Inv XG [] σ' H' s' := fun {σ' H' s'} I' => Inv.unpinned (pins := []) (pl := P) I'
    have stat : ∀ {σ' : St} {H' : Hp} {s' : Shared}, Inv XG P σ' H' s' → (∀ b ∈ fp, H' b = none) → ∀ b ∈ fp, FpOk XG P H' b := fun {σ' H' s'} I' hn b hb => by
      have hb' : b ∈ XG.ex := by rw [e8]; exact hb
      exact ⟨hn b hb, (I'.ok.exf b hb').1, I'.ok.exfs b hb', .inl hb', fun x c e => (I'.ok.exf b hb').2 x c e, fun p hp => by
        rcases List.mem_append.mp hp with z | z
        · rw [e7] at z
          exact hpn b hb p z
        · rw [onlyP p z]
          exact fun q => sf.fp (q ▸ hb)⟩
    show PySem.Seg _ A _ _ _ s0 _ ((compTurn (.GeneratorExp elt [⟨tg, iter, ifs, 0⟩] scope pos) 0 (.ref it) .none (gEnv X scope C code)).onRaise (leaving (gEnv X scope C code))) [] s
    rw [compTurn_gen, Sem.onRaise_eq_wrap]
    refine seg_bind_wrap (wpAny_standAt ?_)
    rcases ht i m acc H hw with ⟨stop, qe⟩ | ⟨go, Nx, hNx, step⟩
    · have td := T.done XG e1 e2 e3 e4 i P s _ H (fun _ _ => False) IP (stat IP nf) st stop
      rw [e5] at td
      refine seg_bind_wrap (GenW.wpAny_gsz hz (wpAny_mono td (fun r s1 hr hz => ?_) fun _ _ z _ => z.elim))
      obtain ⟨rfl, I1⟩ := hr
      exact seg_end (.ok .next) ⟨rfl, hz, H, acc, ⟨tkS, cS, hS0⟩, (keepS0 I1).1, nS, free I1, qe⟩
    · have ti := T.item XG e1 e2 e3 e4 i P s _ H (fun _ _ => False) IP (stat IP nf) st go
      rw [e5] at ti
      refine seg_bind_wrap (GenW.wpAny_gsz hz (wpAny_mono ti (fun r s1 hr hz => ?_) fun _ _ z _ => z.elim))
      obtain ⟨u, rfl, h1⟩ := hr
      refine seg_bind_wrap (GenW.wpAny_gsz hz (wpAny_mono h1 (fun _ s2 h2 hz => ?_) fun _ _ z _ => z.elim))
      obtain ⟨x, H2, I2, r2, y2, st2, n2⟩ := h2
      have I2' := I2.pinned (stat I2 n2) (T.obj _ _ st2)
      have pga := pg.run _ s2 _ H2 x u _ I2' r2 (step x H2 y2)
      rw [e1, e2, e5, e6, e9] at pga
      refine seg_bind_wrap (GenW.wpAny_gsz hz (wpAny_mono pga (fun _ s3 h3 hz => ?_) fun _ _ z _ => z.elim))
      obtain ⟨σ3, H3, I3, hw3, q3⟩ := h3
      have pta := pt.run _ s3 σ3 H3 _ I3 q3
      rw [e1, e2, e5, e6, e9] at pta
      refine seg_bind_wrap (GenW.wpAny_gsz hz (wpAny_mono pta (fun b s5 h5 hz => ?_) fun _ _ z _ => z.elim))
      obtain ⟨H5, I5, q5⟩ := h5
      have back : ∀ {s' : Shared} {H' : Hp}, Inv XG (P ++ pinsAt fp s2.heap) σ3 H' s' → Inv XG [] (wipe σ (own.map (·.2))) H' s' ∧ tn (i + 1) s'.heap ∧ (∀ b ∈ fp, H' b = none) ∧ s'.heap.get? S = s0.heap.get? S ∧ H' S = none := fun {s' H'} I' => by
        have pin' : ∀ b ∈ fp, ∀ o, s2.heap.get? b = some o → s'.heap.get? b = some o ∧ H' b = none := fun b hb o e =>
          let z := I'.pin (b, o) (List.mem_append_right _ (List.mem_append_right _ (mem_pinsAt hb e)))
          ⟨z.1, z.2.1⟩
        refine ⟨(free (I'.unpinned (pins := P))).weak (by rw [← hw3, wipe_length]) fun j v e => ?_, T.keep _ _ _ st2 fun b hb o e => (pin' b hb o e).1, fun b hb => ?_, (keepS I').1, (keepS I').2⟩
        · rw [← hw3] at e
          exact (wipe_some e).1
        · obtain ⟨o, e, _⟩ := T.obj _ _ st2 b hb
          exact (pin' b hb o e).2
      cases b with
      | false =>
        simp only [Bool.false_eq_true, if_false] at q5 ⊢
        obtain ⟨m', hm', w'⟩ := hNx acc H5 q5
        obtain ⟨b1, b2, b3, b4, b5⟩ := back I5
        exact seg_again rfl (ih m' hm' n (i + 1) acc s0 s5 H5 (by omega) hz w' b1 b2 b3 b5 ⟨tkS, cS, hS0⟩ b4)
      | true =>
        simp only [if_true] at q5 ⊢
        have hy : ∀ v, yieldOut (gEnv X scope C code) v = yieldValue v := fun v => by
          have hco' : (gEnv X scope C code).scope.isCoroutine = false := hco
          simp only [yieldOut, hco', Bool.false_eq_true, if_false]
        simp only [hy]
        rw [Sem.bind_eq_wrap', Sem.bind_eq_wrap', Sem.wrap_wrap, Sem.wrap_wrap]
        have pea := pe.run _ s5 σ3 H5 _ I5 q5
        rw [e1, e2, e5, e6, e9] at pea
        refine seg_wrap (GenW.wpAny_gsz hz (wpAny_mono pea (fun v s6 h6 hz => ?_) fun _ _ z _ => z.elim))
        obtain ⟨y, H6, I6, r6, k, rfl, q6⟩ := h6
        obtain ⟨tk, rfl⟩ := r6
        obtain ⟨b1, b2, b3, b4, b5⟩ := back I6
        obtain ⟨n', rfl⟩ : ∃ n', n = n' + 1 := ⟨n - 1, by omega⟩
        refine seg_at (seg_yield rfl rfl rfl ⟨hz, k, acc, tk, H6, rfl, ⟨tkS, cS, hS0⟩, b4, b5, b1, fun t It hk hc => ?_⟩)
        obtain ⟨m', hm', w'⟩ := hNx (acc + k) H6 q6
        have b2' : tn (i + 1) t.heap := T.keep _ _ _ b2 fun b hb o e => hk b o (fun z => sf.fp (z ▸ hb)) e
        exact seg_again rfl (ih m' hm' n' (i + 1) (acc + k) t t H6 (by omega) (Nat.le_refl _) w' It b2' b3 b5 hc rfl)
end
section
variable {prog : Program} {w : World} {A : Around} {E : Value → Shared → Prop}
theorem gen_nextS {XG : Cx} {σ : St} {Qe : Int → Hp → Prop} {S : Addr} {a : Addr} {g : Nat} {go : Obj} {Q : Option Value → Shared → Prop} (hP : XG.prog = prog) (hW : XG.w = w) (hh : A.handled = none) (hroom : A.depth < recursionLimit) (hpn : XG.pn = [(a, go)])
    (hgo : ∀ h : Heap, h.get? a = some go → h.IsGen a g) {n : Nat} {s : Shared} {gs : GenState} (hl : s.heap.NoLimit) (hg : s.heap.get? a = some go) (hgs : s.gens[g]? = some gs)
    (hr : gs.Goes (model prog w) A.in1 (gEndS XG σ S Qe) (gProS XG σ S) n (.send .none) (s.setGen g .running))
    (hv : ∀ (i acc : Int) (tk : Tok) (s1 : Shared) (H : Hp), cellS S acc s.heap → s1.heap.get? S = s.heap.get? S → H S = none → Inv XG [] σ H s1 →
      (∀ t, Inv XG [] σ H t → t.gens = s1.gens → (∀ b o, b ≠ S → s1.heap.get? b = some o → t.heap.get? b = some o) → cellS S (acc + i) t.heap → ∃ m gs', n = m + 1 ∧ t.heap.get? a = some go ∧ t.gens[g]? = some gs' ∧ gs'.Goes (model prog w) A.in1 (gEndS XG σ S Qe) (gProS XG σ S) m (.send .none) (t.setGen g .running)) → Q (some (.int i tk)) s1)
    (he : ∀ (acc : Int) (s1 : Shared) (H : Hp), cellS S acc s.heap → s1.heap.get? S = s.heap.get? S → Inv XG [] σ H s1 → Qe acc H → Q none s1) : wpAny (model prog w) A (pyNext (.ref a)) Q E s := by
  have bare1 : ∀ (s1 : Shared) (x : GenState), AllBare s1.gens → x.bare = true → AllBare (s1.setGen g x).gens := fun s1 x h hx => allBare_setGen h hx
  have hlt : g < s.gens.size := (Array.getElem?_eq_some_iff.mp hgs).1
  refine wpAny_pyNext_genexpQ (Y := gProS XG σ S) (P := fun _ s0 s1 => s0.gens.size ≤ s1.gens.size ∧ ∃ (H : Hp) (acc : Int), cellS S acc s0.heap ∧ s1.heap.get? S = s0.heap.get? S ∧ H S = none ∧ Inv XG [] σ H s1 ∧ Qe acc H) hh hl hroom (hgo _ hg) hgs hr (fun v s1 gs' hb hy => ?_) (fun s1 hp h' hk => ?_)
  · obtain ⟨hz, i, acc, tk, H, rfl, hc, hS, hn, I, hkap⟩ := hy
    have I' : Inv XG [] σ H (s1.setGen g gs') := Inv.slept I ⟨rfl, rfl, bare1 s1 gs' I.bare hb⟩
    have hz1 : g < s1.gens.size := by
      have hz2 : (s.setGen g .running).gens.size ≤ s1.gens.size := hz
      rw [GenW.setGen_size] at hz2
      exact Nat.lt_of_lt_of_le hlt hz2
    refine hv i acc tk (s1.setGen g gs') H hc hS hn I' fun t It hgens hk hct => ?_
    have z := hkap (t.setGen g .running) (Inv.slept It ⟨rfl, rfl, bare1 _ _ It.bare rfl⟩) hk hct
    have ha : t.heap.get? a = some go := (It.pin (a, go) (by rw [hpn]; exact List.mem_cons_self ..)).1
    cases n with
    | zero => exact z.elim
    | succ m =>
      refine ⟨m, gs', rfl, ha, ?_, z⟩
      rw [hgens]
      exact setGen_self (gs := s1.gens[g]) (Array.getElem?_eq_getElem hz1)
  · obtain ⟨_, H, acc, hc, hS, hn, I, q⟩ := hp
    have k : ∀ b u, s1.heap.get? b = some u → h'.get? b = some u := hk
    obtain ⟨t0, c0, e0⟩ := id hc
    refine he acc _ H hc ?_ ?_ q
    · have e1 : s1.heap.get? S = some _ := hS.trans e0
      exact (k _ _ e1).trans e0.symm
    · exact I.call' (ch := []) rfl (Un.kept k) (I.hok.kept k) (bare1 s1 _ I.bare rfl) fun b hb => by cases hb
theorem gen_sum {XG : Cx} {fp : List Addr} {σ : St} {Qe : Int → Hp → Prop} {S : Addr} {a : Addr} {g : Nat} {go : Obj} {R : Result → Shared → Prop} (hP : XG.prog = prog) (hW : XG.w = w) (hh : A.handled = none) (hroom : A.depth < recursionLimit) (hpn : XG.pn = [(a, go)])
    (hgo : ∀ h : Heap, h.get? a = some go → h.IsGen a g) (sf : SFx XG fp S) (hR : ∀ (acc : Int) (tk : Tok) (s1 : Shared) (H : Hp), Inv XG [] σ H s1 → Qe acc H → R (.ok (.ret (.int acc tk))) s1) : ∀ (n : Nat) (s : Shared) (gs : GenState) (acc : Int) (sg : Int), (sg = 0 ∨ sg = 2) → s.heap.NoLimit → s.heap.get? a = some go → s.gens[g]? = some gs → cellS S acc s.heap →
    gs.Goes (model prog w) A.in1.in1 (gEndS XG σ S Qe) (gProS XG σ S) n (.send .none) (s.setGen g .running) → codeAny (model prog w) A (.builtin "sum.loop" ⟨[.ref a, .ref S, rawInt sg, rawInt 0], []⟩) R s := by
  intro n
  induction n using Nat.strongRecOn with
  | ind n ih =>
    intro s gs acc sg hsg hl hg hgs hcell hr
    obtain ⟨t0, c0, hS⟩ := id hcell
    refine codeAny_builtin F.entry_sum_loop ?_
    rw [Around.under_plainId F.plain_sum_loop _]
    show wpAny _ A.in1 (seqItems? (.ref S) >>= _) _ _ s
    refine wpAny_bind (wpAny_seqItems hS rfl ?_)
    show wpAny _ A.in1 (tryCatch (pyNext (.ref a)) _ >>= _) _ _ s
    refine wpAny_bind (wpAny_tryCatch (gen_nextS (A := A.in1) hP hW hh hroom hpn hgo hl hg hgs hr (fun i acc' tk s1 H hc' hSS hn I hgo1 => ?_) fun acc' s1 H hc' hSS I q => ?_))
    · have eacc : acc' = acc := by
        obtain ⟨t1, c1, e1⟩ := hc'
        rw [hS] at e1
        cases e1
        rfl
      subst eacc
      have hS' := hSS.trans hS
      have two : wpAny (model prog w) A.in1 ((holding [Value.int i tk] (binaryOp .Add (.int acc' t0) (.int i tk))).attempt >>= fun r => match r with
          | .ok r => (do updateSeq S fun _ => #[r]; letGo [.int acc' t0, .int i tk]; updateSeq S (fun _ => #[r]); (again (.builtin "sum.loop" ⟨[.ref a, .ref S, rawInt 2, rawInt 0], []⟩) : Sem Fin))
          | .error e => (do updateSeq S fun _ => #[]; letGo [.int acc' t0, .int i tk] [e]; throw e)) (fun fin s' => match fin with
        | .done f => R (.ok f) s'
        | .again c' => c'.quiet = true ∧ codeAny (model prog w) A c' R s') (fun e s' => R (.error e) s') s1 := by
        refine wpAny_bind (wpAny_attempt (wpAny_holding (wpAny_add_int ?_)))
        show wpAny _ A.in1 (updateSeq S (fun _ => #[.int (acc' + i) s1.toks]) >>= _) _ _ _
        refine wpAny_bind (wpAny_updateSeq hS' rfl ?_)
        have hS₂ := Heap.get?_update_self (Obj.mapSeq fun _ => #[Value.int (acc' + i) s1.toks]) hS' rfl
        refine wpAny_bind (wpAny_letGo ?_)
        refine wpAny_bind (wpAny_updateSeq hS₂ rfl ?_)
        have It : Inv XG [] σ H { s1 with heap := (s1.heap.update S (Obj.mapSeq fun _ => #[.int (acc' + i) s1.toks])).update S (Obj.mapSeq fun _ => #[.int (acc' + i) s1.toks]), toks := s1.toks + 1 } :=
          I.turnedL (s := s1) (t' := s1.toks + 1) (ch := [S]) (fun b o hb e => (Heap.get?_update_other _ _ (fun h : S = b => hb (by rw [h]; exact List.mem_singleton.mpr rfl))).trans ((Heap.get?_update_other _ _ (fun h : S = b => hb (by rw [h]; exact List.mem_singleton.mpr rfl))).trans e)) fun b hb => by rw [List.mem_singleton.mp hb]; exact sf.ok hn
        obtain ⟨m, gs', rfl, ha, hg2, hgo2⟩ := hgo1 _ It rfl (fun b o hb e => (Heap.get?_update_other _ _ (fun h : S = b => hb h.symm)).trans ((Heap.get?_update_other _ _ (fun h : S = b => hb h.symm)).trans e)) ⟨_, _, Heap.get?_update_self _ hS₂ rfl⟩
        exact wpAny_pure ⟨plainId_quiet F.plain_sum_loop _, ih m (Nat.lt_succ_self _) _ gs' (acc' + i) 2 (.inr rfl) It.nolimit ha hg2 ⟨_, _, Heap.get?_update_self _ hS₂ rfl⟩ hgo2⟩
      rcases hsg with rfl | rfl
      · show wpAny _ A.in1 (if (_ : Bool) = true then (mkInt (acc' + i) >>= _) else _) _ _ _
        split
        · refine wpAny_bind (wpAny_mkInt ?_)
          show wpAny _ A.in1 (updateSeq S (fun _ => #[.int (acc' + i) s1.toks]) >>= _) _ _ _
          refine wpAny_bind ?_
          refine wpAny_updateSeq hS' rfl (wpAny_pure ⟨plainId_quiet F.plain_sum_loop _, ?_⟩)
          have It : Inv XG [] σ H { s1 with heap := s1.heap.update S (Obj.mapSeq fun _ => #[.int (acc' + i) s1.toks]), toks := s1.toks + 1 } :=
            I.turnedL (t' := s1.toks + 1) (ch := [S]) (fun b o hb e => (Heap.get?_update_other _ _ (fun h : S = b => hb (by rw [h]; exact List.mem_singleton.mpr rfl))).trans e) fun b hb => by rw [List.mem_singleton.mp hb]; exact sf.ok hn
          obtain ⟨m, gs', rfl, ha, hg2, hgo2⟩ := hgo1 _ It rfl (fun b o hb e => (Heap.get?_update_other _ _ (fun h : S = b => hb h.symm)).trans e) ⟨_, _, Heap.get?_update_self _ hS' rfl⟩
          exact ih m (Nat.lt_succ_self _) _ gs' (acc' + i) 0 (.inl rfl) It.nolimit ha hg2 ⟨_, _, Heap.get?_update_self _ hS' rfl⟩ hgo2
        · exact wpAny_bind (wpAny_rule two)
      · exact two
    · have eacc : acc' = acc := by
        obtain ⟨t1, c1, e1⟩ := hc'
        rw [hS] at e1
        cases e1
        rfl
      subst eacc
      exact wpAny_pure (hR acc' t0 s1 H I q)
end
def tGs (P : Addr) (wi : TI) (g : TG) (tt : TT) (te : TE) (vs : List Nat) : TE := fun σ H Q => wi σ H fun J H1 => TabG H1 P ∧ ∀ H2, Tabbed P H1 H2 →
  ∃ (W : Nat → Nat → Int → Hp → Prop) (Qe : Int → Hp → Prop), (∃ m, W 0 m 0 H2) ∧ GTurnS J W Qe g tt te vs (wipe σ vs) ∧ ∀ acc G, Qe acc G → Q (.int acc) G
section
variable {X : Cx}
theorem ga_goesS {pins : List (Addr × Obj)} {σ : St} {tg iter elt : Expr} {ifs : List Expr} {scope : Scope} {pos : Pos} {J : It} {H2 : Hp} {s4 t : Shared} {a : Addr} {own : List (Str × Nat)} {g : TG} {tt : TT} {te : TE} {W : Nat → Nat → Int → Hp → Prop} {Qe : Int → Hp → Prop}
    (hA : X.A.handled = none) (ok : GOk X.N X.env.scope scope own) (hN : X.N.Nodup) (pg : GFr X scope fun Y => PG Y tg g) (pt : GFr X scope fun Y => PTs Y ifs tt) (pe : GFr X scope fun Y => PE Y elt te)
    (ht : GTurnS J W Qe g tt te (own.map (·.2)) (wipe σ (own.map (·.2)))) (hm : ∃ m, W 0 m 0 H2) (M : Made X pins σ tg iter elt ifs scope pos J H2 s4 t a) :
    ∃ (XG : Cx) (gi : Nat) (go : Obj) (fp : List Addr) (gs : GenState), XG.prog = X.prog ∧ XG.w = X.w ∧ XG.pn = [(a, go)] ∧ (∀ h : Heap, h.get? a = some go → h.IsGen a gi) ∧ t.heap.get? a = some go ∧ t.gens[gi]? = some gs ∧
      (∀ H s, Inv XG [] (wipe σ (own.map (·.2))) H s → Inv X pins σ H s) ∧
      ∀ (h' : Heap) (tk' : Nat) (S : Addr), (∀ b o, t.heap.get? b = some o → h'.get? b = some o) → t.heap.objs.size ≤ S → cellS S 0 h' →
        SFx XG fp S ∧ h'.NoLimit ∧ ∃ n, gs.Goes (model X.prog X.w) (gA X) (gEndS XG (wipe σ (own.map (·.2))) S Qe) (gProS XG (wipe σ (own.map (·.2))) S) n (.send .none) ({ t with heap := h', toks := tk' }.setGen gi .running) := by
  obtain ⟨it, fp, tn, code, gi, go, h5, g5, t5, I2, T, st, hfp, rfl, kp, hns, hb, hga, hlt, hgo, hgen, hgs⟩ := M.ex
  obtain ⟨m, hm⟩ := hm
  have hfr : (gA X).frames = some X.stack := I2.ok.frames
  have IG := gen_start (A := gA X) (code := code) (fp := fp) (t5 := t5) I2 ok hN hfp hA hfr kp hns hb hga hlt hgo
  refine ⟨gcx X s4 H2 (gEnv X scope s4.heap.objs.size code) (gA X) fp [(a, go)], gi, go, fp, _, rfl, rfl, rfl, hgen, hga, hgs, fun H s J => gen_back I2 J fun b hb => (hfp b hb).1, fun h' tk' S hk hS hc => ?_⟩
  have nS : H2 S = none := IG.hok.fresh hS
  obtain ⟨q1, q2, q3, _, q5, q6⟩ := IG.fpOk hS nS
  have sfp : S ∉ fp := fun z => by
    have h1 := (hfp S z).2
    have h2 := Heap.lt_size hga
    exact absurd (Nat.lt_of_lt_of_le (Nat.lt_trans (Nat.lt_trans h1 hlt) h2) hS) (Nat.lt_irrefl _)
  have sf : SFx (gcx X s4 H2 (gEnv X scope s4.heap.objs.size code) (gA X) fp [(a, go)]) fp S := ⟨q2, q3, Nat.le_trans IG.sz hS, q5, fun p hp => q6 p (List.mem_append_left _ hp), sfp⟩
  have IG' := IG.kept (t' := tk') hk
  refine ⟨sf, IG'.nolimit, m + 1, ⟨rfl, ?_⟩⟩
  have st' : tn 0 h' := T.keep _ _ _ st fun b hb o e => hk b o e
  refine gen_begin (P := X.prog) T st' ?_
  refine gen_loopS ok.co T (fun b hb p hp => ?_) (pg ..) (pt ..) (pe ..) sf ht m (m + 1) 0 0 _ _ H2 (Nat.lt_succ_self _) (Nat.le_refl _) hm (Inv.slept IG' ⟨rfl, rfl, allBare_setGen hb rfl⟩) st' (fun b hb => (hfp b hb).1.1) nS hc rfl
  rw [List.mem_singleton] at hp
  subst hp
  exact Nat.ne_of_gt (Nat.lt_trans (hfp b hb).2 hlt)
theorem pe_sumG {c P : Addr} {elt tg iter : Expr} {ifs : List Expr} {p pos gpos : Pos} {scope : Scope} {own : List (Str × Nat)} {wi : TI} {g : TG} {tt : TT} {te : TE} {k : Nat}
    (hr : Room k X.A) (hg : Gl X "sum") (hm : X.mg "sum" = none) (TB : GxR.TabB X.base X.mg c P) (hcode : X.env.code = .ref c) (ok : GOk X.N X.env.scope scope own) (hN : X.N.Nodup) (hi : PI X tg iter wi)
    (pg : GFr X scope fun Y => PG Y tg g) (pt : GFr X scope fun Y => PTs Y ifs tt) (pe : GFr X scope fun Y => PE Y elt te) (hs : ∀ v, genFold iter X.env v = pure v)
    (hbt : bootBuiltins "sum" = some (.builtin "sum"))
    (he : starEach [.GeneratorExp elt [⟨tg, iter, ifs, 0⟩] scope gpos] X.env = (false, eval (.GeneratorExp elt [⟨tg, iter, ifs, 0⟩] scope gpos) X.env) :: starEach [] X.env := by rfl) :
    PE X (.Call (.Name "sum" p) [.GeneratorExp elt [⟨tg, iter, ifs, 0⟩] scope gpos] [] pos) (tGs P wi g tt te (own.map (·.2))) := by
  refine ⟨fun pins s σ H Q I h => ?_⟩
  refine wpAny_Call_Name_kw (ld_blt I hg hm hbt ?_)
  refine PyProof.Rows.callWith_builtin1 ?_ he (by rfl)
  rw [he]
  show wpAny _ _ (spliced ((false, eval (.GeneratorExp elt [⟨tg, iter, ifs, 0⟩] scope gpos) X.env) :: backTo pos (starEach [] X.env))) _ _ s
  refine Calls.spliced_cons (gen_make hr TB hcode ok hi hs I h fun J H2 s4 t a ⟨W, Qe, hW, ht, q1⟩ M => ?_)
  refine Calls.spliced_nil ?_
  obtain ⟨XG, gi, go, fp, gs, e1, e2, e3, hgen, hga, hgs, back, goes⟩ := ga_goesS hr.hd ok hN pg pt pe ht hW M
  refine call_function_tree F.kind_sum F.plain_sum F.entry_sum (F.args_sum1 _) ?_
  unfold Builtin.«sum»
  simp only [List.length_cons, List.length_nil]
  rw [if_neg (by decide)]
  refine wpAny_bind (wpAny_of_eq (show Builtin.Builtins.bindParams "sum" ["start"] 0 { } = pure [none] from rfl) ?_)
  refine wpAny_bind (wpAny_pyIter_gen (hgen _ hga) ?_)
  refine wpAny_bind (wpAny_mkInt ?_)
  refine wpAny_bind (wpAny_pure ?_)
  simp only [List.forIn_cons, List.forIn_nil]
  refine wpAny_bind (wpAny_bind (wpAny_bind (wpAny_isInstance (T := "int") (b := false) (typeIs_int _ _ _) sub_int_str ?_)))
  simp only [Bool.false_eq_true, if_false]
  refine wpAny_pure (wpAny_bind (wpAny_bind (wpAny_isInstance (T := "int") (b := false) (typeIs_int _ _ _) sub_int_bytes ?_)))
  simp only [Bool.false_eq_true, if_false]
  refine wpAny_pure (wpAny_bind (wpAny_bind (wpAny_isInstance (T := "int") (b := false) (typeIs_int _ _ _) sub_int_bytearray ?_)))
  simp only [Bool.false_eq_true, if_false]
  refine wpAny_pure (wpAny_pure ?_)
  refine wpAny_bind (wpAny_newObj_type ?_)
  obtain ⟨sf, nl, n, hgo⟩ := goes (t.heap.push { cls := .type "list", dict := none, data := .seq #[.int 0 t.toks] 0, slots := #[] }) (t.toks + 1) t.heap.objs.size (fun b o e => Heap.get?_push_of_some _ e) (Nat.le_refl _) ⟨_, _, Heap.get?_push_size _ rfl⟩
  exact wpAny_pure ⟨plainId_quiet F.plain_sum_loop _, gen_sum e1 e2 hr.hd (by have := hr.dp; show X.A.depth < _; omega) e3 hgen sf (fun acc tk s1 H J z => ⟨.int acc, H, back H s1 J, ⟨tk, rfl⟩, q1 acc H z⟩) n _ gs 0 0 (.inl rfl) nl (Heap.get?_push_of_some _ hga) hgs ⟨_, _, Heap.get?_push_size _ rfl⟩ hgo⟩
end
end Tr

namespace Tr
open PySem PySem.Spec L2
open GxR (TabG Tabbed)
variable [ProtC]
def gsLoop (g : BF) (t : TF) (f : DF) (δ : De) : Int → List D → Wp D
  | acc, [] => .pure (.int acc)
  | acc, d :: ds => (optW (g d δ)).bind fun δ1 => (t δ1).bind fun b => if b then (f δ1).bind fun y => match y with
    | .int k => gsLoop g t f δ (acc + k) ds
    | _ => .stuck else gsLoop g t f δ acc ds
def dGs (fi : De → Wp (List D)) (g : BF) (t : TF) (f : DF) (vs : List Nat) : DF := fun δ => (fi δ).bind fun ds => (gsLoop g t f (dWipe δ vs) 0 ds).nox
theorem gs_read {C : Cs} {W : WX} {P : Addr} {wi : TI} {fi : De → Wp (List D)} {g : BF} {ix vs : List Nat} {t : TF} {f : DF} (hP : P ∈ C.T)
    (qw : ∀ S0 H0 Pb σ H δ Q, Rep (C.bx S0 H0) Pb σ H δ → (fi δ).run (fun ds => ∀ J G, Grow H G → Items C.K (hid (Own (C.bx S0 H0) σ δ) G) (obh C H0) ds J → Q J G) (Ew (C.bx S0 H0) W σ H) → wi σ H Q) (hix : ∀ i ∈ ix, i ∈ vs)
    {S0 : Addr → Prop} {H0 Pb : Hp} {σ : St} {H : Hp} {δ : De} {Q : VK} (R : Rep (C.bx S0 H0) Pb σ H δ)
    (h : (dGs fi g t f vs δ).run (Dv (C.bx S0 H0) σ H δ Q) (Ew (C.bx S0 H0) W σ H)) :
    tGs P wi (rG C ix g) (rT C W0 t) (rE C W0 f) vs σ H Q := by
  refine qw S0 H0 Pb σ H δ _ R ((fi δ).mono (fun ds h J G gr it => ?_) (fun _ z => z) h)
  have hT : TabG G P := gr.tb P (R.tabs P hP)
  refine ⟨hT, fun H2 hT2 => ?_⟩
  have g2 : Grow H H2 := gr.trans (Tabbed.grow (C.np P hP) hT hT2)
  have l2 : Le (hid (Own (C.bx S0 H0) σ δ) G) (hid (Own (C.bx S0 H0) σ δ) H2) := hid_le (Tabbed.grow (C.np P hP) hT hT2).le fun _ z => z
  obtain ⟨Gp, Y, w, hG, hY⟩ := it
  have h : (gsLoop g t f (dWipe δ vs) 0 ds).run (Dv (C.bx S0 H0) σ H δ Q) (fun _ => False) := h
  refine ⟨fun i m acc Hi => m = ds.length - i ∧ i ≤ ds.length ∧ Grow H2 Hi ∧ (gsLoop g t f (dWipe δ vs) acc (ds.drop i)).run (Dv (C.bx S0 H0) σ H δ Q) (fun _ => False), fun acc G => Q (.int acc) G, ⟨ds.length, by simp, Nat.zero_le _, Grow.refl _, h⟩, ?_, fun _ _ z => z⟩
  rintro i m acc Hi ⟨rfl, hi, gi, hr⟩
  have li : Le (hid (Own (C.bx S0 H0) σ δ) G) (hid (Own (C.bx S0 H0) σ δ) Hi) := l2.trans (hid_le gi.le fun _ z => z)
  have lb : Le (obh C H0) Hi := obh_le.trans (R.grow.trans (g2.trans gi)).le
  have gp : Gp Hi := hG Hi (li.trans hid_sub) lb
  by_cases hlt : i < ds.length
  · refine .inr ⟨w.goes i Hi hlt gp, fun a G => Grow H2 G ∧ (gsLoop g t f (dWipe δ vs) a (ds.drop (i + 1))).run (Dv (C.bx S0 H0) σ H δ Q) (fun _ => False), fun a G p' => ⟨ds.length - (i + 1), by omega, rfl, hlt, p'⟩, fun x Hi2 y => ?_⟩
    have dom : ∀ b, Own (C.bx S0 H0) σ δ b → Hi b ≠ none := fun b z => (g2.trans gi).dm b (R.odom b z)
    obtain ⟨gw, d, hd, dx⟩ := hY i Hi x Hi2 _ hlt li lb dom (w.yields i Hi x Hi2 hlt gp y)
    have ed : ds.drop i = d :: ds.drop (i + 1) := by
      rw [List.drop_eq_getElem_cons hlt]
      rw [List.getElem?_eq_getElem hlt] at hd
      rw [Option.some.inj hd]
    rw [ed] at hr
    obtain ⟨δ1, hg1, hr⟩ := optW_inv hr
    have g3 : Grow H Hi2 := (g2.trans gi).trans gw
    have RB := R.gen vs g3
    have ownB : ∀ b, Own (C.bx (Own (C.bx S0 H0) σ δ) Hi2) (wipe σ vs) (dWipe δ vs) b → Own (C.bx S0 H0) σ δ b := fun b z => by
      rcases z with z | ⟨j, es, e1, _⟩
      · exact z
      · exact absurd rfl ((dWipe_get (by intro z; cases z) e1).2.2 es)
    refine ⟨_, _, _, dWipe δ vs, d, δ1, RB, Le.dp (hid_le (Le.refl _) ownB) d x dx, hg1, fun σ2 R2 o2 w2 => ⟨?_, ?_⟩⟩
    · rw [w2 vs hix]
      apply List.ext_getElem?
      intro j
      rw [wipe_get, wipe_get]
      split
      · rename_i hj
        cases σ[j]? <;> rfl
      · rename_i hj
        rfl
    refine ⟨_, _, _, δ1, R2, (t δ1).mono (fun b hb H3 g3' => ?_) (fun x hx => hx.elim) hr⟩
    cases b with
    | false => exact ⟨(gi.trans gw).trans g3', hb⟩
    | true =>
      refine ⟨_, _, _, δ1, R2.gr g3', (f δ1).mono (fun yd hy v H4 g4 dv => ?_) (fun x hx => hx.elim) hb⟩
      have g5 : Grow H2 H4 := ((gi.trans gw).trans g3').trans g4
      cases dv with
      | int k =>
        exact ⟨k, rfl, g5, hy⟩
      | _ => exact hy.elim
  · have e : i = ds.length := by omega
    subst e
    rw [List.drop_length] at hr
    have hr : Dv (C.bx S0 H0) σ H δ Q (.int acc) := hr
    exact .inl ⟨w.stops Hi gp, hr (.int acc) Hi (g2.trans gi) (.int acc)⟩
section
variable {X : Cx} {C : Cs} {W : WX} {c P : Addr} {elt tg iter : Expr} {ifs : List Expr} {p pos gpos : Pos} {scope : Scope} {own : List (Str × Nat)} {fi : De → Wp (List D)} {g : BF} {ix : List Nat} {t : TF} {f : DF} {k : Nat}
theorem boot_sum' : bootBuiltins "sum" = some (.builtin "sum") := by decide +kernel
theorem de_sumG (hr : Room k X.A) (hg : Gl X "sum") (hm : X.mg "sum" = none) (TB : GxR.TabB X.base X.mg c P) (hP : P ∈ C.T) (hcode : X.env.code = .ref c) (ok : GOk X.N X.env.scope scope own) (hix : ∀ i ∈ ix, i ∈ own.map (·.2)) (hN : X.N.Nodup) (hi : DI X C W tg iter fi)
    (pg : GFr X scope fun Y => DG Y C tg ix g) (pt : GFr X scope fun Y => DTs Y C W0 ifs t) (pe : GFr X scope fun Y => DE Y C W0 elt f) (hs : ∀ v, genFold iter X.env v = pure v := by intro _; rfl) :
    DE X C W (.Call (.Name "sum" p) [.GeneratorExp elt [⟨tg, iter, ifs, 0⟩] scope gpos] [] pos) (dGs fi g t f (own.map (·.2))) := by
  obtain ⟨wi, pw, qw⟩ := hi
  exact ⟨_, pe_sumG hr hg hm TB hcode ok hN pw (fun s H C c fp pn => (pg s H C c fp pn).to) pt (fun s H C c fp pn => (pe s H C c fp pn).to) hs boot_sum', fun S0 H0 Pb σ H δ Q R h => gs_read hP qw hix R h⟩
end
section
variable {A α : Type} {k : D → Prop} {w : Exn → Prop} {δ : De} {f : DF} {t : TF} {d : D} {ds : List D} {q : BF} {fi : De → Wp (List D)} {vs : List Nat} {acc : Int}
@[simp] theorem rw_dGs : dGs fi q t f vs δ = (fi δ).bind fun ds => (gsLoop q t f (dWipe δ vs) 0 ds).nox := rfl
@[simp] theorem rw_gs0 : gsLoop q t f δ acc [] = .pure (.int acc) := rfl
theorem rw_gs1 : gsLoop q t f δ acc (d :: ds) = (optW (q d δ)).bind fun δ1 => (t δ1).bind fun b => if b then (f δ1).bind fun y => match y with
    | .int k => gsLoop q t f δ (acc + k) ds
    | _ => .stuck else gsLoop q t f δ acc ds := rfl
theorem gs_run {xs : List α} {g : α → D} {p : α → Bool} {v : α → Int} {B : Int} (hB : B < 2 ^ 63) (h0 : 0 ≤ acc) (hv : ∀ x ∈ xs, p x = true → 0 ≤ v x) (hb : acc + ((xs.filter p).map v).sum ≤ B)
    (hs : ∀ x ∈ xs, ∃ δ1, q (g x) δ = some δ1 ∧ (∀ kb : Bool → Prop, kb (p x) → (t δ1).run kb w) ∧ (p x = true → ∀ kd : D → Prop, kd (.int (v x)) → (f δ1).run kd w)) (hk : k (.int (acc + ((xs.filter p).map v).sum))) : (gsLoop q t f δ acc (xs.map g)).run k w := by
  induction xs generalizing acc with
  | nil => simpa using hk
  | cons x xs ih =>
    obtain ⟨δ1, e, h1, h2⟩ := hs x (by simp)
    have nn : ∀ ys : List α, (∀ y ∈ ys, p y = true → 0 ≤ v y) → 0 ≤ ((ys.filter p).map v).sum := fun ys => by
      induction ys with
      | nil => intro _; simp
      | cons y ys ih =>
        intro h
        have := ih (fun z hz => h z (by simp [hz]))
        cases c : p y with
        | true => have := h y (by simp) c; simp [c]; omega
        | false => simpa [c] using this
    have n1 := nn xs (fun y hy => hv y (by simp [hy]))
    rw [List.map_cons, rw_gs1, e]
    simp only [optW_some, pure_bind, run_bind]
    refine h1 _ ?_
    cases c : p x with
    | true =>
      have v0 := hv x (by simp) c
      simp only [List.filter_cons, c, if_true, List.map_cons, List.sum_cons] at hb hk
      simp only [if_true]
      simp only [run_bind]
      refine h2 c _ (ih (by omega) (fun y hy => hv y (by simp [hy])) (by omega) (fun y hy => hs y (by simp [hy])) ?_)
      · rw [Int.add_assoc]; exact hk
    | false =>
      simp only [List.filter_cons, c, Bool.false_eq_true, if_false] at hb hk ⊢
      exact ih h0 (fun y hy => hv y (by simp [hy])) hb (fun y hy => hs y (by simp [hy])) hk
end
end Tr

namespace Tr
open PySem PySem.Spec L2
open PyProof.Rows
variable [ProtC]
section
variable {X : Cx}
theorem ps_par3c {i j l : Nat} {x y z : Str} {a b c : Expr} {ta : TA} {px py pz pt pos : Pos} {kt k2 pt2} (hc : X.calm = true) (hN : X.N.Nodup) (hi : X.N[i]? = some x) (hj : X.N[j]? = some y) (hl : X.N[l]? = some z)
    (hx : Loc X.env.scope x) (hy : Loc X.env.scope y) (hz : Loc X.env.scope z) (ha : PA X [a, b, c] ta)
    (hw : swappedStores [.Tuple [.Name x px, .Name y py, .Name z pz] kt pt] (.Tuple [a, b, c] k2 pt2) X.env = pure none)
    (hs : swapsWithSole [.Tuple [.Name x px, .Name y py, .Name z pz] kt pt] (.Tuple [a, b, c] k2 pt2) pos.line X.env = pure false := by rfl)
    (hfx : X.fn x = true ∨ X.env.scope.names.lookup x = some .local := by first | exact .inl rfl | exact .inr rfl | assumption)
    (hfy : X.fn y = true ∨ X.env.scope.names.lookup y = some .local := by first | exact .inl rfl | exact .inr rfl | assumption)
    (hfz : X.fn z = true ∨ X.env.scope.names.lookup z = some .local := by first | exact .inl rfl | exact .inr rfl | assumption) :
    PS X (.Assign [.Tuple [.Name x px, .Name y py, .Name z pz] kt pt] (.Tuple [a, b, c] k2 pt2) pos) (tPar3 i j l ta) := by
  refine ⟨fun pins s σ H D I h => ?_⟩
  refine wpAny_Assign_stores (Tuple_ (thn (ha.run _ pins s σ H _ I h) fun us s1 ⟨vs, H1, I1, r1, q1⟩ => ?_)) hs hw
  obtain ⟨v1, v2, v3, e1, q1⟩ := q1
  subst e1
  obtain ⟨u1, u2, u3, rfl, r1', r2', r3'⟩ : ∃ u1 u2 u3, us = [u1, u2, u3] ∧ RelV v1 u1 ∧ RelV v2 u2 ∧ RelV v3 u3 := by
    cases r1 with
    | cons p q =>
      cases q with
      | cons p' q' =>
        cases q' with
        | cons p'' q'' =>
          cases q''
          exact ⟨_, _, _, rfl, p, p', p''⟩
  refine wpAny_newObj_type ?_ (by show 3 ≤ sizeLine; decide)
  have I2 : Inv X pins σ H1 { s1 with heap := s1.heap.push { cls := .type "tuple", data := .seq [u1, u2, u3].toArray } } := I1.kept (t' := s1.toks) fun b o e => Heap.get?_push_of_some _ e
  show wpAny (model X.prog X.w) X.A (assign (.Tuple [.Name x px, .Name y py, .Name z pz] kt pt) X.env (.ref s1.heap.objs.size)) _ _ _
  refine assign_Tuple_tuple (I.ok.hd hc) (items := #[u1, u2, u3]) (IsTup.new s1.heap _) rfl rfl fun h' hx' => ?_
  have I3 := I2.kept (h' := h') (t' := s1.toks) fun b o e => hx' b o (Nat.ne_of_lt (Heap.lt_size e)) e
  show wpAny _ _ (assignInOrder [assign (.Name x px) X.env, assign (.Name y py) X.env, assign (.Name z pz) X.env] [u1, u2, u3]) _ _ _
  refine assignInOrder_cons (wpAny_assign_Name (store_ok I3 hN hi hx r1' (fun s2 I4 => ?_) hfx))
  refine assignInOrder_cons (wpAny_assign_Name (store_ok I4 hN hj hy r2' (fun s3 I5 => ?_) hfy))
  refine assignInOrder_cons (wpAny_assign_Name (store_ok I5 hN hl hz r3' (fun s4 I6 => assignInOrder_nil ?_) hfz))
  exact ⟨_, H1, I6, q1⟩
variable {C : Cs} {W : WX} {i j l : Nat} {a b c : Expr} {st : Stmt} {f g : DF} {fl : De → Wp (List D)}
def sParDDO (i j l : Nat) (f g : DF) (fl : De → Wp (List D)) : SF := fun δ => (f δ).bind fun d => (g δ).bind fun e => (fl δ).bind fun ds => .pure (.nx (((δ.set l (.o ds)).set j (.p e)).set i (.p d)))
def sParDOD (i j l : Nat) (f : DF) (fl : De → Wp (List D)) (g : DF) : SF := fun δ => (f δ).bind fun d => (fl δ).bind fun ds => (g (dWipe δ [])).nox.bind fun e => .pure (.nx (((δ.set j (.o ds)).set l (.p e)).set i (.p d)))
theorem ds_parDDO (hij : i ≠ j) (hil : i ≠ l) (hjl : j ≠ l) (ha : DE X C W a f) (hb : DE X C W b g) (hc : DN X C W c fl) (hp : ∀ ta, PA X [a, b, c] ta → PS X st (tPar3 i j l ta))
    (h1 : starEach [a, b, c] X.env = (false, eval a X.env) :: starEach [b, c] X.env := by rfl) (h2 : starEach [b, c] X.env = (false, eval b X.env) :: starEach [c] X.env := by rfl) (h3 : starEach [c] X.env = (false, eval c X.env) :: starEach [] X.env := by rfl) :
    DS X C W st (sParDDO i j l f g fl) := by
  obtain ⟨t, p, q⟩ := ha
  obtain ⟨u, p2, q2⟩ := hb
  obtain ⟨u3, p3, q3⟩ := hc
  refine ⟨_, hp _ (pa_cons p (pa_cons p2 (pa_cons p3 pa_nil h3) h2) h1), fun S0 H0 Pb σ H δ E R h => q S0 H0 Pb σ H δ _ R ((f δ).mono (fun d h v G g1 dp => ?_) (fun _ z => z.ew R) h)⟩
  have R1 := R.gr g1
  refine q2 S0 H0 Pb σ G δ _ R1 ((g δ).mono (fun e h w G2 g2 dp2 => ?_) (fun _ z => z.ew R1) h)
  have R2 := R1.gr g2
  refine q3 S0 H0 Pb σ G2 δ _ R2 ((fl δ).mono (fun ds h x xs G3 g3 na hl dps => ?_) (fun _ z => z.ew R2) h)
  refine ⟨_, _, _, rfl, ?_⟩
  have le := (R2.top.setO (i := l) g3 na hl dps).ph
  have R3 := R2.setO (i := l) g3 na hl dps
  have dv := Le.dp le d v (Le.dp (hid_le g2.le fun _ z => z) d v dp)
  have dw := Le.dp le e w dp2
  have R4 := R3.setP (i := j) dw
  have dv' := Le.dp (hid_le (S' := Own (C.bx S0 H0) ((σ.set l (some (.ref x))).set j (some w)) ((δ.set l (.o ds)).set j (.p e))) (Le.refl G3) fun b z => own_set R3.len z) d v dv
  have R5 := R4.setP (i := i) dv'
  have es : ((σ.set i (some v)).set j (some w)).set l (some (.ref x)) = ((σ.set l (some (.ref x))).set j (some w)).set i (some v) := by
    rw [List.set_comm _ _ hij, List.set_comm _ _ hil, List.set_comm _ _ hjl]
  rw [es]
  exact h _ G3 R5
theorem ds_parDOD (hij : i ≠ j) (hil : i ≠ l) (hjl : j ≠ l) (ha : DE X C W a f) (hb : DN X C W b fl) (hc : DE X C W c g) (hp : ∀ ta, PA X [a, b, c] ta → PS X st (tPar3 i j l ta))
    (h1 : starEach [a, b, c] X.env = (false, eval a X.env) :: starEach [b, c] X.env := by rfl) (h2 : starEach [b, c] X.env = (false, eval b X.env) :: starEach [c] X.env := by rfl) (h3 : starEach [c] X.env = (false, eval c X.env) :: starEach [] X.env := by rfl) :
    DS X C W st (sParDOD i j l f fl g) := by
  obtain ⟨t, p, q⟩ := ha
  obtain ⟨u, p2, q2⟩ := hb
  obtain ⟨u3, p3, q3⟩ := hc
  refine ⟨_, hp _ (pa_cons p (pa_cons p2 (pa_cons p3 pa_nil h3) h2) h1), fun S0 H0 Pb σ H δ E R h => q S0 H0 Pb σ H δ _ R ((f δ).mono (fun d h v G g1 dp => ?_) (fun _ z => z.ew R) h)⟩
  have R1 := R.gr g1
  refine q2 S0 H0 Pb σ G δ _ R1 ((fl δ).mono (fun ds h x xs G2 g2 na hl dps => ?_) (fun _ z => z.ew R1) h)
  have RB := R1.blk [] g2 na hl
  have h : (g (dWipe δ [])).run _ (fun _ => False) := h
  refine q3 _ _ _ σ G2 (dWipe δ []) _ RB ((g (dWipe δ [])).mono (fun e h w G3 g3 dp3 => ?_) (fun _ z => z.elim) h)
  refine ⟨_, _, _, rfl, ?_⟩
  have le := (R1.top.setO (i := j) g2 na hl dps).ph
  have R2 := (R1.setO (i := j) g2 na hl dps).gr g3
  have dv := Le.dp (hid_le g3.le fun _ z => z) d v (Le.dp le d v dp)
  have dw : Dp C.K (hid (Own (C.bx S0 H0) (σ.set j (some (.ref x))) (δ.set j (.o ds))) G3) w e := by
    refine Le.dp (hid_le (Le.refl G3) fun b z => ?_) e w dp3
    rcases z with z | ⟨m, es, e1, e2⟩
    · exact .inl (.inl (.inl z))
    · rcases get_set_cases e1 with ⟨e3, e4, e5⟩ | ⟨e3, e4⟩
      · subst e3
        rw [List.getElem?_set_self (by rw [R.len]; exact e5)] at e2
        cases e2
        exact .inl (.inr rfl)
      · rw [List.getElem?_set_ne e3] at e2
        exact .inl (.inl (.inr ⟨m, es, e4, e2⟩))
  have R4 := R2.setP (i := l) dw
  have dv' := Le.dp (hid_le (S' := Own (C.bx S0 H0) ((σ.set j (some (.ref x))).set l (some w)) ((δ.set j (.o ds)).set l (.p e))) (Le.refl G3) fun b z => own_set R2.len z) d v dv
  have R5 := R4.setP (i := i) dv'
  have es : ((σ.set i (some v)).set j (some (.ref x))).set l (some w) = ((σ.set j (some (.ref x))).set l (some w)).set i (some v) := by
    rw [List.set_comm _ _ hij, List.set_comm _ _ hil]
  rw [es]
  exact h _ G3 R5
end
end Tr

namespace Tr
open PySem PySem.Spec L2 PyProof.Rows
variable [ProtC]
section
variable {X : Cx}
def sqP (t : Bool) (ds : List D) : D := if t then .tuple ds else .list ds
def rInA (K : PySem.W.Frag) : R2 := fun x y H Q => ∃ (t : Bool) (d : D) (ds : List D), Dp K H x d ∧ Dp K H y (sqP t ds) ∧ SeqAt.shaped d = true ∧ SeqAt.shaped (.list ds) = true ∧ Q (.bl (ds.any fun z => PyData.eqv z d)) H
def rNotInA (K : PySem.W.Frag) : R2 := fun x y H Q => ∃ (t : Bool) (d : D) (ds : List D), Dp K H x d ∧ Dp K H y (sqP t ds) ∧ SeqAt.shaped d = true ∧ SeqAt.shaped (.list ds) = true ∧ Q (.bl (!ds.any fun z => PyData.eqv z d)) H
theorem op_inA (hu : X.A.units + 65 < cLine) : OpR X (compareOp .In) (rInA X.K) := by
  intro pins s σ H x y v u Q I rx ry h
  obtain ⟨t, d, ds, hd, he, sd, se, q⟩ := h
  obtain ⟨as, r1⟩ := L2.Dp.reads I d x v (hd.sh sd) rx
  obtain ⟨bs, r2⟩ := L2.Dp.reads I _ y u (Dp.low (sqP t ds) y (by
    have := PySem.PyData.hasDict_of_canLay _ (SeqAt.canLay_of_shaped se)
    cases t <;> simpa only [sqP, PySem.PyData.hasDict, if_true, if_false, Bool.false_eq_true] using this) he) ry
  cases t
  · exact SeqAt.in_list_reads r2 r1 (SeqAt.canLay_of_shaped se) (SeqAt.canLay_of_shaped sd) (room_in_shaped sd hu) ⟨.bl _, H, I, rfl, q⟩
  · exact SeqAt.in_tuple_reads r2 r1 (SeqAt.canLay_of_shaped se) (SeqAt.canLay_of_shaped sd) (room_in_shaped sd hu) ⟨.bl _, H, I, rfl, q⟩
theorem op_notInA (hu : X.A.units + 65 < cLine) : OpR X (compareOp .NotIn) (rNotInA X.K) := by
  intro pins s σ H x y v u Q I rx ry h
  obtain ⟨t, d, ds, hd, he, sd, se, q⟩ := h
  obtain ⟨as, r1⟩ := L2.Dp.reads I d x v (hd.sh sd) rx
  obtain ⟨bs, r2⟩ := L2.Dp.reads I _ y u (Dp.low (sqP t ds) y (by
    have := PySem.PyData.hasDict_of_canLay _ (SeqAt.canLay_of_shaped se)
    cases t <;> simpa only [sqP, PySem.PyData.hasDict, if_true, if_false, Bool.false_eq_true] using this) he) ry
  cases t
  · exact SeqAt.notIn_list_reads r2 r1 (SeqAt.canLay_of_shaped se) (SeqAt.canLay_of_shaped sd) (room_in_shaped sd hu) ⟨.bl _, H, I, rfl, q⟩
  · exact SeqAt.notIn_tuple_reads r2 r1 (SeqAt.canLay_of_shaped se) (SeqAt.canLay_of_shaped sd) (room_in_shaped sd hu) ⟨.bl _, H, I, rfl, q⟩
def dInA : D → D → Wp D
  | d, .list ds => .need (SeqAt.shaped d = true ∧ SeqAt.shaped (.list ds) = true) (.pure (.bool (ds.any fun z => PyData.eqv z d)))
  | d, .tuple ds => .need (SeqAt.shaped d = true ∧ SeqAt.shaped (.list ds) = true) (.pure (.bool (ds.any fun z => PyData.eqv z d)))
  | _, _ => .stuck
def dNotInA : D → D → Wp D
  | d, .list ds => .need (SeqAt.shaped d = true ∧ SeqAt.shaped (.list ds) = true) (.pure (.bool (!ds.any fun z => PyData.eqv z d)))
  | d, .tuple ds => .need (SeqAt.shaped d = true ∧ SeqAt.shaped (.list ds) = true) (.pure (.bool (!ds.any fun z => PyData.eqv z d)))
  | _, _ => .stuck
variable {C : Cs} {W : WX} {a b : Expr} {f g : DF} {pos : Pos}
theorem o2_inA : Op2 X C (rInA C.K) dInA := by
  intro x y H d e Q S0 H0 Pb σ δ w R dx dy h
  unfold dInA at h
  split at h
  · exact ⟨false, _, _, hid_dp dx, hid_dp dy, h.1.1, h.1.2, h.2 _ H (Grow.refl H) (.bl _)⟩
  · exact ⟨true, _, _, hid_dp dx, hid_dp dy, h.1.1, h.1.2, h.2 _ H (Grow.refl H) (.bl _)⟩
  · exact h.elim
theorem o2_notInA : Op2 X C (rNotInA C.K) dNotInA := by
  intro x y H d e Q S0 H0 Pb σ δ w R dx dy h
  unfold dNotInA at h
  split at h
  · exact ⟨false, _, _, hid_dp dx, hid_dp dy, h.1.1, h.1.2, h.2 _ H (Grow.refl H) (.bl _)⟩
  · exact ⟨true, _, _, hid_dp dx, hid_dp dy, h.1.1, h.1.2, h.2 _ H (Grow.refl H) (.bl _)⟩
  · exact h.elim
theorem de_inA (hK : C.K = X.K) {k : Nat} (hr : Room k X.A) (hm : behindInMarks .In b = false) (ha : DE X C W a f) (hb : DE X C W b g) : DE X C W (.Compare a [.In] [b] pos) (d2 dInA f g) := de_cmp (op_inA (room65 hr)) (by rw [← hK]; exact o2_inA) hm ha hb
theorem dt_inA (hK : C.K = X.K) {k : Nat} (hr : Room k X.A) (hm : behindInMarks .In b = false) (ha : DE X C W a f) (hb : DE X C W b g) : DT X C W (.Compare a [.In] [b] pos) (tBv (d2 dInA f g)) := dt_cmp (op_inA (room65 hr)) (by rw [← hK]; exact o2_inA) hm ha hb
theorem dt_notInA (hK : C.K = X.K) {k : Nat} (hr : Room k X.A) (hm : behindInMarks .NotIn b = false) (ha : DE X C W a f) (hb : DE X C W b g) : DT X C W (.Compare a [.NotIn] [b] pos) (tBv (d2 dNotInA f g)) := dt_cmp (op_notInA (room65 hr)) (by rw [← hK]; exact o2_notInA) hm ha hb
end
section
variable {prog : Program} {w : World} {A : Around} {E : Value → Shared → Prop} {s : Shared} {l : Addr}
theorem sum_intTup {xs : Array (Int × Tok)} {Q : Value → Shared → Prop} (hh : A.handled = none) (hl : s.heap.IsTuple l (intItems xs))
    (h : ∀ h' tk t', (∀ b o, s.heap.get? b = some o → h'.get? b = some o) → Q (.int (preSum (numAt xs) xs.size) t') { s with heap := h', toks := tk }) :
    wpAny (model prog w) A (call (.builtin "sum") [.ref l]) Q E s := by
  refine call_sum_walkG (iter_intTup hl fun s₂ e st hfp hlI => ?_)
  subst e
  refine ⟨_, _, _, _, _, _, numAt xs, rfl, Walks.tuple (A := A.in1) hh _ l hlI (intItems xs), st, hfp, (fun _ _ => intItems_at), fun h' tk t' hk => ?_⟩
  have := h h' tk t' (old_keptT hk)
  simpa [intItems] using this
theorem sum_rawT {its : List Value} {ns : List Int} {Q : Value → Shared → Prop} (hh : A.handled = none) (hl : s.heap.IsTuple l its.toArray) (hi : IntsAre its ns)
    (h : ∀ h' tk t', (∀ b o, s.heap.get? b = some o → h'.get? b = some o) → Q (.int ns.sum t') { s with heap := h', toks := tk }) : wpAny (model prog w) A (call (.builtin "sum") [.ref l]) Q E s := by
  obtain ⟨xs, e⟩ := hi.allInts.items
  have hn : numsOf (intItems xs).toList = ns := by rw [← e]; exact hi.numsOf
  rw [nums_intItems] at hn
  rw [e] at hl
  refine sum_intTup hh hl fun h' tk t' hk => ?_
  have := h h' tk t' hk
  rw [preSum_eq, List.take_of_length_le (by simp), hn]; exact this
end
section
variable {X : Cx}
def rSumA (K : PySem.W.Frag) : List V → Hp → VK → Prop := fun vs H Q => ∃ (t : Bool) (a : Addr) (ns : List Int), vs = [V.ref a] ∧ SqB t K H a (ns.map V.int) ∧ Q (.int ns.sum) H
theorem cr_sumA (hc : X.calm = true) : CallR X (.builtin "sum") (rSumA X.K) := by
  intro pins s σ H vs us Q I r h
  obtain ⟨t, a, ns, rfl, hs, q⟩ := h
  obtain ⟨its, rv, hl, _⟩ := seqB I hs
  rw [Vals.ref1 r]
  cases t
  · exact sum_raw (I.ok.hd hc) hl rv.ints fun h' tk t' hk => ⟨.int _, H, I.kept hk, ⟨_, rfl⟩, q⟩
  · exact sum_rawT (I.ok.hd hc) hl rv.ints fun h' tk t' hk => ⟨.int _, H, I.kept hk, ⟨_, rfl⟩, q⟩
end
def bSumA : List D → Wp D
  | [.list ds] => (optW (intsD ds)).bind fun ns => .pure (.int ns.sum)
  | [.tuple ds] => (optW (intsD ds)).bind fun ns => .pure (.int ns.sum)
  | _ => .stuck
theorem on_sumA {C : Cs} : OpN C (rSumA C.K) bSumA := by
  intro vs H ds Q S0 H0 Pb σ δ w R dp h
  unfold bSumA at h
  split at h
  · obtain ⟨ns, e, h2⟩ := optW_inv h
    cases dp with
    | cons a b =>
      cases b
      cases a with
      | lst s a =>
        rw [ints_dps a e] at s
        exact ⟨false, _, ns, rfl, Le.sqL hid_sub s, h2 _ H (Grow.refl H) (.int _)⟩
  · obtain ⟨ns, e, h2⟩ := optW_inv h
    cases dp with
    | cons a b =>
      cases b
      cases a with
      | tup s a =>
        rw [ints_dps a e] at s
        exact ⟨true, _, ns, rfl, Le.sqT hid_sub s, h2 _ H (Grow.refl H) (.int _)⟩
  · exact h.elim
theorem sumA_run {ns : List Int} {k : D → Prop} {w : Exn → Prop} {tp : List D → D} (htp : tp = PyData.tuple ∨ tp = PyData.list) (hk : k (.int ns.sum)) : (bSumA [tp (ns.map .int)]).run k w := by
  rcases htp with rfl | rfl
  · show ((optW (intsD (ns.map .int))).bind _).run k w
    rw [ints_map]
    exact hk
  · show ((optW (intsD (ns.map .int))).bind _).run k w
    rw [ints_map]
    exact hk
theorem tuple_mul1 (l : Addr) (items : Array Value) (n : Nat) (dd : Option Addr) (sl : Array (Option Value)) (u : Tok) :
    Meets (Builtin.«tuple.__mul__» ⟨[.ref l, .int 1 u], []⟩) (fun _ R s => s.heap.get? l = some { cls := .type "tuple", dict := dd, data := .seq items n, slots := sl } ∧ R (.ok (.ret (Value.ref l))) s) :=
  .of_wp fun prog w A R s h => by
    obtain ⟨hp, g, d, tk, os⟩ := s
    obtain ⟨hl, h⟩ := h
    have f1 := AutoSeq1.idx_int
    wp_walk using wpAny_loadPart' hl
    repeat (first
      | (refine wpAny_ite_true (decide_eq_true (by simp)) ?_; wp_walk using wpAny_loadPart' hl)
      | (refine wpAny_ite_false (decide_eq_false (by decide)) ?_; wp_walk using wpAny_loadPart' hl))
    exact ⟨_, rfl, h⟩
section
variable {X : Cx}
def rRep1 (K : PySem.W.Frag) : R2 := fun x y H Q => ∃ l xs, x = .ref l ∧ y = .int 1 ∧ SqT K H l xs ∧ Q (.ref l) H
theorem op_rep1 : OpR X (binaryOp .Mult) (rRep1 X.K) := by
  intro pins s σ H x y v u Q I rx ry h
  obtain ⟨l, xs, rfl, rfl, hT, q⟩ := h
  cases rx
  obtain ⟨t, rfl⟩ := ry
  obtain ⟨its, r, ⟨⟨cls, dd, data, sl⟩, ho, hc, n, hd⟩, hs⟩ := I.tuple hT
  simp only at hc hd
  subst hc hd
  refine wpAny_binaryOp_repeat_ref (T := "tuple") (U := "int") (by decide) ⟨_, ho, rfl⟩ (fun s' => typeIs_int s' 1 t) noFill_tuple_mul F.fills_int_mul F.slot_int_rmul repeat_tuple F.slot_int_index.lookup
    (call_meets F.slot_int_rmul (typeIs_int s 1 t) F.entry_int_rmul (F.args_int_rmul_2 _ _) (int_rmul_tuple 1 t l its.toArray n dd sl)
      ⟨ho, rfl, ⟨_, ho, rfl⟩, call_meets F.slot_tuple_mul ⟨_, ho, rfl⟩ F.entry_tuple_mul (F.args_tuple_mul_2 _ _) (tuple_mul1 l its.toArray n dd sl t) ⟨ho, ?_⟩⟩)
  exact ⟨.ref l, H, I, rfl, q⟩
theorem list_mulW (l : Addr) (items : Array Value) (n : Nat) (dd : Option Addr) (sl : Array (Option Value)) (x : Int) (u : Tok) (hc0 : ¬(!Builtin.List.listFitsIndex x) = true) (hc1 : ¬items.size * x.toNat > (2 ^ 63 - 1) / 8) (hc2 : ¬Builtin.List.listTooLong (items.size * x.toNat) = true) :
    Meets (Builtin.«list.__mul__» ⟨[.ref l, .int x u], []⟩) (fun _ R s => s.heap.get? l = some { cls := .type "list", dict := dd, data := .seq items n, slots := sl } ∧ R (.ok (.ret (Value.ref s.heap.objs.size))) { s with heap := s.heap.push { cls := Value.type "list", data := Data.seq (List.foldl (fun x1 x2 => x1 ++ x2) #[] (List.replicate (if items.isEmpty = true then 0 else x.toNat) items)) }, toks := s.toks }) :=
  .of_wp fun prog w A R s h => by
    obtain ⟨hp, g, d, tk, os⟩ := s; obtain ⟨hl, h⟩ := h
    have hsz := AutoListH.joined_fits hc2
    have f1 := AutoSeq1.idx_int
    wp_walk using wpAny_loadPart' hl
    refine wpAny_ite_false (decide_eq_false (Nat.not_lt.mpr hsz)) ?_; wp_walk using wpAny_loadPart' hl; exact ⟨_, rfl, h⟩
theorem int_rmul_listW (a : Int) (t : Tok) (l : Addr) (items : Array Value) (n : Nat) (dd : Option Addr) (sl : Array (Option Value)) :
    Meets (Builtin.«int.__rmul__» ⟨[.int a t, .ref l], []⟩) (fun _ R s => s.heap.get? l = some { cls := .type "list", dict := dd, data := .seq items n, slots := sl } ∧ R (.ok (.ret Value.notImplemented)) s) :=
  .of_wp fun prog w A R s h => by obtain ⟨hp, g, d, tk, os⟩ := s; obtain ⟨hl, h⟩ := h; wp_walk using wpAny_loadPart' hl; exact ⟨_, rfl, h⟩
def rRepL (K : PySem.W.Frag) : R2 := fun x y H Q => ∃ l k xs, x = .ref l ∧ y = .int k ∧ SqL K H l xs ∧ 0 ≤ k ∧ k ≤ 1000 ∧ xs.length ≤ 1000 ∧
  ∀ p, H p = none → Q (.ref p) (upd H p (.lst (List.replicate k.toNat xs).flatten))
theorem op_repL : OpR X (binaryOp .Mult) (rRepL X.K) := by
  intro pins s σ H x y v u Q I rx ry h
  obtain ⟨l, k, xs, rfl, rfl, hH, h1, h2, hz, q⟩ := h
  cases rx
  obtain ⟨t, rfl⟩ := ry
  obtain ⟨its, r, ⟨⟨cls, dd, data, sl⟩, n, ho, hc, hdd, hd, hsl⟩, hs⟩ := I.list hH
  simp only at hc hdd
  subst hc hdd
  have hle : its.length = xs.length := r.length.symm
  have a1 : xs.length * k.toNat ≤ 1000 * 1000 := Nat.mul_le_mul hz (by omega)
  have hlen : its.toArray.size * k.toNat ≤ sizeLine := by rw [List.size_toArray, hle, sizeLine_eq]; omega
  have hcap : ¬ its.toArray.size * k.toNat > (2 ^ 63 - 1) / 8 := by
    have : (sizeLine : Nat) ≤ (2 ^ 63 - 1) / 8 := by decide
    omega
  have hfit : ¬ (!Builtin.List.listFitsIndex k) = true := by
    rw [fitsIndex_both (by omega) (by omega)]
    exact Bool.false_ne_true
  have hlong : ¬ Builtin.List.listTooLong (its.toArray.size * k.toNat) = true := by
    rw [notLongL hlen]
    exact Bool.false_ne_true
  have hnew : List.foldl (fun x1 x2 => x1 ++ x2) #[] (List.replicate (if its.toArray.isEmpty = true then 0 else k.toNat) its.toArray) = (List.replicate k.toNat its).flatten.toArray := by
    have f0 : ∀ m : Nat, List.foldl (fun x1 x2 => x1 ++ x2) #[] (List.replicate m its.toArray) = (List.replicate m its).flatten.toArray := fun m => by
      have := foldl_rep its m []
      rw [List.nil_append] at this
      exact this
    rw [f0]
    cases its with
    | nil => simp
    | cons a r' => rw [if_neg (by simp)]
  refine wpAny_binaryOp_repeat_ref (T := "list") (U := "int") (by decide) ⟨_, ho, rfl⟩ (fun s' => typeIs_int s' k t) noFill_list_mul F.fills_int_mul F.slot_int_rmul repeat_list F.slot_int_index.lookup
    (call_meets F.slot_int_rmul (typeIs_int s k t) F.entry_int_rmul (F.args_int_rmul_2 _ _) (int_rmul_listW k t l its.toArray n _ sl)
      ⟨ho, rfl, ⟨_, ho, rfl⟩, call_meets F.slot_list_mul ⟨_, ho, rfl⟩ F.entry_list_mul (F.args_list_mul_2 _ _) (list_mulW l its.toArray n _ sl k t hfit hcap hlong) ⟨ho, ?_⟩⟩)
  rw [hnew]
  refine ⟨.ref s.heap.objs.size, _, I.laid (t' := s.toks) (o := .lst (List.replicate k.toNat xs).flatten) (fun b ob q => Heap.get?_push_of_some _ q) (Nat.le_refl _) ?_, rfl, q _ (I.hok.fresh (Nat.le_refl _))⟩
  exact ⟨by rw [PyProof.Rows.lm_len_rep_flat, sizeLine_eq, Nat.mul_comm]; omega, _, 0, r.rep k.toNat, Heap.get?_push_size _ rfl⟩
def rMulA (K : PySem.W.Frag) : R2 := fun x y H Q => rI CMulW (fun i j => .int (i * j)) x y H Q ∨ rRep1 K x y H Q ∨ rRepT K x y H Q ∨ rRepL K x y H Q
theorem op_mulA : OpR X (binaryOp .Mult) (rMulA X.K) := by
  intro pins s σ H x y v u Q I rx ry h
  rcases h with h | h | h | h
  · exact op_mulW pins s σ H x y v u Q I rx ry h
  · exact op_rep1 pins s σ H x y v u Q I rx ry h
  · exact op_repT pins s σ H x y v u Q I rx ry h
  · exact op_repL pins s σ H x y v u Q I rx ry h
end
def dMulA : D → D → Wp D
  | .int i, .int j => .need (CMulW i j) (.pure (.int (i * j)))
  | .tuple ds, .int k => .need (1 ≤ k ∧ k ≤ 1000 ∧ ds ≠ [] ∧ ds.length ≤ 1000) (.pure (.tuple (List.replicate k.toNat ds).flatten))
  | .list ds, .int k => .need (0 ≤ k ∧ k ≤ 1000 ∧ ds.length ≤ 1000) (.pure (.list (List.replicate k.toNat ds).flatten))
  | _, _ => .stuck
theorem rep_dps {K : PySem.W.Frag} {H : Hp} {xs : List V} {ds : List D} (h : DpAll K H xs ds) : ∀ m, DpAll K H (List.replicate m xs).flatten (List.replicate m ds).flatten := by
  intro m
  induction m with
  | zero => exact .nil
  | succ m ih =>
    rw [List.replicate_succ, List.replicate_succ, List.flatten_cons, List.flatten_cons]
    exact dps_app h ih
section
variable {X : Cx} {C : Cs} {W : WX} {a b : Expr} {f g : DF} {pos : Pos}
theorem o2_mulA : Op2 X C (rMulA C.K) dMulA := by
  intro x y H d e Q S0 H0 Pb σ δ w R dx dy h
  unfold dMulA at h
  split at h
  · cases dx
    cases dy
    exact .inl ⟨_, _, rfl, rfl, h.1, h.2 _ H (Grow.refl H) (.int _)⟩
  · obtain ⟨⟨h1, h2, h3, h4⟩, h⟩ := h
    cases dy
    cases dx with
    | @tup a xs _ s dps =>
      rename_i ds k
      have hl := dps_len dps
      by_cases c : k = 1
      · subst c
        refine .inr (.inl ⟨_, xs, rfl, rfl, Le.sqT hid_sub s, h _ H (Grow.refl H) ?_⟩)
        simpa using (Dp.tup s dps)
      · refine .inr (.inr (.inl ⟨_, _, xs, rfl, rfl, Le.sqT hid_sub s, fun z => h3 (by rw [z] at hl; exact List.eq_nil_of_length_eq_zero hl.symm), by omega, h2, by omega, ?_⟩))
        exact new_tup R (rep_dps dps _) h
  · obtain ⟨⟨h1, h2, h4⟩, h⟩ := h
    cases dy
    cases dx with
    | @lst a xs _ s dps =>
      have hl := dps_len dps
      refine .inr (.inr (.inr ⟨_, _, xs, rfl, rfl, Le.sqL hid_sub s, h1, h2, by omega, ?_⟩))
      exact new_lst R (rep_dps dps _) h
  · exact h.elim
theorem de_mulA (hK : C.K = X.K) (ha : DE X C W a f) (hb : DE X C W b g) : DE X C W (.BinOp a .Mult b pos) (d2 dMulA f g) := de_op (r := rMulA X.K) op_mulA (by rw [← hK]; exact o2_mulA) ha hb
end
section
@[simp] theorem rw_mulAI {i j : Int} : dMulA (.int i) (.int j) = .need (CMulW i j) (.pure (.int (i * j))) := rfl
@[simp] theorem rw_mulAT {ds : List D} {k : Int} : dMulA (.tuple ds) (.int k) = .need (1 ≤ k ∧ k ≤ 1000 ∧ ds ≠ [] ∧ ds.length ≤ 1000) (.pure (.tuple (List.replicate k.toNat ds).flatten)) := rfl
@[simp] theorem rw_mulAL {ds : List D} {k : Int} : dMulA (.list ds) (.int k) = .need (0 ≤ k ∧ k ≤ 1000 ∧ ds.length ≤ 1000) (.pure (.list (List.replicate k.toNat ds).flatten)) := rfl
@[simp] theorem rw_inAL {d : D} {ds : List D} : dInA d (.list ds) = .need (SeqAt.shaped d = true ∧ SeqAt.shaped (.list ds) = true) (.pure (.bool (ds.any fun z => PyData.eqv z d))) := rfl
@[simp] theorem rw_inAT {d : D} {ds : List D} : dInA d (.tuple ds) = .need (SeqAt.shaped d = true ∧ SeqAt.shaped (.list ds) = true) (.pure (.bool (ds.any fun z => PyData.eqv z d))) := rfl
@[simp] theorem rw_notInAL {d : D} {ds : List D} : dNotInA d (.list ds) = .need (SeqAt.shaped d = true ∧ SeqAt.shaped (.list ds) = true) (.pure (.bool (!ds.any fun z => PyData.eqv z d))) := rfl
@[simp] theorem rw_notInAT {d : D} {ds : List D} : dNotInA d (.tuple ds) = .need (SeqAt.shaped d = true ∧ SeqAt.shaped (.list ds) = true) (.pure (.bool (!ds.any fun z => PyData.eqv z d))) := rfl
end
end Tr

namespace Tr
open PySem PySem.Spec L2
variable [ProtC]

def rI (C : Cs) (W : WX) (f : De → Wp (List D)) : TI := fun σ H R => ∃ S0 H0 Pb δ, Rep (C.bx S0 H0) Pb σ H δ ∧ (f δ).run (fun ds => ∀ J G, Grow H G → Items C.K (hid (Own (C.bx S0 H0) σ δ) G) (obh C H0) ds J → R J G) (Ew (C.bx S0 H0) W σ H)
theorem DI.to {X : Cx} {C : Cs} {W : WX} {tg e : Expr} {f : De → Wp (List D)} (h : DI X C W tg e f) : PI X tg e (rI C W f) := by
  obtain ⟨t, p, q⟩ := h
  exact ⟨fun pins s σ H Q I ⟨S0, H0, Pb, δ, R, z⟩ => p.run pins s σ H Q I (q S0 H0 Pb σ H δ Q R z)⟩
theorem Items.mono {K : PySem.W.Frag} {Ph Pg Bh Bg : Hp} {ds : List D} {J : It} (h : Items K Ph Bh ds J) (l : Le Ph Pg) (lb : Le Bh Bg) : Items K Pg Bg ds J := by
  obtain ⟨Gp, Y, w, hG, hY⟩ := h
  exact ⟨Gp, Y, w, fun H1 l1 l2 => hG H1 (l.trans l1) (lb.trans l2), fun i H1 x H2 S hi l1 l2 dm y => hY i H1 x H2 S hi (l.trans l1) (lb.trans l2) dm y⟩
def lc2Loop (g : BF) (t : TF) (fi1 : De → Wp (List D)) (g1 : BF) (t1 : TF) (f : DF) (δ : De) (vs1 : List Nat) : Nat → List D → Wp (List D)
  | _, [] => .pure []
  | n, d :: ds => (optW (g d δ)).bind fun δ1 => (t δ1).bind fun b => if b then (fi1 δ1).bind fun es => .need (n + es.length ≤ sizeLine) ((lcLoop g1 t1 f (dWipe δ1 vs1) es).bind fun ys => (lc2Loop g t fi1 g1 t1 f δ vs1 (n + ys.length) ds).bind fun zs => .pure (ys ++ zs)) else lc2Loop g t fi1 g1 t1 f δ vs1 n ds
def nLc2 (fi : De → Wp (List D)) (g : BF) (t : TF) (fi1 : De → Wp (List D)) (g1 : BF) (t1 : TF) (f : DF) (vs vs1 : List Nat) : De → Wp (List D) := fun δ => (fi δ).bind fun ds => (lc2Loop g t fi1 g1 t1 f (dWipe δ vs) vs1 0 ds).nox
section
variable {q q1 : BF} {t t1 : TF} {f : DF} {fi fi1 : De → Wp (List D)} {δ : De} {vs vs1 : List Nat} {n : Nat} {d : D} {ds : List D} {w : Exn → Prop}
@[simp] theorem rw_nLc2 : nLc2 fi q t fi1 q1 t1 f vs vs1 δ = (fi δ).bind fun ds => (lc2Loop q t fi1 q1 t1 f (dWipe δ vs) vs1 0 ds).nox := rfl
@[simp] theorem rw_lc20 : lc2Loop q t fi1 q1 t1 f δ vs1 n [] = .pure [] := rfl
end
end Tr

namespace Tr
open PySem PySem.Spec PyProof.Rows L2
variable [ProtC]
theorem maxD_mem {x : D} {xs : List D} : PySem.W.maxD x xs ∈ x :: xs := by
  unfold PySem.W.maxD
  induction xs generalizing x with
  | nil => simp
  | cons y ys ih =>
    rw [List.foldl_cons]
    split
    · exact List.mem_cons_of_mem _ ih
    · rcases List.mem_cons.mp (ih (x := x)) with h | h
      · rw [h]; simp
      · exact List.mem_cons_of_mem _ (List.mem_cons_of_mem _ h)
theorem dps_at {K : PySem.W.Frag} {H : Hp} : ∀ {vs : List V} {ds : List D} {i : Nat} {v : V}, DpAll K H vs ds → vs[i]? = some v → ∃ d, ds[i]? = some d ∧ Dp K H v d
  | _, _, _, _, .nil, h => by cases h
  | _, _, 0, _, .cons a b, h => by cases h; exact ⟨_, rfl, a⟩
  | _, _, i + 1, _, .cons a b, h => dps_at (i := i) b h
theorem vals_at {vs : List V} {us : List Value} (h : Vals vs us) : ∀ {i : Nat} {u : Value}, us[i]? = some u → ∃ v, vs[i]? = some v ∧ RelV v u := by
  induction h with
  | nil => intro i u e; cases e
  | cons r _ ih =>
    intro i u e
    cases i with
    | zero => cases e; exact ⟨_, rfl, r⟩
    | succ i => exact ih (i := i) e
open PySem.PyData (hasDict hasDictAll) in
mutual
theorem nodict1 : ∀ d : D, PySem.W.alike d d = true → hasDict d = false
  | .none, _ => by simp only [hasDict]
  | .bool _, _ => by simp only [hasDict]
  | .int _, _ => by simp only [hasDict]
  | .str _, _ => by simp only [hasDict]
  | .list xs, h => by
    simp only [hasDict]
    exact nodictA xs (by simpa only [PySem.W.alike] using h)
  | .tuple xs, h => by
    simp only [hasDict]
    exact nodictA xs (by simpa only [PySem.W.alike] using h)
  | .dict _, h => by simp [PySem.W.alike] at h
theorem nodictA : ∀ ds : List D, PySem.W.alikeAll ds ds = true → hasDictAll ds = false
  | [], _ => by simp only [hasDictAll]
  | d :: ds, h => by
    have h' : PySem.W.alike d d = true ∧ PySem.W.alikeAll ds ds = true := by simpa only [PySem.W.alikeAll, Bool.and_eq_true] using h
    simp only [hasDictAll, nodict1 d h'.1, nodictA ds h'.2, Bool.or_self]
end
theorem nodicts : ∀ {ds : List D}, (∀ d ∈ ds, PySem.W.alike d d = true) → PySem.PyData.hasDictAll ds = false
  | [], _ => by simp only [PySem.PyData.hasDictAll]
  | d :: ds, h => by simp only [PySem.PyData.hasDictAll, nodict1 d (h d (by simp)), nodicts (ds := ds) fun x hx => h x (by simp [hx]), Bool.or_self]
section
variable {X : Cx}
def rMaxD (K : PySem.W.Frag) : List V → Hp → VK → Prop := fun vs H Q => ∃ (t : Bool) (a : Addr) (xs : List V) (x : D) (ds : List D), vs = [V.ref a] ∧ SqB t K H a xs ∧ DpAll K H xs (x :: ds) ∧ PySem.W.AlikeAll (x :: ds) ∧ PyData.depthAll (x :: ds) ≤ 60 ∧ ∀ (i : Nat) v, xs[i]? = some v → (x :: ds)[i]? = some (PySem.W.maxD x ds) → Q v H
theorem cr_maxD (hc : X.calm = true) (hu : X.A.units + 64 < cLine) : CallR X (.builtin "max") (rMaxD X.K) := by
  intro pins s σ H vs us Q I r h
  obtain ⟨t, a, xs, x, ds, rfl, hs, dp, ha, hd, q⟩ := h
  obtain ⟨its, rv, hl, _⟩ := seqB I hs
  rw [Vals.ref1 r]
  obtain ⟨as, hr⟩ := L2.Dp.readsAll I (x :: ds) xs its (Dp.lows _ _ (nodicts fun d hd => ha.1 d hd d hd) dp) rv
  have fin : ∀ (i : Nat) v h' tk bs, its.toArray[i]? = some v → Reads h' v (PySem.W.maxD x ds) bs → (∀ b o, s.heap.get? b = some o → h'.get? b = some o) → EP X pins σ Q v { s with heap := h', toks := tk } := fun i v h' tk bs hi hv hk => by
    have hi' : its[i]? = some v := by simpa using hi
    obtain ⟨y, hy, ry⟩ := vals_at rv hi'
    obtain ⟨d, hd2, dy⟩ := dps_at dp hy
    obtain ⟨cs, hrd⟩ := L2.Dp.reads I d y v (Dp.low d y (nodict1 d (ha.1 d (List.mem_of_getElem? hd2) d (List.mem_of_getElem? hd2))) dy) ry
    have e : d = PySem.W.maxD x ds := PySem.W.alike_unique d _ v cs bs (ha.1 _ (List.mem_of_getElem? hd2) _ maxD_mem) (PySem.W.reads_keeps hk hrd) hv
    subst e
    exact ⟨y, H, I.kept hk, ry, q i y hy hd2⟩
  cases t
  · exact PySem.W.max_list_data (I.ok.hd hc) hl hr ha (by omega) fin
  · exact PySem.W.max_tuple_data (I.ok.hd hc) hl hr ha (by omega) fin
end
def bMaxA : List D → Wp D
  | [d] => (seqD d).bind fun ds => match ds with
    | x :: ds => .need (PySem.W.AlikeAll (x :: ds) ∧ PyData.depthAll (x :: ds) ≤ 60) (.pure (PySem.W.maxD x ds))
    | [] => .stuck
  | _ => .stuck
theorem on_maxA {C : Cs} : OpN C (rMaxD C.K) bMaxA := by
  intro vs H ds Q S0 H0 Pb σ δ w R dp h
  unfold bMaxA at h
  split at h
  · rename_i d
    cases dp with
    | cons a b =>
      cases b
      simp only [run_bind] at h
      obtain ⟨t, a, xs, es, rfl, s, dps, h⟩ := seqB_of a h
      cases es with
      | nil => exact h.elim
      | cons x es =>
        obtain ⟨⟨h1, h2⟩, h3⟩ := h
        refine ⟨t, _, xs, x, es, rfl, SqB.le hid_sub s, Le.dps hid_sub _ _ dps, h1, h2, fun i v e1 e2 => h3 v H (Grow.refl H) ?_⟩
        obtain ⟨d, hd, dv⟩ := dps_at dps e1
        cases hd.symm.trans e2
        exact dv
  · exact h.elim
theorem alike_ints {ns : List Int} : PySem.W.AlikeAll (ns.map PyData.int) := by
  refine ⟨fun x hx y hy => ?_, fun x hx => ?_⟩
  · obtain ⟨a, _, rfl⟩ := List.mem_map.mp hx
    obtain ⟨b, _, rfl⟩ := List.mem_map.mp hy
    simp [PySem.W.alike]
  · obtain ⟨a, _, rfl⟩ := List.mem_map.mp hx
    exact fun z => by cases z
theorem depth_ints {ns : List Int} : PyData.depthAll (ns.map PyData.int) ≤ 60 := by
  have : PyData.depthAll (ns.map PyData.int) = 0 := by
    induction ns with
    | nil => simp [PyData.depthAll]
    | cons a ns ih => simp [PyData.depthAll, PyData.depth, ih]
  omega
theorem foldl_max {ns : List Int} {n : Int} : (ns.foldl max n) ∈ n :: ns ∧ ∀ y ∈ n :: ns, y ≤ ns.foldl max n := by
  induction ns generalizing n with
  | nil => simp
  | cons a ns ih =>
    obtain ⟨h1, h2⟩ := ih (n := max n a)
    rw [List.foldl_cons]
    refine ⟨?_, fun y hy => ?_⟩
    · rcases List.mem_cons.mp h1 with h | h
      · rw [h, Int.max_def]
        split <;> simp
      · simp [h]
    · have h3 := h2 (max n a) (by simp)
      rcases List.mem_cons.mp hy with rfl | hy
      · omega
      · rcases List.mem_cons.mp hy with rfl | hy
        · omega
        · exact h2 y (by simp [hy])
section
variable {tp : List D → D} {k : D → Prop} {w : Exn → Prop}
theorem maxA_data {x : D} {ds : List D} (htp : tp = PyData.tuple ∨ tp = PyData.list) (ha : PySem.W.AlikeAll (x :: ds)) (hd : PyData.depthAll (x :: ds) ≤ 60) (hk : k (PySem.W.maxD x ds)) : (bMaxA [tp (x :: ds)]).run k w := by
  show ((seqD (tp (x :: ds))).bind _).run k w
  have e : seqD (tp (x :: ds)) = .pure (x :: ds) := by rcases htp with rfl | rfl <;> rfl
  rw [e]
  exact ⟨⟨ha, hd⟩, hk⟩
theorem maxA_ints {ns : List Int} (htp : tp = PyData.tuple ∨ tp = PyData.list) (h : 0 < ns.length) (hk : ∀ m ∈ ns, (∀ y ∈ ns, y ≤ m) → k (.int m)) : (bMaxA [tp (ns.map .int)]).run k w := by
  cases ns with
  | nil => simp at h
  | cons n ns =>
    refine maxA_data htp (by exact alike_ints (ns := n :: ns)) (by exact depth_ints (ns := n :: ns)) ?_
    rw [PySem.W.maxD_ints]
    obtain ⟨h1, h2⟩ := foldl_max (n := n) (ns := ns)
    exact hk _ h1 h2
end
end Tr

namespace Tr
open PySem PySem.Spec L2
open PyProof.Rows
variable [ProtC]
section
variable {X : Cx}
variable {C : Cs} {W : WX} {i j l : Nat} {a b c : Expr} {st : Stmt} {f g : DF} {fl fl2 : De → Wp (List D)}
def sParDOO (i j l : Nat) (f : DF) (fl fl2 : De → Wp (List D)) : SF := fun δ => (f δ).bind fun d => (fl δ).bind fun ds => (fl2 (dWipe δ [])).nox.bind fun es => .pure (.nx (((δ.set j (.o ds)).set l (.o es)).set i (.p d)))
end
@[simp] theorem rw_parDOO {i j l : Nat} {f : DF} {fl fl2 : De → Wp (List D)} {δ : De} : sParDOO i j l f fl fl2 δ = (f δ).bind fun d => (fl δ).bind fun ds => (fl2 (dWipe δ [])).nox.bind fun es => .pure (.nx (((δ.set j (.o ds)).set l (.o es)).set i (.p d))) := rfl
end Tr

namespace Tr
open PySem PySem.Spec PyProof.Rows L2
variable [ProtC]
section
variable {X : Cx} {C : Cs} {W : WX} {pos : Pos} {e a b : Expr} {f g : DF} {t : TF}
def tFz (i : Nat) (t : TF) : TF := fun δ => t (fz i δ)
@[simp] theorem rw_tFz {i : Nat} {t : TF} {δ : De} : tFz i t δ = t (fz i δ) := rfl
def lstD : D → Wp (List D)
  | .list ds => .pure ds
  | _ => .stuck
def dIndexOf (ds : List D) (d : D) : Wp D := .need (SeqAt.shaped d = true ∧ SeqAt.shaped (.list ds) = true) ((optW (ds.findIdx? fun z => PyData.eqv z d)).bind fun j => .pure (.int (j : Nat)))
def dIndex (f g : DF) : DF := fun δ => (f δ).bind fun d => (lstD d).bind fun ds => (g δ).bind fun e => dIndexOf ds e
@[simp] theorem rw_dIndex {δ : De} : dIndex f g δ = (f δ).bind fun d => (lstD d).bind fun ds => (g δ).bind fun e => dIndexOf ds e := rfl
@[simp] theorem rw_lstD {ds : List D} : lstD (.list ds) = .pure ds := rfl
end
section
variable {X : Cx}
def rSortedDt (K : PySem.W.Frag) : List V → Hp → VK → Prop := fun vs H Q => ∃ (a : Addr) (zs : List (V × D)), vs = [V.ref a] ∧ SqL K H a (zs.map (·.1)) ∧ DpAll K H (zs.map (·.1)) (zs.map (·.2)) ∧ PySem.W.AllAlike (zs.map (·.2)) ∧ PySem.W.Sortable (zs.map (·.2)) ∧ PyData.depthAll (zs.map (·.2)) ≤ 60 ∧
  ∀ p, H p = none → Q (.ref p) (upd H p (.lst ((zs.mergeSort (PySem.W.dataLe false (·.2))).map (·.1))))
theorem dps_zip {K : PySem.W.Frag} {H : Hp} {zs : List (V × D)} (h : DpAll K H (zs.map (·.1)) (zs.map (·.2))) : ∀ z ∈ zs, Dp K H z.1 z.2 := by
  induction zs with
  | nil => intro z hz; cases hz
  | cons z zs ih =>
    simp only [List.map_cons] at h
    cases h with
    | cons a b =>
      intro y hy
      rcases List.mem_cons.mp hy with rfl | hy
      · exact a
      · exact ih b y hy
theorem dps_unzip {K : PySem.W.Frag} {H : Hp} {zs : List (V × D)} (h : ∀ z ∈ zs, Dp K H z.1 z.2) : DpAll K H (zs.map (·.1)) (zs.map (·.2)) := by
  induction zs with
  | nil => exact .nil
  | cons z zs ih => exact .cons (h z (by simp)) (ih fun y hy => h y (by simp [hy]))
theorem vals_each {zs : List (V × D)} {us : List Value} (h : Vals (zs.map (·.1)) us) : PySem.W.EachIs (fun u z => RelV z.1 u) us zs := by
  induction zs generalizing us with
  | nil => cases h; exact .nil
  | cons z zs ih =>
    cases h with
    | cons a b => exact .cons a (ih b)
theorem each_vals {zs : List (V × D)} {us : List Value} (h : PySem.W.EachIs (fun u z => RelV z.1 u) us zs) : Vals (zs.map (·.1)) us := by
  induction h with
  | nil => exact .nil
  | cons a _ ih => exact .cons a ih
theorem depth_mem {d : D} : ∀ {ds : List D}, d ∈ ds → d.depth ≤ PyData.depthAll ds
  | [], h => by cases h
  | x :: xs, h => by
    simp only [PyData.depthAll]
    rcases List.mem_cons.mp h with rfl | h
    · omega
    · have := depth_mem h
      omega
theorem cr_sortedDt (hu : X.A.units + 64 < cLine) : CallR X (.builtin "sorted") (rSortedDt X.K) := by
  intro pins s σ H vs us Q I r h
  obtain ⟨a, zs, rfl, hs, dp, hal, hso, hd, q⟩ := h
  obtain ⟨its, rv, hl, hz⟩ := I.list hs
  obtain ⟨u, rfl, ru⟩ := vals1 r
  obtain rfl : u = Value.ref a := ru
  have er : PySem.W.EachIs (fun v (b : V × D) => ∃ as, Reads s.heap v b.2 as) its zs := by
    have h1 := vals_each rv
    have h2 := dps_zip dp
    have h3 : ∀ z ∈ zs, PySem.PyData.hasDict z.2 = false := fun z hz => nodict1 _ (hal _ (List.mem_map_of_mem (f := (·.2)) hz) _ (List.mem_map_of_mem (f := (·.2)) hz))
    clear hs rv hl q hal hso hd hz dp
    induction h1 with
    | nil => exact .nil
    | cons a _ ih => exact .cons (L2.Dp.reads I _ _ _ (Dp.low _ _ (h3 _ (by simp)) (h2 _ (by simp))) a) (ih (fun z hz => h2 z (by simp [hz])) fun z hz => h3 z (by simp [hz]))
  refine PySem.W.sorted_data (enc := (·.2)) hl.isList (vals_each rv) er hal hso (by simpa using hz) (fun b hb => ?_) fun out ho eo => ?_
  · have := depth_mem (List.mem_map_of_mem (f := (·.2)) hb)
    omega
  · have hv := each_vals eo
    obtain ⟨n, hn⟩ := sortedAll_at s.heap its out.toArray
    refine ⟨.ref (s.heap.objs.size + 1), _, I.laid (t' := s.toks) (o := .lst ((zs.mergeSort (PySem.W.dataLe false (·.2))).map (·.1))) (fun b o e => sortedAll_old e) (Nat.le_succ _) ⟨?_, out, n, hv, hn⟩, rfl, q _ (I.hok.fresh (Nat.le_succ _))⟩
    rw [List.length_map, List.length_mergeSort]
    simpa using hz
end
def dataLE : D → D → Bool := PySem.W.dataLe false id
def bSortedD : List D → Wp D
  | [.list ds] => .need (PySem.W.AllAlike ds ∧ PySem.W.Sortable ds ∧ PyData.depthAll ds ≤ 60) (.pure (.list (ds.mergeSort dataLE)))
  | _ => .stuck
theorem sort_snd {zs : List (V × D)} : (zs.mergeSort (PySem.W.dataLe false (·.2))).map (·.2) = (zs.map (·.2)).mergeSort dataLE := List.map_mergeSort fun a _ b _ => rfl
theorem on_sortedD {C : Cs} : OpN C (rSortedDt C.K) bSortedD := by
  intro vs H ds Q S0 H0 Pb σ δ w R dp h
  unfold bSortedD at h
  split at h
  · rename_i es
    obtain ⟨⟨h1, h2, h3⟩, h4⟩ := h
    cases dp with
    | cons a b =>
      cases b
      cases a with
      | @lst a xs _ s dps =>
        have l := dps_len dps
        have e1 : (xs.zip es).map (·.1) = xs := by rw [List.map_fst_zip]; omega
        have e2 : (xs.zip es).map (·.2) = es := by rw [List.map_snd_zip]; omega
        have dz : ∀ z ∈ xs.zip es, Dp C.K (hid (Own (C.bx S0 H0) σ δ) H) z.1 z.2 := dps_zip (by rw [e1, e2]; exact dps)
        refine ⟨a, xs.zip es, rfl, ?_, ?_, by rw [e2]; exact h1, by rw [e2]; exact h2, by rw [e2]; exact h3, fun p hp => ?_⟩
        · rw [e1]
          exact Le.sqL hid_sub s
        · rw [e1, e2]
          exact Le.dps hid_sub _ _ dps
        · refine new_lst R (ds := es.mergeSort dataLE) ?_ h4 p hp
          have e3 := sort_snd (zs := xs.zip es)
          rw [e2] at e3
          rw [← e3]
          exact dps_unzip fun z hz => dz z ((List.mergeSort_perm _ _).mem_iff.mp hz)
  · exact h.elim
def bSortedB (ds : List D) : Wp D := match ds with
  | [.list es] => if (intsD es).isSome || (tupsD es).isSome then bSorted ds else bSortedD ds
  | _ => .stuck
theorem cr_sortedB {X : Cx} (hu : X.A.units + 64 < cLine) : CallR X (.builtin "sorted") (fun vs H Q => (rSortedI X.K vs H Q ∨ rSortedTZ X.K vs H Q) ∨ rSortedDt X.K vs H Q) := by
  intro pins s σ H vs us Q I r h
  rcases h with h | h
  · exact cr_sortedA pins s σ H vs us Q I r h
  · exact cr_sortedDt hu pins s σ H vs us Q I r h
theorem on_sortedB {C : Cs} : OpN C (fun vs H Q => (rSortedI C.K vs H Q ∨ rSortedTZ C.K vs H Q) ∨ rSortedDt C.K vs H Q) bSortedB := by
  intro vs H ds Q S0 H0 Pb σ δ w R dp h
  unfold bSortedB at h
  split at h
  · split at h
    · exact .inl (on_sortedA vs H _ Q S0 H0 Pb σ δ w R dp h)
    · exact .inr (on_sortedD vs H _ Q S0 H0 Pb σ δ w R dp h)
  · exact h.elim
end Tr

namespace Tr
open PySem PySem.Spec PyProof.Rows L2
variable [ProtC]
def rS (C : Cs) (W : WX) (F : SF) : TS := fun D σ H => ∃ S0 H0 Pb δ, Rep (C.bx S0 H0) Pb σ H δ ∧ (F δ).run (OutW (C.bx S0 H0) Pb D) (Xw (C.bx S0 H0) W)
def sTry (F : SF) : SF := fun δ => (F δ).nox
@[simp] theorem rw_sTry {F : SF} {δ : De} : sTry F δ = (F δ).nox := rfl
section
variable {X : Cx} {C : Cs} {W : WX} {pos np pos' : Pos} {x n : Str} {c : Value} {body suite : List Stmt} {b₀ : Stmt} {F : SF} {i : Nat}
theorem DSs.to (h : DSs X C W body F) : PSs X body (rS C W F) := by
  obtain ⟨t, p, q⟩ := h
  exact ⟨fun pins s σ H D I ⟨S0, H0, Pb, δ, R, z⟩ => p.run pins s σ H D I (q S0 H0 Pb σ H δ D R z)⟩
end
end Tr

namespace Tr
open PySem PySem.Spec PyProof.Rows L2
variable [ProtC]
def sRaiseF (x f : Str) (g : DF) : SF := fun δ => (g δ).bind fun d => .ex ⟨x, some (f, d)⟩
@[simp] theorem rw_sRaiseF {x f : Str} {g : DF} {δ : De} : sRaiseF x f g δ = (g δ).bind fun d => .ex ⟨x, some (f, d)⟩ := rfl
end Tr

namespace Tr
open PySem PySem.Spec PyProof.Rows L2
open LamX (CodeO TabS Tabs ExtN GivesTo)
variable [ProtC]
end Tr

namespace Tr
open PySem PySem.Spec L2
variable [ProtC]
inductive Ov where
  | d (x : D)
  | o (ds : List D)
structure Os where
  a : Addr
  at_ : List (Str × Ov)
def At.ov : At → Ov
  | .d x => .d x
  | .o _ ds => .o ds
def stv (st : List (Str × At)) : List (Str × Ov) := st.map fun q => (q.1, q.2.ov)
def stp (o : Ob) : Os := ⟨o.a, stv o.st⟩
def fp (o : Ob) (b : Addr) : Prop := b = o.a ∨ b = o.dx ∨ b ∈ lsts o.st
def Cs.wob (C : Cs) (o : Ob) : Cs := { C with ob := some o }
def ownl (σ : St) (δ : De) (b : Addr) : Prop := ∃ (i : Nat) (ds : List D), δ[i]? = some (Sl.o ds) ∧ σ[i]? = some (some (V.ref b))
def AtV (K : PySem.W.Frag) (Hh H : Hp) (v : V) : At → Prop
  | .d x => Dp K Hh v x
  | .o l ds => v = .ref l ∧ ∃ xs, H l = some (.lst xs) ∧ DpAll K Hh xs ds
def AtsV (K : PySem.W.Frag) (Hh H : Hp) : List (Str × V) → List (Str × At) → Prop
  | [], [] => True
  | (n, v) :: vs, (m, x) :: st => n = m ∧ AtV K Hh H v x ∧ AtsV K Hh H vs st
  | _, _ => False
structure ObV (K : PySem.W.Frag) (Hh H : Hp) (o : Ob) : Prop where
  ins : ∃ vs, H o.a = some (.ins o.C o.dx vs) ∧ vs.length < 900 ∧ AtsV K Hh H vs o.st
  own : H o.dx = some (.own o.a)
theorem hid_hid {S T : Addr → Prop} {H : Hp} : hid S (hid T H) = hid (fun b => S b ∨ T b) H := by
  funext b
  by_cases h1 : S b
  · rw [hid_out h1, hid_out (.inl h1)]
  · by_cases h2 : T b
    · rw [hid_in h1, hid_out h2, hid_out (.inr h2)]
    · rw [hid_in h1, hid_in h2, hid_in fun z => z.elim h1 h2]
theorem hid_iff {S T : Addr → Prop} {H : Hp} (h : ∀ b, S b ↔ T b) : hid S H = hid T H := by
  funext b
  by_cases h1 : S b
  · rw [hid_out h1, hid_out ((h b).mp h1)]
  · rw [hid_in h1, hid_in fun z => h1 ((h b).mpr z)]
theorem AtV.le {K : PySem.W.Frag} {Hh Gh H G : Hp} (l : Le Hh Gh) {v : V} {x : At} (a : AtV K Hh H v x) (h : ∀ b xs, H b = some (.lst xs) → (∃ l ds, x = .o l ds ∧ b = l) → G b = some (.lst xs)) : AtV K Gh G v x := by
  cases x with
  | d x => exact Le.dp l x v a
  | o c ds =>
    obtain ⟨e, xs, h2, h3⟩ := a
    exact ⟨e, xs, h c xs h2 ⟨c, ds, rfl, rfl⟩, Le.dps l ds xs h3⟩
theorem AtsV.le {K : PySem.W.Frag} {Hh Gh H G : Hp} (l : Le Hh Gh) : ∀ {vs : List (Str × V)} {st : List (Str × At)}, AtsV K Hh H vs st → (∀ b xs, H b = some (.lst xs) → b ∈ lsts st → G b = some (.lst xs)) → AtsV K Gh G vs st
  | [], [], _, _ => trivial
  | (n, v) :: vs, (m, x) :: st, a, h => ⟨a.1, a.2.1.le l fun b xs e ⟨c, ds, e1, e2⟩ => h b xs e (by subst e1 e2; simp [lsts]), AtsV.le l a.2.2 fun b xs e hb => h b xs e (by
      cases x with
      | d x => exact hb
      | o c ds => exact List.mem_cons_of_mem _ hb)⟩
  | [], _ :: _, a, _ => a.elim
  | _ :: _, [], a, _ => a.elim
theorem AtsV.obOk {K : PySem.W.Frag} {S : Addr → Prop} {Hb H : Hp} (e : Le (hid S H) (hid S Hb)) : ∀ {vs : List (Str × V)} {st : List (Str × At)}, AtsV K (hid S H) H vs st → (∀ b ∈ lsts st, S b ∧ Hb b = H b) → AtsOk K S Hb vs st
  | [], [], _, _ => trivial
  | (n, v) :: vs, (m, .d x) :: st, a, h => ⟨a.1, Le.dp e x v a.2.1, AtsV.obOk e a.2.2 h⟩
  | (n, v) :: vs, (m, .o l ds) :: st, a, h => ⟨a.1, by
      obtain ⟨_, ⟨e1, xs, h2, h3⟩, _⟩ := a
      have := h l (by simp [lsts])
      exact ⟨e1, this.1, xs, by rw [this.2]; exact h2, Le.dps e ds xs h3⟩, AtsV.obOk e a.2.2 fun b hb => h b (by simp [lsts, hb])⟩
  | [], _ :: _, a, _ => a.elim
  | _ :: _, [], a, _ => a.elim
theorem AtsOk.obV {K : PySem.W.Frag} {S : Addr → Prop} {H : Hp} : ∀ {vs : List (Str × V)} {st : List (Str × At)}, AtsOk K S H vs st → AtsV K (hid S H) H vs st
  | [], [], _ => trivial
  | (n, v) :: vs, (m, .d x) :: st, a => ⟨a.1, a.2.1, AtsOk.obV a.2.2⟩
  | (n, v) :: vs, (m, .o l ds) :: st, a => ⟨a.1, ⟨a.2.1.1, a.2.1.2.2⟩, AtsOk.obV a.2.2⟩
  | [], _ :: _, a => a.elim
  | _ :: _, [], a => a.elim
theorem AtsV.len {K : PySem.W.Frag} {Hh H : Hp} : ∀ {vs : List (Str × V)} {st : List (Str × At)}, AtsV K Hh H vs st → vs.length = st.length
  | [], [], _ => rfl
  | _ :: _, _ :: _, a => by rw [List.length_cons, List.length_cons, AtsV.len a.2.2]
  | [], _ :: _, a => a.elim
  | _ :: _, [], a => a.elim
theorem AtsV.lst {K : PySem.W.Frag} {Hh H : Hp} : ∀ {vs : List (Str × V)} {st : List (Str × At)}, AtsV K Hh H vs st → ∀ b ∈ lsts st, ∃ xs, H b = some (.lst xs)
  | [], [], _, _, hb => by cases hb
  | _ :: vs, (m, .d x) :: st, a, b, hb => AtsV.lst (vs := vs) a.2.2 b hb
  | _ :: vs, (m, .o l ds) :: st, a, b, hb => by
    rcases List.mem_cons.mp hb with rfl | hb
    · obtain ⟨_, ⟨_, xs, h2, _⟩, _⟩ := a
      exact ⟨xs, h2⟩
    · exact AtsV.lst (vs := vs) a.2.2 b hb
  | [], _ :: _, a, _, _ => a.elim
theorem ObV.cell {K : PySem.W.Frag} {Hh H : Hp} {o : Ob} (h : ObV K Hh H o) {b : Addr} (hb : fp o b) : (∃ vs, H b = some (.ins o.C o.dx vs)) ∨ (H b = some (.own o.a)) ∨ ∃ xs, H b = some (.lst xs) := by
  obtain ⟨vs, h1, _, h2⟩ := h.ins
  rcases hb with rfl | rfl | hb
  · exact .inl ⟨vs, h1⟩
  · exact .inr (.inl h.own)
  · exact .inr (.inr (h2.lst b hb))
theorem ObV.dom {K : PySem.W.Frag} {Hh H : Hp} {o : Ob} (h : ObV K Hh H o) {b : Addr} (hb : fp o b) : H b ≠ none := by
  rcases h.cell hb with ⟨_, e⟩ | e | ⟨_, e⟩ <;> rw [e] <;> exact fun z => nomatch z
structure RepO (C : Cs) (cl : Addr) (i : Nat) (S0 : Addr → Prop) (H0 Pb : Hp) (a : Addr) (o : Ob) (σ : St) (H : Hp) (δ : De) : Prop where
  cls : o.C = cl
  at_ : o.a = a
  nd : (lsts o.st).Nodup
  sl : δ[i]? = some (.v (.ref a))
  fr : ∀ b, fp o b → H0 b = none
  s0 : ∀ b, S0 b → H0 b ≠ none
  dj : ∀ b, fp o b → ¬ ownl σ δ b
  fo : ∀ b, ownl σ δ b → H0 b = none
  gr : Grow H0 H
  ph : Le Pb (hid (fun b => S0 b ∨ fp o b ∨ ownl σ δ b) H)
  len : σ.length = δ.length
  tabs : ∀ P ∈ C.T, GxR.TabG H P
  pers : ∀ (i : Nat) (d : D), δ[i]? = some (Sl.p d) → ∃ v, σ[i]? = some (some v) ∧ Dp C.K (hid (fun b => S0 b ∨ fp o b ∨ ownl σ δ b) H) v d
  own : ∀ (i : Nat) (ds : List D), δ[i]? = some (Sl.o ds) → ∃ a xs, σ[i]? = some (some (V.ref a)) ∧ H a = some (.lst xs) ∧ DpAll C.K (hid (fun b => S0 b ∨ fp o b ∨ ownl σ δ b) H) xs ds
  uniq : ∀ (i j : Nat) (ds es : List D) (a : Addr), δ[i]? = some (Sl.o ds) → δ[j]? = some (Sl.o es) → σ[i]? = some (some (V.ref a)) → σ[j]? = some (some (V.ref a)) → i = j
  val : ∀ (i : Nat) (x : V), δ[i]? = some (Sl.v x) → σ[i]? = some (some x)
  trk : ∀ (i : Nat) (a : Addr) (φ : Heap → Prop), δ[i]? = some (Sl.t a φ) → σ[i]? = some (some (V.ref a)) ∧ hid (fun b => S0 b ∨ fp o b ∨ ownl σ δ b) H a = some (.ext φ)
  scr : (∀ q ∈ C.Z, SqL C.K H0 q.1 (q.2.map V.int)) ∧ ∀ p ∈ C.TL, LamX.TabS H0 p.1 p.2
  ob : ObV C.K (hid (fun b => S0 b ∨ fp o b ∨ ownl σ δ b) H) H o
section
variable {C : Cs} {cl : Addr} {i : Nat} {S0 : Addr → Prop} {H0 Pb : Hp} {a : Addr} {o : Ob} {σ : St} {H : Hp} {δ : De}
theorem TabS.ext2 {H G : Hp} {P : Addr} {q : Str} (t : LamX.TabS H P q) (e : ∀ b u, H b = some u → (∀ xs, u ≠ .lst xs) → (∀ C d fs, u ≠ .ins C d fs) → (∀ y, u ≠ .own y) → G b = some u) : LamX.TabS G P q := by
  obtain ⟨ps, e1, t1, t2⟩ := t
  refine ⟨ps, e P _ e1 (fun _ z => by cases z) (fun _ _ _ z => by cases z) (fun _ z => by cases z), t1, fun pos cv hc => ?_⟩
  obtain ⟨c, e2, e3⟩ := t2 pos cv hc
  exact ⟨c, e2, e c _ e3 (fun _ z => by unfold LamX.CodeO at z; cases z) (fun _ _ _ z => by unfold LamX.CodeO at z; cases z) (fun _ z => by unfold LamX.CodeO at z; cases z)⟩
theorem RepO.ol (R : RepO C cl i S0 H0 Pb a o σ H δ) {b : Addr} (h : ownl σ δ b) : ∃ xs, H b = some (.lst xs) := by
  obtain ⟨j, ds, e1, e2⟩ := h
  obtain ⟨c, xs, q1, q2, _⟩ := R.own j ds e1
  rw [e2] at q1
  cases q1
  exact ⟨xs, q2⟩
theorem RepO.base (R : RepO C cl i S0 H0 Pb a o σ H δ) : Grow H0 (hid (ownl σ δ) H) ∧ Grow (hid (ownl σ δ) H) H := by
  refine ⟨⟨fun b u e n => ?_, fun P t => ?_, fun b n => ?_, fun P q hp t => ?_⟩, ⟨hid_sub, fun P t => ?_, fun b n z => ?_, fun P q hp t => ?_⟩⟩
  · rw [hid_in fun z => by rw [R.fo b z] at e; cases e]
    exact R.gr.le b u e n
  · obtain ⟨ps, e, tr⟩ := R.gr.tb P t
    refine ⟨ps, ?_, tr⟩
    rw [hid_in fun z => by
      obtain ⟨xs, h⟩ := R.ol z
      rw [e] at h; cases h]
    exact e
  · rw [hid_in fun z => n (R.fo b z)]
    exact R.gr.dm b n
  · refine TabS.ext2 (R.gr.pr P q hp t) fun b u e n1 _ _ => ?_
    rw [hid_in fun z => by
      obtain ⟨xs, h⟩ := R.ol z
      rw [e] at h
      exact n1 xs (Option.some.inj h)]
    exact e
  · obtain ⟨ps, e, tr⟩ := t
    exact ⟨ps, (of_hid e).2, tr⟩
  · by_cases h : ownl σ δ b
    · exact n (hid_out h)
    · exact n (by rw [hid_in h]; exact z)
  · exact t.ext fun b u e => (of_hid e).2
theorem RepO.down (R : RepO C cl i S0 H0 Pb a o σ H δ) : Rep ((C.wob o).bx (fun b => S0 b ∨ fp o b) (hid (ownl σ δ) H)) Pb σ H δ := by
  have own : ∀ b, Own ((C.wob o).bx (fun b => S0 b ∨ fp o b) (hid (ownl σ δ) H)) σ δ b ↔ (S0 b ∨ fp o b ∨ ownl σ δ b) := fun b => or_assoc
  have eh : hid (Own ((C.wob o).bx (fun b => S0 b ∨ fp o b) (hid (ownl σ δ) H)) σ δ) H = hid (fun b => S0 b ∨ fp o b ∨ ownl σ δ b) H := hid_iff own
  have b1 := R.base
  have ob := R.ob
  obtain ⟨vs, i1, _, i2⟩ := ob.ins
  refine ⟨by rw [eh]; exact R.ph, R.len, b1.2, fun b z => ?_, R.tabs, fun j d h => by rw [eh]; exact R.pers j d h, fun j ds h => ?_, R.uniq, R.val, fun j c φ h => by rw [eh]; exact R.trk j c φ h, ⟨fun q hq => b1.1.le.sqL (R.scr.1 q hq), fun p hp => b1.1.pr _ _ (C.pl p hp) (R.scr.2 p hp), fun o' ho => ?_⟩⟩
  · rcases z with z | z
    · exact b1.1.dm b (R.s0 b z)
    · show hid (ownl σ δ) H b ≠ none
      rw [hid_in (R.dj b z)]
      exact ob.dom z
  · obtain ⟨c, xs, q1, q2, q3⟩ := R.own j ds h
    exact ⟨c, xs, q1, q2, hid_out ⟨j, ds, h, q1⟩, by rw [eh]; exact q3⟩
  · have e : o = o' := Option.some.inj ho
    subst e
    have hh : hid (fun b => S0 b ∨ fp o b ∨ ownl σ δ b) H = hid (fun b => S0 b ∨ fp o b) (hid (ownl σ δ) H) := by
      rw [hid_hid]
      exact hid_iff fun b => or_assoc.symm
    refine ⟨⟨vs, ?_, ?_⟩, ?_, .inr (.inl rfl), .inr (.inr (.inl rfl))⟩
    · show hid (ownl σ δ) H o.a = _
      rw [hid_in (R.dj _ (.inl rfl))]
      exact i1
    · show AtsOk C.K (fun b => S0 b ∨ fp o b) (hid (ownl σ δ) H) vs o.st
      have i3 : AtsV C.K (hid (fun b => S0 b ∨ fp o b) (hid (ownl σ δ) H)) (hid (ownl σ δ) H) vs o.st := by
        rw [← hh]
        refine i2.le (Le.refl _) fun b xs e hb => ?_
        rw [hid_in (R.dj b (.inr (.inr hb)))]
        exact e
      exact i3.obOk (Le.refl _) fun b hb => ⟨.inr (.inr (.inr hb)), rfl⟩
    · show hid (ownl σ δ) H o.dx = _
      rw [hid_in (R.dj _ (.inr (.inl rfl)))]
      exact ob.own
theorem RepO.up {σ' : St} {H' : Hp} {δ' : De} (R : RepO C cl i S0 H0 Pb a o σ H δ) (r : Rep ((C.wob o).bx (fun b => S0 b ∨ fp o b) (hid (ownl σ δ) H)) Pb σ' H' δ') (hs : δ'[i]? = some (.v (.ref a))) : RepO C cl i S0 H0 Pb a o σ' H' δ' := by
  have own : ∀ b, Own ((C.wob o).bx (fun b => S0 b ∨ fp o b) (hid (ownl σ δ) H)) σ' δ' b ↔ (S0 b ∨ fp o b ∨ ownl σ' δ' b) := fun b => or_assoc
  have eh : hid (Own ((C.wob o).bx (fun b => S0 b ∨ fp o b) (hid (ownl σ δ) H)) σ' δ') H' = hid (fun b => S0 b ∨ fp o b ∨ ownl σ' δ' b) H' := hid_iff own
  have b1 := R.base
  have fo1 : ∀ b, ownl σ' δ' b → hid (ownl σ δ) H b = none := fun b ⟨j, ds, e1, e2⟩ => by
    obtain ⟨c, xs, q1, _, q3, _⟩ := r.own j ds e1
    rw [e2] at q1
    cases q1
    exact q3
  have keep : ∀ b u, ¬ ownl σ δ b → H b = some u → (∀ ps, u ≠ .tbl ps) → H' b = some u := fun b u h e n => r.grow.le b u (show hid (ownl σ δ) H b = some u by rw [hid_in h]; exact e) n
  have ob := R.ob
  obtain ⟨vs, i1, il, i2⟩ := ob.ins
  have hl : Le (hid (fun b => S0 b ∨ fp o b ∨ ownl σ δ b) H) (hid (fun b => S0 b ∨ fp o b ∨ ownl σ' δ' b) H') := by
    rw [← eh]
    refine Le.trans ?_ r.leB
    intro b u e n
    obtain ⟨h1, h2⟩ := of_hid e
    have h3 : hid (ownl σ δ) H b = some u := by rw [hid_in fun z => h1 (.inr (.inr z))]; exact h2
    show hid (fun b => S0 b ∨ fp o b) (hid (ownl σ δ) H) b = some u
    rw [hid_in fun z => h1 (z.elim .inl fun z => .inr (.inl z))]
    exact h3
  refine ⟨R.cls, R.at_, R.nd, hs, R.fr, R.s0, fun b z1 z2 => ?_, fun b z => ?_, b1.1.trans r.grow, by rw [← eh]; exact r.ph, r.len, r.tabs, fun j d h => by rw [← eh]; exact r.pers j d h, fun j ds h => ?_, r.uniq, r.val, fun j c φ h => by rw [← eh]; exact r.trk j c φ h, R.scr, ⟨⟨vs, ?_, il, ?_⟩, ?_⟩⟩
  · have h1 := fo1 b z2
    rw [hid_in (R.dj b z1)] at h1
    exact ob.dom z1 h1
  · cases e : H0 b with
    | none => rfl
    | some u => exact absurd (fo1 b z) (b1.1.dm b (by rw [e]; exact fun z => nomatch z))
  · obtain ⟨c, xs, q1, q2, _, q4⟩ := r.own j ds h
    exact ⟨c, xs, q1, q2, by rw [← eh]; exact q4⟩
  · exact keep _ _ (R.dj _ (.inl rfl)) i1 fun ps z => by cases z
  · exact i2.le hl fun b xs e hb => keep _ _ (R.dj _ (.inr (.inr hb))) e fun ps z => by cases z
  · exact keep _ _ (R.dj _ (.inr (.inl rfl))) ob.own fun ps z => by cases z
end
end Tr

namespace Tr
open PySem PySem.Spec L2
variable [ProtC]
section
variable {C : Cs} {cl : Addr} {i : Nat} {S0 : Addr → Prop} {H0 Pb Ph : Hp} {a : Addr} {o : Ob} {σ : St} {H G : Hp} {δ : De}
theorem RepO.bas (R : RepO C cl i S0 H0 Ph a o σ H δ) (l : Le Pb Ph) : RepO C cl i S0 H0 Pb a o σ H δ :=
  ⟨R.cls, R.at_, R.nd, R.sl, R.fr, R.s0, R.dj, R.fo, R.gr, l.trans R.ph, R.len, R.tabs, R.pers, R.own, R.uniq, R.val, R.trk, R.scr, R.ob⟩
theorem RepO.top (R : RepO C cl i S0 H0 Pb a o σ H δ) : RepO C cl i S0 H0 (hid (fun b => S0 b ∨ fp o b ∨ ownl σ δ b) H) a o σ H δ :=
  ⟨R.cls, R.at_, R.nd, R.sl, R.fr, R.s0, R.dj, R.fo, R.gr, Le.refl _, R.len, R.tabs, R.pers, R.own, R.uniq, R.val, R.trk, R.scr, R.ob⟩
theorem RepO.odom (R : RepO C cl i S0 H0 Pb a o σ H δ) : ∀ b, (S0 b ∨ fp o b ∨ ownl σ δ b) → H b ≠ none := fun b z => by
  rcases z with z | z | z
  · exact R.gr.dm b (R.s0 b z)
  · exact R.ob.dom z
  · obtain ⟨xs, e⟩ := R.ol z
    rw [e]; exact fun z => nomatch z
theorem RepO.eh (R : RepO C cl i S0 H0 Pb a o σ H δ) {G : Hp} : hid (Own ((C.wob o).bx (fun b => S0 b ∨ fp o b) (hid (ownl σ δ) H)) σ δ) G = hid (fun b => S0 b ∨ fp o b ∨ ownl σ δ b) G := hid_iff fun b => or_assoc
end
abbrev SO := Os → De → Wp (Out × Os)
def OutO (C : Cs) (cl : Addr) (i : Nat) (S0 : Addr → Prop) (H0 Pb : Hp) (a : Addr) (E : Ends) : Out × Os → Prop
  | (.nx δ, os) => ∀ o σ H, stp o = os → RepO C cl i S0 H0 Pb a o σ H δ → E.nx σ H
  | (.rt d, os) => ∀ o v G, o.C = cl → o.a = a → stp o = os → (lsts o.st).Nodup → (∀ b, fp o b → H0 b = none) → Grow H0 G → ObV C.K (hid (fun b => S0 b ∨ fp o b) G) G o → Dp C.K (hid (fun b => S0 b ∨ fp o b) G) v d → E.rt v G
  | (.bk δ, os) => ∀ o σ H, stp o = os → RepO C cl i S0 H0 Pb a o σ H δ → E.bk σ H
  | (.ct δ, os) => ∀ o σ H, stp o = os → RepO C cl i S0 H0 Pb a o σ H δ → E.ct σ H
theorem OutO.base {C : Cs} {cl : Addr} {i : Nat} {S0 : Addr → Prop} {H0 Pb Ph : Hp} {a : Addr} {E : Ends} {o : Out × Os} (l : Le Pb Ph) (h : OutO C cl i S0 H0 Pb a E o) : OutO C cl i S0 H0 Ph a E o := by
  obtain ⟨q, os⟩ := o
  cases q with
  | nx δ => exact fun o σ H e R => h o σ H e (R.bas l)
  | rt d => exact h
  | bk δ => exact fun o σ H e R => h o σ H e (R.bas l)
  | ct δ => exact fun o σ H e R => h o σ H e (R.bas l)
def rOS (C : Cs) (cl : Addr) (i : Nat) (F : SO) : TS := fun E σ H => ∃ S0 H0 Pb a o δ, RepO C cl i S0 H0 Pb a o σ H δ ∧ (F (stp o) δ).run (OutO C cl i S0 H0 Pb a E) fun _ => False
def OSs (X : Cx) (C : Cs) (cl : Addr) (i : Nat) (sts : List Stmt) (F : SO) : Prop := PSs X sts (rOS C cl i F)
section
variable {X : Cx} {C : Cs} {cl : Addr} {i : Nat} {pos : Pos} {e : Expr} {st : Stmt} {sts rest : List Stmt} {F G : SO}
def oL (i : Nat) (F : Os → SF) : SO := fun os δ => (F os δ).bind fun r => match r with
  | .nx δ' => .need (δ'[i]? = δ[i]?) (.pure (.nx δ', os))
  | .rt d => .pure (.rt d, os)
  | .bk δ' => .need (δ'[i]? = δ[i]?) (.pure (.bk δ', os))
  | .ct δ' => .need (δ'[i]? = δ[i]?) (.pure (.ct δ', os))
def oSeq (F G : SO) : SO := fun os δ => (F os δ).bind fun r => match r with
  | (.nx δ', os') => G os' δ'
  | r => .pure r
def oNil : SO := fun os δ => .pure (.nx δ, os)
def oIf (t : Os → TF) (F G : SO) : SO := fun os δ => (t os δ).bind fun b => if b then F os δ else G os δ
def oLoop (i : Nat) (g : BF) (F : SO) : List D → Os → De → Wp (Out × Os)
  | [], os, δ => .pure (.nx δ, os)
  | d :: ds, os, δ => (optW (g d δ)).bind fun δ1 => .need (δ1[i]? = δ[i]?) ((F os δ1).bind fun r => match r with
    | (.nx δ', os') => oLoop i g F ds os' δ'
    | (.ct δ', os') => oLoop i g F ds os' δ'
    | (.bk δ', os') => .pure (.nx δ', os')
    | (.rt d, os') => .pure (.rt d, os'))
def oFor (i : Nat) (f : Os → De → Wp (List D)) (g : BF) (F : SO) : SO := fun os δ => (f os δ).bind fun ds => oLoop i g F ds os δ
end
end Tr

namespace Tr
open PySem PySem.Spec L2
variable [ProtC]
def dFld (i : Nat) (f : Str) (os : Os) : DF := fun δ => .need (δ[i]? = some (.v (.ref os.a))) (match os.at_.lookup f with
  | some (.d d) => .pure d
  | _ => .stuck)
def lFld (i : Nat) (f : Str) (os : Os) : De → Wp (List D) := fun δ => .need (δ[i]? = some (.v (.ref os.a))) (match os.at_.lookup f with
  | some (.o ds) => .pure ds
  | _ => .stuck)
def DL (X : Cx) (C : Cs) (W : WX) (e : Expr) (f : De → Wp (List D)) : Prop :=
  ∃ t, PE X e t ∧ ∀ S0 H0 Pb σ H δ Q, Rep (C.bx S0 H0) Pb σ H δ → (f δ).run (fun ds => ∀ a xs G, Grow H G → SqL C.K G a xs → DpAll C.K (hid (Own (C.bx S0 H0) σ δ) G) xs ds → Q (.ref a) G) (Ew (C.bx S0 H0) W σ H) → t σ H Q
def DLa (X : Cx) (C : Cs) (W : WX) (e : Expr) (f : De → Wp (List D)) : Prop :=
  ∃ t, PE X e t ∧ ∀ S0 H0 Pb σ H δ Q, Rep (C.bx S0 H0) Pb σ H δ → (f δ).run (fun ds => ∀ a xs, obh C H0 a = some (.lst xs) → DpAll C.K (hid (Own (C.bx S0 H0) σ δ) H) xs ds → Q (.ref a) H) (Ew (C.bx S0 H0) W σ H) → t σ H Q
section
variable {X : Cx} {C : Cs} {W : WX} {pos p : Pos} {e : Expr} {f : Str} {i : Nat} {x : Str} {o : Ob}
theorem Rep.obs {B : Bx} {Pb : Hp} {σ : St} {H : Hp} {δ : De} (R : Rep B Pb σ H δ) (ho : B.c.ob = some o) : ∃ vs, H o.a = some (.ins o.C o.dx vs) ∧ AtsV B.c.K (hid (Own B σ δ) H) H vs o.st := by
  obtain ⟨vs, h1, h2⟩ := (R.scrO.2.2 o ho).ins
  exact ⟨vs, h1, h2.obV⟩
theorem DLa.dl {l : De → Wp (List D)} (h : DLa X C W e l) : DL X C W e l := by
  obtain ⟨t, pt, q⟩ := h
  exact ⟨t, pt, fun S0 H0 Pb σ H δ Q R h => q S0 H0 Pb σ H δ _ R ((l δ).mono (fun ds h a xs ha dp => h a xs H (Grow.refl H) (SqL.of (R.grow.le a _ (obh_le a _ ha fun ps z => by cases z) fun ps z => by cases z)) dp) (fun _ z => z) h)⟩
def dIxL (l : De → Wp (List D)) (fi : DF) : DF := fun δ => (l δ).bind fun ds => (fi δ).bind fun k => (asI1 k).bind fun k => optW (atI ds k)
def dLenL (l : De → Wp (List D)) : DF := fun δ => (l δ).bind fun ds => .pure (.int ds.length)
def iEnA (l : De → Wp (List D)) : De → Wp (List D) := fun δ => (l δ).bind fun ds => .pure (enD ds)
end
end Tr

namespace Tr
open PySem PySem.Spec L2
variable [ProtC]
def putG {A : Type} (f : Str) (v : A) : List (Str × A) → List (Str × A)
  | [] => [(f, v)]
  | (g, x) :: r => if g = f then (g, v) :: r else (g, x) :: putG f v r
theorem AtsV.put {K : PySem.W.Frag} {Hh H : Hp} {f : Str} {v : V} {x : At} (hx : AtV K Hh H v x) : ∀ {vs : List (Str × V)} {st : List (Str × At)}, AtsV K Hh H vs st → AtsV K Hh H (putG f v vs) (putG f x st)
  | [], [], _ => ⟨rfl, hx, trivial⟩
  | (n, u) :: vs, (m, y) :: st, a => by
    obtain ⟨rfl, a1, a2⟩ := a
    unfold putG
    split
    · exact ⟨rfl, hx, a2⟩
    · exact ⟨rfl, a1, AtsV.put hx a2⟩
  | [], _ :: _, a => a.elim
  | _ :: _, [], a => a.elim
theorem look_mem {f : Str} {l : Addr} {ds : List D} : ∀ {st : List (Str × At)}, st.lookup f = some (.o l ds) → l ∈ lsts st
  | [], h => by simp at h
  | (g, y) :: r, h => by
    rw [List.lookup_cons] at h
    cases e : f == g with
    | true =>
      rw [e] at h
      cases Option.some.inj h
      simp [lsts]
    | false =>
      rw [e] at h
      have := look_mem (st := r) h
      cases y with
      | d d => exact this
      | o l2 ds2 => exact List.mem_cons_of_mem _ this
theorem AtsV.wr {K : PySem.W.Frag} {Hh Gh H G : Hp} {f : Str} {l : Addr} {ds es : List D} {ys : List V} (le : Le Hh Gh) (hl : G l = some (.lst ys)) (hy : DpAll K Gh ys es) : ∀ {vs : List (Str × V)} {st : List (Str × At)}, AtsV K Hh H vs st → st.lookup f = some (.o l ds) → (lsts st).Nodup →
    (∀ b xs, H b = some (.lst xs) → b ∈ lsts st → b ≠ l → G b = some (.lst xs)) → AtsV K Gh G vs (putG f (.o l es) st)
  | [], [], _, h, _, _ => by simp at h
  | (n, v) :: vs, (m, y) :: st, a, h, nd, k => by
    obtain ⟨rfl, a1, a2⟩ := a
    rw [List.lookup_cons] at h
    unfold putG
    cases e : f == n with
    | true =>
      rw [e] at h
      cases Option.some.inj h
      rw [if_pos (by simpa using (beq_iff_eq.mp e).symm)]
      obtain ⟨h1, h2⟩ := List.nodup_cons.mp nd
      exact ⟨rfl, ⟨a1.1, ys, hl, hy⟩, a2.le le fun b xs hb hm => k b xs hb (List.mem_cons_of_mem _ hm) fun z => h1 (z ▸ hm)⟩
    | false =>
      rw [e] at h
      rw [if_neg fun z => by rw [z] at e; simp at e]
      have hm := look_mem h
      cases y with
      | d d => exact ⟨rfl, Le.dp le d v a1, AtsV.wr le hl hy a2 h nd k⟩
      | o l2 ds2 =>
        obtain ⟨h1, h2⟩ := List.nodup_cons.mp nd
        obtain ⟨e1, xs, e2, e3⟩ := a1
        exact ⟨rfl, ⟨e1, xs, k l2 xs e2 (List.mem_cons_self ..) fun z => h1 (z ▸ hm), Le.dps le ds2 xs e3⟩, AtsV.wr le hl hy a2 h h2 fun b xs hb hb2 => k b xs hb (List.mem_cons_of_mem _ hb2)⟩
  | [], _ :: _, a, _, _, _ => a.elim
  | _ :: _, [], a, _, _, _ => a.elim
def Os.put (os : Os) (f : Str) (v : Ov) : Os := ⟨os.a, putG f v os.at_⟩
def Ob.put (o : Ob) (f : Str) (x : At) : Ob := ⟨o.C, o.a, o.dx, putG f x o.st⟩
end Tr

namespace Tr
open PySem PySem.Spec L2
variable [ProtC]
def oSetA (f : Str) (g : Os → DF) : SO := fun os δ => (g os δ).bind fun d => .need ((os.put f (.d d)).at_.length < 900) (.pure (.nx δ, os.put f (.d d)))
def oSetL (f : Str) (g : Os → De → Wp (List D)) : SO := fun os δ => (g os δ).bind fun ds => .need ((os.put f (.o ds)).at_.length < 900) (.pure (.nx δ, os.put f (.o ds)))
def oMov (f : Str) (j : Nat) : SO := fun os δ => (slotO δ[j]?).bind fun ds => .need ((os.put f (.o ds)).at_.length < 900) (.pure (.nx (δ.set j .non), os.put f (.o ds)))
def lOf : Option Ov → Wp (List D)
  | some (.o ds) => .pure ds
  | _ => .stuck
def oSetIx (f : Str) (fi g : Os → DF) : SO := fun os δ => (g os δ).bind fun d => (lOf (os.at_.lookup f)).bind fun ds => (fi os δ).bind fun k => (asI1 k).bind fun k => (optW (ixN ds.length k)).bind fun j => .pure (.nx δ, os.put f (.o (ds.set j d)))
def oApp (f : Str) (g : Os → DF) : SO := fun os δ => (lOf (os.at_.lookup f)).bind fun ds => (g os δ).bind fun d => .need (ds.length < sizeLine) (.pure (.nx δ, os.put f (.o (ds ++ [d]))))
section
variable {X : Cx} {C : Cs} {cl : Addr} {i : Nat} {pos p1 p2 p3 p3' : Pos} {e : Expr} {f x : Str} {g : Os → DF}
theorem RepO.self {S0 : Addr → Prop} {H0 Pb : Hp} {a : Addr} {o : Ob} {σ : St} {H : Hp} {δ : De} (R : RepO C cl i S0 H0 Pb a o σ H δ) : σ[i]? = some (some (.ref a)) ∧ ∃ vs, H a = some (.ins cl o.dx vs) ∧ vs.length < 900 ∧ AtsV C.K (hid (fun b => S0 b ∨ fp o b ∨ ownl σ δ b) H) H vs o.st := by
  have ea := R.at_
  have ec := R.cls
  subst ea ec
  exact ⟨R.val i _ R.sl, R.ob.ins⟩
end
end Tr

namespace Tr
open PySem PySem.Spec L2
variable [ProtC]
structure DMr (P : Program) (w : World) (C : Cs) (base : Heap) (cl : Addr) (m : Str) (n k : Nat) (F : Os → List Ar → Wp D) : Prop where
  ex : ∃ (fa : Addr) (fd : FuncData) (ps : List Str), Cls C.K cl ∧ Meth C.K cl m fa ∧ Binds C.K fd ps [] ∧ ∀ o : Ob, o.C = cl → FnOk P w C.K C.mg base (L2.CX P w) k fa fd ps (spD (C.wob o) n (F (stp o)))
def dMethR (i : Nat) (m : Str) (n : Nat) (F : Os → List Ar → Wp D) (os : Os) (r : AF) : DF := fun δ => .need (δ[i]? = some (.v (.ref os.a)) ∧ os.at_.lookup m = none) ((r δ).bind fun as => .need (as.length + 1 = n) (F os (.v (.ref os.a) :: as)).nox)
theorem fnM {P : Program} {w : World} {C : Cs} {base : Heap} {x qual : Str} {params : Arguments} {body : List Stmt} {scope : Scope} {q : He.Defn} {fd : FuncData} {N ps : List Str} {k : Nat} {sp : Sp}
    (F : FunD C.K x qual params body scope [] [] (He.fAd C.K q) fd) (S : FnScope N ps scope) (len : ∀ vs H Q E, sp vs H Q E → vs.length = ps.length)
    (hb : ∀ (A : Around) (outer : List Env) (s : Shared) (H : Hp) (E : XK) (vs : List V) (Q : VK), Room k (A.deeper (PyProof.Rows.envOfC qual scope s.heap.objs.size (He.fAd C.K q) (.ref (He.codeOf C.K q)))) → sp vs H Q E →
      ∃ t, PSs (cxN P w C base N qual scope (He.fAd C.K q) (.ref (He.codeOf C.K q)) A outer s H E) body t ∧ t { nx := fun _ H' => Q .non H', rt := Q } (L2.start N vs) H) :
    FnOk P w C.K C.mg base (L2.CX P w) (k + 1) (He.fAd C.K q) fd ps sp := by
  obtain ⟨oc, od, dV, kV, doc, pm, an, cdv, ct, osl, rfl, lk, hcd, _, _⟩ := F.ex
  obtain ⟨c, hc⟩ := He.codeIn_ref hcd
  have ec : He.codeOf C.K q = c := He.codeOf_eq (p := q) lk hc
  subst hc
  rw [ec] at hb
  exact fn_of lk hcd S len fun A outer s H vs Q E hr h => hb A outer s H E vs Q hr h
theorem DMr.mk' {P : Program} {w : World} {C : Cs} {base : Heap} {cl : Addr} {m x qual : Str} {params : Arguments} {body : List Stmt} {scope : Scope} {q : He.Defn} {fd : FuncData} {N ps : List Str} {k n : Nat} {bd : Os → SF}
    (c : Cls C.K cl) (hm : Meth C.K cl m (He.fAd C.K q)) (F : FunD C.K x qual params body scope [] [] (He.fAd C.K q) fd) (S : FnScope N ps scope) (hn : ps.length = n)
    (hbi : ∀ (kV doc pm : Value) (an : Option Addr) (cdv ct : Value) (us : List Value), us.length = ps.length → bindArgs (PySem.W.fnOf x qual params body scope .none kV doc pm an cdv ct) ⟨us, []⟩ = pure (ps.zip us))
    (hb : ∀ (o : Ob), o.C = cl → ∀ (A : Around) (outer : List Env) (s : Shared) (H : Hp) (E : XK), Room k (A.deeper (PyProof.Rows.envOfC qual scope s.heap.objs.size (He.fAd C.K q) (.ref (He.codeOf C.K q)))) →
      DSs (cxN P w C base N qual scope (He.fAd C.K q) (.ref (He.codeOf C.K q)) A outer s H E) (C.wob o) (wxN E) body (bd (stp o))) :
    DMr P w C base cl m n (k + 1) (fun os => dRun N.length (bd os)) := by
  subst hn
  refine ⟨_, fd, ps, c, hm, F.bindsN hbi, fun o hcl => fnM F S spD_len fun A outer s H E vs Q hr ⟨Sx, as, hn, dom, tabs, scr, ok, hw⟩ => ?_⟩
  obtain ⟨t, p, qq⟩ := hb o hcl A outer s H E hr
  refine ⟨t, p, qq Sx H (hid Sx H) (L2.start N vs) H (dStart N.length as) _ (start_rep dom tabs scr ok) ((bd (stp o) (dStart N.length as)).mono (fun r hr => ?_) (fun y hy cls dc σ G g ex => hy cls dc G g ex) hw)⟩
  cases r with
  | nx δ' => exact fun σ' H' R' => hr .non H' R'.grow .non
  | rt d => exact hr
  | bk δ' => exact hr.elim
  | ct δ' => exact hr.elim
def spM (C : Cs) (cl : Addr) (n : Nat) (F : Os → List Ar → Wp (D × Os)) : Sp := fun vs H Q E => ∃ (S : Addr → Prop) (o : Ob) (as : List Ar), as.length + 1 = n ∧ o.C = cl ∧ (lsts o.st).Nodup ∧ (∀ b, S b → H b ≠ none ∧ ¬ fp o b) ∧ (∀ P ∈ C.T, GxR.TabG H P) ∧
  ((∀ q ∈ C.Z, SqL C.K (hid (fp o) H) q.1 (q.2.map V.int)) ∧ ∀ p ∈ C.TL, LamX.TabS (hid (fp o) H) p.1 p.2) ∧ ObV C.K (hid (fun b => S b ∨ fp o b) H) H o ∧ ArsOk C.K (hid (fun b => S b ∨ fp o b) H) vs (.v (.ref o.a) :: as) ∧
  (F (stp o) as).run (fun r => ∀ o' v G, o'.C = cl → stp o' = r.2 → (lsts o'.st).Nodup → (∀ b, fp o' b → fp o b ∨ H b = none) → Grow (hid (fp o) H) G → ObV C.K (hid (fun b => S b ∨ fp o' b) G) G o' → Dp C.K (hid (fun b => S b ∨ fp o' b) G) v r.1 → Q v G) fun _ => False
theorem spM_len {C : Cs} {cl : Addr} {n : Nat} {F : Os → List Ar → Wp (D × Os)} : ∀ vs H Q E, spM C cl n F vs H Q E → vs.length = n := fun vs H Q E ⟨S, o, as, h1, _, _, _, _, _, _, h2, _⟩ => h2.len.trans h1
structure DMw (P : Program) (w : World) (C : Cs) (base : Heap) (cl : Addr) (m : Str) (n k : Nat) (F : Os → List Ar → Wp (D × Os)) : Prop where
  ex : ∃ (fa : Addr) (fd : FuncData) (ps : List Str), Cls C.K cl ∧ Meth C.K cl m fa ∧ Binds C.K fd ps [] ∧ FnOk P w C.K C.mg base (L2.CX P w) k fa fd ps (spM C cl n F)
def dRunO (m : Nat) (bd : SO) (os : Os) (as : List Ar) : Wp (D × Os) := (bd os (dStart m (.v (.ref os.a) :: as))).bind fun r => match r with
  | (.rt d, os') => .pure (d, os')
  | (.nx _, os') => .pure (.none, os')
  | _ => .stuck
def Cs.bare (C : Cs) : Cs := { C with ob := none, Z := [], TL := [], pl := fun p hp => by cases hp }
theorem startO {C : Cs} {cl : Addr} {S : Addr → Prop} {H : Hp} {N : List Str} {vs : List V} {as : List Ar} {o : Ob} (cls : o.C = cl) (nd : (lsts o.st).Nodup) (dom : ∀ b, S b → H b ≠ none ∧ ¬ fp o b) (tabs : ∀ P ∈ C.T, GxR.TabG H P)
    (scr : (∀ q ∈ C.Z, SqL C.K (hid (fp o) H) q.1 (q.2.map V.int)) ∧ ∀ p ∈ C.TL, LamX.TabS (hid (fp o) H) p.1 p.2) (ob : ObV C.K (hid (fun b => S b ∨ fp o b) H) H o) (ok : ArsOk C.K (hid (fun b => S b ∨ fp o b) H) vs (.v (.ref o.a) :: as)) :
    RepO C cl 0 S (hid (fp o) H) (hid (fun b => S b ∨ fp o b) H) o.a o (L2.start N vs) H (dStart N.length (.v (.ref o.a) :: as)) := by
  have R0 := start_rep (C := C.bare) (N := N) (S := fun b => S b ∨ fp o b) (H := H) (vs := vs) (as := .v (.ref o.a) :: as) (fun b z => z.elim (fun z => (dom b z).1) fun z => ob.dom z) tabs ⟨fun q hq => (nomatch hq), fun p hp => (nomatch hp), fun o ho => (nomatch ho)⟩ ok
  have no : ∀ j ds, (dStart N.length (.v (.ref o.a) :: as))[j]? ≠ some (Sl.o ds) := fun j ds e => by
    obtain ⟨_, _, _, _, h, _⟩ := R0.own j ds e
    unfold dStart at e
    by_cases c : j < ((Ar.v (.ref o.a)) :: as).length
    · rw [List.getElem?_append_left (by rw [List.length_map]; exact c), List.getElem?_map, List.getElem?_eq_getElem c] at e
      have e := Option.some.inj e
      revert e
      cases ((Ar.v (.ref o.a)) :: as)[j] <;> intro e <;> cases e
    · rw [List.getElem?_append_right (by rw [List.length_map]; omega), List.getElem?_replicate] at e
      split at e
      · cases Option.some.inj e
      · cases e
  have nol : ∀ b, ¬ ownl (L2.start N vs) (dStart N.length (.v (.ref o.a) :: as)) b := fun b ⟨j, ds, e, _⟩ => no j ds e
  have eh : ∀ H : Hp, hid (fun b => S b ∨ fp o b ∨ ownl (L2.start N vs) (dStart N.length (.v (.ref o.a) :: as)) b) H = hid (fun b => S b ∨ fp o b) H := fun H => hid_iff fun b => or_congr Iff.rfl (or_iff_left (nol b))
  have eh2 : ∀ H : Hp, hid (Own (C.bare.bx (fun b => S b ∨ fp o b) H) (L2.start N vs) (dStart N.length (.v (.ref o.a) :: as))) H = hid (fun b => S b ∨ fp o b) H := fun H => hid_iff fun b => or_iff_left (nol b)
  have nfp : ∀ b u, H b = some u → (∀ xs, u ≠ .lst xs) → (∀ C d fs, u ≠ .ins C d fs) → (∀ y, u ≠ .own y) → ¬ fp o b := fun b u e n1 n2 n3 z => by
    rcases ob.cell z with ⟨_, e'⟩ | e' | ⟨_, e'⟩ <;> rw [e] at e'
    · exact n2 _ _ _ (Option.some.inj e')
    · exact n3 _ (Option.some.inj e')
    · exact n1 _ (Option.some.inj e')
  refine ⟨cls, rfl, nd, rfl, fun b z => hid_out z, fun b z => by rw [hid_in (dom b z).2]; exact (dom b z).1, fun b _ => nol b, fun b z => absurd z (nol b), ⟨hid_sub, fun P ⟨ps, e, t⟩ => ⟨ps, (of_hid e).2, t⟩, fun b n z => n ?_, fun P q _ t => t.ext fun b u e => (of_hid e).2⟩,
    by rw [eh]; exact Le.refl _, R0.len, tabs, fun j d h => ?_, fun j ds h => absurd h (no j ds), fun j k ds es b h => absurd h (no j ds), R0.val, fun j b φ h => ?_, scr, by rw [eh]; exact ob⟩
  · by_cases c : fp o b
    · exact hid_out c
    · rw [hid_in c]; exact z
  · obtain ⟨v, h1, h2⟩ := R0.pers j d h
    rw [eh2] at h2
    exact ⟨v, h1, by rw [eh]; exact h2⟩
  · obtain ⟨h1, h2⟩ := R0.trk j b φ h
    rw [eh2] at h2
    exact ⟨h1, by rw [eh]; exact h2⟩
theorem fnMw {P : Program} {w : World} {C : Cs} {base : Heap} {cl : Addr} {x qual : Str} {params : Arguments} {body : List Stmt} {scope : Scope} {q : He.Defn} {fd : FuncData} {N ps : List Str} {k n : Nat} {bd : SO}
    (F : FunD C.K x qual params body scope [] [] (He.fAd C.K q) fd) (S : FnScope N ps scope) (hn : ps.length = n)
    (hb : ∀ (A : Around) (outer : List Env) (s : Shared) (H : Hp) (E : XK), Room k (A.deeper (PyProof.Rows.envOfC qual scope s.heap.objs.size (He.fAd C.K q) (.ref (He.codeOf C.K q)))) →
      OSs (cxN P w C base N qual scope (He.fAd C.K q) (.ref (He.codeOf C.K q)) A outer s H E) C cl 0 body bd) :
    FnOk P w C.K C.mg base (L2.CX P w) (k + 1) (He.fAd C.K q) fd ps (spM C cl n (dRunO N.length bd)) := by
  subst hn
  refine fnM F S spM_len fun A outer s H E vs Q hr ⟨Sx, o, as, hn, cls, nd, dom, tabs, scr, ob, ok, hw⟩ => ?_
  refine ⟨_, hb A outer s H E hr, Sx, _, _, o.a, o, _, startO cls nd dom tabs scr ob ok, (bd (stp o) _).mono (fun r hr => ?_) (fun _ z => z) hw⟩
  have fresh : ∀ {o' : Ob}, (∀ b, fp o' b → hid (fp o) H b = none) → ∀ b, fp o' b → fp o b ∨ H b = none := fun h b z => by
    by_cases c : fp o b
    · exact .inl c
    · have := h b z
      rw [hid_in c] at this
      exact .inr this
  obtain ⟨r, os'⟩ := r
  cases r with
  | nx δ' =>
    intro o' σ' H' e R'
    have le : Le (hid (fun b => Sx b ∨ fp o' b ∨ ownl σ' δ' b) H') (hid (fun b => Sx b ∨ fp o' b) H') := hid_le (Le.refl _) fun b z => z.elim .inl fun z => .inr (.inl z)
    obtain ⟨vs', i1, i2, i3⟩ := R'.ob.ins
    exact hr o' .non H' R'.cls e R'.nd (fresh R'.fr) R'.gr ⟨⟨vs', i1, i2, i3.le le fun b xs h _ => h⟩, R'.ob.own⟩ .non
  | rt d =>
    intro o' v G c1 c2 c3 c4 c5 c6 c7 c8
    exact hr o' v G c1 c3 c4 (fresh c5) c6 c7 c8
  | bk δ' => exact hr.elim
  | ct δ' => exact hr.elim
theorem DMw.mk' {P : Program} {w : World} {C : Cs} {base : Heap} {cl : Addr} {m x qual : Str} {params : Arguments} {body : List Stmt} {scope : Scope} {q : He.Defn} {fd : FuncData} {N ps : List Str} {k n : Nat} {bd : SO}
    (c : Cls C.K cl) (hm : Meth C.K cl m (He.fAd C.K q)) (F : FunD C.K x qual params body scope [] [] (He.fAd C.K q) fd) (S : FnScope N ps scope) (hn : ps.length = n)
    (hbi : ∀ (kV doc pm : Value) (an : Option Addr) (cdv ct : Value) (us : List Value), us.length = ps.length → bindArgs (PySem.W.fnOf x qual params body scope .none kV doc pm an cdv ct) ⟨us, []⟩ = pure (ps.zip us))
    (hb : ∀ (A : Around) (outer : List Env) (s : Shared) (H : Hp) (E : XK), Room k (A.deeper (PyProof.Rows.envOfC qual scope s.heap.objs.size (He.fAd C.K q) (.ref (He.codeOf C.K q)))) →
      OSs (cxN P w C base N qual scope (He.fAd C.K q) (.ref (He.codeOf C.K q)) A outer s H E) C cl 0 body bd) :
    DMw P w C base cl m n (k + 1) (dRunO N.length bd) := ⟨_, fd, ps, c, hm, F.bindsN hbi, fnMw F S hn hb⟩
structure DMk (P : Program) (w : World) (C : Cs) (base : Heap) (x : Str) (cl : Addr) (n k : Nat) (F : Os → List Ar → Wp (D × Os)) : Prop where
  ex : ∃ (fa : Addr) (fd : FuncData) (ps : List Str), C.mg x = some (.ref cl) ∧ Mk C.K cl fa ∧ Binds C.K fd ps [] ∧ FnOk P w C.K C.mg base (L2.CX P w) k fa fd ps (spM C cl n F)
end Tr

namespace Tr
open PySem PySem.Spec L2
variable [ProtC]
section
variable {C : Cs} {cl : Addr} {i : Nat} {S0 : Addr → Prop} {H0 Pb : Hp} {a : Addr} {o o' : Ob} {σ : St} {H G : Hp} {δ : De}
theorem RepO.nfp (R : RepO C cl i S0 H0 Pb a o σ H δ) : ∀ b u, H b = some u → (∀ xs, u ≠ .lst xs) → (∀ C d fs, u ≠ .ins C d fs) → (∀ y, u ≠ .own y) → ¬ fp o b := fun b u e n1 n2 n3 z => by
  rcases R.ob.cell z with ⟨_, e'⟩ | e' | ⟨_, e'⟩ <;> rw [e] at e'
  · exact n2 _ _ _ (Option.some.inj e')
  · exact n3 _ (Option.some.inj e')
  · exact n1 _ (Option.some.inj e')
theorem RepO.g0 (R : RepO C cl i S0 H0 Pb a o σ H δ) : Grow H0 (hid (fp o) H) := by
  refine ⟨fun b u e n => ?_, fun P t => ?_, fun b n => ?_, fun P q hp t => ?_⟩
  · rw [hid_in fun z => by rw [R.fr b z] at e; cases e]
    exact R.gr.le b u e n
  · obtain ⟨ps, e, tr⟩ := R.gr.tb P t
    refine ⟨ps, ?_, tr⟩
    rw [hid_in (R.nfp P _ e (fun _ z => by cases z) (fun _ _ _ z => by cases z) fun _ z => by cases z)]
    exact e
  · rw [hid_in fun z => n (R.fr b z)]
    exact R.gr.dm b n
  · refine TabS.ext2 (R.gr.pr P q hp t) fun b u e n1 n2 n3 => ?_
    rw [hid_in (R.nfp b u e n1 n2 n3)]
    exact e
theorem RepO.call (R : RepO C cl i S0 H0 Pb a o σ H δ) (cls : o'.C = cl) (at_ : o'.a = a) (nd : (lsts o'.st).Nodup) (own' : ∀ b, fp o' b → fp o b ∨ H b = none) (g : Grow (hid (fp o) H) G)
    (ob : ObV C.K (hid (fun b => (S0 b ∨ ownl σ δ b) ∨ fp o' b) G) G o') : RepO C cl i S0 H0 Pb a o' σ G δ := by
  have eh : hid (fun b => (S0 b ∨ ownl σ δ b) ∨ fp o' b) G = hid (fun b => S0 b ∨ fp o' b ∨ ownl σ δ b) G := hid_iff fun b => by
    constructor
    · rintro ((z | z) | z)
      · exact .inl z
      · exact .inr (.inr z)
      · exact .inr (.inl z)
    · rintro (z | z | z)
      · exact .inl (.inl z)
      · exact .inr z
      · exact .inl (.inr z)
  rw [eh] at ob
  have keep : ∀ b u, ¬ fp o b → H b = some u → (∀ ps, u ≠ .tbl ps) → G b = some u := fun b u h e n => g.le b u (by rw [hid_in h]; exact e) n
  have leH : Le (hid (fun b => S0 b ∨ fp o b ∨ ownl σ δ b) H) (hid (fun b => S0 b ∨ fp o' b ∨ ownl σ δ b) G) := fun b u e n => by
    obtain ⟨h1, h2⟩ := of_hid e
    rw [hid_in]
    · exact keep b u (fun z => h1 (.inr (.inl z))) h2 n
    · rintro (z | z | z)
      · exact h1 (.inl z)
      · rcases own' b z with z | z
        · exact h1 (.inr (.inl z))
        · rw [z] at h2; cases h2
      · exact h1 (.inr (.inr z))
  have tb : ∀ P, GxR.TabG H P → GxR.TabG G P := fun P t => by
    obtain ⟨qs, e, tr⟩ := t
    exact g.tb P ⟨qs, by rw [hid_in (R.nfp P _ e (fun _ z => by cases z) (fun _ _ _ z => by cases z) fun _ z => by cases z)]; exact e, tr⟩
  refine ⟨cls, at_, nd, R.sl, fun b z => ?_, R.s0, fun b z z2 => ?_, R.fo, R.g0.trans g, R.ph.trans leH, R.len, fun P hP => tb P (R.tabs P hP), fun j d h => ?_, fun j ds h => ?_, R.uniq, R.val, fun j c φ h => ?_, R.scr, ob⟩
  · rcases own' b z with z | z
    · exact R.fr b z
    · cases e : H0 b with
      | none => rfl
      | some u => exact absurd z (R.gr.dm b (by rw [e]; exact fun z => nomatch z))
  · rcases own' b z with z | z
    · exact R.dj b z z2
    · obtain ⟨xs, e⟩ := R.ol z2
      rw [z] at e; cases e
  · obtain ⟨v, h1, h2⟩ := R.pers j d h
    exact ⟨v, h1, Le.dp leH d v h2⟩
  · obtain ⟨c, xs, h1, h2, h3⟩ := R.own j ds h
    exact ⟨c, xs, h1, keep c _ (fun z => R.dj c z ⟨j, ds, h, h1⟩) h2 (fun ps z => by cases z), Le.dps leH ds xs h3⟩
  · obtain ⟨h1, h2⟩ := R.trk j c φ h
    exact ⟨h1, leH c _ h2 fun ps z => by cases z⟩
theorem RepO.drop (hob : C.ob = none) (R : RepO C cl i S0 H0 Pb a o σ H δ) : Rep (C.bx S0 H0) Pb σ H δ := by
  have le : Le (hid (fun b => S0 b ∨ fp o b ∨ ownl σ δ b) H) (hid (Own (C.bx S0 H0) σ δ) H) := hid_le (Le.refl _) fun b z => z.elim .inl fun z => .inr (.inr z)
  refine ⟨R.ph.trans le, R.len, R.gr, R.s0, R.tabs, fun j d h => ?_, fun j ds h => ?_, R.uniq, R.val, fun j c φ h => ?_, ⟨R.scr.1, R.scr.2, fun o ho => ?_⟩⟩
  · obtain ⟨v, h1, h2⟩ := R.pers j d h
    exact ⟨v, h1, Le.dp le d v h2⟩
  · obtain ⟨c, xs, h1, h2, h3⟩ := R.own j ds h
    exact ⟨c, xs, h1, h2, R.fo c ⟨j, ds, h, h1⟩, Le.dps le ds xs h3⟩
  · obtain ⟨h1, h2⟩ := R.trk j c φ h
    exact ⟨h1, le c _ h2 fun ps z => by cases z⟩
  · have ho : C.ob = some o := ho
    rw [hob] at ho
    cases ho
end
def oMethQ (m : Str) (n : Nat) (F : Os → List Ar → Wp (D × Os)) (r : Os → AF) (os : Os) (δ : De) : Wp (D × Os) := .need (os.at_.lookup m = none) ((r os δ).bind fun as => .need (as.length + 1 = n) ((F os as).bind fun q => .need (q.2.a = os.a) (.pure q)))
end Tr

namespace Tr
open PySem PySem.Spec L2
variable [ProtC]
def oNewQ (n : Nat) (Fi : Os → List Ar → Wp (D × Os)) (as : List Ar) : Wp Os := .need (as.length + 1 = n) ((Wp.any fun _ : Addr => True).bind fun a => (Fi ⟨a, []⟩ as).bind fun q => .need (q.1 = .none ∧ q.2.a = a) (.pure q.2))
section
variable {X : Cx} {C : Cs} {cl : Addr} {i : Nat} {pos p pc p2 apos : Pos} {e : Expr} {es : List Expr} {m x cn : Str} {n k k' : Nat} {Fi : Os → List Ar → Wp (D × Os)} {r : AF} {rest : List Stmt} {W : WX} {G : SO}
structure NewAt (C : Cs) (cl : Addr) (S : Addr → Prop) (H G : Hp) (o : Ob) : Prop where
  cls : o.C = cl
  nd : (lsts o.st).Nodup
  fresh : ∀ b, fp o b → H b = none
  gr : Grow H G
  ob : ObV C.K (hid (fun b => S b ∨ fp o b) G) G o
theorem NewAt.base {S : Addr → Prop} {H H1 G : Hp} {o : Ob} (h : NewAt C cl S H1 G o) (g : Grow H H1) : NewAt C cl S H G o := ⟨h.cls, h.nd, fun b z => g.free (h.fresh b z), g.trans h.gr, h.ob⟩
def nNew (n : Nat) (Fi : Os → List Ar → Wp (D × Os)) (r : AF) : De → Wp Os := fun δ => (r δ).bind (oNewQ n Fi)
def spB (C : Cs) (cl : Addr) (n : Nat) (F : List Ar → Wp Os) : Sp := fun vs H Q E => ∃ (S : Addr → Prop) (as : List Ar), as.length = n ∧ (∀ b, S b → H b ≠ none) ∧ (∀ P ∈ C.T, GxR.TabG H P) ∧ Scr C S H ∧ ArsOk C.K (hid S H) vs as ∧
  (F as).run (fun os => ∀ o G, stp o = os → NewAt C cl S H G o → Q (.ref o.a) G) fun _ => False
theorem spB_len {n : Nat} {F : List Ar → Wp Os} : ∀ vs H Q E, spB C cl n F vs H Q E → vs.length = n := fun vs H Q E ⟨S, as, h1, _, _, _, h2, _⟩ => h2.len.trans h1
structure DnB (P : Program) (w : World) (C : Cs) (base : Heap) (x : Str) (cl : Addr) (n k : Nat) (F : List Ar → Wp Os) : Prop where
  ex : ∃ (fa : Addr) (fd : FuncData) (ps : List Str), C.mg x = some (.ref fa) ∧ PySem.W.keepIn C.K (.ref fa) = true ∧ Binds C.K fd ps [] ∧ FnOk P w C.K C.mg base (L2.CX P w) k fa fd ps (spB C cl n F)
def nCall (n : Nat) (F : List Ar → Wp Os) (r : AF) : De → Wp Os := fun δ => (r δ).bind fun as => .need (as.length = n) (F as)
def DSsB (X : Cx) (C : Cs) (cl : Addr) (sts : List Stmt) (F : De → Wp Os) : Prop :=
  ∃ t, PSs X sts t ∧ ∀ S0 H0 Pb σ H δ E, Rep (C.bx S0 H0) Pb σ H δ → (F δ).run (fun os => ∀ o G, stp o = os → NewAt C cl S0 H0 G o → E.rt (.ref o.a) G) (fun _ => False) → t E σ H
def bSeq (F : SF) (G : De → Wp Os) : De → Wp Os := fun δ => (F δ).bind fun r => match r with
  | .nx δ' => G δ'
  | _ => .stuck
def bFz (i : Nat) (G : De → Wp Os) : De → Wp Os := fun δ => G (fz i δ)
def dObjM (f : De → Wp Os) (m : Str) (Fm : Os → List Ar → Wp (D × Os)) : DF := fun δ => ((f δ).bind fun os => .need (os.at_.lookup m = none) ((Fm os []).bind fun q => .pure q.1)).nox
end
def bRun (m : Nat) (bd : De → Wp Os) : List Ar → Wp Os := fun as => bd (dStart m as)
theorem DnB.mk' {P : Program} {w : World} {C : Cs} {base : Heap} {cl : Addr} {x qual : Str} {params : Arguments} {body : List Stmt} {scope : Scope} {fd : FuncData} {N ps : List Str} {k n : Nat} {bd : De → Wp Os}
    (F : FunD C.K x qual params body scope [] [] (He.fAd C.K (x, none)) fd) (S : FnScope N ps scope) (hg : C.mg x = some (.ref (He.fAd C.K (x, none)))) (hn : ps.length = n)
    (hbi : ∀ (kV doc pm : Value) (an : Option Addr) (cdv ct : Value) (us : List Value), us.length = ps.length → bindArgs (PySem.W.fnOf x qual params body scope .none kV doc pm an cdv ct) ⟨us, []⟩ = pure (ps.zip us))
    (hb : ∀ (A : Around) (outer : List Env) (s : Shared) (H : Hp) (E : XK), Room k (A.deeper (PyProof.Rows.envOfC qual scope s.heap.objs.size (He.fAd C.K (x, none)) (.ref (He.codeOf C.K (x, none))))) →
      DSsB (cxN P w C base N qual scope (He.fAd C.K (x, none)) (.ref (He.codeOf C.K (x, none))) A outer s H E) C cl body bd) :
    DnB P w C base x cl n (k + 1) (bRun N.length bd) := by
  subst hn
  refine ⟨_, fd, ps, hg, F.kp, F.bindsN hbi, fnM F S spB_len fun A outer s H E vs Q hr ⟨Sx, as, hn, dom, tabs, scr, ok, hw⟩ => ?_⟩
  obtain ⟨t, p, qq⟩ := hb A outer s H E hr
  exact ⟨t, p, qq Sx H (hid Sx H) (L2.start N vs) H (dStart N.length as) _ (start_rep dom tabs scr ok) ((bd (dStart N.length as)).mono (fun os h o G e1 N => h o G e1 N) (fun _ z => z) hw)⟩
theorem DMk.mk' {P : Program} {w : World} {C : Cs} {base : Heap} {cl : Addr} {cn x qual : Str} {params : Arguments} {body : List Stmt} {scope : Scope} {q : He.Defn} {fd : FuncData} {N ps : List Str} {k n : Nat} {bd : SO}
    (hm : C.mg cn = some (.ref cl)) (mk : Mk C.K cl (He.fAd C.K q)) (F : FunD C.K x qual params body scope [] [] (He.fAd C.K q) fd) (S : FnScope N ps scope) (hn : ps.length = n)
    (hbi : ∀ (kV doc pm : Value) (an : Option Addr) (cdv ct : Value) (us : List Value), us.length = ps.length → bindArgs (PySem.W.fnOf x qual params body scope .none kV doc pm an cdv ct) ⟨us, []⟩ = pure (ps.zip us))
    (hb : ∀ (A : Around) (outer : List Env) (s : Shared) (H : Hp) (E : XK), Room k (A.deeper (PyProof.Rows.envOfC qual scope s.heap.objs.size (He.fAd C.K q) (.ref (He.codeOf C.K q)))) →
      OSs (cxN P w C base N qual scope (He.fAd C.K q) (.ref (He.codeOf C.K q)) A outer s H E) C cl 0 body bd) :
    DMk P w C base cn cl n (k + 1) (dRunO N.length bd) := ⟨_, fd, ps, hm, mk, F.bindsN hbi, fnMw F S hn hb⟩
end Tr

namespace Tr
open PySem PySem.Spec L2
variable [ProtC]
structure LamS1 (sc scope : Scope) (x : Str) : Prop where
  kind : scope.kind = .function
  co : scope.isCoroutine = false
  gen : scope.isGenerator = false
  own : ∀ y ∈ scope.names, y.2 ≠ .cell ∧ (y.2 = .local → y.1 = x)
  par : scope.names.lookup x = some .local
  free : ∀ y ∈ scope.names, y.2 = .free → sc.names.lookup y.1 = some .cell ∨ sc.names.lookup y.1 = some .free
theorem LamS1.has {X : Cx} {scope : Scope} {x : Str} (L : LamS1 X.env.scope scope x) (ok : X.Ok) : ∀ y ∈ scope.names, y.2 = .free → ∃ c, X.env.cells.lookup y.1 = some c := fun y hy e => by
  rcases L.free y hy e with k | k
  · exact ok.has _ (.inl k)
  · exact ok.has _ (.inr k)
end Tr

namespace Tr
open PySem PySem.Spec L2 PyProof.Rows
variable [ProtC]
def KL (K : PySem.W.Frag) (ok : Hp → Prop) (tb : TE) (i : Nat) (σ : L2.St) (Q : VK) : List V → V → V → Hp → Prop
  | [], b, _, H => ok H ∧ Q b H
  | x :: r, b, kb, H => ok H ∧ tb (σ.set i (some x)) H fun k H' => ok H' ∧ ∃ dk db, L2.Dp K H' k dk ∧ L2.Dp K H' kb db ∧ PySem.W.alike dk db = true ∧ dk ≠ .none ∧ min dk.depth db.depth ≤ 60 ∧
      if PySem.W.dataLt dk db then KL K ok tb i σ Q r x k H' else KL K ok tb i σ Q r b kb H'
theorem KL.ok {K : PySem.W.Frag} {ok : Hp → Prop} {tb : TE} {i : Nat} {σ : L2.St} {Q : VK} {r : List V} {b kb : V} {H : Hp} (h : KL K ok tb i σ Q r b kb H) : ok H := by
  cases r with
  | nil => exact h.1
  | cons x r => exact h.1
end Tr

namespace Tr
open PySem PySem.Spec L2
variable [ProtC]
def isO : Option Sl → Bool
  | some (.o _) => true
  | _ => false
end Tr

namespace Tr
open PySem PySem.Spec PyProof.Rows L2
variable [ProtC]
def zip3D : List D → List D → List D → List D
  | d :: ds, e :: es, f :: fs => .tuple [d, e, f] :: zip3D ds es fs
  | _, _, _ => []
def iZ3D (f g m : DF) : De → Wp (List D) := fun δ => (f δ).bind fun d => (g δ).bind fun e => (m δ).bind fun l => (seqD d).bind fun ds => (seqD e).bind fun es => (seqD l).bind fun fs => .pure (zip3D ds es fs)
@[simp] theorem rw_iZ3D {f g m : DF} {δ : De} : iZ3D f g m δ = (f δ).bind fun d => (g δ).bind fun e => (m δ).bind fun l => (seqD d).bind fun ds => (seqD e).bind fun es => (seqD l).bind fun fs => .pure (zip3D ds es fs) := rfl
end Tr

namespace Tr
open PySem PySem.Spec L2
variable [ProtC]
section
variable {C : Cs} {cl : Addr} {i : Nat} {S0 : Addr → Prop} {H0 Pb : Hp} {a : Addr} {o : Ob} {σ : St} {H : Hp} {δ : De}
theorem RepO.fz (R : RepO C cl i S0 H0 Pb a o σ H δ) {j : Nat} {ds : List D} (hd : δ[j]? = some (Sl.o ds)) : RepO C cl i S0 H0 Pb a o σ H (δ.set j (.p (.list ds))) := by
  refine R.up (R.down.fz hd) ?_
  rw [List.getElem?_set_ne]
  · exact R.sl
  · rintro rfl
    rw [R.sl] at hd
    cases hd
end
section
variable {X : Cx} {C : Cs} {cl : Addr} {i : Nat} {sts : List Stmt} {F : SO}
def oFz (j : Nat) (F : SO) : SO := fun os δ => F os (fz j δ)
end
theorem prot_np {tg : List Addr} {tl : List (Addr × Str)} (h : (tg ++ tl.map (·.1)).Nodup) : ∀ P ∈ tg, ∀ q, ¬ (P, q) ∈ tl := fun P hP q hq => by
  have := (List.nodup_append.mp h).2.2 P hP P (List.mem_map_of_mem (f := (·.1)) hq)
  exact this rfl
end Tr

namespace Tr
open PySem PySem.Spec PyProof.Rows L2
variable [ProtC]
def intOf : D → Wp Int
  | .int i => .pure i
  | _ => .stuck
def gRg1 (f : DF) : De → Wp (Int × Int) := fun δ => (f δ).bind fun d => (intOf d).bind fun n => .pure (0, n)
def gRg2 (f g : DF) : De → Wp (Int × Int) := fun δ => (f δ).bind fun d => (g δ).bind fun e => (intOf d).bind fun i => (intOf e).bind fun j => .pure (i, j)
section
variable {X : Cx} {C : Cs} {W : WX} {pos p : Pos} {e a b : Expr} {es : List Expr} {f g : DF} {r : AF} {fr : De → Wp (Int × Int)}
def nRg (fr : De → Wp (Int × Int)) : De → Wp (List D) := fun δ => (fr δ).bind fun p => .need (RgOk p.1 p.2) (.pure (rgD p.1 (p.2 - p.1).toNat))
def nLstOf (f : DF) : De → Wp (List D) := fun δ => (f δ).bind seqD
def aStarRg (fr : De → Wp (Int × Int)) (r : AF) : AF := fun δ => (fr δ).bind fun p => .need (RgOk p.1 p.2) ((r δ).bind fun as => .pure ((rgD p.1 (p.2 - p.1).toNat).map Ar.d ++ as))
end
section
variable {δ : De} {f g : DF} {r : AF} {fr : De → Wp (Int × Int)}
@[simp] theorem rw_gRg1 : gRg1 f δ = (f δ).bind fun d => (intOf d).bind fun n => .pure (0, n) := rfl
@[simp] theorem rw_gRg2 : gRg2 f g δ = (f δ).bind fun d => (g δ).bind fun e => (intOf d).bind fun i => (intOf e).bind fun j => .pure (i, j) := rfl
@[simp] theorem rw_intOf {i : Int} : intOf (.int i) = .pure i := rfl
@[simp] theorem rw_nRg : nRg fr δ = (fr δ).bind fun p => .need (RgOk p.1 p.2) (.pure (rgD p.1 (p.2 - p.1).toNat)) := rfl
@[simp] theorem rw_nLstOf : nLstOf f δ = (f δ).bind seqD := rfl
@[simp] theorem rw_aStarRg : aStarRg fr r δ = (fr δ).bind fun p => .need (RgOk p.1 p.2) ((r δ).bind fun as => .pure ((rgD p.1 (p.2 - p.1).toNat).map Ar.d ++ as)) := rfl
end
end Tr

namespace Tr
open PySem PySem.Spec PyProof.Rows L2
variable [ProtC]
section
variable {A : Type} {k : Out × Os → Prop} {w : Exn → Prop} {δ : De} {i j : Nat} {f : Str} {g h : Os → DF} {F G : SO} {os : Os} {l : De → Wp (List D)} {m : DF} {d : D}
@[simp] theorem rw_oL {H : Os → SF} : oL i H os δ = (H os δ).bind fun r => match r with
  | .nx δ' => .need (δ'[i]? = δ[i]?) (.pure (.nx δ', os))
  | .rt d => .pure (.rt d, os)
  | .bk δ' => .need (δ'[i]? = δ[i]?) (.pure (.bk δ', os))
  | .ct δ' => .need (δ'[i]? = δ[i]?) (.pure (.ct δ', os)) := rfl
@[simp] theorem rw_oSeq : oSeq F G os δ = (F os δ).bind fun r => match r with
  | (.nx δ', os') => G os' δ'
  | r => .pure r := rfl
@[simp] theorem rw_oFz : oFz i F os δ = F os (fz i δ) := rfl
@[simp] theorem rw_oNil : oNil os δ = .pure (.nx δ, os) := rfl
@[simp] theorem rw_oIf {t : Os → TF} : oIf t F G os δ = (t os δ).bind fun b => if b then F os δ else G os δ := rfl
@[simp] theorem rw_oSetA : oSetA f g os δ = (g os δ).bind fun d => .need ((os.put f (.d d)).at_.length < 900) (.pure (.nx δ, os.put f (.d d))) := rfl
@[simp] theorem rw_oSetL {gl : Os → De → Wp (List D)} : oSetL f gl os δ = (gl os δ).bind fun ds => .need ((os.put f (.o ds)).at_.length < 900) (.pure (.nx δ, os.put f (.o ds))) := rfl
@[simp] theorem rw_oMov : oMov f j os δ = (slotO δ[j]?).bind fun ds => .need ((os.put f (.o ds)).at_.length < 900) (.pure (.nx (δ.set j .non), os.put f (.o ds))) := rfl
@[simp] theorem rw_oSetIx : oSetIx f g h os δ = (h os δ).bind fun d => (lOf (os.at_.lookup f)).bind fun ds => (g os δ).bind fun k => (asI1 k).bind fun k => (optW (ixN ds.length k)).bind fun j => .pure (.nx δ, os.put f (.o (ds.set j d))) := rfl
@[simp] theorem rw_oApp : oApp f g os δ = (lOf (os.at_.lookup f)).bind fun ds => (g os δ).bind fun d => .need (ds.length < sizeLine) (.pure (.nx δ, os.put f (.o (ds ++ [d])))) := rfl
@[simp] theorem rw_oFor {fi : Os → De → Wp (List D)} {q : BF} : oFor i fi q F os δ = (fi os δ).bind fun ds => oLoop i q F ds os δ := rfl
@[simp] theorem rw_oLoop0 {q : BF} : oLoop i q F [] os δ = .pure (.nx δ, os) := rfl
@[simp] theorem rw_lOf {ds : List D} : lOf (some (.o ds)) = .pure ds := rfl
@[simp] theorem rw_dFld : dFld i f os δ = .need (δ[i]? = some (.v (.ref os.a))) (match os.at_.lookup f with
  | some (.d d) => .pure d
  | _ => .stuck) := rfl
@[simp] theorem rw_lFld : lFld i f os δ = .need (δ[i]? = some (.v (.ref os.a))) (match os.at_.lookup f with
  | some (.o ds) => .pure ds
  | _ => .stuck) := rfl
@[simp] theorem rw_dIxL : dIxL l m δ = (l δ).bind fun ds => (m δ).bind fun k => (asI1 k).bind fun k => optW (atI ds k) := rfl
@[simp] theorem rw_dLenL : dLenL l δ = (l δ).bind fun ds => .pure (.int ds.length) := rfl
@[simp] theorem rw_iEnA : iEnA l δ = (l δ).bind fun ds => .pure (enD ds) := rfl
@[simp] theorem rw_dMethR {n : Nat} {M : Os → List Ar → Wp D} {r : AF} : dMethR i f n M os r δ = .need (δ[i]? = some (.v (.ref os.a)) ∧ os.at_.lookup f = none) ((r δ).bind fun as => .need (as.length + 1 = n) (M os (.v (.ref os.a) :: as)).nox) := rfl
@[simp] theorem rw_oMethQ {n : Nat} {M : Os → List Ar → Wp (D × Os)} {r : Os → AF} : oMethQ f n M r os δ = .need (os.at_.lookup f = none) ((r os δ).bind fun as => .need (as.length + 1 = n) ((M os as).bind fun q => .need (q.2.a = os.a) (.pure q))) := rfl
@[simp] theorem rw_dRunO {n : Nat} {as : List Ar} : dRunO n F os as = (F os (dStart n (.v (.ref os.a) :: as))).bind fun r => match r with
  | (.rt d, os') => .pure (d, os')
  | (.nx _, os') => .pure (.none, os')
  | _ => .stuck := rfl
end
section
variable {k : Os → Prop} {w : Exn → Prop} {δ : De} {i n : Nat} {F : SF} {G : De → Wp Os} {r : AF}
@[simp] theorem rw_bSeq : bSeq F G δ = (F δ).bind fun r => match r with
  | .nx δ' => G δ'
  | _ => .stuck := rfl
@[simp] theorem rw_bFz : bFz i G δ = G (fz i δ) := rfl
@[simp] theorem rw_bRun {as : List Ar} : bRun n G as = G (dStart n as) := rfl
@[simp] theorem rw_nNew {Fi : Os → List Ar → Wp (D × Os)} : nNew n Fi r δ = (r δ).bind (oNewQ n Fi) := rfl
@[simp] theorem rw_nCall {M : List Ar → Wp Os} : nCall n M r δ = (r δ).bind fun as => .need (as.length = n) (M as) := rfl
@[simp] theorem rw_oNewQ {Fi : Os → List Ar → Wp (D × Os)} {as : List Ar} : oNewQ n Fi as = .need (as.length + 1 = n) ((Wp.any fun _ : Addr => True).bind fun a => (Fi ⟨a, []⟩ as).bind fun q => .need (q.1 = .none ∧ q.2.a = a) (.pure q.2)) := rfl
@[simp] theorem rw_dObjM {f : De → Wp Os} {m : Str} {Fm : Os → List Ar → Wp (D × Os)} : dObjM f m Fm δ = ((f δ).bind fun os => .need (os.at_.lookup m = none) ((Fm os []).bind fun q => .pure q.1)).nox := rfl
end
end Tr

namespace Tr
open PySem PySem.Spec L2
variable [ProtC]
end Tr

namespace Tr
open PySem PySem.Spec L2
variable [ProtC]
def addL : D → D → Wp (List D)
  | .list xs, .list ys => .need (xs.length + ys.length ≤ sizeLine) (.pure (xs ++ ys))
  | _, _ => .stuck
def nAddL (f g : DF) : De → Wp (List D) := fun δ => (f δ).bind fun d => (g δ).bind fun e => addL d e
@[simp] theorem rw_addLL {xs ys : List D} : addL (.list xs) (.list ys) = .need (xs.length + ys.length ≤ sizeLine) (.pure (xs ++ ys)) := rfl
@[simp] theorem rw_nAddL {f g : DF} {δ : De} : nAddL f g δ = (f δ).bind fun d => (g δ).bind fun e => addL d e := rfl
@[simp] theorem rw_intB {b : Bool} : bInt [.bool b] = .pure (.int (if b then 1 else 0)) := rfl
end Tr

namespace Tr
open PySem PySem.Spec L2 PyProof.Rows
variable [ProtC]
def KS (ok : Hp → Prop) (tb : TE) (i : Nat) (σ : L2.St) (Q : List Int → Hp → Prop) : List V → List Int → Hp → Prop
  | [], ks, H => ok H ∧ Q ks H
  | x :: r, ks, H => ok H ∧ tb (σ.set i (some x)) H fun k H' => ∃ n, k = V.int n ∧ KS ok tb i σ Q r (ks ++ [n]) H'
theorem KS.ok {ok : Hp → Prop} {tb : TE} {i : Nat} {σ : L2.St} {Q : List Int → Hp → Prop} {r : List V} {ks : List Int} {H : Hp} (h : KS ok tb i σ Q r ks H) : ok H := by
  cases r with
  | nil => exact h.1
  | cons x r => exact h.1
def skL {α : Type} (xs : List α) (ks : List Int) : List α := ((xs.zip ks).mergeSort (PySem.W.dataLe false fun p => PyData.int p.2)).map (·.1)
def sortFin (ds : List D) (ks : List Int) : D := .list (skL ds ks)
def skLoop (f : DF) (i : Nat) (δ : De) (ds : List D) : List D → List Int → Wp D
  | [], ks => .pure (sortFin ds ks)
  | x :: r, ks => (f (δ.set i (.p x))).nox.bind fun k => (asI1 k).bind fun n => skLoop f i δ ds r (ks ++ [n])
def dSortK (i : Nat) (fx : DF) (f : DF) : DF := fun δ => (fx δ).bind fun d => (lstD d).bind fun ds => .need (isO δ[i]? = false) (skLoop f i δ ds ds [])
section
variable {X : Cx} {C : Cs} {W : WX} {x y : Str} {p pos lpos kpos : Pos} {e body : Expr} {params : Arguments} {scope : Scope} {fx f : DF} {k i : Nat} {c P : Addr}
@[simp] theorem rw_dSortK : dSortK i fx f δ = (fx δ).bind fun d => (lstD d).bind fun ds => .need (isO δ[i]? = false) (skLoop f i δ ds ds []) := rfl
end
end Tr

namespace Tr
open PySem PySem.Spec PyProof.Rows L2 Srt SrtO
variable [ProtC]
def dSortSet (f : DF) : DF := fun δ => (f δ).bind fun d => (lstD d).bind fun ds => (optW (tupsD ds)).bind fun nss => .need ((∀ ns ∈ nss, ns ≠ []) ∧ nss.length < 64)
  ((Wp.any fun (ms : List (List Int)) => ms.Nodup ∧ (∀ y, y ∈ ms ↔ y ∈ nss) ∧ ms.Pairwise (fun x y => TrS.lexT y x = false)).bind fun ms => .pure (.list (ms.map tupI)))
section
variable {X : Cx} {C : Cs} {W : WX} {p p2 pos pos2 : Pos} {e : Expr} {f : DF} {k : Nat}
@[simp] theorem rw_dSortSet {δ : De} : dSortSet f δ = (f δ).bind fun d => (lstD d).bind fun ds => (optW (tupsD ds)).bind fun nss => .need ((∀ ns ∈ nss, ns ≠ []) ∧ nss.length < 64)
  ((Wp.any fun (ms : List (List Int)) => ms.Nodup ∧ (∀ y, y ∈ ms ↔ y ∈ nss) ∧ ms.Pairwise (fun x y => TrS.lexT y x = false)).bind fun ms => .pure (.list (ms.map tupI))) := rfl
end
end Tr

namespace Tr
open PySem PySem.Spec L2
variable [ProtC]
end Tr

namespace Tr
open PySem PySem.Spec L2
open PyProof.Rows
variable [ProtC]
inductive Src where
  | d (f : DF)
  | o (f : De → Wp (List D))
def srcW : List Src → De → Wp (List Sl)
  | [], _ => .pure []
  | .d f :: r, δ => (f δ).bind fun d => (srcW r δ).bind fun ss => .pure (.p d :: ss)
  | .o fl :: r, δ => (fl δ).bind fun ds => (srcW r (dWipe δ [])).nox.bind fun ss => .pure (.o ds :: ss)
def stG : List Nat → List Sl → De → De
  | i :: is, s :: ss, δ => stG is ss (δ.set i s)
  | _, _, δ => δ
def sParG (is : List Nat) (ss : List Src) : SF := fun δ => (srcW ss δ).bind fun sl => .pure (.nx (stG is sl δ))
@[simp] theorem rw_parG {is : List Nat} {ss : List Src} {δ : De} : sParG is ss δ = (srcW ss δ).bind fun sl => .pure (.nx (stG is sl δ)) := rfl
@[simp] theorem rw_src0 {δ : De} : srcW [] δ = .pure [] := rfl
@[simp] theorem rw_srcD {f : DF} {r : List Src} {δ : De} : srcW (.d f :: r) δ = (f δ).bind fun d => (srcW r δ).bind fun ss => .pure (.p d :: ss) := rfl
@[simp] theorem rw_srcO {f : De → Wp (List D)} {r : List Src} {δ : De} : srcW (.o f :: r) δ = (f δ).bind fun ds => (srcW r (dWipe δ [])).nox.bind fun ss => .pure (.o ds :: ss) := rfl
@[simp] theorem rw_stG0 {ss : List Sl} {δ : De} : stG [] ss δ = δ := rfl
@[simp] theorem rw_stG1 {i : Nat} {is : List Nat} {s : Sl} {ss : List Sl} {δ : De} : stG (i :: is) (s :: ss) δ = stG is ss (δ.set i s) := rfl
end Tr

namespace Tr
open PySem PySem.Spec L2
variable [ProtC]
theorem de_dnew {X : Cx} {C : Cs} {W : WX} {pos : Pos} : DE X C W (.Dict [] [] pos) (dC (.dict [])) :=
  ⟨_, pe_dnewK, fun S0 H0 Pb σ H δ Q R h p na => h _ _ (Grow.new na) (.dct (kvs := []) (by
    rw [hid_in, upd_same]
    rintro (z | ⟨i, ds, e1, e2⟩)
    · exact R.dom p z (R.grow.free na)
    · obtain ⟨a, xs, q1, q2, _⟩ := R.own i ds e1
      rw [e2] at q1
      cases q1
      rw [na] at q2
      cases q2) rfl .nil)⟩
@[simp] theorem ty_tuple_dict {ds : List (D × D)} : isTy "tuple" (.dict ds) = some false := by show kitB "dict" "tuple" = _; decide +kernel
@[simp] theorem ty_list_dict {ds : List (D × D)} : isTy "list" (.dict ds) = some false := by show kitB "dict" "list" = _; decide +kernel
@[simp] theorem ty_int_dict {ds : List (D × D)} : isTy "int" (.dict ds) = some false := by show kitB "dict" "int" = _; decide +kernel
@[simp] theorem ty_bool_dict {ds : List (D × D)} : isTy "bool" (.dict ds) = some false := by show kitB "dict" "bool" = _; decide +kernel
@[simp] theorem ty_str_dict {ds : List (D × D)} : isTy "str" (.dict ds) = some false := by show kitB "dict" "str" = _; decide +kernel
end Tr

namespace Tr
open PySem PySem.Spec L2
variable [ProtC]
end Tr

namespace Tr
open PySem PySem.Spec L2
variable [ProtC]

theorem sc_law_taken : FnScope ["_law_row", "_law_many", "_law_found", "_law_cell"] ["_law_row", "_law_many"] (defScope s_law_taken) := ⟨rfl, rfl, rfl, by decide +kernel, rfl, by decide +kernel, by decide +kernel⟩
noncomputable abbrev f_law_taken (C : Cs) : List Ar → Wp D := fTaken C

theorem sc_law_pick : FnScope ["_law_row", "_law_things"] ["_law_row", "_law_things"] (defScope s_law_pick) := ⟨rfl, rfl, rfl, by decide +kernel, rfl, by decide +kernel, by decide +kernel⟩
noncomputable def b_law_pick (C : Cs) : SF := (sRet (d2 dIx (dV 1) (dCall 2 (f_law_taken C) (aTrk 0 (aCons (dCB bLen (aCons (dV 1) aNil)) aNil)))))
noncomputable def f_law_pick (C : Cs) : List Ar → Wp D := dRun 2 (b_law_pick C)

theorem sc_law_table : FnScope ["_law_row", "_law_length", "_law_is_straight", "_law_step", "_law_here", "_law_found", "_law_k"] ["_law_row", "_law_length", "_law_is_straight"] (defScope s_law_table) := ⟨rfl, rfl, rfl, by decide +kernel, rfl, by decide +kernel, by decide +kernel⟩
noncomputable def b_law_table (C : Cs) : SF := (sSeq (sParDDO 3 4 5 (dCall 2 (f_law_pick C) (aTrk 0 (aCons (dLst (aCons (dC (.int 0)) (aCons (dC (.int 1)) (aCons (dC (.int 2)) (aCons (dC (.int 5)) aNil))))) aNil))) (dCall 2 (f_law_pick C) (aTrk 0 (aCons (dLst (aCons (dC (.int 0)) (aCons (dC (.int 1)) (aCons (dC (.int 3)) (aCons (dC (.int 10)) aNil))))) aNil))) (nLst aNil)) (sSeq (sIf (tT (dV 2)) (sRet (dCB bTuple (aCons (dNl (nLc (iRgD1 (dV 1)) (bName 6) tYesD (d2 dAdd (d2 dMul (dV 3) (d2 dAdd (dV 6) (dC (.int 1)))) (dV 4)) ([6] : List Nat))) aNil))) sNext) (sSeq (sFor (iRgD1 (dV 1)) (bName 6) (sSeq (sSet 4 (d2 dAdd (dV 4) (dCall 2 (f_law_pick C) (aTrk 0 (aCons (dLst (aCons (dC (.int 0)) (aCons (dC (.int 0)) (aCons (dC (.int 1)) (aCons (dC (.int 2)) (aCons (dC (.int 7)) aNil)))))) aNil))))) (sApp 5 (dV 4)))) (sFz 5 (sRet (dCB bTuple (aCons (dV 5) aNil)))))))
noncomputable def f_law_table (C : Cs) : List Ar → Wp D := dRun 7 (b_law_table C)

theorem sc_law_game_ways : FnScope ["_law_game_here", "_law_player", "_law_found", "_law_rows", "_law_turn", "_law_more", "_law_way", "_law_nodes", "_law_k", "_law_one"] ["_law_game_here", "_law_player"] (defScope s_law_game_ways) := ⟨rfl, rfl, rfl, by decide +kernel, rfl, by decide +kernel, by decide +kernel⟩
noncomputable def b_law_game_ways : SF := (sSeq (sPar 2 3 (aCons (dLst aNil) (aCons (dLst (aCons (dTup (aCons (dTup aNil) (aCons (dTup (aCons (d2 dIx (dV 1) (dC (.int 0))) aNil)) aNil))) aNil)) aNil))) (sFz 3 (sSeq (sFor (iRgD1 (d2 dIx (dV 0) (dC (.int 0)))) (bName 4) (sSeq (sSetO 5 (nLst aNil)) (sFz 3 (sSeq (sFor (iSeqD (dV 3)) (bTup 2 (bCons (bName 6) (bCons (bName 7) bNil))) (sFor (iRgD1 (dCB bLen (aCons (d2 dIx (dV 0) (dC (.int 1))) aNil))) (bName 8) (sIf (tAnd2 (tBv (d2 dEq (d2 dIx (d2 dIx (d2 dIx (dV 0) (dC (.int 1))) (dV 8)) (dC (.int 0))) (d2 dIx (dV 7) (d1 dNeg (dC (.int 1)))))) (tBv (d2 dNotInA (d2 dIx (d2 dIx (d2 dIx (dV 0) (dC (.int 1))) (dV 8)) (dC (.int 1))) (dV 7)))) (sApp 5 (dTup (aCons (d2 dAdd (dV 6) (dTup (aCons (dV 8) aNil))) (aCons (d2 dAdd (dV 7) (dTup (aCons (d2 dIx (d2 dIx (d2 dIx (dV 0) (dC (.int 1))) (dV 8)) (dC (.int 1))) aNil))) aNil)))) sNext))) (sFz 5 (sSeq (sSet 2 (d2 dAdd (dV 2) (dNl (nLc (iSeqD (dV 5)) (bTup 2 (bCons (bName 6) (bCons (bName 7) bNil))) (tBv (d2 dEq (d2 dIx (dV 7) (d1 dNeg (dC (.int 1)))) (d2 dIx (dV 1) (dC (.int 1))))) (dV 6) ([6, 7] : List Nat))))) (sFz 5 (sSetO 3 (nLc (iSeqD (dV 5)) (bName 9) (tBv (d2 dNe (d2 dIx (d2 dIx (dV 9) (dC (.int 1))) (d1 dNeg (dC (.int 1)))) (d2 dIx (dV 1) (dC (.int 1))))) (dV 9) ([9] : List Nat)))))))))) (sRet (dCB bSortedB (aCons (dV 2) aNil))))))
noncomputable def f_law_game_ways : List Ar → Wp D := dRun 10 b_law_game_ways

theorem sc_law_game : FnScope ["_law_row", "_law_many", "_law_length", "_law_is_straight", "_law_size", "_law_roads", "_law_turn", "_law_start", "_law_players", "_law_k", "_law_player", "_law_has_way"] ["_law_row", "_law_many", "_law_length", "_law_is_straight"] (defScope s_law_game) := ⟨rfl, rfl, rfl, by decide +kernel, rfl, by decide +kernel, by decide +kernel⟩
noncomputable def b_law_game (C : Cs) : SF := (sSeq (sSet 4 (d2 dAdd (dC (.int 2)) (dCall 2 (f_law_taken C) (aTrk 0 (aCons (dC (.int 3)) aNil))))) (sSeq (sSetO 5 (nLst (aCons (dTup (aCons (dC (.int 0)) (aCons (d2 dSub (dV 4) (dC (.int 1))) (aCons (dCall 3 (f_law_table C) (aTrk 0 (aCons (dV 2) (aCons (dV 3) aNil)))) aNil)))) aNil))) (sSeq (sIf (tBv (d2 dGt (dV 4) (dC (.int 2)))) (sSetO 5 (nLst (aCons (dTup (aCons (dC (.int 0)) (aCons (dC (.int 1)) (aCons (dCall 3 (f_law_table C) (aTrk 0 (aCons (dV 2) (aCons (dV 3) aNil)))) aNil)))) (aCons (dTup (aCons (dC (.int 1)) (aCons (d2 dSub (dV 4) (dC (.int 1))) (aCons (dCall 3 (f_law_table C) (aTrk 0 (aCons (dV 2) (aCons (dV 3) aNil)))) aNil)))) aNil)))) sNext) (sSeq (sFor (iRgD1 (d2 dAdd (dC (.int 1)) (dCall 2 (f_law_taken C) (aTrk 0 (aCons (dC (.int 4)) aNil))))) (bName 6) (sSeq (sSet 7 (dCall 2 (f_law_taken C) (aTrk 0 (aCons (dV 4) aNil)))) (sApp 5 (dTup (aCons (dV 7) (aCons (d2 dMod (dCB bInt (aCons (d2 dAdd (d2 dAdd (dV 7) (dC (.int 1))) (dCall 2 (f_law_taken C) (aTrk 0 (aCons (d2 dSub (dV 4) (dC (.int 1))) aNil)))) aNil)) (dV 4)) (aCons (dCall 3 (f_law_table C) (aTrk 0 (aCons (dV 2) (aCons (dV 3) aNil)))) aNil))))))) (sSeq (sSetO 8 (nLst aNil)) (sFz 5 (sSeq (sFor (iRgD1 (dV 1)) (bName 9) (sSeq (sSet 7 (dCall 2 (f_law_taken C) (aTrk 0 (aCons (dV 4) aNil)))) (sSeq (sSet 10 (dTup (aCons (dV 7) (aCons (d2 dMod (dCB bInt (aCons (d2 dAdd (d2 dAdd (dV 7) (dC (.int 1))) (dCall 2 (f_law_taken C) (aTrk 0 (aCons (d2 dSub (dV 4) (dC (.int 1))) aNil)))) aNil)) (dV 4)) aNil)))) (sFz 5 (sSeq (sSet 11 (d2 dNe (dCall 2 f_law_game_ways (aCons (dTup (aCons (dV 4) (aCons (dCB bTuple (aCons (dV 5) aNil)) aNil))) (aCons (dV 10) aNil))) (dLst aNil))) (sApp 8 (dIf (tAnd2 (tT (dV 11)) (tBv (d2 dEq (dCall 2 (f_law_taken C) (aTrk 0 (aCons (dC (.int 3)) aNil))) (dC (.int 0))))) (dV 10) (dTup (aCons (dC (.int 0)) (aCons (d2 dSub (dV 4) (dC (.int 1))) aNil)))))))))) (sFz 5 (sFz 8 (sRet (dTup (aCons (dV 4) (aCons (dCB bTuple (aCons (dV 5) aNil)) (aCons (dCB bTuple (aCons (dV 8) aNil)) aNil))))))))))))))
noncomputable def f_law_game (C : Cs) : List Ar → Wp D := dRun 12 (b_law_game C)

theorem sc_law_states : FnScope ["_law_game_here", "_law_some", "_law_rows", "_law_player", "_law_one", "_law_ways", "_law_more", "_law_way"] ["_law_game_here"] (defScope s_law_states) := ⟨rfl, rfl, rfl, by decide +kernel, rfl, by decide +kernel, by decide +kernel⟩
noncomputable def b_law_states : SF := (sSeq (sPar 1 2 (aCons (dNl (nLc (iSeqD (d2 dIx (dV 0) (dC (.int 2)))) (bName 3) tYesD (dCall 2 f_law_game_ways (aCons (dV 0) (aCons (dV 3) aNil))) ([3] : List Nat))) (aCons (dLst (aCons (dTup aNil) aNil)) aNil))) (sSeq (sIf (tBv (d2 dGt (dCB bMaxA (aCons (dNl (nLc (iSeqD (dV 1)) (bName 4) tYesD (dCB bLen (aCons (dV 4) aNil)) ([4] : List Nat))) aNil)) (dC (.int 8)))) (sRet (dC .none)) sNext) (sSeq (sFor (iSeqD (dV 1)) (bName 5) (sSeq (sSet 6 (dLst aNil)) (sSeq (sFor (iSeqD (dV 2)) (bName 4) (sSet 6 (d2 dAdd (dV 6) (dNl (nLc (iSeqD (dV 5)) (bName 7) tYesD (d2 dAdd (dV 4) (dTup (aCons (dV 7) aNil))) ([7] : List Nat)))))) (sSet 2 (dV 6))))) (sRet (dIf (tBv (d2 dLe (dCB bLen (aCons (dV 2) aNil)) (dC (.int 1000)))) (dV 2) (dC .none))))))
noncomputable def f_law_states : List Ar → Wp D := dRun 8 b_law_states

theorem sc_is_in : FnScope ["value", "least", "most"] ["value", "least", "most"] (defScope s_is_in) := ⟨rfl, rfl, rfl, by decide +kernel, rfl, by decide +kernel, by decide +kernel⟩
noncomputable def b_is_in : SF := (sRet (dAndV (dIsi "int" (dV 0)) (dAndV (dNotV (dIsi "bool" (dV 0))) (dChain dLe dLe (dV 1) (dV 0) (dV 2)))))
noncomputable def f_is_in : List Ar → Wp D := dRun 3 b_is_in

theorem sc_is_table : FnScope ["value", "length", "one", "k"] ["value", "length"] (defScope s_is_table) := ⟨rfl, rfl, rfl, by decide +kernel, rfl, by decide +kernel, by decide +kernel⟩
noncomputable def b_is_table : SF := (sSeq (sIf (tOr2 (tNotV (tT (dIsi "tuple" (dV 0)))) (tOr2 (tBv (d2 dNe (dCB bLen (aCons (dV 0) aNil)) (dV 1))) (tNotV (tT (dGa true (iSeqD (dV 0)) (bName 2) tYesD (dCall 3 f_is_in (aCons (dV 2) (aCons (dC (.int 0)) (aCons (dC (.int 1000)) aNil)))) ([2] : List Nat)))))) (sRet (dC (.bool false))) sNext) (sRet (dGa true (iRgD1 (d2 dSub (dV 1) (dC (.int 1)))) (bName 3) tYesD (d2 dLe (d2 dIx (dV 0) (dV 3)) (d2 dIx (dV 0) (d2 dAdd (dV 3) (dC (.int 1))))) ([3] : List Nat))))
noncomputable def f_is_table : List Ar → Wp D := dRun 4 b_is_table

theorem sc_is_game_road : FnScope ["size", "length", "value", "one"] ["size", "length", "value"] (defScope s_is_game_road) := ⟨rfl, rfl, rfl, by decide +kernel, rfl, by decide +kernel, by decide +kernel⟩
noncomputable def b_is_game_road : SF := (sSeq (sIf (tOr2 (tNotV (tT (dIsi "tuple" (dV 2)))) (tOr2 (tBv (d2 dNe (dCB bLen (aCons (dV 2) aNil)) (dC (.int 3)))) (tNotV (tT (dCall 2 f_is_table (aCons (d2 dIx (dV 2) (dC (.int 2))) (aCons (dV 1) aNil))))))) (sRet (dC (.bool false))) sNext) (sRet (dAndV (dGa true (iSeqD (dSl (dV 2) oNone (oSome (dC (.int 2))))) (bName 3) tYesD (dCall 3 f_is_in (aCons (dV 3) (aCons (dC (.int 0)) (aCons (d2 dSub (dV 0) (dC (.int 1))) aNil)))) ([3] : List Nat)) (d2 dNe (d2 dIx (dV 2) (dC (.int 0))) (d2 dIx (dV 2) (dC (.int 1)))))))
noncomputable def f_is_game_road : List Ar → Wp D := dRun 4 b_is_game_road

theorem sc_all_ways : FnScope ["net", "start", "goal", "found", "rows", "more", "way", "nodes", "index", "road"] ["net", "start", "goal"] (defScope s_all_ways) := ⟨rfl, rfl, rfl, by decide +kernel, rfl, by decide +kernel, by decide +kernel⟩
noncomputable def b_all_ways : SF := (sSeq (sParOD 3 4 (nLst aNil) (dLst (aCons (dTup (aCons (dTup aNil) (aCons (dTup (aCons (dV 1) aNil)) aNil))) aNil))) (sSeq (sWhile (tT (dV 4)) (sSeq (sSetO 5 (nLst aNil)) (sSeq (sFor (iSeqD (dV 4)) (bTup 2 (bCons (bName 6) (bCons (bName 7) bNil))) (sFor (iEnD (d2 dIx (dV 0) (dC (.int 1)))) (bTup 2 (bCons (bName 8) (bCons (bName 9) bNil))) (sIf (tAnd2 (tBv (d2 dEq (d2 dIx (dV 9) (dC (.int 0))) (d2 dIx (dV 7) (d1 dNeg (dC (.int 1)))))) (tBv (d2 dNotInA (d2 dIx (dV 9) (dC (.int 1))) (dV 7)))) (sIf (tBv (d2 dEq (d2 dIx (dV 9) (dC (.int 1))) (dV 2))) (sApp 3 (dTup (aStar (dV 6) (aCons (dV 8) aNil)))) (sApp 5 (dTup (aCons (dTup (aStar (dV 6) (aCons (dV 8) aNil))) (aCons (dTup (aStar (dV 7) (aCons (d2 dIx (dV 9) (dC (.int 1))) aNil))) aNil))))) sNext))) (sFz 5 (sSet 4 (dV 5)))))) (sFz 3 (sRet (dCB bSortedB (aCons (dV 3) aNil))))))
noncomputable def f_all_ways : List Ar → Wp D := dRun 10 b_all_ways

theorem sc_net_of : FnScope ["game", "start", "end", "costs"] ["game"] (defScope s_net_of) := ⟨rfl, rfl, rfl, by decide +kernel, rfl, by decide +kernel, by decide +kernel⟩
noncomputable def b_net_of : SF := (sRet (dTup (aCons (d2 dIx (dV 0) (dC (.int 0))) (aCons (dCB bTuple (aCons (dNl (nLc (iSeqD (d2 dIx (dV 0) (dC (.int 1)))) (bTup 3 (bCons (bName 1) (bCons (bName 2) (bCons (bName 3) bNil)))) tYesD (dTup (aCons (dV 1) (aCons (dV 2) (aCons (dC (.int 0)) (aCons (dC (.int 0)) aNil))))) ([1, 2, 3] : List Nat))) aNil)) aNil))))
noncomputable def f_net_of : List Ar → Wp D := dRun 4 b_net_of

theorem sc_is_player : FnScope ["game", "value", "one"] ["game", "value"] (defScope s_is_player) := ⟨rfl, rfl, rfl, by decide +kernel, rfl, by decide +kernel, by decide +kernel⟩
noncomputable def b_is_player : SF := (sSeq (sIf (tOr2 (tNotV (tT (dIsi "tuple" (dV 1)))) (tOr2 (tBv (d2 dNe (dCB bLen (aCons (dV 1) aNil)) (dC (.int 2)))) (tNotV (tT (dGa true (iSeqD (dV 1)) (bName 2) tYesD (dCall 3 f_is_in (aCons (dV 2) (aCons (dC (.int 0)) (aCons (d2 dSub (d2 dIx (dV 0) (dC (.int 0))) (dC (.int 1))) aNil)))) ([2] : List Nat)))))) (sRet (dC (.bool false))) sNext) (sRet (dAndV (d2 dNe (d2 dIx (dV 1) (dC (.int 0))) (d2 dIx (dV 1) (dC (.int 1)))) (dCB bBoolL (aCons (dCall 3 f_all_ways (aCons (dCall 1 f_net_of (aCons (dV 0) aNil)) (aCons (d2 dIx (dV 1) (dC (.int 0))) (aCons (d2 dIx (dV 1) (dC (.int 1))) aNil)))) aNil)))))
noncomputable def f_is_player : List Ar → Wp D := dRun 3 b_is_player

theorem sc_need_game : FnScope ["game", "length", "index", "one"] ["game", "length"] (defScope s_need_game) := ⟨rfl, rfl, rfl, by decide +kernel, rfl, by decide +kernel, by decide +kernel⟩
noncomputable def b_need_game : SF := (sSeq (sIf (tOr2 (tNotV (tT (dIsi "tuple" (dV 0)))) (tOr2 (tBv (d2 dNe (dCB bLen (aCons (dV 0) aNil)) (dC (.int 3)))) (tNotV (tT (dCall 3 f_is_in (aCons (d2 dIx (dV 0) (dC (.int 0))) (aCons (dC (.int 2)) (aCons (dC (.int 6)) aNil)))))))) sDead sNext) (sSeq (sIf (tOr2 (tNotV (tT (dIsi "tuple" (d2 dIx (dV 0) (dC (.int 1)))))) (tNotV (tBv (dChain dLe dLe (dC (.int 1)) (dCB bLen (aCons (d2 dIx (dV 0) (dC (.int 1))) aNil)) (dC (.int 8)))))) sDead sNext) (sSeq (sIf (tOr2 (tNotV (tT (dIsi "tuple" (d2 dIx (dV 0) (dC (.int 2)))))) (tNotV (tBv (dChain dLe dLe (dC (.int 1)) (dCB bLen (aCons (d2 dIx (dV 0) (dC (.int 2))) aNil)) (dC (.int 4)))))) sDead sNext) (sSeq (sFor (iEnD (d2 dIx (dV 0) (dC (.int 1)))) (bTup 2 (bCons (bName 2) (bCons (bName 3) bNil))) (sIf (tNotV (tT (dCall 3 f_is_game_road (aCons (d2 dIx (dV 0) (dC (.int 0))) (aCons (dIf (tBv (d2 dIs (dV 1) (dC .none))) (dCB bLen (aCons (d2 dIx (dV 0) (dC (.int 2))) aNil)) (dV 1)) (aCons (dV 3) aNil)))))) sDead sNext)) (sFor (iEnD (d2 dIx (dV 0) (dC (.int 2)))) (bTup 2 (bCons (bName 2) (bCons (bName 3) bNil))) (sIf (tNotV (tT (dCall 2 f_is_player (aCons (dV 0) (aCons (dV 3) aNil))))) sDead sNext))))))
noncomputable def f_need_game : List Ar → Wp D := dRun 4 b_need_game

theorem sc_is_state : FnScope ["game", "value", "start", "goal", "way", "one"] ["game", "value"] (defScope s_is_state) := ⟨rfl, rfl, rfl, by decide +kernel, rfl, by decide +kernel, by decide +kernel⟩
noncomputable def b_is_state : SF := (sSeq (sIf (tOr2 (tNotV (tT (dIsi "tuple" (dV 1)))) (tBv (d2 dNe (dCB bLen (aCons (dV 1) aNil)) (dCB bLen (aCons (d2 dIx (dV 0) (dC (.int 2))) aNil))))) (sRet (dC (.bool false))) sNext) (sSeq (sFor (iZpD (d2 dIx (dV 0) (dC (.int 2))) (dV 1)) (bTup 2 (bCons (bTup 2 (bCons (bName 2) (bCons (bName 3) bNil))) (bCons (bName 4) bNil))) (sSeq (sIf (tOr2 (tNotV (tT (dIsi "tuple" (dV 4)))) (tNotV (tT (dGa true (iSeqD (dV 4)) (bName 5) tYesD (dCall 3 f_is_in (aCons (dV 5) (aCons (dC (.int 0)) (aCons (dC (.int 8)) aNil)))) ([5] : List Nat))))) (sRet (dC (.bool false))) sNext) (sIf (tBv (d2 dNotInA (dV 4) (dCall 3 f_all_ways (aCons (dCall 1 f_net_of (aCons (dV 0) aNil)) (aCons (dV 2) (aCons (dV 3) aNil)))))) (sRet (dC (.bool false))) sNext))) (sRet (dC (.bool true)))))
noncomputable def f_is_state : List Ar → Wp D := dRun 6 b_is_state

theorem sc_choices_of : FnScope ["game", "net", "some", "states", "start", "goal", "ways"] ["game"] (defScope s_choices_of) := ⟨rfl, rfl, rfl, by decide +kernel, rfl, by decide +kernel, by decide +kernel⟩
noncomputable def b_choices_of : SF := (sSeq (sParDOD 1 2 3 (dCall 1 f_net_of (aCons (dV 0) aNil)) (nLst aNil) (dC (.int 1))) (sSeq (sFor (iSeqD (d2 dIx (dV 0) (dC (.int 2)))) (bTup 2 (bCons (bName 4) (bCons (bName 5) bNil))) (sApp 2 (dCall 3 f_all_ways (aCons (dV 1) (aCons (dV 4) (aCons (dV 5) aNil)))))) (sFz 2 (sSeq (sIf (tT (dGa false (iSeqD (dV 2)) (bName 6) tYesD (d2 dGt (dCB bLen (aCons (dV 6) aNil)) (dC (.int 8))) ([6] : List Nat))) sDead sNext) (sFz 2 (sSeq (sFor (iSeqD (dV 2)) (bName 6) (sSet 3 (d2 dMul (dV 3) (dCB bLen (aCons (dV 6) aNil))))) (sSeq (sIf (tBv (d2 dGt (dV 3) (dC (.int 1000)))) sDead sNext) (sFz 2 (sRet (dV 2))))))))))
noncomputable def f_choices_of : List Ar → Wp D := dRun 7 b_choices_of

theorem sc_need_state : FnScope ["game", "state"] ["game", "state"] (defScope s_need_state) := ⟨rfl, rfl, rfl, by decide +kernel, rfl, by decide +kernel, by decide +kernel⟩
noncomputable def b_need_state : SF := (sSeq (sDrop (dCall 2 f_need_game (aCons (dV 0) (aCons (dC .none) aNil)))) (sSeq (sIf (tNotV (tT (dCall 2 f_is_state (aCons (dV 0) (aCons (dV 1) aNil))))) sDead sNext) (sDrop (dCall 1 f_choices_of (aCons (dV 0) aNil)))))
noncomputable def f_need_state : List Ar → Wp D := dRun 2 b_need_state

theorem sc_loads_of : FnScope ["game", "state", "weights", "way", "weight", "index"] ["game", "state", "weights"] (defScope s_loads_of) := ⟨rfl, rfl, rfl, by decide +kernel, rfl, by decide +kernel, by decide +kernel⟩
noncomputable def b_loads_of : SF := (sRet (dNl (nLc (iRgD1 (dCB bLen (aCons (d2 dIx (dV 0) (dC (.int 1))) aNil))) (bName 5) tYesD (dGs (iZpD (dV 1) (dV 2)) (bTup 2 (bCons (bName 3) (bCons (bName 4) bNil))) (tBv (d2 dInA (dV 5) (dV 3))) (dV 4) ([3, 4] : List Nat)) ([5] : List Nat))))
noncomputable def f_loads_of : List Ar → Wp D := dRun 6 b_loads_of

theorem sc_time_in : FnScope ["game", "state", "weights", "player", "some", "index"] ["game", "state", "weights", "player"] (defScope s_time_in) := ⟨rfl, rfl, rfl, by decide +kernel, rfl, by decide +kernel, by decide +kernel⟩
noncomputable def b_time_in : SF := (sSeq (sSet 4 (dCall 3 f_loads_of (aCons (dV 0) (aCons (dV 1) (aCons (dV 2) aNil))))) (sRet (dGs (iSeqD (d2 dIx (dV 1) (dV 3))) (bName 5) tYesD (d2 dIx (d2 dIx (d2 dIx (d2 dIx (dV 0) (dC (.int 1))) (dV 5)) (dC (.int 2))) (d2 dSub (d2 dIx (dV 4) (dV 5)) (dC (.int 1)))) ([5] : List Nat))))
noncomputable def f_time_in : List Ar → Wp D := dRun 6 b_time_in

theorem sc_steps_in : FnScope ["game", "some", "state", "weights", "found", "player", "ways", "here", "way", "other"] ["game", "some", "state", "weights"] (defScope s_steps_in) := ⟨rfl, rfl, rfl, by decide +kernel, rfl, by decide +kernel, by decide +kernel⟩
noncomputable def b_steps_in : SF := (sSeq (sSetO 4 (nLst aNil)) (sSeq (sFor (iEnD (dV 1)) (bTup 2 (bCons (bName 5) (bCons (bName 6) bNil))) (sSeq (sSet 7 (dCall 4 f_time_in (aCons (dV 0) (aCons (dV 2) (aCons (dV 3) (aCons (dV 5) aNil)))))) (sFor (iSeqD (dV 6)) (bName 8) (sSeq (sSet 9 (dTup (aStar (dSl (dV 2) oNone (oSome (dV 5))) (aCons (dV 8) (aStar (dSl (dV 2) (oSome (d2 dAdd (dV 5) (dC (.int 1)))) oNone) aNil))))) (sIf (tBv (d2 dLt (dCall 4 f_time_in (aCons (dV 0) (aCons (dV 9) (aCons (dV 3) (aCons (dV 5) aNil))))) (dV 7))) (sApp 4 (dTup (aCons (dV 5) (aCons (dV 8) aNil)))) sNext))))) (sFz 4 (sRet (dV 4)))))
noncomputable def f_steps_in : List Ar → Wp D := dRun 10 b_steps_in

theorem sc_ones : FnScope ["game", "player"] ["game"] (defScope s_ones) := ⟨rfl, rfl, rfl, by decide +kernel, rfl, by decide +kernel, by decide +kernel⟩
noncomputable def b_ones : SF := (sRet (dCB bTuple (aCons (dNl (nLc (iSeqD (d2 dIx (dV 0) (dC (.int 2)))) (bName 1) tYesD (dC (.int 1)) ([1] : List Nat))) aNil)))
noncomputable def f_ones : List Ar → Wp D := dRun 2 b_ones

theorem sc_walk_to_standing : FnScope ["game", "state", "some", "found", "steps", "player", "way"] ["game", "state"] (defScope s_walk_to_standing) := ⟨rfl, rfl, rfl, by decide +kernel, rfl, by decide +kernel, by decide +kernel⟩
noncomputable def b_walk_to_standing : SF := (sSeq (sDrop (dCall 2 f_need_state (aCons (dV 0) (aCons (dV 1) aNil)))) (sSeq (sParDO 2 3 (dCall 1 f_choices_of (aCons (dV 0) aNil)) (nLst aNil)) (sSeq (sSet 4 (dCall 4 f_steps_in (aCons (dV 0) (aCons (dV 2) (aCons (dV 1) (aCons (dCall 1 f_ones (aCons (dV 0) aNil)) aNil)))))) (sSeq (sWhile (tT (dV 4)) (sSeq (sAsg (d2 dIx (dV 4) (dC (.int 0))) (bTup 2 (bCons (bName 5) (bCons (bName 6) bNil)))) (sSeq (sApp 3 (dTup (aCons (dV 5) (aCons (dV 6) aNil)))) (sSeq (sSet 1 (dTup (aStar (dSl (dV 1) oNone (oSome (dV 5))) (aCons (dV 6) (aStar (dSl (dV 1) (oSome (d2 dAdd (dV 5) (dC (.int 1)))) oNone) aNil))))) (sSet 4 (dCall 4 f_steps_in (aCons (dV 0) (aCons (dV 2) (aCons (dV 1) (aCons (dCall 1 f_ones (aCons (dV 0) aNil)) aNil)))))))))) (sFz 3 (sRet (dCB bTuple (aCons (dV 3) aNil))))))))
noncomputable def f_walk_to_standing : List Ar → Wp D := dRun 7 b_walk_to_standing

theorem sc_law_player_time : FnScope ["_law_game_here", "_law_state", "_law_weights", "_law_player", "_law_found", "_law_k", "_law_load", "_law_j"] ["_law_game_here", "_law_state", "_law_weights", "_law_player"] (defScope s_law_player_time) := ⟨rfl, rfl, rfl, by decide +kernel, rfl, by decide +kernel, by decide +kernel⟩
noncomputable def b_law_player_time : SF := (sSeq (sSet 4 (dC (.int 0))) (sSeq (sFor (iSeqD (d2 dIx (dV 1) (dV 3))) (bName 5) (sSeq (sSet 6 (dCB bSumA (aCons (dNl (nLc (iRgD1 (dCB bLen (aCons (dV 1) aNil))) (bName 7) (tBv (d2 dInA (dV 5) (d2 dIx (dV 1) (dV 7)))) (d2 dIx (dV 2) (dV 7)) ([7] : List Nat))) aNil))) (sSet 4 (d2 dAdd (dV 4) (d2 dIx (d2 dIx (d2 dIx (d2 dIx (dV 0) (dC (.int 1))) (dV 5)) (dC (.int 2))) (d2 dSub (dV 6) (dC (.int 1)))))))) (sRet (dV 4))))
noncomputable def f_law_player_time : List Ar → Wp D := dRun 8 b_law_player_time

theorem sc_law_steps : FnScope ["_law_game_here", "_law_state", "_law_weights", "_law_found", "_law_player", "_law_here", "_law_way", "_law_other"] ["_law_game_here", "_law_state", "_law_weights"] (defScope s_law_steps) := ⟨rfl, rfl, rfl, by decide +kernel, rfl, by decide +kernel, by decide +kernel⟩
noncomputable def b_law_steps : SF := (sSeq (sSet 3 (dLst aNil)) (sSeq (sFor (iRgD1 (dCB bLen (aCons (dV 1) aNil))) (bName 4) (sSeq (sSet 5 (dCall 4 f_law_player_time (aCons (dV 0) (aCons (dV 1) (aCons (dV 2) (aCons (dV 4) aNil)))))) (sFor (iSeqD (dCall 2 f_law_game_ways (aCons (dV 0) (aCons (d2 dIx (d2 dIx (dV 0) (dC (.int 2))) (dV 4)) aNil)))) (bName 6) (sSeq (sSet 7 (d2 dAdd (d2 dAdd (dSl (dV 1) oNone (oSome (dV 4))) (dTup (aCons (dV 6) aNil))) (dSl (dV 1) (oSome (d2 dAdd (dV 4) (dC (.int 1)))) oNone))) (sSet 3 (d2 dAdd (dV 3) (d2 dMulA (dLst (aCons (dTup (aCons (dV 4) (aCons (dV 6) aNil))) aNil)) (dCB bInt (aCons (d2 dLt (dCall 4 f_law_player_time (aCons (dV 0) (aCons (dV 7) (aCons (dV 2) (aCons (dV 4) aNil))))) (dV 5)) aNil))))))))) (sRet (dV 3))))
noncomputable def f_law_steps : List Ar → Wp D := dRun 8 b_law_steps

theorem sc_law_is_walk : FnScope ["_law_game_here", "_law_state", "_law_value", "_law_ones", "_law_step", "_law_k"] ["_law_game_here", "_law_state", "_law_value"] (defScope s_law_is_walk) := ⟨rfl, rfl, rfl, by decide +kernel, rfl, by decide +kernel, by decide +kernel⟩
noncomputable def b_law_is_walk : SF := (sSeq (sIf (tNotV (tT (dIsi "tuple" (dV 2)))) (sRet (dC (.bool false))) sNext) (sSeq (sSet 3 (d2 dMulA (dTup (aCons (dC (.int 1)) aNil)) (dCB bLen (aCons (dV 1) aNil)))) (sSeq (sFor (iSeqD (dV 2)) (bName 4) (sSeq (sIf (tOr2 (tNotV (tT (dIsi "tuple" (dV 4)))) (tOr2 (tBv (d2 dNe (dCB bLen (aCons (dV 4) aNil)) (dC (.int 2)))) (tOr2 (tNotV (tT (dIsi "int" (d2 dIx (dV 4) (dC (.int 0)))))) (tT (dIsi "bool" (d2 dIx (dV 4) (dC (.int 0)))))))) (sRet (dC (.bool false))) sNext) (sSeq (sIf (tNotV (tT (dIsi "tuple" (d2 dIx (dV 4) (dC (.int 1)))))) (sRet (dC (.bool false))) sNext) (sSeq (sIf (tBv (d2 dNe (dNl (nLc (iSeqD (d2 dIx (dV 4) (dC (.int 1)))) (bName 5) (tOr2 (tNotV (tT (dIsi "int" (dV 5)))) (tT (dIsi "bool" (dV 5)))) (dV 5) ([5] : List Nat))) (dLst aNil))) (sRet (dC (.bool false))) sNext) (sSeq (sIf (tBv (d2 dNotInA (dV 4) (dCall 3 f_law_steps (aCons (dV 0) (aCons (dV 1) (aCons (dV 3) aNil)))))) (sRet (dC (.bool false))) sNext) (sSet 1 (d2 dAdd (d2 dAdd (dSl (dV 1) oNone (oSome (d2 dIx (dV 4) (dC (.int 0))))) (dTup (aCons (d2 dIx (dV 4) (dC (.int 1))) aNil))) (dSl (dV 1) (oSome (d2 dAdd (d2 dIx (dV 4) (dC (.int 0))) (dC (.int 1)))) oNone)))))))) (sRet (d2 dEq (dCall 3 f_law_steps (aCons (dV 0) (aCons (dV 1) (aCons (dV 3) aNil)))) (dLst aNil))))))
noncomputable def f_law_is_walk : List Ar → Wp D := dRun 6 b_law_is_walk

theorem sc_law_alike : FnScope ["_law_found", "_law_due", "_law_k"] ["_law_found", "_law_due"] (defScope s_law_alike) := ⟨rfl, rfl, rfl, by decide +kernel, rfl, by decide +kernel, by decide +kernel⟩
noncomputable def b_law_alike (self : List Ar → Wp D) : SF := (sSeq (sIf (tT (dIsiT ["tuple", "list"] (dV 1))) (sSeq (sIf (tOr2 (tNotV (tT (dIsiT ["tuple", "list"] (dV 0)))) (tBv (d2 dNe (dIsi "list" (dV 0)) (dIsi "list" (dV 1))))) (sRet (dC (.bool false))) sNext) (sSeq (sIf (tBv (d2 dNe (dCB bLen (aCons (dV 0) aNil)) (dCB bLen (aCons (dV 1) aNil)))) (sRet (dC (.bool false))) sNext) (sRet (d2 dEq (dNl (nLc (iRgD1 (dCB bLen (aCons (dV 1) aNil))) (bName 2) (tNotV (tT (dCall 2 self (aCons (d2 dIx (dV 0) (dV 2)) (aCons (d2 dIx (dV 1) (dV 2)) aNil))))) (dV 2) ([2] : List Nat))) (dLst aNil))))) sNext) (sSeq (sIf (tOr2 (tBv (d2 dIs (dV 1) (dC .none))) (tT (dIsi "str" (dV 1)))) (sRet (dAndV (d2 dEq (dV 0) (dV 1)) (d2 dEq (dIsi "str" (dV 0)) (dIsi "str" (dV 1))))) sNext) (sRet (dAndV (dIsi "int" (dV 0)) (dAndV (d2 dEq (dIsi "bool" (dV 0)) (dIsi "bool" (dV 1))) (d2 dEq (dV 0) (dV 1)))))))
noncomputable def f_law_alike : Nat → List Ar → Wp D
  | 0 => dRun 3 fun _ => .stuck
  | z + 1 => dRun 3 (b_law_alike (f_law_alike z))

theorem sc_is_step : FnScope ["some", "value", "one"] ["some", "value"] (defScope s_is_step) := ⟨rfl, rfl, rfl, by decide +kernel, rfl, by decide +kernel, by decide +kernel⟩
noncomputable def b_is_step : SF := (sSeq (sIf (tOr2 (tNotV (tT (dIsi "tuple" (dV 1)))) (tOr2 (tBv (d2 dNe (dCB bLen (aCons (dV 1) aNil)) (dC (.int 2)))) (tNotV (tT (dCall 3 f_is_in (aCons (d2 dIx (dV 1) (dC (.int 0))) (aCons (dC (.int 0)) (aCons (d2 dSub (dCB bLen (aCons (dV 0) aNil)) (dC (.int 1))) aNil)))))))) (sRet (dC (.bool false))) sNext) (sSeq (sIf (tOr2 (tNotV (tT (dIsi "tuple" (d2 dIx (dV 1) (dC (.int 1)))))) (tNotV (tT (dGa true (iSeqD (d2 dIx (dV 1) (dC (.int 1)))) (bName 2) tYesD (dCall 3 f_is_in (aCons (dV 2) (aCons (dC (.int 0)) (aCons (dC (.int 9)) aNil)))) ([2] : List Nat))))) (sRet (dC (.bool false))) sNext) (sRet (d2 dInA (d2 dIx (dV 1) (dC (.int 1))) (d2 dIx (dV 0) (d2 dIx (dV 1) (dC (.int 0))))))))
noncomputable def f_is_step : List Ar → Wp D := dRun 3 b_is_step

theorem sc_shows_walk : FnScope ["game", "state", "value", "some", "step"] ["game", "state", "value"] (defScope s_shows_walk) := ⟨rfl, rfl, rfl, by decide +kernel, rfl, by decide +kernel, by decide +kernel⟩
noncomputable def b_shows_walk : SF := (sSeq (sDrop (dCall 2 f_need_state (aCons (dV 0) (aCons (dV 1) aNil)))) (sSeq (sSet 3 (dCall 1 f_choices_of (aCons (dV 0) aNil))) (sSeq (sIf (tNotV (tT (dIsi "tuple" (dV 2)))) (sRet (dC (.bool false))) sNext) (sSeq (sFor (iSeqD (dV 2)) (bName 4) (sSeq (sIf (tOr2 (tNotV (tT (dCall 2 f_is_step (aCons (dV 3) (aCons (dV 4) aNil))))) (tBv (d2 dNotInA (dV 4) (dCall 4 f_steps_in (aCons (dV 0) (aCons (dV 3) (aCons (dV 1) (aCons (dCall 1 f_ones (aCons (dV 0) aNil)) aNil)))))))) (sRet (dC (.bool false))) sNext) (sSet 1 (dTup (aStar (dSl (dV 1) oNone (oSome (d2 dIx (dV 4) (dC (.int 0))))) (aCons (d2 dIx (dV 4) (dC (.int 1))) (aStar (dSl (dV 1) (oSome (d2 dAdd (d2 dIx (dV 4) (dC (.int 0))) (dC (.int 1)))) oNone) aNil))))))) (sRet (dNotV (dCall 4 f_steps_in (aCons (dV 0) (aCons (dV 3) (aCons (dV 1) (aCons (dCall 1 f_ones (aCons (dV 0) aNil)) aNil)))))))))))
noncomputable def f_shows_walk : List Ar → Wp D := dRun 5 b_shows_walk

theorem sc_law : FnScope ["_law_script", "_law_row", "_law_many", "_law_game_here", "_law_states_here", "_law_state", "_law_base", "_law_at", "_law_values", "_law_step", "_law_player", "_law_way", "_law_value"] ["_law_script"] (defScope s_law) := ⟨rfl, rfl, rfl, by decide +kernel, rfl, by decide +kernel, by decide +kernel⟩
noncomputable def b_law (C : Cs) : SF := (sSeq (sRow 1 0) (sSeq (sSet 2 (d2 dAdd (dC (.int 1)) (dCall 2 (f_law_taken C) (aTrk 1 (aCons (dC (.int 3)) aNil))))) (sSeq (sSet 3 (dCall 4 (f_law_game C) (aTrk 1 (aCons (dV 2) (aCons (dV 2) (aCons (d2 dEq (dCall 2 (f_law_taken C) (aTrk 1 (aCons (dC (.int 2)) aNil))) (dC (.int 0))) aNil)))))) (sSeq (sSet 4 (dCall 1 f_law_states (aCons (dV 3) aNil))) (sSeq (sIf (tBv (d2 dIs (dV 4) (dC .none))) (sRet (dC (.bool true))) sNext) (sSeq (sSet 5 (dCall 2 (f_law_pick C) (aTrk 1 (aCons (dV 4) aNil)))) (sSeq (sSet 6 (dCall 2 f_walk_to_standing (aCons (dV 3) (aCons (dV 5) aNil)))) (sSeq (sIf (tNotV (tT (dCall 3 f_law_is_walk (aCons (dV 3) (aCons (dV 5) (aCons (dV 6) aNil)))))) (sRet (dC (.bool false))) sNext) (sSeq (sSet 7 (dCall 2 (f_law_taken C) (aTrk 1 (aCons (d2 dAdd (dCB bLen (aCons (dV 6) aNil)) (dC (.int 1))) aNil)))) (sSeq (sSetO 8 (nLst (aCons (dV 6) (aCons (dCB bList (aCons (dV 6) aNil)) (aCons (dSl (dV 6) (oSome (dC (.int 1))) oNone) (aCons (dSl (dV 6) oNone (oSome (d1 dNeg (dC (.int 1))))) (aCons (d2 dRev (dV 6) (d1 dNeg (dC (.int 1)))) (aCons (d2 dAdd (dV 6) (dSl (dV 6) (oSome (d1 dNeg (dC (.int 1)))) oNone)) (aCons (dTup aNil) (aCons (dC .none) (aCons (dC (.int 3)) (aCons (dC (.dict [])) aNil)))))))))))) (sSeq (sFor (iSeqD (dLst (aCons (dTup (aCons (dC (.int 0)) (aCons (dTup aNil) aNil))) (aCons (dTup (aCons (dV 2) (aCons (dTup (aCons (dC (.int 0)) aNil)) aNil))) (aCons (dTup (aCons (dC (.bool true)) (aCons (dTup (aCons (dC (.int 0)) aNil)) aNil))) (aCons (dLst (aCons (dC (.int 0)) (aCons (dTup (aCons (dC (.int 0)) aNil)) aNil))) (aCons (dTup (aCons (dC (.int 0)) aNil)) (aCons (dC .none) (aCons (dTup (aCons (dC (.int 0)) (aCons (dLst (aCons (dC (.int 0)) aNil)) aNil))) aNil))))))))) (bName 9) (sApp 8 (d2 dAdd (d2 dAdd (dSl (dV 6) oNone (oSome (dV 7))) (dTup (aCons (dV 9) aNil))) (dSl (dV 6) (oSome (dV 7)) oNone)))) (sSeq (sSet 10 (dCall 2 (f_law_taken C) (aTrk 1 (aCons (dV 2) aNil)))) (sSeq (sSet 11 (dCall 2 (f_law_pick C) (aTrk 1 (aCons (dCall 2 f_law_game_ways (aCons (dV 3) (aCons (d2 dIx (d2 dIx (dV 3) (dC (.int 2))) (dV 10)) aNil))) aNil)))) (sFz 8 (sSeq (sSet 8 (d2 dAdd (dV 8) (dLst (aCons (d2 dAdd (d2 dAdd (dSl (dV 6) oNone (oSome (dV 7))) (dTup (aCons (dTup (aCons (dV 10) (aCons (dV 11) aNil))) aNil))) (dSl (dV 6) (oSome (dV 7)) oNone)) (aCons (dTup (aCons (dTup (aCons (dV 10) (aCons (dV 11) aNil))) aNil)) (aCons (d2 dAdd (dTup (aCons (dTup (aCons (dV 10) (aCons (dV 11) aNil))) aNil)) (dV 6)) (aCons (d2 dAdd (dV 6) (dTup (aCons (dTup (aCons (dV 10) (aCons (dV 11) aNil))) aNil))) aNil))))))) (sFz 8 (sSeq (sFor (iSeqD (dV 8)) (bName 12) (sIf (tNotV (tT (dCall 2 (f_law_alike 4) (aCons (dCall 3 f_shows_walk (aCons (dV 3) (aCons (dV 5) (aCons (dV 12) aNil)))) (aCons (dCall 3 f_law_is_walk (aCons (dV 3) (aCons (dV 5) (aCons (dV 12) aNil)))) aNil))))) (sRet (dC (.bool false))) sNext)) (sRet (dC (.bool true))))))))))))))))))))
noncomputable def f_law (C : Cs) : List Ar → Wp D := dRun 13 (b_law C)
end Tr

namespace Tr
open PySem PySem.Spec L2
variable [ProtC]
structure Tp (C : Cs) (base : Heap) : Prop where
  d_law_taken : ∃ fd, FunD C.K "_law_taken" "_law_taken" (defArgs s_law_taken) (defBody s_law_taken) (defScope s_law_taken) [] [] (He.ga C.K "_law_taken") fd
  g_law_taken : C.mg "_law_taken" = some (.ref (He.ga C.K "_law_taken"))
  d_law_pick : ∃ fd, FunD C.K "_law_pick" "_law_pick" (defArgs s_law_pick) (defBody s_law_pick) (defScope s_law_pick) [] [] (He.ga C.K "_law_pick") fd
  g_law_pick : C.mg "_law_pick" = some (.ref (He.ga C.K "_law_pick"))
  d_law_table : ∃ fd, FunD C.K "_law_table" "_law_table" (defArgs s_law_table) (defBody s_law_table) (defScope s_law_table) [] [] (He.ga C.K "_law_table") fd
  g_law_table : C.mg "_law_table" = some (.ref (He.ga C.K "_law_table"))
  d_law_game_ways : ∃ fd, FunD C.K "_law_game_ways" "_law_game_ways" (defArgs s_law_game_ways) (defBody s_law_game_ways) (defScope s_law_game_ways) [] [] (He.ga C.K "_law_game_ways") fd
  g_law_game_ways : C.mg "_law_game_ways" = some (.ref (He.ga C.K "_law_game_ways"))
  d_law_game : ∃ fd, FunD C.K "_law_game" "_law_game" (defArgs s_law_game) (defBody s_law_game) (defScope s_law_game) [] [] (He.ga C.K "_law_game") fd
  g_law_game : C.mg "_law_game" = some (.ref (He.ga C.K "_law_game"))
  d_law_states : ∃ fd, FunD C.K "_law_states" "_law_states" (defArgs s_law_states) (defBody s_law_states) (defScope s_law_states) [] [] (He.ga C.K "_law_states") fd
  g_law_states : C.mg "_law_states" = some (.ref (He.ga C.K "_law_states"))
  d_is_in : ∃ fd, FunD C.K "is_in" "is_in" (defArgs s_is_in) (defBody s_is_in) (defScope s_is_in) [] [] (He.ga C.K "is_in") fd
  g_is_in : C.mg "is_in" = some (.ref (He.ga C.K "is_in"))
  d_is_table : ∃ fd, FunD C.K "is_table" "is_table" (defArgs s_is_table) (defBody s_is_table) (defScope s_is_table) [] [] (He.ga C.K "is_table") fd
  g_is_table : C.mg "is_table" = some (.ref (He.ga C.K "is_table"))
  t_is_table : GxR.TabB base C.mg (He.codeOf C.K ("is_table", none)) (He.tabOf C.K (He.codeOf C.K ("is_table", none)))
  p_is_table : He.tabOf C.K (He.codeOf C.K ("is_table", none)) ∈ C.T
  d_is_game_road : ∃ fd, FunD C.K "is_game_road" "is_game_road" (defArgs s_is_game_road) (defBody s_is_game_road) (defScope s_is_game_road) [] [] (He.ga C.K "is_game_road") fd
  g_is_game_road : C.mg "is_game_road" = some (.ref (He.ga C.K "is_game_road"))
  t_is_game_road : GxR.TabB base C.mg (He.codeOf C.K ("is_game_road", none)) (He.tabOf C.K (He.codeOf C.K ("is_game_road", none)))
  p_is_game_road : He.tabOf C.K (He.codeOf C.K ("is_game_road", none)) ∈ C.T
  d_all_ways : ∃ fd, FunD C.K "all_ways" "all_ways" (defArgs s_all_ways) (defBody s_all_ways) (defScope s_all_ways) [] [] (He.ga C.K "all_ways") fd
  g_all_ways : C.mg "all_ways" = some (.ref (He.ga C.K "all_ways"))
  d_net_of : ∃ fd, FunD C.K "net_of" "net_of" (defArgs s_net_of) (defBody s_net_of) (defScope s_net_of) [] [] (He.ga C.K "net_of") fd
  g_net_of : C.mg "net_of" = some (.ref (He.ga C.K "net_of"))
  d_is_player : ∃ fd, FunD C.K "is_player" "is_player" (defArgs s_is_player) (defBody s_is_player) (defScope s_is_player) [] [] (He.ga C.K "is_player") fd
  g_is_player : C.mg "is_player" = some (.ref (He.ga C.K "is_player"))
  t_is_player : GxR.TabB base C.mg (He.codeOf C.K ("is_player", none)) (He.tabOf C.K (He.codeOf C.K ("is_player", none)))
  p_is_player : He.tabOf C.K (He.codeOf C.K ("is_player", none)) ∈ C.T
  d_need_game : ∃ fd, FunD C.K "need_game" "need_game" (defArgs s_need_game) (defBody s_need_game) (defScope s_need_game) [] [] (He.ga C.K "need_game") fd
  g_need_game : C.mg "need_game" = some (.ref (He.ga C.K "need_game"))
  d_is_state : ∃ fd, FunD C.K "is_state" "is_state" (defArgs s_is_state) (defBody s_is_state) (defScope s_is_state) [] [] (He.ga C.K "is_state") fd
  g_is_state : C.mg "is_state" = some (.ref (He.ga C.K "is_state"))
  t_is_state : GxR.TabB base C.mg (He.codeOf C.K ("is_state", none)) (He.tabOf C.K (He.codeOf C.K ("is_state", none)))
  p_is_state : He.tabOf C.K (He.codeOf C.K ("is_state", none)) ∈ C.T
  d_choices_of : ∃ fd, FunD C.K "choices_of" "choices_of" (defArgs s_choices_of) (defBody s_choices_of) (defScope s_choices_of) [] [] (He.ga C.K "choices_of") fd
  g_choices_of : C.mg "choices_of" = some (.ref (He.ga C.K "choices_of"))
  t_choices_of : GxR.TabB base C.mg (He.codeOf C.K ("choices_of", none)) (He.tabOf C.K (He.codeOf C.K ("choices_of", none)))
  p_choices_of : He.tabOf C.K (He.codeOf C.K ("choices_of", none)) ∈ C.T
  d_need_state : ∃ fd, FunD C.K "need_state" "need_state" (defArgs s_need_state) (defBody s_need_state) (defScope s_need_state) [] [] (He.ga C.K "need_state") fd
  g_need_state : C.mg "need_state" = some (.ref (He.ga C.K "need_state"))
  d_loads_of : ∃ fd, FunD C.K "loads_of" "loads_of" (defArgs s_loads_of) (defBody s_loads_of) (defScope s_loads_of) [] [] (He.ga C.K "loads_of") fd
  g_loads_of : C.mg "loads_of" = some (.ref (He.ga C.K "loads_of"))
  t_loads_of : GxR.TabB base C.mg (He.codeOf C.K ("loads_of", none)) (He.tabOf C.K (He.codeOf C.K ("loads_of", none)))
  p_loads_of : He.tabOf C.K (He.codeOf C.K ("loads_of", none)) ∈ C.T
  d_time_in : ∃ fd, FunD C.K "time_in" "time_in" (defArgs s_time_in) (defBody s_time_in) (defScope s_time_in) [] [] (He.ga C.K "time_in") fd
  g_time_in : C.mg "time_in" = some (.ref (He.ga C.K "time_in"))
  t_time_in : GxR.TabB base C.mg (He.codeOf C.K ("time_in", none)) (He.tabOf C.K (He.codeOf C.K ("time_in", none)))
  p_time_in : He.tabOf C.K (He.codeOf C.K ("time_in", none)) ∈ C.T
  d_steps_in : ∃ fd, FunD C.K "steps_in" "steps_in" (defArgs s_steps_in) (defBody s_steps_in) (defScope s_steps_in) [] [] (He.ga C.K "steps_in") fd
  g_steps_in : C.mg "steps_in" = some (.ref (He.ga C.K "steps_in"))
  d_ones : ∃ fd, FunD C.K "ones" "ones" (defArgs s_ones) (defBody s_ones) (defScope s_ones) [] [] (He.ga C.K "ones") fd
  g_ones : C.mg "ones" = some (.ref (He.ga C.K "ones"))
  d_walk_to_standing : ∃ fd, FunD C.K "walk_to_standing" "walk_to_standing" (defArgs s_walk_to_standing) (defBody s_walk_to_standing) (defScope s_walk_to_standing) [] [] (He.ga C.K "walk_to_standing") fd
  g_walk_to_standing : C.mg "walk_to_standing" = some (.ref (He.ga C.K "walk_to_standing"))
  d_law_player_time : ∃ fd, FunD C.K "_law_player_time" "_law_player_time" (defArgs s_law_player_time) (defBody s_law_player_time) (defScope s_law_player_time) [] [] (He.ga C.K "_law_player_time") fd
  g_law_player_time : C.mg "_law_player_time" = some (.ref (He.ga C.K "_law_player_time"))
  d_law_steps : ∃ fd, FunD C.K "_law_steps" "_law_steps" (defArgs s_law_steps) (defBody s_law_steps) (defScope s_law_steps) [] [] (He.ga C.K "_law_steps") fd
  g_law_steps : C.mg "_law_steps" = some (.ref (He.ga C.K "_law_steps"))
  d_law_is_walk : ∃ fd, FunD C.K "_law_is_walk" "_law_is_walk" (defArgs s_law_is_walk) (defBody s_law_is_walk) (defScope s_law_is_walk) [] [] (He.ga C.K "_law_is_walk") fd
  g_law_is_walk : C.mg "_law_is_walk" = some (.ref (He.ga C.K "_law_is_walk"))
  d_law_alike : ∃ fd, FunD C.K "_law_alike" "_law_alike" (defArgs s_law_alike) (defBody s_law_alike) (defScope s_law_alike) [] [] (He.ga C.K "_law_alike") fd
  g_law_alike : C.mg "_law_alike" = some (.ref (He.ga C.K "_law_alike"))
  d_is_step : ∃ fd, FunD C.K "is_step" "is_step" (defArgs s_is_step) (defBody s_is_step) (defScope s_is_step) [] [] (He.ga C.K "is_step") fd
  g_is_step : C.mg "is_step" = some (.ref (He.ga C.K "is_step"))
  t_is_step : GxR.TabB base C.mg (He.codeOf C.K ("is_step", none)) (He.tabOf C.K (He.codeOf C.K ("is_step", none)))
  p_is_step : He.tabOf C.K (He.codeOf C.K ("is_step", none)) ∈ C.T
  d_shows_walk : ∃ fd, FunD C.K "shows_walk" "shows_walk" (defArgs s_shows_walk) (defBody s_shows_walk) (defScope s_shows_walk) [] [] (He.ga C.K "shows_walk") fd
  g_shows_walk : C.mg "shows_walk" = some (.ref (He.ga C.K "shows_walk"))
  d_law : ∃ fd, FunD C.K "law" "law" (defArgs s_law) (defBody s_law) (defScope s_law) [] [] (He.ga C.K "law") fd
  g_law : C.mg "law" = some (.ref (He.ga C.K "law"))
  b_all : C.mg "all" = none
  b_any : C.mg "any" = none
  b_bool : C.mg "bool" = none
  b_enumerate : C.mg "enumerate" = none
  b_int : C.mg "int" = none
  b_isinstance : C.mg "isinstance" = none
  b_len : C.mg "len" = none
  b_list : C.mg "list" = none
  b_max : C.mg "max" = none
  b_range : C.mg "range" = none
  b_sorted : C.mg "sorted" = none
  b_str : C.mg "str" = none
  b_sum : C.mg "sum" = none
  b_tuple : C.mg "tuple" = none
  b_zip : C.mg "zip" = none
  i_MOST_CHOICES : ∃ t, C.mg "MOST_CHOICES" = some (.int 8 t)
  i_MOST_COST : ∃ t, C.mg "MOST_COST" = some (.int 1000 t)
  i_MOST_NODES : ∃ t, C.mg "MOST_NODES" = some (.int 6 t)
  i_MOST_PLAYERS : ∃ t, C.mg "MOST_PLAYERS" = some (.int 4 t)
  i_MOST_ROADS : ∃ t, C.mg "MOST_ROADS" = some (.int 8 t)
  i_MOST_STATES : ∃ t, C.mg "MOST_STATES" = some (.int 1000 t)
theorem Tp.wob {C : Cs} {base : Heap} (T : Tp C base) (o : Ob) : Tp (C.wob o) base := ⟨T.d_law_taken, T.g_law_taken, T.d_law_pick, T.g_law_pick, T.d_law_table, T.g_law_table, T.d_law_game_ways, T.g_law_game_ways, T.d_law_game, T.g_law_game, T.d_law_states, T.g_law_states, T.d_is_in, T.g_is_in, T.d_is_table, T.g_is_table, T.t_is_table, T.p_is_table, T.d_is_game_road, T.g_is_game_road, T.t_is_game_road, T.p_is_game_road, T.d_all_ways, T.g_all_ways, T.d_net_of, T.g_net_of, T.d_is_player, T.g_is_player, T.t_is_player, T.p_is_player, T.d_need_game, T.g_need_game, T.d_is_state, T.g_is_state, T.t_is_state, T.p_is_state, T.d_choices_of, T.g_choices_of, T.t_choices_of, T.p_choices_of, T.d_need_state, T.g_need_state, T.d_loads_of, T.g_loads_of, T.t_loads_of, T.p_loads_of, T.d_time_in, T.g_time_in, T.t_time_in, T.p_time_in, T.d_steps_in, T.g_steps_in, T.d_ones, T.g_ones, T.d_walk_to_standing, T.g_walk_to_standing, T.d_law_player_time, T.g_law_player_time, T.d_law_steps, T.g_law_steps, T.d_law_is_walk, T.g_law_is_walk, T.d_law_alike, T.g_law_alike, T.d_is_step, T.g_is_step, T.t_is_step, T.p_is_step, T.d_shows_walk, T.g_shows_walk, T.d_law, T.g_law, T.b_all, T.b_any, T.b_bool, T.b_enumerate, T.b_int, T.b_isinstance, T.b_len, T.b_list, T.b_max, T.b_range, T.b_sorted, T.b_str, T.b_sum, T.b_tuple, T.b_zip, T.i_MOST_CHOICES, T.i_MOST_COST, T.i_MOST_NODES, T.i_MOST_PLAYERS, T.i_MOST_ROADS, T.i_MOST_STATES⟩

theorem n_law_taken {P : Program} {w : World} {C : Cs} {base : Heap} (T : Tp C base) : Dn P w C base "_law_taken" 2 1 (f_law_taken C) := by
  obtain ⟨fd, F⟩ := T.d_law_taken
  have gi := T.b_int
  have gl := T.b_len
  exact Dn.taken F sc_law_taken T.g_law_taken (fun _ _ _ _ _ _ us hl => match us, hl with | [_, _], _ => rfl) fun cdv A outer s H E =>
    (pss_cons (ps_if (pt_cmpR op_gt (pe_ix ix_seq (pv 0) pe_int (fun _ _ => rfl)) pe_int (nomark _)) (pss_cons (ps_set (i := 2) sc_law_taken.nd rfl (.inl rfl) (pe_op op_mod (pe_callTy call_int1 rfl gi (by decide +kernel) (pa_cons (pe_ix ix_seq (pv 0) pe_int (fun _ _ => rfl)) pa_nil)) (pv 1))) (pss_cons (ps_asg (pe_op op_fdivW (pe_ix ix_seq (pv 0) pe_int (fun _ _ => rfl)) (pv 1)) (pg_sub (pv 0) pe_int set_list)) (pss_one (ps_ret (pv 2))))) pss_nil)
    (pss_cons (ps_asg (pe_op op_add (pe_ix ix_seq (pv 0) pe_int (fun _ _ => rfl)) pe_int) (pg_sub (pv 0) pe_int set_list))
    (pss_cons (ps_if (pt_cmpR op_gt (pe_ix ix_seq (pv 0) pe_int (fun _ _ => rfl)) (pe_callB call_len rfl gl boot_len (pa_cons (pe_ix ix_seq (pv 0) pe_int (fun _ _ => rfl)) pa_nil)) (nomark _)) (pss_cons (ps_asg (pe_op op_mod (pe_callTy call_int1 rfl gi (by decide +kernel) (pa_cons (pe_op op_add (pe_op op_mulW (pe_ix ix_seq (pv 0) pe_int (fun _ _ => rfl)) pe_int) pe_int) pa_nil)) pe_int) (pg_sub (pv 0) pe_int set_list)) (pss_one (ps_ret (pe_op op_mod (pe_callTy call_int1 rfl gi (by decide +kernel) (pa_cons (pe_op op_fdivW (pe_ix ix_seq (pv 0) pe_int (fun _ _ => rfl)) pe_int) pa_nil)) (pv 1))))) pss_nil)
    (pss_cons (ps_set (i := 3) sc_law_taken.nd rfl (.inl rfl) (pe_ix ix_seq (pe_ix ix_seq (pv 0) pe_int (fun _ _ => rfl)) (pe_op op_sub (pe_ix ix_seq (pv 0) pe_int (fun _ _ => rfl)) pe_int) (fun _ _ => rfl)))
    (pss_cons (ps_asg (pe_op op_mod (pe_callTy call_int1 rfl gi (by decide +kernel) (pa_cons (pe_op op_add (pe_op op_add (pe_op op_mulW (pe_ix ix_seq (pv 0) pe_int (fun _ _ => rfl)) pe_int) (pv 3)) pe_int) pa_nil)) pe_int) (pg_sub (pv 0) pe_int set_list))
    (pss_cons (ps_if (pt_cmpR op_ge (pv 3) (pe_op op_pow pe_int pe_int) (nomark _)) (pss_one (ps_asg (pe_op op_fdivW (pv 3) (pv 1)) (pg_sub (pv 0) pe_int set_list))) pss_nil)
    (pss_one (ps_ret (pe_op op_mod (pe_callTy call_int1 rfl gi (by decide +kernel) (pa_cons (pv 3) pa_nil)) (pv 1))))))))))

theorem n_law_pick {P : Program} {w : World} {C : Cs} {base : Heap} (T : Tp C base) : Dn P w C base "_law_pick" 2 2 (f_law_pick C) := by
  obtain ⟨fd, F⟩ := T.d_law_pick
  exact Dn.mk' F sc_law_pick T.g_law_pick rfl (fun _ _ _ _ _ _ us hl => match us, hl with | [_, _], _ => rfl) fun A outer s H E hr =>
    (dss_one (ds_ret (de_ix rfl (de_v (i := 1) rfl (.inl rfl)) (de_callN rfl rfl takesN (n_law_taken T) hr (by decide) rfl (da_trk (i := 0) rfl (.inl rfl) (da_cons (de_callB call_len on_len rfl T.b_len boot_len (da_cons (de_v (i := 1) rfl (.inl rfl)) da_nil)) da_nil))) (fun _ _ => rfl))))

theorem n_law_table {P : Program} {w : World} {C : Cs} {base : Heap} (T : Tp C base) : Dn P w C base "_law_table" 3 3 (f_law_table C) := by
  obtain ⟨fd, F⟩ := T.d_law_table
  exact Dn.mk' F sc_law_table T.g_law_table rfl (fun _ _ _ _ _ _ us hl => match us, hl with | [_, _, _], _ => rfl) fun A outer s H E hr =>
    (dss_cons (ds_parDDO (i := 3) (j := 4) (l := 5) (by decide) (by decide) (by decide) (by exact (de_callN rfl rfl takesN (n_law_pick T) hr (by decide) rfl (da_trk (i := 0) rfl (.inl rfl) (da_cons (de_lst (da_cons de_int (da_cons de_int (da_cons de_int (da_cons de_int da_nil))))) da_nil)))) (by exact (de_callN rfl rfl takesN (n_law_pick T) hr (by decide) rfl (da_trk (i := 0) rfl (.inl rfl) (da_cons (de_lst (da_cons de_int (da_cons de_int (da_cons de_int (da_cons de_int da_nil))))) da_nil)))) (by exact (dn_lst da_nil)) (fun _ ha => ps_par3c (i := 3) (j := 4) (l := 5) rfl sc_law_table.nd rfl rfl rfl (.inr rfl) (.inr rfl) (.inl rfl) ha rfl)) (dss_cons (ds_if (dt_tru rfl (de_v (i := 2) rfl (.inl rfl))) (dss_one (ds_ret (de_callTy call_tuple_of on_tuple rfl T.b_tuple (by decide +kernel) (da_cons (de_dn (dn_lc (own := [("_law_k", 6)]) (ix := [6]) rfl sc_law_table.nd (di_range1 rfl T.b_range (de_v (i := 1) rfl (.inl rfl))) (blkOk_by (by kernel_rfl)) (by decide +kernel) (fun _ _ _ _ _ => (dg_name (i := 6) sc_law_table.nd rfl (.inl rfl))) (fun _ _ _ _ _ => dts_nil) (fun _ _ _ _ _ => (de_add rfl (de_mul (de_v (i := 3) rfl (.inr (.inl rfl))) (de_add rfl (de_v (i := 6) rfl (.inl rfl)) de_int)) (de_v (i := 4) rfl (.inr (.inl rfl))))))) da_nil)))) dss_nil) (dss_cons (ds_for ownsN rfl (di_range1 rfl T.b_range (de_v (i := 1) rfl (.inl rfl))) (dg_name (i := 6) sc_law_table.nd rfl (.inl rfl)) (dss_cons (ds_set (i := 4) sc_law_table.nd rfl (.inr rfl) (de_add rfl (de_v (i := 4) rfl (.inr (.inl rfl))) (de_callN rfl rfl takesN (n_law_pick T) hr (by decide) rfl (da_trk (i := 0) rfl (.inl rfl) (da_cons (de_lst (da_cons de_int (da_cons de_int (da_cons de_int (da_cons de_int (da_cons de_int da_nil)))))) da_nil))))) (dss_one (ds_app (i := 5) rfl (.inl rfl) (de_v (i := 4) rfl (.inr (.inl rfl))) (hp := fun t h => pe_bm PySem.F.plainAttrs_list PySem.F.slot_list_append PySem.F.type_list_append mt_append (pe_var (i := 5) rfl (.inl rfl)) h))))) (dss_fz 5 (dss_one (ds_ret (de_callTy call_tuple_of on_tuple rfl T.b_tuple (by decide +kernel) (da_cons (de_v (i := 5) rfl (.inl rfl)) da_nil))))))))

theorem n_law_game_ways {P : Program} {w : World} {C : Cs} {base : Heap} (T : Tp C base) : Dn P w C base "_law_game_ways" 2 2 (f_law_game_ways) := by
  obtain ⟨fd, F⟩ := T.d_law_game_ways
  exact Dn.mk' F sc_law_game_ways T.g_law_game_ways rfl (fun _ _ _ _ _ _ us hl => match us, hl with | [_, _], _ => rfl) fun A outer s H E hr =>
    (dss_cons (ds_par (i := 2) (j := 3) rfl sc_law_game_ways.nd rfl rfl (by decide) rfl rfl (by exact (da_cons (de_lst da_nil) (da_cons (de_lst (da_cons (de_tup (da_cons (de_tup da_nil) (da_cons (de_tup (da_cons (de_ix rfl (de_v (i := 1) rfl (.inr (.inl rfl))) de_int (fun _ _ => rfl)) da_nil)) da_nil))) da_nil)) da_nil))) rfl) (dss_fz 3 (dss_cons (ds_for ownsN rfl (di_range1 rfl T.b_range (de_ix rfl (de_v (i := 0) rfl (.inl rfl)) de_int (fun _ _ => rfl))) (dg_name (i := 4) sc_law_game_ways.nd rfl (.inl rfl)) (dss_cons (ds_setO (i := 5) sc_law_game_ways.nd rfl (.inl rfl) (dn_lst da_nil)) (dss_fz 3 (dss_cons (ds_for ownsN rfl (di_seq rfl (de_v (i := 3) rfl (.inl rfl))) (dg_tup rfl rfl (dgs_cons (dg_name (i := 6) sc_law_game_ways.nd rfl (.inl rfl)) (dgs_cons (dg_name (i := 7) sc_law_game_ways.nd rfl (.inl rfl)) dgs_nil))) (dss_one (ds_for ownsN rfl (di_range1 rfl T.b_range (de_callB call_len on_len rfl T.b_len boot_len (da_cons (de_ix rfl (de_v (i := 0) rfl (.inl rfl)) de_int (fun _ _ => rfl)) da_nil))) (dg_name (i := 8) sc_law_game_ways.nd rfl (.inl rfl)) (dss_one (ds_if (dw_dt (dw_and (dt_eq rfl hr (de_ix rfl (de_ix rfl (de_ix rfl (de_v (i := 0) rfl (.inl rfl)) de_int (fun _ _ => rfl)) (de_v (i := 8) rfl (.inl rfl)) (fun _ _ => rfl)) de_int (fun _ _ => rfl)) (de_ix rfl (de_v (i := 7) rfl (.inl rfl)) (de_neg de_int) (fun _ _ => rfl))) (dw_and1 (dt_notInA rfl hr rfl (de_ix rfl (de_ix rfl (de_ix rfl (de_v (i := 0) rfl (.inl rfl)) de_int (fun _ _ => rfl)) (de_v (i := 8) rfl (.inl rfl)) (fun _ _ => rfl)) de_int (fun _ _ => rfl)) (de_v (i := 7) rfl (.inl rfl)))))) (dss_one (ds_app (i := 5) rfl (.inl rfl) (de_tup (da_cons (de_add rfl (de_v (i := 6) rfl (.inl rfl)) (de_tup (da_cons (de_v (i := 8) rfl (.inl rfl)) da_nil))) (da_cons (de_add rfl (de_v (i := 7) rfl (.inl rfl)) (de_tup (da_cons (de_ix rfl (de_ix rfl (de_ix rfl (de_v (i := 0) rfl (.inl rfl)) de_int (fun _ _ => rfl)) (de_v (i := 8) rfl (.inl rfl)) (fun _ _ => rfl)) de_int (fun _ _ => rfl)) da_nil))) da_nil))) (hp := fun t h => pe_bm PySem.F.plainAttrs_list PySem.F.slot_list_append PySem.F.type_list_append mt_append (pe_var (i := 5) rfl (.inl rfl)) h))) dss_nil))))) (dss_fz 5 (dss_cons (ds_set (i := 2) sc_law_game_ways.nd rfl (.inl rfl) (de_add rfl (de_v (i := 2) rfl (.inl rfl)) (de_dn (dn_lc (own := [("_law_way", 6), ("_law_nodes", 7)]) (ix := [6, 7]) rfl sc_law_game_ways.nd (di_seq rfl (de_v (i := 5) rfl (.inl rfl))) (blkOk_by (by kernel_rfl)) (by decide +kernel) (fun _ _ _ _ _ => (dg_tup rfl rfl (dgs_cons (dg_name (i := 6) sc_law_game_ways.nd rfl (.inl rfl)) (dgs_cons (dg_name (i := 7) sc_law_game_ways.nd rfl (.inl rfl)) dgs_nil)))) (fun _ _ _ _ _ => (dts_one (dt_eq rfl hr (de_ix rfl (de_v (i := 7) rfl (.inl rfl)) (de_neg de_int) (fun _ _ => rfl)) (de_ix rfl (de_v (i := 1) rfl (.inr (.inl rfl))) de_int (fun _ _ => rfl))))) (fun _ _ _ _ _ => (de_v (i := 6) rfl (.inl rfl))))))) (dss_fz 5 (dss_one (setLc (i := 3) (own := [("_law_one", 9)]) (ix := [9]) rfl sc_law_game_ways.nd rfl rfl rfl (di_seq rfl (de_v (i := 5) rfl (.inl rfl))) (blkOk_by (by kernel_rfl)) (by decide +kernel) (fun _ _ _ _ _ => (dg_name (i := 9) sc_law_game_ways.nd rfl (.inl rfl))) (fun _ _ _ _ _ => (dts_one (dt_ne rfl hr (de_ix rfl (de_ix rfl (de_v (i := 9) rfl (.inl rfl)) de_int (fun _ _ => rfl)) (de_neg de_int) (fun _ _ => rfl)) (de_ix rfl (de_v (i := 1) rfl (.inr (.inl rfl))) de_int (fun _ _ => rfl))))) (fun _ _ _ _ _ => (de_v (i := 9) rfl (.inl rfl)))))))))))) (dss_one (ds_ret (de_callB (cr_sortedB (Room.units hr)) on_sortedB rfl T.b_sorted (by decide +kernel) (da_cons (de_v (i := 2) rfl (.inl rfl)) da_nil)))))))

theorem n_law_game {P : Program} {w : World} {C : Cs} {base : Heap} (T : Tp C base) : Dn P w C base "_law_game" 4 4 (f_law_game C) := by
  obtain ⟨fd, F⟩ := T.d_law_game
  exact Dn.mk' F sc_law_game T.g_law_game rfl (fun _ _ _ _ _ _ us hl => match us, hl with | [_, _, _, _], _ => rfl) fun A outer s H E hr =>
    (dss_cons (ds_set (i := 4) sc_law_game.nd rfl (.inl rfl) (de_add rfl de_int (de_callN rfl rfl takesN (n_law_taken T) hr (by decide) rfl (da_trk (i := 0) rfl (.inl rfl) (da_cons de_int da_nil))))) (dss_cons (ds_setO (i := 5) sc_law_game.nd rfl (.inl rfl) (dn_lst (da_cons (de_tup (da_cons de_int (da_cons (de_sub (de_v (i := 4) rfl (.inl rfl)) de_int) (da_cons (de_callN rfl rfl takesN (n_law_table T) hr (by decide) rfl (da_trk (i := 0) rfl (.inl rfl) (da_cons (de_v (i := 2) rfl (.inl rfl)) (da_cons (de_v (i := 3) rfl (.inl rfl)) da_nil)))) da_nil)))) da_nil))) (dss_cons (ds_if (dt_gt (de_v (i := 4) rfl (.inl rfl)) de_int) (dss_one (ds_setO (i := 5) sc_law_game.nd rfl (.inl rfl) (dn_lst (da_cons (de_tup (da_cons de_int (da_cons de_int (da_cons (de_callN rfl rfl takesN (n_law_table T) hr (by decide) rfl (da_trk (i := 0) rfl (.inl rfl) (da_cons (de_v (i := 2) rfl (.inl rfl)) (da_cons (de_v (i := 3) rfl (.inl rfl)) da_nil)))) da_nil)))) (da_cons (de_tup (da_cons de_int (da_cons (de_sub (de_v (i := 4) rfl (.inl rfl)) de_int) (da_cons (de_callN rfl rfl takesN (n_law_table T) hr (by decide) rfl (da_trk (i := 0) rfl (.inl rfl) (da_cons (de_v (i := 2) rfl (.inl rfl)) (da_cons (de_v (i := 3) rfl (.inl rfl)) da_nil)))) da_nil)))) da_nil))))) dss_nil) (dss_cons (ds_for ownsN rfl (di_range1 rfl T.b_range (de_add rfl de_int (de_callN rfl rfl takesN (n_law_taken T) hr (by decide) rfl (da_trk (i := 0) rfl (.inl rfl) (da_cons de_int da_nil))))) (dg_name (i := 6) sc_law_game.nd rfl (.inl rfl)) (dss_cons (ds_set (i := 7) sc_law_game.nd rfl (.inl rfl) (de_callN rfl rfl takesN (n_law_taken T) hr (by decide) rfl (da_trk (i := 0) rfl (.inl rfl) (da_cons (de_v (i := 4) rfl (.inl rfl)) da_nil)))) (dss_one (ds_app (i := 5) rfl (.inl rfl) (de_tup (da_cons (de_v (i := 7) rfl (.inl rfl)) (da_cons (de_mod (de_callTy (call_int1.or call_int_str) on_int rfl T.b_int (by decide +kernel) (da_cons (de_add rfl (de_add rfl (de_v (i := 7) rfl (.inl rfl)) de_int) (de_callN rfl rfl takesN (n_law_taken T) hr (by decide) rfl (da_trk (i := 0) rfl (.inl rfl) (da_cons (de_sub (de_v (i := 4) rfl (.inl rfl)) de_int) da_nil)))) da_nil)) (de_v (i := 4) rfl (.inl rfl))) (da_cons (de_callN rfl rfl takesN (n_law_table T) hr (by decide) rfl (da_trk (i := 0) rfl (.inl rfl) (da_cons (de_v (i := 2) rfl (.inl rfl)) (da_cons (de_v (i := 3) rfl (.inl rfl)) da_nil)))) da_nil)))) (hp := fun t h => pe_bm PySem.F.plainAttrs_list PySem.F.slot_list_append PySem.F.type_list_append mt_append (pe_var (i := 5) rfl (.inl rfl)) h))))) (dss_cons (ds_setO (i := 8) sc_law_game.nd rfl (.inl rfl) (dn_lst da_nil)) (dss_fz 5 (dss_cons (ds_for ownsN rfl (di_range1 rfl T.b_range (de_v (i := 1) rfl (.inl rfl))) (dg_name (i := 9) sc_law_game.nd rfl (.inl rfl)) (dss_cons (ds_set (i := 7) sc_law_game.nd rfl (.inl rfl) (de_callN rfl rfl takesN (n_law_taken T) hr (by decide) rfl (da_trk (i := 0) rfl (.inl rfl) (da_cons (de_v (i := 4) rfl (.inl rfl)) da_nil)))) (dss_cons (ds_set (i := 10) sc_law_game.nd rfl (.inl rfl) (de_tup (da_cons (de_v (i := 7) rfl (.inl rfl)) (da_cons (de_mod (de_callTy (call_int1.or call_int_str) on_int rfl T.b_int (by decide +kernel) (da_cons (de_add rfl (de_add rfl (de_v (i := 7) rfl (.inl rfl)) de_int) (de_callN rfl rfl takesN (n_law_taken T) hr (by decide) rfl (da_trk (i := 0) rfl (.inl rfl) (da_cons (de_sub (de_v (i := 4) rfl (.inl rfl)) de_int) da_nil)))) da_nil)) (de_v (i := 4) rfl (.inl rfl))) da_nil)))) (dss_fz 5 (dss_cons (ds_set (i := 11) sc_law_game.nd rfl (.inl rfl) (de_ne rfl hr (de_callN rfl rfl takesN (n_law_game_ways T) hr (by decide) rfl (da_cons (de_tup (da_cons (de_v (i := 4) rfl (.inl rfl)) (da_cons (de_callTy call_tuple_of on_tuple rfl T.b_tuple (by decide +kernel) (da_cons (de_v (i := 5) rfl (.inl rfl)) da_nil)) da_nil))) (da_cons (de_v (i := 10) rfl (.inl rfl)) da_nil))) (de_lst da_nil))) (dss_one (ds_app (i := 8) rfl (.inl rfl) (de_if (dw_dt (dw_and (dt_tru rfl (de_v (i := 11) rfl (.inl rfl))) (dw_and1 (dt_eq rfl hr (de_callN rfl rfl takesN (n_law_taken T) hr (by decide) rfl (da_trk (i := 0) rfl (.inl rfl) (da_cons de_int da_nil))) de_int)))) (de_v (i := 10) rfl (.inl rfl)) (de_tup (da_cons de_int (da_cons (de_sub (de_v (i := 4) rfl (.inl rfl)) de_int) da_nil)))) (hp := fun t h => pe_bm PySem.F.plainAttrs_list PySem.F.slot_list_append PySem.F.type_list_append mt_append (pe_var (i := 8) rfl (.inl rfl)) h)))))))) (dss_fz 5 (dss_fz 8 (dss_one (ds_ret (de_tup (da_cons (de_v (i := 4) rfl (.inl rfl)) (da_cons (de_callTy call_tuple_of on_tuple rfl T.b_tuple (by decide +kernel) (da_cons (de_v (i := 5) rfl (.inl rfl)) da_nil)) (da_cons (de_callTy call_tuple_of on_tuple rfl T.b_tuple (by decide +kernel) (da_cons (de_v (i := 8) rfl (.inl rfl)) da_nil)) da_nil)))))))))))))))

theorem n_law_states {P : Program} {w : World} {C : Cs} {base : Heap} (T : Tp C base) : Dn P w C base "_law_states" 1 3 (f_law_states) := by
  obtain ⟨fd, F⟩ := T.d_law_states
  exact Dn.mk' F sc_law_states T.g_law_states rfl (fun _ _ _ _ _ _ us hl => match us, hl with | [_], _ => rfl) fun A outer s H E hr =>
    (dss_cons (ds_par (i := 1) (j := 2) rfl sc_law_states.nd rfl rfl (by decide) rfl rfl (by exact (da_cons (de_dn (dn_lc (own := [("_law_player", 3)]) (ix := [3]) rfl sc_law_states.nd (di_seq rfl (de_ix rfl (de_v (i := 0) rfl (.inr (.inl rfl))) de_int (fun _ _ => rfl))) (blkOk_by (by kernel_rfl)) (by decide +kernel) (fun _ _ _ _ _ => (dg_name (i := 3) sc_law_states.nd rfl (.inl rfl))) (fun _ _ _ _ _ => dts_nil) (fun _ _ _ _ _ => (de_callN rfl rfl takes0 (n_law_game_ways T) hr (by decide) rfl (da_cons (de_v (i := 0) rfl (.inr (.inl rfl))) (da_cons (de_v (i := 3) rfl (.inl rfl)) da_nil)))))) (da_cons (de_lst (da_cons (de_tup da_nil) da_nil)) da_nil))) rfl) (dss_cons (ds_if (dt_gt (de_callB (cr_maxD rfl (Room.units hr)) on_maxA rfl T.b_max (by decide +kernel) (da_cons (de_dn (dn_lc (own := [("_law_one", 4)]) (ix := [4]) rfl sc_law_states.nd (di_seq rfl (de_v (i := 1) rfl (.inl rfl))) (blkOk_by (by kernel_rfl)) (by decide +kernel) (fun _ _ _ _ _ => (dg_name (i := 4) sc_law_states.nd rfl (.inl rfl))) (fun _ _ _ _ _ => dts_nil) (fun _ _ _ _ _ => (de_callB call_len on_len rfl T.b_len boot_len (da_cons (de_v (i := 4) rfl (.inl rfl)) da_nil))))) da_nil)) de_int) (dss_one (ds_ret de_non)) dss_nil) (dss_cons (ds_for ownsN rfl (di_seq rfl (de_v (i := 1) rfl (.inl rfl))) (dg_name (i := 5) sc_law_states.nd rfl (.inl rfl)) (dss_cons (ds_set (i := 6) sc_law_states.nd rfl (.inl rfl) (de_lst da_nil)) (dss_cons (ds_for ownsN rfl (di_seq rfl (de_v (i := 2) rfl (.inl rfl))) (dg_name (i := 4) sc_law_states.nd rfl (.inr rfl)) (dss_one (ds_set (i := 6) sc_law_states.nd rfl (.inl rfl) (de_add rfl (de_v (i := 6) rfl (.inl rfl)) (de_dn (dn_lc (own := [("_law_way", 7)]) (ix := [7]) rfl sc_law_states.nd (di_seq rfl (de_v (i := 5) rfl (.inl rfl))) (blkOk_by (by kernel_rfl)) (by decide +kernel) (fun _ _ _ _ _ => (dg_name (i := 7) sc_law_states.nd rfl (.inl rfl))) (fun _ _ _ _ _ => dts_nil) (fun _ _ _ _ _ => (de_add rfl (de_v (i := 4) rfl (.inr (.inl rfl))) (de_tup (da_cons (de_v (i := 7) rfl (.inl rfl)) da_nil)))))))))) (dss_one (ds_set (i := 2) sc_law_states.nd rfl (.inl rfl) (de_v (i := 6) rfl (.inl rfl))))))) (dss_one (ds_ret (de_if (dt_le (de_callB call_len on_len rfl T.b_len boot_len (da_cons (de_v (i := 2) rfl (.inl rfl)) da_nil)) de_int) (de_v (i := 2) rfl (.inl rfl)) de_non))))))

theorem n_is_in {P : Program} {w : World} {C : Cs} {base : Heap} (T : Tp C base) : Dn P w C base "is_in" 3 2 (f_is_in) := by
  obtain ⟨fd, F⟩ := T.d_is_in
  exact Dn.mk' F sc_is_in T.g_is_in rfl (fun _ _ _ _ _ _ us hl => match us, hl with | [_, _, _], _ => rfl) fun A outer s H E hr =>
    (dss_one (ds_ret (de_and rfl (de_isi rfl rfl T.b_isinstance rfl T.b_int (by decide +kernel) (de_v (i := 0) rfl (.inl rfl))) (de_and rfl (de_not rfl (de_isi rfl rfl T.b_isinstance rfl T.b_bool (by decide +kernel) (de_v (i := 0) rfl (.inl rfl)))) (de_one (de_chain op_le (o2_0 fun _ _ _ => .bl _) op_le (o2_0 fun _ _ _ => .bl _) (de_v (i := 1) rfl (.inl rfl)) (de_v (i := 0) rfl (.inl rfl)) (de_v (i := 2) rfl (.inl rfl))))))))

theorem n_is_table {P : Program} {w : World} {C : Cs} {base : Heap} (T : Tp C base) : Dn P w C base "is_table" 2 4 (f_is_table) := by
  obtain ⟨fd, F⟩ := T.d_is_table
  exact Dn.mk' F sc_is_table T.g_is_table rfl (fun _ _ _ _ _ _ us hl => match us, hl with | [_, _], _ => rfl) fun A outer s H E hr =>
    (dss_cons (ds_if (dw_dt (dw_or (dt_not (dt_tru rfl (de_isi rfl rfl T.b_isinstance rfl T.b_tuple (by decide +kernel) (de_v (i := 0) rfl (.inr (.inl rfl)))))) (dw_or (dt_ne rfl hr (de_callB call_len on_len rfl T.b_len boot_len (da_cons (de_v (i := 0) rfl (.inr (.inl rfl))) da_nil)) (de_v (i := 1) rfl (.inl rfl))) (dw_or1 (dt_not (dt_tru rfl (de_allG (own := [("one", 2)]) (ix := [2]) hr rfl T.b_all T.t_is_table T.p_is_table rfl ⟨blkOk_by (by kernel_rfl), rfl, by decide +kernel, rfl⟩ (by decide +kernel) sc_is_table.nd (di_seq rfl (de_v (i := 0) rfl (.inr (.inl rfl)))) (fun _ _ _ _ _ _ => (dg_name (i := 2) sc_is_table.nd rfl (.inl rfl))) (fun _ _ _ _ _ _ => dts_nil) (fun _ _ _ _ _ _ => (de_callN rfl rfl takes0 (n_is_in T) (roomG hr) (by decide) rfl (da_cons (de_v (i := 2) rfl (.inl rfl)) (da_cons de_int (da_cons (de_globI rfl T.i_MOST_COST) da_nil)))))))))))) (dss_one (ds_ret de_bl)) dss_nil) (dss_one (ds_ret (de_allG (own := [("k", 3)]) (ix := [3]) hr rfl T.b_all T.t_is_table T.p_is_table rfl ⟨blkOk_by (by kernel_rfl), rfl, by decide +kernel, rfl⟩ (by decide +kernel) sc_is_table.nd (di_range1 rfl T.b_range (de_sub (de_v (i := 1) rfl (.inl rfl)) de_int)) (fun _ _ _ _ _ _ => (dg_name (i := 3) sc_is_table.nd rfl (.inl rfl))) (fun _ _ _ _ _ _ => dts_nil) (fun _ _ _ _ _ _ => (de_le (de_ix rfl (de_v (i := 0) rfl (.inr (.inr rfl))) (de_v (i := 3) rfl (.inl rfl)) (fun _ _ => rfl)) (de_ix rfl (de_v (i := 0) rfl (.inr (.inr rfl))) (de_add rfl (de_v (i := 3) rfl (.inl rfl)) de_int) (fun _ _ => rfl))))))))

theorem n_is_game_road {P : Program} {w : World} {C : Cs} {base : Heap} (T : Tp C base) : Dn P w C base "is_game_road" 3 5 (f_is_game_road) := by
  obtain ⟨fd, F⟩ := T.d_is_game_road
  exact Dn.mk' F sc_is_game_road T.g_is_game_road rfl (fun _ _ _ _ _ _ us hl => match us, hl with | [_, _, _], _ => rfl) fun A outer s H E hr =>
    (dss_cons (ds_if (dw_dt (dw_or (dt_not (dt_tru rfl (de_isi rfl rfl T.b_isinstance rfl T.b_tuple (by decide +kernel) (de_v (i := 2) rfl (.inl rfl))))) (dw_or (dt_ne rfl hr (de_callB call_len on_len rfl T.b_len boot_len (da_cons (de_v (i := 2) rfl (.inl rfl)) da_nil)) de_int) (dw_or1 (dt_not (dt_tru rfl (de_callN rfl rfl takesN (n_is_table T) hr (by decide) rfl (da_cons (de_ix rfl (de_v (i := 2) rfl (.inl rfl)) de_int (fun _ _ => rfl)) (da_cons (de_v (i := 1) rfl (.inl rfl)) da_nil))))))))) (dss_one (ds_ret de_bl)) dss_nil) (dss_one (ds_ret (de_and rfl (de_allG (own := [("one", 3)]) (ix := [3]) hr rfl T.b_all T.t_is_game_road T.p_is_game_road rfl ⟨blkOk_by (by kernel_rfl), rfl, by decide +kernel, rfl⟩ (by decide +kernel) sc_is_game_road.nd (di_seq rfl (de_slice rfl (de_v (i := 2) rfl (.inl rfl)) do_none (do_some de_int))) (fun _ _ _ _ _ _ => (dg_name (i := 3) sc_is_game_road.nd rfl (.inl rfl))) (fun _ _ _ _ _ _ => dts_nil) (fun _ _ _ _ _ _ => (de_callN rfl rfl takes0 (n_is_in T) (roomG hr) (by decide) rfl (da_cons (de_v (i := 3) rfl (.inl rfl)) (da_cons de_int (da_cons (de_sub (de_v (i := 0) rfl (.inr (.inr rfl))) de_int) da_nil)))))) (de_one (de_ne rfl hr (de_ix rfl (de_v (i := 2) rfl (.inl rfl)) de_int (fun _ _ => rfl)) (de_ix rfl (de_v (i := 2) rfl (.inl rfl)) de_int (fun _ _ => rfl))))))))

theorem n_all_ways {P : Program} {w : World} {C : Cs} {base : Heap} (T : Tp C base) : Dn P w C base "all_ways" 3 2 (f_all_ways) := by
  obtain ⟨fd, F⟩ := T.d_all_ways
  exact Dn.mk' F sc_all_ways T.g_all_ways rfl (fun _ _ _ _ _ _ us hl => match us, hl with | [_, _, _], _ => rfl) fun A outer s H E hr =>
    (dss_cons (ds_parOD (i := 3) (j := 4) rfl sc_all_ways.nd rfl rfl (by decide) rfl rfl (by exact (dn_lst da_nil)) (by exact (de_lst (da_cons (de_tup (da_cons (de_tup da_nil) (da_cons (de_tup (da_cons (de_v (i := 1) rfl (.inl rfl)) da_nil)) da_nil))) da_nil))) rfl) (dss_cons (ds_while ownsN (dt_tru rfl (de_v (i := 4) rfl (.inl rfl))) (dss_cons (ds_setO (i := 5) sc_all_ways.nd rfl (.inl rfl) (dn_lst da_nil)) (dss_cons (ds_for ownsN rfl (di_seq rfl (de_v (i := 4) rfl (.inl rfl))) (dg_tup rfl rfl (dgs_cons (dg_name (i := 6) sc_all_ways.nd rfl (.inl rfl)) (dgs_cons (dg_name (i := 7) sc_all_ways.nd rfl (.inl rfl)) dgs_nil))) (dss_one (ds_for ownsN rfl (di_enum rfl rfl T.b_enumerate (de_ix rfl (de_v (i := 0) rfl (.inl rfl)) de_int (fun _ _ => rfl))) (dg_tup rfl rfl (dgs_cons (dg_name (i := 8) sc_all_ways.nd rfl (.inl rfl)) (dgs_cons (dg_name (i := 9) sc_all_ways.nd rfl (.inl rfl)) dgs_nil))) (dss_one (ds_if (dw_dt (dw_and (dt_eq rfl hr (de_ix rfl (de_v (i := 9) rfl (.inl rfl)) de_int (fun _ _ => rfl)) (de_ix rfl (de_v (i := 7) rfl (.inl rfl)) (de_neg de_int) (fun _ _ => rfl))) (dw_and1 (dt_notInA rfl hr rfl (de_ix rfl (de_v (i := 9) rfl (.inl rfl)) de_int (fun _ _ => rfl)) (de_v (i := 7) rfl (.inl rfl)))))) (dss_one (ds_if (dt_eq rfl hr (de_ix rfl (de_v (i := 9) rfl (.inl rfl)) de_int (fun _ _ => rfl)) (de_v (i := 2) rfl (.inl rfl))) (dss_one (ds_app (i := 3) rfl (.inl rfl) (de_tup (da_star rfl (de_v (i := 6) rfl (.inl rfl)) (da_cons (de_v (i := 8) rfl (.inl rfl)) da_nil))) (hp := fun t h => pe_bm PySem.F.plainAttrs_list PySem.F.slot_list_append PySem.F.type_list_append mt_append (pe_var (i := 3) rfl (.inl rfl)) h))) (dss_one (ds_app (i := 5) rfl (.inl rfl) (de_tup (da_cons (de_tup (da_star rfl (de_v (i := 6) rfl (.inl rfl)) (da_cons (de_v (i := 8) rfl (.inl rfl)) da_nil))) (da_cons (de_tup (da_star rfl (de_v (i := 7) rfl (.inl rfl)) (da_cons (de_ix rfl (de_v (i := 9) rfl (.inl rfl)) de_int (fun _ _ => rfl)) da_nil))) da_nil))) (hp := fun t h => pe_bm PySem.F.plainAttrs_list PySem.F.slot_list_append PySem.F.type_list_append mt_append (pe_var (i := 5) rfl (.inl rfl)) h))))) dss_nil))))) (dss_fz 5 (dss_one (ds_set (i := 4) sc_all_ways.nd rfl (.inl rfl) (de_v (i := 5) rfl (.inl rfl)))))))) (dss_fz 3 (dss_one (ds_ret (de_callB (cr_sortedB (Room.units hr)) on_sortedB rfl T.b_sorted (by decide +kernel) (da_cons (de_v (i := 3) rfl (.inl rfl)) da_nil)))))))

theorem n_net_of {P : Program} {w : World} {C : Cs} {base : Heap} (T : Tp C base) : Dn P w C base "net_of" 1 2 (f_net_of) := by
  obtain ⟨fd, F⟩ := T.d_net_of
  exact Dn.mk' F sc_net_of T.g_net_of rfl (fun _ _ _ _ _ _ us hl => match us, hl with | [_], _ => rfl) fun A outer s H E hr =>
    (dss_one (ds_ret (de_tup (da_cons (de_ix rfl (de_v (i := 0) rfl (.inl rfl)) de_int (fun _ _ => rfl)) (da_cons (de_callTy call_tuple_of on_tuple rfl T.b_tuple (by decide +kernel) (da_cons (de_dn (dn_lc (own := [("start", 1), ("end", 2), ("costs", 3)]) (ix := [1, 2, 3]) rfl sc_net_of.nd (di_seq rfl (de_ix rfl (de_v (i := 0) rfl (.inl rfl)) de_int (fun _ _ => rfl))) (blkOk_by (by kernel_rfl)) (by decide +kernel) (fun _ _ _ _ _ => (dg_tup rfl rfl (dgs_cons (dg_name (i := 1) sc_net_of.nd rfl (.inl rfl)) (dgs_cons (dg_name (i := 2) sc_net_of.nd rfl (.inl rfl)) (dgs_cons (dg_name (i := 3) sc_net_of.nd rfl (.inl rfl)) dgs_nil))))) (fun _ _ _ _ _ => dts_nil) (fun _ _ _ _ _ => (de_tup (da_cons (de_v (i := 1) rfl (.inl rfl)) (da_cons (de_v (i := 2) rfl (.inl rfl)) (da_cons de_int (da_cons de_int da_nil)))))))) da_nil)) da_nil)))))

theorem n_is_player {P : Program} {w : World} {C : Cs} {base : Heap} (T : Tp C base) : Dn P w C base "is_player" 2 4 (f_is_player) := by
  obtain ⟨fd, F⟩ := T.d_is_player
  exact Dn.mk' F sc_is_player T.g_is_player rfl (fun _ _ _ _ _ _ us hl => match us, hl with | [_, _], _ => rfl) fun A outer s H E hr =>
    (dss_cons (ds_if (dw_dt (dw_or (dt_not (dt_tru rfl (de_isi rfl rfl T.b_isinstance rfl T.b_tuple (by decide +kernel) (de_v (i := 1) rfl (.inl rfl))))) (dw_or (dt_ne rfl hr (de_callB call_len on_len rfl T.b_len boot_len (da_cons (de_v (i := 1) rfl (.inl rfl)) da_nil)) de_int) (dw_or1 (dt_not (dt_tru rfl (de_allG (own := [("one", 2)]) (ix := [2]) hr rfl T.b_all T.t_is_player T.p_is_player rfl ⟨blkOk_by (by kernel_rfl), rfl, by decide +kernel, rfl⟩ (by decide +kernel) sc_is_player.nd (di_seq rfl (de_v (i := 1) rfl (.inl rfl))) (fun _ _ _ _ _ _ => (dg_name (i := 2) sc_is_player.nd rfl (.inl rfl))) (fun _ _ _ _ _ _ => dts_nil) (fun _ _ _ _ _ _ => (de_callN rfl rfl takes0 (n_is_in T) (roomG hr) (by decide) rfl (da_cons (de_v (i := 2) rfl (.inl rfl)) (da_cons de_int (da_cons (de_sub (de_ix rfl (de_v (i := 0) rfl (.inr (.inr rfl))) de_int (fun _ _ => rfl)) de_int) da_nil)))))))))))) (dss_one (ds_ret de_bl)) dss_nil) (dss_one (ds_ret (de_and rfl (de_ne rfl hr (de_ix rfl (de_v (i := 1) rfl (.inl rfl)) de_int (fun _ _ => rfl)) (de_ix rfl (de_v (i := 1) rfl (.inl rfl)) de_int (fun _ _ => rfl))) (de_one (de_callTy call_boolL on_boolL rfl T.b_bool (by decide +kernel) (da_cons (de_callN rfl rfl takesN (n_all_ways T) hr (by decide) rfl (da_cons (de_callN rfl rfl takesN (n_net_of T) hr (by decide) rfl (da_cons (de_v (i := 0) rfl (.inr (.inl rfl))) da_nil)) (da_cons (de_ix rfl (de_v (i := 1) rfl (.inl rfl)) de_int (fun _ _ => rfl)) (da_cons (de_ix rfl (de_v (i := 1) rfl (.inl rfl)) de_int (fun _ _ => rfl)) da_nil)))) da_nil)))))))

theorem n_need_game {P : Program} {w : World} {C : Cs} {base : Heap} (T : Tp C base) : Dn P w C base "need_game" 2 6 (f_need_game) := by
  obtain ⟨fd, F⟩ := T.d_need_game
  exact Dn.mk' F sc_need_game T.g_need_game rfl (fun _ _ _ _ _ _ us hl => match us, hl with | [_, _], _ => rfl) fun A outer s H E hr =>
    (dss_cons (ds_if (dw_dt (dw_or (dt_not (dt_tru rfl (de_isi rfl rfl T.b_isinstance rfl T.b_tuple (by decide +kernel) (de_v (i := 0) rfl (.inl rfl))))) (dw_or (dt_ne rfl hr (de_callB call_len on_len rfl T.b_len boot_len (da_cons (de_v (i := 0) rfl (.inl rfl)) da_nil)) de_int) (dw_or1 (dt_not (dt_tru rfl (de_callN rfl rfl takesN (n_is_in T) hr (by decide) rfl (da_cons (de_ix rfl (de_v (i := 0) rfl (.inl rfl)) de_int (fun _ _ => rfl)) (da_cons de_int (da_cons (de_globI rfl T.i_MOST_NODES) da_nil)))))))))) (dss_one ds_never) dss_nil) (dss_cons (ds_if (dw_dt (dw_or (dt_not (dt_tru rfl (de_isi rfl rfl T.b_isinstance rfl T.b_tuple (by decide +kernel) (de_ix rfl (de_v (i := 0) rfl (.inl rfl)) de_int (fun _ _ => rfl))))) (dw_or1 (dt_not (dt_chain op_le (o2_0 fun _ _ _ => .bl _) op_le (o2_0 fun _ _ _ => .bl _) de_int (de_callB call_len on_len rfl T.b_len boot_len (da_cons (de_ix rfl (de_v (i := 0) rfl (.inl rfl)) de_int (fun _ _ => rfl)) da_nil)) (de_globI rfl T.i_MOST_ROADS)))))) (dss_one ds_never) dss_nil) (dss_cons (ds_if (dw_dt (dw_or (dt_not (dt_tru rfl (de_isi rfl rfl T.b_isinstance rfl T.b_tuple (by decide +kernel) (de_ix rfl (de_v (i := 0) rfl (.inl rfl)) de_int (fun _ _ => rfl))))) (dw_or1 (dt_not (dt_chain op_le (o2_0 fun _ _ _ => .bl _) op_le (o2_0 fun _ _ _ => .bl _) de_int (de_callB call_len on_len rfl T.b_len boot_len (da_cons (de_ix rfl (de_v (i := 0) rfl (.inl rfl)) de_int (fun _ _ => rfl)) da_nil)) (de_globI rfl T.i_MOST_PLAYERS)))))) (dss_one ds_never) dss_nil) (dss_cons (ds_for ownsN rfl (di_enum rfl rfl T.b_enumerate (de_ix rfl (de_v (i := 0) rfl (.inl rfl)) de_int (fun _ _ => rfl))) (dg_tup rfl rfl (dgs_cons (dg_name (i := 2) sc_need_game.nd rfl (.inl rfl)) (dgs_cons (dg_name (i := 3) sc_need_game.nd rfl (.inl rfl)) dgs_nil))) (dss_one (ds_if (dt_not (dt_tru rfl (de_callN rfl rfl takesN (n_is_game_road T) hr (by decide) rfl (da_cons (de_ix rfl (de_v (i := 0) rfl (.inl rfl)) de_int (fun _ _ => rfl)) (da_cons (de_if (dt_is (de_v (i := 1) rfl (.inl rfl)) de_non) (de_callB call_len on_len rfl T.b_len boot_len (da_cons (de_ix rfl (de_v (i := 0) rfl (.inl rfl)) de_int (fun _ _ => rfl)) da_nil)) (de_v (i := 1) rfl (.inl rfl))) (da_cons (de_v (i := 3) rfl (.inl rfl)) da_nil)))))) (dss_one ds_never) dss_nil))) (dss_one (ds_for ownsN rfl (di_enum rfl rfl T.b_enumerate (de_ix rfl (de_v (i := 0) rfl (.inl rfl)) de_int (fun _ _ => rfl))) (dg_tup rfl rfl (dgs_cons (dg_name (i := 2) sc_need_game.nd rfl (.inl rfl)) (dgs_cons (dg_name (i := 3) sc_need_game.nd rfl (.inl rfl)) dgs_nil))) (dss_one (ds_if (dt_not (dt_tru rfl (de_callN rfl rfl takesN (n_is_player T) hr (by decide) rfl (da_cons (de_v (i := 0) rfl (.inl rfl)) (da_cons (de_v (i := 3) rfl (.inl rfl)) da_nil))))) (dss_one ds_never) dss_nil))))))))

theorem n_is_state {P : Program} {w : World} {C : Cs} {base : Heap} (T : Tp C base) : Dn P w C base "is_state" 2 4 (f_is_state) := by
  obtain ⟨fd, F⟩ := T.d_is_state
  exact Dn.mk' F sc_is_state T.g_is_state rfl (fun _ _ _ _ _ _ us hl => match us, hl with | [_, _], _ => rfl) fun A outer s H E hr =>
    (dss_cons (ds_if (dw_dt (dw_or (dt_not (dt_tru rfl (de_isi rfl rfl T.b_isinstance rfl T.b_tuple (by decide +kernel) (de_v (i := 1) rfl (.inl rfl))))) (dw_or1 (dt_ne rfl hr (de_callB call_len on_len rfl T.b_len boot_len (da_cons (de_v (i := 1) rfl (.inl rfl)) da_nil)) (de_callB call_len on_len rfl T.b_len boot_len (da_cons (de_ix rfl (de_v (i := 0) rfl (.inl rfl)) de_int (fun _ _ => rfl)) da_nil)))))) (dss_one (ds_ret de_bl)) dss_nil) (dss_cons (ds_for ownsN rfl (di_zip rfl rfl T.b_zip (de_ix rfl (de_v (i := 0) rfl (.inl rfl)) de_int (fun _ _ => rfl)) (de_v (i := 1) rfl (.inl rfl))) (dg_tup rfl rfl (dgs_cons (dg_tup rfl rfl (dgs_cons (dg_name (i := 2) sc_is_state.nd rfl (.inl rfl)) (dgs_cons (dg_name (i := 3) sc_is_state.nd rfl (.inl rfl)) dgs_nil))) (dgs_cons (dg_name (i := 4) sc_is_state.nd rfl (.inl rfl)) dgs_nil))) (dss_cons (ds_if (dw_dt (dw_or (dt_not (dt_tru rfl (de_isi rfl rfl T.b_isinstance rfl T.b_tuple (by decide +kernel) (de_v (i := 4) rfl (.inl rfl))))) (dw_or1 (dt_not (dt_tru rfl (de_allG (own := [("one", 5)]) (ix := [5]) hr rfl T.b_all T.t_is_state T.p_is_state rfl ⟨blkOk_by (by kernel_rfl), rfl, by decide +kernel, rfl⟩ (by decide +kernel) sc_is_state.nd (di_seq rfl (de_v (i := 4) rfl (.inl rfl))) (fun _ _ _ _ _ _ => (dg_name (i := 5) sc_is_state.nd rfl (.inl rfl))) (fun _ _ _ _ _ _ => dts_nil) (fun _ _ _ _ _ _ => (de_callN rfl rfl takes0 (n_is_in T) (roomG hr) (by decide) rfl (da_cons (de_v (i := 5) rfl (.inl rfl)) (da_cons de_int (da_cons (de_globI rfl T.i_MOST_ROADS) da_nil))))))))))) (dss_one (ds_ret de_bl)) dss_nil) (dss_one (ds_if (dt_notInA rfl hr rfl (de_v (i := 4) rfl (.inl rfl)) (de_callN rfl rfl takesN (n_all_ways T) hr (by decide) rfl (da_cons (de_callN rfl rfl takesN (n_net_of T) hr (by decide) rfl (da_cons (de_v (i := 0) rfl (.inl rfl)) da_nil)) (da_cons (de_v (i := 2) rfl (.inl rfl)) (da_cons (de_v (i := 3) rfl (.inl rfl)) da_nil))))) (dss_one (ds_ret de_bl)) dss_nil)))) (dss_one (ds_ret de_bl))))

theorem n_choices_of {P : Program} {w : World} {C : Cs} {base : Heap} (T : Tp C base) : Dn P w C base "choices_of" 1 3 (f_choices_of) := by
  obtain ⟨fd, F⟩ := T.d_choices_of
  exact Dn.mk' F sc_choices_of T.g_choices_of rfl (fun _ _ _ _ _ _ us hl => match us, hl with | [_], _ => rfl) fun A outer s H E hr =>
    (dss_cons (ds_parDOD (i := 1) (j := 2) (l := 3) (by decide) (by decide) (by decide) (by exact (de_callN rfl rfl takesN (n_net_of T) hr (by decide) rfl (da_cons (de_v (i := 0) rfl (.inl rfl)) da_nil))) (by exact (dn_lst da_nil)) (by exact de_int) (fun _ ha => ps_par3 (i := 1) (j := 2) (l := 3) rfl sc_choices_of.nd rfl rfl rfl (by decide) (by decide) (by decide) rfl rfl rfl ha rfl)) (dss_cons (ds_for ownsN rfl (di_seq rfl (de_ix rfl (de_v (i := 0) rfl (.inl rfl)) de_int (fun _ _ => rfl))) (dg_tup rfl rfl (dgs_cons (dg_name (i := 4) sc_choices_of.nd rfl (.inl rfl)) (dgs_cons (dg_name (i := 5) sc_choices_of.nd rfl (.inl rfl)) dgs_nil))) (dss_one (ds_app (i := 2) rfl (.inl rfl) (de_callN rfl rfl takesN (n_all_ways T) hr (by decide) rfl (da_cons (de_v (i := 1) rfl (.inl rfl)) (da_cons (de_v (i := 4) rfl (.inl rfl)) (da_cons (de_v (i := 5) rfl (.inl rfl)) da_nil)))) (hp := fun t h => pe_bm PySem.F.plainAttrs_list PySem.F.slot_list_append PySem.F.type_list_append mt_append (pe_var (i := 2) rfl (.inl rfl)) h)))) (dss_fz 2 (dss_cons (ds_if (dt_tru rfl (de_anyG (own := [("ways", 6)]) (ix := [6]) hr rfl T.b_any T.t_choices_of T.p_choices_of rfl ⟨blkOk_by (by kernel_rfl), rfl, by decide +kernel, rfl⟩ (by decide +kernel) sc_choices_of.nd (di_seq rfl (de_v (i := 2) rfl (.inl rfl))) (fun _ _ _ _ _ _ => (dg_name (i := 6) sc_choices_of.nd rfl (.inl rfl))) (fun _ _ _ _ _ _ => dts_nil) (fun _ _ _ _ _ _ => (de_gt (de_callB call_len on_len rfl T.b_len boot_len (da_cons (de_v (i := 6) rfl (.inl rfl)) da_nil)) (de_globI rfl T.i_MOST_CHOICES))))) (dss_one ds_never) dss_nil) (dss_fz 2 (dss_cons (ds_for ownsN rfl (di_seq rfl (de_v (i := 2) rfl (.inl rfl))) (dg_name (i := 6) sc_choices_of.nd rfl (.inl rfl)) (dss_one (ds_set (i := 3) sc_choices_of.nd rfl (.inl rfl) (de_mul (de_v (i := 3) rfl (.inl rfl)) (de_callB call_len on_len rfl T.b_len boot_len (da_cons (de_v (i := 6) rfl (.inl rfl)) da_nil)))))) (dss_cons (ds_if (dt_gt (de_v (i := 3) rfl (.inl rfl)) (de_globI rfl T.i_MOST_STATES)) (dss_one ds_never) dss_nil) (dss_fz 2 (dss_one (ds_ret (de_v (i := 2) rfl (.inl rfl))))))))))))

theorem n_need_state {P : Program} {w : World} {C : Cs} {base : Heap} (T : Tp C base) : Dn P w C base "need_state" 2 7 (f_need_state) := by
  obtain ⟨fd, F⟩ := T.d_need_state
  exact Dn.mk' F sc_need_state T.g_need_state rfl (fun _ _ _ _ _ _ us hl => match us, hl with | [_, _], _ => rfl) fun A outer s H E hr =>
    (dss_cons (ds_expr (de_callN rfl rfl takesN (n_need_game T) hr (by decide) rfl (da_cons (de_v (i := 0) rfl (.inl rfl)) (da_cons de_non da_nil)))) (dss_cons (ds_if (dt_not (dt_tru rfl (de_callN rfl rfl takesN (n_is_state T) hr (by decide) rfl (da_cons (de_v (i := 0) rfl (.inl rfl)) (da_cons (de_v (i := 1) rfl (.inl rfl)) da_nil))))) (dss_one ds_never) dss_nil) (dss_one (ds_expr (de_callN rfl rfl takesN (n_choices_of T) hr (by decide) rfl (da_cons (de_v (i := 0) rfl (.inl rfl)) da_nil))))))

theorem n_loads_of {P : Program} {w : World} {C : Cs} {base : Heap} (T : Tp C base) : Dn P w C base "loads_of" 3 3 (f_loads_of) := by
  obtain ⟨fd, F⟩ := T.d_loads_of
  exact Dn.mk' F sc_loads_of T.g_loads_of rfl (fun _ _ _ _ _ _ us hl => match us, hl with | [_, _, _], _ => rfl) fun A outer s H E hr =>
    (dss_one (ds_ret (de_dn (dn_lc (own := [("index", 5)]) (ix := [5]) rfl sc_loads_of.nd (di_range1 rfl T.b_range (de_callB call_len on_len rfl T.b_len boot_len (da_cons (de_ix rfl (de_v (i := 0) rfl (.inl rfl)) de_int (fun _ _ => rfl)) da_nil))) (blkOk_by (by kernel_rfl)) (by decide +kernel) (fun _ _ _ _ _ => (dg_name (i := 5) sc_loads_of.nd rfl (.inr rfl))) (fun _ _ _ _ _ => dts_nil) (fun _ _ _ _ _ => (de_sumG (own := [("way", 3), ("weight", 4)]) (ix := [3, 4]) hr rfl T.b_sum T.t_loads_of T.p_loads_of rfl ⟨blkOk_by (by kernel_rfl), rfl, by decide +kernel, rfl⟩ (by decide +kernel) sc_loads_of.nd (di_zip rfl rfl T.b_zip (de_v (i := 1) rfl (.inr (.inl rfl))) (de_v (i := 2) rfl (.inr (.inl rfl)))) (fun _ _ _ _ _ _ => (dg_tup rfl rfl (dgs_cons (dg_name (i := 3) sc_loads_of.nd rfl (.inl rfl)) (dgs_cons (dg_name (i := 4) sc_loads_of.nd rfl (.inl rfl)) dgs_nil)))) (fun _ _ _ _ _ _ => (dts_one (dt_inA rfl (roomG hr) rfl (de_v (i := 5) rfl (.inr (.inr rfl))) (de_v (i := 3) rfl (.inl rfl))))) (fun _ _ _ _ _ _ => (de_v (i := 4) rfl (.inl rfl)))))))))

theorem n_time_in {P : Program} {w : World} {C : Cs} {base : Heap} (T : Tp C base) : Dn P w C base "time_in" 4 4 (f_time_in) := by
  obtain ⟨fd, F⟩ := T.d_time_in
  exact Dn.mk' F sc_time_in T.g_time_in rfl (fun _ _ _ _ _ _ us hl => match us, hl with | [_, _, _, _], _ => rfl) fun A outer s H E hr =>
    (dss_cons (ds_set (i := 4) sc_time_in.nd rfl (.inr rfl) (de_callN rfl rfl takesN (n_loads_of T) hr (by decide) rfl (da_cons (de_v (i := 0) rfl (.inr (.inl rfl))) (da_cons (de_v (i := 1) rfl (.inl rfl)) (da_cons (de_v (i := 2) rfl (.inl rfl)) da_nil))))) (dss_one (ds_ret (de_sumG (own := [("index", 5)]) (ix := [5]) hr rfl T.b_sum T.t_time_in T.p_time_in rfl ⟨blkOk_by (by kernel_rfl), rfl, by decide +kernel, rfl⟩ (by decide +kernel) sc_time_in.nd (di_seq rfl (de_ix rfl (de_v (i := 1) rfl (.inl rfl)) (de_v (i := 3) rfl (.inl rfl)) (fun _ _ => rfl))) (fun _ _ _ _ _ _ => (dg_name (i := 5) sc_time_in.nd rfl (.inl rfl))) (fun _ _ _ _ _ _ => dts_nil) (fun _ _ _ _ _ _ => (de_ix rfl (de_ix rfl (de_ix rfl (de_ix rfl (de_v (i := 0) rfl (.inr (.inr rfl))) de_int (fun _ _ => rfl)) (de_v (i := 5) rfl (.inl rfl)) (fun _ _ => rfl)) de_int (fun _ _ => rfl)) (de_sub (de_ix rfl (de_v (i := 4) rfl (.inr (.inr rfl))) (de_v (i := 5) rfl (.inl rfl)) (fun _ _ => rfl)) de_int) (fun _ _ => rfl)))))))

theorem n_steps_in {P : Program} {w : World} {C : Cs} {base : Heap} (T : Tp C base) : Dn P w C base "steps_in" 4 5 (f_steps_in) := by
  obtain ⟨fd, F⟩ := T.d_steps_in
  exact Dn.mk' F sc_steps_in T.g_steps_in rfl (fun _ _ _ _ _ _ us hl => match us, hl with | [_, _, _, _], _ => rfl) fun A outer s H E hr =>
    (dss_cons (ds_setO (i := 4) sc_steps_in.nd rfl (.inl rfl) (dn_lst da_nil)) (dss_cons (ds_for ownsN rfl (di_enum rfl rfl T.b_enumerate (de_v (i := 1) rfl (.inl rfl))) (dg_tup rfl rfl (dgs_cons (dg_name (i := 5) sc_steps_in.nd rfl (.inl rfl)) (dgs_cons (dg_name (i := 6) sc_steps_in.nd rfl (.inl rfl)) dgs_nil))) (dss_cons (ds_set (i := 7) sc_steps_in.nd rfl (.inl rfl) (de_callN rfl rfl takesN (n_time_in T) hr (by decide) rfl (da_cons (de_v (i := 0) rfl (.inl rfl)) (da_cons (de_v (i := 2) rfl (.inl rfl)) (da_cons (de_v (i := 3) rfl (.inl rfl)) (da_cons (de_v (i := 5) rfl (.inl rfl)) da_nil)))))) (dss_one (ds_for ownsN rfl (di_seq rfl (de_v (i := 6) rfl (.inl rfl))) (dg_name (i := 8) sc_steps_in.nd rfl (.inl rfl)) (dss_cons (ds_set (i := 9) sc_steps_in.nd rfl (.inl rfl) (de_tup (da_star rfl (de_slice rfl (de_v (i := 2) rfl (.inl rfl)) do_none (do_some (de_v (i := 5) rfl (.inl rfl)))) (da_cons (de_v (i := 8) rfl (.inl rfl)) (da_star rfl (de_slice rfl (de_v (i := 2) rfl (.inl rfl)) (do_some (de_add rfl (de_v (i := 5) rfl (.inl rfl)) de_int)) do_none) da_nil))))) (dss_one (ds_if (dt_lt (de_callN rfl rfl takesN (n_time_in T) hr (by decide) rfl (da_cons (de_v (i := 0) rfl (.inl rfl)) (da_cons (de_v (i := 9) rfl (.inl rfl)) (da_cons (de_v (i := 3) rfl (.inl rfl)) (da_cons (de_v (i := 5) rfl (.inl rfl)) da_nil))))) (de_v (i := 7) rfl (.inl rfl))) (dss_one (ds_app (i := 4) rfl (.inl rfl) (de_tup (da_cons (de_v (i := 5) rfl (.inl rfl)) (da_cons (de_v (i := 8) rfl (.inl rfl)) da_nil))) (hp := fun t h => pe_bm PySem.F.plainAttrs_list PySem.F.slot_list_append PySem.F.type_list_append mt_append (pe_var (i := 4) rfl (.inl rfl)) h))) dss_nil))))))) (dss_fz 4 (dss_one (ds_ret (de_v (i := 4) rfl (.inl rfl)))))))

theorem n_ones {P : Program} {w : World} {C : Cs} {base : Heap} (T : Tp C base) : Dn P w C base "ones" 1 2 (f_ones) := by
  obtain ⟨fd, F⟩ := T.d_ones
  exact Dn.mk' F sc_ones T.g_ones rfl (fun _ _ _ _ _ _ us hl => match us, hl with | [_], _ => rfl) fun A outer s H E hr =>
    (dss_one (ds_ret (de_callTy call_tuple_of on_tuple rfl T.b_tuple (by decide +kernel) (da_cons (de_dn (dn_lc (own := [("player", 1)]) (ix := [1]) rfl sc_ones.nd (di_seq rfl (de_ix rfl (de_v (i := 0) rfl (.inl rfl)) de_int (fun _ _ => rfl))) (blkOk_by (by kernel_rfl)) (by decide +kernel) (fun _ _ _ _ _ => (dg_name (i := 1) sc_ones.nd rfl (.inl rfl))) (fun _ _ _ _ _ => dts_nil) (fun _ _ _ _ _ => de_int))) da_nil))))

theorem n_walk_to_standing {P : Program} {w : World} {C : Cs} {base : Heap} (T : Tp C base) : Dn P w C base "walk_to_standing" 2 8 (f_walk_to_standing) := by
  obtain ⟨fd, F⟩ := T.d_walk_to_standing
  exact Dn.mk' F sc_walk_to_standing T.g_walk_to_standing rfl (fun _ _ _ _ _ _ us hl => match us, hl with | [_, _], _ => rfl) fun A outer s H E hr =>
    (dss_cons (ds_expr (de_callN rfl rfl takesN (n_need_state T) hr (by decide) rfl (da_cons (de_v (i := 0) rfl (.inl rfl)) (da_cons (de_v (i := 1) rfl (.inl rfl)) da_nil)))) (dss_cons (ds_parDO (i := 2) (j := 3) rfl sc_walk_to_standing.nd rfl rfl (by decide) rfl rfl (by exact (de_callN rfl rfl takesN (n_choices_of T) hr (by decide) rfl (da_cons (de_v (i := 0) rfl (.inl rfl)) da_nil))) (by exact (dn_lst da_nil)) rfl) (dss_cons (ds_set (i := 4) sc_walk_to_standing.nd rfl (.inl rfl) (de_callN rfl rfl takesN (n_steps_in T) hr (by decide) rfl (da_cons (de_v (i := 0) rfl (.inl rfl)) (da_cons (de_v (i := 2) rfl (.inl rfl)) (da_cons (de_v (i := 1) rfl (.inl rfl)) (da_cons (de_callN rfl rfl takesN (n_ones T) hr (by decide) rfl (da_cons (de_v (i := 0) rfl (.inl rfl)) da_nil)) da_nil)))))) (dss_cons (ds_while ownsN (dt_tru rfl (de_v (i := 4) rfl (.inl rfl))) (dss_cons (ds_asg (de_ix rfl (de_v (i := 4) rfl (.inl rfl)) de_int (fun _ _ => rfl)) (dg_tup rfl rfl (dgs_cons (dg_name (i := 5) sc_walk_to_standing.nd rfl (.inl rfl)) (dgs_cons (dg_name (i := 6) sc_walk_to_standing.nd rfl (.inl rfl)) dgs_nil)))) (dss_cons (ds_app (i := 3) rfl (.inl rfl) (de_tup (da_cons (de_v (i := 5) rfl (.inl rfl)) (da_cons (de_v (i := 6) rfl (.inl rfl)) da_nil))) (hp := fun t h => pe_bm PySem.F.plainAttrs_list PySem.F.slot_list_append PySem.F.type_list_append mt_append (pe_var (i := 3) rfl (.inl rfl)) h)) (dss_cons (ds_set (i := 1) sc_walk_to_standing.nd rfl (.inl rfl) (de_tup (da_star rfl (de_slice rfl (de_v (i := 1) rfl (.inl rfl)) do_none (do_some (de_v (i := 5) rfl (.inl rfl)))) (da_cons (de_v (i := 6) rfl (.inl rfl)) (da_star rfl (de_slice rfl (de_v (i := 1) rfl (.inl rfl)) (do_some (de_add rfl (de_v (i := 5) rfl (.inl rfl)) de_int)) do_none) da_nil))))) (dss_one (ds_set (i := 4) sc_walk_to_standing.nd rfl (.inl rfl) (de_callN rfl rfl takesN (n_steps_in T) hr (by decide) rfl (da_cons (de_v (i := 0) rfl (.inl rfl)) (da_cons (de_v (i := 2) rfl (.inl rfl)) (da_cons (de_v (i := 1) rfl (.inl rfl)) (da_cons (de_callN rfl rfl takesN (n_ones T) hr (by decide) rfl (da_cons (de_v (i := 0) rfl (.inl rfl)) da_nil)) da_nil))))))))))) (dss_fz 3 (dss_one (ds_ret (de_callTy call_tuple_of on_tuple rfl T.b_tuple (by decide +kernel) (da_cons (de_v (i := 3) rfl (.inl rfl)) da_nil)))))))))

theorem n_law_player_time {P : Program} {w : World} {C : Cs} {base : Heap} (T : Tp C base) : Dn P w C base "_law_player_time" 4 2 (f_law_player_time) := by
  obtain ⟨fd, F⟩ := T.d_law_player_time
  exact Dn.mk' F sc_law_player_time T.g_law_player_time rfl (fun _ _ _ _ _ _ us hl => match us, hl with | [_, _, _, _], _ => rfl) fun A outer s H E hr =>
    (dss_cons (ds_set (i := 4) sc_law_player_time.nd rfl (.inl rfl) de_int) (dss_cons (ds_for ownsN rfl (di_seq rfl (de_ix rfl (de_v (i := 1) rfl (.inr (.inl rfl))) (de_v (i := 3) rfl (.inl rfl)) (fun _ _ => rfl))) (dg_name (i := 5) sc_law_player_time.nd rfl (.inr rfl)) (dss_cons (ds_set (i := 6) sc_law_player_time.nd rfl (.inl rfl) (de_callB (cr_sumA rfl) on_sumA rfl T.b_sum (by decide +kernel) (da_cons (de_dn (dn_lc (own := [("_law_j", 7)]) (ix := [7]) rfl sc_law_player_time.nd (di_range1 rfl T.b_range (de_callB call_len on_len rfl T.b_len boot_len (da_cons (de_v (i := 1) rfl (.inr (.inl rfl))) da_nil))) (blkOk_by (by kernel_rfl)) (by decide +kernel) (fun _ _ _ _ _ => (dg_name (i := 7) sc_law_player_time.nd rfl (.inl rfl))) (fun _ _ _ _ _ => (dts_one (dt_inA rfl hr rfl (de_v (i := 5) rfl (.inr (.inl rfl))) (de_ix rfl (de_v (i := 1) rfl (.inr (.inl rfl))) (de_v (i := 7) rfl (.inl rfl)) (fun _ _ => rfl))))) (fun _ _ _ _ _ => (de_ix rfl (de_v (i := 2) rfl (.inr (.inl rfl))) (de_v (i := 7) rfl (.inl rfl)) (fun _ _ => rfl))))) da_nil))) (dss_one (ds_set (i := 4) sc_law_player_time.nd rfl (.inl rfl) (de_add rfl (de_v (i := 4) rfl (.inl rfl)) (de_ix rfl (de_ix rfl (de_ix rfl (de_ix rfl (de_v (i := 0) rfl (.inl rfl)) de_int (fun _ _ => rfl)) (de_v (i := 5) rfl (.inr (.inl rfl))) (fun _ _ => rfl)) de_int (fun _ _ => rfl)) (de_sub (de_v (i := 6) rfl (.inl rfl)) de_int) (fun _ _ => rfl))))))) (dss_one (ds_ret (de_v (i := 4) rfl (.inl rfl))))))

theorem n_law_steps {P : Program} {w : World} {C : Cs} {base : Heap} (T : Tp C base) : Dn P w C base "_law_steps" 3 3 (f_law_steps) := by
  obtain ⟨fd, F⟩ := T.d_law_steps
  exact Dn.mk' F sc_law_steps T.g_law_steps rfl (fun _ _ _ _ _ _ us hl => match us, hl with | [_, _, _], _ => rfl) fun A outer s H E hr =>
    (dss_cons (ds_set (i := 3) sc_law_steps.nd rfl (.inl rfl) (de_lst da_nil)) (dss_cons (ds_for ownsN rfl (di_range1 rfl T.b_range (de_callB call_len on_len rfl T.b_len boot_len (da_cons (de_v (i := 1) rfl (.inl rfl)) da_nil))) (dg_name (i := 4) sc_law_steps.nd rfl (.inl rfl)) (dss_cons (ds_set (i := 5) sc_law_steps.nd rfl (.inl rfl) (de_callN rfl rfl takesN (n_law_player_time T) hr (by decide) rfl (da_cons (de_v (i := 0) rfl (.inl rfl)) (da_cons (de_v (i := 1) rfl (.inl rfl)) (da_cons (de_v (i := 2) rfl (.inl rfl)) (da_cons (de_v (i := 4) rfl (.inl rfl)) da_nil)))))) (dss_one (ds_for ownsN rfl (di_seq rfl (de_callN rfl rfl takesN (n_law_game_ways T) hr (by decide) rfl (da_cons (de_v (i := 0) rfl (.inl rfl)) (da_cons (de_ix rfl (de_ix rfl (de_v (i := 0) rfl (.inl rfl)) de_int (fun _ _ => rfl)) (de_v (i := 4) rfl (.inl rfl)) (fun _ _ => rfl)) da_nil)))) (dg_name (i := 6) sc_law_steps.nd rfl (.inl rfl)) (dss_cons (ds_set (i := 7) sc_law_steps.nd rfl (.inl rfl) (de_add rfl (de_add rfl (de_slice rfl (de_v (i := 1) rfl (.inl rfl)) do_none (do_some (de_v (i := 4) rfl (.inl rfl)))) (de_tup (da_cons (de_v (i := 6) rfl (.inl rfl)) da_nil))) (de_slice rfl (de_v (i := 1) rfl (.inl rfl)) (do_some (de_add rfl (de_v (i := 4) rfl (.inl rfl)) de_int)) do_none))) (dss_one (ds_set (i := 3) sc_law_steps.nd rfl (.inl rfl) (de_add rfl (de_v (i := 3) rfl (.inl rfl)) (de_mulA rfl (de_lst (da_cons (de_tup (da_cons (de_v (i := 4) rfl (.inl rfl)) (da_cons (de_v (i := 6) rfl (.inl rfl)) da_nil))) da_nil)) (de_callTy (call_int1.or call_int_str) on_int rfl T.b_int (by decide +kernel) (da_cons (de_lt (de_callN rfl rfl takesN (n_law_player_time T) hr (by decide) rfl (da_cons (de_v (i := 0) rfl (.inl rfl)) (da_cons (de_v (i := 7) rfl (.inl rfl)) (da_cons (de_v (i := 2) rfl (.inl rfl)) (da_cons (de_v (i := 4) rfl (.inl rfl)) da_nil))))) (de_v (i := 5) rfl (.inl rfl))) da_nil))))))))))) (dss_one (ds_ret (de_v (i := 3) rfl (.inl rfl))))))

theorem n_law_is_walk {P : Program} {w : World} {C : Cs} {base : Heap} (T : Tp C base) : Dn P w C base "_law_is_walk" 3 4 (f_law_is_walk) := by
  obtain ⟨fd, F⟩ := T.d_law_is_walk
  exact Dn.mk' F sc_law_is_walk T.g_law_is_walk rfl (fun _ _ _ _ _ _ us hl => match us, hl with | [_, _, _], _ => rfl) fun A outer s H E hr =>
    (dss_cons (ds_if (dt_not (dt_tru rfl (de_isi rfl rfl T.b_isinstance rfl T.b_tuple (by decide +kernel) (de_v (i := 2) rfl (.inl rfl))))) (dss_one (ds_ret de_bl)) dss_nil) (dss_cons (ds_set (i := 3) sc_law_is_walk.nd rfl (.inl rfl) (de_mulA rfl (de_tup (da_cons de_int da_nil)) (de_callB call_len on_len rfl T.b_len boot_len (da_cons (de_v (i := 1) rfl (.inl rfl)) da_nil)))) (dss_cons (ds_for ownsN rfl (di_seq rfl (de_v (i := 2) rfl (.inl rfl))) (dg_name (i := 4) sc_law_is_walk.nd rfl (.inl rfl)) (dss_cons (ds_if (dw_dt (dw_or (dt_not (dt_tru rfl (de_isi rfl rfl T.b_isinstance rfl T.b_tuple (by decide +kernel) (de_v (i := 4) rfl (.inl rfl))))) (dw_or (dt_ne rfl hr (de_callB call_len on_len rfl T.b_len boot_len (da_cons (de_v (i := 4) rfl (.inl rfl)) da_nil)) de_int) (dw_or (dt_not (dt_tru rfl (de_isi rfl rfl T.b_isinstance rfl T.b_int (by decide +kernel) (de_ix rfl (de_v (i := 4) rfl (.inl rfl)) de_int (fun _ _ => rfl))))) (dw_or1 (dt_tru rfl (de_isi rfl rfl T.b_isinstance rfl T.b_bool (by decide +kernel) (de_ix rfl (de_v (i := 4) rfl (.inl rfl)) de_int (fun _ _ => rfl))))))))) (dss_one (ds_ret de_bl)) dss_nil) (dss_cons (ds_if (dt_not (dt_tru rfl (de_isi rfl rfl T.b_isinstance rfl T.b_tuple (by decide +kernel) (de_ix rfl (de_v (i := 4) rfl (.inl rfl)) de_int (fun _ _ => rfl))))) (dss_one (ds_ret de_bl)) dss_nil) (dss_cons (ds_if (dt_ne rfl hr (de_dn (dn_lc (own := [("_law_k", 5)]) (ix := [5]) rfl sc_law_is_walk.nd (di_seq rfl (de_ix rfl (de_v (i := 4) rfl (.inl rfl)) de_int (fun _ _ => rfl))) (blkOk_by (by kernel_rfl)) (by decide +kernel) (fun _ _ _ _ _ => (dg_name (i := 5) sc_law_is_walk.nd rfl (.inl rfl))) (fun _ _ _ _ _ => (dts_one (dw_dt (dw_or (dt_not (dt_tru rfl (de_isi rfl rfl T.b_isinstance rfl T.b_int (by decide +kernel) (de_v (i := 5) rfl (.inl rfl))))) (dw_or1 (dt_tru rfl (de_isi rfl rfl T.b_isinstance rfl T.b_bool (by decide +kernel) (de_v (i := 5) rfl (.inl rfl))))))))) (fun _ _ _ _ _ => (de_v (i := 5) rfl (.inl rfl))))) (de_lst da_nil)) (dss_one (ds_ret de_bl)) dss_nil) (dss_cons (ds_if (dt_notInA rfl hr rfl (de_v (i := 4) rfl (.inl rfl)) (de_callN rfl rfl takesN (n_law_steps T) hr (by decide) rfl (da_cons (de_v (i := 0) rfl (.inl rfl)) (da_cons (de_v (i := 1) rfl (.inl rfl)) (da_cons (de_v (i := 3) rfl (.inl rfl)) da_nil))))) (dss_one (ds_ret de_bl)) dss_nil) (dss_one (ds_set (i := 1) sc_law_is_walk.nd rfl (.inl rfl) (de_add rfl (de_add rfl (de_slice rfl (de_v (i := 1) rfl (.inl rfl)) do_none (do_some (de_ix rfl (de_v (i := 4) rfl (.inl rfl)) de_int (fun _ _ => rfl)))) (de_tup (da_cons (de_ix rfl (de_v (i := 4) rfl (.inl rfl)) de_int (fun _ _ => rfl)) da_nil))) (de_slice rfl (de_v (i := 1) rfl (.inl rfl)) (do_some (de_add rfl (de_ix rfl (de_v (i := 4) rfl (.inl rfl)) de_int (fun _ _ => rfl)) de_int)) do_none))))))))) (dss_one (ds_ret (de_eq rfl hr (de_callN rfl rfl takesN (n_law_steps T) hr (by decide) rfl (da_cons (de_v (i := 0) rfl (.inl rfl)) (da_cons (de_v (i := 1) rfl (.inl rfl)) (da_cons (de_v (i := 3) rfl (.inl rfl)) da_nil)))) (de_lst da_nil)))))))

theorem n_law_alike {P : Program} {w : World} {C : Cs} {base : Heap} (T : Tp C base) : ∀ z : Nat, Dn P w C base "_law_alike" 2 (2 + z) (f_law_alike z) := by
  obtain ⟨fd, F⟩ := T.d_law_alike
  intro z
  induction z with
  | zero => exact Dn.mk' F sc_law_alike T.g_law_alike rfl (fun _ _ _ _ _ _ us hl => match us, hl with | [_, _], _ => rfl) fun A outer s H E hr => dss_never
  | succ z ih =>
    exact Dn.mk' F sc_law_alike T.g_law_alike rfl (fun _ _ _ _ _ _ us hl => match us, hl with | [_, _], _ => rfl) fun A outer s H E hr =>
      (dss_cons (ds_if (dt_tru rfl (de_isiT rfl rfl T.b_isinstance rfl T.b_tuple (by decide +kernel) rfl T.b_list (by decide +kernel) (de_v (i := 1) rfl (.inr (.inl rfl))))) (dss_cons (ds_if (dw_dt (dw_or (dt_not (dt_tru rfl (de_isiT rfl rfl T.b_isinstance rfl T.b_tuple (by decide +kernel) rfl T.b_list (by decide +kernel) (de_v (i := 0) rfl (.inr (.inl rfl)))))) (dw_or1 (dt_ne rfl hr (de_isi rfl rfl T.b_isinstance rfl T.b_list (by decide +kernel) (de_v (i := 0) rfl (.inr (.inl rfl)))) (de_isi rfl rfl T.b_isinstance rfl T.b_list (by decide +kernel) (de_v (i := 1) rfl (.inr (.inl rfl)))))))) (dss_one (ds_ret de_bl)) dss_nil) (dss_cons (ds_if (dt_ne rfl hr (de_callB call_len on_len rfl T.b_len boot_len (da_cons (de_v (i := 0) rfl (.inr (.inl rfl))) da_nil)) (de_callB call_len on_len rfl T.b_len boot_len (da_cons (de_v (i := 1) rfl (.inr (.inl rfl))) da_nil))) (dss_one (ds_ret de_bl)) dss_nil) (dss_one (ds_ret (de_eq rfl hr (de_dn (dn_lc (own := [("_law_k", 2)]) (ix := [2]) rfl sc_law_alike.nd (di_range1 rfl T.b_range (de_callB call_len on_len rfl T.b_len boot_len (da_cons (de_v (i := 1) rfl (.inr (.inl rfl))) da_nil))) (blkOk_by (by kernel_rfl)) (by decide +kernel) (fun _ _ _ _ _ => (dg_name (i := 2) sc_law_alike.nd rfl (.inl rfl))) (fun _ _ _ _ _ => (dts_one (dt_not (dt_tru rfl (de_callN rfl rfl takes0 ih hr (Nat.le_refl _) rfl (da_cons (de_ix rfl (de_v (i := 0) rfl (.inr (.inl rfl))) (de_v (i := 2) rfl (.inl rfl)) (fun _ _ => rfl)) (da_cons (de_ix rfl (de_v (i := 1) rfl (.inr (.inl rfl))) (de_v (i := 2) rfl (.inl rfl)) (fun _ _ => rfl)) da_nil))))))) (fun _ _ _ _ _ => (de_v (i := 2) rfl (.inl rfl))))) (de_lst da_nil)))))) dss_nil) (dss_cons (ds_if (dw_dt (dw_or (dt_is (de_v (i := 1) rfl (.inr (.inl rfl))) de_non) (dw_or1 (dt_tru rfl (de_isi rfl rfl T.b_isinstance rfl T.b_str (by decide +kernel) (de_v (i := 1) rfl (.inr (.inl rfl)))))))) (dss_one (ds_ret (de_and rfl (de_eq rfl hr (de_v (i := 0) rfl (.inr (.inl rfl))) (de_v (i := 1) rfl (.inr (.inl rfl)))) (de_one (de_eq rfl hr (de_isi rfl rfl T.b_isinstance rfl T.b_str (by decide +kernel) (de_v (i := 0) rfl (.inr (.inl rfl)))) (de_isi rfl rfl T.b_isinstance rfl T.b_str (by decide +kernel) (de_v (i := 1) rfl (.inr (.inl rfl))))))))) dss_nil) (dss_one (ds_ret (de_and rfl (de_isi rfl rfl T.b_isinstance rfl T.b_int (by decide +kernel) (de_v (i := 0) rfl (.inr (.inl rfl)))) (de_and rfl (de_eq rfl hr (de_isi rfl rfl T.b_isinstance rfl T.b_bool (by decide +kernel) (de_v (i := 0) rfl (.inr (.inl rfl)))) (de_isi rfl rfl T.b_isinstance rfl T.b_bool (by decide +kernel) (de_v (i := 1) rfl (.inr (.inl rfl))))) (de_one (de_eq rfl hr (de_v (i := 0) rfl (.inr (.inl rfl))) (de_v (i := 1) rfl (.inr (.inl rfl)))))))))))

theorem n_is_step {P : Program} {w : World} {C : Cs} {base : Heap} (T : Tp C base) : Dn P w C base "is_step" 2 4 (f_is_step) := by
  obtain ⟨fd, F⟩ := T.d_is_step
  exact Dn.mk' F sc_is_step T.g_is_step rfl (fun _ _ _ _ _ _ us hl => match us, hl with | [_, _], _ => rfl) fun A outer s H E hr =>
    (dss_cons (ds_if (dw_dt (dw_or (dt_not (dt_tru rfl (de_isi rfl rfl T.b_isinstance rfl T.b_tuple (by decide +kernel) (de_v (i := 1) rfl (.inl rfl))))) (dw_or (dt_ne rfl hr (de_callB call_len on_len rfl T.b_len boot_len (da_cons (de_v (i := 1) rfl (.inl rfl)) da_nil)) de_int) (dw_or1 (dt_not (dt_tru rfl (de_callN rfl rfl takesN (n_is_in T) hr (by decide) rfl (da_cons (de_ix rfl (de_v (i := 1) rfl (.inl rfl)) de_int (fun _ _ => rfl)) (da_cons de_int (da_cons (de_sub (de_callB call_len on_len rfl T.b_len boot_len (da_cons (de_v (i := 0) rfl (.inl rfl)) da_nil)) de_int) da_nil)))))))))) (dss_one (ds_ret de_bl)) dss_nil) (dss_cons (ds_if (dw_dt (dw_or (dt_not (dt_tru rfl (de_isi rfl rfl T.b_isinstance rfl T.b_tuple (by decide +kernel) (de_ix rfl (de_v (i := 1) rfl (.inl rfl)) de_int (fun _ _ => rfl))))) (dw_or1 (dt_not (dt_tru rfl (de_allG (own := [("one", 2)]) (ix := [2]) hr rfl T.b_all T.t_is_step T.p_is_step rfl ⟨blkOk_by (by kernel_rfl), rfl, by decide +kernel, rfl⟩ (by decide +kernel) sc_is_step.nd (di_seq rfl (de_ix rfl (de_v (i := 1) rfl (.inl rfl)) de_int (fun _ _ => rfl))) (fun _ _ _ _ _ _ => (dg_name (i := 2) sc_is_step.nd rfl (.inl rfl))) (fun _ _ _ _ _ _ => dts_nil) (fun _ _ _ _ _ _ => (de_callN rfl rfl takes0 (n_is_in T) (roomG hr) (by decide) rfl (da_cons (de_v (i := 2) rfl (.inl rfl)) (da_cons de_int (da_cons de_int da_nil))))))))))) (dss_one (ds_ret de_bl)) dss_nil) (dss_one (ds_ret (de_inA rfl hr rfl (de_ix rfl (de_v (i := 1) rfl (.inl rfl)) de_int (fun _ _ => rfl)) (de_ix rfl (de_v (i := 0) rfl (.inl rfl)) (de_ix rfl (de_v (i := 1) rfl (.inl rfl)) de_int (fun _ _ => rfl)) (fun _ _ => rfl)))))))

theorem n_shows_walk {P : Program} {w : World} {C : Cs} {base : Heap} (T : Tp C base) : Dn P w C base "shows_walk" 3 8 (f_shows_walk) := by
  obtain ⟨fd, F⟩ := T.d_shows_walk
  exact Dn.mk' F sc_shows_walk T.g_shows_walk rfl (fun _ _ _ _ _ _ us hl => match us, hl with | [_, _, _], _ => rfl) fun A outer s H E hr =>
    (dss_cons (ds_expr (de_callN rfl rfl takesN (n_need_state T) hr (by decide) rfl (da_cons (de_v (i := 0) rfl (.inl rfl)) (da_cons (de_v (i := 1) rfl (.inl rfl)) da_nil)))) (dss_cons (ds_set (i := 3) sc_shows_walk.nd rfl (.inl rfl) (de_callN rfl rfl takesN (n_choices_of T) hr (by decide) rfl (da_cons (de_v (i := 0) rfl (.inl rfl)) da_nil))) (dss_cons (ds_if (dt_not (dt_tru rfl (de_isi rfl rfl T.b_isinstance rfl T.b_tuple (by decide +kernel) (de_v (i := 2) rfl (.inl rfl))))) (dss_one (ds_ret de_bl)) dss_nil) (dss_cons (ds_for ownsN rfl (di_seq rfl (de_v (i := 2) rfl (.inl rfl))) (dg_name (i := 4) sc_shows_walk.nd rfl (.inl rfl)) (dss_cons (ds_if (dw_dt (dw_or (dt_not (dt_tru rfl (de_callN rfl rfl takesN (n_is_step T) hr (by decide) rfl (da_cons (de_v (i := 3) rfl (.inl rfl)) (da_cons (de_v (i := 4) rfl (.inl rfl)) da_nil))))) (dw_or1 (dt_notInA rfl hr rfl (de_v (i := 4) rfl (.inl rfl)) (de_callN rfl rfl takesN (n_steps_in T) hr (by decide) rfl (da_cons (de_v (i := 0) rfl (.inl rfl)) (da_cons (de_v (i := 3) rfl (.inl rfl)) (da_cons (de_v (i := 1) rfl (.inl rfl)) (da_cons (de_callN rfl rfl takesN (n_ones T) hr (by decide) rfl (da_cons (de_v (i := 0) rfl (.inl rfl)) da_nil)) da_nil))))))))) (dss_one (ds_ret de_bl)) dss_nil) (dss_one (ds_set (i := 1) sc_shows_walk.nd rfl (.inl rfl) (de_tup (da_star rfl (de_slice rfl (de_v (i := 1) rfl (.inl rfl)) do_none (do_some (de_ix rfl (de_v (i := 4) rfl (.inl rfl)) de_int (fun _ _ => rfl)))) (da_cons (de_ix rfl (de_v (i := 4) rfl (.inl rfl)) de_int (fun _ _ => rfl)) (da_star rfl (de_slice rfl (de_v (i := 1) rfl (.inl rfl)) (do_some (de_add rfl (de_ix rfl (de_v (i := 4) rfl (.inl rfl)) de_int (fun _ _ => rfl)) de_int)) do_none) da_nil)))))))) (dss_one (ds_ret (de_not rfl (de_callN rfl rfl takesN (n_steps_in T) hr (by decide) rfl (da_cons (de_v (i := 0) rfl (.inl rfl)) (da_cons (de_v (i := 3) rfl (.inl rfl)) (da_cons (de_v (i := 1) rfl (.inl rfl)) (da_cons (de_callN rfl rfl takesN (n_ones T) hr (by decide) rfl (da_cons (de_v (i := 0) rfl (.inl rfl)) da_nil)) da_nil))))))))))))

theorem n_law {P : Program} {w : World} {C : Cs} {base : Heap} {fd : FuncData} (T : Tp C base) (F : FunD C.K "law" "law" (defArgs s_law) (defBody s_law) (defScope s_law) [] [] (He.ga C.K "law") fd) :
    FnOk P w C.K C.mg base (L2.CX P w) 9 (He.ga C.K "law") fd ["_law_script"] (spD C 1 (f_law C)) :=
  fnL F sc_law rfl fun A outer s H E hr =>
    (dss_cons (ds_row (i := 1) (j := 0) (by decide) sc_law.nd rfl (.inl rfl) rfl (.inl rfl)) (dss_cons (ds_set (i := 2) sc_law.nd rfl (.inl rfl) (de_add rfl de_int (de_callN rfl rfl takesN (n_law_taken T) hr (by decide) rfl (da_trk (i := 1) rfl (.inl rfl) (da_cons de_int da_nil))))) (dss_cons (ds_set (i := 3) sc_law.nd rfl (.inl rfl) (de_callN rfl rfl takesN (n_law_game T) hr (by decide) rfl (da_trk (i := 1) rfl (.inl rfl) (da_cons (de_v (i := 2) rfl (.inl rfl)) (da_cons (de_v (i := 2) rfl (.inl rfl)) (da_cons (de_eq rfl hr (de_callN rfl rfl takesN (n_law_taken T) hr (by decide) rfl (da_trk (i := 1) rfl (.inl rfl) (da_cons de_int da_nil))) de_int) da_nil)))))) (dss_cons (ds_set (i := 4) sc_law.nd rfl (.inl rfl) (de_callN rfl rfl takesN (n_law_states T) hr (by decide) rfl (da_cons (de_v (i := 3) rfl (.inl rfl)) da_nil))) (dss_cons (ds_if (dt_is (de_v (i := 4) rfl (.inl rfl)) de_non) (dss_one (ds_ret de_bl)) dss_nil) (dss_cons (ds_set (i := 5) sc_law.nd rfl (.inl rfl) (de_callN rfl rfl takesN (n_law_pick T) hr (by decide) rfl (da_trk (i := 1) rfl (.inl rfl) (da_cons (de_v (i := 4) rfl (.inl rfl)) da_nil)))) (dss_cons (ds_set (i := 6) sc_law.nd rfl (.inl rfl) (de_callN rfl rfl takesN (n_walk_to_standing T) hr (by decide) rfl (da_cons (de_v (i := 3) rfl (.inl rfl)) (da_cons (de_v (i := 5) rfl (.inl rfl)) da_nil)))) (dss_cons (ds_if (dt_not (dt_tru rfl (de_callN rfl rfl takesN (n_law_is_walk T) hr (by decide) rfl (da_cons (de_v (i := 3) rfl (.inl rfl)) (da_cons (de_v (i := 5) rfl (.inl rfl)) (da_cons (de_v (i := 6) rfl (.inl rfl)) da_nil)))))) (dss_one (ds_ret de_bl)) dss_nil) (dss_cons (ds_set (i := 7) sc_law.nd rfl (.inl rfl) (de_callN rfl rfl takesN (n_law_taken T) hr (by decide) rfl (da_trk (i := 1) rfl (.inl rfl) (da_cons (de_add rfl (de_callB call_len on_len rfl T.b_len boot_len (da_cons (de_v (i := 6) rfl (.inl rfl)) da_nil)) de_int) da_nil)))) (dss_cons (ds_setO (i := 8) sc_law.nd rfl (.inl rfl) (dn_lst (da_cons (de_v (i := 6) rfl (.inl rfl)) (da_cons (de_callTy call_list_of on_list rfl T.b_list (by decide +kernel) (da_cons (de_v (i := 6) rfl (.inl rfl)) da_nil)) (da_cons (de_slice rfl (de_v (i := 6) rfl (.inl rfl)) (do_some de_int) do_none) (da_cons (de_slice rfl (de_v (i := 6) rfl (.inl rfl)) do_none (do_some (de_neg de_int))) (da_cons (de_rev rfl (de_v (i := 6) rfl (.inl rfl)) (de_neg de_int)) (da_cons (de_add rfl (de_v (i := 6) rfl (.inl rfl)) (de_slice rfl (de_v (i := 6) rfl (.inl rfl)) (do_some (de_neg de_int)) do_none)) (da_cons (de_tup da_nil) (da_cons de_non (da_cons de_int (da_cons de_dnew da_nil)))))))))))) (dss_cons (ds_for ownsN rfl (di_seq rfl (de_lst (da_cons (de_tup (da_cons de_int (da_cons (de_tup da_nil) da_nil))) (da_cons (de_tup (da_cons (de_v (i := 2) rfl (.inl rfl)) (da_cons (de_tup (da_cons de_int da_nil)) da_nil))) (da_cons (de_tup (da_cons de_bl (da_cons (de_tup (da_cons de_int da_nil)) da_nil))) (da_cons (de_lst (da_cons de_int (da_cons (de_tup (da_cons de_int da_nil)) da_nil))) (da_cons (de_tup (da_cons de_int da_nil)) (da_cons de_non (da_cons (de_tup (da_cons de_int (da_cons (de_lst (da_cons de_int da_nil)) da_nil))) da_nil))))))))) (dg_name (i := 9) sc_law.nd rfl (.inl rfl)) (dss_one (ds_app (i := 8) rfl (.inl rfl) (de_add rfl (de_add rfl (de_slice rfl (de_v (i := 6) rfl (.inl rfl)) do_none (do_some (de_v (i := 7) rfl (.inl rfl)))) (de_tup (da_cons (de_v (i := 9) rfl (.inl rfl)) da_nil))) (de_slice rfl (de_v (i := 6) rfl (.inl rfl)) (do_some (de_v (i := 7) rfl (.inl rfl))) do_none)) (hp := fun t h => pe_bm PySem.F.plainAttrs_list PySem.F.slot_list_append PySem.F.type_list_append mt_append (pe_var (i := 8) rfl (.inl rfl)) h)))) (dss_cons (ds_set (i := 10) sc_law.nd rfl (.inl rfl) (de_callN rfl rfl takesN (n_law_taken T) hr (by decide) rfl (da_trk (i := 1) rfl (.inl rfl) (da_cons (de_v (i := 2) rfl (.inl rfl)) da_nil)))) (dss_cons (ds_set (i := 11) sc_law.nd rfl (.inl rfl) (de_callN rfl rfl takesN (n_law_pick T) hr (by decide) rfl (da_trk (i := 1) rfl (.inl rfl) (da_cons (de_callN rfl rfl takesN (n_law_game_ways T) hr (by decide) rfl (da_cons (de_v (i := 3) rfl (.inl rfl)) (da_cons (de_ix rfl (de_ix rfl (de_v (i := 3) rfl (.inl rfl)) de_int (fun _ _ => rfl)) (de_v (i := 10) rfl (.inl rfl)) (fun _ _ => rfl)) da_nil))) da_nil)))) (dss_fz 8 (dss_cons (ds_set (i := 8) sc_law.nd rfl (.inl rfl) (de_add rfl (de_v (i := 8) rfl (.inl rfl)) (de_lst (da_cons (de_add rfl (de_add rfl (de_slice rfl (de_v (i := 6) rfl (.inl rfl)) do_none (do_some (de_v (i := 7) rfl (.inl rfl)))) (de_tup (da_cons (de_tup (da_cons (de_v (i := 10) rfl (.inl rfl)) (da_cons (de_v (i := 11) rfl (.inl rfl)) da_nil))) da_nil))) (de_slice rfl (de_v (i := 6) rfl (.inl rfl)) (do_some (de_v (i := 7) rfl (.inl rfl))) do_none)) (da_cons (de_tup (da_cons (de_tup (da_cons (de_v (i := 10) rfl (.inl rfl)) (da_cons (de_v (i := 11) rfl (.inl rfl)) da_nil))) da_nil)) (da_cons (de_add rfl (de_tup (da_cons (de_tup (da_cons (de_v (i := 10) rfl (.inl rfl)) (da_cons (de_v (i := 11) rfl (.inl rfl)) da_nil))) da_nil)) (de_v (i := 6) rfl (.inl rfl))) (da_cons (de_add rfl (de_v (i := 6) rfl (.inl rfl)) (de_tup (da_cons (de_tup (da_cons (de_v (i := 10) rfl (.inl rfl)) (da_cons (de_v (i := 11) rfl (.inl rfl)) da_nil))) da_nil))) da_nil))))))) (dss_fz 8 (dss_cons (ds_for ownsN rfl (di_seq rfl (de_v (i := 8) rfl (.inl rfl))) (dg_name (i := 12) sc_law.nd rfl (.inl rfl)) (dss_one (ds_if (dt_not (dt_tru rfl (de_callN rfl rfl takesN (n_law_alike T 4) hr (by decide) rfl (da_cons (de_callN rfl rfl takesN (n_shows_walk T) hr (by decide) rfl (da_cons (de_v (i := 3) rfl (.inl rfl)) (da_cons (de_v (i := 5) rfl (.inl rfl)) (da_cons (de_v (i := 12) rfl (.inl rfl)) da_nil)))) (da_cons (de_callN rfl rfl takesN (n_law_is_walk T) hr (by decide) rfl (da_cons (de_v (i := 3) rfl (.inl rfl)) (da_cons (de_v (i := 5) rfl (.inl rfl)) (da_cons (de_v (i := 12) rfl (.inl rfl)) da_nil)))) da_nil))))) (dss_one (ds_ret de_bl)) dss_nil))) (dss_one (ds_ret de_bl)))))))))))))))))))
end Tr

namespace Gm
abbrev Wy := List Int
abbrev Row := List Int × List Int
def okE (ns : List Int) (e : Int × Int) : Bool := decide (ns.getLast? = some e.1) && !decide (e.2 ∈ ns)
def exP (w ns : List Int) (p : (Int × Int) × Nat) : Row := (w ++ [(p.2 : Int)], ns ++ [p.1.2])
def extsP (l : List ((Int × Int) × Nat)) (w ns : List Int) : List Row := (l.filter fun p => okE ns p.1).map (exP w ns)
def exts (E : List (Int × Int)) (r : Row) : List Row := extsP E.zipIdx r.1 r.2
def ext1 (E : List (Int × Int)) (rows : List Row) : List Row := rows.flatMap (exts E)
def isE (b : Int) (r : Row) : Bool := decide (r.2.getLast? = some b)
def fin (b : Int) (rows : List Row) : List Wy := (rows.filter (isE b)).map (·.1)
def rest (b : Int) (rows : List Row) : List Row := rows.filter fun r => !isE b r
def stepR (E : List (Int × Int)) (b : Int) (rows : List Row) : List Row := rest b (ext1 E rows)
def itR (E : List (Int × Int)) (b : Int) : Nat → List Row → List Row
  | 0, rows => rows
  | j + 1, rows => itR E b j (stepR E b rows)
def allF (E : List (Int × Int)) (b : Int) : Nat → List Row → List Wy
  | 0, _ => []
  | j + 1, rows => fin b (ext1 E rows) ++ allF E b j (stepR E b rows)
def rows0 (a : Int) : List Row := [([], [a])]
theorem itR_succ {E b j rows} : itR E b (j + 1) rows = stepR E b (itR E b j rows) := by
  induction j generalizing rows with
  | zero => rfl
  | succ j ih => exact ih
theorem allF_succ {E b j rows} : allF E b (j + 1) rows = allF E b j rows ++ fin b (ext1 E (itR E b j rows)) := by
  induction j generalizing rows with
  | zero => simp [allF, itR]
  | succ j ih =>
    show fin b (ext1 E rows) ++ allF E b (j + 1) (stepR E b rows) = _
    rw [ih]
    simp [allF, itR]
theorem allF_end {E b j rows} (h : itR E b j rows = []) : ∀ i, allF E b (j + i) rows = allF E b j rows := by
  intro i
  induction i with
  | zero => rfl
  | succ i ih =>
    rw [← Nat.add_assoc, allF_succ, ih]
    have : itR E b (j + i) rows = [] := by
      clear ih
      induction i with
      | zero => exact h
      | succ i ih2 => rw [← Nat.add_assoc, itR_succ, ih2]; rfl
    rw [this]
    simp [ext1, fin]
def tgt (E : List (Int × Int)) (k : Int) : Int := (E.getD k.toNat (0, 0)).2
structure ROk (E : List (Int × Int)) (n : Nat) (a : Int) (j : Nat) (r : Row) : Prop where
  wl : r.1.length = j
  nl : r.2 = a :: r.1.map (tgt E)
  nd : r.2.Nodup
  rg : ∀ x ∈ r.2, 0 ≤ x ∧ x < n
  ix : ∀ k ∈ r.1, 0 ≤ k ∧ k < E.length
theorem nodup_le {l T : List Int} (h : l.Nodup) (hs : ∀ x ∈ l, x ∈ T) : l.length ≤ T.length := by
  induction l generalizing T with
  | nil => simp
  | cons x l ih =>
    rw [List.nodup_cons] at h
    have m : x ∈ T := hs x (by simp)
    have := ih (T := T.erase x) h.2 fun y hy => (List.mem_erase_of_ne (fun z => h.1 (by rw [← z]; exact hy))).mpr (hs y (by simp [hy]))
    rw [List.length_erase_of_mem m] at this
    have := List.length_pos_of_mem m
    simp only [List.length_cons]
    omega
theorem ROk.lt {E : List (Int × Int)} {n : Nat} {a : Int} {j : Nat} {r : Row} (h : ROk E n a j r) : j < n := by
  have h1 := nodup_le (T := (List.range n).map fun (i : Nat) => (i : Int)) h.nd fun x hx => by
    obtain ⟨h0, h1⟩ := h.rg x hx
    refine List.mem_map.mpr ⟨x.toNat, List.mem_range.mpr (by omega), by omega⟩
  rw [h.nl] at h1
  simp [h.wl] at h1
  omega
theorem ROk.ndw {E n a j r} (h : ROk E n a j r) : r.1.Nodup := by
  have := h.nd
  rw [h.nl, List.nodup_cons] at this
  have h2 := this.2
  exact (List.pairwise_map.mp h2).imp fun hxy e => hxy (by rw [e])
theorem ROk.ext {E : List (Int × Int)} {n : Nat} {a : Int} {j : Nat} {r : Row} {p} (h : ROk E n a j r) (hp : p ∈ E.zipIdx) (hE : ∀ e ∈ E, 0 ≤ e.2 ∧ e.2 < n) (ho : okE r.2 p.1 = true) : ROk E n a (j + 1) (exP r.1 r.2 p) := by
  obtain ⟨e, k⟩ := p
  have hk := List.mem_zipIdx hp
  simp at hk
  obtain ⟨k1, he⟩ := hk
  have t1 : tgt E (k : Int) = e.2 := by simp [tgt, k1, he]
  simp only [okE, Bool.and_eq_true, decide_eq_true_eq, Bool.not_eq_true', decide_eq_false_iff_not] at ho
  refine ⟨by simp [exP, h.wl], ?_, ?_, ?_, ?_⟩
  · show r.2 ++ [e.2] = a :: (r.1 ++ [(k : Int)]).map (tgt E)
    rw [h.nl]
    simp [t1]
  · show (r.2 ++ [e.2]).Nodup
    rw [List.nodup_append]
    refine ⟨h.nd, by simp, fun x hx y hy => ?_⟩
    simp at hy
    rw [hy]
    exact fun z => ho.2 (z ▸ hx)
  · intro x hx
    rcases List.mem_append.mp hx with hx | hx
    · exact h.rg x hx
    · simp at hx
      rw [hx]
      rw [he]
      exact hE _ (List.getElem_mem k1)
  · intro x hx
    rcases List.mem_append.mp hx with hx | hx
    · exact h.ix x hx
    · simp at hx
      rw [hx]
      omega
theorem rok_ext1 {E : List (Int × Int)} {n : Nat} {a : Int} {j : Nat} {rows : List Row} (h : ∀ r ∈ rows, ROk E n a j r) (hE : ∀ e ∈ E, 0 ≤ e.2 ∧ e.2 < n) : ∀ r ∈ ext1 E rows, ROk E n a (j + 1) r := by
  intro r hr
  obtain ⟨r0, h0, hr⟩ := List.mem_flatMap.mp hr
  obtain ⟨p, hp, rfl⟩ := List.mem_map.mp hr
  obtain ⟨hp, ho⟩ := List.mem_filter.mp hp
  exact (h r0 h0).ext hp hE ho
theorem rok_it {E : List (Int × Int)} {n : Nat} {a b : Int} (ha : 0 ≤ a ∧ a < n) (hE : ∀ e ∈ E, 0 ≤ e.2 ∧ e.2 < n) : ∀ j, ∀ r ∈ itR E b j (rows0 a), ROk E n a j r := by
  intro j
  induction j with
  | zero =>
    intro r hr
    simp [itR, rows0] at hr
    subst hr
    exact ⟨rfl, rfl, by simp, by simpa using ha, by simp⟩
  | succ j ih =>
    intro r hr
    rw [itR_succ] at hr
    exact rok_ext1 ih hE r (List.mem_filter.mp hr).1
theorem it_end {E : List (Int × Int)} {n : Nat} {a b : Int} (ha : 0 ≤ a ∧ a < n) (hE : ∀ e ∈ E, 0 ≤ e.2 ∧ e.2 < n) : itR E b n (rows0 a) = [] := by
  apply List.eq_nil_iff_forall_not_mem.mpr
  intro r hr
  exact Nat.lt_irrefl _ (rok_it ha hE n r hr).lt
theorem extsP_len {l w ns} : (extsP l w ns).length ≤ l.length := by
  simp only [extsP, List.length_map]
  exact List.length_filter_le _ _
theorem ext1_len {E rows} : (ext1 E rows).length ≤ rows.length * E.length := by
  induction rows with
  | nil => simp [ext1]
  | cons r rows ih =>
    have h1 : (exts E r).length ≤ E.length := by
      have := extsP_len (l := E.zipIdx) (w := r.1) (ns := r.2)
      rw [List.length_zipIdx] at this
      exact this
    simp only [ext1, List.flatMap_cons, List.length_append, List.length_cons] at ih ⊢
    rw [Nat.add_mul]
    omega
theorem it_len {E : List (Int × Int)} {b : Int} {rows} : ∀ j, (itR E b j rows).length ≤ rows.length * E.length ^ j := by
  intro j
  induction j with
  | zero => simp [itR]
  | succ j ih =>
    rw [itR_succ]
    have h1 : (stepR E b (itR E b j rows)).length ≤ (ext1 E (itR E b j rows)).length := List.length_filter_le _ _
    have h2 := ext1_len (E := E) (rows := itR E b j rows)
    have h3 := Nat.mul_le_mul_right E.length ih
    rw [Nat.pow_succ, ← Nat.mul_assoc]
    omega
theorem pow_le {m n j : Nat} (hm : m ≤ 10) (hj : j ≤ 6) : m ^ j ≤ 1000000 := by
  have h1 : m ^ j ≤ 10 ^ j := Nat.pow_le_pow_left hm j
  have h2 : 10 ^ j ≤ 10 ^ 6 := Nat.pow_le_pow_right (by omega) hj
  omega
theorem fin_len {b rows} : (fin b rows).length ≤ rows.length := by
  simp only [fin, List.length_map]
  exact List.length_filter_le _ _
theorem ext_le {E : List (Int × Int)} {a b : Int} {j : Nat} (hm : E.length ≤ 10) (hj : j < 6) : (ext1 E (itR E b j (rows0 a))).length ≤ 1000000 := by
  have h1 := it_len (E := E) (b := b) (rows := rows0 a) j
  have h2 := ext1_len (E := E) (rows := itR E b j (rows0 a))
  have h3 := Nat.mul_le_mul_right E.length h1
  have h4 := pow_le (n := 0) hm (j := j + 1) hj
  rw [Nat.pow_succ] at h4
  have : (rows0 a).length = 1 := rfl
  rw [this, Nat.one_mul] at h3
  omega
theorem allF_len {E : List (Int × Int)} {a b : Int} (hm : E.length ≤ 10) : ∀ j, j ≤ 6 → (allF E b j (rows0 a)).length ≤ j * 1000000 := by
  intro j
  induction j with
  | zero => intro _; simp [allF]
  | succ j ih =>
    intro hj
    have h1 := ih (by omega)
    rw [allF_succ, List.length_append]
    have h2 := ext_le (E := E) (a := a) (b := b) hm (j := j) (by omega)
    have h3 := fin_len (b := b) (rows := ext1 E (itR E b j (rows0 a)))
    omega
structure WOk (E : List (Int × Int)) (n : Nat) (w : Wy) : Prop where
  ne : w ≠ []
  nd : w.Nodup
  ix : ∀ k ∈ w, 0 ≤ k ∧ k < E.length
theorem wok_all {E : List (Int × Int)} {n : Nat} {a b : Int} (ha : 0 ≤ a ∧ a < n) (hE : ∀ e ∈ E, 0 ≤ e.2 ∧ e.2 < n) : ∀ j, ∀ w ∈ allF E b j (rows0 a), WOk E n w := by
  intro j
  induction j with
  | zero => intro w hw; cases hw
  | succ j ih =>
    intro w hw
    rw [allF_succ] at hw
    rcases List.mem_append.mp hw with hw | hw
    · exact ih w hw
    · obtain ⟨r, hr, rfl⟩ := List.mem_map.mp hw
      have := rok_ext1 (rok_it ha hE j) hE r (List.mem_filter.mp hr).1
      refine ⟨fun z => ?_, this.ndw, this.ix⟩
      have h := this.wl
      rw [z] at h
      simp at h
end Gm

namespace Tr
open PySem PySem.Spec L2
variable [ProtC]
inductive Pl : Nat → D → Prop
  | int {n : Nat} {i : Int} : Pl n (.int i)
  | tup {n : Nat} {ds : List D} : (∀ x ∈ ds, Pl n x) → Pl (n + 1) (.tuple ds)
  | lst {n : Nat} {ds : List D} : (∀ x ∈ ds, Pl n x) → Pl (n + 1) (.list ds)
theorem Pl.lay : ∀ {n : Nat} {d : D}, Pl n d → d.canLay0 = true ∧ d.depth ≤ n := by
  have all : ∀ {n : Nat} {ds : List D}, (∀ x ∈ ds, x.canLay0 = true ∧ x.depth ≤ n) → PyData.canLayAll0 ds = true ∧ PyData.depthAll ds ≤ n := by
    intro n ds
    induction ds with
    | nil => intro _; exact ⟨by simp [PyData.canLayAll0], by simp [PyData.depthAll]⟩
    | cons d ds ih =>
      intro h
      obtain ⟨a, b⟩ := h d (by simp)
      obtain ⟨a2, b2⟩ := ih fun x hx => h x (by simp [hx])
      exact ⟨by simp [PyData.canLayAll0, a, a2], by simp only [PyData.depthAll]; omega⟩
  intro n d h
  induction h with
  | int => exact ⟨by simp [PyData.canLay0], by simp [PyData.depth]⟩
  | tup _ ih =>
    obtain ⟨a, b⟩ := all ih
    exact ⟨by simpa [PyData.canLay0] using a, by simp only [PyData.depth]; omega⟩
  | lst _ ih =>
    obtain ⟨a, b⟩ := all ih
    exact ⟨by simpa [PyData.canLay0] using a, by simp only [PyData.depth]; omega⟩
theorem Pl.shaped {n : Nat} {d : D} (h : Pl n d) (hn : n ≤ 64) : SeqAt.shaped d = true := by
  obtain ⟨a, b⟩ := h.lay
  unfold SeqAt.shaped
  rw [a, decide_eq_true (by omega)]
  rfl
theorem Pl.mono {n m : Nat} {d : D} (h : Pl n d) (hm : n ≤ m) : Pl m d := by
  induction h generalizing m with
  | int => exact .int
  | tup _ ih =>
    obtain ⟨k, rfl⟩ : ∃ k, m = k + 1 := ⟨m - 1, by omega⟩
    exact .tup fun x hx => ih x hx (by omega)
  | lst _ ih =>
    obtain ⟨k, rfl⟩ : ∃ k, m = k + 1 := ⟨m - 1, by omega⟩
    exact .lst fun x hx => ih x hx (by omega)
theorem eqvAll_iff {P Q : D → Prop} (h : ∀ a, P a → ∀ b, Q b → (PyData.eqv a b = true ↔ a = b)) : ∀ {as bs : List D}, (∀ x ∈ as, P x) → (∀ x ∈ bs, Q x) → (PyData.eqvAll as bs = true ↔ as = bs) := by
  intro as
  induction as with
  | nil => intro bs _ _; cases bs <;> simp [PyData.eqvAll]
  | cons a as ih =>
    intro bs ha hb
    cases bs with
    | nil => simp [PyData.eqvAll]
    | cons b bs =>
      simp only [PyData.eqvAll, Bool.and_eq_true, List.cons.injEq]
      rw [h a (ha a (by simp)) b (hb b (by simp)), ih (fun x hx => ha x (by simp [hx])) fun x hx => hb x (by simp [hx])]
theorem Pl.eqv {n : Nat} {a : D} (ha : Pl n a) : ∀ {m : Nat} {b : D}, Pl m b → (PyData.eqv a b = true ↔ a = b) := by
  induction ha with
  | int =>
    intro m b hb
    cases hb <;> simp [PyData.eqv]
  | tup h ih =>
    intro m b hb
    cases hb with
    | int => simp [PyData.eqv]
    | lst _ => simp [PyData.eqv]
    | @tup k es hb =>
      simp only [PyData.eqv, PyData.tuple.injEq]
      rename_i n ds
      exact eqvAll_iff (P := fun x => x ∈ ds) (Q := fun b => Pl k b) (fun a h1 b h2 => ih a h1 h2) (fun x hx => hx) (fun x hx => hb x hx)
  | lst h ih =>
    intro m b hb
    cases hb with
    | int => simp [PyData.eqv]
    | tup _ => simp [PyData.eqv]
    | @lst k es hb =>
      simp only [PyData.eqv, PyData.list.injEq]
      rename_i n ds
      exact eqvAll_iff (P := fun x => x ∈ ds) (Q := fun b => Pl k b) (fun a h1 b h2 => ih a h1 h2) (fun x hx => hx) (fun x hx => hb x hx)
theorem in_pic {α : Type} [BEq α] [LawfulBEq α] {f : α → D} {n : Nat} (hp : ∀ x, Pl n (f x)) (hf : ∀ x y, f x = f y → x = y) {x : α} {xs : List α} : ((xs.map f).any fun z => PyData.eqv z (f x)) = decide (x ∈ xs) := by
  rw [Bool.eq_iff_iff, List.any_eq_true, decide_eq_true_eq]
  constructor
  · rintro ⟨z, hz, he⟩
    obtain ⟨y, hy, rfl⟩ := List.mem_map.mp hz
    rw [hf y x (((hp y).eqv (hp x)).mp he)] at hy
    exact hy
  · intro h
    exact ⟨f x, List.mem_map.mpr ⟨x, h, rfl⟩, ((hp x).eqv (hp x)).mpr rfl⟩
theorem pl_tupI {w : List Int} : Pl 1 (tupI w) := .tup fun x hx => by
  obtain ⟨i, _, rfl⟩ := List.mem_map.mp hx
  exact .int
theorem map_inj {α β : Type} {f : α → β} (hf : ∀ x y, f x = f y → x = y) : ∀ {xs ys : List α}, xs.map f = ys.map f → xs = ys := by
  intro xs
  induction xs with
  | nil => intro ys h; cases ys with
    | nil => rfl
    | cons _ _ => cases h
  | cons x xs ih =>
    intro ys h
    cases ys with
    | nil => cases h
    | cons y ys =>
      simp only [List.map_cons, List.cons.injEq] at h
      rw [hf x y h.1, ih h.2]
theorem tupI_inj : ∀ x y : List Int, tupI x = tupI y → x = y := fun x y h => map_inj (fun a b e => by cases e; rfl) (PyData.tuple.inj h)
def stD (st : List (List Int)) : D := .tuple (st.map tupI)
theorem pl_stD {st : List (List Int)} : Pl 2 (stD st) := .tup fun x hx => by
  obtain ⟨i, _, rfl⟩ := List.mem_map.mp hx
  exact pl_tupI
theorem stD_inj : ∀ x y : List (List Int), stD x = stD y → x = y := fun x y h => map_inj tupI_inj (PyData.tuple.inj h)
theorem pl_mapL {α : Type} {f : α → D} {n : Nat} {xs : List α} (h : ∀ x, Pl n (f x)) : Pl (n + 1) (.list (xs.map f)) := .lst fun x hx => by
  obtain ⟨y, _, rfl⟩ := List.mem_map.mp hx
  exact h y
@[simp] theorem in_int {x : Int} {xs : List Int} : ((xs.map PyData.int).any fun z => PyData.eqv z (.int x)) = decide (x ∈ xs) := in_pic (n := 0) (f := PyData.int) (fun _ => .int) fun a b e => by cases e; rfl
@[simp] theorem in_tup {x : List Int} {xs : List (List Int)} : ((xs.map tupI).any fun z => PyData.eqv z (tupI x)) = decide (x ∈ xs) := in_pic (n := 1) (fun _ => pl_tupI) tupI_inj
@[simp] theorem in_st {x : List (List Int)} {xs : List (List (List Int))} : ((xs.map stD).any fun z => PyData.eqv z (stD x)) = decide (x ∈ xs) := in_pic (n := 2) (fun _ => pl_stD) stD_inj
@[simp] theorem shaped_tupI {w : List Int} : SeqAt.shaped (tupI w) = true := pl_tupI.shaped (by omega)
@[simp] theorem shaped_stD {w : List (List Int)} : SeqAt.shaped (stD w) = true := pl_stD.shaped (by omega)
@[simp] theorem shaped_ints {w : List Int} : SeqAt.shaped (.list (w.map .int)) = true := (pl_mapL (n := 0) fun _ => .int).shaped (by omega)
@[simp] theorem shaped_tups {w : List (List Int)} : SeqAt.shaped (.list (w.map tupI)) = true := (pl_mapL fun _ => pl_tupI).shaped (by omega)
@[simp] theorem shaped_sts {w : List (List (List Int))} : SeqAt.shaped (.list (w.map stD)) = true := (pl_mapL fun _ => pl_stD).shaped (by omega)
def leL (x y : List Int) : Bool := !TrS.lexT y x
def srtW (l : List (List Int)) : List (List Int) := l.mergeSort leL
theorem leL_tr (a b c : List Int) (h1 : leL a b = true) (h2 : leL b c = true) : leL a c = true := by
  simp only [leL, Bool.not_eq_true'] at *
  exact TrS.lex_tr _ _ _ h1 h2
theorem leL_tot (a b : List Int) : (leL a b || leL b a) = true := by
  simp only [leL, Bool.or_eq_true, Bool.not_eq_true']
  cases h : TrS.lexT b a with
  | false => exact .inl rfl
  | true => exact .inr (TrS.lex_asym _ _ h)
theorem leL_anti {a b : List Int} (h1 : leL a b = true) (h2 : leL b a = true) : a = b := by
  simp only [leL, Bool.not_eq_true'] at *
  exact TrS.lex_eq _ _ h2 h1
theorem srtW_pw {l : List (List Int)} : (srtW l).Pairwise fun x y => leL x y = true := List.pairwise_mergeSort leL_tr leL_tot l
theorem srtW_perm {l : List (List Int)} : (srtW l).Perm l := List.mergeSort_perm l leL
theorem pw_uniq {l m : List (List Int)} (hp : l.Perm m) (h1 : l.Pairwise fun x y => leL x y = true) (h2 : m.Pairwise fun x y => leL x y = true) : l = m := by
  induction l generalizing m with
  | nil => exact (List.nil_perm.mp hp).symm
  | cons a l ih =>
    cases m with
    | nil => exact absurd hp.length_eq (by simp)
    | cons b m =>
      rw [List.pairwise_cons] at h1 h2
      have e : a = b := by
        have ma := hp.mem_iff.mp (List.mem_cons_self (a := a) (l := l))
        have mb := hp.mem_iff.mpr (List.mem_cons_self (a := b) (l := m))
        rcases List.mem_cons.mp ma with e | ma
        · exact e
        rcases List.mem_cons.mp mb with e | mb
        · exact e.symm
        exact leL_anti (h1.1 b mb) (h2.1 a ma)
      subst e
      rw [ih (List.perm_cons a |>.mp hp) h1.2 h2.2]
theorem srtW_mem {l : List (List Int)} {x : List Int} : x ∈ srtW l ↔ x ∈ l := srtW_perm.mem_iff
theorem srtW_len {l : List (List Int)} : (srtW l).length = l.length := srtW_perm.length_eq
theorem tups_map {nss : List (List Int)} : tupsD (nss.map tupI) = some nss := by
  induction nss with
  | nil => rfl
  | cons n ns ih =>
    show (intsD (n.map .int)).bind (fun a => (tupsD (ns.map tupI)).map (a :: ·)) = _
    rw [ints_map, ih]
    rfl
theorem sorted_run {l : List (List Int)} {k : D → Prop} {w : Exn → Prop} (hne : ∀ x ∈ l, x ≠ []) (hk : k (.list ((srtW l).map tupI))) : (bSortedB [.list (l.map tupI)]).run k w := by
  show (if (intsD (l.map tupI)).isSome || (tupsD (l.map tupI)).isSome then bSorted [.list (l.map tupI)] else bSortedD [.list (l.map tupI)]).run k w
  rw [tups_map, if_pos (by simp)]
  cases l with
  | nil =>
    show (if (intsD []).isSome = true then bSortedI [.list []] else bSortedT [.list []]).run k w
    rw [if_pos (by rfl)]
    show ((Wp.any fun (ms : List Int) => ms.Perm [] ∧ ms.Pairwise (· ≤ ·)).bind fun ms => .pure (.list (ms.map .int))).run k w
    rintro ms ⟨h1, _⟩
    rw [List.perm_nil.mp h1]
    have : srtW [] = [] := List.length_eq_zero_iff.mp (srtW_len (l := []))
    rw [this] at hk
    exact hk
  | cons x l =>
    show (if (intsD ((x :: l).map tupI)).isSome = true then bSortedI [.list ((x :: l).map tupI)] else bSortedT [.list ((x :: l).map tupI)]).run k w
    rw [if_neg (by simp [tupI, intsD])]
    show ((optW (tupsD ((x :: l).map tupI))).bind _).run k w
    rw [tups_map]
    refine ⟨hne, ?_⟩
    rintro ms ⟨h1, h2⟩
    have : ms = srtW (x :: l) := pw_uniq (h1.trans srtW_perm.symm) (h2.imp fun h => by simpa [leL] using h) srtW_pw
    show k (.list (ms.map tupI))
    rw [this]
    exact hk
theorem enD_zip {α : Type} {g : α → D} {xs : List α} : enD (xs.map g) = xs.zipIdx.map fun p => .tuple [.int (p.2 : Int), g p.1] := by
  apply List.ext_getElem?
  intro i
  rw [List.getElem?_map, List.getElem?_zipIdx]
  cases h : xs[i]? with
  | none =>
    have : ¬ i < xs.length := fun z => by rw [List.getElem?_eq_getElem z] at h; cases h
    rw [List.getElem?_eq_none (by rw [enD_len, List.length_map]; omega)]
    rfl
  | some x =>
    rw [enD_get (d := g x) (by rw [List.getElem?_map, h]; rfl)]
    simp
theorem rgD_zip {α : Type} {xs : List α} : rgD 0 xs.length = xs.zipIdx.map fun p => .int (p.2 : Int) := by
  apply List.ext_getElem?
  intro i
  rw [List.getElem?_map, List.getElem?_zipIdx]
  cases h : xs[i]? with
  | none =>
    have : ¬ i < xs.length := fun z => by rw [List.getElem?_eq_getElem z] at h; cases h
    rw [List.getElem?_eq_none (by simp; omega)]
    rfl
  | some x =>
    have hl : i < xs.length := (List.getElem?_eq_some_iff.mp h).1
    simp [rgD, hl]
theorem zip_mem {α : Type} {xs : List α} {p : α × Nat} (h : p ∈ xs.zipIdx) : xs[p.2]? = some p.1 := by
  have := List.mem_zipIdx h
  simp at this
  obtain ⟨h1, h2⟩ := this
  rw [List.getElem?_eq_getElem (by omega), h2]
theorem seqM {F G : SF} {δ : De} {k : Out → Prop} {w : Exn → Prop} (P : De → Prop) (h1 : (F δ).run (fun o => ∃ δ', o = .nx δ' ∧ P δ') w) (h2 : ∀ δ', P δ' → (G δ').run k w) : (sSeq F G δ).run k w := by
  rw [rw_seq]
  simp only [run_bind]
  refine (F δ).mono (fun o ho => ?_) (fun _ z => z) h1
  obtain ⟨δ', rfl, h⟩ := ho
  exact h2 δ' h
theorem while_run {c : TF} {b : SF} {δ : De} {k : Out → Prop} {w : Exn → Prop} (I : Nat → De → Prop) (m : Nat) (h0 : I m δ)
    (h : ∀ m δ, I m δ → (c δ).run (fun t => if t = true then (b δ).run (fun o => match o with
      | .nx δ' => ∃ m', m' < m ∧ I m' δ'
      | .ct δ' => ∃ m', m' < m ∧ I m' δ'
      | .bk δ' => k (.nx δ')
      | .rt d => k (.rt d)) w else k (.nx δ)) w) : (sWhile c b δ).run k w := ⟨I, ⟨m, h0⟩, h⟩
theorem line1 : (1 : Nat) ≤ sizeLine := by decide
theorem line2 : (2 : Nat) ≤ sizeLine := by decide
theorem line3 : (3 : Nat) ≤ sizeLine := by decide
theorem lineN {n : Nat} (h : n ≤ 16777216) : n ≤ sizeLine := by show n ≤ 16777216; exact h
theorem lineL {n : Nat} (h : n < 16777216) : n < sizeLine := by show n < 16777216; exact h
@[simp] theorem at0 {A : Type} {x : A} {l : List A} : atI (x :: l) 0 = some x := by rw [show (0 : Int) = ((0 : Nat) : Int) from rfl, atI_nat]; rfl
@[simp] theorem at1 {A : Type} {x y : A} {l : List A} : atI (x :: y :: l) 1 = some y := by rw [show (1 : Int) = ((1 : Nat) : Int) from rfl, atI_nat]; rfl
@[simp] theorem at2 {A : Type} {x y z : A} {l : List A} : atI (x :: y :: z :: l) 2 = some z := by rw [show (2 : Int) = ((2 : Nat) : Int) from rfl, atI_nat]; rfl
@[simp] theorem arSl_d {d : D} : arSl (.d d) = .p d := rfl
section
variable {α : Type} {g : α → D} {xs : List α} {q : BF} {w : Exn → Prop} {δ : De} {t : TF} {f : DF} {kd : D → Prop}
theorem ga_all (hs : ∀ x ∈ xs, ∃ δ1, q (g x) δ = some δ1 ∧ (∀ kb : Bool → Prop, kb true → (t δ1).run kb w) ∧ (∀ kd : D → Prop, kd (.bool true) → (f δ1).run kd w)) (hk : kd (.bool true)) : (gaLoop true q t f δ (xs.map g)).run kd w :=
  ga_run (p := fun _ => true) hs (by rw [List.all_eq_true.mpr (fun _ _ => rfl)]; exact hk)
theorem ga_any {p : α → Bool} (hs : ∀ x ∈ xs, ∃ δ1, q (g x) δ = some δ1 ∧ (∀ kb : Bool → Prop, kb true → (t δ1).run kb w) ∧ (∀ kd : D → Prop, kd (.bool (p x)) → (f δ1).run kd w)) (hk : kd (.bool (xs.any p))) : (gaLoop false q t f δ (xs.map g)).run kd w := by
  induction xs with
  | nil => simpa using hk
  | cons x xs ih =>
    obtain ⟨δ1, e, h1, h2⟩ := hs x (by simp)
    rw [List.map_cons, rw_ga1, e]
    simp only [optW_some, pure_bind, run_bind]
    refine h1 _ ?_
    simp only [if_true, run_bind]
    refine h2 _ ?_
    cases c : p x with
    | false =>
      simp only [if_true]
      exact ih (fun y hy => hs y (by simp [hy])) (by simpa [c] using hk)
    | true =>
      simp only [Bool.true_eq_false, if_false]
      simpa [c] using hk
end
theorem seqM' {F G : SF} {δ : De} {k : Out → Prop} {w : Exn → Prop} (P : De → Prop) (h1 : (F δ).run (fun o => match o with
    | .nx δ' => P δ'
    | o => k o) w) (h2 : ∀ δ', P δ' → (G δ').run k w) : (sSeq F G δ).run k w := by
  rw [rw_seq]
  simp only [run_bind]
  refine (F δ).mono (fun o ho => ?_) (fun _ z => z) h1
  cases o with
  | nx δ' => exact h2 δ' ho
  | _ => exact ho
end Tr

namespace Lk
def sm : Nat → (Nat → Rat) → Rat
  | 0, _ => 0
  | n + 1, f => sm n f + f n
theorem sm_congr {n : Nat} {f g : Nat → Rat} (h : ∀ i, i < n → f i = g i) : sm n f = sm n g := by
  induction n with
  | zero => rfl
  | succ n ih => rw [sm, sm, ih fun i hi => h i (by omega), h n (by omega)]
theorem sm_add {n : Nat} {f g : Nat → Rat} : sm n (fun i => f i + g i) = sm n f + sm n g := by
  induction n with
  | zero => simp only [sm]; grind
  | succ n ih => rw [sm, sm, sm, ih]; grind
theorem sm_sub {n : Nat} {f g : Nat → Rat} : sm n (fun i => f i - g i) = sm n f - sm n g := by
  induction n with
  | zero => simp only [sm]; grind
  | succ n ih => rw [sm, sm, sm, ih]; grind
theorem sm_neg {n : Nat} {f : Nat → Rat} : sm n (fun i => - f i) = - sm n f := by
  induction n with
  | zero => simp [sm]
  | succ n ih => rw [sm, sm, ih]; grind
theorem sm_mul {n : Nat} {c : Rat} {f : Nat → Rat} : sm n (fun i => c * f i) = c * sm n f := by
  induction n with
  | zero => simp [sm]
  | succ n ih => rw [sm, sm, ih]; grind
theorem sm_mulr {n : Nat} {c : Rat} {f : Nat → Rat} : sm n (fun i => f i * c) = sm n f * c := by
  induction n with
  | zero => simp [sm]
  | succ n ih => rw [sm, sm, ih]; grind
theorem sm_zero {n : Nat} {f : Nat → Rat} (h : ∀ i, i < n → f i = 0) : sm n f = 0 := by
  induction n with
  | zero => rfl
  | succ n ih => rw [sm, ih fun i hi => h i (by omega), h n (by omega)]; grind
theorem sm_swap {n m : Nat} {f : Nat → Nat → Rat} : sm n (fun i => sm m fun j => f i j) = sm m fun j => sm n fun i => f i j := by
  induction n with
  | zero => rw [sm_zero (n := m) (f := fun j => sm 0 fun i => f i j) fun _ _ => rfl]; rfl
  | succ n ih => rw [sm, ih, ← sm_add]; rfl
theorem sm_one {n p : Nat} {f : Nat → Rat} (hp : p < n) (h : ∀ i, i < n → i ≠ p → f i = 0) : sm n f = f p := by
  induction n with
  | zero => omega
  | succ n ih =>
    rw [sm]
    by_cases e : p = n
    · subst e
      rw [sm_zero fun i hi => h i (by omega) (by omega)]; grind
    · rw [ih (by omega) (fun i hi hn => h i (by omega) hn), h n (by omega) (fun z => e z.symm)]; grind
theorem sm_out {n p : Nat} {f : Nat → Rat} (hp : p < n) : sm n f = f p + sm n fun i => if i = p then 0 else f i := by
  have := sm_one (n := n) (p := p) (f := fun i => if i = p then f i else 0) hp (fun i _ h => by simp [h])
  simp only [if_true] at this
  rw [← this, ← sm_add]
  refine sm_congr fun i _ => ?_
  by_cases h : i = p <;> simp [h] <;> grind
theorem sm_nn {n : Nat} {f : Nat → Rat} (h : ∀ i, i < n → 0 ≤ f i) : 0 ≤ sm n f := by
  induction n with
  | zero => exact Rat.le_refl
  | succ n ih => rw [sm]; have := ih fun i hi => h i (by omega); have := h n (by omega); grind
theorem sm_nn_zero {n : Nat} {f : Nat → Rat} (h : ∀ i, i < n → 0 ≤ f i) (e : sm n f = 0) : ∀ i, i < n → f i = 0 := by
  induction n with
  | zero => intro i hi; omega
  | succ n ih =>
    rw [sm] at e
    have h1 : 0 ≤ sm n f := sm_nn fun i hi => h i (by omega)
    have h2 := h n (by omega)
    intro i hi
    by_cases c : i = n
    · subst c; grind
    · exact ih (fun i hi => h i (by omega)) (by grind) i (by omega)
theorem sm_split {n m : Nat} {f : Nat → Rat} : sm (n + m) f = sm n f + sm m fun i => f (n + i) := by
  induction m with
  | zero => simp [sm]; grind
  | succ m ih => rw [← Nat.add_assoc, sm, sm, ih]; grind
end Lk

namespace Lk
def lp : List Nat → (Nat → Rat) → Prop
  | [], _ => False
  | j :: js, v => 0 < v j ∨ (v j = 0 ∧ lp js v)
theorem lp_congr {K : List Nat} {u v : Nat → Rat} (h : ∀ j ∈ K, u j = v j) (a : lp K u) : lp K v := by
  induction K with
  | nil => exact a
  | cons j K ih =>
    have e := h j (by simp)
    rcases a with a | ⟨a, b⟩
    · exact .inl (by grind)
    · exact .inr ⟨by grind, ih (fun i hi => h i (by simp [hi])) b⟩
theorem lp_add {K : List Nat} {u v : Nat → Rat} (a : lp K u) (b : lp K v) : lp K fun j => u j + v j := by
  induction K with
  | nil => exact a
  | cons j K ih =>
    rcases a with a | ⟨a, a'⟩ <;> rcases b with b | ⟨b, b'⟩
    · exact .inl (by grind)
    · exact .inl (by grind)
    · exact .inl (by grind)
    · exact .inr ⟨by grind, ih a' b'⟩
theorem lp_mul {K : List Nat} {u : Nat → Rat} {c : Rat} (hc : 0 < c) (a : lp K u) : lp K fun j => c * u j := by
  induction K with
  | nil => exact a
  | cons j K ih =>
    rcases a with a | ⟨a, a'⟩
    · exact .inl (Rat.mul_pos hc a)
    · exact .inr ⟨by show c * u j = 0; rw [a]; grind, ih a'⟩
theorem lp_anti {K : List Nat} {u : Nat → Rat} (a : lp K u) : ¬ lp K fun j => - u j := by
  induction K with
  | nil => exact id
  | cons j K ih =>
    rcases a with a | ⟨a, a'⟩
    · rintro (b | ⟨b, _⟩) <;> grind
    · rintro (b | ⟨_, b⟩)
      · grind
      · exact ih a' b
theorem lp_nn {K : List Nat} {u : Nat → Rat} (h : ∀ j ∈ K, 0 ≤ u j) : ¬ lp K fun j => - u j := by
  induction K with
  | nil => exact id
  | cons j K ih =>
    have := h j (by simp)
    rintro (b | ⟨_, b⟩)
    · grind
    · exact ih (fun i hi => h i (by simp [hi])) b

structure Tab (n : Nat) (N T : Nat → Nat → Rat) (b : Nat → Nat) : Prop where
  unit : ∀ i, i < n → ∀ k, k < n → T k (b i) = if k = i then 1 else 0
  left : ∀ i, i < n → ∀ j, T i j = sm n fun k => T i k * N k j
  right : ∀ i, i < n → ∀ j, N i j = sm n fun k => N i (b k) * T k j
def piv (T : Nat → Nat → Rat) (p c : Nat) : Nat → Nat → Rat := fun i j => if i = p then T p j / T p c else T i j - T i c * (T p j / T p c)
def put (b : Nat → Nat) (p c : Nat) : Nat → Nat := fun i => if i = p then c else b i
section
variable {n p c : Nat} {N T T' : Nat → Nat → Rat} {b b' : Nat → Nat}
theorem piv_p {j : Nat} : piv T p c p j = T p j / T p c := by unfold piv; rw [if_pos rfl]
theorem piv_n {i j : Nat} (h : i ≠ p) : piv T p c i j = T i j - T i c * (T p j / T p c) := by unfold piv; rw [if_neg h]
theorem put_p : put b p c p = c := by unfold put; rw [if_pos rfl]
theorem put_n {i : Nat} (h : i ≠ p) : put b p c i = b i := by unfold put; rw [if_neg h]
theorem Tab.start (hb : ∀ i, i < n → ∀ j, j < n → N i j = if i = j then 1 else 0) : Tab n N N id where
  unit i hi k hk := hb k hk i hi
  left i hi j := by
    rw [sm_one hi fun k hk h => by rw [hb i hi k hk, if_neg (fun z => h z.symm)]; grind, hb i hi i hi]
    simp
  right i hi j := by
    simp only [id]
    rw [sm_one hi fun k hk h => by rw [hb i hi k hk, if_neg (fun z => h z.symm)]; grind, hb i hi i hi]
    simp
theorem Tab.inj (h : Tab n N T b) {i k : Nat} (hi : i < n) (hk : k < n) (e : b i = b k) : i = k := by
  have h1 := h.unit i hi k hk
  have h2 := h.unit k hk k hk
  rw [e, h2] at h1
  simp only [if_true] at h1
  by_cases z : k = i
  · exact z.symm
  · rw [if_neg z] at h1
    exact absurd h1 (by decide)
theorem Tab.piv (h : Tab n N T b) (hp : p < n) (hn : T p c ≠ 0) : Tab n N (piv T p c) (put b p c) where
  unit i hi k hk := by
    by_cases e : i = p
    · subst e
      rw [put_p]
      by_cases f : k = i
      · subst f
        rw [piv_p, if_pos rfl]; grind
      · rw [piv_n f, if_neg f]; grind
    · rw [put_n e]
      have h0 := h.unit i hi p hp
      rw [if_neg fun z => e z.symm] at h0
      by_cases f : k = p
      · subst f
        rw [piv_p, h0, if_neg fun z => e z.symm]; grind
      · rw [piv_n f, h0, h.unit i hi k hk]; grind
  left i hi j := by
    by_cases e : i = p
    · subst e
      rw [piv_p, h.left i hi j, Rat.div_def, ← sm_mulr]
      refine sm_congr fun k _ => ?_
      rw [piv_p]; grind
    · rw [piv_n e, h.left i hi j, h.left p hp j, Rat.div_def, ← sm_mulr, ← sm_mul, ← sm_sub]
      refine sm_congr fun k _ => ?_
      rw [piv_n e]; grind
  right i hi j := by
    have h1 := h.right i hi j
    have h2 := h.right i hi c
    rw [sm_out hp] at h1 h2
    rw [sm_out hp, put_p, piv_p]
    have e : (sm n fun k => if k = p then 0 else N i (put b p c k) * Lk.piv T p c k j) = (sm n fun k => if k = p then 0 else N i (b k) * T k j) - (sm n fun k => if k = p then 0 else N i (b k) * T k c) * (T p j / T p c) := by
      rw [← sm_mulr, ← sm_sub]
      refine sm_congr fun k _ => ?_
      by_cases z : k = p
      · simp [z]; grind
      · rw [if_neg z, if_neg z, if_neg z, put_n z, piv_n z]; grind
    rw [e]
    grind
def Sb (n : Nat) (b b' : Nat → Nat) : Prop := ∀ j, (∃ i, i < n ∧ b i = j) ↔ ∃ i, i < n ∧ b' i = j
theorem Sb.symm (h : Sb n b b') : Sb n b' b := fun j => (h j).symm
theorem Sb.refl : Sb n b b := fun _ => Iff.rfl
theorem Tab.same (h : Tab n N T b) (g : Tab n N T' b') (e : Sb n b b') {i i' : Nat} (hi : i < n) (hi' : i' < n) (hb : b i = b' i') (j : Nat) : T i j = T' i' j := by
  have h1 : T' i' j = sm n fun l => (sm n fun k => T' i' k * N k (b l)) * T l j := by
    rw [g.left i' hi' j]
    have : (sm n fun k => T' i' k * N k j) = sm n fun k => sm n fun l => T' i' k * (N k (b l) * T l j) := by
      refine sm_congr fun k hk => ?_
      rw [sm_mul, ← h.right k hk j]
    rw [this, sm_swap]
    refine sm_congr fun l _ => ?_
    rw [← sm_mulr]
    refine sm_congr fun k _ => ?_
    grind
  rw [h1]
  have h2 : ∀ l, l < n → (sm n fun k => T' i' k * N k (b l)) = if l = i then 1 else 0 := fun l hl => by
    rw [← g.left i' hi' (b l)]
    obtain ⟨l', hl', el⟩ := (e (b l)).mp ⟨l, hl, rfl⟩
    rw [← el, g.unit l' hl' i' hi']
    by_cases z : l = i
    · subst z
      rw [if_pos rfl, if_pos (g.inj hi' hl' (hb.symm.trans el.symm))]
    · rw [if_neg z, if_neg]
      intro q
      subst q
      exact z (h.inj hl hi (el.symm.trans hb.symm))
  rw [sm_one hi fun l hl z => by rw [h2 l hl, if_neg z]; grind, h2 i hi, if_pos rfl]
  grind
structure Lv (n : Nat) (K : List Nat) (T : Nat → Nat → Rat) (c p : Nat) : Prop where
  lt : p < n
  pos : 0 < T p c
  min : ∀ k, k < n → k ≠ p → 0 < T k c → lp K fun j => T k j / T k c - T p j / T p c
theorem Lv.uniq {K : List Nat} {q : Nat} (h : Lv n K T c p) (g : Lv n K T c q) : p = q := by
  by_cases e : p = q
  · exact e
  · have h1 := h.min q g.lt (fun z => e z.symm) g.pos
    have h2 := g.min p h.lt e h.pos
    exact absurd (lp_congr (fun j _ => by grind) h2) (lp_anti h1)
theorem Lv.same {K : List Nat} {q : Nat} (h : Tab n N T b) (g : Tab n N T' b') (e : Sb n b b') (l : Lv n K T c p) (hq : q < n) (hb : b p = b' q) : Lv n K T' c q := by
  have eq := h.same g e l.lt hq hb
  refine ⟨hq, by rw [← eq c]; exact l.pos, fun k hk hn hc => ?_⟩
  obtain ⟨k', hk', ek⟩ := (e (b' k)).mpr ⟨k, hk, rfl⟩
  have eqk := h.same g e hk' hk ek
  have hn' : k' ≠ p := by
    rintro rfl
    exact hn (g.inj hk hq (ek.symm.trans hb))
  have := l.min k' hk' hn' (by rw [eqk c]; exact hc)
  refine lp_congr (fun j _ => ?_) this
  rw [eqk j, eqk c, eq j, eq c]
def keys (n : Nat) : List Nat := (2 * n + 1) :: List.range n
theorem Lv.lex (l : Lv n (keys n) T c p) (hl : ∀ i, i < n → lp (keys n) (T i)) : ∀ i, i < n → lp (keys n) (piv T p c i) := by
  intro i hi
  by_cases e : i = p
  · subst e
    refine lp_congr (fun j _ => ?_) (lp_mul (c := (T i c)⁻¹) (Rat.inv_pos.mpr l.pos) (hl i hi))
    rw [piv_p, Rat.div_def]; grind
  · by_cases hc : 0 < T i c
    · refine lp_congr (fun j _ => ?_) (lp_mul hc (l.min i hi e hc))
      rw [piv_n e]; grind
    · by_cases h0 : T i c = 0
      · refine lp_congr (fun j _ => ?_) (hl i hi)
        rw [piv_n e, h0]; grind
      · have hx : 0 < - T i c * (T p c)⁻¹ := Rat.mul_pos (by grind) (Rat.inv_pos.mpr l.pos)
        refine lp_congr (fun j _ => ?_) (lp_add (hl i hi) (lp_mul hx (hl p l.lt)))
        rw [piv_n e, Rat.div_def]; grind
theorem Lv.back (h : Tab n N T b) (l : Lv n (keys n) T c p) (hl : ∀ i, i < n → lp (keys n) (T i)) : Lv n (keys n) (piv T p c) (b p) p := by
  have hu := h.unit p l.lt p l.lt
  rw [if_pos rfl] at hu
  have hpp : piv T p c p (b p) = (T p c)⁻¹ := by rw [piv_p, hu]; grind
  have pos := Rat.inv_pos.mpr l.pos
  refine ⟨l.lt, by rw [hpp]; exact pos, fun k hk hn hc => ?_⟩
  refine lp_congr (fun j _ => ?_) (lp_mul (c := (piv T p c k (b p))⁻¹) (Rat.inv_pos.mpr hc) (hl k hk))
  have hk0 := h.unit p l.lt k hk
  rw [if_neg hn] at hk0
  have e : piv T p c k (b p) = - (T k c * (T p c)⁻¹) := by rw [piv_n hn, hk0, hu]; grind
  rw [hpp, piv_p, e, piv_n hn]
  rw [e] at hc
  have h1 : T k c ≠ 0 := by rintro z; rw [z] at hc; grind
  have h2 := l.pos
  grind
end
end Lk

namespace Lk
def comp (n j : Nat) : Nat := if j < n then j + n else j - n
theorem comp_comp {n j : Nat} (h : j < 2 * n) : comp n (comp n j) = j := by unfold comp; split <;> split <;> omega
theorem comp_lt {n j : Nat} (h : j < 2 * n) : comp n j < 2 * n := by unfold comp; split <;> omega
theorem comp_ne {n j : Nat} (h : j < 2 * n) : comp n j ≠ j := by unfold comp; split <;> omega
structure Ac (n : Nat) (b : Nat → Nat) (c : Nat) : Prop where
  art : ∃ p, p < n ∧ b p = 2 * n
  ran : ∀ i, i < n → b i ≤ 2 * n
  cl : c < 2 * n
  nc : ∀ i, i < n → b i ≠ c
  ncc : ∀ i, i < n → b i ≠ comp n c
  one : ∀ i, i < n → ∀ k, k < n → b i < 2 * n → b k ≠ comp n (b i)
structure Stt where
  T : Nat → Nat → Rat
  b : Nat → Nat
  c : Nat
structure Good (n : Nat) (N : Nat → Nat → Rat) (s : Stt) : Prop where
  tab : Tab n N s.T s.b
  lex : ∀ i, i < n → lp (keys n) (s.T i)
  ac : Ac n s.b s.c
def nxt (n : Nat) (s : Stt) (p : Nat) : Stt := ⟨piv s.T p s.c, put s.b p s.c, comp n (s.b p)⟩
def Nxt (n : Nat) (s s' : Stt) : Prop := ∃ p, Lv n (keys n) s.T s.c p ∧ s.b p ≠ 2 * n ∧ s' = nxt n s p
def Eqv (n : Nat) (s t : Stt) : Prop := Sb n s.b t.b ∧ s.c = t.c
theorem Eqv.symm {n : Nat} {s t : Stt} (h : Eqv n s t) : Eqv n t s := ⟨h.1.symm, h.2.symm⟩
theorem Eqv.trans {n : Nat} {s t u : Stt} (h : Eqv n s t) (g : Eqv n t u) : Eqv n s u := ⟨fun j => (h.1 j).trans (g.1 j), h.2.trans g.2⟩
theorem Eqv.refl {n : Nat} {s : Stt} : Eqv n s s := ⟨Sb.refl, rfl⟩
def rv (n : Nat) (s : Stt) : Stt := ⟨s.T, s.b, comp n s.c⟩
section
variable {n p : Nat} {N : Nat → Nat → Rat} {s s' t t' : Stt} {b : Nat → Nat} {c : Nat}
theorem Ac.put (h : Ac n b c) (inj : ∀ i, i < n → ∀ k, k < n → b i = b k → i = k) (hp : p < n) (ho : b p ≠ 2 * n) : Ac n (put b p c) (comp n (b p)) := by
  have hb : b p < 2 * n := by have := h.ran p hp; omega
  refine ⟨?_, fun i hi => ?_, comp_lt hb, fun i hi z => ?_, fun i hi z => ?_, fun i hi k hk hl z => ?_⟩
  · obtain ⟨q, hq, e⟩ := h.art
    exact ⟨q, hq, by rw [put_n]; exact e; rintro rfl; exact ho e⟩
  · by_cases e : i = p
    · subst e; rw [put_p]; exact Nat.le_of_lt h.cl
    · rw [put_n e]; exact h.ran i hi
  · by_cases e : i = p
    · subst e; rw [put_p] at z
      exact h.ncc i hi (by rw [z, comp_comp hb])
    · rw [put_n e] at z
      exact h.one p hp i hi hb z
  · rw [comp_comp hb] at z
    by_cases e : i = p
    · subst e; rw [put_p] at z
      exact h.nc i hi z.symm
    · rw [put_n e] at z
      exact e (inj i hi p hp z)
  · by_cases e : i = p
    · subst e
      rw [put_p] at z
      by_cases f : k = i
      · subst f; rw [put_p] at z
        exact comp_ne h.cl z.symm
      · rw [put_n f] at z
        exact h.ncc k hk z
    · rw [put_n e] at z hl
      by_cases f : k = p
      · subst f; rw [put_p] at z
        exact h.ncc i hi (by rw [z, comp_comp hl])
      · rw [put_n f] at z
        exact h.one i hi k hk hl z
theorem Good.nx (g : Good n N s) (l : Lv n (keys n) s.T s.c p) (ho : s.b p ≠ 2 * n) : Good n N (nxt n s p) :=
  ⟨g.tab.piv l.lt (by have := l.pos; grind), l.lex g.lex, g.ac.put (fun i hi k hk e => g.tab.inj hi hk e) l.lt ho⟩
theorem Good.step (g : Good n N s) (h : Nxt n s s') : Good n N s' := by
  obtain ⟨p, l, ho, rfl⟩ := h
  exact g.nx l ho
theorem Good.rvv (g : Good n N s) : Good n N (rv n s) :=
  ⟨g.tab, g.lex, g.ac.art, g.ac.ran, comp_lt g.ac.cl, g.ac.ncc, fun i hi => by show s.b i ≠ comp n (comp n s.c); rw [comp_comp g.ac.cl]; exact g.ac.nc i hi, g.ac.one⟩
theorem put_back : put (put b p c) p (b p) = b := by
  funext i
  by_cases e : i = p
  · subst e; rw [put_p]
  · rw [put_n e, put_n e]
theorem Good.blt (g : Good n N s) (hp : p < n) (ho : s.b p ≠ 2 * n) : s.b p < 2 * n := by have := g.ac.ran p hp; omega
theorem Good.back (g : Good n N s) (h : Nxt n s s') : ∃ q, Lv n (keys n) s'.T (comp n s'.c) q ∧ s'.b q = s.c ∧ put s'.b q (comp n s'.c) = s.b ∧ s.b q = comp n s'.c := by
  obtain ⟨p, l, ho, rfl⟩ := h
  have e : comp n (nxt n s p).c = s.b p := comp_comp (g.blt l.lt ho)
  refine ⟨p, ?_, ?_, ?_, e.symm⟩
  · rw [e]; exact l.back g.tab g.lex
  · show put s.b p s.c p = s.c
    exact put_p
  · rw [e]; exact put_back
theorem Good.nxt_rv (g : Good n N s) (h : Nxt n s s') : ∃ t, Nxt n (Lk.rv n s') t ∧ Eqv n t (Lk.rv n s) := by
  obtain ⟨q, l, e1, e2, e3⟩ := g.back h
  refine ⟨_, ⟨q, l, ?_, rfl⟩, ?_, ?_⟩
  · show s'.b q ≠ 2 * n
    rw [e1]
    have := g.ac.cl
    omega
  · show Sb n (put s'.b q (comp n s'.c)) s.b
    rw [e2]; exact Sb.refl
  · show comp n (s'.b q) = comp n s.c
    rw [e1]
theorem put_mem {j : Nat} (inj : ∀ i, i < n → ∀ k, k < n → b i = b k → i = k) (hp : p < n) : (∃ i, i < n ∧ put b p c i = j) ↔ j = c ∨ ((∃ i, i < n ∧ b i = j) ∧ j ≠ b p) := by
  constructor
  · rintro ⟨i, hi, e⟩
    by_cases f : i = p
    · subst f; rw [put_p] at e; exact .inl e.symm
    · rw [put_n f] at e
      refine .inr ⟨⟨i, hi, e⟩, ?_⟩
      rintro rfl
      exact f (inj i hi p hp e)
  · rintro (rfl | ⟨⟨i, hi, e⟩, hn⟩)
    · exact ⟨p, hp, put_p⟩
    · refine ⟨i, hi, ?_⟩
      rw [put_n]
      · exact e
      · rintro rfl
        exact hn e.symm
theorem pred_unique (gs : Good n N s) (gt : Good n N t) (hs : Nxt n s s') (ht : Nxt n t t') (e : Eqv n s' t') : Eqv n s t := by
  have gs' := gs.step hs
  have gt' := gt.step ht
  obtain ⟨p, lp1, p1, p2, _⟩ := gs.back hs
  obtain ⟨q, lq1, q1, q2, _⟩ := gt.back ht
  obtain ⟨p', hp', ep⟩ := (e.1 (s'.b p)).mp ⟨p, lp1.lt, rfl⟩
  have l2 := lp1.same gs'.tab gt'.tab e.1 hp' ep.symm
  rw [e.2] at l2
  have epq := l2.uniq lq1
  subst epq
  have ec : s.c = t.c := by rw [← p1, ← q1, ep]
  refine ⟨fun j => ?_, ec⟩
  rw [← p2, ← q2, put_mem (fun i hi k hk h => gs'.tab.inj hi hk h) lp1.lt, put_mem (fun i hi k hk h => gt'.tab.inj hi hk h) lq1.lt, e.2, p1, q1, ec]
  exact or_congr Iff.rfl (and_congr (e.1 j) Iff.rfl)
end
structure Ini (n : Nat) (N : Nat → Nat → Rat) : Prop where
  un : ∀ i, i < n → ∀ j, j < n → N i j = if i = j then 1 else 0
  ar : ∀ i, i < n → N i (2 * n) = -1
structure First (n : Nat) (N : Nat → Nat → Rat) (r : Nat) : Prop where
  lt : r < n
  neg : N r (2 * n + 1) < 0
  least : ∀ k, k < n → k ≠ r → lp (keys n) fun j => N k j - N r j
def start (n : Nat) (N : Nat → Nat → Rat) (r : Nat) : Stt := ⟨piv N r (2 * n), put id r (2 * n), r + n⟩
section
variable {n r : Nat} {N : Nat → Nat → Rat} {s s' : Stt}
theorem Ini.tab1 (I : Ini n N) (hr : r < n) : Tab n N (piv N r (2 * n)) (put id r (2 * n)) := (Tab.start I.un).piv hr (by rw [I.ar r hr]; decide)
theorem Ini.row_r (I : Ini n N) (hr : r < n) {j : Nat} : piv N r (2 * n) r j = - N r j := by rw [piv_p, I.ar r hr]; grind
theorem Ini.row_n (I : Ini n N) (hr : r < n) {i j : Nat} (hi : i < n) (h : i ≠ r) : piv N r (2 * n) i j = N i j - N r j := by rw [piv_n h, I.ar r hr, I.ar i hi]; grind
theorem First.start (I : Ini n N) (F : First n N r) : Good n N (start n N r) := by
  refine ⟨I.tab1 F.lt, fun i hi => ?_, ⟨r, F.lt, put_p⟩, fun i hi => ?_, ?_, fun i hi z => ?_, fun i hi z => ?_, fun i hi k hk hl z => ?_⟩
  · by_cases e : i = r
    · subst e
      refine lp_congr (u := fun j => - N i j) (fun j _ => (I.row_r hi).symm) (.inl ?_)
      have := F.neg
      grind
    · exact lp_congr (fun j _ => (I.row_n F.lt hi e).symm) (F.least i hi e)
  · show put id r (2 * n) i ≤ 2 * n
    by_cases e : i = r
    · subst e; rw [put_p]; omega
    · rw [put_n e]; show i ≤ 2 * n; omega
  · show r + n < 2 * n
    have := F.lt
    omega
  · have hr := F.lt
    change put id r (2 * n) i = r + n at z
    by_cases e : i = r
    · subst e; rw [put_p] at z; omega
    · rw [put_n e] at z; change i = r + n at z; omega
  · have hr := F.lt
    change put id r (2 * n) i = comp n (r + n) at z
    have ec : comp n (r + n) = r := by unfold comp; split <;> omega
    rw [ec] at z
    by_cases e : i = r
    · subst e; rw [put_p] at z; omega
    · rw [put_n e] at z; exact e z
  · have hr := F.lt
    change put id r (2 * n) k = comp n (put id r (2 * n) i) at z
    change put id r (2 * n) i < 2 * n at hl
    by_cases e : i = r
    · subst e; rw [put_p] at hl; omega
    · rw [put_n e] at z hl
      change put id r (2 * n) k = comp n i at z
      have ec : comp n i = i + n := by unfold comp; split <;> omega
      rw [ec] at z
      by_cases f : k = r
      · subst f; rw [put_p] at z; omega
      · rw [put_n f] at z; change k = i + n at z; omega
structure Path (n : Nat) (N : Nat → Nat → Rat) (r : Nat) (σ : Nat → Stt) (K : Nat) : Prop where
  s0 : σ 0 = start n N r
  st : ∀ i, i < K → Nxt n (σ i) (σ (i + 1))
variable {σ : Nat → Stt} {K : Nat}
theorem Path.good (P : Path n N r σ K) (I : Ini n N) (F : First n N r) : ∀ i, i ≤ K → Good n N (σ i)
  | 0, _ => by rw [P.s0]; exact F.start I
  | i + 1, h => (P.good I F i (by omega)).step (P.st i (by omega))
def code (n : Nat) (s : Stt) : List Bool := (List.range (2 * n + 1)).map (fun j => (List.range n).any fun i => s.b i == j) ++ (List.range (2 * n + 1)).map fun j => s.c == j
theorem Path.no_turn (P : Path n N r σ K) (I : Ini n N) (F : First n N r) : ¬ Eqv n (σ K) (rv n (start n N r)) := fun e0 => by
  have key : ∀ j, j ≤ K → Eqv n (σ (K - j)) (rv n (σ j)) := by
    intro j
    induction j with
    | zero => intro _; rw [P.s0]; exact e0
    | succ j ih =>
      intro hj
      have h := ih (by omega)
      have g := P.good I F j (by omega)
      have st := P.st j (by omega)
      obtain ⟨t, n1, n2⟩ := g.nxt_rv st
      have st2 := P.st (K - (j + 1)) (by omega)
      have e : K - (j + 1) + 1 = K - j := by omega
      rw [e] at st2
      exact pred_unique (P.good I F _ (by omega)) (g.step st).rvv st2 n1 (h.trans n2.symm)
  rcases Nat.mod_two_eq_zero_or_one K with z | z
  · have h := key (K / 2) (by omega)
    have e : K - K / 2 = K / 2 := by omega
    rw [e] at h
    exact comp_ne (P.good I F (K / 2) (by omega)).ac.cl h.2.symm
  · have h := key (K / 2) (by omega)
    have e : K - K / 2 = K / 2 + 1 := by omega
    rw [e] at h
    have g := P.good I F (K / 2) (by omega)
    obtain ⟨p, l, _, e2⟩ := P.st (K / 2) (by omega)
    have : (σ (K / 2 + 1)).b p = (σ (K / 2)).c := by rw [e2]; exact put_p
    obtain ⟨i, hi, ei⟩ := (h.1 (σ (K / 2)).c).mp ⟨p, l.lt, this⟩
    exact g.ac.nc i hi ei
end
end Lk

namespace Lk
def mv (n : Nat) (M : Nat → Nat → Rat) (y : Nat → Rat) (i : Nat) : Rat := sm n fun j => M i j * y j
def dot (n : Nat) (x y : Nat → Rat) : Rat := sm n fun i => x i * y i
def Psd (n : Nat) (M : Nat → Nat → Rat) : Prop := ∀ y : Nat → Rat, 0 ≤ dot n y (mv n M y)
section
variable {n : Nat} {M : Nat → Nat → Rat} {x y z d : Nat → Rat} {t : Rat}
theorem mv_add {i : Nat} : mv n M (fun j => x j + t * y j) i = mv n M x i + t * mv n M y i := by
  unfold mv
  rw [← sm_mul, ← sm_add]
  exact sm_congr fun j _ => by grind
theorem dot_addr : dot n z (fun i => x i + t * y i) = dot n z x + t * dot n z y := by
  unfold dot
  rw [← sm_mul, ← sm_add]
  exact sm_congr fun j _ => by grind
theorem dot_addl : dot n (fun i => x i + t * y i) z = dot n x z + t * dot n y z := by
  unfold dot
  rw [← sm_mul, ← sm_add]
  exact sm_congr fun j _ => by grind
theorem dot_congr {x' y' : Nat → Rat} (h1 : ∀ i, i < n → x i = x' i) (h2 : ∀ i, i < n → y i = y' i) : dot n x y = dot n x' y' := sm_congr fun j hj => by rw [h1 j hj, h2 j hj]
theorem dot_zero (h : ∀ i, i < n → x i * y i = 0) : dot n x y = 0 := sm_zero h
theorem dot_nn (h : ∀ i, i < n → 0 ≤ x i) (g : ∀ i, i < n → 0 ≤ y i) : 0 ≤ dot n x y := sm_nn fun i hi => Rat.mul_nonneg (h i hi) (g i hi)
theorem Psd.null (P : Psd n M) (h : dot n d (mv n M d) = 0) : dot n d (mv n M y) + dot n y (mv n M d) = 0 := by
  have key : ∀ t : Rat, 0 ≤ t * (dot n d (mv n M y) + dot n y (mv n M d)) + t * t * dot n y (mv n M y) := fun t => by
    have e := P fun j => d j + t * y j
    have e2 : dot n (fun j => d j + t * y j) (mv n M fun j => d j + t * y j) = dot n (fun j => d j + t * y j) fun i => mv n M d i + t * mv n M y i := dot_congr (fun _ _ => rfl) fun i _ => mv_add
    rw [e2, dot_addr, dot_addl, dot_addl, h] at e
    grind
  have hq := P y
  generalize dot n d (mv n M y) + dot n y (mv n M d) = l at key ⊢
  generalize dot n y (mv n M y) = q at key hq
  by_cases z : l = 0
  · exact z
  · exfalso
    have h1 : 0 < q + 1 := by grind
    have k := key (-(l / (q + 1)))
    have e : -(l / (q + 1)) * l + -(l / (q + 1)) * -(l / (q + 1)) * q = -(l / (q + 1)) * (l / (q + 1)) := by grind
    rw [e] at k
    have h2 : l / (q + 1) ≠ 0 := by rw [Rat.div_def]; have := Rat.inv_pos.mpr h1; grind
    generalize l / (q + 1) = m at k h2
    by_cases s : 0 < m
    · have := Rat.mul_pos s s; grind
    · have := Rat.mul_pos (a := -m) (b := -m) (by grind) (by grind); grind
end
def xcol (n : Nat) (T : Nat → Nat → Rat) (b : Nat → Nat) (κ j : Nat) : Rat := sm n fun k => if b k = j then T k κ else 0
def dcol (n : Nat) (T : Nat → Nat → Rat) (b : Nat → Nat) (c j : Nat) : Rat := (if j = c then 1 else 0) - xcol n T b c j
def matOf (n : Nat) (N : Nat → Nat → Rat) (i j : Nat) : Rat := - N i (n + j)
section
variable {n : Nat} {N T : Nat → Nat → Rat} {b : Nat → Nat} {c κ : Nat}
theorem xcol_b (h : Tab n N T b) {k : Nat} (hk : k < n) : xcol n T b κ (b k) = T k κ := by
  unfold xcol
  rw [sm_one hk fun i hi e => if_neg fun z => e (h.inj hi hk z), if_pos rfl]
theorem xcol_out {j : Nat} (h : ∀ k, k < n → b k ≠ j) : xcol n T b κ j = 0 := sm_zero fun k hk => if_neg (h k hk)
theorem xcol_sum (h : Tab n N T b) (hr : ∀ i, i < n → b i ≤ 2 * n) {i : Nat} (hi : i < n) : (sm (2 * n + 1) fun j => N i j * xcol n T b κ j) = N i κ := by
  rw [h.right i hi κ]
  unfold xcol
  have : (sm (2 * n + 1) fun j => N i j * sm n fun k => if b k = j then T k κ else 0) = sm (2 * n + 1) fun j => sm n fun k => N i j * if b k = j then T k κ else 0 := sm_congr fun j _ => by rw [sm_mul]
  rw [this, sm_swap]
  refine sm_congr fun k hk => ?_
  rw [sm_one (p := b k) (by have := hr k hk; omega) fun j _ e => by rw [if_neg fun z => e z.symm]; grind, if_pos rfl]
theorem dcol_sum (h : Tab n N T b) (hr : ∀ i, i < n → b i ≤ 2 * n) (hc : c ≤ 2 * n) {i : Nat} (hi : i < n) : (sm (2 * n + 1) fun j => N i j * dcol n T b c j) = 0 := by
  unfold dcol
  have : (sm (2 * n + 1) fun j => N i j * ((if j = c then 1 else 0) - xcol n T b c j)) = (sm (2 * n + 1) fun j => N i j * if j = c then 1 else 0) - sm (2 * n + 1) fun j => N i j * xcol n T b c j := by
    rw [← sm_sub]
    exact sm_congr fun j _ => by grind
  rw [this, xcol_sum h hr hi, sm_one (p := c) (by omega) fun j _ e => by rw [if_neg e]; grind, if_pos rfl]
  grind
theorem Ini.eqn (I : Ini n N) {X : Nat → Rat} {i : Nat} {q : Rat} (hi : i < n) (h : (sm (2 * n + 1) fun j => N i j * X j) = q) : X i = mv n (matOf n N) (fun j => X (n + j)) i + X (2 * n) + q := by
  have e1 : 2 * n + 1 = n + n + 1 := by omega
  rw [e1, sm, sm_split] at h
  have h1 : (sm n fun j => N i j * X j) = X i := by
    rw [sm_one hi fun j hj e => by rw [I.un i hi j hj, if_neg fun z => e z.symm]; grind, I.un i hi i hi, if_pos rfl]
    grind
  have h2 : (sm n fun j => N i (n + j) * X (n + j)) = - mv n (matOf n N) (fun j => X (n + j)) i := by
    unfold mv matOf
    rw [← sm_neg]
    exact sm_congr fun j _ => by grind
  have e2 : n + n = 2 * n := by omega
  rw [h1, h2, e2, I.ar i hi] at h
  grind
end
section
variable {n r : Nat} {N : Nat → Nat → Rat} {s : Stt}
theorem no_ray (I : Ini n N) (F : First n N r) (P : Psd n (matOf n N)) (Y : ∃ y : Nat → Rat, (∀ i, i < n → 0 ≤ y i) ∧ ∀ i, i < n → 0 ≤ mv n (matOf n N) y i + N i (2 * n + 1))
    (g : Good n N s) (hn : ¬ Eqv n s (rv n (start n N r))) (h0 : ∀ k, k < n → ¬ 0 < s.T k s.c) : False := by
  obtain ⟨⟨T, b, c⟩, rfl⟩ : ∃ q : Stt, s = q := ⟨s, rfl⟩
  have tab : Tab n N T b := g.tab
  have ac : Ac n b c := g.ac
  have hcl := ac.cl
  simp only at h0
  -- the direction
  have dnn : ∀ j, 0 ≤ dcol n T b c j := fun j => by
    have : 0 ≤ sm n fun k => if b k = j then - T k c else 0 := sm_nn fun k hk => by
      have := h0 k hk
      split <;> grind
    have e : (sm n fun k => if b k = j then - T k c else 0) = - xcol n T b c j := by
      unfold xcol
      rw [← sm_neg]
      exact sm_congr fun k _ => by split <;> grind
    rw [e] at this
    unfold dcol
    split <;> grind
  have dsup : ∀ j, dcol n T b c j ≠ 0 → (∃ k, k < n ∧ b k = j) ∨ j = c := fun j h => by
    refine Classical.byContradiction fun z => h ?_
    have z1 : j ≠ c := fun e => z (.inr e)
    unfold dcol
    rw [if_neg z1, xcol_out fun k hk e => z (.inl ⟨k, hk, e⟩)]
    grind
  have xsup : ∀ κ j, xcol n T b κ j ≠ 0 → ∃ k, k < n ∧ b k = j := fun κ j h => Classical.byContradiction fun z => h (xcol_out fun k hk e => z ⟨k, hk, e⟩)
  have dc : dcol n T b c c = 1 := by
    unfold dcol
    rw [if_pos rfl, xcol_out ac.nc]; grind
  have both : ∀ i, i < n → ((∃ k, k < n ∧ b k = i) ∨ i = c) → ((∃ k, k < n ∧ b k = n + i) ∨ n + i = c) → False := by
    have ec : ∀ i, i < n → comp n i = n + i := fun i hi => by unfold comp; split <;> omega
    have ec2 : ∀ i, i < n → comp n (n + i) = i := fun i hi => by unfold comp; split <;> omega
    rintro i hi (⟨k, hk, e⟩ | e) (⟨k', hk', e'⟩ | e')
    · exact ac.one k hk k' hk' (by omega) (by rw [e, ec i hi]; exact e')
    · exact ac.ncc k hk (by rw [← e', ec2 i hi]; exact e)
    · exact ac.ncc k' hk' (by rw [← e, ec i hi]; exact e')
    · omega
  have E1 : ∀ i, i < n → dcol n T b c i = mv n (matOf n N) (fun j => dcol n T b c (n + j)) i + dcol n T b c (2 * n) := fun i hi => by
    have := I.eqn hi (dcol_sum tab ac.ran (Nat.le_of_lt hcl) hi)
    grind
  have E2 : ∀ κ i, i < n → xcol n T b κ i = mv n (matOf n N) (fun j => xcol n T b κ (n + j)) i + xcol n T b κ (2 * n) + N i κ := fun κ i hi => I.eqn hi (xcol_sum tab ac.ran hi)
  have c1 : dot n (fun j => dcol n T b c (n + j)) (fun i => dcol n T b c i) = 0 := dot_zero fun i hi => Classical.byContradiction fun z => both i hi (dsup i fun q => z (by rw [q]; grind)) (dsup (n + i) fun q => z (by simp only [q]; grind))
  have c2 : ∀ κ, dot n (fun j => dcol n T b c (n + j)) (fun i => xcol n T b κ i) = 0 := fun κ => dot_zero fun i hi => Classical.byContradiction fun z => both i hi (.inl (xsup κ i fun q => z (by rw [q]; grind))) (dsup (n + i) fun q => z (by simp only [q]; grind))
  have c3 : ∀ κ, dot n (fun j => xcol n T b κ (n + j)) (fun i => dcol n T b c i) = 0 := fun κ => dot_zero fun i hi => Classical.byContradiction fun z => both i hi (dsup i fun q => z (by rw [q]; grind)) (.inl (xsup κ (n + i) fun q => z (by simp only [q]; grind)))
  have dotc : ∀ (x : Nat → Rat) (a : Rat), (dot n x fun _ => a) = a * sm n x := fun x a => by
    unfold dot; rw [sm_mulr]; grind
  have F1 : dot n (fun j => dcol n T b c (n + j)) (mv n (matOf n N) fun j => dcol n T b c (n + j)) + dcol n T b c (2 * n) * (sm n fun j => dcol n T b c (n + j)) = 0 := by
    rw [← c1, ← dotc]
    unfold dot
    rw [← sm_add]
    refine sm_congr fun i hi => ?_
    show _ = dcol n T b c (n + i) * dcol n T b c i
    rw [E1 i hi]; grind
  have p1 := P fun j => dcol n T b c (n + j)
  have p2 : 0 ≤ sm n fun j => dcol n T b c (n + j) := sm_nn fun j _ => dnn (n + j)
  have p3 := Rat.mul_nonneg (dnn (2 * n)) p2
  have G1 : dot n (fun j => dcol n T b c (n + j)) (mv n (matOf n N) fun j => dcol n T b c (n + j)) = 0 := by grind
  have G2 : dcol n T b c (2 * n) * (sm n fun j => dcol n T b c (n + j)) = 0 := by grind
  by_cases hS : (sm n fun j => dcol n T b c (n + j)) = 0
  · -- nothing but w and a: the first basis
    have z0 := sm_nn_zero (fun j _ => dnn (n + j)) hS
    have ew : ∀ i, i < n → dcol n T b c i = dcol n T b c (2 * n) := fun i hi => by
      rw [E1 i hi]
      have : mv n (matOf n N) (fun j => dcol n T b c (n + j)) i = 0 := sm_zero fun j hj => by simp only [z0 j hj]; grind
      rw [this]; grind
    have hcn : c < n := by
      by_cases q : c < n
      · exact q
      · have := z0 (c - n) (by omega)
        have e : n + (c - n) = c := by omega
        rw [e, dc] at this
        exact absurd this (by decide)
    have ha : dcol n T b c (2 * n) = 1 := by rw [← ew c hcn, dc]
    have hin : ∀ i, i < n → (∃ k, k < n ∧ b k = i) ∨ i = c := fun i hi => dsup i (by rw [ew i hi, ha]; decide)
    have sb : Sb n b (put id c (2 * n)) := fun j => by
      rw [put_mem (b := id) (fun i _ k _ e => e) hcn]
      constructor
      · rintro ⟨k, hk, rfl⟩
        by_cases q : b k = 2 * n
        · exact .inl q
        · have hr := ac.ran k hk
          by_cases q2 : b k < n
          · exact .inr ⟨⟨b k, q2, rfl⟩, ac.nc k hk⟩
          · exfalso
            refine both (b k - n) (by omega) (hin _ (by omega)) (.inl ⟨k, hk, by omega⟩)
      · rintro (rfl | ⟨⟨i, hi, rfl⟩, hne⟩)
        · exact ac.art
        · rcases hin i hi with q | q
          · exact q
          · exact absurd q hne
    have hcr : c = r := Classical.byContradiction fun q => by
      have hl := F.least c hcn q
      obtain ⟨k, hk, ek⟩ := (hin r F.lt).resolve_right fun e => q e.symm
      have hb : b k = put id c (2 * n) r := by rw [put_n fun e => q e.symm]; exact ek
      have hx : lp (keys n) (T k) := g.lex k hk
      refine lp_anti hl (lp_congr (fun j _ => ?_) hx)
      rw [tab.same (I.tab1 hcn) sb hk F.lt hb j, I.row_n hcn F.lt fun e => q e.symm]
      grind
    refine hn ⟨?_, ?_⟩
    · subst hcr; exact sb
    · show c = comp n (r + n)
      rw [hcr]
      unfold comp; split <;> omega
  · have hda : dcol n T b c (2 * n) = 0 := by grind
    have ew : ∀ i, i < n → dcol n T b c i = mv n (matOf n N) (fun j => dcol n T b c (n + j)) i := fun i hi => by rw [E1 i hi, hda]; grind
    have K1 : ∀ κ, dot n (fun j => dcol n T b c (n + j)) (mv n (matOf n N) fun j => xcol n T b κ (n + j)) = 0 := fun κ => by
      have h1 := P.null (y := fun j => xcol n T b κ (n + j)) G1
      have h2 : dot n (fun j => xcol n T b κ (n + j)) (mv n (matOf n N) fun j => dcol n T b c (n + j)) = 0 := by
        rw [← c3 κ]
        exact dot_congr (fun _ _ => rfl) fun i hi => (ew i hi).symm
      rw [h2] at h1
      grind
    have K2 : ∀ κ, dot n (fun j => dcol n T b c (n + j)) (fun i => N i κ) = - ((sm n fun j => dcol n T b c (n + j)) * xcol n T b κ (2 * n)) := fun κ => by
      have h1 := c2 κ
      have h2 : dot n (fun j => dcol n T b c (n + j)) (fun i => xcol n T b κ i) = dot n (fun j => dcol n T b c (n + j)) (mv n (matOf n N) fun j => xcol n T b κ (n + j)) + dot n (fun j => dcol n T b c (n + j)) (fun _ => xcol n T b κ (2 * n)) + dot n (fun j => dcol n T b c (n + j)) (fun i => N i κ) := by
        unfold dot
        rw [← sm_add, ← sm_add]
        refine sm_congr fun i hi => ?_
        show dcol n T b c (n + i) * xcol n T b κ i = _
        rw [E2 κ i hi]; grind
      rw [h2, K1, dotc] at h1
      grind
    obtain ⟨p, hp, ep⟩ := ac.art
    have hx : lp (keys n) (T p) := g.lex p hp
    have hSp : 0 < sm n fun j => dcol n T b c (n + j) := by grind
    obtain ⟨y, y1, y2⟩ := Y
    refine lp_nn (K := keys n) (u := fun κ => dot n (fun j => dcol n T b c (n + j)) (fun i => N i κ)) (fun κ hκ => ?_) (lp_congr (fun κ _ => ?_) (lp_mul hSp hx))
    · unfold keys at hκ
      rcases List.mem_cons.mp hκ with rfl | hκ
      · have h1 := dot_nn (fun j _ => dnn (n + j)) y2
        have h2 : dot n (fun j => dcol n T b c (n + j)) (fun i => mv n (matOf n N) y i + N i (2 * n + 1)) = dot n (fun j => dcol n T b c (n + j)) (mv n (matOf n N) y) + dot n (fun j => dcol n T b c (n + j)) (fun i => N i (2 * n + 1)) := by
          unfold dot
          rw [← sm_add]
          exact sm_congr fun i _ => by grind
        have h3 := P.null (y := y) G1
        have h4 : 0 ≤ dot n y (mv n (matOf n N) fun j => dcol n T b c (n + j)) := dot_nn y1 fun i hi => by rw [← ew i hi]; exact dnn i
        rw [h2] at h1
        grind
      · have hκ' : κ < n := by simpa using hκ
        have : dot n (fun j => dcol n T b c (n + j)) (fun i => N i κ) = dcol n T b c (n + κ) := by
          unfold dot
          rw [sm_one hκ' fun i hi e => by simp only [I.un i hi κ hκ', if_neg e]; grind]
          simp only [I.un κ hκ' κ hκ', if_true]
          grind
        rw [this]
        exact dnn _
    · rw [K2, ← ep, xcol_b tab hp]; grind
theorem Path.go {σ : Nat → Stt} {K : Nat} (W : Path n N r σ K) (I : Ini n N) (F : First n N r) (P : Psd n (matOf n N)) (Y : ∃ y : Nat → Rat, (∀ i, i < n → 0 ≤ y i) ∧ ∀ i, i < n → 0 ≤ mv n (matOf n N) y i + N i (2 * n + 1)) : ∃ k, k < n ∧ 0 < (σ K).T k (σ K).c :=
  Classical.byContradiction fun z => no_ray I F P Y (W.good I F K (Nat.le_refl K)) (W.no_turn I F) fun k hk h => z ⟨k, hk, h⟩
end
end Lk

namespace Lk
def skip (j k : Nat) : Nat := if k < j then k else k + 1
def sg (j : Nat) : Rat := if j % 2 = 0 then 1 else -1
def det : Nat → (Nat → Nat → Rat) → Rat
  | 0, _ => 1
  | n + 1, A => sm (n + 1) fun j => sg j * A 0 j * det n fun i k => A (i + 1) (skip j k)
theorem skip_lt {n j k : Nat} (h : k < n) : skip j k < n + 1 := by unfold skip; split <;> omega
theorem skip_ne {j k : Nat} : skip j k ≠ j := by unfold skip; split <;> omega
theorem det_congr : ∀ {n : Nat} {A B : Nat → Nat → Rat}, (∀ i j, i < n → j < n → A i j = B i j) → det n A = det n B
  | 0, _, _, _ => rfl
  | n + 1, A, B, h => by
    rw [det, det]
    refine sm_congr fun j hj => ?_
    rw [h 0 j (by omega) hj, det_congr (n := n) (A := fun i k => A (i + 1) (skip j k)) (B := fun i k => B (i + 1) (skip j k)) fun i k hi hk => h (i + 1) (skip j k) (by omega) (skip_lt hk)]
theorem det_lin : ∀ {n p : Nat} {A B C : Nat → Nat → Rat} {x y : Rat}, p < n → (∀ i j, j ≠ p → A i j = B i j) → (∀ i j, j ≠ p → A i j = C i j) → (∀ i, A i p = x * B i p + y * C i p) → det n A = x * det n B + y * det n C
  | 0, _, _, _, _, _, _, h, _, _, _ => by omega
  | n + 1, p, A, B, C, x, y, hp, hB, hC, hl => by
    rw [det, det, det, ← sm_mul, ← sm_mul, ← sm_add]
    refine sm_congr fun j hj => ?_
    by_cases e : j = p
    · subst e
      have e1 : det n (fun i k => A (i + 1) (skip j k)) = det n fun i k => B (i + 1) (skip j k) := det_congr fun i k _ _ => hB _ _ skip_ne
      have e2 : det n (fun i k => A (i + 1) (skip j k)) = det n fun i k => C (i + 1) (skip j k) := det_congr fun i k _ _ => hC _ _ skip_ne
      rw [← e1, ← e2, hl 0]; grind
    · have hn : 0 < n := by omega
      rw [det_lin (p := if p < j then p else p - 1) (n := n) (A := fun i k => A (i + 1) (skip j k)) (B := fun i k => B (i + 1) (skip j k)) (C := fun i k => C (i + 1) (skip j k)) (x := x) (y := y) (by split <;> omega)
        (fun i k hk => hB _ _ fun z => hk (by unfold skip at z; split at z <;> split <;> omega)) (fun i k hk => hC _ _ fun z => hk (by unfold skip at z; split at z <;> split <;> omega))
        (fun i => by
          have : skip j (if p < j then p else p - 1) = p := by
            unfold skip
            repeat' split
            all_goals omega
          simp only [this]
          exact hl _), hB 0 j e, ← hC 0 j e, hB 0 j e]
      grind
theorem sg_succ {j : Nat} : sg (j + 1) = - sg j := by
  unfold sg
  rcases Nat.mod_two_eq_zero_or_one j with h | h
  · have : (j + 1) % 2 = 1 := by omega
    rw [h, this]; simp
  · have : (j + 1) % 2 = 0 := by omega
    rw [h, this]; simp
theorem det_adj : ∀ {n p : Nat} {A : Nat → Nat → Rat}, p + 1 < n → (∀ i, A i p = A i (p + 1)) → det n A = 0
  | 0, _, _, h, _ => by omega
  | n + 1, p, A, hp, h => by
    rw [det, sm_out (p := p) (by omega), sm_out (p := p + 1) hp]
    rw [if_neg (by omega)]
    have e1 : (fun i k => A (i + 1) (skip p k)) = fun i k => A (i + 1) (skip (p + 1) k) := by
      funext i k
      by_cases e : k = p
      · subst e
        have : skip k k = k + 1 := by unfold skip; split <;> omega
        have : skip (k + 1) k = k := by unfold skip; split <;> omega
        simp only [*]
      · have : skip p k = skip (p + 1) k := by unfold skip; split <;> split <;> omega
        rw [this]
    have e2 : (sm (n + 1) fun i => if i = p + 1 then 0 else if i = p then 0 else sg i * A 0 i * det n fun i' k => A (i' + 1) (skip i k)) = 0 := by
      refine sm_zero fun j hj => ?_
      by_cases c1 : j = p + 1
      · rw [if_pos c1]
      · rw [if_neg c1]
        by_cases c2 : j = p
        · rw [if_pos c2]
        · rw [if_neg c2, det_adj (n := n) (p := if p < j then p else p - 1) (A := fun i k => A (i + 1) (skip j k)) (by split <;> omega) fun i => ?_]
          · grind
          · have q1 : skip j (if p < j then p else p - 1) = p := by
              unfold skip
              repeat' split
              all_goals omega
            have q2 : skip j ((if p < j then p else p - 1) + 1) = p + 1 := by
              unfold skip
              repeat' split
              all_goals omega
            simp only [q1, q2]
            exact h _
    rw [e2, e1, sg_succ, h 0]
    grind
def colp (A : Nat → Nat → Rat) (p : Nat) (v : Nat → Rat) : Nat → Nat → Rat := fun i j => if j = p then v i else A i j
theorem colp_p {A : Nat → Nat → Rat} {p i : Nat} {v : Nat → Rat} : colp A p v i p = v i := by unfold colp; rw [if_pos rfl]
theorem colp_n {A : Nat → Nat → Rat} {p i j : Nat} {v : Nat → Rat} (h : j ≠ p) : colp A p v i j = A i j := by unfold colp; rw [if_neg h]
theorem det_swap {n p : Nat} {A : Nat → Nat → Rat} (hp : p + 1 < n) : det n (colp (colp A p fun i => A i (p + 1)) (p + 1) fun i => A i p) = - det n A := by
  -- both columns the sum
  have ne : p ≠ p + 1 := by omega
  have X := det_adj (A := colp (colp A p fun i => A i p + A i (p + 1)) (p + 1) fun i => A i p + A i (p + 1)) hp fun i => by rw [colp_n ne, colp_p, colp_p]
  have l1 := det_lin (n := n) (p := p) (x := 1) (y := 1) (A := colp (colp A p fun i => A i p + A i (p + 1)) (p + 1) fun i => A i p + A i (p + 1)) (B := colp A (p + 1) fun i => A i p + A i (p + 1)) (C := colp (colp A p fun i => A i (p + 1)) (p + 1) fun i => A i p + A i (p + 1)) (by omega)
    (fun i j hj => by unfold colp; simp [hj]) (fun i j hj => by unfold colp; simp [hj]) (fun i => by unfold colp; simp <;> grind)
  have l2 := det_lin (n := n) (p := p + 1) (x := 1) (y := 1) (A := colp A (p + 1) fun i => A i p + A i (p + 1)) (B := colp A (p + 1) fun i => A i p) (C := A) hp
    (fun i j hj => by unfold colp; simp [hj]) (fun i j hj => by unfold colp; simp [hj]) (fun i => by unfold colp; simp <;> grind)
  have l3 := det_lin (n := n) (p := p + 1) (x := 1) (y := 1) (A := colp (colp A p fun i => A i (p + 1)) (p + 1) fun i => A i p + A i (p + 1)) (B := colp (colp A p fun i => A i (p + 1)) (p + 1) fun i => A i p) (C := colp A p fun i => A i (p + 1)) hp
    (fun i j hj => by unfold colp; simp [hj]) (fun i j hj => by unfold colp; simp [hj]) (fun i => by unfold colp; simp <;> grind)
  have z1 := det_adj (A := colp A (p + 1) fun i => A i p) hp fun i => by rw [colp_n ne, colp_p]
  have z2 := det_adj (A := colp A p fun i => A i (p + 1)) hp fun i => by rw [colp_p, colp_n ne.symm]
  grind
theorem det_eqc {n p : Nat} : ∀ (m : Nat) {A : Nat → Nat → Rat}, p + 1 + m < n → (∀ i, A i p = A i (p + 1 + m)) → det n A = 0
  | 0, A, hn, h => det_adj hn h
  | m + 1, A, hn, h => by
    have hs := det_swap (n := n) (p := p + 1 + m) (A := A) (by omega)
    have := det_eqc (n := n) (p := p) m (A := colp (colp A (p + 1 + m) fun i => A i (p + 1 + m + 1)) (p + 1 + m + 1) fun i => A i (p + 1 + m)) (by omega) fun i => by
      rw [colp_n (show p ≠ p + 1 + m + 1 by omega), colp_n (show p ≠ p + 1 + m by omega), colp_n (show p + 1 + m ≠ p + 1 + m + 1 by omega), colp_p]
      exact h i
    rw [this] at hs
    grind
theorem det_alt {n p q : Nat} {A : Nat → Nat → Rat} (hp : p < n) (hq : q < n) (hn : p ≠ q) (h : ∀ i, A i p = A i q) : det n A = 0 := by
  rcases Nat.lt_or_gt_of_ne hn with c | c
  · refine det_eqc (p := p) (q - p - 1) (by omega) fun i => ?_
    have e : p + 1 + (q - p - 1) = q := by omega
    rw [e]; exact h i
  · refine det_eqc (p := q) (p - q - 1) (by omega) fun i => ?_
    have e : q + 1 + (p - q - 1) = p := by omega
    rw [e]; exact (h i).symm
theorem colp_self {A : Nat → Nat → Rat} {p : Nat} : (colp A p fun i => A i p) = A := by
  funext i j
  unfold colp
  split
  · rename_i e; rw [e]
  · rfl
theorem det_sum {n p : Nat} {A : Nat → Nat → Rat} (hp : p < n) {x : Nat → Rat} {B : Nat → Nat → Rat} : ∀ m : Nat, det n (colp A p fun i => sm m fun k => B i k * x k) = sm m fun k => x k * det n (colp A p fun i => B i k)
  | 0 => by
    have := det_lin (n := n) (p := p) (x := 0) (y := 0) (A := colp A p fun i => sm 0 fun k => B i k * x k) (B := A) (C := A) hp (fun i j hj => colp_n hj) (fun i j hj => colp_n hj) fun i => by rw [colp_p, sm]; grind
    rw [this, sm]; grind
  | m + 1 => by
    have := det_lin (n := n) (p := p) (x := 1) (y := x m) (A := colp A p fun i => sm (m + 1) fun k => B i k * x k) (B := colp A p fun i => sm m fun k => B i k * x k) (C := colp A p fun i => B i m) hp (fun i j hj => by rw [colp_n hj, colp_n hj]) (fun i j hj => by rw [colp_n hj, colp_n hj]) fun i => by rw [colp_p, colp_p, colp_p, sm]; grind
    rw [this, det_sum hp m, sm]; grind
theorem cramer {n p : Nat} {A : Nat → Nat → Rat} {v x : Nat → Rat} (hp : p < n) (h : ∀ i, i < n → v i = sm n fun k => A i k * x k) : det n (colp A p v) = x p * det n A := by
  have e : det n (colp A p v) = det n (colp A p fun i => sm n fun k => A i k * x k) := det_congr fun i j hi _ => by
    unfold colp
    split
    · exact h i hi
    · rfl
  rw [e, det_sum hp n, sm_one hp fun k hk hn => ?_, colp_self]
  rw [det_alt hp hk (fun z => hn z.symm) fun i => by rw [colp_p, colp_n hn]]
  grind
def IsInt (x : Rat) (K : Nat) : Prop := ∃ u : Int, x = (u : Rat) ∧ u.natAbs ≤ K
theorem IsInt.mul {x y : Rat} {K L : Nat} (h : IsInt x K) (g : IsInt y L) : IsInt (x * y) (K * L) := by
  obtain ⟨u, rfl, hu⟩ := h
  obtain ⟨v, rfl, hv⟩ := g
  exact ⟨u * v, by rw [Rat.intCast_mul], by rw [Int.natAbs_mul]; exact Nat.mul_le_mul hu hv⟩
theorem IsInt.add {x y : Rat} {K L : Nat} (h : IsInt x K) (g : IsInt y L) : IsInt (x + y) (K + L) := by
  obtain ⟨u, rfl, hu⟩ := h
  obtain ⟨v, rfl, hv⟩ := g
  exact ⟨u + v, by rw [Rat.intCast_add], Nat.le_trans (Int.natAbs_add_le _ _) (Nat.add_le_add hu hv)⟩
theorem IsInt.mono {x : Rat} {K L : Nat} (h : IsInt x K) (l : K ≤ L) : IsInt x L := by
  obtain ⟨u, e, hu⟩ := h
  exact ⟨u, e, Nat.le_trans hu l⟩
theorem IsInt.zero : IsInt 0 0 := ⟨0, rfl, Nat.le_refl _⟩
theorem IsInt.sm {n K : Nat} {f : Nat → Rat} (h : ∀ i, i < n → IsInt (f i) K) : IsInt (sm n f) (n * K) := by
  induction n with
  | zero => rw [Nat.zero_mul]; exact .zero
  | succ n ih =>
    rw [Nat.succ_mul]
    exact (ih fun i hi => h i (by omega)).add (h n (by omega))
theorem sg_int {j : Nat} : IsInt (sg j) 1 := by
  unfold sg
  split
  · exact ⟨1, rfl, Nat.le_refl _⟩
  · exact ⟨-1, rfl, Nat.le_refl _⟩
theorem det_int : ∀ {n K m : Nat} {A : Nat → Nat → Rat}, n ≤ m → (∀ i j, i < n → j < n → IsInt (A i j) K) → IsInt (det n A) ((m * K) ^ n)
  | 0, _, _, _, _, _ => ⟨1, rfl, by simp⟩
  | n + 1, K, m, A, hm, h => by
    rw [det]
    refine (IsInt.sm fun j hj => ((sg_int.mul (h 0 j (by omega) hj)).mul (det_int (m := m) (by omega) fun i k hi hk => h (i + 1) (skip j k) (by omega) (skip_lt hk)))).mono ?_
    rw [Nat.pow_succ, Nat.one_mul, ← Nat.mul_assoc, Nat.mul_comm ((m * K) ^ n)]
    exact Nat.mul_le_mul_right _ (Nat.mul_le_mul_right _ hm)
def CD (E K : Nat) (x : Rat) : Prop := 0 < E ∧ IsInt (x * (E : Rat)) K
section
variable {n : Nat} {N T : Nat → Nat → Rat} {b : Nat → Nat} {p c : Nat}
def dB (n : Nat) (N : Nat → Nat → Rat) (b : Nat → Nat) : Rat := det n fun i k => N i (b k)
theorem dB_put (h : Tab n N T b) (hp : p < n) : dB n N (put b p c) = T p c * dB n N b := by
  unfold dB
  have := cramer (A := fun i k => N i (b k)) (v := fun i => N i c) (x := fun k => T k c) hp fun i hi => h.right i hi c
  rw [← this]
  refine det_congr fun i j _ _ => ?_
  unfold put colp
  split <;> rfl
theorem Tab.cd {K : Nat} (h : Tab n N T b) (hd : dB n N b ≠ 0) (hK : ∀ i j, i < n → j ≤ 2 * n → IsInt (N i j) K) (hr : ∀ i, i < n → b i ≤ 2 * n) :
    ∃ D : Nat, 0 < D ∧ D ≤ (n * K) ^ n ∧ (∀ k j, k < n → j ≤ 2 * n → CD D ((n * K) ^ n) (T k j)) := by
  obtain ⟨u, hu, hb⟩ := det_int (n := n) (m := n) (A := fun i k => N i (b k)) (Nat.le_refl n) fun i j hi hj => hK i (b j) hi (hr j hj)
  change dB n N b = u at hu
  have hu0 : u ≠ 0 := by
    rintro rfl
    exact hd (hu.trans rfl)
  refine ⟨u.natAbs, by omega, hb, fun k j hk hj => ⟨by omega, ?_⟩⟩
  obtain ⟨t, ht, hb2⟩ := det_int (n := n) (m := n) (A := fun i l => N i (put b k j l)) (Nat.le_refl n) fun i l hi hl => hK i (put b k j l) hi (by
    unfold put
    split
    · exact hj
    · exact hr l hl)
  change dB n N (put b k j) = t at ht
  rw [dB_put h hk, hu] at ht
  rcases Int.natAbs_eq u with e | e
  · refine ⟨t, ?_, hb2⟩
    rw [← ht]
    have : ((u.natAbs : Nat) : Rat) = ((u : Int) : Rat) := by
      rw [show ((u : Int) : Rat) = (((u.natAbs : Nat) : Int) : Rat) from congrArg _ e]; rfl
    rw [this]
  · refine ⟨-t, ?_, by rw [Int.natAbs_neg]; exact hb2⟩
    rw [Rat.intCast_neg, ← ht]
    have : ((u.natAbs : Nat) : Rat) = - ((u : Int) : Rat) := by
      rw [show ((u : Int) : Rat) = ((-((u.natAbs : Nat) : Int) : Int) : Rat) from congrArg _ e, Rat.intCast_neg, Rat.neg_neg]; rfl
    rw [this]; grind
end
end Lk

namespace Lk
structure Pr where
  u : Nat
  T : Nat
  r : Nat
  tr : Nat → Nat
  ind : Nat → Nat → Rat
  s : Nat → Rat
  be : Nat → Rat
  d : Nat → Rat
structure Pr.Ok (P : Pr) : Prop where
  trT : ∀ j, j < P.u → P.tr j < P.T
  i01 : ∀ j x, P.ind j x = 0 ∨ P.ind j x = 1
  s0 : ∀ x, 0 ≤ P.s x
  b0 : ∀ x, 0 ≤ P.be x
  d0 : ∀ t, 0 ≤ P.d t
  has : ∀ t, t < P.T → ∃ j, j < P.u ∧ P.tr j = t
def Pr.m (P : Pr) : Nat := P.u + P.T
def Pr.ov (P : Pr) (i j : Nat) : Rat := sm P.r fun x => P.s x * (P.ind i x * P.ind j x)
def Pr.M (P : Pr) (i j : Nat) : Rat := if i < P.u then (if j < P.u then P.ov i j else if j - P.u = P.tr i then -1 else 0) else if j < P.u then (if P.tr j = i - P.u then 1 else 0) else 0
def Pr.bc (P : Pr) (i : Nat) : Rat := sm P.r fun x => P.ind i x * P.be x
def Pr.q (P : Pr) (i : Nat) : Rat := if i < P.u then P.bc i else - P.d (i - P.u)
def Pr.fl (P : Pr) (z : Nat → Rat) (x : Nat) : Rat := sm P.u fun j => P.ind j x * z j
def Pr.tot (P : Pr) (z : Nat → Rat) (t : Nat) : Rat := sm P.u fun j => if P.tr j = t then z j else 0
end Lk

namespace Lk
structure Rt where
  u : Nat
  tr : Nat → Nat
  ind : Nat → Nat → Rat
  y : Nat → Rat
def Rt.fl (A : Rt) (x : Nat) : Rat := sm A.u fun j => A.ind j x * A.y j
end Lk

namespace Lk
structure Pg where
  u : Nat
  T : Nat
  r : Nat
  tr : Nat → Nat
  ind : Nat → Nat → Rat
  s : Nat → Rat
  o : Rat
  cb : Nat → Rat
  f : Nat → Rat
  d : Nat → Rat
structure Pg.Ok (P : Pg) : Prop where
  trT : ∀ j, j < P.u → P.tr j < P.T
  i01 : ∀ j x, P.ind j x = 0 ∨ P.ind j x = 1
  s0 : ∀ x, 0 ≤ P.s x
  o0 : 0 ≤ P.o
  c0 : ∀ j, 0 ≤ P.cb j
  f0 : ∀ t, 0 ≤ P.f t
  d0 : ∀ t, 0 ≤ P.d t
  has : ∀ t, t < P.T → ∃ j, j < P.u ∧ P.tr j = t
def Pg.m (P : Pg) : Nat := P.u + P.T
def Pg.ov (P : Pg) (i j : Nat) : Rat := sm P.r fun x => P.s x * (P.ind i x * P.ind j x)
def Pg.M (P : Pg) (i j : Nat) : Rat :=
  if i < P.u then (if j < P.u then (if P.tr j = P.tr i then (1 + P.o) * P.ov i j else P.ov i j) else if j - P.u = P.tr i then -1 else 0)
  else if j < P.u then (if P.tr j = i - P.u then 1 else 0) else if j = i then P.f (i - P.u) else 0
def Pg.q (P : Pg) (i : Nat) : Rat := if i < P.u then P.cb i else - P.d (i - P.u)
def Pg.fl (P : Pg) (z : Nat → Rat) (x : Nat) : Rat := sm P.u fun j => P.ind j x * z j
def Pg.own (P : Pg) (z : Nat → Rat) (t x : Nat) : Rat := sm P.u fun j => if P.tr j = t then P.ind j x * z j else 0
def Pg.tot (P : Pg) (z : Nat → Rat) (t : Nat) : Rat := sm P.u fun j => if P.tr j = t then z j else 0
section
variable {P : Pg} {y z : Nat → Rat}
theorem Pg.fo {t x : Nat} : (sm P.u fun j => (if P.tr j = t then 1 + P.o else 1) * (P.ind j x * y j)) = P.fl y x + P.o * P.own y t x := by
  unfold Pg.fl Pg.own
  rw [← sm_mul, ← sm_add]
  exact sm_congr fun j _ => by split <;> grind
end
end Lk

namespace Tr
open PySem PySem.Spec L2
variable [ProtC]
section
variable {k : D → Prop} {w : Exn → Prop} {t b : Int} {p q : Rat} {B : Nat} {C : Cs} {r : Addr} {φ : Heap → Prop}
theorem RB.mul {p q : Rat} {B : Nat} (hp : RB p B) (hq : RB q B) : RB (p * q) (B + B) := by
  rw [← mul_nd]
  exact ratio_rb dmul_pos (mul_lt2 hp.num hq.num) (mul_lt2 (den_lt hp) (den_lt hq))
theorem RB.add {p q : Rat} {B : Nat} (hp : RB p B) (hq : RB q B) : RB (p + q) (B + B + 1) := by
  rw [← add_nd]
  exact ratio_rb dmul_pos (add_lt2 (mul_lt2 hp.num (den_lt hq)) (mul_lt2 hq.num (den_lt hp))) (Nat.lt_of_lt_of_le (mul_lt2 (den_lt hp) (den_lt hq)) (Nat.pow_le_pow_right (by decide) (by omega)))
theorem RB.sub {p q : Rat} {B : Nat} (hp : RB p B) (hq : RB q B) : RB (p - q) (B + B + 1) := by
  rw [← sub_nd]
  exact ratio_rb dmul_pos (sub_lt2 (mul_lt2 hp.num (den_lt hq)) (mul_lt2 hq.num (den_lt hp))) (Nat.lt_of_lt_of_le (mul_lt2 (den_lt hp) (den_lt hq)) (Nat.pow_le_pow_right (by decide) (by omega)))
theorem isin_run {a lo hi : Int} (hk : k (.bool (decide (lo ≤ a) && decide (a ≤ hi)))) : (f_is_in [.d (.int a), .d (.int lo), .d (.int hi)]).run k w := by
  simp [f_is_in, b_is_in, dStart, arSl]
  by_cases h : lo ≤ a
  · simpa [h] using hk
  · simpa [h] using hk
theorem pick_run {ds : List D} (hr : RO C r φ) (h0 : 0 < ds.length) (h1 : ds.length < 1073741824) (hk : ∀ d ∈ ds, k d) : (f_law_pick C [.t r φ, .d (.list ds)]).run k w := by
  simp [f_law_pick, b_law_pick, dStart, arSl]
  refine taken_run hr (by omega) (by omega) fun n a b => ?_
  obtain ⟨m, rfl⟩ : ∃ m : Nat, n = m := ⟨n.toNat, by omega⟩
  have hm : m < ds.length := by omega
  simp [atI_nat, hm]
  exact hk _ (List.getElem_mem hm)
end
section
variable {k : D → Prop} {w : Exn → Prop}
def rd4 (x : Int × Int × Int × Int) : D := .tuple [.int x.1, .int x.2.1, .int x.2.2.1, .int x.2.2.2]
def en4 (x : Int × Int × Int × Int) : Int × Int := (x.1, x.2.1)
def netD (n : Int) (R : List (Int × Int × Int × Int)) : D := .tuple [.int n, .tuple (R.map rd4)]
def rowD (r : Gm.Row) : D := .tuple [tupI r.1, tupI r.2]
def waysF (E : List (Int × Int)) (a b : Int) (N : Nat) : List (List Int) := srtW (Gm.allF E b N (Gm.rows0 a))
def mor (b : Int) (l : List Gm.Row) : List D := (Gm.rest b l).map rowD
theorem isE_snoc {w ns : List Int} {x b : Int} : Gm.isE b (w, ns ++ [x]) = decide (x = b) := by simp [Gm.isE]
theorem extsP_snoc {l : List ((Int × Int) × Nat)} {p : (Int × Int) × Nat} {w ns : List Int} : Gm.extsP (l ++ [p]) w ns = Gm.extsP l w ns ++ (if Gm.okE ns p.1 then [Gm.exP w ns p] else []) := by
  unfold Gm.extsP
  rw [List.filter_append, List.map_append]
  by_cases h : Gm.okE ns p.1 = true <;> simp [h]
theorem fin_app {b : Int} {l m : List Gm.Row} : Gm.fin b (l ++ m) = Gm.fin b l ++ Gm.fin b m := by simp [Gm.fin]
theorem rest_app {b : Int} {l m : List Gm.Row} : Gm.rest b (l ++ m) = Gm.rest b l ++ Gm.rest b m := by simp [Gm.rest]
theorem rest_len {b : Int} {l : List Gm.Row} : (Gm.rest b l).length ≤ l.length := List.length_filter_le _ _
theorem zip_map {α β : Type} {f : α → β} {xs : List α} : (xs.map f).zipIdx = xs.zipIdx.map fun p => (f p.1, p.2) := by rw [List.zipIdx_map]; rfl
theorem allD_snoc {ds : List D} {e : D} : allD (ds.map Ar.d ++ [Ar.d e]) = .pure (ds ++ [e]) := by rw [allD_map]; rfl
theorem aw_in {n a b : Int} {R : List (Int × Int × Int × Int)} {rw : D} {F M : List D} {wy ns : List Int} {s8 s9 : Sl} {ko : Out → Prop} (hne : ns ≠ []) (hw : wy.length < 1000) (hns : ns.length < 1000) (hF : F.length + R.length < 16000000) (hM : M.length + R.length < 16000000)
    (hk : ∀ s8 s9, ko (.nx [.p (netD n R), .p (.int a), .p (.int b), .o (F ++ (Gm.fin b (Gm.exts (R.map en4) (wy, ns))).map tupI), .p rw, .o (M ++ mor b (Gm.exts (R.map en4) (wy, ns))), .p (tupI wy), .p (tupI ns), s8, s9])) :
    (sFor (iEnD (d2 dIx (dV 0) (dC (PyData.int 1)))) (bTup 2 (bCons (bName 8) (bCons (bName 9) bNil)))
          (sIf
            (tAnd2 (tBv (d2 dEq (d2 dIx (dV 9) (dC (PyData.int 0))) (d2 dIx (dV 7) (d1 dNeg (dC (PyData.int 1))))))
              (tBv (d2 dNotInA (d2 dIx (dV 9) (dC (PyData.int 1))) (dV 7))))
            (sIf (tBv (d2 dEq (d2 dIx (dV 9) (dC (PyData.int 1))) (dV 2)))
              (sApp 3 (dTup (aStar (dV 6) (aCons (dV 8) aNil))))
              (sApp 5
                (dTup
                  (aCons (dTup (aStar (dV 6) (aCons (dV 8) aNil)))
                    (aCons (dTup (aStar (dV 7) (aCons (d2 dIx (dV 9) (dC (PyData.int 1))) aNil))) aNil)))))
            sNext) [.p (netD n R), .p (.int a), .p (.int b), .o F, .p rw, .o M, .p (tupI wy), .p (tupI ns), s8, s9]).run ko w := by
  have hlast : (ns.map PyData.int).getLast? = some (.int (ns.getLastD 0)) := by
    rw [List.getLast?_map]
    cases h : ns.getLast? with
    | none => exact absurd (List.getLast?_eq_none_iff.mp h) hne
    | some x => simp [List.getLastD_eq_getLast?, h]
  have hl2 : ns.getLast? = some (ns.getLastD 0) := by
    cases h : ns.getLast? with
    | none => exact absurd (List.getLast?_eq_none_iff.mp h) hne
    | some x => simp [List.getLastD_eq_getLast?, h]
  generalize ns.getLastD 0 = la at hlast hl2
  simp only [rw_for, rw_iEnD, rw_d2, rw_dV, rw_dC, List.getElem?_cons_zero, slotP_p, pure_bind, netD, rw_ixT]
  rw [show atI [PyData.int n, .tuple (R.map rd4)] 1 = some (.tuple (R.map rd4)) from rfl]
  simp only [optW_some, pure_bind, rw_seqT]
  rw [enD_zip]
  refine loop_pre (fun pre δ => ∃ s8 s9, δ = [.p (netD n R), .p (.int a), .p (.int b), .o (F ++ (Gm.fin b (Gm.extsP (pre.map fun p => (en4 p.1, p.2)) wy ns)).map tupI), .p rw, .o (M ++ mor b (Gm.extsP (pre.map fun p => (en4 p.1, p.2)) wy ns)), .p (tupI wy), .p (tupI ns), s8, s9]) ⟨s8, s9, by simp [Gm.extsP, Gm.fin, mor, Gm.rest, netD]⟩ ?_ ?_
  · rintro pre ⟨x, i⟩ post δ e ⟨s8, s9, rfl⟩
    have lp : pre.length < R.length := by
      have := congrArg List.length e
      simp at this
      omega
    have l1 : (Gm.extsP (pre.map fun p => (en4 p.1, p.2)) wy ns).length ≤ pre.length := by
      have := Gm.extsP_len (l := pre.map fun p => (en4 p.1, p.2)) (w := wy) (ns := ns)
      simpa using this
    have l2 := Gm.fin_len (b := b) (rows := Gm.extsP (pre.map fun p => (en4 p.1, p.2)) wy ns)
    have l3 := rest_len (b := b) (l := Gm.extsP (pre.map fun p => (en4 p.1, p.2)) wy ns)
    refine ⟨_, rfl, ?_⟩
    rw [List.map_append, List.map_singleton, extsP_snoc]
    generalize Gm.extsP (pre.map fun p => (en4 p.1, p.2)) wy ns = X at l1 l2 l3
    simp only [rw_if, rw_tAnd2, rw_tBv, rw_d2, rw_d1, rw_dV, rw_dC, List.set_cons_succ, List.set_cons_zero, List.getElem?_cons_succ, List.getElem?_cons_zero, slotP_p, pure_bind, rd4, rw_ixT, tupI, rw_neg]
    rw [show atI [PyData.int x.1, .int x.2.1, .int x.2.2.1, .int x.2.2.2] 0 = some (.int x.1) from rfl, show atI [PyData.int x.1, .int x.2.1, .int x.2.2.1, .int x.2.2.2] 1 = some (.int x.2.1) from rfl, atI_last, hlast]
    simp only [optW_some, pure_bind, rw_eq, rw_notInAT, in_int, shaped_int, shaped_ints, eqv_int]
    have ok : Gm.okE ns (en4 x) = (decide (x.1 = la) && !decide (x.2.1 ∈ ns)) := by
      unfold Gm.okE en4
      rw [hl2]
      congr 1
      simp only [Option.some.injEq, eq_comm]
    rw [ok]
    have z1 : F.length + (Gm.fin b X).length < sizeLine := lineL (by omega)
    have z2 : M.length + (mor b X).length < sizeLine := lineL (by simp [mor]; omega)
    have z3 : wy.length + 1 ≤ sizeLine := lineN (by omega)
    have z4 : ns.length + 1 ≤ sizeLine := lineN (by omega)
    by_cases c1 : x.1 = la
    · by_cases c2 : x.2.1 ∈ ns
      · simp [c1, c2]
      · by_cases c3 : x.2.1 = b
        · subst c3
          simp only [Gm.fin, List.length_map] at z1
          simp [-List.map_map, c1, c2, allD_snoc, z1, z3, Gm.exP, isE_snoc, Gm.fin, Gm.rest, mor, en4]
          simp [tupI]
        · simp only [mor, Gm.rest, List.length_map] at z2
          simp [-List.map_map, c1, c2, c3, allD_snoc, z2, z3, z4, Gm.exP, isE_snoc, Gm.fin, Gm.rest, mor, en4]
          exact ⟨line2, by simp [rowD, tupI]⟩
    · simp [c1]
  · rintro δ ⟨s8, s9, rfl⟩
    have := hk s8 s9
    simp only [Gm.exts, zip_map] at this
    exact this
theorem allways_run {n : Int} {R : List (Int × Int × Int × Int)} {a b : Int} {N : Nat} (ha : 0 ≤ a ∧ a < N) (hE : ∀ x ∈ R, 0 ≤ x.2.1 ∧ x.2.1 < N) (hm : R.length ≤ 10) (hN : N ≤ 6)
    (hk : k (.list ((waysF (R.map en4) a b N).map tupI))) : (f_all_ways [.d (netD n R), .d (.int a), .d (.int b)]).run k w := by
  have hE' : ∀ e ∈ R.map en4, 0 ≤ e.2 ∧ e.2 < (N : Int) := fun e he => by
    obtain ⟨x, hx, rfl⟩ := List.mem_map.mp he
    exact hE x hx
  have hm' : (R.map en4).length ≤ 10 := by simpa using hm
  unfold f_all_ways b_all_ways
  rw [rw_dRun]
  simp only [run_bind]
  refine seqM (fun δ => δ = [.p (netD n R), .p (.int a), .p (.int b), .o [], .p (.list ((Gm.rows0 a).map rowD)), .non, .non, .non, .non, .non]) ?_ ?_
  · simp [sParOD, dStart, arSl, Gm.rows0, rowD, tupI]
    exact ⟨line1, line2, line1⟩
  rintro _ rfl
  refine seqM (fun δ => ∃ s5 s6 s7 s8 s9, δ = [.p (netD n R), .p (.int a), .p (.int b), .o ((Gm.allF (R.map en4) b N (Gm.rows0 a)).map tupI), .p (.list []), s5, s6, s7, s8, s9]) ?_ ?_
  · refine while_run (fun m δ => ∃ j s5 s6 s7 s8 s9, j ≤ N ∧ m = N - j ∧ δ = [.p (netD n R), .p (.int a), .p (.int b), .o ((Gm.allF (R.map en4) b j (Gm.rows0 a)).map tupI), .p (.list ((Gm.itR (R.map en4) b j (Gm.rows0 a)).map rowD)), s5, s6, s7, s8, s9]) N ⟨0, _, _, _, _, _, Nat.zero_le _, rfl, rfl⟩ ?_
    rintro m _ ⟨j, s5, s6, s7, s8, s9, hj, rfl, rfl⟩
    simp only [rw_tT, rw_dV, List.getElem?_cons_succ, List.getElem?_cons_zero, slotP_p, pure_bind, rw_truL, run_pure]
    by_cases c : Gm.itR (R.map en4) b j (Gm.rows0 a) = []
    · simp [c]
      have := Gm.allF_end c (N - j)
      rw [show j + (N - j) = N by omega] at this
      rw [this]
    · have hjN : j < N := by
        rcases Nat.lt_or_ge j N with z | z
        · exact z
        · have : j = N := by omega
          subst this
          exact absurd (Gm.it_end ha hE') c
      simp [c]
      have hok := Gm.rok_it (b := b) ha hE' j
      have hl1 := Gm.ext_le (a := a) (b := b) hm' (j := j) (by omega)
      have hl2 := Gm.allF_len (a := a) (b := b) hm' j (by omega)
      generalize hrows : Gm.itR (R.map en4) b j (Gm.rows0 a) = rows at *
      have hF' := Gm.allF_succ (E := R.map en4) (b := b) (j := j) (rows := Gm.rows0 a)
      have hI' := Gm.itR_succ (E := R.map en4) (b := b) (j := j) (rows := Gm.rows0 a)
      rw [hrows] at hF' hI'
      generalize hfnd : Gm.allF (R.map en4) b j (Gm.rows0 a) = fnd at *
      refine loop_pre (fun pre δ => ∃ s6 s7 s8 s9, δ = [.p (netD n R), .p (.int a), .p (.int b), .o (fnd.map tupI ++ (Gm.fin b (Gm.ext1 (R.map en4) pre)).map tupI), .p (.list (rows.map rowD)), .o (mor b (Gm.ext1 (R.map en4) pre)), s6, s7, s8, s9]) ⟨_, _, _, _, by simp [Gm.ext1, Gm.fin, mor, Gm.rest]; exact ⟨rfl, rfl, rfl, rfl⟩⟩ ?_ ?_
      · rintro pre r post δ e ⟨s6, s7, s8, s9, rfl⟩
        have hr := hok r (by rw [e]; simp)
        have hj2 := hr.lt
        have le : (Gm.ext1 (R.map en4) pre).length + R.length ≤ 1000000 + 10 := by
          have : (Gm.ext1 (R.map en4) pre).length ≤ (Gm.ext1 (R.map en4) rows).length := by
            rw [e]
            simp only [Gm.ext1, List.flatMap_append, List.length_append]
            omega
          omega
        have l2 := Gm.fin_len (b := b) (rows := Gm.ext1 (R.map en4) pre)
        have l3 := rest_len (b := b) (l := Gm.ext1 (R.map en4) pre)
        obtain ⟨wy, ns⟩ := r
        refine ⟨[.p (netD n R), .p (.int a), .p (.int b), .o (fnd.map tupI ++ (Gm.fin b (Gm.ext1 (R.map en4) pre)).map tupI), .p (.list (rows.map rowD)), .o (mor b (Gm.ext1 (R.map en4) pre)), .p (tupI wy), .p (tupI ns), s8, s9], rfl, ?_⟩
        have hwl : wy.length = j := hr.wl
        have hnl : ns = a :: wy.map (Gm.tgt (R.map en4)) := hr.nl
        refine aw_in (by rw [hnl]; simp) (by omega) (by rw [hnl]; simp; omega) (by simp; omega) (by simp [mor]; omega) fun s8 s9 => ?_
        refine ⟨.p (tupI wy), .p (tupI ns), s8, s9, ?_⟩
        have ef : Gm.ext1 (R.map en4) (pre ++ [(wy, ns)]) = Gm.ext1 (R.map en4) pre ++ Gm.exts (R.map en4) (wy, ns) := by simp [Gm.ext1]
        simp only [ef, fin_app, mor, rest_app, List.map_append, List.append_assoc]
      · rintro δ ⟨s6, s7, s8, s9, rfl⟩
        simp [fz]
        refine ⟨N - (j + 1), by omega, j + 1, by omega, rfl, ?_⟩
        rw [hF', hI']
        simp [mor, Gm.stepR]
  rintro _ ⟨s5, s6, s7, s8, s9, rfl⟩
  simp
  refine sorted_run (fun x hx => (Gm.wok_all ha hE' N x hx).ne) ?_
  exact hk
structure GRd where
  s : Int
  t : Int
  c : List Int
def rdD (r : GRd) : D := .tuple [.int r.s, .int r.t, tupI r.c]
def enG (r : GRd) : Int × Int := (r.s, r.t)
def plD (p : Int × Int) : D := .tuple [.int p.1, .int p.2]
theorem last_of {ns : List Int} (hne : ns ≠ []) : ∃ la, (ns.map PyData.int).getLast? = some (.int la) ∧ ns.getLast? = some la := by
  cases h : ns.getLast? with
  | none => exact absurd (List.getLast?_eq_none_iff.mp h) hne
  | some x => exact ⟨x, by rw [List.getLast?_map, h]; rfl, rfl⟩
theorem lw_in {n b : Int} {R : List GRd} {rs : List D} {pd fd rw : D} {M : List D} {wy ns : List Int} {s4 s8 s9 : Sl} {ko : Out → Prop} (hne : ns ≠ []) (hw : wy.length < 1000) (hns : ns.length < 1000) (hR : R.length < 1000000) (hM : M.length + R.length < 16000000)
    (hk : ∀ s8, ko (.nx [.p (.tuple (.int n :: .tuple (R.map rdD) :: rs)), .p pd, .p fd, .p rw, s4, .o (M ++ (Gm.exts (R.map enG) (wy, ns)).map rowD), .p (tupI wy), .p (tupI ns), s8, s9])) :
    (sFor (iRgD1 (dCB bLen (aCons (d2 dIx (dV 0) (dC (.int 1))) aNil))) (bName 8) (sIf (tAnd2 (tBv (d2 dEq (d2 dIx (d2 dIx (d2 dIx (dV 0) (dC (.int 1))) (dV 8)) (dC (.int 0))) (d2 dIx (dV 7) (d1 dNeg (dC (.int 1)))))) (tBv (d2 dNotInA (d2 dIx (d2 dIx (d2 dIx (dV 0) (dC (.int 1))) (dV 8)) (dC (.int 1))) (dV 7)))) (sApp 5 (dTup (aCons (d2 dAdd (dV 6) (dTup (aCons (dV 8) aNil))) (aCons (d2 dAdd (dV 7) (dTup (aCons (d2 dIx (d2 dIx (d2 dIx (dV 0) (dC (.int 1))) (dV 8)) (dC (.int 1))) aNil))) aNil)))) sNext)
      [.p (.tuple (.int n :: .tuple (R.map rdD) :: rs)), .p pd, .p fd, .p rw, s4, .o M, .p (tupI wy), .p (tupI ns), s8, s9]).run ko w := by
  obtain ⟨la, hlast, hl2⟩ := last_of hne
  have e1 : atI (PyData.int n :: .tuple (R.map rdD) :: rs) 1 = some (.tuple (R.map rdD)) := by rw [show (1 : Int) = ((1 : Nat) : Int) from rfl, atI_nat]; rfl
  simp only [rw_for, rw_rg1, rw_dCB, rw_aCons, rw_aNil, rw_d2, rw_dV, rw_dC, List.getElem?_cons_zero, slotP_p, pure_bind, rw_ixT, e1, optW_some, rw_allD1, rw_allD0, rw_lenT, List.length_map, rw_asI1, run_bind, run_need, run_pure, Int.toNat_natCast]
  refine ⟨lo62_le (by omega) (by omega), ?_⟩
  rw [rgD_zip]
  refine loop_pre (fun pre δ => ∃ s8, δ = [.p (.tuple (.int n :: .tuple (R.map rdD) :: rs)), .p pd, .p fd, .p rw, s4, .o (M ++ (Gm.extsP (pre.map fun p => (enG p.1, p.2)) wy ns).map rowD), .p (tupI wy), .p (tupI ns), s8, s9]) ⟨s8, by simp [Gm.extsP]⟩ ?_ ?_
  · rintro pre ⟨x, i⟩ post δ e ⟨s8, rfl⟩
    have lp : pre.length < R.length := by
      have := congrArg List.length e
      simp at this
      omega
    have l1 : (Gm.extsP (pre.map fun p => (enG p.1, p.2)) wy ns).length ≤ pre.length := by
      have := Gm.extsP_len (l := pre.map fun p => (enG p.1, p.2)) (w := wy) (ns := ns)
      simpa using this
    have hx : R[i]? = some x := zip_mem (p := (x, i)) (by rw [e]; simp)
    refine ⟨_, rfl, ?_⟩
    rw [List.map_append, List.map_singleton, extsP_snoc]
    generalize Gm.extsP (pre.map fun p => (enG p.1, p.2)) wy ns = X at l1
    have e2 : atI (R.map rdD) (i : Int) = some (rdD x) := by rw [atI_nat, List.getElem?_map, hx]; rfl
    simp only [rw_if, rw_tAnd2, rw_tBv, rw_d2, rw_d1, rw_dV, rw_dC, List.set_cons_succ, List.set_cons_zero, List.getElem?_cons_succ, List.getElem?_cons_zero, slotP_p, pure_bind, rw_ixT, e1, e2, optW_some, rw_neg, rdD, tupI]
    rw [show atI [PyData.int x.s, .int x.t, .tuple (x.c.map .int)] 0 = some (.int x.s) from rfl, show atI [PyData.int x.s, .int x.t, .tuple (x.c.map .int)] 1 = some (.int x.t) from rfl, atI_last, hlast]
    simp only [optW_some, pure_bind, rw_eq, rw_notInAT, in_int, shaped_int, shaped_ints, eqv_int]
    have ok : Gm.okE ns (enG x) = (decide (x.s = la) && !decide (x.t ∈ ns)) := by
      unfold Gm.okE enG
      rw [hl2]
      congr 1
      simp only [Option.some.injEq, eq_comm]
    rw [ok]
    have z2 : M.length + X.length < sizeLine := lineL (by omega)
    have z3 : wy.length + 1 ≤ sizeLine := lineN (by omega)
    have z4 : ns.length + 1 ≤ sizeLine := lineN (by omega)
    by_cases c1 : x.s = la
    · by_cases c2 : x.t ∈ ns
      · simp [c1, c2]
      · have e3 : atI (List.map rdD R) (i : Int) = some (PyData.tuple [PyData.int x.s, PyData.int x.t, PyData.tuple (List.map PyData.int x.c)]) := e2
        have e4 : atI [PyData.int x.s, .int x.t, .tuple (x.c.map .int)] 1 = some (.int x.t) := rfl
        simp only [c1, c2, decide_true, decide_false, Bool.not_false, Bool.and_self, run_bind, pure_bind, rw_asB, if_true, rw_app, List.getElem?_cons_succ, List.getElem?_cons_zero, slotO_o, rw_dTup, rw_aCons, rw_aNil, rw_d2, rw_dV, rw_dC, slotP_p, rw_allD1, rw_allD0, rw_addT, rw_ixT, e1, optW_some, run_need, run_pure]
        rw [e3]
        simp only [optW_some, run_pure, rw_ixT, e4, List.length_cons, List.length_nil, List.length_map, List.length_append]
        refine ⟨⟨trivial, trivial⟩, ⟨trivial, trivial⟩, line1, z3, line1, z4, line2, z2, .p (.int (i : Int)), ?_⟩
        simp [rowD, tupI, Gm.exP, enG]
    · simp [c1]
  · rintro δ ⟨s8, rfl⟩
    have := hk s8
    simp only [Gm.exts, zip_map] at this
    exact this
theorem ltrow {E : List (Int × Int)} {n : Nat} {a : Int} {j : Nat} {r : Gm.Row} (h : Gm.ROk E n a j r) : r.2 ≠ [] := by rw [h.nl]; simp
theorem row_last {r : Gm.Row} (h : r.2 ≠ []) {b : Int} : ∃ la, atI (r.2.map PyData.int) (-1) = some (.int la) ∧ Gm.isE b r = decide (la = b) := by
  obtain ⟨la, h1, h2⟩ := last_of h
  refine ⟨la, by rw [atI_last, h1], ?_⟩
  unfold Gm.isE
  rw [h2]
  simp
theorem lways_run {n : Int} {R : List GRd} {rs : List D} {a b : Int} {N : Nat} (hn : n = N) (ha : 0 ≤ a ∧ a < N) (hE : ∀ x ∈ R, 0 ≤ x.t ∧ x.t < N) (hm : R.length ≤ 10) (hN : N ≤ 6)
    (hk : k (.list ((waysF (R.map enG) a b N).map tupI))) : (f_law_game_ways [.d (.tuple (.int n :: .tuple (R.map rdD) :: rs)), .d (plD (a, b))]).run k w := by
  subst hn
  have hE' : ∀ e ∈ R.map enG, 0 ≤ e.2 ∧ e.2 < (N : Int) := fun e he => by
    obtain ⟨x, hx, rfl⟩ := List.mem_map.mp he
    exact hE x hx
  have hm' : (R.map enG).length ≤ 10 := by simpa using hm
  obtain ⟨G, hG⟩ : ∃ G : D, G = .tuple (.int (N : Int) :: .tuple (R.map rdD) :: rs) := ⟨_, rfl⟩
  unfold f_law_game_ways b_law_game_ways
  rw [rw_dRun]
  simp only [run_bind]
  refine seqM (fun δ => δ = [.p G, .p (plD (a, b)), .p (.list []), .p (.list ((Gm.rows0 a).map rowD)), .non, .non, .non, .non, .non, .non]) ?_ ?_
  · simp [sPar, dStart, arSl, Gm.rows0, rowD, tupI, plD, hG]
    exact ⟨line1, line2, line1⟩
  rintro _ rfl
  simp only [rw_sFz, fz, List.getElem?_cons_succ, List.getElem?_cons_zero]
  refine seqM (fun δ => ∃ s3 s4 s5 s6 s7 s8 s9, δ = [.p G, .p (plD (a, b)), .p (.list ((Gm.allF (R.map enG) b N (Gm.rows0 a)).map tupI)), s3, s4, s5, s6, s7, s8, s9]) ?_ ?_
  · simp only [rw_for, rw_rg1, rw_d2, rw_dV, rw_dC, List.getElem?_cons_zero, slotP_p, pure_bind, hG, rw_ixT, optW_some, rw_asI1, run_bind, run_need, run_pure]
    simp only [at0, optW_some, run_pure, rw_asI1, run_need, Int.toNat_natCast]
    refine ⟨lo62_le (by omega) (by omega), ?_⟩
    rw [← hG]
    refine loop_inv (fun i δ => i ≤ N ∧ ∃ s3 s4 s5 s6 s7 s8 s9, (s3 = .p (.list ((Gm.itR (R.map enG) b i (Gm.rows0 a)).map rowD)) ∨ s3 = .o ((Gm.itR (R.map enG) b i (Gm.rows0 a)).map rowD)) ∧ δ = [.p G, .p (plD (a, b)), .p (.list ((Gm.allF (R.map enG) b i (Gm.rows0 a)).map tupI)), s3, s4, s5, s6, s7, s8, s9]) ⟨Nat.zero_le _, _, _, _, _, _, _, _, .inl rfl, rfl⟩ ?_ ?_
    · rintro i _ d hd ⟨hi, s3, s4, s5, s6, s7, s8, s9, h3, rfl⟩
      obtain ⟨hiN, rfl⟩ := rgD_get hd
      refine ⟨_, rfl, ?_⟩
      have hok := Gm.rok_it (b := b) ha hE' i
      have hl1 := Gm.ext_le (a := a) (b := b) hm' (j := i) (by omega)
      have hl2 := Gm.allF_len (a := a) (b := b) hm' i (by omega)
      have hF' := Gm.allF_succ (E := R.map enG) (b := b) (j := i) (rows := Gm.rows0 a)
      have hI' := Gm.itR_succ (E := R.map enG) (b := b) (j := i) (rows := Gm.rows0 a)
      rw [hF', hI']
      unfold Gm.stepR
      clear hF' hI'
      have hnx := Gm.rok_ext1 hok hE'
      generalize hrows : Gm.itR (R.map enG) b i (Gm.rows0 a) = rows at *
      generalize Gm.allF (R.map enG) b i (Gm.rows0 a) = fnd at *
      refine seqM (fun δ => ∃ s4, δ = [.p G, .p (plD (a, b)), .p (.list (fnd.map tupI)), s3, s4, .o [], s6, s7, s8, s9]) ?_ ?_
      · simp
      rintro _ ⟨s4, rfl⟩
      have ef : fz 3 [.p G, .p (plD (a, b)), .p (.list (fnd.map tupI)), s3, s4, .o [], s6, s7, s8, s9] = [.p G, .p (plD (a, b)), .p (.list (fnd.map tupI)), .p (.list (rows.map rowD)), s4, .o [], s6, s7, s8, s9] := by
        rcases h3 with rfl | rfl <;> simp [fz]
      rw [rw_sFz, ef]
      refine seqM (fun δ => ∃ s6 s7 s8, δ = [.p G, .p (plD (a, b)), .p (.list (fnd.map tupI)), .p (.list (rows.map rowD)), s4, .o ((Gm.ext1 (R.map enG) rows).map rowD), s6, s7, s8, s9]) ?_ ?_
      · simp only [rw_for, rw_iSeqD, rw_dV, List.getElem?_cons_succ, List.getElem?_cons_zero, slotP_p, pure_bind, rw_seqL]
        refine loop_pre (fun pre δ => ∃ s6 s7 s8, δ = [.p G, .p (plD (a, b)), .p (.list (fnd.map tupI)), .p (.list (rows.map rowD)), s4, .o ((Gm.ext1 (R.map enG) pre).map rowD), s6, s7, s8, s9]) ⟨s6, s7, s8, by simp [Gm.ext1]⟩ ?_ ?_
        · rintro pre r post δ e ⟨s6, s7, s8, rfl⟩
          have hr := hok r (by rw [e]; simp)
          have hj2 := hr.lt
          have le : (Gm.ext1 (R.map enG) pre).length ≤ 1000000 := by
            have : (Gm.ext1 (R.map enG) pre).length ≤ (Gm.ext1 (R.map enG) rows).length := by
              rw [e]
              simp only [Gm.ext1, List.flatMap_append, List.length_append]
              omega
            omega
          obtain ⟨wy, ns⟩ := r
          refine ⟨[.p G, .p (plD (a, b)), .p (.list (fnd.map tupI)), .p (.list (rows.map rowD)), s4, .o ((Gm.ext1 (R.map enG) pre).map rowD), .p (tupI wy), .p (tupI ns), s8, s9], rfl, ?_⟩
          have hwl : wy.length = i := hr.wl
          have hnl : ns = a :: wy.map (Gm.tgt (R.map enG)) := hr.nl
          rw [hG]
          refine lw_in (b := b) (by rw [hnl]; simp) (by omega) (by rw [hnl]; simp; omega) (by omega) (by simp; omega) fun s8 => ?_
          refine ⟨.p (tupI wy), .p (tupI ns), s8, ?_⟩
          have ef : Gm.ext1 (R.map enG) (pre ++ [(wy, ns)]) = Gm.ext1 (R.map enG) pre ++ Gm.exts (R.map enG) (wy, ns) := by simp [Gm.ext1]
          simp only [ef, List.map_append]
        · rintro δ ⟨s6, s7, s8, rfl⟩
          exact ⟨_, rfl, s6, s7, s8, rfl⟩
      rintro _ ⟨s6, s7, s8, rfl⟩
      generalize Gm.ext1 (R.map enG) rows = X at hnx hl1
      simp only [rw_sFz, fz, List.getElem?_cons_succ, List.getElem?_cons_zero, List.set_cons_succ, List.set_cons_zero]
      have lf := Gm.fin_len (b := b) (rows := X)
      have lp : ∀ {sl : List Sl}, True := fun {_} => trivial
      refine seqM (fun δ => ∃ s6 s7, δ = [.p G, .p (plD (a, b)), .p (.list ((fnd ++ Gm.fin b X).map tupI)), .p (.list (rows.map rowD)), s4, .p (.list (X.map rowD)), s6, s7, s8, s9]) ?_ ?_
      · simp only [rw_set, rw_d2, rw_dV, rw_dNl, rw_nLc, rw_iSeqD, List.getElem?_cons_succ, List.getElem?_cons_zero, slotP_p, pure_bind, rw_seqL, run_bind, run_need, run_nox]
        refine ⟨lineN (by simp; omega), ?_⟩
        refine lc_run (p := Gm.isE b) (h := fun r => tupI r.1) (fun r hr => ?_) ?_
        · obtain ⟨la, h1, h2⟩ := row_last (ltrow (hnx r hr)) (b := b)
          refine ⟨_, rfl, fun kb hkb => ?_, fun _ kd hkd => ?_⟩
          · simp [plD, tupI, h1]
            rw [← h2]
            exact hkb
          · simpa using hkd
        · have e0 : (List.filter (Gm.isE b) X).map (fun r => tupI r.1) = (Gm.fin b X).map tupI := by simp [Gm.fin]
          rw [e0]
          simp
          exact lineN (by omega)
      rintro _ ⟨s6, s7, rfl⟩
      simp only [rw_sFz, fz, List.getElem?_cons_succ, List.getElem?_cons_zero, List.set_cons_succ, List.set_cons_zero, rw_setO, rw_nLc, rw_iSeqD, rw_dV, slotP_p, pure_bind, rw_seqL, run_bind, run_need, run_nox, run_pure]
      refine ⟨lineN (by simp; omega), ?_⟩
      refine lc_run (p := fun r => !Gm.isE b r) (h := rowD) (fun r hr => ?_) ?_
      · obtain ⟨la, h1, h2⟩ := row_last (ltrow (hnx r hr)) (b := b)
        refine ⟨_, rfl, fun kb hkb => ?_, fun _ kd hkd => ?_⟩
        · simp [plD, tupI, rowD, h1]
          rw [h2] at hkb
          exact hkb
        · simpa using hkd
      · exact ⟨by omega, _, _, _, _, _, _, _, .inr rfl, rfl⟩
    · rintro _ ⟨_, s3, s4, s5, s6, s7, s8, s9, _, rfl⟩
      simp only [rgD_len]
      exact ⟨_, rfl, _, _, _, _, _, _, _, rfl⟩
  rintro _ ⟨s3, s4, s5, s6, s7, s8, s9, rfl⟩
  simp
  refine sorted_run (fun x hx => (Gm.wok_all ha hE' N x hx).ne) ?_
  exact hk
end
section
variable {k : D → Prop} {w : Exn → Prop}
structure Gme where
  n : Nat
  rs : List GRd
  pl : List (Int × Int)
def gD (g : Gme) : D := .tuple [.int (g.n : Int), .tuple (g.rs.map rdD), .tuple (g.pl.map plD)]
def wys (g : Gme) (p : Int × Int) : List (List Int) := waysF (g.rs.map enG) p.1 p.2 g.n
def Bel (n : Nat) (x : Int) : Prop := 0 ≤ x ∧ x < n
structure TbOk (len : Nat) (c : List Int) : Prop where
  ln : c.length = len
  rg : ∀ x ∈ c, 0 ≤ x ∧ x ≤ 1000
  mo : ∀ i, i + 1 < len → c.getD i 0 ≤ c.getD (i + 1) 0
structure RdOk (n len : Nat) (r : GRd) : Prop where
  s : Bel n r.s
  t : Bel n r.t
  ne : r.s ≠ r.t
  c : TbOk len r.c
structure PlOk (g : Gme) (p : Int × Int) : Prop where
  a : Bel g.n p.1
  b : Bel g.n p.2
  ne : p.1 ≠ p.2
  w : wys g p ≠ []
structure GaOk (g : Gme) (len : Nat) : Prop where
  n2 : 2 ≤ g.n
  n6 : g.n ≤ 6
  r1 : 1 ≤ g.rs.length
  r8 : g.rs.length ≤ 8
  p1 : 1 ≤ g.pl.length
  p4 : g.pl.length ≤ 4
  rd : ∀ r ∈ g.rs, RdOk g.n len r
  pl : ∀ p ∈ g.pl, PlOk g p
def prodN (l : List Nat) : Nat := l.foldl (fun a b => a * b) 1
structure Few (g : Gme) : Prop where
  c8 : ∀ p ∈ g.pl, (wys g p).length ≤ 8
  s1 : prodN (g.pl.map fun p => (wys g p).length) ≤ 1000
structure StOk (g : Gme) (st : List (List Int)) : Prop where
  ln : st.length = g.pl.length
  wy : ∀ (i : Nat) (x : List Int) (p : Int × Int), st[i]? = some x → g.pl[i]? = some p → x ∈ wys g p
theorem rg_nat {n : Nat} : rgD 0 n = (List.range n).map fun (i : Nat) => PyData.int (i : Int) := by simp [rgD]
theorem istable_run {len : Nat} {c : List Int} (h : TbOk len c) (hl : len < 1000) (hk : k (.bool true)) : (f_is_table [.d (tupI c), .d (.int (len : Int))]).run k w := by
  have hln := h.ln
  simp [f_is_table, b_is_table, dStart, arSl, tupI, hln]
  refine ga_all (fun x hx => ⟨_, rfl, fun kb hkb => by simpa using hkb, fun kd hkd => ?_⟩) ?_
  · simp
    refine isin_run ?_
    simpa [h.rg x hx] using hkd
  · simp
    refine ⟨by unfold lo62; omega, ?_⟩
    rw [rg_nat]
    refine ga_all (fun i hi => ⟨_, rfl, fun kb hkb => by simpa using hkb, fun kd hkd => ?_⟩) hk
    have hi : i < len - 1 := by simpa using hi
    have h1 : i < c.length := by omega
    have h2 : i + 1 < c.length := by omega
    have e1 : atI (c.map PyData.int) (i : Int) = some (.int (c.getD i 0)) := by rw [atI_nat]; simp [h1]
    have e2 : atI (c.map PyData.int) ((i : Int) + 1) = some (.int (c.getD (i + 1) 0)) := by rw [show (i : Int) + 1 = ((i + 1 : Nat) : Int) by omega, atI_nat]; simp [h2]
    have e3 := h.mo i (by omega)
    simp [e1, e2]
    simp only [List.getD_eq_getElem?_getD] at e3
    simpa [e3] using hkd
theorem isroad_run {n len : Nat} {r : GRd} (h : RdOk n len r) (hl : len < 1000) (hk : k (.bool true)) : (f_is_game_road [.d (.int (n : Int)), .d (.int (len : Int)), .d (rdD r)]).run k w := by
  have h1 := h.s
  have h2 := h.t
  have h3 := h.ne
  unfold Bel at h1 h2
  simp [f_is_game_road, b_is_game_road, dStart, arSl, rdD]
  refine istable_run h.c hl ?_
  simp
  rw [show cutD [PyData.int r.s, .int r.t, tupI r.c] none (some 2) = [r.s, r.t].map PyData.int from by rw [show (2 : Int) = ((2 : Nat) : Int) from rfl, cut_take]; rfl]
  refine ga_all (fun x hx => ⟨_, rfl, fun kb hkb => by simpa using hkb, fun kd hkd => ?_⟩) ?_
  · simp
    refine isin_run ?_
    have : 0 ≤ x ∧ x ≤ (n : Int) - 1 := by
      simp at hx
      rcases hx with rfl | rfl <;> omega
    simpa [this] using hkd
  · simpa [h3] using hk
theorem netof_run {g : Gme} (hl : g.rs.length < 1000) (hk : k (netD g.n (g.rs.map fun r => (r.s, r.t, 0, 0)))) : (f_net_of [.d (gD g)]).run k w := by
  simp [f_net_of, b_net_of, dStart, arSl, gD]
  refine ⟨lineN (by omega), ?_⟩
  refine lc_run (p := fun _ => true) (h := fun r => rd4 (r.s, r.t, 0, 0)) (fun r hr => ⟨_, rfl, fun kb hkb => by simpa using hkb, fun _ kd hkd => ?_⟩) ?_
  · simp
    exact ⟨lineN (by omega), hkd⟩
  · rw [List.filter_eq_self.mpr (by simp)]
    refine ⟨line2, ?_⟩
    simpa [netD, Function.comp_def] using hk
theorem ways_of {g : Gme} {len : Nat} (h : GaOk g len) {a b : Int} (ha : Bel g.n a) (hk : k (.list ((wys g (a, b)).map tupI))) : (f_all_ways [.d (netD g.n (g.rs.map fun r => (r.s, r.t, 0, 0))), .d (.int a), .d (.int b)]).run k w := by
  refine allways_run (N := g.n) ha (fun x hx => ?_) (by have := h.r8; simp; omega) h.n6 ?_
  · obtain ⟨r, hr, rfl⟩ := List.mem_map.mp hx
    exact (h.rd r hr).t
  · have : (g.rs.map fun r => (r.s, r.t, (0 : Int), (0 : Int))).map en4 = g.rs.map enG := by simp [en4, enG]
    rw [this]
    exact hk
theorem isplayer_run {g : Gme} {len : Nat} (h : GaOk g len) {p : Int × Int} (hp : PlOk g p) (hk : k (.bool true)) : (f_is_player [.d (gD g), .d (plD p)]).run k w := by
  have h1 := hp.a
  have h2 := hp.b
  have h3 := hp.ne
  unfold Bel at h1 h2
  have e : plD p = .tuple ([p.1, p.2].map PyData.int) := rfl
  rw [e]
  simp [-List.map_cons, f_is_player, b_is_player, dStart, arSl]
  refine ga_all (fun x hx => ⟨_, rfl, fun kb hkb => by simpa using hkb, fun kd hkd => ?_⟩) ?_
  · simp [gD]
    refine isin_run ?_
    have : 0 ≤ x ∧ x ≤ (g.n : Int) - 1 := by
      simp at hx
      rcases hx with rfl | rfl <;> omega
    simpa [this] using hkd
  · simp [h3]
    refine netof_run (by have := h.r8; omega) ?_
    refine ways_of h hp.a ?_
    have : (wys g (p.1, p.2)).isEmpty = false := by
      have := hp.w
      cases e : wys g p with
      | nil => exact absurd e this
      | cons _ _ => rfl
    simpa [this] using hk
theorem needgame_run {g : Gme} {l : D} {len : Nat} (h : GaOk g len) (hl : len < 1000) (hlen : l = .int (len : Int) ∨ l = .none ∧ len = g.pl.length) (hk : k .none) : (f_need_game [.d (gD g), .d l]).run k w := by
  have h1 := h.n2
  have h2 := h.n6
  have h3 := h.r1
  have h4 := h.r8
  have h5 := h.p1
  have h6 := h.p4
  have i1 : (2 : Int) ≤ g.n := by omega
  have i2 : (g.n : Int) ≤ 6 := by omega
  have i3 : (1 : Int) ≤ (g.rs.length : Int) := by omega
  have i4 : (g.rs.length : Int) ≤ 8 := by omega
  have i5 : (1 : Int) ≤ (g.pl.length : Int) := by omega
  have i6 : (g.pl.length : Int) ≤ 4 := by omega
  obtain ⟨G, hG⟩ : ∃ G : D, G = gD g := ⟨_, rfl⟩
  have hG' : G = .tuple [.int (g.n : Int), .tuple (g.rs.map rdD), .tuple (g.pl.map plD)] := hG
  rw [← hG]
  unfold f_need_game b_need_game
  rw [rw_dRun]
  simp only [run_bind]
  refine seqM (fun δ => δ = [.p G, .p l, .non, .non]) ?_ ?_
  · simp [dStart, hG']
    refine isin_run ?_
    simp [i1, i2]
  rintro _ rfl
  refine seqM (fun δ => δ = [.p G, .p l, .non, .non]) ?_ ?_
  · simp [hG', i3, i4]
  rintro _ rfl
  refine seqM (fun δ => δ = [.p G, .p l, .non, .non]) ?_ ?_
  · simp [hG', i5, i6]
  rintro _ rfl
  refine seqM (fun δ => ∃ s2 s3, δ = [.p G, .p l, s2, s3]) ?_ ?_
  · simp only [rw_for, rw_iEnD, rw_d2, rw_dV, rw_dC, List.getElem?_cons_zero, slotP_p, pure_bind, hG', rw_ixT, at1, optW_some, rw_seqT]
    rw [enD_zip, ← hG']
    refine loop_pre (fun pre δ => ∃ s2 s3, δ = [.p G, .p l, s2, s3]) ⟨_, _, rfl⟩ ?_ ?_
    · rintro pre ⟨x, i⟩ post δ e ⟨s2, s3, rfl⟩
      have hx : g.rs[i]? = some x := zip_mem (p := (x, i)) (by rw [e]; simp)
      have hr := h.rd x (List.mem_of_getElem? hx)
      refine ⟨_, rfl, ?_⟩
      rcases hlen with rfl | ⟨rfl, rfl⟩
      · simp [hG', isNoneD]
        refine isroad_run hr hl ?_
        simp
      · simp [hG', isNoneD]
        refine isroad_run hr hl ?_
        simp
    · rintro _ ⟨s2, s3, rfl⟩
      exact ⟨_, rfl, _, _, rfl⟩
  rintro _ ⟨s2, s3, rfl⟩
  simp only [rw_for, rw_iEnD, rw_d2, rw_dV, rw_dC, List.getElem?_cons_zero, slotP_p, pure_bind, hG', rw_ixT, at2, optW_some, rw_seqT]
  rw [enD_zip, ← hG']
  refine loop_pre (fun pre δ => ∃ s2 s3, δ = [.p G, .p l, s2, s3]) ⟨_, _, rfl⟩ ?_ ?_
  · rintro pre ⟨x, i⟩ post δ e ⟨s2, s3, rfl⟩
    have hx : g.pl[i]? = some x := zip_mem (p := (x, i)) (by rw [e]; simp)
    have hr := h.pl x (List.mem_of_getElem? hx)
    refine ⟨_, rfl, ?_⟩
    simp
    rw [hG]
    refine isplayer_run h hr ?_
    simp
  · rintro _ ⟨s2, s3, rfl⟩
    simpa using hk
def chD (g : Gme) : D := .list (g.pl.map fun p => .list ((wys g p).map tupI))
theorem prod_snoc {l : List Nat} {a : Nat} : prodN (l ++ [a]) = prodN l * a := by simp [prodN]
theorem prod_pos : ∀ {l : List Nat}, (∀ a ∈ l, 0 < a) → 0 < prodN l := by
  suffices ∀ (l : List Nat) (b : Nat), 0 < b → (∀ a ∈ l, 0 < a) → 0 < l.foldl (fun a b => a * b) b from fun {l} h => this l _ (by omega) h
  intro l
  induction l with
  | nil => intro b hb _; exact hb
  | cons a l ih => intro b hb h; exact ih _ (Nat.mul_pos hb (h a (by simp))) fun x hx => h x (by simp [hx])
theorem prod_pre {l m : List Nat} (h : ∀ a ∈ m, 0 < a) : prodN l ≤ prodN (l ++ m) := by
  suffices ∀ (m : List Nat) (b : Nat), (∀ a ∈ m, 0 < a) → b ≤ m.foldl (fun a b => a * b) b by
    rw [prodN, prodN, List.foldl_append]
    exact this m _ h
  intro m
  induction m with
  | nil => intro b _; exact Nat.le_refl _
  | cons a m ih =>
    intro b h
    have h1 := ih (b * a) fun x hx => h x (by simp [hx])
    have h2 := Nat.le_mul_of_pos_right b (h a (by simp))
    simp only [List.foldl_cons]
    omega
theorem choices_run {g : Gme} {len : Nat} (h : GaOk g len) (hf : Few g) (hk : k (chD g)) : (f_choices_of [.d (gD g)]).run k w := by
  have p4 := h.p4
  obtain ⟨G, hG⟩ : ∃ G : D, G = gD g := ⟨_, rfl⟩
  have hG' : G = .tuple [.int (g.n : Int), .tuple (g.rs.map rdD), .tuple (g.pl.map plD)] := hG
  obtain ⟨T, hT⟩ : ∃ T : D, T = netD g.n (g.rs.map fun r => (r.s, r.t, 0, 0)) := ⟨_, rfl⟩
  unfold f_choices_of b_choices_of
  rw [rw_dRun]
  simp only [run_bind]
  refine seqM (fun δ => δ = [.p G, .p T, .o [], .p (.int 1), .non, .non, .non]) ?_ ?_
  · simp [dStart, sParDOD]
    refine netof_run (by have := h.r8; omega) ?_
    simp [← hG, ← hT]
  rintro _ rfl
  refine seqM (fun δ => ∃ s4 s5, δ = [.p G, .p T, .o (g.pl.map fun p => .list ((wys g p).map tupI)), .p (.int 1), s4, s5, .non]) ?_ ?_
  · simp only [rw_for, rw_iSeqD, rw_d2, rw_dV, rw_dC, List.getElem?_cons_zero, slotP_p, pure_bind, hG', rw_ixT, at2, optW_some, rw_seqT]
    rw [← hG']
    refine loop_pre (fun pre δ => ∃ s4 s5, δ = [.p G, .p T, .o (pre.map fun p => .list ((wys g p).map tupI)), .p (.int 1), s4, s5, .non]) ⟨_, _, rfl⟩ ?_ ?_
    · rintro pre p post δ e ⟨s4, s5, rfl⟩
      have hp := h.pl p (by rw [e]; simp)
      have lp : pre.length < g.pl.length := by
        have := congrArg List.length e
        simp at this
        omega
      refine ⟨[.p G, .p T, .o (pre.map fun p => .list ((wys g p).map tupI)), .p (.int 1), .p (.int p.1), .p (.int p.2), .non], rfl, ?_⟩
      simp
      rw [hT]
      refine ways_of h hp.a ?_
      simp
      exact lineL (by omega)
    · rintro _ ⟨s4, s5, rfl⟩
      exact ⟨_, rfl, _, _, rfl⟩
  rintro _ ⟨s4, s5, rfl⟩
  simp only [rw_sFz, fz, List.getElem?_cons_succ, List.getElem?_cons_zero, List.set_cons_succ, List.set_cons_zero]
  refine seqM (fun δ => δ = [.p G, .p T, .p (chD g), .p (.int 1), s4, s5, .non]) ?_ ?_
  · simp only [rw_if, rw_tT, rw_dGa, rw_iSeqD, rw_dV, List.getElem?_cons_succ, List.getElem?_cons_zero, slotP_p, pure_bind, rw_seqL, run_bind, run_nox]
    refine ga_any (p := fun _ => false) (fun p hp => ⟨_, rfl, fun kb hkb => by simpa using hkb, fun kd hkd => ?_⟩) ?_
    · have := hf.c8 p hp
      have h2 : ¬ (8 : Int) < ((wys g p).length : Int) := by omega
      simpa [h2] using hkd
    · simp [chD]
  rintro _ rfl
  simp only [rw_sFz, fz, List.getElem?_cons_succ, List.getElem?_cons_zero, List.set_cons_succ, List.set_cons_zero]
  refine seqM (fun δ => ∃ s6, δ = [.p G, .p T, .p (chD g), .p (.int (prodN (g.pl.map fun p => (wys g p).length) : Nat)), s4, s5, s6]) ?_ ?_
  · simp only [rw_for, rw_iSeqD, rw_dV, List.getElem?_cons_succ, List.getElem?_cons_zero, slotP_p, pure_bind, chD, rw_seqL]
    refine loop_pre (fun pre δ => ∃ s6, δ = [.p G, .p T, .p (chD g), .p (.int (prodN (pre.map fun p => (wys g p).length) : Nat)), s4, s5, s6]) ⟨_, rfl⟩ ?_ ?_
    · rintro pre p post δ e ⟨s6, rfl⟩
      refine ⟨_, rfl, ?_⟩
      have pos : ∀ a ∈ (p :: post).map (fun p => (wys g p).length), 0 < a := fun a ha => by
        obtain ⟨q, hq, rfl⟩ := List.mem_map.mp ha
        exact List.length_pos_iff.mpr (h.pl q (by rw [e]; exact List.mem_append_right _ hq)).w
      have b1 : prodN (pre.map fun p => (wys g p).length) ≤ 1000 := by
        have := prod_pre (l := pre.map fun p => (wys g p).length) pos
        rw [← List.map_append, ← e] at this
        have := hf.s1
        omega
      have b2 := hf.c8 p (by rw [e]; simp)
      simp
      refine ⟨wide_mul (a := 10) (b := 4) (by show _ < 1024; omega) (by show _ < 16; omega) (by omega) (by omega) (by omega), ?_⟩
      rw [prod_snoc]
      simp
    · rintro _ ⟨s6, rfl⟩
      exact ⟨_, rfl, _, rfl⟩
  rintro _ ⟨s6, rfl⟩
  have := hf.s1
  have h2 : ¬ (1000 : Int) < (prodN (g.pl.map fun p => (wys g p).length) : Nat) := by omega
  simp [h2]
  simpa [fz, chD] using hk
theorem inW {g : Gme} {p : Int × Int} {len : Nat} (h : GaOk g len) (hp : Bel g.n p.1) : ∀ x ∈ wys g p, Gm.WOk (g.rs.map enG) g.n x := fun x hx => by
  have hE' : ∀ e ∈ g.rs.map enG, 0 ≤ e.2 ∧ e.2 < (g.n : Int) := fun e he => by
    obtain ⟨y, hy, rfl⟩ := List.mem_map.mp he
    exact (h.rd y hy).t
  exact Gm.wok_all hp hE' g.n x (srtW_mem.mp hx)
theorem isstate_run {g : Gme} {st : List (List Int)} {len : Nat} (h : GaOk g len) (hs : StOk g st) (hk : k (.bool true)) : (f_is_state [.d (gD g), .d (stD st)]).run k w := by
  have hln := hs.ln
  have p4 := h.p4
  obtain ⟨G, hG⟩ : ∃ G : D, G = gD g := ⟨_, rfl⟩
  have hG' : G = .tuple [.int (g.n : Int), .tuple (g.rs.map rdD), .tuple (g.pl.map plD)] := hG
  unfold f_is_state b_is_state
  rw [rw_dRun]
  simp only [run_bind]
  refine seqM (fun δ => δ = [.p G, .p (stD st), .non, .non, .non, .non]) ?_ ?_
  · rw [← hG]
    simp [dStart, hG', stD, hln]
  rintro _ rfl
  refine seqM (fun δ => ∃ s2 s3 s4 s5, δ = [.p G, .p (stD st), s2, s3, s4, s5]) ?_ ?_
  · have hz : zipD (g.pl.map plD) (st.map tupI) = (g.pl.zip st).map fun q => .tuple [plD q.1, tupI q.2] := zipD_map
    simp only [rw_for, rw_iZpD, rw_d2, rw_dV, rw_dC, List.getElem?_cons_succ, List.getElem?_cons_zero, slotP_p, pure_bind, hG', rw_ixT, at2, optW_some, rw_seqT, stD]
    rw [hz, ← hG']
    refine loop_pre (fun pre δ => ∃ s2 s3 s4 s5, δ = [.p G, .p (stD st), s2, s3, s4, s5]) ⟨_, _, _, _, rfl⟩ ?_ ?_
    · rintro pre ⟨p, x⟩ post δ e ⟨s2, s3, s4, s5, rfl⟩
      have hz : (g.pl.zip st)[pre.length]? = some (p, x) := by rw [e]; simp
      obtain ⟨z1, z2⟩ := List.getElem?_zip_eq_some.mp hz
      have hw := hs.wy _ _ _ z2 z1
      have hp := h.pl p (List.mem_of_getElem? z1)
      have ok := inW h hp.a x hw
      refine ⟨[.p G, .p (stD st), .p (.int p.1), .p (.int p.2), .p (tupI x), s5], rfl, ?_⟩
      refine seqM (fun δ => ∃ s5, δ = [.p G, .p (stD st), .p (.int p.1), .p (.int p.2), .p (tupI x), s5]) ?_ ?_
      · simp only [rw_if, rw_tOr2, rw_tNotV, rw_tT, rw_isi, rw_dV, List.getElem?_cons_succ, List.getElem?_cons_zero, slotP_p, pure_bind, tupI, ty_tuple_tuple, optW_some, rw_truB, Bool.not_true, Bool.false_eq_true, if_false, rw_dGa, rw_iSeqD, rw_seqT, run_bind, run_nox]
        refine ga_all (fun y hy => ⟨_, rfl, fun kb hkb => by simpa using hkb, fun kd hkd => ?_⟩) ?_
        · simp
          refine isin_run ?_
          have h1 := ok.ix y hy
          have h2 := h.r8
          simp at h1
          have : 0 ≤ y ∧ y ≤ 8 := by omega
          simpa [this] using hkd
        · simp
      rintro _ ⟨s5, rfl⟩
      simp
      rw [hG]
      refine netof_run (by have := h.r8; omega) ?_
      refine ways_of h hp.a ?_
      have hin : (((wys g (p.1, p.2)).map tupI).any fun z => PyData.eqv z (tupI x)) = true := by
        rw [in_tup]
        simpa using hw
      simp [-List.any_map, hin]
    · rintro _ ⟨s2, s3, s4, s5, rfl⟩
      exact ⟨_, rfl, _, _, _, _, rfl⟩
  rintro _ ⟨s2, s3, s4, s5, rfl⟩
  simpa using hk
theorem needstate_run {g : Gme} {st : List (List Int)} (h : GaOk g g.pl.length) (hf : Few g) (hs : StOk g st) (hk : k .none) : (f_need_state [.d (gD g), .d (stD st)]).run k w := by
  have := h.p4
  simp [f_need_state, b_need_state, dStart]
  refine needgame_run h (by omega) (.inr ⟨rfl, rfl⟩) ?_
  refine isstate_run h hs ?_
  simp
  refine choices_run h hf ?_
  simpa using hk
def loadW (x : Int) (st : List (List Int)) (ws : List Int) : Int := (((st.zip ws).filter fun p => decide (x ∈ p.1)).map (·.2)).sum
structure WsOk (g : Gme) (ws : List Int) : Prop where
  ln : ws.length = g.pl.length
  rg : ∀ v ∈ ws, 0 ≤ v ∧ v ≤ 1000
theorem sum_le {α : Type} {v : α → Int} {B : Int} : ∀ {l : List α}, (∀ p ∈ l, 0 ≤ v p ∧ v p ≤ B) → 0 ≤ (l.map v).sum ∧ (l.map v).sum ≤ l.length * B := by
  intro l
  induction l with
  | nil => intro _; simp
  | cons p l ih =>
    intro h
    have h1 := h p (by simp)
    have h2 := ih fun q hq => h q (by simp [hq])
    simp only [List.map_cons, List.sum_cons, List.length_cons]
    have : ((l.length + 1 : Nat) : Int) * B = l.length * B + B := by rw [Int.natCast_add]; simp [Int.add_mul]
    omega
theorem load_le {x : Int} {st : List (List Int)} {ws : List Int} (h : ∀ v ∈ ws, 0 ≤ v ∧ v ≤ 1000) (hl : ws.length ≤ 100) : 0 ≤ loadW x st ws ∧ loadW x st ws ≤ 100000 := by
  have h1 := sum_le (v := fun p : List Int × Int => p.2) (B := 1000) (l := (st.zip ws).filter fun p => decide (x ∈ p.1)) fun p hp => h p.2 (List.of_mem_zip (List.mem_filter.mp hp).1).2
  have h2 := List.length_filter_le (fun p : List Int × Int => decide (x ∈ p.1)) (st.zip ws)
  have h3 : (st.zip ws).length ≤ ws.length := by simp; omega
  unfold loadW
  omega
theorem loadsof_run {g : Gme} {st : List (List Int)} {ws : List Int} {len : Nat} (h : GaOk g len) (hs : StOk g st) (hw : WsOk g ws) (hk : k (.list ((List.range g.rs.length).map fun (i : Nat) => .int (loadW i st ws)))) : (f_loads_of [.d (gD g), .d (stD st), .d (tupI ws)]).run k w := by
  have h8 := h.r8
  have p4 := h.p4
  have ll := fun x => load_le (x := x) (st := st) hw.rg (by rw [hw.ln]; omega)
  simp [f_loads_of, b_loads_of, dStart, gD]
  refine ⟨lo62_le (by omega) (by omega), lineN (by omega), ?_⟩
  rw [rg_nat]
  refine lc_run (p := fun _ => true) (h := fun (i : Nat) => .int (loadW i st ws)) (fun i hi => ⟨_, rfl, fun kb hkb => by simpa using hkb, fun _ kd hkd => ?_⟩) ?_
  · simp [stD, tupI]
    rw [zipD_map]
    refine gs_run (v := fun q : List Int × Int => q.2) (p := fun q => decide ((i : Int) ∈ q.1)) (B := 100000) (by omega) (by omega) (fun q hq _ => (hw.rg _ (List.of_mem_zip hq).2).1) ?_ ?_ ?_
    · have := (ll i).2
      rw [Int.zero_add]
      exact this
    · intro q hq
      refine ⟨_, rfl, fun kb hkb => ?_, fun _ kd hkd => ?_⟩
      · simp [-List.any_map, tupI]
        exact hkb
      · simpa using hkd
    · rw [Int.zero_add]
      exact hkd
  · rw [List.filter_eq_self.mpr (by simp)]
    exact hk
def onesW (g : Gme) : List Int := List.replicate g.pl.length 1
theorem ones_run {g : Gme} (hl : g.pl.length < 1000) (hk : k (tupI (onesW g))) : (f_ones [.d (gD g)]).run k w := by
  simp [f_ones, b_ones, dStart, gD]
  refine ⟨lineN (by omega), ?_⟩
  refine lc_run (p := fun _ => true) (h := fun _ => .int 1) (fun i hi => ⟨_, rfl, fun kb hkb => by simpa using hkb, fun _ kd hkd => by simpa using hkd⟩) ?_
  rw [List.filter_eq_self.mpr (by simp)]
  rw [List.map_const']
  simpa [tupI, onesW] using hk
def cost (g : Gme) (x l : Int) : Int := (g.rs.getD x.toNat ⟨0, 0, []⟩).c.getD (l - 1).toNat 0
def timeW (g : Gme) (st : List (List Int)) (ws : List Int) (p : Nat) : Int := ((st.getD p []).map fun x => cost g x (loadW x st ws)).sum
theorem cost_le {g : Gme} {len : Nat} (h : GaOk g len) (x l : Int) : 0 ≤ cost g x l ∧ cost g x l ≤ 1000 := by
  unfold cost
  rw [List.getD_eq_getElem?_getD, List.getD_eq_getElem?_getD]
  cases e : g.rs[x.toNat]? with
  | none => simp
  | some r =>
    have hr := (h.rd r (List.mem_of_getElem? e)).c
    simp only [Option.getD_some]
    cases e2 : r.c[(l - 1).toNat]? with
    | none => simp
    | some v => exact hr.rg v (List.mem_of_getElem? e2)
theorem way_len {g : Gme} {x : List Int} (h : Gm.WOk (g.rs.map enG) g.n x) : x.length ≤ g.rs.length := by
  have := Gm.nodup_le (T := (List.range g.rs.length).map fun (i : Nat) => (i : Int)) h.nd fun y hy => by
    have := h.ix y hy
    simp at this
    exact List.mem_map.mpr ⟨y.toNat, List.mem_range.mpr (by omega), by omega⟩
  simpa using this
theorem timein_run {g : Gme} {st : List (List Int)} {ws : List Int} {len p : Nat} (h : GaOk g len) (hs : StOk g st) (hw : WsOk g ws) (hp : p < g.pl.length) (hL : ∀ y ∈ st.getD p [], 1 ≤ loadW y st ws ∧ loadW y st ws ≤ len)
    (hk : k (.int (timeW g st ws p))) : (f_time_in [.d (gD g), .d (stD st), .d (tupI ws), .d (.int (p : Int))]).run k w := by
  have h8 := h.r8
  have hp' : p < st.length := by rw [hs.ln]; exact hp
  have hx : st[p]? = some (st.getD p []) := by simp [hp']
  have hq : g.pl[p]? = some g.pl[p] := List.getElem?_eq_getElem hp
  have hin := hs.wy p _ _ hx hq
  have ok := inW h (h.pl _ (List.getElem_mem hp)).a _ hin
  have xl := way_len ok
  unfold timeW at hk
  generalize st.getD p [] = x at *
  simp [f_time_in, b_time_in, dStart]
  refine loadsof_run h hs hw ?_
  have e1 : atI (st.map tupI) (p : Int) = some (tupI x) := by rw [atI_nat, List.getElem?_map, hx]; rfl
  simp [stD, e1, tupI]
  refine gs_run (v := fun y => cost g y (loadW y st ws)) (p := fun _ => true) (B := 100000) (by omega) (by omega) (fun y hy _ => (cost_le h y _).1) ?_ ?_ ?_
  · rw [List.filter_eq_self.mpr (by simp)]
    have := sum_le (v := fun y => cost g y (loadW y st ws)) (B := 1000) (l := x) fun y _ => cost_le h y _
    omega
  · intro y hy
    refine ⟨_, rfl, fun kb hkb => by simpa using hkb, fun _ kd hkd => ?_⟩
    obtain ⟨l1, l2⟩ := hL y hy
    have iy := ok.ix y hy
    simp at iy
    obtain ⟨m, rfl⟩ : ∃ m : Nat, y = m := ⟨y.toNat, by omega⟩
    have hm : m < g.rs.length := by omega
    have e2 : atI (g.rs.map rdD) (m : Int) = some (rdD g.rs[m]) := by rw [atI_nat, List.getElem?_map, List.getElem?_eq_getElem hm]; rfl
    have e3 : atI ((List.range g.rs.length).map fun (i : Nat) => PyData.int (loadW i st ws)) (m : Int) = some (.int (loadW m st ws)) := by rw [atI_nat, List.getElem?_map, List.getElem?_range hm]; rfl
    have hc := (h.rd _ (List.getElem_mem hm)).c.ln
    have e4 : atI (g.rs[m].c.map PyData.int) (loadW m st ws - 1) = some (.int (cost g m (loadW m st ws))) := by
      obtain ⟨z, hz⟩ : ∃ z : Nat, loadW m st ws - 1 = z := ⟨(loadW m st ws - 1).toNat, by omega⟩
      have hzl : z < g.rs[m].c.length := by omega
      rw [hz, atI_nat, List.getElem?_map, List.getElem?_eq_getElem hzl]
      simp [cost, hm, hz, hzl]
    simp [gD, e2, e3, rdD, tupI, e4]
    exact hkd
  · rw [List.filter_eq_self.mpr (by simp), Int.zero_add]
    exact hk
end
section
variable {k : D → Prop} {w : Exn → Prop}
def cntW (x : Int) (st : List (List Int)) : Nat := (st.filter fun y => decide (x ∈ y)).length
theorem load_ones {x : Int} : ∀ {st : List (List Int)}, loadW x st (List.replicate st.length 1) = cntW x st := by
  intro st
  unfold loadW cntW
  induction st with
  | nil => simp
  | cons y st ih =>
    rw [List.length_cons, List.replicate_succ, List.zip_cons_cons, List.filter_cons, List.filter_cons]
    by_cases c : x ∈ y
    · simp only [c, decide_true, if_true, List.map_cons, List.sum_cons, List.length_cons]
      rw [ih]
      omega
    · simp only [c, decide_false, Bool.false_eq_true, if_false]
      exact ih
theorem cnt_le {x : Int} {st : List (List Int)} : cntW x st ≤ st.length := List.length_filter_le _ _
theorem cnt_pos {x : Int} {st : List (List Int)} {y : List Int} (h : y ∈ st) (hx : x ∈ y) : 1 ≤ cntW x st := by
  unfold cntW
  exact List.length_pos_of_mem (List.mem_filter.mpr ⟨h, by simpa using hx⟩)
theorem ones_ok {g : Gme} : WsOk g (onesW g) := ⟨by simp [onesW], fun v hv => by
  unfold onesW at hv
  have := List.eq_of_mem_replicate hv
  omega⟩
theorem load_one {g : Gme} {st : List (List Int)} (hs : StOk g st) (x : Int) : loadW x st (onesW g) = cntW x st := by
  unfold onesW
  rw [← hs.ln]
  exact load_ones
theorem one_bd {g : Gme} {st : List (List Int)} (hs : StOk g st) {p : Nat} (hp : p < g.pl.length) : ∀ y ∈ st.getD p [], 1 ≤ loadW y st (onesW g) ∧ loadW y st (onesW g) ≤ g.pl.length := by
  intro y hy
  rw [load_one hs]
  have h1 : st.getD p [] ∈ st := by
    have : p < st.length := by rw [hs.ln]; exact hp
    simp [this]
  have h2 := cnt_pos h1 hy
  have h3 := cnt_le (x := y) (st := st)
  have := hs.ln
  omega
def tmW (g : Gme) (st : List (List Int)) (p : Nat) : Int := timeW g st (onesW g) p
def tmsW (g : Gme) (st : List (List Int)) : List Int := (List.range g.pl.length).map (tmW g st)
theorem time_le {g : Gme} {st : List (List Int)} {ws : List Int} {len p : Nat} (h : GaOk g len) (hs : StOk g st) (hp : p < g.pl.length) : 0 ≤ timeW g st ws p ∧ timeW g st ws p ≤ 8000 := by
  have h8 := h.r8
  have hp' : p < st.length := by rw [hs.ln]; exact hp
  have hx : st[p]? = some (st.getD p []) := by simp [hp']
  have hq : g.pl[p]? = some g.pl[p] := List.getElem?_eq_getElem hp
  have hin := hs.wy p _ _ hx hq
  have ok := inW h (h.pl _ (List.getElem_mem hp)).a _ hin
  have xl := way_len ok
  have := sum_le (v := fun y => cost g y (loadW y st ws)) (B := 1000) (l := st.getD p []) fun y _ => cost_le h y _
  unfold timeW
  omega
def totW (g : Gme) (st : List (List Int)) : Int := (tmsW g st).sum
def roadW (g : Gme) (i : Nat) : GRd := g.rs.getD i ⟨0, 0, []⟩
def potW (g : Gme) (st : List (List Int)) : Int := ((List.range g.rs.length).map fun (i : Nat) => ((roadW g i).c.take (cntW i st)).sum).sum
def wayAt (st : List (List Int)) (i : Nat) : List Int := st.getD i []
end
section
variable {k : D → Prop} {w : Exn → Prop} {C : Cs} {r : Addr} {φ : Heap → Prop}
def prodW (ls : List (List (List Int))) : List (List (List Int)) := ls.foldl (fun rows ways => rows.flatMap fun one => ways.map fun x => one ++ [x]) [[]]
theorem prodW_snoc {ls : List (List (List Int))} {l : List (List Int)} : prodW (ls ++ [l]) = (prodW ls).flatMap fun one => l.map fun x => one ++ [x] := by simp [prodW]
theorem flatMap_snoc' {α β : Type} {f : α → List β} {l : List α} {x : α} : (l ++ [x]).flatMap f = l.flatMap f ++ f x := by simp
theorem prodW_len {ls : List (List (List Int))} : (prodW ls).length = prodN (ls.map List.length) := by
  suffices ∀ (n : Nat) (ls : List (List (List Int))), ls.length = n → (prodW ls).length = prodN (ls.map List.length) from this _ ls rfl
  intro n
  induction n with
  | zero =>
    intro ls h
    rw [List.length_eq_zero_iff.mp h]
    rfl
  | succ n ih =>
    intro ls h
    rcases List.eq_nil_or_concat ls with rfl | ⟨L, b, rfl⟩
    · simp at h
    · simp only [List.concat_eq_append] at *
      have hL := ih L (by simpa using h)
      rw [prodW_snoc, List.map_append, List.map_singleton, prod_snoc, ← hL, List.length_flatMap]
      have : (prodW L).map (fun a => (b.map fun x => a ++ [x]).length) = (prodW L).map fun _ => b.length := by simp
      rw [this, List.map_const', List.sum_replicate_nat]
theorem prodW_mem {ls : List (List (List Int))} {st : List (List Int)} : st ∈ prodW ls ↔ st.length = ls.length ∧ ∀ (i : Nat) (x : List Int) (l : List (List Int)), st[i]? = some x → ls[i]? = some l → x ∈ l := by
  suffices ∀ (n : Nat) (ls : List (List (List Int))) (st : List (List Int)), ls.length = n → (st ∈ prodW ls ↔ st.length = ls.length ∧ ∀ (i : Nat) (x : List Int) (l : List (List Int)), st[i]? = some x → ls[i]? = some l → x ∈ l) from this _ ls st rfl
  intro n
  induction n with
  | zero =>
    intro ls st h
    rw [List.length_eq_zero_iff.mp h]
    constructor
    · intro hm
      have : st = [] := by simpa [prodW] using hm
      subst this
      exact ⟨rfl, fun i x l h _ => by simp at h⟩
    · rintro ⟨hl, _⟩
      rw [List.length_eq_zero_iff.mp hl]
      simp [prodW]
  | succ n ih =>
    intro ls st h
    rcases List.eq_nil_or_concat ls with rfl | ⟨L, b, rfl⟩
    · simp at h
    · simp only [List.concat_eq_append] at *
      have hLn : L.length = n := by simpa using h
      rw [prodW_snoc, List.mem_flatMap]
      constructor
      · rintro ⟨one, h1, h2⟩
        obtain ⟨x, hx, rfl⟩ := List.mem_map.mp h2
        obtain ⟨hl, hm⟩ := (ih L one hLn).mp h1
        refine ⟨by simp [hl], fun i y l e1 e2 => ?_⟩
        rcases Nat.lt_or_ge i L.length with z | z
        · rw [List.getElem?_append_left (by omega)] at e1 e2
          exact hm i y l e1 e2
        · rw [List.getElem?_append_right (by omega)] at e1 e2
          have : i = L.length := by
            have := (List.getElem?_eq_some_iff.mp e2).1
            simp at this
            omega
          subst this
          simp [hl] at e1 e2
          rw [← e1, ← e2]
          exact hx
      · rintro ⟨hl, hm⟩
        rcases List.eq_nil_or_concat st with rfl | ⟨one, x, rfl⟩
        · simp at hl
        · simp only [List.concat_eq_append] at *
          have hol : one.length = L.length := by simpa using hl
          refine ⟨one, (ih L one hLn).mpr ⟨hol, fun i y l e1 e2 => ?_⟩, List.mem_map.mpr ⟨x, ?_, rfl⟩⟩
          · have z := (List.getElem?_eq_some_iff.mp e2).1
            exact hm i y l (by rw [List.getElem?_append_left (by omega)]; exact e1) (by rw [List.getElem?_append_left (by omega)]; exact e2)
          · exact hm L.length x b (by rw [List.getElem?_append_right (by omega)]; simp [hol]) (by simp)
def stsW (g : Gme) : List (List (List Int)) := prodW (g.pl.map (wys g))
theorem stsW_mem {g : Gme} {st : List (List Int)} : st ∈ stsW g ↔ StOk g st := by
  unfold stsW
  rw [prodW_mem]
  constructor
  · rintro ⟨h1, h2⟩
    exact ⟨by simpa using h1, fun i x p e1 e2 => h2 i x _ e1 (by rw [List.getElem?_map, e2]; rfl)⟩
  · intro h
    refine ⟨by simpa using h.ln, fun i x l e1 e2 => ?_⟩
    rw [List.getElem?_map] at e2
    obtain ⟨p, hp, rfl⟩ := Option.map_eq_some_iff.mp e2
    exact h.wy i x p e1 hp
theorem lstates_run {g : Gme} {len : Nat} (h : GaOk g len) (hp3 : g.pl.length ≤ 3) (h0 : k .none) (h1 : Few g → k (.list ((stsW g).map stD))) : (f_law_states [.d (gD g)]).run k w := by
  have p1 := h.p1
  obtain ⟨G, hG⟩ : ∃ G : D, G = gD g := ⟨_, rfl⟩
  have hG' : G = .tuple [.int (g.n : Int), .tuple (g.rs.map rdD), .tuple (g.pl.map plD)] := hG
  obtain ⟨S, hS⟩ : ∃ S : D, S = .list (g.pl.map fun p => .list ((wys g p).map tupI)) := ⟨_, rfl⟩
  unfold f_law_states b_law_states
  rw [rw_dRun]
  simp only [run_bind]
  refine seqM (fun δ => δ = [.p G, .p S, .p (.list [.tuple []]), .non, .non, .non, .non, .non]) ?_ ?_
  · simp [sPar, dStart]
    rw [← hG, hG']
    simp
    refine ⟨lineN (by omega), ?_⟩
    refine lc_run (p := fun _ => true) (h := fun p => .list ((wys g p).map tupI)) (fun p hp => ⟨_, rfl, fun kb hkb => by simpa using hkb, fun _ kd hkd => ?_⟩) ?_
    · simp
      exact lways_run (N := g.n) rfl (h.pl p hp).a (fun x hx => (h.rd x hx).t) (by have := h.r8; omega) h.n6 hkd
    · rw [List.filter_eq_self.mpr (by simp)]
      exact ⟨line1, by simp [hS]⟩
  rintro _ rfl
  refine seqM' (fun δ => (∀ p ∈ g.pl, (wys g p).length ≤ 8) ∧ ∃ s4, δ = [.p G, .p S, .p (.list [.tuple []]), .non, s4, .non, .non, .non]) ?_ ?_
  · simp only [rw_if, rw_tBv, rw_d2, rw_dCB, rw_aCons, rw_aNil, rw_dNl, rw_nLc, rw_iSeqD, rw_dV, rw_dC, List.getElem?_cons_succ, List.getElem?_cons_zero, slotP_p, pure_bind, hS, rw_seqL, run_bind, run_need, run_nox]
    refine ⟨lineN (by simp; omega), ?_⟩
    refine lc_run (p := fun _ => true) (h := fun p => .int ((wys g p).length : Int)) (fun p hp => ⟨_, rfl, fun kb hkb => by simpa using hkb, fun _ kd hkd => by simpa using hkd⟩) ?_
    rw [List.filter_eq_self.mpr (by simp)]
    have e1 : g.pl.map (fun p => PyData.int ((wys g p).length : Int)) = (g.pl.map fun p => ((wys g p).length : Int)).map .int := by simp
    simp only [run_pure, rw_allD1, rw_allD0, pure_bind]
    rw [e1]
    refine maxA_ints (tp := .list) (.inr rfl) (by simp; omega) fun m hm hmx => ?_
    simp
    by_cases c : 8 < m
    · simp [c]
      exact h0
    · simp [c]
      intro a b hp
      have := hmx ((wys g (a, b)).length) (List.mem_map.mpr ⟨(a, b), hp, rfl⟩)
      omega
  rintro _ ⟨hc, s4, rfl⟩
  refine seqM (fun δ => ∃ s4 s5 s6 s7, δ = [.p G, .p S, .p (.list ((stsW g).map stD)), .non, s4, s5, s6, s7]) ?_ ?_
  · simp only [rw_for, rw_iSeqD, rw_dV, List.getElem?_cons_succ, List.getElem?_cons_zero, slotP_p, pure_bind, hS, rw_seqL]
    rw [← hS]
    have pb : ∀ pre post : List (Int × Int), g.pl = pre ++ post → (prodW (pre.map (wys g))).length ≤ 512 := by
      intro pre post e
      have hl : pre.length ≤ 3 := by
        have := congrArg List.length e
        simp at this
        omega
      rw [prodW_len, List.map_map]
      have : ∀ (m : Nat) (l : List Nat), l.length = m → (∀ a ∈ l, a ≤ 8) → prodN l ≤ 8 ^ m := by
        intro m
        induction m with
        | zero => intro l hl _; rw [List.length_eq_zero_iff.mp hl]; exact Nat.le_refl _
        | succ m ih =>
          intro l hl hb
          rcases List.eq_nil_or_concat l with rfl | ⟨L, b, rfl⟩
          · simp at hl
          · simp only [List.concat_eq_append] at *
            rw [prod_snoc, Nat.pow_succ]
            exact Nat.mul_le_mul (ih L (by simpa using hl) fun a ha => hb a (by simp [ha])) (hb b (by simp))
      have h8 := this _ (pre.map (List.length ∘ wys g)) rfl fun a ha => by
        obtain ⟨p, hp, rfl⟩ := List.mem_map.mp ha
        exact hc p (by rw [e]; simp [hp])
      rw [List.length_map] at h8
      have : 8 ^ pre.length ≤ 8 ^ 3 := Nat.pow_le_pow_right (by omega) hl
      omega
    refine loop_pre (fun pre δ => ∃ s4 s5 s6 s7, δ = [.p G, .p S, .p (.list ((prodW (pre.map (wys g))).map stD)), .non, s4, s5, s6, s7]) ⟨_, _, _, _, rfl⟩ ?_ ?_
    · rintro pre p post δ e ⟨s4, s5, s6, s7, rfl⟩
      have b1 := pb pre (p :: post) e
      have b2 := pb (pre ++ [p]) post (by simp [e])
      have b3 := hc p (by rw [e]; simp)
      refine ⟨[.p G, .p S, .p (.list ((prodW (pre.map (wys g))).map stD)), .non, s4, .p (.list ((wys g p).map tupI)), s6, s7], rfl, ?_⟩
      rw [List.map_append, List.map_singleton, prodW_snoc] at b2 ⊢
      have hrl : ∀ one ∈ prodW (pre.map (wys g)), one.length ≤ 3 := fun one ho => by
        have := (prodW_mem.mp ho).1
        have e2 := congrArg List.length e
        simp at this e2
        omega
      generalize prodW (pre.map (wys g)) = rows at b1 b2 hrl
      refine seqM (fun δ => δ = [.p G, .p S, .p (.list (rows.map stD)), .non, s4, .p (.list ((wys g p).map tupI)), .p (.list []), s7]) ?_ ?_
      · simp
      rintro _ rfl
      refine seqM (fun δ => ∃ s4, δ = [.p G, .p S, .p (.list (rows.map stD)), .non, s4, .p (.list ((wys g p).map tupI)), .p (.list ((rows.flatMap fun one => (wys g p).map fun x => one ++ [x]).map stD)), s7]) ?_ ?_
      · simp only [rw_for, rw_iSeqD, rw_dV, List.getElem?_cons_succ, List.getElem?_cons_zero, slotP_p, pure_bind, rw_seqL]
        refine loop_pre (fun pre δ => ∃ s4, δ = [.p G, .p S, .p (.list (rows.map stD)), .non, s4, .p (.list ((wys g p).map tupI)), .p (.list ((pre.flatMap fun one => (wys g p).map fun x => one ++ [x]).map stD)), s7]) ⟨_, rfl⟩ ?_ ?_
        · rintro pr one po δ e2 ⟨s4, rfl⟩
          have hol := hrl one (by rw [e2]; simp)
          have hb : ((pr ++ [one]).flatMap fun one => (wys g p).map fun x => one ++ [x]).length ≤ 512 := by
            have : (rows.flatMap fun one => (wys g p).map fun x => one ++ [x]).length = ((pr ++ [one]).flatMap fun one => (wys g p).map fun x => one ++ [x]).length + (po.flatMap fun one => (wys g p).map fun x => one ++ [x]).length := by
              rw [← List.length_append, ← List.flatMap_append, e2]
              simp
            omega
          rw [flatMap_snoc'] at hb ⊢
          generalize (pr.flatMap fun one => (wys g p).map fun x => one ++ [x]) = mr at hb
          rw [List.length_append, List.length_map] at hb
          refine ⟨[.p G, .p S, .p (.list (rows.map stD)), .non, .p (stD one), .p (.list ((wys g p).map tupI)), .p (.list (mr.map stD)), s7], rfl, ?_⟩
          simp only [rw_set, rw_d2, rw_dV, rw_dNl, rw_nLc, rw_iSeqD, List.getElem?_cons_succ, List.getElem?_cons_zero, slotP_p, pure_bind, rw_seqL, run_bind, run_need, run_nox]
          refine ⟨lineN (by simp; omega), ?_⟩
          refine lc_run (p := fun _ => true) (h := fun x => stD (one ++ [x])) (fun x hx => ⟨_, rfl, fun kb hkb => by simpa using hkb, fun _ kd hkd => ?_⟩) ?_
          · simp [stD]
            refine ⟨line1, lineN (by omega), ?_⟩
            simpa [stD] using hkd
          · rw [List.filter_eq_self.mpr (by simp)]
            simp
            exact lineN (by omega)
        · rintro _ ⟨s4, rfl⟩
          exact ⟨_, rfl, _, rfl⟩
      rintro _ ⟨s4, rfl⟩
      simp
    · rintro _ ⟨s4, s5, s6, s7, rfl⟩
      exact ⟨_, rfl, _, _, _, _, rfl⟩
  rintro _ ⟨s4, s5, s6, s7, rfl⟩
  simp
  by_cases c : (stsW g).length ≤ 1000
  · have : ((stsW g).length : Int) ≤ 1000 := by omega
    simp [this]
    refine h1 ⟨hc, ?_⟩
    have e := prodW_len (ls := g.pl.map (wys g))
    rw [List.map_map] at e
    exact e ▸ c
  · have : ¬ ((stsW g).length : Int) ≤ 1000 := by omega
    simp [this]
    exact h0
theorem filt_zip {x : Int} {st : List (List Int)} {ws : List Int} (hl : ws.length = st.length) : ((List.range st.length).filter fun j => decide (x ∈ wayAt st j)).map (fun j => ws.getD j 0) = ((st.zip ws).filter fun p => decide (x ∈ p.1)).map (·.2) := by
  have : st.zip ws = (List.range st.length).map fun j => (wayAt st j, ws.getD j 0) := by
    apply List.ext_getElem?
    intro i
    rw [List.getElem?_map]
    by_cases h : i < st.length
    · have h2 : i < ws.length := by omega
      have hz : (st.zip ws)[i]? = some (st[i], ws[i]) := List.getElem?_zip_eq_some.mpr ⟨by simp [h], by simp [h2]⟩
      rw [List.getElem?_range h, hz]
      simp [wayAt, h, h2]
    · rw [List.getElem?_eq_none (by simp; omega), List.getElem?_eq_none (by simp; omega)]
      rfl
  rw [this, List.filter_map, List.map_map]
  rfl
theorem lptime_run {g : Gme} {st : List (List Int)} {ws : List Int} {len p : Nat} (h : GaOk g len) (hs : StOk g st) (hw : WsOk g ws) (hp : p < g.pl.length) (hL : ∀ y ∈ st.getD p [], 1 ≤ loadW y st ws ∧ loadW y st ws ≤ len)
    (hk : k (.int (timeW g st ws p))) : (f_law_player_time [.d (gD g), .d (stD st), .d (tupI ws), .d (.int (p : Int))]).run k w := by
  have h8 := h.r8
  have p4 := h.p4
  have hsl := hs.ln
  have hp' : p < st.length := by rw [hs.ln]; exact hp
  have hx : st[p]? = some (st.getD p []) := by simp [hp']
  have hq : g.pl[p]? = some g.pl[p] := List.getElem?_eq_getElem hp
  have hin := hs.wy p _ _ hx hq
  have ok := inW h (h.pl _ (List.getElem_mem hp)).a _ hin
  unfold timeW at hk
  generalize st.getD p [] = x at *
  have e1 : atI (st.map tupI) (p : Int) = some (tupI x) := by rw [atI_nat, List.getElem?_map, hx]; rfl
  obtain ⟨G, hG⟩ : ∃ G : D, G = gD g := ⟨_, rfl⟩
  have hG' : G = .tuple [.int (g.n : Int), .tuple (g.rs.map rdD), .tuple (g.pl.map plD)] := hG
  rw [← hG]
  unfold f_law_player_time b_law_player_time
  rw [rw_dRun]
  simp only [run_bind]
  refine seqM (fun δ => δ = [.p G, .p (stD st), .p (tupI ws), .p (.int (p : Int)), .p (.int 0), .non, .non, .non]) ?_ ?_
  · simp [dStart]
  rintro _ rfl
  refine seqM (fun δ => ∃ s5 s6 s7, δ = [.p G, .p (stD st), .p (tupI ws), .p (.int (p : Int)), .p (.int ((x.map fun x => cost g x (loadW x st ws)).sum)), s5, s6, s7]) ?_ ?_
  · simp only [rw_for, rw_iSeqD, rw_d2, rw_dV, List.getElem?_cons_succ, List.getElem?_cons_zero, slotP_p, pure_bind, stD, rw_ixT, e1, optW_some, tupI, rw_seqT]
    refine loop_pre (fun pre δ => ∃ s5 s6 s7, δ = [.p G, .p (stD st), .p (tupI ws), .p (.int (p : Int)), .p (.int ((pre.map fun x => cost g x (loadW x st ws)).sum)), s5, s6, s7]) ⟨_, _, _, rfl⟩ ?_ ?_
    · rintro pre y post δ e ⟨s5, s6, s7, rfl⟩
      have hy : y ∈ x := by rw [e]; simp
      obtain ⟨l1, l2⟩ := hL y hy
      have iy := ok.ix y hy
      simp at iy
      refine ⟨[.p G, .p (stD st), .p (tupI ws), .p (.int (p : Int)), .p (.int ((pre.map fun x => cost g x (loadW x st ws)).sum)), .p (.int y), s6, s7], rfl, ?_⟩
      refine seqM (fun δ => δ = [.p G, .p (stD st), .p (tupI ws), .p (.int (p : Int)), .p (.int ((pre.map fun x => cost g x (loadW x st ws)).sum)), .p (.int y), .p (.int (loadW y st ws)), s7]) ?_ ?_
      · simp only [rw_set, rw_dCB, rw_aCons, rw_aNil, rw_dNl, rw_nLc, rw_rg1, rw_dV, List.getElem?_cons_succ, List.getElem?_cons_zero, slotP_p, pure_bind, stD, rw_allD1, rw_allD0, rw_lenT, rw_asI1, run_bind, run_need, run_nox, run_pure, List.length_map, Int.toNat_natCast, rgD_len]
        refine ⟨lo62_le (by omega) (by omega), lineN (by omega), ?_⟩
        rw [rg_nat]
        refine lc_run (p := fun j => decide (y ∈ wayAt st j)) (h := fun (j : Nat) => .int (ws.getD j 0)) (fun j hj => ?_) ?_
        · have hj := List.mem_range.mp hj
          have e3 : atI (st.map tupI) (j : Int) = some (tupI (wayAt st j)) := by rw [atI_nat]; simp [hj, wayAt]
          have hj2 : j < ws.length := by rw [hw.ln]; omega
          have e4 : atI (ws.map PyData.int) (j : Int) = some (.int (ws.getD j 0)) := by rw [atI_nat]; simp [hj2]
          refine ⟨_, rfl, fun kb hkb => ?_, fun _ kd hkd => ?_⟩
          · simp [-List.any_map, e3]
            simp [-List.any_map, tupI]
            exact hkb
          · simp only [rw_d2, rw_dV, List.set_cons_succ, List.set_cons_zero, List.map_cons, List.map_nil, dWipe, List.getElem?_cons_succ, List.getElem?_cons_zero, rw_wipe1, rw_wipe0, sIn_p, slotP_p, pure_bind, tupI, rw_ixT, e4, optW_some, run_pure]
            exact hkd
        · have e5 := filt_zip (x := y) (by rw [hw.ln, hsl] : ws.length = st.length)
          rw [show (List.map (fun (j : Nat) => PyData.int (ws.getD j 0)) (List.filter (fun j => decide (y ∈ wayAt st j)) (List.range st.length))) = ((List.map (fun j => ws.getD j 0) (List.filter (fun j => decide (y ∈ wayAt st j)) (List.range st.length))).map .int) by simp, e5]
          refine sumA_run (.inr rfl) ?_
          exact ⟨_, rfl, rfl⟩
      rintro _ rfl
      obtain ⟨m, rfl⟩ : ∃ m : Nat, y = m := ⟨y.toNat, by omega⟩
      have hm : m < g.rs.length := by omega
      have e2 : atI (g.rs.map rdD) (m : Int) = some (rdD g.rs[m]) := by rw [atI_nat, List.getElem?_map, List.getElem?_eq_getElem hm]; rfl
      have hc := (h.rd _ (List.getElem_mem hm)).c.ln
      have e4 : atI (g.rs[m].c.map PyData.int) (loadW m st ws - 1) = some (.int (cost g m (loadW m st ws))) := by
        obtain ⟨z, hz⟩ : ∃ z : Nat, loadW m st ws - 1 = z := ⟨(loadW m st ws - 1).toNat, by omega⟩
        have hzl : z < g.rs[m].c.length := by omega
        rw [hz, atI_nat, List.getElem?_map, List.getElem?_eq_getElem hzl]
        simp [cost, hm, hz, hzl]
      simp only [rw_set, rw_d2, rw_dV, rw_dC, List.getElem?_cons_succ, List.getElem?_cons_zero, slotP_p, pure_bind, hG', rw_ixT, at1, at2, optW_some, e2, rdD, tupI, rw_int2, run_bind, run_need, run_pure, true_and, e4]
      simp
    · rintro _ ⟨s5, s6, s7, rfl⟩
      exact ⟨_, rfl, _, _, _, rfl⟩
  rintro _ ⟨s5, s6, s7, rfl⟩
  simpa using hk
end
section
variable {k : D → Prop} {w : Exn → Prop} {C : Cs} {r : Addr} {φ : Heap → Prop}
def Strt (len : Nat) (c : List Int) : Prop := ∃ a b : Int, 0 ≤ a ∧ a ≤ 5 ∧ 0 ≤ b ∧ b ≤ 10 ∧ c = (List.range len).map fun (i : Nat) => a * ((i : Int) + 1) + b
structure TbL (str : Bool) (len : Nat) (c : List Int) : Prop where
  ok : TbOk len c
  sm : ∀ x ∈ c, x ≤ 100
  st : str = true → Strt len c
theorem rg_nat1 {n : Nat} : rgD 0 n = (List.range n).map fun (i : Nat) => PyData.int (i : Int) := by simp [rgD]
def Mono (len : Nat) (c : List Int) : Prop := ∀ i, i + 1 < len → c.getD i 0 ≤ c.getD (i + 1) 0
theorem ltable_run (hr : RO C r φ) {len : Nat} {str : Bool} (h1 : 1 ≤ len) (hl : len ≤ 9) (hk : ∀ c, TbL str len c → k (tupI c)) : (f_law_table C [.t r φ, .d (.int (len : Int)), .d (.bool str)]).run k w := by
  unfold f_law_table b_law_table
  rw [rw_dRun]
  simp only [run_bind]
  refine seqM (fun δ => ∃ a b : Int, 0 ≤ a ∧ a ≤ 5 ∧ 0 ≤ b ∧ b ≤ 10 ∧ δ = [.t r φ, .p (.int (len : Int)), .p (.bool str), .p (.int a), .p (.int b), .o [], .non]) ?_ ?_
  · simp [sParDDO, dStart, arSl]
    refine ⟨lineN (by omega), pick_run hr (by simp) (by simp) fun d hd => ?_⟩
    refine ⟨lineN (by simp), pick_run hr (by simp) (by simp) fun e he => ?_⟩
    simp at hd he
    obtain ⟨a, ha, rfl⟩ : ∃ a : Int, (0 ≤ a ∧ a ≤ 5) ∧ d = .int a := by
      rcases hd with rfl | rfl | rfl | rfl <;> exact ⟨_, by omega, rfl⟩
    obtain ⟨b, hb, rfl⟩ : ∃ a : Int, (0 ≤ a ∧ a ≤ 10) ∧ e = .int a := by
      rcases he with rfl | rfl | rfl | rfl <;> exact ⟨_, by omega, rfl⟩
    simp
    exact ⟨a, ha.1, ha.2, b, hb.1, hb.2, rfl, rfl⟩
  rintro _ ⟨a, b, a0, a5, b0, b10, rfl⟩
  cases str with
  | true =>
    refine seqM' (fun δ => False) ?_ (fun _ z => z.elim)
    simp only [rw_if, rw_tT, rw_dV, List.getElem?_cons_succ, List.getElem?_cons_zero, slotP_p, pure_bind, rw_truB, run_pure, if_true, rw_ret, rw_dCB, rw_aCons, rw_aNil, rw_dNl, rw_nLc, rw_rg1, rw_asI1, run_bind, run_need, run_nox, rgD_len, Int.toNat_natCast]
    refine ⟨lo62_le (by omega) (by omega), lineN (by omega), ?_⟩
    rw [rg_nat1]
    refine lc_run (p := fun _ => true) (h := fun (i : Nat) => .int (a * ((i : Int) + 1) + b)) (fun i hi => ⟨_, rfl, fun kb hkb => by simpa using hkb, fun _ kd hkd => ?_⟩) ?_
    · have hi := List.mem_range.mp hi
      simp
      refine ⟨wide_mul (a := 4) (b := 4) (by show _ < 16; omega) (by show _ < 16; omega) (by omega) (by omega) (by omega), hkd⟩
    · rw [List.filter_eq_self.mpr (by simp)]
      simp only [run_pure, rw_allD1, rw_allD0, pure_bind, rw_tupL]
      have e : (List.range len).map (fun (i : Nat) => PyData.int (a * ((i : Int) + 1) + b)) = ((List.range len).map fun (i : Nat) => a * ((i : Int) + 1) + b).map .int := by simp
      rw [e]
      have vb : ∀ i : Nat, i < len → 0 ≤ a * ((i : Int) + 1) + b ∧ a * ((i : Int) + 1) + b ≤ 100 := fun i hi => by
        have h1 : 0 ≤ a * ((i : Int) + 1) := Int.mul_nonneg a0 (by omega)
        have h2 : a * ((i : Int) + 1) ≤ 5 * 9 := Int.mul_le_mul a5 (by omega) (by omega) (by omega)
        omega
      refine hk _ ⟨⟨by simp, fun x hx => ?_, fun i hi => ?_⟩, fun x hx => ?_, fun _ => ⟨a, b, a0, a5, b0, b10, rfl⟩⟩
      · obtain ⟨i, hi, rfl⟩ := List.mem_map.mp hx
        have := vb i (List.mem_range.mp hi)
        omega
      · have z1 : i < len := by omega
        simp [z1, hi]
        rw [Int.mul_add a (_ + 1) 1]
        omega
      · obtain ⟨i, hi, rfl⟩ := List.mem_map.mp hx
        exact (vb i (List.mem_range.mp hi)).2
  | false =>
    refine seqM (fun δ => δ = [.t r φ, .p (.int (len : Int)), .p (.bool false), .p (.int a), .p (.int b), .o [], .non]) ?_ ?_
    · simp
    rintro _ rfl
    refine seqM (fun δ => ∃ (h : Int) (c : List Int) (s6 : Sl), c.length = len ∧ (∀ x ∈ c, 0 ≤ x ∧ x ≤ 100) ∧ Mono len c ∧ δ = [.t r φ, .p (.int (len : Int)), .p (.bool false), .p (.int a), .p (.int h), .o (c.map .int), s6]) ?_ ?_
    · simp only [rw_for, rw_rg1, rw_dV, List.getElem?_cons_succ, List.getElem?_cons_zero, slotP_p, pure_bind, rw_asI1, run_bind, run_need, run_pure, Int.toNat_natCast]
      refine ⟨lo62_le (by omega) (by omega), ?_⟩
      obtain ⟨J, hJ⟩ : ∃ J : Nat → De → Prop, ∀ i δ, J i δ ↔ ∃ (h : Int) (c : List Int) (s6 : Sl), i ≤ len ∧ c.length = i ∧ 0 ≤ h ∧ h ≤ 10 + 7 * i ∧ (∀ x ∈ c, 0 ≤ x ∧ x ≤ h) ∧ Mono i c ∧ δ = [.t r φ, .p (.int (len : Int)), .p (.bool false), .p (.int a), .p (.int h), .o (c.map .int), s6] := ⟨_, fun _ _ => Iff.rfl⟩
      refine loop_inv J ((hJ _ _).mpr ⟨b, [], _, by omega, rfl, b0, by omega, by simp, fun i hi => by omega, rfl⟩) ?_ ?_
      · rintro i δ d hd hj
        obtain ⟨h, c, s6, hi, hc, g0, g1, hx, hm, rfl⟩ := (hJ _ _).mp hj
        obtain ⟨hi2, rfl⟩ := rgD_get hd
        refine ⟨_, rfl, ?_⟩
        simp
        refine ⟨lineN (by omega), pick_run hr (by simp) (by simp) fun e he => ?_⟩
        simp at he
        obtain ⟨v, hv, rfl⟩ : ∃ a : Int, (0 ≤ a ∧ a ≤ 7) ∧ e = .int a := by
          rcases he with rfl | rfl | rfl | rfl <;> exact ⟨_, by omega, rfl⟩
        simp
        refine ⟨lineL (by omega), (hJ _ _).mpr ?_⟩
        refine ⟨h + v, c ++ [h + v], _, by omega, by simp [hc], by omega, by omega, fun x hx2 => ?_, fun j hj => ?_, by rw [List.map_append]; rfl⟩
        · rcases List.mem_append.mp hx2 with z | z
          · have := hx x z
            omega
          · simp at z
            omega
        · rcases Nat.lt_or_ge (j + 1) i with z | z
          · have := hm j z
            have z1 : j < c.length := by omega
            have z2 : j + 1 < c.length := by omega
            simp only [List.getD_eq_getElem?_getD] at this ⊢
            rw [List.getElem?_append_left z1, List.getElem?_append_left z2]
            exact this
          · have ej : j + 1 = c.length := by omega
            have z1 : j < c.length := by omega
            simp only [List.getD_eq_getElem?_getD]
            rw [List.getElem?_append_left z1, ej]
            have := hx c[j] (List.getElem_mem z1)
            simp [z1]
            omega
      · rintro δ hj
        obtain ⟨h, c, s6, _, hc, g0, g1, hx, hm, rfl⟩ := (hJ _ _).mp hj
        simp only [rgD_len] at hc hm g1
        exact ⟨_, rfl, h, c, s6, hc, fun x hx2 => by have := hx x hx2; omega, hm, rfl⟩
    rintro _ ⟨h, c, s6, hc, hx, hm, rfl⟩
    simp [fz]
    exact hk c ⟨⟨hc, fun x hx2 => by have := hx x hx2; omega, hm⟩, fun x hx2 => (hx x hx2).2, fun z => by cases z⟩
theorem mem_ext1 {E : List (Int × Int)} {rows : List Gm.Row} {q : Gm.Row} {p : (Int × Int) × Nat} (hq : q ∈ rows) (hp : p ∈ E.zipIdx) (ok : Gm.okE q.2 p.1 = true) : Gm.exP q.1 q.2 p ∈ Gm.ext1 E rows :=
  List.mem_flatMap.mpr ⟨q, hq, List.mem_map.mpr ⟨p, List.mem_filter.mpr ⟨hp, ok⟩, rfl⟩⟩
theorem mem_fin {b : Int} {rows : List Gm.Row} {q : Gm.Row} (hq : q ∈ rows) (h : Gm.isE b q = true) : q.1 ∈ Gm.fin b rows := List.mem_map.mpr ⟨q, List.mem_filter.mpr ⟨hq, h⟩, rfl⟩
theorem ways_ne1 {E : List (Int × Int)} {b : Int} {N i : Nat} (hN : 1 ≤ N) (hb : (0 : Int) ≠ b) (hE : E[i]? = some (0, b)) : waysF E 0 b N ≠ [] := by
  obtain ⟨m, rfl⟩ : ∃ m, N = m + 1 := ⟨N - 1, by omega⟩
  have hp : ((0, b), i) ∈ E.zipIdx := List.mk_mem_zipIdx_iff_getElem?.mpr hE
  have h1 : Gm.exP [] [0] ((0, b), i) ∈ Gm.ext1 E (Gm.rows0 0) := mem_ext1 (q := ([], [0])) (by simp [Gm.rows0]) hp (by simp [Gm.okE]; omega)
  have h2 := mem_fin h1 (b := b) (by simp [Gm.isE, Gm.exP])
  have h3 : (Gm.exP [] [0] ((0, b), i)).1 ∈ waysF E 0 b (m + 1) := srtW_mem.mpr (List.mem_append_left _ h2)
  exact List.ne_nil_of_mem h3
theorem ways_ne2 {E : List (Int × Int)} {b c : Int} {N i j : Nat} (hN : 2 ≤ N) (hb : (0 : Int) ≠ b) (hc : (0 : Int) ≠ c) (hbc : c ≠ b) (hE : E[i]? = some (0, c)) (hE2 : E[j]? = some (c, b)) : waysF E 0 b N ≠ [] := by
  obtain ⟨m, rfl⟩ : ∃ m, N = m + 1 + 1 := ⟨N - 2, by omega⟩
  have hp : ((0, c), i) ∈ E.zipIdx := List.mk_mem_zipIdx_iff_getElem?.mpr hE
  have hp2 : ((c, b), j) ∈ E.zipIdx := List.mk_mem_zipIdx_iff_getElem?.mpr hE2
  have h1 : Gm.exP [] [0] ((0, c), i) ∈ Gm.ext1 E (Gm.rows0 0) := mem_ext1 (q := ([], [0])) (by simp [Gm.rows0]) hp (by simp [Gm.okE]; omega)
  have h1' : Gm.exP [] [0] ((0, c), i) ∈ Gm.stepR E b (Gm.rows0 0) := List.mem_filter.mpr ⟨h1, by simp [Gm.isE, Gm.exP, hbc]⟩
  have h2 : Gm.exP (Gm.exP [] [0] ((0, c), i)).1 (Gm.exP [] [0] ((0, c), i)).2 ((c, b), j) ∈ Gm.ext1 E (Gm.stepR E b (Gm.rows0 0)) := mem_ext1 h1' hp2 (by simp [Gm.okE, Gm.exP]; omega)
  have h3 := mem_fin h2 (b := b) (by simp [Gm.isE, Gm.exP])
  have h4 : _ ∈ waysF E 0 b (m + 1 + 1) := srtW_mem.mpr (List.mem_append_right _ (List.mem_append_left _ h3))
  exact List.ne_nil_of_mem h4
structure DrL (str : Bool) (many len : Nat) (g : Gme) : Prop where
  ok : GaOk g len
  pl : g.pl.length = many
  n4 : g.n ≤ 4
  r6 : g.rs.length ≤ 6
  tb : ∀ q ∈ g.rs, TbL str len q.c
structure RsL (str : Bool) (n len : Nat) (R : List GRd) : Prop where
  rd : ∀ q ∈ R, RdOk n len q ∧ TbL str len q.c
  way : (n = 2 ∧ (R.map enG)[0]? = some (0, 1)) ∨ (2 < n ∧ (R.map enG)[0]? = some (0, 1) ∧ (R.map enG)[1]? = some (1, (n : Int) - 1))
theorem RsL.app {str : Bool} {n len : Nat} {R : List GRd} {q : GRd} (h : RsL str n len R) (h1 : RdOk n len q) (h2 : TbL str len q.c) : RsL str n len (R ++ [q]) := by
  refine ⟨fun x hx => ?_, ?_⟩
  · rcases List.mem_append.mp hx with z | z
    · exact h.rd x z
    · rw [List.mem_singleton.mp z]
      exact ⟨h1, h2⟩
  · have keep : ∀ {i : Nat} {e : Int × Int}, (R.map enG)[i]? = some e → ((R ++ [q]).map enG)[i]? = some e := fun {i e} he => by
      rw [List.map_append, List.getElem?_append_left (List.getElem?_eq_some_iff.mp he).1]
      exact he
    rcases h.way with ⟨a, b⟩ | ⟨a, b, c⟩
    · exact .inl ⟨a, keep b⟩
    · exact .inr ⟨a, keep b, keep c⟩
theorem RsL.ne {str : Bool} {n len : Nat} {R : List GRd} (h : RsL str n len R) : waysF (R.map enG) 0 ((n : Int) - 1) n ≠ [] := by
  rcases h.way with ⟨a, b⟩ | ⟨a, b, c⟩
  · subst a
    exact ways_ne1 (by omega) (by omega) (i := 0) b
  · exact ways_ne2 (by omega) (by omega) (by omega) (by omega) b c
theorem endpt {s t n : Int} (h0 : 0 ≤ s) (h1 : s < n) (h2 : 0 ≤ t) (h3 : t < n - 1) : 0 ≤ (s + 1 + t) % n ∧ (s + 1 + t) % n < n ∧ s ≠ (s + 1 + t) % n := by
  have a1 := Int.emod_nonneg (s + 1 + t) (b := n) (by omega)
  have a2 := Int.emod_lt_of_pos (s + 1 + t) (b := n) (by omega)
  refine ⟨a1, a2, ?_⟩
  rcases Int.lt_or_le (s + 1 + t) n with z | z
  · rw [Int.emod_eq_of_lt (by omega) z]
    omega
  · have : (s + 1 + t) % n = s + 1 + t - n := by
      rw [← Int.sub_emod_right, Int.emod_eq_of_lt (by omega) (by omega)]
    omega
structure PlR (n : Nat) (R : List GRd) (p : Int × Int) : Prop where
  a : Bel n p.1
  b : Bel n p.2
  ne : p.1 ≠ p.2
  w : waysF (R.map enG) p.1 p.2 n ≠ []
theorem lgame_run (hr : RO C r φ) {many len : Nat} {str : Bool} (m1 : 1 ≤ many) (m3 : many ≤ 4) (h1 : 1 ≤ len) (hl : len ≤ 9) (hk : ∀ g, DrL str many len g → k (gD g)) :
    (f_law_game C [.t r φ, .d (.int (many : Int)), .d (.int (len : Int)), .d (.bool str)]).run k w := by
  unfold f_law_game b_law_game
  rw [rw_dRun]
  simp only [run_bind]
  refine seqM (fun δ => ∃ n : Nat, 2 ≤ n ∧ n ≤ 4 ∧ δ = [.t r φ, .p (.int (many : Int)), .p (.int (len : Int)), .p (.bool str), .p (.int (n : Int)), .non, .non, .non, .non, .non, .non, .non]) ?_ ?_
  · simp [dStart, arSl]
    refine taken_run hr (by omega) (by omega) fun z z0 z1 => ?_
    simp
    exact ⟨(2 + z).toNat, by omega, by omega, by omega⟩
  rintro _ ⟨n, n2, n4, rfl⟩
  refine seqM (fun δ => ∃ c, TbL str len c ∧ δ = [.t r φ, .p (.int (many : Int)), .p (.int (len : Int)), .p (.bool str), .p (.int (n : Int)), .o [rdD ⟨0, (n : Int) - 1, c⟩], .non, .non, .non, .non, .non, .non]) ?_ ?_
  · simp
    refine ltable_run hr h1 hl fun c hc => ?_
    exact ⟨line3, line1, c, hc, rfl⟩
  rintro _ ⟨c, hc, rfl⟩
  refine seqM (fun δ => ∃ R, RsL str n len R ∧ 1 ≤ R.length ∧ R.length ≤ 2 ∧ δ = [.t r φ, .p (.int (many : Int)), .p (.int (len : Int)), .p (.bool str), .p (.int (n : Int)), .o (R.map rdD), .non, .non, .non, .non, .non, .non]) ?_ ?_
  · by_cases cn : (2 : Int) < n
    · simp [cn]
      refine ltable_run hr h1 hl fun c1 hc1 => ?_
      refine ⟨line3, ltable_run hr h1 hl fun c2 hc2 => ?_⟩
      refine ⟨line3, line2, [⟨0, 1, c1⟩, ⟨1, (n : Int) - 1, c2⟩], ⟨fun q hq => ?_, .inr ⟨by omega, rfl, rfl⟩⟩, by simp, by simp, rfl⟩
      simp at hq
      rcases hq with rfl | rfl
      · exact ⟨⟨⟨by show (0 : Int) ≤ 0; omega, by show (0 : Int) < n; omega⟩, ⟨by show (0 : Int) ≤ 1; omega, by show (1 : Int) < n; omega⟩, by show (0 : Int) ≠ 1; omega, hc1.ok⟩, hc1⟩
      · exact ⟨⟨⟨by show (0 : Int) ≤ 1; omega, by show (1 : Int) < n; omega⟩, ⟨by show (0 : Int) ≤ (n : Int) - 1; omega, by show (n : Int) - 1 < n; omega⟩, by show (1 : Int) ≠ (n : Int) - 1; omega, hc2.ok⟩, hc2⟩
    · simp [cn]
      have en : n = 2 := by omega
      subst en
      refine ⟨[⟨0, 1, c⟩], ⟨fun q hq => ?_, .inl ⟨rfl, rfl⟩⟩, by simp, by simp, rfl⟩
      simp at hq
      subst hq
      exact ⟨⟨⟨by show (0 : Int) ≤ 0; omega, by show (0 : Int) < 2; omega⟩, ⟨by show (0 : Int) ≤ 1; omega, by show (1 : Int) < 2; omega⟩, by show (0 : Int) ≠ 1; omega, hc.ok⟩, hc⟩
  rintro _ ⟨R, hR, r1, r2, rfl⟩
  clear hc c
  refine seqM (fun δ => ∃ R s6 s7, RsL str n len R ∧ 1 ≤ R.length ∧ R.length ≤ 6 ∧ δ = [.t r φ, .p (.int (many : Int)), .p (.int (len : Int)), .p (.bool str), .p (.int (n : Int)), .o (R.map rdD), s6, s7, .non, .non, .non, .non]) ?_ ?_
  · simp only [rw_for, rw_rg1, rw_d2, rw_dC, pure_bind, rw_call, rw_aTrk, rw_aCons, rw_aNil, List.getElem?_cons_succ, List.getElem?_cons_zero, slotT_t, run_bind, run_need, run_pure, List.length_cons, List.length_nil]
    refine ⟨trivial, taken_run hr (by omega) (by omega) fun z z0 z1 => ?_⟩
    simp only [rw_addI, run_pure, rw_asI1, run_need]
    refine ⟨lo62_le (by omega) (by omega), ?_⟩
    obtain ⟨J, hJ⟩ : ∃ J : Nat → De → Prop, ∀ i δ, J i δ ↔ ∃ (R : List GRd) (s6 s7 : Sl), RsL str n len R ∧ 1 ≤ R.length ∧ R.length ≤ 2 + i ∧ δ = [.t r φ, .p (.int (many : Int)), .p (.int (len : Int)), .p (.bool str), .p (.int (n : Int)), .o (R.map rdD), s6, s7, .non, .non, .non, .non] := ⟨_, fun _ _ => Iff.rfl⟩
    refine loop_inv J ((hJ _ _).mpr ⟨R, _, _, hR, r1, by omega, rfl⟩) ?_ ?_
    · rintro i δ d hd hj
      obtain ⟨R, s6, s7, hR, r1, r2, rfl⟩ := (hJ _ _).mp hj
      obtain ⟨hi, rfl⟩ := rgD_get hd
      refine ⟨_, rfl, ?_⟩
      simp
      refine taken_run hr (by omega) (by omega) fun s s0 s1 => ?_
      simp
      refine taken_run hr (by omega) (by omega) fun t t0 t1 => ?_
      simp
      obtain ⟨e0, e1, e2⟩ := endpt s0 s1 t0 t1
      refine ⟨by omega, ltable_run hr h1 hl fun c hc => ?_⟩
      refine ⟨line3, lineL (by omega), (hJ _ _).mpr ⟨R ++ [⟨s, (s + 1 + t) % n, c⟩], _, _, hR.app ⟨⟨s0, s1⟩, ⟨e0, e1⟩, e2, hc.ok⟩ hc, by simp, by simp; omega, by rw [List.map_append]; rfl⟩⟩
    · rintro δ hj
      obtain ⟨R, s6, s7, hR, r1, r2, rfl⟩ := (hJ _ _).mp hj
      rw [rgD_len] at r2
      exact ⟨_, rfl, R, s6, s7, hR, r1, by omega, rfl⟩
  rintro _ ⟨R, s6, s7, hR, r1, r6, rfl⟩
  refine seqM (fun δ => δ = [.t r φ, .p (.int (many : Int)), .p (.int (len : Int)), .p (.bool str), .p (.int (n : Int)), .o (R.map rdD), s6, s7, .o [], .non, .non, .non]) ?_ ?_
  · simp
  rintro _ rfl
  simp only [rw_sFz, fz, List.getElem?_cons_succ, List.getElem?_cons_zero, List.set_cons_succ, List.set_cons_zero]
  refine seqM (fun δ => ∃ (P : List (Int × Int)) (s7 s9 s10 s11 : Sl), P.length = many ∧ (∀ p ∈ P, PlR n R p) ∧ δ = [.t r φ, .p (.int (many : Int)), .p (.int (len : Int)), .p (.bool str), .p (.int (n : Int)), .p (.list (R.map rdD)), s6, s7, .o (P.map plD), s9, s10, s11]) ?_ ?_
  · simp only [rw_for, rw_rg1, rw_dV, List.getElem?_cons_succ, List.getElem?_cons_zero, slotP_p, pure_bind, rw_asI1, run_bind, run_need, run_pure, Int.toNat_natCast]
    refine ⟨lo62_le (by omega) (by omega), ?_⟩
    obtain ⟨J, hJ⟩ : ∃ J : Nat → De → Prop, ∀ i δ, J i δ ↔ ∃ (P : List (Int × Int)) (s7 s9 s10 s11 : Sl), i ≤ many ∧ P.length = i ∧ (∀ p ∈ P, PlR n R p) ∧ δ = [.t r φ, .p (.int (many : Int)), .p (.int (len : Int)), .p (.bool str), .p (.int (n : Int)), .p (.list (R.map rdD)), s6, s7, .o (P.map plD), s9, s10, s11] := ⟨_, fun _ _ => Iff.rfl⟩
    refine loop_inv J ((hJ _ _).mpr ⟨[], _, _, _, _, by omega, rfl, by simp, rfl⟩) ?_ ?_
    · rintro i δ d hd hj
      obtain ⟨P, s7, s9, s10, s11, hi, pl, hP, rfl⟩ := (hJ _ _).mp hj
      obtain ⟨hi, rfl⟩ := rgD_get hd
      refine ⟨_, rfl, ?_⟩
      simp
      refine taken_run hr (by omega) (by omega) fun s s0 s1 => ?_
      simp
      refine taken_run hr (by omega) (by omega) fun t t0 t1 => ?_
      simp
      obtain ⟨e0, e1, e2⟩ := endpt s0 s1 t0 t1
      refine ⟨by omega, line2, ?_⟩
      refine lways_run (N := n) (a := s) (b := (s + 1 + t) % n) rfl ⟨s0, s1⟩ (fun x hx => (hR.rd x hx).1.t) (by omega) (by omega) ?_
      have def0 : PlR n R (0, (n : Int) - 1) := ⟨⟨by show (0 : Int) ≤ 0; omega, by show (0 : Int) < n; omega⟩, ⟨by show (0 : Int) ≤ (n : Int) - 1; omega, by show (n : Int) - 1 < n; omega⟩, by show (0 : Int) ≠ (n : Int) - 1; omega, hR.ne⟩
      have push : ∀ p s7 s9 s10 s11, PlR n R p → J (i + 1) [.t r φ, .p (.int (many : Int)), .p (.int (len : Int)), .p (.bool str), .p (.int (n : Int)), .p (.list (R.map rdD)), s6, s7, .o (P.map plD ++ [plD p]), s9, s10, s11] := fun p s7 s9 s10 s11 hp =>
        (hJ _ _).mpr ⟨P ++ [p], s7, s9, s10, s11, by omega, by simp [pl], fun q hq => by
          rcases List.mem_append.mp hq with z | z
          · exact hP q z
          · rw [List.mem_singleton.mp z]
            exact hp, by rw [List.map_append]; rfl⟩
      cases hW : waysF (R.map enG) s ((s + 1 + t) % n) n with
      | nil =>
        simp
        exact ⟨line2, lineL (by omega), push (0, (n : Int) - 1) _ _ _ _ def0⟩
      | cons x xs =>
        have sh : SeqAt.shaped (.list ((x :: xs).map tupI)) = true := shaped_tups
        have hp : PlR n R (s, (s + 1 + t) % n) := ⟨⟨s0, s1⟩, ⟨e0, e1⟩, e2, by rw [hW]; simp⟩
        rw [List.map_cons] at sh
        have ev : PyData.eqv (.list (tupI x :: xs.map tupI)) (.list []) = false := rfl
        simp [sh, ev]
        refine taken_run hr (by omega) (by omega) fun u u0 u1 => ?_
        by_cases cu : u = 0
        · simp [cu]
          exact ⟨lineL (by omega), push (s, (s + 1 + t) % n) _ _ _ _ hp⟩
        · simp [cu]
          exact ⟨line2, lineL (by omega), push (0, (n : Int) - 1) _ _ _ _ def0⟩
    · rintro δ hj
      obtain ⟨P, s7, s9, s10, s11, hi, pl, hP, rfl⟩ := (hJ _ _).mp hj
      rw [rgD_len] at pl
      exact ⟨_, rfl, P, s7, s9, s10, s11, pl, hP, rfl⟩
  rintro _ ⟨P, s7, s9, s10, s11, pl, hP, rfl⟩
  simp [fz]
  refine ⟨line3, hk ⟨n, R, P⟩ ⟨⟨n2, by show n ≤ 6; omega, r1, by show R.length ≤ 8; omega, by show 1 ≤ P.length; omega, by show P.length ≤ 4; omega, fun q hq => (hR.rd q hq).1, fun p hp => ?_⟩, pl, n4, r6, fun q hq => (hR.rd q hq).2⟩⟩
  have := hP p hp
  exact ⟨this.a, this.b, this.ne, this.w⟩
end
section
theorem sum_add {α : Type} {f g : α → Int} : ∀ {l : List α}, (l.map fun x => f x + g x).sum = (l.map f).sum + (l.map g).sum := by
  intro l
  induction l with
  | nil => rfl
  | cons x l ih => simp only [List.map_cons, List.sum_cons, ih]; omega
theorem sum_zero {α : Type} {f : α → Int} : ∀ {l : List α}, (∀ x ∈ l, f x = 0) → (l.map f).sum = 0 := by
  intro l
  induction l with
  | nil => intro _; rfl
  | cons x l ih =>
    intro h
    simp only [List.map_cons, List.sum_cons]
    rw [h x (by simp), ih fun y hy => h y (by simp [hy])]
    rfl
theorem sum_one {f : Int → Int} {y : Int} : ∀ {m : Nat}, 0 ≤ y → y < m → ((List.range m).map fun (i : Nat) => if (i : Int) = y then f i else 0).sum = f y := by
  intro m
  induction m with
  | zero => intro h0 h1; omega
  | succ m ih =>
    intro h0 h1
    rw [List.range_succ, List.map_append, List.sum_append]
    simp only [List.map_cons, List.map_nil, List.sum_cons, List.sum_nil]
    by_cases c : (m : Int) = y
    · rw [if_pos c, sum_zero fun i hi => by
        have := List.mem_range.mp hi
        rw [if_neg (by omega)], c]
      omega
    · rw [if_neg c, ih h0 (by omega)]
      omega
theorem sum_ind {f : Int → Int} {m : Nat} : ∀ {x : List Int}, x.Nodup → (∀ y ∈ x, 0 ≤ y ∧ y < m) → (x.map f).sum = ((List.range m).map fun (i : Nat) => if (i : Int) ∈ x then f i else 0).sum := by
  intro x
  induction x with
  | nil => intro _ _; exact (sum_zero (by simp)).symm
  | cons y x ih =>
    intro hn hx
    rw [List.nodup_cons] at hn
    have hy := hx y (by simp)
    rw [List.map_cons, List.sum_cons, ih hn.2 fun z hz => hx z (by simp [hz]), ← sum_one (f := f) hy.1 hy.2, ← sum_add]
    congr 1
    apply List.map_congr_left
    intro i _
    by_cases c : (i : Int) = y
    · have : ¬ (i : Int) ∈ x := fun z => hn.1 (c ▸ z)
      rw [if_pos c, if_neg this, if_pos (by rw [c]; simp)]
      omega
    · rw [if_neg c]
      by_cases c2 : (i : Int) ∈ x
      · rw [if_pos c2, if_pos (by simp [c2])]
        omega
      · rw [if_neg c2, if_neg (by simp [c, c2])]
        rfl
theorem take_one {c : List Int} {b : Nat} : (c.take (b + 1)).sum = (c.take b).sum + c.getD b 0 := by
  rw [List.take_add_one, List.sum_append, List.getD_eq_getElem?_getD]
  cases c[b]? <;> simp
def othW (st : List (List Int)) (p : Nat) (i : Int) : Nat := cntW i (st.eraseIdx p)
theorem cnt_oth {st : List (List Int)} {p : Nat} (hp : p < st.length) {i : Int} : cntW i st = othW st p i + (if i ∈ st[p] then 1 else 0) := by
  have e : st = st.take p ++ st[p] :: st.drop (p + 1) := by rw [← List.drop_eq_getElem_cons hp, List.take_append_drop]
  unfold othW
  rw [List.eraseIdx_eq_take_drop_succ]
  have e2 : cntW i st = cntW i (st.take p ++ st[p] :: st.drop (p + 1)) := congrArg (cntW i) e
  rw [e2]
  unfold cntW
  rw [List.filter_append, List.filter_append, List.length_append, List.length_append, List.filter_cons]
  by_cases c : i ∈ st[p]
  · simp [c]
    omega
  · simp [c]
theorem oth_set {st : List (List Int)} {p : Nat} {x : List Int} {i : Int} : othW (st.set p x) p i = othW st p i := by
  unfold othW
  rw [List.eraseIdx_set_eq]
theorem pot_split {g : Gme} {st : List (List Int)} {len p : Nat} (h : GaOk g len) (hs : StOk g st) (hp : p < g.pl.length) :
    potW g st = ((List.range g.rs.length).map fun (i : Nat) => ((roadW g i).c.take (othW st p i)).sum).sum + tmW g st p := by
  have hp' : p < st.length := by rw [hs.ln]; exact hp
  have hx : st[p]? = some st[p] := List.getElem?_eq_getElem hp'
  have hq : g.pl[p]? = some g.pl[p] := List.getElem?_eq_getElem hp
  have ok := inW h (h.pl _ (List.getElem_mem hp)).a _ (hs.wy p _ _ hx hq)
  have e1 : tmW g st p = (st[p].map fun y => (roadW g y.toNat).c.getD (othW st p y) 0).sum := by
    unfold tmW timeW
    rw [show st.getD p [] = st[p] by simp [hp']]
    congr 1
    apply List.map_congr_left
    intro y hy
    rw [load_one hs, cnt_oth hp', if_pos hy]
    unfold cost roadW
    rw [show ((((othW st p y + 1 : Nat) : Int)) - 1).toNat = othW st p y by omega]
  have e2 := sum_ind (f := fun y => (roadW g y.toNat).c.getD (othW st p y) 0) ok.nd (m := g.rs.length) fun y hy => by
    have := ok.ix y hy
    simpa using this
  rw [e1, e2, ← sum_add]
  unfold potW
  congr 1
  apply List.map_congr_left
  intro i hi
  rw [cnt_oth hp']
  by_cases c : (i : Int) ∈ st[p]
  · rw [if_pos c, if_pos c, take_one]
    simp
  · rw [if_neg c, if_neg c]
    simp
theorem StOk.set {g : Gme} {st : List (List Int)} {p : Nat} {x : List Int} (hs : StOk g st) (hp : p < g.pl.length) (hx : x ∈ wys g g.pl[p]) : StOk g (st.set p x) := by
  refine ⟨by simpa using hs.ln, fun i y q e1 e2 => ?_⟩
  by_cases c : p = i
  · subst c
    have hp' : p < st.length := by rw [hs.ln]; exact hp
    rw [List.getElem?_set_self hp'] at e1
    rw [List.getElem?_eq_getElem hp] at e2
    cases e1
    cases e2
    exact hx
  · rw [List.getElem?_set_ne c] at e1
    exact hs.wy i y q e1 e2
theorem alone {g : Gme} {st : List (List Int)} {len p : Nat} {x : List Int} (h : GaOk g len) (hs : StOk g st) (hp : p < g.pl.length) (hx : x ∈ wys g g.pl[p]) :
    potW g (st.set p x) - potW g st = tmW g (st.set p x) p - tmW g st p := by
  rw [pot_split h (hs.set hp hx) hp, pot_split h hs hp]
  simp only [oth_set]
  omega
theorem put_st {st : List (List Int)} {p : Nat} {x : List Int} (hp : p < st.length) : st.take p ++ [x] ++ st.drop (p + 1) = st.set p x := by
  rw [List.set_eq_take_append_cons_drop, if_pos hp]
  simp
end
section
variable {k : D → Prop} {w : Exn → Prop}
structure WLd (g : Gme) (ws : List Int) (len : Nat) : Prop where
  ok : WsOk g ws
  bd : ∀ st, StOk g st → ∀ p, p < g.pl.length → ∀ y ∈ st.getD p [], 1 ≤ loadW y st ws ∧ loadW y st ws ≤ len
theorem ones_ld {g : Gme} : WLd g (onesW g) g.pl.length := ⟨ones_ok, fun _ hs _ hp => one_bd hs hp⟩
def plAt (g : Gme) (p : Nat) : Int × Int := g.pl.getD p (0, 0)
theorem plAt_eq {g : Gme} {p : Nat} (hp : p < g.pl.length) : plAt g p = g.pl[p] := by simp [plAt, hp]
theorem plAt_mem {g : Gme} {p : Nat} (hp : p < g.pl.length) : plAt g p ∈ g.pl := by rw [plAt_eq hp]; exact List.getElem_mem hp
def stepsAt (g : Gme) (st : List (List Int)) (ws : List Int) (p : Nat) : List (Nat × List Int) := ((wys g (plAt g p)).filter fun x => decide (timeW g (st.set p x) ws p < timeW g st ws p)).map fun x => (p, x)
def stepsW (g : Gme) (st : List (List Int)) (ws : List Int) : List (Nat × List Int) := (List.range g.pl.length).flatMap (stepsAt g st ws)
def stpD (q : Nat × List Int) : D := .tuple [.int (q.1 : Int), tupI q.2]
theorem stepsAt_len {g : Gme} (hf : Few g) {st ws p} (hp : p < g.pl.length) : (stepsAt g st ws p).length ≤ 8 := by
  have h1 := List.length_filter_le (fun x => decide (timeW g (st.set p x) ws p < timeW g st ws p)) (wys g (plAt g p))
  have h2 := hf.c8 _ (plAt_mem hp)
  simp only [stepsAt, List.length_map]
  omega
theorem flat_len {g : Gme} (hf : Few g) {st ws} : ∀ {l : List Nat}, (∀ p ∈ l, p < g.pl.length) → (l.flatMap (stepsAt g st ws)).length ≤ l.length * 8 := by
  intro l
  induction l with
  | nil => simp
  | cons p l ih =>
    intro h
    have h1 := stepsAt_len hf (st := st) (ws := ws) (h p (by simp))
    have h2 := ih fun q hq => h q (by simp [hq])
    simp only [List.flatMap_cons, List.length_append, List.length_cons]
    omega
theorem StOk.set' {g : Gme} {st : List (List Int)} {p : Nat} {x : List Int} (hs : StOk g st) (hp : p < g.pl.length) (hx : x ∈ wys g (plAt g p)) : StOk g (st.set p x) := hs.set hp (by rw [← plAt_eq hp]; exact hx)
theorem other_run {f fp fx : DF} {δ : De} {st : List (List Int)} {p : Nat} {x : List Int} {kd : D → Prop} (hf : f δ = .pure (stD st)) (hp : fp δ = .pure (.int (p : Int))) (hx : fx δ = .pure (tupI x)) (hl : st.length ≤ 1000) (hps : p < st.length)
    (hk : kd (stD (st.set p x))) : (dTup (aStar (dSl f oNone (oSome fp)) (aCons fx (aStar (dSl f (oSome (d2 dAdd fp (dC (.int 1)))) oNone) aNil))) δ).run kd w := by
  have e1 : cutD (st.map tupI) none (some (p : Int)) = (st.take p).map tupI := by rw [cut_take, List.map_take]
  have e2 : cutD (st.map tupI) (some ((p : Int) + 1)) none = (st.drop (p + 1)).map tupI := by rw [show (p : Int) + 1 = ((p + 1 : Nat) : Int) by omega, cut_drop, List.map_drop]
  simp only [rw_dTup, rw_aStar, rw_aCons, rw_aNil, rw_dSl, rw_oNone, rw_oSome, hf, hp, hx, pure_bind, rw_asI, stD, rw_cutT, rw_seqT, rw_d2, rw_dC, rw_addI, e1, e2]
  have e3 : (st.take p).map tupI ++ tupI x :: (st.drop (p + 1)).map tupI = (st.set p x).map tupI := by
    rw [← put_st hps]
    simp
  have e4 : allD (((st.take p).map tupI).map Ar.d ++ Ar.d (tupI x) :: (((st.drop (p + 1)).map tupI).map Ar.d ++ [])) = .pure ((st.set p x).map tupI) := by
    rw [allD_map, rw_allD1, List.append_nil, allD_only]
    simp only [pure_bind]
    rw [e3]
  rw [e4]
  exact ⟨lineN (by simp; omega), hk⟩
theorem zipIdx_pl {g : Gme} : g.pl.zipIdx = (List.range g.pl.length).map fun i => (plAt g i, i) := by
  apply List.ext_getElem?
  intro i
  rw [List.getElem?_zipIdx, List.getElem?_map]
  by_cases h : i < g.pl.length
  · rw [List.getElem?_range h]
    simp [plAt, h]
  · rw [List.getElem?_eq_none (by omega), List.getElem?_eq_none (by simp; omega)]
    rfl
theorem stepsin_run {g : Gme} {st : List (List Int)} {ws : List Int} {len : Nat} (h : GaOk g len) (hf : Few g) (hs : StOk g st) (hw : WLd g ws len) (hk : k (.list ((stepsW g st ws).map stpD))) : (f_steps_in [.d (gD g), .d (chD g), .d (stD st), .d (tupI ws)]).run k w := by
  have p4 := h.p4
  have hsl := hs.ln
  obtain ⟨G, hG⟩ : ∃ G : D, G = gD g := ⟨_, rfl⟩
  obtain ⟨Ch, hCh⟩ : ∃ Ch : D, Ch = chD g := ⟨_, rfl⟩
  have hCh' : Ch = .list (g.pl.map fun p => .list ((wys g p).map tupI)) := hCh
  unfold f_steps_in b_steps_in
  rw [rw_dRun]
  simp only [run_bind]
  refine seqM (fun δ => δ = [.p G, .p Ch, .p (stD st), .p (tupI ws), .o [], .non, .non, .non, .non, .non]) ?_ ?_
  · simp [dStart, hG, hCh]
  rintro _ rfl
  refine seqM (fun δ => ∃ s5 s6 s7 s8 s9, δ = [.p G, .p Ch, .p (stD st), .p (tupI ws), .o ((stepsW g st ws).map stpD), s5, s6, s7, s8, s9]) ?_ ?_
  · simp only [rw_for, rw_iEnD, rw_dV, List.getElem?_cons_succ, List.getElem?_cons_zero, slotP_p, pure_bind, hCh', rw_seqL]
    rw [enD_zip, zipIdx_pl, List.map_map, ← hCh']
    refine loop_pre (fun pre δ => ∃ s5 s6 s7 s8 s9, δ = [.p G, .p Ch, .p (stD st), .p (tupI ws), .o ((pre.flatMap (stepsAt g st ws)).map stpD), s5, s6, s7, s8, s9]) ⟨_, _, _, _, _, rfl⟩ ?_ ?_
    · rintro pre p post δ e ⟨s5, s6, s7, s8, s9, rfl⟩
      have hp : p < g.pl.length := List.mem_range.mp (by rw [e]; simp)
      have lp : pre.length < g.pl.length := by
        have := congrArg List.length e
        simp at this
        omega
      have fl := flat_len hf (st := st) (ws := ws) (l := pre) fun q hq => List.mem_range.mp (by rw [e]; simp [hq])
      refine ⟨[.p G, .p Ch, .p (stD st), .p (tupI ws), .o ((pre.flatMap (stepsAt g st ws)).map stpD), .p (.int (p : Int)), .p (.list ((wys g (plAt g p)).map tupI)), s7, s8, s9], rfl, ?_⟩
      rw [List.flatMap_append, List.flatMap_singleton, List.map_append]
      generalize (pre.flatMap (stepsAt g st ws)) = F at fl
      refine seqM (fun δ => δ = [.p G, .p Ch, .p (stD st), .p (tupI ws), .o (F.map stpD), .p (.int (p : Int)), .p (.list ((wys g (plAt g p)).map tupI)), .p (.int (timeW g st ws p)), s8, s9]) ?_ ?_
      · simp
        rw [hG]
        refine timein_run h hs hw.ok hp (hw.bd st hs p hp) ?_
        rfl
      rintro _ rfl
      simp only [rw_for, rw_iSeqD, rw_dV, List.getElem?_cons_succ, List.getElem?_cons_zero, slotP_p, pure_bind, rw_seqL]
      have c8 := hf.c8 _ (plAt_mem hp)
      refine loop_pre (fun pr δ => ∃ s8 s9, δ = [.p G, .p Ch, .p (stD st), .p (tupI ws), .o (F.map stpD ++ ((pr.filter fun x => decide (timeW g (st.set p x) ws p < timeW g st ws p)).map fun x => (p, x)).map stpD), .p (.int (p : Int)), .p (.list ((wys g (plAt g p)).map tupI)), .p (.int (timeW g st ws p)), s8, s9]) ⟨s8, s9, by simp⟩ ?_ ?_
      · rintro pr x po δ e2 ⟨s8, s9, rfl⟩
        have hx : x ∈ wys g (plAt g p) := by rw [e2]; simp
        have hs2 := hs.set' hp hx
        have lpr : pr.length < (wys g (plAt g p)).length := by rw [e2]; simp
        have lf := List.length_filter_le (fun x => decide (timeW g (st.set p x) ws p < timeW g st ws p)) pr
        refine ⟨_, rfl, ?_⟩
        refine seqM (fun δ => δ = [.p G, .p Ch, .p (stD st), .p (tupI ws), .o (F.map stpD ++ ((pr.filter fun x => decide (timeW g (st.set p x) ws p < timeW g st ws p)).map fun x => (p, x)).map stpD), .p (.int (p : Int)), .p (.list ((wys g (plAt g p)).map tupI)), .p (.int (timeW g st ws p)), .p (tupI x), .p (stD (st.set p x))]) ?_ ?_
        · simp only [rw_set, run_bind]
          refine other_run (st := st) (p := p) (x := x) rfl rfl rfl (by omega) (by omega) ?_
          simp
        rintro _ rfl
        simp
        rw [hG]
        refine timein_run h hs2 hw.ok hp (hw.bd _ hs2 p hp) ?_
        by_cases c : timeW g (st.set p x) ws p < timeW g st ws p
        · simp [c, stpD]
          exact ⟨line2, lineL (by omega)⟩
        · simp [c]
          omega
      · rintro _ ⟨s8, s9, rfl⟩
        exact ⟨_, _, _, _, _, rfl⟩
    · rintro _ ⟨s5, s6, s7, s8, s9, rfl⟩
      exact ⟨_, rfl, _, _, _, _, _, rfl⟩
  rintro _ ⟨s5, s6, s7, s8, s9, rfl⟩
  simpa [fz] using hk
theorem few_len {g : Gme} (hf : Few g) : (stsW g).length ≤ 1000 := by
  have e := prodW_len (ls := g.pl.map (wys g))
  rw [List.map_map] at e
  have := hf.s1
  show (prodW (g.pl.map (wys g))).length ≤ 1000
  rw [e]
  exact this
theorem sts_ne {g : Gme} {len : Nat} (h : GaOk g len) : 0 < (stsW g).length := by
  have e := prodW_len (ls := g.pl.map (wys g))
  rw [List.map_map] at e
  show 0 < (prodW (g.pl.map (wys g))).length
  rw [e]
  refine prod_pos fun a ha => ?_
  obtain ⟨p, hp, rfl⟩ := List.mem_map.mp ha
  exact List.length_pos_iff.mpr (h.pl p hp).w
theorem pl_stp {q : Nat × List Int} : Pl 2 (stpD q) := .tup fun x hx => by
  simp at hx
  rcases hx with rfl | rfl
  · exact .int
  · exact pl_tupI
theorem steps_mem {g : Gme} {st : List (List Int)} {ws : List Int} {p : Nat} {x : List Int} : (p, x) ∈ stepsW g st ws ↔ p < g.pl.length ∧ x ∈ wys g (plAt g p) ∧ timeW g (st.set p x) ws p < timeW g st ws p := by
  simp only [stepsW, List.mem_flatMap, List.mem_range, stepsAt, List.mem_map, List.mem_filter, decide_eq_true_eq, Prod.mk.injEq]
  constructor
  · rintro ⟨q, hq, y, ⟨hy, ht⟩, rfl, rfl⟩
    exact ⟨hq, hy, ht⟩
  · rintro ⟨h1, h2, h3⟩
    exact ⟨p, h1, x, ⟨h2, h3⟩, rfl, rfl⟩
theorem alone' {g : Gme} {st : List (List Int)} {len p : Nat} {x : List Int} (h : GaOk g len) (hs : StOk g st) (hp : p < g.pl.length) (hx : x ∈ wys g (plAt g p)) :
    potW g (st.set p x) - potW g st = timeW g (st.set p x) (onesW g) p - timeW g st (onesW g) p := alone h hs hp (by rw [← plAt_eq hp]; exact hx)
end
section
theorem sum_swap {α β : Type} {f : α → β → Int} {m : List β} : ∀ {l : List α}, (l.map fun x => (m.map fun y => f x y).sum).sum = (m.map fun y => (l.map fun x => f x y).sum).sum := by
  intro l
  induction l with
  | nil => exact (sum_zero (by simp)).symm
  | cons x l ih => simp only [List.map_cons, List.sum_cons]; rw [ih, sum_add]
theorem cnt_sum {i c : Int} : ∀ {st : List (List Int)}, (st.map fun w => if i ∈ w then c else 0).sum = cntW i st * c := by
  intro st
  induction st with
  | nil => simp [cntW]
  | cons y st ih =>
    rw [List.map_cons, List.sum_cons, ih]
    unfold cntW
    rw [List.filter_cons]
    by_cases h : i ∈ y
    · simp only [h, decide_true, if_true, List.length_cons]
      rw [Int.natCast_add, Int.add_mul]
      omega
    · simp [h]
theorem sum_le_sum {α : Type} {f g : α → Int} : ∀ {l : List α}, (∀ x ∈ l, f x ≤ g x) → (l.map f).sum ≤ (l.map g).sum := by
  intro l
  induction l with
  | nil => intro _; simp
  | cons x l ih =>
    intro h
    simp only [List.map_cons, List.sum_cons]
    have h1 := h x (by simp)
    have h2 := ih fun y hy => h y (by simp [hy])
    omega
theorem sum_mul {α : Type} {f : α → Int} {c : Int} : ∀ {l : List α}, (l.map fun x => c * f x).sum = c * (l.map f).sum := by
  intro l
  induction l with
  | nil => simp
  | cons x l ih => simp only [List.map_cons, List.sum_cons, ih, Int.mul_add]
theorem st_map {st : List (List Int)} {f : List Int → Int} : (List.range st.length).map (fun p => f (st.getD p [])) = st.map f := by
  apply List.ext_getElem?
  intro i
  simp only [List.getElem?_map]
  by_cases h : i < st.length
  · rw [List.getElem?_range h]
    simp [h]
  · rw [List.getElem?_eq_none (by simp; omega), List.getElem?_eq_none (by omega)]
    rfl
theorem tot_roads {g : Gme} {st : List (List Int)} {len : Nat} (h : GaOk g len) (hs : StOk g st) : totW g st = ((List.range g.rs.length).map fun (i : Nat) => (cntW i st : Int) * cost g i (cntW i st)).sum := by
  have e1 : totW g st = (st.map fun w => (w.map fun y => cost g y (cntW y st)).sum).sum := by
    unfold totW tmsW
    rw [← hs.ln]
    have : (List.range st.length).map (tmW g st) = (List.range st.length).map (fun p => (fun w => (w.map fun y => cost g y (cntW y st)).sum) (st.getD p [])) := by
      apply List.map_congr_left
      intro p _
      unfold tmW timeW
      congr 1
      apply List.map_congr_left
      intro y _
      rw [load_one hs]
    rw [this]
    exact congrArg List.sum (st_map (f := fun w => (w.map fun y => cost g y (cntW y st)).sum))
  have e2 : (st.map fun w => (w.map fun y => cost g y (cntW y st)).sum) = st.map fun w => ((List.range g.rs.length).map fun (i : Nat) => if (i : Int) ∈ w then cost g i (cntW i st) else 0).sum := by
    apply List.map_congr_left
    intro w hw
    obtain ⟨p, hp, rfl⟩ := List.getElem_of_mem hw
    have hp' : p < g.pl.length := by rw [← hs.ln]; exact hp
    have ok := inW h (h.pl _ (List.getElem_mem hp')).a _ (hs.wy p _ _ (List.getElem?_eq_getElem hp) (List.getElem?_eq_getElem hp'))
    exact sum_ind ok.nd fun y hy => by
      have := ok.ix y hy
      simpa using this
  rw [e1, e2, sum_swap]
  congr 1
  apply List.map_congr_left
  intro i _
  exact cnt_sum
theorem cost_road {g : Gme} {i : Nat} {n : Nat} : cost g i (n : Int) = (roadW g i).c.getD (n - 1) 0 := by
  unfold cost roadW
  rw [show ((n : Int) - 1).toNat = n - 1 by omega]
  simp
theorem take_le {c : List Int} {len : Nat} (h : TbOk len c) : ∀ n, n ≤ len → (c.take n).sum ≤ n * c.getD (n - 1) 0 := by
  intro n
  induction n with
  | zero => simp
  | succ n ih =>
    intro hn
    rw [take_one]
    have h1 := ih (by omega)
    cases n with
    | zero => simp
    | succ n =>
      have h2 := h.mo n (by omega)
      have h3 : ((n + 1 : Nat) : Int) * c.getD n 0 ≤ ((n + 1 : Nat) : Int) * c.getD (n + 1) 0 := Int.mul_le_mul_of_nonneg_left h2 (by omega)
      have e : ((n + 1 + 1 : Nat) : Int) * c.getD (n + 1) 0 = ((n + 1 : Nat) : Int) * c.getD (n + 1) 0 + c.getD (n + 1) 0 := by
        rw [Int.natCast_add (n + 1) 1, Int.add_mul]
        simp
      simp only [Nat.add_sub_cancel] at h1 ⊢
      rw [e]
      omega
theorem road_ok {g : Gme} {len : Nat} (h : GaOk g len) {i : Nat} (hi : i < g.rs.length) : TbOk len (roadW g i).c := by
  have := (h.rd _ (List.getElem_mem hi)).c
  simpa [roadW, hi] using this
theorem pot_le_tot {g : Gme} {st : List (List Int)} (h : GaOk g g.pl.length) (hs : StOk g st) : potW g st ≤ totW g st := by
  rw [tot_roads h hs]
  unfold potW
  refine sum_le_sum fun i hi => ?_
  rw [cost_road]
  refine take_le (road_ok h (List.mem_range.mp hi)) _ ?_
  have := cnt_le (x := (i : Int)) (st := st)
  have := hs.ln
  omega
end
section
theorem tot_bd {g : Gme} {st : List (List Int)} {len : Nat} (h : GaOk g len) (hs : StOk g st) : 0 ≤ totW g st ∧ totW g st ≤ 100000 := by
  have p4 := h.p4
  have := sum_le (v := tmW g st) (B := 8000) (l := List.range g.pl.length) fun p hp => time_le h hs (List.mem_range.mp hp)
  unfold totW tmsW
  simp only [List.length_range] at this
  omega
theorem pot_bd {g : Gme} {st : List (List Int)} (h : GaOk g g.pl.length) (hs : StOk g st) : 0 ≤ potW g st ∧ potW g st ≤ 100000 := by
  have h1 := pot_le_tot h hs
  have h2 := tot_bd h hs
  refine ⟨?_, by omega⟩
  unfold potW
  have := sum_le (v := fun (i : Nat) => ((roadW g i).c.take (cntW i st)).sum) (B := 100000) (l := List.range g.rs.length) fun i hi => by
    have tb := road_ok h (List.mem_range.mp hi)
    have hsum := sum_le (v := fun x : Int => x) (B := 1000) (l := (roadW g i).c.take (cntW i st)) fun x hx => tb.rg x (List.mem_of_mem_take hx)
    have hl : ((roadW g i).c.take (cntW i st)).length ≤ (roadW g i).c.length := by simp; omega
    have := tb.ln
    have := h.p4
    rw [show (List.map (fun x : Int => x) ((roadW g i).c.take (cntW i st))) = (roadW g i).c.take (cntW i st) from List.map_id' _] at hsum
    omega
  exact this.1
end
section
variable {k : D → Prop} {w : Exn → Prop}
def runsW (st : List (List Int)) (wk : List (Nat × List Int)) : List (List Int) := wk.foldl (fun s q => s.set q.1 q.2) st
theorem runs_snoc {st wk q} : runsW st (wk ++ [q]) = (runsW st wk).set q.1 q.2 := by simp [runsW]
def WkPre (g : Gme) (st : List (List Int)) (wk : List (Nat × List Int)) : Prop := ∀ pre q post, wk = pre ++ q :: post → q ∈ stepsW g (runsW st pre) (onesW g)
theorem WkPre.snoc {g : Gme} {st wk q} (h : WkPre g st wk) (hq : q ∈ stepsW g (runsW st wk) (onesW g)) : WkPre g st (wk ++ [q]) := by
  intro pre q' post e
  rcases List.eq_nil_or_concat post with rfl | ⟨po, z, rfl⟩
  · obtain ⟨e1, e2⟩ := List.append_inj' e (by simp)
    cases e2
    rw [← e1]
    exact hq
  · simp only [List.concat_eq_append] at e
    rw [show pre ++ q' :: (po ++ [z]) = (pre ++ q' :: po) ++ [z] by simp] at e
    obtain ⟨e1, _⟩ := List.append_inj' e (by simp)
    exact h pre q' po e1
theorem WkPre.of_app {g : Gme} {st a b} (h : WkPre g st (a ++ b)) : WkPre g st a := fun pre q post e => h pre q (post ++ b) (by rw [e]; simp)
theorem step_ok {g : Gme} {st : List (List Int)} {q : Nat × List Int} {len : Nat} (h : GaOk g len) (hs : StOk g st) (hq : q ∈ stepsW g st (onesW g)) : q.1 < g.pl.length ∧ StOk g (st.set q.1 q.2) ∧ potW g (st.set q.1 q.2) < potW g st := by
  obtain ⟨p, x⟩ := q
  obtain ⟨h1, h2, h3⟩ := steps_mem.mp hq
  have := alone' h hs h1 h2
  exact ⟨h1, hs.set' h1 h2, by show potW g (st.set p x) < potW g st; omega⟩
theorem wk_ok {g : Gme} {st : List (List Int)} {len : Nat} (h : GaOk g len) (hs : StOk g st) : ∀ {wk}, WkPre g st wk → StOk g (runsW st wk) ∧ potW g (runsW st wk) + wk.length ≤ potW g st := by
  suffices ∀ (n : Nat) wk, wk.length = n → WkPre g st wk → StOk g (runsW st wk) ∧ potW g (runsW st wk) + wk.length ≤ potW g st from fun {wk} hw => this _ wk rfl hw
  intro n
  induction n with
  | zero =>
    intro wk hl _
    rw [List.length_eq_zero_iff.mp hl]
    exact ⟨hs, by simp [runsW]⟩
  | succ n ih =>
    intro wk hl hw
    rcases List.eq_nil_or_concat wk with rfl | ⟨W, q, rfl⟩
    · simp at hl
    · simp only [List.concat_eq_append] at *
      obtain ⟨h1, h2⟩ := ih W (by simpa using hl) hw.of_app
      obtain ⟨_, h3, h4⟩ := step_ok h h1 (hw W q [] (by simp))
      rw [runs_snoc]
      exact ⟨h3, by simp; omega⟩
structure WkOk (g : Gme) (st : List (List Int)) (wk : List (Nat × List Int)) : Prop where
  pre : WkPre g st wk
  fin : (stepsW g (runsW st wk) (onesW g)).isEmpty = true
theorem walk_run {g : Gme} {st : List (List Int)} (h : GaOk g g.pl.length) (hf : Few g) (hs : StOk g st) (hk : ∀ wk, WkOk g st wk → k (.tuple (wk.map stpD))) : (f_walk_to_standing [.d (gD g), .d (stD st)]).run k w := by
  have p4 := h.p4
  have pb := pot_bd h hs
  obtain ⟨G, hG⟩ : ∃ G : D, G = gD g := ⟨_, rfl⟩
  obtain ⟨Ch, hCh⟩ : ∃ Ch : D, Ch = chD g := ⟨_, rfl⟩
  unfold f_walk_to_standing b_walk_to_standing
  rw [rw_dRun]
  simp only [run_bind]
  refine seqM (fun δ => δ = [.p G, .p (stD st), .non, .non, .non, .non, .non]) ?_ ?_
  · simp [dStart]
    refine needstate_run h hf hs ?_
    simp [hG]
  rintro _ rfl
  refine seqM (fun δ => δ = [.p G, .p (stD st), .p Ch, .o [], .non, .non, .non]) ?_ ?_
  · simp
    rw [hG]
    refine choices_run h hf ?_
    simp [hCh]
  rintro _ rfl
  refine seqM (fun δ => δ = [.p G, .p (stD st), .p Ch, .o [], .p (.list ((stepsW g st (onesW g)).map stpD)), .non, .non]) ?_ ?_
  · simp
    rw [hG, hCh]
    refine ones_run (g := g) (by omega) ?_
    refine stepsin_run h hf hs ones_ld ?_
    rfl
  rintro _ rfl
  refine seqM (fun δ => ∃ wk s1 s4 s5 s6, WkOk g st wk ∧ δ = [.p G, s1, .p Ch, .o (wk.map stpD), s4, s5, s6]) ?_ ?_
  · refine while_run (fun m δ => ∃ wk s5 s6, WkPre g st wk ∧ m = (potW g (runsW st wk)).toNat ∧ δ = [.p G, .p (stD (runsW st wk)), .p Ch, .o (wk.map stpD), .p (.list ((stepsW g (runsW st wk) (onesW g)).map stpD)), s5, s6]) (potW g st).toNat ⟨[], _, _, fun pre q post e => by simp at e, rfl, rfl⟩ ?_
    rintro m _ ⟨wk, s5, s6, hw, rfl, rfl⟩
    obtain ⟨hcur, hpot⟩ := wk_ok h hs hw
    have pc := pot_bd h hcur
    have hcl := hcur.ln
    simp only [rw_tT, rw_dV, List.getElem?_cons_succ, List.getElem?_cons_zero, slotP_p, pure_bind, rw_truL, run_pure]
    cases hS : stepsW g (runsW st wk) (onesW g) with
    | nil =>
      simp
      exact ⟨wk, ⟨hw, by rw [hS]; rfl⟩, rfl⟩
    | cons q qs =>
      have hq : q ∈ stepsW g (runsW st wk) (onesW g) := by rw [hS]; simp
      obtain ⟨h1, h2, h3⟩ := step_ok h hcur hq
      have h2b := pot_bd h h2
      rw [if_pos (by simp)]
      refine seqM (fun δ => δ = [.p G, .p (stD (runsW st wk)), .p Ch, .o (wk.map stpD), .p (.list ((q :: qs).map stpD)), .p (.int (q.1 : Int)), .p (tupI q.2)]) ?_ ?_
      · simp [stpD]
      rintro _ rfl
      refine seqM (fun δ => δ = [.p G, .p (stD (runsW st wk)), .p Ch, .o ((wk ++ [q]).map stpD), .p (.list ((q :: qs).map stpD)), .p (.int (q.1 : Int)), .p (tupI q.2)]) ?_ ?_
      · simp [stpD]
        exact ⟨line2, lineL (by omega)⟩
      rintro _ rfl
      refine seqM (fun δ => δ = [.p G, .p (stD (runsW st (wk ++ [q]))), .p Ch, .o ((wk ++ [q]).map stpD), .p (.list ((q :: qs).map stpD)), .p (.int (q.1 : Int)), .p (tupI q.2)]) ?_ ?_
      · simp only [rw_set, run_bind]
        refine other_run (st := runsW st wk) (p := q.1) (x := q.2) rfl rfl rfl (by omega) (by omega) ?_
        rw [runs_snoc]
        simp
      rintro _ rfl
      simp [-List.map_append]
      rw [hG, hCh]
      refine ones_run (g := g) (by omega) ?_
      refine stepsin_run h hf (by rw [runs_snoc]; exact h2) ones_ld ?_
      refine ⟨(potW g (runsW st (wk ++ [q]))).toNat, by rw [runs_snoc]; omega, wk ++ [q], hw.snoc hq, rfl, ?_⟩
      simp
  rintro _ ⟨wk, s1, s4, s5, s6, hw, rfl⟩
  simp [fz]
  exact hk wk hw
end
section
variable {k : D → Prop} {w : Exn → Prop}
structure Same (g g' : Gme) (c d : Int) : Prop where
  wy : g'.pl.map (wys g') = g.pl.map (wys g)
  c0 : 0 < c
  tm : ∀ st, StOk g st → ∀ p, p < g.pl.length → timeW g' st (onesW g') p = c * timeW g st (onesW g) p + d
section
variable {g g' : Gme} {c d : Int} (S : Same g g' c d)
include S
theorem Same.len : g'.pl.length = g.pl.length := by
  have := congrArg List.length S.wy
  simpa using this
theorem Same.wyp {p : Nat} (hp : p < g.pl.length) : wys g' (plAt g' p) = wys g (plAt g p) := by
  have h1 : (g'.pl.map (wys g'))[p]? = (g.pl.map (wys g))[p]? := by rw [S.wy]
  have hp' : p < g'.pl.length := by rw [S.len]; exact hp
  rw [List.getElem?_map, List.getElem?_map, List.getElem?_eq_getElem hp, List.getElem?_eq_getElem hp'] at h1
  rw [plAt_eq hp, plAt_eq hp']
  exact Option.some.inj h1
theorem Same.sts : stsW g' = stsW g := by unfold stsW; rw [S.wy]
theorem Same.steps {st : List (List Int)} (hs : StOk g st) : stepsW g' st (onesW g') = stepsW g st (onesW g) := by
  unfold stepsW
  rw [S.len]
  refine congrArg List.flatten (List.map_congr_left fun p hp => ?_)
  have hp := List.mem_range.mp hp
  unfold stepsAt
  rw [S.wyp hp]
  congr 1
  apply List.filter_congr
  intro x hx
  rw [S.tm _ (hs.set' hp hx) p hp, S.tm _ hs p hp]
  have c0 := S.c0
  rw [decide_eq_decide]
  constructor
  · intro z
    rcases Int.lt_or_le (timeW g (st.set p x) (onesW g) p) (timeW g st (onesW g) p) with q | q
    · exact q
    · have := Int.mul_le_mul_of_nonneg_left q (Int.le_of_lt c0)
      omega
  · intro z
    have := Int.mul_lt_mul_of_pos_left z c0
    omega
theorem Same.tot {st : List (List Int)} (hs : StOk g st) : totW g' st = c * totW g st + g.pl.length * d := by
  unfold totW tmsW
  rw [S.len, ← sum_mul]
  have : ∀ l : List Nat, (∀ p ∈ l, p < g.pl.length) → (l.map (tmW g' st)).sum = (l.map fun x => c * tmW g st x).sum + l.length * d := by
    intro l
    induction l with
    | nil => intro _; simp
    | cons p l ih =>
      intro h
      simp only [List.map_cons, List.sum_cons, List.length_cons]
      rw [ih fun q hq => h q (by simp [hq])]
      have := S.tm st hs p (h p (by simp))
      unfold tmW at *
      rw [this, Int.natCast_add, Int.add_mul]
      omega
  have := this (List.range g.pl.length) fun p hp => List.mem_range.mp hp
  rw [List.length_range] at this
  exact this
end
theorem Same.one {g g' : Gme} (S : Same g g' 1 0) {st : List (List Int)} (hs : StOk g st) : totW g' st = totW g st := by
  rw [S.tot hs]
  omega
end
section
variable {k : D → Prop} {w : Exn → Prop}
theorem gD_eq {g : Gme} : gD g = .tuple [.int (g.n : Int), .tuple (g.rs.map rdD), .tuple (g.pl.map plD)] := rfl
theorem lways_at {g : Gme} {len p : Nat} (h : GaOk g len) (hp : p < g.pl.length) (hk : k (.list ((wys g (plAt g p)).map tupI))) : (f_law_game_ways [.d (gD g), .d (plD (plAt g p))]).run k w := by
  have ok := h.pl _ (plAt_mem hp)
  rw [gD_eq]
  exact lways_run (N := g.n) (a := (plAt g p).1) (b := (plAt g p).2) rfl ok.a (fun x hx => (h.rd x hx).t) (by have := h.r8; omega) h.n6 hk
theorem pl_at {g : Gme} {p : Nat} (hp : p < g.pl.length) : atI (g.pl.map plD) (p : Int) = some (plD (plAt g p)) := by rw [atI_nat]; simp [plAt, hp]
theorem put_run {st : List (List Int)} {p : Nat} {x : List Int} {kd : D → Prop} {f fp fx : DF} {δ : De} (hf : f δ = .pure (stD st)) (hp : fp δ = .pure (.int (p : Int))) (hx : fx δ = .pure (tupI x)) (hl : st.length ≤ 1000) (hps : p < st.length)
    (hk : kd (stD (st.set p x))) : (d2 dAdd (d2 dAdd (dSl f oNone (oSome fp)) (dTup (aCons fx aNil))) (dSl f (oSome (d2 dAdd fp (dC (.int 1)))) oNone) δ).run kd w := by
  have e1 : cutD (st.map tupI) none (some (p : Int)) = (st.take p).map tupI := by rw [cut_take, List.map_take]
  have e2 : cutD (st.map tupI) (some ((p : Int) + 1)) none = (st.drop (p + 1)).map tupI := by rw [show (p : Int) + 1 = ((p + 1 : Nat) : Int) by omega, cut_drop, List.map_drop]
  simp only [rw_d2, rw_dSl, rw_oNone, rw_oSome, hf, hp, hx, rw_dTup, rw_aCons, rw_aNil, pure_bind, rw_asI, stD, rw_cutT, rw_dC, rw_addI, e1, e2, rw_allD1, rw_allD0, run_bind, run_need, run_pure, rw_addT]
  refine ⟨line1, lineN (by simp; omega), lineN (by simp; omega), ?_⟩
  have e3 : (st.take p).map tupI ++ [tupI x] ++ (st.drop (p + 1)).map tupI = (st.set p x).map tupI := by
    rw [← put_st hps]
    simp
  rw [e3]
  exact hk
theorem lsteps_run {g : Gme} {st : List (List Int)} {ws : List Int} {len : Nat} (h : GaOk g len) (hf : Few g) (hs : StOk g st) (hw : WLd g ws len) (hk : k (.list ((stepsW g st ws).map stpD))) : (f_law_steps [.d (gD g), .d (stD st), .d (tupI ws)]).run k w := by
  have p4 := h.p4
  have hsl := hs.ln
  obtain ⟨G, hG⟩ : ∃ G : D, G = gD g := ⟨_, rfl⟩
  unfold f_law_steps b_law_steps
  rw [rw_dRun]
  simp only [run_bind]
  refine seqM (fun δ => δ = [.p G, .p (stD st), .p (tupI ws), .p (.list []), .non, .non, .non, .non]) ?_ ?_
  · simp [dStart, hG]
  rintro _ rfl
  refine seqM (fun δ => ∃ s4 s5 s6 s7, δ = [.p G, .p (stD st), .p (tupI ws), .p (.list ((stepsW g st ws).map stpD)), s4, s5, s6, s7]) ?_ ?_
  · simp only [rw_for, rw_rg1, rw_dCB, rw_aCons, rw_aNil, rw_dV, List.getElem?_cons_succ, List.getElem?_cons_zero, slotP_p, pure_bind, stD, rw_allD1, rw_allD0, rw_lenT, rw_asI1, run_bind, run_need, run_pure, List.length_map, Int.toNat_natCast]
    refine ⟨lo62_le (by omega) (by omega), ?_⟩
    rw [rg_nat]
    refine loop_pre (fun pre δ => ∃ s4 s5 s6 s7, δ = [.p G, .p (stD st), .p (tupI ws), .p (.list ((pre.flatMap (stepsAt g st ws)).map stpD)), s4, s5, s6, s7]) ⟨_, _, _, _, rfl⟩ ?_ ?_
    · rintro pre p post δ e ⟨s4, s5, s6, s7, rfl⟩
      have hp : p < g.pl.length := by
        rw [← hsl]
        exact List.mem_range.mp (by rw [e]; simp)
      have lp : pre.length < g.pl.length := by
        have := congrArg List.length e
        simp at this
        omega
      have fl := flat_len hf (st := st) (ws := ws) (l := pre) fun q hq => by
        rw [← hsl]
        exact List.mem_range.mp (by rw [e]; simp [hq])
      refine ⟨[.p G, .p (stD st), .p (tupI ws), .p (.list ((pre.flatMap (stepsAt g st ws)).map stpD)), .p (.int (p : Int)), s5, s6, s7], rfl, ?_⟩
      rw [List.flatMap_append, List.flatMap_singleton, List.map_append]
      generalize (pre.flatMap (stepsAt g st ws)) = F at fl
      refine seqM (fun δ => δ = [.p G, .p (stD st), .p (tupI ws), .p (.list (F.map stpD)), .p (.int (p : Int)), .p (.int (timeW g st ws p)), s6, s7]) ?_ ?_
      · simp
        rw [hG]
        exact lptime_run h hs hw.ok hp (hw.bd st hs p hp) rfl
      rintro _ rfl
      simp only [rw_for, rw_iSeqD, rw_call, rw_aCons, rw_aNil, rw_d2, rw_dV, rw_dC, List.getElem?_cons_succ, List.getElem?_cons_zero, slotP_p, pure_bind, run_bind, run_need]
      rw [hG, gD_eq]
      simp only [rw_ixT, at2, optW_some, pure_bind, pl_at hp, run_need, List.length_cons, List.length_nil, run_pure, run_bind]
      rw [← gD_eq, ← hG]
      refine ⟨trivial, ?_⟩
      rw [hG]
      refine lways_at h hp ?_
      rw [← hG]
      simp only [rw_seqL, run_pure]
      have c8 := hf.c8 _ (plAt_mem hp)
      refine loop_pre (fun pr δ => ∃ s6 s7, δ = [.p G, .p (stD st), .p (tupI ws), .p (.list (F.map stpD ++ ((pr.filter fun x => decide (timeW g (st.set p x) ws p < timeW g st ws p)).map fun x => (p, x)).map stpD)), .p (.int (p : Int)), .p (.int (timeW g st ws p)), s6, s7]) ⟨s6, s7, by simp⟩ ?_ ?_
      · rintro pr x po δ e2 ⟨s6, s7, rfl⟩
        have hx : x ∈ wys g (plAt g p) := by rw [e2]; simp
        have hs2 := hs.set' hp hx
        have lpr : pr.length < (wys g (plAt g p)).length := by rw [e2]; simp
        have lf := List.length_filter_le (fun x => decide (timeW g (st.set p x) ws p < timeW g st ws p)) pr
        refine ⟨_, rfl, ?_⟩
        refine seqM (fun δ => δ = [.p G, .p (stD st), .p (tupI ws), .p (.list (F.map stpD ++ ((pr.filter fun x => decide (timeW g (st.set p x) ws p < timeW g st ws p)).map fun x => (p, x)).map stpD)), .p (.int (p : Int)), .p (.int (timeW g st ws p)), .p (tupI x), .p (stD (st.set p x))]) ?_ ?_
        · simp only [rw_set, run_bind]
          refine put_run (st := st) (p := p) (x := x) rfl rfl rfl (by omega) (by omega) ?_
          simp
        rintro _ rfl
        simp
        rw [hG]
        refine ⟨line2, line1, lptime_run h hs2 hw.ok hp (hw.bd _ hs2 p hp) ?_⟩
        by_cases c : timeW g (st.set p x) ws p < timeW g st ws p
        · simp [c, stpD]
          exact lineN (by omega)
        · have c' : timeW g st ws p ≤ timeW g (st.set p x) ws p := by omega
          simp [c]
          exact lineN (by omega)
      · rintro _ ⟨s6, s7, rfl⟩
        exact ⟨_, _, _, _, rfl⟩
    · rintro _ ⟨s4, s5, s6, s7, rfl⟩
      rw [hsl]
      exact ⟨_, rfl, _, _, _, _, rfl⟩
  rintro _ ⟨s4, s5, s6, s7, rfl⟩
  simpa using hk
theorem alike_bool {z : Nat} {b : Bool} (hk : k (.bool true)) : (f_law_alike (z + 1) [.d (.bool b), .d (.bool b)]).run k w := by
  simp [f_law_alike, b_law_alike, dStart, arSl, isNoneD]
  exact hk
end
section
variable {k : D → Prop} {w : Exn → Prop} {C : Cs} {r : Addr} {φ : Heap → Prop}
structure HvOk (g : Gme) (ws : List Int) (len : Nat) : Prop where
  ga : GaOk g len
  ln : ws.length = g.pl.length
  rg : ∀ v ∈ ws, 1 ≤ v ∧ v ≤ 3
  sm : ws.sum = len
  l12 : len ≤ 12
theorem HvOk.ws {g : Gme} {ws : List Int} {len : Nat} (h : HvOk g ws len) : WsOk g ws := ⟨h.ln, fun v hv => by have := h.rg v hv; omega⟩
end

end Tr

namespace Tr
open PySem PySem.Spec L2
variable [ProtC]
section
variable {k : D → Prop} {w : Exn → Prop}
inductive Stp where
  | s (p : Nat) (x : List Int)
  | b (x : List Int)
  | l (ds : List D)
  | one (d : D)
  | non
  | bad (p : Nat) (ds : List D)
def sp1D : Stp → D
  | .s p x => stpD (p, x)
  | .b x => .tuple [.bool true, tupI x]
  | .l ds => .list ds
  | .one d => .tuple [d]
  | .non => .none
  | .bad p ds => .tuple [.int (p : Int), .list ds]
def jgW (g : Gme) : List (List Int) → List Stp → Bool
  | st, [] => (stepsW g st (onesW g)).isEmpty
  | st, .s p x :: r => if (p, x) ∈ stepsW g st (onesW g) then jgW g (st.set p x) r else false
  | _, _ :: _ => false
theorem stp_inj {q r : Nat × List Int} (h : stpD q = stpD r) : q = r := by
  obtain ⟨a, b⟩ := q
  obtain ⟨c, d⟩ := r
  unfold stpD tupI at h
  simp only [PyData.tuple.injEq, List.cons.injEq, PyData.int.injEq, and_true] at h
  have h2 := (List.map_inj_right (f := PyData.int) fun _ _ z => by cases z; rfl).mp h.2
  have : a = c := by omega
  rw [this, h2]
theorem any_stp {q : Nat × List Int} {l : List (Nat × List Int)} : ((l.map stpD).any fun z => PyData.eqv z (stpD q)) = decide (q ∈ l) := in_pic (n := 2) (fun _ => pl_stp) fun _ _ => stp_inj
theorem shaped_stps {l : List (Nat × List Int)} : SeqAt.shaped (.list (l.map stpD)) = true := (pl_mapL fun _ => pl_stp).shaped (by omega)
theorem isstep_run {g : Gme} {len p : Nat} {x : List Int} (h : GaOk g len) (hk : k (.bool (decide (p < g.pl.length ∧ x ∈ wys g (plAt g p))))) : (f_is_step [.d (chD g), .d (stpD (p, x))]).run k w := by
  have p4 := h.p4
  unfold f_is_step b_is_step
  rw [rw_dRun]
  simp only [run_bind]
  have e0 : dStart 3 [Ar.d (chD g), .d (stpD (p, x))] = [.p (chD g), .p (stpD (p, x)), .non] := rfl
  rw [e0]
  refine seqM' (fun δ => p < g.pl.length ∧ δ = [.p (chD g), .p (stpD (p, x)), .non]) ?_ ?_
  · unfold stpD chD
    simp
    refine isin_run ?_
    by_cases c : p < g.pl.length
    · have : (p : Int) ≤ (g.pl.length : Int) - 1 := by omega
      simp [this, c]
    · have : ¬ (p : Int) ≤ (g.pl.length : Int) - 1 := by omega
      simp [this]
      simpa [c] using hk
  rintro _ ⟨c, rfl⟩
  have g1 : atI (g.pl.map fun p => PyData.list ((wys g p).map tupI)) (p : Int) = some (.list ((wys g (plAt g p)).map tupI)) := by
    rw [atI_nat, plAt_eq c]
    simp [c]
  have hw := inW h (h.pl _ (plAt_mem c)).a
  have i0 : dIx (stpD (p, x)) (.int 0) = .pure (.int (p : Int)) := by unfold stpD; rw [rw_ixT, at0]; rfl
  have i1 : dIx (stpD (p, x)) (.int 1) = .pure (tupI x) := by unfold stpD; rw [rw_ixT, at1]; rfl
  refine seqM' (fun δ => (∀ y ∈ x, 0 ≤ y ∧ y ≤ 9) ∧ δ = [.p (chD g), .p (stpD (p, x)), .non]) ?_ ?_
  · rw [rw_if, run_bind]
    simp only [rw_tOr2, rw_tNotV, rw_tT, rw_isi, rw_d2, rw_dV, rw_dC, List.getElem?_cons_succ, List.getElem?_cons_zero, slotP_p, pure_bind, i1, ty_tuple_tuple, tupI, optW_some, rw_truB, run_bind, run_pure, Bool.not_true, Bool.false_eq_true, if_false, rw_dGa, rw_iSeqD, rw_seqT, run_nox]
    refine ga_run (p := fun y : Int => decide (0 ≤ y) && decide (y ≤ 9)) (fun y hy => ⟨[.p (chD g), .p (stpD (p, x)), .p (.int y)], rfl, fun kb hkb => hkb, fun kd hkd => ?_⟩) ?_
    · simp
      exact isin_run hkd
    rw [rw_truB, run_pure]
    by_cases c2 : ∀ y ∈ x, 0 ≤ y ∧ y ≤ 9
    · have e : (x.all fun y => decide (0 ≤ y) && decide (y ≤ 9)) = true := by simpa using c2
      rw [e]
      exact ⟨c2, rfl⟩
    · have e : (x.all fun y => decide (0 ≤ y) && decide (y ≤ 9)) = false := by
        cases z : (x.all fun y => decide (0 ≤ y) && decide (y ≤ 9)) with
        | false => rfl
        | true => exact absurd (by simpa using z) c2
      rw [e]
      have : ¬ (p < g.pl.length ∧ x ∈ wys g (plAt g p)) := fun z => c2 fun y hy => by
        have a := (hw x z.2).ix y hy
        have := h.r8
        simp at a
        omega
      rw [decide_eq_false this] at hk
      simpa using hk
  rintro _ ⟨c2, rfl⟩
  simp only [rw_ret, rw_d2, rw_dV, rw_dC, List.getElem?_cons_succ, List.getElem?_cons_zero, slotP_p, pure_bind, i0, i1, run_bind, run_pure]
  unfold chD
  rw [rw_ixL, g1, optW_some]
  simp only [pure_bind, rw_inAL, run_bind, run_need, run_pure]
  refine ⟨⟨shaped_tupI, shaped_tups⟩, ?_⟩
  rw [in_tup]
  simpa [c] using hk
end
section
variable {k : D → Prop} {w : Exn → Prop}
def notS : Stp → Prop
  | .s _ _ => False
  | _ => True
theorem isstep_no {g : Gme} {len : Nat} {o : Stp} (h : GaOk g len) (ho : notS o) (hk : k (.bool false)) : (f_is_step [.d (chD g), .d (sp1D o)]).run k w := by
  have p4 := h.p4
  unfold f_is_step b_is_step
  rw [rw_dRun]
  simp only [run_bind]
  have e0 : dStart 3 [Ar.d (chD g), .d (sp1D o)] = [.p (chD g), .p (sp1D o), .non] := rfl
  rw [e0]
  cases o with
  | s p x => exact ho.elim
  | b x =>
    simp [sp1D, chD, f_is_in, b_is_in, dStart, arSl]
    exact hk
  | l ds =>
    simp [sp1D, chD]
    exact hk
  | one d =>
    simp [sp1D, chD]
    exact hk
  | non =>
    simp [sp1D, chD]
    exact hk
  | bad p ds =>
    refine seqM' (fun δ => δ = [.p (chD g), .p (sp1D (.bad p ds)), .non]) ?_ ?_
    · simp [sp1D, chD]
      refine isin_run ?_
      by_cases c : (p : Int) ≤ (g.pl.length : Int) - 1
      · simp [c]
      · simp [c]
        exact hk
    rintro _ rfl
    simp [sp1D, chD]
    exact hk
theorem jg_no {g : Gme} {st : List (List Int)} {o : Stp} {r : List Stp} (ho : notS o) : jgW g st (o :: r) = false := by
  cases o with
  | s p x => exact ho.elim
  | _ => rfl
theorem jg_s {g : Gme} {st : List (List Int)} {p : Nat} {x : List Int} {r : List Stp} : jgW g st (.s p x :: r) = if (p, x) ∈ stepsW g st (onesW g) then jgW g (st.set p x) r else false := rfl
theorem jg_nil {g : Gme} {st : List (List Int)} : jgW g st [] = (stepsW g st (onesW g)).isEmpty := rfl
theorem notS_or (o : Stp) : notS o ∨ ∃ p x, o = .s p x := by
  cases o with
  | s p x => exact .inr ⟨p, x, rfl⟩
  | _ => exact .inl trivial
theorem sp_i0 {p : Nat} {x : List Int} : dIx (sp1D (.s p x)) (.int 0) = .pure (.int (p : Int)) := by show dIx (stpD (p, x)) _ = _; unfold stpD; rw [rw_ixT, at0]; rfl
theorem sp_i1 {p : Nat} {x : List Int} : dIx (sp1D (.s p x)) (.int 1) = .pure (tupI x) := by show dIx (stpD (p, x)) _ = _; unfold stpD; rw [rw_ixT, at1]; rfl
theorem showswalk_run {g : Gme} {st : List (List Int)} {l : List Stp} (h : GaOk g g.pl.length) (hf : Few g) (hs : StOk g st) (hk : k (.bool (jgW g st l))) : (f_shows_walk [.d (gD g), .d (stD st), .d (.tuple (l.map sp1D))]).run k w := by
  have p4 := h.p4
  unfold f_shows_walk
  rw [rw_dRun, run_bind]
  have e0 : dStart 5 [Ar.d (gD g), .d (stD st), .d (.tuple (l.map sp1D))] = [.p (gD g), .p (stD st), .p (.tuple (l.map sp1D)), .non, .non] := rfl
  rw [e0]
  unfold b_shows_walk
  refine seqM (fun δ => δ = [.p (gD g), .p (stD st), .p (.tuple (l.map sp1D)), .non, .non]) ?_ ?_
  · simp
    exact needstate_run h hf hs trivial
  rintro _ rfl
  refine seqM (fun δ => δ = [.p (gD g), .p (stD st), .p (.tuple (l.map sp1D)), .p (chD g), .non]) ?_ ?_
  · simp
    exact choices_run h hf rfl
  rintro _ rfl
  refine seqM (fun δ => δ = [.p (gD g), .p (stD st), .p (.tuple (l.map sp1D)), .p (chD g), .non]) ?_ ?_
  · simp
  rintro _ rfl
  refine seqM' (fun δ => ∃ st2 s4, StOk g st2 ∧ jgW g st2 [] = jgW g st l ∧ δ = [.p (gD g), .p (stD st2), .p (.tuple (l.map sp1D)), .p (chD g), s4]) ?_ ?_
  · rw [rw_for, run_bind, rw_iSeqD]
    simp only [rw_dV, List.getElem?_cons_succ, List.getElem?_cons_zero, slotP_p, pure_bind, rw_seqT, run_pure]
    refine loop_pre (xs := l) (g := sp1D) (fun pre δ => ∃ st2 s4 post, l = pre ++ post ∧ StOk g st2 ∧ jgW g st2 post = jgW g st l ∧ δ = [.p (gD g), .p (stD st2), .p (.tuple (l.map sp1D)), .p (chD g), s4]) ⟨st, _, l, rfl, hs, rfl, rfl⟩ ?_ ?_
    · rintro pre o post δ hxs ⟨st2, s4, post2, e2, hs2, hj, rfl⟩
      have ep : post2 = o :: post := List.append_cancel_left (e2.symm.trans hxs)
      subst ep
      refine ⟨_, rfl, ?_⟩
      show (sSeq _ _ [.p (gD g), .p (stD st2), .p (.tuple (l.map sp1D)), .p (chD g), .p (sp1D o)]).run _ _
      rcases notS_or o with ho | ⟨p, x, rfl⟩
      · rw [rw_seq, run_bind, rw_if, run_bind]
        simp only [rw_tOr2, rw_tNotV, rw_tT, rw_call, rw_aCons, rw_aNil, rw_dV, List.getElem?_cons_succ, List.getElem?_cons_zero, slotP_p, pure_bind, run_bind, run_pure, run_need, List.length_cons, List.length_nil, true_and]
        refine isstep_no h ho ?_
        rw [jg_no ho] at hj
        rw [← hj] at hk
        simpa using hk
      · refine seqM' (fun δ => (p, x) ∈ stepsW g st2 (onesW g) ∧ δ = [.p (gD g), .p (stD st2), .p (.tuple (l.map sp1D)), .p (chD g), .p (sp1D (.s p x))]) ?_ ?_
        · rw [rw_if, run_bind]
          simp only [rw_tOr2, rw_tNotV, rw_tT, rw_call, rw_aCons, rw_aNil, rw_dV, List.getElem?_cons_succ, List.getElem?_cons_zero, slotP_p, pure_bind, run_bind, run_pure, run_need, List.length_cons, List.length_nil, true_and]
          refine isstep_run h ?_
          rw [rw_truB, run_pure]
          by_cases c : p < g.pl.length ∧ x ∈ wys g (plAt g p)
          · simp only [c, decide_true, and_self, Bool.not_true, Bool.false_eq_true, if_false, rw_tBv, rw_d2, rw_dV, rw_call, rw_aCons, rw_aNil, List.getElem?_cons_succ, List.getElem?_cons_zero, slotP_p, pure_bind, run_bind, run_pure, run_need, List.length_cons, List.length_nil, true_and]
            refine ones_run (g := g) (by omega) ?_
            refine stepsin_run h hf hs2 ones_ld ?_
            rw [rw_notInAL, run_need]
            refine ⟨⟨pl_stp.shaped (by omega), shaped_stps⟩, ?_⟩
            have e := any_stp (q := (p, x)) (l := stepsW g st2 (onesW g))
            have e' : ((stepsW g st2 (onesW g)).map stpD).any (fun z => PyData.eqv z (sp1D (.s p x))) = decide ((p, x) ∈ stepsW g st2 (onesW g)) := e
            rw [e', run_pure, rw_asB, run_pure]
            by_cases c2 : (p, x) ∈ stepsW g st2 (onesW g)
            · simp [c2]
            · rw [jg_s, if_neg c2] at hj
              rw [← hj] at hk
              simpa [c2] using hk
          · have c2 : (p, x) ∉ stepsW g st2 (onesW g) := fun z => c ⟨(steps_mem.mp z).1, (steps_mem.mp z).2.1⟩
            rw [jg_s, if_neg c2] at hj
            rw [← hj] at hk
            simpa [c] using hk
        rintro _ ⟨c2, rfl⟩
        obtain ⟨h1, h2, _⟩ := step_ok h hs2 c2
        have hl2 := hs2.ln
        simp only [rw_set, run_bind]
        refine other_run (st := st2) (p := p) (x := x) rfl (by show (d2 dIx (dV 4) (dC (.int 0)) _) = _; simp only [rw_d2, rw_dV, rw_dC, List.getElem?_cons_succ, List.getElem?_cons_zero, slotP_p, pure_bind, sp_i0]) (by show (d2 dIx (dV 4) (dC (.int 1)) _) = _; simp only [rw_d2, rw_dV, rw_dC, List.getElem?_cons_succ, List.getElem?_cons_zero, slotP_p, pure_bind, sp_i1]) (by omega) (by show p < st2.length; rw [hl2]; exact h1) ?_
        refine ⟨st2.set p x, .p (sp1D (.s p x)), post, by rw [hxs]; simp, h2, ?_, rfl⟩
        rw [← hj, jg_s, if_pos c2]
    · rintro δ ⟨st2, s4, post, e, hs2, hj, rfl⟩
      have : post = [] := by simpa using e
      subst this
      exact ⟨st2, s4, hs2, hj, rfl⟩
  rintro _ ⟨st2, s4, hs2, hj, rfl⟩
  simp only [rw_ret, rw_dNotV, rw_tT, rw_call, rw_aCons, rw_aNil, rw_dV, List.getElem?_cons_succ, List.getElem?_cons_zero, slotP_p, pure_bind, run_bind, run_pure, run_need, List.length_cons, List.length_nil, true_and]
  refine ones_run (g := g) (by omega) ?_
  refine stepsin_run h hf hs2 ones_ld ?_
  rw [jg_nil] at hj
  rw [← hj] at hk
  rw [rw_truL, run_pure, List.isEmpty_map, Bool.not_not]
  exact hk
theorem lwalk_run {g : Gme} {st : List (List Int)} {l : List Stp} (h : GaOk g g.pl.length) (hf : Few g) (hs : StOk g st) (hl : ∀ p x, Stp.s p x ∈ l → x.length ≤ 1000) (hk : k (.bool (jgW g st l))) : (f_law_is_walk [.d (gD g), .d (stD st), .d (.tuple (l.map sp1D))]).run k w := by
  have p4 := h.p4
  have hsl := hs.ln
  unfold f_law_is_walk
  rw [rw_dRun, run_bind]
  have e0 : dStart 6 [Ar.d (gD g), .d (stD st), .d (.tuple (l.map sp1D))] = [.p (gD g), .p (stD st), .p (.tuple (l.map sp1D)), .non, .non, .non] := rfl
  rw [e0]
  unfold b_law_is_walk
  refine seqM (fun δ => δ = [.p (gD g), .p (stD st), .p (.tuple (l.map sp1D)), .non, .non, .non]) ?_ ?_
  · simp
  rintro _ rfl
  refine seqM (fun δ => δ = [.p (gD g), .p (stD st), .p (.tuple (l.map sp1D)), .p (tupI (onesW g)), .non, .non]) ?_ ?_
  · simp [stD, onesW]
    have p1 := h.p1
    refine ⟨line1, ⟨by omega, by omega⟩, ?_⟩
    rw [hsl, tupI, List.map_replicate]
  rintro _ rfl
  refine seqM' (fun δ => ∃ st2 s4 s5, StOk g st2 ∧ jgW g st2 [] = jgW g st l ∧ δ = [.p (gD g), .p (stD st2), .p (.tuple (l.map sp1D)), .p (tupI (onesW g)), s4, s5]) ?_ ?_
  · rw [rw_for, run_bind, rw_iSeqD]
    simp only [rw_dV, List.getElem?_cons_succ, List.getElem?_cons_zero, slotP_p, pure_bind, rw_seqT, run_pure]
    refine loop_pre (xs := l) (g := sp1D) (fun pre δ => ∃ st2 s4 s5 post, l = pre ++ post ∧ StOk g st2 ∧ jgW g st2 post = jgW g st l ∧ δ = [.p (gD g), .p (stD st2), .p (.tuple (l.map sp1D)), .p (tupI (onesW g)), s4, s5]) ⟨st, _, _, l, rfl, hs, rfl, rfl⟩ ?_ ?_
    · rintro pre o post δ hxs ⟨st2, s4, s5, post2, e2, hs2, hj, rfl⟩
      have ep : post2 = o :: post := List.append_cancel_left (e2.symm.trans hxs)
      subst ep
      refine ⟨_, rfl, ?_⟩
      show (sSeq _ _ [.p (gD g), .p (stD st2), .p (.tuple (l.map sp1D)), .p (tupI (onesW g)), .p (sp1D o), s5]).run _ _
      rcases notS_or o with ho | ⟨p, x, rfl⟩
      · rw [jg_no ho] at hj
        rw [← hj] at hk
        cases o with
        | s p x => exact ho.elim
        | b x => simpa [sp1D] using hk
        | l ds => simpa [sp1D] using hk
        | one d => simpa [sp1D] using hk
        | non => simpa [sp1D] using hk
        | bad p ds => simpa [sp1D] using hk
      · refine seqM' (fun δ => δ = [.p (gD g), .p (stD st2), .p (.tuple (l.map sp1D)), .p (tupI (onesW g)), .p (sp1D (.s p x)), s5]) ?_ ?_
        · simp [sp1D, stpD]
        rintro _ rfl
        refine seqM' (fun δ => δ = [.p (gD g), .p (stD st2), .p (.tuple (l.map sp1D)), .p (tupI (onesW g)), .p (sp1D (.s p x)), s5]) ?_ ?_
        · simp [sp1D, stpD, tupI]
        rintro _ rfl
        refine seqM' (fun δ => δ = [.p (gD g), .p (stD st2), .p (.tuple (l.map sp1D)), .p (tupI (onesW g)), .p (sp1D (.s p x)), s5]) ?_ ?_
        · rw [rw_if, run_bind]
          simp only [rw_tBv, rw_d2, rw_dNl, rw_nLc, rw_iSeqD, rw_dV, rw_dC, List.getElem?_cons_succ, List.getElem?_cons_zero, slotP_p, pure_bind, sp_i1, tupI, rw_seqT, run_bind, run_need, run_nox]
          have hxl := hl p x (by rw [hxs]; simp)
          refine ⟨lineN (by rw [List.length_map]; omega), ?_⟩
          refine lc_run (p := fun _ => false) (h := fun _ => PyData.none) (fun y hy => ⟨_, rfl, fun kb hb => ?_, fun z => by cases z⟩) ?_
          · show (tOr2 _ _ [_, _, _, _, _, .p (.int y)]).run _ _
            simpa using hb
          · rw [List.filter_eq_nil_iff.mpr (by simp)]
            simp
        rintro _ rfl
        refine seqM' (fun δ => (p, x) ∈ stepsW g st2 (onesW g) ∧ δ = [.p (gD g), .p (stD st2), .p (.tuple (l.map sp1D)), .p (tupI (onesW g)), .p (sp1D (.s p x)), s5]) ?_ ?_
        · rw [rw_if, run_bind]
          simp only [rw_tBv, rw_d2, rw_call, rw_aCons, rw_aNil, rw_dV, List.getElem?_cons_succ, List.getElem?_cons_zero, slotP_p, pure_bind, run_bind, run_pure, run_need, List.length_cons, List.length_nil, true_and]
          refine lsteps_run h hf hs2 ones_ld ?_
          rw [rw_notInAL, run_need]
          refine ⟨⟨pl_stp.shaped (by omega), shaped_stps⟩, ?_⟩
          have e' : ((stepsW g st2 (onesW g)).map stpD).any (fun z => PyData.eqv z (sp1D (.s p x))) = decide ((p, x) ∈ stepsW g st2 (onesW g)) := any_stp (q := (p, x)) (l := stepsW g st2 (onesW g))
          rw [e', run_pure, rw_asB, run_pure]
          by_cases c2 : (p, x) ∈ stepsW g st2 (onesW g)
          · simp [c2]
          · rw [jg_s, if_neg c2] at hj
            rw [← hj] at hk
            simpa [c2] using hk
        rintro _ ⟨c2, rfl⟩
        obtain ⟨h1, h2, _⟩ := step_ok h hs2 c2
        have hl2 := hs2.ln
        simp only [rw_set, run_bind]
        refine put_run (st := st2) (p := p) (x := x) rfl (by show (d2 dIx (dV 4) (dC (.int 0)) _) = _; simp only [rw_d2, rw_dV, rw_dC, List.getElem?_cons_succ, List.getElem?_cons_zero, slotP_p, pure_bind, sp_i0]) (by show (d2 dIx (dV 4) (dC (.int 1)) _) = _; simp only [rw_d2, rw_dV, rw_dC, List.getElem?_cons_succ, List.getElem?_cons_zero, slotP_p, pure_bind, sp_i1]) (by omega) (by show p < st2.length; rw [hl2]; exact h1) ?_
        refine ⟨st2.set p x, .p (sp1D (.s p x)), s5, post, by rw [hxs]; simp, h2, ?_, rfl⟩
        rw [← hj, jg_s, if_pos c2]
    · rintro δ ⟨st2, s4, s5, post, e, hs2, hj, rfl⟩
      have : post = [] := by simpa using e
      subst this
      exact ⟨st2, s4, s5, hs2, hj, rfl⟩
  rintro _ ⟨st2, s4, s5, hs2, hj, rfl⟩
  simp only [rw_ret, rw_d2, rw_dLst, rw_call, rw_aCons, rw_aNil, rw_dV, List.getElem?_cons_succ, List.getElem?_cons_zero, slotP_p, pure_bind, run_bind, run_pure, run_need, List.length_cons, List.length_nil, true_and]
  refine lsteps_run h hf hs2 ones_ld ?_
  rw [jg_nil] at hj
  rw [← hj] at hk
  simp only [rw_allD0, pure_bind, run_bind, run_pure, run_need, rw_eq]
  refine ⟨Nat.zero_le _, ⟨shaped_stps, rfl⟩, ?_⟩
  have e : PyData.eqv (.list ((stepsW g st2 (onesW g)).map stpD)) (.list []) = (stepsW g st2 (onesW g)).isEmpty := by cases stepsW g st2 (onesW g) <;> rfl
  rw [e]
  exact hk
end
end Tr

set_option maxHeartbeats 2000000
namespace Tr
open PySem PySem.Spec L2
variable [ProtC]
section
theorem cut_map {α β : Type} {f : α → β} {l : List α} {lo hi : Option Int} : cutD (l.map f) lo hi = (cutD l lo hi).map f := by
  unfold cutD
  rw [List.length_map, ← List.map_drop, ← List.map_take]
theorem cut_sub {α : Type} {l : List α} {lo hi : Option Int} : ∀ x ∈ cutD l lo hi, x ∈ l := fun x hx => by
  unfold cutD at hx
  exact List.mem_of_mem_drop (List.mem_of_mem_take hx)
theorem cut_len {α : Type} {l : List α} {lo hi : Option Int} : (cutD l lo hi).length ≤ l.length := by
  unfold cutD
  rw [List.length_take, List.length_drop]
  omega
def StpOk (l : List Stp) : Prop := ∀ p x, Stp.s p x ∈ l → x.length ≤ 1000
inductive JVal : D → Prop
  | tup {l : List Stp} : StpOk l → JVal (.tuple (l.map sp1D))
  | lst {ds : List D} : JVal (.list ds)
  | non : JVal .none
  | int {i : Int} : JVal (.int i)
  | dct : JVal (.dict [])
theorem StpOk.app {l m : List Stp} (a : StpOk l) (b : StpOk m) : StpOk (l ++ m) := fun p x h => by
  rcases List.mem_append.mp h with h | h
  · exact a p x h
  · exact b p x h
theorem StpOk.sub {l m : List Stp} (a : StpOk l) (h : ∀ o ∈ m, o ∈ l) : StpOk m := fun p x hx => a p x (h _ hx)
variable {k : D → Prop} {w : Exn → Prop}
theorem shows_no {g : Gme} {st : List (List Int)} {v : D} (h : GaOk g g.pl.length) (hf : Few g) (hs : StOk g st) (hv : isTy "tuple" v = some false) (hk : k (.bool false)) : (f_shows_walk [.d (gD g), .d (stD st), .d v]).run k w := by
  unfold f_shows_walk
  rw [rw_dRun, run_bind]
  have e0 : dStart 5 [Ar.d (gD g), .d (stD st), .d v] = [.p (gD g), .p (stD st), .p v, .non, .non] := rfl
  rw [e0]
  unfold b_shows_walk
  refine seqM (fun δ => δ = [.p (gD g), .p (stD st), .p v, .non, .non]) ?_ ?_
  · simp
    exact needstate_run h hf hs trivial
  rintro _ rfl
  refine seqM (fun δ => δ = [.p (gD g), .p (stD st), .p v, .p (chD g), .non]) ?_ ?_
  · simp
    exact choices_run h hf rfl
  rintro _ rfl
  simp [hv]
  exact hk
theorem lwalk_no {g : Gme} {st : List (List Int)} {v : D} (hv : isTy "tuple" v = some false) (hk : k (.bool false)) : (f_law_is_walk [.d (gD g), .d (stD st), .d v]).run k w := by
  unfold f_law_is_walk
  rw [rw_dRun, run_bind]
  have e0 : dStart 6 [Ar.d (gD g), .d (stD st), .d v] = [.p (gD g), .p (stD st), .p v, .non, .non, .non] := rfl
  rw [e0]
  unfold b_law_is_walk
  simp [hv]
  exact hk
theorem judged {g : Gme} {st : List (List Int)} {v : D} (h : GaOk g g.pl.length) (hf : Few g) (hs : StOk g st) (hv : JVal v) : ∃ b : Bool, (∀ k : D → Prop, k (.bool b) → (f_shows_walk [.d (gD g), .d (stD st), .d v]).run k w) ∧ ∀ k : D → Prop, k (.bool b) → (f_law_is_walk [.d (gD g), .d (stD st), .d v]).run k w := by
  have no : isTy "tuple" v = some false → ∃ b : Bool, (∀ k : D → Prop, k (.bool b) → (f_shows_walk [.d (gD g), .d (stD st), .d v]).run k w) ∧ ∀ k : D → Prop, k (.bool b) → (f_law_is_walk [.d (gD g), .d (stD st), .d v]).run k w := fun z => ⟨false, fun k hk => shows_no h hf hs z hk, fun k hk => lwalk_no z hk⟩
  cases hv with
  | tup hl => exact ⟨jgW g st _, fun k hk => showswalk_run h hf hs hk, fun k hk => lwalk_run h hf hs hl hk⟩
  | lst => exact no ty_tuple_list
  | non => exact no ty_tuple_none
  | int => exact no ty_tuple_int
  | dct => exact no ty_tuple_dict
theorem wk_stp {wk : List (Nat × List Int)} : wk.map stpD = (wk.map fun q => Stp.s q.1 q.2).map sp1D := by
  rw [List.map_map]
  rfl
theorem jg_wk {g : Gme} {wk : List (Nat × List Int)} : ∀ {st : List (List Int)}, WkPre g st wk → (stepsW g (runsW st wk) (onesW g)).isEmpty = true → jgW g st (wk.map fun q => Stp.s q.1 q.2) = true := by
  induction wk with
  | nil => intro st _ h; exact h
  | cons q wk ih =>
    intro st hp hf
    have h0 : (q.1, q.2) ∈ stepsW g st (onesW g) := hp [] q wk rfl
    rw [List.map_cons, jg_s, if_pos h0]
    exact ih (fun pre r post e => hp (q :: pre) r post (by rw [e]; rfl)) hf
end
def DrA (many : Nat) (g : Gme) : Prop := ∃ str, DrL str many many g
theorem law_true (C : Cs) (a : Addr) (ns : List Int) (hz : (a, ns) ∈ C.Z) (hn : ns.length ≤ 63) (hb : ∀ z ∈ ns, Builtin.Int.intBits z ≤ 1048576) : (f_law C [.v (.ref a)]).run (fun d => d = .bool true) (fun _ => False) := by
  show ((b_law C (dStart 13 [.v (.ref a)])).bind _).run _ _
  rw [run_bind]
  unfold b_law
  refine seqM (fun δ => ∃ r, δ = [.v (.ref a), .t r (RowP r a), .non, .non, .non, .non, .non, .non, .non, .non, .non, .non, .non]) ?_ ?_
  · simp [dStart, arSl]
  rintro _ ⟨r, rfl⟩
  have hr : RO C r (RowP r a) := ⟨(a, ns), hz, rfl, hn⟩
  refine seqM (fun δ => ∃ many : Nat, 1 ≤ many ∧ many ≤ 3 ∧ δ = [.v (.ref a), .t r (RowP r a), .p (.int (many : Int)), .non, .non, .non, .non, .non, .non, .non, .non, .non, .non]) ?_ ?_
  · simp
    refine taken_run hr (by omega) (by omega) fun z z0 z1 => ?_
    simp
    exact ⟨(1 + z).toNat, by omega, by omega, by omega⟩
  rintro _ ⟨many, m1, m3, rfl⟩
  refine seqM (fun δ => ∃ g, DrA many g ∧ δ = [.v (.ref a), .t r (RowP r a), .p (.int (many : Int)), .p (gD g), .non, .non, .non, .non, .non, .non, .non, .non, .non]) ?_ ?_
  · simp
    refine taken_run hr (by omega) (by omega) fun z z0 z1 => ?_
    simp
    refine lgame_run hr m1 (by omega) m1 (by omega) fun g hg => ?_
    exact ⟨g, ⟨_, hg⟩, rfl⟩
  rintro _ ⟨g, ⟨str, hg⟩, rfl⟩
  have hpl := hg.pl
  subst hpl
  have h := hg.ok
  have r6 := hg.r6
  have p4 := h.p4
  refine seqM (fun δ => ∃ s, (s = .none ∨ Few g ∧ s = .list ((stsW g).map stD)) ∧ δ = [.v (.ref a), .t r (RowP r a), .p (.int (g.pl.length : Int)), .p (gD g), .p s, .non, .non, .non, .non, .non, .non, .non, .non]) ?_ ?_
  · simp
    refine lstates_run h m3 ?_ fun hf => ?_
    · exact .inl rfl
    · exact .inr ⟨hf, rfl⟩
  rintro _ ⟨s, hs, rfl⟩
  rcases hs with rfl | ⟨hf, rfl⟩
  · simp [isNoneD]
  have fl := few_len hf
  have nl := sts_ne h
  refine seqM (fun δ => δ = [.v (.ref a), .t r (RowP r a), .p (.int (g.pl.length : Int)), .p (gD g), .p (.list ((stsW g).map stD)), .non, .non, .non, .non, .non, .non, .non, .non]) ?_ ?_
  · simp [isNoneD]
  rintro _ rfl
  refine seqM (fun δ => ∃ st, StOk g st ∧ δ = [.v (.ref a), .t r (RowP r a), .p (.int (g.pl.length : Int)), .p (gD g), .p (.list ((stsW g).map stD)), .p (stD st), .non, .non, .non, .non, .non, .non, .non]) ?_ ?_
  · simp
    refine pick_run hr (by simpa using nl) (by simp; omega) fun d hd => ?_
    obtain ⟨st, hst, rfl⟩ := List.mem_map.mp hd
    exact ⟨st, stsW_mem.mp hst, rfl⟩
  rintro _ ⟨st, hs, rfl⟩
  refine seqM (fun δ => ∃ wk, WkOk g st wk ∧ δ = [.v (.ref a), .t r (RowP r a), .p (.int (g.pl.length : Int)), .p (gD g), .p (.list ((stsW g).map stD)), .p (stD st), .p (.tuple (wk.map stpD)), .non, .non, .non, .non, .non, .non]) ?_ ?_
  · simp only [rw_set, rw_call, rw_aCons, rw_aNil, rw_dV, List.getElem?_cons_succ, List.getElem?_cons_zero, slotP_p, pure_bind, run_bind, run_pure, run_need, List.length_cons, List.length_nil, true_and]
    exact walk_run h hf hs fun wk hw => ⟨_, rfl, wk, hw, rfl⟩
  rintro _ ⟨wk, hw, rfl⟩
  obtain ⟨B, hB⟩ : ∃ B, B = wk.map fun q => Stp.s q.1 q.2 := ⟨_, rfl⟩
  rw [wk_stp, ← hB]
  have hwl := (wk_ok h hs hw.pre).2
  have pb := pot_bd h hs
  have pb2 := pot_bd h (wk_ok h hs hw.pre).1
  have bl : B.length ≤ 100000 := by rw [hB, List.length_map]; omega
  have wayl : ∀ p x, x ∈ wys g (plAt g p) → p < g.pl.length → x.length ≤ 1000 := fun p x hx hp => by
    have ok := inW h (h.pl _ (plAt_mem hp)).a x hx
    have := Gm.nodup_le ok.nd (T := (List.range g.rs.length).map fun i : Nat => (i : Int)) fun y hy => by
      have := ok.ix y hy
      rw [List.length_map] at this
      exact List.mem_map.mpr ⟨y.toNat, List.mem_range.mpr (by omega), by omega⟩
    rw [List.length_map, List.length_range] at this
    have := h.r8
    omega
  have bok : StpOk B := fun p x hx => by
    rw [hB] at hx
    obtain ⟨q, hq, e⟩ := List.mem_map.mp hx
    cases e
    obtain ⟨pre, post, e⟩ := List.append_of_mem hq
    have := steps_mem.mp (show (q.1, q.2) ∈ _ from hw.pre pre q post e)
    exact wayl _ _ this.2.1 this.1
  refine seqM' (fun δ => δ = [.v (.ref a), .t r (RowP r a), .p (.int (g.pl.length : Int)), .p (gD g), .p (.list ((stsW g).map stD)), .p (stD st), .p (.tuple (B.map sp1D)), .non, .non, .non, .non, .non, .non]) ?_ ?_
  · rw [rw_if, run_bind]
    simp only [rw_tNotV, rw_tT, rw_call, rw_aCons, rw_aNil, rw_dV, List.getElem?_cons_succ, List.getElem?_cons_zero, slotP_p, pure_bind, run_bind, run_pure, run_need, List.length_cons, List.length_nil, true_and]
    refine lwalk_run h hf hs bok ?_
    rw [hB, jg_wk hw.pre hw.fin]
    simp
  rintro _ rfl
  refine seqM (fun δ => ∃ m : Nat, m ≤ B.length ∧ δ = [.v (.ref a), .t r (RowP r a), .p (.int (g.pl.length : Int)), .p (gD g), .p (.list ((stsW g).map stD)), .p (stD st), .p (.tuple (B.map sp1D)), .p (.int (m : Int)), .non, .non, .non, .non, .non]) ?_ ?_
  · simp
    refine taken_run hr (by omega) (by omega) fun z z0 z1 => ?_
    exact ⟨z.toNat, by omega, by rw [Int.toNat_of_nonneg z0]⟩
  rintro _ ⟨m, hm, rfl⟩
  have J : ∀ l : List Stp, (∀ o ∈ l, o ∈ B) → JVal (.tuple (l.map sp1D)) := fun l hl => .tup (bok.sub hl)
  refine seqM (fun δ => ∃ ds : List D, ds.length ≤ 10 ∧ (∀ d ∈ ds, JVal d) ∧ δ = [.v (.ref a), .t r (RowP r a), .p (.int (g.pl.length : Int)), .p (gD g), .p (.list ((stsW g).map stD)), .p (stD st), .p (.tuple (B.map sp1D)), .p (.int (m : Int)), .o ds, .non, .non, .non, .non]) ?_ ?_
  · simp only [rw_setO, rw_nLst, rw_d2, rw_d1, rw_dCB, rw_dTup, rw_dSl, rw_oNone, rw_oSome, rw_aCons, rw_aNil, rw_dV, rw_dC, List.getElem?_cons_succ, List.getElem?_cons_zero, slotP_p, pure_bind, rw_neg, rw_asI, rw_cutT, rw_rev, rw_listT, rw_addT, rw_allD1, rw_allD0, run_bind, run_pure, run_need, List.length_cons, List.length_nil]
    refine ⟨trivial, lineN (by have := cut_len (l := B.map sp1D) (lo := some (-1)) (hi := none); rw [List.length_map] at *; omega), Nat.zero_le _, lineN (n := 10) (by decide), _, rfl, _, Nat.le_refl _, fun d hd => ?_, rfl⟩
    simp only [List.mem_cons, List.not_mem_nil, or_false] at hd
    rw [cut_map, cut_map, cut_map, ← List.map_reverse, ← List.map_append] at hd
    rcases hd with rfl | rfl | rfl | rfl | rfl | rfl | rfl | rfl | rfl | rfl
    · exact J B fun o ho => ho
    · exact .lst
    · exact J _ cut_sub
    · exact J _ cut_sub
    · exact J _ fun o ho => List.mem_reverse.mp ho
    · exact J _ fun o ho => (List.mem_append.mp ho).elim id (cut_sub o)
    · exact J [] fun o ho => by cases ho
    · exact .non
    · exact .int
    · exact .dct
  rintro _ ⟨ds, dl, hds, rfl⟩
  have ins : ∀ q : Stp, (∀ p x, q = .s p x → x.length ≤ 1000) → JVal (.tuple (cutD (B.map sp1D) none (some (m : Int)) ++ [sp1D q] ++ cutD (B.map sp1D) (some (m : Int)) none)) := fun q hq => by
    have e : cutD (B.map sp1D) none (some (m : Int)) ++ [sp1D q] ++ cutD (B.map sp1D) (some (m : Int)) none = (cutD B none (some (m : Int)) ++ [q] ++ cutD B (some (m : Int)) none).map sp1D := by
      rw [cut_map, cut_map, List.map_append, List.map_append]
      rfl
    rw [e]
    refine .tup (((bok.sub cut_sub).app fun p x hx => ?_).app (bok.sub cut_sub))
    exact hq p x (List.mem_singleton.mp hx).symm
  have c1 := cut_len (l := B.map sp1D) (lo := none) (hi := some (m : Int))
  have c2 := cut_len (l := B.map sp1D) (lo := some (m : Int)) (hi := none)
  rw [List.length_map] at c1 c2
  refine seqM (fun δ => ∃ (ds : List D) (s9 : Sl), ds.length ≤ 17 ∧ (∀ d ∈ ds, JVal d) ∧ δ = [.v (.ref a), .t r (RowP r a), .p (.int (g.pl.length : Int)), .p (gD g), .p (.list ((stsW g).map stD)), .p (stD st), .p (.tuple (B.map sp1D)), .p (.int (m : Int)), .o ds, s9, .non, .non, .non]) ?_ ?_
  · rw [rw_for, run_bind, rw_iSeqD]
    simp only [rw_dLst, rw_dTup, rw_aCons, rw_aNil, rw_dV, rw_dC, List.getElem?_cons_succ, List.getElem?_cons_zero, slotP_p, pure_bind, rw_allD1, rw_allD0, run_bind, run_pure, run_need, List.length_cons, List.length_nil, rw_seqL]
    have sz : ∀ j : Nat, j ≤ 100 → j ≤ sizeLine := fun j hj => lineN (by omega)
    iterate 12 refine ⟨sz _ (by decide), ?_⟩
    have eO : [PyData.tuple [.int 0, .tuple []], .tuple [.int (g.pl.length : Int), .tuple [.int 0]], .tuple [.bool true, .tuple [.int 0]], .list [.int 0, .tuple [.int 0]], .tuple [.int 0], .none, .tuple [.int 0, .list [.int 0]]] = [Stp.s 0 [], .s g.pl.length [0], .b [0], .l [.int 0, .tuple [.int 0]], .one (.int 0), .non, .bad 0 [.int 0]].map sp1D := rfl
    rw [eO]
    refine loop_pre (g := sp1D) (fun pre δ => ∃ (ds : List D) (s9 : Sl), ds.length ≤ 10 + pre.length ∧ (∀ d ∈ ds, JVal d) ∧ δ = [.v (.ref a), .t r (RowP r a), .p (.int (g.pl.length : Int)), .p (gD g), .p (.list ((stsW g).map stD)), .p (stD st), .p (.tuple (B.map sp1D)), .p (.int (m : Int)), .o ds, s9, .non, .non, .non]) ⟨ds, _, by simpa using dl, hds, rfl⟩ ?_ ?_
    · rintro pre q post δ hx ⟨ds, s9, dl, hds, rfl⟩
      refine ⟨_, rfl, ?_⟩
      show (sApp 8 _ [.v (.ref a), .t r (RowP r a), .p (.int (g.pl.length : Int)), .p (gD g), .p (.list ((stsW g).map stD)), .p (stD st), .p (.tuple (B.map sp1D)), .p (.int (m : Int)), .o ds, .p (sp1D q), .non, .non, .non]).run _ _
      have pl : pre.length < 7 := by
        have := congrArg List.length hx
        simp at this
        omega
      simp only [rw_app, rw_d2, rw_dSl, rw_oNone, rw_oSome, rw_dTup, rw_aCons, rw_aNil, rw_dV, rw_dC, List.getElem?_cons_succ, List.getElem?_cons_zero, slotO_o, slotP_p, pure_bind, rw_asI, rw_cutT, rw_addT, rw_allD1, rw_allD0, run_bind, run_pure, run_need, List.length_cons, List.length_nil]
      refine ⟨sz _ (by decide), lineN (by omega), lineN (by simp only [List.length_append, List.length_cons, List.length_nil]; omega), lineL (by omega), ds ++ [_], .p (sp1D q), ?_, fun d hd => ?_, rfl⟩
      · simp only [List.length_append, List.length_cons, List.length_nil]
        omega
      · rcases List.mem_append.mp hd with hd | hd
        · exact hds d hd
        · rw [List.mem_singleton.mp hd]
          refine ins q fun p x e => ?_
          have : Stp.s p x ∈ [Stp.s 0 [], .s g.pl.length [0], .b [0], .l [.int 0, .tuple [.int 0]], .one (.int 0), .non, .bad 0 [.int 0]] := by rw [hx, e]; simp
          simp only [List.mem_cons, Stp.s.injEq, reduceCtorEq, List.not_mem_nil, or_false] at this
          rcases this with ⟨_, rfl⟩ | ⟨_, rfl⟩ <;> simp
    · rintro δ ⟨ds, s9, dl, hds, rfl⟩
      exact ⟨_, rfl, ds, s9, dl, hds, rfl⟩
  rintro _ ⟨ds, s9, dl, hds, rfl⟩
  refine seqM (fun δ => ∃ p : Nat, p < g.pl.length ∧ δ = [.v (.ref a), .t r (RowP r a), .p (.int (g.pl.length : Int)), .p (gD g), .p (.list ((stsW g).map stD)), .p (stD st), .p (.tuple (B.map sp1D)), .p (.int (m : Int)), .o ds, s9, .p (.int (p : Int)), .non, .non]) ?_ ?_
  · simp
    refine taken_run hr (by omega) (by omega) fun z z0 z1 => ?_
    exact ⟨z.toNat, by omega, by rw [Int.toNat_of_nonneg z0]⟩
  rintro _ ⟨p, hp, rfl⟩
  refine seqM (fun δ => ∃ x, x ∈ wys g (plAt g p) ∧ δ = [.v (.ref a), .t r (RowP r a), .p (.int (g.pl.length : Int)), .p (gD g), .p (.list ((stsW g).map stD)), .p (stD st), .p (.tuple (B.map sp1D)), .p (.int (m : Int)), .o ds, s9, .p (.int (p : Int)), .p (tupI x), .non]) ?_ ?_
  · have gi : dIx (gD g) (.int 2) = .pure (.tuple (g.pl.map plD)) := by unfold gD; rw [rw_ixT, at2]; rfl
    simp only [rw_set, rw_call, rw_aCons, rw_aTrk, rw_aNil, rw_d2, rw_dV, rw_dC, List.getElem?_cons_succ, List.getElem?_cons_zero, slotP_p, slotT_t, pure_bind, gi, rw_ixT, pl_at hp, optW_some, run_bind, run_pure, run_need, List.length_cons, List.length_nil, true_and]
    refine lways_at h hp ?_
    have wne := h.pl _ (plAt_mem hp)
    have w8 := hf.c8 _ (plAt_mem hp)
    refine pick_run hr ?_ ?_ fun d hd => ?_
    · rw [List.length_map]
      exact List.length_pos_iff.mpr wne.w
    · rw [List.length_map]
      omega
    · obtain ⟨x, hx, rfl⟩ := List.mem_map.mp hd
      exact ⟨_, rfl, x, hx, rfl⟩
  rintro _ ⟨x, hx, rfl⟩
  have hxl := wayl p x hx hp
  rw [rw_sFz]
  show (sSeq _ _ [.v (.ref a), .t r (RowP r a), .p (.int (g.pl.length : Int)), .p (gD g), .p (.list ((stsW g).map stD)), .p (stD st), .p (.tuple (B.map sp1D)), .p (.int (m : Int)), .p (.list ds), s9, .p (.int (p : Int)), .p (tupI x), .non]).run _ _
  refine seqM' (fun δ => ∃ ds : List D, ds.length ≤ 21 ∧ (∀ d ∈ ds, JVal d) ∧ δ = [.v (.ref a), .t r (RowP r a), .p (.int (g.pl.length : Int)), .p (gD g), .p (.list ((stsW g).map stD)), .p (stD st), .p (.tuple (B.map sp1D)), .p (.int (m : Int)), .p (.list ds), s9, .p (.int (p : Int)), .p (tupI x), .non]) ?_ ?_
  · have eq1 : PyData.tuple [.int (p : Int), tupI x] = sp1D (.s p x) := rfl
    simp only [rw_set, rw_d2, rw_dLst, rw_dSl, rw_oNone, rw_oSome, rw_dTup, rw_aCons, rw_aNil, rw_dV, rw_dC, List.getElem?_cons_succ, List.getElem?_cons_zero, slotP_p, pure_bind, rw_asI, rw_cutT, rw_addT, rw_addL, rw_allD1, rw_allD0, run_bind, run_pure, run_need, List.length_cons, List.length_nil, eq1]
    have sz : ∀ j : Nat, j ≤ 400000 → j ≤ sizeLine := fun j hj => lineN (by omega)
    have o1 : StpOk [Stp.s p x] := fun p' x' h => by cases List.mem_singleton.mp h; exact hxl
    have e1 : ∀ l m : List Stp, PyData.tuple (l.map sp1D ++ m.map sp1D) = .tuple ((l ++ m).map sp1D) := fun l m => by rw [List.map_append]
    have lb : (B.map sp1D).length = B.length := List.length_map _
    refine ⟨sz _ (by decide), sz _ (by decide), sz _ (by omega), sz _ (by rw [List.length_append]; show _ + 1 + _ ≤ _; omega), sz _ (by decide), sz _ (by decide), sz _ (by decide), sz _ (by decide), sz _ (by omega), sz _ (by decide), sz _ (by decide), sz _ (by omega), sz _ (by decide), sz _ (by omega), _, by simp only [List.length_append, List.length_cons, List.length_nil]; omega, fun d hd => ?_, rfl⟩
    rcases List.mem_append.mp hd with hd | hd
    · exact hds d hd
    simp only [List.mem_cons, List.not_mem_nil, or_false] at hd
    rcases hd with rfl | rfl | rfl | rfl
    · exact ins (.s p x) fun p' x' e => by cases e; exact hxl
    · exact .tup o1
    · exact e1 [.s p x] B ▸ .tup (o1.app bok)
    · exact e1 B [.s p x] ▸ .tup (bok.app o1)
  rintro _ ⟨ds, dl, hds, rfl⟩
  rw [rw_sFz]
  show (sSeq _ _ [.v (.ref a), .t r (RowP r a), .p (.int (g.pl.length : Int)), .p (gD g), .p (.list ((stsW g).map stD)), .p (stD st), .p (.tuple (B.map sp1D)), .p (.int (m : Int)), .p (.list ds), s9, .p (.int (p : Int)), .p (tupI x), .non]).run _ _
  refine seqM' (fun δ => ∃ s12, δ = [.v (.ref a), .t r (RowP r a), .p (.int (g.pl.length : Int)), .p (gD g), .p (.list ((stsW g).map stD)), .p (stD st), .p (.tuple (B.map sp1D)), .p (.int (m : Int)), .p (.list ds), s9, .p (.int (p : Int)), .p (tupI x), s12]) ?_ ?_
  · rw [rw_for, run_bind, rw_iSeqD]
    simp only [rw_dV, List.getElem?_cons_succ, List.getElem?_cons_zero, slotP_p, pure_bind, rw_seqL, run_pure]
    have em : ds = ds.map id := (List.map_id ds).symm
    rw [em]
    refine loop_pre (xs := ds) (g := id) (fun pre δ => ∃ s12, δ = [.v (.ref a), .t r (RowP r a), .p (.int (g.pl.length : Int)), .p (gD g), .p (.list ((stsW g).map stD)), .p (stD st), .p (.tuple (B.map sp1D)), .p (.int (m : Int)), .p (.list (ds.map id)), s9, .p (.int (p : Int)), .p (tupI x), s12]) ⟨_, rfl⟩ ?_ ?_
    · rintro pre v post δ hxs ⟨s12, rfl⟩
      refine ⟨_, rfl, ?_⟩
      show (sIf _ _ _ [.v (.ref a), .t r (RowP r a), .p (.int (g.pl.length : Int)), .p (gD g), .p (.list ((stsW g).map stD)), .p (stD st), .p (.tuple (B.map sp1D)), .p (.int (m : Int)), .p (.list (ds.map id)), s9, .p (.int (p : Int)), .p (tupI x), .p v]).run _ _
      obtain ⟨b, b1, b2⟩ := judged (w := fun _ => False) h hf hs (hds v (by rw [hxs]; simp))
      rw [rw_if, run_bind]
      simp only [rw_tNotV, rw_tT, rw_call, rw_aCons, rw_aNil, rw_dV, List.getElem?_cons_succ, List.getElem?_cons_zero, slotP_p, pure_bind, run_bind, run_pure, run_need, List.length_cons, List.length_nil, true_and]
      refine b1 _ ?_
      refine b2 _ ?_
      refine alike_bool ?_
      simp
    · rintro δ ⟨s12, rfl⟩
      exact ⟨_, rfl⟩
  rintro _ ⟨s12, rfl⟩
  simp
end Tr

set_option maxHeartbeats 0
namespace Tr
open PySem PySem.Spec L2
@[reducible] def protT (K : PySem.W.Frag) : ProtC := ⟨fun P q => (P, q) ∈ tlT.map (lmA K)⟩
theorem tpT {K : PySem.W.Frag} {h base : Heap} {mg : Str → Option Value} {w : World} {a : Addr} {ns : List Int} (X : K.In h) (G : h.Ns mainGlobals mg) (c0 : He.SaysX faT fnT [] tfT exT w h K) (tb : ∀ p ∈ tfT.map (He.cT K), LamX.TabB base mg p.1 p.2)
    (hu : ((tlT.map (lmA K)).map (·.1)).Nodup) : letI := protT K; ∀ (np : ∀ P ∈ tgT.map (tabA K), ∀ q, ¬ ProtC.p P q) (pl : ∀ p ∈ tlT.map (lmA K), ProtC.p p.1 p.2), Tp (mkC K mg (tgT.map (tabA K)) np (tlT.map (lmA K)) pl a ns) base :=
  letI := protT K
  have c := c0.t.d
  have hex := (Bool.and_eq_true_iff.mp c0.more).2
  fun np pl => {
    d_law_taken := c.def_ 0 (d := dd_law_taken) rfl
    g_law_taken := He.glo_ok X G (c.fact 0 (f := .glo "_law_taken") rfl)
    d_law_pick := c.def_ 1 (d := dd_law_pick) rfl
    g_law_pick := He.glo_ok X G (c.fact 1 (f := .glo "_law_pick") rfl)
    d_law_table := c.def_ 2 (d := dd_law_table) rfl
    g_law_table := He.glo_ok X G (c.fact 2 (f := .glo "_law_table") rfl)
    d_law_game_ways := c.def_ 3 (d := dd_law_game_ways) rfl
    g_law_game_ways := He.glo_ok X G (c.fact 3 (f := .glo "_law_game_ways") rfl)
    d_law_game := c.def_ 4 (d := dd_law_game) rfl
    g_law_game := He.glo_ok X G (c.fact 4 (f := .glo "_law_game") rfl)
    d_law_states := c.def_ 5 (d := dd_law_states) rfl
    g_law_states := He.glo_ok X G (c.fact 5 (f := .glo "_law_states") rfl)
    d_is_in := c.def_ 6 (d := dd_is_in) rfl
    g_is_in := He.glo_ok X G (c.fact 6 (f := .glo "is_in") rfl)
    d_is_table := c.def_ 7 (d := dd_is_table) rfl
    g_is_table := He.glo_ok X G (c.fact 7 (f := .glo "is_table") rfl)
    t_is_table := tabGx (tb (He.cT K ("is_table", none)) (List.mem_map_of_mem (f := He.cT K) (a := (("is_table", none) : He.Defn)) (by decide +kernel)))
    p_is_table := List.mem_map_of_mem (f := tabA K) (a := (("is_table", none) : He.Defn)) (by decide +kernel)
    d_is_game_road := c.def_ 8 (d := dd_is_game_road) rfl
    g_is_game_road := He.glo_ok X G (c.fact 8 (f := .glo "is_game_road") rfl)
    t_is_game_road := tabGx (tb (He.cT K ("is_game_road", none)) (List.mem_map_of_mem (f := He.cT K) (a := (("is_game_road", none) : He.Defn)) (by decide +kernel)))
    p_is_game_road := List.mem_map_of_mem (f := tabA K) (a := (("is_game_road", none) : He.Defn)) (by decide +kernel)
    d_all_ways := c.def_ 9 (d := dd_all_ways) rfl
    g_all_ways := He.glo_ok X G (c.fact 9 (f := .glo "all_ways") rfl)
    d_net_of := c.def_ 10 (d := dd_net_of) rfl
    g_net_of := He.glo_ok X G (c.fact 10 (f := .glo "net_of") rfl)
    d_is_player := c.def_ 11 (d := dd_is_player) rfl
    g_is_player := He.glo_ok X G (c.fact 11 (f := .glo "is_player") rfl)
    t_is_player := tabGx (tb (He.cT K ("is_player", none)) (List.mem_map_of_mem (f := He.cT K) (a := (("is_player", none) : He.Defn)) (by decide +kernel)))
    p_is_player := List.mem_map_of_mem (f := tabA K) (a := (("is_player", none) : He.Defn)) (by decide +kernel)
    d_need_game := c.def_ 12 (d := dd_need_game) rfl
    g_need_game := He.glo_ok X G (c.fact 12 (f := .glo "need_game") rfl)
    d_is_state := c.def_ 13 (d := dd_is_state) rfl
    g_is_state := He.glo_ok X G (c.fact 13 (f := .glo "is_state") rfl)
    t_is_state := tabGx (tb (He.cT K ("is_state", none)) (List.mem_map_of_mem (f := He.cT K) (a := (("is_state", none) : He.Defn)) (by decide +kernel)))
    p_is_state := List.mem_map_of_mem (f := tabA K) (a := (("is_state", none) : He.Defn)) (by decide +kernel)
    d_choices_of := c.def_ 14 (d := dd_choices_of) rfl
    g_choices_of := He.glo_ok X G (c.fact 14 (f := .glo "choices_of") rfl)
    t_choices_of := tabGx (tb (He.cT K ("choices_of", none)) (List.mem_map_of_mem (f := He.cT K) (a := (("choices_of", none) : He.Defn)) (by decide +kernel)))
    p_choices_of := List.mem_map_of_mem (f := tabA K) (a := (("choices_of", none) : He.Defn)) (by decide +kernel)
    d_need_state := c.def_ 15 (d := dd_need_state) rfl
    g_need_state := He.glo_ok X G (c.fact 15 (f := .glo "need_state") rfl)
    d_loads_of := c.def_ 16 (d := dd_loads_of) rfl
    g_loads_of := He.glo_ok X G (c.fact 16 (f := .glo "loads_of") rfl)
    t_loads_of := tabGx (tb (He.cT K ("loads_of", none)) (List.mem_map_of_mem (f := He.cT K) (a := (("loads_of", none) : He.Defn)) (by decide +kernel)))
    p_loads_of := List.mem_map_of_mem (f := tabA K) (a := (("loads_of", none) : He.Defn)) (by decide +kernel)
    d_time_in := c.def_ 17 (d := dd_time_in) rfl
    g_time_in := He.glo_ok X G (c.fact 17 (f := .glo "time_in") rfl)
    t_time_in := tabGx (tb (He.cT K ("time_in", none)) (List.mem_map_of_mem (f := He.cT K) (a := (("time_in", none) : He.Defn)) (by decide +kernel)))
    p_time_in := List.mem_map_of_mem (f := tabA K) (a := (("time_in", none) : He.Defn)) (by decide +kernel)
    d_steps_in := c.def_ 18 (d := dd_steps_in) rfl
    g_steps_in := He.glo_ok X G (c.fact 18 (f := .glo "steps_in") rfl)
    d_ones := c.def_ 19 (d := dd_ones) rfl
    g_ones := He.glo_ok X G (c.fact 19 (f := .glo "ones") rfl)
    d_walk_to_standing := c.def_ 20 (d := dd_walk_to_standing) rfl
    g_walk_to_standing := He.glo_ok X G (c.fact 20 (f := .glo "walk_to_standing") rfl)
    d_law_player_time := c.def_ 21 (d := dd_law_player_time) rfl
    g_law_player_time := He.glo_ok X G (c.fact 21 (f := .glo "_law_player_time") rfl)
    d_law_steps := c.def_ 22 (d := dd_law_steps) rfl
    g_law_steps := He.glo_ok X G (c.fact 22 (f := .glo "_law_steps") rfl)
    d_law_is_walk := c.def_ 23 (d := dd_law_is_walk) rfl
    g_law_is_walk := He.glo_ok X G (c.fact 23 (f := .glo "_law_is_walk") rfl)
    d_law_alike := c.def_ 24 (d := dd_law_alike) rfl
    g_law_alike := He.glo_ok X G (c.fact 24 (f := .glo "_law_alike") rfl)
    d_is_step := c.def_ 25 (d := dd_is_step) rfl
    g_is_step := He.glo_ok X G (c.fact 25 (f := .glo "is_step") rfl)
    t_is_step := tabGx (tb (He.cT K ("is_step", none)) (List.mem_map_of_mem (f := He.cT K) (a := (("is_step", none) : He.Defn)) (by decide +kernel)))
    p_is_step := List.mem_map_of_mem (f := tabA K) (a := (("is_step", none) : He.Defn)) (by decide +kernel)
    d_shows_walk := c.def_ 26 (d := dd_shows_walk) rfl
    g_shows_walk := He.glo_ok X G (c.fact 26 (f := .glo "shows_walk") rfl)
    d_law := c.def_ 27 (d := dd_law) rfl
    g_law := He.glo_ok X G (c.fact 27 (f := .glo "law") rfl)
    b_all := He.free_ok X G (c.fact 28 (f := .free "all") rfl)
    b_any := He.free_ok X G (c.fact 29 (f := .free "any") rfl)
    b_bool := He.free_ok X G (c.fact 30 (f := .free "bool") rfl)
    b_enumerate := He.free_ok X G (c.fact 31 (f := .free "enumerate") rfl)
    b_int := He.free_ok X G (c.fact 32 (f := .free "int") rfl)
    b_isinstance := He.free_ok X G (c.fact 33 (f := .free "isinstance") rfl)
    b_len := He.free_ok X G (c.fact 34 (f := .free "len") rfl)
    b_list := He.free_ok X G (c.fact 35 (f := .free "list") rfl)
    b_max := He.free_ok X G (c.fact 36 (f := .free "max") rfl)
    b_range := He.free_ok X G (c.fact 37 (f := .free "range") rfl)
    b_sorted := He.free_ok X G (c.fact 38 (f := .free "sorted") rfl)
    b_str := He.free_ok X G (c.fact 39 (f := .free "str") rfl)
    b_sum := He.free_ok X G (c.fact 40 (f := .free "sum") rfl)
    b_tuple := He.free_ok X G (c.fact 41 (f := .free "tuple") rfl)
    b_zip := He.free_ok X G (c.fact 42 (f := .free "zip") rfl)
    i_MOST_CHOICES := He.int_ok X G (c.fact 43 (f := .int "MOST_CHOICES" 8) rfl)
    i_MOST_COST := He.int_ok X G (c.fact 44 (f := .int "MOST_COST" 1000) rfl)
    i_MOST_NODES := He.int_ok X G (c.fact 45 (f := .int "MOST_NODES" 6) rfl)
    i_MOST_PLAYERS := He.int_ok X G (c.fact 46 (f := .int "MOST_PLAYERS" 4) rfl)
    i_MOST_ROADS := He.int_ok X G (c.fact 47 (f := .int "MOST_ROADS" 8) rfl)
    i_MOST_STATES := He.int_ok X G (c.fact 48 (f := .int "MOST_STATES" 1000) rfl) }
theorem lawT (w : World) (mg : Str → Option Value) (fa : Addr) (h : Heap) (hl : ∀ (I : ProtC) (C : @Cs I) (a : Addr) (ns : List Int), (a, ns) ∈ C.Z → ns.length ≤ 63 → (∀ z ∈ ns, Builtin.Int.intBits z ≤ 1048576) → (@f_law I C [.v (.ref a)]).run (fun d => d = .bool true) (fun _ => False))
    (Y : hkT.says w h) (G : h.Ns mainGlobals mg) (hm : mg "law" = some (.ref fa)) : ∃ K : PySem.W.Frag, K.In h ∧ LamX.LawAtS PySem.Challenge.rw_tollroads_k24_whole_walks w K (L2.CX (PySem.Challenge.rw_tollroads_k24_whole_walks).prog w) 9 63 "_law_script" mg fa h := by
  obtain ⟨K, X, c⟩ := Y
  have e := hm.symm.trans (He.glo_ok X G (c.t.d.fact 27 (f := .glo "law") rfl))
  cases e
  obtain ⟨fd, F⟩ := c.t.d.def_ 27 (d := dd_law) rfl
  have b := FunD.bindsA (ps := ["_law_script"]) F fun _ _ _ _ _ _ us hl => match us, hl with | [_], _ => rfl
  have nod : (tgT.map (tabA K) ++ (tlT.map (lmA K)).map (·.1)).Nodup := of_decide_eq_true (Bool.and_eq_true_iff.mp c.more).1
  letI := protT K
  have np : ∀ P ∈ tgT.map (tabA K), ∀ q, ¬ ProtC.p P q := prot_np nod
  have pl : ∀ p ∈ tlT.map (lmA K), ProtC.p p.1 p.2 := fun p hp => hp
  refine ⟨K, X, lawAt (F := fun C => f_law C) (cs := tfT.map (He.cT K)) np pl (fun P hP => ?_) (fun q hq => ?_) (fun p hp => ?_) (fun p hp => ?_) (fun p hp => ?_) (fun s v => b s [v] rfl) (fun base kb gb tb a ns => n_law (tpT X G c tb (List.nodup_append.mp nod).2.1 np pl) F) (hl _)⟩
  · obtain ⟨q, hq, rfl⟩ := List.mem_map.mp hP
    exact ⟨_, List.mem_map_of_mem (f := He.cT K) (List.mem_append_left _ hq), rfl⟩
  · obtain ⟨q', hq', rfl⟩ := List.mem_map.mp hq
    exact ⟨_, List.mem_map_of_mem (f := He.cT K) (List.mem_append_right _ (List.mem_map_of_mem (f := (·.1)) hq')), rfl⟩
  · obtain ⟨q, hq, rfl⟩ := List.mem_map.mp hp
    exact c.empty q hq
  · obtain ⟨q, hq, rfl⟩ := List.mem_map.mp hp
    exact c.out q hq
  · obtain ⟨q, hq, rfl⟩ := List.mem_map.mp hp
    exact PySem.W.codeHd_of_K X (c.hd q hq)
end Tr
open PySem PySem.W PySem.Calls PyProof.Rows
theorem PySem.Challenge.cw_tollroads_k24_whole_walks_holds : PySem.Challenge.rw_tollroads_k24_whole_walks.Holds := by
  w_on; o_law
  refine HandSHeadRun.head_any (r := Tr.rwT) (q := view Tr.rwT.prog [44]) (H := Tr.hkT) (ob := Tr.obT) (M := 6000) (loose := Tr.looseT) (d := HandSHeadRun.topDef Tr.rwT.prog 44) (kwd := []) Tr.obT_eq
    (by kernel_rfl) (fun s => by kernel_rfl) Tr.runT (by kernel_rfl) (by kernel_rfl) (by kernel_rfl) (by rfl) (by first | assumption | decide +kernel) (by decide +kernel) ⟨rfl, rfl, rfl, rfl, rfl, by decide +kernel⟩ ?hw ?hc
  case hw => w_witness2
  case hc =>
    refine LamX.walk_ofTsE (l := PySem.Challenge.rw_tollroads_k24_whole_walks) (n := 63) (k := 9) (x := "_law_script") (CX := L2.CX (PySem.Challenge.rw_tollroads_k24_whole_walks).prog) rfl (by decide) (by kernel_rfl) ⟨rfl, by decide, by decide⟩ ?F (letI : Tr.ProtC := ⟨fun _ _ => False⟩; fun _ _ _ _ _ z => Tr.noOut z)
    intro w mg fa h Y G hmg0
    have hmg : mg ("law" : PySem.Str) = some (.ref fa) := by
      have e : (HandSHeadRun.topDef Tr.rwT.prog 44).name = ("law" : PySem.Str) := by kernel_rfl
      rw [← e]
      exact hmg0
    exact Tr.lawT w mg fa h (fun I => @Tr.law_true I) Y G hmg
