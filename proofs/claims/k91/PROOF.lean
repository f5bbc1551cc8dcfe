import PyProof.Rows.All
import Wide.All
import OpenK.AllK
import Wide.FinOn
import HandS.Base
import HandS.Call
import HandS.List
import HandS.Comp
import HandS.Words
import HandS.WordsList
import HandS.Exc
import HandS.AnyAll
import HandS.Iter
import HandS.Dict
import HandS.Lambda
import KE.KeyNested
import HandS.TupAny
import HandS.ExcOwn
import HandS.WordsExc
import HandS.IsInst
import HandS.Wide
import HandS.Gcd
import HandS.Deep
import HandS.Flow
import HandS.Text
import HandS.Walk
import HandS.Zip
import HandS.Defaults
import KE.KNest
import HandS.GenOver
import HandS.GenList
import HandS.HeadHook4
import KE.KStateDown
import HandS.EndTab
import HandS.HeadWalk
import HandS.Head0
import HandS.Head1
import HandS.Head2
import HandS.HeadEnd
import HandS.Head3
import HandS.Star
import KE.GoesMore
import KE.GoesZip
import HandS.TupLe
import HandS.SortRule
import HandS.SortInts
import HandS.Small
import HandS.Style
import HandS.TupMul
import KE.DataMinMax
import KE.SortData
import HandS.TryOnly
import HandS.ExcInit
import HandS.ExcField
import HandS.ExcIs
import KE.KExcIs
import KE.KMinKey
import KE.KLam
import KE.LtData
import HandS.SortKw
import HandS.IterNext
import HandS.Conv
import KE.DataCmp
import KE.SortKeyHeap
import HandS.Keys
import HandS.TupSets
import KE.DataAny
import HandS.DictComp
import HandS.More
import HandS.Strs
import KE.KDictCopyH
import KE.KDictPairs
import KE.KDictZip
import KE.KDictWalk
import KE.KDictList
import PySem.Challenge.RW_tollroads_k91_across_reductions_and_ways
set_option Elab.async false
set_option linter.all false
set_option maxHeartbeats 4000000
set_option maxRecDepth 100000
namespace Tr
open PySem PySem.Spec L2
set_option maxHeartbeats 0
def excB (K : PySem.W.Frag) (D : Addr) : Bool :=
  He.eqO (PySem.W.findIn K (.ref D) "__getattribute__") (some (some (.builtin "BaseException.__getattribute__"))) && (He.eqO (PySem.W.findIn K (.ref D) "__getattr__") (some none) && (decide (PySem.W.subIn K (.ref D) (.type "BaseException") = some true) && (PySem.W.hasDictIn K D && (He.eqO (PySem.W.findIn K (.ref D) "__class__") (some (some (.builtin "object.__class__"))) && (He.eqO (PySem.W.specialIn K (.builtin "object.__class__") "__get__") (some (some (.builtin "getset_descriptor.__get__"))) && (decide (PySem.W.takesIn K (.builtin "object.__class__") = some true) && decide (PySem.W.mroIn K D (.type "object") = some true)))))))
def oclB (K : PySem.W.Frag) (C : Addr) : Bool := match K.lookup C with
  | some ⟨.type "type", _, .cls cd, sl⟩ => (match cd.mro, sl.toList with
    | .ref C' :: bm, [_, _, _, _, some (.builtin n), _] => C' == C && n == "ValueError.__new__" && !cd.hasDel && cd.hasDict && PySem.HandSPX.refsVE bm
    | _, _ => false)
  | _ => false
def oexB (K : PySem.W.Frag) (C : Addr) : Bool :=
  oclB K C && (He.eqO (PySem.W.findIn K (.ref C) "__setattr__") (some (some (.builtin "object.__setattr__"))) && (decide (PySem.W.subIn K (.ref C) (.type "BaseException") = some true) && (decide (PySem.W.typeIn K (.ref C) = some (.type "type")) && PySem.W.keepIn K (.ref C))))
def tldB (K : PySem.W.Frag) (CT CS fI : Addr) (fld : Str) : Bool :=
  oexB K CT && (excB K CT && (xfB K CT && (He.eqO (PySem.W.findIn K (.ref CT) fld) (some none) && (decide (PySem.W.kitOne K (.ref CT) (.ref CT) = some true) && (decide (PySem.W.exmOne K (.ref CT) (.ref CS) = some true) && (He.eqO (PySem.W.findIn K (.ref CT) "__init__") (some (some (.ref fI))) && decide (PySem.W.typeIn K (.ref fI) = some (.type "function"))))))))
def mthS (s : Stmt) (j : Nat) : Stmt := match s with
  | .ClassDef _ _ _ b _ _ _ _ _ _ _ => b.getD j (.Pass ⟨0, 0, 0, 0⟩)
  | _ => .Pass ⟨0, 0, 0, 0⟩
def top (i : Nat) : Stmt := PySem.Challenge.pw_tollroads_k91_across_reductions_and_ways.main.body.getD i (.Pass ⟨0, 0, 0, 0⟩)
abbrev s_law_taken : Stmt := top 30
abbrev s_law_pick : Stmt := top 31
abbrev s_law_road : Stmt := top 39
abbrev s_law_net : Stmt := top 40
abbrev s_law_ways : Stmt := top 38
abbrev s_is_in : Stmt := top 12
abbrev s_is_road : Stmt := top 13
abbrev s_need_net : Stmt := top 14
abbrev s_need_nodes : Stmt := top 15
abbrev s_all_ways : Stmt := top 16
abbrev s_need_way : Stmt := top 20
abbrev s_roads_on_ways : Stmt := top 22
abbrev s_side_step : Stmt := top 23
abbrev s_is_row : Stmt := top 24
abbrev s_row_step : Stmt := top 25
abbrev s_after_step : Stmt := top 26
abbrev s_steps_of : Stmt := top 27
abbrev s_reduction : Stmt := top 28
abbrev s_few_ways : Stmt := top 17
abbrev s_ways : Stmt := top 18
abbrev s_law : Stmt := top 53
abbrev s_law_told : Stmt := top 52
abbrev s_TooMany___init__ : Stmt := mthS (top 5) 0
def dd_law_taken : He.DefD := ⟨("_law_taken", none), "_law_taken", "_law_taken", defArgs s_law_taken, defBody s_law_taken, defScope s_law_taken, [], []⟩
def dd_law_pick : He.DefD := ⟨("_law_pick", none), "_law_pick", "_law_pick", defArgs s_law_pick, defBody s_law_pick, defScope s_law_pick, [], []⟩
def dd_law_road : He.DefD := ⟨("_law_road", none), "_law_road", "_law_road", defArgs s_law_road, defBody s_law_road, defScope s_law_road, [], []⟩
def dd_law_net : He.DefD := ⟨("_law_net", none), "_law_net", "_law_net", defArgs s_law_net, defBody s_law_net, defScope s_law_net, [], []⟩
def dd_law_ways : He.DefD := ⟨("_law_ways", none), "_law_ways", "_law_ways", defArgs s_law_ways, defBody s_law_ways, defScope s_law_ways, [], []⟩
def dd_is_in : He.DefD := ⟨("is_in", none), "is_in", "is_in", defArgs s_is_in, defBody s_is_in, defScope s_is_in, [], []⟩
def dd_is_road : He.DefD := ⟨("is_road", none), "is_road", "is_road", defArgs s_is_road, defBody s_is_road, defScope s_is_road, [], []⟩
def dd_need_net : He.DefD := ⟨("need_net", none), "need_net", "need_net", defArgs s_need_net, defBody s_need_net, defScope s_need_net, [], []⟩
def dd_need_nodes : He.DefD := ⟨("need_nodes", none), "need_nodes", "need_nodes", defArgs s_need_nodes, defBody s_need_nodes, defScope s_need_nodes, [], []⟩
def dd_all_ways : He.DefD := ⟨("all_ways", none), "all_ways", "all_ways", defArgs s_all_ways, defBody s_all_ways, defScope s_all_ways, [], []⟩
def dd_need_way : He.DefD := ⟨("need_way", none), "need_way", "need_way", defArgs s_need_way, defBody s_need_way, defScope s_need_way, [], []⟩
def dd_roads_on_ways : He.DefD := ⟨("roads_on_ways", none), "roads_on_ways", "roads_on_ways", defArgs s_roads_on_ways, defBody s_roads_on_ways, defScope s_roads_on_ways, [], []⟩
def dd_side_step : He.DefD := ⟨("side_step", none), "side_step", "side_step", defArgs s_side_step, defBody s_side_step, defScope s_side_step, [], []⟩
def dd_is_row : He.DefD := ⟨("is_row", none), "is_row", "is_row", defArgs s_is_row, defBody s_is_row, defScope s_is_row, [], []⟩
def dd_row_step : He.DefD := ⟨("row_step", none), "row_step", "row_step", defArgs s_row_step, defBody s_row_step, defScope s_row_step, [], []⟩
def dd_after_step : He.DefD := ⟨("after_step", none), "after_step", "after_step", defArgs s_after_step, defBody s_after_step, defScope s_after_step, [], []⟩
def dd_steps_of : He.DefD := ⟨("steps_of", none), "steps_of", "steps_of", defArgs s_steps_of, defBody s_steps_of, defScope s_steps_of, [], []⟩
def dd_reduction : He.DefD := ⟨("reduction", none), "reduction", "reduction", defArgs s_reduction, defBody s_reduction, defScope s_reduction, [], []⟩
def dd_few_ways : He.DefD := ⟨("few_ways", none), "few_ways", "few_ways", defArgs s_few_ways, defBody s_few_ways, defScope s_few_ways, [], []⟩
def dd_ways : He.DefD := ⟨("ways", none), "ways", "ways", defArgs s_ways, defBody s_ways, defScope s_ways, [], []⟩
def dd_law : He.DefD := ⟨("law", none), "law", "law", defArgs s_law, defBody s_law, defScope s_law, [], []⟩
def dd_TooMany___init__ : He.DefD := ⟨("TooMany", some "__init__"), "__init__", "TooMany.__init__", defArgs s_TooMany___init__, defBody s_TooMany___init__, defScope s_TooMany___init__, [], []⟩
def dd_law_told : He.DefD := ⟨("_law_told", none), "_law_told", "_law_told", defArgs s_law_told, defBody s_law_told, defScope s_law_told, [], []⟩
def fnT : List He.DefD := ([dd_law_taken, dd_law_pick, dd_law_road, dd_law_net, dd_law_ways, dd_is_in, dd_is_road, dd_need_net, dd_need_nodes, dd_all_ways, dd_need_way, dd_roads_on_ways, dd_side_step, dd_is_row, dd_row_step, dd_after_step, dd_steps_of, dd_reduction, dd_few_ways, dd_ways] : List He.DefD) ++
  ([dd_law, dd_TooMany___init__, dd_law_told] : List He.DefD)
def faT : List He.Fa := ([.glo "_law_taken", .glo "_law_pick", .glo "_law_road", .glo "_law_net", .glo "_law_ways", .glo "is_in", .glo "is_road", .glo "need_net", .glo "need_nodes", .glo "all_ways", .glo "need_way", .glo "roads_on_ways", .glo "side_step", .glo "is_row", .glo "row_step", .glo "after_step", .glo "steps_of", .glo "reduction", .glo "few_ways", .glo "ways"] : List He.Fa) ++
  ([.glo "law", .glo "_law_told", .glo "RoadError", .glo "TooMany", .free "all", .free "bool", .free "dict", .free "enumerate", .free "int", .free "isinstance", .free "len", .free "list", .free "range", .free "set", .free "sorted", .free "tuple", .int "MOST_BASE" 1000, .int "MOST_NODES" 6, .int "MOST_ROADS" 10, .int "MOST_SLOPE" 100] : List He.Fa) ++
  ([.int "MOST_WAYS" 20] : List He.Fa)
def looseT : List Str := (["RoadError", "BadNet", "BadNode", "NoWay", "TooMany", "MOST_NODES", "MOST_ROADS", "MOST_SLOPE", "MOST_BASE", "MOST_WAYS", "is_in", "is_road", "need_net", "need_nodes", "all_ways", "few_ways", "ways", "need_way", "roads_on_ways", "side_step"] : List Str) ++
  (["is_row", "row_step", "after_step", "steps_of", "reduction", "_law_taken", "_law_pick", "_law_alike", "_law_ratio", "_law_plus", "_law_by", "_law_sum", "_law_less", "_law_ways", "_law_road", "_law_net", "_law_demand", "_law_trips", "_law_few", "_law_is_ratio"] : List Str) ++
  (["_law_is_routing", "_law_flows", "_law_total", "_law_costs", "_law_least", "_law_rests", "_law_none", "_law_told"] : List Str)
def tgT : List He.Defn := [("is_road", none)]
def tlT : List (He.Defn × Str) := [(("law", none), (("law" : Str) ++ ".<locals>.") ++ "<lambda>")]
def tfT : List He.Defn := tgT ++ tlT.map (·.1)
def tabA (K : PySem.W.Frag) (p : He.Defn) : Addr := (He.cT K p).2
def lmA (K : PySem.W.Frag) (q : He.Defn × Str) : Addr × Str := (tabA K q.1, q.2)
def nodT (K : PySem.W.Frag) : Bool := decide ((tgT.map (tabA K) ++ (tlT.map (lmA K)).map (·.1)).Nodup)
def exT (K : PySem.W.Frag) : Bool := nodT K && (tldB K (He.ga K "TooMany") (He.ga K "RoadError") (He.fAd K ("TooMany", some "__init__")) "most")
abbrev hkT : PySem.W.Hook := He.hookX 4 faT fnT [] tfT exT
def obT (s : PySem.W.SharedT) : He.AlX := He.obsX 4 faT fnT [] tfT exT (HandSHeadRun.getT s)
theorem obT_eq (s : PySem.W.SharedT) : obT s = hkT.obs s.abs := He.obsX_eq (HandSHeadRun.getT_eq s)
abbrev rwT : PySem.W.OpenRow := PySem.W.OpenLaw.row PySem.Challenge.rw_tollroads_k91_across_reductions_and_ways
theorem runT (w : World) : HandSHeadRun.RunEq rwT (PySem.W.view rwT.prog [53]) hkT obT 6000 looseT w := by
  intro os
  kernel_rfl
end Tr
set_option maxHeartbeats 4000000
namespace Tr
open PySem PySem.Spec L2

abbrev D := PyData

def Le (H G : Hp) : Prop := ∀ b u, H b = some u → (∀ ps, u ≠ HO.tbl ps) → G b = some u
theorem Le.refl (H : Hp) : Le H H := fun _ _ e _ => e
theorem Le.trans {H G F : Hp} (a : Le H G) (b : Le G F) : Le H F := fun c u e n => b c u (a c u e n) n
theorem Le.rd {H G : Hp} {a : Addr} {u : HO} (l : Le H G) (nt : ∀ ps, u ≠ HO.tbl ps) (r : Rd H a u) : Rd G a u := by
  rcases r with r | ⟨o, r⟩
  · exact .inl (l a u r nt)
  · exact .inr ⟨o, l a _ r fun ps z => by cases z⟩
theorem Le.sqL {K : PySem.W.Frag} {H G : Hp} {a : Addr} {xs : List V} (l : Le H G) (r : SqL K H a xs) : SqL K G a xs := by
  rcases r with r | r
  · exact .inl (l.rd (fun ps z => by cases z) r)
  · exact .inr r
theorem Le.sqT {K : PySem.W.Frag} {H G : Hp} {a : Addr} {xs : List V} (l : Le H G) (r : SqT K H a xs) : SqT K G a xs := by
  rcases r with r | r
  · exact .inl (l.rd (fun ps z => by cases z) r)
  · exact .inr r
def NoD (K : PySem.W.Frag) (H : Hp) (a : Addr) : Prop := (∃ ob u, ob.dict = none ∧ H a = some (.frz ob u)) ∨ ∃ ob, K.lookup a = some ob ∧ ob.dict = none
structure SqN (K : PySem.W.Frag) (H : Hp) (a : Addr) (xs : List V) : Prop where
  sq : SqT K H a xs
  nd : NoD K H a
theorem Le.noD {K : PySem.W.Frag} {H G : Hp} {a : Addr} (l : Le H G) (r : NoD K H a) : NoD K G a := by
  rcases r with ⟨ob, u, h1, h2⟩ | r
  · exact .inl ⟨ob, u, h1, l a _ h2 fun ps z => by cases z⟩
  · exact .inr r
theorem Le.sqN {K : PySem.W.Frag} {H G : Hp} {a : Addr} {xs : List V} (l : Le H G) (r : SqN K H a xs) : SqN K G a xs := ⟨l.sqT r.sq, l.noD r.nd⟩
theorem SqN.of {K : PySem.W.Frag} {H : Hp} {a : Addr} {xs : List V} {ob : Obj} (d : ob.dict = none) (e : H a = some (.frz ob (.tup xs))) : SqN K H a xs := ⟨.inl (.inr ⟨ob, e⟩), .inl ⟨ob, _, d, e⟩⟩
def keyD : Key → D
  | .inl i => .int i
  | .inr x => .str x
mutual
def hashN : NestedKey → Int
  | .none => reduceHash 0xFCA86420
  | .num i => hashInt i
  | .text _ => 0
  | .tup ks => reduceHash (PySem.Builtin.Tuple.tupleHashOf (hashNs ks))
def hashNs : List NestedKey → List Int
  | [] => []
  | k :: ks => hashN k :: hashNs ks
end
mutual
def plainN : NestedKey → Bool
  | .num _ => true
  | .tup ks => plainNs ks
  | _ => false
def plainNs : List NestedKey → Bool
  | [] => true
  | k :: ks => plainN k && plainNs ks
end
mutual
theorem hashN_eq (w : World) : ∀ k : NestedKey, plainN k = true → k.hash w = hashN k
  | .none, h => by cases h
  | .num i, _ => rfl
  | .text _, h => by cases h
  | .tup ks, h => by
    rw [NestedKey.hash, hashN, hashNs_eq w ks (by simpa [plainN] using h)]
theorem hashNs_eq (w : World) : ∀ ks : List NestedKey, plainNs ks = true → NestedKey.hashes w ks = hashNs ks
  | [], _ => rfl
  | k :: ks, h => by
    have h : plainN k = true ∧ plainNs ks = true := by simpa [plainNs] using h
    rw [NestedKey.hashes, hashNs, hashN_eq w k h.1, hashNs_eq w ks h.2]
end
def KeyG (k : NestedKey) : Prop := plainN k = true ∧ k.depth ≤ 8 ∧ ∃ ks, k = .tup ks
def entX (z : NestedKey × Addr × Value) : DictEntry := ⟨hashN z.1, .ref z.2.1, z.2.2⟩
abbrev RelX : List (NestedKey × Addr × V) → List (NestedKey × Addr × Value) → Prop := Paired fun x z => z.1 = x.1 ∧ z.2.1 = x.2.1 ∧ RelV x.2.2 z.2.2
def DicO (a : Addr) (xs : List (NestedKey × Addr × V)) : HO := .ext fun h => (a == sysModules) = false ∧ ∃ o es ep zs, h.get? a = some o ∧ o.ExactDict ∧ o.data = .dict es ep ∧ RelX xs zs ∧ es.toList = zs.map entX
inductive DkAt (H : Hp) (a : Addr) : List (Key × V) → Prop
  | e : H a = some (.dK []) → DkAt H a []
  | f {kvs : List (Key × V)} {od : Obj} : kvs ≠ [] → H a = some (.frz od (.dK kvs)) → DkAt H a kvs
theorem DkAt.rd {H : Hp} {a : Addr} {kvs : List (Key × V)} (h : DkAt H a kvs) : Rd H a (.dK kvs) := by
  cases h with
  | e h => exact .inl h
  | f _ h => exact .inr ⟨_, h⟩
theorem DkAt.mono {H G : Hp} {a : Addr} {kvs : List (Key × V)} (l : ∀ u, H a = some u → (u = .dK [] ∨ ∃ od ks, u = .frz od (.dK ks)) → G a = some u) (h : DkAt H a kvs) : DkAt G a kvs := by
  cases h with
  | e h => exact .e (l _ h (.inl rfl))
  | f n h => exact .f n (l _ h (.inr ⟨_, _, rfl⟩))
theorem Le.dk {H G : Hp} (l : Le H G) {a : Addr} {kvs : List (Key × V)} (h : DkAt H a kvs) : DkAt G a kvs := h.mono fun u e q => l a u e (by rcases q with rfl | ⟨_, _, rfl⟩ <;> exact fun ps z => nomatch z)
mutual
inductive Dp (K : PySem.W.Frag) (H : Hp) : V → D → Prop
  | non : Dp K H .non .none
  | bl (b : Bool) : Dp K H (.bl b) (.bool b)
  | int (i : Int) : Dp K H (.int i) (.int i)
  | str (x : Str) : Dp K H (.str x) (.str x)
  | lst {a : Addr} {xs : List V} {ds : List D} : SqL K H a xs → DpAll K H xs ds → Dp K H (.ref a) (.list ds)
  | tup {a : Addr} {xs : List V} {ds : List D} : SqN K H a xs → DpAll K H xs ds → Dp K H (.ref a) (.tuple ds)
  | dct {a : Addr} {kvs : List (Key × V)} {ds : List (D × D)} : DkAt H a kvs → kvs.map (fun q => keyD q.1) = ds.map (·.1) → DpAll K H (kvs.map (·.2)) (ds.map (·.2)) → Dp K H (.ref a) (.dict ds)
  | dcX {a : Addr} {xs : List (NestedKey × Addr × V)} {ds : List (D × D)} : xs ≠ [] → H a = some (DicO a xs) → (xs.map (·.1)).Nodup → (∀ x ∈ xs, KeyG x.1) → ds.map (·.1) = xs.map (fun x => x.1.data) → DpAll K H (xs.map fun x => V.ref x.2.1) (ds.map (·.1)) → DpAll K H (xs.map fun x => x.2.2) (ds.map (·.2)) → Dp K H (.ref a) (.dict ds)
inductive DpAll (K : PySem.W.Frag) (H : Hp) : List V → List D → Prop
  | nil : DpAll K H [] []
  | cons {v : V} {vs : List V} {d : D} {ds : List D} : Dp K H v d → DpAll K H vs ds → DpAll K H (v :: vs) (d :: ds)
end
mutual
theorem Le.dp {K : PySem.W.Frag} {H G : Hp} (l : Le H G) : ∀ (d : D) (v : V), Dp K H v d → Dp K G v d
  | .none, _, h => by cases h; exact .non
  | .bool b, _, h => by cases h; exact .bl b
  | .int i, _, h => by cases h; exact .int i
  | .str x, _, h => by cases h; exact .str x
  | .list ds, _, h => by
    cases h with
    | lst s a => exact .lst (l.sqL s) (Le.dps l ds _ a)
  | .tuple ds, _, h => by
    cases h with
    | tup s a => exact .tup (l.sqN s) (Le.dps l ds _ a)
  | .dict ds, _, h => by
    cases h with
    | dct s k a => exact .dct (l.dk s) k (Le.dpv l ds _ a)
    | dcX e s n g k t a => exact .dcX e (l _ _ s fun ps z => by cases z) n g k (Le.dpk l ds _ t) (Le.dpv l ds _ a)
theorem Le.dps {K : PySem.W.Frag} {H G : Hp} (l : Le H G) : ∀ (ds : List D) (vs : List V), DpAll K H vs ds → DpAll K G vs ds
  | [], _, h => by cases h; exact .nil
  | d :: ds, _, h => by
    cases h with
    | cons a b => exact .cons (Le.dp l d _ a) (Le.dps l ds _ b)
theorem Le.dpk {K : PySem.W.Frag} {H G : Hp} (l : Le H G) : ∀ (ds : List (D × D)) (vs : List V), DpAll K H vs (ds.map (·.1)) → DpAll K G vs (ds.map (·.1))
  | [], _, h => by cases h; exact .nil
  | (k, d) :: ds, _, h => by
    cases h with
    | cons a b => exact .cons (Le.dp l k _ a) (Le.dpk l ds _ b)
theorem Le.dpv {K : PySem.W.Frag} {H G : Hp} (l : Le H G) : ∀ (ds : List (D × D)) (vs : List V), DpAll K H vs (ds.map (·.2)) → DpAll K G vs (ds.map (·.2))
  | [], _, h => by cases h; exact .nil
  | (k, d) :: ds, _, h => by
    cases h with
    | cons a b => exact .cons (Le.dp l d _ a) (Le.dpv l ds _ b)
end
open PySem.PyData (hasDict hasDictAll) in
mutual
theorem Dp.low {K : PySem.W.Frag} {H : Hp} : ∀ (d : D) (v : V), hasDict d = false → Dp K H v d → L2.Dp K H v d
  | .none, _, _, h => by cases h; exact .non
  | .bool b, _, _, h => by cases h; exact .bl b
  | .int i, _, _, h => by cases h; exact .int i
  | .str x, _, _, h => by cases h; exact .str x
  | .list ds, _, n, h => by
    cases h with
    | lst s a => exact .lst s (Dp.lows ds _ (by simpa only [hasDict] using n) a)
  | .tuple ds, _, n, h => by
    cases h with
    | tup s a => exact .tup s.sq (Dp.lows ds _ (by simpa only [hasDict] using n) a)
  | .dict _, _, n, _ => by simp [hasDict] at n
theorem Dp.lows {K : PySem.W.Frag} {H : Hp} : ∀ (ds : List D) (vs : List V), hasDictAll ds = false → DpAll K H vs ds → L2.DpAll K H vs ds
  | [], _, _, h => by cases h; exact .nil
  | d :: ds, _, n, h => by
    have n' : hasDict d = false ∧ hasDictAll ds = false := by simpa only [hasDictAll, Bool.or_eq_false_iff] using n
    cases h with
    | cons a b => exact .cons (Dp.low d _ n'.1 a) (Dp.lows ds _ n'.2 b)
end
theorem Dp.sh {K : PySem.W.Frag} {H : Hp} {d : D} {v : V} (h : Dp K H v d) (s : SeqAt.shaped d = true) : L2.Dp K H v d := Dp.low d v (PySem.PyData.hasDict_of_canLay d (SeqAt.canLay_of_shaped s)) h

class ProtC where
  p : Addr → Str → Prop
variable [ProtC]
structure Grow (H G : Hp) : Prop where
  le : Le H G
  tb : ∀ P, GxR.TabG H P → GxR.TabG G P
  dm : ∀ b, H b ≠ none → G b ≠ none
  pr : ∀ P q, ProtC.p P q → LamX.TabS H P q → LamX.TabS G P q
theorem Grow.refl (H : Hp) : Grow H H := ⟨Le.refl H, fun _ h => h, fun _ h => h, fun _ _ _ h => h⟩
theorem Grow.trans {H G F : Hp} (a : Grow H G) (b : Grow G F) : Grow H F := ⟨a.le.trans b.le, fun P h => b.tb P (a.tb P h), fun c h => b.dm c (a.dm c h), fun P q h t => b.pr P q h (a.pr P q h t)⟩
theorem Grow.new {H : Hp} {p : Addr} {u : HO} (n : H p = none) : Grow H (upd H p u) := by
  have ne : ∀ b w, H b = some w → b ≠ p := fun b w e => ne_of_none e n
  refine ⟨fun b w e _ => by rw [upd_ne (ne b w e)]; exact e, fun P h => ?_, fun b h => ?_, fun P q _ t => t.ext fun b w e => by rw [upd_ne (ne b w e)]; exact e⟩
  · obtain ⟨ps, e, t⟩ := h
    exact ⟨ps, by rw [upd_ne (ne P _ e)]; exact e, t⟩
  · by_cases c : b = p
    · rw [c, upd_same]; exact fun z => nomatch z
    · rw [upd_ne c]; exact h
theorem TabS.put {H : Hp} {a P : Addr} {q : Str} {xs ys : List V} (ha : H a = some (.lst xs)) (t : LamX.TabS H P q) : LamX.TabS (upd H a (.lst ys)) P q := by
  obtain ⟨ps, e1, t1, t2⟩ := t
  have hP : P ≠ a := fun z => by
    rw [z, ha] at e1
    cases e1
  refine ⟨ps, by rw [upd_ne hP]; exact e1, t1, fun pos cv hc => ?_⟩
  obtain ⟨c, e2, e3⟩ := t2 pos cv hc
  have hc : c ≠ a := fun z => by
    rw [z, ha] at e3
    unfold LamX.CodeO at e3
    cases e3
  exact ⟨c, e2, by rw [upd_ne hc]; exact e3⟩
theorem Grow.free {H G : Hp} {p : Addr} (g : Grow H G) (n : G p = none) : H p = none := by
  cases e : H p with
  | none => rfl
  | some u => exact absurd n (g.dm p (by rw [e]; exact fun z => nomatch z))

noncomputable def hid (S : Addr → Prop) (H : Hp) : Hp := fun b => open Classical in if S b then none else H b
theorem hid_in {S : Addr → Prop} {H : Hp} {b : Addr} (h : ¬ S b) : hid S H b = H b := by unfold hid; rw [if_neg h]
theorem hid_out {S : Addr → Prop} {H : Hp} {b : Addr} (h : S b) : hid S H b = none := by unfold hid; rw [if_pos h]
theorem of_hid {S : Addr → Prop} {H : Hp} {b : Addr} {u : HO} (h : hid S H b = some u) : ¬ S b ∧ H b = some u := by
  by_cases c : S b
  · rw [hid_out c] at h; cases h
  · rw [hid_in c] at h; exact ⟨c, h⟩
theorem hid_le {S S' : Addr → Prop} {H G : Hp} (l : Le H G) (s : ∀ b, S' b → S b) : Le (hid S H) (hid S' G) := fun b u e n => by
  obtain ⟨h1, h2⟩ := of_hid e
  rw [hid_in fun z => h1 (s b z)]
  exact l b u h2 n
theorem hid_sub {S : Addr → Prop} {H : Hp} : Le (hid S H) H := fun b u e _ => (of_hid e).2
structure Exn where
  cls : Str
  fld : Option (Str × D)
structure Wp (A : Type) where
  run : (A → Prop) → (Exn → Prop) → Prop
  mono : ∀ {k k' : A → Prop} {e e' : Exn → Prop}, (∀ a, k a → k' a) → (∀ x, e x → e' x) → run k e → run k' e'
def Wp.pure {A : Type} (a : A) : Wp A := ⟨fun k _ => k a, fun h _ r => h _ r⟩
def Wp.stuck {A : Type} : Wp A := ⟨fun _ _ => False, fun _ _ r => r⟩
def Wp.ex {A : Type} (x : Exn) : Wp A := ⟨fun _ e => e x, fun _ h r => h _ r⟩
def Wp.bind {A C : Type} (m : Wp A) (f : A → Wp C) : Wp C := ⟨fun k e => m.run (fun a => (f a).run k e) e, fun h1 h2 r => m.mono (fun a q => (f a).mono h1 h2 q) h2 r⟩
def Wp.any {A : Type} (P : A → Prop) : Wp A := ⟨fun k _ => ∀ a, P a → k a, fun h _ r a p => h a (r a p)⟩
def Wp.need {A : Type} (c : Prop) (m : Wp A) : Wp A := ⟨fun k e => c ∧ m.run k e, fun h1 h2 r => ⟨r.1, m.mono h1 h2 r.2⟩⟩
section
variable {A C : Type} {k : A → Prop} {e : Exn → Prop}
@[simp] theorem run_pure {a : A} : (Wp.pure a).run k e = k a := rfl
@[simp] theorem run_stuck : (Wp.stuck : Wp A).run k e = False := rfl
@[simp] theorem run_ex {x : Exn} : (Wp.ex x : Wp A).run k e = e x := rfl
@[simp] theorem run_bind {k : C → Prop} {m : Wp A} {f : A → Wp C} : (m.bind f).run k e = m.run (fun a => (f a).run k e) e := rfl
@[simp] theorem run_any {P : A → Prop} : (Wp.any P).run k e = ∀ a, P a → k a := rfl
@[simp] theorem run_need {c : Prop} {m : Wp A} : (Wp.need c m).run k e = (c ∧ m.run k e) := rfl
@[simp] theorem pure_bind {a : A} {f : A → Wp C} : (Wp.pure a).bind f = f a := rfl
end

inductive Ow where
  | l (ds : List D)
  | k (qs : List (D × D))
inductive OwAt (K : PySem.W.Frag) (H : Hp) (a : Addr) : HO → Ow → Prop
  | l {xs : List V} {ds : List D} : DpAll K H xs ds → OwAt K H a (.lst xs) (.l ds)
  | k {kvs : List (Key × V)} {ds : List (D × D)} : kvs.map (fun q => keyD q.1) = ds.map (·.1) → DpAll K H (kvs.map (·.2)) (ds.map (·.2)) → OwAt K H a (.dK kvs) (.k ds)
  | x {xs : List (NestedKey × Addr × V)} {ds : List (D × D)} : xs ≠ [] → (xs.map (·.1)).Nodup → (∀ x ∈ xs, KeyG x.1) → ds.map (·.1) = xs.map (fun x => x.1.data) → DpAll K H (xs.map fun x => V.ref x.2.1) (ds.map (·.1)) → DpAll K H (xs.map fun x => x.2.2) (ds.map (·.2)) → OwAt K H a (DicO a xs) (.k ds)
theorem OwAt.le {K : PySem.W.Frag} {H G : Hp} (l : Le H G) {a : Addr} {u : HO} {c : Ow} (h : OwAt K H a u c) : OwAt K G a u c := by
  cases h with
  | l h => exact .l (Le.dps l _ _ h)
  | k h d => exact .k h (Le.dpv l _ _ d)
  | x e n g k t d => exact .x e n g k (Le.dpk l _ _ t) (Le.dpv l _ _ d)
theorem OwAt.nt {K : PySem.W.Frag} {H : Hp} {a : Addr} {u : HO} {c : Ow} (h : OwAt K H a u c) : ∀ ps, u ≠ HO.tbl ps := by
  cases h with
  | l _ => exact fun ps z => nomatch z
  | k _ _ => exact fun ps z => nomatch z
  | x _ _ _ _ _ _ => exact fun ps z => nomatch z
theorem OwAt.lst {K : PySem.W.Frag} {H : Hp} {a : Addr} {u : HO} {ds : List D} (h : OwAt K H a u (.l ds)) : ∃ xs, u = .lst xs ∧ DpAll K H xs ds := by
  cases h with
  | l h => exact ⟨_, rfl, h⟩
inductive Sl where
  | non
  | p (d : D)
  | own (c : Ow)
  | v (x : V)
  | t (a : Addr) (φ : Heap → Prop)
abbrev Sl.o (ds : List D) : Sl := .own (.l ds)
abbrev Sl.k (qs : List (D × D)) : Sl := .own (.k qs)
abbrev De := List Sl

inductive At where
  | d (x : D)
  | o (l : Addr) (ds : List D)
def lsts : List (Str × At) → List Addr
  | [] => []
  | (_, .d _) :: st => lsts st
  | (_, .o l _) :: st => l :: lsts st
structure Ob where
  C : Addr
  a : Addr
  dx : Addr
  st : List (Str × At)
structure Cs where
  K : PySem.W.Frag
  mg : Str → Option Value
  T : List Addr
  Z : List (Addr × List Int)
  np : ∀ P ∈ T, ∀ q, ¬ ProtC.p P q
  TL : List (Addr × Str)
  pl : ∀ p ∈ TL, ProtC.p p.1 p.2
  ob : Option Ob := none
def AtOk (K : PySem.W.Frag) (S : Addr → Prop) (H : Hp) (v : V) : At → Prop
  | .d x => Dp K (hid S H) v x
  | .o l ds => v = .ref l ∧ S l ∧ ∃ xs, H l = some (.lst xs) ∧ DpAll K (hid S H) xs ds
def AtsOk (K : PySem.W.Frag) (S : Addr → Prop) (H : Hp) : List (Str × V) → List (Str × At) → Prop
  | [], [] => True
  | (n, v) :: vs, (m, x) :: st => n = m ∧ AtOk K S H v x ∧ AtsOk K S H vs st
  | _, _ => False
structure ObOk (K : PySem.W.Frag) (S : Addr → Prop) (H : Hp) (o : Ob) : Prop where
  ins : ∃ vs, H o.a = some (.ins o.C o.dx vs) ∧ AtsOk K S H vs o.st
  own : H o.dx = some (.own o.a)
  sa : S o.a
  sd : S o.dx
theorem AtOk.le {K : PySem.W.Frag} {S S' : Addr → Prop} {H G : Hp} (l : Le H G) (h : Le (hid S H) (hid S' G)) (s : ∀ b, S b → S' b) {v : V} {x : At} (a : AtOk K S H v x) : AtOk K S' G v x := by
  cases x with
  | d x => exact Le.dp h x v a
  | o c ds =>
    obtain ⟨e, h1, xs, h2, h3⟩ := a
    exact ⟨e, s c h1, xs, l c _ h2 (fun ps z => by cases z), Le.dps h ds xs h3⟩
theorem AtsOk.le {K : PySem.W.Frag} {S S' : Addr → Prop} {H G : Hp} (l : Le H G) (h : Le (hid S H) (hid S' G)) (s : ∀ b, S b → S' b) : ∀ {vs : List (Str × V)} {st : List (Str × At)}, AtsOk K S H vs st → AtsOk K S' G vs st
  | [], [], _ => trivial
  | (n, v) :: vs, (m, x) :: st, a => ⟨a.1, a.2.1.le l h s, AtsOk.le l h s a.2.2⟩
  | [], _ :: _, a => a.elim
  | _ :: _, [], a => a.elim
theorem ObOk.le {K : PySem.W.Frag} {S S' : Addr → Prop} {H G : Hp} {o : Ob} (l : Le H G) (h : Le (hid S H) (hid S' G)) (s : ∀ b, S b → S' b) (a : ObOk K S H o) : ObOk K S' G o := by
  obtain ⟨vs, e1, e2⟩ := a.ins
  exact ⟨⟨vs, l _ _ e1 (fun ps z => by cases z), e2.le l h s⟩, l _ _ a.own (fun ps z => by cases z), s _ a.sa, s _ a.sd⟩
def Scr (C : Cs) (S : Addr → Prop) (H : Hp) : Prop := (∀ q ∈ C.Z, SqL C.K H q.1 (q.2.map V.int)) ∧ (∀ p ∈ C.TL, LamX.TabS H p.1 p.2) ∧ ∀ o, C.ob = some o → ObOk C.K S H o
theorem Scr.gr {C : Cs} {S S' : Addr → Prop} {H G : Hp} (s : Scr C S H) (g : Grow H G) (h : Le (hid S H) (hid S' G)) (u : ∀ b, S b → S' b) : Scr C S' G := ⟨fun q hq => g.le.sqL (s.1 q hq), fun p hp => g.pr _ _ (C.pl p hp) (s.2.1 p hp), fun o ho => (s.2.2 o ho).le g.le h u⟩
noncomputable def obh (C : Cs) (H : Hp) : Hp := fun b => open Classical in if ∃ o, C.ob = some o ∧ b ∈ lsts o.st then H b else none
theorem obh_le {C : Cs} {H : Hp} : Le (obh C H) H := fun b u e _ => by
  unfold obh at e
  split at e
  · exact e
  · cases e
theorem AtsOk.lst {K : PySem.W.Frag} {S : Addr → Prop} {H : Hp} : ∀ {vs : List (Str × V)} {st : List (Str × At)}, AtsOk K S H vs st → ∀ b ∈ lsts st, ∃ xs, H b = some (.lst xs)
  | [], [], _, _, hb => by cases hb
  | _ :: vs, (m, .d x) :: st, a, b, hb => AtsOk.lst (vs := vs) a.2.2 b hb
  | _ :: vs, (m, .o l ds) :: st, a, b, hb => by
    rcases List.mem_cons.mp hb with rfl | hb
    · obtain ⟨_, ⟨_, _, xs, h2, _⟩, _⟩ := a
      exact ⟨xs, h2⟩
    · exact AtsOk.lst (vs := vs) a.2.2 b hb
  | [], _ :: _, a, _, _ => a.elim
theorem obh_back {C : Cs} {S : Addr → Prop} {H G : Hp} (s : Scr C S H) (l : Le H G) : Le (obh C G) (obh C H) := fun b u e _ => by
  unfold obh at e ⊢
  split at e
  · rename_i h
    obtain ⟨o, ho, hb⟩ := h
    rw [if_pos ⟨o, ho, hb⟩]
    obtain ⟨vs, _, a⟩ := (s.2.2 o ho).ins
    obtain ⟨xs, hx⟩ := a.lst b hb
    rw [l b _ hx (fun ps z => by cases z)] at e
    rw [hx]; exact e
  · cases e
structure Bx where
  c : Cs
  S : Addr → Prop
  H : Hp
abbrev Cs.bx (C : Cs) (S : Addr → Prop) (H : Hp) : Bx := ⟨C, S, H⟩
def Own (B : Bx) (σ : St) (δ : De) (b : Addr) : Prop := B.S b ∨ ∃ (i : Nat) (c : Ow), δ[i]? = some (Sl.own c) ∧ σ[i]? = some (some (V.ref b))
structure Rep (B : Bx) (Pb : Hp) (σ : St) (H : Hp) (δ : De) : Prop where
  ph : Le Pb (hid (Own B σ δ) H)
  len : σ.length = δ.length
  grow : Grow B.H H
  dom : ∀ b, B.S b → B.H b ≠ none
  tabs : ∀ P ∈ B.c.T, GxR.TabG H P
  pers : ∀ (i : Nat) (d : D), δ[i]? = some (Sl.p d) → ∃ v, σ[i]? = some (some v) ∧ Dp B.c.K (hid (Own B σ δ) H) v d
  own : ∀ (i : Nat) (c : Ow), δ[i]? = some (Sl.own c) → ∃ a u, σ[i]? = some (some (V.ref a)) ∧ H a = some u ∧ B.H a = none ∧ OwAt B.c.K (hid (Own B σ δ) H) a u c
  uniq : ∀ (i j : Nat) (c e : Ow) (a : Addr), δ[i]? = some (Sl.own c) → δ[j]? = some (Sl.own e) → σ[i]? = some (some (V.ref a)) → σ[j]? = some (some (V.ref a)) → i = j
  val : ∀ (i : Nat) (x : V), δ[i]? = some (Sl.v x) → σ[i]? = some (some x)
  trk : ∀ (i : Nat) (a : Addr) (φ : Heap → Prop), δ[i]? = some (Sl.t a φ) → σ[i]? = some (some (V.ref a)) ∧ hid (Own B σ δ) H a = some (.ext φ)
  scr : Scr B.c B.S B.H
theorem Rep.ol {B : Bx} {Pb : Hp} {σ : St} {H : Hp} {δ : De} (r : Rep B Pb σ H δ) {i : Nat} {ds : List D} (e : δ[i]? = some (Sl.o ds)) : ∃ a xs, σ[i]? = some (some (V.ref a)) ∧ H a = some (.lst xs) ∧ B.H a = none ∧ DpAll B.c.K (hid (Own B σ δ) H) xs ds := by
  obtain ⟨a, u, h1, h2, h3, h4⟩ := r.own i _ e
  obtain ⟨xs, rfl, h5⟩ := h4.lst
  exact ⟨a, xs, h1, h2, h3, h5⟩
theorem Rep.gr {B : Bx} {Pb : Hp} {σ : St} {H G : Hp} {δ : De} (r : Rep B Pb σ H δ) (g : Grow H G) : Rep B Pb σ G δ where
  ph := r.ph.trans (hid_le g.le fun _ z => z)
  len := r.len
  grow := r.grow.trans g
  dom := r.dom
  tabs := fun P h => g.tb P (r.tabs P h)
  pers := fun i d e => by
    obtain ⟨v, h1, h2⟩ := r.pers i d e
    exact ⟨v, h1, Le.dp (hid_le g.le fun _ z => z) d v h2⟩
  own := fun i ds e => by
    obtain ⟨a, u, h1, h2, h3, h4⟩ := r.own i ds e
    exact ⟨a, u, h1, g.le a _ h2 h4.nt, h3, h4.le (hid_le g.le fun _ z => z)⟩
  uniq := r.uniq
  val := r.val
  trk := fun i a φ e => ⟨(r.trk i a φ e).1, hid_le g.le (fun _ z => z) a _ (r.trk i a φ e).2 fun ps z => by cases z⟩
  scr := r.scr
theorem Rep.leB {B : Bx} {Pb : Hp} {σ : St} {H : Hp} {δ : De} (r : Rep B Pb σ H δ) : Le (hid B.S B.H) (hid (Own B σ δ) H) := fun b u e n => by
  obtain ⟨h1, h2⟩ := of_hid e
  rw [hid_in]
  · exact r.grow.le b u h2 n
  · rintro (z | ⟨i, ds, e1, e2⟩)
    · exact h1 z
    · obtain ⟨a, xs, q1, _, q3, _⟩ := r.own i ds e1
      rw [e2] at q1
      cases q1
      rw [h2] at q3
      cases q3
theorem Rep.scrO {B : Bx} {Pb : Hp} {σ : St} {H : Hp} {δ : De} (r : Rep B Pb σ H δ) : Scr B.c (Own B σ δ) H := r.scr.gr r.grow r.leB fun _ z => .inl z
def ExAt (B : Bx) (x : Exn) (cls : Value) (dc : Option Addr) (H : Hp) : Prop :=
  (∃ C, B.c.mg x.cls = some (.ref C) ∧ cls = .ref C) ∧ match x.fld with
    | none => dc = none
    | some (n, d) => ∃ a v, dc = some a ∧ H a = some (.xd [(n, v)]) ∧ Dp B.c.K (hid B.S H) v d
def Dv (B : Bx) (σ : St) (H : Hp) (δ : De) (Q : VK) (d : D) : Prop := ∀ v G, Grow H G → Dp B.c.K (hid (Own B σ δ) G) v d → Q v G
def Ew (B : Bx) (W : WX) (σ : St) (H : Hp) (x : Exn) : Prop := ∀ cls dc G, Grow H G → ExAt B x cls dc G → W cls dc σ G
theorem Dv.gr {B : Bx} {σ : St} {H G : Hp} {δ : De} {Q : VK} {d : D} (h : Dv B σ H δ Q d) (g : Grow H G) : Dv B σ G δ Q d := fun v F g' => h v F (g.trans g')
theorem Ew.gr {B : Bx} {W : WX} {σ : St} {H G : Hp} {x : Exn} (h : Ew B W σ H x) (g : Grow H G) : Ew B W σ G x := fun c d F g' => h c d F (g.trans g')

abbrev DF := De → Wp D
def DE (X : Cx) (C : Cs) (W : WX) (e : Expr) (f : DF) : Prop :=
  ∃ t, PE X e t ∧ ∀ S0 H0 Pb σ H δ Q, Rep (C.bx S0 H0) Pb σ H δ → (f δ).run (Dv (C.bx S0 H0) σ H δ Q) (Ew (C.bx S0 H0) W σ H) → t σ H Q
def dC (d : D) : DF := fun _ => .pure d
def slotP : Option Sl → Wp D
  | some (.p d) => .pure d
  | _ => .stuck
def dV (i : Nat) : DF := fun δ => slotP δ[i]?
def d2 (F : D → D → Wp D) (f g : DF) : DF := fun δ => (f δ).bind fun d => (g δ).bind fun e => F d e
def d1 (F : D → Wp D) (f : DF) : DF := fun δ => (f δ).bind F
section
variable {X : Cx} {C : Cs} {W : WX} {pos : Pos}
theorem de_int {i : Int} {j} : DE X C W (.Constant (.int i) j pos) (dC (.int i)) := ⟨_, pe_int, fun _ _ _ _ H _ _ _ h => h _ H (Grow.refl H) (.int i)⟩
theorem de_bl {b : Bool} {j} : DE X C W (.Constant (.bool b) j pos) (dC (.bool b)) := ⟨_, pe_bl, fun _ _ _ _ H _ _ _ h => h _ H (Grow.refl H) (.bl b)⟩
theorem de_non {j} : DE X C W (.Constant .none j pos) (dC .none) := ⟨_, pe_non, fun _ _ _ _ H _ _ _ h => h _ H (Grow.refl H) .non⟩
theorem de_str {x : Str} {j} : DE X C W (.Constant (.str x) j pos) (dC (.str x)) := ⟨_, pe_str, fun _ _ _ _ H _ _ _ h => h _ H (Grow.refl H) (.str x)⟩
theorem de_v {i : Nat} {x : Str} (hN : X.N[i]? = some x) (hv : Vis X.env.scope x) (hd : (x == ("__debug__" : Str)) = false := by decide) (hcd : (x == ("__classdict__" : Str)) = false := by decide) : DE X C W (.Name x pos) (dV i) := by
  refine ⟨_, pe_var hN hv hd hcd, fun S0 H0 Pb σ H δ Q r h => ?_⟩
  unfold dV at h
  cases e : δ[i]? with
  | none => rw [e] at h; exact h.elim
  | some z =>
    rw [e] at h
    cases z with
    | non => exact h.elim
    | own ds => exact h.elim
    | v x => exact h.elim
    | t a φ => exact h.elim
    | p d =>
      obtain ⟨v, h1, h2⟩ := r.pers i d e
      exact ⟨v, h1, h v H (Grow.refl H) h2⟩
theorem de_glob {x : Str} {v : V} {u : Value} {d : D} (hg : Gl X x) (hm : X.mg x = some u) (r : RelV v u) (hdp : ∀ H, Dp C.K H v d) (hd : (x == ("__debug__" : Str)) = false := by decide) : DE X C W (.Name x pos) (dC d) :=
  ⟨_, pe_glob hg hm r hd, fun _ _ _ _ H _ _ _ h => h v H (Grow.refl H) (hdp _)⟩

def Op2 (X : Cx) (C : Cs) (r : R2) (F : D → D → Wp D) : Prop := ∀ (x y : V) (H : Hp) (d e : D) (Q : VK) (S0 : Addr → Prop) (H0 Pb : Hp) (σ : St) (δ : De) (W : Exn → Prop), Rep (C.bx S0 H0) Pb σ H δ → Dp C.K (hid (Own (C.bx S0 H0) σ δ) H) x d → Dp C.K (hid (Own (C.bx S0 H0) σ δ) H) y e → (F d e).run (Dv (C.bx S0 H0) σ H δ Q) W → r x y H Q
theorem two {a b : Expr} {f g : DF} {F : D → D → Wp D} {r : R2} (ha : DE X C W a f) (hb : DE X C W b g) (hF : Op2 X C r F) :
    ∃ ta tb, PE X a ta ∧ PE X b tb ∧ ∀ S0 H0 Pb σ H δ Q, Rep (C.bx S0 H0) Pb σ H δ → (d2 F f g δ).run (Dv (C.bx S0 H0) σ H δ Q) (Ew (C.bx S0 H0) W σ H) → tOp r ta tb σ H Q := by
  obtain ⟨ta, pa, qa⟩ := ha
  obtain ⟨tb, pb, qb⟩ := hb
  refine ⟨ta, tb, pa, pb, fun S0 H0 Pb σ H δ Q R h => qa S0 H0 Pb σ H δ _ R ((f δ).mono (fun d h x H1 g1 dx => ?_) (fun _ z => z) h)⟩
  refine qb S0 H0 Pb σ H1 δ _ (R.gr g1) ((g δ).mono (fun e h y H2 g2 dy => ?_) (fun _ z => z.gr g1) h)
  exact hF x y H2 d e Q S0 H0 Pb σ δ _ (R.gr (g1.trans g2)) (Le.dp (hid_le g2.le fun _ z => z) d x dx) dy ((F d e).mono (fun _ z => z.gr (g1.trans g2)) (fun _ z => z) h)
theorem de_op {op : Operator} {a b : Expr} {f g : DF} {F : D → D → Wp D} {r : R2} (ho : OpR X (binaryOp op) r) (hF : Op2 X C r F) (ha : DE X C W a f) (hb : DE X C W b g) : DE X C W (.BinOp a op b pos) (d2 F f g) := by
  obtain ⟨ta, tb, pa, pb, q⟩ := two ha hb hF
  exact ⟨_, pe_op ho pa pb, q⟩
theorem de_cmp {op : CmpOp} {a b : Expr} {f g : DF} {F : D → D → Wp D} {r : R2} (ho : OpR X (compareOp op) r) (hF : Op2 X C r F) (hm : behindInMarks op b = false) (ha : DE X C W a f) (hb : DE X C W b g) : DE X C W (.Compare a [op] [b] pos) (d2 F f g) := by
  obtain ⟨ta, tb, pa, pb, q⟩ := two ha hb hF
  exact ⟨_, pe_cmpR ho pa pb hm, q⟩
end
end Tr

namespace Tr
open PySem PySem.Spec PyProof.Rows L2
section
variable {X : Cx} {pins : List (Addr × Obj)} {σ : L2.St} {H : Hp} {s : Shared}
def NewT (H : Hp) (xs : List V) (Q : VK) : Prop := ∀ p ob, ob.dict = none → H p = none → Q (.ref p) (upd H p (.frz ob (.tup xs)))
theorem newT_ok {h' : Heap} {tk : Nat} {its : List Value} {xs : List V} {Q : VK} (I : Inv X pins σ H { s with heap := h', toks := tk }) (hz : xs.length ≤ sizeLine) (rv : Vals xs its) (q : NewT H xs Q) :
    ∃ x H', Inv X pins σ H' { s with heap := h'.push { cls := .type "tuple", data := .seq its.toArray }, toks := tk } ∧ RelV x (.ref h'.objs.size) ∧ Q x H' := by
  have hf : H h'.objs.size = none := I.hok.fresh (Nat.le_refl _)
  refine ⟨.ref h'.objs.size, upd H h'.objs.size (.frz { cls := .type "tuple", data := .seq its.toArray } (.tup xs)), I.laid (t' := tk) (fun b u e => Heap.get?_push_of_some _ e) (Nat.le_refl _) ?_, rfl, q _ _ rfl hf⟩
  exact ⟨Heap.get?_push_size _ rfl, hz, its, rv, ⟨_, Heap.get?_push_size _ rfl, rfl, _, rfl⟩⟩
end
section
variable {X : Cx} {es : List Expr} {pos : Pos} {t : TA}
def tTupN (t : TA) : TE := fun σ H Q => t σ H fun xs H1 => xs.length ≤ sizeLine ∧ NewT H1 xs Q
theorem pe_tupN {x1} (h : PA X es t) : PE X (.Tuple es x1 pos) (tTupN t) := by
  refine ⟨fun pins s σ H Q I hq => ?_⟩
  refine wpAny_Tuple_spliced (thn (h.run pos pins s σ H _ I hq) fun us s1 ⟨xs, H1, I1, r, z, q⟩ => ⟨by rw [← r.length]; exact z, ?_⟩)
  obtain ⟨x, H', I', rx, qx⟩ := newT_ok (s := s1) (h' := s1.heap) (tk := s1.toks) I1 z r q
  exact ⟨x, H', I', rx, qx⟩
end
section
variable {X : Cx}
def rCatN (K : PySem.W.Frag) : R2 := fun x y H Q => ∃ a b xs ys, x = .ref a ∧ y = .ref b ∧ SqT K H a xs ∧ SqT K H b ys ∧ xs.length + ys.length ≤ sizeLine ∧
  (xs = [] → Q (.ref b) H) ∧ (xs ≠ [] → ys = [] → Q (.ref a) H) ∧ (xs ≠ [] → ys ≠ [] → NewT H (xs ++ ys) Q)
theorem op_catN : OpR X (binaryOp .Add) (rCatN X.K) := by
  intro pins s σ H x y v u Q I rx ry h
  obtain ⟨a, b, xs, ys, rfl, rfl, ha, hb, hz, q0, q1, q2⟩ := h
  by_cases hx : xs = []
  · subst hx
    cases rx
    cases ry
    obtain ⟨its, r1, p1, _⟩ := I.tuple ha
    obtain ⟨its2, r2, p2, _⟩ := I.tuple hb
    cases r1
    exact cat_tup0 p1 p2 ⟨.ref b, H, I, rfl, q0 rfl⟩
  · cases rx
    cases ry
    obtain ⟨its, r1, p1, _⟩ := I.tuple ha
    obtain ⟨its2, r2, p2, _⟩ := I.tuple hb
    refine HT.cat_tup p1 p2 (fun z => hx (r1.nil_iff.mp z)) (fun z => ⟨.ref a, H, I, rfl, q1 hx (r2.nil_iff.mp z)⟩) (fun z => ?_) (by rw [← r1.length, ← r2.length]; exact hz)
    exact newT_ok (s := s) (h' := s.heap) (tk := s.toks) I (by rw [List.length_append]; exact hz) (r1.append r2) (q2 hx fun w => z (r2.nil_iff.mpr w))
def rSlN (K : PySem.W.Frag) : V → Option Int → Option Int → Hp → VK → Prop := fun x lo hi H Q => ∃ a xs, x = .ref a ∧ SqT K H a xs ∧
  (HT.sIx xs.length 0 lo = 0 ∧ HT.sIx xs.length xs.length hi = xs.length → Q (.ref a) H) ∧ (¬ (HT.sIx xs.length 0 lo = 0 ∧ HT.sIx xs.length xs.length hi = xs.length) → NewT H (cutV xs lo hi) Q)
theorem sl_tupN : SlR X (rSlN X.K) := by
  intro pins s σ H x v vl vu lo hi sl Q I rx hs pl pu h
  obtain ⟨a, xs, rfl, hx, q1, q2⟩ := h
  cases rx
  obtain ⟨its, r, ht, hz⟩ := I.tuple hx
  have hlen : its.toArray.size = xs.length := by rw [List.size_toArray]; exact r.length.symm
  refine ⟨"tuple", _, PyProof.Rows.slot_tuple_getitem.lookup, ht.typeIs, ?_⟩
  by_cases hw : HT.sIx xs.length 0 lo = 0 ∧ HT.sIx xs.length xs.length hi = xs.length
  · exact getItem_tuple_whole ht hs pl pu (by rw [hlen]; exact hw) ⟨.ref a, H, I, rfl, q1 hw⟩
  · refine HT.getItem_tuple_cut ht hs pl pu (by rw [hlen]; exact hw) ?_ (by rw [hlen]; exact hz)
    rw [hlen]
    exact newT_ok (s := s) (h' := s.heap) (tk := s.toks) I (Nat.le_trans (cutV_length xs lo hi) hz) ((r.drop (HT.sIx xs.length 0 lo)).take (HT.sIx xs.length xs.length hi - HT.sIx xs.length 0 lo)) (q2 hw)
theorem call_tupleN : CallR X (.type "tuple") (fun xs H Q => ∃ p ys, xs = [.ref p] ∧ ((SqL X.K H p ys ∧ NewT H ys Q) ∨ (SqT X.K H p ys ∧ Q (.ref p) H))) := by
  intro pins s σ H xs us Q I r h
  obtain ⟨p, ys, rfl, h⟩ := h
  rw [Vals.ref1 r]
  rcases h with ⟨hq, q⟩ | ⟨hq, q⟩
  · obtain ⟨its, r', pl, hz⟩ := I.list hq
    have hlen := r'.length
    refine call_tuple_list pl.isList (fun h' kp => ?_) (by simp only [List.size_toArray] <;> omega)
    have I1 : Inv X pins σ H { s with heap := h' } := I.kept (t' := s.toks) kp
    exact newT_ok (s := s) (h' := h') (tk := s.toks) I1 hz r' q
  · obtain ⟨its, r', pl, hz⟩ := I.tuple hq
    exact call_tuple_same pl ⟨.ref p, H, I, rfl, q⟩
end
end Tr

namespace Tr
open PySem PySem.Spec L2
variable [ProtC]

section
variable {X : Cx} {C : Cs} {W : WX} {pos : Pos}
theorem op2_int {r : R2} {g : Int → Int → V} {c : Int → Int → Prop} {F : D → D → Wp D} {q : Int → Int → D}
    (hr : ∀ i j H Q, c i j → Q (g i j) H → r (.int i) (.int j) H Q) (hg : ∀ i j H, Dp C.K H (g i j) (q i j))
    (hF : ∀ d e k w, (F d e).run k w → ∃ i j, d = .int i ∧ e = .int j ∧ c i j ∧ k (q i j)) : Op2 X C r F := by
  intro x y H d e Q S0 H0 Pb σ δ w R dx dy h
  obtain ⟨i, j, rfl, rfl, hc, hk⟩ := hF d e _ _ h
  cases dx
  cases dy
  exact hr i j H Q hc (hk _ H (Grow.refl H) (hg i j _))
end
def dInt2 (c : Int → Int → Prop) (q : Int → Int → D) : D → D → Wp D
  | .int i, .int j => .need (c i j) (.pure (q i j))
  | _, _ => .stuck
theorem dInt2_inv {c : Int → Int → Prop} {q : Int → Int → D} {d e : D} {k : D → Prop} {w : Exn → Prop} (h : (dInt2 c q d e).run k w) : ∃ i j, d = .int i ∧ e = .int j ∧ c i j ∧ k (q i j) := by
  unfold dInt2 at h
  split at h
  · exact ⟨_, _, rfl, rfl, h.1, h.2⟩
  · exact h.elim
abbrev dSub : D → D → Wp D := dInt2 (fun _ _ => True) fun i j => .int (i - j)
abbrev dMul : D → D → Wp D := dInt2 CMulW fun i j => .int (i * j)
abbrev dMod : D → D → Wp D := dInt2 (fun _ j => 0 < j) fun i j => .int (i % j)
abbrev dLt : D → D → Wp D := dInt2 (fun _ _ => True) fun i j => .bool (decide (i < j))
abbrev dLe : D → D → Wp D := dInt2 (fun _ _ => True) fun i j => .bool (decide (i ≤ j))
abbrev dGt : D → D → Wp D := dInt2 (fun _ _ => True) fun i j => .bool (decide (j < i))
def dAdd : D → D → Wp D
  | .int i, .int j => .pure (.int (i + j))
  | .tuple xs, .tuple ys => .need (xs.length + ys.length ≤ sizeLine) (.pure (.tuple (xs ++ ys)))
  | .list xs, .list ys => .need (xs.length + ys.length ≤ sizeLine) (.pure (.list (xs ++ ys)))
  | .str x, .str y => .need (x.length + y.length ≤ sizeLine) (.pure (.str (x ++ y)))
  | _, _ => .stuck
def dEq : D → D → Wp D := fun d e => .need (SeqAt.shaped d = true ∧ SeqAt.shaped e = true) (.pure (.bool (PyData.eqv d e)))
def dNe : D → D → Wp D := fun d e => .need (SeqAt.shaped d = true ∧ SeqAt.shaped e = true) (.pure (.bool (!PyData.eqv d e)))
def isNoneD : D → Bool
  | .none => true
  | _ => false
def dIs : D → D → Wp D
  | d, .none => .pure (.bool (isNoneD d))
  | _, _ => .stuck
def dIsNot : D → D → Wp D
  | d, .none => .pure (.bool (!isNoneD d))
  | _, _ => .stuck
theorem hid_dp {K : PySem.W.Frag} {S : Addr → Prop} {H : Hp} {v : V} {d : D} (h : Dp K (hid S H) v d) : Dp K H v d := Le.dp hid_sub d v h
theorem dps_len {K : PySem.W.Frag} {H : Hp} : ∀ {vs : List V} {ds : List D}, DpAll K H vs ds → vs.length = ds.length
  | [], _, h => by cases h; rfl
  | v :: vs, _, h => by
    cases h with
    | cons a b => rw [List.length_cons, List.length_cons, dps_len b]
theorem dps_app {K : PySem.W.Frag} {H : Hp} : ∀ {vs us : List V} {ds es : List D}, DpAll K H vs ds → DpAll K H us es → DpAll K H (vs ++ us) (ds ++ es)
  | [], _, _, _, h, g => by cases h; exact g
  | v :: vs, _, _, _, h, g => by
    cases h with
    | cons a b => exact .cons a (dps_app b g)
theorem dps_get {K : PySem.W.Frag} {H : Hp} : ∀ {vs : List V} {ds : List D} {i : Nat} {d : D}, DpAll K H vs ds → ds[i]? = some d → ∃ v, vs[i]? = some v ∧ Dp K H v d
  | [], _, _, _, h, e => by cases h; simp at e
  | v :: vs, _, 0, d, h, e => by
    cases h with
    | cons a b => exact ⟨v, rfl, by simp at e; subst e; exact a⟩
  | v :: vs, _, i + 1, d, h, e => by
    cases h with
    | cons a b => obtain ⟨u, h1, h2⟩ := dps_get (i := i) b (by simpa using e); exact ⟨u, by simpa using h1, h2⟩
theorem dps_take {K : PySem.W.Frag} {H : Hp} : ∀ {vs : List V} {ds : List D} (n : Nat), DpAll K H vs ds → DpAll K H (vs.take n) (ds.take n)
  | _, _, 0, _ => .nil
  | [], _, n + 1, h => by cases h; exact .nil
  | v :: vs, _, n + 1, h => by
    cases h with
    | cons a b => exact .cons a (dps_take n b)
theorem dps_drop {K : PySem.W.Frag} {H : Hp} : ∀ {vs : List V} {ds : List D} (n : Nat), DpAll K H vs ds → DpAll K H (vs.drop n) (ds.drop n)
  | _, _, 0, h => h
  | [], _, n + 1, h => by cases h; exact .nil
  | v :: vs, _, n + 1, h => by
    cases h with
    | cons a b => exact dps_drop n b
def tLkd (t : TE) : TE := fun σ H Q => t σ H fun x H1 => ∃ d kvs, x = V.ref d ∧ H1 d = some (.dK kvs) ∧ ((kvs = [] ∧ Q x H1) ∨ ∀ od, Q x (upd H1 d (.frz od (.dK kvs))))
theorem pe_lkd {X : Cx} {e : Expr} {t : TE} (h : PE X e t) : PE X e (tLkd t) := by
  refine ⟨fun pins s σ H Q I hw => thn (h.run pins s σ H _ I hw) fun v s1 ⟨x, H1, I1, r, d, kvs, ex, hd, q⟩ => ?_⟩
  rcases q with ⟨_, q⟩ | q
  · exact ⟨x, H1, I1, r, q⟩
  · obtain ⟨od, I2⟩ := I1.lock hd trivial
    exact ⟨x, _, I2, r, q od⟩
theorem Grow.lkd {H G : Hp} {p : Addr} {u : HO} (g : Grow H G) (n : H p = none) (hc : ∀ q, G p ≠ some (LamX.CodeO p q)) (ht : ∀ ps, G p ≠ some (.tbl ps)) : Grow H (upd G p u) := by
  refine ⟨fun b w e z => ?_, fun P h => ?_, fun b h => ?_, fun P q hp t => ?_⟩
  · rw [upd_ne (ne_of_none e n)]
    exact g.le b w e z
  · obtain ⟨ps, e, t⟩ := h
    obtain ⟨qs, e2, t2⟩ := g.tb P ⟨ps, e, t⟩
    exact ⟨qs, by rw [upd_ne (ne_of_none e n)]; exact e2, t2⟩
  · by_cases c : b = p
    · rw [c, upd_same]; exact fun z => nomatch z
    · rw [upd_ne c]; exact g.dm b h
  · obtain ⟨ps, e1, t1, t2⟩ := g.pr P q hp t
    refine ⟨ps, by rw [upd_ne fun z => ht ps (by rw [← z]; exact e1)]; exact e1, t1, fun pos cv hc2 => ?_⟩
    obtain ⟨c, e2, e3⟩ := t2 pos cv hc2
    exact ⟨c, e2, by rw [upd_ne fun z => hc q (by subst z; exact e3)]; exact e3⟩
theorem Grow.lkD {H G : Hp} {p : Addr} {kvs : List (Key × V)} {u : HO} (g : Grow H G) (n : H p = none) (e : G p = some (.dK kvs)) : Grow H (upd G p u) := g.lkd n (fun q z => by rw [e] at z; unfold LamX.CodeO at z; cases z) (fun ps z => by rw [e] at z; cases z)
theorem new_dkd {B : Bx} {Pb : Hp} {σ : St} {H G : Hp} {δ : De} {Q : VK} {a : Addr} {kvs : List (Key × V)} {ds : List (D × D)} (R : Rep B Pb σ H δ) (g : Grow H G) (na : H a = none) (ha : G a = some (.dK kvs)) (hk : kvs.map (fun q => keyD q.1) = ds.map (·.1))
    (h : DpAll B.c.K (hid (fun b => Own B σ δ b ∨ b = a) G) (kvs.map (·.2)) (ds.map (·.2))) (k : Dv B σ H δ Q (.dict ds)) : ∃ d kvs', V.ref a = V.ref d ∧ G d = some (.dK kvs') ∧ ((kvs' = [] ∧ Q (V.ref a) G) ∨ ∀ od, Q (V.ref a) (upd G d (.frz od (.dK kvs')))) := by
  have nO : ¬ Own B σ δ a := by
    rintro (z | ⟨i, es, e1, e2⟩)
    · exact R.grow.dm a (R.dom a z) na
    · obtain ⟨c, ys, q1, q2, _⟩ := R.own i es e1
      rw [e2] at q1
      cases q1
      rw [na] at q2
      cases q2
  refine ⟨a, kvs, rfl, ha, ?_⟩
  by_cases c : kvs = []
  · subst c
    exact .inl ⟨rfl, k _ _ g (.dct (kvs := []) (.e (by rw [hid_in nO]; exact ha)) hk (Le.dps (hid_le (Le.refl G) fun b z => .inl z) _ _ h))⟩
  · refine .inr fun od => k _ _ (g.lkD na ha) (.dct (kvs := kvs) (.f c (by rw [hid_in nO, upd_same])) hk (Le.dps (fun b u e z => ?_) _ _ h))
    obtain ⟨h1, h2⟩ := of_hid e
    rw [hid_in fun z => h1 (.inl z), upd_ne fun z => h1 (.inr z)]
    exact h2
theorem new_tup {B : Bx} {Pb : Hp} {σ : St} {H : Hp} {δ : De} {Q : VK} {xs : List V} {ds : List D} (R : Rep B Pb σ H δ) (h : DpAll B.c.K (hid (Own B σ δ) H) xs ds) (k : Dv B σ H δ Q (.tuple ds)) : NewT H xs Q := by
  intro p ob hd n
  have g : Grow H (upd H p (.frz ob (.tup xs))) := Grow.new n
  refine k _ _ g (.tup (SqN.of hd ?_) (Le.dps (hid_le g.le fun _ z => z) ds xs h))
  rw [hid_in, upd_same]
  rintro (z | ⟨i, es, e1, e2⟩)
  · exact R.grow.dm p (R.dom p z) n
  · obtain ⟨a, ys, q1, q2, _⟩ := R.own i es e1
    rw [e2] at q1
    cases q1
    rw [n] at q2
    cases q2
theorem new_lst {B : Bx} {Pb : Hp} {σ : St} {H : Hp} {δ : De} {Q : VK} {xs : List V} {ds : List D} (R : Rep B Pb σ H δ) (h : DpAll B.c.K (hid (Own B σ δ) H) xs ds) (k : Dv B σ H δ Q (.list ds)) : ∀ p, H p = none → Q (.ref p) (upd H p (.lst xs)) := by
  intro p n
  have g : Grow H (upd H p (.lst xs)) := Grow.new n
  refine k _ _ g (.lst (SqL.of ?_) (Le.dps (hid_le g.le fun _ z => z) ds xs h))
  rw [hid_in, upd_same]
  rintro (z | ⟨i, es, e1, e2⟩)
  · exact R.grow.dm p (R.dom p z) n
  · obtain ⟨a, ys, q1, q2, _⟩ := R.own i es e1
    rw [e2] at q1
    cases q1
    rw [n] at q2
    cases q2
section
variable {X : Cx} {C : Cs} {W : WX} {pos : Pos}
theorem o2_int {r : R2} {g : Int → Int → V} {c : Int → Int → Prop} {q : Int → Int → D} (hr : ∀ i j H Q, c i j → Q (g i j) H → r (.int i) (.int j) H Q) (hg : ∀ i j H, Dp C.K H (g i j) (q i j)) : Op2 X C r (dInt2 c q) :=
  op2_int hr hg fun _ _ _ _ h => dInt2_inv h
theorem o2_0 {g : Int → Int → V} {q : Int → Int → D} (hg : ∀ i j H, Dp C.K H (g i j) (q i j)) : Op2 X C (rI0 g) (dInt2 (fun _ _ => True) q) := o2_int (fun i j H Q _ h => ⟨i, j, rfl, rfl, h⟩) hg
theorem o2_c {c : Int → Int → Prop} {g : Int → Int → V} {q : Int → Int → D} (hg : ∀ i j H, Dp C.K H (g i j) (q i j)) : Op2 X C (rI c g) (dInt2 c q) := o2_int (fun i j H Q hc h => ⟨i, j, rfl, rfl, hc, h⟩) hg
variable {a b : Expr} {f g : DF}
theorem de_sub (ha : DE X C W a f) (hb : DE X C W b g) : DE X C W (.BinOp a .Sub b pos) (d2 dSub f g) := de_op op_sub (o2_0 fun _ _ _ => .int _) ha hb
theorem de_mul (ha : DE X C W a f) (hb : DE X C W b g) : DE X C W (.BinOp a .Mult b pos) (d2 dMul f g) := de_op op_mulW (o2_c fun _ _ _ => .int _) ha hb
theorem de_mod (ha : DE X C W a f) (hb : DE X C W b g) : DE X C W (.BinOp a .Mod b pos) (d2 dMod f g) := de_op op_mod (o2_c fun _ _ _ => .int _) ha hb
theorem de_gt (ha : DE X C W a f) (hb : DE X C W b g) : DE X C W (.Compare a [.Gt] [b] pos) (d2 dGt f g) := de_cmp op_gt (o2_0 fun _ _ _ => .bl _) (nomark _) ha hb
theorem o2_eq : Op2 X C (rEqD C.K) dEq := fun x y H d e Q S0 H0 Pb σ δ w R dx dy h => ⟨d, e, (hid_dp dx).sh h.1.1, (hid_dp dy).sh h.1.2, h.1.1, h.1.2, h.2 _ H (Grow.refl H) (.bl _)⟩
theorem o2_ne : Op2 X C (rNeD C.K) dNe := fun x y H d e Q S0 H0 Pb σ δ w R dx dy h => ⟨d, e, (hid_dp dx).sh h.1.1, (hid_dp dy).sh h.1.2, h.1.1, h.1.2, h.2 _ H (Grow.refl H) (.bl _)⟩
theorem de_eq (hK : C.K = X.K) {k : Nat} (hr : Room k X.A) (ha : DE X C W a f) (hb : DE X C W b g) : DE X C W (.Compare a [.Eq] [b] pos) (d2 dEq f g) := de_cmp (op_eqD hr.units) (by rw [← hK]; exact o2_eq) (nomark _) ha hb
theorem room65 {k : Nat} {A : Around} (hr : Room k A) : A.units + 65 < cLine := by have := hr.un; omega
theorem isNoneD_v {K : PySem.W.Frag} {H : Hp} {v : V} {d : D} (h : Dp K H v d) : decide (v = V.non) = isNoneD d := by
  cases h <;> simp [isNoneD]
theorem de_is (ha : DE X C W a f) (hb : DE X C W b g) : DE X C W (.Compare a [.Is] [b] pos) (d2 dIs f g) := by
  refine de_cmp op_isN (fun x y H d e Q S0 H0 Pb σ δ w R dx dy h => ?_) (nomark _) ha hb
  unfold dIs at h
  split at h
  · cases dy
    refine ⟨rfl, ?_⟩
    rw [isNoneD_v dx]
    exact h _ H (Grow.refl H) (.bl _)
  · exact h.elim
def rCatL (K : PySem.W.Frag) : R2 := fun x y H Q => ∃ l b xs zs, x = .ref l ∧ y = .ref b ∧ SqL K H l xs ∧ SqL K H b zs ∧ xs.length + zs.length ≤ sizeLine ∧ ∀ p, H p = none → Q (.ref p) (upd H p (.lst (xs ++ zs)))
theorem op_catL : OpR X (binaryOp .Add) (rCatL X.K) := by
  intro pins s σ H x y v u Q I rx ry h
  obtain ⟨l, b, xs, zs, rfl, rfl, hl, hb, hz, q⟩ := h
  cases rx
  cases ry
  obtain ⟨its, r1, ⟨⟨c1, d1, t1, sl1⟩, n1, e1, hc1, _, hd1⟩, z1⟩ := I.list hl
  obtain ⟨its2, r2, ⟨⟨c2, d2, t2, sl2⟩, n2, e2, hc2, _, hd2⟩, z2⟩ := I.list hb
  simp only at hc1 hd1 hc2 hd2
  subst hc1 hd1 hc2 hd2
  have k1 := r1.length
  have k2 := r2.length
  have hs : its.toArray.size + its2.toArray.size ≤ sizeLine := by rw [List.size_toArray, List.size_toArray]; omega
  refine concat_meets ⟨_, e1, rfl⟩ ⟨_, e2, rfl⟩ noFill_list_add seq_list_add PySem.F.slot_list_add PySem.F.entry_list_add (PySem.F.args_list_add_2 _ _) (PyProof.Rows.list_addW l b its.toArray its2.toArray n1 n2 _ _ sl1 sl2 hs) ⟨e1, e2, ?_⟩
  have ea : its.toArray ++ its2.toArray = (its ++ its2).toArray := by simp
  rw [ea]
  exact ⟨.ref _, _, I.lnew (t' := s.toks) (r1.append r2) (by rw [List.length_append]; exact hz), rfl, q _ I.fresh⟩
theorem o2_add : Op2 X C (fun x y H Q => rI0 (fun i j => .int (i + j)) x y H Q ∨ (rCatN C.K x y H Q ∨ (rCatL C.K x y H Q ∨ ∃ i j, x = .str i ∧ y = .str j ∧ i.length + j.length ≤ sizeLine ∧ Q (.str (i ++ j)) H))) dAdd := by
  intro x y H d e Q S0 H0 Pb σ δ w R dx dy h
  unfold dAdd at h
  split at h
  · cases dx
    cases dy
    exact .inl ⟨_, _, rfl, rfl, h _ H (Grow.refl H) (.int _)⟩
  · cases dx with
    | tup s1 a1 =>
      cases dy with
      | tup s2 a2 =>
        obtain ⟨hl, hk⟩ := h
        refine .inr (.inl ⟨_, _, _, _, rfl, rfl, Le.sqT hid_sub s1.sq, Le.sqT hid_sub s2.sq, by rw [dps_len a1, dps_len a2]; exact hl, fun e0 => ?_, fun _ e0 => ?_, fun _ _ => new_tup R (dps_app a1 a2) hk⟩)
        · subst e0
          cases a1
          exact hk _ H (Grow.refl H) (.tup s2 a2)
        · subst e0
          cases a2
          rw [List.append_nil] at hk
          exact hk _ H (Grow.refl H) (.tup s1 a1)
  · cases dx with
    | lst s1 a1 =>
      cases dy with
      | lst s2 a2 =>
        obtain ⟨hl, hk⟩ := h
        exact .inr (.inr (.inl ⟨_, _, _, _, rfl, rfl, Le.sqL hid_sub s1, Le.sqL hid_sub s2, by rw [dps_len a1, dps_len a2]; exact hl, new_lst R (dps_app a1 a2) hk⟩))
  · cases dx
    cases dy
    exact .inr (.inr (.inr ⟨_, _, rfl, rfl, h.1, h.2 _ H (Grow.refl H) (.str _)⟩))
  · exact h.elim
theorem de_add (hK : C.K = X.K) (ha : DE X C W a f) (hb : DE X C W b g) : DE X C W (.BinOp a .Add b pos) (d2 dAdd f g) :=
  de_op (OpR.or op_add (OpR.or op_catN (OpR.or op_catL op_add_str))) (by rw [← hK]; exact o2_add) ha hb
abbrev TF := De → Wp Bool
def Bv (H : Hp) (Q : Bool → Hp → Prop) (b : Bool) : Prop := ∀ G, Grow H G → Q b G
theorem Bv.gr {H G : Hp} {Q : Bool → Hp → Prop} {b : Bool} (h : Bv H Q b) (g : Grow H G) : Bv G Q b := fun F g' => h F (g.trans g')
def DT (X : Cx) (C : Cs) (W : WX) (e : Expr) (f : TF) : Prop :=
  ∃ t, PT X e t ∧ ∀ S0 H0 Pb σ H δ Q, Rep (C.bx S0 H0) Pb σ H δ → (f δ).run (Bv H Q) (Ew (C.bx S0 H0) W σ H) → t σ H Q
def truD : D → Wp Bool
  | .none => .pure false
  | .bool b => .pure b
  | .int i => .pure (i != 0)
  | .str y => .need (y.length ≤ sizeLine) (.pure ((y.length : Int) != 0))
  | .list xs => .pure (!xs.isEmpty)
  | .tuple xs => .pure (!xs.isEmpty)
  | .dict _ => .stuck
def tT (f : DF) : TF := fun δ => (f δ).bind truD
theorem isEmpty_dps {K : PySem.W.Frag} {H : Hp} {vs : List V} {ds : List D} (h : DpAll K H vs ds) : (!vs.isEmpty) = !ds.isEmpty := by
  cases h <;> rfl
theorem tru_v {K : PySem.W.Frag} {H : Hp} {v : V} {d : D} {k : Bool → Prop} {w : Exn → Prop} (dp : Dp K H v d) (h : (truD d).run k w) : ∃ b, TruV K v H b ∧ k b := by
  cases dp with
  | non => exact ⟨_, rfl, h⟩
  | bl b => exact ⟨_, rfl, h⟩
  | int i => exact ⟨_, rfl, h⟩
  | str x => exact ⟨_, ⟨h.1, rfl⟩, h.2⟩
  | lst s a => exact ⟨_, .inl ⟨_, s, rfl⟩, by rw [isEmpty_dps a]; exact h⟩
  | tup s a => exact ⟨_, .inr (.inl ⟨_, s.sq, rfl⟩), by rw [isEmpty_dps a]; exact h⟩
  | dct s k a => exact h.elim
  | dcX => exact h.elim
theorem dt_tru (hK : C.K = X.K) (ha : DE X C W a f) (he : ∀ whole, isTrue a X.env whole = (do let v ← whole; standAt a.pos; holding [v] (truthy v)) := by intro _; rfl) : DT X C W a (tT f) := by
  obtain ⟨ta, pa, qa⟩ := ha
  refine ⟨_, pt_truth pa he, fun S0 H0 Pb σ H δ Q R h => qa S0 H0 Pb σ H δ _ R ((f δ).mono (fun d h v G g dp => ?_) (fun _ z => z) h)⟩
  rw [← hK]
  obtain ⟨b, h1, h2⟩ := tru_v (hid_dp dp) h
  exact ⟨b, h1, h2 G g⟩
def asB : D → Wp Bool
  | .bool b => .pure b
  | _ => .stuck
def tBv (f : DF) : TF := fun δ => (f δ).bind asB
theorem asB_inv {d : D} {k : Bool → Prop} {w : Exn → Prop} (h : (asB d).run k w) : ∃ b, d = .bool b ∧ k b := by
  unfold asB at h
  split at h
  · exact ⟨_, rfl, h⟩
  · exact h.elim
theorem dt_cmp {op : CmpOp} {F : D → D → Wp D} {r : R2} (ho : OpR X (compareOp op) r) (hF : Op2 X C r F) (hm : behindInMarks op b = false) (ha : DE X C W a f) (hb : DE X C W b g) : DT X C W (.Compare a [op] [b] pos) (tBv (d2 F f g)) := by
  obtain ⟨ta, tb, pa, pb, q⟩ := two ha hb hF
  refine ⟨_, pt_cmpR ho pa pb hm, fun S0 H0 Pb σ H δ Q R h => q S0 H0 Pb σ H δ _ R ((d2 F f g δ).mono (fun d h v G g' dp => ?_) (fun _ z => z) h)⟩
  obtain ⟨k, rfl, hk⟩ := asB_inv h
  cases dp
  exact ⟨k, rfl, hk G g'⟩
theorem dt_not {f : TF} (ha : DT X C W a f) : DT X C W (.UnaryOp .Not a pos) (fun δ => (f δ).bind fun b => .pure (!b)) := by
  obtain ⟨t, p, q⟩ := ha
  exact ⟨_, pt_not p, fun S0 H0 Pb σ H δ Q R h => q S0 H0 Pb σ H δ _ R h⟩
def DW (X : Cx) (C : Cs) (W : WX) (e : Expr) (f : TF) : Prop :=
  ∃ t, PW X e t ∧ ∀ S0 H0 Pb σ H δ Q, Rep (C.bx S0 H0) Pb σ H δ → (f δ).run (Bv H Q) (Ew (C.bx S0 H0) W σ H) → t σ H Q
theorem dw_dt {f : TF} (h : DW X C W a f) : DT X C W a f := by
  obtain ⟨t, p, q⟩ := h
  exact ⟨t, p.pt, q⟩
def tAnd2 (f g : TF) : TF := fun δ => (f δ).bind fun b => if b then g δ else .pure false
def tOr2 (f g : TF) : TF := fun δ => (f δ).bind fun b => if b then .pure true else g δ
variable {rest : List Expr}
theorem dw_and1 {f : TF} (ha : DT X C W a f) : DW X C W (.BoolOp .And [a] pos) f := by
  obtain ⟨t, p, q⟩ := ha
  exact ⟨t, pw_and1 p, q⟩
theorem dw_or1 {f : TF} (ha : DT X C W a f) : DW X C W (.BoolOp .Or [a] pos) f := by
  obtain ⟨t, p, q⟩ := ha
  exact ⟨t, pw_or1 p, q⟩
theorem dw_and {f g : TF} (ha : DT X C W a f) (hb : DW X C W (.BoolOp .And (b :: rest) pos) g) : DW X C W (.BoolOp .And (a :: b :: rest) pos) (tAnd2 f g) := by
  obtain ⟨t, p, q⟩ := ha
  obtain ⟨u, p2, q2⟩ := hb
  refine ⟨_, pw_and p p2, fun S0 H0 Pb σ H δ Q R h => q S0 H0 Pb σ H δ _ R ((f δ).mono (fun c h G g' => ?_) (fun _ z => z) h)⟩
  cases c with
  | true => exact q2 S0 H0 Pb σ G δ Q (R.gr g') ((g δ).mono (fun _ z => z.gr g') (fun _ z => z.gr g') h)
  | false => exact h G g'
theorem dw_or {f g : TF} (ha : DT X C W a f) (hb : DW X C W (.BoolOp .Or (b :: rest) pos) g) : DW X C W (.BoolOp .Or (a :: b :: rest) pos) (tOr2 f g) := by
  obtain ⟨t, p, q⟩ := ha
  obtain ⟨u, p2, q2⟩ := hb
  refine ⟨_, pw_or p p2, fun S0 H0 Pb σ H δ Q R h => q S0 H0 Pb σ H δ _ R ((f δ).mono (fun c h G g' => ?_) (fun _ z => z) h)⟩
  cases c with
  | false => exact q2 S0 H0 Pb σ G δ Q (R.gr g') ((g δ).mono (fun _ z => z.gr g') (fun _ z => z.gr g') h)
  | true => exact h G g'
theorem de_one {op} (h : DE X C W a f) : DE X C W (.BoolOp op [a] pos) f := by
  obtain ⟨t, p, q⟩ := h
  exact ⟨t, pe_one p, q⟩
def dAndV (f g : DF) : DF := fun δ => (f δ).bind fun d => (truD d).bind fun b => if b then g δ else .pure d
def dOrV (f g : DF) : DF := fun δ => (f δ).bind fun d => (truD d).bind fun b => if b then .pure d else g δ
theorem de_and (hK : C.K = X.K) (ha : DE X C W a f) (hb : DE X C W (.BoolOp .And (b :: rest) pos) g) : DE X C W (.BoolOp .And (a :: b :: rest) pos) (dAndV f g) := by
  obtain ⟨t, p, q⟩ := ha
  obtain ⟨u, p2, q2⟩ := hb
  refine ⟨_, pe_andT p p2, fun S0 H0 Pb σ H δ Q R h => q S0 H0 Pb σ H δ _ R ((f δ).mono (fun d h v G g' dp => ?_) (fun _ z => z) h)⟩
  rw [← hK]
  obtain ⟨c, h1, h2⟩ := tru_v (hid_dp dp) h
  refine ⟨c, h1, ?_⟩
  cases c with
  | true => exact q2 S0 H0 Pb σ G δ Q (R.gr g') ((g δ).mono (fun _ z => z.gr g') (fun _ z => z.gr g') h2)
  | false => exact h2 v G g' dp
theorem de_or (hK : C.K = X.K) (ha : DE X C W a f) (hb : DE X C W (.BoolOp .Or (b :: rest) pos) g) : DE X C W (.BoolOp .Or (a :: b :: rest) pos) (dOrV f g) := by
  obtain ⟨t, p, q⟩ := ha
  obtain ⟨u, p2, q2⟩ := hb
  refine ⟨_, pe_orT p p2, fun S0 H0 Pb σ H δ Q R h => q S0 H0 Pb σ H δ _ R ((f δ).mono (fun d h v G g' dp => ?_) (fun _ z => z) h)⟩
  rw [← hK]
  obtain ⟨c, h1, h2⟩ := tru_v (hid_dp dp) h
  refine ⟨c, h1, ?_⟩
  cases c with
  | false => exact q2 S0 H0 Pb σ G δ Q (R.gr g') ((g δ).mono (fun _ z => z.gr g') (fun _ z => z.gr g') h2)
  | true => exact h2 v G g' dp
theorem de_not (hK : C.K = X.K) (ha : DE X C W a f) : DE X C W (.UnaryOp .Not a pos) (fun δ => (tT f δ).bind fun b => .pure (.bool (!b))) := by
  obtain ⟨t, p, q⟩ := ha
  refine ⟨_, pe_notT p, fun S0 H0 Pb σ H δ Q R h => q S0 H0 Pb σ H δ _ R ((f δ).mono (fun d h v G g' dp => ?_) (fun _ z => z) h)⟩
  rw [← hK]
  obtain ⟨c, h1, h2⟩ := tru_v (hid_dp dp) h
  exact ⟨c, h1, h2 _ G g' (.bl _)⟩
def dIf (t : TF) (f g : DF) : DF := fun δ => (t δ).bind fun b => if b then f δ else g δ
theorem de_if {c : Expr} {t : TF} (hc : DT X C W c t) (ha : DE X C W a f) (hb : DE X C W b g) : DE X C W (.IfExp c a b pos) (dIf t f g) := by
  obtain ⟨tc, pc, qc⟩ := hc
  obtain ⟨ta, pa, qa⟩ := ha
  obtain ⟨tb, pb, qb⟩ := hb
  refine ⟨_, pe_ifExp pc pa pb, fun S0 H0 Pb σ H δ Q R h => qc S0 H0 Pb σ H δ _ R ((t δ).mono (fun k h G g' => ?_) (fun _ z => z) h)⟩
  cases k with
  | true => exact qa S0 H0 Pb σ G δ Q (R.gr g') ((f δ).mono (fun _ z => z.gr g') (fun _ z => z.gr g') h)
  | false => exact qb S0 H0 Pb σ G δ Q (R.gr g') ((g δ).mono (fun _ z => z.gr g') (fun _ z => z.gr g') h)
theorem de_chain {c : Expr} {op op' : CmpOp} {F F' : D → D → Wp D} {r r' : R2} {h : DF} (ho : OpR X (compareOp op) r) (hF : Op2 X C r F) (ho' : OpR X (compareOp op') r') (hF' : Op2 X C r' F') (ha : DE X C W a f) (hb : DE X C W b g) (hc : DE X C W c h)
    (hm : lastMarks [op, op'] [b, c] = false := by with_unfolding_all rfl) :
    DE X C W (.Compare a [op, op'] [b, c] pos) (fun δ => (f δ).bind fun d => (g δ).bind fun e => (F d e).bind fun z => (asB z).bind fun k => if k then (h δ).bind fun x => F' e x else .pure (.bool false)) := by
  obtain ⟨ta, pa, qa⟩ := ha
  obtain ⟨tb, pb, qb⟩ := hb
  obtain ⟨tc, pc, qc⟩ := hc
  refine ⟨_, pe_chain ho ho' pa pb pc hm, fun S0 H0 Pb σ H δ Q R hh => qa S0 H0 Pb σ H δ _ R ((f δ).mono (fun d hh x H1 g1 dx => ?_) (fun _ z => z) hh)⟩
  refine qb S0 H0 Pb σ H1 δ _ (R.gr g1) ((g δ).mono (fun e hh y H2 g2 dy => ?_) (fun _ z => z.gr g1) hh)
  refine hF x y H2 d e _ S0 H0 Pb σ δ _ (R.gr (g1.trans g2)) (Le.dp (hid_le g2.le fun _ z => z) d x dx) dy ((F d e).mono (fun z hz v H3 g3 dz => ?_) (fun _ z => z) hh)
  obtain ⟨k, rfl, hk⟩ := asB_inv hz
  cases dz
  refine ⟨k, rfl, ?_⟩
  cases k with
  | false => exact hk _ H3 (g1.trans (g2.trans g3)) (.bl _)
  | true =>
    refine qc S0 H0 Pb σ H3 δ _ (R.gr (g1.trans (g2.trans g3))) ((h δ).mono (fun x' hx v' H4 g4 dx' => ?_) (fun _ z => z.gr (g1.trans (g2.trans g3))) hk)
    exact hF' y v' H4 e x' Q S0 H0 Pb σ δ _ (R.gr (g1.trans (g2.trans (g3.trans g4)))) (Le.dp (hid_le (g3.trans g4).le fun _ z => z) e y dy) dx' ((F' e x').mono (fun _ z => z.gr (g1.trans (g2.trans (g3.trans g4)))) (fun _ z => z) hx)
end
end Tr

namespace Tr
open PySem PySem.Spec L2
variable [ProtC]

inductive Ar where
  | d (x : D)
  | v (x : V)
  | t (a : Addr) (φ : Heap → Prop)
def ArOk (K : PySem.W.Frag) (H : Hp) (v : V) : Ar → Prop
  | .d x => Dp K H v x
  | .v x => v = x
  | .t a φ => v = .ref a ∧ H a = some (.ext φ)
def ArsOk (K : PySem.W.Frag) (H : Hp) : List V → List Ar → Prop
  | [], [] => True
  | v :: vs, a :: as => ArOk K H v a ∧ ArsOk K H vs as
  | _, _ => False
theorem ArsOk.len {K : PySem.W.Frag} {H : Hp} : ∀ {vs : List V} {as : List Ar}, ArsOk K H vs as → vs.length = as.length
  | [], [], _ => rfl
  | v :: vs, a :: as, h => by rw [List.length_cons, List.length_cons, ArsOk.len h.2]
  | [], _ :: _, h => h.elim
  | _ :: _, [], h => h.elim
theorem ArOk.le {K : PySem.W.Frag} {H G : Hp} (l : Le H G) {v : V} {a : Ar} (h : ArOk K H v a) : ArOk K G v a := by
  cases a with
  | d x => exact Le.dp l x v h
  | v x => exact h
  | t a φ => exact ⟨h.1, l a _ h.2 fun ps z => by cases z⟩
theorem ArsOk.le {K : PySem.W.Frag} {H G : Hp} (l : Le H G) : ∀ {vs : List V} {as : List Ar}, ArsOk K H vs as → ArsOk K G vs as
  | [], [], _ => trivial
  | v :: vs, a :: as, h => ⟨h.1.le l, ArsOk.le l h.2⟩
  | [], _ :: _, h => h.elim
  | _ :: _, [], h => h.elim
def Av (B : Bx) (σ : St) (H : Hp) (δ : De) (Q : List V → Hp → Prop) (as : List Ar) : Prop := ∀ vs G, Grow H G → ArsOk B.c.K (hid (Own B σ δ) G) vs as → Q vs G
theorem Av.gr {B : Bx} {σ : St} {H G : Hp} {δ : De} {Q : List V → Hp → Prop} {as : List Ar} (h : Av B σ H δ Q as) (g : Grow H G) : Av B σ G δ Q as := fun vs F g' => h vs F (g.trans g')
abbrev AF := De → Wp (List Ar)
def DA (X : Cx) (C : Cs) (W : WX) (es : List Expr) (f : AF) : Prop :=
  ∃ t, PA X es t ∧ ∀ S0 H0 Pb σ H δ Q, Rep (C.bx S0 H0) Pb σ H δ → (f δ).run (Av (C.bx S0 H0) σ H δ Q) (Ew (C.bx S0 H0) W σ H) → t σ H Q
def slotT : Option Sl → Wp (Addr × (Heap → Prop))
  | some (.t a φ) => .pure (a, φ)
  | _ => .stuck
def slotV : Option Sl → Wp V
  | some (.v x) => .pure x
  | _ => .stuck
def aNil : AF := fun _ => .pure []
def aCons (f : DF) (r : AF) : AF := fun δ => (f δ).bind fun d => (r δ).bind fun as => .pure (.d d :: as)
def aVal (i : Nat) (r : AF) : AF := fun δ => (slotV δ[i]?).bind fun v => (r δ).bind fun as => .pure (.v v :: as)
def aTrk (i : Nat) (r : AF) : AF := fun δ => (slotT δ[i]?).bind fun q => (r δ).bind fun as => .pure (.t q.1 q.2 :: as)
def allD : List Ar → Wp (List D)
  | [] => .pure []
  | .d x :: as => (allD as).bind fun ds => .pure (x :: ds)
  | .v _ :: _ => .stuck
  | .t _ _ :: _ => .stuck
theorem allD_ok {K : PySem.W.Frag} {H : Hp} : ∀ {as : List Ar} {vs : List V} {k : List D → Prop} {w : Exn → Prop}, ArsOk K H vs as → (allD as).run k w → ∃ ds, DpAll K H vs ds ∧ k ds
  | [], [], _, _, _, h => ⟨[], .nil, h⟩
  | .d x :: as, v :: vs, _, _, o, h => by
    obtain ⟨ds, h1, h2⟩ := allD_ok o.2 h
    exact ⟨x :: ds, .cons o.1 h1, h2⟩
  | .v _ :: _, _, _, _, _, h => h.elim
  | .t _ _ :: _, _, _, _, _, h => h.elim
  | [], _ :: _, _, _, o, _ => o.elim
  | .d _ :: _, [], _, _, o, _ => o.elim
section
variable {X : Cx} {C : Cs} {W : WX} {pos : Pos} {e : Expr} {es : List Expr} {f : DF} {r : AF}
theorem da_nil : DA X C W [] aNil := ⟨_, pa_nil, fun S0 H0 Pb σ H δ Q _ h => h [] H (Grow.refl H) trivial⟩
theorem da_cons (ha : DE X C W e f) (hr : DA X C W es r) (hs : starEach (e :: es) X.env = (false, eval e X.env) :: starEach es X.env := by rfl) : DA X C W (e :: es) (aCons f r) := by
  obtain ⟨t, p, q⟩ := ha
  obtain ⟨u, p2, q2⟩ := hr
  refine ⟨_, pa_cons p p2 hs, fun S0 H0 Pb σ H δ Q R h => q S0 H0 Pb σ H δ _ R ((f δ).mono (fun d h v G g dp => ?_) (fun _ z => z) h)⟩
  refine q2 S0 H0 Pb σ G δ _ (R.gr g) ((r δ).mono (fun as h vs F g' ok => ?_) (fun _ z => z.gr g) h)
  exact h (v :: vs) F (g.trans g') ⟨Le.dp (hid_le g'.le fun _ z => z) d v dp, ok⟩
theorem da_trk {i : Nat} {x : Str} {p : Pos} (hN : X.N[i]? = some x) (hv : Vis X.env.scope x) (hr : DA X C W es r) (hd : (x == ("__debug__" : Str)) = false := by decide) (hcd : (x == ("__classdict__" : Str)) = false := by decide)
    (hs : starEach (.Name x p :: es) X.env = (false, eval (.Name x p) X.env) :: starEach es X.env := by rfl) : DA X C W (.Name x p :: es) (aTrk i r) := by
  obtain ⟨u, p2, q2⟩ := hr
  refine ⟨_, pa_cons (pe_var hN hv hd hcd) p2 hs, fun S0 H0 Pb σ H δ Q R h => ?_⟩
  unfold aTrk at h
  cases hz : δ[i]? with
  | none => rw [hz] at h; exact h.elim
  | some z =>
    rw [hz] at h
    cases z with
    | non => exact h.elim
    | own ds => exact h.elim
    | p d => exact h.elim
    | v x => exact h.elim
    | t a φ =>
      obtain ⟨t1, t2⟩ := R.trk i a φ hz
      refine ⟨.ref a, t1, ?_⟩
      refine q2 S0 H0 Pb σ H δ _ R ((r δ).mono (fun as h vs G g' ok => ?_) (fun _ z => z) h)
      exact h (.ref a :: vs) G g' ⟨⟨rfl, hid_le g'.le (fun _ z => z) a _ t2 fun ps z => by cases z⟩, ok⟩
def dTup (r : AF) : DF := fun δ => (r δ).bind fun as => (allD as).bind fun ds => .need (ds.length ≤ sizeLine) (.pure (.tuple ds))
def dLst (r : AF) : DF := fun δ => (r δ).bind fun as => (allD as).bind fun ds => .need (ds.length ≤ sizeLine) (.pure (.list ds))
theorem de_tup {x1} (h : DA X C W es r) : DE X C W (.Tuple es x1 pos) (dTup r) := by
  obtain ⟨t, p, q⟩ := h
  refine ⟨_, pe_tupN p, fun S0 H0 Pb σ H δ Q R h => q S0 H0 Pb σ H δ _ R ((r δ).mono (fun as h vs G g ok => ?_) (fun _ z => z) h)⟩
  obtain ⟨ds, h1, h2, h3⟩ := allD_ok ok h
  exact ⟨by rw [dps_len h1]; exact h2, new_tup (R.gr g) h1 (h3.gr g)⟩
theorem de_lst (h : DA X C W es r) : DE X C W (.List es pos) (dLst r) := by
  obtain ⟨t, p, q⟩ := h
  refine ⟨_, pe_lst p, fun S0 H0 Pb σ H δ Q R h => q S0 H0 Pb σ H δ _ R ((r δ).mono (fun as h vs G g ok => ?_) (fun _ z => z) h)⟩
  obtain ⟨ds, h1, h2, h3⟩ := allD_ok ok h
  exact ⟨by rw [dps_len h1]; exact h2, new_lst (R.gr g) h1 (h3.gr g)⟩
def optW {A : Type} : Option A → Wp A
  | some a => .pure a
  | none => .stuck
theorem optW_inv {A : Type} {o : Option A} {k : A → Prop} {w : Exn → Prop} (h : (optW o).run k w) : ∃ a, o = some a ∧ k a := by
  cases o with
  | none => exact h.elim
  | some a => exact ⟨a, rfl, h⟩
def dIx : D → D → Wp D
  | .list ds, .int i => optW (atI ds i)
  | .tuple ds, .int i => optW (atI ds i)
  | .str z, .int i => .need (z.length ≤ sizeLine) ((optW (atI z.cps.toList i)).bind fun c => .pure (.str ⟨#[c]⟩))
  | _, _ => .stuck
theorem atI_dps {K : PySem.W.Frag} {H : Hp} {vs : List V} {ds : List D} {i : Int} {d : D} (h : DpAll K H vs ds) (e : atI ds i = some d) : ∃ v, atI vs i = some v ∧ Dp K H v d := by
  unfold atI at e ⊢
  rw [dps_len h]
  cases hj : ixN ds.length i with
  | none => rw [hj] at e; cases e
  | some j =>
    rw [hj] at e
    obtain ⟨v, h1, h2⟩ := dps_get h (i := j) e
    exact ⟨v, h1, h2⟩
theorem o2_ix : Op2 X C (rIx C.K) dIx := by
  intro x y H d e Q S0 H0 Pb σ δ w R dx dy h
  unfold dIx at h
  split at h
  · cases dx with
    | lst s a =>
      cases dy
      obtain ⟨d, h1, h2⟩ := optW_inv h
      obtain ⟨v, h3, h4⟩ := atI_dps a h1
      exact .inl ⟨_, _, _, v, rfl, rfl, Le.sqL hid_sub s, h3, h2 v H (Grow.refl H) h4⟩
  · cases dx with
    | tup s a =>
      cases dy
      obtain ⟨d, h1, h2⟩ := optW_inv h
      obtain ⟨v, h3, h4⟩ := atI_dps a h1
      exact .inr (.inl ⟨_, _, _, v, rfl, rfl, Le.sqT hid_sub s.sq, h3, h2 v H (Grow.refl H) h4⟩)
  · cases dx
    cases dy
    obtain ⟨hz, h⟩ := h
    obtain ⟨c, h1, h2⟩ := optW_inv h
    exact .inr (.inr ⟨_, _, c, rfl, rfl, hz, h1, h2 _ H (Grow.refl H) (.str _)⟩)
  · exact h.elim
theorem de_ix {a b : Expr} {f g : DF} (hK : C.K = X.K) (ha : DE X C W a f) (hb : DE X C W b g) (hs : PlainIx b) : DE X C W (.Subscript a b pos) (d2 dIx f g) := by
  obtain ⟨ta, tb, pa, pb, q⟩ := two ha hb o2_ix
  exact ⟨_, pe_ix (by rw [hK]; exact ix_seq) pa pb hs, q⟩
abbrev OF := De → Wp (Option Int)
def DO (X : Cx) (C : Cs) (W : WX) (e : Option Expr) (f : OF) : Prop :=
  ∃ t, PO X e t ∧ ∀ S0 H0 Pb σ H δ Q, Rep (C.bx S0 H0) Pb σ H δ → (f δ).run (fun o => ∀ G, Grow H G → Q o G) (Ew (C.bx S0 H0) W σ H) → t σ H Q
def asI : D → Wp (Option Int)
  | .int i => .pure (some i)
  | _ => .stuck
def oNone : OF := fun _ => .pure none
def oSome (f : DF) : OF := fun δ => (f δ).bind asI
theorem do_none : DO X C W none oNone := ⟨_, po_none, fun S0 H0 Pb σ H δ Q _ h => h H (Grow.refl H)⟩
theorem do_some (h : DE X C W e f) : DO X C W (some e) (oSome f) := by
  obtain ⟨t, p, q⟩ := h
  refine ⟨_, po_some p, fun S0 H0 Pb σ H δ Q R h => q S0 H0 Pb σ H δ _ R ((f δ).mono (fun d h v G g dp => ?_) (fun _ z => z) h)⟩
  unfold asI at h
  split at h
  · cases dp
    exact ⟨_, rfl, h G g⟩
  · exact h.elim
def cutD {A : Type} (xs : List A) (lo hi : Option Int) : List A := (xs.drop (HT.sIx xs.length 0 lo)).take (HT.sIx xs.length xs.length hi - HT.sIx xs.length 0 lo)
theorem cut_dps {K : PySem.W.Frag} {H : Hp} {vs : List V} {ds : List D} (lo hi : Option Int) (h : DpAll K H vs ds) : DpAll K H (cutV vs lo hi) (cutD ds lo hi) := by
  unfold cutV cutD
  rw [dps_len h]
  exact dps_take _ (dps_drop _ h)
def dCut (lo hi : Option Int) : D → Wp D
  | .list ds => .pure (.list (cutD ds lo hi))
  | .tuple ds => .pure (.tuple (cutD ds lo hi))
  | .str z => .need (z.length ≤ sizeLine) (.pure (.str (cutS z lo hi)))
  | _ => .stuck
def dSl (f : DF) (l h : OF) : DF := fun δ => (f δ).bind fun d => (l δ).bind fun lo => (h δ).bind fun hi => dCut lo hi d
theorem cut_all {A : Type} {xs : List A} {lo hi : Option Int} (h : HT.sIx xs.length 0 lo = 0 ∧ HT.sIx xs.length xs.length hi = xs.length) : cutD xs lo hi = xs := by
  unfold cutD
  rw [h.1, h.2]
  simp
theorem de_slice {lo hi : Option Expr} {p2 : Pos} {l h : OF} (hK : C.K = X.K) (ha : DE X C W e f) (hl : DO X C W lo l) (hh : DO X C W hi h) : DE X C W (.Subscript e (.Slice lo hi none p2) pos) (dSl f l h) := by
  obtain ⟨ta, pa, qa⟩ := ha
  obtain ⟨tl, pl, ql⟩ := hl
  obtain ⟨tu, pu, qu⟩ := hh
  refine ⟨_, pe_slice (SlR.or sl_tupN (SlR.or sl_list sl_str)) pa pl pu, fun S0 H0 Pb σ H δ Q R hw => qa S0 H0 Pb σ H δ _ R ((f δ).mono (fun d hw x H1 g1 dx => ?_) (fun _ z => z) hw)⟩
  refine ql S0 H0 Pb σ H1 δ _ (R.gr g1) ((l δ).mono (fun lo' hw H2 g2 => ?_) (fun _ z => z.gr g1) hw)
  refine qu S0 H0 Pb σ H2 δ _ (R.gr (g1.trans g2)) ((h δ).mono (fun hi' hw H3 g3 => ?_) (fun _ z => z.gr (g1.trans g2)) hw)
  have R3 := R.gr (g1.trans (g2.trans g3))
  have dx3 := Le.dp (hid_le (S' := Own (C.bx S0 H0) σ δ) (g2.trans g3).le fun _ z => z) d x dx
  have k3 : (dCut lo' hi' d).run (Dv (C.bx S0 H0) σ H3 δ Q) (Ew (C.bx S0 H0) W σ H) := (dCut lo' hi' d).mono (fun _ z => z.gr (g1.trans (g2.trans g3))) (fun _ z => z) hw
  show rSlN X.K x lo' hi' H3 Q ∨ (rSlL X.K x lo' hi' H3 Q ∨ rSlS x lo' hi' H3 Q)
  rw [← hK]
  unfold dCut at k3
  split at k3
  · cases dx3 with
    | lst s a => exact .inr (.inl ⟨_, _, rfl, Le.sqL hid_sub s, new_lst R3 (cut_dps lo' hi' a) k3⟩)
  · cases dx3 with
    | tup s a =>
      refine .inl ⟨_, _, rfl, Le.sqT hid_sub s.sq, fun ha => ?_, fun _ => new_tup R3 (cut_dps lo' hi' a) k3⟩
      rw [dps_len a] at ha
      rw [cut_all ha] at k3
      exact k3 _ H3 (Grow.refl H3) (.tup s a)
  · cases dx3
    exact .inr (.inr ⟨_, rfl, k3.1, k3.2 _ H3 (Grow.refl H3) (.str _)⟩)
  · exact k3.elim
def OpN (C : Cs) (r : List V → Hp → VK → Prop) (F : List D → Wp D) : Prop := ∀ (vs : List V) (H : Hp) (ds : List D) (Q : VK) (S0 : Addr → Prop) (H0 Pb : Hp) (σ : St) (δ : De) (w : Exn → Prop), Rep (C.bx S0 H0) Pb σ H δ → DpAll C.K (hid (Own (C.bx S0 H0) σ δ) H) vs ds → (F ds).run (Dv (C.bx S0 H0) σ H δ Q) w → r vs H Q
def dCB (F : List D → Wp D) (r : AF) : DF := fun δ => (r δ).bind fun as => (allD as).bind F
variable {x id T : String} {nm : Str} {p : Pos} {rr : List V → Hp → VK → Prop} {F : List D → Wp D}
theorem cb_q {t : TA} (h : ∀ S0 H0 Pb σ H δ Q, Rep (C.bx S0 H0) Pb σ H δ → (r δ).run (Av (C.bx S0 H0) σ H δ Q) (Ew (C.bx S0 H0) W σ H) → t σ H Q) (hF : OpN C rr F) : ∀ S0 H0 Pb σ H δ Q, Rep (C.bx S0 H0) Pb σ H δ → (dCB F r δ).run (Dv (C.bx S0 H0) σ H δ Q) (Ew (C.bx S0 H0) W σ H) → tCB rr t σ H Q := by
  intro S0 H0 Pb σ H δ Q R hw
  refine h S0 H0 Pb σ H δ _ R ((r δ).mono (fun as hw vs G g ok => ?_) (fun _ z => z) hw)
  obtain ⟨ds, h1, h2⟩ := allD_ok ok hw
  exact hF vs G ds Q S0 H0 Pb σ δ _ (R.gr g) h1 ((F ds).mono (fun _ z => z.gr g) (fun _ z => z) h2)
theorem de_callB (hc : CallR X (.builtin id) rr) (hF : OpN C rr F) (hg : Gl X nm) (hm : X.mg nm = none) (hv : bootBuiltins nm = some (.builtin id)) (ha : DA X C W (e :: es) r) (hn : nm ≠ "__name__" := by decide) (hdb : (nm == ("__debug__" : Str)) = false := by decide)
    (he : starEach (e :: es) X.env = (false, eval e X.env) :: starEach es X.env := by rfl) (hpl : (backTo pos (starEach es X.env)).any (·.1) = false := by rfl) : DE X C W (.Call (.Name nm p) (e :: es) [] pos) (dCB F r) := by
  obtain ⟨t, pt, q⟩ := ha
  exact ⟨_, pe_callB hc hg hm hv pt hn hdb he hpl, cb_q q hF⟩
theorem de_callTy (hc : CallR X (.type T) rr) (hF : OpN C rr F) (hg : Gl X nm) (hm : X.mg nm = none) (hv : bootBuiltins nm = some (.type T)) (ha : DA X C W (e :: es) r) (hn : nm ≠ "__name__" := by decide) (hdb : (nm == ("__debug__" : Str)) = false := by decide)
    (he : starEach (e :: es) X.env = (false, eval e X.env) :: starEach es X.env := by rfl) (hpl : (backTo pos (starEach es X.env)).any (·.1) = false := by rfl) : DE X C W (.Call (.Name nm p) (e :: es) [] pos) (dCB F r) := by
  obtain ⟨t, pt, q⟩ := ha
  exact ⟨_, pe_callTy hc hg hm hv pt hn hdb he hpl, cb_q q hF⟩
def bGcd : List D → Wp D
  | [.int a, .int b] => .pure (.int ((Nat.gcd a.natAbs b.natAbs : Nat) : Int))
  | _ => .stuck
def bLen : List D → Wp D
  | [.list ds] => .pure (.int ds.length)
  | [.tuple ds] => .pure (.int ds.length)
  | [.str z] => .need (z.length ≤ sizeLine) (.pure (.int z.length))
  | _ => .stuck
def bInt : List D → Wp D
  | [.int a] => .pure (.int a)
  | [.bool b] => .pure (.int (if b then 1 else 0))
  | [.str a] => match PySem.intText? a with
    | some n => .need (a.length ≤ 640) (.pure (.int n))
    | none => .stuck
  | _ => .stuck
def bAbs : List D → Wp D
  | [.int i] => .pure (.int (if i < 0 then -i else i))
  | _ => .stuck
def bMin2 : List D → Wp D
  | [.int i, .int j] => .pure (.int (if j < i then j else i))
  | _ => .stuck
def bMax2 : List D → Wp D
  | [.int i, .int j] => .pure (.int (if j > i then j else i))
  | _ => .stuck
def bTuple : List D → Wp D
  | [.list ds] => .pure (.tuple ds)
  | [.tuple ds] => .pure (.tuple ds)
  | _ => .stuck
def bList : List D → Wp D
  | [.list ds] => .pure (.list ds)
  | [.tuple ds] => .pure (.list ds)
  | _ => .stuck
theorem on_len : OpN C (fun xs H Q => ∃ x n, xs = [x] ∧ LenV C.K x H n ∧ Q (.int n) H) bLen := by
  intro vs H ds Q S0 H0 Pb σ δ w R h hw
  unfold bLen at hw
  split at hw
  · cases h with
    | cons a b =>
      cases b
      cases a with
      | lst s a => exact ⟨_, _, rfl, .inl ⟨_, Le.sqL hid_sub s, rfl⟩, by rw [dps_len a]; exact hw _ H (Grow.refl H) (.int _)⟩
  · cases h with
    | cons a b =>
      cases b
      cases a with
      | tup s a => exact ⟨_, _, rfl, .inr ⟨_, Le.sqT hid_sub s.sq, rfl⟩, by rw [dps_len a]; exact hw _ H (Grow.refl H) (.int _)⟩
  · cases h with
    | cons a b =>
      cases b
      cases a
      exact ⟨_, _, rfl, ⟨hw.1, rfl⟩, hw.2 _ H (Grow.refl H) (.int _)⟩
  · exact hw.elim
theorem on_int : OpN C (fun xs H Q => ((∃ i, xs = [.int i] ∧ Q (.int i) H) ∨ ∃ k, xs = [.bl k] ∧ Q (.int (if k then 1 else 0)) H) ∨ ∃ a n, xs = [.str a] ∧ PySem.intText? a = some n ∧ a.length ≤ 640 ∧ Q (.int n) H) bInt := by
  intro vs H ds Q S0 H0 Pb σ δ w R h hw
  unfold bInt at hw
  split at hw
  · cases h with
    | cons a b =>
      cases b
      cases a
      exact .inl (.inl ⟨_, rfl, hw _ H (Grow.refl H) (.int _)⟩)
  · cases h with
    | cons a b =>
      cases b
      cases a
      exact .inl (.inr ⟨_, rfl, hw _ H (Grow.refl H) (.int _)⟩)
  · cases h with
    | cons a b =>
      cases b
      cases a
      split at hw
      · rename_i n e
        exact .inr ⟨_, n, rfl, e, hw.1, hw.2 _ H (Grow.refl H) (.int _)⟩
      · exact hw.elim
  · exact hw.elim
theorem on_tuple : OpN C (fun xs H Q => ∃ p ys, xs = [.ref p] ∧ ((SqL C.K H p ys ∧ NewT H ys Q) ∨ (SqT C.K H p ys ∧ Q (.ref p) H))) bTuple := by
  intro vs H ds Q S0 H0 Pb σ δ w R h hw
  unfold bTuple at hw
  split at hw
  · cases h with
    | cons a b =>
      cases b
      cases a with
      | lst s a => exact ⟨_, _, rfl, .inl ⟨Le.sqL hid_sub s, new_tup R a hw⟩⟩
  · cases h with
    | cons a b =>
      cases b
      cases a with
      | tup s a => exact ⟨_, _, rfl, .inr ⟨Le.sqT hid_sub s.sq, hw _ H (Grow.refl H) (.tup s a)⟩⟩
  · exact hw.elim
theorem on_list : OpN C (fun xs H Q => ∃ p ys, xs = [.ref p] ∧ (SqL C.K H p ys ∨ SqT C.K H p ys) ∧ ∀ l, H l = none → Q (.ref l) (upd H l (.lst ys))) bList := by
  intro vs H ds Q S0 H0 Pb σ δ w R h hw
  unfold bList at hw
  split at hw
  · cases h with
    | cons a b =>
      cases b
      cases a with
      | lst s a => exact ⟨_, _, rfl, .inl (Le.sqL hid_sub s), new_lst R a hw⟩
  · cases h with
    | cons a b =>
      cases b
      cases a with
      | tup s a => exact ⟨_, _, rfl, .inr (Le.sqT hid_sub s.sq), new_lst R a hw⟩
  · exact hw.elim
def isTy (T : String) : D → Option Bool
  | .none => kitB "NoneType" T
  | .bool _ => kitB "bool" T
  | .int _ => kitB "int" T
  | .str _ => kitB "str" T
  | .list _ => kitB "list" T
  | .tuple _ => kitB "tuple" T
  | .dict [] => kitB "dict" T
  | .dict (_ :: _) => none
def dIsi (T : String) (f : DF) : DF := fun δ => (f δ).bind fun d => (optW (isTy T d)).bind fun b => .pure (.bool b)
theorem tyx_dp {H : Hp} {v : V} {d : D} (h : Dp C.K H v d) (hn : ∀ q ds, d ≠ .dict (q :: ds)) : ∃ t : String, TyX C.K H v (.type t) ∧ ∀ T, isTy T d = kitB t T := by
  cases h with
  | non => exact ⟨_, .base .non, fun _ => rfl⟩
  | bl b => exact ⟨_, .base (.bl b), fun _ => rfl⟩
  | int i => exact ⟨_, .base (.int i), fun _ => rfl⟩
  | str x => exact ⟨_, .base (.str x), fun _ => rfl⟩
  | lst s a =>
    refine ⟨"list", ?_, fun _ => rfl⟩
    rcases s with (z | ⟨o, z⟩) | ⟨o, its, n, e1, e2, _⟩
    · exact .base (.lst z)
    · exact .base (.frz z)
    · exact .kList e1 e2
  | tup s a =>
    refine ⟨"tuple", ?_, fun _ => rfl⟩
    rcases s with (z | ⟨o, z⟩) | ⟨o, its, n, e1, e2, _⟩
    · exact .base (.tup z)
    · exact .fTuple z
    · exact .kTuple e1 e2
  | @dct _ kvs ds s k a =>
    cases ds with
    | nil =>
      cases s with
      | e s => exact ⟨"dict", .base (.dK s), fun _ => rfl⟩
      | f n s =>
        cases kvs with
        | nil => exact absurd rfl n
        | cons => cases k
    | cons q ds => exact absurd rfl (hn q ds)
  | @dcX _ xs ds e s n g k t a =>
    cases ds with
    | nil =>
      cases xs with
      | nil => exact absurd rfl e
      | cons => cases k
    | cons q ds => exact absurd rfl (hn q ds)
theorem de_isi {T : String} {x2 : Str} {p2 : Pos} (hK : C.K = X.K) (hg : Gl X "isinstance") (hm : X.mg "isinstance" = none) (hg2 : Gl X x2) (hm2 : X.mg x2 = none) (hv2 : bootBuiltins x2 = some (.type T)) (ha : DE X C W e f) (hn2 : x2 ≠ "__name__" := by decide) (hd2 : (x2 == ("__debug__" : Str)) = false := by decide)
    (he : starEach [e, .Name x2 p2] X.env = (false, eval e X.env) :: starEach [.Name x2 p2] X.env := by rfl) (he2 : starEach [.Name x2 p2] X.env = (false, eval (.Name x2 p2) X.env) :: starEach [] X.env := by rfl) (hpl : (backTo pos (starEach [.Name x2 p2] X.env)).any (·.1) = false := by rfl) :
    DE X C W (.Call (.Name "isinstance" p) [e, .Name x2 p2] [] pos) (dIsi T f) := by
  obtain ⟨t, pt, q⟩ := ha
  refine ⟨_, pe_callB call_isi hg hm PyProof.Rows.boot_isinstance (pa_cons pt (pa_cons (pe_bltn hg2 hm2 hv2 (show RelV (.ty T) _ from rfl) hn2 hd2) pa_nil he2) he) (by decide) (by decide) he hpl, fun S0 H0 Pb σ H δ Q R h => q S0 H0 Pb σ H δ _ R ((f δ).mono (fun d h v G g dp => ?_) (fun _ z => z) h)⟩
  obtain ⟨b, h1, h2⟩ := optW_inv h
  obtain ⟨t', h3, h4⟩ := tyx_dp (C := C) (hid_dp dp) (fun q ds e => by rw [e] at h1; cases h1)
  refine ⟨v, .ty T, _, _, b, rfl, .ty T, ?_, kit_ty (a := t') ?_, h2 _ G g (.bl b)⟩
  · rw [← hK]; exact h3
  · rw [← h4 T]; exact h1
def isTys : List String → D → Option Bool
  | [], _ => some false
  | T :: Ts, d => match isTy T d with
    | some true => some true
    | some false => isTys Ts d
    | none => none
def dIsiT (Ts : List String) (f : DF) : DF := fun δ => (f δ).bind fun d => (optW (isTys Ts d)).bind fun b => .pure (.bool b)
end
def spD (C : Cs) (n : Nat) (F : List Ar → Wp D) : Sp := fun vs H Q E => ∃ (S : Addr → Prop) (as : List Ar), as.length = n ∧ (∀ b, S b → H b ≠ none) ∧ (∀ P ∈ C.T, GxR.TabG H P) ∧ Scr C S H ∧ ArsOk C.K (hid S H) vs as ∧
  (F as).run (fun d => ∀ v G, Grow H G → Dp C.K (hid S G) v d → Q v G) (fun x => ∀ cls dc G, Grow H G → ExAt (C.bx S H) x cls dc G → E cls dc G)
theorem spD_len {C : Cs} {n : Nat} {F : List Ar → Wp D} : ∀ vs H Q E, spD C n F vs H Q E → vs.length = n := fun vs H Q E ⟨S, as, h1, _, _, _, h2, _⟩ => h2.len.trans h1
section
variable {X : Cx} {C : Cs} {W : WX} {pos p : Pos} {e : Expr} {es : List Expr} {r : AF} {x : Str} {fa : Addr} {fd : FuncData} {ps : List Str} {k n : Nat} {F : List Ar → Wp D}
def dCall (n : Nat) (F : List Ar → Wp D) (r : AF) : DF := fun δ => (r δ).bind fun as => .need (as.length = n) (F as)
theorem exat_own {B : Bx} {σ : St} {δ : De} {H : Hp} {x : Exn} {cls : Value} {dc : Option Addr} {G : Hp} (h : ExAt ⟨B.c, Own B σ δ, H⟩ x cls dc G) : ExAt B x cls dc G := by
  refine ⟨h.1, ?_⟩
  have h2 := h.2
  revert h2
  cases x.fld with
  | none => exact id
  | some q =>
    rintro ⟨a, v, h3, h4, h5⟩
    exact ⟨a, v, h3, h4, Le.dp (hid_le (Le.refl G) fun b z => .inl z) _ v h5⟩
theorem de_call (hK : C.K = X.K) (tk : Takes X W) (G : FnOk X.prog X.w X.K X.mg X.base (L2.CX X.prog X.w) k fa fd ps (spD C n F)) (hr : Room k X.A) (hg : Gl X x) (hm : X.mg x = some (.ref fa)) (hk : PySem.W.keepIn X.K (.ref fa) = true) (hb : Binds X.K fd ps []) (ha : DA X C W (e :: es) r)
    (hdb : (x == ("__debug__" : Str)) = false := by decide) (he : starEach (e :: es) X.env = (false, eval e X.env) :: starEach es X.env := by rfl) (hpl : (backTo pos (starEach es X.env)).any (·.1) = false := by rfl) :
    DE X C W (.Call (.Name x p) (e :: es) [] pos) (dCall n F r) := by
  obtain ⟨t, pt, q⟩ := ha
  refine ⟨_, pe_callS G hr hg hm hk hb (fun σ => passAt tk σ) pt hdb he hpl, fun S0 H0 Pb σ H δ Q R h => q S0 H0 Pb σ H δ _ R ((r δ).mono (fun as h vs G g ok => ?_) (fun _ z => z) h)⟩
  refine ⟨Own (C.bx S0 H0) σ δ, as, h.1, fun b z => ?_, (R.gr g).tabs, (R.gr g).scrO, ok, (F as).mono (fun d h v G' g' dp => h v G' (g.trans g') dp) (fun y hy cls dc G' g' ex => hy cls dc G' (g.trans g') (exat_own ex)) h.2⟩
  rcases z with z | ⟨i, ds, e1, e2⟩
  · exact (R.gr g).grow.dm b (R.dom b z)
  · obtain ⟨a, xs, q1, q2, _⟩ := (R.gr g).own i ds e1
    rw [e2] at q1
    cases q1
    rw [q2]
    exact fun z => nomatch z
end
end Tr

namespace Tr
open PySem PySem.Spec L2
variable [ProtC]

inductive Out where
  | nx (δ : De)
  | rt (d : D)
  | bk (δ : De)
  | ct (δ : De)
def OutW (B : Bx) (Pb : Hp) (E : Ends) : Out → Prop
  | .nx δ => ∀ σ H, Rep B Pb σ H δ → E.nx σ H
  | .rt d => ∀ v G, Grow B.H G → Dp B.c.K (hid B.S G) v d → E.rt v G
  | .bk δ => ∀ σ H, Rep B Pb σ H δ → E.bk σ H
  | .ct δ => ∀ σ H, Rep B Pb σ H δ → E.ct σ H
def Xw (B : Bx) (W : WX) (x : Exn) : Prop := ∀ cls dc σ G, Grow B.H G → ExAt B x cls dc G → W cls dc σ G
theorem Xw.ew {B : Bx} {W : WX} {x : Exn} {Pb : Hp} {σ : St} {H : Hp} {δ : De} (h : Xw B W x) (R : Rep B Pb σ H δ) : Ew B W σ H x := fun c d G g e => h c d σ G (R.grow.trans g) e
abbrev SF := De → Wp Out
def DS (X : Cx) (C : Cs) (W : WX) (st : Stmt) (F : SF) : Prop :=
  ∃ t, PS X st t ∧ ∀ S0 H0 Pb σ H δ E, Rep (C.bx S0 H0) Pb σ H δ → (F δ).run (OutW (C.bx S0 H0) Pb E) (Xw (C.bx S0 H0) W) → t E σ H
def DSs (X : Cx) (C : Cs) (W : WX) (st : List Stmt) (F : SF) : Prop :=
  ∃ t, PSs X st t ∧ ∀ S0 H0 Pb σ H δ E, Rep (C.bx S0 H0) Pb σ H δ → (F δ).run (OutW (C.bx S0 H0) Pb E) (Xw (C.bx S0 H0) W) → t E σ H

theorem get_set_cases {A : Type} {l : List A} {i j : Nat} {x y : A} (h : (l.set i x)[j]? = some y) : (i = j ∧ y = x ∧ j < l.length) ∨ (i ≠ j ∧ l[j]? = some y) := by
  by_cases e : i = j
  · subst e
    have hl : i < l.length := by
      have := (List.getElem?_eq_some_iff.mp h).1
      rwa [List.length_set] at this
    rw [List.getElem?_set_self hl] at h
    exact .inl ⟨rfl, (Option.some.inj h).symm, hl⟩
  · rw [List.getElem?_set_ne e] at h
    exact .inr ⟨e, h⟩
theorem own_set {B : Bx} {σ : St} {δ : De} {i : Nat} {v : V} {d : D} {b : Addr} (hl : σ.length = δ.length) (h : Own B (σ.set i (some v)) (δ.set i (.p d)) b) : Own B σ δ b := by
  rcases h with z | ⟨j, ds, e1, e2⟩
  · exact .inl z
  · rcases get_set_cases e1 with ⟨_, h1, _⟩ | ⟨h1, h2⟩
    · cases h1
    · rcases get_set_cases e2 with ⟨h3, _⟩ | ⟨_, h4⟩
      · exact absurd h3 h1
      · exact .inr ⟨j, ds, h2, h4⟩
theorem Rep.setP {B : Bx} {Pb : Hp} {σ : St} {H : Hp} {δ : De} {i : Nat} {v : V} {d : D} (R : Rep B Pb σ H δ) (dp : Dp B.c.K (hid (Own B σ δ) H) v d) : Rep B Pb (σ.set i (some v)) H (δ.set i (.p d)) := by
  have sub : ∀ b, Own B (σ.set i (some v)) (δ.set i (.p d)) b → Own B σ δ b := fun b z => own_set R.len z
  have le : Le (hid (Own B σ δ) H) (hid (Own B (σ.set i (some v)) (δ.set i (.p d))) H) := hid_le (Le.refl H) sub
  refine ⟨R.ph.trans le, by rw [List.length_set, List.length_set]; exact R.len, R.grow, R.dom, R.tabs, fun j e h => ?_, fun j es h => ?_, fun j k es fs a h1 h2 h3 h4 => ?_, fun j x h => ?_, fun j b φ h => ?_, R.scr⟩
  · rcases get_set_cases h with ⟨rfl, h1, h2⟩ | ⟨h1, h2⟩
    · cases h1
      exact ⟨v, List.getElem?_set_self (by rw [R.len]; exact h2), Le.dp le _ v dp⟩
    · obtain ⟨u, q1, q2⟩ := R.pers j e h2
      exact ⟨u, by rw [List.getElem?_set_ne h1]; exact q1, Le.dp le _ u q2⟩
  · rcases get_set_cases h with ⟨_, h1, _⟩ | ⟨h1, h2⟩
    · cases h1
    · obtain ⟨a, xs, q1, q2, q3, q4⟩ := R.own j es h2
      exact ⟨a, xs, by rw [List.getElem?_set_ne h1]; exact q1, q2, q3, q4.le le⟩
  · rcases get_set_cases h1 with ⟨_, z, _⟩ | ⟨n1, g1⟩
    · cases z
    · rcases get_set_cases h2 with ⟨_, z, _⟩ | ⟨n2, g2⟩
      · cases z
      · rw [List.getElem?_set_ne n1] at h3
        rw [List.getElem?_set_ne n2] at h4
        exact R.uniq j k es fs a g1 g2 h3 h4
  · rcases get_set_cases h with ⟨_, z, _⟩ | ⟨n1, g1⟩
    · cases z
    · rw [List.getElem?_set_ne n1]
      exact R.val j x g1
  · rcases get_set_cases h with ⟨_, z, _⟩ | ⟨n1, g1⟩
    · cases z
    · rw [List.getElem?_set_ne n1]
      exact ⟨(R.trk j b φ g1).1, le b _ (R.trk j b φ g1).2 fun ps z => by cases z⟩
theorem dic_ne_code {a c : Addr} {xs : List (NestedKey × Addr × V)} {q : Str} (e : DicO a xs = LamX.CodeO c q) (h : a = c) : False := by
  subst h
  unfold DicO LamX.CodeO at e
  have e2 := HO.ext.inj e
  let h : Heap := { objs := Array.replicate (a + 1) { cls := .none, data := .fields #[.none, .str q 0] } }
  have hg : h.get? a = some { cls := .none, data := .fields #[.none, .str q 0] } := by
    have e : h.objs[a]? = some { cls := .none, data := .fields #[.none, .str q 0] } := by
      show (Array.replicate (a + 1) _)[a]? = _
      rw [Array.getElem?_replicate, if_pos (Nat.lt_succ_self _)]
    unfold Heap.get?
    rw [e]
  have h2 : ∃ (oc : Obj) (vs : Array Value) (t : Tok), h.get? a = some oc ∧ oc.data = .fields vs ∧ vs[1]? = some (.str q t) := ⟨{ cls := .none, data := .fields #[.none, .str q 0] }, #[.none, .str q 0], 0, hg, rfl, rfl⟩
  rw [← congrFun e2 h] at h2
  obtain ⟨_, o, es, ep, zs, h3, _, h5, _⟩ := h2
  rw [hg] at h3
  cases h3
  cases h5
theorem OwAt.nc {K : PySem.W.Frag} {H : Hp} {a : Addr} {u : HO} {c : Ow} (h : OwAt K H a u c) {q : Str} : u ≠ LamX.CodeO a q := by
  cases h with
  | l _ => exact fun z => by unfold LamX.CodeO at z; cases z
  | k _ _ => exact fun z => by unfold LamX.CodeO at z; cases z
  | x _ _ _ _ _ _ => exact fun z => dic_ne_code z rfl
theorem TabS.putO {K : PySem.W.Frag} {H0 H : Hp} {a P : Addr} {q : Str} {u v : HO} {c : Ow} (ha : H a = some u) (o : OwAt K H0 a u c) (t : LamX.TabS H P q) : LamX.TabS (upd H a v) P q := by
  obtain ⟨ps, e1, t1, t2⟩ := t
  have hP : P ≠ a := fun z => by
    rw [z, ha] at e1
    exact o.nt ps (Option.some.inj e1)
  refine ⟨ps, by rw [upd_ne hP]; exact e1, t1, fun pos cv hc => ?_⟩
  obtain ⟨c, e2, e3⟩ := t2 pos cv hc
  have hc : c ≠ a := fun z => by
    subst z
    rw [ha] at e3
    exact o.nc (Option.some.inj e3)
  exact ⟨c, e2, by rw [upd_ne hc]; exact e3⟩
theorem Rep.setOw {B : Bx} {Pb : Hp} {σ : St} {H G : Hp} {δ : De} {i : Nat} {a : Addr} {u : HO} {c : Ow} (R : Rep B Pb σ H δ) (g : Grow H G) (na : H a = none) (ha : G a = some u) (dp : OwAt B.c.K (hid (fun b => Own B σ δ b ∨ b = a) G) a u c) :
    Rep B Pb (σ.set i (some (.ref a))) G (δ.set i (.own c)) := by
  have R' := R.gr g
  have nB : B.H a = none := R.grow.free na
  have nO : ∀ j es, δ[j]? = some (Sl.own es) → σ[j]? ≠ some (some (V.ref a)) := fun j es e z => by
    obtain ⟨b, ys, q1, q2, _⟩ := R.own j es e
    rw [z] at q1
    cases q1
    rw [na] at q2
    cases q2
  have sub : ∀ b, Own B (σ.set i (some (.ref a))) (δ.set i (.own c)) b → Own B σ δ b ∨ b = a := fun b z => by
    rcases z with z | ⟨j, es, e1, e2⟩
    · exact .inl (.inl z)
    · rcases get_set_cases e1 with ⟨rfl, h1, h2⟩ | ⟨h1, h2⟩
      · rw [List.getElem?_set_self (by rw [R.len]; exact h2)] at e2
        cases e2
        exact .inr rfl
      · rw [List.getElem?_set_ne h1] at e2
        exact .inl (.inr ⟨j, es, h2, e2⟩)
  have leN : Le (hid (fun b => Own B σ δ b ∨ b = a) G) (hid (Own B (σ.set i (some (.ref a))) (δ.set i (.own c))) G) := hid_le (Le.refl G) sub
  have leH : Le (hid (Own B σ δ) H) (hid (fun b => Own B σ δ b ∨ b = a) G) := fun b u' e n => by
    obtain ⟨h1, h2⟩ := of_hid e
    rw [hid_in]
    · exact g.le b u' h2 n
    · rintro (z | z)
      · exact h1 z
      · rw [z, na] at h2
        cases h2
  have le := leH.trans leN
  refine ⟨R.ph.trans le, by rw [List.length_set, List.length_set]; exact R.len, R'.grow, R.dom, R'.tabs, fun j e h => ?_, fun j es h => ?_, fun j k es fs b h1 h2 h3 h4 => ?_, fun j x h => ?_, fun j b φ h => ?_, R.scr⟩
  · rcases get_set_cases h with ⟨_, h1, _⟩ | ⟨h1, h2⟩
    · cases h1
    · obtain ⟨x, q1, q2⟩ := R.pers j e h2
      exact ⟨x, by rw [List.getElem?_set_ne h1]; exact q1, Le.dp le _ x q2⟩
  · rcases get_set_cases h with ⟨rfl, h1, h2⟩ | ⟨h1, h2⟩
    · cases h1
      exact ⟨a, u, List.getElem?_set_self (by rw [R.len]; exact h2), ha, nB, dp.le leN⟩
    · obtain ⟨b, ys, q1, q2, q3, q4⟩ := R.own j es h2
      exact ⟨b, ys, by rw [List.getElem?_set_ne h1]; exact q1, g.le b _ q2 q4.nt, q3, q4.le le⟩
  · rcases get_set_cases h1 with ⟨e1, z1, l1⟩ | ⟨n1, g1⟩
    · rcases get_set_cases h2 with ⟨e2, z2, l2⟩ | ⟨n2, g2⟩
      · exact e1.symm.trans e2
      · subst e1
        rw [List.getElem?_set_self (by rw [R.len]; exact l1)] at h3
        cases h3
        rw [List.getElem?_set_ne n2] at h4
        exact absurd h4 (nO k _ g2)
    · rcases get_set_cases h2 with ⟨e2, z2, l2⟩ | ⟨n2, g2⟩
      · subst e2
        rw [List.getElem?_set_self (by rw [R.len]; exact l2)] at h4
        cases h4
        rw [List.getElem?_set_ne n1] at h3
        exact absurd h3 (nO j _ g1)
      · rw [List.getElem?_set_ne n1] at h3
        rw [List.getElem?_set_ne n2] at h4
        exact R.uniq j k es fs b g1 g2 h3 h4
  · rcases get_set_cases h with ⟨_, z, _⟩ | ⟨n1, g1⟩
    · cases z
    · rw [List.getElem?_set_ne n1]
      exact R.val j x g1
  · rcases get_set_cases h with ⟨_, z, _⟩ | ⟨n1, g1⟩
    · cases z
    · rw [List.getElem?_set_ne n1]
      exact ⟨(R.trk j b φ g1).1, le b _ (R.trk j b φ g1).2 fun ps z => by cases z⟩
theorem Rep.setO {B : Bx} {Pb : Hp} {σ : St} {H G : Hp} {δ : De} {i : Nat} {a : Addr} {xs : List V} {ds : List D} (R : Rep B Pb σ H δ) (g : Grow H G) (na : H a = none) (ha : G a = some (.lst xs)) (dp : DpAll B.c.K (hid (fun b => Own B σ δ b ∨ b = a) G) xs ds) :
    Rep B Pb (σ.set i (some (.ref a))) G (δ.set i (.o ds)) := R.setOw g na ha (.l dp)
theorem Rep.wrO {B : Bx} {Pb : Hp} {σ : St} {H : Hp} {δ : De} {i : Nat} {a : Addr} {u' : HO} {c e : Ow} (R : Rep B Pb σ H δ) (hd : δ[i]? = some (Sl.own c)) (hs : σ[i]? = some (some (.ref a))) (dp : OwAt B.c.K (hid (Own B σ δ) H) a u' e) :
    Rep B Pb σ (upd H a u') (δ.set i (.own e)) := by
  obtain ⟨a', u0, q1, q2, q3, q4⟩ := R.own i _ hd
  rw [hs] at q1
  cases q1
  have hi : i < δ.length := (List.getElem?_eq_some_iff.mp hd).1
  have oa : Own B σ δ a := .inr ⟨i, _, hd, hs⟩
  have own : ∀ b, Own B σ (δ.set i (.own e)) b ↔ Own B σ δ b := fun b => by
    constructor
    · rintro (z | ⟨j, fs, e1, e2⟩)
      · exact .inl z
      · rcases get_set_cases e1 with ⟨rfl, h1, h2⟩ | ⟨h1, h2⟩
        · exact .inr ⟨i, _, hd, e2⟩
        · exact .inr ⟨j, fs, h2, e2⟩
    · rintro (z | ⟨j, fs, e1, e2⟩)
      · exact .inl z
      · by_cases z : i = j
        · subst z
          exact .inr ⟨i, _, List.getElem?_set_self hi, e2⟩
        · exact .inr ⟨j, fs, by rw [List.getElem?_set_ne z]; exact e1, e2⟩
  have le : Le (hid (Own B σ δ) H) (hid (Own B σ (δ.set i (.own e))) (upd H a u')) := fun b u e n => by
    obtain ⟨h1, h2⟩ := of_hid e
    rw [hid_in fun z => h1 ((own b).mp z), upd_ne]
    · exact h2
    · intro z
      subst z
      exact h1 oa
  refine ⟨R.ph.trans le, by rw [List.length_set]; exact R.len, ⟨fun b u e n => ?_, fun P h => ?_, fun b h => ?_, fun P q hp t => TabS.putO q2 q4 (R.grow.pr P q hp t)⟩, R.dom, fun P h => ?_, fun j e h => ?_, fun j fs h => ?_, fun j k fs fs' b h1 h2 h3 h4 => ?_, fun j x h => ?_, fun j b φ h => ?_, R.scr⟩
  · rw [upd_ne (ne_of_none e q3)]
    exact R.grow.le b u e n
  · obtain ⟨ps, e, t⟩ := R.grow.tb P h
    refine ⟨ps, ?_, t⟩
    rw [upd_ne (ne_of e q2 fun z => (q4.nt _ z.symm).elim)]
    exact e
  · by_cases c : b = a
    · rw [c, upd_same]
      exact fun z => nomatch z
    · rw [upd_ne c]
      exact R.grow.dm b h
  · obtain ⟨ps, e, t⟩ := R.tabs P h
    refine ⟨ps, ?_, t⟩
    rw [upd_ne (ne_of e q2 fun z => (q4.nt _ z.symm).elim)]
    exact e
  · rcases get_set_cases h with ⟨_, h1, _⟩ | ⟨h1, h2⟩
    · cases h1
    · obtain ⟨u, g1, g2⟩ := R.pers j e h2
      exact ⟨u, g1, Le.dp le _ u g2⟩
  · rcases get_set_cases h with ⟨rfl, h1, h2⟩ | ⟨h1, h2⟩
    · cases h1
      exact ⟨a, u', hs, upd_same, q3, dp.le le⟩
    · obtain ⟨b, zs, g1, g2, g3, g4⟩ := R.own j fs h2
      refine ⟨b, zs, g1, ?_, g3, g4.le le⟩
      rw [upd_ne]
      · exact g2
      · intro z
        subst z
        exact h1 (R.uniq i j _ fs b hd h2 hs g1)
  · have ex : ∀ j fs, (δ.set i (.own e))[j]? = some (Sl.own fs) → ∃ fs0, δ[j]? = some (Sl.own fs0) := fun j fs e => by
      rcases get_set_cases e with ⟨rfl, _, _⟩ | ⟨_, h2⟩
      · exact ⟨_, hd⟩
      · exact ⟨fs, h2⟩
    obtain ⟨f1, g1⟩ := ex j fs h1
    obtain ⟨f2, g2⟩ := ex k fs' h2
    exact R.uniq j k f1 f2 b g1 g2 h3 h4
  · rcases get_set_cases h with ⟨_, z, _⟩ | ⟨n1, g1⟩
    · cases z
    · exact R.val j x g1
  · rcases get_set_cases h with ⟨_, z, _⟩ | ⟨n1, g1⟩
    · cases z
    · exact ⟨(R.trk j b φ g1).1, le b _ (R.trk j b φ g1).2 fun ps z => by cases z⟩
theorem Rep.wr {B : Bx} {Pb : Hp} {σ : St} {H : Hp} {δ : De} {i : Nat} {a : Addr} {xs ys : List V} {ds es : List D} (R : Rep B Pb σ H δ) (hd : δ[i]? = some (Sl.o ds)) (hs : σ[i]? = some (some (.ref a))) (ha : H a = some (.lst xs)) (dp : DpAll B.c.K (hid (Own B σ δ) H) ys es) :
    Rep B Pb σ (upd H a (.lst ys)) (δ.set i (.o es)) := R.wrO hd hs (.l dp)
theorem Rep.fzO {B : Bx} {Pb : Hp} {σ : St} {H : Hp} {δ : De} {i : Nat} {c : Ow} {d : D} (R : Rep B Pb σ H δ) (hd : δ[i]? = some (Sl.own c)) (dp : ∀ a u, σ[i]? = some (some (.ref a)) → H a = some u → OwAt B.c.K (hid (Own B σ (δ.set i (.p d))) H) a u c → hid (Own B σ (δ.set i (.p d))) H a = some u → Dp B.c.K (hid (Own B σ (δ.set i (.p d))) H) (.ref a) d) : Rep B Pb σ H (δ.set i (.p d)) := by
  obtain ⟨a, xs, q1, q2, q3, q4⟩ := R.own i _ hd
  have hi : i < δ.length := (List.getElem?_eq_some_iff.mp hd).1
  have hσ : σ.set i (some (.ref a)) = σ := by
    apply List.ext_getElem?
    intro j
    by_cases e : i = j
    · subst e
      rw [List.getElem?_set_self (by rw [R.len]; exact hi), q1]
    · rw [List.getElem?_set_ne e]
  have sub : ∀ b, Own B σ (δ.set i (.p d)) b → Own B σ δ b ∧ b ≠ a := fun b z => by
    rcases z with z | ⟨j, es, e1, e2⟩
    · refine ⟨.inl z, ?_⟩
      rintro rfl
      exact R.dom b z q3
    · rcases get_set_cases e1 with ⟨_, h1, _⟩ | ⟨h1, h2⟩
      · cases h1
      · refine ⟨.inr ⟨j, es, h2, e2⟩, ?_⟩
        rintro rfl
        exact h1 (R.uniq i j _ es b hd h2 q1 e2)
  have le : Le (hid (Own B σ δ) H) (hid (Own B σ (δ.set i (.p d))) H) := hid_le (Le.refl H) fun b z => (sub b z).1
  refine ⟨R.ph.trans le, by rw [List.length_set]; exact R.len, R.grow, R.dom, R.tabs, fun j e h => ?_, fun j es h => ?_, fun j k es fs b h1 h2 h3 h4 => ?_, fun j x h => ?_, fun j b φ h => ?_, R.scr⟩
  · rcases get_set_cases h with ⟨rfl, h1, _⟩ | ⟨h1, h2⟩
    · cases h1
      refine ⟨.ref a, q1, dp a _ q1 q2 (q4.le le) ?_⟩
      rw [hid_in fun z => (sub a z).2 rfl]
      exact q2
    · obtain ⟨u, g1, g2⟩ := R.pers j e h2
      exact ⟨u, g1, Le.dp le _ u g2⟩
  · rcases get_set_cases h with ⟨_, h1, _⟩ | ⟨h1, h2⟩
    · cases h1
    · obtain ⟨b, ys, g1, g2, g3, g4⟩ := R.own j es h2
      exact ⟨b, ys, g1, g2, g3, g4.le le⟩
  · rcases get_set_cases h1 with ⟨_, z, _⟩ | ⟨n1, g1⟩
    · cases z
    · rcases get_set_cases h2 with ⟨_, z, _⟩ | ⟨n2, g2⟩
      · cases z
      · exact R.uniq j k es fs b g1 g2 h3 h4
  · rcases get_set_cases h with ⟨_, z, _⟩ | ⟨n1, g1⟩
    · cases z
    · exact R.val j x g1
  · rcases get_set_cases h with ⟨_, z, _⟩ | ⟨n1, g1⟩
    · cases z
    · exact ⟨(R.trk j b φ g1).1, le b _ (R.trk j b φ g1).2 fun ps z => by cases z⟩

theorem Rep.fz {B : Bx} {Pb : Hp} {σ : St} {H : Hp} {δ : De} {i : Nat} {ds : List D} (R : Rep B Pb σ H δ) (hd : δ[i]? = some (Sl.o ds)) : Rep B Pb σ H (δ.set i (.p (.list ds))) := R.fzO hd fun a u _ _ o e => by
  obtain ⟨xs, rfl, h⟩ := o.lst
  exact .lst (SqL.of e) h
section
variable {X : Cx} {C : Cs} {W : WX} {pos : Pos} {e : Expr} {f : DF} {st : Stmt} {rest : List Stmt} {F G : SF}
theorem ds_never : DS X C W st fun _ => .stuck := ⟨_, ps_never, fun _ _ _ _ _ _ _ _ h => h⟩
def sNext : SF := fun δ => .pure (.nx δ)
theorem dss_nil : DSs X C W [] sNext := ⟨_, pss_nil, fun _ _ _ σ H _ _ R h => h σ H R⟩
def sSeq (F G : SF) : SF := fun δ => (F δ).bind fun o => match o with
  | .nx δ' => G δ'
  | o => .pure o
theorem dss_cons (h1 : DS X C W st F) (h2 : DSs X C W rest G) : DSs X C W (st :: rest) (sSeq F G) := by
  obtain ⟨t, p, q⟩ := h1
  obtain ⟨u, p2, q2⟩ := h2
  refine ⟨_, pss_cons p p2, fun S0 H0 Pb σ H δ E R h => q S0 H0 Pb σ H δ _ R ((F δ).mono (fun o h => ?_) (fun _ z => z) h)⟩
  cases o with
  | nx δ' => exact fun σ' H' R' => q2 S0 H0 Pb σ' H' δ' E R' h
  | rt d => exact h
  | bk δ' => exact h
  | ct δ' => exact h
theorem dss_one (h1 : DS X C W st F) : DSs X C W [st] F := by
  obtain ⟨t, p, q⟩ := h1
  exact ⟨_, pss_one p, q⟩
def fz (i : Nat) (δ : De) : De := match δ[i]? with
  | some (.own (.l ds)) => δ.set i (.p (.list ds))
  | _ => δ
theorem dss_fz (i : Nat) {sts : List Stmt} (h : DSs X C W sts F) : DSs X C W sts (fun δ => F (fz i δ)) := by
  obtain ⟨t, p, q⟩ := h
  refine ⟨t, p, fun S0 H0 Pb σ H δ E R h => q S0 H0 Pb σ H (fz i δ) E ?_ h⟩
  unfold fz
  split
  · rename_i ds e
    exact R.fz e
  · exact R
def sRet (f : DF) : SF := fun δ => (f δ).bind fun d => .pure (.rt d)
theorem ds_ret (he : DE X C W e f) : DS X C W (.Return (some e) pos) (sRet f) := by
  obtain ⟨t, p, q⟩ := he
  refine ⟨_, ps_ret p, fun S0 H0 Pb σ H δ E R h => q S0 H0 Pb σ H δ _ R ((f δ).mono (fun d h v G g dp => ?_) (fun _ z => z.ew R) h)⟩
  exact h v G (R.grow.trans g) (Le.dp (hid_le (Le.refl G) fun _ z => .inl z) d v dp)
def sDrop (f : DF) : SF := fun δ => (f δ).bind fun _ => .pure (.nx δ)
theorem ds_expr (he : DE X C W e f) (hs : swapsWith e none pos.line X.env = pure false := by rfl) : DS X C W (.Expr e pos) (sDrop f) := by
  obtain ⟨t, p, q⟩ := he
  refine ⟨_, ps_expr p hs, fun S0 H0 Pb σ H δ E R h => q S0 H0 Pb σ H δ _ R ((f δ).mono (fun d h v G g dp => h σ G (R.gr g)) (fun _ z => z.ew R) h)⟩
def sSet (i : Nat) (f : DF) : SF := fun δ => (f δ).bind fun d => .pure (.nx (δ.set i (.p d)))
theorem ds_set {i : Nat} {x : Str} {pos' : Pos} (hN : X.N.Nodup) (hi : X.N[i]? = some x) (hx : Loc X.env.scope x) (he : DE X C W e f) (hs : swapsWith e (some (.Name x pos')) pos.line X.env = pure false := by rfl) (hf : X.fn x = true ∨ X.env.scope.names.lookup x = some .local := by first | exact .inl rfl | exact .inr rfl | assumption) :
    DS X C W (.Assign [.Name x pos'] e pos) (sSet i f) := by
  obtain ⟨t, p, q⟩ := he
  refine ⟨_, ps_set hN hi hx p hs hf, fun S0 H0 Pb σ H δ E R h => q S0 H0 Pb σ H δ _ R ((f δ).mono (fun d h v G g dp => ?_) (fun _ z => z.ew R) h)⟩
  exact h _ G ((R.gr g).setP dp)
def sIf (c : TF) (F G : SF) : SF := fun δ => (c δ).bind fun b => if b then F δ else G δ
theorem ds_if {c : Expr} {a b : List Stmt} {t : TF} (hc : DT X C W c t) (ha : DSs X C W a F) (hb : DSs X C W b G) : DS X C W (.If c a b pos) (sIf t F G) := by
  obtain ⟨tc, pc, qc⟩ := hc
  obtain ⟨ta, pa, qa⟩ := ha
  obtain ⟨tb, pb, qb⟩ := hb
  refine ⟨_, ps_if pc pa pb, fun S0 H0 Pb σ H δ E R h => qc S0 H0 Pb σ H δ _ R ((t δ).mono (fun k h G' g => ?_) (fun _ z => z.ew R) h)⟩
  cases k with
  | true => exact qa S0 H0 Pb σ G' δ E (R.gr g) h
  | false => exact qb S0 H0 Pb σ G' δ E (R.gr g) h
theorem wipe_get {σ : St} {j : Nat} : ∀ {vs : List Nat}, (wipe σ vs)[j]? = if j ∈ vs then (σ[j]?).map (fun _ => none) else σ[j]?
  | [] => by simp [wipe]
  | v :: vs => by
    unfold wipe
    by_cases e : v = j
    · subst e
      rw [if_pos (List.mem_cons_self ..)]
      by_cases hl : v < σ.length
      · rw [List.getElem?_set_self (by rw [wipe_length]; exact hl), List.getElem?_eq_getElem hl]
        rfl
      · rw [List.getElem?_eq_none (by rw [List.length_set, wipe_length]; omega), List.getElem?_eq_none (by omega)]
        rfl
    · rw [List.getElem?_set_ne e, wipe_get (vs := vs)]
      have : (j ∈ v :: vs) ↔ j ∈ vs := by
        rw [List.mem_cons]
        exact ⟨fun z => z.resolve_left fun q => e q.symm, .inr⟩
      simp only [this]
theorem wipe_set {σ : St} {i : Nat} {x : Option V} {vs : List Nat} (h : i ∈ vs) : wipe (σ.set i x) vs = wipe σ vs := by
  apply List.ext_getElem?
  intro j
  rw [wipe_get, wipe_get]
  by_cases e : i = j
  · subst e
    rw [if_pos h, if_pos h]
    by_cases hl : i < σ.length
    · rw [List.getElem?_set_self hl, List.getElem?_eq_getElem hl]
      rfl
    · rw [List.getElem?_eq_none (by rw [List.length_set]; omega), List.getElem?_eq_none (by omega)]
  · rw [List.getElem?_set_ne e]
abbrev BF := D → De → Option De
def DG (X : Cx) (C : Cs) (tg : Expr) (ix : List Nat) (f : BF) : Prop :=
  ∃ g, PG X tg g ∧ ∀ S0 H0 Pb σ H δ x d δ' Q, Rep (C.bx S0 H0) Pb σ H δ → Dp C.K (hid (Own (C.bx S0 H0) σ δ) H) x d → f d δ = some δ' →
    (∀ σ', Rep (C.bx S0 H0) Pb σ' H δ' → (∀ b, Own (C.bx S0 H0) σ' δ' b → Own (C.bx S0 H0) σ δ b) → (∀ vs, (∀ i ∈ ix, i ∈ vs) → wipe σ' vs = wipe σ vs) → Q σ' H) → g x σ H Q
def DGs (X : Cx) (C : Cs) (tgs : List Expr) (ix : List Nat) (f : List D → De → Option De) : Prop :=
  ∃ g, PGs X tgs g ∧ ∀ S0 H0 Pb σ H δ xs ds δ' Q, Rep (C.bx S0 H0) Pb σ H δ → DpAll C.K (hid (Own (C.bx S0 H0) σ δ) H) xs ds → f ds δ = some δ' →
    (∀ σ', Rep (C.bx S0 H0) Pb σ' H δ' → (∀ b, Own (C.bx S0 H0) σ' δ' b → Own (C.bx S0 H0) σ δ b) → (∀ vs, (∀ i ∈ ix, i ∈ vs) → wipe σ' vs = wipe σ vs) → Q σ' H) → g xs σ H Q
def bName (i : Nat) : BF := fun d δ => some (δ.set i (.p d))
theorem dg_name {i : Nat} {x : Str} (hN : X.N.Nodup) (hi : X.N[i]? = some x) (hx : Loc X.env.scope x) (hf : X.fn x = true ∨ X.env.scope.names.lookup x = some .local := by first | exact .inl rfl | exact .inr rfl | assumption) : DG X C (.Name x pos) [i] (bName i) := by
  refine ⟨_, pg_name hN hi hx hf, fun S0 H0 Pb σ H δ x d δ' Q R dp h k => ?_⟩
  cases h
  exact k _ (R.setP dp) (fun b z => own_set R.len z) fun vs h => wipe_set (h i (List.mem_singleton.mpr rfl))
def bNil : List D → De → Option De
  | [], δ => some δ
  | _, _ => none
def bCons (f : BF) (r : List D → De → Option De) : List D → De → Option De
  | d :: ds, δ => (f d δ).bind (r ds)
  | [], _ => none
def bTup (n : Nat) (r : List D → De → Option De) : BF
  | .tuple ds, δ => if ds.length = n then r ds δ else none
  | _, _ => none
theorem dgs_nil : DGs X C [] [] bNil := by
  refine ⟨_, pgs_nil, fun S0 H0 Pb σ H δ xs ds δ' Q R dp h k => ?_⟩
  cases dp with
  | nil =>
    cases h
    exact ⟨rfl, k σ R (fun _ z => z) fun _ _ => rfl⟩
  | cons a b => cases h
theorem dgs_cons {es : List Expr} {ix iy : List Nat} {f : BF} {r : List D → De → Option De} (h1 : DG X C e ix f) (h2 : DGs X C es iy r) (hs : (assignEach (e :: es) X.env).map (·.2) = assign e X.env :: (assignEach es X.env).map (·.2) := by rfl) : DGs X C (e :: es) (ix ++ iy) (bCons f r) := by
  obtain ⟨g, p, q⟩ := h1
  obtain ⟨g2, p2, q2⟩ := h2
  refine ⟨_, pgs_cons p p2 hs, fun S0 H0 Pb σ H δ xs ds δ' Q R dp h k => ?_⟩
  cases dp with
  | nil => cases h
  | cons a b =>
    rename_i v vs d ds
    obtain ⟨δ1, h3, h4⟩ := Option.bind_eq_some_iff.mp h
    refine ⟨v, vs, rfl, q S0 H0 Pb σ H δ v d δ1 _ R a h3 fun σ1 R1 o1 w1 => ?_⟩
    exact q2 S0 H0 Pb σ1 H δ1 vs ds δ' Q R1 (Le.dps (hid_le (Le.refl H) o1) ds vs b) h4 fun σ2 R2 o2 w2 => k σ2 R2 (fun b z => o1 b (o2 b z)) fun vs h => (w2 vs fun i hi => h i (List.mem_append_right _ hi)).trans (w1 vs fun i hi => h i (List.mem_append_left _ hi))
theorem dg_tup {es : List Expr} {ix : List Nat} {kk n : Nat} {r : List D → De → Option De} (hK : C.K = X.K) (hc : X.calm = true) (h : DGs X C es ix r) (hn : (assignEach es X.env).length = n := by rfl) (hst : (assignEach es X.env).findIdx? (·.1) = none := by rfl) : DG X C (.Tuple es kk pos) ix (bTup n r) := by
  obtain ⟨g, p, q⟩ := h
  refine ⟨_, pg_tup hc p hn hst, fun S0 H0 Pb σ H δ x d δ' Q R dp h k => ?_⟩
  unfold bTup at h
  split at h
  · cases dp with
    | tup s a =>
      split at h
      · rename_i hl
        exact ⟨_, _, rfl, by rw [← hK]; exact Le.sqT hid_sub s.sq, by rw [dps_len a]; exact hl, q S0 H0 Pb σ H δ _ _ δ' Q R a h k⟩
      · cases h
  · cases h
def sAsg (f : DF) (g : BF) : SF := fun δ => (f δ).bind fun d => (optW (g d δ)).bind fun δ' => .pure (.nx δ')
theorem ds_asg {tg : Expr} {ix : List Nat} {g : BF} (he : DE X C W e f) (hg : DG X C tg ix g) (hs : swapsWithSole [tg] e pos.line X.env = pure false := by rfl) (hw : swappedStores [tg] e X.env = pure none := by rfl)
    (h1 : (assignEach [tg] X.env).map (·.2) = [assign tg X.env] := by rfl) : DS X C W (.Assign [tg] e pos) (sAsg f g) := by
  obtain ⟨t, p, q⟩ := he
  obtain ⟨u, p2, q2⟩ := hg
  refine ⟨_, ps_asg p p2 hs hw h1, fun S0 H0 Pb σ H δ E R h => q S0 H0 Pb σ H δ _ R ((f δ).mono (fun d h v G g' dp => ?_) (fun _ z => z.ew R) h)⟩
  obtain ⟨δ', h2, h3⟩ := optW_inv h
  exact q2 S0 H0 Pb σ G δ v d δ' _ (R.gr g') dp h2 fun σ' R' _ _ => h3 σ' G R'
def sPar (i j : Nat) (r : AF) : SF := fun δ => (r δ).bind fun as => match as with
  | [.d x, .d y] => .pure (.nx ((δ.set i (.p x)).set j (.p y)))
  | _ => .stuck
theorem ds_par {i j : Nat} {x y : Str} {a b : Expr} {r : AF} {px py pt : Pos} {kt k2 pt2} (hc : X.calm = true) (hN : X.N.Nodup) (hi : X.N[i]? = some x) (hj : X.N[j]? = some y) (hij : i ≠ j)
    (hx : X.env.scope.names.lookup x = some .local) (hy : X.env.scope.names.lookup y = some .local) (ha : DA X C W [a, b] r) (hw : swappedStores [.Tuple [.Name x px, .Name y py] kt pt] (.Tuple [a, b] k2 pt2) X.env = pure (some [x, y]))
    (hs : swapsWithSole [.Tuple [.Name x px, .Name y py] kt pt] (.Tuple [a, b] k2 pt2) pos.line X.env = pure false := by rfl) : DS X C W (.Assign [.Tuple [.Name x px, .Name y py] kt pt] (.Tuple [a, b] k2 pt2) pos) (sPar i j r) := by
  obtain ⟨t, p, q⟩ := ha
  refine ⟨_, ps_par hc hN hi hj hij hx hy p hw hs, fun S0 H0 Pb σ H δ E R h => q S0 H0 Pb σ H δ _ R ((r δ).mono (fun as h vs G g ok => ?_) (fun _ z => z.ew R) h)⟩
  dsimp only at h
  split at h
  · match vs, ok with
    | [v, u], ⟨d1, d2, _⟩ =>
      refine ⟨v, u, rfl, h _ G ?_⟩
      have R1 := (R.gr g).setP (i := i) d1
      exact R1.setP (Le.dp (hid_le (Le.refl G) fun b z => own_set (R.gr g).len z) _ _ d2)
    | [], ok => exact ok.elim
    | [_], ok => exact ok.2.elim
    | _ :: _ :: _ :: _, ok => exact ok.2.2.elim
  · exact h.elim
def sWhile (c : TF) (b : SF) : SF := fun δ => ⟨fun k w => ∃ I : Nat → De → Prop, (∃ m, I m δ) ∧ ∀ m δ, I m δ → (c δ).run (fun t => if t = true then (b δ).run (fun o => match o with
    | .nx δ' => ∃ m', m' < m ∧ I m' δ'
    | .ct δ' => ∃ m', m' < m ∧ I m' δ'
    | .bk δ' => k (.nx δ')
    | .rt d => k (.rt d)) w else k (.nx δ)) w, fun {k k' w w'} hk hw ⟨I, h0, h⟩ => ⟨I, h0, fun m δ hi => (c δ).mono (fun t ht => by
      cases t with
      | false => exact hk _ ht
      | true => exact (b δ).mono (fun o ho => by cases o <;> first | exact ho | exact hk _ ho) hw ht) hw (h m δ hi)⟩⟩
theorem ds_while {c : Expr} {body : List Stmt} {t : TF} (hp : PassesOwn (model X.prog X.w) X.A X.env X.xe) (hc : DT X C W c t) (hb : DSs X C W body F) : DS X C W (.While c body [] pos) (sWhile t F) := by
  obtain ⟨tc, pc, qc⟩ := hc
  obtain ⟨tb, pb, qb⟩ := hb
  refine ⟨_, ps_while hp pc pb, fun S0 H0 Pb σ H δ E R h => ?_⟩
  obtain ⟨I, ⟨m0, i0⟩, h⟩ := h
  refine ⟨fun m σ H => ∃ δ, Rep (C.bx S0 H0) Pb σ H δ ∧ I m δ, ⟨m0, δ, R, i0⟩, fun m σ H ⟨δ, R, i⟩ => ?_⟩
  refine qc S0 H0 Pb σ H δ _ R ((t δ).mono (fun k hk G g => ?_) (fun _ z => z.ew R) (h m δ i))
  cases k with
  | false => exact hk σ G (R.gr g)
  | true =>
    refine ⟨fun σ' H' => ∃ m', m' < m ∧ ∃ δ', Rep (C.bx S0 H0) Pb σ' H' δ' ∧ I m' δ', fun σ' H' q => q, ?_⟩
    refine qb S0 H0 Pb σ G δ _ (R.gr g) ((F δ).mono (fun o ho => ?_) (fun _ z => z) hk)
    cases o with
    | nx δ' => exact fun σ' H' R' => let ⟨m', h1, h2⟩ := ho; ⟨m', h1, δ', R', h2⟩
    | ct δ' => exact fun σ' H' R' => let ⟨m', h1, h2⟩ := ho; ⟨m', h1, δ', R', h2⟩
    | bk δ' => exact ho
    | rt d => exact ho
end
end Tr

namespace Tr
open PySem PySem.Spec L2
variable [ProtC]

theorem Rep.base {B : Bx} {Pb Ph : Hp} {σ : St} {H : Hp} {δ : De} (R : Rep B Ph σ H δ) (l : Le Pb Ph) : Rep B Pb σ H δ :=
  ⟨l.trans R.ph, R.len, R.grow, R.dom, R.tabs, R.pers, R.own, R.uniq, R.val, R.trk, R.scr⟩
theorem Rep.top {B : Bx} {Pb : Hp} {σ : St} {H : Hp} {δ : De} (R : Rep B Pb σ H δ) : Rep B (hid (Own B σ δ) H) σ H δ :=
  ⟨Le.refl _, R.len, R.grow, R.dom, R.tabs, R.pers, R.own, R.uniq, R.val, R.trk, R.scr⟩
theorem Rep.odom {B : Bx} {Pb : Hp} {σ : St} {H : Hp} {δ : De} (R : Rep B Pb σ H δ) : ∀ b, Own B σ δ b → H b ≠ none := fun b z => by
  rcases z with z | ⟨i, ds, e1, e2⟩
  · exact R.grow.dm b (R.dom b z)
  · obtain ⟨a, xs, q1, q2, _⟩ := R.own i ds e1
    rw [e2] at q1
    cases q1
    rw [q2]
    exact fun z => nomatch z

def Items (K : PySem.W.Frag) (Ph Bh : Hp) (ds : List D) (J : It) : Prop := ∃ Gp Y, Walk J ds.length Gp Y ∧ (∀ H1, Le Ph H1 → Le Bh H1 → Gp H1) ∧
  ∀ i H1 x H2 (S : Addr → Prop), i < ds.length → Le Ph (hid S H1) → Le Bh H1 → (∀ b, S b → H1 b ≠ none) → Y i H1 x H2 → Grow H1 H2 ∧ ∃ d, ds[i]? = some d ∧ Dp K (hid S H2) x d
def DI (X : Cx) (C : Cs) (W : WX) (tg iter : Expr) (f : De → Wp (List D)) : Prop :=
  ∃ wi, PI X tg iter wi ∧ ∀ S0 H0 Pb σ H δ Q, Rep (C.bx S0 H0) Pb σ H δ → (f δ).run (fun ds => ∀ J G, Grow H G → Items C.K (hid (Own (C.bx S0 H0) σ δ) G) (obh C H0) ds J → Q J G) (Ew (C.bx S0 H0) W σ H) → wi σ H Q
theorem items_at {K : PySem.W.Frag} {Ph Bh : Hp} {xs : List V} {ds : List D} {J : It} {Gp : Hp → Prop} (w : Walk J xs.length Gp (YAt xs)) (hG : ∀ H1, Le Ph H1 → Le Bh H1 → Gp H1) (dp : DpAll K Ph xs ds) : Items K Ph Bh ds J := by
  refine ⟨Gp, YAt xs, by rw [← dps_len dp]; exact w, hG, fun i H1 x H2 S hi l _ _ y => ?_⟩
  obtain ⟨rfl, e⟩ := y
  obtain ⟨d, hd⟩ : ∃ d, ds[i]? = some d := ⟨ds[i], List.getElem?_eq_getElem hi⟩
  obtain ⟨v, h1, h2⟩ := dps_get dp hd
  rw [e] at h1
  cases h1
  exact ⟨Grow.refl _, d, hd, Le.dp l d x h2⟩
def seqD : D → Wp (List D)
  | .list ds => .pure ds
  | .tuple ds => .pure ds
  | _ => .stuck
section
variable {X : Cx} {C : Cs} {W : WX} {pos p : Pos} {e tg : Expr} {f : DF}
def wSeq (K : PySem.W.Frag) (tl : TE) : TI := fun σ H R => tl σ H fun x H1 => ∃ a, x = .ref a ∧ ((∃ xs, SqL K H1 a xs ∧ R (Itl K a) H1) ∨ ∃ xs, SqT K H1 a xs ∧ R (Itt K a) H1)
theorem pi_seq {tl : TE} (hl : PE X e tl) : PI X tg e (wSeq X.K tl) := by
  constructor
  intro pins s σ H R I h
  refine thn (hl.run pins s σ H _ I h) ?_
  rintro v s1 ⟨x, H1, I1, r1, a, rfl, q⟩
  cases r1
  have one : ∀ b, b ∈ [s1.heap.objs.size] → FpOk X pins H1 b := fun b hb => by
    cases List.mem_singleton.mp hb
    exact I1.fpOk (Nat.le_refl _) (I1.hok.fresh (Nat.le_refl _))
  rcases q with ⟨xs, hq, q⟩ | ⟨xs, hq, q⟩
  · obtain ⟨its, rv, pl, hz⟩ := I1.list hq
    apply wpAny_pyIter_list pl.isList
    exact ⟨s1.heap.objs.size, [s1.heap.objs.size], _, _, H1, rfl, I1.kept (t' := s1.toks) (fun _ _ z => Heap.get?_push_of_some _ z), turn_list a _, ⟨_, Heap.get?_push_size _ rfl, rfl, rfl⟩, one, q⟩
  · obtain ⟨its, rv, pl, hz⟩ := I1.tuple hq
    apply wpAny_pyIter_tuple (show s1.heap.IsTuple a its.toArray from pl)
    exact ⟨s1.heap.objs.size, [s1.heap.objs.size], _, _, H1, rfl, I1.kept (t' := s1.toks) (fun _ _ z => Heap.get?_push_of_some _ z), turn_tuple a _, ⟨_, Heap.get?_push_size _ rfl, rfl, rfl⟩, one, q⟩
def iSeqD (f : DF) : De → Wp (List D) := fun δ => (f δ).bind seqD
theorem di_seq (hK : C.K = X.K) (he : DE X C W e f) : DI X C W tg e (iSeqD f) := by
  obtain ⟨t, pt, q⟩ := he
  refine ⟨_, pi_seq pt, fun S0 H0 Pb σ H δ Q R h => q S0 H0 Pb σ H δ _ R ((f δ).mono (fun d h v G g dp => ?_) (fun _ z => z) h)⟩
  rw [← hK]
  cases dp with
  | lst s a => exact ⟨_, rfl, .inl ⟨_, Le.sqL hid_sub s, h _ G g (items_at walk_list (fun H1 l _ => l.sqL s) a)⟩⟩
  | tup s a => exact ⟨_, rfl, .inr ⟨_, Le.sqT hid_sub s.sq, h _ G g (items_at walk_tup (fun H1 l _ => l.sqT s.sq) a)⟩⟩
  | _ => exact h.elim
def rgD (lo : Int) (n : Nat) : List D := (List.range n).map fun (i : Nat) => .int (lo + (i : Int))
theorem items_range {K : PySem.W.Frag} {Ph Bh : Hp} {lo : Int} {n : Nat} : Items K Ph Bh (rgD lo n) (Itr lo n) := by
  have hl : (rgD lo n).length = n := by simp [rgD]
  refine ⟨_, _, by rw [hl]; exact walk_range, fun _ _ _ => trivial, fun i H1 x H2 S hi _ _ _ y => ?_⟩
  obtain ⟨rfl, rfl⟩ := y
  rw [hl] at hi
  exact ⟨Grow.refl _, .int (lo + i), by simp [rgD, hi], .int _⟩
def asI1 : D → Wp Int
  | .int i => .pure i
  | _ => .stuck
def lo62 (j : Int) : Prop := -(2 ^ 62) ≤ j ∧ j < 2 ^ 62
def iRgD1 (f : DF) : De → Wp (List D) := fun δ => (f δ).bind fun d => (asI1 d).bind fun j => .need (lo62 j) (.pure (rgD 0 j.toNat))
def iRgD2 (f g : DF) : De → Wp (List D) := fun δ => (f δ).bind fun d => (g δ).bind fun e => (asI1 d).bind fun i => (asI1 e).bind fun j => .need (lo62 i ∧ lo62 j) (.pure (rgD i (j - i).toNat))
theorem asI1_dp {K : PySem.W.Frag} {H : Hp} {v : V} {d : D} {k : Int → Prop} {w : Exn → Prop} (dp : Dp K H v d) (h : (asI1 d).run k w) : ∃ i, v = .int i ∧ k i := by
  unfold asI1 at h
  split at h
  · cases dp
    exact ⟨_, rfl, h⟩
  · exact h.elim
theorem di_range1 (hg : Gl X "range") (hm : X.mg "range" = none) (he : DE X C W e f) (hs : starEach [e] X.env = [(false, eval e X.env)] := by rfl) : DI X C W tg (.Call (.Name "range" p) [e] [] pos) (iRgD1 f) := by
  obtain ⟨t, pt, q⟩ := he
  refine ⟨_, pi_range1 hg hm (pa_cons pt pa_nil hs) hs, fun S0 H0 Pb σ H δ Q R h => q S0 H0 Pb σ H δ _ R ((f δ).mono (fun d h v G g dp => ?_) (fun _ z => z) h)⟩
  obtain ⟨j, rfl, hj, hk⟩ := asI1_dp dp h
  exact ⟨j, rfl, hj.1, hj.2, hk _ G g items_range⟩
theorem di_range2 {e2 : Expr} {f2 : DF} (hg : Gl X "range") (hm : X.mg "range" = none) (he : DE X C W e f) (he2 : DE X C W e2 f2) (hs : starEach [e, e2] X.env = [(false, eval e X.env), (false, eval e2 X.env)] := by rfl) (hs2 : starEach [e2] X.env = [(false, eval e2 X.env)] := by rfl) :
    DI X C W tg (.Call (.Name "range" p) [e, e2] [] pos) (iRgD2 f f2) := by
  obtain ⟨t, pt, q⟩ := he
  obtain ⟨u, pu, q2⟩ := he2
  refine ⟨_, pi_range2 hg hm (pa_cons pt (pa_cons pu pa_nil hs2) (by rw [hs, hs2])) hs hs2, fun S0 H0 Pb σ H δ Q R h => q S0 H0 Pb σ H δ _ R ((f δ).mono (fun d h v G g dp => ?_) (fun _ z => z) h)⟩
  refine q2 S0 H0 Pb σ G δ _ (R.gr g) ((f2 δ).mono (fun d2 h v2 G2 g2 dp2 => ?_) (fun _ z => z.gr g) h)
  obtain ⟨i, rfl, h⟩ := asI1_dp dp h
  obtain ⟨j, rfl, hj, hk⟩ := asI1_dp dp2 h
  exact ⟨i, j, rfl, ⟨hj.1.1, hj.1.2, hj.2.1, hj.2.2⟩, hk _ G2 (g.trans g2) items_range⟩

def sLoop (g : BF) (F : SF) : List D → De → Wp Out
  | [], δ => .pure (.nx δ)
  | d :: ds, δ => (optW (g d δ)).bind fun δ1 => (F δ1).bind fun o => match o with
    | .nx δ' => sLoop g F ds δ'
    | .ct δ' => sLoop g F ds δ'
    | .bk δ' => .pure (.nx δ')
    | .rt d => .pure (.rt d)
def sFor (f : De → Wp (List D)) (g : BF) (F : SF) : SF := fun δ => (f δ).bind fun ds => sLoop g F ds δ
theorem OutW.base {B : Bx} {Pb Ph : Hp} {E : Ends} {o : Out} (l : Le Pb Ph) (h : OutW B Pb E o) : OutW B Ph E o := by
  cases o with
  | nx δ => exact fun σ H R => h σ H (R.base l)
  | rt d => exact h
  | bk δ => exact fun σ H R => h σ H (R.base l)
  | ct δ => exact fun σ H R => h σ H (R.base l)
theorem ds_for {fi : De → Wp (List D)} {g : BF} {ix : List Nat} {F : SF} {body : List Stmt} (hp : PassesOwn (model X.prog X.w) X.A X.env X.xe) (hc : X.calm = true) (hi : DI X C W tg e fi) (hg : DG X C tg ix g) (hb : DSs X C W body F) (hs : ∀ x, foldedSetIterable e X.env x = pure x := by intro _; rfl) : DS X C W (.For tg e body [] pos) (sFor fi g F) := by
  obtain ⟨wi, pw, qw⟩ := hi
  obtain ⟨tg', pg, qg⟩ := hg
  obtain ⟨tb, pb, qb⟩ := hb
  refine ⟨_, ps_for hp hc pw pg pb hs, fun S0 H0 Pb σ H δ E R h => qw S0 H0 Pb σ H δ _ R ((fi δ).mono (fun ds h J G gr it => ?_) (fun _ z => z.ew R) h)⟩
  obtain ⟨Gp, Y, w, hG, hY⟩ := it
  have R1 := (R.gr gr).top
  have lb : Le Pb (hid (Own (C.bx S0 H0) σ δ) G) := (R.gr gr).ph
  revert R1 hY hG lb
  generalize hid (Own (C.bx S0 H0) σ δ) G = Ph
  intro hG hY R1 lb
  refine for_it w (fun i σ H => ∃ δ, Rep (C.bx S0 H0) Ph σ H δ ∧ (sLoop g F (ds.drop i) δ).run (OutW (C.bx S0 H0) Pb E) (Xw (C.bx S0 H0) W)) ⟨δ, R1, h⟩ (fun i σ H _ ⟨δ, R, _⟩ => hG H (R.ph.trans hid_sub) (obh_le.trans R.grow.le)) (fun i x σ H H2 hi ⟨δ, R, hl⟩ y => ?_) (fun σ H ⟨δ, R, hl⟩ => ?_)
  · obtain ⟨gw, d, hd, dp⟩ := hY i H x H2 _ hi R.ph (obh_le.trans R.grow.le) R.odom y
    have ed : ds.drop i = d :: ds.drop (i + 1) := by
      rw [List.drop_eq_getElem_cons hi]
      rw [List.getElem?_eq_getElem hi] at hd
      rw [Option.some.inj hd]
    rw [ed] at hl
    obtain ⟨δ1, h1, h2⟩ := optW_inv hl
    refine qg S0 H0 Ph σ H2 δ x d δ1 _ (R.gr gw) dp h1 fun σ1 R1 _ _ => ?_
    refine qb S0 H0 Ph σ1 H2 δ1 _ R1 ((F δ1).mono (fun o ho => ?_) (fun _ z => z) h2)
    cases o with
    | nx δ' => exact fun σ' H' R' => ⟨δ', R', ho⟩
    | ct δ' => exact fun σ' H' R' => ⟨δ', R', ho⟩
    | bk δ' => exact OutW.base (o := .nx δ') lb ho
    | rt d => exact ho
  · rw [List.drop_length] at hl
    exact hl σ H (R.base lb)
def DN (X : Cx) (C : Cs) (W : WX) (e : Expr) (f : De → Wp (List D)) : Prop :=
  ∃ t, PE X e t ∧ ∀ S0 H0 Pb σ H δ Q, Rep (C.bx S0 H0) Pb σ H δ → (f δ).run (fun ds => ∀ a xs G, Grow H G → H a = none → G a = some (.lst xs) → DpAll C.K (hid (fun b => Own (C.bx S0 H0) σ δ b ∨ b = a) G) xs ds → Q (.ref a) G) (Ew (C.bx S0 H0) W σ H) → t σ H Q
def dNl (f : De → Wp (List D)) : DF := fun δ => (f δ).bind fun ds => .pure (.list ds)
theorem de_dn {fl : De → Wp (List D)} (h : DN X C W e fl) : DE X C W e (dNl fl) := by
  obtain ⟨t, p, q⟩ := h
  refine ⟨t, p, fun S0 H0 Pb σ H δ Q R h => q S0 H0 Pb σ H δ Q R ((fl δ).mono (fun ds h a xs G g na ha dp => ?_) (fun _ z => z) h)⟩
  refine h (.ref a) G g (.lst (SqL.of ?_) (Le.dps (hid_le (Le.refl G) fun b z => .inl z) ds xs dp))
  rw [hid_in]
  · exact ha
  · exact fun z => R.odom a z na
def nLst (r : AF) : De → Wp (List D) := fun δ => (r δ).bind fun as => (allD as).bind fun ds => .need (ds.length ≤ sizeLine) (.pure ds)
theorem dn_lst {es : List Expr} {r : AF} (h : DA X C W es r) : DN X C W (.List es pos) (nLst r) := by
  obtain ⟨t, p, q⟩ := h
  refine ⟨_, pe_lst p, fun S0 H0 Pb σ H δ Q R h => q S0 H0 Pb σ H δ _ R ((r δ).mono (fun as h vs G g ok => ?_) (fun _ z => z) h)⟩
  obtain ⟨ds, h1, h2, h3⟩ := allD_ok ok h
  refine ⟨by rw [dps_len h1]; exact h2, fun a na => h3 a vs _ (g.trans (Grow.new na)) (g.free na) upd_same (Le.dps (fun b u e n => ?_) ds vs h1)⟩
  obtain ⟨h4, h5⟩ := of_hid e
  have nb : b ≠ a := ne_of_none h5 na
  rw [hid_in, upd_ne nb]
  · exact h5
  · exact fun z => z.elim h4 nb
def sSetO (i : Nat) (f : De → Wp (List D)) : SF := fun δ => (f δ).bind fun ds => .pure (.nx (δ.set i (.o ds)))
theorem ds_setO {i : Nat} {x : Str} {pos' : Pos} {fl : De → Wp (List D)} (hN : X.N.Nodup) (hi : X.N[i]? = some x) (hx : Loc X.env.scope x) (he : DN X C W e fl) (hs : swapsWith e (some (.Name x pos')) pos.line X.env = pure false := by rfl) (hf : X.fn x = true ∨ X.env.scope.names.lookup x = some .local := by first | exact .inl rfl | exact .inr rfl | assumption) :
    DS X C W (.Assign [.Name x pos'] e pos) (sSetO i fl) := by
  obtain ⟨t, p, q⟩ := he
  refine ⟨_, ps_set hN hi hx p hs hf, fun S0 H0 Pb σ H δ E R h => q S0 H0 Pb σ H δ _ R ((fl δ).mono (fun ds h a xs G g na ha dp => ?_) (fun _ z => z.ew R) h)⟩
  exact h _ G (R.setO g na ha dp)
def slotO : Option Sl → Wp (List D)
  | some (.own (.l ds)) => .pure ds
  | _ => .stuck
def sApp (i : Nat) (f : DF) : SF := fun δ => (slotO δ[i]?).bind fun ds => (f δ).bind fun d => .need (ds.length < sizeLine) (.pure (.nx (δ.set i (.o (ds ++ [d])))))
theorem slotO_inv {o : Option Sl} {k : List D → Prop} {w : Exn → Prop} (h : (slotO o).run k w) : ∃ ds, o = some (.o ds) ∧ k ds := by
  unfold slotO at h
  split at h
  · exact ⟨_, rfl, h⟩
  · exact h.elim
theorem ds_app {i : Nat} {x : Str} {p1 p2 p3 : Pos} (hN : X.N[i]? = some x) (hv : Vis X.env.scope x) (he : DE X C W e f) (hd : (x == ("__debug__" : Str)) = false := by decide) (hcd : (x == ("__classdict__" : Str)) = false := by decide)
    (hsr : starEach [e] X.env = (false, eval e X.env) :: starEach [] X.env := by rfl)
    (hp : ∀ t, PA X [e] t → PE X (.Call (.Attribute (.Name x p1) "append" p2) [e] [] p3) (tBM X.K "list" rAppend (tVar i) t)) (hs : swapsWith (.Call (.Attribute (.Name x p1) "append" p2) [e] [] p3) none pos.line X.env = pure false := by rfl) :
    DS X C W (.Expr (.Call (.Attribute (.Name x p1) "append" p2) [e] [] p3) pos) (sApp i f) := by
  obtain ⟨t, pt, q⟩ := he
  refine ⟨_, ps_expr (hp _ (pa_cons pt pa_nil hsr)) hs, fun S0 H0 Pb σ H δ E R h => ?_⟩
  obtain ⟨ds, hz, h⟩ := slotO_inv h
  obtain ⟨a, xs, q1, q2, q3, q4⟩ := R.ol hz
  refine ⟨_, q1, .inl ⟨rfl, xs, SqL.of q2⟩, q S0 H0 Pb σ H δ _ R ((f δ).mono (fun d h v G g dp => ?_) (fun _ z => z.ew R) h)⟩
  have hG : G a = some (.lst xs) := g.le a _ q2 fun ps z => by cases z
  refine ⟨a, xs, v, rfl, rfl, hG, by rw [dps_len q4]; exact h.1, ?_⟩
  exact h.2 σ _ ((R.gr g).wr hz q1 hG (dps_app (Le.dps (hid_le g.le fun _ z => z) ds xs q4) (.cons dp .nil)))
def dOix (i : Nat) (fi : DF) : DF := fun δ => (slotO δ[i]?).bind fun ds => (fi δ).bind fun k => (asI1 k).bind fun k => optW (atI ds k)
end
end Tr

namespace Tr
open PySem PySem.Spec L2
variable [ProtC]

def rE (C : Cs) (W : WX) (f : DF) : TE := fun σ H Q => ∃ S0 H0 Pb δ, Rep (C.bx S0 H0) Pb σ H δ ∧ (f δ).run (Dv (C.bx S0 H0) σ H δ Q) (Ew (C.bx S0 H0) W σ H)
def rT (C : Cs) (W : WX) (f : TF) : TT := fun σ H Q => ∃ S0 H0 Pb δ, Rep (C.bx S0 H0) Pb σ H δ ∧ (f δ).run (Bv H Q) (Ew (C.bx S0 H0) W σ H)
def rG (C : Cs) (ix : List Nat) (g : BF) : TG := fun x σ H Q => ∃ S0 H0 Pb δ d δ', Rep (C.bx S0 H0) Pb σ H δ ∧ Dp C.K (hid (Own (C.bx S0 H0) σ δ) H) x d ∧ g d δ = some δ' ∧
  ∀ σ', Rep (C.bx S0 H0) Pb σ' H δ' → (∀ b, Own (C.bx S0 H0) σ' δ' b → Own (C.bx S0 H0) σ δ b) → (∀ vs, (∀ i ∈ ix, i ∈ vs) → wipe σ' vs = wipe σ vs) → Q σ' H
section
variable {X : Cx} {C : Cs} {W : WX} {e : Expr}
theorem DE.to {f : DF} (h : DE X C W e f) : PE X e (rE C W f) := by
  obtain ⟨t, p, q⟩ := h
  exact ⟨fun pins s σ H Q I ⟨S0, H0, Pb, δ, R, z⟩ => p.run pins s σ H Q I (q S0 H0 Pb σ H δ Q R z)⟩
theorem DT.to {f : TF} (h : DT X C W e f) : PT X e (rT C W f) := by
  obtain ⟨t, p, q⟩ := h
  exact ⟨fun pins s σ H Q I ⟨S0, H0, Pb, δ, R, z⟩ => p.run pins s σ H Q I (q S0 H0 Pb σ H δ Q R z)⟩
theorem DG.to {ix : List Nat} {g : BF} (h : DG X C e ix g) : PG X e (rG C ix g) := by
  obtain ⟨t, p, q⟩ := h
  exact ⟨fun pins s σ H x u Q I r ⟨S0, H0, Pb, δ, d, δ', R, dp, hg, z⟩ => p.run pins s σ H x u Q I r (q S0 H0 Pb σ H δ x d δ' Q R dp hg z)⟩
end
abbrev W0 : WX := fun _ _ _ _ => False

def sIn : Sl → Sl
  | .own _ => .non
  | s => s
def dWipe : De → List Nat → De
  | δ, [] => δ.map sIn
  | δ, v :: vs => (dWipe δ vs).set v .non
theorem dWipe_len {δ : De} : ∀ {vs : List Nat}, (dWipe δ vs).length = δ.length
  | [] => by simp [dWipe]
  | v :: vs => by unfold dWipe; rw [List.length_set, dWipe_len]
theorem dWipe_get {δ : De} {j : Nat} {s : Sl} (hs : s ≠ .non) : ∀ {vs : List Nat}, (dWipe δ vs)[j]? = some s → j ∉ vs ∧ δ[j]? = some s ∧ ∀ c, s ≠ .own c
  | [], h => by
    unfold dWipe at h
    rw [List.getElem?_map] at h
    cases e : δ[j]? with
    | none => rw [e] at h; cases h
    | some q =>
      rw [e] at h
      have h := Option.some.inj h
      cases q <;> first
        | exact absurd h.symm hs
        | (refine ⟨fun z => (by cases z), congrArg some h, fun ds z => ?_⟩; rw [z] at h; cases h)
  | v :: vs, h => by
    unfold dWipe at h
    rcases get_set_cases h with ⟨_, h1, _⟩ | ⟨h1, h2⟩
    · exact absurd h1 hs
    · obtain ⟨q1, q2, q3⟩ := dWipe_get hs h2
      exact ⟨fun z => (List.mem_cons.mp z).elim (fun z => h1 z.symm) q1, q2, q3⟩
def lcLoop (g : BF) (t : TF) (f : DF) (δ : De) : List D → Wp (List D)
  | [] => .pure []
  | d :: ds => (optW (g d δ)).bind fun δ1 => (t δ1).bind fun b => if b then (f δ1).bind fun y => (lcLoop g t f δ ds).bind fun ys => .pure (y :: ys) else lcLoop g t f δ ds
def Wp.nox {A : Type} (m : Wp A) : Wp A := ⟨fun k _ => m.run k fun _ => False, fun h _ r => m.mono h (fun _ z => z) r⟩
@[simp] theorem run_nox {A : Type} {m : Wp A} {k : A → Prop} {e : Exn → Prop} : m.nox.run k e = m.run k fun _ => False := rfl
def nLc (fi : De → Wp (List D)) (g : BF) (t : TF) (f : DF) (vs : List Nat) : De → Wp (List D) := fun δ => (fi δ).bind fun ds => .need (ds.length ≤ sizeLine) (lcLoop g t f (dWipe δ vs) ds).nox
theorem Rep.blk {C : Cs} {S0 : Addr → Prop} {H0 Pb : Hp} {σ : St} {H G : Hp} {δ : De} {a : Addr} {xs : List V} (vs : List Nat) (R : Rep (C.bx S0 H0) Pb σ H δ) (g : Grow H G) (na : H a = none) (ha : G a = some (.lst xs)) :
    Rep (C.bx (fun b => Own (C.bx S0 H0) σ δ b ∨ b = a) G) (hid (fun b => Own (C.bx S0 H0) σ δ b ∨ b = a) G) (wipe σ vs) G (dWipe δ vs) := by
  have no : ∀ j ds, (dWipe δ vs)[j]? ≠ some (Sl.own ds) := fun j ds h => (dWipe_get (by intro z; cases z) h).2.2 ds rfl
  have own : ∀ b, Own (C.bx (fun b => Own (C.bx S0 H0) σ δ b ∨ b = a) G) (wipe σ vs) (dWipe δ vs) b ↔ (Own (C.bx S0 H0) σ δ b ∨ b = a) := fun b =>
    ⟨fun z => z.elim id fun ⟨j, ds, e1, _⟩ => absurd e1 (no j ds), .inl⟩
  have le : Le (hid (Own (C.bx S0 H0) σ δ) H) (hid (Own (C.bx (fun b => Own (C.bx S0 H0) σ δ b ∨ b = a) G) (wipe σ vs) (dWipe δ vs)) G) := fun b u e n => by
    obtain ⟨h1, h2⟩ := of_hid e
    rw [hid_in]
    · exact g.le b u h2 n
    · intro z
      rcases (own b).mp z with z | z
      · exact h1 z
      · rw [z, na] at h2
        cases h2
  refine ⟨hid_le (Le.refl G) fun b z => (own b).mp z, by rw [wipe_length, dWipe_len]; exact R.len, Grow.refl G, fun b z => ?_, (R.gr g).tabs, fun j d h => ?_, fun j ds h => absurd h (no j ds), fun j k ds es b h => absurd h (no j ds), fun j x h => ?_, fun j b φ h => ?_, R.scr.gr (R.grow.trans g) (R.leB.trans fun b u e n => by
    obtain ⟨h1, h2⟩ := of_hid e
    rw [hid_in]
    · exact g.le b u h2 n
    · rintro (z | z)
      · exact h1 z
      · rw [z, na] at h2
        cases h2) fun b z => .inl (.inl z)⟩
  · show G b ≠ none
    rcases z with z | z
    · exact g.dm b (R.odom b z)
    · rw [z, ha]
      exact fun z => nomatch z
  · obtain ⟨h1, h2, _⟩ := dWipe_get (by intro z; cases z) h
    obtain ⟨v, q1, q2⟩ := R.pers j d h2
    exact ⟨v, by rw [wipe_get, if_neg h1]; exact q1, Le.dp le _ v q2⟩
  · obtain ⟨h1, h2, _⟩ := dWipe_get (by intro z; cases z) h
    rw [wipe_get, if_neg h1]
    exact R.val j x h2
  · obtain ⟨h1, h2, _⟩ := dWipe_get (by intro z; cases z) h
    rw [wipe_get, if_neg h1]
    exact ⟨(R.trk j b φ h2).1, le b _ (R.trk j b φ h2).2 fun ps z => by cases z⟩
theorem lc_read {C : Cs} {W : WX} {wi : TI} {fi : De → Wp (List D)} {g : BF} {ix vs : List Nat} {t : TF} {f : DF}
    (qw : ∀ S0 H0 Pb σ H δ Q, Rep (C.bx S0 H0) Pb σ H δ → (fi δ).run (fun ds => ∀ J G, Grow H G → Items C.K (hid (Own (C.bx S0 H0) σ δ) G) (obh C H0) ds J → Q J G) (Ew (C.bx S0 H0) W σ H) → wi σ H Q) (hix : ∀ i ∈ ix, i ∈ vs)
    {S0 : Addr → Prop} {H0 Pb : Hp} {σ : St} {H : Hp} {δ : De} {Q : VK} (R : Rep (C.bx S0 H0) Pb σ H δ) (E : Exn → Prop) (hE : ∀ x, E x → Ew (C.bx S0 H0) W σ H x ∧ False)
    (h : (fi δ).run (fun ds => ds.length ≤ sizeLine ∧ (lcLoop g t f (dWipe δ vs) ds).run (fun ds => ∀ a xs G, Grow H G → H a = none → G a = some (.lst xs) → DpAll C.K (hid (fun b => Own (C.bx S0 H0) σ δ b ∨ b = a) G) xs ds → Q (.ref a) G) E) (Ew (C.bx S0 H0) W σ H)) :
    tLc wi (rG C ix g) (rT C W0 t) (rE C W0 f) vs σ H Q := by
  refine qw S0 H0 Pb σ H δ _ R ((fi δ).mono (fun ds h J G gr it => ?_) (fun _ z => z) h)
  obtain ⟨hlen, h⟩ := h
  intro a na
  have nH : H a = none := gr.free na
  obtain ⟨Gp, Y, w, hG, hY⟩ := it
  have g0 : Grow G (upd G a (.lst [])) := Grow.new na
  -- behind i items: the list at a holds acc, data ys; the rest gives the end
  refine lc_it w (fun i Hi => Grow H Hi ∧ Le (hid (Own (C.bx S0 H0) σ δ) G) (hid (fun b => Own (C.bx S0 H0) σ δ b ∨ b = a) Hi) ∧ ∃ acc ys, Hi a = some (.lst acc) ∧ acc.length ≤ i ∧ DpAll C.K (hid (fun b => Own (C.bx S0 H0) σ δ b ∨ b = a) Hi) acc ys ∧
    (lcLoop g t f (dWipe δ vs) (ds.drop i)).run (fun zs => ∀ a xs G, Grow H G → H a = none → G a = some (.lst xs) → DpAll C.K (hid (fun b => Own (C.bx S0 H0) σ δ b ∨ b = a) G) xs (ys ++ zs) → Q (.ref a) G) E) ?_ (fun i Hi _ q => hG Hi (q.2.1.trans hid_sub) (obh_le.trans (R.grow.trans q.1).le)) ?_ ?_
  · refine ⟨gr.trans g0, fun b u e n => ?_, [], [], upd_same, Nat.le_refl _, .nil, h⟩
    obtain ⟨h1, h2⟩ := of_hid e
    have nb : b ≠ a := ne_of_none h2 na
    rw [hid_in, upd_ne nb]
    · exact h2
    · exact fun z => z.elim h1 nb
  · rintro i x Hi Hi2 hi ⟨gi, li, acc, ys, ha, hl, dp, hr⟩ y
    have dom : ∀ b, (Own (C.bx S0 H0) σ δ b ∨ b = a) → Hi b ≠ none := fun b z => by
      rcases z with z | z
      · exact gi.dm b (R.odom b z)
      · rw [z, ha]
        exact fun z => nomatch z
    obtain ⟨gw, d, hd, dx⟩ := hY i Hi x Hi2 _ hi li (obh_le.trans (R.grow.trans gi).le) dom y
    have g2 : Grow H Hi2 := gi.trans gw
    have ha2 : Hi2 a = some (.lst acc) := gw.le a _ ha fun ps z => by cases z
    have ed : ds.drop i = d :: ds.drop (i + 1) := by
      rw [List.drop_eq_getElem_cons hi]
      rw [List.getElem?_eq_getElem hi] at hd
      rw [Option.some.inj hd]
    rw [ed] at hr
    obtain ⟨δ1, hg1, hr⟩ := optW_inv hr
    have RB := R.blk vs g2 nH ha2
    have sup : ∀ σ' δ' b, (Own (C.bx S0 H0) σ δ b ∨ b = a) → Own (C.bx (fun b => Own (C.bx S0 H0) σ δ b ∨ b = a) Hi2) σ' δ' b := fun _ _ _ z => .inl z
    have ownB : ∀ b, Own (C.bx (fun b => Own (C.bx S0 H0) σ δ b ∨ b = a) Hi2) (wipe σ vs) (dWipe δ vs) b → (Own (C.bx S0 H0) σ δ b ∨ b = a) := fun b z => by
      rcases z with z | ⟨j, es, e1, _⟩
      · exact z
      · exact absurd rfl ((dWipe_get (by intro z; cases z) e1).2.2 es)
    refine ⟨_, _, _, dWipe δ vs, d, δ1, RB, Le.dp (hid_le (Le.refl _) ownB) d x dx, hg1, fun σ2 R2 o2 w2 => ⟨?_, ?_⟩⟩
    · rw [w2 vs hix]
      apply List.ext_getElem?
      intro j
      rw [wipe_get, wipe_get]
      split
      · rename_i hj
        cases σ[j]? <;> rfl
      · rename_i hj
        rfl
    refine ⟨_, _, _, δ1, R2, (t δ1).mono (fun b hb H3 g3 => ?_) (fun x hx => (hE x hx).2.elim) hr⟩
    have g3' : Grow H H3 := g2.trans g3
    have ha3 : H3 a = some (.lst acc) := g3.le a _ ha2 fun ps z => by cases z
    have li3 : Le (hid (Own (C.bx S0 H0) σ δ) G) (hid (fun b => Own (C.bx S0 H0) σ δ b ∨ b = a) H3) := li.trans (hid_le (gw.trans g3).le fun _ z => z)
    have dp3 : DpAll C.K (hid (fun b => Own (C.bx S0 H0) σ δ b ∨ b = a) H3) acc ys := Le.dps (hid_le (gw.trans g3).le fun _ z => z) ys acc dp
    cases b with
    | false => exact ⟨g3', li3, acc, ys, ha3, Nat.le_succ_of_le hl, dp3, hb⟩
    | true =>
      refine ⟨_, _, _, δ1, R2.gr g3, (f δ1).mono (fun yd hy v H4 g4 dv => ?_) (fun x hx => (hE x hx).2.elim) hb⟩
      have ha4 : H4 a = some (.lst acc) := g4.le a _ ha3 fun ps z => by cases z
      have keep : ∀ b, b ≠ a → upd H4 a (.lst (acc ++ [v])) b = H4 b := fun b nb => upd_ne nb
      have leA : Le (hid (fun b => Own (C.bx S0 H0) σ δ b ∨ b = a) H4) (hid (fun b => Own (C.bx S0 H0) σ δ b ∨ b = a) (upd H4 a (.lst (acc ++ [v])))) := fun b u e n => by
        obtain ⟨h1, h2⟩ := of_hid e
        rw [hid_in h1, keep b fun z => h1 (.inr z)]
        exact h2
      refine ⟨acc, ha4, by omega, ⟨fun b u e n => ?_, fun P hP => ?_, fun b hb => ?_, fun P q hp t => TabS.put ha4 ((g3'.trans g4).pr P q hp t)⟩, li3.trans ((hid_le g4.le fun _ z => z).trans leA), acc ++ [v], ys ++ [yd], upd_same, by rw [List.length_append]; exact Nat.succ_le_succ hl, ?_, ?_⟩
      · rw [keep b (ne_of_none e nH)]
        exact (g3'.trans g4).le b u e n
      · obtain ⟨ps, e, tr⟩ := (g3'.trans g4).tb P hP
        exact ⟨ps, by rw [keep P (ne_of e ha4 fun z => by cases z)]; exact e, tr⟩
      · by_cases c : b = a
        · rw [c, upd_same]
          exact fun z => nomatch z
        · rw [keep b c]
          exact (g3'.trans g4).dm b hb
      · refine Le.dps leA _ _ (dps_app (Le.dps (hid_le g4.le fun _ z => z) ys acc dp3) (.cons ?_ .nil))
        exact Le.dp (hid_le (Le.refl H4) fun b z => sup σ2 δ1 b z) yd v dv
      · refine (lcLoop g t f (dWipe δ vs) (ds.drop (i + 1))).mono (fun zs hz => ?_) (fun _ z => z) hy
        rw [List.append_assoc]
        exact hz
  · rintro Hn ⟨gn, ln, acc, ys, ha, hl, dp, hr⟩
    rw [List.drop_length] at hr
    have hr' : ∀ a xs G, Grow H G → H a = none → G a = some (.lst xs) → DpAll C.K (hid (fun b => Own (C.bx S0 H0) σ δ b ∨ b = a) G) xs (ys ++ []) → Q (.ref a) G := hr
    rw [List.append_nil] at hr'
    exact hr' a acc Hn gn nH ha dp
section
variable {X : Cx} {C : Cs} {W : WX} {pos : Pos} {elt tg iter : Expr} {ifs : List Expr} {scope : Scope} {own : List (Str × Nat)} {fi : De → Wp (List D)} {g : BF} {ix : List Nat} {t : TF} {f : DF}
def DTs (X : Cx) (C : Cs) (W : WX) (ifs : List Expr) (t : TF) : Prop := PTs X ifs (rT C W t)
def tYesD : TF := fun _ => .pure true
theorem dts_nil : DTs X C W [] tYesD := ⟨fun pins s σ H Q I ⟨S0, H0, Pb, δ, R, z⟩ => pts_nil.run pins s σ H Q I (z H (Grow.refl H))⟩
theorem dts_one {c : Expr} (h : DT X C W c t) : DTs X C W [c] t := pts_one h.to
theorem dn_lc (hc : X.calm = true) (hN : X.N.Nodup) (hi : DI X C W tg iter fi) (ok : BlkOk X.N X.env.scope scope own) (hix : ∀ i ∈ ix, i ∈ own.map (·.2))
    (hg : ∀ (s : Shared) (H : Hp) (Ca : Addr) (cl : List (Str × Addr)) (fp : List Addr), DG (X.blk s H scope (compEnvC scope cl Ca X.env) fp) C tg ix g) (ht : ∀ (s : Shared) (H : Hp) (Ca : Addr) (cl : List (Str × Addr)) (fp : List Addr), DTs (X.blk s H scope (compEnvC scope cl Ca X.env) fp) C W0 ifs t)
    (he : ∀ (s : Shared) (H : Hp) (Ca : Addr) (cl : List (Str × Addr)) (fp : List Addr), DE (X.blk s H scope (compEnvC scope cl Ca X.env) fp) C W0 elt f) (hs : ∀ x, foldedSetIterable iter X.env x = pure x := by intro _; rfl) :
    DN X C W (.ListComp elt [⟨tg, iter, ifs, 0⟩] scope pos) (nLc fi g t f (own.map (·.2))) := by
  obtain ⟨wi, pw, qw⟩ := hi
  exact ⟨_, pe_lc hc hN pw ok (fun s H Ca cl fp => (hg s H Ca cl fp).to) ht (fun s H Ca cl fp => (he s H Ca cl fp).to) hs, fun S0 H0 Pb σ H δ Q R h => lc_read qw hix R (fun _ => False) (fun _ z => z.elim) h⟩
theorem setLc {i : Nat} {y : Str} {py spos : Pos} (hc : X.calm = true) (hN : X.N.Nodup) (hy : X.N[i]? = some y) (hyl : X.env.scope.names.lookup y = some .local) (hsw : swapsWith (.ListComp elt [⟨tg, iter, ifs, 0⟩] scope pos) (some (.Name y py)) spos.line X.env = pure true)
    (hi : DI X C W tg iter fi) (ok : BlkOk X.N X.env.scope scope own) (hix : ∀ i ∈ ix, i ∈ own.map (·.2))
    (hg : ∀ (s : Shared) (H : Hp) (Ca : Addr) (cl : List (Str × Addr)) (fp : List Addr), DG (X.blk s H scope (compEnvC scope cl Ca X.env) fp) C tg ix g) (ht : ∀ (s : Shared) (H : Hp) (Ca : Addr) (cl : List (Str × Addr)) (fp : List Addr), DTs (X.blk s H scope (compEnvC scope cl Ca X.env) fp) C W0 ifs t)
    (he : ∀ (s : Shared) (H : Hp) (Ca : Addr) (cl : List (Str × Addr)) (fp : List Addr), DE (X.blk s H scope (compEnvC scope cl Ca X.env) fp) C W0 elt f) (hs : ∀ x, foldedSetIterable iter X.env x = pure x := by intro _; rfl) :
    DS X C W (.Assign [.Name y py] (.ListComp elt [⟨tg, iter, ifs, 0⟩] scope pos) spos) (sSetO i (nLc fi g t f (own.map (·.2)))) := by
  obtain ⟨wi, pw, qw⟩ := hi
  refine ⟨_, ps_setLc hc hN hy hyl hsw pw ok (fun s H Ca cl fp => (hg s H Ca cl fp).to) ht (fun s H Ca cl fp => (he s H Ca cl fp).to) hs, fun S0 H0 Pb σ H δ E R h => ?_⟩
  refine lc_read qw hix R (fun _ => False) (fun _ z => z.elim) ((fi δ).mono (fun ds hd => ⟨hd.1, ?_⟩) (fun _ z => z.ew R) h)
  refine (lcLoop g t f (dWipe δ (own.map (·.2))) ds).mono (fun ys hy => ?_) (fun _ z => z) (show (lcLoop g t f (dWipe δ (own.map (·.2))) ds).run _ _ from hd.2)
  intro a xs G gr na ha dp
  exact hy _ G (R.setO gr na ha dp)
end

def arSl : Ar → Sl
  | .d x => .p x
  | .v x => .v x
  | .t a φ => .t a φ
def dStart (m : Nat) (as : List Ar) : De := as.map arSl ++ List.replicate (m - as.length) .non
def dRun (m : Nat) (bd : SF) (as : List Ar) : Wp D := (bd (dStart m as)).bind fun o => match o with
  | .rt d => .pure d
  | .nx _ => .pure .none
  | _ => .stuck
theorem ars_get {K : PySem.W.Frag} {H : Hp} : ∀ {vs : List V} {as : List Ar} {i : Nat} {a : Ar}, ArsOk K H vs as → as[i]? = some a → ∃ v, vs[i]? = some v ∧ ArOk K H v a
  | v :: vs, b :: as, 0, a, h, e => by
    cases Option.some.inj e
    exact ⟨v, rfl, h.1⟩
  | v :: vs, b :: as, i + 1, a, h, e => ars_get (i := i) h.2 e
  | [], [], _, _, _, e => by simp at e
  | [], _ :: _, _, _, h, _ => h.elim
  | _ :: _, [], _, _, h, _ => h.elim
theorem start_rep {C : Cs} {S : Addr → Prop} {H : Hp} {N : List Str} {vs : List V} {as : List Ar} (dom : ∀ b, S b → H b ≠ none) (tabs : ∀ P ∈ C.T, GxR.TabG H P) (scr : Scr C S H) (ok : ArsOk C.K (hid S H) vs as) : Rep (C.bx S H) (hid S H) (L2.start N vs) H (dStart N.length as) := by
  have hl := ok.len
  have arg : ∀ {i : Nat} {s : Sl}, s ≠ .non → (dStart N.length as)[i]? = some s → ∃ a, as[i]? = some a ∧ arSl a = s := fun {i s} hs e => by
    unfold dStart at e
    by_cases c : i < as.length
    · rw [List.getElem?_append_left (by rw [List.length_map]; exact c), List.getElem?_map, List.getElem?_eq_getElem c] at e
      exact ⟨as[i], List.getElem?_eq_getElem c, Option.some.inj e⟩
    · rw [List.getElem?_append_right (by rw [List.length_map]; omega), List.getElem?_replicate] at e
      split at e
      · exact absurd (Option.some.inj e).symm hs
      · cases e
  have val : ∀ {i : Nat} {v : V}, vs[i]? = some v → (L2.start N vs)[i]? = some (some v) := fun {i v} e => by
    have c : i < vs.length := (List.getElem?_eq_some_iff.mp e).1
    unfold L2.start
    rw [List.getElem?_append_left (by rw [List.length_map]; exact c), List.getElem?_map, e]
    rfl
  have no : ∀ j ds, (dStart N.length as)[j]? ≠ some (Sl.own ds) := fun j ds e => by
    obtain ⟨a, _, h⟩ := arg (by intro z; cases z) e
    cases a <;> cases h
  have own : ∀ b, Own (C.bx S H) (L2.start N vs) (dStart N.length as) b → S b := fun b z => z.elim id fun ⟨j, ds, e, _⟩ => absurd e (no j ds)
  have le : Le (hid S H) (hid (Own (C.bx S H) (L2.start N vs) (dStart N.length as)) H) := hid_le (Le.refl H) own
  refine ⟨le, ?_, Grow.refl H, dom, tabs, fun j d e => ?_, fun j ds e => absurd e (no j ds), fun j k ds es b e => absurd e (no j ds), fun j x e => ?_, fun j b φ e => ?_, scr⟩
  · unfold L2.start dStart
    rw [List.length_append, List.length_append, List.length_map, List.length_map, List.length_replicate, List.length_replicate, hl]
  · obtain ⟨a, h1, h2⟩ := arg (by intro z; cases z) e
    obtain ⟨v, h3, h4⟩ := ars_get ok h1
    cases a with
    | v x => cases h2
    | t a φ => cases h2
    | d x =>
      cases h2
      exact ⟨v, val h3, Le.dp le d v h4⟩
  · obtain ⟨a, h1, h2⟩ := arg (by intro z; cases z) e
    obtain ⟨v, h3, h4⟩ := ars_get ok h1
    cases a with
    | d x => cases h2
    | t a φ => cases h2
    | v y =>
      cases h2
      have h5 : v = x := h4
      rw [← h5]
      exact val h3
  · obtain ⟨a, h1, h2⟩ := arg (by intro z; cases z) e
    obtain ⟨v, h3, h4⟩ := ars_get ok h1
    cases a with
    | d x => cases h2
    | v y => cases h2
    | t c ψ =>
      cases h2
      obtain ⟨rfl, h6⟩ := h4
      exact ⟨val h3, le b _ h6 fun ps z => by cases z⟩
end Tr

namespace Tr
open PySem PySem.Spec L2
variable [ProtC]

def RowI (i j : Int) : Prop := 0 ≤ i ∧ 0 ≤ j ∧ j < 4294967296
def RowP (r a : Addr) (h : Heap) : Prop := ∃ (i j k : Int) (t u v : Tok) (n : Nat), RowI i j ∧ h.get? r = some { cls := .type "list", data := .seq #[.ref a, .int i t, .int j u, .int k v] n }
abbrev rowL (a : Addr) (i j k : Int) : HO := .lst [.ref a, .int i, .int j, .int k]
theorem rowP_stay {r a : Addr} : ∀ h1 h2 : Heap, RowP r a h1 → (∀ o, h1.get? r = some o → h2.get? r = some o) → RowP r a h2 := fun h1 h2 ⟨i, j, k, t, u, v, n, hi, e⟩ st => ⟨i, j, k, t, u, v, n, hi, st _ e⟩
section
variable {X : Cx} {pins : List (Addr × Obj)} {σ : St} {H : Hp} {s : Shared} {r a : Addr}
theorem row_in (I : Inv X pins σ H s) (h : H r = some (.ext (RowP r a))) : ∃ i j k, RowI i j ∧ Inv X pins σ (upd H r (rowL a i j k)) s := by
  obtain ⟨⟨i, j, k, t, u, v, n, hi, e⟩, _, _⟩ := I.hok r _ h
  refine ⟨i, j, k, hi, I.write (x := r) (e := r) (h' := s.heap) (t' := s.toks) (by rw [h]; trivial) (.inl rfl) (fun _ _ _ q => q) ⟨_, e⟩ ?_⟩
  exact ⟨by show 4 ≤ sizeLine; decide, [.ref a, .int i t, .int j u, .int k v], n, .cons rfl (.cons ⟨t, rfl⟩ (.cons ⟨u, rfl⟩ (.cons ⟨v, rfl⟩ .nil))), e⟩
theorem row_out {i j k : Int} (I : Inv X pins σ H s) (hi : RowI i j) (h : H r = some (rowL a i j k)) : Inv X pins σ (upd H r (.ext (RowP r a))) s := by
  obtain ⟨hl, its, n, hv, e⟩ := I.hok r _ h
  refine I.write (x := r) (e := r) (h' := s.heap) (t' := s.toks) (by rw [h]; trivial) (.inl rfl) (fun _ _ _ q => q) ⟨_, e⟩ ?_
  cases hv with
  | cons r0 hv =>
    cases hv with
    | cons r1 hv =>
      cases hv with
      | cons r2 hv =>
        cases hv with
        | cons r3 hv =>
          cases hv
          cases r0
          obtain ⟨t, rfl⟩ := r1
          obtain ⟨u, rfl⟩ := r2
          obtain ⟨v, rfl⟩ := r3
          exact ⟨⟨i, j, k, t, u, v, n, hi, e⟩, ⟨_, e⟩, rowP_stay⟩
def tRow (t : TS) : TS := fun D σ H => ∃ r a, H r = some (.ext (RowP r a)) ∧ ∀ i j k, RowI i j →
  t { nx := fun σ' G => ∃ i j k, RowI i j ∧ G r = some (rowL a i j k) ∧ D.nx σ' (upd G r (.ext (RowP r a)))
      rt := fun v G => ∃ i j k, RowI i j ∧ G r = some (rowL a i j k) ∧ D.rt v (upd G r (.ext (RowP r a)))
      bk := fun σ' G => ∃ i j k, RowI i j ∧ G r = some (rowL a i j k) ∧ D.bk σ' (upd G r (.ext (RowP r a)))
      ct := fun σ' G => ∃ i j k, RowI i j ∧ G r = some (rowL a i j k) ∧ D.ct σ' (upd G r (.ext (RowP r a))) } σ (upd H r (rowL a i j k))
theorem pss_row {sts : List Stmt} {t : TS} (h : PSs X sts t) : PSs X sts (tRow t) := by
  constructor
  intro pins s σ H D I ⟨r, a, hr, q⟩
  obtain ⟨i, j, k, hi, I1⟩ := row_in I hr
  refine thn (h.run pins s σ _ _ I1 (q i j k hi)) fun fl s' hs => ?_
  cases fl with
  | next => obtain ⟨σ', G, J, i, j, k, h1, h2, h3⟩ := hs; exact ⟨σ', _, row_out J h1 h2, h3⟩
  | brk => obtain ⟨σ', G, J, i, j, k, h1, h2, h3⟩ := hs; exact ⟨σ', _, row_out J h1 h2, h3⟩
  | cont => obtain ⟨σ', G, J, i, j, k, h1, h2, h3⟩ := hs; exact ⟨σ', _, row_out J h1 h2, h3⟩
  | ret u => obtain ⟨v, σ', G, J, rv, i, j, k, h1, h2, h3⟩ := hs; exact ⟨v, σ', _, row_out J h1 h2, rv, h3⟩
def tMkRow (t : TS) : TS := fun D σ H => t { D with nx := fun σ' G => ∃ r a i j k, RowI i j ∧ G r = some (rowL a i j k) ∧ D.nx σ' (upd G r (.ext (RowP r a))) } σ H
theorem ps_mkRow {st : Stmt} {t : TS} (h : PS X st t) : PS X st (tMkRow t) := by
  constructor
  intro pins s σ H D I q
  refine thn (h.run pins s σ H _ I q) fun fl s' hs => ?_
  cases fl with
  | next => obtain ⟨σ', G, J, r, a, i, j, k, h1, h2, h3⟩ := hs; exact ⟨σ', _, row_out J h1 h2, h3⟩
  | brk => exact hs
  | cont => exact hs
  | ret u => exact hs
end
def drawn (m : Int) (d : D) : Prop := ∃ n, d = .int n ∧ 0 ≤ n ∧ n < m
open Classical in
noncomputable def fTaken (C : Cs) : List Ar → Wp D
  | [.t r φ, .d (.int m)] => .need ((∃ q ∈ C.Z, φ = RowP r q.1 ∧ q.2.length ≤ 63) ∧ 0 < m ∧ m < 1073741824) (.any (drawn m))
  | _ => .stuck
end Tr

namespace Tr
open PySem PySem.Spec L2
open GxR (TabG Tabbed)
open PyProof.Rows (AllBare)
variable [ProtC]

abbrev gcx (X : Cx) (s : Shared) (H : Hp) (cenv : Env) (A : Around) (fp : List Addr) (pn : List (Addr × Obj)) : Cx :=
  { X with A := A.deeper cenv, s_0 := s, H_0 := H, env := cenv, outer := X.stack, stack := cenv :: X.stack, ex := fp, fn := fun _ => false, calm := true, pn := pn, xe := fun _ _ => False }
abbrev gEnv (X : Cx) (scope : Scope) (C : Addr) (code : Value) : Env := genEnv scope (cloFrom X.env.cells scope.names []) C code builtinsNs X.env
structure GOk (N : List Str) (sc scope : Scope) (own : List (Str × Nat)) : Prop where
  blk : BlkOk N sc scope own
  co : scope.isCoroutine = false
  cell : ∀ y ∈ scope.names, y.2 ≠ .cell
  dot : scope.names.lookup (".0" : Str) = some NameKind.local
section
variable {X : Cx} {pins : List (Addr × Obj)} {σ : St} {H : Hp} {s : Shared}
theorem gen_start {scope : Scope} {own : List (Str × Nat)} {fp : List Addr} {A : Around} {code it : Value} {h5 : Heap} {g5 : Array GenState} {t5 : Nat} {a : Addr} {go : Obj} (I : Inv X pins σ H s) (ok : GOk X.N X.env.scope scope own) (hN : X.N.Nodup)
    (hfp : ∀ b ∈ fp, FpOk X pins H b ∧ b < s.heap.objs.size) (hA : A.handled = none) (hfr : A.frames = some X.stack) (kp : ∀ b o, s.heap.get? b = some o → h5.get? b = some o)
    (hns : h5.Ns s.heap.objs.size (fun y => if y = ".0" then some it else none)) (hb : AllBare g5) (ha : h5.get? a = some go) (hlt : s.heap.objs.size < a) (hgo : ∀ v, go.data ≠ .cell v) :
    Inv (gcx X s H (gEnv X scope s.heap.objs.size code) A fp [(a, go)]) [] (wipe σ (own.map (·.2))) H { s with heap := h5, gens := g5, toks := t5 } := by
  have hfree : ∀ y ∈ scope.names, y.2 = .free → ∃ c, X.env.cells.lookup y.1 = some c := fun y hy e => (ok.blk.free y hy e).elim (fun k => I.ok.has _ (.inl k)) fun k => I.ok.has _ (.inr k)
  have cm : ∀ {y c}, (cloFrom X.env.cells scope.names []).lookup y = some c → X.env.cells.lookup y = some c ∧ c < s.heap.objs.size := fun {y c} e => by
    rcases cloFrom_mem (PySem.mem_of_lookup e) with z | ⟨h1, z⟩
    · cases z
    · obtain ⟨c', hc⟩ := hfree _ h1 rfl
      rw [hc] at z
      have z : c = c' := z
      subst z
      obtain ⟨v, q⟩ := I.cell _ _ hc
      exact ⟨hc, q.lt⟩
  have lk : ∀ {y}, scope.names.lookup y = some .free → ∃ c, (cloFrom X.env.cells scope.names []).lookup y = some c ∧ X.env.cells.lookup y = some c := fun {y} hl => by
    obtain ⟨c, e⟩ := mem_lookup (cloFrom_has (cells := X.env.cells) (acc := []) (PySem.mem_of_lookup hl))
    exact ⟨c, e, (cm e).1⟩
  have nocell : ∀ y, scope.names.lookup y ≠ some .cell := fun y e => ok.cell _ (PySem.mem_of_lookup e) rfl
  have young : H a = none ∧ a ∉ frs X.stack := by
    refine ⟨I.hok.fresh (Nat.le_of_lt hlt), fun z => ?_⟩
    rcases List.mem_cons.mp (I.stkSub a z) with z | z
    · have := I.lt
      rw [← z] at this
      exact absurd (Nat.lt_trans hlt this) (Nat.lt_irrefl _)
    · exact I.nofs (Nat.le_of_lt hlt) z
  refine ⟨⟨I.ok.mod, ok.blk.kind, I.ok.glob, rfl, Nat.le_refl _, fun y z c e1 e2 => I.ok.inj y z c (cm e1).1 (cm e2).1, fun y hy => ?_, fun y c z => Bool.noConfusion z, fun _ => hA, Around.frames_deeper hfr, .inr ⟨rfl, rfl⟩,
      fun b hb => ⟨Nat.ne_of_lt (hfp b hb).2, fun y c e z => (hfp b hb).1.2.2.2.2.1 y c (cm e).1 z⟩, I.bs, Nat.le_trans I.ok.bsz I.sz, fun b o e hb => ?_, fun b hb z => ?_, I.stack, I.stkFree⟩,
    rfl, hb, Un.kept kp, ⟨_, hns, fun i y v e1 e2 e3 => ?_⟩, fun y c e => ?_, I.hok.fresh (Nat.le_refl _), fun y c e => I.freeC y c (cm e).1, fun p hp => ?_, I.hok.kept kp, by rw [wipe_length]; exact I.len⟩
  · have hy : scope.names.lookup y = some .cell ∨ scope.names.lookup y = some .free := hy
    rcases hy with hy | hy
    · exact absurd hy (nocell y)
    · obtain ⟨c, h1, _⟩ := lk hy
      exact ⟨c, h1⟩
  · rcases (hfp b hb).1.2.2.2.1 with z | z
    · exact I.ok.noex b o e z
    · exact absurd (Nat.lt_of_lt_of_le (Heap.lt_size e) (Nat.le_trans I.ok.bsz z)) (Nat.lt_irrefl _)
  · rcases List.mem_cons.mp (I.stkSub b z) with z | z
    · exact (hfp b hb).1.2.1 z
    · exact (hfp b hb).1.2.2.1 z
  · obtain ⟨e2, hne⟩ := wipe_some e2
    have e3 : Vis scope y := e3
    have fr : scope.names.lookup y = some .free := by
      rcases e3 with k | k | k
      · rcases ok.blk.own _ (PySem.mem_of_lookup k) (.inl rfl) with q | q
        · obtain ⟨p, hp, hpy⟩ := List.mem_map.mp q
          have e4 := ok.blk.ix p hp
          have hpy : p.1 = y := hpy
          rw [hpy] at e4
          exact absurd (List.mem_map.mpr ⟨p, hp, nodup_ix hN e4 e1⟩) hne
        · exact absurd (List.mem_of_getElem? e1) q
      · exact absurd k (nocell y)
      · exact k
    obtain ⟨m, hn, hl⟩ := I.loc
    have hf := ok.blk.free _ (PySem.mem_of_lookup fr) rfl
    obtain ⟨w, r, q⟩ := hl i y v e1 e2 (hf.elim (fun k => .inr (.inl k)) fun k => .inr (.inr k))
    obtain ⟨c, h1, h2⟩ := lk fr
    refine ⟨w, r, .inr ⟨.inr fr, c, h1, ?_⟩⟩
    rcases q with ⟨k, _⟩ | ⟨_, c', e', z⟩
    · have k : X.env.scope.names.lookup y = some .local := k
      rcases hf with k' | k' <;> rw [show X.env.scope.names.lookup y = _ from k'] at k <;> cases k
    · rw [h2] at e'
      cases e'
      exact z.keeps kp
  · obtain ⟨v, z⟩ := I.cell y c (cm e).1
    exact ⟨v, z.keeps kp⟩
  · have hp : p ∈ [(a, go)] ++ ([] : List (Addr × Obj)) := hp
    rw [List.append_nil, List.mem_singleton] at hp
    subst hp
    exact ⟨ha, young.1, Nat.ne_of_gt hlt, young.2, hgo⟩
theorem gen_back {cenv : Env} {A : Around} {fp : List Addr} {pn pins' : List (Addr × Obj)} {σ' : St} {H' : Hp} {s' : Shared} (I : Inv X pins σ H s) (J : Inv (gcx X s H cenv A fp pn) pins' σ' H' s') (hfp : ∀ b ∈ fp, FpOk X pins H b) : Inv X pins σ H' s' :=
  I.call' (ch := fp) J.os J.base J.hok J.bare fun b hb => ⟨(hfp b hb).2.2.2.1, (hfp b hb).2.1, (hfp b hb).2.2.2.2.1, (hfp b hb).2.2.2.2.2⟩
end
end Tr

namespace Tr
open PySem PySem.Spec L2
open GxR (TabG Tabbed)
open PyProof.Rows (AllBare)
variable [ProtC]

def SleptB (s t : Shared) : Prop := t.heap = s.heap ∧ t.os = s.os ∧ AllBare t.gens
theorem Inv.slept {X : Cx} {pins : List (Addr × Obj)} {σ : St} {H : Hp} {s t : Shared} (I : Inv X pins σ H s) (z : SleptB s t) : Inv X pins σ H t := by
  have k : ∀ b u, s.heap.get? b = some u → t.heap.get? b = some u := fun b u e => by rw [z.1]; exact e
  exact I.call' (ch := []) z.2.1 (Un.kept k) (I.hok.kept k) z.2.2 fun b hb => by cases hb
def gEnd (X : Cx) (σ : St) (Qe : Hp → Prop) : GenEnd := fun _ s0 r s => r = .ok .next ∧ s0.gens.size ≤ s.gens.size ∧ ∃ H, Inv X [] σ H s ∧ Qe H
def gPro (X : Cx) (σ : St) (on : Bool) (Qs : Hp → Prop) : Protocol := fun _ s0 v s kap => s0.gens.size ≤ s.gens.size ∧ ∃ k H, v = .bool k ∧ Inv X [] σ H s ∧ (k = on → ∀ t, SleptB s t → kap (.send .none) t) ∧ (k ≠ on → Qs H)
section
variable {X : Cx}
def GTurn (J : It) (W : Nat → Nat → Hp → Prop) (Qe Qs : Hp → Prop) (on : Bool) (g : TG) (tt : TT) (te : TE) (vs : List Nat) (σ : St) : Prop := ∀ i m H, W i m H →
  (J.stop i H ∧ Qe H) ∨ (J.go i H ∧ ∃ Nx : Hp → Prop, (∀ G, Nx G → ∃ m', m' < m ∧ W (i + 1) m' G) ∧ ∀ x G, J.yld i H x G → g x σ G fun σ2 H2 => wipe σ2 vs = σ ∧ tt σ2 H2 fun b H3 =>
    if b = true then te σ2 H3 fun y H4 => ∃ k, y = .bl k ∧ if k = on then Nx H4 else Qs H4 else Nx H3)
theorem gen_loop {s4 : Shared} {H0 : Hp} {A : Around} {fp : List Addr} {pn : List (Addr × Obj)} {it C : Addr} {code : Value} {elt tg iter : Expr} {ifs : List Expr} {scope : Scope} {own : List (Str × Nat)} {pos : Pos} {tn : Nat → Heap → Prop} {J : It} {W : Nat → Nat → Hp → Prop} {Qe Qs : Hp → Prop} {on : Bool} {g : TG} {tt : TT} {te : TE} {σ : St}
    (hco : scope.isCoroutine = false) (T : Turn X.prog X.w X.K tg J fp it tn) (hpn : ∀ b ∈ fp, ∀ p ∈ pn, p.1 ≠ b)
    (pg : PG (gcx X s4 H0 (gEnv X scope C code) A fp pn) tg g) (pt : PTs (gcx X s4 H0 (gEnv X scope C code) A fp pn) ifs tt) (pe : PE (gcx X s4 H0 (gEnv X scope C code) A fp pn) elt te)
    (ht : GTurn J W Qe Qs on g tt te (own.map (·.2)) (wipe σ (own.map (·.2)))) : ∀ (m n i : Nat) (s0 s : Shared) (H : Hp), m < n → s0.gens.size ≤ s.gens.size → W i m H → Inv (gcx X s4 H0 (gEnv X scope C code) A fp pn) [] (wipe σ (own.map (·.2))) H s → tn i s.heap → (∀ b ∈ fp, H b = none) →
    Seg (model X.prog X.w) A (gEnd (gcx X s4 H0 (gEnv X scope C code) A fp pn) (wipe σ (own.map (·.2))) Qe) (gPro (gcx X s4 H0 (gEnv X scope C code) A fp pn) (wipe σ (own.map (·.2))) on Qs) n s0
      (.compLoop (.GeneratorExp elt [⟨tg, iter, ifs, 0⟩] scope pos) 0 (.ref it) .none (gEnv X scope C code)) ((model X.prog X.w).den (.compLoop (.GeneratorExp elt [⟨tg, iter, ifs, 0⟩] scope pos) 0 (.ref it) .none (gEnv X scope C code))) [] s := by
  generalize hX : gcx X s4 H0 (gEnv X scope C code) A fp pn = XG at *
  have e1 : XG.prog = X.prog := by rw [← hX]
  have e2 : XG.w = X.w := by rw [← hX]
  have e3 : XG.K = X.K := by rw [← hX]
  have e4 : XG.calm = true := by rw [← hX]
  have e5 : XG.A = A.deeper (gEnv X scope C code) := by rw [← hX]
  have e6 : XG.env = gEnv X scope C code := by rw [← hX]
  have e7 : XG.pn = pn := by rw [← hX]
  have e8 : XG.ex = fp := by rw [← hX]
  have e9 : XG.xe = fun _ _ => False := by rw [← hX]
  intro m
  induction m using Nat.strongRecOn with
  | ind m ih =>
    intro n i s0 s H hmn hz hw I st nf
    have stat : ∀ {σ' : St} {H' : Hp} {s' : Shared}, Inv XG [] σ' H' s' → (∀ b ∈ fp, H' b = none) → ∀ b ∈ fp, FpOk XG [] H' b := fun {σ' H' s'} I' hn b hb => by
      have hb' : b ∈ XG.ex := by rw [e8]; exact hb
      exact ⟨hn b hb, (I'.ok.exf b hb').1, I'.ok.exfs b hb', .inl hb', fun x c e => (I'.ok.exf b hb').2 x c e, fun p hp => by rw [List.append_nil, e7] at hp; exact hpn b hb p hp⟩
    show Seg _ A _ _ _ s0 _ ((compTurn (.GeneratorExp elt [⟨tg, iter, ifs, 0⟩] scope pos) 0 (.ref it) .none (gEnv X scope C code)).onRaise (leaving (gEnv X scope C code))) [] s
    rw [compTurn_gen, Sem.onRaise_eq_wrap]
    refine seg_bind_wrap (wpAny_standAt ?_)
    rcases ht i m H hw with ⟨stop, qe⟩ | ⟨go, Nx, hNx, step⟩
    · have td := T.done XG e1 e2 e3 e4 i [] s _ H (fun _ _ => False) I (stat I nf) st stop
      rw [e5] at td
      refine seg_bind_wrap (GenW.wpAny_gsz hz (wpAny_mono td (fun r s1 hr hz => ?_) fun _ _ z _ => z.elim))
      obtain ⟨rfl, I1⟩ := hr
      exact seg_end (.ok .next) ⟨rfl, hz, H, I1, qe⟩
    · have ti := T.item XG e1 e2 e3 e4 i [] s _ H (fun _ _ => False) I (stat I nf) st go
      rw [e5] at ti
      refine seg_bind_wrap (GenW.wpAny_gsz hz (wpAny_mono ti (fun r s1 hr hz => ?_) fun _ _ z _ => z.elim))
      obtain ⟨u, rfl, h1⟩ := hr
      refine seg_bind_wrap (GenW.wpAny_gsz hz (wpAny_mono h1 (fun _ s2 h2 hz => ?_) fun _ _ z _ => z.elim))
      obtain ⟨x, H2, I2, r2, y2, st2, n2⟩ := h2
      have I2' := I2.pinned (stat I2 n2) (T.obj _ _ st2)
      have pga := pg.run _ s2 _ H2 x u _ I2' r2 (step x H2 y2)
      rw [e1, e2, e5, e6, e9] at pga
      refine seg_bind_wrap (GenW.wpAny_gsz hz (wpAny_mono pga (fun _ s3 h3 hz => ?_) fun _ _ z _ => z.elim))
      obtain ⟨σ3, H3, I3, hw3, q3⟩ := h3
      have pta := pt.run _ s3 σ3 H3 _ I3 q3
      rw [e1, e2, e5, e6, e9] at pta
      refine seg_bind_wrap (GenW.wpAny_gsz hz (wpAny_mono pta (fun b s5 h5 hz => ?_) fun _ _ z _ => z.elim))
      obtain ⟨H5, I5, q5⟩ := h5
      -- the turn's end
      have back : ∀ {s' : Shared} {H' : Hp}, Inv XG ([] ++ pinsAt fp s2.heap) σ3 H' s' → Inv XG [] (wipe σ (own.map (·.2))) H' s' ∧ tn (i + 1) s'.heap ∧ ∀ b ∈ fp, H' b = none := fun {s' H'} I' => by
        have pin' : ∀ b ∈ fp, ∀ o, s2.heap.get? b = some o → s'.heap.get? b = some o ∧ H' b = none := fun b hb o e =>
          let z := I'.pin (b, o) (List.mem_append_right _ (List.mem_append_right _ (mem_pinsAt hb e)))
          ⟨z.1, z.2.1⟩
        refine ⟨(I'.unpinned (pins := [])).weak (by rw [← hw3, wipe_length]) fun j v e => ?_, T.keep _ _ _ st2 fun b hb o e => (pin' b hb o e).1, fun b hb => ?_⟩
        · rw [← hw3] at e
          exact (wipe_some e).1
        · obtain ⟨o, e, _⟩ := T.obj _ _ st2 b hb
          exact (pin' b hb o e).2
      cases b with
      | false =>
        simp only [Bool.false_eq_true, if_false] at q5 ⊢
        obtain ⟨m', hm', w'⟩ := hNx H5 q5
        obtain ⟨b1, b2, b3⟩ := back I5
        exact seg_again rfl (ih m' hm' n (i + 1) s0 s5 H5 (by omega) hz w' b1 b2 b3)
      | true =>
        simp only [if_true] at q5 ⊢
        have hy : ∀ v, yieldOut (gEnv X scope C code) v = yieldValue v := fun v => by
          have hco' : (gEnv X scope C code).scope.isCoroutine = false := hco
          simp only [yieldOut, hco', Bool.false_eq_true, if_false]
        simp only [hy]
        rw [Sem.bind_eq_wrap', Sem.bind_eq_wrap', Sem.wrap_wrap, Sem.wrap_wrap]
        have pea := pe.run _ s5 σ3 H5 _ I5 q5
        rw [e1, e2, e5, e6, e9] at pea
        refine seg_wrap (GenW.wpAny_gsz hz (wpAny_mono pea (fun v s6 h6 hz => ?_) fun _ _ z _ => z.elim))
        obtain ⟨y, H6, I6, r6, k, rfl, q6⟩ := h6
        cases r6
        obtain ⟨b1, b2, b3⟩ := back I6
        obtain ⟨n', rfl⟩ : ∃ n', n = n' + 1 := ⟨n - 1, by omega⟩
        refine seg_at (seg_yield rfl rfl rfl ⟨hz, k, H6, rfl, b1, fun hk t ht => ?_, fun hk => ?_⟩)
        · rw [if_pos hk] at q6
          obtain ⟨m', hm', w'⟩ := hNx H6 q6
          exact seg_again rfl (ih m' hm' n' (i + 1) t t H6 (by omega) (Nat.le_refl _) w' (Inv.slept b1 ht) (by rw [ht.1]; exact b2) b3)
        · rw [if_neg hk] at q6
          exact q6
end
end Tr

namespace Tr
open PySem PySem.Spec L2
open GxR (TabG Tabbed)
open PyProof.Rows (AllBare)
variable [ProtC]
section
variable {prog : Program} {w : World} {A : Around} {E : Value → Shared → Prop}
theorem gen_begin {R : GenEnd} {Y : Protocol} {P : Program} {K : PySem.W.Frag} {n : Nat} {s0 s : Shared} {elt tg iter : Expr} {ifs : List Expr} {scope : Scope} {pos : Pos} {J : It} {fp : List Addr} {it : Addr} {tn : Nat → Heap → Prop} {cenv : Env} (T : Turn prog w K tg J fp it tn) (st : tn 0 s.heap)
    (h : Seg (model prog w) A R Y n s0 (.compLoop (.GeneratorExp elt [⟨tg, iter, ifs, 0⟩] scope pos) 0 (.ref it) .none cenv) ((model prog w).den (.compLoop (.GeneratorExp elt [⟨tg, iter, ifs, 0⟩] scope pos) 0 (.ref it) .none cenv)) [] s) :
    Seg (model prog w) A R Y n s0 (.compStart (.GeneratorExp elt [⟨tg, iter, ifs, 0⟩] scope pos) 0 (.ref it) .none cenv) ((model prog w).den (.compStart (.GeneratorExp elt [⟨tg, iter, ifs, 0⟩] scope pos) 0 (.ref it) .none cenv)) [] s := by
  show Seg _ A R Y n s0 _ ((compStart (.GeneratorExp elt [⟨tg, iter, ifs, 0⟩] scope pos) 0 (.ref it) .none cenv).onRaise (leaving cenv)) [] s
  unfold compStart
  rw [Sem.onRaise_eq_wrap]
  show Seg _ A R Y n s0 _ ((ask >>= _).wrap _ _ _ _) [] s
  apply seg_bind_wrap
  apply wpAny_askSetting
  split
  · exact seg_again rfl h
  · apply seg_bind_wrap
    apply wpAny_rule
    show Seg _ A R Y n s0 _ ((standAt iter.pos >>= _).wrap _ _ _ _) [] s
    apply seg_bind_wrap
    apply wpAny_standAt
    apply seg_bind_wrap
    exact T.self _ 0 s _ _ st (seg_again rfl h)
theorem gen_next {XG : Cx} {σ : St} {Qe Qs : Hp → Prop} {on : Bool} {a : Addr} {g : Nat} {go : Obj} {Q : Option Value → Shared → Prop} (hP : XG.prog = prog) (hW : XG.w = w) (hh : A.handled = none) (hroom : A.depth < recursionLimit) (hpn : XG.pn = [(a, go)])
    (hgo : ∀ h : Heap, h.get? a = some go → h.IsGen a g) {n : Nat} {s : Shared} {gs : GenState} (hl : s.heap.NoLimit) (hg : s.heap.get? a = some go) (hgs : s.gens[g]? = some gs)
    (hr : gs.Goes (model prog w) A.in1 (gEnd XG σ Qe) (gPro XG σ on Qs) n (.send .none) (s.setGen g .running))
    (hv : ∀ k s1, s1.heap.NoLimit → s1.heap.get? a = some go → (∃ H, Inv XG [] σ H s1 ∧ (k ≠ on → Qs H)) → (k = on → ∃ m gs', n = m + 1 ∧ s1.gens[g]? = some gs' ∧ gs'.Goes (model prog w) A.in1 (gEnd XG σ Qe) (gPro XG σ on Qs) m (.send .none) (s1.setGen g .running)) → Q (some (.bool k)) s1)
    (he : ∀ s1, (∃ H, Inv XG [] σ H s1 ∧ Qe H) → Q none s1) : wpAny (model prog w) A (pyNext (.ref a)) Q E s := by
  have bare1 : ∀ (s1 : Shared) (x : GenState), AllBare s1.gens → x.bare = true → AllBare (s1.setGen g x).gens := fun s1 x h hx => allBare_setGen h hx
  have hlt : g < s.gens.size := (Array.getElem?_eq_some_iff.mp hgs).1
  refine wpAny_pyNext_genexpQ (Y := gPro XG σ on Qs) (P := fun _ s0 s1 => s0.gens.size ≤ s1.gens.size ∧ ∃ H, Inv XG [] σ H s1 ∧ Qe H) hh hl hroom (hgo _ hg) hgs hr (fun v s1 gs' hb hy => ?_) (fun s1 hp h' hk => ?_)
  · obtain ⟨hz, k, H, rfl, I, hon, hoff⟩ := hy
    have ha : s1.heap.get? a = some go := (I.pin (a, go) (by rw [hpn]; exact List.mem_cons_self ..)).1
    have I' : Inv XG [] σ H (s1.setGen g gs') := Inv.slept I ⟨rfl, rfl, bare1 s1 gs' I.bare hb⟩
    have hz1 : g < s1.gens.size := by
      have hz2 : (s.setGen g .running).gens.size ≤ s1.gens.size := hz
      rw [GenW.setGen_size] at hz2
      exact Nat.lt_of_lt_of_le hlt hz2
    refine hv k (s1.setGen g gs') I'.nolimit ha ⟨H, I', hoff⟩ fun hk => ?_
    have z := hon hk ((s1.setGen g gs').setGen g .running) ⟨rfl, rfl, bare1 _ _ I'.bare rfl⟩
    cases n with
    | zero => exact z.elim
    | succ m => exact ⟨m, gs', rfl, setGen_self (gs := s1.gens[g]) (Array.getElem?_eq_getElem hz1), z⟩
  · obtain ⟨_, H, I, q⟩ := hp
    have k : ∀ b u, s1.heap.get? b = some u → h'.get? b = some u := hk
    refine he _ ⟨H, ?_, q⟩
    exact I.call' (ch := []) rfl (Un.kept k) (I.hok.kept k) (bare1 s1 _ I.bare rfl) fun b hb => by cases hb
theorem gen_all {XG : Cx} {σ : St} {Qe Qs : Hp → Prop} {a : Addr} {g : Nat} {go : Obj} {R : Result → Shared → Prop} (hP : XG.prog = prog) (hW : XG.w = w) (hh : A.handled = none) (hroom : A.depth < recursionLimit) (hpn : XG.pn = [(a, go)])
    (hgo : ∀ h : Heap, h.get? a = some go → h.IsGen a g) (hR : ∀ k s1, (∃ H, Inv XG [] σ H s1 ∧ (k = true → Qe H) ∧ (k = false → Qs H)) → R (.ok (.ret (.bool k))) s1) : ∀ (n : Nat) (s : Shared) (gs : GenState), s.heap.NoLimit → s.heap.get? a = some go → s.gens[g]? = some gs →
    gs.Goes (model prog w) A.in1.in1 (gEnd XG σ Qe) (gPro XG σ true Qs) n (.send .none) (s.setGen g .running) → codeAny (model prog w) A (.builtin "all.loop" ⟨[.ref a], []⟩) R s := by
  intro n
  induction n with
  | zero =>
    intro s gs hl hg hgs hr
    refine codeAny_builtin F.entry_all_loop ?_
    rw [Around.under_plainId F.plain_all_loop _]
    show wpAny _ A.in1 (pyNext (.ref a) >>= _) _ _ s
    refine wpAny_bind (gen_next (A := A.in1) hP hW hh hroom hpn hgo hl hg hgs hr (fun k s1 hl1 hg1 hs1 hgo1 => ?_) fun s1 ⟨H, I, q⟩ => ?_)
    · refine wpAny_bind (wpAny_holding (wpAny_truthy_bool ?_))
      refine wpAny_bind (wpAny_letGo ?_)
      cases k with
      | true =>
        obtain ⟨m, gs', e, _⟩ := hgo1 rfl
        exact absurd e (by omega)
      | false =>
        simp only [Bool.false_eq_true, if_false]
        obtain ⟨H, I, q⟩ := hs1
        exact wpAny_bind (wpAny_rule (wpAny_pure (hR false s1 ⟨H, I, fun z => (by cases z), fun _ => q (by decide)⟩)))
    · exact wpAny_bind (wpAny_rule (wpAny_pure (hR true s1 ⟨H, I, fun _ => q, fun z => (by cases z)⟩)))
  | succ n ih =>
    intro s gs hl hg hgs hr
    refine codeAny_builtin F.entry_all_loop ?_
    rw [Around.under_plainId F.plain_all_loop _]
    show wpAny _ A.in1 (pyNext (.ref a) >>= _) _ _ s
    refine wpAny_bind (gen_next (A := A.in1) hP hW hh hroom hpn hgo hl hg hgs hr (fun k s1 hl1 hg1 hs1 hgo1 => ?_) fun s1 ⟨H, I, q⟩ => ?_)
    · refine wpAny_bind (wpAny_holding (wpAny_truthy_bool ?_))
      refine wpAny_bind (wpAny_letGo ?_)
      cases k with
      | true =>
        simp only [if_true]
        obtain ⟨m, gs', e, e2, e3⟩ := hgo1 rfl
        cases e
        exact wpAny_pure ⟨plainId_quiet F.plain_all_loop _, ih s1 gs' hl1 hg1 e2 e3⟩
      | false =>
        simp only [Bool.false_eq_true, if_false]
        obtain ⟨H, I, q⟩ := hs1
        exact wpAny_bind (wpAny_rule (wpAny_pure (hR false s1 ⟨H, I, fun z => (by cases z), fun _ => q (by decide)⟩)))
    · exact wpAny_bind (wpAny_rule (wpAny_pure (hR true s1 ⟨H, I, fun _ => q, fun z => (by cases z)⟩)))
end
section
variable {X : Cx} {pins : List (Addr × Obj)} {σ : St} {H : Hp} {s : Shared}
structure Made (X : Cx) (pins : List (Addr × Obj)) (σ : St) (tg iter elt : Expr) (ifs : List Expr) (scope : Scope) (pos : Pos) (J : It) (H2 : Hp) (s4 t : Shared) (a : Addr) : Prop where
  ex : ∃ (it : Addr) (fp : List Addr) (tn : Nat → Heap → Prop) (code : Value) (g : Nat) (go : Obj) (h5 : Heap) (g5 : Array GenState) (t5 : Nat), Inv X pins σ H2 s4 ∧ Turn X.prog X.w X.K tg J fp it tn ∧ tn 0 h5 ∧ (∀ b ∈ fp, FpOk X pins H2 b ∧ b < s4.heap.objs.size) ∧
    t = { s4 with heap := h5, gens := g5, toks := t5 } ∧ (∀ b o, s4.heap.get? b = some o → h5.get? b = some o) ∧ h5.Ns s4.heap.objs.size (fun y => if y = ".0" then some (.ref it) else none) ∧ AllBare g5 ∧ h5.get? a = some go ∧ s4.heap.objs.size < a ∧ (∀ v, go.data ≠ .cell v) ∧
    (∀ h : Heap, h.get? a = some go → h.IsGen a g) ∧ g5[g]? = some (.fresh (.compStart (.GeneratorExp elt [⟨tg, iter, ifs, 0⟩] scope pos) 0 (.ref it) .none (gEnv X scope s4.heap.objs.size code)))
theorem gen_make {c P : Addr} {elt tg iter : Expr} {ifs : List Expr} {gpos : Pos} {scope : Scope} {own : List (Str × Nat)} {wi : TI} {k : Nat} {Q' : Value → Shared → Prop} {R : It → Hp → Prop}
    (hr : Room k X.A) (TB : GxR.TabB X.base X.mg c P) (hcode : X.env.code = .ref c) (ok : GOk X.N X.env.scope scope own) (hi : PI X tg iter wi) (hs : ∀ v, genFold iter X.env v = pure v) (I : Inv X pins σ H s)
    (h : wi σ H fun J H1 => TabG H1 P ∧ ∀ H2, Tabbed P H1 H2 → R J H2) (hQ : ∀ J H2 s4 t a, R J H2 → Made X pins σ tg iter elt ifs scope gpos J H2 s4 t a → Q' (.ref a) t) :
    wpAny (model X.prog X.w) X.A (eval (.GeneratorExp elt [⟨tg, iter, ifs, 0⟩] scope gpos) X.env) Q' X.xe s := by
  have hfree : ∀ y ∈ scope.names, y.2 = .free → ∃ c, X.env.cells.lookup y.1 = some c := fun y hy e => (ok.blk.free y hy e).elim (fun k => I.ok.has _ (.inl k)) fun k => I.ok.has _ (.inr k)
  refine wpAny_GeneratorExp_make ok.co (closure_ok hfree) ok.cell ok.dot ok.blk.kind (by have := hr.dp; omega) ?_ hs
  refine thn (hi.run pins s σ H _ I h) fun xv s1 h1 => thn h1 fun itv s2 h2 => ?_
  obtain ⟨it, fp, tn, J, H1, rfl, I2, T, st2, f2, ⟨ps, hP, htr⟩, q⟩ := h2
  have hPs : s2.heap.get? P = some { cls := .none, data := .fields ps } := I2.hok P _ hP
  have cd : PySem.W.CodeHd s2.heap c P := TB.code.keeps I2.bk
  refine ⟨I2.nolimit, ?_⟩
  have fpP : ∀ b ∈ fp, b ≠ P := fun b hb z => by
    have := (f2 b hb).1
    rw [z, hP] at this
    cases this
  have cont : ∀ (code : Value) (h3 : Heap) (tk : Nat) (ps' more : Array Value), Heap.ExtBut P s2.heap h3 → s2.heap.objs.size ≤ h3.objs.size → h3.get? P = some { cls := .none, data := .fields ps' } → ps' = ps ++ more → TriplesOk ps'.toList →
      wpAny (model X.prog X.w) X.A (builtinsFor X.env.globals X.env.builtins) (fun bi s4 => ∀ h', h'.Ns s4.heap.objs.size (fun y => if y = ".0" then some (.ref it) else none) → Heap.SameBut s4.heap.objs.size (s4.heap.push { cls := .type "frame", data := .dict #[] }) h' →
          Q' (.ref h'.objs.size) { s4 with
            gens := s4.gens.push (.fresh (.compStart (.GeneratorExp elt [⟨tg, iter, ifs, 0⟩] scope gpos) 0 (.ref it) .none (genEnv scope (cloFrom X.env.cells scope.names []) s4.heap.objs.size code bi X.env))),
            toks := s4.toks + 1 + 1 + 1,
            heap := h'.push { cls := .type "generator", data := .fields #[.int s4.gens.size 0, .str "<genexpr>" (s4.toks + 1), .str (X.env.qual ++ "<genexpr>") (s4.toks + 1 + 1)] } }) X.xe { s2 with heap := h3, toks := tk } := by
    intro code h3 tk ps' more hx hsz hP3 hmore ht3
    obtain ⟨bm, ob, e1, e2, e3, e4, e5, e6, e7, e8⟩ := TB.bm
    have keep3 : ∀ b u, b ≠ P → s2.heap.get? b = some u → h3.get? b = some u := fun b u hb e => hx b u hb e
    refine wpAny_builtinsFor (m := X.mg) (by rw [I2.ok.glob]; exact (I2.mod.glob.keeps I2.bk).extBut hx TB.gP) e1 e2 (keep3 _ _ e4 (I2.bk _ _ e5)) e6 e7 e8 ?_
    intro h' hn hsb
    have I3 : Inv X pins σ (upd H1 P (.tbl (ps ++ more))) { s2 with heap := h3, toks := tk } := GxR.inv_tab (g' := s2.gens) (d' := s2.drawn) I2 hP keep3 (by rw [← hmore]; exact hP3) I2.bare
    have sz' : h'.objs.size = h3.objs.size + 1 := by rw [hsb.1, Heap.size_push]
    have kp1 : ∀ b o, h3.get? b = some o → h'.get? b = some o := fun b o e => hsb.extBut b o (Nat.ne_of_lt (Heap.lt_size e)) (Heap.get?_push_of_some _ e)
    refine hQ J (upd H1 P (.tbl (ps ++ more))) { s2 with heap := h3, toks := tk } _ h'.objs.size (q _ ⟨⟨ps ++ more, upd_same, by rw [← hmore]; exact ht3⟩, fun b hb => upd_ne hb⟩) ⟨?_⟩
    refine ⟨it, fp, tn, code, s2.gens.size, _, _, _, _, I3, T, ?_, fun b hb => ?_, rfl, fun b o e => Heap.get?_push_of_some _ (kp1 b o e), hn.push _, AllBare.push I2.bare rfl, Heap.get?_push_size _ rfl, by show h3.objs.size < h'.objs.size; omega, fun v z => (by cases z), fun h e => ⟨_, _, _, e, rfl, rfl, rfl⟩, Array.getElem?_push_size ..⟩
    · exact T.keep _ _ _ st2 fun b hb o e => Heap.get?_push_of_some _ (kp1 b o (keep3 b o (fpP b hb) e))
    · obtain ⟨o, e, _⟩ := T.obj _ _ st2 b hb
      refine ⟨⟨by rw [upd_ne (fpP b hb)]; exact (f2 b hb).1, (f2 b hb).2⟩, Heap.lt_size (keep3 b o (fpP b hb) e)⟩
  cases hf : codeAmong gpos ps.toList with
  | none =>
    refine wpAny_genexprCodeX hcode (cd.code hPs htr) (cd.tab hPs) hf fun c' h3 tk hx hge hlt hco' _ htab' _ => ?_
    obtain ⟨o1, vs, f1, tf, fl, tg', inF, tx, tt, op, _, _, _, _, _, _, _, _, _, htr', _⟩ := hco'
    exact cont _ h3 tk _ _ hx (Nat.le_trans hge (Nat.le_of_lt hlt)) htab'.2 rfl htr'
  | some cv =>
    refine wpAny_genexprCode_hit hcode (cd.code hPs htr) hf ?_
    exact cont cv s2.heap s2.toks ps #[] (Heap.ExtBut.refl _ _) (Nat.le_refl _) hPs (by simp) htr
end
end Tr

namespace Tr
open PySem PySem.Spec L2
open GxR (TabG Tabbed)
open PyProof.Rows (AllBare)
variable [ProtC]

def tGa (on : Bool) (P : Addr) (wi : TI) (g : TG) (tt : TT) (te : TE) (vs : List Nat) : TE := fun σ H Q => wi σ H fun J H1 => TabG H1 P ∧ ∀ H2, Tabbed P H1 H2 →
  ∃ (W : Nat → Nat → Hp → Prop) (Qe Qs : Hp → Prop), (∃ m, W 0 m H2) ∧ GTurn J W Qe Qs on g tt te vs (wipe σ vs) ∧ (∀ G, Qe G → Q (.bl on) G) ∧ ∀ G, Qs G → Q (.bl (!on)) G
section
variable {X : Cx}
abbrev gA (X : Cx) : Around := X.A.in1.in1
def GFr (X : Cx) (scope : Scope) (p : Cx → Prop) : Prop := ∀ (s : Shared) (H : Hp) (C : Addr) (code : Value) (fp : List Addr) (pn : List (Addr × Obj)), p (gcx X s H (gEnv X scope C code) (gA X) fp pn)
theorem ga_goes {pins : List (Addr × Obj)} {σ : St} {tg iter elt : Expr} {ifs : List Expr} {scope : Scope} {pos : Pos} {J : It} {H2 : Hp} {s4 t : Shared} {a : Addr} {own : List (Str × Nat)} {on : Bool} {g : TG} {tt : TT} {te : TE} {W : Nat → Nat → Hp → Prop} {Qe Qs : Hp → Prop}
    (hA : X.A.handled = none) (ok : GOk X.N X.env.scope scope own) (hN : X.N.Nodup) (pg : GFr X scope fun Y => PG Y tg g) (pt : GFr X scope fun Y => PTs Y ifs tt) (pe : GFr X scope fun Y => PE Y elt te)
    (ht : GTurn J W Qe Qs on g tt te (own.map (·.2)) (wipe σ (own.map (·.2)))) (hm : ∃ m, W 0 m H2) (M : Made X pins σ tg iter elt ifs scope pos J H2 s4 t a) :
    ∃ (XG : Cx) (n : Nat) (gi : Nat) (go : Obj) (gs : GenState), XG.prog = X.prog ∧ XG.w = X.w ∧ XG.pn = [(a, go)] ∧ (∀ h : Heap, h.get? a = some go → h.IsGen a gi) ∧ t.heap.NoLimit ∧ t.heap.get? a = some go ∧ t.gens[gi]? = some gs ∧
      gs.Goes (model X.prog X.w) (gA X) (gEnd XG (wipe σ (own.map (·.2))) Qe) (gPro XG (wipe σ (own.map (·.2))) on Qs) n (.send .none) (t.setGen gi .running) ∧
      ∀ H s, Inv XG [] (wipe σ (own.map (·.2))) H s → Inv X pins σ H s := by
  obtain ⟨it, fp, tn, code, gi, go, h5, g5, t5, I2, T, st, hfp, rfl, kp, hns, hb, hga, hlt, hgo, hgen, hgs⟩ := M.ex
  obtain ⟨m, hm⟩ := hm
  have hfr : (gA X).frames = some X.stack := I2.ok.frames
  have IG := gen_start (A := gA X) (code := code) (fp := fp) (t5 := t5) I2 ok hN hfp hA hfr kp hns hb hga hlt hgo
  refine ⟨gcx X s4 H2 (gEnv X scope s4.heap.objs.size code) (gA X) fp [(a, go)], m + 1, gi, go, _, rfl, rfl, rfl, hgen, IG.nolimit, hga, hgs, ⟨rfl, ?_⟩, fun H s J => gen_back I2 J fun b hb => (hfp b hb).1⟩
  refine gen_begin (P := X.prog) T st ?_
  refine gen_loop ok.co T (fun b hb p hp => ?_) (pg ..) (pt ..) (pe ..) ht m (m + 1) 0 _ _ H2 (Nat.lt_succ_self _) (Nat.le_refl _) hm (Inv.slept IG ⟨rfl, rfl, allBare_setGen hb rfl⟩) st fun b hb => (hfp b hb).1.1
  rw [List.mem_singleton] at hp
  subst hp
  exact Nat.ne_of_gt (Nat.lt_trans (hfp b hb).2 hlt)
theorem pe_allG {c P : Addr} {elt tg iter : Expr} {ifs : List Expr} {p pos gpos : Pos} {scope : Scope} {own : List (Str × Nat)} {wi : TI} {g : TG} {tt : TT} {te : TE} {k : Nat}
    (hr : Room k X.A) (hg : Gl X "all") (hm : X.mg "all" = none) (TB : GxR.TabB X.base X.mg c P) (hcode : X.env.code = .ref c) (ok : GOk X.N X.env.scope scope own) (hN : X.N.Nodup) (hi : PI X tg iter wi)
    (pg : GFr X scope fun Y => PG Y tg g) (pt : GFr X scope fun Y => PTs Y ifs tt) (pe : GFr X scope fun Y => PE Y elt te) (hs : ∀ v, genFold iter X.env v = pure v)
    (he : starEach [.GeneratorExp elt [⟨tg, iter, ifs, 0⟩] scope gpos] X.env = (false, eval (.GeneratorExp elt [⟨tg, iter, ifs, 0⟩] scope gpos) X.env) :: starEach [] X.env := by rfl) :
    PE X (.Call (.Name "all" p) [.GeneratorExp elt [⟨tg, iter, ifs, 0⟩] scope gpos] [] pos) (tGa true P wi g tt te (own.map (·.2))) := by
  refine ⟨fun pins s σ H Q I h => ?_⟩
  refine wpAny_Call_Name_kw (ld_blt I hg hm PyProof.Rows.boot_all ?_)
  refine PyProof.Rows.callWith_builtin1 ?_ he (by rfl)
  rw [he]
  show wpAny _ _ (spliced ((false, eval (.GeneratorExp elt [⟨tg, iter, ifs, 0⟩] scope gpos) X.env) :: backTo pos (starEach [] X.env))) _ _ s
  refine Calls.spliced_cons (gen_make hr TB hcode ok hi hs I h fun J H2 s4 t a ⟨W, Qe, Qs, hW, ht, q1, q2⟩ M => ?_)
  refine Calls.spliced_nil ?_
  obtain ⟨XG, n, gi, go, gs, e1, e2, e3, hgen, hl, hga, hgs, hgo, back⟩ := ga_goes hr.hd ok hN pg pt pe ht hW M
  refine call_function_tree F.kind_all F.plain_all F.entry_all (F.args_all1 _) ?_
  unfold Builtin.«all»
  refine wpAny_bind (m := oneArg "all" _) (wpAny_pure ?_)
  refine wpAny_bind (wpAny_pyIter_gen (hgen _ hga) ?_)
  refine wpAny_pure ⟨plainId_quiet F.plain_all_loop _, gen_all e1 e2 hr.hd (by have := hr.dp; show X.A.depth < _; omega) e3 hgen (fun b s1 ⟨H, J, z1, z2⟩ => ?_) n t gs hl hga hgs hgo⟩
  refine ⟨.bl b, H, back H s1 J, rfl, ?_⟩
  cases b with
  | true => exact q1 H (z1 rfl)
  | false => exact q2 H (z2 rfl)
end

def gaLoop (on : Bool) (g : BF) (t : TF) (f : DF) (δ : De) : List D → Wp D
  | [] => .pure (.bool on)
  | d :: ds => (optW (g d δ)).bind fun δ1 => (t δ1).bind fun b => if b then (f δ1).bind fun y => match y with
    | .bool k => if k = on then gaLoop on g t f δ ds else .pure (.bool k)
    | _ => .stuck else gaLoop on g t f δ ds
def dGa (on : Bool) (fi : De → Wp (List D)) (g : BF) (t : TF) (f : DF) (vs : List Nat) : DF := fun δ => (fi δ).bind fun ds => (gaLoop on g t f (dWipe δ vs) ds).nox
theorem Rep.gen {C : Cs} {S0 : Addr → Prop} {H0 Pb : Hp} {σ : St} {H G : Hp} {δ : De} (vs : List Nat) (R : Rep (C.bx S0 H0) Pb σ H δ) (g : Grow H G) :
    Rep (C.bx (Own (C.bx S0 H0) σ δ) G) (hid (Own (C.bx S0 H0) σ δ) G) (wipe σ vs) G (dWipe δ vs) := by
  have no : ∀ j ds, (dWipe δ vs)[j]? ≠ some (Sl.own ds) := fun j ds h => (dWipe_get (by intro z; cases z) h).2.2 ds rfl
  have own : ∀ b, Own (C.bx (Own (C.bx S0 H0) σ δ) G) (wipe σ vs) (dWipe δ vs) b ↔ Own (C.bx S0 H0) σ δ b := fun b =>
    ⟨fun z => z.elim id fun ⟨j, ds, e1, _⟩ => absurd e1 (no j ds), .inl⟩
  have le : Le (hid (Own (C.bx S0 H0) σ δ) H) (hid (Own (C.bx (Own (C.bx S0 H0) σ δ) G) (wipe σ vs) (dWipe δ vs)) G) := hid_le g.le fun b z => (own b).mp z
  refine ⟨hid_le (Le.refl G) fun b z => (own b).mp z, by rw [wipe_length, dWipe_len]; exact R.len, Grow.refl G, fun b z => g.dm b (R.odom b z), (R.gr g).tabs, fun j d h => ?_, fun j ds h => absurd h (no j ds), fun j k ds es b h => absurd h (no j ds), fun j x h => ?_, fun j b φ h => ?_, R.scr.gr (R.grow.trans g) (R.leB.trans (hid_le g.le fun _ z => z)) fun b z => .inl z⟩
  · obtain ⟨h1, h2, _⟩ := dWipe_get (by intro z; cases z) h
    obtain ⟨v, q1, q2⟩ := R.pers j d h2
    exact ⟨v, by rw [wipe_get, if_neg h1]; exact q1, Le.dp le _ v q2⟩
  · obtain ⟨h1, h2, _⟩ := dWipe_get (by intro z; cases z) h
    rw [wipe_get, if_neg h1]
    exact R.val j x h2
  · obtain ⟨h1, h2, _⟩ := dWipe_get (by intro z; cases z) h
    rw [wipe_get, if_neg h1]
    exact ⟨(R.trk j b φ h2).1, le b _ (R.trk j b φ h2).2 fun ps z => by cases z⟩
theorem Tabbed.grow {P : Addr} {H H' : Hp} (np : ∀ q, ¬ ProtC.p P q) (t : TabG H P) (h : Tabbed P H H') : Grow H H' := by
  obtain ⟨ps, e, tr⟩ := t
  refine ⟨fun b u e1 n => ?_, fun P' h' => ?_, fun b hb => ?_, fun P' q hp t => ?_⟩
  · have nb : b ≠ P := fun z => by
      rw [z, e] at e1
      exact n ps (Option.some.inj e1).symm
    rw [h.2 b nb]
    exact e1
  · by_cases c : P' = P
    · rw [c]; exact h.1
    · obtain ⟨qs, e1, tr1⟩ := h'
      exact ⟨qs, by rw [h.2 P' c]; exact e1, tr1⟩
  · by_cases c : b = P
    · obtain ⟨qs, e1, _⟩ := h.1
      rw [c, e1]
      exact fun z => nomatch z
    · rw [h.2 b c]; exact hb
  · have c : P' ≠ P := fun z => np q (z ▸ hp)
    obtain ⟨qs, e1, t1, t2⟩ := t
    refine ⟨qs, by rw [h.2 P' c]; exact e1, t1, fun pos cv hc => ?_⟩
    obtain ⟨c0, e2, e3⟩ := t2 pos cv hc
    have c1 : c0 ≠ P := fun z => by
      rw [z, e] at e3
      exact LamX.codeO_ne ps (Option.some.inj e3).symm
    exact ⟨c0, e2, by rw [h.2 c0 c1]; exact e3⟩
theorem ga_read {C : Cs} {W : WX} {on : Bool} {P : Addr} {wi : TI} {fi : De → Wp (List D)} {g : BF} {ix vs : List Nat} {t : TF} {f : DF} (hP : P ∈ C.T)
    (qw : ∀ S0 H0 Pb σ H δ Q, Rep (C.bx S0 H0) Pb σ H δ → (fi δ).run (fun ds => ∀ J G, Grow H G → Items C.K (hid (Own (C.bx S0 H0) σ δ) G) (obh C H0) ds J → Q J G) (Ew (C.bx S0 H0) W σ H) → wi σ H Q) (hix : ∀ i ∈ ix, i ∈ vs)
    {S0 : Addr → Prop} {H0 Pb : Hp} {σ : St} {H : Hp} {δ : De} {Q : VK} (R : Rep (C.bx S0 H0) Pb σ H δ)
    (h : (dGa on fi g t f vs δ).run (Dv (C.bx S0 H0) σ H δ Q) (Ew (C.bx S0 H0) W σ H)) :
    tGa on P wi (rG C ix g) (rT C W0 t) (rE C W0 f) vs σ H Q := by
  refine qw S0 H0 Pb σ H δ _ R ((fi δ).mono (fun ds h J G gr it => ?_) (fun _ z => z) h)
  have hT : TabG G P := gr.tb P (R.tabs P hP)
  refine ⟨hT, fun H2 hT2 => ?_⟩
  have g2 : Grow H H2 := gr.trans (Tabbed.grow (C.np P hP) hT hT2)
  have l2 : Le (hid (Own (C.bx S0 H0) σ δ) G) (hid (Own (C.bx S0 H0) σ δ) H2) := hid_le (Tabbed.grow (C.np P hP) hT hT2).le fun _ z => z
  obtain ⟨Gp, Y, w, hG, hY⟩ := it
  have h : (gaLoop on g t f (dWipe δ vs) ds).run (Dv (C.bx S0 H0) σ H δ Q) (fun _ => False) := h
  refine ⟨fun i m Hi => m = ds.length - i ∧ i ≤ ds.length ∧ Grow H2 Hi ∧ (gaLoop on g t f (dWipe δ vs) (ds.drop i)).run (Dv (C.bx S0 H0) σ H δ Q) (fun _ => False), fun G => Q (.bl on) G, fun G => Q (.bl (!on)) G, ⟨ds.length, by simp, Nat.zero_le _, Grow.refl _, h⟩, ?_, fun _ z => z, fun _ z => z⟩
  rintro i m Hi ⟨rfl, hi, gi, hr⟩
  have li : Le (hid (Own (C.bx S0 H0) σ δ) G) (hid (Own (C.bx S0 H0) σ δ) Hi) := l2.trans (hid_le gi.le fun _ z => z)
  have lb : Le (obh C H0) Hi := obh_le.trans (R.grow.trans (g2.trans gi)).le
  have gp : Gp Hi := hG Hi (li.trans hid_sub) lb
  by_cases hlt : i < ds.length
  · refine .inr ⟨w.goes i Hi hlt gp, fun G => Grow H2 G ∧ (gaLoop on g t f (dWipe δ vs) (ds.drop (i + 1))).run (Dv (C.bx S0 H0) σ H δ Q) (fun _ => False), fun G p' => ⟨ds.length - (i + 1), by omega, rfl, hlt, p'⟩, fun x Hi2 y => ?_⟩
    have dom : ∀ b, Own (C.bx S0 H0) σ δ b → Hi b ≠ none := fun b z => (g2.trans gi).dm b (R.odom b z)
    obtain ⟨gw, d, hd, dx⟩ := hY i Hi x Hi2 _ hlt li lb dom (w.yields i Hi x Hi2 hlt gp y)
    have ed : ds.drop i = d :: ds.drop (i + 1) := by
      rw [List.drop_eq_getElem_cons hlt]
      rw [List.getElem?_eq_getElem hlt] at hd
      rw [Option.some.inj hd]
    rw [ed] at hr
    obtain ⟨δ1, hg1, hr⟩ := optW_inv hr
    have g3 : Grow H Hi2 := (g2.trans gi).trans gw
    have RB := R.gen vs g3
    have ownB : ∀ b, Own (C.bx (Own (C.bx S0 H0) σ δ) Hi2) (wipe σ vs) (dWipe δ vs) b → Own (C.bx S0 H0) σ δ b := fun b z => by
      rcases z with z | ⟨j, es, e1, _⟩
      · exact z
      · exact absurd rfl ((dWipe_get (by intro z; cases z) e1).2.2 es)
    refine ⟨_, _, _, dWipe δ vs, d, δ1, RB, Le.dp (hid_le (Le.refl _) ownB) d x dx, hg1, fun σ2 R2 o2 w2 => ⟨?_, ?_⟩⟩
    · rw [w2 vs hix]
      apply List.ext_getElem?
      intro j
      rw [wipe_get, wipe_get]
      split
      · rename_i hj
        cases σ[j]? <;> rfl
      · rename_i hj
        rfl
    refine ⟨_, _, _, δ1, R2, (t δ1).mono (fun b hb H3 g3' => ?_) (fun x hx => hx.elim) hr⟩
    cases b with
    | false => exact ⟨(gi.trans gw).trans g3', hb⟩
    | true =>
      refine ⟨_, _, _, δ1, R2.gr g3', (f δ1).mono (fun yd hy v H4 g4 dv => ?_) (fun x hx => hx.elim) hb⟩
      have g5 : Grow H2 H4 := ((gi.trans gw).trans g3').trans g4
      cases dv with
      | bl k =>
        refine ⟨k, rfl, ?_⟩
        simp only [] at hy
        by_cases c : k = on
        · rw [if_pos c] at hy ⊢
          exact ⟨g5, hy⟩
        · rw [if_neg c] at hy ⊢
          have e : k = !on := by
            cases k <;> cases on <;> simp_all
          rw [← e]
          exact hy (.bl k) H4 (g2.trans g5) (.bl k)
      | _ => exact hy.elim
  · have e : i = ds.length := by omega
    subst e
    rw [List.drop_length] at hr
    have hr : Dv (C.bx S0 H0) σ H δ Q (.bool on) := hr
    exact .inl ⟨w.stops Hi gp, hr (.bl on) Hi (g2.trans gi) (.bl on)⟩
section
variable {X : Cx} {C : Cs} {W : WX} {c P : Addr} {elt tg iter : Expr} {ifs : List Expr} {p pos gpos : Pos} {scope : Scope} {own : List (Str × Nat)} {fi : De → Wp (List D)} {g : BF} {ix : List Nat} {t : TF} {f : DF} {k : Nat}
theorem de_allG (hr : Room k X.A) (hg : Gl X "all") (hm : X.mg "all" = none) (TB : GxR.TabB X.base X.mg c P) (hP : P ∈ C.T) (hcode : X.env.code = .ref c) (ok : GOk X.N X.env.scope scope own) (hix : ∀ i ∈ ix, i ∈ own.map (·.2)) (hN : X.N.Nodup) (hi : DI X C W tg iter fi)
    (pg : GFr X scope fun Y => DG Y C tg ix g) (pt : GFr X scope fun Y => DTs Y C W0 ifs t) (pe : GFr X scope fun Y => DE Y C W0 elt f) (hs : ∀ v, genFold iter X.env v = pure v := by intro _; rfl) :
    DE X C W (.Call (.Name "all" p) [.GeneratorExp elt [⟨tg, iter, ifs, 0⟩] scope gpos] [] pos) (dGa true fi g t f (own.map (·.2))) := by
  obtain ⟨wi, pw, qw⟩ := hi
  exact ⟨_, pe_allG hr hg hm TB hcode ok hN pw (fun s H C c fp pn => (pg s H C c fp pn).to) pt (fun s H C c fp pn => (pe s H C c fp pn).to) hs, fun S0 H0 Pb σ H δ Q R h => ga_read hP qw hix R h⟩
end
end Tr

namespace Tr
open PySem PySem.Spec L2
variable [ProtC]

section
variable {X : Cx} {C : Cs} {W : WX} {pos : Pos}
def sRow (i j : Nat) : SF := fun δ => (slotV δ[j]?).bind fun v => match v with
  | .ref a => (Wp.any fun (_ : Addr) => True).bind fun r => .pure (.nx (δ.set i (.t r (RowP r a))))
  | _ => .stuck
theorem Rep.setT {B : Bx} {Pb : Hp} {σ : St} {H G : Hp} {δ : De} {i : Nat} {a : Addr} {φ : Heap → Prop} (R : Rep B Pb σ H δ) (g : Grow H G) (na : H a = none) (ha : G a = some (.ext φ)) : Rep B Pb (σ.set i (some (.ref a))) G (δ.set i (.t a φ)) := by
  have R' := R.gr g
  have sub : ∀ b, Own B (σ.set i (some (.ref a))) (δ.set i (.t a φ)) b → Own B σ δ b := fun b z => by
    rcases z with z | ⟨j, es, e1, e2⟩
    · exact .inl z
    · rcases get_set_cases e1 with ⟨rfl, h1, h2⟩ | ⟨h1, h2⟩
      · cases h1
      · rw [List.getElem?_set_ne h1] at e2
        exact .inr ⟨j, es, h2, e2⟩
  have le : Le (hid (Own B σ δ) G) (hid (Own B (σ.set i (some (.ref a))) (δ.set i (.t a φ))) G) := hid_le (Le.refl G) sub
  have no : ¬ Own B (σ.set i (some (.ref a))) (δ.set i (.t a φ)) a := fun z => R.odom a (sub a z) na
  refine ⟨R'.ph.trans le, by rw [List.length_set, List.length_set]; exact R.len, R'.grow, R.dom, R'.tabs, fun j e h => ?_, fun j es h => ?_, fun j k es fs b h1 h2 h3 h4 => ?_, fun j x h => ?_, fun j b ψ h => ?_, R.scr⟩
  · rcases get_set_cases h with ⟨rfl, h1, h2⟩ | ⟨h1, h2⟩
    · cases h1
    · obtain ⟨u, q1, q2⟩ := R'.pers j e h2
      exact ⟨u, by rw [List.getElem?_set_ne h1]; exact q1, Le.dp le _ u q2⟩
  · rcases get_set_cases h with ⟨rfl, h1, h2⟩ | ⟨h1, h2⟩
    · cases h1
    · obtain ⟨b, ys, q1, q2, q3, q4⟩ := R'.own j es h2
      exact ⟨b, ys, by rw [List.getElem?_set_ne h1]; exact q1, q2, q3, q4.le le⟩
  · rcases get_set_cases h1 with ⟨e1, z1, l1⟩ | ⟨n1, g1⟩
    · cases z1
    · rcases get_set_cases h2 with ⟨e2, z2, l2⟩ | ⟨n2, g2⟩
      · cases z2
      · rw [List.getElem?_set_ne n1] at h3
        rw [List.getElem?_set_ne n2] at h4
        exact R.uniq j k es fs b g1 g2 h3 h4
  · rcases get_set_cases h with ⟨_, z, _⟩ | ⟨n1, g1⟩
    · cases z
    · rw [List.getElem?_set_ne n1]
      exact R.val j x g1
  · rcases get_set_cases h with ⟨rfl, z, l1⟩ | ⟨n1, g1⟩
    · cases z
      refine ⟨List.getElem?_set_self (by rw [R.len]; exact l1), ?_⟩
      rw [hid_in no]
      exact ha
    · rw [List.getElem?_set_ne n1]
      exact ⟨(R'.trk j b ψ g1).1, le b _ (R'.trk j b ψ g1).2 fun ps z => by cases z⟩
theorem ds_row {i j : Nat} {x y : Str} {p1 p2 p3 p4 p5 p6 : Pos} {c : Int} {j1 j2 j3} (hc : 0 ≤ c ∧ c < 4294967296) (hN : X.N.Nodup) (hi : X.N[i]? = some x) (hx : Loc X.env.scope x) (hj : X.N[j]? = some y) (hv : Vis X.env.scope y)
    (hs : swapsWith (.List [.Name y p2, .Constant (.int 0) j1 p3, .Constant (.int c) j2 p4, .Constant (.int 0) j3 p5] p6) (some (.Name x p1)) pos.line X.env = pure false := by rfl)
    (hd : (y == ("__debug__" : Str)) = false := by decide) (hcd : (y == ("__classdict__" : Str)) = false := by decide)
    (hst : starEach [.Name y p2, .Constant (.int 0) j1 p3, .Constant (.int c) j2 p4, .Constant (.int 0) j3 p5] X.env = (false, eval (.Name y p2) X.env) :: starEach [.Constant (.int 0) j1 p3, .Constant (.int c) j2 p4, .Constant (.int 0) j3 p5] X.env := by rfl)
    (hf : X.fn x = true ∨ X.env.scope.names.lookup x = some .local := by first | exact .inl rfl | exact .inr rfl | assumption) :
    DS X C W (.Assign [.Name x p1] (.List [.Name y p2, .Constant (.int 0) j1 p3, .Constant (.int c) j2 p4, .Constant (.int 0) j3 p5] p6) pos) (sRow i j) := by
  refine ⟨_, ps_mkRow (ps_set hN hi hx (pe_lst (pa_cons (pe_var hj hv hd hcd) (pa_cons pe_int (pa_cons pe_int (pa_cons pe_int pa_nil))) hst)) hs hf), fun S0 H0 Pb σ H δ E R h => ?_⟩
  unfold sRow slotV at h
  split at h
  · rename_i v e
    have h0 := R.val j v e
    cases v with
    | ref a =>
      refine ⟨_, h0, by show 4 ≤ sizeLine; decide, fun p np => ?_⟩
      refine ⟨p, a, 0, c, 0, ⟨by omega, hc.1, hc.2⟩, upd_same, ?_⟩
      have h1 := h p trivial
      have e2 : upd (upd H p (.lst [.ref a, .int 0, .int c, .int 0])) p (.ext (RowP p a)) = upd H p (.ext (RowP p a)) := by
        funext b
        by_cases hb : b = p
        · rw [hb, upd_same, upd_same]
        · rw [upd_ne hb, upd_ne hb, upd_ne hb]
      show E.nx _ (upd (upd H p (.lst [.ref a, .int 0, .int c, .int 0])) p (.ext (RowP p a)))
      rw [e2]
      exact h1 _ _ (R.setT (Grow.new np) np upd_same)
    | _ => exact h.elim
  · exact h.elim
end
abbrev tIxC (K : PySem.W.Frag) (k : Int) : TE := tOp (rIx K) (tVar 0) (tC (.int k))
abbrev rInt1 : List V → Hp → VK → Prop := fun xs H Q => (∃ i, xs = [V.int i] ∧ Q (V.int i) H) ∨ ∃ k, xs = [V.bl k] ∧ Q (V.int (if k = true then 1 else 0)) H
abbrev tI1 (e : TE) : TE := tCB rInt1 (tCons e tNil)
abbrev rMod1 : R2 := rI (fun _ j => 0 < j) fun i j => .int (i % j)
abbrev rFdv1 : R2 := rI CDivW fun i j => .int (i / j)
abbrev rMul1 : R2 := rI CMulW fun i j => .int (i * j)
abbrev rAdd1 : R2 := rI0 fun i j => .int (i + j)
abbrev tPut (k : Int) (e : TE) : TS := tAsg e (gSub (tVar 0) (tC (.int k)) rSetL)
def t_taken (K : PySem.W.Frag) : TS :=
  tSeq (tIfS (tTest (tOp (rI0 fun i j => .bl (decide (j < i))) (tIxC K 3) (tC (.int 0)))) (tSeq (tAsg (tOp rMod1 (tI1 (tIxC K 3)) (tVar 1)) (gName 2)) (tSeq (tPut 3 (tOp rFdv1 (tIxC K 3) (tVar 1))) (tRet (tVar 2)))) tNext)
  (tSeq (tPut 1 (tOp rAdd1 (tIxC K 1) (tC (.int 1))))
  (tSeq (tIfS (tTest (tOp (rI0 fun i j => .bl (decide (j < i))) (tIxC K 1) (tCB (fun xs H Q => ∃ x n, xs = [x] ∧ LenV K x H n ∧ Q (.int n) H) (tCons (tIxC K 0) tNil))))
    (tSeq (tPut 2 (tOp rMod1 (tI1 (tOp rAdd1 (tOp rMul1 (tIxC K 2) (tC (.int 48271))) (tC (.int 11)))) (tC (.int 2147483647)))) (tRet (tOp rMod1 (tI1 (tOp rFdv1 (tIxC K 2) (tC (.int 7)))) (tVar 1)))) tNext)
  (tSeq (tAsg (tOp (rIx K) (tIxC K 0) (tOp (rI0 fun i j => .int (i - j)) (tIxC K 1) (tC (.int 1)))) (gName 3))
  (tSeq (tPut 2 (tOp rMod1 (tI1 (tOp rAdd1 (tOp rAdd1 (tOp rMul1 (tIxC K 2) (tC (.int 48271))) (tVar 3)) (tC (.int 11)))) (tC (.int 2147483647))))
  (tSeq (tIfS (tTest (tOp (rI0 fun i j => .bl (decide (j ≤ i))) (tVar 3) (tOp (rI CPow fun i j => .int (i ^ j.toNat)) (tC (.int 10)) (tC (.int 18))))) (tPut 3 (tOp rFdv1 (tVar 3) (tVar 1))) tNext)
  (tRet (tOp rMod1 (tI1 (tVar 3)) (tVar 1))))))))
section
variable {K : PySem.W.Frag} {r a : Addr} {ns : List Int} {m : Int} {σ : St} {G : Hp} {Q : VK} {D : Ends} {i j k : Int}
theorem ixc {k : Int} {v : V} {xs : List V} (h0 : σ[0]? = some (some (.ref r))) (hg : G r = some (.lst xs)) (e : atI xs k = some v) (q : Q v G) : tIxC K k σ G Q := ⟨_, h0, .inl ⟨r, xs, k, v, rfl, rfl, SqL.of hg, e, q⟩⟩
theorem put {k : Int} {n : Nat} {v : V} {xs : List V} (h0 : σ[0]? = some (some (.ref r))) (hg : G r = some (.lst xs)) (e : ixN xs.length k = some n) (q : D.nx σ (upd G r (.lst (xs.set n v)))) : gSub (tVar 0) (tC (.int k)) rSetL v σ G D.nx := ⟨_, h0, r, xs, k, n, rfl, rfl, hg, e, q⟩
theorem cMulRow {j : Int} (h0 : 0 ≤ j) (h1 : j < 4294967296) : CMulW j 48271 := by
  have h2 : j.natAbs.log2 < 32 := by
    rcases Nat.eq_zero_or_pos j.natAbs with z | z
    · rw [z]; decide
    · exact (Nat.log2_lt (by omega)).mpr (by show j.natAbs < 2 ^ 32; omega)
  have h3 : (48271 : Int).natAbs.log2 = 15 := by decide +kernel
  show j.natAbs.log2 + (48271 : Int).natAbs.log2 < 1000000
  rw [h3]
  omega
theorem cDiv30 {i m : Int} (h0 : 0 < m) (h1 : m < 1073741824) : CDivW i m := by
  refine ⟨h0, ?_⟩
  have : m.natAbs.log2 < 30 := (Nat.log2_lt (by omega)).mpr (by show m.natAbs < 2 ^ 30; omega)
  omega
def RowAt (G : Hp) (r a : Addr) : Prop := ∃ i j k, RowI i j ∧ G r = some (rowL a i j k)
theorem iftt {c : Prop} [Decidable c] {A B : Prop} (h1 : c → A) (h2 : ¬ c → B) : if decide c = true then A else B := by
  by_cases h : c
  · rw [if_pos (decide_eq_true h)]
    exact h1 h
  · rw [if_neg (by simpa using h)]
    exact h2 h
theorem taken_runs (hm : 0 < m ∧ m < 1073741824) (hi : RowI i j) (hG : G r = some (rowL a i j k)) (hS : ∀ G', (∀ b, b ≠ r → G' b = G b) → SqL K G' a (ns.map V.int))
    (hD : ∀ n G', 0 ≤ n → n < m → (∀ b, b ≠ r → G' b = G b) → RowAt G' r a → D.rt (.int n) G') : t_taken K D [some (.ref r), some (.int m), none, none] G := by
  have md : ∀ x : Int, 0 ≤ x % m ∧ x % m < m := fun x => ⟨Int.emod_nonneg _ (by omega), Int.emod_lt_of_pos _ hm.1⟩
  have m2 : ∀ x : Int, 0 ≤ x % 2147483647 ∧ x % 2147483647 < 4294967296 := fun x => ⟨Int.emod_nonneg _ (by decide), by have := Int.emod_lt_of_pos x (show (0 : Int) < 2147483647 by decide); omega⟩
  have hdv : ∀ x, CDivW x m := fun x => cDiv30 hm.1 hm.2
  have h7 : ∀ x, CDivW x 7 := fun x => cDiv30 (by decide) (by decide)
  have hp : CPow 10 18 := ⟨by decide, by decide, by decide +kernel⟩
  have hmul := cMulRow hi.2.1 hi.2.2
  have ne : ∀ {G' : Hp} {u : HO}, (∀ b, b ≠ r → G' b = G b) → ∀ b, b ≠ r → upd G' r u b = G b := fun h b hb => by rw [upd_ne hb]; exact h b hb
  refine ixc rfl hG rfl ⟨_, _, rfl, rfl, _, rfl, iftt (fun c => ?_) fun c => ?_⟩
  · refine ixc rfl hG rfl (.inl ⟨_, rfl, _, rfl, _, _, rfl, rfl, hm.1, ?_⟩)
    refine ixc rfl hG rfl ⟨_, rfl, _, _, rfl, rfl, hdv _, ?_⟩
    refine ⟨_, rfl, r, _, 3, 3, rfl, rfl, hG, rfl, ?_⟩
    exact ⟨_, rfl, hD _ _ (md k).1 (md k).2 (fun b hb => upd_ne hb) ⟨i, j, k / m, hi, upd_same⟩⟩
  · refine ixc rfl hG rfl ⟨_, _, rfl, rfl, ?_⟩
    refine ⟨_, rfl, r, _, 1, 1, rfl, rfl, hG, rfl, ?_⟩
    have n1 : ∀ b, b ≠ r → upd G r (rowL a (i + 1) j k) b = G b := fun b hb => upd_ne hb
    have g1 : upd G r (rowL a (i + 1) j k) r = some (rowL a (i + 1) j k) := upd_same
    have i1 : RowI (i + 1) j := ⟨by have := hi.1; omega, hi.2⟩
    revert n1 g1
    show (∀ b, b ≠ r → upd G r (.lst [.ref a, .int (i + 1), .int j, .int k]) b = G b) → upd G r (.lst [.ref a, .int (i + 1), .int j, .int k]) r = some (rowL a (i + 1) j k) → _
    show _ → _ → tSeq _ _ D _ (upd G r (.lst [.ref a, .int (i + 1), .int j, .int k]))
    generalize upd G r (.lst [.ref a, .int (i + 1), .int j, .int k]) = G1
    intro n1 g1
    refine ixc rfl g1 rfl (ixc rfl g1 rfl ⟨_, ns.length, rfl, ?_, _, _, rfl, rfl, _, rfl, iftt (fun c2 => ?_) fun c2 => ?_⟩)
    · exact .inl ⟨_, hS G1 n1, by rw [List.length_map]⟩
    · refine ixc rfl g1 rfl ⟨_, _, rfl, rfl, hmul, _, _, rfl, rfl, .inl ⟨_, rfl, _, _, rfl, rfl, (by show (0 : Int) < 2147483647; decide), ?_⟩⟩
      refine ⟨_, rfl, r, _, 2, 2, rfl, rfl, g1, rfl, ?_⟩
      refine ixc (xs := [.ref a, .int (i + 1), .int ((j * 48271 + 11) % 2147483647), .int k]) rfl upd_same rfl ⟨_, _, rfl, rfl, h7 _, .inl ⟨_, rfl, _, rfl, _, _, rfl, rfl, hm.1, ?_⟩⟩
      exact hD _ _ (md _).1 (md _).2 (ne n1) ⟨i + 1, _, k, ⟨i1.1, m2 _⟩, upd_same⟩
    · have c3 : i + 1 ≤ (ns.length : Int) := by omega
      obtain ⟨n, rfl⟩ : ∃ n : Nat, i = n := ⟨i.toNat, by have := hi.1; omega⟩
      have hn : n < ns.length := by omega
      have e1 : atI (ns.map V.int) ((n : Int) + 1 - 1) = some (.int ns[n]) := by
        have e0 : (n : Int) + 1 - 1 = n := by omega
        rw [e0]
        unfold atI ixN
        rw [if_pos (by omega), if_pos (by rw [List.length_map]; omega)]
        simp [hn]
      refine ixc rfl g1 rfl (ixc rfl g1 rfl ⟨_, _, rfl, rfl, .inl ⟨a, ns.map V.int, _, _, rfl, rfl, hS G1 n1, e1, ?_⟩⟩)
      refine ixc rfl g1 rfl ⟨_, _, rfl, rfl, hmul, _, rfl, _, _, rfl, rfl, _, _, rfl, rfl, .inl ⟨_, rfl, _, _, rfl, rfl, (by show (0 : Int) < 2147483647; decide), ?_⟩⟩
      refine ⟨_, rfl, r, _, 2, 2, rfl, rfl, g1, rfl, ?_⟩
      refine ⟨_, rfl, _, _, rfl, rfl, hp, _, _, rfl, rfl, _, rfl, iftt (fun c4 => ?_) fun c4 => ?_⟩
      · refine ⟨_, rfl, _, rfl, _, _, rfl, rfl, hdv _, ?_⟩
        refine ⟨_, rfl, r, [.ref a, .int (n + 1), .int ((j * 48271 + ns[n] + 11) % 2147483647), .int k], 3, 3, rfl, rfl, upd_same, rfl, ?_⟩
        refine ⟨_, rfl, .inl ⟨_, rfl, _, rfl, _, _, rfl, rfl, hm.1, ?_⟩⟩
        exact hD _ _ (md _).1 (md _).2 (ne (ne n1)) ⟨n + 1, _, _, ⟨i1.1, m2 _⟩, upd_same⟩
      · refine ⟨_, rfl, .inl ⟨_, rfl, _, rfl, _, _, rfl, rfl, hm.1, ?_⟩⟩
        exact hD _ _ (md _).1 (md _).2 (ne n1) ⟨n + 1, _, k, ⟨i1.1, m2 _⟩, upd_same⟩
end
theorem taken_ok {P : Program} {w : World} {C : Cs} {base : Heap} {x qual : Str} {params : Arguments} {body : List Stmt} {scope : Scope} {fa : Addr} {fd : FuncData} {x1 x2 x3 x4 : Str} {k : Nat}
    (F : FunD C.K x qual params body scope [] [] fa fd) (S : FnScope [x1, x2, x3, x4] [x1, x2] scope) (hb : ∀ (cdv : Value) (A : Around) (outer : List Env) (s : Shared) (H : Hp) (E : XK), PSs (cxOf (L2.CX P w) P w C.K C.mg base [x1, x2, x3, x4] qual scope fa cdv A outer s H E) body (t_taken C.K)) :
    FnOk P w C.K C.mg base (L2.CX P w) (k + 1) fa fd [x1, x2] (spD C 2 (fTaken C)) := by
  refine F.ok S spD_len fun cdv A outer s H vs Q E hr ⟨Sx, as, hn, dom, tabs, scr, ok, hw⟩ => ⟨tRow (t_taken C.K), pss_row (hb cdv A outer s H E), ?_⟩
  unfold fTaken at hw
  split at hw
  · rename_i r φ m
    obtain ⟨⟨⟨q, hq, rfl, hl⟩, h1, h2⟩, hk⟩ := hw
    match vs, ok with
    | [v, u], ⟨d1, d2, _⟩ =>
      obtain ⟨rfl, hr1⟩ := d1
      have d2 : Dp C.K (hid Sx H) u (.int m) := d2
      cases d2
      have hH := (of_hid hr1).2
      refine ⟨r, q.1, hH, fun i j k hi => ?_⟩
      refine taken_runs (ns := q.2) (i := i) (j := j) (k := k) ⟨h1, h2⟩ hi upd_same (fun G' hG' => ?_) fun n G' n0 nm hG' hR => ?_
      · rcases scr.1 q hq with z | z
        · refine .inl ?_
          rcases z with z | ⟨o, z⟩
          · exact .inl (by rw [hG' _ (ne_of z hH fun y => by cases y), upd_ne (ne_of z hH fun y => by cases y)]; exact z)
          · exact .inr ⟨o, by rw [hG' _ (ne_of z hH fun y => by cases y), upd_ne (ne_of z hH fun y => by cases y)]; exact z⟩
        · exact .inr z
      · obtain ⟨i', j', k', hi', hG⟩ := hR
        have e : upd G' r (.ext (RowP r q.1)) = H := by
          funext b
          by_cases hb : b = r
          · rw [hb, upd_same, hH]
          · rw [upd_ne hb, hG' b hb, upd_ne hb]
        refine ⟨i', j', k', hi', hG, ?_⟩
        rw [e]
        exact hk (.int n) ⟨n, rfl, n0, nm⟩ (.int n) H (Grow.refl H) (.int n)
    | [], ok => exact ok.elim
    | [_], ok => exact ok.2.elim
    | _ :: _ :: _ :: _, ok => exact ok.2.2.elim
  · exact hw.elim
end Tr

namespace Tr
open PySem PySem.Spec L2
variable [ProtC]

structure Dn (P : Program) (w : World) (C : Cs) (base : Heap) (x : Str) (n k : Nat) (F : List Ar → Wp D) : Prop where
  ex : ∃ (fa : Addr) (fd : FuncData) (ps : List Str), C.mg x = some (.ref fa) ∧ PySem.W.keepIn C.K (.ref fa) = true ∧ Binds C.K fd ps [] ∧ FnOk P w C.K C.mg base (L2.CX P w) k fa fd ps (spD C n F)
section
variable {X : Cx} {C : Cs} {W : WX} {pos p : Pos} {e : Expr} {es : List Expr} {r : AF} {x : Str} {k k' n : Nat} {F : List Ar → Wp D}
theorem de_callN (hK : C.K = X.K) (hmg : C.mg = X.mg) (tk : Takes X W) (G : Dn X.prog X.w C X.base x n k F) (hr : Room k' X.A) (hk : k ≤ k') (hg : Gl X x) (ha : DA X C W (e :: es) r)
    (hdb : (x == ("__debug__" : Str)) = false := by decide) (he : starEach (e :: es) X.env = (false, eval e X.env) :: starEach es X.env := by rfl) (hpl : (backTo pos (starEach es X.env)).any (·.1) = false := by rfl) :
    DE X C W (.Call (.Name x p) (e :: es) [] pos) (dCall n F r) := by
  obtain ⟨fa, fd, ps, h1, h2, h3, h4⟩ := G.ex
  rw [hK, hmg] at h4
  rw [hK] at h2 h3
  rw [hmg] at h1
  exact de_call hK tk h4 (hr.mono hk) hg h1 h2 h3 ha hdb he hpl
variable {a b : Expr} {f g : DF}
theorem dt_lt (ha : DE X C W a f) (hb : DE X C W b g) : DT X C W (.Compare a [.Lt] [b] pos) (tBv (d2 dLt f g)) := dt_cmp op_lt (o2_0 fun _ _ _ => .bl _) (nomark _) ha hb
theorem dt_gt (ha : DE X C W a f) (hb : DE X C W b g) : DT X C W (.Compare a [.Gt] [b] pos) (tBv (d2 dGt f g)) := dt_cmp op_gt (o2_0 fun _ _ _ => .bl _) (nomark _) ha hb
theorem dt_eq (hK : C.K = X.K) (hr : Room k X.A) (ha : DE X C W a f) (hb : DE X C W b g) : DT X C W (.Compare a [.Eq] [b] pos) (tBv (d2 dEq f g)) := dt_cmp (op_eqD hr.units) (by rw [← hK]; exact o2_eq) (nomark _) ha hb
theorem dt_ne (hK : C.K = X.K) (hr : Room k X.A) (ha : DE X C W a f) (hb : DE X C W b g) : DT X C W (.Compare a [.NotEq] [b] pos) (tBv (d2 dNe f g)) := dt_cmp (op_neD hr.units) (by rw [← hK]; exact o2_ne) (nomark _) ha hb
end
section
variable {P : Program} {w : World} {C : Cs} {base : Heap} {x qual : Str} {params : Arguments} {body : List Stmt} {scope : Scope} {fa : Addr} {fd : FuncData} {N ps : List Str} {k : Nat} {bd : SF}
abbrev cxN (P : Program) (w : World) (C : Cs) (base : Heap) (N : List Str) (qual : Str) (scope : Scope) (fa : Addr) (cdv : Value) (A : Around) (outer : List Env) (s : Shared) (H : Hp) (E : XK) : Cx := cxOf (L2.CX P w) P w C.K C.mg base N qual scope fa cdv A outer s H E
abbrev wxN (E : XK) : WX := fun cls d _ H' => E cls d H'
theorem takesN {cdv : Value} {A : Around} {outer : List Env} {s : Shared} {H : Hp} {E : XK} : Takes (cxN P w C base N qual scope fa cdv A outer s H E) (wxN E) := takes_of rfl rfl rfl rfl
theorem ownsN {cdv : Value} {A : Around} {outer : List Env} {s : Shared} {H : Hp} {E : XK} : PassesOwn (model P w) (cxN P w C base N qual scope fa cdv A outer s H E).A (cxN P w C base N qual scope fa cdv A outer s H E).env (cxN P w C base N qual scope fa cdv A outer s H E).xe :=
  passes_of (X := cxN P w C base N qual scope fa cdv A outer s H E) rfl
theorem takes0 {X : Cx} : Takes X W0 := LamX.takes0
theorem Dn.mk' (F : FunD C.K x qual params body scope [] [] (He.ga C.K x) fd) (S : FnScope N ps scope) (hg : C.mg x = some (.ref (He.ga C.K x))) (hn : ps.length = n)
    (hbi : ∀ (kV doc pm : Value) (an : Option Addr) (cdv ct : Value) (us : List Value), us.length = ps.length → bindArgs (PySem.W.fnOf x qual params body scope .none kV doc pm an cdv ct) ⟨us, []⟩ = pure (ps.zip us))
    (hb : ∀ (A : Around) (outer : List Env) (s : Shared) (H : Hp) (E : XK), Room k (A.deeper (PyProof.Rows.envOfC qual scope s.heap.objs.size (He.ga C.K x) (.ref (He.codeOf C.K (x, none))))) →
      DSs (cxN P w C base N qual scope (He.ga C.K x) (.ref (He.codeOf C.K (x, none))) A outer s H E) C (wxN E) body bd) :
    Dn P w C base x n (k + 1) (dRun N.length bd) := by
  refine ⟨_, fd, ps, hg, F.kp, F.bindsN hbi, ?_⟩
  subst hn
  obtain ⟨oc, od, dV, kV, doc, pm, an, cdv, ct, osl, rfl, lk, hcd, _, _⟩ := F.ex
  obtain ⟨c, hc⟩ := He.codeIn_ref hcd
  have ec : He.codeOf C.K (x, none) = c := He.codeOf_eq (p := (x, none)) lk hc
  subst hc
  rw [ec] at hb
  refine fn_of lk hcd S spD_len fun A outer s H vs Q E hr ⟨Sx, as, hn, dom, tabs, scr, ok, hw⟩ => ?_
  obtain ⟨t, p, q⟩ := hb A outer s H E hr
  refine ⟨t, p, q Sx H (hid Sx H) (L2.start N vs) H (dStart N.length as) _ (start_rep dom tabs scr ok) ((bd (dStart N.length as)).mono (fun o ho => ?_) (fun y hy cls dc σ G g ex => hy cls dc G g ex) hw)⟩
  cases o with
  | nx δ' => exact fun σ' H' R' => ho .non H' R'.grow .non
  | rt d => exact ho
  | bk δ' => exact ho.elim
  | ct δ' => exact ho.elim
theorem Dn.taken {x1 x2 x3 x4 : Str} (F : FunD C.K x qual params body scope [] [] (He.ga C.K x) fd) (S : FnScope [x1, x2, x3, x4] [x1, x2] scope) (hg : C.mg x = some (.ref (He.ga C.K x)))
    (hbi : ∀ (kV doc pm : Value) (an : Option Addr) (cdv ct : Value) (us : List Value), us.length = 2 → bindArgs (PySem.W.fnOf x qual params body scope .none kV doc pm an cdv ct) ⟨us, []⟩ = pure ([x1, x2].zip us))
    (hb : ∀ (cdv : Value) (A : Around) (outer : List Env) (s : Shared) (H : Hp) (E : XK), PSs (cxN P w C base [x1, x2, x3, x4] qual scope (He.ga C.K x) cdv A outer s H E) body (t_taken C.K)) :
    Dn P w C base x 2 (k + 1) (fTaken C) := ⟨_, fd, [x1, x2], hg, F.kp, F.bindsN (ps := [x1, x2]) hbi, taken_ok F S hb⟩
end
def dNeg : D → Wp D
  | .int i => .pure (.int (-i))
  | _ => .stuck
section
variable {X : Cx} {C : Cs} {W : WX} {pos : Pos} {a : Expr} {f : DF}
theorem de_neg (ha : DE X C W a f) : DE X C W (.UnaryOp .USub a pos) (d1 dNeg f) := by
  obtain ⟨t, pt, q⟩ := ha
  refine ⟨_, pe_un un_neg pt, fun S0 H0 Pb σ H δ Q R h => q S0 H0 Pb σ H δ _ R ((f δ).mono (fun d h v G g dp => ?_) (fun _ z => z) h)⟩
  cases dp with
  | int i => exact ⟨i, rfl, h _ G g (.int _)⟩
  | _ => exact h.elim
theorem de_globI {x : Str} {i : Int} (hg : Gl X x) (hm : ∃ t, X.mg x = some (.int i t)) (hd : (x == ("__debug__" : Str)) = false := by decide) : DE X C W (.Name x pos) (dC (.int i)) := by
  obtain ⟨t, hm⟩ := hm
  exact de_glob (v := .int i) hg hm ⟨t, rfl⟩ (fun _ => .int i) hd
end
end Tr

namespace Tr
open PySem PySem.Spec L2
variable [ProtC]

section
variable {X : Cx} {C : Cs} {W : WX} {pos : Pos} {i j : Nat} {x y : Str} {a b : Expr} {px py pt : Pos} {kt k2 pt2} {f : DF} {fl fl2 : De → Wp (List D)}
def sParDO (i j : Nat) (f : DF) (fl : De → Wp (List D)) : SF := fun δ => (f δ).bind fun d => (fl δ).bind fun ds => .pure (.nx ((δ.set j (.o ds)).set i (.p d)))
def sParOD (i j : Nat) (fl : De → Wp (List D)) (f : DF) : SF := fun δ => (fl δ).bind fun ds => (f (dWipe δ [])).nox.bind fun d => .pure (.nx ((δ.set i (.o ds)).set j (.p d)))
def sParOO (i j : Nat) (fl fl2 : De → Wp (List D)) : SF := fun δ => (fl δ).bind fun ds => (fl2 (dWipe δ [])).nox.bind fun es => .pure (.nx ((δ.set i (.o ds)).set j (.o es)))
theorem ds_parDO (hc : X.calm = true) (hN : X.N.Nodup) (hi : X.N[i]? = some x) (hj : X.N[j]? = some y) (hij : i ≠ j)
    (hx : X.env.scope.names.lookup x = some .local) (hy : X.env.scope.names.lookup y = some .local) (ha : DE X C W a f) (hb : DN X C W b fl) (hw : swappedStores [.Tuple [.Name x px, .Name y py] kt pt] (.Tuple [a, b] k2 pt2) X.env = pure (some [x, y]))
    (hs : swapsWithSole [.Tuple [.Name x px, .Name y py] kt pt] (.Tuple [a, b] k2 pt2) pos.line X.env = pure false := by rfl)
    (h1 : starEach [a, b] X.env = (false, eval a X.env) :: starEach [b] X.env := by rfl) (h2 : starEach [b] X.env = (false, eval b X.env) :: starEach [] X.env := by rfl) :
    DS X C W (.Assign [.Tuple [.Name x px, .Name y py] kt pt] (.Tuple [a, b] k2 pt2) pos) (sParDO i j f fl) := by
  obtain ⟨t, p, q⟩ := ha
  obtain ⟨u, p2, q2⟩ := hb
  refine ⟨_, ps_par hc hN hi hj hij hx hy (pa_cons p (pa_cons p2 pa_nil h2) h1) hw hs, fun S0 H0 Pb σ H δ E R h => q S0 H0 Pb σ H δ _ R ((f δ).mono (fun d h v G g dp => ?_) (fun _ z => z.ew R) h)⟩
  have R1 := R.gr g
  refine q2 S0 H0 Pb σ G δ _ R1 ((fl δ).mono (fun ds h l xs G2 g2 na hl dps => ?_) (fun _ z => z.ew R1) h)
  refine ⟨_, _, rfl, ?_⟩
  have le := (R1.top.setO (i := j) g2 na hl dps).ph
  have R2 := R1.setO (i := j) g2 na hl dps
  rw [List.set_comm _ _ hij]
  exact h _ G2 (R2.setP (i := i) (Le.dp le d v dp))
theorem ds_parOD (hc : X.calm = true) (hN : X.N.Nodup) (hi : X.N[i]? = some x) (hj : X.N[j]? = some y) (hij : i ≠ j)
    (hx : X.env.scope.names.lookup x = some .local) (hy : X.env.scope.names.lookup y = some .local) (ha : DN X C W a fl) (hb : DE X C W b f) (hw : swappedStores [.Tuple [.Name x px, .Name y py] kt pt] (.Tuple [a, b] k2 pt2) X.env = pure (some [x, y]))
    (hs : swapsWithSole [.Tuple [.Name x px, .Name y py] kt pt] (.Tuple [a, b] k2 pt2) pos.line X.env = pure false := by rfl)
    (h1 : starEach [a, b] X.env = (false, eval a X.env) :: starEach [b] X.env := by rfl) (h2 : starEach [b] X.env = (false, eval b X.env) :: starEach [] X.env := by rfl) :
    DS X C W (.Assign [.Tuple [.Name x px, .Name y py] kt pt] (.Tuple [a, b] k2 pt2) pos) (sParOD i j fl f) := by
  obtain ⟨t, p, q⟩ := ha
  obtain ⟨u, p2, q2⟩ := hb
  refine ⟨_, ps_par hc hN hi hj hij hx hy (pa_cons p (pa_cons p2 pa_nil h2) h1) hw hs, fun S0 H0 Pb σ H δ E R h => q S0 H0 Pb σ H δ _ R ((fl δ).mono (fun ds h l xs G g na hl dps => ?_) (fun _ z => z.ew R) h)⟩
  have RB := R.blk [] g na hl
  have h : (f (dWipe δ [])).run _ (fun _ => False) := h
  refine q2 _ _ _ σ G (dWipe δ []) _ RB ((f (dWipe δ [])).mono (fun d h v G2 g2 dp => ?_) (fun _ z => z.elim) h)
  refine ⟨_, _, rfl, ?_⟩
  have R2 := (R.setO (i := i) g na hl dps).gr g2
  refine h _ G2 (R2.setP (i := j) (Le.dp (hid_le (Le.refl G2) fun c z => ?_) d v dp))
  rcases z with z | ⟨m, es, e1, e2⟩
  · exact .inl (.inl (.inl z))
  · rcases get_set_cases e1 with ⟨e3, e4, e5⟩ | ⟨e3, e4⟩
    · subst e3
      rw [List.getElem?_set_self (by rw [R.len]; exact e5)] at e2
      cases e2
      exact .inl (.inr rfl)
    · rw [List.getElem?_set_ne e3] at e2
      exact .inl (.inl (.inr ⟨m, es, e4, e2⟩))
theorem ds_parOO (hc : X.calm = true) (hN : X.N.Nodup) (hi : X.N[i]? = some x) (hj : X.N[j]? = some y) (hij : i ≠ j)
    (hx : X.env.scope.names.lookup x = some .local) (hy : X.env.scope.names.lookup y = some .local) (ha : DN X C W a fl) (hb : DN X C W b fl2) (hw : swappedStores [.Tuple [.Name x px, .Name y py] kt pt] (.Tuple [a, b] k2 pt2) X.env = pure (some [x, y]))
    (hs : swapsWithSole [.Tuple [.Name x px, .Name y py] kt pt] (.Tuple [a, b] k2 pt2) pos.line X.env = pure false := by rfl)
    (h1 : starEach [a, b] X.env = (false, eval a X.env) :: starEach [b] X.env := by rfl) (h2 : starEach [b] X.env = (false, eval b X.env) :: starEach [] X.env := by rfl) :
    DS X C W (.Assign [.Tuple [.Name x px, .Name y py] kt pt] (.Tuple [a, b] k2 pt2) pos) (sParOO i j fl fl2) := by
  obtain ⟨t, p, q⟩ := ha
  obtain ⟨u, p2, q2⟩ := hb
  refine ⟨_, ps_par hc hN hi hj hij hx hy (pa_cons p (pa_cons p2 pa_nil h2) h1) hw hs, fun S0 H0 Pb σ H δ E R h => q S0 H0 Pb σ H δ _ R ((fl δ).mono (fun ds h l xs G g na hl dps => ?_) (fun _ z => z.ew R) h)⟩
  have RB := R.blk [] g na hl
  have h : (fl2 (dWipe δ [])).run _ (fun _ => False) := h
  refine q2 _ _ _ σ G (dWipe δ []) _ RB ((fl2 (dWipe δ [])).mono (fun es h l2 ys G2 g2 na2 hl2 dps2 => ?_) (fun _ z => z.elim) h)
  refine ⟨_, _, rfl, ?_⟩
  have R1 := R.setO (i := i) g na hl dps
  refine h _ G2 (R1.setO (i := j) g2 na2 hl2 (Le.dps (hid_le (Le.refl G2) fun c z => ?_) es ys dps2))
  rcases z with z | z
  · rcases z with z | ⟨m, es, e1, e2⟩
    · exact .inl (.inl (.inl (.inl z)))
    · rcases get_set_cases e1 with ⟨e3, e4, e5⟩ | ⟨e3, e4⟩
      · subst e3
        rw [List.getElem?_set_self (by rw [R.len]; exact e5)] at e2
        cases e2
        exact .inl (.inl (.inr rfl))
      · rw [List.getElem?_set_ne e3] at e2
        exact .inl (.inl (.inl (.inr ⟨m, es, e4, e2⟩)))
  · exact .inr z
end
section
variable {X : Cx} {C : Cs} {W : WX} {pos : Pos} {a b : Expr} {f g : DF}
theorem dt_is (ha : DE X C W a f) (hb : DE X C W b g) : DT X C W (.Compare a [.Is] [b] pos) (tBv (d2 dIs f g)) := by
  refine dt_cmp op_isN (fun x y H d e Q S0 H0 Pb σ δ w R dx dy h => ?_) (nomark _) ha hb
  unfold dIs at h
  split at h
  · cases dy
    refine ⟨rfl, ?_⟩
    rw [isNoneD_v dx]
    exact h _ H (Grow.refl H) (.bl _)
  · exact h.elim
end
end Tr

namespace Tr
open PySem PySem.Spec L2
variable [ProtC]

section
variable {P : Program} {w : World} {C : Cs} {base : Heap} {x qual : Str} {params : Arguments} {body : List Stmt} {scope : Scope} {fd : FuncData} {N ps : List Str} {k n : Nat} {bd : SF}
theorem fnL (F : FunD C.K x qual params body scope [] [] (He.ga C.K x) fd) (S : FnScope N ps scope) (hn : ps.length = n)
    (hb : ∀ (A : Around) (outer : List Env) (s : Shared) (H : Hp) (E : XK), Room k (A.deeper (PyProof.Rows.envOfC qual scope s.heap.objs.size (He.ga C.K x) (.ref (He.codeOf C.K (x, none))))) →
      DSs (cxN P w C base N qual scope (He.ga C.K x) (.ref (He.codeOf C.K (x, none))) A outer s H E) C (wxN E) body bd) :
    FnOk P w C.K C.mg base (L2.CX P w) (k + 1) (He.ga C.K x) fd ps (spD C n (dRun N.length bd)) := by
  subst hn
  obtain ⟨oc, od, dV, kV, doc, pm, an, cdv, ct, osl, rfl, lk, hcd, _, _⟩ := F.ex
  obtain ⟨c, hc⟩ := He.codeIn_ref hcd
  have ec : He.codeOf C.K (x, none) = c := He.codeOf_eq (p := (x, none)) lk hc
  subst hc
  rw [ec] at hb
  refine fn_of lk hcd S spD_len fun A outer s H vs Q E hr ⟨Sx, as, hn, dom, tabs, scr, ok, hw⟩ => ?_
  obtain ⟨t, p, q⟩ := hb A outer s H E hr
  refine ⟨t, p, q Sx H (hid Sx H) (L2.start N vs) H (dStart N.length as) _ (start_rep dom tabs scr ok) ((bd (dStart N.length as)).mono (fun o ho => ?_) (fun y hy cls dc σ G g ex => hy cls dc G g ex) hw)⟩
  cases o with
  | nx δ' => exact fun σ' H' R' => ho .non H' R'.grow .non
  | rt d => exact ho
  | bk δ' => exact ho.elim
  | ct δ' => exact ho.elim
end
def mkC (K : PySem.W.Frag) (mg : Str → Option Value) (tg : List Addr) (np : ∀ P ∈ tg, ∀ q, ¬ ProtC.p P q) (tl : List (Addr × Str)) (pl : ∀ p ∈ tl, ProtC.p p.1 p.2) (a : Addr) (ns : List Int) : Cs := ⟨K, mg, tg, [(a, ns)], np, tl, pl, none⟩
theorem lawAt {l : PySem.W.OpenLaw} {w : World} {K : PySem.W.Frag} {mg : Str → Option Value} {fa : Addr} {h : Heap} {k : Nat} {F : Cs → List Ar → Wp D} {cs : List (Addr × Addr)} {x : Str} {fd : FuncData} {tg : List Addr} {tl : List (Addr × Str)} (np : ∀ P ∈ tg, ∀ q, ¬ ProtC.p P q) (pl : ∀ p ∈ tl, ProtC.p p.1 p.2) (htg : ∀ P ∈ tg, ∃ p ∈ cs, p.2 = P) (htl : ∀ q ∈ tl, ∃ p ∈ cs, p.2 = q.1)
    (hT : ∀ p ∈ cs, h.get? p.2 = some { cls := .none, data := .fields #[] }) (nT : ∀ p ∈ cs, K.lookup p.2 = none) (hC : ∀ p ∈ cs, PySem.W.CodeHd h p.1 p.2) (hb : ∀ (s : Shared) (u : Value), BindsTo s fd ⟨[u], []⟩ [(x, u)])
    (hF : ∀ base : Heap, K.In base → base.Ns mainGlobals mg → (∀ p ∈ cs, LamX.TabB base mg p.1 p.2) → ∀ a ns, FnOk l.prog w K mg base (L2.CX l.prog w) k fa fd [x] (spD (mkC K mg tg np tl pl a ns) 1 (F (mkC K mg tg np tl pl a ns))))
    (hl : ∀ (C : Cs) (a : Addr) (ns : List Int), (a, ns) ∈ C.Z → ns.length ≤ 63 → (∀ z ∈ ns, Builtin.Int.intBits z ≤ 1048576) → (F C [.v (.ref a)]).run (fun d => d = .bool true) (fun _ => False)) :
    LamX.LawAtS l w K (L2.CX l.prog w) k 63 x mg fa h := by
  refine ⟨fd, cs, fun vs H Q E => ∃ a ns, vs = [.ref a] ∧ spD (mkC K mg tg np tl pl a ns) 1 (F (mkC K mg tg np tl pl a ns)) vs H Q E, hT, nT, hC, hb, fun H a ns h1 h2 h3 h4 => ⟨a, ns, rfl, fun _ => False, [.v (.ref a)], rfl, fun b z => z.elim, fun P hP => ?_, ⟨fun q hq => ?_, fun q hq => ?_, fun o ho => nomatch ho⟩, ⟨rfl, trivial⟩, ?_⟩, fun base kb ns tb => ⟨fun vs H Q E ⟨a, ns, e, _⟩ => by rw [e]; rfl, fun A outer s H args us vs Q E hr e0 hbt hv ⟨a, ns, _, hs⟩ => ?_⟩⟩
  · obtain ⟨p, hp, rfl⟩ := htg P hP
    exact ⟨#[], h3 p hp, trivial⟩
  · cases List.mem_singleton.mp hq
    exact h4
  · obtain ⟨p, hp, e⟩ := htl q hq
    exact LamX.TabS.nil (by rw [← e]; exact h3 p hp)
  · refine (F (mkC K mg tg np tl pl a ns) [.v (.ref a)]).mono (fun d e v G _ dp => ?_) (fun _ z => z.elim) (hl (mkC K mg tg np tl pl a ns) a ns (List.mem_cons_self ..) h1 h2)
    subst e
    cases dp
    rfl
  · exact (hF base kb ‹_› tb a ns).run A outer s H args us vs Q E hr e0 hbt hv hs
theorem tabGx {base : Heap} {mg : Str → Option Value} {c P : Addr} (t : LamX.TabB base mg c P) : GxR.TabB base mg c P := ⟨t.code, t.bm, t.gP⟩
theorem noOut {P : Program} {w : World} {H : Hp} {s : Shared} {e : Value} {s' : Shared} (h : L2.CX P w [] H s (fun _ _ _ => False) e s') : False := by
  obtain ⟨_, _, _, _, _, _, _, _, _, _, _, _, z⟩ := h
  exact z
def dNotV (f : DF) : DF := fun δ => (tT f δ).bind fun b => .pure (.bool (!b))
def tNotV (f : TF) : TF := fun δ => (f δ).bind fun b => .pure (!b)
def sFz (i : Nat) (F : SF) : SF := fun δ => F (fz i δ)
def sDead : SF := fun _ => .stuck
def sRetN : SF := fun _ => .pure (.rt .none)
def dChain (F G : D → D → Wp D) (f g h : DF) : DF := fun δ => (f δ).bind fun d => (g δ).bind fun e => (F d e).bind fun z => (asB z).bind fun k => if k then (h δ).bind fun x => G e x else .pure (.bool false)
theorem roomG {X : Cx} {k : Nat} {env : Env} (r : Room (k + 1) X.A) : Room k ((gA X).deeper env) := ⟨r.hd, by have := r.dp; show X.A.depth + 1 + 3 * k + 5 < _; omega, by have := r.un; show X.A.units + 1 + 1 + 3 + 16 * k + 200 < _; omega⟩
end Tr

namespace Tr
open PySem PySem.Spec L2
variable [ProtC]

section
variable {A : Type} {k : D → Prop} {kb : Bool → Prop} {ko : Out → Prop} {w : Exn → Prop} {δ : De} {i j n : Nat} {f g h : DF} {t u : TF} {F G : SF} {d e : D} {as : List Ar} {r : AF}
@[simp] theorem slotP_p : slotP (some (.p d)) = .pure d := rfl
@[simp] theorem slotO_o {ds : List D} : slotO (some (.o ds)) = .pure ds := rfl
@[simp] theorem slotT_t {a : Addr} {φ : Heap → Prop} : slotT (some (.t a φ)) = .pure (a, φ) := rfl
@[simp] theorem slotV_v {x : V} : slotV (some (.v x)) = .pure x := rfl
@[simp] theorem rw_dV : dV i δ = slotP δ[i]? := rfl
@[simp] theorem rw_dC : dC d δ = .pure d := rfl
@[simp] theorem rw_d2 {B : D → D → Wp D} : d2 B f g δ = (f δ).bind fun d => (g δ).bind fun e => B d e := rfl
@[simp] theorem rw_d1 {B : D → Wp D} : d1 B f δ = (f δ).bind B := rfl
@[simp] theorem rw_int2 {c : Int → Int → Prop} {q : Int → Int → D} {a b : Int} : dInt2 c q (.int a) (.int b) = .need (c a b) (.pure (q a b)) := rfl
@[simp] theorem rw_addI {a b : Int} : dAdd (.int a) (.int b) = .pure (.int (a + b)) := rfl
@[simp] theorem rw_addT {a b : List D} : dAdd (.tuple a) (.tuple b) = .need (a.length + b.length ≤ sizeLine) (.pure (.tuple (a ++ b))) := rfl
@[simp] theorem rw_addL {a b : List D} : dAdd (.list a) (.list b) = .need (a.length + b.length ≤ sizeLine) (.pure (.list (a ++ b))) := rfl
@[simp] theorem rw_neg {a : Int} : dNeg (.int a) = .pure (.int (-a)) := rfl
@[simp] theorem rw_eq : dEq d e = .need (SeqAt.shaped d = true ∧ SeqAt.shaped e = true) (.pure (.bool (PyData.eqv d e))) := rfl
@[simp] theorem rw_ne : dNe d e = .need (SeqAt.shaped d = true ∧ SeqAt.shaped e = true) (.pure (.bool (!PyData.eqv d e))) := rfl
@[simp] theorem rw_is : dIs d .none = .pure (.bool (isNoneD d)) := rfl
@[simp] theorem rw_isNot : dIsNot d .none = .pure (.bool (!isNoneD d)) := rfl
@[simp] theorem rw_asB {b : Bool} : asB (.bool b) = .pure b := rfl
@[simp] theorem rw_tBv : tBv f δ = (f δ).bind asB := rfl
@[simp] theorem rw_tT : tT f δ = (f δ).bind truD := rfl
@[simp] theorem rw_truB {b : Bool} : truD (.bool b) = .pure b := rfl
@[simp] theorem rw_truI {a : Int} : truD (.int a) = .pure (a != 0) := rfl
@[simp] theorem rw_truL {ds : List D} : truD (.list ds) = .pure (!ds.isEmpty) := rfl
@[simp] theorem rw_truT {ds : List D} : truD (.tuple ds) = .pure (!ds.isEmpty) := rfl
@[simp] theorem rw_tAnd2 : tAnd2 t u δ = (t δ).bind fun b => if b then u δ else .pure false := rfl
@[simp] theorem rw_tOr2 : tOr2 t u δ = (t δ).bind fun b => if b then .pure true else u δ := rfl
@[simp] theorem rw_tNotV : tNotV t δ = (t δ).bind fun b => .pure (!b) := rfl
@[simp] theorem rw_dNotV : dNotV f δ = (tT f δ).bind fun b => .pure (.bool (!b)) := rfl
@[simp] theorem rw_dAndV : dAndV f g δ = (f δ).bind fun d => (truD d).bind fun b => if b then g δ else .pure d := rfl
@[simp] theorem rw_dOrV : dOrV f g δ = (f δ).bind fun d => (truD d).bind fun b => if b then .pure d else g δ := rfl
@[simp] theorem rw_dIf : dIf t f g δ = (t δ).bind fun b => if b then f δ else g δ := rfl
@[simp] theorem rw_dChain {B B' : D → D → Wp D} : dChain B B' f g h δ = (f δ).bind fun d => (g δ).bind fun e => (B d e).bind fun z => (asB z).bind fun k => if k then (h δ).bind fun x => B' e x else .pure (.bool false) := rfl
@[simp] theorem rw_aNil : aNil δ = .pure [] := rfl
@[simp] theorem rw_aCons : aCons f r δ = (f δ).bind fun d => (r δ).bind fun as => .pure (.d d :: as) := rfl
@[simp] theorem rw_aTrk : aTrk i r δ = (slotT δ[i]?).bind fun q => (r δ).bind fun as => .pure (.t q.1 q.2 :: as) := rfl
@[simp] theorem rw_aVal : aVal i r δ = (slotV δ[i]?).bind fun v => (r δ).bind fun as => .pure (.v v :: as) := rfl
@[simp] theorem rw_allD0 : allD [] = .pure [] := rfl
@[simp] theorem rw_allD1 : allD (.d d :: as) = (allD as).bind fun ds => .pure (d :: ds) := rfl
@[simp] theorem rw_dTup : dTup r δ = (r δ).bind fun as => (allD as).bind fun ds => .need (ds.length ≤ sizeLine) (.pure (.tuple ds)) := rfl
@[simp] theorem rw_dLst : dLst r δ = (r δ).bind fun as => (allD as).bind fun ds => .need (ds.length ≤ sizeLine) (.pure (.list ds)) := rfl
@[simp] theorem rw_nLst : nLst r δ = (r δ).bind fun as => (allD as).bind fun ds => .need (ds.length ≤ sizeLine) (.pure ds) := rfl
@[simp] theorem rw_dNl {fl : De → Wp (List D)} : dNl fl δ = (fl δ).bind fun ds => .pure (.list ds) := rfl
@[simp] theorem optW_some {a : A} : optW (some a) = .pure a := rfl
@[simp] theorem rw_ixL {ds : List D} {a : Int} : dIx (.list ds) (.int a) = optW (atI ds a) := rfl
@[simp] theorem rw_ixT {ds : List D} {a : Int} : dIx (.tuple ds) (.int a) = optW (atI ds a) := rfl
@[simp] theorem rw_dSl {l hh : OF} : dSl f l hh δ = (f δ).bind fun d => (l δ).bind fun lo => (hh δ).bind fun hi => dCut lo hi d := rfl
@[simp] theorem rw_oNone : oNone δ = .pure none := rfl
@[simp] theorem rw_oSome : oSome f δ = (f δ).bind asI := rfl
@[simp] theorem rw_asI {a : Int} : asI (.int a) = .pure (some a) := rfl
@[simp] theorem rw_asI1 {a : Int} : asI1 (.int a) = .pure a := rfl
@[simp] theorem rw_cutT {ds : List D} {lo hi : Option Int} : dCut lo hi (.tuple ds) = .pure (.tuple (cutD ds lo hi)) := rfl
@[simp] theorem rw_cutL {ds : List D} {lo hi : Option Int} : dCut lo hi (.list ds) = .pure (.list (cutD ds lo hi)) := rfl
@[simp] theorem rw_dCB {B : List D → Wp D} : dCB B r δ = (r δ).bind fun as => (allD as).bind B := rfl
@[simp] theorem rw_gcd {a b : Int} : bGcd [.int a, .int b] = .pure (.int ((Nat.gcd a.natAbs b.natAbs : Nat) : Int)) := rfl
@[simp] theorem rw_lenL {ds : List D} : bLen [.list ds] = .pure (.int ds.length) := rfl
@[simp] theorem rw_lenT {ds : List D} : bLen [.tuple ds] = .pure (.int ds.length) := rfl
@[simp] theorem rw_intI {a : Int} : bInt [.int a] = .pure (.int a) := rfl
@[simp] theorem rw_abs {a : Int} : bAbs [.int a] = .pure (.int (if a < 0 then -a else a)) := rfl
@[simp] theorem rw_min2 {a b : Int} : bMin2 [.int a, .int b] = .pure (.int (if b < a then b else a)) := rfl
@[simp] theorem rw_max2 {a b : Int} : bMax2 [.int a, .int b] = .pure (.int (if b > a then b else a)) := rfl
@[simp] theorem rw_isi {T : String} : dIsi T f δ = (f δ).bind fun d => (optW (isTy T d)).bind fun b => .pure (.bool b) := rfl
@[simp] theorem rw_isiT {Ts : List String} : dIsiT Ts f δ = (f δ).bind fun d => (optW (isTys Ts d)).bind fun b => .pure (.bool b) := rfl
@[simp] theorem rw_call {M : List Ar → Wp D} : dCall n M r δ = (r δ).bind fun as => .need (as.length = n) (M as) := rfl
@[simp] theorem rw_seq : sSeq F G δ = (F δ).bind fun o => match o with
  | .nx δ' => G δ'
  | o => .pure o := rfl
@[simp] theorem rw_set : sSet i f δ = (f δ).bind fun d => .pure (.nx (δ.set i (.p d))) := rfl
@[simp] theorem rw_setO {fl : De → Wp (List D)} : sSetO i fl δ = (fl δ).bind fun ds => .pure (.nx (δ.set i (.o ds))) := rfl
@[simp] theorem rw_app : sApp i f δ = (slotO δ[i]?).bind fun ds => (f δ).bind fun d => .need (ds.length < sizeLine) (.pure (.nx (δ.set i (.o (ds ++ [d]))))) := rfl
@[simp] theorem rw_ret : sRet f δ = (f δ).bind fun d => .pure (.rt d) := rfl
@[simp] theorem rw_retN : sRetN δ = .pure (.rt .none) := rfl
@[simp] theorem rw_if : sIf t F G δ = (t δ).bind fun b => if b then F δ else G δ := rfl
@[simp] theorem rw_next : sNext δ = .pure (.nx δ) := rfl
@[simp] theorem rw_drop : sDrop f δ = (f δ).bind fun _ => .pure (.nx δ) := rfl
@[simp] theorem rw_sFz : sFz i F δ = F (fz i δ) := rfl
@[simp] theorem rw_fzo {ds : List D} (h : δ[i]? = some (.o ds)) : fz i δ = δ.set i (.p (.list ds)) := by unfold fz; rw [h]
@[simp] theorem rw_fzp (h : δ[i]? = some (.p d)) : fz i δ = δ := by unfold fz; rw [h]
@[simp] theorem rw_asg {q : BF} : sAsg f q δ = (f δ).bind fun d => (optW (q d δ)).bind fun δ' => .pure (.nx δ') := rfl
@[simp] theorem rw_bName : bName i d δ = some (δ.set i (.p d)) := rfl
@[simp] theorem rw_parDO {fl : De → Wp (List D)} : sParDO i j f fl δ = (f δ).bind fun d => (fl δ).bind fun ds => .pure (.nx ((δ.set j (.o ds)).set i (.p d))) := rfl
@[simp] theorem rw_for {fi : De → Wp (List D)} {q : BF} : sFor fi q F δ = (fi δ).bind fun ds => sLoop q F ds δ := rfl
@[simp] theorem rw_loop0 {q : BF} : sLoop q F [] δ = .pure (.nx δ) := rfl
theorem rw_loop1 {q : BF} {ds : List D} : sLoop q F (d :: ds) δ = (optW (q d δ)).bind fun δ1 => (F δ1).bind fun o => match o with
    | .nx δ' => sLoop q F ds δ'
    | .ct δ' => sLoop q F ds δ'
    | .bk δ' => .pure (.nx δ')
    | .rt d => .pure (.rt d) := rfl
@[simp] theorem rw_iSeqD : iSeqD f δ = (f δ).bind seqD := rfl
@[simp] theorem rw_seqL {ds : List D} : seqD (.list ds) = .pure ds := rfl
@[simp] theorem rw_seqT {ds : List D} : seqD (.tuple ds) = .pure ds := rfl
@[simp] theorem rw_rg1 : iRgD1 f δ = (f δ).bind fun d => (asI1 d).bind fun j => .need (lo62 j) (.pure (rgD 0 j.toNat)) := rfl
@[simp] theorem rw_rg2 : iRgD2 f g δ = (f δ).bind fun d => (g δ).bind fun e => (asI1 d).bind fun i => (asI1 e).bind fun j => .need (lo62 i ∧ lo62 j) (.pure (rgD i (j - i).toNat)) := rfl
@[simp] theorem rw_dRun {bd : SF} : dRun n bd as = (bd (dStart n as)).bind fun o => match o with
  | .rt d => .pure d
  | .nx _ => .pure .none
  | _ => .stuck := rfl
@[simp] theorem run_if {c : Prop} [Decidable c] {m m' : Wp A} {k : A → Prop} : (if c then m else m').run k w = if c then m.run k w else m'.run k w := by split <;> rfl
@[simp] theorem shaped_int {a : Int} : SeqAt.shaped (.int a) = true := rfl
@[simp] theorem eqv_int {a b : Int} : PyData.eqv (.int a) (.int b) = decide (a = b) := rfl
end
end Tr

namespace Tr
open PySem PySem.Spec L2
variable [ProtC]

section
variable {A : Type} {a b c d e f : A} {l : List A}
theorem atI_nat {l : List A} {n : Nat} : atI l (n : Int) = l[n]? := by
  unfold atI ixN
  rw [if_pos (by omega)]
  by_cases h : n < l.length
  · rw [if_pos (by omega)]
    rfl
  · rw [if_neg (by omega)]
    simp [List.getElem?_eq_none (Nat.le_of_not_lt h)]
@[simp] theorem atI_0 : atI (a :: l) 0 = some a := atI_nat (n := 0)
@[simp] theorem atI_1 : atI (a :: b :: l) 1 = some b := atI_nat (n := 1)
@[simp] theorem atI_2 : atI (a :: b :: c :: l) 2 = some c := atI_nat (n := 2)
@[simp] theorem atI_3 : atI (a :: b :: c :: d :: l) 3 = some d := atI_nat (n := 3)
@[simp] theorem atI_4 : atI (a :: b :: c :: d :: e :: l) 4 = some e := atI_nat (n := 4)
@[simp] theorem atI_5 : atI (a :: b :: c :: d :: e :: f :: l) 5 = some f := atI_nat (n := 5)
end
def rD (q : Rat) : D := .tuple [.int q.num, .int q.den]
structure RB (q : Rat) (B : Nat) : Prop where
  num : q.num.natAbs < 2 ^ B
  den : q.den < 2 ^ B
theorem RB.mono {q : Rat} {B C : Nat} (h : RB q B) (l : B ≤ C) : RB q C := ⟨Nat.lt_of_lt_of_le h.num (Nat.pow_le_pow_right (by decide) l), Nat.lt_of_lt_of_le h.den (Nat.pow_le_pow_right (by decide) l)⟩
theorem rat_nd (q : Rat) : q = (q.num : Rat) / (q.den : Rat) := by
  rw [← Rat.mkRat_eq_div, Rat.mkRat_self]
theorem den_ne (q : Rat) : (q.den : Rat) ≠ 0 := by
  have := q.den_nz
  exact_mod_cast this
theorem ratio_nd {t b : Int} (hb : 0 < b) : ((t : Rat) / (b : Rat)).num = t / ((Nat.gcd t.natAbs b.natAbs : Nat) : Int) ∧ (((t : Rat) / (b : Rat)).den : Int) = b / ((Nat.gcd t.natAbs b.natAbs : Nat) : Int) := by
  obtain ⟨n, rfl⟩ : ∃ n : Nat, b = n := ⟨b.toNat, by omega⟩
  have hn : n ≠ 0 := by omega
  have e : ((t : Rat) / ((n : Int) : Rat)) = Rat.normalize t n hn := by
    rw [Rat.normalize_eq_mkRat, Rat.mkRat_eq_div]
    rfl
  rw [e, Rat.normalize_eq]
  simp
theorem gcd_pos' {t b : Int} (hb : 0 < b) : 0 < Nat.gcd t.natAbs b.natAbs := Nat.gcd_pos_of_pos_right _ (by omega)
theorem ratio_rb {t b : Int} {B : Nat} (hb : 0 < b) (h1 : t.natAbs < 2 ^ B) (h2 : b.natAbs < 2 ^ B) : RB ((t : Rat) / (b : Rat)) B := by
  obtain ⟨e1, e2⟩ := ratio_nd (t := t) hb
  have g := gcd_pos' (t := t) hb
  constructor
  · rw [e1, Int.natAbs_ediv_of_dvd (Int.ofNat_dvd_left.mpr (Nat.gcd_dvd_left _ _))]
    exact Nat.lt_of_le_of_lt (Nat.div_le_self _ _) h1
  · have e3 : ((t : Rat) / (b : Rat)).den = b.natAbs / Nat.gcd t.natAbs b.natAbs := by
      have := congrArg Int.natAbs e2
      rw [Int.natAbs_ediv_of_dvd (Int.ofNat_dvd_left.mpr (Nat.gcd_dvd_right _ _))] at this
      simpa using this
    rw [e3]
    exact Nat.lt_of_le_of_lt (Nat.div_le_self _ _) h2
theorem log2_lt' {n B : Nat} (h : n < 2 ^ B) : n.log2 < B + 1 := by
  rcases Nat.eq_zero_or_pos n with z | z
  · rw [z]; simp
  · exact Nat.lt_succ_of_lt ((Nat.log2_lt (by omega)).mpr h)
theorem cmul {i j : Int} {a b : Nat} (h1 : i.natAbs < 2 ^ a) (h2 : j.natAbs < 2 ^ b) (h : a + b < 900000) : CMulW i j := by
  have := log2_lt' h1
  have := log2_lt' h2
  show i.natAbs.log2 + j.natAbs.log2 < 1000000
  omega
theorem mul_lt2 {i j : Int} {a b : Nat} (h1 : i.natAbs < 2 ^ a) (h2 : j.natAbs < 2 ^ b) : (i * j).natAbs < 2 ^ (a + b) := by
  rw [Int.natAbs_mul, Nat.pow_add]
  exact Nat.mul_lt_mul'' h1 h2
theorem sub_lt2 {i j : Int} {a : Nat} (h1 : i.natAbs < 2 ^ a) (h2 : j.natAbs < 2 ^ a) : (i - j).natAbs < 2 ^ (a + 1) := by
  rw [Nat.pow_succ]
  omega
theorem add_lt2 {i j : Int} {a : Nat} (h1 : i.natAbs < 2 ^ a) (h2 : j.natAbs < 2 ^ a) : (i + j).natAbs < 2 ^ (a + 1) := by
  rw [Nat.pow_succ]
  omega
theorem den_lt {q : Rat} {B : Nat} (h : RB q B) : ((q.den : Int)).natAbs < 2 ^ B := by simpa using h.den
theorem dmul_pos {p q : Rat} : (0 : Int) < (p.den : Int) * (q.den : Int) := Int.mul_pos (by have := p.den_pos; omega) (by have := q.den_pos; omega)
theorem sub_nd {p q : Rat} : ((p.num * q.den - q.num * p.den : Int) : Rat) / ((p.den * q.den : Int) : Rat) = p - q := by
  conv => rhs; rw [rat_nd p, rat_nd q]
  have h1 := den_ne p
  have h2 := den_ne q
  push_cast
  grind
theorem add_nd {p q : Rat} : ((p.num * q.den + q.num * p.den : Int) : Rat) / ((p.den * q.den : Int) : Rat) = p + q := by
  conv => rhs; rw [rat_nd p, rat_nd q]
  have h1 := den_ne p
  have h2 := den_ne q
  push_cast
  grind
theorem mul_nd {p q : Rat} : ((p.num * q.num : Int) : Rat) / ((p.den * q.den : Int) : Rat) = p * q := by
  conv => rhs; rw [rat_nd p, rat_nd q]
  have h1 := den_ne p
  have h2 := den_ne q
  push_cast
  grind
end Tr

namespace Tr
open PySem PySem.Spec L2
variable [ProtC]
@[simp] theorem ty_int_none : isTy "int" .none = some false := by show kitB "NoneType" "int" = _; decide +kernel
@[simp] theorem ty_int_bool {b : Bool} : isTy "int" (.bool b) = some true := by show kitB "bool" "int" = _; decide +kernel
@[simp] theorem ty_int_int {a : Int} : isTy "int" (.int a) = some true := by show kitB "int" "int" = _; decide +kernel
@[simp] theorem ty_int_str {s : Str} : isTy "int" (.str s) = some false := by show kitB "str" "int" = _; decide +kernel
@[simp] theorem ty_int_list {ds : List D} : isTy "int" (.list ds) = some false := by show kitB "list" "int" = _; decide +kernel
@[simp] theorem ty_int_tuple {ds : List D} : isTy "int" (.tuple ds) = some false := by show kitB "tuple" "int" = _; decide +kernel
@[simp] theorem ty_bool_none : isTy "bool" .none = some false := by show kitB "NoneType" "bool" = _; decide +kernel
@[simp] theorem ty_bool_bool {b : Bool} : isTy "bool" (.bool b) = some true := by show kitB "bool" "bool" = _; decide +kernel
@[simp] theorem ty_bool_int {a : Int} : isTy "bool" (.int a) = some false := by show kitB "int" "bool" = _; decide +kernel
@[simp] theorem ty_bool_str {s : Str} : isTy "bool" (.str s) = some false := by show kitB "str" "bool" = _; decide +kernel
@[simp] theorem ty_bool_list {ds : List D} : isTy "bool" (.list ds) = some false := by show kitB "list" "bool" = _; decide +kernel
@[simp] theorem ty_bool_tuple {ds : List D} : isTy "bool" (.tuple ds) = some false := by show kitB "tuple" "bool" = _; decide +kernel
@[simp] theorem ty_tuple_none : isTy "tuple" .none = some false := by show kitB "NoneType" "tuple" = _; decide +kernel
@[simp] theorem ty_tuple_bool {b : Bool} : isTy "tuple" (.bool b) = some false := by show kitB "bool" "tuple" = _; decide +kernel
@[simp] theorem ty_tuple_int {a : Int} : isTy "tuple" (.int a) = some false := by show kitB "int" "tuple" = _; decide +kernel
@[simp] theorem ty_tuple_str {s : Str} : isTy "tuple" (.str s) = some false := by show kitB "str" "tuple" = _; decide +kernel
@[simp] theorem ty_tuple_list {ds : List D} : isTy "tuple" (.list ds) = some false := by show kitB "list" "tuple" = _; decide +kernel
@[simp] theorem ty_tuple_tuple {ds : List D} : isTy "tuple" (.tuple ds) = some true := by show kitB "tuple" "tuple" = _; decide +kernel
@[simp] theorem ty_list_none : isTy "list" .none = some false := by show kitB "NoneType" "list" = _; decide +kernel
@[simp] theorem ty_list_bool {b : Bool} : isTy "list" (.bool b) = some false := by show kitB "bool" "list" = _; decide +kernel
@[simp] theorem ty_list_int {a : Int} : isTy "list" (.int a) = some false := by show kitB "int" "list" = _; decide +kernel
@[simp] theorem ty_list_str {s : Str} : isTy "list" (.str s) = some false := by show kitB "str" "list" = _; decide +kernel
@[simp] theorem ty_list_list {ds : List D} : isTy "list" (.list ds) = some true := by show kitB "list" "list" = _; decide +kernel
@[simp] theorem ty_list_tuple {ds : List D} : isTy "list" (.tuple ds) = some false := by show kitB "tuple" "list" = _; decide +kernel
@[simp] theorem ty_str_none : isTy "str" .none = some false := by show kitB "NoneType" "str" = _; decide +kernel
@[simp] theorem ty_str_bool {b : Bool} : isTy "str" (.bool b) = some false := by show kitB "bool" "str" = _; decide +kernel
@[simp] theorem ty_str_int {a : Int} : isTy "str" (.int a) = some false := by show kitB "int" "str" = _; decide +kernel
@[simp] theorem ty_str_str {s : Str} : isTy "str" (.str s) = some true := by show kitB "str" "str" = _; decide +kernel
@[simp] theorem ty_str_list {ds : List D} : isTy "str" (.list ds) = some false := by show kitB "list" "str" = _; decide +kernel
@[simp] theorem ty_str_tuple {ds : List D} : isTy "str" (.tuple ds) = some false := by show kitB "tuple" "str" = _; decide +kernel
section
variable {A : Type} {k : D → Prop} {w : Exn → Prop} {δ : De} {i j n : Nat} {f g h : DF} {t u : TF} {F G : SF} {d e : D} {ds : List D} {on : Bool} {q : BF} {fi : De → Wp (List D)} {vs : List Nat}
@[simp] theorem tys_nil : isTys [] d = some false := rfl
@[simp] theorem tys_cons {T : String} {Ts : List String} : isTys (T :: Ts) d = match isTy T d with
    | some true => some true
    | some false => isTys Ts d
    | none => none := rfl
@[simp] theorem rw_dGa : dGa on fi q t f vs δ = (fi δ).bind fun ds => (gaLoop on q t f (dWipe δ vs) ds).nox := rfl
@[simp] theorem rw_ga0 : gaLoop on q t f δ [] = .pure (.bool on) := rfl
theorem rw_ga1 : gaLoop on q t f δ (d :: ds) = (optW (q d δ)).bind fun δ1 => (t δ1).bind fun b => if b then (f δ1).bind fun y => match y with
    | .bool k => if k = on then gaLoop on q t f δ ds else .pure (.bool k)
    | _ => .stuck else gaLoop on q t f δ ds := rfl
@[simp] theorem rw_nLc : nLc fi q t f vs δ = (fi δ).bind fun ds => .need (ds.length ≤ sizeLine) (lcLoop q t f (dWipe δ vs) ds).nox := rfl
@[simp] theorem rw_lc0 : lcLoop q t f δ [] = .pure [] := rfl
theorem rw_lc1 : lcLoop q t f δ (d :: ds) = (optW (q d δ)).bind fun δ1 => (t δ1).bind fun b => if b then (f δ1).bind fun y => (lcLoop q t f δ ds).bind fun ys => .pure (y :: ys) else lcLoop q t f δ ds := rfl
@[simp] theorem rw_tYes : tYesD δ = .pure true := rfl
@[simp] theorem rw_wipe0 : dWipe δ [] = δ.map sIn := rfl
@[simp] theorem rw_wipe1 {v : Nat} : dWipe δ (v :: vs) = (dWipe δ vs).set v .non := rfl
@[simp] theorem sIn_p : sIn (.p d) = .p d := rfl
@[simp] theorem sIn_o : sIn (.o ds) = .non := rfl
@[simp] theorem sIn_non : sIn .non = .non := rfl
@[simp] theorem sIn_t {a : Addr} {φ : Heap → Prop} : sIn (.t a φ) = .t a φ := rfl
@[simp] theorem sIn_v {x : V} : sIn (.v x) = .v x := rfl
@[simp] theorem bTup_t {r : List D → De → Option De} : bTup n r (.tuple ds) δ = if ds.length = n then r ds δ else none := rfl
@[simp] theorem bNil_n : bNil [] δ = some δ := rfl
@[simp] theorem bCons_c {b : BF} {r : List D → De → Option De} : bCons b r (d :: ds) δ = (b d δ).bind fun δ' => r ds δ' := rfl
@[simp] theorem shaped_rD {p : Rat} : SeqAt.shaped (rD p) = true := rfl
@[simp] theorem eqv_nil : PyData.eqv (.list []) (.list []) = true := rfl
@[simp] theorem shaped_nil : SeqAt.shaped (.list []) = true := rfl
end
def RO (C : Cs) (r : Addr) (φ : Heap → Prop) : Prop := ∃ q ∈ C.Z, φ = RowP r q.1 ∧ q.2.length ≤ 63
theorem taken_run {C : Cs} {r : Addr} {φ : Heap → Prop} {m : Int} {k : D → Prop} {w : Exn → Prop} (hr : RO C r φ) (h0 : 0 < m) (h1 : m < 1073741824) (hk : ∀ n : Int, 0 ≤ n → n < m → k (.int n)) : (fTaken C [.t r φ, .d (.int m)]).run k w :=
  ⟨⟨hr, h0, h1⟩, fun _ ⟨n, e, a, b⟩ => e ▸ hk n a b⟩
theorem loop_inv {q : BF} {F : SF} {ko : Out → Prop} {w : Exn → Prop} (I : Nat → De → Prop) {ds : List D} {δ : De} (h0 : I 0 δ)
    (hs : ∀ i δ d, ds[i]? = some d → I i δ → ∃ δ1, q d δ = some δ1 ∧ (F δ1).run (fun o => match o with
      | .nx δ' => I (i + 1) δ'
      | .ct δ' => I (i + 1) δ'
      | .bk δ' => ko (.nx δ')
      | .rt d => ko (.rt d)) w)
    (hd : ∀ δ, I ds.length δ → ko (.nx δ)) : (sLoop q F ds δ).run ko w := by
  induction ds generalizing I δ with
  | nil => exact hd δ h0
  | cons d ds ih =>
    obtain ⟨δ1, e, h⟩ := hs 0 δ d rfl h0
    rw [rw_loop1, e]
    simp only [optW_some, pure_bind, run_bind]
    refine (F δ1).mono (fun o ho => ?_) (fun _ z => z) h
    have go : ∀ δ', I 1 δ' → (sLoop q F ds δ').run ko w := fun δ' h1 => ih (fun i => I (i + 1)) h1 (fun i δ d e h => hs (i + 1) δ d e h) hd
    cases o with
    | nx δ' => exact go δ' ho
    | ct δ' => exact go δ' ho
    | bk δ' => exact ho
    | rt d => exact ho
@[simp] theorem rw_row {i j : Nat} {δ : De} : sRow i j δ = (slotV δ[j]?).bind fun v => match v with
  | .ref a => (Wp.any fun (_ : Addr) => True).bind fun r => .pure (.nx (δ.set i (.t r (RowP r a))))
  | _ => .stuck := rfl
@[simp] theorem rw_ixR0 {p : Rat} : dIx (rD p) (.int 0) = .pure (.int p.num) := by simp [rD]
@[simp] theorem rw_ixR1 {p : Rat} : dIx (rD p) (.int 1) = .pure (.int p.den) := by simp [rD]
@[simp] theorem shaped_bool {b : Bool} : SeqAt.shaped (.bool b) = true := rfl
@[simp] theorem eqv_bool {a b : Bool} : PyData.eqv (.bool a) (.bool b) = (a == b) := by cases a <;> cases b <;> rfl
theorem RB.neg {q : Rat} {B : Nat} (h : RB q B) : RB (-q) B := ⟨by rw [Rat.neg_num, Int.natAbs_neg]; exact h.num, by rw [Rat.neg_den]; exact h.den⟩
theorem rgD_get {lo : Int} {n i : Nat} {d : D} (h : (rgD lo n)[i]? = some d) : i < n ∧ d = .int (lo + i) := by
  unfold rgD at h
  rw [List.getElem?_map] at h
  by_cases c : i < n
  · rw [List.getElem?_range c] at h
    exact ⟨c, (Option.some.inj h).symm⟩
  · rw [List.getElem?_eq_none (by simpa using c)] at h
    cases h
@[simp] theorem rgD_len {lo : Int} {n : Nat} : (rgD lo n).length = n := by simp [rgD]
end Tr

namespace Tr
open PySem PySem.Spec L2
variable [ProtC]

section
variable {X : Cx} {C : Cs} {W : WX} {p : Pos} {e : Expr} {es : List Expr} {f : DF} {r : AF}
def aStar (f : DF) (r : AF) : AF := fun δ => (f δ).bind fun d => (seqD d).bind fun ds => (r δ).bind fun as => .pure (ds.map Ar.d ++ as)
theorem arsOk_app {K : PySem.W.Frag} {H : Hp} : ∀ {vs : List V} {ds : List D} {us : List V} {as : List Ar}, DpAll K H vs ds → ArsOk K H us as → ArsOk K H (vs ++ us) (ds.map Ar.d ++ as)
  | [], _, _, _, h, g => by cases h; exact g
  | v :: vs, _, _, _, h, g => by
    cases h with
    | cons a b => exact ⟨a, arsOk_app b g⟩
theorem da_star (hK : C.K = X.K) (he : DE X C W e f) (hr : DA X C W es r) (hs : starEach (.Starred e p :: es) X.env = (true, eval e X.env) :: starEach es X.env := by rfl) : DA X C W (.Starred e p :: es) (aStar f r) := by
  obtain ⟨t, pt, q⟩ := he
  obtain ⟨u, pu, q2⟩ := hr
  refine ⟨_, StX.pa_star pt pu hs, fun S0 H0 Pb σ H δ Q R h => q S0 H0 Pb σ H δ _ R ((f δ).mono (fun d h v G g dp => ?_) (fun _ z => z) h)⟩
  have fin : ∀ (ds : List D) (vs : List V), DpAll C.K (hid (Own (C.bx S0 H0) σ δ) G) vs ds → (r δ).run (fun as => Av (C.bx S0 H0) σ H δ Q (ds.map Ar.d ++ as)) (Ew (C.bx S0 H0) W σ H) → u σ G fun ys H2 => Q (vs ++ ys) H2 := fun ds vs hd h =>
    q2 S0 H0 Pb σ G δ _ (R.gr g) ((r δ).mono (fun as ha us G2 g2 ok => ha (vs ++ us) G2 (g.trans g2) (arsOk_app (Le.dps (hid_le g2.le fun _ z => z) ds vs hd) ok)) (fun _ z => z.gr g) h)
  rw [← hK]
  cases dp with
  | lst s a => exact ⟨_, _, rfl, .inr (Le.sqL hid_sub s), fin _ _ a h⟩
  | tup s a => exact ⟨_, _, rfl, .inl (Le.sqT hid_sub s.sq), fin _ _ a h⟩
  | _ => exact h.elim
@[simp] theorem rw_aStar {δ : De} : aStar f r δ = (f δ).bind fun d => (seqD d).bind fun ds => (r δ).bind fun as => .pure (ds.map Ar.d ++ as) := rfl
theorem allD_map {ds : List D} {as : List Ar} : allD (ds.map Ar.d ++ as) = (allD as).bind fun es => .pure (ds ++ es) := by
  induction ds with
  | nil => rfl
  | cons d ds ih =>
    show (allD (ds.map Ar.d ++ as)).bind _ = _
    rw [ih]
    rfl
end
end Tr

namespace TrE
open PySem PySem.Spec L2
theorem enum_new {v : Value} {o : Obj} {H : Heap → Prop} (B : Begins v o H) :
    Meets (Builtin.«enumerate.__new__» ⟨[.type "enumerate", v], []⟩) (fun _ R s => H s.heap ∧
      R (.ok (.ret (.ref (s.heap.push o).objs.size))) { s with heap := (s.heap.push o).push { cls := .type "enumerate", data := .fields #[.none, .bool false, .ref s.heap.objs.size, rawInt 0, .none, .none] } }) :=
  .of_wp fun prog w A R s h => by
    obtain ⟨hp, g, d, tk, os⟩ := s
    obtain ⟨h1, h⟩ := h
    have hsub := sub_enumerate
    have q1 : ∀ {A' : Around} {E : Value → Shared → Prop} {Q : Value → Shared → Prop}, Q (.ref hp.objs.size) ⟨hp.push o, g, d, tk, os⟩ → wpAny (model prog w) A' (pyIter v) Q E ⟨hp, g, d, tk, os⟩ := fun q => B.iter prog w _ _ ⟨hp, g, d, tk, os⟩ _ h1 q
    wp_walk using q1
    refine wpAny_stack_any fun st => wpAny_pure ?_
    split
    · rename_i c _ _ _ _ _
      cases (c == Value.type "enumerate")
      · wp_walk using q1
        exact ⟨_, rfl, h⟩
      · wp_walk using q1
        exact ⟨_, rfl, h⟩
    · wp_walk using q1
      exact ⟨_, rfl, h⟩
end TrE
namespace Tr
open PySem PySem.Spec L2
variable [ProtC]
def SqB (t : Bool) (K : PySem.W.Frag) (H : Hp) (a : Addr) (xs : List V) : Prop := match t with
  | true => SqT K H a xs
  | false => SqL K H a xs
def IsIt (t : Bool) (h : Heap) (it l : Addr) (i : Nat) : Prop := match t with
  | true => h.IsTupleIter it l i
  | false => h.IsListIter it l i
def IsIs (t : Bool) (h : Heap) (l : Addr) (xs : Array Value) : Prop := match t with
  | true => h.IsTuple l xs
  | false => h.IsList l xs
theorem drawsB {prog : Program} {w : World} {A : Around} (t : Bool) (hh : A.handled = none) (it l : Addr) (hne : l ≠ it) (items : Array Value) :
    Draws prog w A it [it, l] items.size (fun i v => items[i]? = some v) (fun i h => IsIt t h it l i ∧ IsIs t h l items) := by
  cases t
  · exact Draws.list hh it l hne items
  · exact Draws.tuple hh it l hne items
theorem IsIt.at' {t : Bool} {h h' : Heap} {it l : Addr} {i : Nat} (q : IsIt t h it l i) (k : ∀ o, h.get? it = some o → h'.get? it = some o) : IsIt t h' it l i := by
  cases t
  · exact Heap.IsListIter.at q k
  · exact Heap.IsTupleIter.at q k
theorem IsIt.obj {t : Bool} {h : Heap} {it l : Addr} {i : Nat} (q : IsIt t h it l i) : ∃ o, h.get? it = some o ∧ ∃ fs, o.data = .fields fs := by
  cases t <;> (obtain ⟨o, e, _, d⟩ := q; exact ⟨o, e, _, d⟩)
section
variable {X : Cx} {pins : List (Addr × Obj)} {σ : L2.St} {H : Hp} {s : Shared}
theorem seqB (I : Inv X pins σ H s) {t : Bool} {a : Addr} {xs : List V} (h : SqB t X.K H a xs) : ∃ its : List Value, Vals xs its ∧ IsIs t s.heap a its.toArray ∧ xs.length ≤ sizeLine := by
  cases t
  · obtain ⟨its, r, p, z⟩ := I.list h
    exact ⟨its, r, p.isList, z⟩
  · obtain ⟨its, r, p, z⟩ := I.tuple h
    exact ⟨its, r, p, z⟩
theorem seqB_inj (I : Inv X pins σ H s) {t : Bool} {a : Addr} {xs ys : List V} (h : SqB t X.K H a xs) (h' : SqB t X.K H a ys) : xs = ys := by
  cases t
  · exact I.list_inj h h'
  · exact I.tuple_inj h h'
theorem IsIs.lt {t : Bool} {h : Heap} {a : Addr} {xs : Array Value} (q : IsIs t h a xs) : a < h.objs.size := by
  cases t
  · obtain ⟨_, e, _⟩ := q; exact Heap.lt_size e
  · obtain ⟨_, e, _⟩ := q; exact Heap.lt_size e
end
def YPairN (x y : Nat → Option V) : Nat → Hp → V → Hp → Prop := fun i H v H' => ∃ T a b, v = .ref T ∧ H T = none ∧ (∃ ob, ob.dict = none ∧ H' = upd H T (.frz ob (.tup [a, b]))) ∧ x i = some a ∧ y i = some b
def IteB (t : Bool) (K : PySem.W.Frag) (a : Addr) : It :=
  ⟨fun i H => ∃ (xs : List V) (x : V), SqB t K H a xs ∧ xs[i]? = some x, fun i H v H' => ∃ T x, v = .ref T ∧ H T = none ∧ (∃ ob, ob.dict = none ∧ H' = upd H T (.frz ob (.tup [.int (i : Nat), x]))) ∧ ∀ xs, SqB t K H a xs → xs[i]? = some x, fun i H => ∃ xs : List V, SqB t K H a xs ∧ xs.length = i⟩
theorem walk_enumB {t : Bool} {K : PySem.W.Frag} {a : Addr} {xs : List V} : Walk (IteB t K a) xs.length (fun H => SqB t K H a xs) (YPairN (fun i => some (.int (i : Nat))) (fun i => xs[i]?)) :=
  ⟨fun i H hi h => ⟨xs, xs[i], h, List.getElem?_eq_getElem hi⟩, fun H h => ⟨xs, h, rfl⟩, fun i H x H' hi h ⟨T, y, e1, e2, e3, e4⟩ => ⟨T, .int (i : Nat), y, e1, e2, e3, rfl, e4 xs h⟩⟩
theorem turn_enumB {t : Bool} {P : Program} {w : World} {K : PySem.W.Frag} {elts : List Expr} {kk : Nat} {tpos : Pos} (a e it : Addr) :
    Turn P w K (.Tuple elts kk tpos) (IteB t K a) [e, it] e (fun i h => (∃ old, IsEnum h e it ((i : Nat) : Int) old) ∧ IsIt t h it a i ∧ e ≠ it ∧ e ≠ a ∧ a ≠ it) where
  mem := by simp
  obj := fun i h st b hb => by
    obtain ⟨⟨old, he⟩, hit, _⟩ := st
    obtain ⟨o, ho, _, hd⟩ := hit.obj
    have e' : b = e ∨ b = it := by simpa using hb
    rcases e' with z | z
    · rw [z]; exact ⟨_, he, fun v q => nomatch q⟩
    · rw [z]; exact ⟨o, ho, fun v q => by rw [hd] at q; cases q⟩
  keep := fun i h h' st k => let ⟨⟨old, he⟩, hi, hne⟩ := st; ⟨⟨old, k e (by simp) _ he⟩, hi.at' fun o q => k it (by simp) o q, hne⟩
  item := by
    intro X hP hw hK hc i pins s σ H E I hf st hg
    subst hP hw hK
    obtain ⟨⟨old, he⟩, hit, hne, hea, hai⟩ := st
    obtain ⟨xs, x, hq, hx⟩ := hg
    obtain ⟨its, rv, p, hz⟩ := seqB I hq
    obtain ⟨u, hu, ru⟩ := rv.get hx
    have hel : e < s.heap.objs.size := Heap.lt_size he
    have hil : it < s.heap.objs.size := by obtain ⟨_, q, _⟩ := hit.obj; exact Heap.lt_size q
    have hlt : i < its.toArray.size := by
      have := (List.getElem?_eq_some_iff.mp hu).1
      simpa using this
    have D := drawsB (prog := X.prog) (w := X.w) (A := X.A.in1) t (I.ok.hd hc) it a hai its.toArray
    refine wpAny_pyNext_enum_itemD D he ⟨hit, p⟩ hlt hne (by simp [hne, hea]) fun x' h' tk hx' ho hs' hT hsz hk => ?_
    have ex : x' = u := by
      have hu' : its.toArray[i]? = some u := by simpa using hu
      rw [hu'] at hx'
      exact (Option.some.inj hx').symm
    subst ex
    refine ⟨_, rfl, wpAny_letOwnedTupleGo_enum (s := { s with heap := h', toks := tk + 1 }) ho fun h'' he' sb => ?_⟩
    have hT2 : h''.get? s.heap.objs.size = some { cls := .type "tuple", data := .seq #[.int i tk, x'] } := (sb.2 _ (Nat.ne_of_gt hel)).trans hT
    have new : ObjOk X.prog X.w (upd H s.heap.objs.size (.frz { cls := .type "tuple", data := .seq #[.int i tk, x'] } (.tup [.int (i : Nat), x]))) h'' s.heap.objs.size (.frz { cls := .type "tuple", data := .seq #[.int i tk, x'] } (.tup [.int (i : Nat), x])) :=
      ⟨hT2, by show 2 ≤ sizeLine; decide, [.int i tk, x'], .cons ⟨_, rfl⟩ (.cons ru .nil), ⟨_, hT2, rfl, _, rfl⟩⟩
    have I1 : Inv X pins σ (upd H s.heap.objs.size (.frz { cls := .type "tuple", data := .seq #[.int i tk, x'] } (.tup [.int (i : Nat), x]))) { s with heap := h'', toks := tk + 1 } :=
      I.turnedNew (ch := [e, it]) (fun b ob hb q => (sb.2 b (fun z => hb (by simp [z]))).trans (hk b ob (fun z => hb (by simp [z])) (fun z => hb (by simp [z])) q)) hf (Nat.le_refl _) new
    refine ⟨.ref s.heap.objs.size, _, I1, rfl, ⟨_, x, rfl, I.hok.fresh (Nat.le_refl _), ⟨_, rfl, rfl⟩, fun ys hy => by rw [seqB_inj I hy hq]; exact hx⟩, ⟨⟨x', ?_⟩, hs'.1.at' fun o q => (sb.2 it (Ne.symm hne)).trans q, hne, hea, hai⟩, fun b hb => ?_⟩
    · have e1 : ((i + 1 : Nat) : Int) = (i : Int) + 1 := by omega
      rw [e1]; exact he'
    · have hb' : b < s.heap.objs.size := by
        have e' : b = e ∨ b = it := by simpa using hb
        rcases e' with z | z
        · rw [z]; exact hel
        · rw [z]; exact hil
      rw [upd_ne (Nat.ne_of_lt hb')]
      exact (hf b hb).1
  done := by
    intro X hP hw hK hc i pins s σ H E I hf st hg
    subst hP hw hK
    obtain ⟨⟨old, he⟩, hit, hne, hea, hai⟩ := st
    obtain ⟨xs, hq, hx⟩ := hg
    obtain ⟨its, rv, p, hz⟩ := seqB I hq
    obtain ⟨f0, f1, f2, f3, f4, f5⟩ := hf it (by simp)
    have hl := rv.length
    have D := drawsB (prog := X.prog) (w := X.w) (A := X.A.in1) t (I.ok.hd hc) it a hai its.toArray
    have e1 : its.toArray.size = i := by rw [List.size_toArray]; omega
    exact wpAny_pyNext_enum_endD D he ⟨by rw [e1]; exact hit, p⟩ fun h' eb => ⟨rfl, I.turned (t' := s.toks) (fun b o hb q => eb b o hb q) f0 f1 f3 f4 f5⟩
  self := fun A i s Q E st h => let ⟨⟨_, he⟩, _⟩ := st; wpAny_pyIter_enum he h
def iEnumA (K : PySem.W.Frag) (ta : TA) : TI := fun σ H R => ta σ H fun vs H1 => ∃ a xs, vs = [.ref a] ∧ ((SqL K H1 a xs ∧ R (IteB false K a) H1) ∨ (SqT K H1 a xs ∧ R (IteB true K a) H1))
theorem pi_enumA {X : Cx} {e : Expr} {ta : TA} {p pos tpos : Pos} {elts : List Expr} {kk : Nat} (hg : Gl X "enumerate") (hm : X.mg "enumerate" = none) (ha : PA X [e] ta) (hs : starEach [e] X.env = [(false, eval e X.env)] := by rfl) :
    PI X (.Tuple elts kk tpos) (.Call (.Name "enumerate" p) [e] [] pos) (iEnumA X.K ta) := by
  refine ⟨fun pins s σ H R I h => ?_⟩
  refine PyProof.Rows.Call_ (ld_blt I hg hm PyProof.Rows.boot_enumerate (PyProof.Rows.callWith_type1 (thn (ha.run pos pins s σ H _ I h) fun us s1 ⟨vs, H1, I1, r1, q1⟩ => ?_) hs rfl))
  obtain ⟨a, xs, ex, q1⟩ := q1
  subst ex
  cases r1 with
  | cons r rr =>
    cases rr
    cases r
    have fp2 : ∀ b ∈ [s1.heap.objs.size + 1, s1.heap.objs.size], FpOk X pins H1 b := fun b hb => by
      have e' : b = s1.heap.objs.size + 1 ∨ b = s1.heap.objs.size := by simpa using hb
      have hle : s1.heap.objs.size ≤ b := by
        rcases e' with z | z
        · rw [z]; exact Nat.le_add_right _ _
        · rw [z]; exact Nat.le_refl _
      exact I1.fpOk hle (I1.hok.fresh hle)
    rcases q1 with ⟨hq, q⟩ | ⟨hq, q⟩
    · obtain ⟨its, rv, p', hz⟩ := I1.list hq
      have al : a < s1.heap.objs.size := by obtain ⟨_, z, _⟩ := p'.isList; exact Heap.lt_size z
      refine call_enumerate_list p'.isList fun h' he hit hsz hk => wpAny_pyIter_enum he ?_
      have I2 : Inv X pins σ H1 { s1 with heap := h' } := I1.kept (t' := s1.toks) hk
      exact ⟨s1.heap.objs.size + 1, [s1.heap.objs.size + 1, s1.heap.objs.size], _, _, H1, rfl, I2, turn_enumB (t := false) a (s1.heap.objs.size + 1) s1.heap.objs.size, ⟨⟨.none, he⟩, hit, Nat.succ_ne_self _, Nat.ne_of_gt (Nat.lt_succ_of_lt al), Nat.ne_of_lt al⟩, fp2, q⟩
    · obtain ⟨its, rv, p', hz⟩ := I1.tuple hq
      have p2 : s1.heap.IsTuple a its.toArray := p'
      have al : a < s1.heap.objs.size := by obtain ⟨_, z, _⟩ := p2; exact Heap.lt_size z
      refine callType_new F.called_enumerate (by decide) (F.typeCall_enumerate_1 _) (F.newCall_enumerate_1 _) (fun obj => F.args_object_init_2 obj _) F.entry_enumerate_new (TrE.enum_new (begins_tuple a its.toArray)) ⟨p2, ?_⟩
      have hz2 : (s1.heap.push { cls := .type "tuple_iterator", data := .fields #[.ref a, .int 0 0] }).objs.size = s1.heap.objs.size + 1 := Heap.size_push ..
      show _ ∧ _
      rw [hz2]
      have he : IsEnum ((s1.heap.push { cls := .type "tuple_iterator", data := .fields #[.ref a, .int 0 0] }).push { cls := .type "enumerate", data := .fields #[.none, .bool false, .ref s1.heap.objs.size, rawInt 0, .none, .none] }) (s1.heap.objs.size + 1) s1.heap.objs.size 0 .none := by
        have := Heap.get?_push_size (s1.heap.push { cls := .type "tuple_iterator", data := .fields #[.ref a, .int 0 0] }) (o := { cls := .type "enumerate", data := .fields #[.none, .bool false, .ref s1.heap.objs.size, rawInt 0, .none, .none] }) rfl
        rw [hz2] at this
        exact this
      refine ⟨⟨_, he, rfl⟩, wpAny_pyIter_enum he ?_⟩
      have hk : ∀ b o, s1.heap.get? b = some o → ((s1.heap.push { cls := .type "tuple_iterator", data := .fields #[.ref a, .int 0 0] }).push { cls := .type "enumerate", data := .fields #[.none, .bool false, .ref s1.heap.objs.size, rawInt 0, .none, .none] }).get? b = some o := fun b o x => Heap.get?_push_of_some _ (Heap.get?_push_of_some _ x)
      have I2 := I1.kept (t' := s1.toks) hk
      exact ⟨s1.heap.objs.size + 1, [s1.heap.objs.size + 1, s1.heap.objs.size], _, _, H1, rfl, I2, turn_enumB (t := true) a (s1.heap.objs.size + 1) s1.heap.objs.size, ⟨⟨.none, he⟩, ⟨_, Heap.get?_push_of_some _ (Heap.get?_push_size _ rfl), rfl, rfl⟩, Nat.succ_ne_self _, Nat.ne_of_gt (Nat.lt_succ_of_lt al), Nat.ne_of_lt al⟩, fp2, q⟩
def enD (ds : List D) : List D := (List.range ds.length).zipWith (fun (i : Nat) d => PyData.tuple [.int (i : Int), d]) ds
theorem enD_len {ds : List D} : (enD ds).length = ds.length := by simp [enD]
theorem enD_get {ds : List D} {i : Nat} {d : D} (h : ds[i]? = some d) : (enD ds)[i]? = some (.tuple [.int (i : Int), d]) := by
  have hi : i < ds.length := (List.getElem?_eq_some_iff.mp h).1
  have hd : ds[i] = d := (List.getElem?_eq_some_iff.mp h).2
  simp [enD, List.getElem?_zipWith, hi, hd]
theorem items_pair {K : PySem.W.Frag} {Ph Bh : Hp} {xs : List V} {ds : List D} {J : It} {Gp : Hp → Prop} (w : Walk J xs.length Gp (YPairN (fun i => some (.int (i : Nat))) (fun i => xs[i]?))) (hG : ∀ H1, Le Ph H1 → Le Bh H1 → Gp H1) (dp : DpAll K Ph xs ds) : Items K Ph Bh (enD ds) J := by
  refine ⟨Gp, _, by rw [enD_len, ← dps_len dp]; exact w, hG, fun i H1 x H2 S hi l _ hS y => ?_⟩
  obtain ⟨T, u, v, rfl, hT, ⟨ob, od, rfl⟩, eu, ev⟩ := y
  cases eu
  rw [enD_len] at hi
  obtain ⟨d, hd⟩ : ∃ d, ds[i]? = some d := ⟨ds[i], List.getElem?_eq_getElem hi⟩
  obtain ⟨v', h1, h2⟩ := dps_get dp hd
  have ev : xs[i]? = some v := ev
  rw [ev] at h1
  cases h1
  have nT : ¬ S T := fun z => hS T z hT
  have le : Le (hid S H1) (hid S (upd H1 T (.frz ob (.tup [.int (i : Nat), v])))) := hid_le (Grow.new hT).le fun _ z => z
  refine ⟨Grow.new hT, _, enD_get hd, .tup (SqN.of od ?_) (.cons (.int _) (.cons (Le.dp (l.trans le) d v h2) .nil))⟩
  rw [hid_in nT]
  exact upd_same
def iEnD (f : DF) : De → Wp (List D) := fun δ => (f δ).bind fun d => (seqD d).bind fun ds => .pure (enD ds)
theorem di_enum {X : Cx} {C : Cs} {W : WX} {e : Expr} {f : DF} {p pos tpos : Pos} {elts : List Expr} {kk : Nat} (hK : C.K = X.K) (hg : Gl X "enumerate") (hm : X.mg "enumerate" = none) (he : DE X C W e f) (hs : starEach [e] X.env = [(false, eval e X.env)] := by rfl) :
    DI X C W (.Tuple elts kk tpos) (.Call (.Name "enumerate" p) [e] [] pos) (iEnD f) := by
  obtain ⟨t, pt, q⟩ := he
  refine ⟨_, pi_enumA hg hm (pa_cons pt pa_nil hs) hs, fun S0 H0 Pb σ H δ Q R h => q S0 H0 Pb σ H δ _ R ((f δ).mono (fun d h v G g dp => ?_) (fun _ z => z) h)⟩
  rw [← hK]
  cases dp with
  | lst s a => exact ⟨_, _, rfl, .inl ⟨Le.sqL hid_sub s, h _ G g (items_pair (walk_enumB (t := false)) (fun H1 l _ => l.sqL s) a)⟩⟩
  | tup s a => exact ⟨_, _, rfl, .inr ⟨Le.sqT hid_sub s.sq, h _ G g (items_pair (walk_enumB (t := true)) (fun H1 l _ => l.sqT s.sq) a)⟩⟩
  | _ => exact h.elim
@[simp] theorem rw_iEnD {f : DF} {δ : De} : iEnD f δ = (f δ).bind fun d => (seqD d).bind fun ds => .pure (enD ds) := rfl
end Tr

namespace Tr
open PySem PySem.Spec L2
variable [ProtC]
def intsD : List D → Option (List Int)
  | [] => some []
  | .int i :: ds => (intsD ds).map (i :: ·)
  | _ => none
theorem ints_dps {K : PySem.W.Frag} {H : Hp} : ∀ {xs : List V} {ds : List D} {ns : List Int}, DpAll K H xs ds → intsD ds = some ns → xs = ns.map V.int
  | [], _, _, h, e => by cases h; cases e; rfl
  | x :: xs, _, _, h, e => by
    cases h with
    | cons a b =>
      cases a with
      | int i =>
        unfold intsD at e
        obtain ⟨ms, e1, e2⟩ := Option.map_eq_some_iff.mp e
        subst e2
        rw [ints_dps b e1]
        rfl
      | _ => cases e
end Tr

namespace Tr
abbrev Ln := Int × Rat
def fL (x : Ln) (t : Rat) : Rat := if 0 < x.1 ∧ x.2 < t then (t - x.2) / (x.1 : Rat) else 0
def rL (x : Ln) (t : Rat) : Rat := if 0 < x.1 ∧ x.2 ≤ t then 1 / (x.1 : Rat) else 0
def tkQ : List Ln → Rat → Rat
  | [], _ => 0
  | x :: L, t => fL x t + tkQ L t
theorem qdiv_nonneg {a : Rat} {s : Int} (h : 0 ≤ a) (hs : 0 < s) : 0 ≤ a / (s : Rat) := by
  have h1 : (0 : Rat) < s := by exact_mod_cast hs
  have : 0 < (s : Rat)⁻¹ := Rat.inv_pos.mpr h1
  rw [Rat.div_def]
  exact Rat.mul_nonneg h (Rat.le_of_lt this)
theorem qdiv_pos {a : Rat} {s : Int} (h : 0 < a) (hs : 0 < s) : 0 < a / (s : Rat) := by
  have h1 : (0 : Rat) < s := by exact_mod_cast hs
  have : 0 < (s : Rat)⁻¹ := Rat.inv_pos.mpr h1
  rw [Rat.div_def]
  exact Rat.mul_pos h this
theorem fL_nonneg (x : Ln) (t : Rat) : 0 ≤ fL x t := by
  unfold fL; split
  · exact qdiv_nonneg (by grind) (by grind)
  · grind
theorem fL_pos {x : Ln} {t : Rat} : 0 < fL x t ↔ 0 < x.1 ∧ x.2 < t := by
  unfold fL; split
  · rename_i h
    exact ⟨fun _ => h, fun h => qdiv_pos (by grind) h.1⟩
  · rename_i h
    exact ⟨fun z => by grind, fun z => absurd z h⟩
theorem rL_nonneg (x : Ln) (t : Rat) : 0 ≤ rL x t := by
  unfold rL; split
  · exact qdiv_nonneg (by grind) (by grind)
  · grind
theorem fL_line {x : Ln} {t u v : Rat} (h : 0 < x.1 → x.2 ≤ t ∨ u ≤ x.2) (h1 : t ≤ v) (h2 : v ≤ u) : fL x v = fL x t + (v - t) * rL x t := by
  unfold fL rL
  by_cases hs : 0 < x.1
  · have hq : (x.1 : Rat) ≠ 0 := by
      have : x.1 ≠ 0 := by omega
      exact_mod_cast this
    simp only [hs, true_and]
    rcases h hs with a | a
    · rw [if_pos a]
      by_cases c : x.2 < t
      · rw [if_pos c, if_pos (by grind)]; grind
      · have e : x.2 = t := by grind
        by_cases d : x.2 < v
        · rw [if_pos d, if_neg c]; grind
        · rw [if_neg d, if_neg c]; grind
    · rw [if_neg (by grind)]
      by_cases c : x.2 ≤ t
      · rw [if_pos c, if_neg (by grind)]
        have : v = t := by grind
        subst this
        grind
      · rw [if_neg c, if_neg (by grind)]; grind
  · simp only [hs, false_and, if_false]; grind
theorem fL_mono {x : Ln} {t u : Rat} (h : t ≤ u) : fL x t ≤ fL x u := by
  by_cases c : 0 < x.1 ∧ x.2 < u
  · by_cases d : x.2 ≤ t
    · have := fL_line (x := x) (u := u) (fun _ => .inl d) h (by grind)
      have := Rat.mul_nonneg (show 0 ≤ u - t by grind) (rL_nonneg x t)
      grind
    · have : fL x t = 0 := by unfold fL; rw [if_neg (by grind)]
      have := fL_nonneg x u
      grind
  · have : fL x u = 0 := by unfold fL; rw [if_neg c]
    have : fL x t = 0 := by unfold fL; rw [if_neg (by grind)]
    grind
theorem fL_strict {x : Ln} {t u : Rat} (h : t < u) (hp : 0 < fL x t) : fL x t < fL x u := by
  have c := fL_pos.mp hp
  have e := fL_line (x := x) (u := u) (fun _ => .inl (by grind)) (show t ≤ u by grind) (by grind)
  have : 0 < rL x t := by unfold rL; rw [if_pos ⟨c.1, by grind⟩]; exact qdiv_pos (by grind) c.1
  have := Rat.mul_pos (show 0 < u - t by grind) this
  grind
theorem tk_nonneg (L : List Ln) (t : Rat) : 0 ≤ tkQ L t := by
  induction L with
  | nil => exact Rat.le_refl
  | cons x L ih => have := fL_nonneg x t; simp only [tkQ]; grind
theorem tk_mono {L : List Ln} {t u : Rat} (h : t ≤ u) : tkQ L t ≤ tkQ L u := by
  induction L with
  | nil => exact Rat.le_refl
  | cons x L ih => have := fL_mono (x := x) h; simp only [tkQ]; grind
theorem tk_pos {L : List Ln} {t : Rat} : 0 < tkQ L t ↔ ∃ x ∈ L, 0 < x.1 ∧ x.2 < t := by
  induction L with
  | nil => simp [tkQ]
  | cons x L ih =>
    have h1 := fL_nonneg x t
    have h2 := tk_nonneg L t
    simp only [tkQ, List.mem_cons, exists_eq_or_imp]
    rw [← ih, ← fL_pos]
    constructor
    · intro h
      by_cases c : 0 < fL x t
      · exact .inl c
      · exact .inr (by grind)
    · rintro (h | h) <;> grind
theorem tk_strict {L : List Ln} {t u : Rat} (h : t < u) (hp : 0 < tkQ L t) : tkQ L t < tkQ L u := by
  induction L with
  | nil => simp [tkQ] at hp
  | cons x L ih =>
    have h1 := fL_mono (x := x) (Rat.le_of_lt h)
    have h2 := tk_mono (L := L) (Rat.le_of_lt h)
    have h3 := fL_nonneg x t
    have h4 := tk_nonneg L t
    simp only [tkQ] at hp ⊢
    by_cases c : 0 < fL x t
    · have := fL_strict h c; grind
    · have := ih (by grind); grind
def Free (L : List Ln) (t u : Rat) : Prop := ∀ x ∈ L, 0 < x.1 → x.2 ≤ t ∨ u ≤ x.2
structure Lev (L : List Ln) (d t : Rat) : Prop where
  le : ∀ x ∈ L, x.1 = 0 → t ≤ x.2
  tk : tkQ L t ≤ d
  eq : tkQ L t = d ∨ ∃ x ∈ L, x.1 = 0 ∧ x.2 = t
theorem Lev.lt_no {L : List Ln} {d t u : Rat} (hd : 0 < d) (a : Lev L d t) (b : Lev L d u) : ¬ t < u := by
  intro h
  rcases a.eq with e | ⟨x, hx, h0, e⟩
  · have := tk_strict (L := L) h (by grind)
    have := b.tk
    grind
  · have := b.le x hx h0
    grind
theorem Lev.uniq {L : List Ln} {d t u : Rat} (hd : 0 < d) (a : Lev L d t) (b : Lev L d u) : t = u := by
  have := Lev.lt_no hd a b
  have := Lev.lt_no hd b a
  grind
structure Seg (L : List Ln) (d t d' t' : Rat) : Prop where
  tt : t ≤ t'
  e : d = tkQ L t
  dd : d < d'
  le : ∀ x ∈ L, x.1 = 0 → t' ≤ x.2
  k : (d' = tkQ L t' ∧ t < t' ∧ Free L t t') ∨ (t = t' ∧ ∃ x ∈ L, x.1 = 0 ∧ x.2 = t')
structure Crn (L : List Ln) (M b0 : Rat) (ps : List Rat) (cs : List (Rat × Rat)) (d t : Rat) : Prop where
  hd : cs[0]? = some (0, b0)
  la : cs.getLast? = some (d, t)
  seg : ∀ (i : Nat) (c c' : Rat × Rat), cs[i]? = some c → cs[i + 1]? = some c' → Seg L c.1 c.2 c'.1 c'.2
  ba : ∀ c ∈ cs, ∃ x ∈ L, x.2 = c.2
  e : d = tkQ L t
  dM : d < M
  le : ∀ x ∈ L, x.1 = 0 → t ≤ x.2
  pr : ∀ b ∈ ps, b ≤ t ∨ (∃ x ∈ L, x.1 = 0 ∧ x.2 < b) ∨ M ≤ tkQ L b
section
variable {L : List Ln} {M b0 : Rat} {ps : List Rat} {cs : List (Rat × Rat)} {d t : Rat}
theorem seg_snoc {c0 : Rat × Rat} (la : cs.getLast? = some c0) {c1 : Rat × Rat} (seg : ∀ (i : Nat) (c c' : Rat × Rat), cs[i]? = some c → cs[i + 1]? = some c' → Seg L c.1 c.2 c'.1 c'.2) (h : Seg L c0.1 c0.2 c1.1 c1.2) (i : Nat) (c c' : Rat × Rat)
    (h1 : (cs ++ [c1])[i]? = some c) (h2 : (cs ++ [c1])[i + 1]? = some c') : Seg L c.1 c.2 c'.1 c'.2 := by
  have hl : cs ≠ [] := by rintro rfl; cases la
  have hp : 0 < cs.length := List.length_pos_iff.mpr hl
  by_cases hi : i + 1 < cs.length
  · rw [List.getElem?_append_left (by omega)] at h1
    rw [List.getElem?_append_left hi] at h2
    exact seg i c c' h1 h2
  · by_cases hi' : i + 1 = cs.length
    · rw [List.getElem?_append_left (by omega)] at h1
      rw [hi', List.getElem?_append_right (Nat.le_refl _)] at h2
      simp at h2
      rw [List.getLast?_eq_getElem?] at la
      rw [show cs.length - 1 = i by omega, h1] at la
      cases la
      cases h2
      exact h
    · rw [List.getElem?_eq_none (by simp; omega)] at h2
      cases h2
theorem Crn.skip {b : Rat} (h : Crn L M b0 ps cs d t) (hb : b ≤ t ∨ (∃ x ∈ L, x.1 = 0 ∧ x.2 < b) ∨ M ≤ tkQ L b) : Crn L M b0 (ps ++ [b]) cs d t :=
  ⟨h.hd, h.la, h.seg, h.ba, h.e, h.dM, h.le, fun b' hb' => by
    rcases List.mem_append.mp hb' with z | z
    · exact h.pr b' z
    · rw [List.mem_singleton] at z
      exact z ▸ hb⟩
theorem Crn.low {b : Rat} (h : Crn L M b0 ps cs d t) (h0 : ∃ x ∈ L, 0 ≤ x.1 ∧ x.2 = b0) (ht : b0 ≤ t) (hb : tkQ L b = 0) (hu : ∀ x ∈ L, x.1 = 0 → b ≤ x.2) : b ≤ t := by
  obtain ⟨x, hx, h0, e⟩ := h0
  by_cases c : x.1 = 0
  · have := hu x hx c
    grind
  · have : ¬ x.2 < b := fun z => by
      have := tk_pos.mpr ⟨x, hx, by omega, z⟩
      grind
    grind
theorem Crn.same {b : Rat} (h : Crn L M b0 ps cs d t) (hb : tkQ L b = d) (hp : 0 < d) : b ≤ t := by
  have : ¬ t < b := fun z => by
    have := tk_strict (L := L) z (by have := h.e; grind)
    have := h.e
    grind
  grind
theorem Crn.free {b : Rat} (h : Crn L M b0 ps cs d t) (hps : ∀ x ∈ L, 0 < x.1 → x.2 < b → x.2 ∈ ps) (hu : ∀ x ∈ L, x.1 = 0 → b ≤ x.2) (hM : tkQ L b ≤ M) (hMp : 0 < M) : Free L t b := by
  intro x hx hp
  by_cases c : x.2 < b
  · rcases h.pr _ (hps x hx hp c) with z | ⟨y, hy, hy0, hyb⟩ | z
    · exact .inl z
    · have := hu y hy hy0
      grind
    · have := tk_strict (L := L) c (by grind)
      grind
  · exact .inr (by grind)
theorem Crn.snoc {b : Rat} (h : Crn L M b0 ps cs d t) (hps : ∀ x ∈ L, 0 < x.1 → x.2 < b → x.2 ∈ ps) (hbL : ∃ x ∈ L, x.2 = b) (hu : ∀ x ∈ L, x.1 = 0 → b ≤ x.2) (hp : 0 < tkQ L b) (hM : tkQ L b < M) (hd : tkQ L b ≠ d) (htb : ∀ b' ∈ ps, b' ≤ b) (ht : t ∈ ps ∨ t ≤ b) :
    Crn L M b0 (ps ++ [b]) (cs ++ [(tkQ L b, b)]) (tkQ L b) b := by
  have tb : t ≤ b := by
    rcases ht with z | z
    · exact htb t z
    · exact z
  have ne : t ≠ b := by rintro rfl; exact hd h.e.symm
  have lt : t < b := by grind
  have hl : cs ≠ [] := by rintro rfl; cases h.la
  have dd : d < tkQ L b := by
    have := tk_mono (L := L) tb
    have := h.e
    grind
  refine ⟨?_, by simp, seg_snoc h.la h.seg ⟨tb, h.e, dd, hu, .inl ⟨rfl, lt, h.free hps hu (by grind) (by grind)⟩⟩, fun c hc => ?_, rfl, hM, hu, fun b' hb' => ?_⟩
  · rw [List.getElem?_append_left (List.length_pos_iff.mpr hl)]
    exact h.hd
  · rcases List.mem_append.mp hc with z | z
    · exact h.ba c z
    · rw [List.mem_singleton] at z
      subst z
      exact hbL
  · rcases List.mem_append.mp hb' with z | z
    · exact .inl (htb b' z)
    · rw [List.mem_singleton] at z
      exact .inl (by rw [z]; exact Rat.le_refl)
theorem Crn.fin {u : Rat} (h : Crn L M b0 ps cs d t) (hM : 0 < M) (hps : ∀ x ∈ L, x.2 ∈ ps) (hu : Lev L M u) : Seg L d t M u := by
  have e := h.e
  have dM := h.dM
  have tu : t ≤ u := by
    have : ¬ u < t := fun z => by
      rcases hu.eq with q | ⟨x, hx, h0, q⟩
      · have := tk_mono (L := L) (Rat.le_of_lt z)
        grind
      · have := h.le x hx h0
        grind
    grind
  refine ⟨tu, e, dM, hu.le, ?_⟩
  rcases hu.eq with q | ⟨x, hx, h0, q⟩
  · refine .inl ⟨q.symm, ?_, h.free (fun x hx _ _ => hps x hx) hu.le hu.tk hM⟩
    have : t ≠ u := by rintro rfl; grind
    grind
  · by_cases c : tkQ L u = M
    · refine .inl ⟨c.symm, ?_, h.free (fun x hx _ _ => hps x hx) hu.le hu.tk hM⟩
      have : t ≠ u := by rintro rfl; grind
      grind
    · refine .inr ⟨?_, x, hx, h0, q⟩
      rcases h.pr u (q ▸ hps x hx) with z | ⟨y, hy, hy0, hyb⟩ | z
      · grind
      · have := hu.le y hy hy0
        grind
      · have := hu.tk
        grind
end
end Tr
namespace Tr
def sumQ : List Rat → Rat
  | [] => 0
  | q :: s => q + sumQ s
def RestQ : List Ln → List Rat → Rat → Prop
  | [], [], _ => True
  | x :: L, f :: fs, t => 0 ≤ f ∧ t ≤ x.1 * f + x.2 ∧ (0 < f → x.1 * f + x.2 = t) ∧ RestQ L fs t
  | _, _, _ => False
def Pos0 (fs : List Rat) : Prop := ∀ f ∈ fs, 0 ≤ f
theorem RestQ.len {L : List Ln} {f : List Rat} {t : Rat} (h : RestQ L f t) : f.length = L.length := by
  induction L generalizing f with
  | nil => cases f with
    | nil => rfl
    | cons _ _ => exact h.elim
  | cons x L ih => cases f with
    | nil => exact h.elim
    | cons y f => simp [ih h.2.2.2]
theorem RestQ.pos {L : List Ln} {f : List Rat} {t : Rat} (h : RestQ L f t) : Pos0 f := by
  induction L generalizing f with
  | nil => cases f with
    | nil => intro _ h; cases h
    | cons _ _ => exact h.elim
  | cons x L ih => cases f with
    | nil => exact h.elim
    | cons y f =>
      intro z hz
      rcases List.mem_cons.mp hz with rfl | hz
      · exact h.1
      · exact ih h.2.2.2 z hz
theorem tk_append {L M : List Ln} {t : Rat} : tkQ (L ++ M) t = tkQ L t + tkQ M t := by
  induction L with
  | nil => simp only [List.nil_append, tkQ]; grind
  | cons x L ih => simp only [List.cons_append, tkQ, ih]; grind
theorem Lev.more {L : List Ln} {x : Ln} {d t t' : Rat} (hd : 0 < d) (h : Lev L d t) (h' : Lev (L ++ [x]) d t') : ¬ t < t' := by
  intro z
  rcases h.eq with e | ⟨y, hy, h0, e⟩
  · have a := tk_append (L := L) (M := [x]) (t := t)
    have b := tk_nonneg [x] t
    have c := tk_strict (L := L ++ [x]) z (by grind)
    have := h'.tk
    grind
  · have := h'.le y (by simp [hy]) h0
    grind
end Tr
namespace Tr
def IsZ (Q : Nat) (q : Rat) : Prop := ∃ n : Int, q * (Q : Rat) = n
theorem IsZ.sub {Q : Nat} {p q : Rat} (h : IsZ Q p) (h' : IsZ Q q) : IsZ Q (p - q) := by
  obtain ⟨a, ha⟩ := h
  obtain ⟨b, hb⟩ := h'
  refine ⟨a - b, ?_⟩
  push_cast
  grind
theorem IsZ.up {Q k : Nat} {q : Rat} (h : IsZ Q q) : IsZ (Q * k) q := by
  obtain ⟨a, ha⟩ := h
  refine ⟨a * k, ?_⟩
  push_cast
  grind
theorem IsZ.zero {Q : Nat} : IsZ Q 0 := ⟨0, by simp⟩
end Tr
namespace Tr
end Tr

namespace Tr
open PySem PySem.Spec L2
variable [ProtC]
section
variable {X : Cx} {C : Cs} {W : WX} {pos : Pos} {a b c : Expr} {f g h : DF}
theorem dt_chain {op op' : CmpOp} {F F' : D → D → Wp D} {r r' : R2} (ho : OpR X (compareOp op) r) (hF : Op2 X C r F) (ho' : OpR X (compareOp op') r') (hF' : Op2 X C r' F') (ha : DE X C W a f) (hb : DE X C W b g) (hc : DE X C W c h)
    (hm : lastMarks [op, op'] [b, c] = false := by with_unfolding_all rfl) :
    DT X C W (.Compare a [op, op'] [b, c] pos) (tBv (dChain F F' f g h)) := by
  obtain ⟨ta, pa, qa⟩ := ha
  obtain ⟨tb, pb, qb⟩ := hb
  obtain ⟨tc, pc, qc⟩ := hc
  refine ⟨_, pt_chain ho ho' pa pb pc hm, fun S0 H0 Pb σ H δ Q R hh => qa S0 H0 Pb σ H δ _ R ((f δ).mono (fun d hh x H1 g1 dx => ?_) (fun _ z => z) hh)⟩
  refine qb S0 H0 Pb σ H1 δ _ (R.gr g1) ((g δ).mono (fun e hh y H2 g2 dy => ?_) (fun _ z => z.gr g1) hh)
  refine hF x y H2 d e _ S0 H0 Pb σ δ _ (R.gr (g1.trans g2)) (Le.dp (hid_le g2.le fun _ z => z) d x dx) dy ((F d e).mono (fun z hz v H3 g3 dz => ?_) (fun _ z => z) hh)
  obtain ⟨k, rfl, hk⟩ := asB_inv hz
  cases dz
  refine ⟨k, rfl, ?_⟩
  cases k with
  | false => exact ⟨false, rfl, hk H3 (g1.trans (g2.trans g3))⟩
  | true =>
    refine qc S0 H0 Pb σ H3 δ _ (R.gr (g1.trans (g2.trans g3))) ((h δ).mono (fun x' hx v' H4 g4 dx' => ?_) (fun _ z => z.gr (g1.trans (g2.trans g3))) hk)
    refine hF' y v' H4 e x' _ S0 H0 Pb σ δ _ (R.gr (g1.trans (g2.trans (g3.trans g4)))) (Le.dp (hid_le (g3.trans g4).le fun _ z => z) e y dy) dx' ((F' e x').mono (fun d' hd v2 H5 g5 dp => ?_) (fun _ z => z.gr (g1.trans (g2.trans (g3.trans g4)))) hx)
    obtain ⟨k', rfl, hk'⟩ := asB_inv hd
    cases dp
    exact ⟨k', rfl, hk' H5 ((g1.trans (g2.trans (g3.trans g4))).trans g5)⟩
end
section
variable {α : Type} {g : α → D} {xs : List α} {q : BF} {F : SF} {ko : Out → Prop} {w : Exn → Prop} {δ : De}
theorem loop_pre (I : List α → De → Prop) (h0 : I [] δ)
    (hs : ∀ pre x post δ, xs = pre ++ x :: post → I pre δ → ∃ δ1, q (g x) δ = some δ1 ∧ (F δ1).run (fun o => match o with
      | .nx δ' => I (pre ++ [x]) δ'
      | .ct δ' => I (pre ++ [x]) δ'
      | .bk δ' => ko (.nx δ')
      | .rt d => ko (.rt d)) w)
    (hd : ∀ δ, I xs δ → ko (.nx δ)) : (sLoop q F (xs.map g) δ).run ko w := by
  refine loop_inv (fun i δ => I (xs.take i) δ) (by simpa using h0) (fun i δ d hi hI => ?_) (fun δ h => hd δ (by simpa using h))
  rw [List.getElem?_map] at hi
  cases hx : xs[i]? with
  | none => rw [hx] at hi; cases hi
  | some x =>
    rw [hx] at hi
    obtain ⟨hl, hx'⟩ := List.getElem?_eq_some_iff.mp hx
    have e : xs = xs.take i ++ x :: xs.drop (i + 1) := by rw [← hx', ← List.drop_eq_getElem_cons hl, List.take_append_drop]
    have e2 : xs.take (i + 1) = xs.take i ++ [x] := by rw [List.take_succ, hx]; rfl
    have := hs _ x _ δ e hI
    rw [← e2] at this
    cases hi
    exact this
variable {t : TF} {f : DF} {k : List D → Prop} {p : α → Bool} {h : α → D}
theorem lc_run (hs : ∀ x ∈ xs, ∃ δ1, q (g x) δ = some δ1 ∧ (∀ kb : Bool → Prop, kb (p x) → (t δ1).run kb w) ∧ (p x = true → ∀ kd : D → Prop, kd (h x) → (f δ1).run kd w)) (hk : k ((xs.filter p).map h)) : (lcLoop q t f δ (xs.map g)).run k w := by
  induction xs generalizing k with
  | nil => simpa using hk
  | cons x xs ih =>
    obtain ⟨δ1, e, h1, h2⟩ := hs x (by simp)
    rw [List.map_cons, rw_lc1, e]
    simp only [optW_some, pure_bind, run_bind]
    refine h1 _ ?_
    cases c : p x with
    | true =>
      simp only [if_true]
      simp only [run_bind]
      refine h2 c _ (ih (fun y hy => hs y (by simp [hy])) ?_)
      simpa [c] using hk
    | false =>
      simp only [Bool.false_eq_true, if_false]
      refine ih (fun y hy => hs y (by simp [hy])) ?_
      simpa [c] using hk
end
theorem cut_take {A : Type} {xs : List A} {n : Nat} : cutD xs none (some (n : Int)) = xs.take n := by
  unfold cutD
  rw [HT.sIx_nat, HT.sIx_none]
  by_cases h : n ≤ xs.length
  · simp [Nat.min_eq_left h]
  · simp [Nat.min_eq_right (Nat.le_of_lt (Nat.lt_of_not_le h)), List.take_of_length_le (Nat.le_of_lt (Nat.lt_of_not_le h))]
theorem cut_drop {A : Type} {xs : List A} {n : Nat} : cutD xs (some (n : Int)) none = xs.drop n := by
  unfold cutD
  rw [HT.sIx_nat, HT.sIx_none]
  by_cases h : n ≤ xs.length
  · rw [Nat.min_eq_left h, List.take_of_length_le (by simp)]
  · simp [Nat.min_eq_right (Nat.le_of_lt (Nat.lt_of_not_le h)), List.drop_eq_nil_of_le (Nat.le_of_lt (Nat.lt_of_not_le h))]
@[simp] theorem rw_tupL {ds : List D} : bTuple [.list ds] = .pure (.tuple ds) := rfl
@[simp] theorem rw_tupT {ds : List D} : bTuple [.tuple ds] = .pure (.tuple ds) := rfl
@[simp] theorem rw_listL {ds : List D} : bList [.list ds] = .pure (.list ds) := rfl
@[simp] theorem rw_listT {ds : List D} : bList [.tuple ds] = .pure (.list ds) := rfl
@[simp] theorem rw_dOix {i : Nat} {f : DF} {δ : De} : dOix i f δ = (slotO δ[i]?).bind fun ds => (f δ).bind fun k => (asI1 k).bind fun k => optW (atI ds k) := rfl
theorem atI_last {A : Type} {l : List A} : atI l (-1) = l.getLast? := by
  unfold atI ixN
  rw [List.getLast?_eq_getElem?, if_neg (by omega)]
  by_cases h : l = []
  · subst h; rfl
  · have : 0 < l.length := List.length_pos_iff.mpr h
    rw [if_pos (by omega)]
    show l[((-1 : Int) + l.length).toNat]? = _
    rw [show ((-1 : Int) + l.length).toNat = l.length - 1 by omega]
section
variable {q : BF} {w : Exn → Prop} {δ : De} {t : TF} {f : DF}
theorem lc_ex {xs : List D} {P : D → Prop} {k : List D → Prop} (hs : ∀ x ∈ xs, ∃ δ1, q x δ = some δ1 ∧ (∀ kb : Bool → Prop, kb true → (t δ1).run kb w) ∧ (∀ kd : D → Prop, (∀ d, P d → kd d) → (f δ1).run kd w)) (hk : ∀ ds : List D, ds.length = xs.length → (∀ d ∈ ds, P d) → k ds) : (lcLoop q t f δ xs).run k w := by
  induction xs generalizing k with
  | nil => exact hk [] rfl (fun _ h => by cases h)
  | cons x xs ih =>
    obtain ⟨δ1, e, h1, h2⟩ := hs x (by simp)
    rw [rw_lc1, e]
    simp only [optW_some, pure_bind, run_bind]
    refine h1 _ ?_
    simp only [if_true]
    simp only [run_bind]
    refine h2 _ fun d hd => ih (fun y hy => hs y (by simp [hy])) fun ds hl hp => ?_
    refine hk (d :: ds) (by simp [hl]) fun y hy => ?_
    rcases List.mem_cons.mp hy with rfl | hy
    · exact hd
    · exact hp y hy
end
theorem pic {α : Type} {g : α → D} {P : α → Prop} {ds : List D} (h : ∀ d ∈ ds, ∃ x, P x ∧ d = g x) : ∃ xs : List α, ds = xs.map g ∧ ∀ x ∈ xs, P x := by
  induction ds with
  | nil => exact ⟨[], rfl, fun _ h => by cases h⟩
  | cons d ds ih =>
    obtain ⟨x, hx, rfl⟩ := h d (by simp)
    obtain ⟨xs, rfl, hxs⟩ := ih fun d hd => h d (by simp [hd])
    exact ⟨x :: xs, rfl, fun y hy => by
      rcases List.mem_cons.mp hy with rfl | hy
      · exact hx
      · exact hxs y hy⟩
theorem lo62_le {i : Int} (h0 : 0 ≤ i) (h1 : i < 1000000) : lo62 i := by
  unfold lo62
  constructor <;> omega
theorem ints_map {ns : List Int} : intsD (ns.map PyData.int) = some ns := by
  induction ns with
  | nil => rfl
  | cons n ns ih => simp [intsD, ih]
end Tr

namespace Tr
open PySem PySem.Spec PyProof.Rows L2
variable [ProtC]
end Tr

namespace Tr
open PySem PySem.Spec PyProof.Rows L2
variable [ProtC]
def zipD (ds es : List D) : List D := List.zipWith (fun d e => PyData.tuple [d, e]) ds es
def iZpD (f g : DF) : De → Wp (List D) := fun δ => (f δ).bind fun d => (g δ).bind fun e => (seqD d).bind fun ds => (seqD e).bind fun es => .pure (zipD ds es)
theorem SqB.le {t : Bool} {K : PySem.W.Frag} {H G : Hp} {a : Addr} {xs : List V} (l : Le H G) (h : SqB t K H a xs) : SqB t K G a xs := by
  cases t
  · exact Le.sqL l h
  · exact Le.sqT l h
@[simp] theorem rw_iZpD {f g : DF} {δ : De} : iZpD f g δ = (f δ).bind fun d => (g δ).bind fun e => (seqD d).bind fun ds => (seqD e).bind fun es => .pure (zipD ds es) := rfl
section
variable {X : Cx} {C : Cs} {W : WX} {pos : Pos} {a b c d : Expr} {f g h m : DF} {ta tb tc td : TE}
def dChain3 (F G J : D → D → Wp D) (f g h m : DF) : DF := fun δ => (f δ).bind fun d => (g δ).bind fun e => (F d e).bind fun z => (asB z).bind fun k => if k then (h δ).bind fun x => (G e x).bind fun z' => (asB z').bind fun k' => if k' then (m δ).bind fun y => J x y else .pure (.bool false) else .pure (.bool false)
@[simp] theorem rw_dChain3 {F G J : D → D → Wp D} {δ : De} : dChain3 F G J f g h m δ = (f δ).bind fun d => (g δ).bind fun e => (F d e).bind fun z => (asB z).bind fun k => if k then (h δ).bind fun x => (G e x).bind fun z' => (asB z').bind fun k' => if k' then (m δ).bind fun y => J x y else .pure (.bool false) else .pure (.bool false) := rfl
end
end Tr

namespace Tr
open PySem PySem.Spec PyProof.Rows L2
variable [ProtC]
section
variable {X : Cx} {C : Cs} {W : WX} {pos : Pos} {a b : Expr} {f g : DF}
def dIsB : D → D → Wp D
  | .bool a, .bool b => .pure (.bool (decide (a = b)))
  | _, _ => .stuck
def dIsNotB : D → D → Wp D
  | .bool a, .bool b => .pure (.bool (!decide (a = b)))
  | _, _ => .stuck
@[simp] theorem rw_isB {a b : Bool} : dIsB (.bool a) (.bool b) = .pure (.bool (decide (a = b))) := rfl
@[simp] theorem rw_isNotB {a b : Bool} : dIsNotB (.bool a) (.bool b) = .pure (.bool (!decide (a = b))) := rfl
end
section
variable {X : Cx} {C : Cs} {W : WX} {pos p2 : Pos} {a b : Expr} {f g : DF}
def dRev : D → D → Wp D
  | .tuple ds, .int i => .need (i = -1) (.pure (.tuple ds.reverse))
  | _, _ => .stuck
@[simp] theorem rw_rev {ds : List D} : dRev (.tuple ds) (.int (-1)) = .need ((-1 : Int) = -1) (.pure (.tuple ds.reverse)) := rfl
end
end Tr

namespace Tr
open PySem PySem.Spec PyProof.Rows L2
variable [ProtC]
end Tr

namespace TrS
open PySem PyProof.Rows Srt SrtO
abbrev lexT : List Int → List Int → Bool := HT.lexLt
theorem lex_asym : ∀ x y : List Int, lexT x y = true → lexT y x = false
  | [], [], h => by cases h
  | [], _ :: _, _ => rfl
  | _ :: _, [], h => by cases h
  | a :: x, b :: y, h => by
    have h' : (if a = b then lexT x y else decide (a < b)) = true := h
    show (if b = a then lexT y x else decide (b < a)) = false
    by_cases e : a = b
    · rw [if_pos e] at h'
      rw [if_pos e.symm]
      exact lex_asym x y h'
    · rw [if_neg e] at h'
      rw [if_neg (Ne.symm e)]
      have := of_decide_eq_true h'
      exact decide_eq_false (by omega)
theorem lex_tr : ∀ x y z : List Int, lexT y x = false → lexT z y = false → lexT z x = false
  | [], _, [], _, _ => rfl
  | [], _, _ :: _, _, _ => rfl
  | _ :: _, [], [], h, _ => by cases h
  | _ :: _, [], _ :: _, h, _ => by cases h
  | _ :: _, _ :: _, [], _, h => by cases h
  | a :: x, b :: y, c :: z, h1, h2 => by
    have h1' : (if b = a then lexT y x else decide (b < a)) = false := h1
    have h2' : (if c = b then lexT z y else decide (c < b)) = false := h2
    show (if c = a then lexT z x else decide (c < a)) = false
    by_cases e1 : b = a
    · rw [if_pos e1] at h1'
      by_cases e2 : c = b
      · rw [if_pos e2] at h2'
        rw [if_pos (e2.trans e1)]
        exact lex_tr x y z h1' h2'
      · rw [if_neg e2] at h2'
        rw [if_neg (by omega)]
        have := of_decide_eq_false h2'
        exact decide_eq_false (by omega)
    · rw [if_neg e1] at h1'
      have q1 := of_decide_eq_false h1'
      by_cases e2 : c = b
      · rw [if_neg (by omega)]
        exact decide_eq_false (by omega)
      · rw [if_neg e2] at h2'
        have q2 := of_decide_eq_false h2'
        rw [if_neg (by omega)]
        exact decide_eq_false (by omega)
theorem lex_eq : ∀ x y : List Int, lexT x y = false → lexT y x = false → x = y
  | [], [], _, _ => rfl
  | [], _ :: _, h, _ => by cases h
  | _ :: _, [], _, h => by cases h
  | a :: x, b :: y, h1, h2 => by
    have h1' : (if a = b then lexT x y else decide (a < b)) = false := h1
    have h2' : (if b = a then lexT y x else decide (b < a)) = false := h2
    by_cases e : a = b
    · rw [if_pos e] at h1'
      rw [if_pos e.symm] at h2'
      rw [e, lex_eq x y h1' h2']
    · rw [if_neg e] at h1'
      rw [if_neg (Ne.symm e)] at h2'
      have := of_decide_eq_false h1'
      have := of_decide_eq_false h2'
      omega
theorem swo_lexT {α : Type} (k : α → List Int) : Swo fun v u => lexT (k v) (k u) := ⟨fun x y h => lex_asym _ _ h, fun x y z h1 h2 => lex_tr _ _ _ h1 h2⟩
def IsTI (h : Heap) (v : Value) (ns : List Int) : Prop := ∃ a o its n, v = .ref a ∧ h.get? a = some o ∧ o.cls = .type "tuple" ∧ o.data = .seq its n ∧ IntsAre its.toList ns
theorem IsTI.keeps {h h' : Heap} {v : Value} {ns : List Int} (p : IsTI h v ns) (k : ∀ b o, h.get? b = some o → o.cls = .type "tuple" → h'.get? b = some o) : IsTI h' v ns := by
  obtain ⟨a, o, its, n, e, ho, hc, hd, hi⟩ := p
  exact ⟨a, o, its, n, e, k _ _ ho hc, hc, hd, hi⟩
section
variable {prog : Program} {w : World} {A : Around} {E : Value → Shared → Prop} {s : Shared}
theorem katlex_ints (b : Bool) : ∀ {xs ys : List Value} {ns ms : List Int} (_ : IntsAre xs ns) (_ : IntsAre ys ms) (i : Nat) (fin : Bool) (_ : fin = decide (xs.length < ys.length)),
    PySem.W.KatLex prog w A b fin (fun r s' => s' = s ∧ r = lexT ns ms) (xs.zip ys) i s
  | _, _, _, _, .nil, .nil, i, fin, hf => PySem.W.kat_nil ⟨rfl, hf⟩
  | _, _, _, _, .nil, .cons _ _ _, i, fin, hf => PySem.W.kat_nil ⟨rfl, hf⟩
  | _, _, _, _, .cons _ _ _, .nil, i, fin, hf => PySem.W.kat_nil ⟨rfl, hf⟩
  | _, _, _, _, .cons x t rx, .cons y u ry, i, fin, hf => by
    have ih := katlex_ints b rx ry (i + 1) fin (by rw [hf]; simp)
    rename_i vs ns us ms
    show PySem.W.KatLex prog w A b fin (fun r s' => s' = s ∧ r = (if x = y then lexT ns ms else decide (x < y))) ((Value.int x t, Value.int y u) :: vs.zip us) i s
    refine PySem.W.kat_cons (SeqAt.EqAt.int_int x t y u prog w _ _ ?_)
    refine PySem.W.kat_go (fun e1 => ?_) (fun e1 => ?_)
    · have ex : x = y := by simpa using e1
      refine PySem.W.kat_yes ?_
      rw [show (fun (r : Bool) (s' : Shared) => s' = s ∧ r = (if x = y then lexT ns ms else decide (x < y))) = fun r s' => s' = s ∧ r = lexT ns ms by simp only [if_pos ex]]
      exact ih
    · have ex : ¬ x = y := by simpa using e1
      refine PySem.W.kat_no ?_
      rw [show (fun (r : Bool) (s' : Shared) => s' = s ∧ r = (if x = y then lexT ns ms else decide (x < y))) = fun r s' => s' = s ∧ r = decide (x < y) by simp only [if_neg ex]]
      generalize (b && i == 0) = c
      cases c with
      | true => exact oneLt_int ⟨rfl, rfl⟩
      | false =>
        refine PySem.W.kat_one _ _ (PyProof.Rows.lt_int ?_)
        exact (show s = s ∧ decide (x < y) = decide (x < y) from ⟨rfl, rfl⟩)
theorem tup_cmp {vs : List Value} {k : Value → List Int} (hp : ∀ v ∈ vs, IsTI s.heap v (k v)) : Cmp prog w A s (tuples' true) (fun p => p.1 ∈ vs) (lt2 fun v u => lexT (k v) (k u)) := by
  intro p q hm hm'
  have h1 := hp _ hm
  have h2 := hp _ hm'
  show wpAny (model prog w) A (keyLt' (tuples' true) p.1 q.1) (fun r s' => s' = s ∧ r = lexT (k p.1) (k q.1)) (fun _ _ => False) s
  generalize k p.1 = x at h1 ⊢
  generalize k q.1 = y at h2 ⊢
  obtain ⟨a, o, its, n, e, ho, hc, hd, hi⟩ := h1
  obtain ⟨a', o', its', n', e', ho', hc', hd', hi'⟩ := h2
  rw [e, e']
  refine PySem.W.kat_lt ho hd ho' hd' ?_
  exact katlex_ints true hi hi' 0 _ (by simp)
theorem firsts_tup {h : Heap} {k : Value → List Int} : ∀ {vs : List Value}, (∀ v ∈ vs, IsTI h v (k v) ∧ k v ≠ []) → ∃ fs : List Value, PySem.W.KatTups h vs fs ∧ fs.length = vs.length ∧ ∀ f ∈ fs, ∃ x t, f = Value.int x t
  | [], _ => ⟨[], PySem.W.KatTups.nil, rfl, fun _ hm => by simp at hm⟩
  | v :: vs, hp => by
    obtain ⟨fs, h1, h2, h3⟩ := firsts_tup (vs := vs) fun v' hm => hp v' (List.mem_cons_of_mem _ hm)
    obtain ⟨⟨a, o, its, n, e, ho, hc, hd, hi⟩, hne⟩ := hp v (List.mem_cons_self ..)
    obtain ⟨its⟩ := its
    subst e
    generalize k (Value.ref a) = ns at hi hne
    cases hi with
    | nil => exact absurd rfl hne
    | cons x t r =>
      refine ⟨.int x t :: fs, PySem.W.KatTups.cons ho hc hd rfl h1, by rw [List.length_cons, List.length_cons, h2], fun f hm => ?_⟩
      rcases List.mem_cons.mp hm with rfl | hm
      · exact ⟨x, t, rfl⟩
      · exact h3 f hm
theorem tups_sortable {a : Addr} {vs : List Value} {k : Value → List Int} (h0 : 0 < vs.length) (hp : ∀ v ∈ vs, IsTI s.heap v (k v) ∧ k v ≠ []) (ha : ∀ o, s.heap.get? a = some o → o.cls ≠ .type "tuple") : SortableO prog w A s a vs fun v u => lexT (k v) (k u) := by
  intro h' keep
  have hp' : ∀ v ∈ vs, IsTI h' v (k v) := fun v hm => (hp v hm).1.keeps fun b o e c => keep b o (fun z => by subst z; exact ha o e c) e
  obtain ⟨fs, h1, h2, h3⟩ := firsts_tup fun v hm => ⟨hp' v hm, (hp v hm).2⟩
  refine ⟨tuples' true, fun Q E hq => ?_, tup_cmp hp'⟩
  refine PySem.W.kat_kind (T := .type "int") h1 (by omega) (fun f hm => ?_) (by rfl) ?_
  · obtain ⟨x, t, rfl⟩ := h3 f hm
    exact PySem.W.Looks.now
  · have e : (Value.type "int" != Value.type "tuple") = true := by first | decide +kernel | rfl | decide
    rw [e]
    exact hq
theorem sorted_tups {l : Addr} {vs : List Value} {k : Value → List Int} {Q : Value → Shared → Prop} (hl : s.heap.IsList l vs.toArray) (hz : vs.length ≤ sizeLine) (hp : ∀ v ∈ vs, IsTI s.heap v (k v) ∧ k v ≠ [])
    (h : ∀ (h' : Heap) (d : Addr) (out : List Value), Srtd (fun v u => lexT (k v) (k u)) out → Stb (fun v u => lexT (k v) (k u)) out vs → (∀ b o, s.heap.get? b = some o → h'.get? b = some o) → s.heap.objs.size ≤ d → (∃ n, h'.get? d = some (seqObj "list" out.toArray n)) → Q (.ref d) { s with heap := h' }) :
    wpAny (model prog w) A (call (.builtin "sorted") [.ref l]) Q E s := by
  refine sorted_ord (swo_lexT k) hl hz (fun h2 h₁ a ha kk => ?_) fun out hs hb => ?_
  · refine tups_sortable (s := { s with heap := h₁ }) (by omega) (fun v hm => ⟨(hp v hm).1.keeps fun b o e _ => (kk b o e).2, (hp v hm).2⟩) fun o e => ?_
    have e' : some o = some (seqObj "list" vs.toArray 0) := e.symm.trans ha
    cases e'
    intro c
    exact absurd (Value.type.inj c) (by decide)
  · exact h _ _ out hs hb (fun b o e => sortedAll_old e) (Nat.le_succ _) (sortedAll_at s.heap vs out.toArray)
end
end TrS
namespace Tr
open PySem PySem.Spec PyProof.Rows L2
variable [ProtC]
abbrev lexV (k : V → List Int) (x y : V) : Bool := TrS.lexT (k x) (k y)
def rSortedTI (K : PySem.W.Frag) : List V → Hp → VK → Prop := fun vs H Q => ∃ (a : Addr) (xs : List V) (k : V → List Int), vs = [V.ref a] ∧ SqL K H a xs ∧ (∀ x ∈ xs, (∃ t, x = V.ref t ∧ SqT K H t ((k x).map V.int)) ∧ k x ≠ []) ∧
  ∀ ys p, SrtO.Srtd (lexV k) ys → ys.Perm xs → H p = none → Q (.ref p) (upd H p (.lst ys))
theorem cr_sortedTI {X : Cx} : CallR X (.builtin "sorted") (rSortedTI X.K) := by
  intro pins s σ H vs us Q I r h
  obtain ⟨a, xs, k, rfl, hs, hx, q⟩ := h
  obtain ⟨its, rv, hl, hz⟩ := I.list hs
  obtain ⟨u, rfl, ru⟩ := vals1 r
  obtain rfl : u = Value.ref a := ru
  obtain ⟨e1, e2⟩ := refs_back rv fun x m => by
    obtain ⟨⟨t, e, _⟩, _⟩ := hx x m
    exact ⟨t, e⟩
  refine TrS.sorted_tups (k := fun u => k (backV u)) hl.isList (by rw [← rv.length]; exact hz) (fun v hv => ?_) fun h' d out h1 h2 kp hd hn => ?_
  · obtain ⟨t, rfl⟩ := e2 v hv
    have hm : V.ref t ∈ xs := by rw [e1]; exact List.mem_map.mpr ⟨_, hv, rfl⟩
    obtain ⟨⟨t', e, ht⟩, hne⟩ := hx _ hm
    cases e
    obtain ⟨its2, r2, ⟨o, ho, hc, n, hd⟩, _⟩ := I.tuple ht
    exact ⟨⟨t, o, its2.toArray, n, rfl, ho, hc, hd, r2.ints⟩, hne⟩
  · have h3 : ∀ u ∈ out, ∃ a, u = Value.ref a := fun u hu => e2 u (h2.perm.mem_iff.mp hu)
    obtain ⟨n, hn⟩ := hn
    have hb : SrtO.Stb (lexV k) (out.map backV) xs := by
      rw [e1]
      exact SrtO.Stb.map (TrS.swo_lexT k) backV h2
    refine ⟨.ref d, upd H d (.lst (out.map backV)), I.laid (t' := s.toks) kp hd ⟨?_, out, n, vals_back h3, hn⟩, rfl, q _ d (SrtO.srtd_map h1) hb.perm (I.hok.fresh hd)⟩
    rw [hb.len]
    exact hz
def rSortedTZ (K : PySem.W.Frag) : List V → Hp → VK → Prop := fun vs H Q => ∃ (a : Addr) (zs : List (V × List Int)), vs = [V.ref a] ∧ SqL K H a (zs.map (·.1)) ∧ (∀ z ∈ zs, (∃ t, z.1 = V.ref t ∧ SqT K H t (z.2.map V.int)) ∧ z.2 ≠ []) ∧
  ∀ (ws : List (V × List Int)) (p : Addr), ws.Pairwise (fun x y => TrS.lexT y.2 x.2 = false) → ws.Perm zs → H p = none → Q (.ref p) (upd H p (.lst (ws.map (·.1))))
open Classical in
noncomputable def keyV (K : PySem.W.Frag) (H : Hp) (x : V) : List Int := if h : ∃ ns : List Int, ∃ t, x = V.ref t ∧ SqT K H t (ns.map V.int) then choose h else []
theorem int_inj : ∀ {a b : List Int}, a.map V.int = b.map V.int → a = b
  | [], [], _ => rfl
  | [], _ :: _, h => by simp at h
  | _ :: _, [], h => by simp at h
  | a :: x, b :: y, h => by
    simp only [List.map_cons, List.cons.injEq, V.int.injEq] at h
    rw [h.1, int_inj h.2]
theorem cr_sortedTZ {X : Cx} : CallR X (.builtin "sorted") (rSortedTZ X.K) := by
  intro pins s σ H vs us Q I r h
  obtain ⟨a, zs, rfl, hs, hx, q⟩ := h
  have kz : ∀ z ∈ zs, keyV X.K H z.1 = z.2 := fun z hz => by
    obtain ⟨⟨t, e, ht⟩, _⟩ := hx z hz
    have ex : ∃ ns : List Int, ∃ t, z.1 = V.ref t ∧ SqT X.K H t (ns.map V.int) := ⟨z.2, t, e, ht⟩
    unfold keyV
    rw [dif_pos ex]
    obtain ⟨t', e', ht'⟩ := Classical.choose_spec ex
    rw [e] at e'
    cases e'
    exact int_inj (I.tuple_inj ht' ht)
  refine cr_sortedTI pins s σ H _ us Q I r ⟨a, _, keyV X.K H, rfl, hs, fun x hxm => ?_, fun ys p h1 h2 hp => ?_⟩
  · obtain ⟨z, hz, rfl⟩ := List.mem_map.mp hxm
    rw [kz z hz]
    exact hx z hz
  · have e : (ys.map fun y => (y, keyV X.K H y)).map (·.1) = ys := by rw [List.map_map]; exact List.map_id _
    have := q (ys.map fun y => (y, keyV X.K H y)) p (List.pairwise_map.mpr h1) ?_ hp
    · rwa [e] at this
    · have h3 := h2.map fun y => (y, keyV X.K H y)
      rw [List.map_map] at h3
      have e2 : zs.map ((fun y => (y, keyV X.K H y)) ∘ fun x => x.1) = zs := by
        conv => rhs; rw [← List.map_id zs]
        refine List.map_congr_left fun z hz => ?_
        show (z.1, keyV X.K H z.1) = z
        rw [kz z hz]
      rwa [e2] at h3
def tupI (ns : List Int) : D := .tuple (ns.map .int)
def tupsD : List D → Option (List (List Int))
  | [] => some []
  | .tuple es :: ds => (intsD es).bind fun ns => (tupsD ds).map (ns :: ·)
  | _ => none
theorem tups_dps {K : PySem.W.Frag} {H : Hp} : ∀ {xs : List V} {ds : List D} {nss : List (List Int)}, DpAll K H xs ds → tupsD ds = some nss → xs.length = nss.length ∧ ∀ z ∈ xs.zip nss, ∃ t, z.1 = V.ref t ∧ SqN K H t (z.2.map V.int)
  | [], _, _, h, e => by cases h; cases e; exact ⟨rfl, fun _ h => by cases h⟩
  | x :: xs, _, _, h, e => by
    cases h with
    | cons a b =>
      cases a with
      | tup s dps =>
        unfold tupsD at e
        obtain ⟨ns, e1, e2⟩ := Option.bind_eq_some_iff.mp e
        obtain ⟨ms, e3, e4⟩ := Option.map_eq_some_iff.mp e2
        subst e4
        obtain ⟨l, ih⟩ := tups_dps b e3
        refine ⟨by simp [l], fun z hz => ?_⟩
        rcases List.mem_cons.mp hz with rfl | hz
        · rw [ints_dps dps e1] at s
          exact ⟨_, rfl, s⟩
        · exact ih z hz
      | _ => cases e
theorem ints_dp {K : PySem.W.Frag} {H : Hp} : ∀ ns : List Int, DpAll K H (ns.map V.int) (ns.map PyData.int)
  | [] => .nil
  | n :: ns => .cons (.int n) (ints_dp ns)
def bSortedT : List D → Wp D
  | [.list ds] => (optW (tupsD ds)).bind fun nss => .need (∀ ns ∈ nss, ns ≠ []) ((Wp.any fun (ms : List (List Int)) => ms.Perm nss ∧ ms.Pairwise (fun x y => TrS.lexT y x = false)).bind fun ms => .pure (.list (ms.map tupI)))
  | _ => .stuck
theorem on_sortedT {C : Cs} : OpN C (rSortedTZ C.K) bSortedT := by
  intro vs H ds Q S0 H0 Pb σ δ w R dp h
  unfold bSortedT at h
  split at h
  · rename_i es
    obtain ⟨nss, e, h1, h2⟩ := optW_inv h
    cases dp with
    | cons a b =>
      cases b
      cases a with
      | @lst a xs _ s dps =>
        obtain ⟨l, hz⟩ := tups_dps dps e
        have ez : (xs.zip nss).map (·.1) = xs := by rw [List.map_fst_zip]; omega
        refine ⟨a, xs.zip nss, rfl, ?_, fun z hzm => ?_, fun ws p w1 w2 hp => ?_⟩
        · rw [ez]
          exact Le.sqL hid_sub s
        · obtain ⟨t, e1, e2⟩ := hz z hzm
          exact ⟨⟨t, e1, Le.sqT hid_sub e2.sq⟩, h1 _ (List.of_mem_zip hzm).2⟩
        · have em : (xs.zip nss).map (·.2) = nss := by rw [List.map_snd_zip]; omega
          have k := h2 (ws.map (·.2)) ⟨by have := w2.map (·.2); rwa [em] at this, List.pairwise_map.mpr w1⟩
          have k' : Dv (C.bx S0 H0) σ H δ Q (.list ((ws.map (·.2)).map tupI)) := k
          refine new_lst R (xs := ws.map (·.1)) (ds := (ws.map (·.2)).map tupI) ?_ k' p hp
          have all : ∀ z ∈ ws, ∃ t, z.1 = V.ref t ∧ SqN C.K (hid (Own (C.bx S0 H0) σ δ) H) t (z.2.map V.int) := fun z hzm => hz z (w2.mem_iff.mp hzm)
          clear w1 w2 k k' h2 h1
          induction ws with
          | nil => exact .nil
          | cons z ws ih =>
            obtain ⟨t, e1, e2⟩ := all z (by simp)
            simp only [List.map_cons]
            rw [e1]
            exact .cons (.tup e2 (ints_dp _)) (ih fun z hz => all z (by simp [hz]))
  · exact h.elim
def bSortedI : List D → Wp D
  | [.list ds] => (optW (intsD ds)).bind fun ns => ((Wp.any fun (ms : List Int) => ms.Perm ns ∧ ms.Pairwise (· ≤ ·)).bind fun ms => .pure (.list (ms.map .int)))
  | _ => .stuck
theorem on_sortedI {C : Cs} : OpN C (rSortedI C.K) bSortedI := by
  intro vs H ds Q S0 H0 Pb σ δ w R dp h
  unfold bSortedI at h
  split at h
  · rename_i es
    obtain ⟨ns, e, h2⟩ := optW_inv h
    cases dp with
    | cons a b =>
      cases b
      cases a with
      | lst s dps =>
        rw [ints_dps dps e] at s
        refine ⟨_, ns, rfl, Le.sqL hid_sub s, fun ms p m1 m2 hp => ?_⟩
        have k' : Dv (C.bx S0 H0) σ H δ Q (.list (ms.map .int)) := h2 ms ⟨m1, m2⟩
        exact new_lst R (ints_dp ms) k' p hp
  · exact h.elim
def bSorted (ds : List D) : Wp D := match ds with
  | [.list es] => if (intsD es).isSome then bSortedI ds else bSortedT ds
  | _ => .stuck
theorem cr_sortedA {X : Cx} : CallR X (.builtin "sorted") (fun vs H Q => rSortedI X.K vs H Q ∨ rSortedTZ X.K vs H Q) := by
  intro pins s σ H vs us Q I r h
  rcases h with h | h
  · exact cr_sortedI pins s σ H vs us Q I r h
  · exact cr_sortedTZ pins s σ H vs us Q I r h
theorem on_sortedA {C : Cs} : OpN C (fun vs H Q => rSortedI C.K vs H Q ∨ rSortedTZ C.K vs H Q) bSorted := by
  intro vs H ds Q S0 H0 Pb σ δ w R dp h
  unfold bSorted at h
  split at h
  · split at h
    · exact .inl (on_sortedI vs H _ Q S0 H0 Pb σ δ w R dp h)
    · exact .inr (on_sortedT vs H _ Q S0 H0 Pb σ δ w R dp h)
  · exact h.elim
def bBoolL : List D → Wp D
  | [.list ds] => .pure (.bool (!ds.isEmpty))
  | _ => .stuck
@[simp] theorem rw_boolL {ds : List D} : bBoolL [.list ds] = .pure (.bool (!ds.isEmpty)) := rfl
end Tr

namespace Tr
open PySem PySem.Spec L2
open GxR (TabG Tabbed)
open PyProof.Rows (AllBare)
variable [ProtC]
structure SFx (X : Cx) (fp : List Addr) (S : Addr) : Prop where
  loc : S ≠ X.env.locals
  fs : S ∉ X.fs
  sz : X.s_0.heap.objs.size ≤ S
  cell : ∀ x c, X.env.cells.lookup x = some c → c ≠ S
  pn : ∀ p ∈ X.pn, p.1 ≠ S
  fp : S ∉ fp
theorem SFx.ok {X : Cx} {fp : List Addr} {S : Addr} {H : Hp} (h : SFx X fp S) (n : H S = none) : FpOk X [] H S := ⟨n, h.loc, h.fs, .inr h.sz, h.cell, fun p hp => h.pn p (by simpa using hp)⟩
end Tr

namespace Tr
open PySem PySem.Spec L2
open GxR (TabG Tabbed)
variable [ProtC]
def gsLoop (g : BF) (t : TF) (f : DF) (δ : De) : Int → List D → Wp D
  | acc, [] => .pure (.int acc)
  | acc, d :: ds => (optW (g d δ)).bind fun δ1 => (t δ1).bind fun b => if b then (f δ1).bind fun y => match y with
    | .int k => gsLoop g t f δ (acc + k) ds
    | _ => .stuck else gsLoop g t f δ acc ds
def dGs (fi : De → Wp (List D)) (g : BF) (t : TF) (f : DF) (vs : List Nat) : DF := fun δ => (fi δ).bind fun ds => (gsLoop g t f (dWipe δ vs) 0 ds).nox
section
variable {A α : Type} {k : D → Prop} {w : Exn → Prop} {δ : De} {f : DF} {t : TF} {d : D} {ds : List D} {q : BF} {fi : De → Wp (List D)} {vs : List Nat} {acc : Int}
@[simp] theorem rw_dGs : dGs fi q t f vs δ = (fi δ).bind fun ds => (gsLoop q t f (dWipe δ vs) 0 ds).nox := rfl
@[simp] theorem rw_gs0 : gsLoop q t f δ acc [] = .pure (.int acc) := rfl
end
end Tr

namespace Tr
open PySem PySem.Spec L2
open PyProof.Rows
variable [ProtC]
end Tr

namespace Tr
open PySem PySem.Spec L2 PyProof.Rows
variable [ProtC]
section
variable {X : Cx}
def sqP (t : Bool) (ds : List D) : D := if t then .tuple ds else .list ds
def rInA (K : PySem.W.Frag) : R2 := fun x y H Q => ∃ (t : Bool) (d : D) (ds : List D), Dp K H x d ∧ Dp K H y (sqP t ds) ∧ SeqAt.shaped d = true ∧ SeqAt.shaped (.list ds) = true ∧ Q (.bl (ds.any fun z => PyData.eqv z d)) H
def rNotInA (K : PySem.W.Frag) : R2 := fun x y H Q => ∃ (t : Bool) (d : D) (ds : List D), Dp K H x d ∧ Dp K H y (sqP t ds) ∧ SeqAt.shaped d = true ∧ SeqAt.shaped (.list ds) = true ∧ Q (.bl (!ds.any fun z => PyData.eqv z d)) H
theorem op_inA (hu : X.A.units + 65 < cLine) : OpR X (compareOp .In) (rInA X.K) := by
  intro pins s σ H x y v u Q I rx ry h
  obtain ⟨t, d, ds, hd, he, sd, se, q⟩ := h
  obtain ⟨as, r1⟩ := L2.Dp.reads I d x v (hd.sh sd) rx
  obtain ⟨bs, r2⟩ := L2.Dp.reads I _ y u (Dp.low (sqP t ds) y (by
    have := PySem.PyData.hasDict_of_canLay _ (SeqAt.canLay_of_shaped se)
    cases t <;> simpa only [sqP, PySem.PyData.hasDict, if_true, if_false, Bool.false_eq_true] using this) he) ry
  cases t
  · exact SeqAt.in_list_reads r2 r1 (SeqAt.canLay_of_shaped se) (SeqAt.canLay_of_shaped sd) (room_in_shaped sd hu) ⟨.bl _, H, I, rfl, q⟩
  · exact SeqAt.in_tuple_reads r2 r1 (SeqAt.canLay_of_shaped se) (SeqAt.canLay_of_shaped sd) (room_in_shaped sd hu) ⟨.bl _, H, I, rfl, q⟩
theorem op_notInA (hu : X.A.units + 65 < cLine) : OpR X (compareOp .NotIn) (rNotInA X.K) := by
  intro pins s σ H x y v u Q I rx ry h
  obtain ⟨t, d, ds, hd, he, sd, se, q⟩ := h
  obtain ⟨as, r1⟩ := L2.Dp.reads I d x v (hd.sh sd) rx
  obtain ⟨bs, r2⟩ := L2.Dp.reads I _ y u (Dp.low (sqP t ds) y (by
    have := PySem.PyData.hasDict_of_canLay _ (SeqAt.canLay_of_shaped se)
    cases t <;> simpa only [sqP, PySem.PyData.hasDict, if_true, if_false, Bool.false_eq_true] using this) he) ry
  cases t
  · exact SeqAt.notIn_list_reads r2 r1 (SeqAt.canLay_of_shaped se) (SeqAt.canLay_of_shaped sd) (room_in_shaped sd hu) ⟨.bl _, H, I, rfl, q⟩
  · exact SeqAt.notIn_tuple_reads r2 r1 (SeqAt.canLay_of_shaped se) (SeqAt.canLay_of_shaped sd) (room_in_shaped sd hu) ⟨.bl _, H, I, rfl, q⟩
def dInA : D → D → Wp D
  | d, .list ds => .need (SeqAt.shaped d = true ∧ SeqAt.shaped (.list ds) = true) (.pure (.bool (ds.any fun z => PyData.eqv z d)))
  | d, .tuple ds => .need (SeqAt.shaped d = true ∧ SeqAt.shaped (.list ds) = true) (.pure (.bool (ds.any fun z => PyData.eqv z d)))
  | _, _ => .stuck
def dNotInA : D → D → Wp D
  | d, .list ds => .need (SeqAt.shaped d = true ∧ SeqAt.shaped (.list ds) = true) (.pure (.bool (!ds.any fun z => PyData.eqv z d)))
  | d, .tuple ds => .need (SeqAt.shaped d = true ∧ SeqAt.shaped (.list ds) = true) (.pure (.bool (!ds.any fun z => PyData.eqv z d)))
  | _, _ => .stuck
variable {C : Cs} {W : WX} {a b : Expr} {f g : DF} {pos : Pos}
theorem o2_inA : Op2 X C (rInA C.K) dInA := by
  intro x y H d e Q S0 H0 Pb σ δ w R dx dy h
  unfold dInA at h
  split at h
  · exact ⟨false, _, _, hid_dp dx, hid_dp dy, h.1.1, h.1.2, h.2 _ H (Grow.refl H) (.bl _)⟩
  · exact ⟨true, _, _, hid_dp dx, hid_dp dy, h.1.1, h.1.2, h.2 _ H (Grow.refl H) (.bl _)⟩
  · exact h.elim
theorem o2_notInA : Op2 X C (rNotInA C.K) dNotInA := by
  intro x y H d e Q S0 H0 Pb σ δ w R dx dy h
  unfold dNotInA at h
  split at h
  · exact ⟨false, _, _, hid_dp dx, hid_dp dy, h.1.1, h.1.2, h.2 _ H (Grow.refl H) (.bl _)⟩
  · exact ⟨true, _, _, hid_dp dx, hid_dp dy, h.1.1, h.1.2, h.2 _ H (Grow.refl H) (.bl _)⟩
  · exact h.elim
theorem dt_inA (hK : C.K = X.K) {k : Nat} (hr : Room k X.A) (hm : behindInMarks .In b = false) (ha : DE X C W a f) (hb : DE X C W b g) : DT X C W (.Compare a [.In] [b] pos) (tBv (d2 dInA f g)) := dt_cmp (op_inA (room65 hr)) (by rw [← hK]; exact o2_inA) hm ha hb
theorem dt_notInA (hK : C.K = X.K) {k : Nat} (hr : Room k X.A) (hm : behindInMarks .NotIn b = false) (ha : DE X C W a f) (hb : DE X C W b g) : DT X C W (.Compare a [.NotIn] [b] pos) (tBv (d2 dNotInA f g)) := dt_cmp (op_notInA (room65 hr)) (by rw [← hK]; exact o2_notInA) hm ha hb
end
theorem tuple_mul1 (l : Addr) (items : Array Value) (n : Nat) (dd : Option Addr) (sl : Array (Option Value)) (u : Tok) :
    Meets (Builtin.«tuple.__mul__» ⟨[.ref l, .int 1 u], []⟩) (fun _ R s => s.heap.get? l = some { cls := .type "tuple", dict := dd, data := .seq items n, slots := sl } ∧ R (.ok (.ret (Value.ref l))) s) :=
  .of_wp fun prog w A R s h => by
    obtain ⟨hp, g, d, tk, os⟩ := s
    obtain ⟨hl, h⟩ := h
    have f1 := AutoSeq1.idx_int
    wp_walk using wpAny_loadPart' hl
    repeat (first
      | (refine wpAny_ite_true (decide_eq_true (by simp)) ?_; wp_walk using wpAny_loadPart' hl)
      | (refine wpAny_ite_false (decide_eq_false (by decide)) ?_; wp_walk using wpAny_loadPart' hl))
    exact ⟨_, rfl, h⟩
section
variable {X : Cx}
def rRep1 (K : PySem.W.Frag) : R2 := fun x y H Q => ∃ l xs, x = .ref l ∧ y = .int 1 ∧ SqT K H l xs ∧ Q (.ref l) H
theorem op_rep1 : OpR X (binaryOp .Mult) (rRep1 X.K) := by
  intro pins s σ H x y v u Q I rx ry h
  obtain ⟨l, xs, rfl, rfl, hT, q⟩ := h
  cases rx
  obtain ⟨t, rfl⟩ := ry
  obtain ⟨its, r, ⟨⟨cls, dd, data, sl⟩, ho, hc, n, hd⟩, hs⟩ := I.tuple hT
  simp only at hc hd
  subst hc hd
  refine wpAny_binaryOp_repeat_ref (T := "tuple") (U := "int") (by decide) ⟨_, ho, rfl⟩ (fun s' => typeIs_int s' 1 t) noFill_tuple_mul F.fills_int_mul F.slot_int_rmul repeat_tuple F.slot_int_index.lookup
    (call_meets F.slot_int_rmul (typeIs_int s 1 t) F.entry_int_rmul (F.args_int_rmul_2 _ _) (int_rmul_tuple 1 t l its.toArray n dd sl)
      ⟨ho, rfl, ⟨_, ho, rfl⟩, call_meets F.slot_tuple_mul ⟨_, ho, rfl⟩ F.entry_tuple_mul (F.args_tuple_mul_2 _ _) (tuple_mul1 l its.toArray n dd sl t) ⟨ho, ?_⟩⟩)
  exact ⟨.ref l, H, I, rfl, q⟩
theorem list_mulW (l : Addr) (items : Array Value) (n : Nat) (dd : Option Addr) (sl : Array (Option Value)) (x : Int) (u : Tok) (hc0 : ¬(!Builtin.List.listFitsIndex x) = true) (hc1 : ¬items.size * x.toNat > (2 ^ 63 - 1) / 8) (hc2 : ¬Builtin.List.listTooLong (items.size * x.toNat) = true) :
    Meets (Builtin.«list.__mul__» ⟨[.ref l, .int x u], []⟩) (fun _ R s => s.heap.get? l = some { cls := .type "list", dict := dd, data := .seq items n, slots := sl } ∧ R (.ok (.ret (Value.ref s.heap.objs.size))) { s with heap := s.heap.push { cls := Value.type "list", data := Data.seq (List.foldl (fun x1 x2 => x1 ++ x2) #[] (List.replicate (if items.isEmpty = true then 0 else x.toNat) items)) }, toks := s.toks }) :=
  .of_wp fun prog w A R s h => by
    obtain ⟨hp, g, d, tk, os⟩ := s; obtain ⟨hl, h⟩ := h
    have hsz := AutoListH.joined_fits hc2
    have f1 := AutoSeq1.idx_int
    wp_walk using wpAny_loadPart' hl
    refine wpAny_ite_false (decide_eq_false (Nat.not_lt.mpr hsz)) ?_; wp_walk using wpAny_loadPart' hl; exact ⟨_, rfl, h⟩
theorem int_rmul_listW (a : Int) (t : Tok) (l : Addr) (items : Array Value) (n : Nat) (dd : Option Addr) (sl : Array (Option Value)) :
    Meets (Builtin.«int.__rmul__» ⟨[.int a t, .ref l], []⟩) (fun _ R s => s.heap.get? l = some { cls := .type "list", dict := dd, data := .seq items n, slots := sl } ∧ R (.ok (.ret Value.notImplemented)) s) :=
  .of_wp fun prog w A R s h => by obtain ⟨hp, g, d, tk, os⟩ := s; obtain ⟨hl, h⟩ := h; wp_walk using wpAny_loadPart' hl; exact ⟨_, rfl, h⟩
def rRepL (K : PySem.W.Frag) : R2 := fun x y H Q => ∃ l k xs, x = .ref l ∧ y = .int k ∧ SqL K H l xs ∧ 0 ≤ k ∧ k ≤ 1000 ∧ xs.length ≤ 1000 ∧
  ∀ p, H p = none → Q (.ref p) (upd H p (.lst (List.replicate k.toNat xs).flatten))
theorem op_repL : OpR X (binaryOp .Mult) (rRepL X.K) := by
  intro pins s σ H x y v u Q I rx ry h
  obtain ⟨l, k, xs, rfl, rfl, hH, h1, h2, hz, q⟩ := h
  cases rx
  obtain ⟨t, rfl⟩ := ry
  obtain ⟨its, r, ⟨⟨cls, dd, data, sl⟩, n, ho, hc, hdd, hd, hsl⟩, hs⟩ := I.list hH
  simp only at hc hdd
  subst hc hdd
  have hle : its.length = xs.length := r.length.symm
  have a1 : xs.length * k.toNat ≤ 1000 * 1000 := Nat.mul_le_mul hz (by omega)
  have hlen : its.toArray.size * k.toNat ≤ sizeLine := by rw [List.size_toArray, hle, sizeLine_eq]; omega
  have hcap : ¬ its.toArray.size * k.toNat > (2 ^ 63 - 1) / 8 := by
    have : (sizeLine : Nat) ≤ (2 ^ 63 - 1) / 8 := by decide
    omega
  have hfit : ¬ (!Builtin.List.listFitsIndex k) = true := by
    rw [fitsIndex_both (by omega) (by omega)]
    exact Bool.false_ne_true
  have hlong : ¬ Builtin.List.listTooLong (its.toArray.size * k.toNat) = true := by
    rw [notLongL hlen]
    exact Bool.false_ne_true
  have hnew : List.foldl (fun x1 x2 => x1 ++ x2) #[] (List.replicate (if its.toArray.isEmpty = true then 0 else k.toNat) its.toArray) = (List.replicate k.toNat its).flatten.toArray := by
    have f0 : ∀ m : Nat, List.foldl (fun x1 x2 => x1 ++ x2) #[] (List.replicate m its.toArray) = (List.replicate m its).flatten.toArray := fun m => by
      have := foldl_rep its m []
      rw [List.nil_append] at this
      exact this
    rw [f0]
    cases its with
    | nil => simp
    | cons a r' => rw [if_neg (by simp)]
  refine wpAny_binaryOp_repeat_ref (T := "list") (U := "int") (by decide) ⟨_, ho, rfl⟩ (fun s' => typeIs_int s' k t) noFill_list_mul F.fills_int_mul F.slot_int_rmul repeat_list F.slot_int_index.lookup
    (call_meets F.slot_int_rmul (typeIs_int s k t) F.entry_int_rmul (F.args_int_rmul_2 _ _) (int_rmul_listW k t l its.toArray n _ sl)
      ⟨ho, rfl, ⟨_, ho, rfl⟩, call_meets F.slot_list_mul ⟨_, ho, rfl⟩ F.entry_list_mul (F.args_list_mul_2 _ _) (list_mulW l its.toArray n _ sl k t hfit hcap hlong) ⟨ho, ?_⟩⟩)
  rw [hnew]
  refine ⟨.ref s.heap.objs.size, _, I.laid (t' := s.toks) (o := .lst (List.replicate k.toNat xs).flatten) (fun b ob q => Heap.get?_push_of_some _ q) (Nat.le_refl _) ?_, rfl, q _ (I.hok.fresh (Nat.le_refl _))⟩
  exact ⟨by rw [PyProof.Rows.lm_len_rep_flat, sizeLine_eq, Nat.mul_comm]; omega, _, 0, r.rep k.toNat, Heap.get?_push_size _ rfl⟩
def rRepN (K : PySem.W.Frag) : R2 := fun x y H Q => ∃ l k xs, x = .ref l ∧ y = .int k ∧ SqT K H l xs ∧ xs ≠ [] ∧ 2 ≤ k ∧ k ≤ 1000 ∧ xs.length ≤ 1000 ∧ NewT H (List.replicate k.toNat xs).flatten Q
theorem op_repN : OpR X (binaryOp .Mult) (rRepN X.K) := by
  intro pins s σ H x y v u Q I rx ry h
  obtain ⟨l, k, xs, rfl, rfl, hT, hne, h1, h2, hz, q⟩ := h
  cases rx
  obtain ⟨t, rfl⟩ := ry
  obtain ⟨its, r, ⟨⟨cls, dd, data, sl⟩, ho, hc, n, hd⟩, hs⟩ := I.tuple hT
  simp only at hc hd
  subst hc hd
  have hle : its.length = xs.length := r.length.symm
  have hn : its ≠ [] := fun e => hne (by
    rw [e] at hle
    exact List.eq_nil_of_length_eq_zero hle.symm)
  have hi : its.toArray.isEmpty = false := by
    cases its with
    | nil => exact absurd rfl hn
    | cons a b => rfl
  have hsz0 : its.toArray.size = xs.length := by rw [List.size_toArray, hle]
  have hm : ((its.toArray.size : Nat) : Int) * k ≤ 1000000 := by
    rw [hsz0]
    have a1 : ((xs.length : Nat) : Int) * k ≤ 1000 * k := Int.mul_le_mul_of_nonneg_right (by omega) (by omega)
    omega
  have flen : (List.replicate k.toNat its).flatten.length ≤ sizeLine := by
    rw [PyProof.Rows.lm_len_rep_flat, hle, sizeLine_eq]
    have a1 : k.toNat * xs.length ≤ 1000 * 1000 := Nat.mul_le_mul (by omega) hz
    omega
  have c0 : (decide (k < -(2 ^ 63)) || decide (k ≥ 2 ^ 63)) = false := by
    rw [decide_eq_false (by omega), decide_eq_false (by omega)] <;> rfl
  have c1 : (its.toArray.isEmpty || k == 1) = false := by
    rw [hi, Bool.false_or]
    exact beq_eq_false_iff_ne.mpr (by omega)
  have c2 : (decide (k ≤ 0) || its.toArray.isEmpty) = false := by
    rw [hi, Bool.or_false]
    exact decide_eq_false (by omega)
  have c4 : Builtin.Tuple.tupleTooMany (((its.toArray.size : Nat) : Int) * k) = false := by
    unfold Builtin.Tuple.tupleTooMany
    rw [sizeLine_eq]
    exact decide_eq_false (by omega)
  refine wpAny_binaryOp_repeat_ref (T := "tuple") (U := "int") (by decide) ⟨_, ho, rfl⟩ (fun s' => typeIs_int s' k t) noFill_tuple_mul F.fills_int_mul F.slot_int_rmul repeat_tuple F.slot_int_index.lookup
    (call_meets F.slot_int_rmul (typeIs_int s k t) F.entry_int_rmul (F.args_int_rmul_2 _ _) (int_rmul_tuple k t l its.toArray n dd sl)
      ⟨ho, rfl, ⟨_, ho, rfl⟩, call_meets F.slot_tuple_mul ⟨_, ho, rfl⟩ F.entry_tuple_mul (F.args_tuple_mul_2 _ _) (tuple_mulW l its.toArray n dd sl k t c0 c1 c2 (by omega) c4 (by rw [size_rep, List.size_toArray]; exact flen)) ⟨ho, ?_⟩⟩)
  rw [size_rep]
  exact newT_ok (s := s) (h' := s.heap) (tk := s.toks) I (by rw [PyProof.Rows.lm_len_rep_flat, sizeLine_eq]; have a1 : k.toNat * xs.length ≤ 1000 * 1000 := Nat.mul_le_mul (by omega) hz; omega) (r.rep k.toNat) q
def rMulA (K : PySem.W.Frag) : R2 := fun x y H Q => rI CMulW (fun i j => .int (i * j)) x y H Q ∨ rRep1 K x y H Q ∨ rRepN K x y H Q ∨ rRepL K x y H Q
theorem op_mulA : OpR X (binaryOp .Mult) (rMulA X.K) := by
  intro pins s σ H x y v u Q I rx ry h
  rcases h with h | h | h | h
  · exact op_mulW pins s σ H x y v u Q I rx ry h
  · exact op_rep1 pins s σ H x y v u Q I rx ry h
  · exact op_repN pins s σ H x y v u Q I rx ry h
  · exact op_repL pins s σ H x y v u Q I rx ry h
end
def dMulA : D → D → Wp D
  | .int i, .int j => .need (CMulW i j) (.pure (.int (i * j)))
  | .tuple ds, .int k => .need (1 ≤ k ∧ k ≤ 1000 ∧ ds ≠ [] ∧ ds.length ≤ 1000) (.pure (.tuple (List.replicate k.toNat ds).flatten))
  | .list ds, .int k => .need (0 ≤ k ∧ k ≤ 1000 ∧ ds.length ≤ 1000) (.pure (.list (List.replicate k.toNat ds).flatten))
  | _, _ => .stuck
theorem rep_dps {K : PySem.W.Frag} {H : Hp} {xs : List V} {ds : List D} (h : DpAll K H xs ds) : ∀ m, DpAll K H (List.replicate m xs).flatten (List.replicate m ds).flatten := by
  intro m
  induction m with
  | zero => exact .nil
  | succ m ih =>
    rw [List.replicate_succ, List.replicate_succ, List.flatten_cons, List.flatten_cons]
    exact dps_app h ih
section
variable {X : Cx} {C : Cs} {W : WX} {a b : Expr} {f g : DF} {pos : Pos}
theorem o2_mulA : Op2 X C (rMulA C.K) dMulA := by
  intro x y H d e Q S0 H0 Pb σ δ w R dx dy h
  unfold dMulA at h
  split at h
  · cases dx
    cases dy
    exact .inl ⟨_, _, rfl, rfl, h.1, h.2 _ H (Grow.refl H) (.int _)⟩
  · obtain ⟨⟨h1, h2, h3, h4⟩, h⟩ := h
    cases dy
    cases dx with
    | @tup a xs _ s dps =>
      rename_i ds k
      have hl := dps_len dps
      by_cases c : k = 1
      · subst c
        refine .inr (.inl ⟨_, xs, rfl, rfl, Le.sqT hid_sub s.sq, h _ H (Grow.refl H) ?_⟩)
        simpa using (Dp.tup s dps)
      · refine .inr (.inr (.inl ⟨_, _, xs, rfl, rfl, Le.sqT hid_sub s.sq, fun z => h3 (by rw [z] at hl; exact List.eq_nil_of_length_eq_zero hl.symm), by omega, h2, by omega, ?_⟩))
        exact new_tup R (rep_dps dps _) h
  · obtain ⟨⟨h1, h2, h4⟩, h⟩ := h
    cases dy
    cases dx with
    | @lst a xs _ s dps =>
      have hl := dps_len dps
      refine .inr (.inr (.inr ⟨_, _, xs, rfl, rfl, Le.sqL hid_sub s, h1, h2, by omega, ?_⟩))
      exact new_lst R (rep_dps dps _) h
  · exact h.elim
theorem de_mulA (hK : C.K = X.K) (ha : DE X C W a f) (hb : DE X C W b g) : DE X C W (.BinOp a .Mult b pos) (d2 dMulA f g) := de_op (r := rMulA X.K) op_mulA (by rw [← hK]; exact o2_mulA) ha hb
end
section
@[simp] theorem rw_mulAI {i j : Int} : dMulA (.int i) (.int j) = .need (CMulW i j) (.pure (.int (i * j))) := rfl
@[simp] theorem rw_mulAT {ds : List D} {k : Int} : dMulA (.tuple ds) (.int k) = .need (1 ≤ k ∧ k ≤ 1000 ∧ ds ≠ [] ∧ ds.length ≤ 1000) (.pure (.tuple (List.replicate k.toNat ds).flatten)) := rfl
@[simp] theorem rw_mulAL {ds : List D} {k : Int} : dMulA (.list ds) (.int k) = .need (0 ≤ k ∧ k ≤ 1000 ∧ ds.length ≤ 1000) (.pure (.list (List.replicate k.toNat ds).flatten)) := rfl
@[simp] theorem rw_inAL {d : D} {ds : List D} : dInA d (.list ds) = .need (SeqAt.shaped d = true ∧ SeqAt.shaped (.list ds) = true) (.pure (.bool (ds.any fun z => PyData.eqv z d))) := rfl
@[simp] theorem rw_inAT {d : D} {ds : List D} : dInA d (.tuple ds) = .need (SeqAt.shaped d = true ∧ SeqAt.shaped (.list ds) = true) (.pure (.bool (ds.any fun z => PyData.eqv z d))) := rfl
@[simp] theorem rw_notInAL {d : D} {ds : List D} : dNotInA d (.list ds) = .need (SeqAt.shaped d = true ∧ SeqAt.shaped (.list ds) = true) (.pure (.bool (!ds.any fun z => PyData.eqv z d))) := rfl
@[simp] theorem rw_notInAT {d : D} {ds : List D} : dNotInA d (.tuple ds) = .need (SeqAt.shaped d = true ∧ SeqAt.shaped (.list ds) = true) (.pure (.bool (!ds.any fun z => PyData.eqv z d))) := rfl
end
end Tr

namespace Tr
open PySem PySem.Spec L2
variable [ProtC]

def rI (C : Cs) (W : WX) (f : De → Wp (List D)) : TI := fun σ H R => ∃ S0 H0 Pb δ, Rep (C.bx S0 H0) Pb σ H δ ∧ (f δ).run (fun ds => ∀ J G, Grow H G → Items C.K (hid (Own (C.bx S0 H0) σ δ) G) (obh C H0) ds J → R J G) (Ew (C.bx S0 H0) W σ H)
theorem DI.to {X : Cx} {C : Cs} {W : WX} {tg e : Expr} {f : De → Wp (List D)} (h : DI X C W tg e f) : PI X tg e (rI C W f) := by
  obtain ⟨t, p, q⟩ := h
  exact ⟨fun pins s σ H Q I ⟨S0, H0, Pb, δ, R, z⟩ => p.run pins s σ H Q I (q S0 H0 Pb σ H δ Q R z)⟩
theorem Items.mono {K : PySem.W.Frag} {Ph Pg Bh Bg : Hp} {ds : List D} {J : It} (h : Items K Ph Bh ds J) (l : Le Ph Pg) (lb : Le Bh Bg) : Items K Pg Bg ds J := by
  obtain ⟨Gp, Y, w, hG, hY⟩ := h
  exact ⟨Gp, Y, w, fun H1 l1 l2 => hG H1 (l.trans l1) (lb.trans l2), fun i H1 x H2 S hi l1 l2 dm y => hY i H1 x H2 S hi (l.trans l1) (lb.trans l2) dm y⟩
def lc2Loop (g : BF) (t : TF) (fi1 : De → Wp (List D)) (g1 : BF) (t1 : TF) (f : DF) (δ : De) (vs1 : List Nat) : Nat → List D → Wp (List D)
  | _, [] => .pure []
  | n, d :: ds => (optW (g d δ)).bind fun δ1 => (t δ1).bind fun b => if b then (fi1 δ1).bind fun es => .need (n + es.length ≤ sizeLine) ((lcLoop g1 t1 f (dWipe δ1 vs1) es).bind fun ys => (lc2Loop g t fi1 g1 t1 f δ vs1 (n + ys.length) ds).bind fun zs => .pure (ys ++ zs)) else lc2Loop g t fi1 g1 t1 f δ vs1 n ds
def nLc2 (fi : De → Wp (List D)) (g : BF) (t : TF) (fi1 : De → Wp (List D)) (g1 : BF) (t1 : TF) (f : DF) (vs vs1 : List Nat) : De → Wp (List D) := fun δ => (fi δ).bind fun ds => (lc2Loop g t fi1 g1 t1 f (dWipe δ vs) vs1 0 ds).nox
theorem wipe_idem {σ : St} {vs : List Nat} : wipe (wipe σ vs) vs = wipe σ vs := by
  apply List.ext_getElem?
  intro j
  rw [wipe_get, wipe_get]
  split
  · rename_i hj
    cases σ[j]? <;> rfl
  · rfl
section
variable {q q1 : BF} {t t1 : TF} {f : DF} {fi fi1 : De → Wp (List D)} {δ : De} {vs vs1 : List Nat} {n : Nat} {d : D} {ds : List D} {w : Exn → Prop}
@[simp] theorem rw_nLc2 : nLc2 fi q t fi1 q1 t1 f vs vs1 δ = (fi δ).bind fun ds => (lc2Loop q t fi1 q1 t1 f (dWipe δ vs) vs1 0 ds).nox := rfl
@[simp] theorem rw_lc20 : lc2Loop q t fi1 q1 t1 f δ vs1 n [] = .pure [] := rfl
theorem rw_lc21 : lc2Loop q t fi1 q1 t1 f δ vs1 n (d :: ds) = (optW (q d δ)).bind fun δ1 => (t δ1).bind fun b => if b then (fi1 δ1).bind fun es => .need (n + es.length ≤ sizeLine) ((lcLoop q1 t1 f (dWipe δ1 vs1) es).bind fun ys => (lc2Loop q t fi1 q1 t1 f δ vs1 (n + ys.length) ds).bind fun zs => .pure (ys ++ zs)) else lc2Loop q t fi1 q1 t1 f δ vs1 n ds := rfl
theorem lc2_run {α : Type} {g : α → D} {h : α → List D} {xs : List α} {k : List D → Prop} {B : Nat}
    (hs : ∀ x ∈ xs, ∃ δ1, q (g x) δ = some δ1 ∧ (∀ kb : Bool → Prop, kb true → (t δ1).run kb w) ∧ ∀ kd : List D → Prop, (∀ es : List D, es.length ≤ B → (∀ kd' : List D → Prop, kd' (h x) → (lcLoop q1 t1 f (dWipe δ1 vs1) es).run kd' w) → kd es) → (fi1 δ1).run kd w)
    (hl : n + (xs.flatMap h).length + B ≤ sizeLine) (hk : k (xs.flatMap h)) : (lc2Loop q t fi1 q1 t1 f δ vs1 n (xs.map g)).run k w := by
  induction xs generalizing n k with
  | nil => exact hk
  | cons x xs ih =>
    obtain ⟨δ1, e, h1, h2⟩ := hs x (by simp)
    rw [List.flatMap_cons, List.length_append] at hl
    rw [List.map_cons, rw_lc21, e]
    simp only [optW_some, pure_bind, run_bind]
    refine h1 _ ?_
    simp only [if_true, run_bind, run_need]
    refine h2 _ fun es he hl2 => ⟨by omega, hl2 _ ?_⟩
    refine ih (fun y hy => hs y (by simp [hy])) (by omega) ?_
    simpa using hk
end
end Tr

namespace Tr
open PySem PySem.Spec PyProof.Rows L2
variable [ProtC]
open PySem.PyData (hasDict hasDictAll) in
mutual
theorem nodict1 : ∀ d : D, PySem.W.alike d d = true → hasDict d = false
  | .none, _ => by simp only [hasDict]
  | .bool _, _ => by simp only [hasDict]
  | .int _, _ => by simp only [hasDict]
  | .str _, _ => by simp only [hasDict]
  | .list xs, h => by
    simp only [hasDict]
    exact nodictA xs (by simpa only [PySem.W.alike] using h)
  | .tuple xs, h => by
    simp only [hasDict]
    exact nodictA xs (by simpa only [PySem.W.alike] using h)
  | .dict _, h => by simp [PySem.W.alike] at h
theorem nodictA : ∀ ds : List D, PySem.W.alikeAll ds ds = true → hasDictAll ds = false
  | [], _ => by simp only [hasDictAll]
  | d :: ds, h => by
    have h' : PySem.W.alike d d = true ∧ PySem.W.alikeAll ds ds = true := by simpa only [PySem.W.alikeAll, Bool.and_eq_true] using h
    simp only [hasDictAll, nodict1 d h'.1, nodictA ds h'.2, Bool.or_self]
end
end Tr

namespace Tr
open PySem PySem.Spec L2
open PyProof.Rows
variable [ProtC]
section
variable {X : Cx}
variable {C : Cs} {W : WX} {i j l : Nat} {a b c : Expr} {st : Stmt} {f g : DF} {fl fl2 : De → Wp (List D)}
def sParDOO (i j l : Nat) (f : DF) (fl fl2 : De → Wp (List D)) : SF := fun δ => (f δ).bind fun d => (fl δ).bind fun ds => (fl2 (dWipe δ [])).nox.bind fun es => .pure (.nx (((δ.set j (.o ds)).set l (.o es)).set i (.p d)))
end
@[simp] theorem rw_parDOO {i j l : Nat} {f : DF} {fl fl2 : De → Wp (List D)} {δ : De} : sParDOO i j l f fl fl2 δ = (f δ).bind fun d => (fl δ).bind fun ds => (fl2 (dWipe δ [])).nox.bind fun es => .pure (.nx (((δ.set j (.o ds)).set l (.o es)).set i (.p d))) := rfl
end Tr

namespace Tr
open PySem PySem.Spec PyProof.Rows L2
variable [ProtC]
section
variable {X : Cx} {C : Cs} {W : WX} {pos : Pos} {e a b : Expr} {f g : DF} {t : TF}
def tFz (i : Nat) (t : TF) : TF := fun δ => t (fz i δ)
@[simp] theorem rw_tFz {i : Nat} {t : TF} {δ : De} : tFz i t δ = t (fz i δ) := rfl
def lstD : D → Wp (List D)
  | .list ds => .pure ds
  | _ => .stuck
def dIndexOf (ds : List D) (d : D) : Wp D := .need (SeqAt.shaped d = true ∧ SeqAt.shaped (.list ds) = true) ((optW (ds.findIdx? fun z => PyData.eqv z d)).bind fun j => .pure (.int (j : Nat)))
def dIndex (f g : DF) : DF := fun δ => (f δ).bind fun d => (lstD d).bind fun ds => (g δ).bind fun e => dIndexOf ds e
@[simp] theorem rw_dIndex {δ : De} : dIndex f g δ = (f δ).bind fun d => (lstD d).bind fun ds => (g δ).bind fun e => dIndexOf ds e := rfl
@[simp] theorem rw_lstD {ds : List D} : lstD (.list ds) = .pure ds := rfl
end
section
variable {X : Cx}
def rSortedDt (K : PySem.W.Frag) : List V → Hp → VK → Prop := fun vs H Q => ∃ (a : Addr) (zs : List (V × D)), vs = [V.ref a] ∧ SqL K H a (zs.map (·.1)) ∧ DpAll K H (zs.map (·.1)) (zs.map (·.2)) ∧ PySem.W.AllAlike (zs.map (·.2)) ∧ PySem.W.Sortable (zs.map (·.2)) ∧ PyData.depthAll (zs.map (·.2)) ≤ 60 ∧
  ∀ p, H p = none → Q (.ref p) (upd H p (.lst ((zs.mergeSort (PySem.W.dataLe false (·.2))).map (·.1))))
theorem dps_zip {K : PySem.W.Frag} {H : Hp} {zs : List (V × D)} (h : DpAll K H (zs.map (·.1)) (zs.map (·.2))) : ∀ z ∈ zs, Dp K H z.1 z.2 := by
  induction zs with
  | nil => intro z hz; cases hz
  | cons z zs ih =>
    simp only [List.map_cons] at h
    cases h with
    | cons a b =>
      intro y hy
      rcases List.mem_cons.mp hy with rfl | hy
      · exact a
      · exact ih b y hy
theorem dps_unzip {K : PySem.W.Frag} {H : Hp} {zs : List (V × D)} (h : ∀ z ∈ zs, Dp K H z.1 z.2) : DpAll K H (zs.map (·.1)) (zs.map (·.2)) := by
  induction zs with
  | nil => exact .nil
  | cons z zs ih => exact .cons (h z (by simp)) (ih fun y hy => h y (by simp [hy]))
theorem vals_each {zs : List (V × D)} {us : List Value} (h : Vals (zs.map (·.1)) us) : PySem.W.EachIs (fun u z => RelV z.1 u) us zs := by
  induction zs generalizing us with
  | nil => cases h; exact .nil
  | cons z zs ih =>
    cases h with
    | cons a b => exact .cons a (ih b)
theorem each_vals {zs : List (V × D)} {us : List Value} (h : PySem.W.EachIs (fun u z => RelV z.1 u) us zs) : Vals (zs.map (·.1)) us := by
  induction h with
  | nil => exact .nil
  | cons a _ ih => exact .cons a ih
theorem depth_mem {d : D} : ∀ {ds : List D}, d ∈ ds → d.depth ≤ PyData.depthAll ds
  | [], h => by cases h
  | x :: xs, h => by
    simp only [PyData.depthAll]
    rcases List.mem_cons.mp h with rfl | h
    · omega
    · have := depth_mem h
      omega
theorem cr_sortedDt (hu : X.A.units + 64 < cLine) : CallR X (.builtin "sorted") (rSortedDt X.K) := by
  intro pins s σ H vs us Q I r h
  obtain ⟨a, zs, rfl, hs, dp, hal, hso, hd, q⟩ := h
  obtain ⟨its, rv, hl, hz⟩ := I.list hs
  obtain ⟨u, rfl, ru⟩ := vals1 r
  obtain rfl : u = Value.ref a := ru
  have er : PySem.W.EachIs (fun v (b : V × D) => ∃ as, Reads s.heap v b.2 as) its zs := by
    have h1 := vals_each rv
    have h2 := dps_zip dp
    have h3 : ∀ z ∈ zs, PySem.PyData.hasDict z.2 = false := fun z hz => nodict1 _ (hal _ (List.mem_map_of_mem (f := (·.2)) hz) _ (List.mem_map_of_mem (f := (·.2)) hz))
    clear hs rv hl q hal hso hd hz dp
    induction h1 with
    | nil => exact .nil
    | cons a _ ih => exact .cons (L2.Dp.reads I _ _ _ (Dp.low _ _ (h3 _ (by simp)) (h2 _ (by simp))) a) (ih (fun z hz => h2 z (by simp [hz])) fun z hz => h3 z (by simp [hz]))
  refine PySem.W.sorted_data (enc := (·.2)) hl.isList (vals_each rv) er hal hso (by simpa using hz) (fun b hb => ?_) fun out ho eo => ?_
  · have := depth_mem (List.mem_map_of_mem (f := (·.2)) hb)
    omega
  · have hv := each_vals eo
    obtain ⟨n, hn⟩ := sortedAll_at s.heap its out.toArray
    refine ⟨.ref (s.heap.objs.size + 1), _, I.laid (t' := s.toks) (o := .lst ((zs.mergeSort (PySem.W.dataLe false (·.2))).map (·.1))) (fun b o e => sortedAll_old e) (Nat.le_succ _) ⟨?_, out, n, hv, hn⟩, rfl, q _ (I.hok.fresh (Nat.le_succ _))⟩
    rw [List.length_map, List.length_mergeSort]
    simpa using hz
end
def dataLE : D → D → Bool := PySem.W.dataLe false id
def bSortedD : List D → Wp D
  | [.list ds] => .need (PySem.W.AllAlike ds ∧ PySem.W.Sortable ds ∧ PyData.depthAll ds ≤ 60) (.pure (.list (ds.mergeSort dataLE)))
  | _ => .stuck
theorem sort_snd {zs : List (V × D)} : (zs.mergeSort (PySem.W.dataLe false (·.2))).map (·.2) = (zs.map (·.2)).mergeSort dataLE := List.map_mergeSort fun a _ b _ => rfl
theorem on_sortedD {C : Cs} : OpN C (rSortedDt C.K) bSortedD := by
  intro vs H ds Q S0 H0 Pb σ δ w R dp h
  unfold bSortedD at h
  split at h
  · rename_i es
    obtain ⟨⟨h1, h2, h3⟩, h4⟩ := h
    cases dp with
    | cons a b =>
      cases b
      cases a with
      | @lst a xs _ s dps =>
        have l := dps_len dps
        have e1 : (xs.zip es).map (·.1) = xs := by rw [List.map_fst_zip]; omega
        have e2 : (xs.zip es).map (·.2) = es := by rw [List.map_snd_zip]; omega
        have dz : ∀ z ∈ xs.zip es, Dp C.K (hid (Own (C.bx S0 H0) σ δ) H) z.1 z.2 := dps_zip (by rw [e1, e2]; exact dps)
        refine ⟨a, xs.zip es, rfl, ?_, ?_, by rw [e2]; exact h1, by rw [e2]; exact h2, by rw [e2]; exact h3, fun p hp => ?_⟩
        · rw [e1]
          exact Le.sqL hid_sub s
        · rw [e1, e2]
          exact Le.dps hid_sub _ _ dps
        · refine new_lst R (ds := es.mergeSort dataLE) ?_ h4 p hp
          have e3 := sort_snd (zs := xs.zip es)
          rw [e2] at e3
          rw [← e3]
          exact dps_unzip fun z hz => dz z ((List.mergeSort_perm _ _).mem_iff.mp hz)
  · exact h.elim
def bSortedB (ds : List D) : Wp D := match ds with
  | [.list es] => if (intsD es).isSome || (tupsD es).isSome then bSorted ds else bSortedD ds
  | _ => .stuck
theorem cr_sortedB {X : Cx} (hu : X.A.units + 64 < cLine) : CallR X (.builtin "sorted") (fun vs H Q => (rSortedI X.K vs H Q ∨ rSortedTZ X.K vs H Q) ∨ rSortedDt X.K vs H Q) := by
  intro pins s σ H vs us Q I r h
  rcases h with h | h
  · exact cr_sortedA pins s σ H vs us Q I r h
  · exact cr_sortedDt hu pins s σ H vs us Q I r h
theorem on_sortedB {C : Cs} : OpN C (fun vs H Q => (rSortedI C.K vs H Q ∨ rSortedTZ C.K vs H Q) ∨ rSortedDt C.K vs H Q) bSortedB := by
  intro vs H ds Q S0 H0 Pb σ δ w R dp h
  unfold bSortedB at h
  split at h
  · split at h
    · exact .inl (on_sortedA vs H _ Q S0 H0 Pb σ δ w R dp h)
    · exact .inr (on_sortedD vs H _ Q S0 H0 Pb σ δ w R dp h)
  · exact h.elim
end Tr

namespace Tr
open PySem PySem.Spec PyProof.Rows L2
variable [ProtC]
def rS (C : Cs) (W : WX) (F : SF) : TS := fun D σ H => ∃ S0 H0 Pb δ, Rep (C.bx S0 H0) Pb σ H δ ∧ (F δ).run (OutW (C.bx S0 H0) Pb D) (Xw (C.bx S0 H0) W)
def sTry (F : SF) : SF := fun δ => (F δ).nox
@[simp] theorem rw_sTry {F : SF} {δ : De} : sTry F δ = (F δ).nox := rfl
section
variable {X : Cx} {C : Cs} {W : WX} {pos np pos' : Pos} {x n : Str} {c : Value} {body suite : List Stmt} {b₀ : Stmt} {F : SF} {i : Nat}
theorem DSs.to (h : DSs X C W body F) : PSs X body (rS C W F) := by
  obtain ⟨t, p, q⟩ := h
  exact ⟨fun pins s σ H D I ⟨S0, H0, Pb, δ, R, z⟩ => p.run pins s σ H D I (q S0 H0 Pb σ H δ D R z)⟩
end
end Tr

namespace Tr
open PySem PySem.Spec PyProof.Rows L2
variable [ProtC]
def spI (Ca : Addr) (f : Str) : Sp := fun vs H Q _ => ∃ (a : Addr) (v : V), vs = [.ref a, v] ∧ H a = some (exo a Ca none) ∧ ∀ d, H d = none → d ≠ a → Q .non (upd (upd H d (exd d [(f, v)])) a (exo a Ca (some d)))
theorem spI_len {Ca : Addr} {f : Str} : ∀ vs H Q E, spI Ca f vs H Q E → vs.length = 2 := fun vs H Q E ⟨a, v, e, _⟩ => by rw [e]; rfl
theorem init_ok {P : Program} {w : World} {C : Cs} {base : Heap} {sf f qual : Str} {params : Arguments} {scope : Scope} {fI Ca : Addr} {fd : FuncData} {k : Nat} {p1 p2 p3 pos : Pos}
    (F : FunD C.K "__init__" qual params [.Assign [.Attribute (.Name sf p1) f p2] (.Name f p3) pos] scope [] [] fI fd) (S : FnScope [sf, f] [sf, f] scope) (T : OexC C.K Ca) (hno : PySem.W.findIn C.K (.ref Ca) f = some none)
    (hv1 : Vis scope sf) (hv2 : Vis scope f) (hd1 : (sf == ("__debug__" : Str)) = false) (hd2 : (f == ("__debug__" : Str)) = false) (hc1 : (sf == ("__classdict__" : Str)) = false) (hc2 : (f == ("__classdict__" : Str)) = false)
    (hsw : ∀ env : Env, swapsWith (.Name f p3) (some (.Attribute (.Name sf p1) f p2)) pos.line env = pure false) :
    FnOk P w C.K C.mg base (L2.CX P w) (k + 1) fI fd [sf, f] (spI Ca f) := by
  refine F.ok S spI_len fun cdv A outer s H vs Q E hr ⟨a, v, ev, ha, hq⟩ => ?_
  subst ev
  refine ⟨_, pss_one (ps_ost (pe_var (i := 0) rfl hv1 hd1 hc1) (pe_var (i := 1) rfl hv2 hd2 hc2) (hsw _)), ?_⟩
  refine ⟨v, rfl, .ref a, rfl, a, Ca, rfl, T, hno, .inl ⟨ha, fun d hd hda => hq d hd hda⟩⟩
def sRaiseF (x f : Str) (g : DF) : SF := fun δ => (g δ).bind fun d => .ex ⟨x, some (f, d)⟩
@[simp] theorem rw_sRaiseF {x f : Str} {g : DF} {δ : De} : sRaiseF x f g δ = (g δ).bind fun d => .ex ⟨x, some (f, d)⟩ := rfl
section
variable {X : Cx} {C : Cs} {W : WX} {pos p p2 : Pos} {x f : Str} {e : Expr} {g : DF} {Ca fI : Addr} {fd : FuncData} {k : Nat} {sf : Str}
theorem ds_raiseF (hc : X.calm = true) (tk : Takes X W) (hK : C.K = X.K) (hmg : C.mg = X.mg) (T : OexC X.K Ca) (iC : PySem.W.findIn X.K (.ref Ca) "__init__" = some (some (.ref fI))) (tI : PySem.W.typeIn X.K (.ref fI) = some (.type "function"))
    (F1 : FnOk X.prog X.w X.K X.mg X.base (L2.CX X.prog X.w) k fI fd [sf, f] (spI Ca f)) (hr : Room (k + 1) X.A) (hb : Binds X.K fd [sf, f] []) (hg : Gl X x) (hm : X.mg x = some (.ref Ca)) (ha : DE X C W e g)
    (hdb : (x == ("__debug__" : Str)) = false := by decide) (he : starEach [e] X.env = (false, eval e X.env) :: starEach [] X.env := by rfl) (hpl : (backTo p2 (starEach [] X.env)).any (·.1) = false := by rfl) :
    DS X C W (.Raise (some (.Call (.Name x p) [e] [] p2)) none pos) (sRaiseF x f g) := by
  obtain ⟨t, pt, q⟩ := ha
  refine ⟨_, ps_raise hc tk (pmk_oex (es := []) T iC tI F1 hr hb .nil (fun pins σ H s e s' I c => passAt takes0 σ pins H s e s' I c) hg hm (pa_cons pt pa_nil he) hdb he hpl), fun S0 H0 Pb σ H δ E R h => ?_⟩
  refine q S0 H0 Pb σ H δ _ R ((g δ).mono (fun d hx v G gr dp => ?_) (fun y hy cls dc G gr ex => hy cls dc σ G (R.grow.trans gr) ex) h)
  refine ⟨by show 1 ≤ 1000; omega, fun a hna => ?_⟩
  refine ⟨a, v, rfl, upd_same, fun dd hd hda => ?_⟩
  have hd' : G dd = none := by rwa [upd_ne hda] at hd
  refine ⟨rfl, dd, [(f, v)], upd_same, by rw [upd_ne hda, upd_same], hd', ?_⟩
  have eq : upd (del (upd (upd (upd G a (exo a Ca none)) dd (exd dd [(f, v)])) a (exo a Ca (some dd))) a) dd (.xd [(f, v)]) = upd G dd (.xd [(f, v)]) := by
    funext b
    by_cases h1 : b = dd
    · rw [h1, upd_same, upd_same]
    · rw [upd_ne h1, upd_ne h1]
      by_cases h2 : b = a
      · rw [h2, del_same, hna]
      · rw [del_ne h2, upd_ne h2, upd_ne h1, upd_ne h2]
  rw [eq]
  have gg : Grow G (upd G dd (.xd [(f, v)])) := Grow.new hd'
  refine hx _ (some dd) σ _ ((R.gr gr).grow.trans gg) ⟨⟨Ca, by rw [← hm, ← hmg], rfl⟩, dd, v, rfl, upd_same, ?_⟩
  have le : Le (hid (Own (C.bx S0 H0) σ δ) G) (hid S0 (upd G dd (.xd [(f, v)]))) := hid_le gg.le fun b z => .inl z
  exact Le.dp le d v dp
end
end Tr

namespace Tr
open PySem PySem.Spec PyProof.Rows L2
open LamX (CodeO TabS Tabs ExtN GivesTo)
variable [ProtC]
end Tr

namespace Tr
open PySem PySem.Spec L2
variable [ProtC]
inductive Ov where
  | d (x : D)
  | o (ds : List D)
structure Os where
  a : Addr
  at_ : List (Str × Ov)
def At.ov : At → Ov
  | .d x => .d x
  | .o _ ds => .o ds
def stv (st : List (Str × At)) : List (Str × Ov) := st.map fun q => (q.1, q.2.ov)
def stp (o : Ob) : Os := ⟨o.a, stv o.st⟩
def fp (o : Ob) (b : Addr) : Prop := b = o.a ∨ b = o.dx ∨ b ∈ lsts o.st
def Cs.wob (C : Cs) (o : Ob) : Cs := { C with ob := some o }
def ownl (σ : St) (δ : De) (b : Addr) : Prop := ∃ (i : Nat) (c : Ow), δ[i]? = some (Sl.own c) ∧ σ[i]? = some (some (V.ref b))
def AtV (K : PySem.W.Frag) (Hh H : Hp) (v : V) : At → Prop
  | .d x => Dp K Hh v x
  | .o l ds => v = .ref l ∧ ∃ xs, H l = some (.lst xs) ∧ DpAll K Hh xs ds
def AtsV (K : PySem.W.Frag) (Hh H : Hp) : List (Str × V) → List (Str × At) → Prop
  | [], [] => True
  | (n, v) :: vs, (m, x) :: st => n = m ∧ AtV K Hh H v x ∧ AtsV K Hh H vs st
  | _, _ => False
structure ObV (K : PySem.W.Frag) (Hh H : Hp) (o : Ob) : Prop where
  ins : ∃ vs, H o.a = some (.ins o.C o.dx vs) ∧ vs.length < 900 ∧ AtsV K Hh H vs o.st
  own : H o.dx = some (.own o.a)
theorem hid_hid {S T : Addr → Prop} {H : Hp} : hid S (hid T H) = hid (fun b => S b ∨ T b) H := by
  funext b
  by_cases h1 : S b
  · rw [hid_out h1, hid_out (.inl h1)]
  · by_cases h2 : T b
    · rw [hid_in h1, hid_out h2, hid_out (.inr h2)]
    · rw [hid_in h1, hid_in h2, hid_in fun z => z.elim h1 h2]
theorem hid_iff {S T : Addr → Prop} {H : Hp} (h : ∀ b, S b ↔ T b) : hid S H = hid T H := by
  funext b
  by_cases h1 : S b
  · rw [hid_out h1, hid_out ((h b).mp h1)]
  · rw [hid_in h1, hid_in fun z => h1 ((h b).mpr z)]
theorem AtV.le {K : PySem.W.Frag} {Hh Gh H G : Hp} (l : Le Hh Gh) {v : V} {x : At} (a : AtV K Hh H v x) (h : ∀ b xs, H b = some (.lst xs) → (∃ l ds, x = .o l ds ∧ b = l) → G b = some (.lst xs)) : AtV K Gh G v x := by
  cases x with
  | d x => exact Le.dp l x v a
  | o c ds =>
    obtain ⟨e, xs, h2, h3⟩ := a
    exact ⟨e, xs, h c xs h2 ⟨c, ds, rfl, rfl⟩, Le.dps l ds xs h3⟩
theorem AtsV.le {K : PySem.W.Frag} {Hh Gh H G : Hp} (l : Le Hh Gh) : ∀ {vs : List (Str × V)} {st : List (Str × At)}, AtsV K Hh H vs st → (∀ b xs, H b = some (.lst xs) → b ∈ lsts st → G b = some (.lst xs)) → AtsV K Gh G vs st
  | [], [], _, _ => trivial
  | (n, v) :: vs, (m, x) :: st, a, h => ⟨a.1, a.2.1.le l fun b xs e ⟨c, ds, e1, e2⟩ => h b xs e (by subst e1 e2; simp [lsts]), AtsV.le l a.2.2 fun b xs e hb => h b xs e (by
      cases x with
      | d x => exact hb
      | o c ds => exact List.mem_cons_of_mem _ hb)⟩
  | [], _ :: _, a, _ => a.elim
  | _ :: _, [], a, _ => a.elim
theorem AtsV.obOk {K : PySem.W.Frag} {S : Addr → Prop} {Hb H : Hp} (e : Le (hid S H) (hid S Hb)) : ∀ {vs : List (Str × V)} {st : List (Str × At)}, AtsV K (hid S H) H vs st → (∀ b ∈ lsts st, S b ∧ Hb b = H b) → AtsOk K S Hb vs st
  | [], [], _, _ => trivial
  | (n, v) :: vs, (m, .d x) :: st, a, h => ⟨a.1, Le.dp e x v a.2.1, AtsV.obOk e a.2.2 h⟩
  | (n, v) :: vs, (m, .o l ds) :: st, a, h => ⟨a.1, by
      obtain ⟨_, ⟨e1, xs, h2, h3⟩, _⟩ := a
      have := h l (by simp [lsts])
      exact ⟨e1, this.1, xs, by rw [this.2]; exact h2, Le.dps e ds xs h3⟩, AtsV.obOk e a.2.2 fun b hb => h b (by simp [lsts, hb])⟩
  | [], _ :: _, a, _ => a.elim
  | _ :: _, [], a, _ => a.elim
theorem AtsOk.obV {K : PySem.W.Frag} {S : Addr → Prop} {H : Hp} : ∀ {vs : List (Str × V)} {st : List (Str × At)}, AtsOk K S H vs st → AtsV K (hid S H) H vs st
  | [], [], _ => trivial
  | (n, v) :: vs, (m, .d x) :: st, a => ⟨a.1, a.2.1, AtsOk.obV a.2.2⟩
  | (n, v) :: vs, (m, .o l ds) :: st, a => ⟨a.1, ⟨a.2.1.1, a.2.1.2.2⟩, AtsOk.obV a.2.2⟩
  | [], _ :: _, a => a.elim
  | _ :: _, [], a => a.elim
theorem AtsV.len {K : PySem.W.Frag} {Hh H : Hp} : ∀ {vs : List (Str × V)} {st : List (Str × At)}, AtsV K Hh H vs st → vs.length = st.length
  | [], [], _ => rfl
  | _ :: _, _ :: _, a => by rw [List.length_cons, List.length_cons, AtsV.len a.2.2]
  | [], _ :: _, a => a.elim
  | _ :: _, [], a => a.elim
theorem AtsV.lst {K : PySem.W.Frag} {Hh H : Hp} : ∀ {vs : List (Str × V)} {st : List (Str × At)}, AtsV K Hh H vs st → ∀ b ∈ lsts st, ∃ xs, H b = some (.lst xs)
  | [], [], _, _, hb => by cases hb
  | _ :: vs, (m, .d x) :: st, a, b, hb => AtsV.lst (vs := vs) a.2.2 b hb
  | _ :: vs, (m, .o l ds) :: st, a, b, hb => by
    rcases List.mem_cons.mp hb with rfl | hb
    · obtain ⟨_, ⟨_, xs, h2, _⟩, _⟩ := a
      exact ⟨xs, h2⟩
    · exact AtsV.lst (vs := vs) a.2.2 b hb
  | [], _ :: _, a, _, _ => a.elim
theorem ObV.cell {K : PySem.W.Frag} {Hh H : Hp} {o : Ob} (h : ObV K Hh H o) {b : Addr} (hb : fp o b) : (∃ vs, H b = some (.ins o.C o.dx vs)) ∨ (H b = some (.own o.a)) ∨ ∃ xs, H b = some (.lst xs) := by
  obtain ⟨vs, h1, _, h2⟩ := h.ins
  rcases hb with rfl | rfl | hb
  · exact .inl ⟨vs, h1⟩
  · exact .inr (.inl h.own)
  · exact .inr (.inr (h2.lst b hb))
theorem ObV.dom {K : PySem.W.Frag} {Hh H : Hp} {o : Ob} (h : ObV K Hh H o) {b : Addr} (hb : fp o b) : H b ≠ none := by
  rcases h.cell hb with ⟨_, e⟩ | e | ⟨_, e⟩ <;> rw [e] <;> exact fun z => nomatch z
structure RepO (C : Cs) (cl : Addr) (i : Nat) (S0 : Addr → Prop) (H0 Pb : Hp) (a : Addr) (o : Ob) (σ : St) (H : Hp) (δ : De) : Prop where
  cls : o.C = cl
  at_ : o.a = a
  nd : (lsts o.st).Nodup
  sl : δ[i]? = some (.v (.ref a))
  fr : ∀ b, fp o b → H0 b = none
  s0 : ∀ b, S0 b → H0 b ≠ none
  dj : ∀ b, fp o b → ¬ ownl σ δ b
  fo : ∀ b, ownl σ δ b → H0 b = none
  gr : Grow H0 H
  ph : Le Pb (hid (fun b => S0 b ∨ fp o b ∨ ownl σ δ b) H)
  len : σ.length = δ.length
  tabs : ∀ P ∈ C.T, GxR.TabG H P
  pers : ∀ (i : Nat) (d : D), δ[i]? = some (Sl.p d) → ∃ v, σ[i]? = some (some v) ∧ Dp C.K (hid (fun b => S0 b ∨ fp o b ∨ ownl σ δ b) H) v d
  own : ∀ (i : Nat) (c : Ow), δ[i]? = some (Sl.own c) → ∃ a u, σ[i]? = some (some (V.ref a)) ∧ H a = some u ∧ OwAt C.K (hid (fun b => S0 b ∨ fp o b ∨ ownl σ δ b) H) a u c
  uniq : ∀ (i j : Nat) (ds es : Ow) (a : Addr), δ[i]? = some (Sl.own ds) → δ[j]? = some (Sl.own es) → σ[i]? = some (some (V.ref a)) → σ[j]? = some (some (V.ref a)) → i = j
  val : ∀ (i : Nat) (x : V), δ[i]? = some (Sl.v x) → σ[i]? = some (some x)
  trk : ∀ (i : Nat) (a : Addr) (φ : Heap → Prop), δ[i]? = some (Sl.t a φ) → σ[i]? = some (some (V.ref a)) ∧ hid (fun b => S0 b ∨ fp o b ∨ ownl σ δ b) H a = some (.ext φ)
  scr : (∀ q ∈ C.Z, SqL C.K H0 q.1 (q.2.map V.int)) ∧ ∀ p ∈ C.TL, LamX.TabS H0 p.1 p.2
  ob : ObV C.K (hid (fun b => S0 b ∨ fp o b ∨ ownl σ δ b) H) H o
section
variable {C : Cs} {cl : Addr} {i : Nat} {S0 : Addr → Prop} {H0 Pb : Hp} {a : Addr} {o : Ob} {σ : St} {H : Hp} {δ : De}
theorem TabS.ext2 {H G : Hp} {P : Addr} {q : Str} (t : LamX.TabS H P q) (e : ∀ b u, H b = some u → (∀ xs, u ≠ .lst xs) → (∀ C d fs, u ≠ .ins C d fs) → (∀ y, u ≠ .own y) → (∀ K H' c, ¬ OwAt K H' b u c) → G b = some u) : LamX.TabS G P q := by
  obtain ⟨ps, e1, t1, t2⟩ := t
  refine ⟨ps, e P _ e1 (fun _ z => by cases z) (fun _ _ _ z => by cases z) (fun _ z => by cases z) (fun _ _ _ o => o.nt _ rfl), t1, fun pos cv hc => ?_⟩
  obtain ⟨c, e2, e3⟩ := t2 pos cv hc
  exact ⟨c, e2, e c _ e3 (fun _ z => by unfold LamX.CodeO at z; cases z) (fun _ _ _ z => by unfold LamX.CodeO at z; cases z) (fun _ z => by unfold LamX.CodeO at z; cases z) (fun _ _ _ o => o.nc rfl)⟩
theorem RepO.ol (R : RepO C cl i S0 H0 Pb a o σ H δ) {b : Addr} (h : ownl σ δ b) : ∃ u, H b = some u ∧ ∃ H' c, OwAt C.K H' b u c := by
  obtain ⟨j, ds, e1, e2⟩ := h
  obtain ⟨c, u, q1, q2, q3⟩ := R.own j ds e1
  rw [e2] at q1
  cases q1
  exact ⟨u, q2, _, _, q3⟩
theorem RepO.base (R : RepO C cl i S0 H0 Pb a o σ H δ) : Grow H0 (hid (ownl σ δ) H) ∧ Grow (hid (ownl σ δ) H) H := by
  refine ⟨⟨fun b u e n => ?_, fun P t => ?_, fun b n => ?_, fun P q hp t => ?_⟩, ⟨hid_sub, fun P t => ?_, fun b n z => ?_, fun P q hp t => ?_⟩⟩
  · rw [hid_in fun z => by rw [R.fo b z] at e; cases e]
    exact R.gr.le b u e n
  · obtain ⟨ps, e, tr⟩ := R.gr.tb P t
    refine ⟨ps, ?_, tr⟩
    rw [hid_in fun z => by
      obtain ⟨u, h, _, _, o⟩ := R.ol z
      rw [e] at h
      exact o.nt _ (Option.some.inj h).symm]
    exact e
  · rw [hid_in fun z => n (R.fo b z)]
    exact R.gr.dm b n
  · refine TabS.ext2 (R.gr.pr P q hp t) fun b u e n1 _ _ n4 => ?_
    rw [hid_in fun z => by
      obtain ⟨u', h, _, _, o⟩ := R.ol z
      rw [e] at h
      exact n4 _ _ _ (by rw [Option.some.inj h]; exact o)]
    exact e
  · obtain ⟨ps, e, tr⟩ := t
    exact ⟨ps, (of_hid e).2, tr⟩
  · by_cases h : ownl σ δ b
    · exact n (hid_out h)
    · exact n (by rw [hid_in h]; exact z)
  · exact t.ext fun b u e => (of_hid e).2
theorem RepO.down (R : RepO C cl i S0 H0 Pb a o σ H δ) : Rep ((C.wob o).bx (fun b => S0 b ∨ fp o b) (hid (ownl σ δ) H)) Pb σ H δ := by
  have own : ∀ b, Own ((C.wob o).bx (fun b => S0 b ∨ fp o b) (hid (ownl σ δ) H)) σ δ b ↔ (S0 b ∨ fp o b ∨ ownl σ δ b) := fun b => or_assoc
  have eh : hid (Own ((C.wob o).bx (fun b => S0 b ∨ fp o b) (hid (ownl σ δ) H)) σ δ) H = hid (fun b => S0 b ∨ fp o b ∨ ownl σ δ b) H := hid_iff own
  have b1 := R.base
  have ob := R.ob
  obtain ⟨vs, i1, _, i2⟩ := ob.ins
  refine ⟨by rw [eh]; exact R.ph, R.len, b1.2, fun b z => ?_, R.tabs, fun j d h => by rw [eh]; exact R.pers j d h, fun j ds h => ?_, R.uniq, R.val, fun j c φ h => by rw [eh]; exact R.trk j c φ h, ⟨fun q hq => b1.1.le.sqL (R.scr.1 q hq), fun p hp => b1.1.pr _ _ (C.pl p hp) (R.scr.2 p hp), fun o' ho => ?_⟩⟩
  · rcases z with z | z
    · exact b1.1.dm b (R.s0 b z)
    · show hid (ownl σ δ) H b ≠ none
      rw [hid_in (R.dj b z)]
      exact ob.dom z
  · obtain ⟨c, xs, q1, q2, q3⟩ := R.own j ds h
    exact ⟨c, xs, q1, q2, hid_out ⟨j, ds, h, q1⟩, by rw [eh]; exact q3⟩
  · have e : o = o' := Option.some.inj ho
    subst e
    have hh : hid (fun b => S0 b ∨ fp o b ∨ ownl σ δ b) H = hid (fun b => S0 b ∨ fp o b) (hid (ownl σ δ) H) := by
      rw [hid_hid]
      exact hid_iff fun b => or_assoc.symm
    refine ⟨⟨vs, ?_, ?_⟩, ?_, .inr (.inl rfl), .inr (.inr (.inl rfl))⟩
    · show hid (ownl σ δ) H o.a = _
      rw [hid_in (R.dj _ (.inl rfl))]
      exact i1
    · show AtsOk C.K (fun b => S0 b ∨ fp o b) (hid (ownl σ δ) H) vs o.st
      have i3 : AtsV C.K (hid (fun b => S0 b ∨ fp o b) (hid (ownl σ δ) H)) (hid (ownl σ δ) H) vs o.st := by
        rw [← hh]
        refine i2.le (Le.refl _) fun b xs e hb => ?_
        rw [hid_in (R.dj b (.inr (.inr hb)))]
        exact e
      exact i3.obOk (Le.refl _) fun b hb => ⟨.inr (.inr (.inr hb)), rfl⟩
    · show hid (ownl σ δ) H o.dx = _
      rw [hid_in (R.dj _ (.inr (.inl rfl)))]
      exact ob.own
theorem RepO.up {σ' : St} {H' : Hp} {δ' : De} (R : RepO C cl i S0 H0 Pb a o σ H δ) (r : Rep ((C.wob o).bx (fun b => S0 b ∨ fp o b) (hid (ownl σ δ) H)) Pb σ' H' δ') (hs : δ'[i]? = some (.v (.ref a))) : RepO C cl i S0 H0 Pb a o σ' H' δ' := by
  have own : ∀ b, Own ((C.wob o).bx (fun b => S0 b ∨ fp o b) (hid (ownl σ δ) H)) σ' δ' b ↔ (S0 b ∨ fp o b ∨ ownl σ' δ' b) := fun b => or_assoc
  have eh : hid (Own ((C.wob o).bx (fun b => S0 b ∨ fp o b) (hid (ownl σ δ) H)) σ' δ') H' = hid (fun b => S0 b ∨ fp o b ∨ ownl σ' δ' b) H' := hid_iff own
  have b1 := R.base
  have fo1 : ∀ b, ownl σ' δ' b → hid (ownl σ δ) H b = none := fun b ⟨j, ds, e1, e2⟩ => by
    obtain ⟨c, xs, q1, _, q3, _⟩ := r.own j ds e1
    rw [e2] at q1
    cases q1
    exact q3
  have keep : ∀ b u, ¬ ownl σ δ b → H b = some u → (∀ ps, u ≠ .tbl ps) → H' b = some u := fun b u h e n => r.grow.le b u (show hid (ownl σ δ) H b = some u by rw [hid_in h]; exact e) n
  have ob := R.ob
  obtain ⟨vs, i1, il, i2⟩ := ob.ins
  have hl : Le (hid (fun b => S0 b ∨ fp o b ∨ ownl σ δ b) H) (hid (fun b => S0 b ∨ fp o b ∨ ownl σ' δ' b) H') := by
    rw [← eh]
    refine Le.trans ?_ r.leB
    intro b u e n
    obtain ⟨h1, h2⟩ := of_hid e
    have h3 : hid (ownl σ δ) H b = some u := by rw [hid_in fun z => h1 (.inr (.inr z))]; exact h2
    show hid (fun b => S0 b ∨ fp o b) (hid (ownl σ δ) H) b = some u
    rw [hid_in fun z => h1 (z.elim .inl fun z => .inr (.inl z))]
    exact h3
  refine ⟨R.cls, R.at_, R.nd, hs, R.fr, R.s0, fun b z1 z2 => ?_, fun b z => ?_, b1.1.trans r.grow, by rw [← eh]; exact r.ph, r.len, r.tabs, fun j d h => by rw [← eh]; exact r.pers j d h, fun j ds h => ?_, r.uniq, r.val, fun j c φ h => by rw [← eh]; exact r.trk j c φ h, R.scr, ⟨⟨vs, ?_, il, ?_⟩, ?_⟩⟩
  · have h1 := fo1 b z2
    rw [hid_in (R.dj b z1)] at h1
    exact ob.dom z1 h1
  · cases e : H0 b with
    | none => rfl
    | some u => exact absurd (fo1 b z) (b1.1.dm b (by rw [e]; exact fun z => nomatch z))
  · obtain ⟨c, xs, q1, q2, _, q4⟩ := r.own j ds h
    exact ⟨c, xs, q1, q2, by rw [← eh]; exact q4⟩
  · exact keep _ _ (R.dj _ (.inl rfl)) i1 fun ps z => by cases z
  · exact i2.le hl fun b xs e hb => keep _ _ (R.dj _ (.inr (.inr hb))) e fun ps z => by cases z
  · exact keep _ _ (R.dj _ (.inr (.inl rfl))) ob.own fun ps z => by cases z
end
end Tr

namespace Tr
open PySem PySem.Spec L2
variable [ProtC]
section
variable {C : Cs} {cl : Addr} {i : Nat} {S0 : Addr → Prop} {H0 Pb Ph : Hp} {a : Addr} {o : Ob} {σ : St} {H G : Hp} {δ : De}
theorem RepO.bas (R : RepO C cl i S0 H0 Ph a o σ H δ) (l : Le Pb Ph) : RepO C cl i S0 H0 Pb a o σ H δ :=
  ⟨R.cls, R.at_, R.nd, R.sl, R.fr, R.s0, R.dj, R.fo, R.gr, l.trans R.ph, R.len, R.tabs, R.pers, R.own, R.uniq, R.val, R.trk, R.scr, R.ob⟩
theorem RepO.top (R : RepO C cl i S0 H0 Pb a o σ H δ) : RepO C cl i S0 H0 (hid (fun b => S0 b ∨ fp o b ∨ ownl σ δ b) H) a o σ H δ :=
  ⟨R.cls, R.at_, R.nd, R.sl, R.fr, R.s0, R.dj, R.fo, R.gr, Le.refl _, R.len, R.tabs, R.pers, R.own, R.uniq, R.val, R.trk, R.scr, R.ob⟩
theorem RepO.odom (R : RepO C cl i S0 H0 Pb a o σ H δ) : ∀ b, (S0 b ∨ fp o b ∨ ownl σ δ b) → H b ≠ none := fun b z => by
  rcases z with z | z | z
  · exact R.gr.dm b (R.s0 b z)
  · exact R.ob.dom z
  · obtain ⟨xs, e, _⟩ := R.ol z
    rw [e]; exact fun z => nomatch z
theorem RepO.eh (R : RepO C cl i S0 H0 Pb a o σ H δ) {G : Hp} : hid (Own ((C.wob o).bx (fun b => S0 b ∨ fp o b) (hid (ownl σ δ) H)) σ δ) G = hid (fun b => S0 b ∨ fp o b ∨ ownl σ δ b) G := hid_iff fun b => or_assoc
end
abbrev SO := Os → De → Wp (Out × Os)
def OutO (C : Cs) (cl : Addr) (i : Nat) (S0 : Addr → Prop) (H0 Pb : Hp) (a : Addr) (E : Ends) : Out × Os → Prop
  | (.nx δ, os) => ∀ o σ H, stp o = os → RepO C cl i S0 H0 Pb a o σ H δ → E.nx σ H
  | (.rt d, os) => ∀ o v G, o.C = cl → o.a = a → stp o = os → (lsts o.st).Nodup → (∀ b, fp o b → H0 b = none) → Grow H0 G → ObV C.K (hid (fun b => S0 b ∨ fp o b) G) G o → Dp C.K (hid (fun b => S0 b ∨ fp o b) G) v d → E.rt v G
  | (.bk δ, os) => ∀ o σ H, stp o = os → RepO C cl i S0 H0 Pb a o σ H δ → E.bk σ H
  | (.ct δ, os) => ∀ o σ H, stp o = os → RepO C cl i S0 H0 Pb a o σ H δ → E.ct σ H
theorem OutO.base {C : Cs} {cl : Addr} {i : Nat} {S0 : Addr → Prop} {H0 Pb Ph : Hp} {a : Addr} {E : Ends} {o : Out × Os} (l : Le Pb Ph) (h : OutO C cl i S0 H0 Pb a E o) : OutO C cl i S0 H0 Ph a E o := by
  obtain ⟨q, os⟩ := o
  cases q with
  | nx δ => exact fun o σ H e R => h o σ H e (R.bas l)
  | rt d => exact h
  | bk δ => exact fun o σ H e R => h o σ H e (R.bas l)
  | ct δ => exact fun o σ H e R => h o σ H e (R.bas l)
def rOS (C : Cs) (cl : Addr) (i : Nat) (F : SO) : TS := fun E σ H => ∃ S0 H0 Pb a o δ, RepO C cl i S0 H0 Pb a o σ H δ ∧ (F (stp o) δ).run (OutO C cl i S0 H0 Pb a E) fun _ => False
def OSs (X : Cx) (C : Cs) (cl : Addr) (i : Nat) (sts : List Stmt) (F : SO) : Prop := PSs X sts (rOS C cl i F)
section
variable {X : Cx} {C : Cs} {cl : Addr} {i : Nat} {pos : Pos} {e : Expr} {st : Stmt} {sts rest : List Stmt} {F G : SO}
def oL (i : Nat) (F : Os → SF) : SO := fun os δ => (F os δ).bind fun r => match r with
  | .nx δ' => .need (δ'[i]? = δ[i]?) (.pure (.nx δ', os))
  | .rt d => .pure (.rt d, os)
  | .bk δ' => .need (δ'[i]? = δ[i]?) (.pure (.bk δ', os))
  | .ct δ' => .need (δ'[i]? = δ[i]?) (.pure (.ct δ', os))
def oSeq (F G : SO) : SO := fun os δ => (F os δ).bind fun r => match r with
  | (.nx δ', os') => G os' δ'
  | r => .pure r
def oNil : SO := fun os δ => .pure (.nx δ, os)
def oIf (t : Os → TF) (F G : SO) : SO := fun os δ => (t os δ).bind fun b => if b then F os δ else G os δ
def oLoop (i : Nat) (g : BF) (F : SO) : List D → Os → De → Wp (Out × Os)
  | [], os, δ => .pure (.nx δ, os)
  | d :: ds, os, δ => (optW (g d δ)).bind fun δ1 => .need (δ1[i]? = δ[i]?) ((F os δ1).bind fun r => match r with
    | (.nx δ', os') => oLoop i g F ds os' δ'
    | (.ct δ', os') => oLoop i g F ds os' δ'
    | (.bk δ', os') => .pure (.nx δ', os')
    | (.rt d, os') => .pure (.rt d, os'))
def oFor (i : Nat) (f : Os → De → Wp (List D)) (g : BF) (F : SO) : SO := fun os δ => (f os δ).bind fun ds => oLoop i g F ds os δ
end
end Tr

namespace Tr
open PySem PySem.Spec L2
variable [ProtC]
def dFld (i : Nat) (f : Str) (os : Os) : DF := fun δ => .need (δ[i]? = some (.v (.ref os.a))) (match os.at_.lookup f with
  | some (.d d) => .pure d
  | _ => .stuck)
def lFld (i : Nat) (f : Str) (os : Os) : De → Wp (List D) := fun δ => .need (δ[i]? = some (.v (.ref os.a))) (match os.at_.lookup f with
  | some (.o ds) => .pure ds
  | _ => .stuck)
def DL (X : Cx) (C : Cs) (W : WX) (e : Expr) (f : De → Wp (List D)) : Prop :=
  ∃ t, PE X e t ∧ ∀ S0 H0 Pb σ H δ Q, Rep (C.bx S0 H0) Pb σ H δ → (f δ).run (fun ds => ∀ a xs G, Grow H G → SqL C.K G a xs → DpAll C.K (hid (Own (C.bx S0 H0) σ δ) G) xs ds → Q (.ref a) G) (Ew (C.bx S0 H0) W σ H) → t σ H Q
def DLa (X : Cx) (C : Cs) (W : WX) (e : Expr) (f : De → Wp (List D)) : Prop :=
  ∃ t, PE X e t ∧ ∀ S0 H0 Pb σ H δ Q, Rep (C.bx S0 H0) Pb σ H δ → (f δ).run (fun ds => ∀ a xs, obh C H0 a = some (.lst xs) → DpAll C.K (hid (Own (C.bx S0 H0) σ δ) H) xs ds → Q (.ref a) H) (Ew (C.bx S0 H0) W σ H) → t σ H Q
section
variable {X : Cx} {C : Cs} {W : WX} {pos p : Pos} {e : Expr} {f : Str} {i : Nat} {x : Str} {o : Ob}
theorem Rep.obs {B : Bx} {Pb : Hp} {σ : St} {H : Hp} {δ : De} (R : Rep B Pb σ H δ) (ho : B.c.ob = some o) : ∃ vs, H o.a = some (.ins o.C o.dx vs) ∧ AtsV B.c.K (hid (Own B σ δ) H) H vs o.st := by
  obtain ⟨vs, h1, h2⟩ := (R.scrO.2.2 o ho).ins
  exact ⟨vs, h1, h2.obV⟩
theorem DLa.dl {l : De → Wp (List D)} (h : DLa X C W e l) : DL X C W e l := by
  obtain ⟨t, pt, q⟩ := h
  exact ⟨t, pt, fun S0 H0 Pb σ H δ Q R h => q S0 H0 Pb σ H δ _ R ((l δ).mono (fun ds h a xs ha dp => h a xs H (Grow.refl H) (SqL.of (R.grow.le a _ (obh_le a _ ha fun ps z => by cases z) fun ps z => by cases z)) dp) (fun _ z => z) h)⟩
def dIxL (l : De → Wp (List D)) (fi : DF) : DF := fun δ => (l δ).bind fun ds => (fi δ).bind fun k => (asI1 k).bind fun k => optW (atI ds k)
def dLenL (l : De → Wp (List D)) : DF := fun δ => (l δ).bind fun ds => .pure (.int ds.length)
def iEnA (l : De → Wp (List D)) : De → Wp (List D) := fun δ => (l δ).bind fun ds => .pure (enD ds)
end
end Tr

namespace Tr
open PySem PySem.Spec L2
variable [ProtC]
def putG {A : Type} (f : Str) (v : A) : List (Str × A) → List (Str × A)
  | [] => [(f, v)]
  | (g, x) :: r => if g = f then (g, v) :: r else (g, x) :: putG f v r
theorem AtsV.put {K : PySem.W.Frag} {Hh H : Hp} {f : Str} {v : V} {x : At} (hx : AtV K Hh H v x) : ∀ {vs : List (Str × V)} {st : List (Str × At)}, AtsV K Hh H vs st → AtsV K Hh H (putG f v vs) (putG f x st)
  | [], [], _ => ⟨rfl, hx, trivial⟩
  | (n, u) :: vs, (m, y) :: st, a => by
    obtain ⟨rfl, a1, a2⟩ := a
    unfold putG
    split
    · exact ⟨rfl, hx, a2⟩
    · exact ⟨rfl, a1, AtsV.put hx a2⟩
  | [], _ :: _, a => a.elim
  | _ :: _, [], a => a.elim
theorem look_mem {f : Str} {l : Addr} {ds : List D} : ∀ {st : List (Str × At)}, st.lookup f = some (.o l ds) → l ∈ lsts st
  | [], h => by simp at h
  | (g, y) :: r, h => by
    rw [List.lookup_cons] at h
    cases e : f == g with
    | true =>
      rw [e] at h
      cases Option.some.inj h
      simp [lsts]
    | false =>
      rw [e] at h
      have := look_mem (st := r) h
      cases y with
      | d d => exact this
      | o l2 ds2 => exact List.mem_cons_of_mem _ this
theorem AtsV.wr {K : PySem.W.Frag} {Hh Gh H G : Hp} {f : Str} {l : Addr} {ds es : List D} {ys : List V} (le : Le Hh Gh) (hl : G l = some (.lst ys)) (hy : DpAll K Gh ys es) : ∀ {vs : List (Str × V)} {st : List (Str × At)}, AtsV K Hh H vs st → st.lookup f = some (.o l ds) → (lsts st).Nodup →
    (∀ b xs, H b = some (.lst xs) → b ∈ lsts st → b ≠ l → G b = some (.lst xs)) → AtsV K Gh G vs (putG f (.o l es) st)
  | [], [], _, h, _, _ => by simp at h
  | (n, v) :: vs, (m, y) :: st, a, h, nd, k => by
    obtain ⟨rfl, a1, a2⟩ := a
    rw [List.lookup_cons] at h
    unfold putG
    cases e : f == n with
    | true =>
      rw [e] at h
      cases Option.some.inj h
      rw [if_pos (by simpa using (beq_iff_eq.mp e).symm)]
      obtain ⟨h1, h2⟩ := List.nodup_cons.mp nd
      exact ⟨rfl, ⟨a1.1, ys, hl, hy⟩, a2.le le fun b xs hb hm => k b xs hb (List.mem_cons_of_mem _ hm) fun z => h1 (z ▸ hm)⟩
    | false =>
      rw [e] at h
      rw [if_neg fun z => by rw [z] at e; simp at e]
      have hm := look_mem h
      cases y with
      | d d => exact ⟨rfl, Le.dp le d v a1, AtsV.wr le hl hy a2 h nd k⟩
      | o l2 ds2 =>
        obtain ⟨h1, h2⟩ := List.nodup_cons.mp nd
        obtain ⟨e1, xs, e2, e3⟩ := a1
        exact ⟨rfl, ⟨e1, xs, k l2 xs e2 (List.mem_cons_self ..) fun z => h1 (z ▸ hm), Le.dps le ds2 xs e3⟩, AtsV.wr le hl hy a2 h h2 fun b xs hb hb2 => k b xs hb (List.mem_cons_of_mem _ hb2)⟩
  | [], _ :: _, a, _, _, _ => a.elim
  | _ :: _, [], a, _, _, _ => a.elim
def Os.put (os : Os) (f : Str) (v : Ov) : Os := ⟨os.a, putG f v os.at_⟩
def Ob.put (o : Ob) (f : Str) (x : At) : Ob := ⟨o.C, o.a, o.dx, putG f x o.st⟩
end Tr

namespace Tr
open PySem PySem.Spec L2
variable [ProtC]
def oSetA (f : Str) (g : Os → DF) : SO := fun os δ => (g os δ).bind fun d => .need ((os.put f (.d d)).at_.length < 900) (.pure (.nx δ, os.put f (.d d)))
def oSetL (f : Str) (g : Os → De → Wp (List D)) : SO := fun os δ => (g os δ).bind fun ds => .need ((os.put f (.o ds)).at_.length < 900) (.pure (.nx δ, os.put f (.o ds)))
def oMov (f : Str) (j : Nat) : SO := fun os δ => (slotO δ[j]?).bind fun ds => .need ((os.put f (.o ds)).at_.length < 900) (.pure (.nx (δ.set j .non), os.put f (.o ds)))
def lOf : Option Ov → Wp (List D)
  | some (.o ds) => .pure ds
  | _ => .stuck
def oSetIx (f : Str) (fi g : Os → DF) : SO := fun os δ => (g os δ).bind fun d => (lOf (os.at_.lookup f)).bind fun ds => (fi os δ).bind fun k => (asI1 k).bind fun k => (optW (ixN ds.length k)).bind fun j => .pure (.nx δ, os.put f (.o (ds.set j d)))
def oApp (f : Str) (g : Os → DF) : SO := fun os δ => (lOf (os.at_.lookup f)).bind fun ds => (g os δ).bind fun d => .need (ds.length < sizeLine) (.pure (.nx δ, os.put f (.o (ds ++ [d]))))
section
variable {X : Cx} {C : Cs} {cl : Addr} {i : Nat} {pos p1 p2 p3 p3' : Pos} {e : Expr} {f x : Str} {g : Os → DF}
theorem RepO.self {S0 : Addr → Prop} {H0 Pb : Hp} {a : Addr} {o : Ob} {σ : St} {H : Hp} {δ : De} (R : RepO C cl i S0 H0 Pb a o σ H δ) : σ[i]? = some (some (.ref a)) ∧ ∃ vs, H a = some (.ins cl o.dx vs) ∧ vs.length < 900 ∧ AtsV C.K (hid (fun b => S0 b ∨ fp o b ∨ ownl σ δ b) H) H vs o.st := by
  have ea := R.at_
  have ec := R.cls
  subst ea ec
  exact ⟨R.val i _ R.sl, R.ob.ins⟩
end
end Tr

namespace Tr
open PySem PySem.Spec L2
variable [ProtC]
structure DMr (P : Program) (w : World) (C : Cs) (base : Heap) (cl : Addr) (m : Str) (n k : Nat) (F : Os → List Ar → Wp D) : Prop where
  ex : ∃ (fa : Addr) (fd : FuncData) (ps : List Str), Cls C.K cl ∧ Meth C.K cl m fa ∧ Binds C.K fd ps [] ∧ ∀ o : Ob, o.C = cl → FnOk P w C.K C.mg base (L2.CX P w) k fa fd ps (spD (C.wob o) n (F (stp o)))
def dMethR (i : Nat) (m : Str) (n : Nat) (F : Os → List Ar → Wp D) (os : Os) (r : AF) : DF := fun δ => .need (δ[i]? = some (.v (.ref os.a)) ∧ os.at_.lookup m = none) ((r δ).bind fun as => .need (as.length + 1 = n) (F os (.v (.ref os.a) :: as)).nox)
theorem fnM {P : Program} {w : World} {C : Cs} {base : Heap} {x qual : Str} {params : Arguments} {body : List Stmt} {scope : Scope} {q : He.Defn} {fd : FuncData} {N ps : List Str} {k : Nat} {sp : Sp}
    (F : FunD C.K x qual params body scope [] [] (He.fAd C.K q) fd) (S : FnScope N ps scope) (len : ∀ vs H Q E, sp vs H Q E → vs.length = ps.length)
    (hb : ∀ (A : Around) (outer : List Env) (s : Shared) (H : Hp) (E : XK) (vs : List V) (Q : VK), Room k (A.deeper (PyProof.Rows.envOfC qual scope s.heap.objs.size (He.fAd C.K q) (.ref (He.codeOf C.K q)))) → sp vs H Q E →
      ∃ t, PSs (cxN P w C base N qual scope (He.fAd C.K q) (.ref (He.codeOf C.K q)) A outer s H E) body t ∧ t { nx := fun _ H' => Q .non H', rt := Q } (L2.start N vs) H) :
    FnOk P w C.K C.mg base (L2.CX P w) (k + 1) (He.fAd C.K q) fd ps sp := by
  obtain ⟨oc, od, dV, kV, doc, pm, an, cdv, ct, osl, rfl, lk, hcd, _, _⟩ := F.ex
  obtain ⟨c, hc⟩ := He.codeIn_ref hcd
  have ec : He.codeOf C.K q = c := He.codeOf_eq (p := q) lk hc
  subst hc
  rw [ec] at hb
  exact fn_of lk hcd S len fun A outer s H vs Q E hr h => hb A outer s H E vs Q hr h
theorem DMr.mk' {P : Program} {w : World} {C : Cs} {base : Heap} {cl : Addr} {m x qual : Str} {params : Arguments} {body : List Stmt} {scope : Scope} {q : He.Defn} {fd : FuncData} {N ps : List Str} {k n : Nat} {bd : Os → SF}
    (c : Cls C.K cl) (hm : Meth C.K cl m (He.fAd C.K q)) (F : FunD C.K x qual params body scope [] [] (He.fAd C.K q) fd) (S : FnScope N ps scope) (hn : ps.length = n)
    (hbi : ∀ (kV doc pm : Value) (an : Option Addr) (cdv ct : Value) (us : List Value), us.length = ps.length → bindArgs (PySem.W.fnOf x qual params body scope .none kV doc pm an cdv ct) ⟨us, []⟩ = pure (ps.zip us))
    (hb : ∀ (o : Ob), o.C = cl → ∀ (A : Around) (outer : List Env) (s : Shared) (H : Hp) (E : XK), Room k (A.deeper (PyProof.Rows.envOfC qual scope s.heap.objs.size (He.fAd C.K q) (.ref (He.codeOf C.K q)))) →
      DSs (cxN P w C base N qual scope (He.fAd C.K q) (.ref (He.codeOf C.K q)) A outer s H E) (C.wob o) (wxN E) body (bd (stp o))) :
    DMr P w C base cl m n (k + 1) (fun os => dRun N.length (bd os)) := by
  subst hn
  refine ⟨_, fd, ps, c, hm, F.bindsN hbi, fun o hcl => fnM F S spD_len fun A outer s H E vs Q hr ⟨Sx, as, hn, dom, tabs, scr, ok, hw⟩ => ?_⟩
  obtain ⟨t, p, qq⟩ := hb o hcl A outer s H E hr
  refine ⟨t, p, qq Sx H (hid Sx H) (L2.start N vs) H (dStart N.length as) _ (start_rep dom tabs scr ok) ((bd (stp o) (dStart N.length as)).mono (fun r hr => ?_) (fun y hy cls dc σ G g ex => hy cls dc G g ex) hw)⟩
  cases r with
  | nx δ' => exact fun σ' H' R' => hr .non H' R'.grow .non
  | rt d => exact hr
  | bk δ' => exact hr.elim
  | ct δ' => exact hr.elim
def spM (C : Cs) (cl : Addr) (n : Nat) (F : Os → List Ar → Wp (D × Os)) : Sp := fun vs H Q E => ∃ (S : Addr → Prop) (o : Ob) (as : List Ar), as.length + 1 = n ∧ o.C = cl ∧ (lsts o.st).Nodup ∧ (∀ b, S b → H b ≠ none ∧ ¬ fp o b) ∧ (∀ P ∈ C.T, GxR.TabG H P) ∧
  ((∀ q ∈ C.Z, SqL C.K (hid (fp o) H) q.1 (q.2.map V.int)) ∧ ∀ p ∈ C.TL, LamX.TabS (hid (fp o) H) p.1 p.2) ∧ ObV C.K (hid (fun b => S b ∨ fp o b) H) H o ∧ ArsOk C.K (hid (fun b => S b ∨ fp o b) H) vs (.v (.ref o.a) :: as) ∧
  (F (stp o) as).run (fun r => ∀ o' v G, o'.C = cl → stp o' = r.2 → (lsts o'.st).Nodup → (∀ b, fp o' b → fp o b ∨ H b = none) → Grow (hid (fp o) H) G → ObV C.K (hid (fun b => S b ∨ fp o' b) G) G o' → Dp C.K (hid (fun b => S b ∨ fp o' b) G) v r.1 → Q v G) fun _ => False
theorem spM_len {C : Cs} {cl : Addr} {n : Nat} {F : Os → List Ar → Wp (D × Os)} : ∀ vs H Q E, spM C cl n F vs H Q E → vs.length = n := fun vs H Q E ⟨S, o, as, h1, _, _, _, _, _, _, h2, _⟩ => h2.len.trans h1
structure DMw (P : Program) (w : World) (C : Cs) (base : Heap) (cl : Addr) (m : Str) (n k : Nat) (F : Os → List Ar → Wp (D × Os)) : Prop where
  ex : ∃ (fa : Addr) (fd : FuncData) (ps : List Str), Cls C.K cl ∧ Meth C.K cl m fa ∧ Binds C.K fd ps [] ∧ FnOk P w C.K C.mg base (L2.CX P w) k fa fd ps (spM C cl n F)
def dRunO (m : Nat) (bd : SO) (os : Os) (as : List Ar) : Wp (D × Os) := (bd os (dStart m (.v (.ref os.a) :: as))).bind fun r => match r with
  | (.rt d, os') => .pure (d, os')
  | (.nx _, os') => .pure (.none, os')
  | _ => .stuck
def Cs.bare (C : Cs) : Cs := { C with ob := none, Z := [], TL := [], pl := fun p hp => by cases hp }
theorem startO {C : Cs} {cl : Addr} {S : Addr → Prop} {H : Hp} {N : List Str} {vs : List V} {as : List Ar} {o : Ob} (cls : o.C = cl) (nd : (lsts o.st).Nodup) (dom : ∀ b, S b → H b ≠ none ∧ ¬ fp o b) (tabs : ∀ P ∈ C.T, GxR.TabG H P)
    (scr : (∀ q ∈ C.Z, SqL C.K (hid (fp o) H) q.1 (q.2.map V.int)) ∧ ∀ p ∈ C.TL, LamX.TabS (hid (fp o) H) p.1 p.2) (ob : ObV C.K (hid (fun b => S b ∨ fp o b) H) H o) (ok : ArsOk C.K (hid (fun b => S b ∨ fp o b) H) vs (.v (.ref o.a) :: as)) :
    RepO C cl 0 S (hid (fp o) H) (hid (fun b => S b ∨ fp o b) H) o.a o (L2.start N vs) H (dStart N.length (.v (.ref o.a) :: as)) := by
  have R0 := start_rep (C := C.bare) (N := N) (S := fun b => S b ∨ fp o b) (H := H) (vs := vs) (as := .v (.ref o.a) :: as) (fun b z => z.elim (fun z => (dom b z).1) fun z => ob.dom z) tabs ⟨fun q hq => (nomatch hq), fun p hp => (nomatch hp), fun o ho => (nomatch ho)⟩ ok
  have no : ∀ j ds, (dStart N.length (.v (.ref o.a) :: as))[j]? ≠ some (Sl.own ds) := fun j ds e => by
    obtain ⟨_, _, _, _, h, _⟩ := R0.own j ds e
    unfold dStart at e
    by_cases c : j < ((Ar.v (.ref o.a)) :: as).length
    · rw [List.getElem?_append_left (by rw [List.length_map]; exact c), List.getElem?_map, List.getElem?_eq_getElem c] at e
      have e := Option.some.inj e
      revert e
      cases ((Ar.v (.ref o.a)) :: as)[j] <;> intro e <;> cases e
    · rw [List.getElem?_append_right (by rw [List.length_map]; omega), List.getElem?_replicate] at e
      split at e
      · cases Option.some.inj e
      · cases e
  have nol : ∀ b, ¬ ownl (L2.start N vs) (dStart N.length (.v (.ref o.a) :: as)) b := fun b ⟨j, ds, e, _⟩ => no j ds e
  have eh : ∀ H : Hp, hid (fun b => S b ∨ fp o b ∨ ownl (L2.start N vs) (dStart N.length (.v (.ref o.a) :: as)) b) H = hid (fun b => S b ∨ fp o b) H := fun H => hid_iff fun b => or_congr Iff.rfl (or_iff_left (nol b))
  have eh2 : ∀ H : Hp, hid (Own (C.bare.bx (fun b => S b ∨ fp o b) H) (L2.start N vs) (dStart N.length (.v (.ref o.a) :: as))) H = hid (fun b => S b ∨ fp o b) H := fun H => hid_iff fun b => or_iff_left (nol b)
  have nfp : ∀ b u, H b = some u → (∀ xs, u ≠ .lst xs) → (∀ C d fs, u ≠ .ins C d fs) → (∀ y, u ≠ .own y) → ¬ fp o b := fun b u e n1 n2 n3 z => by
    rcases ob.cell z with ⟨_, e'⟩ | e' | ⟨_, e'⟩ <;> rw [e] at e'
    · exact n2 _ _ _ (Option.some.inj e')
    · exact n3 _ (Option.some.inj e')
    · exact n1 _ (Option.some.inj e')
  refine ⟨cls, rfl, nd, rfl, fun b z => hid_out z, fun b z => by rw [hid_in (dom b z).2]; exact (dom b z).1, fun b _ => nol b, fun b z => absurd z (nol b), ⟨hid_sub, fun P ⟨ps, e, t⟩ => ⟨ps, (of_hid e).2, t⟩, fun b n z => n ?_, fun P q _ t => t.ext fun b u e => (of_hid e).2⟩,
    by rw [eh]; exact Le.refl _, R0.len, tabs, fun j d h => ?_, fun j ds h => absurd h (no j ds), fun j k ds es b h => absurd h (no j ds), R0.val, fun j b φ h => ?_, scr, by rw [eh]; exact ob⟩
  · by_cases c : fp o b
    · exact hid_out c
    · rw [hid_in c]; exact z
  · obtain ⟨v, h1, h2⟩ := R0.pers j d h
    rw [eh2] at h2
    exact ⟨v, h1, by rw [eh]; exact h2⟩
  · obtain ⟨h1, h2⟩ := R0.trk j b φ h
    rw [eh2] at h2
    exact ⟨h1, by rw [eh]; exact h2⟩
theorem fnMw {P : Program} {w : World} {C : Cs} {base : Heap} {cl : Addr} {x qual : Str} {params : Arguments} {body : List Stmt} {scope : Scope} {q : He.Defn} {fd : FuncData} {N ps : List Str} {k n : Nat} {bd : SO}
    (F : FunD C.K x qual params body scope [] [] (He.fAd C.K q) fd) (S : FnScope N ps scope) (hn : ps.length = n)
    (hb : ∀ (A : Around) (outer : List Env) (s : Shared) (H : Hp) (E : XK), Room k (A.deeper (PyProof.Rows.envOfC qual scope s.heap.objs.size (He.fAd C.K q) (.ref (He.codeOf C.K q)))) →
      OSs (cxN P w C base N qual scope (He.fAd C.K q) (.ref (He.codeOf C.K q)) A outer s H E) C cl 0 body bd) :
    FnOk P w C.K C.mg base (L2.CX P w) (k + 1) (He.fAd C.K q) fd ps (spM C cl n (dRunO N.length bd)) := by
  subst hn
  refine fnM F S spM_len fun A outer s H E vs Q hr ⟨Sx, o, as, hn, cls, nd, dom, tabs, scr, ob, ok, hw⟩ => ?_
  refine ⟨_, hb A outer s H E hr, Sx, _, _, o.a, o, _, startO cls nd dom tabs scr ob ok, (bd (stp o) _).mono (fun r hr => ?_) (fun _ z => z) hw⟩
  have fresh : ∀ {o' : Ob}, (∀ b, fp o' b → hid (fp o) H b = none) → ∀ b, fp o' b → fp o b ∨ H b = none := fun h b z => by
    by_cases c : fp o b
    · exact .inl c
    · have := h b z
      rw [hid_in c] at this
      exact .inr this
  obtain ⟨r, os'⟩ := r
  cases r with
  | nx δ' =>
    intro o' σ' H' e R'
    have le : Le (hid (fun b => Sx b ∨ fp o' b ∨ ownl σ' δ' b) H') (hid (fun b => Sx b ∨ fp o' b) H') := hid_le (Le.refl _) fun b z => z.elim .inl fun z => .inr (.inl z)
    obtain ⟨vs', i1, i2, i3⟩ := R'.ob.ins
    exact hr o' .non H' R'.cls e R'.nd (fresh R'.fr) R'.gr ⟨⟨vs', i1, i2, i3.le le fun b xs h _ => h⟩, R'.ob.own⟩ .non
  | rt d =>
    intro o' v G c1 c2 c3 c4 c5 c6 c7 c8
    exact hr o' v G c1 c3 c4 (fresh c5) c6 c7 c8
  | bk δ' => exact hr.elim
  | ct δ' => exact hr.elim
theorem DMw.mk' {P : Program} {w : World} {C : Cs} {base : Heap} {cl : Addr} {m x qual : Str} {params : Arguments} {body : List Stmt} {scope : Scope} {q : He.Defn} {fd : FuncData} {N ps : List Str} {k n : Nat} {bd : SO}
    (c : Cls C.K cl) (hm : Meth C.K cl m (He.fAd C.K q)) (F : FunD C.K x qual params body scope [] [] (He.fAd C.K q) fd) (S : FnScope N ps scope) (hn : ps.length = n)
    (hbi : ∀ (kV doc pm : Value) (an : Option Addr) (cdv ct : Value) (us : List Value), us.length = ps.length → bindArgs (PySem.W.fnOf x qual params body scope .none kV doc pm an cdv ct) ⟨us, []⟩ = pure (ps.zip us))
    (hb : ∀ (A : Around) (outer : List Env) (s : Shared) (H : Hp) (E : XK), Room k (A.deeper (PyProof.Rows.envOfC qual scope s.heap.objs.size (He.fAd C.K q) (.ref (He.codeOf C.K q)))) →
      OSs (cxN P w C base N qual scope (He.fAd C.K q) (.ref (He.codeOf C.K q)) A outer s H E) C cl 0 body bd) :
    DMw P w C base cl m n (k + 1) (dRunO N.length bd) := ⟨_, fd, ps, c, hm, F.bindsN hbi, fnMw F S hn hb⟩
structure DMk (P : Program) (w : World) (C : Cs) (base : Heap) (x : Str) (cl : Addr) (n k : Nat) (F : Os → List Ar → Wp (D × Os)) : Prop where
  ex : ∃ (fa : Addr) (fd : FuncData) (ps : List Str), C.mg x = some (.ref cl) ∧ Mk C.K cl fa ∧ Binds C.K fd ps [] ∧ FnOk P w C.K C.mg base (L2.CX P w) k fa fd ps (spM C cl n F)
end Tr

namespace Tr
open PySem PySem.Spec L2
variable [ProtC]
section
variable {C : Cs} {cl : Addr} {i : Nat} {S0 : Addr → Prop} {H0 Pb : Hp} {a : Addr} {o o' : Ob} {σ : St} {H G : Hp} {δ : De}
theorem RepO.nfp (R : RepO C cl i S0 H0 Pb a o σ H δ) : ∀ b u, H b = some u → (∀ xs, u ≠ .lst xs) → (∀ C d fs, u ≠ .ins C d fs) → (∀ y, u ≠ .own y) → ¬ fp o b := fun b u e n1 n2 n3 z => by
  rcases R.ob.cell z with ⟨_, e'⟩ | e' | ⟨_, e'⟩ <;> rw [e] at e'
  · exact n2 _ _ _ (Option.some.inj e')
  · exact n3 _ (Option.some.inj e')
  · exact n1 _ (Option.some.inj e')
theorem RepO.g0 (R : RepO C cl i S0 H0 Pb a o σ H δ) : Grow H0 (hid (fp o) H) := by
  refine ⟨fun b u e n => ?_, fun P t => ?_, fun b n => ?_, fun P q hp t => ?_⟩
  · rw [hid_in fun z => by rw [R.fr b z] at e; cases e]
    exact R.gr.le b u e n
  · obtain ⟨ps, e, tr⟩ := R.gr.tb P t
    refine ⟨ps, ?_, tr⟩
    rw [hid_in (R.nfp P _ e (fun _ z => by cases z) (fun _ _ _ z => by cases z) fun _ z => by cases z)]
    exact e
  · rw [hid_in fun z => n (R.fr b z)]
    exact R.gr.dm b n
  · refine TabS.ext2 (R.gr.pr P q hp t) fun b u e n1 n2 n3 _ => ?_
    rw [hid_in (R.nfp b u e n1 n2 n3)]
    exact e
theorem RepO.call (R : RepO C cl i S0 H0 Pb a o σ H δ) (cls : o'.C = cl) (at_ : o'.a = a) (nd : (lsts o'.st).Nodup) (own' : ∀ b, fp o' b → fp o b ∨ H b = none) (g : Grow (hid (fp o) H) G)
    (ob : ObV C.K (hid (fun b => (S0 b ∨ ownl σ δ b) ∨ fp o' b) G) G o') : RepO C cl i S0 H0 Pb a o' σ G δ := by
  have eh : hid (fun b => (S0 b ∨ ownl σ δ b) ∨ fp o' b) G = hid (fun b => S0 b ∨ fp o' b ∨ ownl σ δ b) G := hid_iff fun b => by
    constructor
    · rintro ((z | z) | z)
      · exact .inl z
      · exact .inr (.inr z)
      · exact .inr (.inl z)
    · rintro (z | z | z)
      · exact .inl (.inl z)
      · exact .inr z
      · exact .inl (.inr z)
  rw [eh] at ob
  have keep : ∀ b u, ¬ fp o b → H b = some u → (∀ ps, u ≠ .tbl ps) → G b = some u := fun b u h e n => g.le b u (by rw [hid_in h]; exact e) n
  have leH : Le (hid (fun b => S0 b ∨ fp o b ∨ ownl σ δ b) H) (hid (fun b => S0 b ∨ fp o' b ∨ ownl σ δ b) G) := fun b u e n => by
    obtain ⟨h1, h2⟩ := of_hid e
    rw [hid_in]
    · exact keep b u (fun z => h1 (.inr (.inl z))) h2 n
    · rintro (z | z | z)
      · exact h1 (.inl z)
      · rcases own' b z with z | z
        · exact h1 (.inr (.inl z))
        · rw [z] at h2; cases h2
      · exact h1 (.inr (.inr z))
  have tb : ∀ P, GxR.TabG H P → GxR.TabG G P := fun P t => by
    obtain ⟨qs, e, tr⟩ := t
    exact g.tb P ⟨qs, by rw [hid_in (R.nfp P _ e (fun _ z => by cases z) (fun _ _ _ z => by cases z) fun _ z => by cases z)]; exact e, tr⟩
  refine ⟨cls, at_, nd, R.sl, fun b z => ?_, R.s0, fun b z z2 => ?_, R.fo, R.g0.trans g, R.ph.trans leH, R.len, fun P hP => tb P (R.tabs P hP), fun j d h => ?_, fun j ds h => ?_, R.uniq, R.val, fun j c φ h => ?_, R.scr, ob⟩
  · rcases own' b z with z | z
    · exact R.fr b z
    · cases e : H0 b with
      | none => rfl
      | some u => exact absurd z (R.gr.dm b (by rw [e]; exact fun z => nomatch z))
  · rcases own' b z with z | z
    · exact R.dj b z z2
    · obtain ⟨xs, e, _⟩ := R.ol z2
      rw [z] at e; cases e
  · obtain ⟨v, h1, h2⟩ := R.pers j d h
    exact ⟨v, h1, Le.dp leH d v h2⟩
  · obtain ⟨c, xs, h1, h2, h3⟩ := R.own j ds h
    exact ⟨c, xs, h1, keep c _ (fun z => R.dj c z ⟨j, ds, h, h1⟩) h2 h3.nt, h3.le leH⟩
  · obtain ⟨h1, h2⟩ := R.trk j c φ h
    exact ⟨h1, leH c _ h2 fun ps z => by cases z⟩
theorem RepO.drop (hob : C.ob = none) (R : RepO C cl i S0 H0 Pb a o σ H δ) : Rep (C.bx S0 H0) Pb σ H δ := by
  have le : Le (hid (fun b => S0 b ∨ fp o b ∨ ownl σ δ b) H) (hid (Own (C.bx S0 H0) σ δ) H) := hid_le (Le.refl _) fun b z => z.elim .inl fun z => .inr (.inr z)
  refine ⟨R.ph.trans le, R.len, R.gr, R.s0, R.tabs, fun j d h => ?_, fun j ds h => ?_, R.uniq, R.val, fun j c φ h => ?_, ⟨R.scr.1, R.scr.2, fun o ho => ?_⟩⟩
  · obtain ⟨v, h1, h2⟩ := R.pers j d h
    exact ⟨v, h1, Le.dp le d v h2⟩
  · obtain ⟨c, xs, h1, h2, h3⟩ := R.own j ds h
    exact ⟨c, xs, h1, h2, R.fo c ⟨j, ds, h, h1⟩, h3.le le⟩
  · obtain ⟨h1, h2⟩ := R.trk j c φ h
    exact ⟨h1, le c _ h2 fun ps z => by cases z⟩
  · have ho : C.ob = some o := ho
    rw [hob] at ho
    cases ho
end
def oMethQ (m : Str) (n : Nat) (F : Os → List Ar → Wp (D × Os)) (r : Os → AF) (os : Os) (δ : De) : Wp (D × Os) := .need (os.at_.lookup m = none) ((r os δ).bind fun as => .need (as.length + 1 = n) ((F os as).bind fun q => .need (q.2.a = os.a) (.pure q)))
end Tr

namespace Tr
open PySem PySem.Spec L2
variable [ProtC]
def oNewQ (n : Nat) (Fi : Os → List Ar → Wp (D × Os)) (as : List Ar) : Wp Os := .need (as.length + 1 = n) ((Wp.any fun _ : Addr => True).bind fun a => (Fi ⟨a, []⟩ as).bind fun q => .need (q.1 = .none ∧ q.2.a = a) (.pure q.2))
section
variable {X : Cx} {C : Cs} {cl : Addr} {i : Nat} {pos p pc p2 apos : Pos} {e : Expr} {es : List Expr} {m x cn : Str} {n k k' : Nat} {Fi : Os → List Ar → Wp (D × Os)} {r : AF} {rest : List Stmt} {W : WX} {G : SO}
structure NewAt (C : Cs) (cl : Addr) (S : Addr → Prop) (H G : Hp) (o : Ob) : Prop where
  cls : o.C = cl
  nd : (lsts o.st).Nodup
  fresh : ∀ b, fp o b → H b = none
  gr : Grow H G
  ob : ObV C.K (hid (fun b => S b ∨ fp o b) G) G o
theorem NewAt.base {S : Addr → Prop} {H H1 G : Hp} {o : Ob} (h : NewAt C cl S H1 G o) (g : Grow H H1) : NewAt C cl S H G o := ⟨h.cls, h.nd, fun b z => g.free (h.fresh b z), g.trans h.gr, h.ob⟩
def nNew (n : Nat) (Fi : Os → List Ar → Wp (D × Os)) (r : AF) : De → Wp Os := fun δ => (r δ).bind (oNewQ n Fi)
def spB (C : Cs) (cl : Addr) (n : Nat) (F : List Ar → Wp Os) : Sp := fun vs H Q E => ∃ (S : Addr → Prop) (as : List Ar), as.length = n ∧ (∀ b, S b → H b ≠ none) ∧ (∀ P ∈ C.T, GxR.TabG H P) ∧ Scr C S H ∧ ArsOk C.K (hid S H) vs as ∧
  (F as).run (fun os => ∀ o G, stp o = os → NewAt C cl S H G o → Q (.ref o.a) G) fun _ => False
theorem spB_len {n : Nat} {F : List Ar → Wp Os} : ∀ vs H Q E, spB C cl n F vs H Q E → vs.length = n := fun vs H Q E ⟨S, as, h1, _, _, _, h2, _⟩ => h2.len.trans h1
structure DnB (P : Program) (w : World) (C : Cs) (base : Heap) (x : Str) (cl : Addr) (n k : Nat) (F : List Ar → Wp Os) : Prop where
  ex : ∃ (fa : Addr) (fd : FuncData) (ps : List Str), C.mg x = some (.ref fa) ∧ PySem.W.keepIn C.K (.ref fa) = true ∧ Binds C.K fd ps [] ∧ FnOk P w C.K C.mg base (L2.CX P w) k fa fd ps (spB C cl n F)
def nCall (n : Nat) (F : List Ar → Wp Os) (r : AF) : De → Wp Os := fun δ => (r δ).bind fun as => .need (as.length = n) (F as)
def DSsB (X : Cx) (C : Cs) (cl : Addr) (sts : List Stmt) (F : De → Wp Os) : Prop :=
  ∃ t, PSs X sts t ∧ ∀ S0 H0 Pb σ H δ E, Rep (C.bx S0 H0) Pb σ H δ → (F δ).run (fun os => ∀ o G, stp o = os → NewAt C cl S0 H0 G o → E.rt (.ref o.a) G) (fun _ => False) → t E σ H
def bSeq (F : SF) (G : De → Wp Os) : De → Wp Os := fun δ => (F δ).bind fun r => match r with
  | .nx δ' => G δ'
  | _ => .stuck
def bFz (i : Nat) (G : De → Wp Os) : De → Wp Os := fun δ => G (fz i δ)
def dObjM (f : De → Wp Os) (m : Str) (Fm : Os → List Ar → Wp (D × Os)) : DF := fun δ => ((f δ).bind fun os => .need (os.at_.lookup m = none) ((Fm os []).bind fun q => .pure q.1)).nox
end
def bRun (m : Nat) (bd : De → Wp Os) : List Ar → Wp Os := fun as => bd (dStart m as)
theorem DnB.mk' {P : Program} {w : World} {C : Cs} {base : Heap} {cl : Addr} {x qual : Str} {params : Arguments} {body : List Stmt} {scope : Scope} {fd : FuncData} {N ps : List Str} {k n : Nat} {bd : De → Wp Os}
    (F : FunD C.K x qual params body scope [] [] (He.fAd C.K (x, none)) fd) (S : FnScope N ps scope) (hg : C.mg x = some (.ref (He.fAd C.K (x, none)))) (hn : ps.length = n)
    (hbi : ∀ (kV doc pm : Value) (an : Option Addr) (cdv ct : Value) (us : List Value), us.length = ps.length → bindArgs (PySem.W.fnOf x qual params body scope .none kV doc pm an cdv ct) ⟨us, []⟩ = pure (ps.zip us))
    (hb : ∀ (A : Around) (outer : List Env) (s : Shared) (H : Hp) (E : XK), Room k (A.deeper (PyProof.Rows.envOfC qual scope s.heap.objs.size (He.fAd C.K (x, none)) (.ref (He.codeOf C.K (x, none))))) →
      DSsB (cxN P w C base N qual scope (He.fAd C.K (x, none)) (.ref (He.codeOf C.K (x, none))) A outer s H E) C cl body bd) :
    DnB P w C base x cl n (k + 1) (bRun N.length bd) := by
  subst hn
  refine ⟨_, fd, ps, hg, F.kp, F.bindsN hbi, fnM F S spB_len fun A outer s H E vs Q hr ⟨Sx, as, hn, dom, tabs, scr, ok, hw⟩ => ?_⟩
  obtain ⟨t, p, qq⟩ := hb A outer s H E hr
  exact ⟨t, p, qq Sx H (hid Sx H) (L2.start N vs) H (dStart N.length as) _ (start_rep dom tabs scr ok) ((bd (dStart N.length as)).mono (fun os h o G e1 N => h o G e1 N) (fun _ z => z) hw)⟩
theorem DMk.mk' {P : Program} {w : World} {C : Cs} {base : Heap} {cl : Addr} {cn x qual : Str} {params : Arguments} {body : List Stmt} {scope : Scope} {q : He.Defn} {fd : FuncData} {N ps : List Str} {k n : Nat} {bd : SO}
    (hm : C.mg cn = some (.ref cl)) (mk : Mk C.K cl (He.fAd C.K q)) (F : FunD C.K x qual params body scope [] [] (He.fAd C.K q) fd) (S : FnScope N ps scope) (hn : ps.length = n)
    (hbi : ∀ (kV doc pm : Value) (an : Option Addr) (cdv ct : Value) (us : List Value), us.length = ps.length → bindArgs (PySem.W.fnOf x qual params body scope .none kV doc pm an cdv ct) ⟨us, []⟩ = pure (ps.zip us))
    (hb : ∀ (A : Around) (outer : List Env) (s : Shared) (H : Hp) (E : XK), Room k (A.deeper (PyProof.Rows.envOfC qual scope s.heap.objs.size (He.fAd C.K q) (.ref (He.codeOf C.K q)))) →
      OSs (cxN P w C base N qual scope (He.fAd C.K q) (.ref (He.codeOf C.K q)) A outer s H E) C cl 0 body bd) :
    DMk P w C base cn cl n (k + 1) (dRunO N.length bd) := ⟨_, fd, ps, hm, mk, F.bindsN hbi, fnMw F S hn hb⟩
end Tr

namespace Tr
open PySem PySem.Spec L2
variable [ProtC]
structure LamS1 (sc scope : Scope) (x : Str) : Prop where
  kind : scope.kind = .function
  co : scope.isCoroutine = false
  gen : scope.isGenerator = false
  own : ∀ y ∈ scope.names, y.2 ≠ .cell ∧ (y.2 = .local → y.1 = x)
  par : scope.names.lookup x = some .local
  free : ∀ y ∈ scope.names, y.2 = .free → sc.names.lookup y.1 = some .cell ∨ sc.names.lookup y.1 = some .free
theorem LamS1.has {X : Cx} {scope : Scope} {x : Str} (L : LamS1 X.env.scope scope x) (ok : X.Ok) : ∀ y ∈ scope.names, y.2 = .free → ∃ c, X.env.cells.lookup y.1 = some c := fun y hy e => by
  rcases L.free y hy e with k | k
  · exact ok.has _ (.inl k)
  · exact ok.has _ (.inr k)
end Tr

namespace Tr
open PySem PySem.Spec L2 PyProof.Rows
variable [ProtC]
def KL (K : PySem.W.Frag) (ok : Hp → Prop) (tb : TE) (i : Nat) (σ : L2.St) (Q : VK) : List V → V → V → Hp → Prop
  | [], b, _, H => ok H ∧ Q b H
  | x :: r, b, kb, H => ok H ∧ tb (σ.set i (some x)) H fun k H' => ok H' ∧ ∃ dk db, L2.Dp K H' k dk ∧ L2.Dp K H' kb db ∧ PySem.W.alike dk db = true ∧ dk ≠ .none ∧ min dk.depth db.depth ≤ 60 ∧
      if PySem.W.dataLt dk db then KL K ok tb i σ Q r x k H' else KL K ok tb i σ Q r b kb H'
theorem KL.ok {K : PySem.W.Frag} {ok : Hp → Prop} {tb : TE} {i : Nat} {σ : L2.St} {Q : VK} {r : List V} {b kb : V} {H : Hp} (h : KL K ok tb i σ Q r b kb H) : ok H := by
  cases r with
  | nil => exact h.1
  | cons x r => exact h.1
end Tr

namespace Tr
open PySem PySem.Spec L2
variable [ProtC]
def isO : Option Sl → Bool
  | some (.own _) => true
  | _ => false
end Tr

namespace Tr
open PySem PySem.Spec PyProof.Rows L2
variable [ProtC]
def zip3D : List D → List D → List D → List D
  | d :: ds, e :: es, f :: fs => .tuple [d, e, f] :: zip3D ds es fs
  | _, _, _ => []
def iZ3D (f g m : DF) : De → Wp (List D) := fun δ => (f δ).bind fun d => (g δ).bind fun e => (m δ).bind fun l => (seqD d).bind fun ds => (seqD e).bind fun es => (seqD l).bind fun fs => .pure (zip3D ds es fs)
@[simp] theorem rw_iZ3D {f g m : DF} {δ : De} : iZ3D f g m δ = (f δ).bind fun d => (g δ).bind fun e => (m δ).bind fun l => (seqD d).bind fun ds => (seqD e).bind fun es => (seqD l).bind fun fs => .pure (zip3D ds es fs) := rfl
end Tr

namespace Tr
open PySem PySem.Spec L2
variable [ProtC]
section
variable {C : Cs} {cl : Addr} {i : Nat} {S0 : Addr → Prop} {H0 Pb : Hp} {a : Addr} {o : Ob} {σ : St} {H : Hp} {δ : De}
theorem RepO.fz (R : RepO C cl i S0 H0 Pb a o σ H δ) {j : Nat} {ds : List D} (hd : δ[j]? = some (Sl.o ds)) : RepO C cl i S0 H0 Pb a o σ H (δ.set j (.p (.list ds))) := by
  refine R.up (R.down.fz hd) ?_
  rw [List.getElem?_set_ne]
  · exact R.sl
  · rintro rfl
    rw [R.sl] at hd
    cases hd
end
section
variable {X : Cx} {C : Cs} {cl : Addr} {i : Nat} {sts : List Stmt} {F : SO}
def oFz (j : Nat) (F : SO) : SO := fun os δ => F os (fz j δ)
end
theorem prot_np {tg : List Addr} {tl : List (Addr × Str)} (h : (tg ++ tl.map (·.1)).Nodup) : ∀ P ∈ tg, ∀ q, ¬ (P, q) ∈ tl := fun P hP q hq => by
  have := (List.nodup_append.mp h).2.2 P hP P (List.mem_map_of_mem (f := (·.1)) hq)
  exact this rfl
theorem prot_u {tl : List (Addr × Str)} (h : (tl.map (·.1)).Nodup) {P : Addr} {q0 : Str} (m : (P, q0) ∈ tl) : ∀ q, (P, q) ∈ tl → q = q0 := by
  induction tl with
  | nil => cases m
  | cons t tl ih =>
    intro q hq
    rw [List.map_cons, List.nodup_cons] at h
    rcases List.mem_cons.mp m with rfl | m1
    · rcases List.mem_cons.mp hq with e | hq
      · exact (Prod.mk.inj e).2
      · exact absurd (show P ∈ tl.map (·.1) from List.mem_map_of_mem (f := (·.1)) hq) h.1
    · rcases List.mem_cons.mp hq with rfl | hq1
      · exact absurd (show P ∈ tl.map (·.1) from List.mem_map_of_mem (f := (·.1)) m1) h.1
      · exact ih h.2 m1 q hq1
end Tr

namespace Tr
open PySem PySem.Spec PyProof.Rows L2
variable [ProtC]
def intOf : D → Wp Int
  | .int i => .pure i
  | _ => .stuck
def gRg1 (f : DF) : De → Wp (Int × Int) := fun δ => (f δ).bind fun d => (intOf d).bind fun n => .pure (0, n)
def gRg2 (f g : DF) : De → Wp (Int × Int) := fun δ => (f δ).bind fun d => (g δ).bind fun e => (intOf d).bind fun i => (intOf e).bind fun j => .pure (i, j)
section
variable {X : Cx} {C : Cs} {W : WX} {pos p : Pos} {e a b : Expr} {es : List Expr} {f g : DF} {r : AF} {fr : De → Wp (Int × Int)}
def nRg (fr : De → Wp (Int × Int)) : De → Wp (List D) := fun δ => (fr δ).bind fun p => .need (RgOk p.1 p.2) (.pure (rgD p.1 (p.2 - p.1).toNat))
def nLstOf (f : DF) : De → Wp (List D) := fun δ => (f δ).bind seqD
def aStarRg (fr : De → Wp (Int × Int)) (r : AF) : AF := fun δ => (fr δ).bind fun p => .need (RgOk p.1 p.2) ((r δ).bind fun as => .pure ((rgD p.1 (p.2 - p.1).toNat).map Ar.d ++ as))
end
section
variable {δ : De} {f g : DF} {r : AF} {fr : De → Wp (Int × Int)}
@[simp] theorem rw_gRg1 : gRg1 f δ = (f δ).bind fun d => (intOf d).bind fun n => .pure (0, n) := rfl
@[simp] theorem rw_gRg2 : gRg2 f g δ = (f δ).bind fun d => (g δ).bind fun e => (intOf d).bind fun i => (intOf e).bind fun j => .pure (i, j) := rfl
@[simp] theorem rw_intOf {i : Int} : intOf (.int i) = .pure i := rfl
@[simp] theorem rw_nRg : nRg fr δ = (fr δ).bind fun p => .need (RgOk p.1 p.2) (.pure (rgD p.1 (p.2 - p.1).toNat)) := rfl
@[simp] theorem rw_nLstOf : nLstOf f δ = (f δ).bind seqD := rfl
@[simp] theorem rw_aStarRg : aStarRg fr r δ = (fr δ).bind fun p => .need (RgOk p.1 p.2) ((r δ).bind fun as => .pure ((rgD p.1 (p.2 - p.1).toNat).map Ar.d ++ as)) := rfl
end
end Tr

namespace Tr
open PySem PySem.Spec PyProof.Rows L2
variable [ProtC]
section
variable {A : Type} {k : Out × Os → Prop} {w : Exn → Prop} {δ : De} {i j : Nat} {f : Str} {g h : Os → DF} {F G : SO} {os : Os} {l : De → Wp (List D)} {m : DF} {d : D}
@[simp] theorem rw_oL {H : Os → SF} : oL i H os δ = (H os δ).bind fun r => match r with
  | .nx δ' => .need (δ'[i]? = δ[i]?) (.pure (.nx δ', os))
  | .rt d => .pure (.rt d, os)
  | .bk δ' => .need (δ'[i]? = δ[i]?) (.pure (.bk δ', os))
  | .ct δ' => .need (δ'[i]? = δ[i]?) (.pure (.ct δ', os)) := rfl
@[simp] theorem rw_oSeq : oSeq F G os δ = (F os δ).bind fun r => match r with
  | (.nx δ', os') => G os' δ'
  | r => .pure r := rfl
@[simp] theorem rw_oFz : oFz i F os δ = F os (fz i δ) := rfl
@[simp] theorem rw_oNil : oNil os δ = .pure (.nx δ, os) := rfl
@[simp] theorem rw_oIf {t : Os → TF} : oIf t F G os δ = (t os δ).bind fun b => if b then F os δ else G os δ := rfl
@[simp] theorem rw_oSetA : oSetA f g os δ = (g os δ).bind fun d => .need ((os.put f (.d d)).at_.length < 900) (.pure (.nx δ, os.put f (.d d))) := rfl
@[simp] theorem rw_oSetL {gl : Os → De → Wp (List D)} : oSetL f gl os δ = (gl os δ).bind fun ds => .need ((os.put f (.o ds)).at_.length < 900) (.pure (.nx δ, os.put f (.o ds))) := rfl
@[simp] theorem rw_oMov : oMov f j os δ = (slotO δ[j]?).bind fun ds => .need ((os.put f (.o ds)).at_.length < 900) (.pure (.nx (δ.set j .non), os.put f (.o ds))) := rfl
@[simp] theorem rw_oSetIx : oSetIx f g h os δ = (h os δ).bind fun d => (lOf (os.at_.lookup f)).bind fun ds => (g os δ).bind fun k => (asI1 k).bind fun k => (optW (ixN ds.length k)).bind fun j => .pure (.nx δ, os.put f (.o (ds.set j d))) := rfl
@[simp] theorem rw_oApp : oApp f g os δ = (lOf (os.at_.lookup f)).bind fun ds => (g os δ).bind fun d => .need (ds.length < sizeLine) (.pure (.nx δ, os.put f (.o (ds ++ [d])))) := rfl
@[simp] theorem rw_oFor {fi : Os → De → Wp (List D)} {q : BF} : oFor i fi q F os δ = (fi os δ).bind fun ds => oLoop i q F ds os δ := rfl
@[simp] theorem rw_oLoop0 {q : BF} : oLoop i q F [] os δ = .pure (.nx δ, os) := rfl
@[simp] theorem rw_lOf {ds : List D} : lOf (some (.o ds)) = .pure ds := rfl
@[simp] theorem rw_dFld : dFld i f os δ = .need (δ[i]? = some (.v (.ref os.a))) (match os.at_.lookup f with
  | some (.d d) => .pure d
  | _ => .stuck) := rfl
@[simp] theorem rw_lFld : lFld i f os δ = .need (δ[i]? = some (.v (.ref os.a))) (match os.at_.lookup f with
  | some (.o ds) => .pure ds
  | _ => .stuck) := rfl
@[simp] theorem rw_dIxL : dIxL l m δ = (l δ).bind fun ds => (m δ).bind fun k => (asI1 k).bind fun k => optW (atI ds k) := rfl
@[simp] theorem rw_dLenL : dLenL l δ = (l δ).bind fun ds => .pure (.int ds.length) := rfl
@[simp] theorem rw_iEnA : iEnA l δ = (l δ).bind fun ds => .pure (enD ds) := rfl
@[simp] theorem rw_dMethR {n : Nat} {M : Os → List Ar → Wp D} {r : AF} : dMethR i f n M os r δ = .need (δ[i]? = some (.v (.ref os.a)) ∧ os.at_.lookup f = none) ((r δ).bind fun as => .need (as.length + 1 = n) (M os (.v (.ref os.a) :: as)).nox) := rfl
@[simp] theorem rw_oMethQ {n : Nat} {M : Os → List Ar → Wp (D × Os)} {r : Os → AF} : oMethQ f n M r os δ = .need (os.at_.lookup f = none) ((r os δ).bind fun as => .need (as.length + 1 = n) ((M os as).bind fun q => .need (q.2.a = os.a) (.pure q))) := rfl
@[simp] theorem rw_dRunO {n : Nat} {as : List Ar} : dRunO n F os as = (F os (dStart n (.v (.ref os.a) :: as))).bind fun r => match r with
  | (.rt d, os') => .pure (d, os')
  | (.nx _, os') => .pure (.none, os')
  | _ => .stuck := rfl
end
section
variable {k : Os → Prop} {w : Exn → Prop} {δ : De} {i n : Nat} {F : SF} {G : De → Wp Os} {r : AF}
@[simp] theorem rw_bSeq : bSeq F G δ = (F δ).bind fun r => match r with
  | .nx δ' => G δ'
  | _ => .stuck := rfl
@[simp] theorem rw_bFz : bFz i G δ = G (fz i δ) := rfl
@[simp] theorem rw_bRun {as : List Ar} : bRun n G as = G (dStart n as) := rfl
@[simp] theorem rw_nNew {Fi : Os → List Ar → Wp (D × Os)} : nNew n Fi r δ = (r δ).bind (oNewQ n Fi) := rfl
@[simp] theorem rw_nCall {M : List Ar → Wp Os} : nCall n M r δ = (r δ).bind fun as => .need (as.length = n) (M as) := rfl
@[simp] theorem rw_oNewQ {Fi : Os → List Ar → Wp (D × Os)} {as : List Ar} : oNewQ n Fi as = .need (as.length + 1 = n) ((Wp.any fun _ : Addr => True).bind fun a => (Fi ⟨a, []⟩ as).bind fun q => .need (q.1 = .none ∧ q.2.a = a) (.pure q.2)) := rfl
@[simp] theorem rw_dObjM {f : De → Wp Os} {m : Str} {Fm : Os → List Ar → Wp (D × Os)} : dObjM f m Fm δ = ((f δ).bind fun os => .need (os.at_.lookup m = none) ((Fm os []).bind fun q => .pure q.1)).nox := rfl
end
end Tr

namespace Tr
open PySem PySem.Spec L2
variable [ProtC]
end Tr

namespace Tr
open PySem PySem.Spec L2
variable [ProtC]
def addL : D → D → Wp (List D)
  | .list xs, .list ys => .need (xs.length + ys.length ≤ sizeLine) (.pure (xs ++ ys))
  | _, _ => .stuck
def nAddL (f g : DF) : De → Wp (List D) := fun δ => (f δ).bind fun d => (g δ).bind fun e => addL d e
section
variable {X : Cx} {C : Cs} {W : WX} {pos : Pos} {a b : Expr} {f g : DF}
theorem dn_addL (hK : C.K = X.K) (ha : DE X C W a f) (hb : DE X C W b g) : DN X C W (.BinOp a .Add b pos) (nAddL f g) := by
  obtain ⟨ta, pa, qa⟩ := ha
  obtain ⟨tb, pb, qb⟩ := hb
  refine ⟨_, pe_op (r := rCatL X.K) op_catL pa pb, fun S0 H0 Pb σ H δ Q R h => qa S0 H0 Pb σ H δ _ R ((f δ).mono (fun d h x H1 g1 dx => ?_) (fun _ z => z) h)⟩
  refine qb S0 H0 Pb σ H1 δ _ (R.gr g1) ((g δ).mono (fun e h y H2 g2 dy => ?_) (fun _ z => z.gr g1) h)
  have dx' := Le.dp (hid_le g2.le fun _ z => z) d x dx
  change (addL d e).run _ _ at h
  unfold addL at h
  rw [← hK]
  split at h
  · cases dx' with
    | lst s1 a1 =>
      cases dy with
      | lst s2 a2 =>
        obtain ⟨hl, hk⟩ := h
        refine ⟨_, _, _, _, rfl, rfl, Le.sqL hid_sub s1, Le.sqL hid_sub s2, by rw [dps_len a1, dps_len a2]; exact hl, fun p na => ?_⟩
        have g3 := g1.trans g2
        refine hk p _ _ (g3.trans (Grow.new na)) (g3.free na) upd_same (Le.dps (fun b u e n => ?_) _ _ (dps_app a1 a2))
        obtain ⟨h4, h5⟩ := of_hid e
        have nb : b ≠ p := ne_of_none h5 na
        rw [hid_in, upd_ne nb]
        · exact h5
        · exact fun z => z.elim h4 nb
  · exact h.elim
end
@[simp] theorem rw_addLL {xs ys : List D} : addL (.list xs) (.list ys) = .need (xs.length + ys.length ≤ sizeLine) (.pure (xs ++ ys)) := rfl
@[simp] theorem rw_nAddL {f g : DF} {δ : De} : nAddL f g δ = (f δ).bind fun d => (g δ).bind fun e => addL d e := rfl
@[simp] theorem rw_intB {b : Bool} : bInt [.bool b] = .pure (.int (if b then 1 else 0)) := rfl
end Tr

namespace Tr
open PySem PySem.Spec L2 PyProof.Rows
variable [ProtC]
def KS (ok : Hp → Prop) (tb : TE) (i : Nat) (σ : L2.St) (Q : List Int → Hp → Prop) : List V → List Int → Hp → Prop
  | [], ks, H => ok H ∧ Q ks H
  | x :: r, ks, H => ok H ∧ tb (σ.set i (some x)) H fun k H' => ∃ n, k = V.int n ∧ KS ok tb i σ Q r (ks ++ [n]) H'
theorem KS.ok {ok : Hp → Prop} {tb : TE} {i : Nat} {σ : L2.St} {Q : List Int → Hp → Prop} {r : List V} {ks : List Int} {H : Hp} (h : KS ok tb i σ Q r ks H) : ok H := by
  cases r with
  | nil => exact h.1
  | cons x r => exact h.1
def skL {α : Type} (xs : List α) (ks : List Int) : List α := ((xs.zip ks).mergeSort (PySem.W.dataLe false fun p => PyData.int p.2)).map (·.1)
def sortFin (ds : List D) (ks : List Int) : D := .list (skL ds ks)
def skLoop (f : DF) (i : Nat) (δ : De) (ds : List D) : List D → List Int → Wp D
  | [], ks => .pure (sortFin ds ks)
  | x :: r, ks => (f (δ.set i (.p x))).nox.bind fun k => (asI1 k).bind fun n => skLoop f i δ ds r (ks ++ [n])
def dSortK (i : Nat) (fx : DF) (f : DF) : DF := fun δ => (fx δ).bind fun d => (lstD d).bind fun ds => .need (isO δ[i]? = false) (skLoop f i δ ds ds [])
section
variable {X : Cx} {C : Cs} {W : WX} {x y : Str} {p pos lpos kpos : Pos} {e body : Expr} {params : Arguments} {scope : Scope} {fx f : DF} {k i : Nat} {c P : Addr}
@[simp] theorem rw_dSortK : dSortK i fx f δ = (fx δ).bind fun d => (lstD d).bind fun ds => .need (isO δ[i]? = false) (skLoop f i δ ds ds []) := rfl
end
end Tr

namespace Tr
open PySem PySem.Spec PyProof.Rows L2 Srt SrtO
variable [ProtC]
def dSortSet (f : DF) : DF := fun δ => (f δ).bind fun d => (lstD d).bind fun ds => (optW (tupsD ds)).bind fun nss => .need ((∀ ns ∈ nss, ns ≠ []) ∧ nss.length < 64)
  ((Wp.any fun (ms : List (List Int)) => ms.Nodup ∧ (∀ y, y ∈ ms ↔ y ∈ nss) ∧ ms.Pairwise (fun x y => TrS.lexT y x = false)).bind fun ms => .pure (.list (ms.map tupI)))
section
variable {X : Cx} {C : Cs} {W : WX} {p p2 pos pos2 : Pos} {e : Expr} {f : DF} {k : Nat}
@[simp] theorem rw_dSortSet {δ : De} : dSortSet f δ = (f δ).bind fun d => (lstD d).bind fun ds => (optW (tupsD ds)).bind fun nss => .need ((∀ ns ∈ nss, ns ≠ []) ∧ nss.length < 64)
  ((Wp.any fun (ms : List (List Int)) => ms.Nodup ∧ (∀ y, y ∈ ms ↔ y ∈ nss) ∧ ms.Pairwise (fun x y => TrS.lexT y x = false)).bind fun ms => .pure (.list (ms.map tupI))) := rfl
end
end Tr

namespace Tr
open PySem PySem.Spec L2
variable [ProtC]
end Tr

namespace Tr
open PySem PySem.Spec L2
open PyProof.Rows
variable [ProtC]
inductive Src where
  | d (f : DF)
  | o (f : De → Wp (List D))
def srcW : List Src → De → Wp (List Sl)
  | [], _ => .pure []
  | .d f :: r, δ => (f δ).bind fun d => (srcW r δ).bind fun ss => .pure (.p d :: ss)
  | .o fl :: r, δ => (fl δ).bind fun ds => (srcW r (dWipe δ [])).nox.bind fun ss => .pure (.o ds :: ss)
def stG : List Nat → List Sl → De → De
  | i :: is, s :: ss, δ => stG is ss (δ.set i s)
  | _, _, δ => δ
def sParG (is : List Nat) (ss : List Src) : SF := fun δ => (srcW ss δ).bind fun sl => .pure (.nx (stG is sl δ))
@[simp] theorem rw_parG {is : List Nat} {ss : List Src} {δ : De} : sParG is ss δ = (srcW ss δ).bind fun sl => .pure (.nx (stG is sl δ)) := rfl
@[simp] theorem rw_src0 {δ : De} : srcW [] δ = .pure [] := rfl
@[simp] theorem rw_srcD {f : DF} {r : List Src} {δ : De} : srcW (.d f :: r) δ = (f δ).bind fun d => (srcW r δ).bind fun ss => .pure (.p d :: ss) := rfl
@[simp] theorem rw_srcO {f : De → Wp (List D)} {r : List Src} {δ : De} : srcW (.o f :: r) δ = (f δ).bind fun ds => (srcW r (dWipe δ [])).nox.bind fun ss => .pure (.o ds :: ss) := rfl
@[simp] theorem rw_stG0 {ss : List Sl} {δ : De} : stG [] ss δ = δ := rfl
@[simp] theorem rw_stG1 {i : Nat} {is : List Nat} {s : Sl} {ss : List Sl} {δ : De} : stG (i :: is) (s :: ss) δ = stG is ss (δ.set i s) := rfl
end Tr

namespace Tr
open PySem PySem.Spec L2
variable [ProtC]
@[simp] theorem ty_tuple_dict : isTy "tuple" (.dict []) = some false := by show kitB "dict" "tuple" = _; decide +kernel
@[simp] theorem ty_list_dict : isTy "list" (.dict []) = some false := by show kitB "dict" "list" = _; decide +kernel
@[simp] theorem ty_int_dict : isTy "int" (.dict []) = some false := by show kitB "dict" "int" = _; decide +kernel
@[simp] theorem ty_bool_dict : isTy "bool" (.dict []) = some false := by show kitB "dict" "bool" = _; decide +kernel
@[simp] theorem ty_str_dict : isTy "str" (.dict []) = some false := by show kitB "dict" "str" = _; decide +kernel
end Tr

namespace Tr
open PySem PySem.Spec L2
variable [ProtC]
end Tr

namespace Tr
open PySem PySem.Spec L2
variable [ProtC]
def rgDn (lo : Int) (n : Nat) : List D := (List.range n).map fun k : Nat => .int (lo + (k : Nat) * (-1))
def iRgDm (f g h : DF) : De → Wp (List D) := fun δ => (f δ).bind fun d => (g δ).bind fun e => (h δ).bind fun c => (asI1 d).bind fun i => (asI1 e).bind fun j => (asI1 c).bind fun s => .need (lo62 i ∧ lo62 j ∧ s = -1) (.pure (rgDn i (i - j).toNat))
@[simp] theorem rw_rgM {f g h : DF} {δ : De} : iRgDm f g h δ = (f δ).bind fun d => (g δ).bind fun e => (h δ).bind fun c => (asI1 d).bind fun i => (asI1 e).bind fun j => (asI1 c).bind fun s => .need (lo62 i ∧ lo62 j ∧ s = -1) (.pure (rgDn i (i - j).toNat)) := rfl
end Tr

namespace Tr
open PySem PySem.Spec L2
variable [ProtC]
def sNewR (i : Nat) (f : De → Wp Os) (G : SO) : SF := fun δ => ((f δ).bind fun os => .need (i < δ.length) ((G os (δ.set i (.v (.ref os.a)))).bind fun r => match r.1 with
  | .rt d => .pure (.rt d)
  | _ => .stuck)).nox
@[simp] theorem rw_newR {i : Nat} {f : De → Wp Os} {G : SO} {δ : De} : sNewR i f G δ = ((f δ).bind fun os => .need (i < δ.length) ((G os (δ.set i (.v (.ref os.a)))).bind fun r => match r.1 with
  | .rt d => .pure (.rt d)
  | _ => .stuck)).nox := rfl
end Tr

namespace Tr
open PySem PySem.Spec L2
variable [ProtC]
def bI (p : Bool) : Int := if p = true then 1 else 0
def dSubB : D → D → Wp D
  | .bool i, .bool j => .pure (.int (bI i - bI j))
  | _, _ => .stuck
section
variable {X : Cx} {C : Cs} {W : WX} {pos : Pos} {a b : Expr} {f g : DF}
@[simp] theorem rw_subB {i j : Bool} : dSubB (.bool i) (.bool j) = .pure (.int (bI i - bI j)) := rfl
end
end Tr

namespace Tr
open PySem PySem.Spec L2
variable [ProtC]
end Tr

namespace Tr
open PySem PySem.Spec L2
variable [ProtC]
end Tr

namespace L2
open PySem PySem.Spec PyProof.Rows
theorem compTurnD2_out (kx vx t0 i0 t1 i1 : Expr) (ifs0 ifs1 : List Expr) (scope : Scope) (pos : Pos) (it acc : Value) (env : Env) :
    compTurn (.DictComp kx vx [⟨t0, i0, ifs0, 0⟩, ⟨t1, i1, ifs1, 0⟩] scope pos) 0 it acc env = (do
      standAt i0.pos
      match ← pyNext it with
      | none => pure (.done .next)
      | some v =>
        letOwnedTupleGo t0 it v
        assign t0 env v
        let mut ok := true
        for c in ifs0 do
          if ok then ok ← isTrue c env (eval c env)
        if ok then
          let x ← eval i1 env
          standAt i1.pos
          let x ← foldedSetIterable i1 env x
          let _ ← runOwn (.compStart (.DictComp kx vx [⟨t0, i0, ifs0, 0⟩, ⟨t1, i1, ifs1, 0⟩] scope pos) 1 (← holding [x] (pyIter x)) acc env) env
        again (.compLoop (.DictComp kx vx [⟨t0, i0, ifs0, 0⟩, ⟨t1, i1, ifs1, 0⟩] scope pos) 0 it acc env)) := by rfl
theorem compTurnD2_in (kx vx t0 i0 t1 i1 : Expr) (ifs0 ifs1 : List Expr) (scope : Scope) (pos : Pos) (it : Value) (D : Addr) (env : Env) :
    compTurn (.DictComp kx vx [⟨t0, i0, ifs0, 0⟩, ⟨t1, i1, ifs1, 0⟩] scope pos) 1 it (.ref D) env = (do
      standAt i1.pos
      match ← pyNext it with
      | none => pure (.done .next)
      | some v =>
        letOwnedTupleGo t1 it v
        assign t1 env v
        let mut ok := true
        for c in ifs1 do
          if ok then ok ← isTrue c env (eval c env)
        if ok then
          (do
            let kv ← eval kx env
            let vv ← holding [kv] (eval vx env)
            standAt { kx.pos with endLine := vx.pos.endLine, endCol := vx.pos.endCol }
            holding [kv, vv] (dictSet D kv vv))
        again (.compLoop (.DictComp kx vx [⟨t0, i0, ifs0, 0⟩, ⟨t1, i1, ifs1, 0⟩] scope pos) 1 it (.ref D) env)) := by rfl

section
variable {prog : Program} {w : World} {A : Around} {R : Result → Shared → Prop} {s : Shared} {kx vx t0 i0 t1 i1 : Expr} {ifs0 ifs1 : List Expr} {scope : Scope} {pos : Pos} {it acc : Value} {env : Env}
theorem compLoopD2_out (hs : ∀ x, foldedSetIterable i1 env x = pure x) (I : Nat → Shared → Prop)
    (turn : ∀ n s, I n s → wpAny (model prog w) A (pyNext it) (fun r s₁ => match r with
      | none => R (.ok .next) s₁
      | some v => wpAny (model prog w) A (letOwnedTupleGo t0 it v) (fun _ s₁' => wpAny (model prog w) A (assign t0 env v) (fun _ s₂ =>
          wpAny (model prog w) A (forIn ifs0 true fun c r => if r = true then do let ok ← isTrue c env (eval c env); pure (ForInStep.yield ok) else pure (ForInStep.yield r)) (fun ok s₃ =>
            if ok = true then wpAny (model prog w) A (eval i1 env) (fun x s₄ => wpAny (model prog w) A (pyIter x) (fun it1 s₅ =>
              codeAny (model prog w) A (.compStart (.DictComp kx vx [⟨t0, i0, ifs0, 0⟩, ⟨t1, i1, ifs1, 0⟩] scope pos) 1 it1 acc env) (fun r s' => match r with
                | .ok _ => ∃ m, m < n ∧ I m s'
                | .error _ => False) s₅) (notedBy (model prog w) A env fun e s' => R (.error e) s') s₄) (notedBy (model prog w) A env fun e s' => R (.error e) s') s₃
            else ∃ m, m < n ∧ I m s₃) (notedBy (model prog w) A env fun e s' => R (.error e) s') s₂) (notedBy (model prog w) A env fun e s' => R (.error e) s') s₁') (notedBy (model prog w) A env fun e s' => R (.error e) s') s₁) (notedBy (model prog w) A env fun e s' => R (.error e) s') s)
    (n : Nat) (h : I n s) :
    codeAny (model prog w) A (.compLoop (.DictComp kx vx [⟨t0, i0, ifs0, 0⟩, ⟨t1, i1, ifs1, 0⟩] scope pos) 0 it acc env) R s := by
  refine codeAny_loop rfl I (fun n s hI => ?_) n h
  show wpAny _ A ((compTurn (.DictComp kx vx [⟨t0, i0, ifs0, 0⟩, ⟨t1, i1, ifs1, 0⟩] scope pos) 0 it acc env).onRaise (fun x => do noteFrame x env; theTreesLotGoes x)) _ _ s
  refine wpAny_noted ?_
  rw [compTurnD2_out]
  refine wpAny_bind (wpAny_standAt (wpAny_bind (wpAny_mono (turn n s hI) (fun r s₁ h₁ => ?_) fun _ _ h' => h')))
  cases r with
  | none => exact wpAny_pure h₁
  | some v =>
    refine wpAny_bind (wpAny_mono h₁ (fun _ s₁' h₁' => ?_) fun _ _ h' => h')
    refine wpAny_bind (wpAny_mono h₁' (fun _ s₂ h₂ => wpAny_bind (wpAny_mono h₂ (fun ok s₃ h₃ => ?_) fun _ _ h' => h')) fun _ _ h' => h')
    cases ok with
    | false => exact wpAny_pure ⟨rfl, h₃⟩
    | true =>
      refine wpAny_bind (wpAny_mono h₃ (fun x s₄ h₄ => ?_) fun _ _ h' => h')
      refine wpAny_bind (wpAny_standAt (wpAny_bind (wpAny_of_eq (hs x) (wpAny_bind (wpAny_holding (wpAny_mono h₄ (fun it1 s₅ h₅ => ?_) fun _ _ h' => h'))))))
      refine wpAny_bind (wpAny_runOwn ?_)
      rw [Around.mark_none]
      refine codeAny_mono h₅ fun r s' hr => ?_
      cases r with
      | ok f =>
        first
          | exact wpAny_pure ⟨rfl, hr⟩
          | exact wpAny_bind (wpAny_pure (wpAny_pure ⟨rfl, hr⟩))
      | error e => exact hr.elim
theorem compLoopD2_in {D : Addr} (I : Nat → Shared → Prop)
    (turn : ∀ n s, I n s → wpAny (model prog w) A (pyNext it) (fun r s₁ => match r with
      | none => R (.ok .next) s₁
      | some v => wpAny (model prog w) A (letOwnedTupleGo t1 it v) (fun _ s₁' => wpAny (model prog w) A (assign t1 env v) (fun _ s₂ =>
          wpAny (model prog w) A (forIn ifs1 true fun c r => if r = true then do let ok ← isTrue c env (eval c env); pure (ForInStep.yield ok) else pure (ForInStep.yield r)) (fun ok s₃ =>
            if ok = true then wpAny (model prog w) A (eval kx env) (fun kv s₄ => wpAny (model prog w) A (eval vx env) (fun vv s₅ =>
              wpAny (model prog w) A (dictSet D kv vv) (fun _ s₆ => ∃ m, m < n ∧ I m s₆) (notedBy (model prog w) A env fun e s' => R (.error e) s') s₅) (notedBy (model prog w) A env fun e s' => R (.error e) s') s₄) (notedBy (model prog w) A env fun e s' => R (.error e) s') s₃
            else ∃ m, m < n ∧ I m s₃) (notedBy (model prog w) A env fun e s' => R (.error e) s') s₂) (notedBy (model prog w) A env fun e s' => R (.error e) s') s₁') (notedBy (model prog w) A env fun e s' => R (.error e) s') s₁) (notedBy (model prog w) A env fun e s' => R (.error e) s') s)
    (n : Nat) (h : I n s) :
    codeAny (model prog w) A (.compLoop (.DictComp kx vx [⟨t0, i0, ifs0, 0⟩, ⟨t1, i1, ifs1, 0⟩] scope pos) 1 it (.ref D) env) R s := by
  refine codeAny_loop rfl I (fun n s hI => ?_) n h
  show wpAny _ A ((compTurn (.DictComp kx vx [⟨t0, i0, ifs0, 0⟩, ⟨t1, i1, ifs1, 0⟩] scope pos) 1 it (.ref D) env).onRaise (fun x => do noteFrame x env; theTreesLotGoes x)) _ _ s
  refine wpAny_noted ?_
  rw [compTurnD2_in]
  refine wpAny_bind (wpAny_standAt (wpAny_bind (wpAny_mono (turn n s hI) (fun r s₁ h₁ => ?_) fun _ _ h' => h')))
  cases r with
  | none => exact wpAny_pure h₁
  | some v =>
    refine wpAny_bind (wpAny_mono h₁ (fun _ s₁' h₁' => ?_) fun _ _ h' => h')
    refine wpAny_bind (wpAny_mono h₁' (fun _ s₂ h₂ => wpAny_bind (wpAny_mono h₂ (fun ok s₃ h₃ => ?_) fun _ _ h' => h')) fun _ _ h' => h')
    cases ok with
    | false => exact wpAny_pure ⟨rfl, h₃⟩
    | true =>
      exact wpAny_bind (wpAny_bind (wpAny_mono h₃ (fun kv s₄ h₄ => wpAny_bind (wpAny_holding (wpAny_mono h₄ (fun vv s₅ h₅ => wpAny_bind (wpAny_standAt (wpAny_holding (wpAny_mono h₅ (fun _ s₆ h₆ => wpAny_pure ⟨rfl, h₆⟩) fun _ _ h' => h')))) fun _ _ h' => h'))) fun _ _ h' => h'))
theorem compStartD1_ok (h0 : codeAny (model prog w) A (.compLoop (.DictComp kx vx [⟨t0, i0, ifs0, 0⟩, ⟨t1, i1, ifs1, 0⟩] scope pos) 1 it acc env) R s)
    (h : wpAny (model prog w) A (pyIter it) (fun it' s' => codeAny (model prog w) A (.compLoop (.DictComp kx vx [⟨t0, i0, ifs0, 0⟩, ⟨t1, i1, ifs1, 0⟩] scope pos) 1 it' acc env) R s')
      (notedBy (model prog w) A env fun x s' => R (.error x) s') s) :
    codeAny (model prog w) A (.compStart (.DictComp kx vx [⟨t0, i0, ifs0, 0⟩, ⟨t1, i1, ifs1, 0⟩] scope pos) 1 it acc env) R s := by
  refine codeAny_of_tree ?_
  show wpAny _ _ ((compStart (.DictComp kx vx [⟨t0, i0, ifs0, 0⟩, ⟨t1, i1, ifs1, 0⟩] scope pos) 1 it acc env).onRaise (fun x => do noteFrame x env; standAt theWindowsPlace)) _ _ s
  refine wpAny_notedAt ?_
  unfold compStart
  show wpAny _ _ (ask >>= _) _ _ s
  refine wpAny_bind (wpAny_askSetting (wpAny_ite ?_))
  split
  · first
      | exact wpAny_bind (wpAny_pure (wpAny_pure (And.intro rfl h0)))
      | exact wpAny_pure (And.intro rfl h0)
  · first
      | exact wpAny_bind (wpAny_rule (wpAny_bind (wpAny_standAt (wpAny_bind (wpAny_mono h (fun it' s' h' => wpAny_pure (And.intro rfl h')) fun _ _ x => x)))))
      | (refine wpAny_bind (wpAny_rule ?_); show wpAny _ _ (standAt i1.pos >>= _) _ _ s; exact wpAny_bind (wpAny_standAt (wpAny_bind (wpAny_mono h (fun it' s' h' => wpAny_pure (And.intro rfl h')) fun _ _ x => x))))
end

section
variable {X : Cx}
def tDc2 (wi : TI) (g : TG) (tt : TT) (wi1 : TI) (g1 : TG) (tt1 : TT) (tk tv : TE) (vs vs1 : List Nat) : TE := fun σ H Q => wi σ H fun J H1 => ∀ D, H1 D = none → ∃ W : Nat → Nat → Hp → Prop, (∃ m, W 0 m (upd H1 D (.dK []))) ∧ ∀ i m H, W i m H →
  (J.stop i H ∧ Q (.ref D) H) ∨ (J.go i H ∧ ∃ Nx : Hp → Prop, (∀ H', Nx H' → ∃ m', m' < m ∧ W (i + 1) m' H') ∧ ∀ x H', J.yld i H x H' → g x (wipe σ vs) H' fun σ2 H2 => wipe σ2 vs = wipe σ vs ∧ tt σ2 H2 fun b H3 =>
    if b = true then wi1 σ2 H3 fun J1 H4 => ∃ W1 : Nat → Nat → Hp → Prop, (∃ m, W1 0 m H4) ∧ ∀ j k H, W1 j k H →
      (J1.stop j H ∧ Nx H) ∨ (J1.go j H ∧ ∃ Nx1 : Hp → Prop, (∀ H', Nx1 H' → ∃ k', k' < k ∧ W1 (j + 1) k' H') ∧ ∀ x H', J1.yld j H x H' → g1 x (wipe σ2 vs1) H' fun σ3 H5 => wipe σ3 vs1 = wipe σ2 vs1 ∧ tt1 σ3 H5 fun b H6 =>
        if b = true then tk σ3 H6 fun y H7 => tv σ3 H7 fun z H8 => ∃ kvs k, y = kV k ∧ H8 D = some (.dK kvs) ∧ kvs.length < sizeLine ∧ Nx1 (upd H8 D (.dK (putK kvs k z))) else Nx1 H6)
    else Nx H3)
theorem dc2_core {pins : List (Addr × Obj)} {s : Shared} {σ : St} {H : Hp} {Q : VK} {kx vx tg iter tg1 iter1 : Expr} {ifs ifs1 : List Expr} {scope : Scope} {own : List (Str × Nat)} {vs1 : List Nat} {pos pos' : Pos} {wi wi1 : TI} {g g1 : TG} {tt tt1 : TT} {tk tv : TE} {use : Option (Value → Sem Unit)} {Qf : Value → Shared → Prop}
    (hc : X.calm = true) (hN : X.N.Nodup) (I : Inv X pins σ H s) (hi : PI X tg iter wi) (ok : BlkOk X.N X.env.scope scope own) (hv : ∀ i ∈ vs1, i ∈ own.map (·.2))
    (hg : ∀ (s : Shared) (H : Hp) (C : Addr) (cl : List (Str × Addr)) (fp : List Addr), PG (X.blk s H scope (compEnvC scope cl C X.env) fp) tg g) (ht : ∀ (s : Shared) (H : Hp) (C : Addr) (cl : List (Str × Addr)) (fp : List Addr), PTs (X.blk s H scope (compEnvC scope cl C X.env) fp) ifs tt)
    (hk : ∀ (s : Shared) (H : Hp) (C : Addr) (cl : List (Str × Addr)) (fp : List Addr), PE (X.blk s H scope (compEnvC scope cl C X.env) fp) kx tk)
    (he : ∀ (s : Shared) (H : Hp) (C : Addr) (cl : List (Str × Addr)) (fp : List Addr), PE (X.blk s H scope (compEnvC scope cl C X.env) fp) vx tv) (hs : ∀ x, foldedSetIterable iter X.env x = pure x)
    (hi1 : ∀ (s : Shared) (H : Hp) (C : Addr) (cl : List (Str × Addr)) (fp : List Addr), PI (X.blk s H scope (compEnvC scope cl C X.env) fp) tg1 iter1 wi1)
    (hg1 : ∀ (s : Shared) (H : Hp) (C : Addr) (cl : List (Str × Addr)) (fp : List Addr), PG (X.blk s H scope (compEnvC scope cl C X.env) fp) tg1 g1)
    (ht1 : ∀ (s : Shared) (H : Hp) (C : Addr) (cl : List (Str × Addr)) (fp : List Addr), PTs (X.blk s H scope (compEnvC scope cl C X.env) fp) ifs1 tt1)
    (hs1 : ∀ env x, foldedSetIterable iter1 env x = pure x)
    (h : tDc2 wi g tt wi1 g1 tt1 tk tv (own.map (·.2)) vs1 σ H Q)
    (hRR : ∀ D C s' m H', Inv X pins σ H' s' → Q (.ref D) H' → s'.heap.Ns C m → FpOk X pins H' C → compPost (model X.prog X.w) X.A X.xe use Qf (.ref D) C (.ok .next) s') :
    wpAny (model X.prog X.w) X.A (comprehension (.DictComp kx vx [⟨tg, iter, ifs, 0⟩, ⟨tg1, iter1, ifs1, 0⟩] scope pos) scope X.env pos' newDict false (eval iter X.env) use) Qf X.xe s := by
  have hfree : ∀ y ∈ scope.names, y.2 = .free → ∃ c, X.env.cells.lookup y.1 = some c := fun y hy e => by
    rcases ok.free y hy e with k | k
    · exact I.ok.has _ (.inl k)
    · exact I.ok.has _ (.inr k)
  refine wpAny_comprehension_free (use := use) rfl hs (closure_ok hfree) ok.kind (fun y hy e => by rw [ok.uniq y hy, e])
    (thn (hi.run pins s σ H _ I h) fun xv s1 hx => thn hx fun itv s2 h2 => ?_)
  obtain ⟨it, fp, tn, J, H2, e, I2, T, st2, f2, q⟩ := h2
  subst e
  refine wpAny_newObj_type (newEnv_comp ?_)
  generalize hD : s2.heap.objs.size = D
  have hDn : H2 D = none := I2.hok.fresh (Nat.le_of_eq hD)
  obtain ⟨W, ⟨m0, w0⟩, turn⟩ := q D hDn
  -- the new list
  generalize hs3 : ({ s2 with heap := s2.heap.push { cls := .type "dict", data := .dict #[] } } : Shared) = s3
  have I3 : Inv X pins σ (upd H2 D (.dK [])) s3 := by
    rw [← hs3]
    refine I2.laid (t' := s2.toks) (fun b o e => Heap.get?_push_of_some _ e) (Nat.le_of_eq hD) ?_
    rw [← hD]
    exact dk_empty s2.heap I2.big
  have h3 : s3.heap = s2.heap.push { cls := .type "dict", data := .dict #[] } := by rw [← hs3]
  have sz : ∀ b ∈ fp, b < s2.heap.objs.size := fun b hb => by
    obtain ⟨o, e, _⟩ := T.obj _ _ st2 b hb
    exact Heap.lt_size e
  have f3 : ∀ b ∈ fp, FpOk X pins (upd H2 D (.dK [])) b ∧ b < s3.heap.objs.size := fun b hb => by
    have hlt := sz b hb
    refine ⟨⟨?_, (f2 b hb).2⟩, by rw [h3, Heap.size_push]; exact Nat.lt_succ_of_lt hlt⟩
    rw [upd_ne (by rw [← hD]; exact Nat.ne_of_lt hlt)]
    exact (f2 b hb).1
  have st3 : tn 0 s3.heap := T.keep _ _ _ st2 fun b _ o e => by rw [h3]; exact Heap.get?_push_of_some _ e
  have I4 := block_start I3 ok hN f3
  have pg := hg s3 (upd H2 D (.dK [])) s3.heap.objs.size (cellsFrom (s3.heap.objs.size + 1) scope.names (cloFrom X.env.cells scope.names [])) fp
  have pt := ht s3 (upd H2 D (.dK [])) s3.heap.objs.size (cellsFrom (s3.heap.objs.size + 1) scope.names (cloFrom X.env.cells scope.names [])) fp
  have pk := hk s3 (upd H2 D (.dK [])) s3.heap.objs.size (cellsFrom (s3.heap.objs.size + 1) scope.names (cloFrom X.env.cells scope.names [])) fp
  have pe := he s3 (upd H2 D (.dK [])) s3.heap.objs.size (cellsFrom (s3.heap.objs.size + 1) scope.names (cloFrom X.env.cells scope.names [])) fp
  have pi1 := hi1 s3 (upd H2 D (.dK [])) s3.heap.objs.size (cellsFrom (s3.heap.objs.size + 1) scope.names (cloFrom X.env.cells scope.names [])) fp
  have pg1 := hg1 s3 (upd H2 D (.dK [])) s3.heap.objs.size (cellsFrom (s3.heap.objs.size + 1) scope.names (cloFrom X.env.cells scope.names [])) fp
  have pt1 := ht1 s3 (upd H2 D (.dK [])) s3.heap.objs.size (cellsFrom (s3.heap.objs.size + 1) scope.names (cloFrom X.env.cells scope.names [])) fp
  show codeAny _ _ (.compStart (.DictComp kx vx [⟨tg, iter, ifs, 0⟩, ⟨tg1, iter1, ifs1, 0⟩] scope pos) 0 (.ref it) (.ref D) (compEnvC scope (cellsFrom (s3.heap.objs.size + 1) scope.names (cloFrom X.env.cells scope.names [])) s3.heap.objs.size X.env)) (compPost (model X.prog X.w) X.A X.xe use Qf (.ref D) s3.heap.objs.size) { s3 with heap := pushCells (s3.heap.push { cls := .type "dict", data := .dict #[] }) scope.names }
  have nfp : ∀ b ∈ fp, (upd H2 D (.dK [])) b = none := fun b hb => (f3 b hb).1.1
  generalize hce : compEnvC scope (cellsFrom (s3.heap.objs.size + 1) scope.names (cloFrom X.env.cells scope.names [])) s3.heap.objs.size X.env = ce at I4 pg pt pk pe pi1 pg1 pt1 ⊢
  have cL : ce.locals = s3.heap.objs.size := by subst hce; rfl
  generalize hH3 : upd H2 D (.dK []) = H3 at I3 I4 pg pt pk pe pi1 pg1 pt1 w0 nfp f3
  generalize hs4 : ({ s3 with heap := pushCells (s3.heap.push { cls := .type "dict", data := .dict #[] }) scope.names } : Shared) = s4 at I4 ⊢
  have st4 : tn 0 s4.heap := T.keep _ _ _ st3 fun b _ o e => by rw [← hs4]; exact pushCells_keeps _ _ _ _ (Heap.get?_push_of_some _ e)
  have stat : ∀ {σ' : St} {H' : Hp} {s' : Shared}, Inv (X.blk s3 H3 scope ce fp) [] σ' H' s' → (∀ b ∈ fp, H' b = none) → ∀ b ∈ fp, FpOk (X.blk s3 H3 scope ce fp) [] H' b := fun {σ' H' s'} I' hn b hb =>
    ⟨hn b hb, (I'.ok.exf b hb).1, I'.ok.exfs b hb, .inl hb, fun x c e => (I'.ok.exf b hb).2 x c e, fun p hp => absurd (show p ∈ ([] : List (Addr × Obj)) ++ [] from hp) (by simp)⟩
  have loop : codeAny (model X.prog X.w) X.A (.compLoop (.DictComp kx vx [⟨tg, iter, ifs, 0⟩, ⟨tg1, iter1, ifs1, 0⟩] scope pos) 0 (.ref it) (.ref D) ce) (compPost (model X.prog X.w) X.A X.xe use Qf (.ref D) s3.heap.objs.size) s4 := by
    refine compLoopD2_out (hs1 ce) (fun n s' => ∃ i H', Inv (X.blk s3 H3 scope ce fp) [] (wipe σ (own.map (·.2))) H' s' ∧ tn i s'.heap ∧ (∀ b ∈ fp, H' b = none) ∧ W i n H') ?_ m0 ⟨0, H3, I4, st4, nfp, w0⟩
    rintro n s5 ⟨i, H5, I5, st5, n5, w5⟩
    rcases turn i n H5 w5 with ⟨stop, qq⟩ | ⟨go, Nx, hNx, step⟩
    · have td := T.done (X.blk s3 H3 scope ce fp) rfl rfl rfl hc i [] s5 _ H5 (fun _ _ => False) I5 (stat I5 n5) st5 stop
      refine thnF td fun r s6 ⟨hr, I6⟩ => ?_
      subst hr
      -- back in the def's context
      have I7 : Inv X pins σ H5 s6 := I3.call' (ch := fp) I6.os I6.base I6.hok I6.bare fun b hb => ⟨(f3 b hb).1.2.2.2.1, (f3 b hb).1.2.1, (f3 b hb).1.2.2.2.2.1, (f3 b hb).1.2.2.2.2.2⟩
      have nC : H5 s3.heap.objs.size = none := by
        have z : H5 ce.locals = none := I6.free
        rw [cL] at z
        exact z
      obtain ⟨m, hn, _⟩ := I6.loc
      have hn : s6.heap.Ns ce.locals m := hn
      rw [cL] at hn
      exact hRR D s3.heap.objs.size s6 m H5 I7 qq hn (I3.fpOk (Nat.le_refl _) nC)
    · have ti := T.item (X.blk s3 H3 scope ce fp) rfl rfl rfl hc i [] s5 _ H5 (fun _ _ => False) I5 (stat I5 n5) st5 go
      refine thnF ti fun r s6 ⟨u, hr, h6⟩ => ?_
      subst hr
      refine thnF h6 fun _ s7 ⟨x, H7, I7, r7, y7, st7, n7⟩ => ?_
      have I7' := I7.pinned (stat I7 n7) (T.obj _ _ st7)
      refine thnF (pg.run _ s7 _ H7 x u _ I7' r7 (step x H7 y7)) fun _ s8 ⟨σ8, H8, I8, hw8, q8⟩ => ?_
      refine thnF (pt.run _ s8 σ8 H8 _ I8 q8) fun b s9 ⟨H9, I9, q9⟩ => ?_
      -- the turn's end, from any slots that know what the block knew at its start
      have fin : ∀ {σ9 : St} {s' : Shared} {H' : Hp}, Inv (X.blk s3 H3 scope ce fp) ([] ++ pinsAt fp s7.heap) σ9 H' s' → (wipe σ (own.map (·.2))).length = σ9.length → (∀ (j : Nat) v, (wipe σ (own.map (·.2)))[j]? = some (some v) → σ9[j]? = some (some v)) → Nx H' →
          ∃ m, m < n ∧ ∃ i H', Inv (X.blk s3 H3 scope ce fp) [] (wipe σ (own.map (·.2))) H' s' ∧ tn i s'.heap ∧ (∀ b ∈ fp, H' b = none) ∧ W i m H' := fun {σ9 s' H'} I' hl hk nx => by
        obtain ⟨m', hm, w'⟩ := hNx H' nx
        have pin' : ∀ b ∈ fp, ∀ o, s7.heap.get? b = some o → s'.heap.get? b = some o ∧ H' b = none := fun b hb o e =>
          let z := I'.pin (b, o) (List.mem_append_right _ (List.mem_append_right _ (mem_pinsAt hb e)))
          ⟨z.1, z.2.1⟩
        refine ⟨m', hm, i + 1, H', (I'.unpinned (pins := [])).weak hl hk, T.keep _ _ _ st7 fun b hb o e => (pin' b hb o e).1, fun b hb => ?_, w'⟩
        obtain ⟨o, e, _⟩ := T.obj _ _ st7 b hb
        exact (pin' b hb o e).2
      have hl8 : (wipe σ (own.map (·.2))).length = σ8.length := by rw [← hw8, wipe_length]
      have hk8 : ∀ (j : Nat) v, (wipe σ (own.map (·.2)))[j]? = some (some v) → σ8[j]? = some (some v) := fun j v e => by
        rw [← hw8] at e
        exact (wipe_some e).1
      have hk9 : ∀ (j : Nat) v, (wipe σ (own.map (·.2)))[j]? = some (some v) → (wipe σ8 vs1)[j]? = some (some v) := fun j v e => by
        rw [← hw8] at e
        obtain ⟨e1, e2⟩ := wipe_some e
        rw [wipe_out fun z => e2 (hv j z)]
        exact e1
      cases b with
      | false =>
        simp only [Bool.false_eq_true, if_false] at q9 ⊢
        exact fin I9 hl8 hk8 q9
      | true =>
        simp only [if_true] at q9 ⊢
        refine thnF (pi1.run _ s9 σ8 H9 _ I9 q9) fun xv s10 hx => thnF hx fun itv s11 h11 => ?_
        obtain ⟨it1, fp1, tn1, J1, H11, e1, I11, T1, st11, f11, W1, ⟨m1, w1⟩, turn1⟩ := h11
        subst e1
        -- the inner loop
        have stat1 : ∀ {H' : Hp}, (∀ b ∈ fp1, H' b = none) → ∀ b ∈ fp1, FpOk (X.blk s3 H3 scope ce fp) ([] ++ pinsAt fp s7.heap) H' b := fun hn b hb => ⟨hn b hb, (f11 b hb).2⟩
        have loop1 : codeAny (model X.prog X.w) X.A (.compLoop (.DictComp kx vx [⟨tg, iter, ifs, 0⟩, ⟨tg1, iter1, ifs1, 0⟩] scope pos) 1 (.ref it1) (.ref D) ce)
            (fun r s' => match r with
              | .ok _ => ∃ m, m < n ∧ ∃ i H', Inv (X.blk s3 H3 scope ce fp) [] (wipe σ (own.map (·.2))) H' s' ∧ tn i s'.heap ∧ (∀ b ∈ fp, H' b = none) ∧ W i m H'
              | .error _ => False) s11 := by
          refine compLoopD2_in (fun k s' => ∃ j H', Inv (X.blk s3 H3 scope ce fp) ([] ++ pinsAt fp s7.heap) (wipe σ8 vs1) H' s' ∧ tn1 j s'.heap ∧ (∀ b ∈ fp1, H' b = none) ∧ W1 j k H') ?_ m1 ⟨0, H11, I11.weak (wipe_length _ _) (fun j v e => (wipe_some e).1), st11, fun b hb => (f11 b hb).1, w1⟩
          rintro k s12 ⟨j, H12, I12, st12, n12, w12⟩
          rcases turn1 j k H12 w12 with ⟨stop1, nx1⟩ | ⟨go1, Nx1, hNx1, step1⟩
          · refine thnF (T1.done (X.blk s3 H3 scope ce fp) rfl rfl rfl hc j _ s12 (wipe σ8 vs1) H12 (fun _ _ => False) I12 (stat1 n12) st12 stop1) fun r s13 ⟨hr, I13⟩ => ?_
            subst hr
            exact fin I13 (hl8.trans (wipe_length σ8 vs1).symm) hk9 nx1
          · refine thnF (T1.item (X.blk s3 H3 scope ce fp) rfl rfl rfl hc j _ s12 (wipe σ8 vs1) H12 (fun _ _ => False) I12 (stat1 n12) st12 go1) fun r s13 ⟨u1, hr, h13⟩ => ?_
            subst hr
            refine thnF h13 fun _ s14 ⟨x1, H14, I14, r14, y14, st14, n14⟩ => ?_
            have I14' := I14.pinned (stat1 n14) (T1.obj _ _ st14)
            refine thnF (pg1.run _ s14 (wipe σ8 vs1) H14 x1 u1 _ I14' r14 (step1 x1 H14 y14)) fun _ s15 ⟨σ15, H15, I15, hw15, q15⟩ => ?_
            refine thnF (pt1.run _ s15 σ15 H15 _ I15 q15) fun b1 s16 ⟨H16, I16, q16⟩ => ?_
            have fin1 : ∀ {s' : Shared} {H' : Hp}, Inv (X.blk s3 H3 scope ce fp) (([] ++ pinsAt fp s7.heap) ++ pinsAt fp1 s14.heap) σ15 H' s' → Nx1 H' → ∃ m, m < k ∧ ∃ j H', Inv (X.blk s3 H3 scope ce fp) ([] ++ pinsAt fp s7.heap) (wipe σ8 vs1) H' s' ∧ tn1 j s'.heap ∧ (∀ b ∈ fp1, H' b = none) ∧ W1 j m H' := fun {s' H'} I' nx => by
              obtain ⟨m', hm, w'⟩ := hNx1 H' nx
              have pin' : ∀ b ∈ fp1, ∀ o, s14.heap.get? b = some o → s'.heap.get? b = some o ∧ H' b = none := fun b hb o e =>
                let z := I'.pin (b, o) (List.mem_append_right _ (List.mem_append_right _ (mem_pinsAt hb e)))
                ⟨z.1, z.2.1⟩
              refine ⟨m', hm, j + 1, H', I'.unpinned.weak (by rw [← hw15, wipe_length]) (fun j v e => by rw [← hw15] at e; exact (wipe_some e).1), T1.keep _ _ _ st14 fun b hb o e => (pin' b hb o e).1, fun b hb => ?_, w'⟩
              obtain ⟨o, e, _⟩ := T1.obj _ _ st14 b hb
              exact (pin' b hb o e).2
            cases b1 with
            | false =>
              simp only [Bool.false_eq_true, if_false] at q16 ⊢
              exact fin1 I16 q16
            | true =>
              simp only [if_true] at q16 ⊢
              refine thnF (pk.run _ s16 σ15 H16 _ I16 q16) fun z s17 ⟨yk, H17, I17, r17, q17⟩ => ?_
              refine thnF (pe.run _ s17 σ15 H17 _ I17 q17) fun z2 s18 ⟨yv, H18, I18, r18, kvs, k, ek, hD18, hz18, nx⟩ => ?_
              subst ek
              exact d_dictSet (X := X.blk s3 H3 scope ce fp) I18 hD18 hz18 r17 r18 fun s19 I19 => fin1 I19 nx
        exact compStartD1_ok loop1 (T1.self X.A 0 _ _ _ st11 loop1)
  exact codeAny_compStart_dict loop (T.self X.A 0 _ _ _ st4 loop)
theorem pe_dc2 {kx vx tg iter tg1 iter1 : Expr} {ifs ifs1 : List Expr} {scope : Scope} {own : List (Str × Nat)} {vs1 : List Nat} {pos : Pos} {wi wi1 : TI} {g g1 : TG} {tt tt1 : TT} {tk tv : TE} (hc : X.calm = true) (hN : X.N.Nodup) (hi : PI X tg iter wi) (ok : BlkOk X.N X.env.scope scope own) (hv : ∀ i ∈ vs1, i ∈ own.map (·.2))
    (hg : ∀ (s : Shared) (H : Hp) (C : Addr) (cl : List (Str × Addr)) (fp : List Addr), PG (X.blk s H scope (compEnvC scope cl C X.env) fp) tg g) (ht : ∀ (s : Shared) (H : Hp) (C : Addr) (cl : List (Str × Addr)) (fp : List Addr), PTs (X.blk s H scope (compEnvC scope cl C X.env) fp) ifs tt)
    (hi1 : ∀ (s : Shared) (H : Hp) (C : Addr) (cl : List (Str × Addr)) (fp : List Addr), PI (X.blk s H scope (compEnvC scope cl C X.env) fp) tg1 iter1 wi1)
    (hg1 : ∀ (s : Shared) (H : Hp) (C : Addr) (cl : List (Str × Addr)) (fp : List Addr), PG (X.blk s H scope (compEnvC scope cl C X.env) fp) tg1 g1) (ht1 : ∀ (s : Shared) (H : Hp) (C : Addr) (cl : List (Str × Addr)) (fp : List Addr), PTs (X.blk s H scope (compEnvC scope cl C X.env) fp) ifs1 tt1)
    (hk : ∀ (s : Shared) (H : Hp) (C : Addr) (cl : List (Str × Addr)) (fp : List Addr), PE (X.blk s H scope (compEnvC scope cl C X.env) fp) kx tk)
    (he : ∀ (s : Shared) (H : Hp) (C : Addr) (cl : List (Str × Addr)) (fp : List Addr), PE (X.blk s H scope (compEnvC scope cl C X.env) fp) vx tv) (hs : ∀ x, foldedSetIterable iter X.env x = pure x := by intro _; rfl) (hs1 : ∀ env x, foldedSetIterable iter1 env x = pure x := by intro _ _; rfl) :
    PE X (.DictComp kx vx [⟨tg, iter, ifs, 0⟩, ⟨tg1, iter1, ifs1, 0⟩] scope pos) (tDc2 wi g tt wi1 g1 tt1 tk tv (own.map (·.2)) vs1) := by
  refine ⟨fun pins s σ H Q I h => ?_⟩
  rw [arm_eval_DictComp]
  refine dc2_core hc hN I hi ok hv hg ht hk he hs hi1 hg1 ht1 hs1 h fun D C s' m H' I' q hn f => ⟨m, hn, fun h'' sb => ?_⟩
  obtain ⟨f0, f1, f2, f3, f4, f5⟩ := f
  exact ⟨.ref D, H', I'.turned (t' := s'.toks) (fun b o hb e => (sb.2 b hb).trans e) f0 f1 f3 f4 f5, rfl, q⟩
end
end L2

namespace Tr
open PySem PySem.Spec L2
variable [ProtC]
def dKv (fk fv : DF) : DF := fun δ => (fk δ).bind fun a => .need (∃ k : Int, a = .int k) ((fv δ).bind fun b => .pure (.tuple [a, b]))
def putI (ps : List (Int × D)) (k : Int) (b : D) : List (Int × D) := if (ps.any fun p => decide (p.1 = k)) = true then ps.map (fun p => if p.1 = k then (p.1, b) else p) else ps ++ [(k, b)]
def stepI (ps : List (Int × D)) (d : D) : List (Int × D) := match d with
  | .tuple [.int k, b] => putI ps k b
  | _ => ps
def dctI (prs : List D) : List (Int × D) := prs.foldl stepI []
theorem dctI_snoc {prs : List D} {k : Int} {b : D} : dctI (prs ++ [.tuple [.int k, b]]) = putI (dctI prs) k b := by
  unfold dctI
  rw [List.foldl_append]
  rfl
def DkAll (K : PySem.W.Frag) (H : Hp) (kvs : List (Key × V)) (prs : List D) : Prop := kvs.map (·.1) = (dctI prs).map (fun p => Sum.inl p.1) ∧ DpAll K H (kvs.map (·.2)) ((dctI prs).map (·.2))
theorem Le.dks {K : PySem.W.Frag} {H G : Hp} (l : Le H G) (prs : List D) (kvs : List (Key × V)) (h : DkAll K H kvs prs) : DkAll K G kvs prs := ⟨h.1, Le.dps l _ _ h.2⟩
theorem putI_len {ps : List (Int × D)} {k : Int} {b : D} : (putI ps k b).length ≤ ps.length + 1 := by
  unfold putI
  split <;> simp
theorem dctI_len {prs : List D} : (dctI prs).length ≤ prs.length := by
  have key : ∀ (l : List D) (ps : List (Int × D)), (l.foldl stepI ps).length ≤ ps.length + l.length := by
    intro l
    induction l with
    | nil => intro ps; exact Nat.le_refl _
    | cons d l ih =>
      intro ps
      have h1 : (stepI ps d).length ≤ ps.length + 1 := by
        unfold stepI
        split
        · exact putI_len
        · omega
      have := ih (stepI ps d)
      show (l.foldl stepI (stepI ps d)).length ≤ ps.length + (l.length + 1)
      omega
  have := key prs []
  simpa [dctI] using this
theorem dks_len {K : PySem.W.Frag} {H : Hp} {prs : List D} {kvs : List (Key × V)} (h : DkAll K H kvs prs) : kvs.length ≤ prs.length := by
  have e := congrArg List.length h.1
  rw [List.length_map, List.length_map] at e
  rw [e]
  exact dctI_len
theorem dk_any {kvs : List (Key × V)} {ps : List (Int × D)} {k : Int} (h : kvs.map (·.1) = ps.map (fun p => Sum.inl p.1)) : (kvs.any fun kv => decide (kv.1 = Sum.inl k)) = ps.any fun p => decide (p.1 = k) := by
  induction kvs generalizing ps with
  | nil =>
    cases ps with
    | nil => rfl
    | cons p ps => cases h
  | cons x kvs ih =>
    cases ps with
    | nil => cases h
    | cons p ps =>
      rw [List.map_cons, List.map_cons] at h
      have h1 := (List.cons.inj h).1
      have h2 := ih (List.cons.inj h).2
      rw [List.any_cons, List.any_cons, h2, h1]
      congr 1
      simp
theorem dk_up {K : PySem.W.Frag} {H : Hp} {z : V} {b : D} {k : Int} (hz : Dp K H z b) {kvs : List (Key × V)} {ps : List (Int × D)} (h : kvs.map (·.1) = ps.map (fun p => Sum.inl p.1)) (hd : DpAll K H (kvs.map (·.2)) (ps.map (·.2))) :
    (kvs.map fun kv => if kv.1 = Sum.inl k then (kv.1, z) else kv).map (·.1) = (ps.map fun p => if p.1 = k then (p.1, b) else p).map (fun p => Sum.inl p.1) ∧ DpAll K H ((kvs.map fun kv => if kv.1 = Sum.inl k then (kv.1, z) else kv).map (·.2)) ((ps.map fun p => if p.1 = k then (p.1, b) else p).map (·.2)) := by
  induction kvs generalizing ps with
  | nil =>
    cases ps with
    | nil => exact ⟨rfl, .nil⟩
    | cons p ps => cases h
  | cons x kvs ih =>
    cases ps with
    | nil => cases h
    | cons p ps =>
      obtain ⟨x1, x2⟩ := x
      obtain ⟨p1, p2⟩ := p
      rw [List.map_cons, List.map_cons] at h
      have h1 : x1 = Sum.inl p1 := (List.cons.inj h).1
      subst h1
      rw [List.map_cons, List.map_cons] at hd
      cases hd with
      | cons hd1 hd2 =>
        obtain ⟨i1, i2⟩ := ih (List.cons.inj h).2 hd2
        by_cases c : p1 = k
        · have c' : (Sum.inl p1 : Key) = Sum.inl k := by rw [c]
          simp only [List.map_cons, c, if_true]
          rw [c] at *
          exact ⟨by rw [i1], .cons hz i2⟩
        · have c' : ¬ (Sum.inl p1 : Key) = Sum.inl k := fun z => c (Sum.inl.inj z)
          simp only [List.map_cons, c, c', if_false]
          exact ⟨by rw [i1], .cons hd1 i2⟩
theorem dks_snoc {K : PySem.W.Frag} {H : Hp} {z : V} {b : D} {k : Int} {prs : List D} {kvs : List (Key × V)} (h : DkAll K H kvs prs) (hz : Dp K H z b) : DkAll K H (putK kvs (Sum.inl k) z) (prs ++ [.tuple [.int k, b]]) := by
  obtain ⟨h1, h2⟩ := h
  unfold DkAll
  rw [dctI_snoc]
  unfold putK putI
  rw [dk_any h1]
  by_cases c : ((dctI prs).any fun p => decide (p.1 = k)) = true
  · rw [if_pos c, if_pos c]
    exact dk_up hz h1 h2
  · rw [if_neg c, if_neg c, List.map_append, List.map_append, List.map_append, List.map_append, h1]
    exact ⟨rfl, dps_app h2 (.cons hz .nil)⟩
theorem TabS.putD {H : Hp} {a P : Addr} {q : Str} {xs ys : List (Key × V)} (ha : H a = some (.dK xs)) (t : LamX.TabS H P q) : LamX.TabS (upd H a (.dK ys)) P q := by
  obtain ⟨ps, e1, t1, t2⟩ := t
  have hP : P ≠ a := fun z => by
    rw [z, ha] at e1
    cases e1
  refine ⟨ps, by rw [upd_ne hP]; exact e1, t1, fun pos cv hc => ?_⟩
  obtain ⟨c, e2, e3⟩ := t2 pos cv hc
  have hc : c ≠ a := fun z => by
    rw [z, ha] at e3
    unfold LamX.CodeO at e3
    cases e3
  exact ⟨c, e2, by rw [upd_ne hc]; exact e3⟩
theorem Rep.blkD {C : Cs} {S0 : Addr → Prop} {H0 Pb : Hp} {σ : St} {H G : Hp} {δ : De} {a : Addr} {xs : List (Key × V)} (vs : List Nat) (R : Rep (C.bx S0 H0) Pb σ H δ) (g : Grow H G) (na : H a = none) (ha : G a = some (.dK xs)) :
    Rep (C.bx (fun b => Own (C.bx S0 H0) σ δ b ∨ b = a) G) (hid (fun b => Own (C.bx S0 H0) σ δ b ∨ b = a) G) (wipe σ vs) G (dWipe δ vs) := by
  have no : ∀ j ds, (dWipe δ vs)[j]? ≠ some (Sl.own ds) := fun j ds h => (dWipe_get (by intro z; cases z) h).2.2 ds rfl
  have own : ∀ b, Own (C.bx (fun b => Own (C.bx S0 H0) σ δ b ∨ b = a) G) (wipe σ vs) (dWipe δ vs) b ↔ (Own (C.bx S0 H0) σ δ b ∨ b = a) := fun b =>
    ⟨fun z => z.elim id fun ⟨j, ds, e1, _⟩ => absurd e1 (no j ds), .inl⟩
  have le : Le (hid (Own (C.bx S0 H0) σ δ) H) (hid (Own (C.bx (fun b => Own (C.bx S0 H0) σ δ b ∨ b = a) G) (wipe σ vs) (dWipe δ vs)) G) := fun b u e n => by
    obtain ⟨h1, h2⟩ := of_hid e
    rw [hid_in]
    · exact g.le b u h2 n
    · intro z
      rcases (own b).mp z with z | z
      · exact h1 z
      · rw [z, na] at h2
        cases h2
  refine ⟨hid_le (Le.refl G) fun b z => (own b).mp z, by rw [wipe_length, dWipe_len]; exact R.len, Grow.refl G, fun b z => ?_, (R.gr g).tabs, fun j d h => ?_, fun j ds h => absurd h (no j ds), fun j k ds es b h => absurd h (no j ds), fun j x h => ?_, fun j b φ h => ?_, R.scr.gr (R.grow.trans g) (R.leB.trans fun b u e n => by
    obtain ⟨h1, h2⟩ := of_hid e
    rw [hid_in]
    · exact g.le b u h2 n
    · rintro (z | z)
      · exact h1 z
      · rw [z, na] at h2
        cases h2) fun b z => .inl (.inl z)⟩
  · show G b ≠ none
    rcases z with z | z
    · exact g.dm b (R.odom b z)
    · rw [z, ha]
      exact fun z => nomatch z
  · obtain ⟨h1, h2, _⟩ := dWipe_get (by intro z; cases z) h
    obtain ⟨v, q1, q2⟩ := R.pers j d h2
    exact ⟨v, by rw [wipe_get, if_neg h1]; exact q1, Le.dp le _ v q2⟩
  · obtain ⟨h1, h2, _⟩ := dWipe_get (by intro z; cases z) h
    rw [wipe_get, if_neg h1]
    exact R.val j x h2
  · obtain ⟨h1, h2, _⟩ := dWipe_get (by intro z; cases z) h
    rw [wipe_get, if_neg h1]
    exact ⟨(R.trk j b φ h2).1, le b _ (R.trk j b φ h2).2 fun ps z => by cases z⟩
theorem dc_it {J : It} {n : Nat} {G : Hp → Prop} {Y : Nat → Hp → V → Hp → Prop} (w : Walk J n G Y) {g : TG} {tt : TT} {tk tv : TE} {vs : List Nat} {σ : St} {H1 : Hp} {D : Addr} {Qd : Hp → Prop} (Pv : Nat → Hp → Prop) (h0 : Pv 0 H1) (hG : ∀ i H, i ≤ n → Pv i H → G H)
    (hs : ∀ i x H H', i < n → Pv i H → Y i H x H' → g x (wipe σ vs) H' fun σ2 H2 => wipe σ2 vs = wipe σ vs ∧ tt σ2 H2 fun b H3 =>
      if b = true then tk σ2 H3 fun y H4 => tv σ2 H4 fun z H5 => ∃ kvs k, y = kV k ∧ H5 D = some (.dK kvs) ∧ kvs.length < sizeLine ∧ Pv (i + 1) (upd H5 D (.dK (putK kvs k z))) else Pv (i + 1) H3) (hd : ∀ H, Pv n H → Qd H) :
    ∃ W : Nat → Nat → Hp → Prop, (∃ m, W 0 m H1) ∧ ∀ i m H, W i m H →
      (J.stop i H ∧ Qd H) ∨ (J.go i H ∧ ∃ Nx : Hp → Prop, (∀ H', Nx H' → ∃ m', m' < m ∧ W (i + 1) m' H') ∧ ∀ x H', J.yld i H x H' → g x (wipe σ vs) H' fun σ2 H2 => wipe σ2 vs = wipe σ vs ∧ tt σ2 H2 fun b H3 =>
        if b = true then tk σ2 H3 fun y H4 => tv σ2 H4 fun z H5 => ∃ kvs k, y = kV k ∧ H5 D = some (.dK kvs) ∧ kvs.length < sizeLine ∧ Nx (upd H5 D (.dK (putK kvs k z))) else Nx H3) := by
  refine ⟨fun i m H => m = n - i ∧ i ≤ n ∧ Pv i H, ⟨n, by simp, Nat.zero_le _, h0⟩, ?_⟩
  rintro i m H ⟨rfl, hi, p⟩
  have q := hG i H hi p
  by_cases hlt : i < n
  · refine .inr ⟨w.goes i H hlt q, Pv (i + 1), fun H' p' => ⟨n - (i + 1), by omega, rfl, hlt, p'⟩, fun x H' y => hs i x H H' hlt p (w.yields i H x H' hlt q y)⟩
  · have e : i = n := by omega
    subst e
    exact .inl ⟨w.stops H q, hd H p⟩
theorem Rep.blkD2 {C : Cs} {S0 : Addr → Prop} {H0 Pb : Hp} {σ : St} {H G : Hp} {δ : De} {a : Addr} (vs : List Nat) (R : Rep (C.bx S0 H0) Pb σ H δ) (gG : Grow H G) (na : H a = none) {xs : List (Key × V)} (ha : G a = some (.dK xs))
    {B2 P2 H4 : Hp} {σ2 : St} {δ1 : De} (R2 : Rep (C.bx (fun b => Own (C.bx S0 H0) σ δ b ∨ b = a) B2) P2 σ2 H4 δ1) (l4 : Le (hid (fun b => Own (C.bx S0 H0) σ δ b ∨ b = a) H4) (hid (fun b => Own (C.bx S0 H0) σ δ b ∨ b = a) G)) :
    Rep (C.bx (fun b => Own (C.bx S0 H0) σ δ b ∨ b = a) G) (hid (fun b => Own (C.bx S0 H0) σ δ b ∨ b = a) G) (wipe σ2 vs) G (dWipe δ1 vs) := by
  have no : ∀ j ds, (dWipe δ1 vs)[j]? ≠ some (Sl.own ds) := fun j ds h => (dWipe_get (by intro z; cases z) h).2.2 ds rfl
  have own : ∀ b, Own (C.bx (fun b => Own (C.bx S0 H0) σ δ b ∨ b = a) G) (wipe σ2 vs) (dWipe δ1 vs) b ↔ (Own (C.bx S0 H0) σ δ b ∨ b = a) := fun b =>
    ⟨fun z => z.elim id fun ⟨j, ds, e1, _⟩ => absurd e1 (no j ds), .inl⟩
  have le : Le (hid (Own (C.bx (fun b => Own (C.bx S0 H0) σ δ b ∨ b = a) B2) σ2 δ1) H4) (hid (Own (C.bx (fun b => Own (C.bx S0 H0) σ δ b ∨ b = a) G) (wipe σ2 vs) (dWipe δ1 vs)) G) := fun b u e n => by
    obtain ⟨h1, h2⟩ := of_hid e
    have nb : ¬ (Own (C.bx S0 H0) σ δ b ∨ b = a) := fun z => h1 (.inl z)
    have := l4 b u (by rw [hid_in nb]; exact h2) n
    obtain ⟨_, h3⟩ := of_hid this
    rw [hid_in fun z => nb ((own b).mp z)]
    exact h3
  refine ⟨hid_le (Le.refl G) fun b z => (own b).mp z, by rw [wipe_length, dWipe_len]; exact R2.len, Grow.refl G, fun b z => ?_, (R.gr gG).tabs, fun j d h => ?_, fun j ds h => absurd h (no j ds), fun j k ds es b h => absurd h (no j ds), fun j x h => ?_, fun j b φ h => ?_, R.scr.gr (R.grow.trans gG) (R.leB.trans fun b u e n => by
    obtain ⟨h1, h2⟩ := of_hid e
    rw [hid_in]
    · exact gG.le b u h2 n
    · rintro (z | z)
      · exact h1 z
      · rw [z, na] at h2
        cases h2) fun b z => .inl (.inl z)⟩
  · show G b ≠ none
    rcases z with z | z
    · exact gG.dm b (R.odom b z)
    · rw [z, ha]
      exact fun z => nomatch z
  · obtain ⟨h1, h2, _⟩ := dWipe_get (by intro z; cases z) h
    obtain ⟨v, q1, q2⟩ := R2.pers j d h2
    exact ⟨v, by rw [wipe_get, if_neg h1]; exact q1, Le.dp le _ v q2⟩
  · obtain ⟨h1, h2, _⟩ := dWipe_get (by intro z; cases z) h
    rw [wipe_get, if_neg h1]
    exact R2.val j x h2
  · obtain ⟨h1, h2, _⟩ := dWipe_get (by intro z; cases z) h
    rw [wipe_get, if_neg h1]
    exact ⟨(R2.trk j b φ h2).1, le b _ (R2.trk j b φ h2).2 fun ps z => by cases z⟩
theorem dc_in {C : Cs} {g : BF} {t : TF} {fk fv : DF} {ix vs : List Nat} (hix : ∀ i ∈ ix, i ∈ vs) {S0 : Addr → Prop} {H0 Pb : Hp} {σ : St} {H : Hp} {δ : De} (R : Rep (C.bx S0 H0) Pb σ H δ) {a : Addr} (nH : H a = none)
    {B2 P2 H4 : Hp} {σ2 : St} {δ1 : De} (R2 : Rep (C.bx (fun b => Own (C.bx S0 H0) σ δ b ∨ b = a) B2) P2 σ2 H4 δ1) (g4 : Grow H H4) {acc0 : List (Key × V)} {ys0 : List D} (ha : H4 a = some (.dK acc0)) (dp0 : DkAll C.K (hid (fun b => Own (C.bx S0 H0) σ δ b ∨ b = a) H4) acc0 ys0)
    {es : List D} {J : It} (it : Items C.K (hid (fun b => Own (C.bx S0 H0) σ δ b ∨ b = a) H4) (obh C H0) es J) (hl : ys0.length + es.length ≤ sizeLine) {Nx : Hp → Prop}
    (h : (lcLoop g t (dKv fk fv) (dWipe δ1 vs) es).run (fun zs => ∀ (acc : List (Key × V)) Hn, Grow H Hn → Le (hid (fun b => Own (C.bx S0 H0) σ δ b ∨ b = a) H4) (hid (fun b => Own (C.bx S0 H0) σ δ b ∨ b = a) Hn) → Hn a = some (.dK acc) → DkAll C.K (hid (fun b => Own (C.bx S0 H0) σ δ b ∨ b = a) Hn) acc (ys0 ++ zs) → Nx Hn) (fun _ => False)) :
    ∃ W : Nat → Nat → Hp → Prop, (∃ m, W 0 m H4) ∧ ∀ i m H, W i m H →
      (J.stop i H ∧ Nx H) ∨ (J.go i H ∧ ∃ Nx1 : Hp → Prop, (∀ H', Nx1 H' → ∃ m', m' < m ∧ W (i + 1) m' H') ∧ ∀ x H', J.yld i H x H' → rG C ix g x (wipe σ2 vs) H' fun σ3 H5 => wipe σ3 vs = wipe σ2 vs ∧ rT C W0 t σ3 H5 fun b H6 =>
        if b = true then rE C W0 fk σ3 H6 fun y H7 => rE C W0 fv σ3 H7 fun z H8 => ∃ kvs k, y = kV k ∧ H8 a = some (.dK kvs) ∧ kvs.length < sizeLine ∧ Nx1 (upd H8 a (.dK (putK kvs k z))) else Nx1 H6) := by
  obtain ⟨Gp, Y, w, hG, hY⟩ := it
  refine dc_it w (fun i Hi => Grow H Hi ∧ Le (hid (fun b => Own (C.bx S0 H0) σ δ b ∨ b = a) H4) (hid (fun b => Own (C.bx S0 H0) σ δ b ∨ b = a) Hi) ∧ ∃ acc ys, Hi a = some (.dK acc) ∧ ys.length ≤ i ∧ DkAll C.K (hid (fun b => Own (C.bx S0 H0) σ δ b ∨ b = a) Hi) acc (ys0 ++ ys) ∧
    (lcLoop g t (dKv fk fv) (dWipe δ1 vs) (es.drop i)).run (fun zs => ∀ (acc : List (Key × V)) Hn, Grow H Hn → Le (hid (fun b => Own (C.bx S0 H0) σ δ b ∨ b = a) H4) (hid (fun b => Own (C.bx S0 H0) σ δ b ∨ b = a) Hn) → Hn a = some (.dK acc) → DkAll C.K (hid (fun b => Own (C.bx S0 H0) σ δ b ∨ b = a) Hn) acc (ys0 ++ (ys ++ zs)) → Nx Hn) (fun _ => False)) ?_ (fun i Hi _ q => hG Hi (q.2.1.trans hid_sub) (obh_le.trans (R.grow.trans q.1).le)) ?_ ?_
  · exact ⟨g4, Le.refl _, acc0, [], ha, Nat.le_refl _, by simpa using dp0, h⟩
  · rintro i x Hi Hi2 hi ⟨gi, li, acc, ys, ha, hyl, dp, hr⟩ y
    have dom : ∀ b, (Own (C.bx S0 H0) σ δ b ∨ b = a) → Hi b ≠ none := fun b z => by
      rcases z with z | z
      · exact gi.dm b (R.odom b z)
      · rw [z, ha]
        exact fun z => nomatch z
    obtain ⟨gw, d, hd, dx⟩ := hY i Hi x Hi2 _ hi li (obh_le.trans (R.grow.trans gi).le) dom y
    have g2 : Grow H Hi2 := gi.trans gw
    have ha2 : Hi2 a = some (.dK acc) := gw.le a _ ha fun ps z => by cases z
    have ed : es.drop i = d :: es.drop (i + 1) := by
      rw [List.drop_eq_getElem_cons hi]
      rw [List.getElem?_eq_getElem hi] at hd
      rw [Option.some.inj hd]
    rw [ed] at hr
    obtain ⟨δ2, hg1, hr⟩ := optW_inv hr
    have li2 := li.trans (hid_le gw.le fun b (z : Own (C.bx S0 H0) σ δ b ∨ b = a) => z)
    have RB := R.blkD2 vs g2 nH ha2 R2 li2
    have ownB : ∀ b, Own (C.bx (fun b => Own (C.bx S0 H0) σ δ b ∨ b = a) Hi2) (wipe σ2 vs) (dWipe δ1 vs) b → (Own (C.bx S0 H0) σ δ b ∨ b = a) := fun b z => by
      rcases z with z | ⟨j, es, e1, _⟩
      · exact z
      · exact absurd rfl ((dWipe_get (by intro z; cases z) e1).2.2 es)
    have sup : ∀ σ' δ' b, (Own (C.bx S0 H0) σ δ b ∨ b = a) → Own (C.bx (fun b => Own (C.bx S0 H0) σ δ b ∨ b = a) Hi2) σ' δ' b := fun _ _ _ z => .inl z
    refine ⟨_, _, _, dWipe δ1 vs, d, δ2, RB, Le.dp (hid_le (Le.refl _) ownB) d x dx, hg1, fun σ3 R3 o3 w3 => ⟨?_, ?_⟩⟩
    · rw [w3 vs hix, wipe_idem]
    refine ⟨_, _, _, δ2, R3, (t δ2).mono (fun b hb H3 g3 => ?_) (fun x hx => hx.elim) hr⟩
    have g3' : Grow H H3 := g2.trans g3
    have ha3 : H3 a = some (.dK acc) := g3.le a _ ha2 fun ps z => by cases z
    have li3 : Le (hid (fun b => Own (C.bx S0 H0) σ δ b ∨ b = a) H4) (hid (fun b => Own (C.bx S0 H0) σ δ b ∨ b = a) H3) := li2.trans (hid_le g3.le fun _ z => z)
    have dp3 : DkAll C.K (hid (fun b => Own (C.bx S0 H0) σ δ b ∨ b = a) H3) acc (ys0 ++ ys) := Le.dks (hid_le (gw.trans g3).le fun _ z => z) _ acc dp
    cases b with
    | false => exact ⟨g3', li3, acc, ys, ha3, Nat.le_succ_of_le hyl, dp3, hb⟩
    | true =>
      refine ⟨_, _, _, δ2, R3.gr g3, (fk δ2).mono (fun yk hy v H4 g4b dk => ?_) (fun x hx => hx.elim) hb⟩
      obtain ⟨⟨k, rfl⟩, hy⟩ := hy
      cases dk
      refine ⟨_, _, _, δ2, (R3.gr g3).gr g4b, (fv δ2).mono (fun yd hy v H5 g5b dv => ?_) (fun x hx => hx.elim) hy⟩
      have g5 := g4b.trans g5b
      have ha5 : H5 a = some (.dK acc) := g5.le a _ ha3 fun ps z => by cases z
      have keep : ∀ b, b ≠ a → upd H5 a (.dK (putK acc (Sum.inl k) v)) b = H5 b := fun b nb => upd_ne nb
      have leA : Le (hid (fun b => Own (C.bx S0 H0) σ δ b ∨ b = a) H5) (hid (fun b => Own (C.bx S0 H0) σ δ b ∨ b = a) (upd H5 a (.dK (putK acc (Sum.inl k) v)))) := fun b u e n => by
        obtain ⟨h1, h2⟩ := of_hid e
        rw [hid_in h1, keep b fun z => h1 (.inr z)]
        exact h2
      have al : acc.length ≤ ys0.length + ys.length := by rw [← List.length_append]; exact dks_len dp
      refine ⟨acc, Sum.inl k, rfl, ha5, by omega, ⟨fun b u e n => ?_, fun P hP => ?_, fun b hb => ?_, fun P q hp t => TabS.putD ha5 ((g3'.trans g5).pr P q hp t)⟩, li3.trans ((hid_le g5.le fun _ z => z).trans leA), putK acc (Sum.inl k) v, ys ++ [.tuple [.int k, yd]], upd_same, by rw [List.length_append]; exact Nat.succ_le_succ hyl, ?_, ?_⟩
      · rw [keep b (ne_of_none e nH)]
        exact (g3'.trans g5).le b u e n
      · obtain ⟨ps, e, tr⟩ := (g3'.trans g5).tb P hP
        exact ⟨ps, by rw [keep P (ne_of e ha5 fun z => by cases z)]; exact e, tr⟩
      · by_cases c : b = a
        · rw [c, upd_same]
          exact fun z => nomatch z
        · rw [keep b c]
          exact (g3'.trans g5).dm b hb
      · rw [← List.append_assoc]
        refine Le.dks leA _ _ (dks_snoc (Le.dks (hid_le g5.le fun _ z => z) _ acc dp3) ?_)
        exact Le.dp (hid_le (Le.refl H5) fun b z => sup σ3 δ2 b z) yd v dv
      · refine (lcLoop g t (dKv fk fv) (dWipe δ1 vs) (es.drop (i + 1))).mono (fun zs hz => ?_) (fun _ z => z) hy
        rw [List.append_assoc]
        exact hz
  · rintro Hn ⟨gn, ln, acc, ys, ha, hyl, dp, hr⟩
    rw [List.drop_length] at hr
    have hr' : ∀ (acc : List (Key × V)) Hn, Grow H Hn → Le (hid (fun b => Own (C.bx S0 H0) σ δ b ∨ b = a) H4) (hid (fun b => Own (C.bx S0 H0) σ δ b ∨ b = a) Hn) → Hn a = some (.dK acc) → DkAll C.K (hid (fun b => Own (C.bx S0 H0) σ δ b ∨ b = a) Hn) acc (ys0 ++ (ys ++ [])) → Nx Hn := hr
    rw [List.append_nil] at hr'
    exact hr' acc Hn gn ln ha dp
theorem dc2_read {C : Cs} {W : WX} {wi : TI} {fi fi1 : De → Wp (List D)} {g g1 : BF} {ix ix1 vs vs1 : List Nat} {t t1 : TF} {fk fv : DF}
    (qw : ∀ S0 H0 Pb σ H δ Q, Rep (C.bx S0 H0) Pb σ H δ → (fi δ).run (fun ds => ∀ J G, Grow H G → Items C.K (hid (Own (C.bx S0 H0) σ δ) G) (obh C H0) ds J → Q J G) (Ew (C.bx S0 H0) W σ H) → wi σ H Q) (hix : ∀ i ∈ ix, i ∈ vs) (hix1 : ∀ i ∈ ix1, i ∈ vs1)
    {S0 : Addr → Prop} {H0 Pb : Hp} {σ : St} {H : Hp} {δ : De} {Q : VK} (R : Rep (C.bx S0 H0) Pb σ H δ)
    (h : (fi δ).run (fun ds => (lc2Loop g t fi1 g1 t1 (dKv fk fv) (dWipe δ vs) vs1 0 ds).run (fun ds => ∀ a (xs : List (Key × V)) G, Grow H G → H a = none → G a = some (.dK xs) → DkAll C.K (hid (fun b => Own (C.bx S0 H0) σ δ b ∨ b = a) G) xs ds → Q (.ref a) G) (fun _ => False)) (Ew (C.bx S0 H0) W σ H)) :
    tDc2 wi (rG C ix g) (rT C W0 t) (rI C W0 fi1) (rG C ix1 g1) (rT C W0 t1) (rE C W0 fk) (rE C W0 fv) vs vs1 σ H Q := by
  refine qw S0 H0 Pb σ H δ _ R ((fi δ).mono (fun ds h J G gr it => ?_) (fun _ z => z) h)
  intro a na
  have nH : H a = none := gr.free na
  obtain ⟨Gp, Y, w, hG, hY⟩ := it
  have g0 : Grow G (upd G a (.dK [])) := Grow.new na
  let Pv : Nat → Hp → Prop := fun i Hi => Grow H Hi ∧ Le (hid (Own (C.bx S0 H0) σ δ) G) (hid (fun b => Own (C.bx S0 H0) σ δ b ∨ b = a) Hi) ∧ ∃ acc ys, Hi a = some (.dK acc) ∧ DkAll C.K (hid (fun b => Own (C.bx S0 H0) σ δ b ∨ b = a) Hi) acc ys ∧
    (lc2Loop g t fi1 g1 t1 (dKv fk fv) (dWipe δ vs) vs1 ys.length (ds.drop i)).run (fun zs => ∀ a (xs : List (Key × V)) G, Grow H G → H a = none → G a = some (.dK xs) → DkAll C.K (hid (fun b => Own (C.bx S0 H0) σ δ b ∨ b = a) G) xs (ys ++ zs) → Q (.ref a) G) (fun _ => False)
  have h0 : Pv 0 (upd G a (.dK [])) := by
    refine ⟨gr.trans g0, fun b u e n => ?_, [], [], upd_same, ⟨rfl, .nil⟩, h⟩
    obtain ⟨h1, h2⟩ := of_hid e
    have nb : b ≠ a := ne_of_none h2 na
    rw [hid_in, upd_ne nb]
    · exact h2
    · exact fun z => z.elim h1 nb
  refine ⟨fun i m H => m = ds.length - i ∧ i ≤ ds.length ∧ Pv i H, ⟨ds.length, by simp, Nat.zero_le _, h0⟩, ?_⟩
  rintro i m Hi ⟨rfl, hi, p⟩
  have q := hG Hi (p.2.1.trans hid_sub) (obh_le.trans (R.grow.trans p.1).le)
  by_cases hlt : i < ds.length
  case neg =>
    have e : i = ds.length := by omega
    subst e
    refine .inl ⟨w.stops Hi q, ?_⟩
    obtain ⟨gn, ln, acc, ys, ha, dp, hr⟩ := p
    rw [List.drop_length] at hr
    have hr' : ∀ a (xs : List (Key × V)) G, Grow H G → H a = none → G a = some (.dK xs) → DkAll C.K (hid (fun b => Own (C.bx S0 H0) σ δ b ∨ b = a) G) xs (ys ++ []) → Q (.ref a) G := hr
    rw [List.append_nil] at hr'
    exact hr' a acc Hi gn nH ha dp
  case pos =>
  refine .inr ⟨w.goes i Hi hlt q, Pv (i + 1), fun H' p' => ⟨ds.length - (i + 1), by omega, rfl, hlt, p'⟩, fun x Hi2 yl => ?_⟩
  have y := w.yields i Hi x Hi2 hlt q yl
  clear q yl hi
  have hi := hlt
  obtain ⟨gi, li, acc, ys, ha, dp, hr⟩ := p
  have dom : ∀ b, (Own (C.bx S0 H0) σ δ b ∨ b = a) → Hi b ≠ none := fun b z => by
    rcases z with z | z
    · exact gi.dm b (R.odom b z)
    · rw [z, ha]
      exact fun z => nomatch z
  obtain ⟨gw, d, hd, dx⟩ := hY i Hi x Hi2 _ hi li (obh_le.trans (R.grow.trans gi).le) dom y
  have g2 : Grow H Hi2 := gi.trans gw
  have ha2 : Hi2 a = some (.dK acc) := gw.le a _ ha fun ps z => by cases z
  have ed : ds.drop i = d :: ds.drop (i + 1) := by
    rw [List.drop_eq_getElem_cons hi]
    rw [List.getElem?_eq_getElem hi] at hd
    rw [Option.some.inj hd]
  rw [ed] at hr
  obtain ⟨δ1, hg1, hr⟩ := optW_inv hr
  have RB := R.blkD vs g2 nH ha2
  have ownB : ∀ b, Own (C.bx (fun b => Own (C.bx S0 H0) σ δ b ∨ b = a) Hi2) (wipe σ vs) (dWipe δ vs) b → (Own (C.bx S0 H0) σ δ b ∨ b = a) := fun b z => by
    rcases z with z | ⟨j, es, e1, _⟩
    · exact z
    · exact absurd rfl ((dWipe_get (by intro z; cases z) e1).2.2 es)
  refine ⟨_, _, _, dWipe δ vs, d, δ1, RB, Le.dp (hid_le (Le.refl _) ownB) d x dx, hg1, fun σ2 R2 o2 w2 => ⟨?_, ?_⟩⟩
  · rw [w2 vs hix, wipe_idem]
  refine ⟨_, _, _, δ1, R2, (t δ1).mono (fun b hb H3 g3 => ?_) (fun x hx => hx.elim) hr⟩
  have g3' : Grow H H3 := g2.trans g3
  have ha3 : H3 a = some (.dK acc) := g3.le a _ ha2 fun ps z => by cases z
  have li3 : Le (hid (Own (C.bx S0 H0) σ δ) G) (hid (fun b => Own (C.bx S0 H0) σ δ b ∨ b = a) H3) := li.trans (hid_le (gw.trans g3).le fun _ z => z)
  have dp3 : DkAll C.K (hid (fun b => Own (C.bx S0 H0) σ δ b ∨ b = a) H3) acc ys := Le.dks (hid_le (gw.trans g3).le fun _ z => z) ys acc dp
  cases b with
  | false => exact ⟨g3', li3, acc, ys, ha3, dp3, hb⟩
  | true =>
    refine ⟨_, _, _, δ1, R2.gr g3, (fi1 δ1).mono (fun es hes J1 H4 g4 it1 => ?_) (fun x hx => hx.elim) hb⟩
    have g4' : Grow H H4 := g3'.trans g4
    have ha4 : H4 a = some (.dK acc) := g4.le a _ ha3 fun ps z => by cases z
    have it2 : Items C.K (hid (fun b => Own (C.bx S0 H0) σ δ b ∨ b = a) H4) (obh C H0) es J1 := it1.mono (hid_le (Le.refl _) fun b z => .inl z) (obh_back R.scr (R.grow.trans g2).le)
    have dp4 : DkAll C.K (hid (fun b => Own (C.bx S0 H0) σ δ b ∨ b = a) H4) acc ys := Le.dks (hid_le g4.le fun _ z => z) ys acc dp3
    have li4 := li3.trans (hid_le g4.le fun b (z : Own (C.bx S0 H0) σ δ b ∨ b = a) => z)
    refine dc_in hix1 R nH ((R2.gr g3).gr g4) g4' ha4 dp4 it2 hes.1 (Nx := Pv (i + 1)) ?_
    refine (lcLoop g1 t1 (dKv fk fv) (dWipe δ1 vs1) es).mono (fun zs hz acc' Hn gn ln han dpn => ?_) (fun _ z => z) hes.2
    refine ⟨gn, li4.trans ln, acc', ys ++ zs, han, dpn, ?_⟩
    rw [List.length_append]
    refine (lc2Loop g t fi1 g1 t1 (dKv fk fv) (dWipe δ vs) vs1 (ys.length + zs.length) (ds.drop (i + 1))).mono (fun us hu => ?_) (fun _ z => z) hz
    rw [List.append_assoc]
    exact hu
end Tr

namespace Tr
open PySem PySem.Spec L2
variable [ProtC]
def dDi (ps : List (Int × D)) : D := .dict (ps.map fun p => (.int p.1, p.2))
def dDc2 (fi : De → Wp (List D)) (g : BF) (t : TF) (fi1 : De → Wp (List D)) (g1 : BF) (t1 : TF) (fk fv : DF) (vs vs1 : List Nat) : DF := fun δ => (fi δ).bind fun ds => ((lc2Loop g t fi1 g1 t1 (dKv fk fv) (dWipe δ vs) vs1 0 ds).nox).bind fun prs => .pure (dDi (dctI prs))
section
variable {X : Cx} {C : Cs} {W : WX} {pos : Pos} {kx vx tg iter tg1 iter1 : Expr} {ifs ifs1 : List Expr} {scope : Scope} {own : List (Str × Nat)} {fi fi1 : De → Wp (List D)} {g g1 : BF} {ix ix1 vs1 : List Nat} {t t1 : TF} {fk fv : DF}
theorem de_dc2 (hc : X.calm = true) (hN : X.N.Nodup) (hi : DI X C W tg iter fi) (ok : BlkOk X.N X.env.scope scope own) (hv : ∀ i ∈ vs1, i ∈ own.map (·.2)) (hix : ∀ i ∈ ix, i ∈ own.map (·.2)) (hix1 : ∀ i ∈ ix1, i ∈ vs1)
    (hg : ∀ (s : Shared) (H : Hp) (Ca : Addr) (cl : List (Str × Addr)) (fp : List Addr), DG (X.blk s H scope (compEnvC scope cl Ca X.env) fp) C tg ix g) (ht : ∀ (s : Shared) (H : Hp) (Ca : Addr) (cl : List (Str × Addr)) (fp : List Addr), DTs (X.blk s H scope (compEnvC scope cl Ca X.env) fp) C W0 ifs t)
    (hi1 : ∀ (s : Shared) (H : Hp) (Ca : Addr) (cl : List (Str × Addr)) (fp : List Addr), DI (X.blk s H scope (compEnvC scope cl Ca X.env) fp) C W0 tg1 iter1 fi1)
    (hg1 : ∀ (s : Shared) (H : Hp) (Ca : Addr) (cl : List (Str × Addr)) (fp : List Addr), DG (X.blk s H scope (compEnvC scope cl Ca X.env) fp) C tg1 ix1 g1) (ht1 : ∀ (s : Shared) (H : Hp) (Ca : Addr) (cl : List (Str × Addr)) (fp : List Addr), DTs (X.blk s H scope (compEnvC scope cl Ca X.env) fp) C W0 ifs1 t1)
    (hk : ∀ (s : Shared) (H : Hp) (Ca : Addr) (cl : List (Str × Addr)) (fp : List Addr), DE (X.blk s H scope (compEnvC scope cl Ca X.env) fp) C W0 kx fk)
    (he : ∀ (s : Shared) (H : Hp) (Ca : Addr) (cl : List (Str × Addr)) (fp : List Addr), DE (X.blk s H scope (compEnvC scope cl Ca X.env) fp) C W0 vx fv) (hs : ∀ x, foldedSetIterable iter X.env x = pure x := by intro _; rfl) (hs1 : ∀ env x, foldedSetIterable iter1 env x = pure x := by intro _ _; rfl) :
    DE X C W (.DictComp kx vx [⟨tg, iter, ifs, 0⟩, ⟨tg1, iter1, ifs1, 0⟩] scope pos) (dDc2 fi g t fi1 g1 t1 fk fv (own.map (·.2)) vs1) := by
  obtain ⟨wi, pw, qw⟩ := hi
  refine ⟨_, pe_lkd (pe_dc2 hc hN pw ok hv (fun s H Ca cl fp => (hg s H Ca cl fp).to) ht (fun s H Ca cl fp => (hi1 s H Ca cl fp).to) (fun s H Ca cl fp => (hg1 s H Ca cl fp).to) ht1 (fun s H Ca cl fp => (hk s H Ca cl fp).to) (fun s H Ca cl fp => (he s H Ca cl fp).to) hs hs1), fun S0 H0 Pb σ H δ Q R h => ?_⟩
  refine dc2_read qw hix hix1 R ((fi δ).mono (fun ds hd => ?_) (fun _ z => z) h)
  refine (lc2Loop g t fi1 g1 t1 (dKv fk fv) (dWipe δ (own.map (·.2))) vs1 0 ds).mono (fun prs hy => ?_) (fun _ z => z) (show (lc2Loop g t fi1 g1 t1 (dKv fk fv) (dWipe δ (own.map (·.2))) vs1 0 ds).run _ _ from hd)
  intro a xs G gr na ha dk
  have hy : Dv (C.bx S0 H0) σ H δ Q (dDi (dctI prs)) := hy
  refine new_dkd R gr na ha ?_ ?_ hy
  · have e := dk.1
    rw [List.map_map]
    show xs.map (fun q => keyD q.1) = (dctI prs).map fun p => PyData.int p.1
    have e2 : xs.map (fun q => keyD q.1) = (xs.map (·.1)).map keyD := by rw [List.map_map]; rfl
    rw [e2, e, List.map_map]
    rfl
  · have e3 : ((dctI prs).map fun p => ((PyData.int p.1 : D), p.2)).map (·.2) = (dctI prs).map (·.2) := by rw [List.map_map]; rfl
    rw [e3]
    exact dk.2
end
section
variable {X : Cx} {C : Cs} {W : WX} {p pos : Pos} {e : Expr} {f : DF} {k : Nat}
theorem keys_inl : ∀ {kvs : List (Key × V)} {ps : List (Int × D)}, kvs.map (fun q => keyD q.1) = ps.map (fun p => PyData.int p.1) → kvs.map (·.1) = (ps.map (·.1)).map Sum.inl
  | [], [], _ => rfl
  | [], _ :: _, h => by cases h
  | _ :: _, [], h => by cases h
  | x :: kvs, p :: ps, h => by
    rw [List.map_cons, List.map_cons] at h
    have h1 := (List.cons.inj h).1
    rw [List.map_cons, List.map_cons, List.map_cons, keys_inl (List.cons.inj h).2]
    congr 1
    cases hx : x.1 with
    | inl z =>
      rw [hx] at h1
      have h1 : PyData.int z = PyData.int p.1 := h1
      rw [PyData.int.inj h1]
    | inr z =>
      rw [hx] at h1
      have h1 : PyData.str z = PyData.int p.1 := h1
      cases h1
end
def dedI (ns : List Int) : List Int := ns.foldl PyProof.Rows.step_dedup []
def dLenSet (f : DF) : DF := fun δ => (f δ).bind fun d => (lstD d).bind fun ds => .need (∃ ns : List Int, ds = ns.map .int ∧ ns.length ≤ 4000) ((Wp.any fun z : Int => ∀ ns : List Int, ds = ns.map .int → z = ((dedI ns).length : Nat)).bind fun z => .pure (.int z))
section
open PyProof.Rows PySem.Calls PySem.W
end
theorem dps_int : ∀ {K : PySem.W.Frag} {H : Hp} {ns : List Int} {xs : List V}, DpAll K H xs (ns.map .int) → xs = ns.map V.int
  | _, _, [], _, .nil => rfl
  | _, _, n :: ns, _, .cons h t => by
    cases h
    rw [dps_int t]
    rfl
@[simp] theorem rw_dLenSet {f : DF} {δ : De} : dLenSet f δ = (f δ).bind fun d => (lstD d).bind fun ds => .need (∃ ns : List Int, ds = ns.map .int ∧ ns.length ≤ 4000) ((Wp.any fun z : Int => ∀ ns : List Int, ds = ns.map .int → z = ((dedI ns).length : Nat)).bind fun z => .pure (.int z)) := rfl
end Tr

namespace PySem.W
open PySem PySem.Calls PyProof.Rows
end PySem.W
namespace Tr
open PySem PySem.Spec L2 PyProof.Rows PySem.W
variable [ProtC]
end Tr

namespace Tr
open PySem PySem.Spec L2
variable [ProtC]
section
variable {X : Cx} {pins : List (Addr × Obj)} {σ : St} {H : Hp} {s : Shared}
theorem lam_make4 {c P : Addr} {params : Arguments} {body : Expr} {scope : Scope} {pos : Pos} {E : Value → Shared → Prop} {Q : Value → Shared → Prop} (I : Inv X pins σ H s) (TB : LamX.TabB X.base X.mg c P) (hcode : X.env.code = .ref c)
    (hu : ∀ q, ProtC.p P q → q = X.env.qual ++ "<lambda>") (hT : LamX.TabS H P (X.env.qual ++ "<lambda>")) (hdef : defaultsOf params X.env = ([], [])) (hfree : ∀ y ∈ scope.names, y.2 = .free → ∃ c, X.env.cells.lookup y.1 = some c)
    (h : ∀ (f c' : Addr) (pm ctv : Value) (H1 : Hp) (s' : Shared), Inv X pins σ H1 s' → Grow H H1 → H1 f = none → f ∉ frs X.stack →
      s'.heap.get? f = some (PySem.W.kla_obj "<lambda>" (X.env.qual ++ "<lambda>") params body scope (cloFrom X.env.cells scope.names []) pm c' ctv) →
      H1 c' = some (LamX.CodeO c' (X.env.qual ++ "<lambda>")) → Q (.ref f) s') :
    wpAny (model X.prog X.w) X.A (eval (.Lambda params body scope pos) X.env) Q E s := by
  obtain ⟨ps, hP, ht, ha⟩ := hT
  refine PySem.W.kla_eval hdef ?_
  have bP : s.heap.BuiltinsAt X.mg P := TB.bm.keeps I.bk
  have hP' : s.heap.get? P = some { cls := .none, data := .fields ps } := I.hok P _ hP
  have nofr : ∀ f, s.heap.objs.size ≤ f → f ∉ frs X.stack := fun f hf z => by
    cases List.mem_cons.mp (I.stkSub _ z) with
    | inl e =>
      have h1 := I.lt
      rw [← e] at h1
      exact absurd (Nat.lt_of_lt_of_le h1 hf) (Nat.lt_irrefl _)
    | inr e => exact I.nofs hf e
  cases hc : codeAmong pos ps.toList with
  | none =>
    refine PySem.W.kla_makeFunction (mg := X.mg) (c := c) (P := P) (ps := ps) (closure_ok hfree) I.ok.glob (I.mod.glob.keeps I.bk) hcode (TB.code.keeps I.bk) hP' ht hc TB.gP bP fun c' ctv h' tk hx hge hlt hrec htb => ?_
    obtain ⟨c2, oc, vs, t, e2, hoc, hd, hv⟩ := hrec
    cases e2
    have hsz : s.heap.objs.size ≤ h'.objs.size := Nat.le_trans hge (Nat.le_of_lt hlt)
    have nC : H c' = none := I.hok.fresh hge
    have I1 := LamX.inv_table (t' := tk) (q := X.env.qual ++ "<lambda>") (more := #[rawInt pos.line, rawInt pos.col, .ref c']) (h' := h') I hP (fun b o hb e => hx b o hb e) htb hge ⟨oc, vs, t, hoc, hd, hv⟩
    have n1 : h'.objs.size ≠ c' := Nat.ne_of_gt hlt
    have n2 : h'.objs.size ≠ P := Nat.ne_of_gt (Nat.lt_of_lt_of_le (Heap.lt_size hP') hsz)
    have nf : H h'.objs.size = none := I.hok.fresh hsz
    have nf1 : upd (upd H P (.tbl (ps ++ #[rawInt pos.line, rawInt pos.col, .ref c']))) c' (LamX.CodeO c' (X.env.qual ++ "<lambda>")) h'.objs.size = none := by rw [upd_ne n1, upd_ne n2]; exact nf
    have I2 : Inv X pins σ _ { s with heap := h'.push (PySem.W.kla_obj "<lambda>" (X.env.qual ++ "<lambda>") params body scope (cloFrom X.env.cells scope.names []) ((X.mg "__name__").getD .none) c' ctv), toks := tk } :=
      I1.kept fun b u e => Heap.get?_push_of_some _ e
    have eL : (ps ++ #[rawInt pos.line, rawInt pos.col, .ref c']).toList = ps.toList ++ [rawInt pos.line, rawInt pos.col, .ref c'] := by simp
    have hP2 : upd (upd H P (.tbl (ps ++ #[rawInt pos.line, rawInt pos.col, .ref c']))) c' (LamX.CodeO c' (X.env.qual ++ "<lambda>")) P = some (.tbl (ps ++ #[rawInt pos.line, rawInt pos.col, .ref c'])) := by rw [upd_ne (ne_of_none hP nC), upd_same]
    have g1 : Grow H (upd (upd H P (.tbl (ps ++ #[rawInt pos.line, rawInt pos.col, .ref c']))) c' (LamX.CodeO c' (X.env.qual ++ "<lambda>"))) := by
      have hE : ∀ b o, H b = some o → (∀ ps, o ≠ .tbl ps) → upd (upd H P (.tbl (ps ++ #[rawInt pos.line, rawInt pos.col, .ref c']))) c' (LamX.CodeO c' (X.env.qual ++ "<lambda>")) b = some o := fun b o e n => by
        rw [upd_ne (ne_of_none e nC), upd_ne (fun z => n ps (Option.some.inj (e.symm.trans (by rw [z]; exact hP))))]
        exact e
      refine ⟨hE, fun P' t => ?_, fun b n => ?_, fun P' q' hp t => ?_⟩
      · by_cases hb : P' = P
        · subst hb
          exact ⟨_, hP2, by rw [eL]; exact PySem.TriplesOk_snoc _ _ _ _ ht⟩
        · obtain ⟨qs, e, tr⟩ := t
          exact ⟨qs, by rw [upd_ne (ne_of_none e nC), upd_ne hb]; exact e, tr⟩
      · by_cases hb : b = c'
        · rw [hb, upd_same]; exact fun z => nomatch z
        · rw [upd_ne hb]
          by_cases hb2 : b = P
          · rw [hb2, upd_same]; exact fun z => nomatch z
          · rw [upd_ne hb2]; exact n
      · by_cases hb : P' = P
        · subst hb
          obtain rfl := hu q' hp
          refine ⟨_, hP2, by rw [eL]; exact PySem.TriplesOk_snoc _ _ _ _ ht, fun p' cv hcv => ?_⟩
          rw [eL] at hcv
          rcases LamX.among_app _ ht hcv with z | z
          · obtain ⟨c0, e1, e2⟩ := ha p' cv z
            exact ⟨c0, e1, hE _ _ e2 LamX.codeO_ne⟩
          · exact ⟨c', z, upd_same⟩
        · obtain ⟨ps', a1, a2, a3⟩ := t
          refine ⟨ps', by rw [upd_ne (ne_of_none a1 nC), upd_ne hb]; exact a1, a2, fun p' cv hcv => ?_⟩
          obtain ⟨c0, e1, e2⟩ := a3 p' cv hcv
          exact ⟨c0, e1, hE _ _ e2 LamX.codeO_ne⟩
    exact h h'.objs.size c' ((X.mg "__name__").getD .none) ctv _ _ I2 g1 nf1 (nofr _ hsz) (Heap.get?_push_size _ rfl) upd_same
  | some cv =>
    obtain ⟨c', e, hco⟩ := ha pos cv hc
    subst e
    refine PySem.W.kla_makeFunctionHit (mg := X.mg) (c := c) (P := P) (ps := ps) (closure_ok hfree) I.ok.glob (I.mod.glob.keeps I.bk) hcode (TB.code.keeps I.bk) hP' ht hc bP fun ctv h' tk hx hsz => ?_
    have I1 : Inv X pins σ H { s with heap := h', toks := tk } := I.kept hx
    have nf : H h'.objs.size = none := I.hok.fresh hsz
    have I2 : Inv X pins σ H { s with heap := h'.push (PySem.W.kla_obj "<lambda>" (X.env.qual ++ "<lambda>") params body scope (cloFrom X.env.cells scope.names []) ((X.mg "__name__").getD .none) c' ctv), toks := tk } :=
      I1.kept fun b u e => Heap.get?_push_of_some _ e
    exact h h'.objs.size c' ((X.mg "__name__").getD .none) ctv H _ I2 (Grow.refl H) nf (nofr _ hsz) (Heap.get?_push_size _ rfl) hco
end

section
variable {X : Cx}
def tL4 (P : Addr) (q : Str) (TT : (XK → Hp → VK → Prop) → Hp → VK → Prop) (t : XK → TE) : TE := fun σ H Q => LamX.TabS H P q ∧ ∀ H1, Grow H H1 → TT (fun E H' Q' => t E σ H' Q') H1 Q
theorem pe_lam4 {TT : (XK → Hp → VK → Prop) → Hp → VK → Prop} {x a : Str} {g c P : Addr} {k : Nat} {pg : Arguments} {bg : List Stmt} {sg : Scope} {fd : FuncData} {Ng : List Str}
    {params : Arguments} {body : Expr} {scope : Scope} {t : XK → TE} {p lpos pos : Pos} (hg : Gl X x) (hm : X.mg x = some (.ref g)) (F : FunD X.K x x pg bg sg [] [] g fd)
    (hb : L2.Binds X.K fd [a] []) (Sg : FnScope Ng [a] sg) (hNg : Ng[0]? = some a) (hva : Vis sg a)
    (hG : ∀ cdv : Value, LamX.GivesTo X Ng x sg g cdv bg a (X.env.qual ++ "<lambda>") TT)
    (TB : LamX.TabB X.base X.mg c P) (hcode : X.env.code = .ref c) (hu : ∀ q, ProtC.p P q → q = X.env.qual ++ "<lambda>") (hr : Room (k + 2) X.A) (L : LamX.LamS X.env.scope scope) (hdef : defaultsOf params X.env = ([], []))
    (hbind : ∀ (q : Str) (cl : List (Str × Addr)) (pm cv ctv : Value), bindArgs (PySem.W.kla_fn "<lambda>" q params body scope cl pm cv ctv) ⟨[], []⟩ = pure [])
    (hbody : ∀ (A : Around) (outer : List Env) (s : Shared) (H : Hp) (E : XK) (f c' : Addr), Room k (A.deeper (LamX.lamEnv X scope s.heap.objs.size f c')) → PE (LamX.lamCx X A outer s H E scope f c') body (t E))
    (hdb : (x == ("__debug__" : Str)) = false := by decide) (hd : (a == ("__debug__" : Str)) = false := by decide) (hcd : (a == ("__classdict__" : Str)) = false := by decide) :
    PE X (.Call (.Name x p) [.Lambda params body scope lpos] [] pos) (tL4 P (X.env.qual ++ "<lambda>") TT t) := by
  refine ⟨fun pins s σ H Q I h => ?_⟩
  obtain ⟨hT, h⟩ := h
  obtain ⟨oc, od, dV, kV, doc, pm0, an, cdv, ct, osl, rfl, lk, hcg, _, _⟩ := F.ex
  refine wpAny_Call_Name_kw (ld_glob I hg hm ?_ hdb)
  refine PySem.W.callWith_K (h₀ := X.base) I.ok.mod.kin F.kp ?_ (by rfl) (by rfl)
  show wpAny _ _ (spliced
    ((false, eval (.Lambda params body scope lpos) X.env) :: backTo pos (starEach [] X.env))) _ _ s
  refine Calls.spliced_cons (lam_make4 I TB hcode hu hT hdef (L.has I.ok)
    fun f c' pm ctv H1 s1 I1 gr fn fr fo co => Calls.spliced_nil ⟨I1.kIn, ?_⟩)
  have run1 : codeAny (model X.prog X.w) X.A (.call (.ref g) ⟨[.ref f], []⟩) (CR C8.CX0 X.stack X.prog X.w H1 s1 Q C8.E0) s1 :=
    LamX.run_ofS (N := Ng) (ps := [a]) (us := [.ref f]) (vs := [.ref f]) lk hcg Sg hr I1.env0 (hb s1 [.ref f] I1.kIn rfl) (.cons rfl .nil) rfl fun hr1 => by
      obtain ⟨tt, h1, h2⟩ := hG cdv f c' s1 H1 Q (fun E H' Q' => t E σ H' Q')
        (fun W pn xe E p1 p2 tk hW => LamX.pe_act (i := 0) I1 L fo fn fr (hbind _ _ _ _ _) tk hW hr1
          (fun A outer s H hr2 => hbody A outer s H E f c' hr2) hNg hva hd hcd) co (h H1 gr)
      exact ⟨tt, h1.nox, h2⟩
  refine wpAny_call (codeAny_mono run1 fun r z hq => ?_)
  match r, hq with
  | .error e, hq => exact (show False from hq).elim
  | .ok (.ret u), hq => exact I1.after hq
  | .ok .next, hq => exact False.elim hq
  | .ok .brk, hq => exact False.elim hq
  | .ok .cont, hq => exact False.elim hq
end
def wL (E : XK) : WX := fun cls d _ H => E cls d H
def tD4 (C : Cs) (F : DF) (E : XK) : TE := fun σ H Q => ∃ S0 H0 Pb δ, Rep (C.bx S0 H0) Pb σ H δ ∧ (F δ).run (Dv (C.bx S0 H0) σ H δ Q) (Ew (C.bx S0 H0) (wL E) σ H)
theorem pe_tD4 {X : Cx} {C : Cs} {E : XK} {e : Expr} {F : DF} (h : DE X C (wL E) e F) : PE X e (tD4 C F E) := by
  obtain ⟨t, p, q⟩ := h
  exact ⟨fun pins s σ H Q I ⟨S0, H0, Pb, δ, R, h⟩ => p.run pins s σ H Q I (q S0 H0 Pb σ H δ Q R h)⟩
def LFr4 (X : Cx) (scope : Scope) (k : Nat) (p : XK → Cx → Prop) : Prop := ∀ (A : Around) (outer : List Env) (s : Shared) (H : Hp) (E : XK) (f c' : Addr), Room k (A.deeper (LamX.lamEnv X scope s.heap.objs.size f c')) → p E (LamX.lamCx X A outer s H E scope f c')
end Tr

namespace Tr
open PySem PySem.Spec L2
section
variable {K : PySem.W.Frag}
theorem excB_ok {D : Addr} (h : excB K D = true) : ExcC K D := by
  obtain ⟨h1, h⟩ := Bool.and_eq_true_iff.mp h
  obtain ⟨h2, h⟩ := Bool.and_eq_true_iff.mp h
  obtain ⟨h3, h⟩ := Bool.and_eq_true_iff.mp h
  obtain ⟨h4, h⟩ := Bool.and_eq_true_iff.mp h
  obtain ⟨h5, h⟩ := Bool.and_eq_true_iff.mp h
  obtain ⟨h6, h⟩ := Bool.and_eq_true_iff.mp h
  obtain ⟨h7, h8⟩ := Bool.and_eq_true_iff.mp h
  exact ⟨He.eqO_ok h1, He.eqO_ok h2, of_decide_eq_true h3, h4, He.eqO_ok h5, He.eqO_ok h6, of_decide_eq_true h7, of_decide_eq_true h8⟩
theorem oexB_ok {C : Addr} (h : oexB K C = true) : OexC K C := by
  obtain ⟨q, h⟩ := Bool.and_eq_true_iff.mp h
  obtain ⟨h2, h⟩ := Bool.and_eq_true_iff.mp h
  obtain ⟨h3, h⟩ := Bool.and_eq_true_iff.mp h
  obtain ⟨h4, h5⟩ := Bool.and_eq_true_iff.mp h
  refine ⟨?_, He.eqO_ok h2, of_decide_eq_true h3, of_decide_eq_true h4, h5⟩
  unfold oclB at q
  split at q
  · rename_i dd cd sl ho
    split at q
    · rename_i C' bm k0 k1 k2 k3 n k5 hm hs
      simp only [Bool.and_eq_true, beq_iff_eq, Bool.not_eq_true'] at q
      obtain ⟨⟨⟨⟨rfl, rfl⟩, hdel⟩, hdct⟩, ht⟩ := q
      obtain ⟨nm, bs, mro, ns, qn, hd, sn, sub, ab, col, del⟩ := cd
      dsimp only at hm hdel hdct
      subst hm hdel hdct
      have hsl : sl = #[k0, k1, k2, k3, some (.builtin "ValueError.__new__"), k5] := by
        obtain ⟨l⟩ := sl
        simp only at hs
        rw [hs]
      subst hsl
      exact ⟨nm, qn, ns, bs, bm, sn, sub, ab, col, dd, k0, k1, k2, k3, k5, ho, ht⟩
    · cases q
  · cases q
structure TldC (K : PySem.W.Frag) (CT CS fI : Addr) (fld : Str) : Prop where
  oex : OexC K CT
  exc : ExcC K CT
  xf : XfC K CT
  no : PySem.W.findIn K (.ref CT) fld = some none
  kit : PySem.W.kitOne K (.ref CT) (.ref CT) = some true
  exm : PySem.W.exmOne K (.ref CT) (.ref CS) = some true
  ini : PySem.W.findIn K (.ref CT) "__init__" = some (some (.ref fI))
  tin : PySem.W.typeIn K (.ref fI) = some (.type "function")
theorem tldB_ok {CT CS fI : Addr} {fld : Str} (h : tldB K CT CS fI fld = true) : TldC K CT CS fI fld := by
  obtain ⟨h1, h⟩ := Bool.and_eq_true_iff.mp h
  obtain ⟨h2, h⟩ := Bool.and_eq_true_iff.mp h
  obtain ⟨h3, h⟩ := Bool.and_eq_true_iff.mp h
  obtain ⟨h4, h⟩ := Bool.and_eq_true_iff.mp h
  obtain ⟨h5, h⟩ := Bool.and_eq_true_iff.mp h
  obtain ⟨h6, h⟩ := Bool.and_eq_true_iff.mp h
  obtain ⟨h7, h8⟩ := Bool.and_eq_true_iff.mp h
  exact ⟨oexB_ok h1, excB_ok h2, xfB_ok h3, He.eqO_ok h4, of_decide_eq_true h5, of_decide_eq_true h6, He.eqO_ok h7, of_decide_eq_true h8⟩
end
variable [ProtC]
theorem takesL {X : Cx} {A : Around} {outer : List Env} {s : Shared} {H : Hp} {E : XK} {scope : Scope} {f c' : Addr} : Takes (LamX.lamCx X A outer s H E scope f c') (wL E) := takes_of rfl rfl rfl rfl
end Tr

namespace Tr
open PySem PySem.Spec PyProof.Rows L2
section
variable {P : Program} {w : World} {A : Around} {E : Value → Shared → Prop} {s : Shared}
theorem ints_at : ∀ {vs : List Value} {ns : List Int}, IntsAre vs ns → ∀ {i : Nat} {v : Value}, vs[i]? = some v → ∃ k tk, ns[i]? = some k ∧ v = .int k tk
  | _, _, .nil, _, _, e => by simp at e
  | _, _, .cons k tk h, 0, v, e => ⟨k, tk, rfl, (Option.some.inj e).symm⟩
  | _, _, .cons k tk h, i + 1, v, e => ints_at h e
theorem set_ints_loop {I : Addr} {fp wr : List Addr} {G : Array GenState → Array GenState → Prop} {n : Nat} {Pv : Nat → Value → Prop} {St : Nat → Shared → Prop} {R : Result → Shared → Prop}
    (W : WalksS P w A.in1 I fp wr G n Pv St) (S : Addr) (hSf : S ∉ fp) (ns : List Int) (hn : n = ns.length) (hb : ns.length + 1 < scanBound) (hval : ∀ i v, Pv i v → ∃ k tk, ns[i]? = some k ∧ v = .int k tk)
    (h0 : Heap) (hS0 : h0.get? S = none) (hw0 : ∀ b ∈ wr, h0.get? b = none) :
    ∀ (k i : Nat) (s : Shared), n - i = k → i ≤ n → St i s → (∀ b o, h0.get? b = some o → s.heap.get? b = some o) → (∃ m, m ≤ i ∧ SetR w s.heap S (fun j => decide (j ∈ ns.take i)) m) →
      (∀ s' m, Moved (S :: wr) G s s' → m ≤ n → SetR w s'.heap S (fun j => decide (j ∈ ns)) m → (∀ b o, h0.get? b = some o → s'.heap.get? b = some o) → R (.ok (.ret .none)) s') →
      codeAny (model P w) A (.builtin "set.update.loop" ⟨[.ref S, .ref I], []⟩) R s := by
  have hSw : S ∉ wr := fun h => hSf (W.sub _ h)
  have hsub : ∀ b ∈ wr, b ∈ S :: wr := fun b hb => List.mem_cons_of_mem _ hb
  have keepM : ∀ {s s' : Shared}, Moved wr G s s' → (∀ b o, h0.get? b = some o → s.heap.get? b = some o) → ∀ b o, h0.get? b = some o → s'.heap.get? b = some o := fun hm hkp b o e =>
    hm.heap b o (fun hb => by rw [hw0 b hb] at e; cases e) (hkp b o e)
  intro k
  induction k with
  | zero =>
    intro i s hk' hi hst hkp ⟨m, hm0, hS⟩ hR
    have hin : i = n := by omega
    subst hin
    refine codeAny_builtin F.entry_set_update_loop ?_
    rw [Around.under_plainId F.plain_set_update_loop _]
    show wpAny _ A.in1 (pyNext (.ref I) >>= _) _ _ s
    refine wpAny_bind (W.done s _ _ hst fun s' hm => ?_)
    show wpAny _ A.in1 (ret Value.none) _ _ s'
    have hS1 := hS.at fun o e => hm.heap S o hSw e
    exact wpAny_pure (hR s' m (hm.mono hsub) hm0 (hS1.congr fun j => by rw [hn, List.take_length]) (keepM hm hkp))
  | succ k ih =>
    intro i s hk' hi hst hkp ⟨m, hm0, hS⟩ hR
    have hlt : i < n := by omega
    refine codeAny_builtin F.entry_set_update_loop ?_
    rw [Around.under_plainId F.plain_set_update_loop _]
    show wpAny _ A.in1 (pyNext (.ref I) >>= _) _ _ s
    refine wpAny_bind (W.item i s _ _ hlt hst fun v s' hP hst' hm => ?_)
    obtain ⟨z, tk, hz, rfl⟩ := hval i v hP
    have hkp' := keepM hm hkp
    have hS' := hS.at fun o e => hm.heap S o hSw e
    show wpAny _ A.in1 (holding [Value.int z tk] (setAdd S (.int z tk)) >>= _) _ _ s'
    refine wpAny_bind (wpAny_holding ?_)
    unfold setAdd
    refine wpAny_holding ?_
    refine wpAny_bind ((intKind P w).pyHash (intKind_is P w z tk) ?_)
    refine setR_add_hashed (P := P) (s := { s' with toks := s'.toks + 1 }) hS' (by omega) fun h' hsb hS2 => ?_
    have hkp2 : ∀ b o, h0.get? b = some o → h'.get? b = some o := fun b o e => (hsb.2 b (fun q => by rw [q, hS0] at e; cases e)).trans (hkp' b o e)
    have et : ns.take (i + 1) = ns.take i ++ [z] := by rw [List.take_succ, hz]; rfl
    refine wpAny_pure ⟨plainId_quiet F.plain_set_update_loop _, ih (i + 1) _ (by omega) hlt (W.frame _ s' _ _ hst' (Nat.le_add_right _ _) fun b hb o e => ?_) hkp2 ⟨_, ?_, hS2.congr fun j => ?_⟩ fun s'' m2 hm'' hmn hS'' hkp'' => ?_⟩
    · rw [hsb.2 b (fun h : b = S => hSf (by rw [← h]; exact hb))]; exact e
    · split <;> omega
    · simp [et]
    · refine hR s'' m2 (Moved.trans W.gtrans ((hm.mono hsub).then_heap (Nat.le_add_right _ _) fun b o hb e => ?_) hm'') hmn hS'' hkp''
      rw [hsb.2 b (fun h : b = S => hb (by rw [h]; exact List.mem_cons_self))]; exact e
theorem set_of_ints {l : Addr} {items : Array Value} {ns : List Int} {Q : Value → Shared → Prop} (hh : A.handled = none) (hl : s.heap.IsList l items) (hi : IntsAre items.toList ns) (hb : ns.length + 1 < scanBound)
    (h : ∀ (h' : Heap) (tk m : Nat), m ≤ ns.length → SetR w h' s.heap.objs.size (fun j => decide (j ∈ ns)) m → (∀ b o, s.heap.get? b = some o → h'.get? b = some o) → Q (.ref s.heap.objs.size) { s with heap := h', toks := tk }) :
    wpAny (model P w) A (call (.type "set") [.ref l]) Q E s := by
  have hisz : items.size = ns.length := by
    have q := hi.length
    rw [Array.length_toList] at q
    exact q
  obtain ⟨c, tl, hmro⟩ := F.called_set.mro
  have hmade := F.called_set.made
  have hsub := F.called_set.sub
  refine wpAny_call (codeAny_of_tree ?_)
  show wpAny _ _ (callAny (.type "set") _) _ _ _
  refine wpAny_pure ⟨Code.quiet_builtin _ (by decide +kernel), codeAny_builtin F.entry_type_call ?_⟩
  rw [Around.under_plain (weight_type_call_type "set" [.ref l] []) rfl]
  have h1 := F.called_set.notType
  have h2 := F.called_set.canCreate
  have hct := F.typeCall_set_1 (.ref l)
  repeat (any_goals (first | assumption | wp_step))
  refine codeAny_mono (code_set_led1 (.ref l) (E := E) (Q₁ := fun obj s₁ => obj = .ref s.heap.objs.size ∧ s₁ = { s with heap := s.heap.push { cls := .type "set", dict := none, data := .set #[] 0 (.fresh 0 0 (!w.params.followText "set-order")) } }) ⟨rfl, rfl⟩) fun r s₁ hr => ?_
  cases r with
  | error e => exact hr
  | ok fl =>
    cases fl with
    | ret obj =>
      obtain ⟨rfl, rfl⟩ := hr
      have fresh := setR_fresh (h := s.heap) w
      have hS : (s.heap.push { cls := .type "set", dict := none, data := .set #[] 0 (.fresh 0 0 (!w.params.followText "set-order")) }).get? s.heap.objs.size = some ({ cls := .type "set", dict := none, data := .set #[] 0 (.fresh 0 0 (!w.params.followText "set-order")) } : Obj) := Heap.get?_push_size _ rfl
      have hT : Shared.TypeIs { s with heap := s.heap.push { cls := .type "set", dict := none, data := .set #[] 0 (.fresh 0 0 (!w.params.followText "set-order")) } } (.ref s.heap.objs.size) "set" := ⟨_, hS, rfl⟩
      have hli := F.called_set.init.lookup
      have hbi := F.called_set.init.bind (.ref s.heap.objs.size)
      repeat (any_goals (first | assumption | wp_step))
      refine codeAny_mono (codeAny_call_builtin (R := wants (fun r s₂ => r = .none ∧ ∃ h' tk m, s₂ = { s with heap := h', toks := tk } ∧ m ≤ ns.length ∧ SetR w h' s.heap.objs.size (fun j => decide (j ∈ ns)) m ∧
          (∀ b o, s.heap.get? b = some o → h'.get? b = some o)) E) F.called_set.init.plain F.entry_set_init (check_set_init_1 hT ?_)) fun r₂ s₂ hr₂ => ?_
      · obtain ⟨ol, hol, hcl, nl, hdl⟩ := hl
        obtain ⟨ocls, odict, odata, oslots⟩ := ol
        simp only at hcl hdl
        subst hcl; subst hdl
        have hol' : (s.heap.push { cls := .type "set", dict := none, data := .set #[] 0 (.fresh 0 0 (!w.params.followText "set-order")) }).get? l = some { cls := .type "list", dict := odict, data := .seq items nl, slots := oslots } := Heap.get?_push_of_some _ hol
        have hsls := F.sub_list_set
        have hslf := F.sub_list_frozenset
        have hne : (Value.type "list" == Value.type "dict") = false := by decide
        have hl1 : (s.heap.push { cls := .type "set", dict := none, data := .set #[] 0 (.fresh 0 0 (!w.params.followText "set-order")) }).IsList l items := ⟨_, hol', rfl, nl, rfl⟩
        unfold Builtin.«set.__init__» noKeywords Builtin.Frozenset.updateFrom
        generalize hPI : pyIter = PI
        wp_walk
        subst hPI
        refine wpAny_pyIter_list hl1 ?_
        refine wpAny_bind (wpAny_runValue ?_)
        have hlS : l < s.heap.objs.size := Heap.lt_size hol
        have hh3 : A.in1.in1.in1.handled = none := by simp [hh]
        have hneI : l ≠ (s.heap.push { cls := .type "set", dict := none, data := .set #[] 0 (.fresh 0 0 (!w.params.followText "set-order")) }).objs.size := by
          rw [Heap.size_push]; exact Nat.ne_of_lt (Nat.lt_succ_of_lt hlS)
        have hSf : s.heap.objs.size ∉ [(s.heap.push { cls := .type "set", dict := none, data := .set #[] 0 (.fresh 0 0 (!w.params.followText "set-order")) }).objs.size, l] := by
          rw [Heap.size_push]; simp only [List.mem_cons, List.not_mem_nil, or_false, not_or]
          exact ⟨Nat.ne_of_lt (Nat.lt_succ_self _), Nat.ne_of_gt hlS⟩
        have hval : ∀ (i : Nat) (v : Value), items[i]? = some v → ∃ k tk, ns[i]? = some k ∧ v = .int k tk := fun i v hv => by
          have q : items.toList[i]? = some v := by rw [Array.getElem?_toList]; exact hv
          exact ints_at hi q
        have none_of : ∀ b, s.heap.objs.size ≤ b → s.heap.get? b = none := fun b hb => by
          cases q : s.heap.get? b with
          | none => rfl
          | some o => exact absurd (Nat.lt_of_lt_of_le (Heap.lt_size q) hb) (Nat.lt_irrefl _)
        refine set_ints_loop ((Walks.list hh3 _ l hneI items).toS) s.heap.objs.size
          hSf ns hisz hb hval s.heap (none_of _ (Nat.le_refl _)) (fun b hb => none_of b (by
            rw [List.mem_singleton.mp hb, Heap.size_push]
            exact Nat.le_succ _)) (items.size - 0) 0 _ (by omega) (Nat.zero_le _)
          ⟨⟨_, Heap.get?_push_size _ rfl, rfl, rfl⟩, (hl1.push _)⟩ (fun b o e => Heap.get?_push_of_some _ (Heap.get?_push_of_some _ e)) ⟨0, Nat.le_refl _, (fresh.at fun o e => Heap.get?_push_of_some _ e).congr fun j => by simp⟩ ?hR
        case hR =>
          intro s' m hm hmn hS' hkp
          obtain ⟨h', g2, d', tk', os'⟩ := s'
          have eg : g2 = s.gens := hm.gens
          have ed : d' = s.drawn := hm.drawn
          have eo : os' = s.os := hm.os
          subst eg; subst ed; subst eo
          show wpAny _ _ _ _ _ _
          refine wpAny_pure ?_
          show wpAny _ _ (ret Value.none) _ _ _
          exact wpAny_pure ⟨rfl, h', tk', m, rfl, by omega, hS', hkp⟩
      · cases r₂ with
        | error e => exact hr₂
        | ok fl₂ =>
          cases fl₂ with
          | ret r =>
            obtain ⟨rfl, h', tk, m, rfl, hm, hS', hk'⟩ := hr₂
            repeat (any_goals (first | assumption | wp_step))
            exact h _ _ _ hm hS' hk'
          | _ => exact hr₂.elim
    | _ => exact hr.elim
end
end Tr

namespace Tr
open PySem PySem.Spec PyProof.Rows L2
variable [ProtC]
theorem nodup_leI {l T : List Int} (h : l.Nodup) (hs : ∀ x ∈ l, x ∈ T) : l.length ≤ T.length := by
  induction l generalizing T with
  | nil => simp
  | cons x l ih =>
    rw [List.nodup_cons] at h
    have m : x ∈ T := hs x (by simp)
    have := ih (T := T.erase x) h.2 fun y hy => (List.mem_erase_of_ne (fun z => h.1 (by rw [← z]; exact hy))).mpr (hs y (by simp [hy]))
    rw [List.length_erase_of_mem m] at this
    have := List.length_pos_of_mem m
    simp only [List.length_cons]
    omega
theorem setR_few {w : World} {h : Heap} {a : Addr} {ns : List Int} {m : Nat} (R : SetR w h a (fun j => decide (j ∈ ns)) m) {T : List Int} (hT : ∀ z ∈ ns, z ∈ T) : m ≤ T.length := by
  obtain ⟨o, es, ep, t, ho, hex, hd, g, nd, hm, hb, hf, hn, hr, hl⟩ := R
  have := nodup_leI nd (T := T) fun z hz => hT z (of_decide_eq_true ((hm z).mpr hz))
  rw [List.length_map, Array.length_toList] at this
  omega
section
variable {X : Cx}
def rSetInts (K : PySem.W.Frag) (w : World) : List V → Hp → VK → Prop := fun xs H Q => ∃ (l : Addr) (ns : List Int), xs = [V.ref l] ∧ SqL K H l (ns.map V.int) ∧ ns.length ≤ 4000 ∧
  ∀ a m, H a = none → (∀ T : List Int, (∀ z ∈ ns, z ∈ T) → m ≤ T.length) → Q (.ref a) (upd H a (SetO w a (fun j => decide (j ∈ ns)) m))
theorem cr_setInts (hc : X.calm = true) : CallR X (.type "set") (rSetInts X.K X.w) := by
  intro pins s σ H xs us Q I r h
  obtain ⟨l, ns, rfl, hl, hf, q⟩ := h
  rw [Vals.ref1 r]
  obtain ⟨its, rv, pl, hz⟩ := I.list hl
  have hn : H s.heap.objs.size = none := I.hok.fresh (Nat.le_refl _)
  refine set_of_ints (P := X.prog) (w := X.w) (ns := ns) (I.ok.hd hc) pl.isList (by simpa using rv.ints) (by unfold scanBound; omega) fun h' tk m hm R k => ?_
  exact ⟨.ref s.heap.objs.size, upd H s.heap.objs.size (SetO X.w s.heap.objs.size (fun j => decide (j ∈ ns)) m), I.laid (t' := tk) k (Nat.le_refl _) (setO_new R), rfl, q _ m hn fun T hT => setR_few R hT⟩
end
def dSortSetI (f : DF) : DF := fun δ => (f δ).bind fun d => (lstD d).bind fun ds => .need (∃ ns : List Int, ds = ns.map .int ∧ ns.length ≤ 4000 ∧ ∃ T : List Int, T.length < 64 ∧ ∀ z ∈ ns, z ∈ T)
  ((Wp.any fun ms : List Int => ms.Pairwise (· < ·) ∧ ∀ ns : List Int, ds = ns.map .int → ∀ z, z ∈ ms ↔ z ∈ ns).bind fun ms => .pure (.list (ms.map .int)))
theorem map_int_inj {a b : List Int} (h : a.map PyData.int = b.map PyData.int) : a = b := by
  have := congrArg (fun l : List D => l.map fun d => match d with | .int z => z | _ => 0) h
  simpa [List.map_map, Function.comp_def] using this
section
variable {X : Cx} {C : Cs} {W : WX} {p p2 pos pos2 : Pos} {e : Expr} {f : DF}
theorem de_sortSetI (hc : X.calm = true) (hK : C.K = X.K) (hg : Gl X "sorted") (hm : X.mg "sorted" = none) (hg2 : Gl X "set") (hm2 : X.mg "set" = none) (hx : DE X C W e f)
    (hs1 : starEach [e] X.env = (false, eval e X.env) :: starEach [] X.env := by rfl) (hs2 : starEach [Expr.Call (.Name "set" p2) [e] [] pos2] X.env = (false, eval (.Call (.Name "set" p2) [e] [] pos2) X.env) :: starEach [] X.env := by rfl)
    (hp1 : (backTo pos2 (starEach [] X.env)).any (·.1) = false := by rfl) (hp2 : (backTo pos (starEach [] X.env)).any (·.1) = false := by rfl) :
    DE X C W (.Call (.Name "sorted" p) [.Call (.Name "set" p2) [e] [] pos2] [] pos) (dSortSetI f) := by
  obtain ⟨tx, px, qx⟩ := hx
  have i1 := pe_callTy (p := p2) (pos := pos2) (cr_setInts hc) hg2 hm2 rfl (pa_cons px pa_nil hs1) (by decide) (by decide) hs1 hp1
  have i2 := pe_callB (p := p) (pos := pos) (cr_sortedSet hc) hg hm rfl (pa_cons i1 pa_nil hs2) (by decide) (by decide) hs2 hp2
  refine ⟨_, i2, fun S0 H0 Pb σ H δ Q R h => ?_⟩
  show tx σ H fun x H1 => rSetInts X.K X.w [x] H1 fun x2 H2 => rSortedSet X.w [x2] H2 Q
  refine qx S0 H0 Pb σ H δ _ R ((f δ).mono (fun d h v G g dv => ?_) (fun _ z => z) h)
  cases dv with
  | @lst l xs ds hs dps =>
    obtain ⟨⟨ns, rfl, n1, T, hT, hsub⟩, h3⟩ := h
    have e1 := dps_int dps
    subst e1
    rw [← hK]
    refine ⟨l, ns, rfl, Le.sqL hid_sub hs, n1, fun a m hn hm => ?_⟩
    have g2 : Grow G (upd G a (SetO X.w a (fun j => decide (j ∈ ns)) m)) := Grow.new hn
    refine ⟨a, _, m, rfl, upd_same, Nat.lt_of_le_of_lt (hm T hsub) hT, fun ms q pw mem hlen hq => ?_⟩
    have R2 := (R.gr g).gr g2
    have k1 := h3 ms ⟨pw, fun ns' e2 z => by
      rw [← map_int_inj e2, mem z]
      exact decide_eq_true_iff⟩
    have k2 : Dv (C.bx S0 H0) σ H δ Q (.list (ms.map .int)) := k1
    exact new_lst R2 (xs := ms.map V.int) (ds := ms.map .int) (ints_dp _) (k2.gr (g.trans g2)) q hq
  | _ => exact h.elim
end
@[simp] theorem rw_dSortSetI {f : DF} {δ : De} : dSortSetI f δ = (f δ).bind fun d => (lstD d).bind fun ds => .need (∃ ns : List Int, ds = ns.map .int ∧ ns.length ≤ 4000 ∧ ∃ T : List Int, T.length < 64 ∧ ∀ z ∈ ns, z ∈ T)
  ((Wp.any fun ms : List Int => ms.Pairwise (· < ·) ∧ ∀ ns : List Int, ds = ns.map .int → ∀ z, z ∈ ms ↔ z ∈ ns).bind fun ms => .pure (.list (ms.map .int))) := rfl
end Tr

namespace Tr
open PySem PySem.Spec PyProof.Rows L2
variable [ProtC]
section
variable {X : Cx} {pins : List (Addr × Obj)} {σ : L2.St} {H : Hp} {s : Shared} {a : Addr}
mutual
theorem key_nest (I : Inv X pins σ H s) : ∀ (k : NestedKey) (v : V) (u : Value), plainN k = true → Dp X.K H v k.data → RelV v u → NestedIs s.heap k u
  | .none, _, _, h, _, _ => by cases h
  | .text _, _, _, h, _, _ => by cases h
  | .num i, _, _, _, d, r => by
    simp only [NestedKey.data] at d
    cases d
    obtain ⟨t, rfl⟩ := r
    exact .int i t
  | .tup ks, _, _, h, d, r => by
    simp only [NestedKey.data] at d
    cases d with
    | tup sq al =>
      obtain ⟨its, rv, ⟨o, h1, h2, n, h3⟩, _⟩ := I.tuple sq.sq
      cases r
      exact .tup h1 h2 h3 (by simpa using key_nests I ks _ its (by simpa [plainN] using h) al rv)
theorem key_nests (I : Inv X pins σ H s) : ∀ (ks : List NestedKey) (vs : List V) (us : List Value), plainNs ks = true → DpAll X.K H vs (NestedKey.datas ks) → Vals vs us → NestedAll s.heap ks us
  | [], _, _, _, d, r => by
    simp only [NestedKey.datas] at d
    cases d
    cases r
    exact .nil
  | k :: ks, _, _, h, d, r => by
    have h : plainN k = true ∧ plainNs ks = true := by simpa [plainNs] using h
    simp only [NestedKey.datas] at d
    cases d with
    | cons d1 d2 =>
      cases r with
      | cons r1 r2 => exact .cons (key_nest I k _ _ h.1 d1 r1) (key_nests I ks _ _ h.2 d2 r2)
end
theorem key_is (I : Inv X pins σ H s) {k : NestedKey} {b : Addr} (g : KeyG k) (d : Dp X.K H (.ref b) k.data) : (nestedKind X.prog X.w).is s.heap k b := ⟨key_nest I k _ _ g.1 d rfl, g.2.1⟩
def KeysAt (K : PySem.W.Frag) (H : Hp) (xs : List (NestedKey × Addr × V)) : Prop := ∀ x ∈ xs, KeyG x.1 ∧ Dp K H (V.ref x.2.1) x.1.data
theorem entX_eq {P : Program} {w : World} {zs : List (NestedKey × Addr × Value)} (h : ∀ z ∈ zs, plainN z.1 = true) : zs.map entX = zs.map (entryOfKey (nestedKind P w)) := by
  refine List.map_congr_left fun z hz => ?_
  show entX z = ⟨NestedKey.hash w z.1, _, _⟩
  rw [hashN_eq w z.1 (h z hz)]
  rfl
theorem relX_keys : ∀ {xs : List (NestedKey × Addr × V)} {zs : List (NestedKey × Addr × Value)}, RelX xs zs → zs.map (·.1) = xs.map (·.1)
  | _, _, .nil => rfl
  | _, _, .cons f t => by rw [List.map_cons, List.map_cons, relX_keys t, f.1]
theorem relX_at {K : PySem.W.Frag} : ∀ {xs : List (NestedKey × Addr × V)} {zs : List (NestedKey × Addr × Value)}, RelX xs zs → KeysAt K H xs → ∀ z ∈ zs, KeyG z.1 ∧ Dp K H (V.ref z.2.1) z.1.data
  | _, _, .nil, _, _, hz => by cases hz
  | _, _, .cons f t, h, z, hz => by
    rcases List.mem_cons.mp hz with rfl | hz
    · rw [f.1, f.2.1]
      exact h _ (by simp)
    · exact relX_at t (fun x hx => h x (by simp [hx])) z hz
theorem dic_at {xs : List (NestedKey × Addr × V)} (I : Inv X pins σ H s) (ha : H a = some (DicO a xs)) (nd : (xs.map (·.1)).Nodup) (hk : KeysAt X.K H xs) : ∃ zs, RelX xs zs ∧ s.heap.DictOfH (nestedKind X.prog X.w) a zs := by
  obtain ⟨⟨_, o, es, ep, zs, h1, h2, h3, h5, h4⟩, _⟩ := I.hok a _ ha
  refine ⟨zs, h5, o, es, ep, h1, h2, h3, by rw [h4, entX_eq fun z hz => (relX_at h5 hk z hz).1.1], fun x hx => ?_, by rw [relX_keys h5]; exact nd⟩
  obtain ⟨h6, h7⟩ := relX_at h5 hk x hx
  exact key_is I h6 h7
theorem dic_new {P : Program} {w : World} {H : Hp} {h : Heap} {xs : List (NestedKey × Addr × V)} {zs : List (NestedKey × Addr × Value)} (hb : (a == sysModules) = false) (hr : RelX xs zs) (hp : ∀ z ∈ zs, plainN z.1 = true) (hd : h.DictOfH (nestedKind P w) a zs) : ObjOk P w H h a (DicO a xs) := by
  obtain ⟨o, es, ep, h1, h2, h3, h4, _⟩ := hd
  refine ⟨⟨hb, o, es, ep, zs, h1, h2, h3, hr, by rw [h4, entX_eq hp]⟩, ⟨o, h1⟩, fun g1 g2 ⟨hb, o, es, ep, zs, e1, e2, e3, e4⟩ k => ⟨hb, o, es, ep, zs, k _ e1, e2, e3, e4⟩⟩
end
end Tr

namespace Tr
open PySem PySem.Spec PyProof.Rows L2
variable [ProtC]
def enX (q : NestedKey × D) : D × D := (q.1.data, q.2)
mutual
theorem data_inj : ∀ k j : NestedKey, k.data = j.data → k = j
  | .none, .none, _ => rfl
  | .num a, .num b, h => by simp only [NestedKey.data, PyData.int.injEq] at h; rw [h]
  | .text a, .text b, h => by simp only [NestedKey.data, PyData.str.injEq] at h; rw [h]
  | .tup a, .tup b, h => by simp only [NestedKey.data, PyData.tuple.injEq] at h; rw [datas_inj a b h]
  | .none, .num _, h => by simp [NestedKey.data] at h
  | .none, .text _, h => by simp [NestedKey.data] at h
  | .none, .tup _, h => by simp [NestedKey.data] at h
  | .num _, .none, h => by simp [NestedKey.data] at h
  | .num _, .text _, h => by simp [NestedKey.data] at h
  | .num _, .tup _, h => by simp [NestedKey.data] at h
  | .text _, .none, h => by simp [NestedKey.data] at h
  | .text _, .num _, h => by simp [NestedKey.data] at h
  | .text _, .tup _, h => by simp [NestedKey.data] at h
  | .tup _, .none, h => by simp [NestedKey.data] at h
  | .tup _, .num _, h => by simp [NestedKey.data] at h
  | .tup _, .text _, h => by simp [NestedKey.data] at h
theorem datas_inj : ∀ k j : List NestedKey, NestedKey.datas k = NestedKey.datas j → k = j
  | [], [], _ => rfl
  | [], _ :: _, h => by simp [NestedKey.datas] at h
  | _ :: _, [], h => by simp [NestedKey.datas] at h
  | a :: as, b :: bs, h => by
    simp only [NestedKey.datas, List.cons.injEq] at h
    rw [data_inj a b h.1, datas_inj as bs h.2]
end
theorem enX_inj : ∀ {qs rs : List (NestedKey × D)}, qs.map enX = rs.map enX → qs = rs
  | [], [], _ => rfl
  | [], _ :: _, h => by cases h
  | _ :: _, [], h => by cases h
  | q :: qs, r :: rs, h => by
    rw [List.map_cons, List.map_cons] at h
    have h1 := Prod.mk.inj (List.cons.inj h).1
    rw [enX_inj (List.cons.inj h).2, Prod.ext (data_inj _ _ h1.1) h1.2]
theorem keys_dps {K : PySem.W.Frag} {H : Hp} : ∀ {xs : List (NestedKey × Addr × V)} {ds : List (D × D)}, ds.map (·.1) = xs.map (fun x => x.1.data) → DpAll K H (xs.map fun x => V.ref x.2.1) (ds.map (·.1)) → ∀ x ∈ xs, Dp K H (V.ref x.2.1) x.1.data
  | [], _, _, _, _, h => by cases h
  | _ :: _, [], h, _, _, _ => by cases h
  | y :: xs, d :: ds, h, a, x, hx => by
    rw [List.map_cons, List.map_cons] at h a
    cases a with
    | cons a b =>
      rcases List.mem_cons.mp hx with rfl | hx
      · rw [← (List.cons.inj h).1]; exact a
      · exact keys_dps (List.cons.inj h).2 b x hx
theorem dps_keys {K : PySem.W.Frag} {H : Hp} : ∀ {xs : List (NestedKey × Addr × V)}, (∀ x ∈ xs, Dp K H (V.ref x.2.1) x.1.data) → DpAll K H (xs.map fun x => V.ref x.2.1) (xs.map fun x => x.1.data)
  | [], _ => .nil
  | x :: xs, h => .cons (h x (by simp)) (dps_keys fun y hy => h y (by simp [hy]))
theorem paired_mono {α β : Type} {F G : α → β → Prop} (f : ∀ a b, F a b → G a b) : ∀ {l : List α} {m : List β}, Paired F l m → Paired G l m
  | _, _, .nil => .nil
  | _, _, .cons x t => .cons (f _ _ x) (paired_mono f t)
theorem keys_x : ∀ {xs : List (NestedKey × Addr × V)} {qs : List (NestedKey × D)}, (qs.map enX).map (·.1) = xs.map (fun x => x.1.data) → qs.map (·.1) = xs.map (·.1)
  | [], [], _ => rfl
  | _ :: _, [], h => by cases h
  | [], _ :: _, h => by cases h
  | x :: xs, q :: qs, h => by
    simp only [List.map_cons] at h
    rw [List.map_cons, List.map_cons, keys_x (List.cons.inj h).2, data_inj _ _ (List.cons.inj h).1]
section
variable {X : Cx} {C : Cs} {W : WX} {k : Nat} {pos : Pos}
theorem key_ref {K : PySem.W.Frag} {H : Hp} {y : V} {j : NestedKey} (g : KeyG j) (d : Dp K H y j.data) : ∃ b, y = V.ref b := by
  obtain ⟨ks, e⟩ := g.2.2
  rw [e] at d
  simp only [NestedKey.data] at d
  cases d
  exact ⟨_, rfl⟩
end
end Tr

namespace Tr
open PySem PySem.Spec PyProof.Rows L2
variable [ProtC]
theorem IsIs.at' {t : Bool} {h h' : Heap} {l : Addr} {xs : Array Value} (q : IsIs t h l xs) (k : ∀ o, h.get? l = some o → h'.get? l = some o) : IsIs t h' l xs := by
  cases t
  · exact Heap.IsList.at q k
  · exact Heap.IsTuple.at q k
theorem IsIs.obj {t : Bool} {h : Heap} {l : Addr} {xs : Array Value} (q : IsIs t h l xs) : ∃ o, h.get? l = some o := by
  cases t
  · obtain ⟨o, e, _⟩ := q; exact ⟨o, e⟩
  · obtain ⟨o, e, _⟩ := q; exact ⟨o, e⟩
section
variable {X : Cx} {C : Cs} {W : WX} {p q pos pos2 apos cpos : Pos} {e e2 o x y : Expr} {f g h : DF} {k : Nat}
theorem rd_hid {S : Addr → Prop} {H : Hp} {a : Addr} {u : HO} (h : Rd (hid S H) a u) : Rd H a u := by
  rcases h with h | ⟨o, h⟩
  · exact .inl (of_hid h).2
  · exact .inr ⟨o, (of_hid h).2⟩
theorem dct_of {K : PySem.W.Frag} {H : Hp} {v : V} {ds : List (D × D)} (d : Dp K H v (.dict ds)) (hi : ∀ q ∈ ds, ∃ j, q.1 = .int j) : ∃ a kvs, v = .ref a ∧ DkAt H a kvs ∧ kvs.map (fun q => keyD q.1) = ds.map (·.1) ∧ DpAll K H (kvs.map (·.2)) (ds.map (·.2)) := by
  cases d with
  | @dct a kvs _ s kk al => exact ⟨a, kvs, rfl, s, kk, al⟩
  | @dcX a xs _ e s n hgs kk t dd =>
    exfalso
    cases xs with
    | nil => exact e rfl
    | cons x xs =>
      cases ds with
      | nil => cases kk
      | cons q ds =>
        obtain ⟨j, ej⟩ := hi q (by simp)
        obtain ⟨ks, ek⟩ := (hgs x (by simp)).2.2
        simp only [List.map_cons] at kk
        have := (List.cons.inj kk).1
        rw [ej, ek] at this
        simp only [NestedKey.data] at this
        cases this
end
end Tr

namespace Tr
open PySem PySem.Spec PyProof.Rows L2
variable [ProtC]
def tupDl : D → Wp (List D)
  | .tuple ds => .pure ds
  | _ => .stuck
def dSortSetP (f : DF) : DF := fun δ => (f δ).bind fun d => (tupDl d).bind fun ds => .need (∃ ns : List Int, ds = ns.map .int ∧ ns.length ≤ 4000 ∧ ∃ T : List Int, T.length < 64 ∧ ∀ z ∈ ns, z ∈ T)
  ((Wp.any fun ms : List Int => ms.Pairwise (· < ·) ∧ ∀ ns : List Int, ds = ns.map .int → ∀ z, z ∈ ms ↔ z ∈ ns).bind fun ms => .pure (.list (ms.map .int)))
@[simp] theorem rw_dSortSetP {f : DF} {δ : De} : dSortSetP f δ = (f δ).bind fun d => (tupDl d).bind fun ds => .need (∃ ns : List Int, ds = ns.map .int ∧ ns.length ≤ 4000 ∧ ∃ T : List Int, T.length < 64 ∧ ∀ z ∈ ns, z ∈ T)
  ((Wp.any fun ms : List Int => ms.Pairwise (· < ·) ∧ ∀ ns : List Int, ds = ns.map .int → ∀ z, z ∈ ms ↔ z ∈ ns).bind fun ms => .pure (.list (ms.map .int))) := rfl
end Tr

namespace Tr
open PySem PySem.Spec PyProof.Rows L2
variable [ProtC]
def mulL : D → D → Wp (List D)
  | .list ds, .int k => .need (0 ≤ k ∧ k ≤ 1000 ∧ ds.length ≤ 1000) (.pure (List.replicate k.toNat ds).flatten)
  | _, _ => .stuck
def nMulL (f g : DF) : De → Wp (List D) := fun δ => (f δ).bind fun d => (g δ).bind fun e => mulL d e
@[simp] theorem rw_mulL {ds : List D} {k : Int} : mulL (.list ds) (.int k) = .need (0 ≤ k ∧ k ≤ 1000 ∧ ds.length ≤ 1000) (.pure (List.replicate k.toNat ds).flatten) := rfl
@[simp] theorem rw_nMulL {f g : DF} {δ : De} : nMulL f g δ = (f δ).bind fun d => (g δ).bind fun e => mulL d e := rfl
end Tr

namespace Tr
open PySem PySem.Spec PyProof.Rows L2
variable [ProtC]
def sSetIx2 (i : Nat) (f1 f2 fa fb : DF) : SF := fun δ => (fa δ).bind fun d => (fb δ).bind fun e => (slotO δ[i]?).bind fun ds => (f1 δ).bind fun k => (asI1 k).bind fun k => (optW (ixN ds.length k)).bind fun j =>
  (f2 (δ.set i (.o (ds.set j d)))).bind fun k => (asI1 k).bind fun k => (optW (ixN ds.length k)).bind fun l => .pure (.nx ((δ.set i (.o (ds.set j d))).set i (.o ((ds.set j d).set l e))))
@[simp] theorem rw_setIx2 {i : Nat} {f1 f2 fa fb : DF} {δ : De} : sSetIx2 i f1 f2 fa fb δ = (fa δ).bind fun d => (fb δ).bind fun e => (slotO δ[i]?).bind fun ds => (f1 δ).bind fun k => (asI1 k).bind fun k => (optW (ixN ds.length k)).bind fun j =>
  (f2 (δ.set i (.o (ds.set j d)))).bind fun k => (asI1 k).bind fun k => (optW (ixN ds.length k)).bind fun l => .pure (.nx ((δ.set i (.o (ds.set j d))).set i (.o ((ds.set j d).set l e)))) := rfl
end Tr

namespace Tr
open PySem PySem.Spec PyProof.Rows L2
variable [ProtC]
section
variable {X : Cx} {pins : List (Addr × Obj)} {σ : L2.St} {H : Hp} {s : Shared} {a : Addr}
theorem dic_big {xs : List (NestedKey × Addr × V)} (I : Inv X pins σ H s) (ha : H a = some (DicO a xs)) : (a == sysModules) = false := (I.hok a _ ha).1.1
theorem relX_len : ∀ {xs : List (NestedKey × Addr × V)} {zs : List (NestedKey × Addr × Value)}, RelX xs zs → zs.length = xs.length
  | _, _, .nil => rfl
  | _, _, .cons f t => by rw [List.length_cons, List.length_cons, relX_len t]
end
section
variable {X : Cx} {o e f : Expr} {pos apos cpos : Pos} {td ty tx : TE}
def putX (xs : List (NestedKey × Addr × V)) (j : NestedKey) (b : Addr) (v : V) : List (NestedKey × Addr × V) := match xs with
  | [] => [(j, b, v)]
  | x :: xs => if x.1 = j then (x.1, x.2.1, v) :: xs else x :: putX xs j b v
theorem putX_ne {xs : List (NestedKey × Addr × V)} {j : NestedKey} {b : Addr} {v : V} : putX xs j b v ≠ [] := by
  cases xs with
  | nil => exact fun z => nomatch z
  | cons x xs =>
    unfold putX
    split
    · exact fun z => nomatch z
    · exact fun z => nomatch z
theorem map_putAt_not {j : NestedKey} {u : Value} : ∀ {zs : List (NestedKey × Addr × Value)}, j ∉ zs.map (·.1) → zs.map (putAt j u) = zs
  | [], _ => rfl
  | z :: zs, h => by
    rw [List.map_cons, List.mem_cons] at h
    rw [List.map_cons, map_putAt_not fun q => h (.inr q)]
    unfold putAt
    rw [if_neg fun q => h (.inl q.symm)]
theorem storedH_cons {j : NestedKey} {b : Addr} {u : Value} {z : NestedKey × Addr × Value} {zs : List (NestedKey × Addr × Value)} (nd : ((z :: zs).map (·.1)).Nodup) : storedH (z :: zs) j b u = if z.1 = j then (z.1, z.2.1, u) :: zs else z :: storedH zs j b u := by
  rw [List.map_cons, List.nodup_cons] at nd
  unfold storedH atKey
  rw [List.find?_cons]
  by_cases c : z.1 = j
  · rw [if_pos c]
    simp only [c, decide_true, Option.map_some, Option.isSome_some, if_true]
    rw [List.map_cons, map_putAt_not (by rw [← c]; exact nd.1)]
    unfold putAt
    rw [if_pos c, ← c]
  · rw [if_neg c]
    simp only [c, decide_false]
    split
    · rename_i h
      rw [List.map_cons]
      unfold putAt
      rw [if_neg c]
    · rfl
theorem putX_rel {j : NestedKey} {b : Addr} {v : V} {u : Value} (r : RelV v u) : ∀ {xs : List (NestedKey × Addr × V)} {zs : List (NestedKey × Addr × Value)}, RelX xs zs → (zs.map (·.1)).Nodup → RelX (putX xs j b v) (storedH zs j b u)
  | _, _, .nil, _ => .cons ⟨rfl, rfl, r⟩ .nil
  | x :: xs, z :: zs, .cons f t, nd => by
    rw [storedH_cons nd]
    unfold putX
    by_cases c : x.1 = j
    · rw [if_pos c, if_pos (by rw [f.1]; exact c)]
      exact .cons ⟨f.1, f.2.1, r⟩ t
    · rw [if_neg c, if_neg (by rw [f.1]; exact c)]
      rw [List.map_cons, List.nodup_cons] at nd
      exact .cons f (putX_rel r t nd.2)
def rSetX (K : PySem.W.Frag) : TSet := fun o i v H Q => ∃ a xs b j, o = V.ref a ∧ H a = some (DicO a xs) ∧ (xs.map (·.1)).Nodup ∧ KeysAt K H xs ∧ xs.length ≤ 1000 ∧ i = V.ref b ∧ KeyG j ∧ Dp K H (V.ref b) j.data ∧ Q (upd H a (DicO a (putX xs j b v)))
theorem set_dicX (hu : X.A.units + 10 < cLine) : PSet X (rSetX X.K) := by
  intro pins s σ H o i v ov iv u Q I ro ri rv h
  obtain ⟨a, xs, b, j, rfl, ha, nd, hk, hl, rfl, hg, dk, q⟩ := h
  obtain rfl : ov = Value.ref a := ro
  obtain rfl : iv = Value.ref b := ri
  obtain ⟨zs, rx, dd⟩ := dic_at I ha nd hk
  have nz : (zs.map (·.1)).Nodup := by rw [relX_keys rx]; exact nd
  refine wpAny_setItem_heap (knd := nestedKind X.prog X.w) (hsz := by rw [relX_len rx, sizeLine_eq]; omega) (by show X.A.units + 1 + 8 < cLine; omega) (key_is I hg dk) dd fun h' hm hs => ?_
  have rx2 := putX_rel (j := j) (b := b) rv rx nz
  have pl : ∀ z ∈ storedH zs j b u, plainN z.1 = true := fun z hz => by
    unfold storedH at hz
    split at hz
    · obtain ⟨y, hy, rfl⟩ := List.mem_map.mp hz
      have := (relX_at rx hk y hy).1.1
      unfold putAt
      split
      · exact this
      · exact this
    · rcases List.mem_append.mp hz with hz | hz
      · exact (relX_at rx hk z hz).1.1
      · rw [List.mem_singleton.mp hz]
        exact hg.1
  have ob : ObjOk X.prog X.w (upd H a (DicO a (putX xs j b v))) h' a (DicO a (putX xs j b v)) := dic_new (dic_big I ha) rx2 pl hm
  refine ⟨upd H a (DicO a (putX xs j b v)), I.write (x := a) (e := a) (by rw [ha]; trivial) (.inl rfl) (fun c o hb e => hs.extBut c o hb e) ?_ ob, q⟩
  obtain ⟨o, _, _, h1, _⟩ := hm
  exact ⟨o, h1⟩
end
end Tr

namespace Tr
open PySem PySem.Spec PyProof.Rows L2
variable [ProtC]
mutual
def noK : D → Bool
  | .list ds => noKs ds
  | .tuple ds => noKs ds
  | .dict ds => ds.isEmpty
  | _ => true
def noKs : List D → Bool
  | [] => true
  | d :: ds => noK d && noKs ds
end
def LeX (H G : Hp) : Prop := ∀ b u, H b = some u → (∀ φ, u ≠ .ext φ) → G b = some u
theorem LeX.sqL {K : PySem.W.Frag} {H G : Hp} {a : Addr} {xs : List V} (l : LeX H G) (r : SqL K H a xs) : SqL K G a xs := by
  rcases r with r | r
  · rcases r with r | ⟨ob, r⟩
    · exact .inl (.inl (l _ _ r fun φ z => by cases z))
    · exact .inl (.inr ⟨ob, l _ _ r fun φ z => by cases z⟩)
  · exact .inr r
theorem LeX.sqT {K : PySem.W.Frag} {H G : Hp} {a : Addr} {xs : List V} (l : LeX H G) (r : SqT K H a xs) : SqT K G a xs := by
  rcases r with r | r
  · rcases r with r | ⟨ob, r⟩
    · exact .inl (.inl (l _ _ r fun φ z => by cases z))
    · exact .inl (.inr ⟨ob, l _ _ r fun φ z => by cases z⟩)
  · exact .inr r
theorem LeX.sqN {K : PySem.W.Frag} {H G : Hp} {a : Addr} {xs : List V} (l : LeX H G) (r : SqN K H a xs) : SqN K G a xs := by
  refine ⟨l.sqT r.sq, ?_⟩
  rcases r.nd with ⟨ob, u, d, e⟩ | r
  · exact .inl ⟨ob, u, d, l _ _ e fun φ z => by cases z⟩
  · exact .inr r
mutual
theorem LeX.dp {K : PySem.W.Frag} {H G : Hp} (l : LeX H G) : ∀ (d : D) (v : V), noK d = true → Dp K H v d → Dp K G v d
  | .none, _, _, h => by cases h; exact .non
  | .bool b, _, _, h => by cases h; exact .bl b
  | .int i, _, _, h => by cases h; exact .int i
  | .str x, _, _, h => by cases h; exact .str x
  | .list ds, _, n, h => by
    cases h with
    | lst s a => exact .lst (l.sqL s) (LeX.dps l ds _ (by simpa [noK] using n) a)
  | .tuple ds, _, n, h => by
    cases h with
    | tup s a => exact .tup (l.sqN s) (LeX.dps l ds _ (by simpa [noK] using n) a)
  | .dict ds, _, n, h => by
    have e : ds = [] := by simpa [noK] using n
    subst e
    cases h with
    | @dct a kvs _ s k al =>
      cases kvs with
      | nil => exact .dct (s.mono fun u e q => l _ _ e (by rcases q with rfl | ⟨_, _, rfl⟩ <;> exact fun φ z => nomatch z)) rfl .nil
      | cons => cases k
    | @dcX a xs _ e _ _ _ k _ _ =>
      cases xs with
      | nil => exact absurd rfl e
      | cons => cases k
theorem LeX.dps {K : PySem.W.Frag} {H G : Hp} (l : LeX H G) : ∀ (ds : List D) (vs : List V), noKs ds = true → DpAll K H vs ds → DpAll K G vs ds
  | [], _, _, h => by cases h; exact .nil
  | d :: ds, _, n, h => by
    have n : noK d = true ∧ noKs ds = true := by simpa [noKs] using n
    cases h with
    | cons a b => exact .cons (LeX.dp l d _ n.1 a) (LeX.dps l ds _ n.2 b)
end
def owNoK : Ow → Prop
  | .l ds => noKs ds = true
  | .k qs => noKs (qs.map (·.1)) = true ∧ noKs (qs.map (·.2)) = true
def slNoK : Sl → Prop
  | .non => True
  | .p d => noK d = true
  | .own c => owNoK c
  | .v _ => True
  | .t _ _ => True
theorem OwAt.lx {K : PySem.W.Frag} {H G : Hp} (l : LeX H G) {a : Addr} {u : HO} {c : Ow} (h : OwAt K H a u c) (n : owNoK c) : OwAt K G a u c := by
  cases h with
  | l h => exact .l (LeX.dps l _ _ n h)
  | k h d => exact .k h (LeX.dps l _ _ n.2 d)
  | x e nd g k t d => exact .x e nd g k (LeX.dps l _ _ n.1 t) (LeX.dps l _ _ n.2 d)
def putXD : List (NestedKey × D) → NestedKey → D → List (NestedKey × D)
  | [], j, d => [(j, d)]
  | q :: qs, j, d => if q.1 = j then (q.1, d) :: qs else q :: putXD qs j d
theorem own_putP {B : Bx} {σ : L2.St} {δ : De} {i : Nat} {d d' : D} (hi : δ[i]? = some (.p d)) : Own B σ (δ.set i (.p d')) = Own B σ δ := by
  funext b
  apply propext
  constructor
  · rintro (z | ⟨j, fs, e1, e2⟩)
    · exact .inl z
    · rcases get_set_cases e1 with ⟨_, h1, _⟩ | ⟨h1, h2⟩
      · cases h1
      · exact .inr ⟨j, fs, h2, e2⟩
  · rintro (z | ⟨j, fs, e1, e2⟩)
    · exact .inl z
    · refine .inr ⟨j, fs, ?_, e2⟩
      have : i ≠ j := fun z => by subst z; rw [hi] at e1; cases e1
      rw [List.getElem?_set_ne this]
      exact e1
theorem Rep.putD {B : Bx} {Pb : Hp} {σ : L2.St} {H : Hp} {δ : De} {i : Nat} {a : Addr} {xs : List (NestedKey × Addr × V)} {ψ : Heap → Prop} {d d' : D} (R : Rep B Pb σ H δ) (hi : δ[i]? = some (.p d)) (hs : σ[i]? = some (some (.ref a))) (ha : H a = some (DicO a xs))
    (hp : ∀ u, Pb a = some u → ∃ ps, u = .tbl ps) (hB : B.H a = none) (no : ¬ Own B σ δ a) (hn : ∀ (j : Nat) z, j ≠ i → δ[j]? = some z → slNoK z) (ht : ∀ (j : Nat) b χ, δ[j]? = some (Sl.t b χ) → b ≠ a) (hd : Dp B.c.K (hid (Own B σ δ) (upd H a (.ext ψ))) (.ref a) d') :
    Rep B Pb σ (upd H a (.ext ψ)) (δ.set i (.p d')) := by
  have lx : LeX (hid (Own B σ δ) H) (hid (Own B σ δ) (upd H a (.ext ψ))) := fun b u e n => by
    obtain ⟨h1, h2⟩ := of_hid e
    have : b ≠ a := fun z => by subst z; rw [ha] at h2; cases h2; exact n _ rfl
    rw [hid_in h1, upd_ne this]
    exact h2
  have ow := own_putP (B := B) (σ := σ) (d' := d') hi
  have off : ∀ {j : Nat} {s t : Sl}, (δ.set i s)[j]? = some t → (j = i ∧ t = s) ∨ (j ≠ i ∧ δ[j]? = some t) := fun e => by
    rcases get_set_cases e with ⟨e1, e2, _⟩ | ⟨e1, e2⟩
    · exact .inl ⟨e1.symm, e2⟩
    · exact .inr ⟨Ne.symm e1, e2⟩
  refine ⟨?_, by rw [List.length_set]; exact R.len, ⟨fun b u e n => ?_, fun P h => ?_, fun b h => ?_, fun P q hq t => ?_⟩, R.dom, fun P h => ?_, fun j e h => ?_, fun j es h => ?_, fun j k es fs b h1 h2 h3 h4 => ?_, fun j x h => ?_, fun j b χ h => ?_, R.scr⟩
  · rw [ow]
    intro b u e n
    have h1 := R.ph b u e n
    obtain ⟨h2, h3⟩ := of_hid h1
    have : b ≠ a := fun z => by
      subst z
      obtain ⟨ps, rfl⟩ := hp _ e
      exact n ps rfl
    rw [hid_in h2, upd_ne this]
    exact h3
  · have : b ≠ a := ne_of_none e hB
    rw [upd_ne this]
    exact R.grow.le b u e n
  · obtain ⟨ps, e, t⟩ := h
    have : P ≠ a := ne_of_none e hB
    obtain ⟨ps, e, t⟩ := R.grow.tb P ⟨ps, e, t⟩
    exact ⟨ps, by rw [upd_ne this]; exact e, t⟩
  · by_cases c : b = a
    · rw [c, upd_same]; exact fun z => nomatch z
    · rw [upd_ne c]; exact R.grow.dm b h
  · have t2 := R.grow.pr P q hq t
    obtain ⟨ps, e1, t1, t3⟩ := t2
    obtain ⟨ps0, f1, f2, f3⟩ := t
    have hP : P ≠ a := ne_of_none f1 hB
    refine ⟨ps, by rw [upd_ne hP]; exact e1, t1, fun pos cv hc => ?_⟩
    obtain ⟨c, e2, e3⟩ := t3 pos cv hc
    by_cases z : c = a
    · subst z
      rw [ha] at e3
      exact (dic_ne_code (Option.some.inj e3) rfl).elim
    · exact ⟨c, e2, by rw [upd_ne z]; exact e3⟩
  · obtain ⟨ps, e, t⟩ := R.tabs P h
    have : P ≠ a := fun z => by rw [z, ha] at e; cases e
    exact ⟨ps, by rw [upd_ne this]; exact e, t⟩
  · rw [ow]
    rcases off h with ⟨rfl, z⟩ | ⟨n, h⟩
    · cases z
      exact ⟨_, hs, hd⟩
    · obtain ⟨v, q1, q2⟩ := R.pers j e h
      exact ⟨v, q1, LeX.dp lx e v (hn j _ n h) q2⟩
  · rw [ow]
    rcases off h with ⟨_, z⟩ | ⟨n, h⟩
    · cases z
    · obtain ⟨b, xs, q1, q2, q3, q4⟩ := R.own j es h
      have : b ≠ a := fun z => no (.inr ⟨j, es, h, by rw [← z]; exact q1⟩)
      exact ⟨b, xs, q1, by rw [upd_ne this]; exact q2, q3, q4.lx lx (hn j _ n h)⟩
  · rcases off h1 with ⟨_, z⟩ | ⟨_, h1⟩
    · cases z
    · rcases off h2 with ⟨_, z⟩ | ⟨_, h2⟩
      · cases z
      · exact R.uniq j k es fs b h1 h2 h3 h4
  · rcases off h with ⟨_, z⟩ | ⟨_, h⟩
    · cases z
    · exact R.val j x h
  · rw [ow]
    rcases off h with ⟨_, z⟩ | ⟨n, h⟩
    · cases z
    · obtain ⟨t1, t2⟩ := R.trk j b χ h
      obtain ⟨t3, t4⟩ := of_hid t2
      exact ⟨t1, by rw [hid_in t3, upd_ne (ht j b χ h)]; exact t4⟩
end Tr

namespace Tr
open PySem PySem.Spec PyProof.Rows L2
variable [ProtC]
theorem putX_keys {j : NestedKey} {b : Addr} {v : V} {d : D} : ∀ {xs : List (NestedKey × Addr × V)} {qs : List (NestedKey × D)}, qs.map (·.1) = xs.map (·.1) → (putXD qs j d).map (·.1) = (putX xs j b v).map (·.1)
  | [], [], _ => rfl
  | _ :: _, [], h => by cases h
  | [], _ :: _, h => by cases h
  | x :: xs, q :: qs, h => by
    rw [List.map_cons, List.map_cons] at h
    have h1 := (List.cons.inj h).1
    unfold putX putXD
    rw [← h1]
    split
    · rw [List.map_cons, List.map_cons, (List.cons.inj h).2]
    · rw [List.map_cons, List.map_cons, putX_keys (List.cons.inj h).2, h1]
theorem putX_key {j k : NestedKey} {b : Addr} {v : V} : ∀ {xs : List (NestedKey × Addr × V)}, k ∈ (putX xs j b v).map (·.1) → k ∈ xs.map (·.1) ∨ k = j
  | [], h => by
    unfold putX at h
    exact .inr (by simpa using h)
  | x :: xs, h => by
    unfold putX at h
    split at h
    · exact .inl (by simpa using h)
    · rw [List.map_cons, List.mem_cons] at h
      rcases h with h | h
      · exact .inl (by simp [h])
      · rcases putX_key h with h | h
        · exact .inl (by rw [List.map_cons]; exact List.mem_cons_of_mem _ h)
        · exact .inr h
theorem putX_nodup {j : NestedKey} {b : Addr} {v : V} : ∀ {xs : List (NestedKey × Addr × V)}, (xs.map (·.1)).Nodup → ((putX xs j b v).map (·.1)).Nodup
  | [], _ => by unfold putX; simp
  | x :: xs, n => by
    unfold putX
    split
    · exact n
    · rename_i c
      rw [List.map_cons, List.nodup_cons] at n ⊢
      exact ⟨fun h => (putX_key h).elim n.1 c, putX_nodup n.2⟩
theorem putX_all {P : NestedKey → Addr → Prop} {j : NestedKey} {b : Addr} {v : V} (hj : P j b) : ∀ {xs : List (NestedKey × Addr × V)}, (∀ x ∈ xs, P x.1 x.2.1) → ∀ x ∈ putX xs j b v, P x.1 x.2.1
  | [], _, x, hx => by
    unfold putX at hx
    rw [List.mem_singleton.mp hx]
    exact hj
  | y :: xs, h, x, hx => by
    unfold putX at hx
    split at hx
    · rcases List.mem_cons.mp hx with rfl | hx
      · exact h y (by simp)
      · exact h x (by simp [hx])
    · rcases List.mem_cons.mp hx with rfl | hx
      · exact h x (by simp)
      · exact putX_all hj (fun z hz => h z (by simp [hz])) x hx
theorem putX_dps {K : PySem.W.Frag} {H : Hp} {j : NestedKey} {b : Addr} {v : V} {d : D} (hv : Dp K H v d) : ∀ {xs : List (NestedKey × Addr × V)} {qs : List (NestedKey × D)}, qs.map (·.1) = xs.map (·.1) → DpAll K H (xs.map fun x => x.2.2) (qs.map (·.2)) → DpAll K H ((putX xs j b v).map fun x => x.2.2) ((putXD qs j d).map (·.2))
  | [], [], _, _ => .cons hv .nil
  | _ :: _, [], h, _ => by cases h
  | [], _ :: _, h, _ => by cases h
  | x :: xs, q :: qs, h, .cons a t => by
    rw [List.map_cons, List.map_cons] at h
    have h1 := (List.cons.inj h).1
    unfold putX putXD
    rw [← h1]
    split
    · exact .cons hv t
    · exact .cons a (putX_dps hv (List.cons.inj h).2 t)
section
variable {X : Cx} {C : Cs} {W : WX} {pos p apos : Pos} {e ek : Expr} {f fk fv : DF} {rest : List Stmt} {F : SF} {k i : Nat}
def sThen (j : Nat) (f : DF) (F : SF) : SF := fun δ => (f δ).bind fun d => F (δ.set j (.p d))
end
end Tr

namespace Tr
open PySem PySem.Spec PyProof.Rows L2
variable [ProtC]
theorem Room.lt10 {k : Nat} {A : Around} (hr : Room k A) : A.units + 10 < cLine := by have := room65 hr; omega
section
variable {k : D → Prop} {w : Exn → Prop} {f g h : DF} {δ : De}
@[simp] theorem rw_sThen {j : Nat} {F : SF} : sThen j f F δ = (f δ).bind fun d => F (δ.set j (.p d)) := rfl
end
end Tr

namespace Tr
open PySem PySem.Spec PyProof.Rows L2
variable [ProtC]
section
variable {X : Cx} {pins : List (Addr × Obj)} {σ : L2.St} {H : Hp} {s : Shared} {a : Addr}
theorem dic_at0 (I : Inv X pins σ H s) (ha : H a = some (.dK [])) : (a == sysModules) = false ∧ s.heap.DictOfH (nestedKind X.prog X.w) a [] := by
  obtain ⟨z, hd, vs, rel, dd⟩ := dk_of I.hok ha
  have v0 : vs = [] := by
    have := rel.length
    cases vs with
    | nil => rfl
    | cons => simp at this
  subst v0
  obtain ⟨o, es, ep, h1, h2, h3, h4, h5, h6⟩ := dd
  have e : es = #[] := by
    generalize hl : es.toList = l at h5
    cases h5
    exact Array.toList_eq_nil_iff.mp hl
  subst e
  exact ⟨hd, o, #[], ep, h1, h2, h3, rfl, fun x hx => (by cases hx), List.nodup_nil⟩
def rSetX0 (K : PySem.W.Frag) : TSet := fun o i v H Q => rSetX K o i v H Q ∨ ∃ a b j, o = V.ref a ∧ H a = some (.dK []) ∧ i = V.ref b ∧ KeyG j ∧ Dp K H (V.ref b) j.data ∧ Q (upd H a (DicO a [(j, b, v)]))
theorem set_dicX0 (hu : X.A.units + 10 < cLine) : PSet X (rSetX0 X.K) := by
  intro pins s σ H o i v ov iv u Q I ro ri rv h
  rcases h with h | h
  · exact set_dicX hu pins s σ H o i v ov iv u Q I ro ri rv h
  obtain ⟨a, b, j, rfl, ha, rfl, hg, dk, q⟩ := h
  obtain rfl : ov = Value.ref a := ro
  obtain rfl : iv = Value.ref b := ri
  obtain ⟨hb, dd⟩ := dic_at0 I ha
  refine wpAny_setItem_heap (knd := nestedKind X.prog X.w) (hsz := by rw [sizeLine_eq]; simp) (by show X.A.units + 1 + 8 < cLine; omega) (key_is I hg dk) dd fun h' hm hs => ?_
  have rx2 : RelX [(j, b, v)] [(j, b, u)] := .cons ⟨rfl, rfl, rv⟩ .nil
  have hm2 : h'.DictOfH (nestedKind X.prog X.w) a [(j, b, u)] := hm
  have ob : ObjOk X.prog X.w (upd H a (DicO a [(j, b, v)])) h' a (DicO a [(j, b, v)]) := dic_new hb rx2 (fun z hz => by rw [List.mem_singleton.mp hz]; exact hg.1) hm2
  refine ⟨upd H a (DicO a [(j, b, v)]), I.write (x := a) (e := a) (by rw [ha]; trivial) (.inl rfl) (fun c o hb e => hs.extBut c o hb e) ?_ ob, q⟩
  obtain ⟨o, _, _, h1, _⟩ := hm
  exact ⟨o, h1⟩
end
end Tr

namespace Tr
open PySem PySem.Spec PyProof.Rows L2
variable [ProtC]
def DkO (u : HO) : Prop := (∃ kvs, u = .dK kvs) ∨ (∃ od kvs, u = .frz od (.dK kvs)) ∨ ∃ φ, u = .ext φ
def LeD (a : Addr) (H G : Hp) : Prop := (∀ b u, b ≠ a → H b = some u → (∀ ps, u ≠ .tbl ps) → G b = some u) ∧ ∀ u, H a = some u → DkO u
theorem LeD.ne {a b : Addr} {H G : Hp} {u : HO} (l : LeD a H G) (e : H b = some u) (n : ¬ DkO u) : b ≠ a := fun z => n (l.2 u (by rw [← z]; exact e))
theorem LeD.at_ {a b : Addr} {H G : Hp} {u : HO} (l : LeD a H G) (e : H b = some u) (n : ¬ DkO u) (t : ∀ ps, u ≠ .tbl ps) : G b = some u := l.1 b u (l.ne e n) e t
theorem dko_lst {xs : List V} : ¬ DkO (.lst xs) := by rintro (⟨_, h⟩ | ⟨_, _, h⟩ | ⟨_, h⟩) <;> cases h
theorem dko_tup {xs : List V} : ¬ DkO (.tup xs) := by rintro (⟨_, h⟩ | ⟨_, _, h⟩ | ⟨_, h⟩) <;> cases h
theorem dko_flst {od : Obj} {xs : List V} : ¬ DkO (.frz od (.lst xs)) := by rintro (⟨_, h⟩ | ⟨_, _, h⟩ | ⟨_, h⟩) <;> cases h
theorem dko_ftup {od : Obj} {xs : List V} : ¬ DkO (.frz od (.tup xs)) := by rintro (⟨_, h⟩ | ⟨_, _, h⟩ | ⟨_, h⟩) <;> cases h
section
variable {K : PySem.W.Frag} {H G : Hp} {a : Addr}
theorem LeD.sqL {b : Addr} {xs : List V} (l : LeD a H G) (r : SqL K H b xs) : SqL K G b xs := by
  rcases r with r | r
  · rcases r with r | ⟨ob, r⟩
    · exact .inl (.inl (l.at_ r dko_lst fun ps z => by cases z))
    · exact .inl (.inr ⟨ob, l.at_ r dko_flst fun ps z => by cases z⟩)
  · exact .inr r
theorem LeD.sqT {b : Addr} {xs : List V} (l : LeD a H G) (r : SqT K H b xs) : SqT K G b xs := by
  rcases r with r | r
  · rcases r with r | ⟨ob, r⟩
    · exact .inl (.inl (l.at_ r dko_tup fun ps z => by cases z))
    · exact .inl (.inr ⟨ob, l.at_ r dko_ftup fun ps z => by cases z⟩)
  · exact .inr r

def NoT (K : PySem.W.Frag) (a : Addr) : Prop := ∀ ob, K.lookup a = some ob → ob.cls ≠ .type "tuple"
theorem LeD.sqN {b : Addr} {xs : List V} (l : LeD a H G) (n : NoT K a) (r : SqN K H b xs) : SqN K G b xs := by
  have hb : b ≠ a := by
    rcases r.sq with q | ⟨o, its, m, e1, e2, _⟩
    · rcases q with q | ⟨ob, q⟩
      · exact l.ne q dko_tup
      · exact l.ne q dko_ftup
    · exact fun z => n o (by rw [← z]; exact e1) e2
  refine ⟨l.sqT r.sq, ?_⟩
  rcases r.nd with ⟨ob, u, d, e⟩ | r
  · exact .inl ⟨ob, u, d, l.1 b _ hb e fun ps z => by cases z⟩
  · exact .inr r
mutual
theorem LeD.dp (l : LeD a H G) (n : NoT K a) : ∀ (d : D) (v : V), PyData.hasDict d = false → Dp K H v d → Dp K G v d
  | .none, _, _, h => by cases h; exact .non
  | .bool b, _, _, h => by cases h; exact .bl b
  | .int i, _, _, h => by cases h; exact .int i
  | .str x, _, _, h => by cases h; exact .str x
  | .list ds, _, m, h => by
    cases h with
    | lst s t => exact .lst (l.sqL s) (LeD.dps l n ds _ (by simpa only [PyData.hasDict] using m) t)
  | .tuple ds, _, m, h => by
    cases h with
    | tup s t => exact .tup (l.sqN n s) (LeD.dps l n ds _ (by simpa only [PyData.hasDict] using m) t)
  | .dict _, _, m, _ => by simp [PyData.hasDict] at m
theorem LeD.dps (l : LeD a H G) (n : NoT K a) : ∀ (ds : List D) (vs : List V), PyData.hasDictAll ds = false → DpAll K H vs ds → DpAll K G vs ds
  | [], _, _, h => by cases h; exact .nil
  | d :: ds, _, m, h => by
    have m' : PyData.hasDict d = false ∧ PyData.hasDictAll ds = false := by simpa only [PyData.hasDictAll, Bool.or_eq_false_iff] using m
    cases h with
    | cons p q => exact .cons (LeD.dp l n d _ m'.1 p) (LeD.dps l n ds _ m'.2 q)
end
end
theorem Rep.lkO {B : Bx} {Pb : Hp} {σ : L2.St} {H : Hp} {δ : De} {i : Nat} {a : Addr} {u u' : HO} {c : Ow} {d : D} (R : Rep B Pb σ H δ) (hd : δ[i]? = some (Sl.own c)) (hs : σ[i]? = some (some (.ref a))) (ha : H a = some u)
    (dp : OwAt B.c.K (hid (Own B σ (δ.set i (.p d))) (upd H a u')) a u c → hid (Own B σ (δ.set i (.p d))) (upd H a u') a = some u' → Dp B.c.K (hid (Own B σ (δ.set i (.p d))) (upd H a u')) (.ref a) d) : Rep B Pb σ (upd H a u') (δ.set i (.p d)) := by
  obtain ⟨a', u0, q1, q2, q3, q4⟩ := R.own i _ hd
  rw [hs] at q1
  cases q1
  rw [ha] at q2
  cases q2
  have q2 := ha
  have hi : i < δ.length := (List.getElem?_eq_some_iff.mp hd).1
  have oa : Own B σ δ a := .inr ⟨i, _, hd, hs⟩
  have sub : ∀ b, Own B σ (δ.set i (.p d)) b → Own B σ δ b ∧ b ≠ a := fun b z => by
    rcases z with z | ⟨j, es, e1, e2⟩
    · refine ⟨.inl z, ?_⟩
      rintro rfl
      exact R.dom b z q3
    · rcases get_set_cases e1 with ⟨_, h1, _⟩ | ⟨h1, h2⟩
      · cases h1
      · refine ⟨.inr ⟨j, es, h2, e2⟩, ?_⟩
        rintro rfl
        exact h1 (R.uniq i j _ es b hd h2 hs e2)
  have le : Le (hid (Own B σ δ) H) (hid (Own B σ (δ.set i (.p d))) (upd H a u')) := fun b w e n => by
    obtain ⟨h1, h2⟩ := of_hid e
    rw [hid_in fun z => h1 (sub b z).1, upd_ne fun z => h1 (by rw [z]; exact oa)]
    exact h2
  refine ⟨R.ph.trans le, by rw [List.length_set]; exact R.len, ⟨fun b w e n => ?_, fun P h => ?_, fun b h => ?_, fun P q hp t => TabS.putO q2 q4 (R.grow.pr P q hp t)⟩, R.dom, fun P h => ?_, fun j e h => ?_, fun j es h => ?_, fun j k es fs b h1 h2 h3 h4 => ?_, fun j x h => ?_, fun j b φ h => ?_, R.scr⟩
  · rw [upd_ne (ne_of_none e q3)]
    exact R.grow.le b w e n
  · obtain ⟨ps, e, t⟩ := R.grow.tb P h
    refine ⟨ps, ?_, t⟩
    rw [upd_ne (ne_of e q2 fun z => (q4.nt _ z.symm).elim)]
    exact e
  · by_cases c : b = a
    · rw [c, upd_same]
      exact fun z => nomatch z
    · rw [upd_ne c]
      exact R.grow.dm b h
  · obtain ⟨ps, e, t⟩ := R.tabs P h
    refine ⟨ps, ?_, t⟩
    rw [upd_ne (ne_of e q2 fun z => (q4.nt _ z.symm).elim)]
    exact e
  · rcases get_set_cases h with ⟨rfl, h1, _⟩ | ⟨h1, h2⟩
    · cases h1
      refine ⟨.ref a, hs, dp (q4.le le) ?_⟩
      rw [hid_in fun z => (sub a z).2 rfl, upd_same]
    · obtain ⟨x, g1, g2⟩ := R.pers j e h2
      exact ⟨x, g1, Le.dp le _ x g2⟩
  · rcases get_set_cases h with ⟨_, h1, _⟩ | ⟨h1, h2⟩
    · cases h1
    · obtain ⟨b, ys, g1, g2, g3, g4⟩ := R.own j es h2
      refine ⟨b, ys, g1, ?_, g3, g4.le le⟩
      rw [upd_ne]
      · exact g2
      · intro z
        subst z
        exact h1 (R.uniq i j _ es b hd h2 hs g1)
  · rcases get_set_cases h1 with ⟨_, z, _⟩ | ⟨n1, g1⟩
    · cases z
    · rcases get_set_cases h2 with ⟨_, z, _⟩ | ⟨n2, g2⟩
      · cases z
      · exact R.uniq j k es fs b g1 g2 h3 h4
  · rcases get_set_cases h with ⟨_, z, _⟩ | ⟨n1, g1⟩
    · cases z
    · exact R.val j x g1
  · rcases get_set_cases h with ⟨_, z, _⟩ | ⟨n1, g1⟩
    · cases z
    · exact ⟨(R.trk j b φ g1).1, le b _ (R.trk j b φ g1).2 fun ps z => by cases z⟩
theorem Rep.fzk0 {B : Bx} {Pb : Hp} {σ : L2.St} {H : Hp} {δ : De} {i : Nat} {qs : List (D × D)} (R : Rep B Pb σ H δ) (hd : δ[i]? = some (Sl.k qs)) (hn : ∀ a kvs, σ[i]? = some (some (.ref a)) → H a = some (.dK kvs) → kvs = []) : Rep B Pb σ H (δ.set i (.p (.dict qs))) := R.fzO hd fun a u h1 h2 o e => by
  cases o with
  | k h d =>
    cases hn a _ h1 h2
    exact .dct (.e e) h d
  | x ne nd hg k t d => exact .dcX ne e nd hg k t d
theorem Rep.lkD {B : Bx} {Pb : Hp} {σ : L2.St} {H : Hp} {δ : De} {i : Nat} {a : Addr} {kvs : List (Key × V)} {qs : List (D × D)} {od : Obj} (R : Rep B Pb σ H δ) (hd : δ[i]? = some (Sl.k qs)) (hs : σ[i]? = some (some (.ref a))) (ha : H a = some (.dK kvs)) (hn : kvs ≠ []) :
    Rep B Pb σ (upd H a (.frz od (.dK kvs))) (δ.set i (.p (.dict qs))) := R.lkO hd hs ha fun o e => by
  generalize hu : HO.dK kvs = u at o
  cases o with
  | k h d =>
    cases hu
    exact .dct (.f hn e) h d
  | x _ _ _ _ _ _ => unfold DicO at hu; cases hu
end Tr

namespace Tr
open PySem PySem.Spec PyProof.Rows L2
variable [ProtC]
def enI (p : Int × D) : D × D := (.int p.1, p.2)
def allInt : List (D × D) → Bool
  | [] => true
  | (.int _, _) :: r => allInt r
  | _ :: _ => false
def intsOf : List (D × D) → List (Int × D)
  | [] => []
  | (.int i, d) :: r => (i, d) :: intsOf r
  | _ :: r => intsOf r
@[simp] theorem allInt_en : ∀ ps : List (Int × D), allInt (ps.map enI) = true
  | [] => rfl
  | _ :: ps => allInt_en ps
@[simp] theorem intsOf_en : ∀ ps : List (Int × D), intsOf (ps.map enI) = ps
  | [] => rfl
  | p :: ps => congrArg (p :: ·) (intsOf_en ps)
theorem of_allInt : ∀ {qs : List (D × D)}, allInt qs = true → qs = (intsOf qs).map enI
  | [], _ => rfl
  | (.int i, d) :: r, h => by
    show (PyData.int i, d) :: r = (PyData.int i, d) :: (intsOf r).map enI
    rw [← of_allInt (qs := r) h]
  | (.none, _) :: _, h => by cases h
  | (.bool _, _) :: _, h => by cases h
  | (.str _, _) :: _, h => by cases h
  | (.list _, _) :: _, h => by cases h
  | (.tuple _, _) :: _, h => by cases h
  | (.dict _, _) :: _, h => by cases h
theorem inl_keys {kvs : List (Key × V)} {ps : List (Int × D)} (h : kvs.map (fun q => keyD q.1) = (ps.map enI).map (·.1)) : kvs.map (·.1) = ps.map (fun p => Sum.inl p.1) := by
  rw [keys_inl (ps := ps) (by rw [h, List.map_map]; rfl), List.map_map]
  rfl
theorem keys_of_inl {kvs : List (Key × V)} {ps : List (Int × D)} (h : kvs.map (·.1) = ps.map (fun p => Sum.inl p.1)) : kvs.map (fun q => keyD q.1) = (ps.map enI).map (·.1) := by
  have e2 : kvs.map (fun q => keyD q.1) = (kvs.map (·.1)).map keyD := by rw [List.map_map]; rfl
  rw [e2, h, List.map_map, List.map_map]
  rfl
theorem en_snd {ps : List (Int × D)} : (ps.map enI).map (·.2) = ps.map (·.2) := by rw [List.map_map]; rfl
theorem put_dk {K : PySem.W.Frag} {H : Hp} {z : V} {b : D} {k : Int} {ps : List (Int × D)} {kvs : List (Key × V)} (h1 : kvs.map (·.1) = ps.map (fun p => Sum.inl p.1)) (h2 : DpAll K H (kvs.map (·.2)) (ps.map (·.2))) (hz : Dp K H z b) :
    (putK kvs (Sum.inl k) z).map (·.1) = (putI ps k b).map (fun p => Sum.inl p.1) ∧ DpAll K H ((putK kvs (Sum.inl k) z).map (·.2)) ((putI ps k b).map (·.2)) := by
  unfold putK putI
  rw [dk_any h1]
  by_cases c : (ps.any fun p => decide (p.1 = k)) = true
  · rw [if_pos c, if_pos c]
    exact dk_up hz h1 h2
  · rw [if_neg c, if_neg c, List.map_append, List.map_append, List.map_append, List.map_append, h1]
    exact ⟨rfl, dps_app h2 (.cons hz .nil)⟩
theorem look_dk {K : PySem.W.Frag} {H : Hp} {k : Int} : ∀ {ps : List (Int × D)} {kvs : List (Key × V)} {d : D}, kvs.map (·.1) = ps.map (fun p => Sum.inl p.1) → DpAll K H (kvs.map (·.2)) (ps.map (·.2)) → ps.lookup k = some d → ∃ v, valV kvs (Sum.inl k) = some v ∧ Dp K H v d
  | [], _, _, _, _, h => by cases h
  | p :: ps, [], _, h, _, _ => by cases h
  | p :: ps, q :: kvs, d, h1, .cons a t, h => by
    rw [List.map_cons, List.map_cons] at h1
    have e1 := (List.cons.inj h1).1
    obtain ⟨j, x⟩ := p
    obtain ⟨kq, y⟩ := q
    have e1 : kq = Sum.inl j := e1
    subst e1
    rw [List.lookup_cons] at h
    by_cases c : k = j
    · subst c
      simp only [beq_self_eq_true, ↓reduceIte, Option.some.injEq] at h
      subst h
      exact ⟨y, valV_pos rfl, a⟩
    · have c2 : (k == j) = false := by simpa using c
      rw [c2] at h
      obtain ⟨v, h3, h4⟩ := look_dk (List.cons.inj h1).2 t h
      exact ⟨v, by rw [valV_neg fun z => c (Sum.inl.inj z).symm]; exact h3, h4⟩
def slotK : Option Sl → Wp (List (D × D))
  | some (.own (.k qs)) => .pure qs
  | _ => .stuck
theorem slotK_inv {o : Option Sl} {k : List (D × D) → Prop} {w : Exn → Prop} (h : (slotK o).run k w) : ∃ qs, o = some (.k qs) ∧ k qs := by
  unfold slotK at h
  split at h
  · exact ⟨_, rfl, h⟩
  · exact h.elim
def PutX (qs : List (D × D)) (k : D) : Prop := ∃ (rs : List (NestedKey × D)) (j : NestedKey), qs = rs.map enX ∧ k = j.data ∧ KeyG j ∧ rs.length ≤ 1000 ∧ ∀ q ∈ rs, KeyG q.1
def putW (qs : List (D × D)) (k d : D) : Wp (List (D × D)) := match k with
  | .int j => .need (allInt qs = true ∧ qs.length ≤ 1000) (.pure ((putI (intsOf qs) j d).map enI))
  | k => .need (PutX qs k) (Wp.any fun qs' => ∀ (rs : List (NestedKey × D)) (j : NestedKey), qs = rs.map enX → k = j.data → qs' = (putXD rs j d).map enX)
def sPutK (i : Nat) (fk fv : DF) : SF := fun δ => (fv δ).bind fun d => (slotK δ[i]?).bind fun qs => (fk δ).bind fun k => (putW qs k d).bind fun qs' => .pure (.nx (δ.set i (.k qs')))
section
variable {X : Cx} {pins : List (Addr × Obj)} {σ : L2.St} {H : Hp} {s : Shared} {a : Addr}
def rSetK (K : PySem.W.Frag) : TSet := fun o i v H Q => rSetX0 K o i v H Q ∨ ∃ a kvs j, o = V.ref a ∧ H a = some (.dK kvs) ∧ i = V.int j ∧ kvs.length < sizeLine ∧ Q (upd H a (.dK (putK kvs (Sum.inl j) v)))
theorem set_dicK (hu : X.A.units + 10 < cLine) : PSet X (rSetK X.K) := by
  intro pins s σ H o i v ov iv u Q I ro ri rv h
  rcases h with h | h
  · exact set_dicX0 hu pins s σ H o i v ov iv u Q I ro ri rv h
  obtain ⟨a, kvs, j, rfl, ha, rfl, hl, q⟩ := h
  obtain rfl : ov = Value.ref a := ro
  exact d_setItem (by omega) I (DPut.k (k := Sum.inl j) ha hl) ri rv fun s' I' => ⟨_, I', q⟩
end
section
variable {X : Cx} {C : Cs} {W : WX} {pos apos : Pos} {e ek : Expr} {fk fv f : DF} {i k : Nat}
theorem putX_ownAt {K : PySem.W.Frag} {H : Hp} {a : Addr} {xs : List (NestedKey × Addr × V)} {rs : List (NestedKey × D)} {j : NestedKey} {b : Addr} {v : V} {d : D} (ek : rs.map (·.1) = xs.map (·.1)) (nd : (xs.map (·.1)).Nodup) (hg : ∀ x ∈ xs, KeyG x.1)
    (hk : ∀ x ∈ xs, Dp K H (V.ref x.2.1) x.1.data) (al : DpAll K H (xs.map fun x => x.2.2) (rs.map (·.2))) (hj : KeyG j) (dk : Dp K H (V.ref b) j.data) (dv : Dp K H v d) : OwAt K H a (DicO a (putX xs j b v)) (.k ((putXD rs j d).map enX)) := by
  have kk := putX_keys (j := j) (b := b) (v := v) (d := d) ek
  have e0 : ((putXD rs j d).map enX).map (·.1) = (putX xs j b v).map fun x => x.1.data := by
    rw [List.map_map, show (putX xs j b v).map (fun x => x.1.data) = ((putX xs j b v).map (·.1)).map NestedKey.data by rw [List.map_map]; rfl, ← kk, List.map_map]
    rfl
  refine .x putX_ne (putX_nodup nd) (putX_all (P := fun k _ => KeyG k) hj hg) e0 ?_ ?_
  · rw [e0]
    exact dps_keys (putX_all (P := fun k c => Dp K H (V.ref c) k.data) dk hk)
  · rw [List.map_map]
    exact putX_dps dv ek al
theorem ds_putK {x : Str} {p1 p2 : Pos} (hK : C.K = X.K) (hN : X.N[i]? = some x) (hv : Vis X.env.scope x) (he : DE X C W e fv) (hk : DE X C W ek fk)
    (hp : ∀ tx ti te, PE X (.Name x p1) tx → PE X ek ti → PE X e te → PS X (.Assign [.Subscript (.Name x p1) ek p2] e pos) (tAsg te (gSub tx ti (rSetK X.K))))
    (hd : (x == ("__debug__" : Str)) = false := by decide) (hcd : (x == ("__classdict__" : Str)) = false := by decide) : DS X C W (.Assign [.Subscript (.Name x p1) ek p2] e pos) (sPutK i fk fv) := by
  obtain ⟨te, pe, qe⟩ := he
  obtain ⟨ti, pi, qi⟩ := hk
  refine ⟨_, hp _ _ _ (pe_var hN hv hd hcd) pi pe, fun S0 H0 Pb σ H δ E R h => qe S0 H0 Pb σ H δ _ R ((fv δ).mono (fun d h v G g dv => ?_) (fun _ z => z.ew R) h)⟩
  obtain ⟨qs, hz, h⟩ := slotK_inv h
  have R1 := R.gr g
  obtain ⟨a, u, r1, _, _, _⟩ := R1.own i _ hz
  refine ⟨_, r1, qi S0 H0 Pb σ G δ _ R1 ((fk δ).mono (fun kd h v2 G2 g2 dk => ?_) (fun _ z => z.ew R1) h)⟩
  have R2 := R1.gr g2
  obtain ⟨a', u, s1, s2, s3, s4⟩ := R2.own i _ hz
  rw [r1] at s1
  cases s1
  have dv2 : Dp C.K (hid (Own (C.bx S0 H0) σ δ) G2) v d := Le.dp (hid_le g2.le fun _ z => z) d v dv
  have fin : ∀ (qs' : List (D × D)) (u' : HO), (OutW (C.bx S0 H0) Pb E) (.nx (δ.set i (.k qs'))) → OwAt C.K (hid (Own (C.bx S0 H0) σ δ) G2) a u' (.k qs') → E.nx σ (upd G2 a u') := fun qs' u' h o => h σ _ (R2.wrO hz r1 o)
  have nested : ∀ kd, PutX qs kd → (∀ qs' : List (D × D), (∀ (rs : List (NestedKey × D)) (j : NestedKey), qs = rs.map enX → kd = j.data → qs' = (putXD rs j d).map enX) → (OutW (C.bx S0 H0) Pb E) (.nx (δ.set i (.k qs')))) → Dp C.K (hid (Own (C.bx S0 H0) σ δ) G2) v2 kd →
      rSetK X.K (.ref a) v2 v G2 fun H' => E.nx σ H' := by
    rintro kd ⟨rs, j, rfl, rfl, hj, hl, hgs⟩ hn dk
    obtain ⟨b, rfl⟩ := key_ref hj dk
    have k1 := hn _ fun rs' j' e1 e2 => by rw [← enX_inj e1, ← data_inj _ _ e2]
    rw [← hK]
    cases s4 with
    | @k kvs _ hk hd =>
      have e0 : rs = [] := by
        cases rs with
        | nil => rfl
        | cons r rs =>
          exfalso
          cases kvs with
          | nil => cases hk
          | cons z kvs =>
            obtain ⟨ks, ek⟩ := (hgs r (by simp)).2.2
            rw [List.map_cons, List.map_cons, List.map_cons] at hk
            have e1 := (List.cons.inj hk).1
            simp only [enX, ek, NestedKey.data] at e1
            obtain ⟨zk, zv⟩ := z
            cases zk <;> cases e1
      subst e0
      have e1 : kvs = [] := by
        cases kvs with
        | nil => rfl
        | cons => cases hk
      subst e1
      refine .inl (.inr ⟨a, b, j, rfl, s2, rfl, hj, Le.dp hid_sub _ _ dk, ?_⟩)
      exact fin _ _ k1 (putX_ownAt (xs := []) (rs := []) rfl List.nodup_nil (fun _ h => by cases h) (fun _ h => by cases h) .nil hj dk dv2)
    | @x xs _ ne nd hg hkk ht hdd =>
      have ek : rs.map (·.1) = xs.map (·.1) := keys_x hkk
      have hks := keys_dps hkk ht
      have el : xs.length = rs.length := by have := congrArg List.length ek; simpa using this.symm
      refine .inl (.inl ⟨a, xs, b, j, rfl, s2, nd, fun z hz => ⟨hg z hz, Le.dp hid_sub _ _ (hks z hz)⟩, by omega, rfl, hj, Le.dp hid_sub _ _ dk, ?_⟩)
      rw [List.map_map] at hdd
      exact fin _ _ k1 (putX_ownAt ek nd hg hks hdd hj dk dv2)
  have dk' : Dp C.K (hid (Own (C.bx S0 H0) σ δ) G2) v2 kd := dk
  cases kd with
  | int j =>
    obtain ⟨⟨ai, hl⟩, h9⟩ := h
    cases dk'
    have eq := of_allInt ai
    have h9 : OutW (C.bx S0 H0) Pb E (Out.nx (List.set δ i (Sl.k ((putI (intsOf qs) j d).map enI)))) := h9
    generalize intsOf qs = ps at eq h9
    subst eq
    cases s4 with
    | @k kvs _ hk hd =>
      rw [intsOf_en] at h9
      have hk' := inl_keys hk
      rw [en_snd] at hd
      obtain ⟨p1, p2⟩ := put_dk (k := j) hk' hd dv2
      refine .inr ⟨a, kvs, j, rfl, s2, rfl, ?_, fin _ _ h9 (.k (keys_of_inl p1) (by rw [en_snd]; exact p2))⟩
      have := congrArg List.length hk'
      rw [List.length_map, List.length_map] at this
      rw [List.length_map] at hl
      rw [this, sizeLine_eq]
      omega
    | @x xs _ ne nd hg hkk ht hdd =>
      exfalso
      cases xs with
      | nil => exact ne rfl
      | cons x xs =>
        cases ps with
        | nil => cases hkk
        | cons p ps =>
          obtain ⟨_, _, ks, ek⟩ := hg x (by simp)
          have k1 : (PyData.int p.1) = x.1.data := (List.cons.inj hkk).1
          rw [ek] at k1
          simp [NestedKey.data] at k1
  | none => exact nested _ h.1 h.2 dk'
  | bool _ => exact nested _ h.1 h.2 dk'
  | str _ => exact nested _ h.1 h.2 dk'
  | list _ => exact nested _ h.1 h.2 dk'
  | tuple _ => exact nested _ h.1 h.2 dk'
  | dict _ => exact nested _ h.1 h.2 dk'
def DNk (X : Cx) (C : Cs) (W : WX) (e : Expr) (f : De → Wp (List (D × D))) : Prop :=
  ∃ t, PE X e t ∧ ∀ S0 H0 Pb σ H δ Q, Rep (C.bx S0 H0) Pb σ H δ → (f δ).run (fun qs => ∀ a u G, Grow H G → H a = none → G a = some u → OwAt C.K (hid (fun b => Own (C.bx S0 H0) σ δ b ∨ b = a) G) a u (.k qs) → Q (.ref a) G) (Ew (C.bx S0 H0) W σ H) → t σ H Q
def sSetK (i : Nat) (f : De → Wp (List (D × D))) : SF := fun δ => (f δ).bind fun qs => .pure (.nx (δ.set i (.k qs)))
def tLkS (t : TS) : TS := fun D σ H => t D σ H ∨ ∃ d kvs, H d = some (.dK kvs) ∧ ∀ od, t D σ (upd H d (.frz od (.dK kvs)))
theorem pss_lk {sts : List Stmt} {t : TS} (h : PSs X sts t) : PSs X sts (tLkS t) := by
  refine ⟨fun pins s σ H D I hw => ?_⟩
  rcases hw with hw | ⟨d, kvs, hd, hw⟩
  · exact h.run pins s σ H D I hw
  · obtain ⟨od, I2⟩ := I.lock hd trivial
    exact h.run pins s σ _ D I2 (hw od)
def fzK (i : Nat) (δ : De) : De := match δ[i]? with
  | some (.own (.k qs)) => δ.set i (.p (.dict qs))
  | _ => δ
theorem dss_fzK (i : Nat) {F : SF} {sts : List Stmt} (h : DSs X C W sts F) : DSs X C W sts (fun δ => F (fzK i δ)) := by
  obtain ⟨t, p, q⟩ := h
  refine ⟨_, pss_lk p, fun S0 H0 Pb σ H δ E R h => ?_⟩
  have h : (F (fzK i δ)).run _ _ := h
  unfold fzK at h
  split at h
  · rename_i qs e1
    obtain ⟨a, u, r1, r2, r3, r4⟩ := R.own i _ e1
    by_cases hc : ∃ kvs, u = .dK kvs ∧ kvs ≠ []
    · obtain ⟨kvs, rfl, hn⟩ := hc
      exact .inr ⟨a, kvs, r2, fun od => q S0 H0 Pb σ _ _ E (R.lkD (od := od) e1 r1 r2 hn) h⟩
    · refine .inl (q S0 H0 Pb σ _ _ E (R.fzk0 e1 fun b kvs z1 z2 => ?_) h)
      rw [r1] at z1
      cases z1
      rw [r2] at z2
      cases z2
      exact Classical.byContradiction fun z => hc ⟨kvs, rfl, z⟩
  · exact .inl (q S0 H0 Pb σ H δ E R h)
end
end Tr

namespace Tr
open PySem PySem.Spec PyProof.Rows L2
variable [ProtC]
section
variable {k : D → Prop} {ko : Out → Prop} {w : Exn → Prop} {f g h : DF} {δ : De} {i : Nat} {F : SF}
def sFzK (i : Nat) (F : SF) : SF := fun δ => F (fzK i δ)
@[simp] theorem rw_fzK : sFzK i F δ = F (fzK i δ) := rfl
@[simp] theorem rw_setK {fl : De → Wp (List (D × D))} : sSetK i fl δ = (fl δ).bind fun qs => .pure (.nx (δ.set i (.k qs))) := rfl
end
end Tr

namespace Tr
open PySem PySem.Spec PyProof.Rows L2
variable [ProtC]
theorem dkI_of {K : PySem.W.Frag} {H : Hp} {v : V} {ps : List (Int × D)} (d : Dp K H v (.dict (ps.map enI))) : ∃ a kvs, v = .ref a ∧ DkAt H a kvs ∧ kvs.map (·.1) = ps.map (fun p => Sum.inl p.1) ∧ DpAll K H (kvs.map (·.2)) (ps.map (·.2)) := by
  obtain ⟨a, kvs, e, s, kk, al⟩ := dct_of d fun q hq => by
    obtain ⟨p, _, rfl⟩ := List.mem_map.mp hq
    exact ⟨p.1, rfl⟩
  exact ⟨a, kvs, e, s, inl_keys kk, by rwa [en_snd] at al⟩
theorem keys_len {kvs : List (Key × V)} {ps : List (Int × D)} (h : kvs.map (·.1) = ps.map (fun p => (Sum.inl p.1 : Key))) : kvs.length = ps.length := by
  have := congrArg List.length h
  simpa using this
def dIxI (d k : D) : Wp D := match d, k with
  | .dict ds, .int i => .need (allInt ds = true) (optW ((intsOf ds).lookup i))
  | _, _ => .stuck
def bLenI : List D → Wp D
  | [.dict ds] => .need (allInt ds = true) (.pure (.int (ds.length : Int)))
  | _ => .stuck
def bListI : List D → Wp D
  | [.dict ds] => .need (allInt ds = true) (.pure (.list (ds.map (·.1))))
  | _ => .stuck
section
variable {kk : D → Prop} {kl : List D → Prop} {w : Exn → Prop} {d k : D}
theorem dIxI_inv (h : (dIxI d k).run kk w) : ∃ (ps : List (Int × D)) (i : Int) (z : D), d = .dict (ps.map enI) ∧ k = .int i ∧ ps.lookup i = some z ∧ kk z := by
  unfold dIxI at h
  split at h
  · rename_i ds i
    obtain ⟨ai, h⟩ := h
    obtain ⟨z, hz, h⟩ := optW_inv h
    exact ⟨intsOf ds, i, z, by rw [← of_allInt ai], rfl, hz, h⟩
  · exact h.elim
def keysW (d : D) : Wp (List D) := match d with
  | .dict ds => .need (allInt ds = true ∧ ds ≠ []) (.pure (ds.map (·.1)))
  | _ => .stuck
theorem keysW_inv (h : (keysW d).run kl w) : ∃ ps : List (Int × D), d = .dict (ps.map enI) ∧ ps ≠ [] ∧ kl ((ps.map enI).map (·.1)) := by
  unfold keysW at h
  split at h
  · rename_i ds
    obtain ⟨⟨ai, ne⟩, h⟩ := h
    have e := of_allInt ai
    refine ⟨intsOf ds, by rw [← e], fun z => ne (by rw [e, z]; rfl), by rw [← e]; exact h⟩
  · exact h.elim
end
def iKeysI (f : DF) : De → Wp (List D) := fun δ => (f δ).bind keysW
section
variable {X : Cx} {C : Cs} {W : WX} {pos : Pos} {o e2 tg e : Expr} {f g : DF} {k : Nat}
theorem de_ixI (hr : Room k X.A) (ho : DE X C W o f) (hi : DE X C W e2 g) (hs : NoSl e2) : DE X C W (.Subscript o e2 pos) (d2 dIxI f g) := by
  obtain ⟨t, pt, qt⟩ := ho
  obtain ⟨u, pu, qu⟩ := hi
  refine ⟨_, pe_dget (by have := room65 hr; omega) pt pu hs, fun S0 H0 Pb σ H δ Q R h => qt S0 H0 Pb σ H δ _ R ((f δ).mono (fun d h v G g1 dp => ?_) (fun _ z => z) h)⟩
  refine qu S0 H0 Pb σ G δ _ (R.gr g1) ((g δ).mono (fun e h v2 G2 g2 dp2 => ?_) (fun _ z => z.gr g1) h)
  obtain ⟨ps, i, z, rfl, rfl, hz, h⟩ := dIxI_inv h
  have dq := Le.dp (hid_le (S' := Own (C.bx S0 H0) σ δ) g2.le fun _ z => z) _ _ dp
  obtain ⟨a, kvs, rfl, ha, hk, al⟩ := dkI_of dq
  cases dp2
  obtain ⟨w, e1, e2⟩ := look_dk hk al hz
  exact ⟨a, w, rfl, .inl ⟨kvs, Sum.inl i, rd_hid ha.rd, rfl, e1.symm⟩, h w G2 (g1.trans g2) e2⟩
theorem cr_lenI : CallR X (.builtin "len") (fun xs H Q => ∃ a kvs, xs = [V.ref a] ∧ Rd H a (.dK kvs) ∧ Q (.int kvs.length) H) := by
  intro pins s σ H xs us Q I r h
  obtain ⟨a, kvs, rfl, ha, q⟩ := h
  obtain ⟨u, rfl, ru⟩ := vals1 r
  cases ru
  exact d_len I ha fun t s' I' => ⟨.int kvs.length, H, I', ⟨t, rfl⟩, q⟩
theorem on_lenI : OpN C (fun xs H Q => ∃ a kvs, xs = [V.ref a] ∧ Rd H a (.dK kvs) ∧ Q (.int kvs.length) H) bLenI := by
  intro vs H ds Q S0 H0 Pb σ δ w R dp h
  unfold bLenI at h
  split at h
  · rename_i es
    obtain ⟨ai, h⟩ := h
    cases dp with
    | cons a b =>
      cases b
      have h : Dv (C.bx S0 H0) σ H δ Q (.int (es.length : Int)) := h
      rw [of_allInt ai] at a
      obtain ⟨c, kvs, rfl, ha, hk, al⟩ := dkI_of a
      refine ⟨c, kvs, rfl, rd_hid ha.rd, ?_⟩
      rw [keys_len hk]
      have : (intsOf es).length = es.length := by
        have := congrArg List.length (of_allInt ai)
        rw [List.length_map] at this
        exact this.symm
      rw [this]
      exact h _ H (Grow.refl H) (.int _)
  · exact h.elim
theorem kV_dps {K : PySem.W.Frag} {H : Hp} : ∀ {kvs : List (Key × V)} {ps : List (Int × D)}, kvs.map (·.1) = ps.map (fun p => (Sum.inl p.1 : Key)) → DpAll K H (kvs.map fun kv => kV kv.1) ((ps.map enI).map (·.1))
  | [], [], _ => .nil
  | [], _ :: _, h => by cases h
  | _ :: _, [], h => by cases h
  | q :: kvs, p :: ps, h => by
    rw [List.map_cons, List.map_cons] at h
    have h1 : q.1 = Sum.inl p.1 := (List.cons.inj h).1
    rw [List.map_cons, List.map_cons, List.map_cons, h1]
    exact .cons (.int _) (kV_dps (List.cons.inj h).2)
def rListI : List V → Hp → VK → Prop := fun xs H Q => ∃ (a : Addr) (kvs : List (Key × V)), xs = [.ref a] ∧ Rd H a (.dK kvs) ∧ ∀ p, H p = none → Q (.ref p) (upd H p (.lst (kvs.map fun kv => kV kv.1)))
theorem on_listI : OpN C rListI bListI := by
  intro vs H ds Q S0 H0 Pb σ δ w R dp h
  unfold bListI at h
  split at h
  · rename_i es
    obtain ⟨ai, h⟩ := h
    cases dp with
    | cons a b =>
      cases b
      have h : Dv (C.bx S0 H0) σ H δ Q (.list (es.map (·.1))) := h
      have e := of_allInt ai
      generalize intsOf es = ps at e
      subst e
      obtain ⟨c, kvs, rfl, ha, hk, al⟩ := dkI_of a
      exact ⟨c, kvs, rfl, rd_hid ha.rd, new_lst R (kV_dps hk) h⟩
  · exact h.elim
theorem di_keysI (he : DE X C W e f) : DI X C W tg e (iKeysI f) := by
  obtain ⟨t, pt, qt⟩ := he
  refine ⟨_, pi_keys pt, fun S0 H0 Pb σ H δ Q R h => qt S0 H0 Pb σ H δ _ R ((f δ).mono (fun d h v G g1 dp => ?_) (fun _ z => z) h)⟩
  obtain ⟨ps, rfl, ne, h⟩ := keysW_inv h
  obtain ⟨c, kvs, rfl, ha, hk, al⟩ := dkI_of dp
  cases ha with
  | e _ =>
    exfalso
    cases ps with
    | nil => exact ne rfl
    | cons => cases hk
  | @f _ od n ha =>
    refine ⟨c, od, rfl, .inl ⟨kvs, (of_hid ha).2, h (Itk c od kvs) G g1 ?_⟩⟩
    have wk := walk_keys (d := c) (o := od) (kvs := kvs)
    have el : kvs.length = ((ps.map enI).map (·.1)).length := by rw [List.length_map, List.length_map, ← keys_len hk]
    rw [el] at wk
    refine ⟨_, _, wk, fun H1 l1 _ => l1 c _ ha (fun ps z => by cases z), fun i H1 x H2 S hi l1 l2 dm y => ?_⟩
    · obtain ⟨rfl, k, z, e1, rfl⟩ := y
      have dd := kV_dps (K := C.K) (H := hid S H2) hk
      obtain ⟨d, hd⟩ : ∃ d, ((ps.map enI).map (·.1))[i]? = some d := ⟨_, List.getElem?_eq_getElem (by simpa using hi)⟩
      obtain ⟨v, h1, h2⟩ := dps_get dd hd
      rw [List.getElem?_map, e1] at h1
      cases h1
      exact ⟨Grow.refl _, d, hd, h2⟩
end
end Tr

namespace Tr
open PySem PySem.Spec PyProof.Rows L2
variable [ProtC]
theorem sIn_idem (s : Sl) : sIn (sIn s) = sIn s := by cases s <;> rfl
theorem wipe_wipe {δ : De} : ∀ {vs : List Nat}, dWipe (dWipe δ []) vs = dWipe δ vs
  | [] => by
    show (δ.map sIn).map sIn = δ.map sIn
    rw [List.map_map]
    exact List.map_congr_left fun s _ => sIn_idem s
  | v :: vs => by
    show (dWipe (dWipe δ []) vs).set v .non = (dWipe δ vs).set v .non
    rw [wipe_wipe (vs := vs)]
def nDc (fi : De → Wp (List D)) (g : BF) (t : TF) (fk fv : DF) (vs : List Nat) : De → Wp (List (D × D)) := fun δ => (fi δ).bind fun ds => .need (ds.length ≤ sizeLine) (((lcLoop g t (dKv fk fv) (dWipe δ vs) ds).nox).bind fun prs => .pure ((dctI prs).map enI))
theorem own_dks {K : PySem.W.Frag} {H : Hp} {a : Addr} {kvs : List (Key × V)} {prs : List D} (h : DkAll K H kvs prs) : OwAt K H a (.dK kvs) (.k ((dctI prs).map enI)) := .k (keys_of_inl h.1) (by rw [en_snd]; exact h.2)
theorem dc_read {C : Cs} {W : WX} {wi : TI} {fi : De → Wp (List D)} {g : BF} {ix vs : List Nat} {t : TF} {fk fv : DF}
    (qw : ∀ S0 H0 Pb σ H δ Q, Rep (C.bx S0 H0) Pb σ H δ → (fi δ).run (fun ds => ∀ J G, Grow H G → Items C.K (hid (Own (C.bx S0 H0) σ δ) G) (obh C H0) ds J → Q J G) (Ew (C.bx S0 H0) W σ H) → wi σ H Q) (hix : ∀ i ∈ ix, i ∈ vs)
    {S0 : Addr → Prop} {H0 Pb : Hp} {σ : L2.St} {H : Hp} {δ : De} {Q : VK} (R : Rep (C.bx S0 H0) Pb σ H δ)
    (h : (fi δ).run (fun ds => ds.length ≤ sizeLine ∧ (lcLoop g t (dKv fk fv) (dWipe δ vs) ds).run (fun prs => ∀ a u G, Grow H G → H a = none → G a = some u → OwAt C.K (hid (fun b => Own (C.bx S0 H0) σ δ b ∨ b = a) G) a u (.k ((dctI prs).map enI)) → Q (.ref a) G) (fun _ => False)) (Ew (C.bx S0 H0) W σ H)) :
    tDc wi (rG C ix g) (rT C W0 t) (rE C W0 fk) (rE C W0 fv) vs σ H Q := by
  refine qw S0 H0 Pb σ H δ _ R ((fi δ).mono (fun ds h J G gr it => ?_) (fun _ z => z) h)
  obtain ⟨hl, h⟩ := h
  intro a na
  have nH : H a = none := gr.free na
  have g0 : Grow G (upd G a (.dK [])) := Grow.new na
  have g4 : Grow H (upd G a (.dK [])) := gr.trans g0
  have R2 := R.blkD [] g4 nH upd_same
  have le : Le (hid (Own (C.bx S0 H0) σ δ) G) (hid (fun b => Own (C.bx S0 H0) σ δ b ∨ b = a) (upd G a (.dK []))) := fun b u e z => by
    obtain ⟨h1, h2⟩ := of_hid e
    have nb : b ≠ a := fun z => by rw [z, na] at h2; cases h2
    rw [hid_in fun z => z.elim h1 nb, upd_ne nb]
    exact h2
  have it2 : Items C.K (hid (fun b => Own (C.bx S0 H0) σ δ b ∨ b = a) (upd G a (.dK []))) (obh C H0) ds J := it.mono le (Le.refl _)
  refine dc_in (σ2 := wipe σ []) (δ1 := dWipe δ []) (acc0 := []) (ys0 := []) hix R nH R2 g4 upd_same ⟨rfl, .nil⟩ it2 (by simpa using hl) ?_
  rw [wipe_wipe]
  refine (lcLoop g t (dKv fk fv) (dWipe δ vs) ds).mono (fun prs hy => ?_) (fun _ z => z) h
  intro acc Hn gn ln ha dk
  exact hy a _ Hn gn nH ha (own_dks dk)
section
variable {X : Cx} {C : Cs} {W : WX} {pos p : Pos} {kx vx tg iter e : Expr} {ifs : List Expr} {scope : Scope} {own : List (Str × Nat)} {fi : De → Wp (List D)} {g : BF} {ix : List Nat} {t : TF} {fk fv f : DF} {k : Nat}
theorem ps_setDc {i : Nat} {y : Str} {py spos : Pos} {wi : TI} {g : TG} {tt : TT} {tk tv : TE} (hc : X.calm = true) (hN : X.N.Nodup) (hy : X.N[i]? = some y) (hyl : X.env.scope.names.lookup y = some .local)
    (hsw : swapsWith (.DictComp kx vx [⟨tg, iter, ifs, 0⟩] scope pos) (some (.Name y py)) spos.line X.env = pure true) (hi : PI X tg iter wi) (ok : BlkOk X.N X.env.scope scope own)
    (hg : ∀ (s : Shared) (H : Hp) (C : Addr) (cl : List (Str × Addr)) (fp : List Addr), PG (X.blk s H scope (compEnvC scope cl C X.env) fp) tg g) (ht : ∀ (s : Shared) (H : Hp) (C : Addr) (cl : List (Str × Addr)) (fp : List Addr), PTs (X.blk s H scope (compEnvC scope cl C X.env) fp) ifs tt)
    (hk : ∀ (s : Shared) (H : Hp) (C : Addr) (cl : List (Str × Addr)) (fp : List Addr), PE (X.blk s H scope (compEnvC scope cl C X.env) fp) kx tk)
    (he : ∀ (s : Shared) (H : Hp) (C : Addr) (cl : List (Str × Addr)) (fp : List Addr), PE (X.blk s H scope (compEnvC scope cl C X.env) fp) vx tv) (hs : ∀ x, foldedSetIterable iter X.env x = pure x := by intro _; rfl) :
    PS X (.Assign [.Name y py] (.DictComp kx vx [⟨tg, iter, ifs, 0⟩] scope pos) spos) (tAsg (tDc wi g tt tk tv (own.map (·.2))) (gName i)) := by
  refine ⟨fun pins s σ H D I h => ?_⟩
  rw [exec_Assign_Name_used _ _ _ _ hsw]
  refine wpAny_bind (wpAny_standAt (wpAny_bind ?_))
  show wpAny _ X.A (do let _ ← comprehension (.DictComp kx vx [⟨tg, iter, ifs, 0⟩] scope pos) scope X.env (firstIterPos [⟨tg, iter, ifs, 0⟩] pos) newDict false (eval iter X.env) (some (assign (.Name y py) X.env))) _ _ s
  have h : tDc wi g tt tk tv (own.map (·.2)) σ H (fun x H1 => gName i x σ H1 D.nx) := h
  refine wpAny_bind (thn (dc_core (Qf := fun _ s' => SP X pins D .next s') hc hN I hi ok hg ht hk he hs h fun L C s' m H' I' q hn f => ?_) fun _ s' hq => wpAny_pure (wpAny_pure hq))
  show wpAny _ _ (assign (.Name y py) X.env (.ref L)) _ _ _
  refine wpAny_assign_Name (store_ok2 (v := V.ref L) I' hN hy (.inl hyl) rfl (fun s2 I2 ⟨a, sb, ha⟩ => ?_) (.inr hyl))
  obtain ⟨f0, f1, f2, f3, f4, f5⟩ := f
  have haC : C ≠ a := by
    rcases ha with z | z
    · rw [z]; exact f1
    · exact fun e => f4 y a z e.symm
  refine ⟨m, hn.sameBut sb haC, fun h3 sb3 => ?_⟩
  exact ⟨_, H', I2.turned (t' := s2.toks) (fun b o hb e => (sb3.2 b hb).trans e) f0 f1 f3 f4 f5, q⟩
theorem setDc {i : Nat} {y : Str} {py spos : Pos} (hc : X.calm = true) (hN : X.N.Nodup) (hy : X.N[i]? = some y) (hyl : X.env.scope.names.lookup y = some .local) (hsw : swapsWith (.DictComp kx vx [⟨tg, iter, ifs, 0⟩] scope pos) (some (.Name y py)) spos.line X.env = pure true)
    (hi : DI X C W tg iter fi) (ok : BlkOk X.N X.env.scope scope own) (hix : ∀ i ∈ ix, i ∈ own.map (·.2))
    (hg : ∀ (s : Shared) (H : Hp) (Ca : Addr) (cl : List (Str × Addr)) (fp : List Addr), DG (X.blk s H scope (compEnvC scope cl Ca X.env) fp) C tg ix g) (ht : ∀ (s : Shared) (H : Hp) (Ca : Addr) (cl : List (Str × Addr)) (fp : List Addr), DTs (X.blk s H scope (compEnvC scope cl Ca X.env) fp) C W0 ifs t)
    (hk : ∀ (s : Shared) (H : Hp) (Ca : Addr) (cl : List (Str × Addr)) (fp : List Addr), DE (X.blk s H scope (compEnvC scope cl Ca X.env) fp) C W0 kx fk)
    (he : ∀ (s : Shared) (H : Hp) (Ca : Addr) (cl : List (Str × Addr)) (fp : List Addr), DE (X.blk s H scope (compEnvC scope cl Ca X.env) fp) C W0 vx fv) (hs : ∀ x, foldedSetIterable iter X.env x = pure x := by intro _; rfl) :
    DS X C W (.Assign [.Name y py] (.DictComp kx vx [⟨tg, iter, ifs, 0⟩] scope pos) spos) (sSetK i (nDc fi g t fk fv (own.map (·.2)))) := by
  obtain ⟨wi, pw, qw⟩ := hi
  refine ⟨_, ps_setDc hc hN hy hyl hsw pw ok (fun s H Ca cl fp => (hg s H Ca cl fp).to) ht (fun s H Ca cl fp => (hk s H Ca cl fp).to) (fun s H Ca cl fp => (he s H Ca cl fp).to) hs, fun S0 H0 Pb σ H δ E R h => ?_⟩
  refine dc_read qw hix R ((fi δ).mono (fun ds hd => ⟨hd.1, ?_⟩) (fun _ z => z.ew R) h)
  refine (lcLoop g t (dKv fk fv) (dWipe δ (own.map (·.2))) ds).mono (fun prs hy => ?_) (fun _ z => z) (show (lcLoop g t (dKv fk fv) (dWipe δ (own.map (·.2))) ds).run _ _ from hd.2)
  intro a u G gr na ha o
  exact hy _ G (R.setOw gr na ha o)
theorem de_dnk {f : De → Wp (List (D × D))} (hI : ∀ {δ : De} {kk : List (D × D) → Prop} {w : Exn → Prop}, (f δ).run kk w → (f δ).run (fun qs => allInt qs = true ∧ kk qs) w) (h : DNk X C W e f) : DE X C W e (fun δ => (f δ).bind fun qs => .pure (.dict qs)) := by
  obtain ⟨t, p, q⟩ := h
  refine ⟨_, pe_lkd p, fun S0 H0 Pb σ H δ Q R h => q S0 H0 Pb σ H δ _ R ((f δ).mono (fun qs h a u G g na ha o => ?_) (fun _ z => z) (hI h))⟩
  obtain ⟨ai, h⟩ := h
  have h : Dv (C.bx S0 H0) σ H δ Q (.dict qs) := h
  generalize hc : Ow.k qs = c at o
  cases o with
  | l _ => cases hc
  | k hk hd => cases hc; exact new_dkd R g na ha hk hd h
  | @x xs ds ne nd hg hkk ht hdd =>
    cases hc
    exfalso
    rw [of_allInt ai] at hkk
    cases xs with
    | nil => exact ne rfl
    | cons x xs =>
      generalize intsOf qs = ps at hkk
      cases ps with
      | nil => cases hkk
      | cons p ps =>
        obtain ⟨_, _, ks, ek⟩ := hg x (by simp)
        have k1 : (PyData.int p.1) = x.1.data := (List.cons.inj hkk).1
        rw [ek] at k1
        simp [NestedKey.data] at k1
def pairsI : List D → Bool
  | [] => true
  | .tuple [.int _, _] :: r => pairsI r
  | _ :: _ => false
def nDictI (f : DF) : De → Wp (List (D × D)) := fun δ => (f δ).bind fun d => (lstD d).bind fun es => .need (pairsI es = true) (.pure ((dctI es).map enI))
theorem pairsI_cons {e : D} {r : List D} (h : pairsI (e :: r) = true) : ∃ k b, e = .tuple [.int k, b] ∧ pairsI r = true := by
  unfold pairsI at h
  split at h
  · rename_i e1
    cases e1
  · rename_i k b r' e1
    cases e1
    exact ⟨_, _, rfl, h⟩
  · cases h
theorem merge_dk {K : PySem.W.Frag} {H : Hp} : ∀ {es : List D} {vs : List V} (acc : List (Key × V)) (done : List D), pairsI es = true → DpAll K H vs es → DkAll K H acc done → ∃ (ps : List Addr) (kvs : List (Key × V)), vs = ps.map V.ref ∧ Paired (fun p kv => SqT K H p [kV kv.1, kv.2]) ps kvs ∧ DkAll K H (mergeK acc kvs) (done ++ es)
  | [], _, acc, done, _, .nil, h => ⟨[], [], rfl, .nil, by rw [List.append_nil]; exact h⟩
  | e :: es, _, acc, done, hp, .cons a t, h => by
    obtain ⟨k, b, rfl, hp2⟩ := pairsI_cons hp
    cases a with
    | @tup p xs _ s al =>
      cases al with
      | @cons v1 _ _ _ a1 al =>
        cases al with
        | @cons v2 _ _ _ a2 al =>
          cases al
          cases a1
          obtain ⟨ps, kvs, rfl, pp, dk⟩ := merge_dk (es := es) (putK acc (Sum.inl k) v2) (done ++ [.tuple [.int k, b]]) hp2 t (dks_snoc h a2)
          exact ⟨p :: ps, (Sum.inl k, v2) :: kvs, rfl, .cons s.sq pp, by rw [List.append_assoc] at dk; exact dk⟩
theorem lstD_inv {d : D} {kk : List D → Prop} {w : Exn → Prop} (h : (lstD d).run kk w) : ∃ es, d = .list es ∧ kk es := by
  unfold lstD at h
  split at h
  · exact ⟨_, rfl, h⟩
  · exact h.elim
theorem dnk_dictI (hc : X.calm = true) (hK : C.K = X.K) (hg : Gl X "dict") (hm : X.mg "dict" = none) (hx : DE X C W e f)
    (hs1 : starEach [e] X.env = (false, eval e X.env) :: starEach [] X.env := by rfl) (hp2 : (backTo pos (starEach ([] : List Expr) X.env)).any (·.1) = false := by rfl) :
    DNk X C W (.Call (.Name "dict" p) [e] [] pos) (nDictI f) := by
  obtain ⟨tx, px, qx⟩ := hx
  have i2 := pe_callTy (p := p) (pos := pos) (call_dictP hc) hg hm rfl (pa_cons px pa_nil hs1) (by decide) (by decide) hs1 hp2
  refine ⟨_, i2, fun S0 H0 Pb σ H δ Q R h => ?_⟩
  refine qx S0 H0 Pb σ H δ _ R ((f δ).mono (fun d h v G g dv => ?_) (fun _ z => z) h)
  obtain ⟨es, rfl, hpi, h⟩ := lstD_inv h
  · have dv : Dp C.K (hid (Own (C.bx S0 H0) σ δ) G) v (.list es) := dv
    cases dv with
    | @lst a vs _ sq al =>
      have R1 := R.gr g
      obtain ⟨ps, kvs, rfl, pp, dk⟩ := merge_dk [] [] hpi al ⟨rfl, .nil⟩
      refine ⟨a, ps, kvs, rfl, by rw [← hK]; exact hid_sub.sqL sq, paired_mono (fun _ _ h => by rw [← hK]; exact hid_sub.sqT h) pp, fun q nq => ?_⟩
      refine h q _ _ (g.trans (Grow.new nq)) (g.free nq) upd_same (own_dks (Le.dks (fun b u e z => ?_) _ _ dk))
      obtain ⟨h1, h2⟩ := of_hid e
      have nb : b ≠ q := fun z => by rw [z, nq] at h2; cases h2
      rw [hid_in fun z => z.elim h1 nb, upd_ne nb]
      exact h2
theorem hI_dictI {δ : De} {kk : List (D × D) → Prop} {w : Exn → Prop} (h : (nDictI f δ).run kk w) : (nDictI f δ).run (fun qs => allInt qs = true ∧ kk qs) w :=
  (f δ).mono (fun d h => (lstD d).mono (fun es h => ⟨h.1, allInt_en _, h.2⟩) (fun _ z => z) h) (fun _ z => z) h
def dDictI (f : DF) : DF := fun δ => (nDictI f δ).bind fun qs => .pure (.dict qs)
end
end Tr

namespace Tr
open PySem PySem.Spec L2
variable [ProtC]
end Tr

namespace Tr
open PySem PySem.Spec PyProof.Rows L2
open LamX (CodeO TabS Tabs ExtN GivesTo)
variable [ProtC]
def TToldN (K : PySem.W.Frag) (CS CT : Addr) (fld : Str) : (XK → Hp → VK → Prop) → Hp → VK → Prop := fun tl H Q =>
  tl (fun cls d H' => ∃ (dd : Addr) (fs : List (Str × V)) (i : Int), PySem.W.exmOne K cls (.ref CS) = some true ∧ cls = .ref CT ∧ d = some dd ∧ H' dd = some (.xd fs) ∧ fs.lookup fld = some (.int i) ∧ Q .non H') H Q
theorem toldN_gives {X : Cx} {x wk e q fld rs : Str} {sg : Scope} {g CS CT : Addr} {cdg : Value} {jn : Nat} {p1 p2 p3 p4 p14 p17 p18 p19 : Pos}
    (hRS : sg.names.lookup rs = some .globalImplicit) (hmRS : X.mg rs = some (.ref CS)) (hdR : (rs == ("__debug__" : Str)) = false)
    (hN : [wk, e].Nodup) (hle : sg.names.lookup e = some .local) :
    GivesTo X [wk, e] x sg g cdg [.Try [.Return (some (.Call (.Name wk p1) [] [] p2)) p3] [.ExceptHandler (some (.Name rs p4)) (some e) [.Return (some (.Constant .none jn p14)) p17] p18] [] [] p19] wk q (TToldN X.K CS CT fld) := by
  intro f c' s H Q tl act hc h
  have hgl : Gl (cxOf C8.CX0 X.prog X.w X.K X.mg X.base [wk, e] x sg g cdg X.A X.stack s H C8.E0).nox rs := hRS
  refine ⟨_, pss_one (ps_try_as (X := (cxOf C8.CX0 X.prog X.w X.K X.mg X.base [wk, e] x sg g cdg X.A X.stack s H C8.E0).nox) (c := .ref CS) (i := 1)
      (tb := fun W D σ H => ∃ Ech : XK, (∀ cls d σ' H', Ech cls d H' → W cls d σ' H') ∧ σ[0]? = some (some (.ref f)) ∧ H c' = some (CodeO c' q) ∧ tl Ech H D.rt)
      (ts := fun a cls d D σ H => tRet (tC .non) D σ H)
      rfl rfl hN rfl hle ⟨hgl, hdR, .inl hmRS⟩ takes0 (fun W pn xe tk _ => ?_) (fun a oe cls d pn hz hf => ?_)), ?_⟩
  · refine ⟨fun pins s' σ H' D I h' => ?_⟩
    obtain ⟨Ech, hW, h1, h2, h3⟩ := h'
    have hp := act W pn xe Ech p1 p2 tk hW
    have hq := pss_one (ps_ret (pos := p3) hp)
    exact hq.run pins s' σ H' D I ⟨h1, h2, h3⟩
  · exact pss_one (ps_ret pe_non)
  · refine ⟨fun cls d H' => ∃ (dd : Addr) (fs : List (Str × V)) (i : Int), PySem.W.exmOne X.K cls (.ref CS) = some true ∧ cls = .ref CT ∧ d = some dd ∧ H' dd = some (.xd fs) ∧ fs.lookup fld = some (.int i) ∧ Q .non H', ?_, rfl, hc, h⟩
    rintro cls d σ' H' ⟨dd, fs, i, h1, h2, h3, h4, h5, h6⟩
    exact ⟨true, h1, fun _ a ha => h6, fun z => nomatch z⟩
def dToldN (x fld : Str) (F : DF) : DF := fun δ => ⟨fun k e => (F δ).run k fun y => ∃ i : Int, y = ⟨x, some (fld, .int i)⟩ ∧ k .none,
  fun h1 _ r => (F δ).mono h1 (fun y ⟨i, e, q⟩ => ⟨i, e, h1 _ q⟩) r⟩
theorem toldN_run {x fld : Str} {F : DF} {δ : De} {k : D → Prop} {e : Exn → Prop} (h : (F δ).run k fun y => ∃ i : Int, y = ⟨x, some (fld, .int i)⟩ ∧ k .none) : (dToldN x fld F δ).run k e := h
theorem de_toldN {X : Cx} {C : Cs} {W : WX} {tx a fld x : Str} {g c P CS CT : Addr} {k : Nat} {pg : Arguments} {bg : List Stmt} {sg : Scope} {fd : FuncData} {Ng : List Str}
    {params : Arguments} {body : Expr} {scope : Scope} {F : DF} {p lpos pos : Pos} (hr : Room (k + 2) X.A) (hK : C.K = X.K) (hmg : C.mg = X.mg) (hg : Gl X tx) (hm : X.mg tx = some (.ref g)) (FD : FunD X.K tx tx pg bg sg [] [] g fd)
    (hb : L2.Binds X.K fd [a] []) (Sg : FnScope Ng [a] sg) (hNg : Ng[0]? = some a) (hva : Vis sg a)
    (hG : ∀ (q : Str) (cdv : Value), LamX.GivesTo X Ng tx sg g cdv bg a q (TToldN X.K CS CT fld))
    (hx : X.mg x = some (.ref CT)) (hex : PySem.W.exmOne X.K (.ref CT) (.ref CS) = some true)
    (TB : LamX.TabB X.base X.mg c P) (hcode : X.env.code = .ref c) (hP : (P, X.env.qual ++ "<lambda>") ∈ C.TL) (hu : ∀ q, ProtC.p P q → q = X.env.qual ++ "<lambda>") (L : LamX.LamS X.env.scope scope) (hdef : defaultsOf params X.env = ([], []))
    (hbind : ∀ (q : Str) (cl : List (Str × Addr)) (pm cv ctv : Value), bindArgs (PySem.W.kla_fn "<lambda>" q params body scope cl pm cv ctv) ⟨[], []⟩ = pure [])
    (hF : LFr4 X scope k fun E Y => DE Y C (wL E) body F)
    (hdb : (tx == ("__debug__" : Str)) = false := by decide) (hd : (a == ("__debug__" : Str)) = false := by decide) (hcd : (a == ("__classdict__" : Str)) = false := by decide) :
    DE X C W (.Call (.Name tx p) [.Lambda params body scope lpos] [] pos) (dToldN x fld F) := by
  refine ⟨_, pe_lam4 (TT := TToldN X.K CS CT fld) (t := tD4 C F) hg hm FD hb Sg hNg hva (fun cdv => hG _ cdv) TB hcode hu hr L hdef hbind (fun A outer s H E f c' hr2 => pe_tD4 (hF A outer s H E f c' hr2)) hdb hd hcd, fun S0 H0 Pb σ H δ Q R h => ?_⟩
  refine ⟨R.scrO.2.1 _ hP, fun H1 g1 => ?_⟩
  have R1 := R.gr g1
  refine ⟨S0, H0, Pb, δ, R1, (F δ).mono (fun d q => q.gr g1) (fun y q => ?_) h⟩
  obtain ⟨i, rfl, q⟩ := q
  intro cls dc G g2 ex
  obtain ⟨⟨Cx', hc, rfl⟩, a', v, rfl, ha, dp⟩ := ex
  have hc2 : X.mg x = some (.ref Cx') := by rw [← hmg]; exact hc
  rw [hx] at hc2
  cases hc2
  cases dp
  refine ⟨a', _, i, hex, rfl, rfl, ha, by simp, ?_⟩
  exact q _ G (g1.trans g2) .non
end Tr


namespace Tr
open PySem PySem.Spec L2
variable [ProtC]

theorem sc_law_taken : FnScope ["_law_row", "_law_many", "_law_found", "_law_cell"] ["_law_row", "_law_many"] (defScope s_law_taken) := ⟨rfl, rfl, rfl, by decide +kernel, rfl, by decide +kernel, by decide +kernel⟩
noncomputable abbrev f_law_taken (C : Cs) : List Ar → Wp D := fTaken C

theorem sc_law_pick : FnScope ["_law_row", "_law_things"] ["_law_row", "_law_things"] (defScope s_law_pick) := ⟨rfl, rfl, rfl, by decide +kernel, rfl, by decide +kernel, by decide +kernel⟩
noncomputable def b_law_pick (C : Cs) : SF := (sRet (d2 dIx (dV 1) (dCall 2 (f_law_taken C) (aTrk 0 (aCons (dCB bLen (aCons (dV 1) aNil)) aNil)))))
noncomputable def f_law_pick (C : Cs) : List Ar → Wp D := dRun 2 (b_law_pick C)

theorem sc_law_road : FnScope ["_law_row", "_law_start", "_law_end"] ["_law_row", "_law_start", "_law_end"] (defScope s_law_road) := ⟨rfl, rfl, rfl, by decide +kernel, rfl, by decide +kernel, by decide +kernel⟩
noncomputable def b_law_road (C : Cs) : SF := (sRet (dTup (aCons (dV 1) (aCons (dV 2) (aCons (dCall 2 (f_law_pick C) (aTrk 0 (aCons (dLst (aCons (dC (.int 0)) (aCons (dC (.int 1)) (aCons (dC (.int 1)) (aCons (dC (.int 2)) (aCons (dC (.int 100)) (aCons (dCall 2 (f_law_taken C) (aTrk 0 (aCons (dC (.int 9)) aNil))) aNil))))))) aNil))) (aCons (dCall 2 (f_law_pick C) (aTrk 0 (aCons (dLst (aCons (dC (.int 0)) (aCons (dC (.int 1)) (aCons (dC (.int 10)) (aCons (dC (.int 1000)) (aCons (dCall 2 (f_law_taken C) (aTrk 0 (aCons (dC (.int 30)) aNil))) aNil)))))) aNil))) aNil))))))
noncomputable def f_law_road (C : Cs) : List Ar → Wp D := dRun 3 (b_law_road C)

theorem sc_law_net : FnScope ["_law_row", "_law_size", "_law_order", "_law_roads", "_law_node", "_law_k", "_law_turn", "_law_start"] ["_law_row"] (defScope s_law_net) := ⟨rfl, rfl, rfl, by decide +kernel, rfl, by decide +kernel, by decide +kernel⟩
noncomputable def b_law_net (C : Cs) : SF := (sSeq (sSet 1 (d2 dAdd (dC (.int 2)) (dCall 2 (f_law_taken C) (aTrk 0 (aCons (dC (.int 4)) aNil))))) (sSeq (sParOO 2 3 (nLst (aCons (dC (.int 0)) aNil)) (nLst aNil)) (sSeq (sFor (iRgD2 (dC (.int 1)) (d2 dSub (dV 1) (dC (.int 1)))) (bName 4) (sFz 2 (sSetO 2 (nAddL (dV 2) (d2 dMulA (dLst (aCons (dV 4) aNil)) (dCB bInt (aCons (d2 dEq (dCall 2 (f_law_taken C) (aTrk 0 (aCons (dC (.int 2)) aNil))) (dC (.int 0))) aNil))))))) (sSeq (sApp 2 (d2 dSub (dV 1) (dC (.int 1)))) (sFz 2 (sSeq (sFor (iRgD2 (dC (.int 1)) (dCB bLen (aCons (dV 2) aNil))) (bName 5) (sFz 2 (sApp 3 (dCall 3 (f_law_road C) (aTrk 0 (aCons (d2 dIx (dV 2) (d2 dSub (dV 5) (dC (.int 1)))) (aCons (d2 dIx (dV 2) (dV 5)) aNil))))))) (sSeq (sFor (iRgD1 (dCall 2 (f_law_taken C) (aTrk 0 (aCons (dC (.int 7)) aNil)))) (bName 6) (sSeq (sSet 7 (dCall 2 (f_law_taken C) (aTrk 0 (aCons (dV 1) aNil)))) (sApp 3 (dCall 3 (f_law_road C) (aTrk 0 (aCons (dV 7) (aCons (d2 dMod (dCB bInt (aCons (d2 dAdd (d2 dAdd (dV 7) (dC (.int 1))) (dCall 2 (f_law_taken C) (aTrk 0 (aCons (d2 dSub (dV 1) (dC (.int 1))) aNil)))) aNil)) (dV 1)) aNil))))))) (sFz 3 (sRet (dTup (aCons (dV 1) (aCons (dCB bTuple (aCons (dSl (dV 3) oNone (oSome (dC (.int 10)))) aNil)) aNil))))))))))))
noncomputable def f_law_net (C : Cs) : List Ar → Wp D := dRun 8 (b_law_net C)

theorem sc_law_ways : FnScope ["_law_net_here", "_law_start", "_law_goal", "_law_found", "_law_rows", "_law_turn", "_law_more", "_law_way", "_law_nodes", "_law_k", "_law_one"] ["_law_net_here", "_law_start", "_law_goal"] (defScope s_law_ways) := ⟨rfl, rfl, rfl, by decide +kernel, rfl, by decide +kernel, by decide +kernel⟩
noncomputable def b_law_ways : SF := (sSeq (sPar 3 4 (aCons (dLst aNil) (aCons (dLst (aCons (dTup (aCons (dTup aNil) (aCons (dTup (aCons (dV 1) aNil)) aNil))) aNil)) aNil))) (sFz 4 (sSeq (sFor (iRgD1 (d2 dIx (dV 0) (dC (.int 0)))) (bName 5) (sSeq (sSetO 6 (nLst aNil)) (sFz 4 (sSeq (sFor (iSeqD (dV 4)) (bTup 2 (bCons (bName 7) (bCons (bName 8) bNil))) (sFor (iRgD1 (dCB bLen (aCons (d2 dIx (dV 0) (dC (.int 1))) aNil))) (bName 9) (sIf (tAnd2 (tBv (d2 dEq (d2 dIx (d2 dIx (d2 dIx (dV 0) (dC (.int 1))) (dV 9)) (dC (.int 0))) (d2 dIx (dV 8) (d1 dNeg (dC (.int 1)))))) (tBv (d2 dNotInA (d2 dIx (d2 dIx (d2 dIx (dV 0) (dC (.int 1))) (dV 9)) (dC (.int 1))) (dV 8)))) (sApp 6 (dTup (aCons (d2 dAdd (dV 7) (dTup (aCons (dV 9) aNil))) (aCons (d2 dAdd (dV 8) (dTup (aCons (d2 dIx (d2 dIx (d2 dIx (dV 0) (dC (.int 1))) (dV 9)) (dC (.int 1))) aNil))) aNil)))) sNext))) (sFz 6 (sSeq (sSet 3 (d2 dAdd (dV 3) (dNl (nLc (iSeqD (dV 6)) (bTup 2 (bCons (bName 7) (bCons (bName 8) bNil))) (tBv (d2 dEq (d2 dIx (dV 8) (d1 dNeg (dC (.int 1)))) (dV 2))) (dV 7) ([7, 8] : List Nat))))) (sFz 6 (sSetO 4 (nLc (iSeqD (dV 6)) (bName 10) (tBv (d2 dNe (d2 dIx (d2 dIx (dV 10) (dC (.int 1))) (d1 dNeg (dC (.int 1)))) (dV 2))) (dV 10) ([10] : List Nat)))))))))) (sRet (dCB bSortedB (aCons (dV 3) aNil))))))
noncomputable def f_law_ways : List Ar → Wp D := dRun 11 b_law_ways

theorem sc_is_in : FnScope ["value", "least", "most"] ["value", "least", "most"] (defScope s_is_in) := ⟨rfl, rfl, rfl, by decide +kernel, rfl, by decide +kernel, by decide +kernel⟩
noncomputable def b_is_in : SF := (sRet (dAndV (dIsi "int" (dV 0)) (dAndV (dNotV (dIsi "bool" (dV 0))) (dChain dLe dLe (dV 1) (dV 0) (dV 2)))))
noncomputable def f_is_in : List Ar → Wp D := dRun 3 b_is_in

theorem sc_is_road : FnScope ["size", "value", "one"] ["size", "value"] (defScope s_is_road) := ⟨rfl, rfl, rfl, by decide +kernel, rfl, by decide +kernel, by decide +kernel⟩
noncomputable def b_is_road : SF := (sSeq (sIf (tOr2 (tNotV (tT (dIsi "tuple" (dV 1)))) (tBv (d2 dNe (dCB bLen (aCons (dV 1) aNil)) (dC (.int 4))))) (sRet (dC (.bool false))) sNext) (sSeq (sIf (tOr2 (tNotV (tT (dGa true (iSeqD (dSl (dV 1) oNone (oSome (dC (.int 2))))) (bName 2) tYesD (dCall 3 f_is_in (aCons (dV 2) (aCons (dC (.int 0)) (aCons (d2 dSub (dV 0) (dC (.int 1))) aNil)))) ([2] : List Nat)))) (tBv (d2 dEq (d2 dIx (dV 1) (dC (.int 0))) (d2 dIx (dV 1) (dC (.int 1)))))) (sRet (dC (.bool false))) sNext) (sRet (dAndV (dCall 3 f_is_in (aCons (d2 dIx (dV 1) (dC (.int 2))) (aCons (dC (.int 0)) (aCons (dC (.int 100)) aNil)))) (dCall 3 f_is_in (aCons (d2 dIx (dV 1) (dC (.int 3))) (aCons (dC (.int 0)) (aCons (dC (.int 1000)) aNil))))))))
noncomputable def f_is_road : List Ar → Wp D := dRun 3 b_is_road

theorem sc_need_net : FnScope ["net", "index", "one"] ["net"] (defScope s_need_net) := ⟨rfl, rfl, rfl, by decide +kernel, rfl, by decide +kernel, by decide +kernel⟩
noncomputable def b_need_net : SF := (sSeq (sIf (tOr2 (tNotV (tT (dIsi "tuple" (dV 0)))) (tOr2 (tBv (d2 dNe (dCB bLen (aCons (dV 0) aNil)) (dC (.int 2)))) (tNotV (tT (dCall 3 f_is_in (aCons (d2 dIx (dV 0) (dC (.int 0))) (aCons (dC (.int 2)) (aCons (dC (.int 6)) aNil)))))))) sDead sNext) (sSeq (sIf (tOr2 (tNotV (tT (dIsi "tuple" (d2 dIx (dV 0) (dC (.int 1)))))) (tNotV (tBv (dChain dLe dLe (dC (.int 1)) (dCB bLen (aCons (d2 dIx (dV 0) (dC (.int 1))) aNil)) (dC (.int 10)))))) sDead sNext) (sFor (iEnD (d2 dIx (dV 0) (dC (.int 1)))) (bTup 2 (bCons (bName 1) (bCons (bName 2) bNil))) (sIf (tNotV (tT (dCall 2 f_is_road (aCons (d2 dIx (dV 0) (dC (.int 0))) (aCons (dV 2) aNil))))) sDead sNext))))
noncomputable def f_need_net : List Ar → Wp D := dRun 3 b_need_net

theorem sc_need_nodes : FnScope ["net", "start", "goal"] ["net", "start", "goal"] (defScope s_need_nodes) := ⟨rfl, rfl, rfl, by decide +kernel, rfl, by decide +kernel, by decide +kernel⟩
noncomputable def b_need_nodes : SF := (sIf (tOr2 (tNotV (tT (dCall 3 f_is_in (aCons (dV 1) (aCons (dC (.int 0)) (aCons (d2 dSub (d2 dIx (dV 0) (dC (.int 0))) (dC (.int 1))) aNil)))))) (tOr2 (tNotV (tT (dCall 3 f_is_in (aCons (dV 2) (aCons (dC (.int 0)) (aCons (d2 dSub (d2 dIx (dV 0) (dC (.int 0))) (dC (.int 1))) aNil)))))) (tBv (d2 dEq (dV 1) (dV 2))))) sDead sNext)
noncomputable def f_need_nodes : List Ar → Wp D := dRun 3 b_need_nodes

theorem sc_all_ways : FnScope ["net", "start", "goal", "found", "rows", "more", "way", "nodes", "index", "road"] ["net", "start", "goal"] (defScope s_all_ways) := ⟨rfl, rfl, rfl, by decide +kernel, rfl, by decide +kernel, by decide +kernel⟩
noncomputable def b_all_ways : SF := (sSeq (sParOD 3 4 (nLst aNil) (dLst (aCons (dTup (aCons (dTup aNil) (aCons (dTup (aCons (dV 1) aNil)) aNil))) aNil))) (sSeq (sWhile (tT (dV 4)) (sSeq (sSetO 5 (nLst aNil)) (sSeq (sFor (iSeqD (dV 4)) (bTup 2 (bCons (bName 6) (bCons (bName 7) bNil))) (sFor (iEnD (d2 dIx (dV 0) (dC (.int 1)))) (bTup 2 (bCons (bName 8) (bCons (bName 9) bNil))) (sIf (tAnd2 (tBv (d2 dEq (d2 dIx (dV 9) (dC (.int 0))) (d2 dIx (dV 7) (d1 dNeg (dC (.int 1)))))) (tBv (d2 dNotInA (d2 dIx (dV 9) (dC (.int 1))) (dV 7)))) (sIf (tBv (d2 dEq (d2 dIx (dV 9) (dC (.int 1))) (dV 2))) (sApp 3 (dTup (aStar (dV 6) (aCons (dV 8) aNil)))) (sApp 5 (dTup (aCons (dTup (aStar (dV 6) (aCons (dV 8) aNil))) (aCons (dTup (aStar (dV 7) (aCons (d2 dIx (dV 9) (dC (.int 1))) aNil))) aNil))))) sNext))) (sFz 5 (sSet 4 (dV 5)))))) (sFz 3 (sRet (dCB bSortedB (aCons (dV 3) aNil))))))
noncomputable def f_all_ways : List Ar → Wp D := dRun 10 b_all_ways

theorem sc_need_way : FnScope ["net", "start", "goal"] ["net", "start", "goal"] (defScope s_need_way) := ⟨rfl, rfl, rfl, by decide +kernel, rfl, by decide +kernel, by decide +kernel⟩
noncomputable def b_need_way : SF := (sSeq (sDrop (dCall 1 f_need_net (aCons (dV 0) aNil))) (sSeq (sDrop (dCall 3 f_need_nodes (aCons (dV 0) (aCons (dV 1) (aCons (dV 2) aNil))))) (sIf (tNotV (tT (dCall 3 f_all_ways (aCons (dV 0) (aCons (dV 1) (aCons (dV 2) aNil)))))) sDead sNext)))
noncomputable def f_need_way : List Ar → Wp D := dRun 3 b_need_way

theorem sc_roads_on_ways : FnScope ["net", "start", "goal", "way", "index"] ["net", "start", "goal"] (defScope s_roads_on_ways) := ⟨rfl, rfl, rfl, by decide +kernel, rfl, by decide +kernel, by decide +kernel⟩
noncomputable def b_roads_on_ways : SF := (sRet (dDc2 (iSeqD (dCall 3 f_all_ways (aCons (dV 0) (aCons (dV 1) (aCons (dV 2) aNil))))) (bName 3) tYesD (iSeqD (dV 3)) (bName 4) tYesD (dV 4) (dSl (d2 dIx (d2 dIx (dV 0) (dC (.int 1))) (dV 4)) oNone (oSome (dC (.int 2)))) ([3, 4] : List Nat) ([4] : List Nat)))
noncomputable def f_roads_on_ways : List Ar → Wp D := dRun 5 b_roads_on_ways

theorem sc_side_step : FnScope ["table", "some", "i", "j"] ["table"] (defScope s_side_step) := ⟨rfl, rfl, rfl, by decide +kernel, rfl, by decide +kernel, by decide +kernel⟩
noncomputable def b_side_step : SF := (sSeq (sSet 1 (dCB bSortedB (aCons (dCB bListI (aCons (dV 0) aNil)) aNil))) (sSeq (sFor (iSeqD (dV 1)) (bName 2) (sFor (iSeqD (dV 1)) (bName 3) (sIf (tAnd2 (tBv (d2 dLt (dV 2) (dV 3))) (tBv (d2 dEq (d2 dIxI (dV 0) (dV 2)) (d2 dIxI (dV 0) (dV 3))))) (sRet (dTup (aCons (dC (.str "side")) (aCons (dV 2) (aCons (dV 3) aNil))))) sNext))) (sRet (dC .none))))
noncomputable def f_side_step : List Ar → Wp D := dRun 4 b_side_step

theorem sc_is_row : FnScope ["table", "start", "goal", "i", "j", "node", "behind", "one", "before"] ["table", "start", "goal", "i", "j"] (defScope s_is_row) := ⟨rfl, rfl, rfl, by decide +kernel, rfl, by decide +kernel, by decide +kernel⟩
noncomputable def b_is_row : SF := (sSeq (sSet 5 (d2 dIx (d2 dIxI (dV 0) (dV 3)) (dC (.int 1)))) (sSeq (sIf (tOr2 (tBv (d2 dEq (dV 3) (dV 4))) (tOr2 (tBv (d2 dInA (dV 5) (dTup (aCons (dV 1) (aCons (dV 2) aNil))))) (tBv (d2 dNe (d2 dIx (d2 dIxI (dV 0) (dV 4)) (dC (.int 0))) (dV 5))))) (sRet (dC (.bool false))) sNext) (sSeq (sSetO 6 (nLc (iKeysI (dV 0)) (bName 7) (tBv (d2 dEq (d2 dIx (d2 dIxI (dV 0) (dV 7)) (dC (.int 0))) (dV 5))) (dV 7) ([7] : List Nat))) (sSeq (sSetO 8 (nLc (iKeysI (dV 0)) (bName 7) (tBv (d2 dEq (d2 dIx (d2 dIxI (dV 0) (dV 7)) (dC (.int 1))) (dV 5))) (dV 7) ([7] : List Nat))) (sFz 6 (sFz 8 (sRet (dAndV (d2 dEq (dV 6) (dLst (aCons (dV 4) aNil))) (d2 dEq (dV 8) (dLst (aCons (dV 3) aNil)))))))))))
noncomputable def f_is_row : List Ar → Wp D := dRun 9 b_is_row

theorem sc_row_step : FnScope ["table", "start", "goal", "some", "i", "j"] ["table", "start", "goal"] (defScope s_row_step) := ⟨rfl, rfl, rfl, by decide +kernel, rfl, by decide +kernel, by decide +kernel⟩
noncomputable def b_row_step : SF := (sSeq (sSet 3 (dCB bSortedB (aCons (dCB bListI (aCons (dV 0) aNil)) aNil))) (sSeq (sFor (iSeqD (dV 3)) (bName 4) (sFor (iSeqD (dV 3)) (bName 5) (sIf (tT (dCall 5 f_is_row (aCons (dV 0) (aCons (dV 1) (aCons (dV 2) (aCons (dV 4) (aCons (dV 5) aNil))))))) (sRet (dTup (aCons (dC (.str "row")) (aCons (dV 4) (aCons (dV 5) aNil))))) sNext))) (sRet (dC .none))))
noncomputable def f_row_step : List Ar → Wp D := dRun 6 b_row_step

theorem sc_after_step : FnScope ["table", "step", "kind", "i", "j", "found", "one"] ["table", "step"] (defScope s_after_step) := ⟨rfl, rfl, rfl, by decide +kernel, rfl, by decide +kernel, by decide +kernel⟩
noncomputable def b_after_step : SF := (sSeq (sAsg (dV 1) (bTup 3 (bCons (bName 2) (bCons (bName 3) (bCons (bName 4) bNil))))) (sSeq (sSetK 5 (nDc (iKeysI (dV 0)) (bName 6) (tBv (d2 dNe (dV 6) (dV 4))) (dV 6) (d2 dIxI (dV 0) (dV 6)) ([6] : List Nat))) (sSeq (sIf (tBv (d2 dEq (dV 2) (dC (.str "row")))) (sPutK 5 (dV 3) (dTup (aCons (d2 dIx (d2 dIxI (dV 0) (dV 3)) (dC (.int 0))) (aCons (d2 dIx (d2 dIxI (dV 0) (dV 4)) (dC (.int 1))) aNil)))) sNext) (sFzK 5 (sRet (dV 5))))))
noncomputable def f_after_step : List Ar → Wp D := dRun 7 b_after_step

theorem sc_steps_of : FnScope ["net", "start", "goal", "table", "found", "step"] ["net", "start", "goal"] (defScope s_steps_of) := ⟨rfl, rfl, rfl, by decide +kernel, rfl, by decide +kernel, by decide +kernel⟩
noncomputable def b_steps_of : SF := (sSeq (sParDO 3 4 (dCall 3 f_roads_on_ways (aCons (dV 0) (aCons (dV 1) (aCons (dV 2) aNil)))) (nLst aNil)) (sSeq (sWhile (tBv (d2 dGt (dCB bLenI (aCons (dV 3) aNil)) (dC (.int 1)))) (sSeq (sSet 5 (dOrV (dCall 1 f_side_step (aCons (dV 3) aNil)) (dCall 3 f_row_step (aCons (dV 3) (aCons (dV 1) (aCons (dV 2) aNil)))))) (sSeq (sIf (tBv (d2 dIs (dV 5) (dC .none))) (sRet (dC .none)) sNext) (sSeq (sSet 3 (dCall 2 f_after_step (aCons (dV 3) (aCons (dV 5) aNil)))) (sApp 4 (dV 5)))))) (sFz 4 (sRet (dV 4)))))
noncomputable def f_steps_of : List Ar → Wp D := dRun 6 b_steps_of

theorem sc_reduction : FnScope ["net", "start", "goal", "found"] ["net", "start", "goal"] (defScope s_reduction) := ⟨rfl, rfl, rfl, by decide +kernel, rfl, by decide +kernel, by decide +kernel⟩
noncomputable def b_reduction : SF := (sSeq (sDrop (dCall 3 f_need_way (aCons (dV 0) (aCons (dV 1) (aCons (dV 2) aNil))))) (sSeq (sSet 3 (dCall 3 f_steps_of (aCons (dV 0) (aCons (dV 1) (aCons (dV 2) aNil))))) (sRet (dIf (tBv (d2 dIs (dV 3) (dC .none))) (dC .none) (dCB bTuple (aCons (dV 3) aNil))))))
noncomputable def f_reduction : List Ar → Wp D := dRun 4 b_reduction

theorem sc_few_ways : FnScope ["net", "start", "goal", "found"] ["net", "start", "goal"] (defScope s_few_ways) := ⟨rfl, rfl, rfl, by decide +kernel, rfl, by decide +kernel, by decide +kernel⟩
noncomputable def b_few_ways : SF := (sSeq (sSet 3 (dCall 3 f_all_ways (aCons (dV 0) (aCons (dV 1) (aCons (dV 2) aNil))))) (sSeq (sIf (tBv (d2 dGt (dCB bLen (aCons (dV 3) aNil)) (dC (.int 20)))) (sRaiseF "TooMany" "most" (dC (.int 20))) sNext) (sRet (dV 3))))
noncomputable def f_few_ways : List Ar → Wp D := dRun 4 b_few_ways

theorem sc_ways : FnScope ["net", "start", "goal"] ["net", "start", "goal"] (defScope s_ways) := ⟨rfl, rfl, rfl, by decide +kernel, rfl, by decide +kernel, by decide +kernel⟩
noncomputable def b_ways : SF := (sSeq (sDrop (dCall 1 f_need_net (aCons (dV 0) aNil))) (sSeq (sDrop (dCall 3 f_need_nodes (aCons (dV 0) (aCons (dV 1) (aCons (dV 2) aNil))))) (sRet (dCB bTuple (aCons (dCall 3 f_few_ways (aCons (dV 0) (aCons (dV 1) (aCons (dV 2) aNil)))) aNil)))))
noncomputable def f_ways : List Ar → Wp D := dRun 3 b_ways

theorem sc_law : FnScope ["_law_script", "_law_row", "_law_net_here", "_law_goal", "_law_ends", "_law_size", "_law_turn", "_law_at", "_law_one", "_law_some", "_law_found", "_law_used", "_law_way", "_law_count", "_law_k", "_law_kind", "_law_i", "_law_j", "_law_told_here"] ["_law_script"] (defScope s_law) := ⟨rfl, rfl, rfl, by decide +kernel, rfl, by decide +kernel, by decide +kernel⟩
noncomputable def b_law (C : Cs) : SF := (sSeq (sRow 1 0) (sSeq (sAsg (dTup (aCons (dCall 1 (f_law_net C) (aTrk 1 aNil)) (aCons (dC (.int 1)) aNil))) (bTup 2 (bCons (bName 2) (bCons (bName 3) bNil)))) (sSeq (sIf (tBv (d2 dGt (dCall 2 (f_law_taken C) (aTrk 1 (aCons (dC (.int 3)) aNil))) (dC (.int 0)))) (sSeq (sAsg (dTup (aCons (dLst (aCons (dTup (aCons (dC (.int 0)) (aCons (dC (.int 1)) aNil))) aNil)) (aCons (dC (.int 2)) aNil))) (bTup 2 (bCons (bName 4) (bCons (bName 5) bNil)))) (sSeq (sFor (iRgD1 (d2 dAdd (dC (.int 1)) (dCall 2 (f_law_taken C) (aTrk 1 (aCons (dC (.int 8)) aNil))))) (bName 6) (sSeq (sSet 7 (dCall 2 (f_law_taken C) (aTrk 1 (aCons (dCB bLen (aCons (dV 4) aNil)) aNil)))) (sIf (tAnd2 (tBv (d2 dEq (dCall 2 (f_law_taken C) (aTrk 1 (aCons (dC (.int 2)) aNil))) (dC (.int 0)))) (tBv (d2 dLt (dV 5) (dC (.int 6))))) (sSeq (sSet 4 (d2 dAdd (d2 dAdd (dSl (dV 4) oNone (oSome (dV 7))) (dLst (aCons (dTup (aCons (d2 dIx (d2 dIx (dV 4) (dV 7)) (dC (.int 0))) (aCons (dV 5) aNil))) (aCons (dTup (aCons (dV 5) (aCons (d2 dIx (d2 dIx (dV 4) (dV 7)) (dC (.int 1))) aNil))) aNil)))) (dSl (dV 4) (oSome (d2 dAdd (dV 7) (dC (.int 1)))) oNone))) (sSet 5 (d2 dAdd (dV 5) (dC (.int 1))))) (sSet 4 (d2 dAdd (dV 4) (dLst (aCons (d2 dIx (dV 4) (dV 7)) aNil))))))) (sSet 2 (dTup (aCons (dV 5) (aCons (dCB bTuple (aCons (dNl (nLc (iSeqD (dSl (dV 4) oNone (oSome (dC (.int 10))))) (bName 8) tYesD (dCall 3 (f_law_road C) (aTrk 1 (aCons (d2 dIx (dV 8) (dC (.int 0))) (aCons (d2 dIx (dV 8) (dC (.int 1))) aNil)))) ([8] : List Nat))) aNil)) aNil)))))) (sSet 3 (d2 dSub (d2 dIx (dV 2) (dC (.int 0))) (dC (.int 1))))) (sSeq (sSet 9 (dCall 3 f_law_ways (aCons (dV 2) (aCons (dC (.int 0)) (aCons (dV 3) aNil))))) (sSeq (sIf (tBv (d2 dEq (dV 9) (dLst aNil))) (sRet (dC (.bool true))) sNext) (sSeq (sSet 10 (dCall 3 f_reduction (aCons (dV 2) (aCons (dC (.int 0)) (aCons (dV 3) aNil))))) (sSeq (sIf (tBv (d2 dIs (dV 10) (dC .none))) (sRet (dC (.bool true))) sNext) (sSeq (sSet 11 (dLst aNil)) (sSeq (sFor (iSeqD (dV 9)) (bName 12) (sSet 11 (d2 dAdd (dV 11) (dCB bList (aCons (dV 12) aNil))))) (sSeq (sSet 13 (dDictI (dNl (nLc (iSeqD (dSortSetI (dV 11))) (bName 14) tYesD (dTup (aCons (dV 14) (aCons (dC (.int 1)) aNil))) ([14] : List Nat))))) (sSeq (sFor (iSeqD (dV 10)) (bTup 3 (bCons (bName 15) (bCons (bName 16) (bCons (bName 17) bNil)))) (sSeq (sSet 5 (dIf (tBv (d2 dEq (dV 15) (dC (.str "side")))) (d2 dAdd (d2 dIxI (dV 13) (dV 16)) (d2 dIxI (dV 13) (dV 17))) (d2 dMul (d2 dIxI (dV 13) (dV 16)) (d2 dIxI (dV 13) (dV 17))))) (sSet 13 (dDictI (dNl (nLc (iSeqD (dCB bSortedB (aCons (dCB bListI (aCons (dV 13) aNil)) aNil))) (bName 14) (tBv (d2 dNe (dV 14) (dV 17))) (dTup (aCons (dV 14) (aCons (dIf (tBv (d2 dEq (dV 14) (dV 16))) (dV 5) (d2 dIxI (dV 13) (dV 14))) aNil))) ([14] : List Nat))))))) (sSeq (sIf (tBv (d2 dNe (dNl (nLc (iSeqD (dCB bSortedB (aCons (dCB bListI (aCons (dV 13) aNil)) aNil))) (bName 14) tYesD (d2 dIxI (dV 13) (dV 14)) ([14] : List Nat))) (dLst (aCons (dCB bLen (aCons (dV 9) aNil)) aNil)))) (sRet (dC (.bool false))) sNext) (sSeq (sSet 18 (dToldN "TooMany" "most" (dCall 3 f_ways (aCons (dV 2) (aCons (dC (.int 0)) (aCons (dV 3) aNil)))))) (sRet (dOrV (dAndV (d2 dIs (dV 18) (dC .none)) (d2 dGt (dCB bLen (aCons (dV 9) aNil)) (dC (.int 20)))) (d2 dEq (dV 18) (dCB bTuple (aCons (dV 9) aNil))))))))))))))))))
noncomputable def f_law (C : Cs) : List Ar → Wp D := dRun 19 (b_law C)

theorem sc_law_told : FnScope ["_law_work", "e"] ["_law_work"] (defScope s_law_told) := ⟨rfl, rfl, rfl, by decide +kernel, rfl, by decide +kernel, by decide +kernel⟩
theorem sc_TooMany___init__ : FnScope ["self", "most"] ["self", "most"] (defScope s_TooMany___init__) := ⟨rfl, rfl, rfl, by decide +kernel, rfl, by decide +kernel, by decide +kernel⟩
end Tr

namespace Tr
open PySem PySem.Spec L2
variable [ProtC]
structure Tp (C : Cs) (base : Heap) : Prop where
  d_law_taken : ∃ fd, FunD C.K "_law_taken" "_law_taken" (defArgs s_law_taken) (defBody s_law_taken) (defScope s_law_taken) [] [] (He.ga C.K "_law_taken") fd
  g_law_taken : C.mg "_law_taken" = some (.ref (He.ga C.K "_law_taken"))
  d_law_pick : ∃ fd, FunD C.K "_law_pick" "_law_pick" (defArgs s_law_pick) (defBody s_law_pick) (defScope s_law_pick) [] [] (He.ga C.K "_law_pick") fd
  g_law_pick : C.mg "_law_pick" = some (.ref (He.ga C.K "_law_pick"))
  d_law_road : ∃ fd, FunD C.K "_law_road" "_law_road" (defArgs s_law_road) (defBody s_law_road) (defScope s_law_road) [] [] (He.ga C.K "_law_road") fd
  g_law_road : C.mg "_law_road" = some (.ref (He.ga C.K "_law_road"))
  d_law_net : ∃ fd, FunD C.K "_law_net" "_law_net" (defArgs s_law_net) (defBody s_law_net) (defScope s_law_net) [] [] (He.ga C.K "_law_net") fd
  g_law_net : C.mg "_law_net" = some (.ref (He.ga C.K "_law_net"))
  d_law_ways : ∃ fd, FunD C.K "_law_ways" "_law_ways" (defArgs s_law_ways) (defBody s_law_ways) (defScope s_law_ways) [] [] (He.ga C.K "_law_ways") fd
  g_law_ways : C.mg "_law_ways" = some (.ref (He.ga C.K "_law_ways"))
  d_is_in : ∃ fd, FunD C.K "is_in" "is_in" (defArgs s_is_in) (defBody s_is_in) (defScope s_is_in) [] [] (He.ga C.K "is_in") fd
  g_is_in : C.mg "is_in" = some (.ref (He.ga C.K "is_in"))
  d_is_road : ∃ fd, FunD C.K "is_road" "is_road" (defArgs s_is_road) (defBody s_is_road) (defScope s_is_road) [] [] (He.ga C.K "is_road") fd
  g_is_road : C.mg "is_road" = some (.ref (He.ga C.K "is_road"))
  t_is_road : GxR.TabB base C.mg (He.codeOf C.K ("is_road", none)) (He.tabOf C.K (He.codeOf C.K ("is_road", none)))
  p_is_road : He.tabOf C.K (He.codeOf C.K ("is_road", none)) ∈ C.T
  d_need_net : ∃ fd, FunD C.K "need_net" "need_net" (defArgs s_need_net) (defBody s_need_net) (defScope s_need_net) [] [] (He.ga C.K "need_net") fd
  g_need_net : C.mg "need_net" = some (.ref (He.ga C.K "need_net"))
  d_need_nodes : ∃ fd, FunD C.K "need_nodes" "need_nodes" (defArgs s_need_nodes) (defBody s_need_nodes) (defScope s_need_nodes) [] [] (He.ga C.K "need_nodes") fd
  g_need_nodes : C.mg "need_nodes" = some (.ref (He.ga C.K "need_nodes"))
  d_all_ways : ∃ fd, FunD C.K "all_ways" "all_ways" (defArgs s_all_ways) (defBody s_all_ways) (defScope s_all_ways) [] [] (He.ga C.K "all_ways") fd
  g_all_ways : C.mg "all_ways" = some (.ref (He.ga C.K "all_ways"))
  d_need_way : ∃ fd, FunD C.K "need_way" "need_way" (defArgs s_need_way) (defBody s_need_way) (defScope s_need_way) [] [] (He.ga C.K "need_way") fd
  g_need_way : C.mg "need_way" = some (.ref (He.ga C.K "need_way"))
  d_roads_on_ways : ∃ fd, FunD C.K "roads_on_ways" "roads_on_ways" (defArgs s_roads_on_ways) (defBody s_roads_on_ways) (defScope s_roads_on_ways) [] [] (He.ga C.K "roads_on_ways") fd
  g_roads_on_ways : C.mg "roads_on_ways" = some (.ref (He.ga C.K "roads_on_ways"))
  d_side_step : ∃ fd, FunD C.K "side_step" "side_step" (defArgs s_side_step) (defBody s_side_step) (defScope s_side_step) [] [] (He.ga C.K "side_step") fd
  g_side_step : C.mg "side_step" = some (.ref (He.ga C.K "side_step"))
  d_is_row : ∃ fd, FunD C.K "is_row" "is_row" (defArgs s_is_row) (defBody s_is_row) (defScope s_is_row) [] [] (He.ga C.K "is_row") fd
  g_is_row : C.mg "is_row" = some (.ref (He.ga C.K "is_row"))
  d_row_step : ∃ fd, FunD C.K "row_step" "row_step" (defArgs s_row_step) (defBody s_row_step) (defScope s_row_step) [] [] (He.ga C.K "row_step") fd
  g_row_step : C.mg "row_step" = some (.ref (He.ga C.K "row_step"))
  d_after_step : ∃ fd, FunD C.K "after_step" "after_step" (defArgs s_after_step) (defBody s_after_step) (defScope s_after_step) [] [] (He.ga C.K "after_step") fd
  g_after_step : C.mg "after_step" = some (.ref (He.ga C.K "after_step"))
  d_steps_of : ∃ fd, FunD C.K "steps_of" "steps_of" (defArgs s_steps_of) (defBody s_steps_of) (defScope s_steps_of) [] [] (He.ga C.K "steps_of") fd
  g_steps_of : C.mg "steps_of" = some (.ref (He.ga C.K "steps_of"))
  d_reduction : ∃ fd, FunD C.K "reduction" "reduction" (defArgs s_reduction) (defBody s_reduction) (defScope s_reduction) [] [] (He.ga C.K "reduction") fd
  g_reduction : C.mg "reduction" = some (.ref (He.ga C.K "reduction"))
  d_few_ways : ∃ fd, FunD C.K "few_ways" "few_ways" (defArgs s_few_ways) (defBody s_few_ways) (defScope s_few_ways) [] [] (He.ga C.K "few_ways") fd
  g_few_ways : C.mg "few_ways" = some (.ref (He.ga C.K "few_ways"))
  d_ways : ∃ fd, FunD C.K "ways" "ways" (defArgs s_ways) (defBody s_ways) (defScope s_ways) [] [] (He.ga C.K "ways") fd
  g_ways : C.mg "ways" = some (.ref (He.ga C.K "ways"))
  d_law : ∃ fd, FunD C.K "law" "law" (defArgs s_law) (defBody s_law) (defScope s_law) [] [] (He.ga C.K "law") fd
  g_law : C.mg "law" = some (.ref (He.ga C.K "law"))
  d_TooMany___init__ : ∃ fd, FunD C.K "__init__" "TooMany.__init__" (defArgs s_TooMany___init__) (defBody s_TooMany___init__) (defScope s_TooMany___init__) [] [] (He.fAd C.K ("TooMany", some "__init__")) fd
  d_law_told : ∃ fd, FunD C.K "_law_told" "_law_told" (defArgs s_law_told) (defBody s_law_told) (defScope s_law_told) [] [] (He.ga C.K "_law_told") fd
  g_law_told : C.mg "_law_told" = some (.ref (He.ga C.K "_law_told"))
  g_RoadError : C.mg "RoadError" = some (.ref (He.ga C.K "RoadError"))
  g_TooMany : C.mg "TooMany" = some (.ref (He.ga C.K "TooMany"))
  tl_TooMany : TldC C.K (He.ga C.K "TooMany") (He.ga C.K "RoadError") (He.fAd C.K ("TooMany", some "__init__")) "most"
  l_law : LamX.TabB base C.mg (He.codeOf C.K ("law", none)) (He.tabOf C.K (He.codeOf C.K ("law", none)))
  lp_law : (He.tabOf C.K (He.codeOf C.K ("law", none)), (("law" : Str) ++ ".<locals>.") ++ "<lambda>") ∈ C.TL
  lu_law : ∀ q, ProtC.p (He.tabOf C.K (He.codeOf C.K ("law", none))) q → q = (("law" : Str) ++ ".<locals>.") ++ "<lambda>"
  b_all : C.mg "all" = none
  b_bool : C.mg "bool" = none
  b_dict : C.mg "dict" = none
  b_enumerate : C.mg "enumerate" = none
  b_int : C.mg "int" = none
  b_isinstance : C.mg "isinstance" = none
  b_len : C.mg "len" = none
  b_list : C.mg "list" = none
  b_range : C.mg "range" = none
  b_set : C.mg "set" = none
  b_sorted : C.mg "sorted" = none
  b_tuple : C.mg "tuple" = none
  i_MOST_BASE : ∃ t, C.mg "MOST_BASE" = some (.int 1000 t)
  i_MOST_NODES : ∃ t, C.mg "MOST_NODES" = some (.int 6 t)
  i_MOST_ROADS : ∃ t, C.mg "MOST_ROADS" = some (.int 10 t)
  i_MOST_SLOPE : ∃ t, C.mg "MOST_SLOPE" = some (.int 100 t)
  i_MOST_WAYS : ∃ t, C.mg "MOST_WAYS" = some (.int 20 t)
theorem Tp.wob {C : Cs} {base : Heap} (T : Tp C base) (o : Ob) : Tp (C.wob o) base := ⟨T.d_law_taken, T.g_law_taken, T.d_law_pick, T.g_law_pick, T.d_law_road, T.g_law_road, T.d_law_net, T.g_law_net, T.d_law_ways, T.g_law_ways, T.d_is_in, T.g_is_in, T.d_is_road, T.g_is_road, T.t_is_road, T.p_is_road, T.d_need_net, T.g_need_net, T.d_need_nodes, T.g_need_nodes, T.d_all_ways, T.g_all_ways, T.d_need_way, T.g_need_way, T.d_roads_on_ways, T.g_roads_on_ways, T.d_side_step, T.g_side_step, T.d_is_row, T.g_is_row, T.d_row_step, T.g_row_step, T.d_after_step, T.g_after_step, T.d_steps_of, T.g_steps_of, T.d_reduction, T.g_reduction, T.d_few_ways, T.g_few_ways, T.d_ways, T.g_ways, T.d_law, T.g_law, T.d_TooMany___init__, T.d_law_told, T.g_law_told, T.g_RoadError, T.g_TooMany, T.tl_TooMany, T.l_law, T.lp_law, T.lu_law, T.b_all, T.b_bool, T.b_dict, T.b_enumerate, T.b_int, T.b_isinstance, T.b_len, T.b_list, T.b_range, T.b_set, T.b_sorted, T.b_tuple, T.i_MOST_BASE, T.i_MOST_NODES, T.i_MOST_ROADS, T.i_MOST_SLOPE, T.i_MOST_WAYS⟩

theorem n_law_taken {P : Program} {w : World} {C : Cs} {base : Heap} (T : Tp C base) : Dn P w C base "_law_taken" 2 1 (f_law_taken C) := by
  obtain ⟨fd, F⟩ := T.d_law_taken
  have gi := T.b_int
  have gl := T.b_len
  exact Dn.taken F sc_law_taken T.g_law_taken (fun _ _ _ _ _ _ us hl => match us, hl with | [_, _], _ => rfl) fun cdv A outer s H E =>
    (pss_cons (ps_if (pt_cmpR op_gt (pe_ix ix_seq (pv 0) pe_int (fun _ _ => rfl)) pe_int (nomark _)) (pss_cons (ps_set (i := 2) sc_law_taken.nd rfl (.inl rfl) (pe_op op_mod (pe_callTy call_int1 rfl gi (by decide +kernel) (pa_cons (pe_ix ix_seq (pv 0) pe_int (fun _ _ => rfl)) pa_nil)) (pv 1))) (pss_cons (ps_asg (pe_op op_fdivW (pe_ix ix_seq (pv 0) pe_int (fun _ _ => rfl)) (pv 1)) (pg_sub (pv 0) pe_int set_list)) (pss_one (ps_ret (pv 2))))) pss_nil)
    (pss_cons (ps_asg (pe_op op_add (pe_ix ix_seq (pv 0) pe_int (fun _ _ => rfl)) pe_int) (pg_sub (pv 0) pe_int set_list))
    (pss_cons (ps_if (pt_cmpR op_gt (pe_ix ix_seq (pv 0) pe_int (fun _ _ => rfl)) (pe_callB call_len rfl gl boot_len (pa_cons (pe_ix ix_seq (pv 0) pe_int (fun _ _ => rfl)) pa_nil)) (nomark _)) (pss_cons (ps_asg (pe_op op_mod (pe_callTy call_int1 rfl gi (by decide +kernel) (pa_cons (pe_op op_add (pe_op op_mulW (pe_ix ix_seq (pv 0) pe_int (fun _ _ => rfl)) pe_int) pe_int) pa_nil)) pe_int) (pg_sub (pv 0) pe_int set_list)) (pss_one (ps_ret (pe_op op_mod (pe_callTy call_int1 rfl gi (by decide +kernel) (pa_cons (pe_op op_fdivW (pe_ix ix_seq (pv 0) pe_int (fun _ _ => rfl)) pe_int) pa_nil)) (pv 1))))) pss_nil)
    (pss_cons (ps_set (i := 3) sc_law_taken.nd rfl (.inl rfl) (pe_ix ix_seq (pe_ix ix_seq (pv 0) pe_int (fun _ _ => rfl)) (pe_op op_sub (pe_ix ix_seq (pv 0) pe_int (fun _ _ => rfl)) pe_int) (fun _ _ => rfl)))
    (pss_cons (ps_asg (pe_op op_mod (pe_callTy call_int1 rfl gi (by decide +kernel) (pa_cons (pe_op op_add (pe_op op_add (pe_op op_mulW (pe_ix ix_seq (pv 0) pe_int (fun _ _ => rfl)) pe_int) (pv 3)) pe_int) pa_nil)) pe_int) (pg_sub (pv 0) pe_int set_list))
    (pss_cons (ps_if (pt_cmpR op_ge (pv 3) (pe_op op_pow pe_int pe_int) (nomark _)) (pss_one (ps_asg (pe_op op_fdivW (pv 3) (pv 1)) (pg_sub (pv 0) pe_int set_list))) pss_nil)
    (pss_one (ps_ret (pe_op op_mod (pe_callTy call_int1 rfl gi (by decide +kernel) (pa_cons (pv 3) pa_nil)) (pv 1))))))))))

theorem n_law_pick {P : Program} {w : World} {C : Cs} {base : Heap} (T : Tp C base) : Dn P w C base "_law_pick" 2 2 (f_law_pick C) := by
  obtain ⟨fd, F⟩ := T.d_law_pick
  exact Dn.mk' F sc_law_pick T.g_law_pick rfl (fun _ _ _ _ _ _ us hl => match us, hl with | [_, _], _ => rfl) fun A outer s H E hr =>
    (dss_one (ds_ret (de_ix rfl (de_v (i := 1) rfl (.inl rfl)) (de_callN rfl rfl takesN (n_law_taken T) hr (by decide) rfl (da_trk (i := 0) rfl (.inl rfl) (da_cons (de_callB call_len on_len rfl T.b_len boot_len (da_cons (de_v (i := 1) rfl (.inl rfl)) da_nil)) da_nil))) (fun _ _ => rfl))))

theorem n_law_road {P : Program} {w : World} {C : Cs} {base : Heap} (T : Tp C base) : Dn P w C base "_law_road" 3 3 (f_law_road C) := by
  obtain ⟨fd, F⟩ := T.d_law_road
  exact Dn.mk' F sc_law_road T.g_law_road rfl (fun _ _ _ _ _ _ us hl => match us, hl with | [_, _, _], _ => rfl) fun A outer s H E hr =>
    (dss_one (ds_ret (de_tup (da_cons (de_v (i := 1) rfl (.inl rfl)) (da_cons (de_v (i := 2) rfl (.inl rfl)) (da_cons (de_callN rfl rfl takesN (n_law_pick T) hr (by decide) rfl (da_trk (i := 0) rfl (.inl rfl) (da_cons (de_lst (da_cons de_int (da_cons de_int (da_cons de_int (da_cons de_int (da_cons de_int (da_cons (de_callN rfl rfl takesN (n_law_taken T) hr (by decide) rfl (da_trk (i := 0) rfl (.inl rfl) (da_cons de_int da_nil))) da_nil))))))) da_nil))) (da_cons (de_callN rfl rfl takesN (n_law_pick T) hr (by decide) rfl (da_trk (i := 0) rfl (.inl rfl) (da_cons (de_lst (da_cons de_int (da_cons de_int (da_cons de_int (da_cons de_int (da_cons (de_callN rfl rfl takesN (n_law_taken T) hr (by decide) rfl (da_trk (i := 0) rfl (.inl rfl) (da_cons de_int da_nil))) da_nil)))))) da_nil))) da_nil)))))))

theorem n_law_net {P : Program} {w : World} {C : Cs} {base : Heap} (T : Tp C base) : Dn P w C base "_law_net" 1 4 (f_law_net C) := by
  obtain ⟨fd, F⟩ := T.d_law_net
  exact Dn.mk' F sc_law_net T.g_law_net rfl (fun _ _ _ _ _ _ us hl => match us, hl with | [_], _ => rfl) fun A outer s H E hr =>
    (dss_cons (ds_set (i := 1) sc_law_net.nd rfl (.inl rfl) (de_add rfl de_int (de_callN rfl rfl takesN (n_law_taken T) hr (by decide) rfl (da_trk (i := 0) rfl (.inl rfl) (da_cons de_int da_nil))))) (dss_cons (ds_parOO (i := 2) (j := 3) rfl sc_law_net.nd rfl rfl (by decide) rfl rfl (by exact (dn_lst (da_cons de_int da_nil))) (by exact (dn_lst da_nil)) rfl) (dss_cons (ds_for ownsN rfl (di_range2 rfl T.b_range de_int (de_sub (de_v (i := 1) rfl (.inl rfl)) de_int)) (dg_name (i := 4) sc_law_net.nd rfl (.inl rfl)) (dss_fz 2 (dss_one (ds_setO (i := 2) sc_law_net.nd rfl (.inl rfl) (dn_addL rfl (de_v (i := 2) rfl (.inl rfl)) (de_mulA rfl (de_lst (da_cons (de_v (i := 4) rfl (.inl rfl)) da_nil)) (de_callTy (call_int1.or call_int_str) on_int rfl T.b_int (by decide +kernel) (da_cons (de_eq rfl hr (de_callN rfl rfl takesN (n_law_taken T) hr (by decide) rfl (da_trk (i := 0) rfl (.inl rfl) (da_cons de_int da_nil))) de_int) da_nil)))))))) (dss_cons (ds_app (i := 2) rfl (.inl rfl) (de_sub (de_v (i := 1) rfl (.inl rfl)) de_int) (hp := fun t h => pe_bm PySem.F.plainAttrs_list PySem.F.slot_list_append PySem.F.type_list_append mt_append (pe_var (i := 2) rfl (.inl rfl)) h)) (dss_fz 2 (dss_cons (ds_for ownsN rfl (di_range2 rfl T.b_range de_int (de_callB call_len on_len rfl T.b_len boot_len (da_cons (de_v (i := 2) rfl (.inl rfl)) da_nil))) (dg_name (i := 5) sc_law_net.nd rfl (.inl rfl)) (dss_fz 2 (dss_one (ds_app (i := 3) rfl (.inl rfl) (de_callN rfl rfl takesN (n_law_road T) hr (by decide) rfl (da_trk (i := 0) rfl (.inl rfl) (da_cons (de_ix rfl (de_v (i := 2) rfl (.inl rfl)) (de_sub (de_v (i := 5) rfl (.inl rfl)) de_int) (fun _ _ => rfl)) (da_cons (de_ix rfl (de_v (i := 2) rfl (.inl rfl)) (de_v (i := 5) rfl (.inl rfl)) (fun _ _ => rfl)) da_nil)))) (hp := fun t h => pe_bm PySem.F.plainAttrs_list PySem.F.slot_list_append PySem.F.type_list_append mt_append (pe_var (i := 3) rfl (.inl rfl)) h))))) (dss_cons (ds_for ownsN rfl (di_range1 rfl T.b_range (de_callN rfl rfl takesN (n_law_taken T) hr (by decide) rfl (da_trk (i := 0) rfl (.inl rfl) (da_cons de_int da_nil)))) (dg_name (i := 6) sc_law_net.nd rfl (.inl rfl)) (dss_cons (ds_set (i := 7) sc_law_net.nd rfl (.inl rfl) (de_callN rfl rfl takesN (n_law_taken T) hr (by decide) rfl (da_trk (i := 0) rfl (.inl rfl) (da_cons (de_v (i := 1) rfl (.inl rfl)) da_nil)))) (dss_one (ds_app (i := 3) rfl (.inl rfl) (de_callN rfl rfl takesN (n_law_road T) hr (by decide) rfl (da_trk (i := 0) rfl (.inl rfl) (da_cons (de_v (i := 7) rfl (.inl rfl)) (da_cons (de_mod (de_callTy (call_int1.or call_int_str) on_int rfl T.b_int (by decide +kernel) (da_cons (de_add rfl (de_add rfl (de_v (i := 7) rfl (.inl rfl)) de_int) (de_callN rfl rfl takesN (n_law_taken T) hr (by decide) rfl (da_trk (i := 0) rfl (.inl rfl) (da_cons (de_sub (de_v (i := 1) rfl (.inl rfl)) de_int) da_nil)))) da_nil)) (de_v (i := 1) rfl (.inl rfl))) da_nil)))) (hp := fun t h => pe_bm PySem.F.plainAttrs_list PySem.F.slot_list_append PySem.F.type_list_append mt_append (pe_var (i := 3) rfl (.inl rfl)) h))))) (dss_fz 3 (dss_one (ds_ret (de_tup (da_cons (de_v (i := 1) rfl (.inl rfl)) (da_cons (de_callTy call_tupleN on_tuple rfl T.b_tuple (by decide +kernel) (da_cons (de_slice rfl (de_v (i := 3) rfl (.inl rfl)) do_none (do_some de_int)) da_nil)) da_nil)))))))))))))

theorem n_law_ways {P : Program} {w : World} {C : Cs} {base : Heap} (T : Tp C base) : Dn P w C base "_law_ways" 3 2 (f_law_ways) := by
  obtain ⟨fd, F⟩ := T.d_law_ways
  exact Dn.mk' F sc_law_ways T.g_law_ways rfl (fun _ _ _ _ _ _ us hl => match us, hl with | [_, _, _], _ => rfl) fun A outer s H E hr =>
    (dss_cons (ds_par (i := 3) (j := 4) rfl sc_law_ways.nd rfl rfl (by decide) rfl rfl (by exact (da_cons (de_lst da_nil) (da_cons (de_lst (da_cons (de_tup (da_cons (de_tup da_nil) (da_cons (de_tup (da_cons (de_v (i := 1) rfl (.inl rfl)) da_nil)) da_nil))) da_nil)) da_nil))) rfl) (dss_fz 4 (dss_cons (ds_for ownsN rfl (di_range1 rfl T.b_range (de_ix rfl (de_v (i := 0) rfl (.inl rfl)) de_int (fun _ _ => rfl))) (dg_name (i := 5) sc_law_ways.nd rfl (.inl rfl)) (dss_cons (ds_setO (i := 6) sc_law_ways.nd rfl (.inl rfl) (dn_lst da_nil)) (dss_fz 4 (dss_cons (ds_for ownsN rfl (di_seq rfl (de_v (i := 4) rfl (.inl rfl))) (dg_tup rfl rfl (dgs_cons (dg_name (i := 7) sc_law_ways.nd rfl (.inl rfl)) (dgs_cons (dg_name (i := 8) sc_law_ways.nd rfl (.inl rfl)) dgs_nil))) (dss_one (ds_for ownsN rfl (di_range1 rfl T.b_range (de_callB call_len on_len rfl T.b_len boot_len (da_cons (de_ix rfl (de_v (i := 0) rfl (.inl rfl)) de_int (fun _ _ => rfl)) da_nil))) (dg_name (i := 9) sc_law_ways.nd rfl (.inl rfl)) (dss_one (ds_if (dw_dt (dw_and (dt_eq rfl hr (de_ix rfl (de_ix rfl (de_ix rfl (de_v (i := 0) rfl (.inl rfl)) de_int (fun _ _ => rfl)) (de_v (i := 9) rfl (.inl rfl)) (fun _ _ => rfl)) de_int (fun _ _ => rfl)) (de_ix rfl (de_v (i := 8) rfl (.inl rfl)) (de_neg de_int) (fun _ _ => rfl))) (dw_and1 (dt_notInA rfl hr rfl (de_ix rfl (de_ix rfl (de_ix rfl (de_v (i := 0) rfl (.inl rfl)) de_int (fun _ _ => rfl)) (de_v (i := 9) rfl (.inl rfl)) (fun _ _ => rfl)) de_int (fun _ _ => rfl)) (de_v (i := 8) rfl (.inl rfl)))))) (dss_one (ds_app (i := 6) rfl (.inl rfl) (de_tup (da_cons (de_add rfl (de_v (i := 7) rfl (.inl rfl)) (de_tup (da_cons (de_v (i := 9) rfl (.inl rfl)) da_nil))) (da_cons (de_add rfl (de_v (i := 8) rfl (.inl rfl)) (de_tup (da_cons (de_ix rfl (de_ix rfl (de_ix rfl (de_v (i := 0) rfl (.inl rfl)) de_int (fun _ _ => rfl)) (de_v (i := 9) rfl (.inl rfl)) (fun _ _ => rfl)) de_int (fun _ _ => rfl)) da_nil))) da_nil))) (hp := fun t h => pe_bm PySem.F.plainAttrs_list PySem.F.slot_list_append PySem.F.type_list_append mt_append (pe_var (i := 6) rfl (.inl rfl)) h))) dss_nil))))) (dss_fz 6 (dss_cons (ds_set (i := 3) sc_law_ways.nd rfl (.inl rfl) (de_add rfl (de_v (i := 3) rfl (.inl rfl)) (de_dn (dn_lc (own := [("_law_way", 7), ("_law_nodes", 8)]) (ix := [7, 8]) rfl sc_law_ways.nd (di_seq rfl (de_v (i := 6) rfl (.inl rfl))) (blkOk_by (by kernel_rfl)) (by decide +kernel) (fun _ _ _ _ _ => (dg_tup rfl rfl (dgs_cons (dg_name (i := 7) sc_law_ways.nd rfl (.inl rfl)) (dgs_cons (dg_name (i := 8) sc_law_ways.nd rfl (.inl rfl)) dgs_nil)))) (fun _ _ _ _ _ => (dts_one (dt_eq rfl hr (de_ix rfl (de_v (i := 8) rfl (.inl rfl)) (de_neg de_int) (fun _ _ => rfl)) (de_v (i := 2) rfl (.inr (.inl rfl)))))) (fun _ _ _ _ _ => (de_v (i := 7) rfl (.inl rfl))))))) (dss_fz 6 (dss_one (setLc (i := 4) (own := [("_law_one", 10)]) (ix := [10]) rfl sc_law_ways.nd rfl rfl rfl (di_seq rfl (de_v (i := 6) rfl (.inl rfl))) (blkOk_by (by kernel_rfl)) (by decide +kernel) (fun _ _ _ _ _ => (dg_name (i := 10) sc_law_ways.nd rfl (.inl rfl))) (fun _ _ _ _ _ => (dts_one (dt_ne rfl hr (de_ix rfl (de_ix rfl (de_v (i := 10) rfl (.inl rfl)) de_int (fun _ _ => rfl)) (de_neg de_int) (fun _ _ => rfl)) (de_v (i := 2) rfl (.inr (.inl rfl)))))) (fun _ _ _ _ _ => (de_v (i := 10) rfl (.inl rfl)))))))))))) (dss_one (ds_ret (de_callB (cr_sortedB (Room.units hr)) on_sortedB rfl T.b_sorted (by decide +kernel) (da_cons (de_v (i := 3) rfl (.inl rfl)) da_nil)))))))

theorem n_is_in {P : Program} {w : World} {C : Cs} {base : Heap} (T : Tp C base) : Dn P w C base "is_in" 3 2 (f_is_in) := by
  obtain ⟨fd, F⟩ := T.d_is_in
  exact Dn.mk' F sc_is_in T.g_is_in rfl (fun _ _ _ _ _ _ us hl => match us, hl with | [_, _, _], _ => rfl) fun A outer s H E hr =>
    (dss_one (ds_ret (de_and rfl (de_isi rfl rfl T.b_isinstance rfl T.b_int (by decide +kernel) (de_v (i := 0) rfl (.inl rfl))) (de_and rfl (de_not rfl (de_isi rfl rfl T.b_isinstance rfl T.b_bool (by decide +kernel) (de_v (i := 0) rfl (.inl rfl)))) (de_one (de_chain op_le (o2_0 fun _ _ _ => .bl _) op_le (o2_0 fun _ _ _ => .bl _) (de_v (i := 1) rfl (.inl rfl)) (de_v (i := 0) rfl (.inl rfl)) (de_v (i := 2) rfl (.inl rfl))))))))

theorem n_is_road {P : Program} {w : World} {C : Cs} {base : Heap} (T : Tp C base) : Dn P w C base "is_road" 2 4 (f_is_road) := by
  obtain ⟨fd, F⟩ := T.d_is_road
  exact Dn.mk' F sc_is_road T.g_is_road rfl (fun _ _ _ _ _ _ us hl => match us, hl with | [_, _], _ => rfl) fun A outer s H E hr =>
    (dss_cons (ds_if (dw_dt (dw_or (dt_not (dt_tru rfl (de_isi rfl rfl T.b_isinstance rfl T.b_tuple (by decide +kernel) (de_v (i := 1) rfl (.inl rfl))))) (dw_or1 (dt_ne rfl hr (de_callB call_len on_len rfl T.b_len boot_len (da_cons (de_v (i := 1) rfl (.inl rfl)) da_nil)) de_int)))) (dss_one (ds_ret de_bl)) dss_nil) (dss_cons (ds_if (dw_dt (dw_or (dt_not (dt_tru rfl (de_allG (own := [("one", 2)]) (ix := [2]) hr rfl T.b_all T.t_is_road T.p_is_road rfl ⟨blkOk_by (by kernel_rfl), rfl, by decide +kernel, rfl⟩ (by decide +kernel) sc_is_road.nd (di_seq rfl (de_slice rfl (de_v (i := 1) rfl (.inl rfl)) do_none (do_some de_int))) (fun _ _ _ _ _ _ => (dg_name (i := 2) sc_is_road.nd rfl (.inl rfl))) (fun _ _ _ _ _ _ => dts_nil) (fun _ _ _ _ _ _ => (de_callN rfl rfl takes0 (n_is_in T) (roomG hr) (by decide) rfl (da_cons (de_v (i := 2) rfl (.inl rfl)) (da_cons de_int (da_cons (de_sub (de_v (i := 0) rfl (.inr (.inr rfl))) de_int) da_nil)))))))) (dw_or1 (dt_eq rfl hr (de_ix rfl (de_v (i := 1) rfl (.inl rfl)) de_int (fun _ _ => rfl)) (de_ix rfl (de_v (i := 1) rfl (.inl rfl)) de_int (fun _ _ => rfl)))))) (dss_one (ds_ret de_bl)) dss_nil) (dss_one (ds_ret (de_and rfl (de_callN rfl rfl takesN (n_is_in T) hr (by decide) rfl (da_cons (de_ix rfl (de_v (i := 1) rfl (.inl rfl)) de_int (fun _ _ => rfl)) (da_cons de_int (da_cons (de_globI rfl T.i_MOST_SLOPE) da_nil)))) (de_one (de_callN rfl rfl takesN (n_is_in T) hr (by decide) rfl (da_cons (de_ix rfl (de_v (i := 1) rfl (.inl rfl)) de_int (fun _ _ => rfl)) (da_cons de_int (da_cons (de_globI rfl T.i_MOST_BASE) da_nil))))))))))

theorem n_need_net {P : Program} {w : World} {C : Cs} {base : Heap} (T : Tp C base) : Dn P w C base "need_net" 1 5 (f_need_net) := by
  obtain ⟨fd, F⟩ := T.d_need_net
  exact Dn.mk' F sc_need_net T.g_need_net rfl (fun _ _ _ _ _ _ us hl => match us, hl with | [_], _ => rfl) fun A outer s H E hr =>
    (dss_cons (ds_if (dw_dt (dw_or (dt_not (dt_tru rfl (de_isi rfl rfl T.b_isinstance rfl T.b_tuple (by decide +kernel) (de_v (i := 0) rfl (.inl rfl))))) (dw_or (dt_ne rfl hr (de_callB call_len on_len rfl T.b_len boot_len (da_cons (de_v (i := 0) rfl (.inl rfl)) da_nil)) de_int) (dw_or1 (dt_not (dt_tru rfl (de_callN rfl rfl takesN (n_is_in T) hr (by decide) rfl (da_cons (de_ix rfl (de_v (i := 0) rfl (.inl rfl)) de_int (fun _ _ => rfl)) (da_cons de_int (da_cons (de_globI rfl T.i_MOST_NODES) da_nil)))))))))) (dss_one ds_never) dss_nil) (dss_cons (ds_if (dw_dt (dw_or (dt_not (dt_tru rfl (de_isi rfl rfl T.b_isinstance rfl T.b_tuple (by decide +kernel) (de_ix rfl (de_v (i := 0) rfl (.inl rfl)) de_int (fun _ _ => rfl))))) (dw_or1 (dt_not (dt_chain op_le (o2_0 fun _ _ _ => .bl _) op_le (o2_0 fun _ _ _ => .bl _) de_int (de_callB call_len on_len rfl T.b_len boot_len (da_cons (de_ix rfl (de_v (i := 0) rfl (.inl rfl)) de_int (fun _ _ => rfl)) da_nil)) (de_globI rfl T.i_MOST_ROADS)))))) (dss_one ds_never) dss_nil) (dss_one (ds_for ownsN rfl (di_enum rfl rfl T.b_enumerate (de_ix rfl (de_v (i := 0) rfl (.inl rfl)) de_int (fun _ _ => rfl))) (dg_tup rfl rfl (dgs_cons (dg_name (i := 1) sc_need_net.nd rfl (.inl rfl)) (dgs_cons (dg_name (i := 2) sc_need_net.nd rfl (.inl rfl)) dgs_nil))) (dss_one (ds_if (dt_not (dt_tru rfl (de_callN rfl rfl takesN (n_is_road T) hr (by decide) rfl (da_cons (de_ix rfl (de_v (i := 0) rfl (.inl rfl)) de_int (fun _ _ => rfl)) (da_cons (de_v (i := 2) rfl (.inl rfl)) da_nil))))) (dss_one ds_never) dss_nil))))))

theorem n_need_nodes {P : Program} {w : World} {C : Cs} {base : Heap} (T : Tp C base) : Dn P w C base "need_nodes" 3 3 (f_need_nodes) := by
  obtain ⟨fd, F⟩ := T.d_need_nodes
  exact Dn.mk' F sc_need_nodes T.g_need_nodes rfl (fun _ _ _ _ _ _ us hl => match us, hl with | [_, _, _], _ => rfl) fun A outer s H E hr =>
    (dss_one (ds_if (dw_dt (dw_or (dt_not (dt_tru rfl (de_callN rfl rfl takesN (n_is_in T) hr (by decide) rfl (da_cons (de_v (i := 1) rfl (.inl rfl)) (da_cons de_int (da_cons (de_sub (de_ix rfl (de_v (i := 0) rfl (.inl rfl)) de_int (fun _ _ => rfl)) de_int) da_nil)))))) (dw_or (dt_not (dt_tru rfl (de_callN rfl rfl takesN (n_is_in T) hr (by decide) rfl (da_cons (de_v (i := 2) rfl (.inl rfl)) (da_cons de_int (da_cons (de_sub (de_ix rfl (de_v (i := 0) rfl (.inl rfl)) de_int (fun _ _ => rfl)) de_int) da_nil)))))) (dw_or1 (dt_eq rfl hr (de_v (i := 1) rfl (.inl rfl)) (de_v (i := 2) rfl (.inl rfl))))))) (dss_one ds_never) dss_nil))

theorem n_all_ways {P : Program} {w : World} {C : Cs} {base : Heap} (T : Tp C base) : Dn P w C base "all_ways" 3 2 (f_all_ways) := by
  obtain ⟨fd, F⟩ := T.d_all_ways
  exact Dn.mk' F sc_all_ways T.g_all_ways rfl (fun _ _ _ _ _ _ us hl => match us, hl with | [_, _, _], _ => rfl) fun A outer s H E hr =>
    (dss_cons (ds_parOD (i := 3) (j := 4) rfl sc_all_ways.nd rfl rfl (by decide) rfl rfl (by exact (dn_lst da_nil)) (by exact (de_lst (da_cons (de_tup (da_cons (de_tup da_nil) (da_cons (de_tup (da_cons (de_v (i := 1) rfl (.inl rfl)) da_nil)) da_nil))) da_nil))) rfl) (dss_cons (ds_while ownsN (dt_tru rfl (de_v (i := 4) rfl (.inl rfl))) (dss_cons (ds_setO (i := 5) sc_all_ways.nd rfl (.inl rfl) (dn_lst da_nil)) (dss_cons (ds_for ownsN rfl (di_seq rfl (de_v (i := 4) rfl (.inl rfl))) (dg_tup rfl rfl (dgs_cons (dg_name (i := 6) sc_all_ways.nd rfl (.inl rfl)) (dgs_cons (dg_name (i := 7) sc_all_ways.nd rfl (.inl rfl)) dgs_nil))) (dss_one (ds_for ownsN rfl (di_enum rfl rfl T.b_enumerate (de_ix rfl (de_v (i := 0) rfl (.inl rfl)) de_int (fun _ _ => rfl))) (dg_tup rfl rfl (dgs_cons (dg_name (i := 8) sc_all_ways.nd rfl (.inl rfl)) (dgs_cons (dg_name (i := 9) sc_all_ways.nd rfl (.inl rfl)) dgs_nil))) (dss_one (ds_if (dw_dt (dw_and (dt_eq rfl hr (de_ix rfl (de_v (i := 9) rfl (.inl rfl)) de_int (fun _ _ => rfl)) (de_ix rfl (de_v (i := 7) rfl (.inl rfl)) (de_neg de_int) (fun _ _ => rfl))) (dw_and1 (dt_notInA rfl hr rfl (de_ix rfl (de_v (i := 9) rfl (.inl rfl)) de_int (fun _ _ => rfl)) (de_v (i := 7) rfl (.inl rfl)))))) (dss_one (ds_if (dt_eq rfl hr (de_ix rfl (de_v (i := 9) rfl (.inl rfl)) de_int (fun _ _ => rfl)) (de_v (i := 2) rfl (.inl rfl))) (dss_one (ds_app (i := 3) rfl (.inl rfl) (de_tup (da_star rfl (de_v (i := 6) rfl (.inl rfl)) (da_cons (de_v (i := 8) rfl (.inl rfl)) da_nil))) (hp := fun t h => pe_bm PySem.F.plainAttrs_list PySem.F.slot_list_append PySem.F.type_list_append mt_append (pe_var (i := 3) rfl (.inl rfl)) h))) (dss_one (ds_app (i := 5) rfl (.inl rfl) (de_tup (da_cons (de_tup (da_star rfl (de_v (i := 6) rfl (.inl rfl)) (da_cons (de_v (i := 8) rfl (.inl rfl)) da_nil))) (da_cons (de_tup (da_star rfl (de_v (i := 7) rfl (.inl rfl)) (da_cons (de_ix rfl (de_v (i := 9) rfl (.inl rfl)) de_int (fun _ _ => rfl)) da_nil))) da_nil))) (hp := fun t h => pe_bm PySem.F.plainAttrs_list PySem.F.slot_list_append PySem.F.type_list_append mt_append (pe_var (i := 5) rfl (.inl rfl)) h))))) dss_nil))))) (dss_fz 5 (dss_one (ds_set (i := 4) sc_all_ways.nd rfl (.inl rfl) (de_v (i := 5) rfl (.inl rfl)))))))) (dss_fz 3 (dss_one (ds_ret (de_callB (cr_sortedB (Room.units hr)) on_sortedB rfl T.b_sorted (by decide +kernel) (da_cons (de_v (i := 3) rfl (.inl rfl)) da_nil)))))))

theorem n_need_way {P : Program} {w : World} {C : Cs} {base : Heap} (T : Tp C base) : Dn P w C base "need_way" 3 6 (f_need_way) := by
  obtain ⟨fd, F⟩ := T.d_need_way
  exact Dn.mk' F sc_need_way T.g_need_way rfl (fun _ _ _ _ _ _ us hl => match us, hl with | [_, _, _], _ => rfl) fun A outer s H E hr =>
    (dss_cons (ds_expr (de_callN rfl rfl takesN (n_need_net T) hr (by decide) rfl (da_cons (de_v (i := 0) rfl (.inl rfl)) da_nil))) (dss_cons (ds_expr (de_callN rfl rfl takesN (n_need_nodes T) hr (by decide) rfl (da_cons (de_v (i := 0) rfl (.inl rfl)) (da_cons (de_v (i := 1) rfl (.inl rfl)) (da_cons (de_v (i := 2) rfl (.inl rfl)) da_nil))))) (dss_one (ds_if (dt_not (dt_tru rfl (de_callN rfl rfl takesN (n_all_ways T) hr (by decide) rfl (da_cons (de_v (i := 0) rfl (.inl rfl)) (da_cons (de_v (i := 1) rfl (.inl rfl)) (da_cons (de_v (i := 2) rfl (.inl rfl)) da_nil)))))) (dss_one ds_never) dss_nil))))

theorem n_roads_on_ways {P : Program} {w : World} {C : Cs} {base : Heap} (T : Tp C base) : Dn P w C base "roads_on_ways" 3 3 (f_roads_on_ways) := by
  obtain ⟨fd, F⟩ := T.d_roads_on_ways
  exact Dn.mk' F sc_roads_on_ways T.g_roads_on_ways rfl (fun _ _ _ _ _ _ us hl => match us, hl with | [_, _, _], _ => rfl) fun A outer s H E hr =>
    (dss_one (ds_ret (de_dc2 (own := [("way", 3), ("index", 4)]) (ix := [3]) (ix1 := [4]) (vs1 := [4]) rfl sc_roads_on_ways.nd (di_seq rfl (de_callN rfl rfl takesN (n_all_ways T) hr (by decide) rfl (da_cons (de_v (i := 0) rfl (.inr (.inl rfl))) (da_cons (de_v (i := 1) rfl (.inl rfl)) (da_cons (de_v (i := 2) rfl (.inl rfl)) da_nil))))) (blkOk_by (by kernel_rfl)) (by decide +kernel) (by decide +kernel) (by decide +kernel) (fun _ _ _ _ _ => (dg_name (i := 3) sc_roads_on_ways.nd rfl (.inl rfl))) (fun _ _ _ _ _ => dts_nil) (fun _ _ _ _ _ => (di_seq rfl (de_v (i := 3) rfl (.inl rfl)))) (fun _ _ _ _ _ => (dg_name (i := 4) sc_roads_on_ways.nd rfl (.inl rfl))) (fun _ _ _ _ _ => dts_nil) (fun _ _ _ _ _ => (de_v (i := 4) rfl (.inl rfl))) (fun _ _ _ _ _ => (de_slice rfl (de_ix rfl (de_ix rfl (de_v (i := 0) rfl (.inr (.inl rfl))) de_int (fun _ _ => rfl)) (de_v (i := 4) rfl (.inl rfl)) (fun _ _ => rfl)) do_none (do_some de_int))))))

theorem n_side_step {P : Program} {w : World} {C : Cs} {base : Heap} (T : Tp C base) : Dn P w C base "side_step" 1 2 (f_side_step) := by
  obtain ⟨fd, F⟩ := T.d_side_step
  exact Dn.mk' F sc_side_step T.g_side_step rfl (fun _ _ _ _ _ _ us hl => match us, hl with | [_], _ => rfl) fun A outer s H E hr =>
    (dss_cons (ds_set (i := 1) sc_side_step.nd rfl (.inl rfl) (de_callB (cr_sortedB (Room.units hr)) on_sortedB rfl T.b_sorted (by decide +kernel) (da_cons (de_callTy (call_listD rfl) on_listI rfl T.b_list (by decide +kernel) (da_cons (de_v (i := 0) rfl (.inl rfl)) da_nil)) da_nil))) (dss_cons (ds_for ownsN rfl (di_seq rfl (de_v (i := 1) rfl (.inl rfl))) (dg_name (i := 2) sc_side_step.nd rfl (.inl rfl)) (dss_one (ds_for ownsN rfl (di_seq rfl (de_v (i := 1) rfl (.inl rfl))) (dg_name (i := 3) sc_side_step.nd rfl (.inl rfl)) (dss_one (ds_if (dw_dt (dw_and (dt_lt (de_v (i := 2) rfl (.inl rfl)) (de_v (i := 3) rfl (.inl rfl))) (dw_and1 (dt_eq rfl hr (de_ixI hr (de_v (i := 0) rfl (.inl rfl)) (de_v (i := 2) rfl (.inl rfl)) (fun _ _ => rfl)) (de_ixI hr (de_v (i := 0) rfl (.inl rfl)) (de_v (i := 3) rfl (.inl rfl)) (fun _ _ => rfl)))))) (dss_one (ds_ret (de_tup (da_cons de_str (da_cons (de_v (i := 2) rfl (.inl rfl)) (da_cons (de_v (i := 3) rfl (.inl rfl)) da_nil)))))) dss_nil))))) (dss_one (ds_ret de_non))))

theorem n_is_row {P : Program} {w : World} {C : Cs} {base : Heap} (T : Tp C base) : Dn P w C base "is_row" 5 2 (f_is_row) := by
  obtain ⟨fd, F⟩ := T.d_is_row
  exact Dn.mk' F sc_is_row T.g_is_row rfl (fun _ _ _ _ _ _ us hl => match us, hl with | [_, _, _, _, _], _ => rfl) fun A outer s H E hr =>
    (dss_cons (ds_set (i := 5) sc_is_row.nd rfl (.inr rfl) (de_ix rfl (de_ixI hr (de_v (i := 0) rfl (.inr (.inl rfl))) (de_v (i := 3) rfl (.inl rfl)) (fun _ _ => rfl)) de_int (fun _ _ => rfl))) (dss_cons (ds_if (dw_dt (dw_or (dt_eq rfl hr (de_v (i := 3) rfl (.inl rfl)) (de_v (i := 4) rfl (.inl rfl))) (dw_or (dt_inA rfl hr rfl (de_v (i := 5) rfl (.inr (.inl rfl))) (de_tup (da_cons (de_v (i := 1) rfl (.inl rfl)) (da_cons (de_v (i := 2) rfl (.inl rfl)) da_nil)))) (dw_or1 (dt_ne rfl hr (de_ix rfl (de_ixI hr (de_v (i := 0) rfl (.inr (.inl rfl))) (de_v (i := 4) rfl (.inl rfl)) (fun _ _ => rfl)) de_int (fun _ _ => rfl)) (de_v (i := 5) rfl (.inr (.inl rfl)))))))) (dss_one (ds_ret de_bl)) dss_nil) (dss_cons (setLc (i := 6) (own := [("one", 7)]) (ix := [7]) rfl sc_is_row.nd rfl rfl rfl (di_keysI (de_v (i := 0) rfl (.inr (.inl rfl)))) (blkOk_by (by kernel_rfl)) (by decide +kernel) (fun _ _ _ _ _ => (dg_name (i := 7) sc_is_row.nd rfl (.inl rfl))) (fun _ _ _ _ _ => (dts_one (dt_eq rfl hr (de_ix rfl (de_ixI hr (de_v (i := 0) rfl (.inr (.inl rfl))) (de_v (i := 7) rfl (.inl rfl)) (fun _ _ => rfl)) de_int (fun _ _ => rfl)) (de_v (i := 5) rfl (.inr (.inl rfl)))))) (fun _ _ _ _ _ => (de_v (i := 7) rfl (.inl rfl)))) (dss_cons (setLc (i := 8) (own := [("one", 7)]) (ix := [7]) rfl sc_is_row.nd rfl rfl rfl (di_keysI (de_v (i := 0) rfl (.inr (.inl rfl)))) (blkOk_by (by kernel_rfl)) (by decide +kernel) (fun _ _ _ _ _ => (dg_name (i := 7) sc_is_row.nd rfl (.inl rfl))) (fun _ _ _ _ _ => (dts_one (dt_eq rfl hr (de_ix rfl (de_ixI hr (de_v (i := 0) rfl (.inr (.inl rfl))) (de_v (i := 7) rfl (.inl rfl)) (fun _ _ => rfl)) de_int (fun _ _ => rfl)) (de_v (i := 5) rfl (.inr (.inl rfl)))))) (fun _ _ _ _ _ => (de_v (i := 7) rfl (.inl rfl)))) (dss_fz 6 (dss_fz 8 (dss_one (ds_ret (de_and rfl (de_eq rfl hr (de_v (i := 6) rfl (.inl rfl)) (de_lst (da_cons (de_v (i := 4) rfl (.inl rfl)) da_nil))) (de_one (de_eq rfl hr (de_v (i := 8) rfl (.inl rfl)) (de_lst (da_cons (de_v (i := 3) rfl (.inl rfl)) da_nil)))))))))))))

theorem n_row_step {P : Program} {w : World} {C : Cs} {base : Heap} (T : Tp C base) : Dn P w C base "row_step" 3 3 (f_row_step) := by
  obtain ⟨fd, F⟩ := T.d_row_step
  exact Dn.mk' F sc_row_step T.g_row_step rfl (fun _ _ _ _ _ _ us hl => match us, hl with | [_, _, _], _ => rfl) fun A outer s H E hr =>
    (dss_cons (ds_set (i := 3) sc_row_step.nd rfl (.inl rfl) (de_callB (cr_sortedB (Room.units hr)) on_sortedB rfl T.b_sorted (by decide +kernel) (da_cons (de_callTy (call_listD rfl) on_listI rfl T.b_list (by decide +kernel) (da_cons (de_v (i := 0) rfl (.inl rfl)) da_nil)) da_nil))) (dss_cons (ds_for ownsN rfl (di_seq rfl (de_v (i := 3) rfl (.inl rfl))) (dg_name (i := 4) sc_row_step.nd rfl (.inl rfl)) (dss_one (ds_for ownsN rfl (di_seq rfl (de_v (i := 3) rfl (.inl rfl))) (dg_name (i := 5) sc_row_step.nd rfl (.inl rfl)) (dss_one (ds_if (dt_tru rfl (de_callN rfl rfl takesN (n_is_row T) hr (by decide) rfl (da_cons (de_v (i := 0) rfl (.inl rfl)) (da_cons (de_v (i := 1) rfl (.inl rfl)) (da_cons (de_v (i := 2) rfl (.inl rfl)) (da_cons (de_v (i := 4) rfl (.inl rfl)) (da_cons (de_v (i := 5) rfl (.inl rfl)) da_nil))))))) (dss_one (ds_ret (de_tup (da_cons de_str (da_cons (de_v (i := 4) rfl (.inl rfl)) (da_cons (de_v (i := 5) rfl (.inl rfl)) da_nil)))))) dss_nil))))) (dss_one (ds_ret de_non))))

theorem n_after_step {P : Program} {w : World} {C : Cs} {base : Heap} (T : Tp C base) : Dn P w C base "after_step" 2 2 (f_after_step) := by
  obtain ⟨fd, F⟩ := T.d_after_step
  exact Dn.mk' F sc_after_step T.g_after_step rfl (fun _ _ _ _ _ _ us hl => match us, hl with | [_, _], _ => rfl) fun A outer s H E hr =>
    (dss_cons (ds_asg (de_v (i := 1) rfl (.inl rfl)) (dg_tup rfl rfl (dgs_cons (dg_name (i := 2) sc_after_step.nd rfl (.inl rfl)) (dgs_cons (dg_name (i := 3) sc_after_step.nd rfl (.inl rfl)) (dgs_cons (dg_name (i := 4) sc_after_step.nd rfl (.inr rfl)) dgs_nil))))) (dss_cons (setDc (i := 5) (own := [("one", 6)]) (ix := [6]) rfl sc_after_step.nd rfl rfl rfl (di_keysI (de_v (i := 0) rfl (.inr (.inl rfl)))) (blkOk_by (by kernel_rfl)) (by decide +kernel) (fun _ _ _ _ _ => (dg_name (i := 6) sc_after_step.nd rfl (.inl rfl))) (fun _ _ _ _ _ => (dts_one (dt_ne rfl hr (de_v (i := 6) rfl (.inl rfl)) (de_v (i := 4) rfl (.inr (.inl rfl)))))) (fun _ _ _ _ _ => (de_v (i := 6) rfl (.inl rfl))) (fun _ _ _ _ _ => (de_ixI hr (de_v (i := 0) rfl (.inr (.inl rfl))) (de_v (i := 6) rfl (.inl rfl)) (fun _ _ => rfl)))) (dss_cons (ds_if (dt_eq rfl hr (de_v (i := 2) rfl (.inl rfl)) de_str) (dss_one (ds_putK (i := 5) rfl rfl (.inl rfl) (de_tup (da_cons (de_ix rfl (de_ixI hr (de_v (i := 0) rfl (.inr (.inl rfl))) (de_v (i := 3) rfl (.inl rfl)) (fun _ _ => rfl)) de_int (fun _ _ => rfl)) (da_cons (de_ix rfl (de_ixI hr (de_v (i := 0) rfl (.inr (.inl rfl))) (de_v (i := 4) rfl (.inr (.inl rfl))) (fun _ _ => rfl)) de_int (fun _ _ => rfl)) da_nil))) (de_v (i := 3) rfl (.inl rfl)) (fun _ _ _ h1 h2 h3 => ps_asg h3 (pg_sub h1 h2 (set_dicK (Room.lt10 hr)))))) dss_nil) (dss_fzK 5 (dss_one (ds_ret (de_v (i := 5) rfl (.inl rfl))))))))

theorem n_steps_of {P : Program} {w : World} {C : Cs} {base : Heap} (T : Tp C base) : Dn P w C base "steps_of" 3 4 (f_steps_of) := by
  obtain ⟨fd, F⟩ := T.d_steps_of
  exact Dn.mk' F sc_steps_of T.g_steps_of rfl (fun _ _ _ _ _ _ us hl => match us, hl with | [_, _, _], _ => rfl) fun A outer s H E hr =>
    (dss_cons (ds_parDO (i := 3) (j := 4) rfl sc_steps_of.nd rfl rfl (by decide) rfl rfl (by exact (de_callN rfl rfl takesN (n_roads_on_ways T) hr (by decide) rfl (da_cons (de_v (i := 0) rfl (.inl rfl)) (da_cons (de_v (i := 1) rfl (.inl rfl)) (da_cons (de_v (i := 2) rfl (.inl rfl)) da_nil))))) (by exact (dn_lst da_nil)) rfl) (dss_cons (ds_while ownsN (dt_gt (de_callB cr_lenI on_lenI rfl T.b_len boot_len (da_cons (de_v (i := 3) rfl (.inl rfl)) da_nil)) de_int) (dss_cons (ds_set (i := 5) sc_steps_of.nd rfl (.inl rfl) (de_or rfl (de_callN rfl rfl takesN (n_side_step T) hr (by decide) rfl (da_cons (de_v (i := 3) rfl (.inl rfl)) da_nil)) (de_one (de_callN rfl rfl takesN (n_row_step T) hr (by decide) rfl (da_cons (de_v (i := 3) rfl (.inl rfl)) (da_cons (de_v (i := 1) rfl (.inl rfl)) (da_cons (de_v (i := 2) rfl (.inl rfl)) da_nil))))))) (dss_cons (ds_if (dt_is (de_v (i := 5) rfl (.inl rfl)) de_non) (dss_one (ds_ret de_non)) dss_nil) (dss_cons (ds_set (i := 3) sc_steps_of.nd rfl (.inl rfl) (de_callN rfl rfl takesN (n_after_step T) hr (by decide) rfl (da_cons (de_v (i := 3) rfl (.inl rfl)) (da_cons (de_v (i := 5) rfl (.inl rfl)) da_nil)))) (dss_one (ds_app (i := 4) rfl (.inl rfl) (de_v (i := 5) rfl (.inl rfl)) (hp := fun t h => pe_bm PySem.F.plainAttrs_list PySem.F.slot_list_append PySem.F.type_list_append mt_append (pe_var (i := 4) rfl (.inl rfl)) h))))))) (dss_fz 4 (dss_one (ds_ret (de_v (i := 4) rfl (.inl rfl)))))))

theorem n_reduction {P : Program} {w : World} {C : Cs} {base : Heap} (T : Tp C base) : Dn P w C base "reduction" 3 7 (f_reduction) := by
  obtain ⟨fd, F⟩ := T.d_reduction
  exact Dn.mk' F sc_reduction T.g_reduction rfl (fun _ _ _ _ _ _ us hl => match us, hl with | [_, _, _], _ => rfl) fun A outer s H E hr =>
    (dss_cons (ds_expr (de_callN rfl rfl takesN (n_need_way T) hr (by decide) rfl (da_cons (de_v (i := 0) rfl (.inl rfl)) (da_cons (de_v (i := 1) rfl (.inl rfl)) (da_cons (de_v (i := 2) rfl (.inl rfl)) da_nil))))) (dss_cons (ds_set (i := 3) sc_reduction.nd rfl (.inl rfl) (de_callN rfl rfl takesN (n_steps_of T) hr (by decide) rfl (da_cons (de_v (i := 0) rfl (.inl rfl)) (da_cons (de_v (i := 1) rfl (.inl rfl)) (da_cons (de_v (i := 2) rfl (.inl rfl)) da_nil))))) (dss_one (ds_ret (de_if (dt_is (de_v (i := 3) rfl (.inl rfl)) de_non) de_non (de_callTy call_tupleN on_tuple rfl T.b_tuple (by decide +kernel) (da_cons (de_v (i := 3) rfl (.inl rfl)) da_nil)))))))

theorem n_few_ways {P : Program} {w : World} {C : Cs} {base : Heap} (T : Tp C base) : Dn P w C base "few_ways" 3 3 (f_few_ways) := by
  obtain ⟨fd, F⟩ := T.d_few_ways
  obtain ⟨fdi, Fi⟩ := T.d_TooMany___init__
  exact Dn.mk' F sc_few_ways T.g_few_ways rfl (fun _ _ _ _ _ _ us hl => match us, hl with | [_, _, _], _ => rfl) fun A outer s H E hr =>
    (dss_cons (ds_set (i := 3) sc_few_ways.nd rfl (.inl rfl) (de_callN rfl rfl takesN (n_all_ways T) hr (by decide) rfl (da_cons (de_v (i := 0) rfl (.inl rfl)) (da_cons (de_v (i := 1) rfl (.inl rfl)) (da_cons (de_v (i := 2) rfl (.inl rfl)) da_nil))))) (dss_cons (ds_if (dt_gt (de_callB call_len on_len rfl T.b_len boot_len (da_cons (de_v (i := 3) rfl (.inl rfl)) da_nil)) (de_globI rfl T.i_MOST_WAYS)) (dss_one (ds_raiseF (k := 1) rfl takesN rfl rfl T.tl_TooMany.oex T.tl_TooMany.ini T.tl_TooMany.tin (init_ok (k := 0) Fi sc_TooMany___init__ T.tl_TooMany.oex T.tl_TooMany.no (.inl rfl) (.inl rfl) (by decide) (by decide) (by decide) (by decide) (fun _ => rfl)) (Room.mono hr (by decide)) (FunD.bindsN (ps := ["self", "most"]) Fi fun _ _ _ _ _ _ us hl => match us, hl with | [_, _], _ => rfl) rfl T.g_TooMany (de_globI rfl T.i_MOST_WAYS))) dss_nil) (dss_one (ds_ret (de_v (i := 3) rfl (.inl rfl))))))

theorem n_ways {P : Program} {w : World} {C : Cs} {base : Heap} (T : Tp C base) : Dn P w C base "ways" 3 6 (f_ways) := by
  obtain ⟨fd, F⟩ := T.d_ways
  exact Dn.mk' F sc_ways T.g_ways rfl (fun _ _ _ _ _ _ us hl => match us, hl with | [_, _, _], _ => rfl) fun A outer s H E hr =>
    (dss_cons (ds_expr (de_callN rfl rfl takesN (n_need_net T) hr (by decide) rfl (da_cons (de_v (i := 0) rfl (.inl rfl)) da_nil))) (dss_cons (ds_expr (de_callN rfl rfl takesN (n_need_nodes T) hr (by decide) rfl (da_cons (de_v (i := 0) rfl (.inl rfl)) (da_cons (de_v (i := 1) rfl (.inl rfl)) (da_cons (de_v (i := 2) rfl (.inl rfl)) da_nil))))) (dss_one (ds_ret (de_callTy call_tupleN on_tuple rfl T.b_tuple (by decide +kernel) (da_cons (de_callN rfl rfl takesN (n_few_ways T) hr (by decide) rfl (da_cons (de_v (i := 0) rfl (.inl rfl)) (da_cons (de_v (i := 1) rfl (.inl rfl)) (da_cons (de_v (i := 2) rfl (.inl rfl)) da_nil)))) da_nil))))))

theorem n_law {P : Program} {w : World} {C : Cs} {base : Heap} {fd : FuncData} (T : Tp C base) (F : FunD C.K "law" "law" (defArgs s_law) (defBody s_law) (defScope s_law) [] [] (He.ga C.K "law") fd) :
    FnOk P w C.K C.mg base (L2.CX P w) 9 (He.ga C.K "law") fd ["_law_script"] (spD C 1 (f_law C)) := by
  obtain ⟨fdt, Ft⟩ := T.d_law_told
  exact fnL F sc_law rfl fun A outer s H E hr =>
    (dss_cons (ds_row (i := 1) (j := 0) (by decide) sc_law.nd rfl (.inr rfl) rfl (.inl rfl)) (dss_cons (ds_asg (de_tup (da_cons (de_callN rfl rfl takesN (n_law_net T) hr (by decide) rfl (da_trk (i := 1) rfl (.inr (.inl rfl)) da_nil)) (da_cons de_int da_nil))) (dg_tup rfl rfl (dgs_cons (dg_name (i := 2) sc_law.nd rfl (.inr rfl)) (dgs_cons (dg_name (i := 3) sc_law.nd rfl (.inr rfl)) dgs_nil)))) (dss_cons (ds_if (dt_gt (de_callN rfl rfl takesN (n_law_taken T) hr (by decide) rfl (da_trk (i := 1) rfl (.inr (.inl rfl)) (da_cons de_int da_nil))) de_int) (dss_cons (ds_asg (de_tup (da_cons (de_lst (da_cons (de_tup (da_cons de_int (da_cons de_int da_nil))) da_nil)) (da_cons de_int da_nil))) (dg_tup rfl rfl (dgs_cons (dg_name (i := 4) sc_law.nd rfl (.inl rfl)) (dgs_cons (dg_name (i := 5) sc_law.nd rfl (.inr rfl)) dgs_nil)))) (dss_cons (ds_for ownsN rfl (di_range1 rfl T.b_range (de_add rfl de_int (de_callN rfl rfl takesN (n_law_taken T) hr (by decide) rfl (da_trk (i := 1) rfl (.inr (.inl rfl)) (da_cons de_int da_nil))))) (dg_name (i := 6) sc_law.nd rfl (.inl rfl)) (dss_cons (ds_set (i := 7) sc_law.nd rfl (.inl rfl) (de_callN rfl rfl takesN (n_law_taken T) hr (by decide) rfl (da_trk (i := 1) rfl (.inr (.inl rfl)) (da_cons (de_callB call_len on_len rfl T.b_len boot_len (da_cons (de_v (i := 4) rfl (.inl rfl)) da_nil)) da_nil)))) (dss_one (ds_if (dw_dt (dw_and (dt_eq rfl hr (de_callN rfl rfl takesN (n_law_taken T) hr (by decide) rfl (da_trk (i := 1) rfl (.inr (.inl rfl)) (da_cons de_int da_nil))) de_int) (dw_and1 (dt_lt (de_v (i := 5) rfl (.inr (.inl rfl))) de_int)))) (dss_cons (ds_set (i := 4) sc_law.nd rfl (.inl rfl) (de_add rfl (de_add rfl (de_slice rfl (de_v (i := 4) rfl (.inl rfl)) do_none (do_some (de_v (i := 7) rfl (.inl rfl)))) (de_lst (da_cons (de_tup (da_cons (de_ix rfl (de_ix rfl (de_v (i := 4) rfl (.inl rfl)) (de_v (i := 7) rfl (.inl rfl)) (fun _ _ => rfl)) de_int (fun _ _ => rfl)) (da_cons (de_v (i := 5) rfl (.inr (.inl rfl))) da_nil))) (da_cons (de_tup (da_cons (de_v (i := 5) rfl (.inr (.inl rfl))) (da_cons (de_ix rfl (de_ix rfl (de_v (i := 4) rfl (.inl rfl)) (de_v (i := 7) rfl (.inl rfl)) (fun _ _ => rfl)) de_int (fun _ _ => rfl)) da_nil))) da_nil)))) (de_slice rfl (de_v (i := 4) rfl (.inl rfl)) (do_some (de_add rfl (de_v (i := 7) rfl (.inl rfl)) de_int)) do_none))) (dss_one (ds_set (i := 5) sc_law.nd rfl (.inr rfl) (de_add rfl (de_v (i := 5) rfl (.inr (.inl rfl))) de_int)))) (dss_one (ds_set (i := 4) sc_law.nd rfl (.inl rfl) (de_add rfl (de_v (i := 4) rfl (.inl rfl)) (de_lst (da_cons (de_ix rfl (de_v (i := 4) rfl (.inl rfl)) (de_v (i := 7) rfl (.inl rfl)) (fun _ _ => rfl)) da_nil))))))))) (dss_one (ds_set (i := 2) sc_law.nd rfl (.inr rfl) (de_tup (da_cons (de_v (i := 5) rfl (.inr (.inl rfl))) (da_cons (de_callTy call_tupleN on_tuple rfl T.b_tuple (by decide +kernel) (da_cons (de_dn (dn_lc (own := [("_law_one", 8)]) (ix := [8]) rfl sc_law.nd (di_seq rfl (de_slice rfl (de_v (i := 4) rfl (.inl rfl)) do_none (do_some de_int))) (blkOk_by (by kernel_rfl)) (by decide +kernel) (fun _ _ _ _ _ => (dg_name (i := 8) sc_law.nd rfl (.inl rfl))) (fun _ _ _ _ _ => dts_nil) (fun _ _ _ _ _ => (de_callN rfl rfl takes0 (n_law_road T) hr (by decide) rfl (da_trk (i := 1) rfl (.inr (.inl rfl)) (da_cons (de_ix rfl (de_v (i := 8) rfl (.inl rfl)) de_int (fun _ _ => rfl)) (da_cons (de_ix rfl (de_v (i := 8) rfl (.inl rfl)) de_int (fun _ _ => rfl)) da_nil))))))) da_nil)) da_nil))))))) (dss_one (ds_set (i := 3) sc_law.nd rfl (.inr rfl) (de_sub (de_ix rfl (de_v (i := 2) rfl (.inr (.inl rfl))) de_int (fun _ _ => rfl)) de_int)))) (dss_cons (ds_set (i := 9) sc_law.nd rfl (.inl rfl) (de_callN rfl rfl takesN (n_law_ways T) hr (by decide) rfl (da_cons (de_v (i := 2) rfl (.inr (.inl rfl))) (da_cons de_int (da_cons (de_v (i := 3) rfl (.inr (.inl rfl))) da_nil))))) (dss_cons (ds_if (dt_eq rfl hr (de_v (i := 9) rfl (.inl rfl)) (de_lst da_nil)) (dss_one (ds_ret de_bl)) dss_nil) (dss_cons (ds_set (i := 10) sc_law.nd rfl (.inl rfl) (de_callN rfl rfl takesN (n_reduction T) hr (by decide) rfl (da_cons (de_v (i := 2) rfl (.inr (.inl rfl))) (da_cons de_int (da_cons (de_v (i := 3) rfl (.inr (.inl rfl))) da_nil))))) (dss_cons (ds_if (dt_is (de_v (i := 10) rfl (.inl rfl)) de_non) (dss_one (ds_ret de_bl)) dss_nil) (dss_cons (ds_set (i := 11) sc_law.nd rfl (.inl rfl) (de_lst da_nil)) (dss_cons (ds_for ownsN rfl (di_seq rfl (de_v (i := 9) rfl (.inl rfl))) (dg_name (i := 12) sc_law.nd rfl (.inl rfl)) (dss_one (ds_set (i := 11) sc_law.nd rfl (.inl rfl) (de_add rfl (de_v (i := 11) rfl (.inl rfl)) (de_callTy call_list_of on_list rfl T.b_list (by decide +kernel) (da_cons (de_v (i := 12) rfl (.inl rfl)) da_nil)))))) (dss_cons (ds_set (i := 13) sc_law.nd rfl (.inr rfl) (de_dnk (fun h => hI_dictI h) (dnk_dictI rfl rfl rfl T.b_dict (de_dn (dn_lc (own := [("_law_k", 14)]) (ix := [14]) rfl sc_law.nd (di_seq rfl (de_sortSetI rfl rfl rfl T.b_sorted rfl T.b_set (de_v (i := 11) rfl (.inl rfl)))) (blkOk_by (by kernel_rfl)) (by decide +kernel) (fun _ _ _ _ _ => (dg_name (i := 14) sc_law.nd rfl (.inl rfl))) (fun _ _ _ _ _ => dts_nil) (fun _ _ _ _ _ => (de_tup (da_cons (de_v (i := 14) rfl (.inl rfl)) (da_cons de_int da_nil))))))))) (dss_cons (ds_for ownsN rfl (di_seq rfl (de_v (i := 10) rfl (.inl rfl))) (dg_tup rfl rfl (dgs_cons (dg_name (i := 15) sc_law.nd rfl (.inl rfl)) (dgs_cons (dg_name (i := 16) sc_law.nd rfl (.inr rfl)) (dgs_cons (dg_name (i := 17) sc_law.nd rfl (.inr rfl)) dgs_nil)))) (dss_cons (ds_set (i := 5) sc_law.nd rfl (.inr rfl) (de_if (dt_eq rfl hr (de_v (i := 15) rfl (.inl rfl)) de_str) (de_add rfl (de_ixI hr (de_v (i := 13) rfl (.inr (.inl rfl))) (de_v (i := 16) rfl (.inr (.inl rfl))) (fun _ _ => rfl)) (de_ixI hr (de_v (i := 13) rfl (.inr (.inl rfl))) (de_v (i := 17) rfl (.inr (.inl rfl))) (fun _ _ => rfl))) (de_mul (de_ixI hr (de_v (i := 13) rfl (.inr (.inl rfl))) (de_v (i := 16) rfl (.inr (.inl rfl))) (fun _ _ => rfl)) (de_ixI hr (de_v (i := 13) rfl (.inr (.inl rfl))) (de_v (i := 17) rfl (.inr (.inl rfl))) (fun _ _ => rfl))))) (dss_one (ds_set (i := 13) sc_law.nd rfl (.inr rfl) (de_dnk (fun h => hI_dictI h) (dnk_dictI rfl rfl rfl T.b_dict (de_dn (dn_lc (own := [("_law_k", 14)]) (ix := [14]) rfl sc_law.nd (di_seq rfl (de_callB (cr_sortedB (Room.units hr)) on_sortedB rfl T.b_sorted (by decide +kernel) (da_cons (de_callTy (call_listD rfl) on_listI rfl T.b_list (by decide +kernel) (da_cons (de_v (i := 13) rfl (.inr (.inl rfl))) da_nil)) da_nil))) (blkOk_by (by kernel_rfl)) (by decide +kernel) (fun _ _ _ _ _ => (dg_name (i := 14) sc_law.nd rfl (.inl rfl))) (fun _ _ _ _ _ => (dts_one (dt_ne rfl hr (de_v (i := 14) rfl (.inl rfl)) (de_v (i := 17) rfl (.inr (.inl rfl)))))) (fun _ _ _ _ _ => (de_tup (da_cons (de_v (i := 14) rfl (.inl rfl)) (da_cons (de_if (dt_eq rfl hr (de_v (i := 14) rfl (.inl rfl)) (de_v (i := 16) rfl (.inr (.inl rfl)))) (de_v (i := 5) rfl (.inr (.inl rfl))) (de_ixI hr (de_v (i := 13) rfl (.inr (.inl rfl))) (de_v (i := 14) rfl (.inl rfl)) (fun _ _ => rfl))) da_nil)))))))))))) (dss_cons (ds_if (dt_ne rfl hr (de_dn (dn_lc (own := [("_law_k", 14)]) (ix := [14]) rfl sc_law.nd (di_seq rfl (de_callB (cr_sortedB (Room.units hr)) on_sortedB rfl T.b_sorted (by decide +kernel) (da_cons (de_callTy (call_listD rfl) on_listI rfl T.b_list (by decide +kernel) (da_cons (de_v (i := 13) rfl (.inr (.inl rfl))) da_nil)) da_nil))) (blkOk_by (by kernel_rfl)) (by decide +kernel) (fun _ _ _ _ _ => (dg_name (i := 14) sc_law.nd rfl (.inl rfl))) (fun _ _ _ _ _ => dts_nil) (fun _ _ _ _ _ => (de_ixI hr (de_v (i := 13) rfl (.inr (.inl rfl))) (de_v (i := 14) rfl (.inl rfl)) (fun _ _ => rfl))))) (de_lst (da_cons (de_callB call_len on_len rfl T.b_len boot_len (da_cons (de_v (i := 9) rfl (.inl rfl)) da_nil)) da_nil))) (dss_one (ds_ret de_bl)) dss_nil) (dss_cons (ds_set (i := 18) sc_law.nd rfl (.inl rfl) (de_toldN hr rfl rfl rfl T.g_law_told Ft (FunD.bindsN (ps := ["_law_work"]) Ft fun _ _ _ _ _ _ us hl => match us, hl with | [_], _ => rfl) sc_law_told rfl (.inl rfl) (fun q cdv => toldN_gives rfl T.g_RoadError (by decide) (by decide) rfl) T.g_TooMany T.tl_TooMany.exm T.l_law rfl T.lp_law T.lu_law (LamX.lamS_by (by kernel_rfl)) rfl (fun _ _ _ _ _ => rfl) (fun A outer s H E f c hr => (de_callN rfl rfl takesL (n_ways T) hr (by decide) rfl (da_cons (de_v (i := 2) rfl (.inr (.inr rfl))) (da_cons de_int (da_cons (de_v (i := 3) rfl (.inr (.inr rfl))) da_nil))))))) (dss_one (ds_ret (de_or rfl (de_and rfl (de_is (de_v (i := 18) rfl (.inl rfl)) de_non) (de_one (de_gt (de_callB call_len on_len rfl T.b_len boot_len (da_cons (de_v (i := 9) rfl (.inl rfl)) da_nil)) de_int))) (de_one (de_eq rfl hr (de_v (i := 18) rfl (.inl rfl)) (de_callTy call_tupleN on_tuple rfl T.b_tuple (by decide +kernel) (da_cons (de_v (i := 9) rfl (.inl rfl)) da_nil))))))))))))))))))))
end Tr

namespace Gm
abbrev Wy := List Int
abbrev Row := List Int × List Int
def okE (ns : List Int) (e : Int × Int) : Bool := decide (ns.getLast? = some e.1) && !decide (e.2 ∈ ns)
def exP (w ns : List Int) (p : (Int × Int) × Nat) : Row := (w ++ [(p.2 : Int)], ns ++ [p.1.2])
def extsP (l : List ((Int × Int) × Nat)) (w ns : List Int) : List Row := (l.filter fun p => okE ns p.1).map (exP w ns)
def exts (E : List (Int × Int)) (r : Row) : List Row := extsP E.zipIdx r.1 r.2
def ext1 (E : List (Int × Int)) (rows : List Row) : List Row := rows.flatMap (exts E)
def isE (b : Int) (r : Row) : Bool := decide (r.2.getLast? = some b)
def fin (b : Int) (rows : List Row) : List Wy := (rows.filter (isE b)).map (·.1)
def rest (b : Int) (rows : List Row) : List Row := rows.filter fun r => !isE b r
def stepR (E : List (Int × Int)) (b : Int) (rows : List Row) : List Row := rest b (ext1 E rows)
def itR (E : List (Int × Int)) (b : Int) : Nat → List Row → List Row
  | 0, rows => rows
  | j + 1, rows => itR E b j (stepR E b rows)
def allF (E : List (Int × Int)) (b : Int) : Nat → List Row → List Wy
  | 0, _ => []
  | j + 1, rows => fin b (ext1 E rows) ++ allF E b j (stepR E b rows)
def rows0 (a : Int) : List Row := [([], [a])]
theorem itR_succ {E b j rows} : itR E b (j + 1) rows = stepR E b (itR E b j rows) := by
  induction j generalizing rows with
  | zero => rfl
  | succ j ih => exact ih
theorem allF_succ {E b j rows} : allF E b (j + 1) rows = allF E b j rows ++ fin b (ext1 E (itR E b j rows)) := by
  induction j generalizing rows with
  | zero => simp [allF, itR]
  | succ j ih =>
    show fin b (ext1 E rows) ++ allF E b (j + 1) (stepR E b rows) = _
    rw [ih]
    simp [allF, itR]
theorem allF_end {E b j rows} (h : itR E b j rows = []) : ∀ i, allF E b (j + i) rows = allF E b j rows := by
  intro i
  induction i with
  | zero => rfl
  | succ i ih =>
    rw [← Nat.add_assoc, allF_succ, ih]
    have : itR E b (j + i) rows = [] := by
      clear ih
      induction i with
      | zero => exact h
      | succ i ih2 => rw [← Nat.add_assoc, itR_succ, ih2]; rfl
    rw [this]
    simp [ext1, fin]
def tgt (E : List (Int × Int)) (k : Int) : Int := (E.getD k.toNat (0, 0)).2
structure ROk (E : List (Int × Int)) (n : Nat) (a : Int) (j : Nat) (r : Row) : Prop where
  wl : r.1.length = j
  nl : r.2 = a :: r.1.map (tgt E)
  nd : r.2.Nodup
  rg : ∀ x ∈ r.2, 0 ≤ x ∧ x < n
  ix : ∀ k ∈ r.1, 0 ≤ k ∧ k < E.length
theorem nodup_le {l T : List Int} (h : l.Nodup) (hs : ∀ x ∈ l, x ∈ T) : l.length ≤ T.length := by
  induction l generalizing T with
  | nil => simp
  | cons x l ih =>
    rw [List.nodup_cons] at h
    have m : x ∈ T := hs x (by simp)
    have := ih (T := T.erase x) h.2 fun y hy => (List.mem_erase_of_ne (fun z => h.1 (by rw [← z]; exact hy))).mpr (hs y (by simp [hy]))
    rw [List.length_erase_of_mem m] at this
    have := List.length_pos_of_mem m
    simp only [List.length_cons]
    omega
theorem ROk.lt {E : List (Int × Int)} {n : Nat} {a : Int} {j : Nat} {r : Row} (h : ROk E n a j r) : j < n := by
  have h1 := nodup_le (T := (List.range n).map fun (i : Nat) => (i : Int)) h.nd fun x hx => by
    obtain ⟨h0, h1⟩ := h.rg x hx
    refine List.mem_map.mpr ⟨x.toNat, List.mem_range.mpr (by omega), by omega⟩
  rw [h.nl] at h1
  simp [h.wl] at h1
  omega
theorem ROk.ndw {E n a j r} (h : ROk E n a j r) : r.1.Nodup := by
  have := h.nd
  rw [h.nl, List.nodup_cons] at this
  have h2 := this.2
  exact (List.pairwise_map.mp h2).imp fun hxy e => hxy (by rw [e])
theorem ROk.ext {E : List (Int × Int)} {n : Nat} {a : Int} {j : Nat} {r : Row} {p} (h : ROk E n a j r) (hp : p ∈ E.zipIdx) (hE : ∀ e ∈ E, 0 ≤ e.2 ∧ e.2 < n) (ho : okE r.2 p.1 = true) : ROk E n a (j + 1) (exP r.1 r.2 p) := by
  obtain ⟨e, k⟩ := p
  have hk := List.mem_zipIdx hp
  simp at hk
  obtain ⟨k1, he⟩ := hk
  have t1 : tgt E (k : Int) = e.2 := by simp [tgt, k1, he]
  simp only [okE, Bool.and_eq_true, decide_eq_true_eq, Bool.not_eq_true', decide_eq_false_iff_not] at ho
  refine ⟨by simp [exP, h.wl], ?_, ?_, ?_, ?_⟩
  · show r.2 ++ [e.2] = a :: (r.1 ++ [(k : Int)]).map (tgt E)
    rw [h.nl]
    simp [t1]
  · show (r.2 ++ [e.2]).Nodup
    rw [List.nodup_append]
    refine ⟨h.nd, by simp, fun x hx y hy => ?_⟩
    simp at hy
    rw [hy]
    exact fun z => ho.2 (z ▸ hx)
  · intro x hx
    rcases List.mem_append.mp hx with hx | hx
    · exact h.rg x hx
    · simp at hx
      rw [hx]
      rw [he]
      exact hE _ (List.getElem_mem k1)
  · intro x hx
    rcases List.mem_append.mp hx with hx | hx
    · exact h.ix x hx
    · simp at hx
      rw [hx]
      omega
theorem rok_ext1 {E : List (Int × Int)} {n : Nat} {a : Int} {j : Nat} {rows : List Row} (h : ∀ r ∈ rows, ROk E n a j r) (hE : ∀ e ∈ E, 0 ≤ e.2 ∧ e.2 < n) : ∀ r ∈ ext1 E rows, ROk E n a (j + 1) r := by
  intro r hr
  obtain ⟨r0, h0, hr⟩ := List.mem_flatMap.mp hr
  obtain ⟨p, hp, rfl⟩ := List.mem_map.mp hr
  obtain ⟨hp, ho⟩ := List.mem_filter.mp hp
  exact (h r0 h0).ext hp hE ho
theorem rok_it {E : List (Int × Int)} {n : Nat} {a b : Int} (ha : 0 ≤ a ∧ a < n) (hE : ∀ e ∈ E, 0 ≤ e.2 ∧ e.2 < n) : ∀ j, ∀ r ∈ itR E b j (rows0 a), ROk E n a j r := by
  intro j
  induction j with
  | zero =>
    intro r hr
    simp [itR, rows0] at hr
    subst hr
    exact ⟨rfl, rfl, by simp, by simpa using ha, by simp⟩
  | succ j ih =>
    intro r hr
    rw [itR_succ] at hr
    exact rok_ext1 ih hE r (List.mem_filter.mp hr).1
theorem it_end {E : List (Int × Int)} {n : Nat} {a b : Int} (ha : 0 ≤ a ∧ a < n) (hE : ∀ e ∈ E, 0 ≤ e.2 ∧ e.2 < n) : itR E b n (rows0 a) = [] := by
  apply List.eq_nil_iff_forall_not_mem.mpr
  intro r hr
  exact Nat.lt_irrefl _ (rok_it ha hE n r hr).lt
theorem extsP_len {l w ns} : (extsP l w ns).length ≤ l.length := by
  simp only [extsP, List.length_map]
  exact List.length_filter_le _ _
theorem ext1_len {E rows} : (ext1 E rows).length ≤ rows.length * E.length := by
  induction rows with
  | nil => simp [ext1]
  | cons r rows ih =>
    have h1 : (exts E r).length ≤ E.length := by
      have := extsP_len (l := E.zipIdx) (w := r.1) (ns := r.2)
      rw [List.length_zipIdx] at this
      exact this
    simp only [ext1, List.flatMap_cons, List.length_append, List.length_cons] at ih ⊢
    rw [Nat.add_mul]
    omega
theorem it_len {E : List (Int × Int)} {b : Int} {rows} : ∀ j, (itR E b j rows).length ≤ rows.length * E.length ^ j := by
  intro j
  induction j with
  | zero => simp [itR]
  | succ j ih =>
    rw [itR_succ]
    have h1 : (stepR E b (itR E b j rows)).length ≤ (ext1 E (itR E b j rows)).length := List.length_filter_le _ _
    have h2 := ext1_len (E := E) (rows := itR E b j rows)
    have h3 := Nat.mul_le_mul_right E.length ih
    rw [Nat.pow_succ, ← Nat.mul_assoc]
    omega
theorem pow_le {m n j : Nat} (hm : m ≤ 10) (hj : j ≤ 6) : m ^ j ≤ 1000000 := by
  have h1 : m ^ j ≤ 10 ^ j := Nat.pow_le_pow_left hm j
  have h2 : 10 ^ j ≤ 10 ^ 6 := Nat.pow_le_pow_right (by omega) hj
  omega
theorem fin_len {b rows} : (fin b rows).length ≤ rows.length := by
  simp only [fin, List.length_map]
  exact List.length_filter_le _ _
theorem ext_le {E : List (Int × Int)} {a b : Int} {j : Nat} (hm : E.length ≤ 10) (hj : j < 6) : (ext1 E (itR E b j (rows0 a))).length ≤ 1000000 := by
  have h1 := it_len (E := E) (b := b) (rows := rows0 a) j
  have h2 := ext1_len (E := E) (rows := itR E b j (rows0 a))
  have h3 := Nat.mul_le_mul_right E.length h1
  have h4 := pow_le (n := 0) hm (j := j + 1) hj
  rw [Nat.pow_succ] at h4
  have : (rows0 a).length = 1 := rfl
  rw [this, Nat.one_mul] at h3
  omega
theorem allF_len {E : List (Int × Int)} {a b : Int} (hm : E.length ≤ 10) : ∀ j, j ≤ 6 → (allF E b j (rows0 a)).length ≤ j * 1000000 := by
  intro j
  induction j with
  | zero => intro _; simp [allF]
  | succ j ih =>
    intro hj
    have h1 := ih (by omega)
    rw [allF_succ, List.length_append]
    have h2 := ext_le (E := E) (a := a) (b := b) hm (j := j) (by omega)
    have h3 := fin_len (b := b) (rows := ext1 E (itR E b j (rows0 a)))
    omega
structure WOk (E : List (Int × Int)) (n : Nat) (w : Wy) : Prop where
  ne : w ≠ []
  nd : w.Nodup
  ix : ∀ k ∈ w, 0 ≤ k ∧ k < E.length
theorem wok_all {E : List (Int × Int)} {n : Nat} {a b : Int} (ha : 0 ≤ a ∧ a < n) (hE : ∀ e ∈ E, 0 ≤ e.2 ∧ e.2 < n) : ∀ j, ∀ w ∈ allF E b j (rows0 a), WOk E n w := by
  intro j
  induction j with
  | zero => intro w hw; cases hw
  | succ j ih =>
    intro w hw
    rw [allF_succ] at hw
    rcases List.mem_append.mp hw with hw | hw
    · exact ih w hw
    · obtain ⟨r, hr, rfl⟩ := List.mem_map.mp hw
      have := rok_ext1 (rok_it ha hE j) hE r (List.mem_filter.mp hr).1
      refine ⟨fun z => ?_, this.ndw, this.ix⟩
      have h := this.wl
      rw [z] at h
      simp at h
end Gm

namespace Tr
open PySem PySem.Spec L2
variable [ProtC]
inductive Pl : Nat → D → Prop
  | int {n : Nat} {i : Int} : Pl n (.int i)
  | tup {n : Nat} {ds : List D} : (∀ x ∈ ds, Pl n x) → Pl (n + 1) (.tuple ds)
  | lst {n : Nat} {ds : List D} : (∀ x ∈ ds, Pl n x) → Pl (n + 1) (.list ds)
theorem Pl.lay : ∀ {n : Nat} {d : D}, Pl n d → d.canLay0 = true ∧ d.depth ≤ n := by
  have all : ∀ {n : Nat} {ds : List D}, (∀ x ∈ ds, x.canLay0 = true ∧ x.depth ≤ n) → PyData.canLayAll0 ds = true ∧ PyData.depthAll ds ≤ n := by
    intro n ds
    induction ds with
    | nil => intro _; exact ⟨by simp [PyData.canLayAll0], by simp [PyData.depthAll]⟩
    | cons d ds ih =>
      intro h
      obtain ⟨a, b⟩ := h d (by simp)
      obtain ⟨a2, b2⟩ := ih fun x hx => h x (by simp [hx])
      exact ⟨by simp [PyData.canLayAll0, a, a2], by simp only [PyData.depthAll]; omega⟩
  intro n d h
  induction h with
  | int => exact ⟨by simp [PyData.canLay0], by simp [PyData.depth]⟩
  | tup _ ih =>
    obtain ⟨a, b⟩ := all ih
    exact ⟨by simpa [PyData.canLay0] using a, by simp only [PyData.depth]; omega⟩
  | lst _ ih =>
    obtain ⟨a, b⟩ := all ih
    exact ⟨by simpa [PyData.canLay0] using a, by simp only [PyData.depth]; omega⟩
theorem Pl.shaped {n : Nat} {d : D} (h : Pl n d) (hn : n ≤ 64) : SeqAt.shaped d = true := by
  obtain ⟨a, b⟩ := h.lay
  unfold SeqAt.shaped
  rw [a, decide_eq_true (by omega)]
  rfl
theorem Pl.mono {n m : Nat} {d : D} (h : Pl n d) (hm : n ≤ m) : Pl m d := by
  induction h generalizing m with
  | int => exact .int
  | tup _ ih =>
    obtain ⟨k, rfl⟩ : ∃ k, m = k + 1 := ⟨m - 1, by omega⟩
    exact .tup fun x hx => ih x hx (by omega)
  | lst _ ih =>
    obtain ⟨k, rfl⟩ : ∃ k, m = k + 1 := ⟨m - 1, by omega⟩
    exact .lst fun x hx => ih x hx (by omega)
theorem eqvAll_iff {P Q : D → Prop} (h : ∀ a, P a → ∀ b, Q b → (PyData.eqv a b = true ↔ a = b)) : ∀ {as bs : List D}, (∀ x ∈ as, P x) → (∀ x ∈ bs, Q x) → (PyData.eqvAll as bs = true ↔ as = bs) := by
  intro as
  induction as with
  | nil => intro bs _ _; cases bs <;> simp [PyData.eqvAll]
  | cons a as ih =>
    intro bs ha hb
    cases bs with
    | nil => simp [PyData.eqvAll]
    | cons b bs =>
      simp only [PyData.eqvAll, Bool.and_eq_true, List.cons.injEq]
      rw [h a (ha a (by simp)) b (hb b (by simp)), ih (fun x hx => ha x (by simp [hx])) fun x hx => hb x (by simp [hx])]
theorem Pl.eqv {n : Nat} {a : D} (ha : Pl n a) : ∀ {m : Nat} {b : D}, Pl m b → (PyData.eqv a b = true ↔ a = b) := by
  induction ha with
  | int =>
    intro m b hb
    cases hb <;> simp [PyData.eqv]
  | tup h ih =>
    intro m b hb
    cases hb with
    | int => simp [PyData.eqv]
    | lst _ => simp [PyData.eqv]
    | @tup k es hb =>
      simp only [PyData.eqv, PyData.tuple.injEq]
      rename_i n ds
      exact eqvAll_iff (P := fun x => x ∈ ds) (Q := fun b => Pl k b) (fun a h1 b h2 => ih a h1 h2) (fun x hx => hx) (fun x hx => hb x hx)
  | lst h ih =>
    intro m b hb
    cases hb with
    | int => simp [PyData.eqv]
    | tup _ => simp [PyData.eqv]
    | @lst k es hb =>
      simp only [PyData.eqv, PyData.list.injEq]
      rename_i n ds
      exact eqvAll_iff (P := fun x => x ∈ ds) (Q := fun b => Pl k b) (fun a h1 b h2 => ih a h1 h2) (fun x hx => hx) (fun x hx => hb x hx)
theorem in_pic {α : Type} [BEq α] [LawfulBEq α] {f : α → D} {n : Nat} (hp : ∀ x, Pl n (f x)) (hf : ∀ x y, f x = f y → x = y) {x : α} {xs : List α} : ((xs.map f).any fun z => PyData.eqv z (f x)) = decide (x ∈ xs) := by
  rw [Bool.eq_iff_iff, List.any_eq_true, decide_eq_true_eq]
  constructor
  · rintro ⟨z, hz, he⟩
    obtain ⟨y, hy, rfl⟩ := List.mem_map.mp hz
    rw [hf y x (((hp y).eqv (hp x)).mp he)] at hy
    exact hy
  · intro h
    exact ⟨f x, List.mem_map.mpr ⟨x, h, rfl⟩, ((hp x).eqv (hp x)).mpr rfl⟩
theorem pl_tupI {w : List Int} : Pl 1 (tupI w) := .tup fun x hx => by
  obtain ⟨i, _, rfl⟩ := List.mem_map.mp hx
  exact .int
theorem map_inj {α β : Type} {f : α → β} (hf : ∀ x y, f x = f y → x = y) : ∀ {xs ys : List α}, xs.map f = ys.map f → xs = ys := by
  intro xs
  induction xs with
  | nil => intro ys h; cases ys with
    | nil => rfl
    | cons _ _ => cases h
  | cons x xs ih =>
    intro ys h
    cases ys with
    | nil => cases h
    | cons y ys =>
      simp only [List.map_cons, List.cons.injEq] at h
      rw [hf x y h.1, ih h.2]
theorem tupI_inj : ∀ x y : List Int, tupI x = tupI y → x = y := fun x y h => map_inj (fun a b e => by cases e; rfl) (PyData.tuple.inj h)
def stD (st : List (List Int)) : D := .tuple (st.map tupI)
theorem pl_stD {st : List (List Int)} : Pl 2 (stD st) := .tup fun x hx => by
  obtain ⟨i, _, rfl⟩ := List.mem_map.mp hx
  exact pl_tupI
theorem stD_inj : ∀ x y : List (List Int), stD x = stD y → x = y := fun x y h => map_inj tupI_inj (PyData.tuple.inj h)
theorem pl_map {α : Type} {f : α → D} {n : Nat} {xs : List α} (h : ∀ x, Pl n (f x)) : Pl (n + 1) (.tuple (xs.map f)) := .tup fun x hx => by
  obtain ⟨y, _, rfl⟩ := List.mem_map.mp hx
  exact h y
theorem pl_mapL {α : Type} {f : α → D} {n : Nat} {xs : List α} (h : ∀ x, Pl n (f x)) : Pl (n + 1) (.list (xs.map f)) := .lst fun x hx => by
  obtain ⟨y, _, rfl⟩ := List.mem_map.mp hx
  exact h y
@[simp] theorem in_int {x : Int} {xs : List Int} : ((xs.map PyData.int).any fun z => PyData.eqv z (.int x)) = decide (x ∈ xs) := in_pic (n := 0) (f := PyData.int) (fun _ => .int) fun a b e => by cases e; rfl
@[simp] theorem in_tup {x : List Int} {xs : List (List Int)} : ((xs.map tupI).any fun z => PyData.eqv z (tupI x)) = decide (x ∈ xs) := in_pic (n := 1) (fun _ => pl_tupI) tupI_inj
@[simp] theorem in_st {x : List (List Int)} {xs : List (List (List Int))} : ((xs.map stD).any fun z => PyData.eqv z (stD x)) = decide (x ∈ xs) := in_pic (n := 2) (fun _ => pl_stD) stD_inj
@[simp] theorem shaped_tupI {w : List Int} : SeqAt.shaped (tupI w) = true := pl_tupI.shaped (by omega)
@[simp] theorem shaped_stD {w : List (List Int)} : SeqAt.shaped (stD w) = true := pl_stD.shaped (by omega)
@[simp] theorem shaped_ints {w : List Int} : SeqAt.shaped (.list (w.map .int)) = true := (pl_mapL (n := 0) fun _ => .int).shaped (by omega)
@[simp] theorem shaped_tups {w : List (List Int)} : SeqAt.shaped (.list (w.map tupI)) = true := (pl_mapL fun _ => pl_tupI).shaped (by omega)
@[simp] theorem shaped_sts {w : List (List (List Int))} : SeqAt.shaped (.list (w.map stD)) = true := (pl_mapL fun _ => pl_stD).shaped (by omega)
def leL (x y : List Int) : Bool := !TrS.lexT y x
def srtW (l : List (List Int)) : List (List Int) := l.mergeSort leL
theorem leL_tr (a b c : List Int) (h1 : leL a b = true) (h2 : leL b c = true) : leL a c = true := by
  simp only [leL, Bool.not_eq_true'] at *
  exact TrS.lex_tr _ _ _ h1 h2
theorem leL_tot (a b : List Int) : (leL a b || leL b a) = true := by
  simp only [leL, Bool.or_eq_true, Bool.not_eq_true']
  cases h : TrS.lexT b a with
  | false => exact .inl rfl
  | true => exact .inr (TrS.lex_asym _ _ h)
theorem leL_anti {a b : List Int} (h1 : leL a b = true) (h2 : leL b a = true) : a = b := by
  simp only [leL, Bool.not_eq_true'] at *
  exact TrS.lex_eq _ _ h2 h1
theorem srtW_pw {l : List (List Int)} : (srtW l).Pairwise fun x y => leL x y = true := List.pairwise_mergeSort leL_tr leL_tot l
theorem srtW_perm {l : List (List Int)} : (srtW l).Perm l := List.mergeSort_perm l leL
theorem pw_uniq {l m : List (List Int)} (hp : l.Perm m) (h1 : l.Pairwise fun x y => leL x y = true) (h2 : m.Pairwise fun x y => leL x y = true) : l = m := by
  induction l generalizing m with
  | nil => exact (List.nil_perm.mp hp).symm
  | cons a l ih =>
    cases m with
    | nil => exact absurd hp.length_eq (by simp)
    | cons b m =>
      rw [List.pairwise_cons] at h1 h2
      have e : a = b := by
        have ma := hp.mem_iff.mp (List.mem_cons_self (a := a) (l := l))
        have mb := hp.mem_iff.mpr (List.mem_cons_self (a := b) (l := m))
        rcases List.mem_cons.mp ma with e | ma
        · exact e
        rcases List.mem_cons.mp mb with e | mb
        · exact e.symm
        exact leL_anti (h1.1 b mb) (h2.1 a ma)
      subst e
      rw [ih (List.perm_cons a |>.mp hp) h1.2 h2.2]
theorem srtW_mem {l : List (List Int)} {x : List Int} : x ∈ srtW l ↔ x ∈ l := srtW_perm.mem_iff
theorem srtW_len {l : List (List Int)} : (srtW l).length = l.length := srtW_perm.length_eq
theorem tups_map {nss : List (List Int)} : tupsD (nss.map tupI) = some nss := by
  induction nss with
  | nil => rfl
  | cons n ns ih =>
    show (intsD (n.map .int)).bind (fun a => (tupsD (ns.map tupI)).map (a :: ·)) = _
    rw [ints_map, ih]
    rfl
theorem sorted_run {l : List (List Int)} {k : D → Prop} {w : Exn → Prop} (hne : ∀ x ∈ l, x ≠ []) (hk : k (.list ((srtW l).map tupI))) : (bSortedB [.list (l.map tupI)]).run k w := by
  show (if (intsD (l.map tupI)).isSome || (tupsD (l.map tupI)).isSome then bSorted [.list (l.map tupI)] else bSortedD [.list (l.map tupI)]).run k w
  rw [tups_map, if_pos (by simp)]
  cases l with
  | nil =>
    show (if (intsD []).isSome = true then bSortedI [.list []] else bSortedT [.list []]).run k w
    rw [if_pos (by rfl)]
    show ((Wp.any fun (ms : List Int) => ms.Perm [] ∧ ms.Pairwise (· ≤ ·)).bind fun ms => .pure (.list (ms.map .int))).run k w
    rintro ms ⟨h1, _⟩
    rw [List.perm_nil.mp h1]
    have : srtW [] = [] := List.length_eq_zero_iff.mp (srtW_len (l := []))
    rw [this] at hk
    exact hk
  | cons x l =>
    show (if (intsD ((x :: l).map tupI)).isSome = true then bSortedI [.list ((x :: l).map tupI)] else bSortedT [.list ((x :: l).map tupI)]).run k w
    rw [if_neg (by simp [tupI, intsD])]
    show ((optW (tupsD ((x :: l).map tupI))).bind _).run k w
    rw [tups_map]
    refine ⟨hne, ?_⟩
    rintro ms ⟨h1, h2⟩
    have : ms = srtW (x :: l) := pw_uniq (h1.trans srtW_perm.symm) (h2.imp fun h => by simpa [leL] using h) srtW_pw
    show k (.list (ms.map tupI))
    rw [this]
    exact hk
theorem enD_zip {α : Type} {g : α → D} {xs : List α} : enD (xs.map g) = xs.zipIdx.map fun p => .tuple [.int (p.2 : Int), g p.1] := by
  apply List.ext_getElem?
  intro i
  rw [List.getElem?_map, List.getElem?_zipIdx]
  cases h : xs[i]? with
  | none =>
    have : ¬ i < xs.length := fun z => by rw [List.getElem?_eq_getElem z] at h; cases h
    rw [List.getElem?_eq_none (by rw [enD_len, List.length_map]; omega)]
    rfl
  | some x =>
    rw [enD_get (d := g x) (by rw [List.getElem?_map, h]; rfl)]
    simp
theorem rgD_zip {α : Type} {xs : List α} : rgD 0 xs.length = xs.zipIdx.map fun p => .int (p.2 : Int) := by
  apply List.ext_getElem?
  intro i
  rw [List.getElem?_map, List.getElem?_zipIdx]
  cases h : xs[i]? with
  | none =>
    have : ¬ i < xs.length := fun z => by rw [List.getElem?_eq_getElem z] at h; cases h
    rw [List.getElem?_eq_none (by simp; omega)]
    rfl
  | some x =>
    have hl : i < xs.length := (List.getElem?_eq_some_iff.mp h).1
    simp [rgD, hl]
theorem zip_mem {α : Type} {xs : List α} {p : α × Nat} (h : p ∈ xs.zipIdx) : xs[p.2]? = some p.1 := by
  have := List.mem_zipIdx h
  simp at this
  obtain ⟨h1, h2⟩ := this
  rw [List.getElem?_eq_getElem (by omega), h2]
theorem seqM {F G : SF} {δ : De} {k : Out → Prop} {w : Exn → Prop} (P : De → Prop) (h1 : (F δ).run (fun o => ∃ δ', o = .nx δ' ∧ P δ') w) (h2 : ∀ δ', P δ' → (G δ').run k w) : (sSeq F G δ).run k w := by
  rw [rw_seq]
  simp only [run_bind]
  refine (F δ).mono (fun o ho => ?_) (fun _ z => z) h1
  obtain ⟨δ', rfl, h⟩ := ho
  exact h2 δ' h
theorem while_run {c : TF} {b : SF} {δ : De} {k : Out → Prop} {w : Exn → Prop} (I : Nat → De → Prop) (m : Nat) (h0 : I m δ)
    (h : ∀ m δ, I m δ → (c δ).run (fun t => if t = true then (b δ).run (fun o => match o with
      | .nx δ' => ∃ m', m' < m ∧ I m' δ'
      | .ct δ' => ∃ m', m' < m ∧ I m' δ'
      | .bk δ' => k (.nx δ')
      | .rt d => k (.rt d)) w else k (.nx δ)) w) : (sWhile c b δ).run k w := ⟨I, ⟨m, h0⟩, h⟩
theorem line1 : (1 : Nat) ≤ sizeLine := by decide
theorem line2 : (2 : Nat) ≤ sizeLine := by decide
theorem lineN {n : Nat} (h : n ≤ 16777216) : n ≤ sizeLine := by show n ≤ 16777216; exact h
theorem lineL {n : Nat} (h : n < 16777216) : n < sizeLine := by show n < 16777216; exact h
@[simp] theorem at0 {A : Type} {x : A} {l : List A} : atI (x :: l) 0 = some x := by rw [show (0 : Int) = ((0 : Nat) : Int) from rfl, atI_nat]; rfl
@[simp] theorem at1 {A : Type} {x y : A} {l : List A} : atI (x :: y :: l) 1 = some y := by rw [show (1 : Int) = ((1 : Nat) : Int) from rfl, atI_nat]; rfl
@[simp] theorem at2 {A : Type} {x y z : A} {l : List A} : atI (x :: y :: z :: l) 2 = some z := by rw [show (2 : Int) = ((2 : Nat) : Int) from rfl, atI_nat]; rfl
@[simp] theorem arSl_d {d : D} : arSl (.d d) = .p d := rfl
theorem seqM' {F G : SF} {δ : De} {k : Out → Prop} {w : Exn → Prop} (P : De → Prop) (h1 : (F δ).run (fun o => match o with
    | .nx δ' => P δ'
    | o => k o) w) (h2 : ∀ δ', P δ' → (G δ').run k w) : (sSeq F G δ).run k w := by
  rw [rw_seq]
  simp only [run_bind]
  refine (F δ).mono (fun o ho => ?_) (fun _ z => z) h1
  cases o with
  | nx δ' => exact h2 δ' ho
  | _ => exact ho
end Tr

namespace Lk
def sm : Nat → (Nat → Rat) → Rat
  | 0, _ => 0
  | n + 1, f => sm n f + f n
theorem sm_congr {n : Nat} {f g : Nat → Rat} (h : ∀ i, i < n → f i = g i) : sm n f = sm n g := by
  induction n with
  | zero => rfl
  | succ n ih => rw [sm, sm, ih fun i hi => h i (by omega), h n (by omega)]
theorem sm_add {n : Nat} {f g : Nat → Rat} : sm n (fun i => f i + g i) = sm n f + sm n g := by
  induction n with
  | zero => simp only [sm]; grind
  | succ n ih => rw [sm, sm, sm, ih]; grind
theorem sm_sub {n : Nat} {f g : Nat → Rat} : sm n (fun i => f i - g i) = sm n f - sm n g := by
  induction n with
  | zero => simp only [sm]; grind
  | succ n ih => rw [sm, sm, sm, ih]; grind
theorem sm_neg {n : Nat} {f : Nat → Rat} : sm n (fun i => - f i) = - sm n f := by
  induction n with
  | zero => simp [sm]
  | succ n ih => rw [sm, sm, ih]; grind
theorem sm_mul {n : Nat} {c : Rat} {f : Nat → Rat} : sm n (fun i => c * f i) = c * sm n f := by
  induction n with
  | zero => simp [sm]
  | succ n ih => rw [sm, sm, ih]; grind
theorem sm_mulr {n : Nat} {c : Rat} {f : Nat → Rat} : sm n (fun i => f i * c) = sm n f * c := by
  induction n with
  | zero => simp [sm]
  | succ n ih => rw [sm, sm, ih]; grind
theorem sm_zero {n : Nat} {f : Nat → Rat} (h : ∀ i, i < n → f i = 0) : sm n f = 0 := by
  induction n with
  | zero => rfl
  | succ n ih => rw [sm, ih fun i hi => h i (by omega), h n (by omega)]; grind
theorem sm_swap {n m : Nat} {f : Nat → Nat → Rat} : sm n (fun i => sm m fun j => f i j) = sm m fun j => sm n fun i => f i j := by
  induction n with
  | zero => rw [sm_zero (n := m) (f := fun j => sm 0 fun i => f i j) fun _ _ => rfl]; rfl
  | succ n ih => rw [sm, ih, ← sm_add]; rfl
theorem sm_one {n p : Nat} {f : Nat → Rat} (hp : p < n) (h : ∀ i, i < n → i ≠ p → f i = 0) : sm n f = f p := by
  induction n with
  | zero => omega
  | succ n ih =>
    rw [sm]
    by_cases e : p = n
    · subst e
      rw [sm_zero fun i hi => h i (by omega) (by omega)]; grind
    · rw [ih (by omega) (fun i hi hn => h i (by omega) hn), h n (by omega) (fun z => e z.symm)]; grind
theorem sm_out {n p : Nat} {f : Nat → Rat} (hp : p < n) : sm n f = f p + sm n fun i => if i = p then 0 else f i := by
  have := sm_one (n := n) (p := p) (f := fun i => if i = p then f i else 0) hp (fun i _ h => by simp [h])
  simp only [if_true] at this
  rw [← this, ← sm_add]
  refine sm_congr fun i _ => ?_
  by_cases h : i = p <;> simp [h] <;> grind
theorem sm_nn {n : Nat} {f : Nat → Rat} (h : ∀ i, i < n → 0 ≤ f i) : 0 ≤ sm n f := by
  induction n with
  | zero => exact Rat.le_refl
  | succ n ih => rw [sm]; have := ih fun i hi => h i (by omega); have := h n (by omega); grind
theorem sm_le {n : Nat} {f g : Nat → Rat} (h : ∀ i, i < n → f i ≤ g i) : sm n f ≤ sm n g := by
  induction n with
  | zero => exact Rat.le_refl
  | succ n ih => rw [sm, sm]; have := ih fun i hi => h i (by omega); have := h n (by omega); grind
theorem sm_nn_zero {n : Nat} {f : Nat → Rat} (h : ∀ i, i < n → 0 ≤ f i) (e : sm n f = 0) : ∀ i, i < n → f i = 0 := by
  induction n with
  | zero => intro i hi; omega
  | succ n ih =>
    rw [sm] at e
    have h1 : 0 ≤ sm n f := sm_nn fun i hi => h i (by omega)
    have h2 := h n (by omega)
    intro i hi
    by_cases c : i = n
    · subst c; grind
    · exact ih (fun i hi => h i (by omega)) (by grind) i (by omega)
theorem sm_split {n m : Nat} {f : Nat → Rat} : sm (n + m) f = sm n f + sm m fun i => f (n + i) := by
  induction m with
  | zero => simp [sm]; grind
  | succ m ih => rw [← Nat.add_assoc, sm, sm, ih]; grind
end Lk

namespace Lk
def lp : List Nat → (Nat → Rat) → Prop
  | [], _ => False
  | j :: js, v => 0 < v j ∨ (v j = 0 ∧ lp js v)
theorem lp_congr {K : List Nat} {u v : Nat → Rat} (h : ∀ j ∈ K, u j = v j) (a : lp K u) : lp K v := by
  induction K with
  | nil => exact a
  | cons j K ih =>
    have e := h j (by simp)
    rcases a with a | ⟨a, b⟩
    · exact .inl (by grind)
    · exact .inr ⟨by grind, ih (fun i hi => h i (by simp [hi])) b⟩
theorem lp_add {K : List Nat} {u v : Nat → Rat} (a : lp K u) (b : lp K v) : lp K fun j => u j + v j := by
  induction K with
  | nil => exact a
  | cons j K ih =>
    rcases a with a | ⟨a, a'⟩ <;> rcases b with b | ⟨b, b'⟩
    · exact .inl (by grind)
    · exact .inl (by grind)
    · exact .inl (by grind)
    · exact .inr ⟨by grind, ih a' b'⟩
theorem lp_mul {K : List Nat} {u : Nat → Rat} {c : Rat} (hc : 0 < c) (a : lp K u) : lp K fun j => c * u j := by
  induction K with
  | nil => exact a
  | cons j K ih =>
    rcases a with a | ⟨a, a'⟩
    · exact .inl (Rat.mul_pos hc a)
    · exact .inr ⟨by show c * u j = 0; rw [a]; grind, ih a'⟩
theorem lp_anti {K : List Nat} {u : Nat → Rat} (a : lp K u) : ¬ lp K fun j => - u j := by
  induction K with
  | nil => exact id
  | cons j K ih =>
    rcases a with a | ⟨a, a'⟩
    · rintro (b | ⟨b, _⟩) <;> grind
    · rintro (b | ⟨_, b⟩)
      · grind
      · exact ih a' b
theorem lp_nn {K : List Nat} {u : Nat → Rat} (h : ∀ j ∈ K, 0 ≤ u j) : ¬ lp K fun j => - u j := by
  induction K with
  | nil => exact id
  | cons j K ih =>
    have := h j (by simp)
    rintro (b | ⟨_, b⟩)
    · grind
    · exact ih (fun i hi => h i (by simp [hi])) b

structure Tab (n : Nat) (N T : Nat → Nat → Rat) (b : Nat → Nat) : Prop where
  unit : ∀ i, i < n → ∀ k, k < n → T k (b i) = if k = i then 1 else 0
  left : ∀ i, i < n → ∀ j, T i j = sm n fun k => T i k * N k j
  right : ∀ i, i < n → ∀ j, N i j = sm n fun k => N i (b k) * T k j
def piv (T : Nat → Nat → Rat) (p c : Nat) : Nat → Nat → Rat := fun i j => if i = p then T p j / T p c else T i j - T i c * (T p j / T p c)
def put (b : Nat → Nat) (p c : Nat) : Nat → Nat := fun i => if i = p then c else b i
section
variable {n p c : Nat} {N T T' : Nat → Nat → Rat} {b b' : Nat → Nat}
theorem piv_p {j : Nat} : piv T p c p j = T p j / T p c := by unfold piv; rw [if_pos rfl]
theorem piv_n {i j : Nat} (h : i ≠ p) : piv T p c i j = T i j - T i c * (T p j / T p c) := by unfold piv; rw [if_neg h]
theorem put_p : put b p c p = c := by unfold put; rw [if_pos rfl]
theorem put_n {i : Nat} (h : i ≠ p) : put b p c i = b i := by unfold put; rw [if_neg h]
theorem Tab.start (hb : ∀ i, i < n → ∀ j, j < n → N i j = if i = j then 1 else 0) : Tab n N N id where
  unit i hi k hk := hb k hk i hi
  left i hi j := by
    rw [sm_one hi fun k hk h => by rw [hb i hi k hk, if_neg (fun z => h z.symm)]; grind, hb i hi i hi]
    simp
  right i hi j := by
    simp only [id]
    rw [sm_one hi fun k hk h => by rw [hb i hi k hk, if_neg (fun z => h z.symm)]; grind, hb i hi i hi]
    simp
theorem Tab.inj (h : Tab n N T b) {i k : Nat} (hi : i < n) (hk : k < n) (e : b i = b k) : i = k := by
  have h1 := h.unit i hi k hk
  have h2 := h.unit k hk k hk
  rw [e, h2] at h1
  simp only [if_true] at h1
  by_cases z : k = i
  · exact z.symm
  · rw [if_neg z] at h1
    exact absurd h1 (by decide)
theorem Tab.piv (h : Tab n N T b) (hp : p < n) (hn : T p c ≠ 0) : Tab n N (piv T p c) (put b p c) where
  unit i hi k hk := by
    by_cases e : i = p
    · subst e
      rw [put_p]
      by_cases f : k = i
      · subst f
        rw [piv_p, if_pos rfl]; grind
      · rw [piv_n f, if_neg f]; grind
    · rw [put_n e]
      have h0 := h.unit i hi p hp
      rw [if_neg fun z => e z.symm] at h0
      by_cases f : k = p
      · subst f
        rw [piv_p, h0, if_neg fun z => e z.symm]; grind
      · rw [piv_n f, h0, h.unit i hi k hk]; grind
  left i hi j := by
    by_cases e : i = p
    · subst e
      rw [piv_p, h.left i hi j, Rat.div_def, ← sm_mulr]
      refine sm_congr fun k _ => ?_
      rw [piv_p]; grind
    · rw [piv_n e, h.left i hi j, h.left p hp j, Rat.div_def, ← sm_mulr, ← sm_mul, ← sm_sub]
      refine sm_congr fun k _ => ?_
      rw [piv_n e]; grind
  right i hi j := by
    have h1 := h.right i hi j
    have h2 := h.right i hi c
    rw [sm_out hp] at h1 h2
    rw [sm_out hp, put_p, piv_p]
    have e : (sm n fun k => if k = p then 0 else N i (put b p c k) * Lk.piv T p c k j) = (sm n fun k => if k = p then 0 else N i (b k) * T k j) - (sm n fun k => if k = p then 0 else N i (b k) * T k c) * (T p j / T p c) := by
      rw [← sm_mulr, ← sm_sub]
      refine sm_congr fun k _ => ?_
      by_cases z : k = p
      · simp [z]; grind
      · rw [if_neg z, if_neg z, if_neg z, put_n z, piv_n z]; grind
    rw [e]
    grind
def Sb (n : Nat) (b b' : Nat → Nat) : Prop := ∀ j, (∃ i, i < n ∧ b i = j) ↔ ∃ i, i < n ∧ b' i = j
theorem Sb.symm (h : Sb n b b') : Sb n b' b := fun j => (h j).symm
theorem Sb.refl : Sb n b b := fun _ => Iff.rfl
theorem Tab.same (h : Tab n N T b) (g : Tab n N T' b') (e : Sb n b b') {i i' : Nat} (hi : i < n) (hi' : i' < n) (hb : b i = b' i') (j : Nat) : T i j = T' i' j := by
  have h1 : T' i' j = sm n fun l => (sm n fun k => T' i' k * N k (b l)) * T l j := by
    rw [g.left i' hi' j]
    have : (sm n fun k => T' i' k * N k j) = sm n fun k => sm n fun l => T' i' k * (N k (b l) * T l j) := by
      refine sm_congr fun k hk => ?_
      rw [sm_mul, ← h.right k hk j]
    rw [this, sm_swap]
    refine sm_congr fun l _ => ?_
    rw [← sm_mulr]
    refine sm_congr fun k _ => ?_
    grind
  rw [h1]
  have h2 : ∀ l, l < n → (sm n fun k => T' i' k * N k (b l)) = if l = i then 1 else 0 := fun l hl => by
    rw [← g.left i' hi' (b l)]
    obtain ⟨l', hl', el⟩ := (e (b l)).mp ⟨l, hl, rfl⟩
    rw [← el, g.unit l' hl' i' hi']
    by_cases z : l = i
    · subst z
      rw [if_pos rfl, if_pos (g.inj hi' hl' (hb.symm.trans el.symm))]
    · rw [if_neg z, if_neg]
      intro q
      subst q
      exact z (h.inj hl hi (el.symm.trans hb.symm))
  rw [sm_one hi fun l hl z => by rw [h2 l hl, if_neg z]; grind, h2 i hi, if_pos rfl]
  grind
structure Lv (n : Nat) (K : List Nat) (T : Nat → Nat → Rat) (c p : Nat) : Prop where
  lt : p < n
  pos : 0 < T p c
  min : ∀ k, k < n → k ≠ p → 0 < T k c → lp K fun j => T k j / T k c - T p j / T p c
theorem Lv.uniq {K : List Nat} {q : Nat} (h : Lv n K T c p) (g : Lv n K T c q) : p = q := by
  by_cases e : p = q
  · exact e
  · have h1 := h.min q g.lt (fun z => e z.symm) g.pos
    have h2 := g.min p h.lt e h.pos
    exact absurd (lp_congr (fun j _ => by grind) h2) (lp_anti h1)
theorem Lv.same {K : List Nat} {q : Nat} (h : Tab n N T b) (g : Tab n N T' b') (e : Sb n b b') (l : Lv n K T c p) (hq : q < n) (hb : b p = b' q) : Lv n K T' c q := by
  have eq := h.same g e l.lt hq hb
  refine ⟨hq, by rw [← eq c]; exact l.pos, fun k hk hn hc => ?_⟩
  obtain ⟨k', hk', ek⟩ := (e (b' k)).mpr ⟨k, hk, rfl⟩
  have eqk := h.same g e hk' hk ek
  have hn' : k' ≠ p := by
    rintro rfl
    exact hn (g.inj hk hq (ek.symm.trans hb))
  have := l.min k' hk' hn' (by rw [eqk c]; exact hc)
  refine lp_congr (fun j _ => ?_) this
  rw [eqk j, eqk c, eq j, eq c]
def keys (n : Nat) : List Nat := (2 * n + 1) :: List.range n
theorem Lv.lex (l : Lv n (keys n) T c p) (hl : ∀ i, i < n → lp (keys n) (T i)) : ∀ i, i < n → lp (keys n) (piv T p c i) := by
  intro i hi
  by_cases e : i = p
  · subst e
    refine lp_congr (fun j _ => ?_) (lp_mul (c := (T i c)⁻¹) (Rat.inv_pos.mpr l.pos) (hl i hi))
    rw [piv_p, Rat.div_def]; grind
  · by_cases hc : 0 < T i c
    · refine lp_congr (fun j _ => ?_) (lp_mul hc (l.min i hi e hc))
      rw [piv_n e]; grind
    · by_cases h0 : T i c = 0
      · refine lp_congr (fun j _ => ?_) (hl i hi)
        rw [piv_n e, h0]; grind
      · have hx : 0 < - T i c * (T p c)⁻¹ := Rat.mul_pos (by grind) (Rat.inv_pos.mpr l.pos)
        refine lp_congr (fun j _ => ?_) (lp_add (hl i hi) (lp_mul hx (hl p l.lt)))
        rw [piv_n e, Rat.div_def]; grind
theorem Lv.back (h : Tab n N T b) (l : Lv n (keys n) T c p) (hl : ∀ i, i < n → lp (keys n) (T i)) : Lv n (keys n) (piv T p c) (b p) p := by
  have hu := h.unit p l.lt p l.lt
  rw [if_pos rfl] at hu
  have hpp : piv T p c p (b p) = (T p c)⁻¹ := by rw [piv_p, hu]; grind
  have pos := Rat.inv_pos.mpr l.pos
  refine ⟨l.lt, by rw [hpp]; exact pos, fun k hk hn hc => ?_⟩
  refine lp_congr (fun j _ => ?_) (lp_mul (c := (piv T p c k (b p))⁻¹) (Rat.inv_pos.mpr hc) (hl k hk))
  have hk0 := h.unit p l.lt k hk
  rw [if_neg hn] at hk0
  have e : piv T p c k (b p) = - (T k c * (T p c)⁻¹) := by rw [piv_n hn, hk0, hu]; grind
  rw [hpp, piv_p, e, piv_n hn]
  rw [e] at hc
  have h1 : T k c ≠ 0 := by rintro z; rw [z] at hc; grind
  have h2 := l.pos
  grind
end
end Lk

namespace Lk
def comp (n j : Nat) : Nat := if j < n then j + n else j - n
theorem comp_comp {n j : Nat} (h : j < 2 * n) : comp n (comp n j) = j := by unfold comp; split <;> split <;> omega
theorem comp_lt {n j : Nat} (h : j < 2 * n) : comp n j < 2 * n := by unfold comp; split <;> omega
theorem comp_ne {n j : Nat} (h : j < 2 * n) : comp n j ≠ j := by unfold comp; split <;> omega
structure Ac (n : Nat) (b : Nat → Nat) (c : Nat) : Prop where
  art : ∃ p, p < n ∧ b p = 2 * n
  ran : ∀ i, i < n → b i ≤ 2 * n
  cl : c < 2 * n
  nc : ∀ i, i < n → b i ≠ c
  ncc : ∀ i, i < n → b i ≠ comp n c
  one : ∀ i, i < n → ∀ k, k < n → b i < 2 * n → b k ≠ comp n (b i)
structure Stt where
  T : Nat → Nat → Rat
  b : Nat → Nat
  c : Nat
structure Good (n : Nat) (N : Nat → Nat → Rat) (s : Stt) : Prop where
  tab : Tab n N s.T s.b
  lex : ∀ i, i < n → lp (keys n) (s.T i)
  ac : Ac n s.b s.c
def nxt (n : Nat) (s : Stt) (p : Nat) : Stt := ⟨piv s.T p s.c, put s.b p s.c, comp n (s.b p)⟩
def Nxt (n : Nat) (s s' : Stt) : Prop := ∃ p, Lv n (keys n) s.T s.c p ∧ s.b p ≠ 2 * n ∧ s' = nxt n s p
def Eqv (n : Nat) (s t : Stt) : Prop := Sb n s.b t.b ∧ s.c = t.c
theorem Eqv.symm {n : Nat} {s t : Stt} (h : Eqv n s t) : Eqv n t s := ⟨h.1.symm, h.2.symm⟩
theorem Eqv.trans {n : Nat} {s t u : Stt} (h : Eqv n s t) (g : Eqv n t u) : Eqv n s u := ⟨fun j => (h.1 j).trans (g.1 j), h.2.trans g.2⟩
theorem Eqv.refl {n : Nat} {s : Stt} : Eqv n s s := ⟨Sb.refl, rfl⟩
def rv (n : Nat) (s : Stt) : Stt := ⟨s.T, s.b, comp n s.c⟩
section
variable {n p : Nat} {N : Nat → Nat → Rat} {s s' t t' : Stt} {b : Nat → Nat} {c : Nat}
theorem Ac.put (h : Ac n b c) (inj : ∀ i, i < n → ∀ k, k < n → b i = b k → i = k) (hp : p < n) (ho : b p ≠ 2 * n) : Ac n (put b p c) (comp n (b p)) := by
  have hb : b p < 2 * n := by have := h.ran p hp; omega
  refine ⟨?_, fun i hi => ?_, comp_lt hb, fun i hi z => ?_, fun i hi z => ?_, fun i hi k hk hl z => ?_⟩
  · obtain ⟨q, hq, e⟩ := h.art
    exact ⟨q, hq, by rw [put_n]; exact e; rintro rfl; exact ho e⟩
  · by_cases e : i = p
    · subst e; rw [put_p]; exact Nat.le_of_lt h.cl
    · rw [put_n e]; exact h.ran i hi
  · by_cases e : i = p
    · subst e; rw [put_p] at z
      exact h.ncc i hi (by rw [z, comp_comp hb])
    · rw [put_n e] at z
      exact h.one p hp i hi hb z
  · rw [comp_comp hb] at z
    by_cases e : i = p
    · subst e; rw [put_p] at z
      exact h.nc i hi z.symm
    · rw [put_n e] at z
      exact e (inj i hi p hp z)
  · by_cases e : i = p
    · subst e
      rw [put_p] at z
      by_cases f : k = i
      · subst f; rw [put_p] at z
        exact comp_ne h.cl z.symm
      · rw [put_n f] at z
        exact h.ncc k hk z
    · rw [put_n e] at z hl
      by_cases f : k = p
      · subst f; rw [put_p] at z
        exact h.ncc i hi (by rw [z, comp_comp hl])
      · rw [put_n f] at z
        exact h.one i hi k hk hl z
theorem Good.nx (g : Good n N s) (l : Lv n (keys n) s.T s.c p) (ho : s.b p ≠ 2 * n) : Good n N (nxt n s p) :=
  ⟨g.tab.piv l.lt (by have := l.pos; grind), l.lex g.lex, g.ac.put (fun i hi k hk e => g.tab.inj hi hk e) l.lt ho⟩
theorem Good.step (g : Good n N s) (h : Nxt n s s') : Good n N s' := by
  obtain ⟨p, l, ho, rfl⟩ := h
  exact g.nx l ho
theorem Good.rvv (g : Good n N s) : Good n N (rv n s) :=
  ⟨g.tab, g.lex, g.ac.art, g.ac.ran, comp_lt g.ac.cl, g.ac.ncc, fun i hi => by show s.b i ≠ comp n (comp n s.c); rw [comp_comp g.ac.cl]; exact g.ac.nc i hi, g.ac.one⟩
theorem put_back : put (put b p c) p (b p) = b := by
  funext i
  by_cases e : i = p
  · subst e; rw [put_p]
  · rw [put_n e, put_n e]
theorem Good.blt (g : Good n N s) (hp : p < n) (ho : s.b p ≠ 2 * n) : s.b p < 2 * n := by have := g.ac.ran p hp; omega
theorem Good.back (g : Good n N s) (h : Nxt n s s') : ∃ q, Lv n (keys n) s'.T (comp n s'.c) q ∧ s'.b q = s.c ∧ put s'.b q (comp n s'.c) = s.b ∧ s.b q = comp n s'.c := by
  obtain ⟨p, l, ho, rfl⟩ := h
  have e : comp n (nxt n s p).c = s.b p := comp_comp (g.blt l.lt ho)
  refine ⟨p, ?_, ?_, ?_, e.symm⟩
  · rw [e]; exact l.back g.tab g.lex
  · show put s.b p s.c p = s.c
    exact put_p
  · rw [e]; exact put_back
theorem Good.nxt_rv (g : Good n N s) (h : Nxt n s s') : ∃ t, Nxt n (Lk.rv n s') t ∧ Eqv n t (Lk.rv n s) := by
  obtain ⟨q, l, e1, e2, e3⟩ := g.back h
  refine ⟨_, ⟨q, l, ?_, rfl⟩, ?_, ?_⟩
  · show s'.b q ≠ 2 * n
    rw [e1]
    have := g.ac.cl
    omega
  · show Sb n (put s'.b q (comp n s'.c)) s.b
    rw [e2]; exact Sb.refl
  · show comp n (s'.b q) = comp n s.c
    rw [e1]
theorem put_mem {j : Nat} (inj : ∀ i, i < n → ∀ k, k < n → b i = b k → i = k) (hp : p < n) : (∃ i, i < n ∧ put b p c i = j) ↔ j = c ∨ ((∃ i, i < n ∧ b i = j) ∧ j ≠ b p) := by
  constructor
  · rintro ⟨i, hi, e⟩
    by_cases f : i = p
    · subst f; rw [put_p] at e; exact .inl e.symm
    · rw [put_n f] at e
      refine .inr ⟨⟨i, hi, e⟩, ?_⟩
      rintro rfl
      exact f (inj i hi p hp e)
  · rintro (rfl | ⟨⟨i, hi, e⟩, hn⟩)
    · exact ⟨p, hp, put_p⟩
    · refine ⟨i, hi, ?_⟩
      rw [put_n]
      · exact e
      · rintro rfl
        exact hn e.symm
theorem pred_unique (gs : Good n N s) (gt : Good n N t) (hs : Nxt n s s') (ht : Nxt n t t') (e : Eqv n s' t') : Eqv n s t := by
  have gs' := gs.step hs
  have gt' := gt.step ht
  obtain ⟨p, lp1, p1, p2, _⟩ := gs.back hs
  obtain ⟨q, lq1, q1, q2, _⟩ := gt.back ht
  obtain ⟨p', hp', ep⟩ := (e.1 (s'.b p)).mp ⟨p, lp1.lt, rfl⟩
  have l2 := lp1.same gs'.tab gt'.tab e.1 hp' ep.symm
  rw [e.2] at l2
  have epq := l2.uniq lq1
  subst epq
  have ec : s.c = t.c := by rw [← p1, ← q1, ep]
  refine ⟨fun j => ?_, ec⟩
  rw [← p2, ← q2, put_mem (fun i hi k hk h => gs'.tab.inj hi hk h) lp1.lt, put_mem (fun i hi k hk h => gt'.tab.inj hi hk h) lq1.lt, e.2, p1, q1, ec]
  exact or_congr Iff.rfl (and_congr (e.1 j) Iff.rfl)
end
structure Ini (n : Nat) (N : Nat → Nat → Rat) : Prop where
  un : ∀ i, i < n → ∀ j, j < n → N i j = if i = j then 1 else 0
  ar : ∀ i, i < n → N i (2 * n) = -1
structure First (n : Nat) (N : Nat → Nat → Rat) (r : Nat) : Prop where
  lt : r < n
  neg : N r (2 * n + 1) < 0
  least : ∀ k, k < n → k ≠ r → lp (keys n) fun j => N k j - N r j
def start (n : Nat) (N : Nat → Nat → Rat) (r : Nat) : Stt := ⟨piv N r (2 * n), put id r (2 * n), r + n⟩
section
variable {n r : Nat} {N : Nat → Nat → Rat} {s s' : Stt}
theorem Ini.tab1 (I : Ini n N) (hr : r < n) : Tab n N (piv N r (2 * n)) (put id r (2 * n)) := (Tab.start I.un).piv hr (by rw [I.ar r hr]; decide)
theorem Ini.row_r (I : Ini n N) (hr : r < n) {j : Nat} : piv N r (2 * n) r j = - N r j := by rw [piv_p, I.ar r hr]; grind
theorem Ini.row_n (I : Ini n N) (hr : r < n) {i j : Nat} (hi : i < n) (h : i ≠ r) : piv N r (2 * n) i j = N i j - N r j := by rw [piv_n h, I.ar r hr, I.ar i hi]; grind
theorem First.start (I : Ini n N) (F : First n N r) : Good n N (start n N r) := by
  refine ⟨I.tab1 F.lt, fun i hi => ?_, ⟨r, F.lt, put_p⟩, fun i hi => ?_, ?_, fun i hi z => ?_, fun i hi z => ?_, fun i hi k hk hl z => ?_⟩
  · by_cases e : i = r
    · subst e
      refine lp_congr (u := fun j => - N i j) (fun j _ => (I.row_r hi).symm) (.inl ?_)
      have := F.neg
      grind
    · exact lp_congr (fun j _ => (I.row_n F.lt hi e).symm) (F.least i hi e)
  · show put id r (2 * n) i ≤ 2 * n
    by_cases e : i = r
    · subst e; rw [put_p]; omega
    · rw [put_n e]; show i ≤ 2 * n; omega
  · show r + n < 2 * n
    have := F.lt
    omega
  · have hr := F.lt
    change put id r (2 * n) i = r + n at z
    by_cases e : i = r
    · subst e; rw [put_p] at z; omega
    · rw [put_n e] at z; change i = r + n at z; omega
  · have hr := F.lt
    change put id r (2 * n) i = comp n (r + n) at z
    have ec : comp n (r + n) = r := by unfold comp; split <;> omega
    rw [ec] at z
    by_cases e : i = r
    · subst e; rw [put_p] at z; omega
    · rw [put_n e] at z; exact e z
  · have hr := F.lt
    change put id r (2 * n) k = comp n (put id r (2 * n) i) at z
    change put id r (2 * n) i < 2 * n at hl
    by_cases e : i = r
    · subst e; rw [put_p] at hl; omega
    · rw [put_n e] at z hl
      change put id r (2 * n) k = comp n i at z
      have ec : comp n i = i + n := by unfold comp; split <;> omega
      rw [ec] at z
      by_cases f : k = r
      · subst f; rw [put_p] at z; omega
      · rw [put_n f] at z; change k = i + n at z; omega
structure Path (n : Nat) (N : Nat → Nat → Rat) (r : Nat) (σ : Nat → Stt) (K : Nat) : Prop where
  s0 : σ 0 = start n N r
  st : ∀ i, i < K → Nxt n (σ i) (σ (i + 1))
variable {σ : Nat → Stt} {K : Nat}
theorem Path.good (P : Path n N r σ K) (I : Ini n N) (F : First n N r) : ∀ i, i ≤ K → Good n N (σ i)
  | 0, _ => by rw [P.s0]; exact F.start I
  | i + 1, h => (P.good I F i (by omega)).step (P.st i (by omega))
theorem pigeon {A : Type} [DecidableEq A] : ∀ (m : Nat) (L : List A) (f : Nat → A), (∀ i, i < m → f i ∈ L) → (∀ i j, i < j → j < m → f i ≠ f j) → m ≤ L.length
  | 0, _, _, _, _ => Nat.zero_le _
  | m + 1, L, f, h, inj => by
    have := pigeon m (L.erase (f m)) f (fun i hi => (List.mem_erase_of_ne (inj i m hi (by omega))).mpr (h i (by omega))) fun i j hi hj => inj i j hi (by omega)
    rw [List.length_erase_of_mem (h m (by omega))] at this
    have := List.length_pos_of_mem (h m (by omega))
    omega
def code (n : Nat) (s : Stt) : List Bool := (List.range (2 * n + 1)).map (fun j => (List.range n).any fun i => s.b i == j) ++ (List.range (2 * n + 1)).map fun j => s.c == j
theorem Path.no_turn (P : Path n N r σ K) (I : Ini n N) (F : First n N r) : ¬ Eqv n (σ K) (rv n (start n N r)) := fun e0 => by
  have key : ∀ j, j ≤ K → Eqv n (σ (K - j)) (rv n (σ j)) := by
    intro j
    induction j with
    | zero => intro _; rw [P.s0]; exact e0
    | succ j ih =>
      intro hj
      have h := ih (by omega)
      have g := P.good I F j (by omega)
      have st := P.st j (by omega)
      obtain ⟨t, n1, n2⟩ := g.nxt_rv st
      have st2 := P.st (K - (j + 1)) (by omega)
      have e : K - (j + 1) + 1 = K - j := by omega
      rw [e] at st2
      exact pred_unique (P.good I F _ (by omega)) (g.step st).rvv st2 n1 (h.trans n2.symm)
  rcases Nat.mod_two_eq_zero_or_one K with z | z
  · have h := key (K / 2) (by omega)
    have e : K - K / 2 = K / 2 := by omega
    rw [e] at h
    exact comp_ne (P.good I F (K / 2) (by omega)).ac.cl h.2.symm
  · have h := key (K / 2) (by omega)
    have e : K - K / 2 = K / 2 + 1 := by omega
    rw [e] at h
    have g := P.good I F (K / 2) (by omega)
    obtain ⟨p, l, _, e2⟩ := P.st (K / 2) (by omega)
    have : (σ (K / 2 + 1)).b p = (σ (K / 2)).c := by rw [e2]; exact put_p
    obtain ⟨i, hi, ei⟩ := (h.1 (σ (K / 2)).c).mp ⟨p, l.lt, this⟩
    exact g.ac.nc i hi ei
end
end Lk

namespace Lk
def mv (n : Nat) (M : Nat → Nat → Rat) (y : Nat → Rat) (i : Nat) : Rat := sm n fun j => M i j * y j
def dot (n : Nat) (x y : Nat → Rat) : Rat := sm n fun i => x i * y i
def Psd (n : Nat) (M : Nat → Nat → Rat) : Prop := ∀ y : Nat → Rat, 0 ≤ dot n y (mv n M y)
section
variable {n : Nat} {M : Nat → Nat → Rat} {x y z d : Nat → Rat} {t : Rat}
theorem mv_add {i : Nat} : mv n M (fun j => x j + t * y j) i = mv n M x i + t * mv n M y i := by
  unfold mv
  rw [← sm_mul, ← sm_add]
  exact sm_congr fun j _ => by grind
theorem dot_addr : dot n z (fun i => x i + t * y i) = dot n z x + t * dot n z y := by
  unfold dot
  rw [← sm_mul, ← sm_add]
  exact sm_congr fun j _ => by grind
theorem dot_addl : dot n (fun i => x i + t * y i) z = dot n x z + t * dot n y z := by
  unfold dot
  rw [← sm_mul, ← sm_add]
  exact sm_congr fun j _ => by grind
theorem dot_congr {x' y' : Nat → Rat} (h1 : ∀ i, i < n → x i = x' i) (h2 : ∀ i, i < n → y i = y' i) : dot n x y = dot n x' y' := sm_congr fun j hj => by rw [h1 j hj, h2 j hj]
theorem dot_zero (h : ∀ i, i < n → x i * y i = 0) : dot n x y = 0 := sm_zero h
theorem dot_nn (h : ∀ i, i < n → 0 ≤ x i) (g : ∀ i, i < n → 0 ≤ y i) : 0 ≤ dot n x y := sm_nn fun i hi => Rat.mul_nonneg (h i hi) (g i hi)
theorem Psd.null (P : Psd n M) (h : dot n d (mv n M d) = 0) : dot n d (mv n M y) + dot n y (mv n M d) = 0 := by
  have key : ∀ t : Rat, 0 ≤ t * (dot n d (mv n M y) + dot n y (mv n M d)) + t * t * dot n y (mv n M y) := fun t => by
    have e := P fun j => d j + t * y j
    have e2 : dot n (fun j => d j + t * y j) (mv n M fun j => d j + t * y j) = dot n (fun j => d j + t * y j) fun i => mv n M d i + t * mv n M y i := dot_congr (fun _ _ => rfl) fun i _ => mv_add
    rw [e2, dot_addr, dot_addl, dot_addl, h] at e
    grind
  have hq := P y
  generalize dot n d (mv n M y) + dot n y (mv n M d) = l at key ⊢
  generalize dot n y (mv n M y) = q at key hq
  by_cases z : l = 0
  · exact z
  · exfalso
    have h1 : 0 < q + 1 := by grind
    have k := key (-(l / (q + 1)))
    have e : -(l / (q + 1)) * l + -(l / (q + 1)) * -(l / (q + 1)) * q = -(l / (q + 1)) * (l / (q + 1)) := by grind
    rw [e] at k
    have h2 : l / (q + 1) ≠ 0 := by rw [Rat.div_def]; have := Rat.inv_pos.mpr h1; grind
    generalize l / (q + 1) = m at k h2
    by_cases s : 0 < m
    · have := Rat.mul_pos s s; grind
    · have := Rat.mul_pos (a := -m) (b := -m) (by grind) (by grind); grind
end
def xcol (n : Nat) (T : Nat → Nat → Rat) (b : Nat → Nat) (κ j : Nat) : Rat := sm n fun k => if b k = j then T k κ else 0
def dcol (n : Nat) (T : Nat → Nat → Rat) (b : Nat → Nat) (c j : Nat) : Rat := (if j = c then 1 else 0) - xcol n T b c j
def matOf (n : Nat) (N : Nat → Nat → Rat) (i j : Nat) : Rat := - N i (n + j)
section
variable {n : Nat} {N T : Nat → Nat → Rat} {b : Nat → Nat} {c κ : Nat}
theorem xcol_b (h : Tab n N T b) {k : Nat} (hk : k < n) : xcol n T b κ (b k) = T k κ := by
  unfold xcol
  rw [sm_one hk fun i hi e => if_neg fun z => e (h.inj hi hk z), if_pos rfl]
theorem xcol_out {j : Nat} (h : ∀ k, k < n → b k ≠ j) : xcol n T b κ j = 0 := sm_zero fun k hk => if_neg (h k hk)
theorem xcol_sum (h : Tab n N T b) (hr : ∀ i, i < n → b i ≤ 2 * n) {i : Nat} (hi : i < n) : (sm (2 * n + 1) fun j => N i j * xcol n T b κ j) = N i κ := by
  rw [h.right i hi κ]
  unfold xcol
  have : (sm (2 * n + 1) fun j => N i j * sm n fun k => if b k = j then T k κ else 0) = sm (2 * n + 1) fun j => sm n fun k => N i j * if b k = j then T k κ else 0 := sm_congr fun j _ => by rw [sm_mul]
  rw [this, sm_swap]
  refine sm_congr fun k hk => ?_
  rw [sm_one (p := b k) (by have := hr k hk; omega) fun j _ e => by rw [if_neg fun z => e z.symm]; grind, if_pos rfl]
theorem dcol_sum (h : Tab n N T b) (hr : ∀ i, i < n → b i ≤ 2 * n) (hc : c ≤ 2 * n) {i : Nat} (hi : i < n) : (sm (2 * n + 1) fun j => N i j * dcol n T b c j) = 0 := by
  unfold dcol
  have : (sm (2 * n + 1) fun j => N i j * ((if j = c then 1 else 0) - xcol n T b c j)) = (sm (2 * n + 1) fun j => N i j * if j = c then 1 else 0) - sm (2 * n + 1) fun j => N i j * xcol n T b c j := by
    rw [← sm_sub]
    exact sm_congr fun j _ => by grind
  rw [this, xcol_sum h hr hi, sm_one (p := c) (by omega) fun j _ e => by rw [if_neg e]; grind, if_pos rfl]
  grind
theorem Ini.eqn (I : Ini n N) {X : Nat → Rat} {i : Nat} {q : Rat} (hi : i < n) (h : (sm (2 * n + 1) fun j => N i j * X j) = q) : X i = mv n (matOf n N) (fun j => X (n + j)) i + X (2 * n) + q := by
  have e1 : 2 * n + 1 = n + n + 1 := by omega
  rw [e1, sm, sm_split] at h
  have h1 : (sm n fun j => N i j * X j) = X i := by
    rw [sm_one hi fun j hj e => by rw [I.un i hi j hj, if_neg fun z => e z.symm]; grind, I.un i hi i hi, if_pos rfl]
    grind
  have h2 : (sm n fun j => N i (n + j) * X (n + j)) = - mv n (matOf n N) (fun j => X (n + j)) i := by
    unfold mv matOf
    rw [← sm_neg]
    exact sm_congr fun j _ => by grind
  have e2 : n + n = 2 * n := by omega
  rw [h1, h2, e2, I.ar i hi] at h
  grind
end
section
variable {n r : Nat} {N : Nat → Nat → Rat} {s : Stt}
theorem no_ray (I : Ini n N) (F : First n N r) (P : Psd n (matOf n N)) (Y : ∃ y : Nat → Rat, (∀ i, i < n → 0 ≤ y i) ∧ ∀ i, i < n → 0 ≤ mv n (matOf n N) y i + N i (2 * n + 1))
    (g : Good n N s) (hn : ¬ Eqv n s (rv n (start n N r))) (h0 : ∀ k, k < n → ¬ 0 < s.T k s.c) : False := by
  obtain ⟨⟨T, b, c⟩, rfl⟩ : ∃ q : Stt, s = q := ⟨s, rfl⟩
  have tab : Tab n N T b := g.tab
  have ac : Ac n b c := g.ac
  have hcl := ac.cl
  simp only at h0
  -- the direction
  have dnn : ∀ j, 0 ≤ dcol n T b c j := fun j => by
    have : 0 ≤ sm n fun k => if b k = j then - T k c else 0 := sm_nn fun k hk => by
      have := h0 k hk
      split <;> grind
    have e : (sm n fun k => if b k = j then - T k c else 0) = - xcol n T b c j := by
      unfold xcol
      rw [← sm_neg]
      exact sm_congr fun k _ => by split <;> grind
    rw [e] at this
    unfold dcol
    split <;> grind
  have dsup : ∀ j, dcol n T b c j ≠ 0 → (∃ k, k < n ∧ b k = j) ∨ j = c := fun j h => by
    refine Classical.byContradiction fun z => h ?_
    have z1 : j ≠ c := fun e => z (.inr e)
    unfold dcol
    rw [if_neg z1, xcol_out fun k hk e => z (.inl ⟨k, hk, e⟩)]
    grind
  have xsup : ∀ κ j, xcol n T b κ j ≠ 0 → ∃ k, k < n ∧ b k = j := fun κ j h => Classical.byContradiction fun z => h (xcol_out fun k hk e => z ⟨k, hk, e⟩)
  have dc : dcol n T b c c = 1 := by
    unfold dcol
    rw [if_pos rfl, xcol_out ac.nc]; grind
  have both : ∀ i, i < n → ((∃ k, k < n ∧ b k = i) ∨ i = c) → ((∃ k, k < n ∧ b k = n + i) ∨ n + i = c) → False := by
    have ec : ∀ i, i < n → comp n i = n + i := fun i hi => by unfold comp; split <;> omega
    have ec2 : ∀ i, i < n → comp n (n + i) = i := fun i hi => by unfold comp; split <;> omega
    rintro i hi (⟨k, hk, e⟩ | e) (⟨k', hk', e'⟩ | e')
    · exact ac.one k hk k' hk' (by omega) (by rw [e, ec i hi]; exact e')
    · exact ac.ncc k hk (by rw [← e', ec2 i hi]; exact e)
    · exact ac.ncc k' hk' (by rw [← e, ec i hi]; exact e')
    · omega
  have E1 : ∀ i, i < n → dcol n T b c i = mv n (matOf n N) (fun j => dcol n T b c (n + j)) i + dcol n T b c (2 * n) := fun i hi => by
    have := I.eqn hi (dcol_sum tab ac.ran (Nat.le_of_lt hcl) hi)
    grind
  have E2 : ∀ κ i, i < n → xcol n T b κ i = mv n (matOf n N) (fun j => xcol n T b κ (n + j)) i + xcol n T b κ (2 * n) + N i κ := fun κ i hi => I.eqn hi (xcol_sum tab ac.ran hi)
  have c1 : dot n (fun j => dcol n T b c (n + j)) (fun i => dcol n T b c i) = 0 := dot_zero fun i hi => Classical.byContradiction fun z => both i hi (dsup i fun q => z (by rw [q]; grind)) (dsup (n + i) fun q => z (by simp only [q]; grind))
  have c2 : ∀ κ, dot n (fun j => dcol n T b c (n + j)) (fun i => xcol n T b κ i) = 0 := fun κ => dot_zero fun i hi => Classical.byContradiction fun z => both i hi (.inl (xsup κ i fun q => z (by rw [q]; grind))) (dsup (n + i) fun q => z (by simp only [q]; grind))
  have c3 : ∀ κ, dot n (fun j => xcol n T b κ (n + j)) (fun i => dcol n T b c i) = 0 := fun κ => dot_zero fun i hi => Classical.byContradiction fun z => both i hi (dsup i fun q => z (by rw [q]; grind)) (.inl (xsup κ (n + i) fun q => z (by simp only [q]; grind)))
  have dotc : ∀ (x : Nat → Rat) (a : Rat), (dot n x fun _ => a) = a * sm n x := fun x a => by
    unfold dot; rw [sm_mulr]; grind
  have F1 : dot n (fun j => dcol n T b c (n + j)) (mv n (matOf n N) fun j => dcol n T b c (n + j)) + dcol n T b c (2 * n) * (sm n fun j => dcol n T b c (n + j)) = 0 := by
    rw [← c1, ← dotc]
    unfold dot
    rw [← sm_add]
    refine sm_congr fun i hi => ?_
    show _ = dcol n T b c (n + i) * dcol n T b c i
    rw [E1 i hi]; grind
  have p1 := P fun j => dcol n T b c (n + j)
  have p2 : 0 ≤ sm n fun j => dcol n T b c (n + j) := sm_nn fun j _ => dnn (n + j)
  have p3 := Rat.mul_nonneg (dnn (2 * n)) p2
  have G1 : dot n (fun j => dcol n T b c (n + j)) (mv n (matOf n N) fun j => dcol n T b c (n + j)) = 0 := by grind
  have G2 : dcol n T b c (2 * n) * (sm n fun j => dcol n T b c (n + j)) = 0 := by grind
  by_cases hS : (sm n fun j => dcol n T b c (n + j)) = 0
  · -- nothing but w and a: the first basis
    have z0 := sm_nn_zero (fun j _ => dnn (n + j)) hS
    have ew : ∀ i, i < n → dcol n T b c i = dcol n T b c (2 * n) := fun i hi => by
      rw [E1 i hi]
      have : mv n (matOf n N) (fun j => dcol n T b c (n + j)) i = 0 := sm_zero fun j hj => by simp only [z0 j hj]; grind
      rw [this]; grind
    have hcn : c < n := by
      by_cases q : c < n
      · exact q
      · have := z0 (c - n) (by omega)
        have e : n + (c - n) = c := by omega
        rw [e, dc] at this
        exact absurd this (by decide)
    have ha : dcol n T b c (2 * n) = 1 := by rw [← ew c hcn, dc]
    have hin : ∀ i, i < n → (∃ k, k < n ∧ b k = i) ∨ i = c := fun i hi => dsup i (by rw [ew i hi, ha]; decide)
    have sb : Sb n b (put id c (2 * n)) := fun j => by
      rw [put_mem (b := id) (fun i _ k _ e => e) hcn]
      constructor
      · rintro ⟨k, hk, rfl⟩
        by_cases q : b k = 2 * n
        · exact .inl q
        · have hr := ac.ran k hk
          by_cases q2 : b k < n
          · exact .inr ⟨⟨b k, q2, rfl⟩, ac.nc k hk⟩
          · exfalso
            refine both (b k - n) (by omega) (hin _ (by omega)) (.inl ⟨k, hk, by omega⟩)
      · rintro (rfl | ⟨⟨i, hi, rfl⟩, hne⟩)
        · exact ac.art
        · rcases hin i hi with q | q
          · exact q
          · exact absurd q hne
    have hcr : c = r := Classical.byContradiction fun q => by
      have hl := F.least c hcn q
      obtain ⟨k, hk, ek⟩ := (hin r F.lt).resolve_right fun e => q e.symm
      have hb : b k = put id c (2 * n) r := by rw [put_n fun e => q e.symm]; exact ek
      have hx : lp (keys n) (T k) := g.lex k hk
      refine lp_anti hl (lp_congr (fun j _ => ?_) hx)
      rw [tab.same (I.tab1 hcn) sb hk F.lt hb j, I.row_n hcn F.lt fun e => q e.symm]
      grind
    refine hn ⟨?_, ?_⟩
    · subst hcr; exact sb
    · show c = comp n (r + n)
      rw [hcr]
      unfold comp; split <;> omega
  · have hda : dcol n T b c (2 * n) = 0 := by grind
    have ew : ∀ i, i < n → dcol n T b c i = mv n (matOf n N) (fun j => dcol n T b c (n + j)) i := fun i hi => by rw [E1 i hi, hda]; grind
    have K1 : ∀ κ, dot n (fun j => dcol n T b c (n + j)) (mv n (matOf n N) fun j => xcol n T b κ (n + j)) = 0 := fun κ => by
      have h1 := P.null (y := fun j => xcol n T b κ (n + j)) G1
      have h2 : dot n (fun j => xcol n T b κ (n + j)) (mv n (matOf n N) fun j => dcol n T b c (n + j)) = 0 := by
        rw [← c3 κ]
        exact dot_congr (fun _ _ => rfl) fun i hi => (ew i hi).symm
      rw [h2] at h1
      grind
    have K2 : ∀ κ, dot n (fun j => dcol n T b c (n + j)) (fun i => N i κ) = - ((sm n fun j => dcol n T b c (n + j)) * xcol n T b κ (2 * n)) := fun κ => by
      have h1 := c2 κ
      have h2 : dot n (fun j => dcol n T b c (n + j)) (fun i => xcol n T b κ i) = dot n (fun j => dcol n T b c (n + j)) (mv n (matOf n N) fun j => xcol n T b κ (n + j)) + dot n (fun j => dcol n T b c (n + j)) (fun _ => xcol n T b κ (2 * n)) + dot n (fun j => dcol n T b c (n + j)) (fun i => N i κ) := by
        unfold dot
        rw [← sm_add, ← sm_add]
        refine sm_congr fun i hi => ?_
        show dcol n T b c (n + i) * xcol n T b κ i = _
        rw [E2 κ i hi]; grind
      rw [h2, K1, dotc] at h1
      grind
    obtain ⟨p, hp, ep⟩ := ac.art
    have hx : lp (keys n) (T p) := g.lex p hp
    have hSp : 0 < sm n fun j => dcol n T b c (n + j) := by grind
    obtain ⟨y, y1, y2⟩ := Y
    refine lp_nn (K := keys n) (u := fun κ => dot n (fun j => dcol n T b c (n + j)) (fun i => N i κ)) (fun κ hκ => ?_) (lp_congr (fun κ _ => ?_) (lp_mul hSp hx))
    · unfold keys at hκ
      rcases List.mem_cons.mp hκ with rfl | hκ
      · have h1 := dot_nn (fun j _ => dnn (n + j)) y2
        have h2 : dot n (fun j => dcol n T b c (n + j)) (fun i => mv n (matOf n N) y i + N i (2 * n + 1)) = dot n (fun j => dcol n T b c (n + j)) (mv n (matOf n N) y) + dot n (fun j => dcol n T b c (n + j)) (fun i => N i (2 * n + 1)) := by
          unfold dot
          rw [← sm_add]
          exact sm_congr fun i _ => by grind
        have h3 := P.null (y := y) G1
        have h4 : 0 ≤ dot n y (mv n (matOf n N) fun j => dcol n T b c (n + j)) := dot_nn y1 fun i hi => by rw [← ew i hi]; exact dnn i
        rw [h2] at h1
        grind
      · have hκ' : κ < n := by simpa using hκ
        have : dot n (fun j => dcol n T b c (n + j)) (fun i => N i κ) = dcol n T b c (n + κ) := by
          unfold dot
          rw [sm_one hκ' fun i hi e => by simp only [I.un i hi κ hκ', if_neg e]; grind]
          simp only [I.un κ hκ' κ hκ', if_true]
          grind
        rw [this]
        exact dnn _
    · rw [K2, ← ep, xcol_b tab hp]; grind
theorem Path.go {σ : Nat → Stt} {K : Nat} (W : Path n N r σ K) (I : Ini n N) (F : First n N r) (P : Psd n (matOf n N)) (Y : ∃ y : Nat → Rat, (∀ i, i < n → 0 ≤ y i) ∧ ∀ i, i < n → 0 ≤ mv n (matOf n N) y i + N i (2 * n + 1)) : ∃ k, k < n ∧ 0 < (σ K).T k (σ K).c :=
  Classical.byContradiction fun z => no_ray I F P Y (W.good I F K (Nat.le_refl K)) (W.no_turn I F) fun k hk h => z ⟨k, hk, h⟩
end
end Lk

namespace Lk
def skip (j k : Nat) : Nat := if k < j then k else k + 1
def sg (j : Nat) : Rat := if j % 2 = 0 then 1 else -1
def det : Nat → (Nat → Nat → Rat) → Rat
  | 0, _ => 1
  | n + 1, A => sm (n + 1) fun j => sg j * A 0 j * det n fun i k => A (i + 1) (skip j k)
theorem skip_lt {n j k : Nat} (h : k < n) : skip j k < n + 1 := by unfold skip; split <;> omega
theorem skip_ne {j k : Nat} : skip j k ≠ j := by unfold skip; split <;> omega
theorem det_congr : ∀ {n : Nat} {A B : Nat → Nat → Rat}, (∀ i j, i < n → j < n → A i j = B i j) → det n A = det n B
  | 0, _, _, _ => rfl
  | n + 1, A, B, h => by
    rw [det, det]
    refine sm_congr fun j hj => ?_
    rw [h 0 j (by omega) hj, det_congr (n := n) (A := fun i k => A (i + 1) (skip j k)) (B := fun i k => B (i + 1) (skip j k)) fun i k hi hk => h (i + 1) (skip j k) (by omega) (skip_lt hk)]
theorem det_lin : ∀ {n p : Nat} {A B C : Nat → Nat → Rat} {x y : Rat}, p < n → (∀ i j, j ≠ p → A i j = B i j) → (∀ i j, j ≠ p → A i j = C i j) → (∀ i, A i p = x * B i p + y * C i p) → det n A = x * det n B + y * det n C
  | 0, _, _, _, _, _, _, h, _, _, _ => by omega
  | n + 1, p, A, B, C, x, y, hp, hB, hC, hl => by
    rw [det, det, det, ← sm_mul, ← sm_mul, ← sm_add]
    refine sm_congr fun j hj => ?_
    by_cases e : j = p
    · subst e
      have e1 : det n (fun i k => A (i + 1) (skip j k)) = det n fun i k => B (i + 1) (skip j k) := det_congr fun i k _ _ => hB _ _ skip_ne
      have e2 : det n (fun i k => A (i + 1) (skip j k)) = det n fun i k => C (i + 1) (skip j k) := det_congr fun i k _ _ => hC _ _ skip_ne
      rw [← e1, ← e2, hl 0]; grind
    · have hn : 0 < n := by omega
      rw [det_lin (p := if p < j then p else p - 1) (n := n) (A := fun i k => A (i + 1) (skip j k)) (B := fun i k => B (i + 1) (skip j k)) (C := fun i k => C (i + 1) (skip j k)) (x := x) (y := y) (by split <;> omega)
        (fun i k hk => hB _ _ fun z => hk (by unfold skip at z; split at z <;> split <;> omega)) (fun i k hk => hC _ _ fun z => hk (by unfold skip at z; split at z <;> split <;> omega))
        (fun i => by
          have : skip j (if p < j then p else p - 1) = p := by
            unfold skip
            repeat' split
            all_goals omega
          simp only [this]
          exact hl _), hB 0 j e, ← hC 0 j e, hB 0 j e]
      grind
theorem sg_succ {j : Nat} : sg (j + 1) = - sg j := by
  unfold sg
  rcases Nat.mod_two_eq_zero_or_one j with h | h
  · have : (j + 1) % 2 = 1 := by omega
    rw [h, this]; simp
  · have : (j + 1) % 2 = 0 := by omega
    rw [h, this]; simp
theorem det_adj : ∀ {n p : Nat} {A : Nat → Nat → Rat}, p + 1 < n → (∀ i, A i p = A i (p + 1)) → det n A = 0
  | 0, _, _, h, _ => by omega
  | n + 1, p, A, hp, h => by
    rw [det, sm_out (p := p) (by omega), sm_out (p := p + 1) hp]
    rw [if_neg (by omega)]
    have e1 : (fun i k => A (i + 1) (skip p k)) = fun i k => A (i + 1) (skip (p + 1) k) := by
      funext i k
      by_cases e : k = p
      · subst e
        have : skip k k = k + 1 := by unfold skip; split <;> omega
        have : skip (k + 1) k = k := by unfold skip; split <;> omega
        simp only [*]
      · have : skip p k = skip (p + 1) k := by unfold skip; split <;> split <;> omega
        rw [this]
    have e2 : (sm (n + 1) fun i => if i = p + 1 then 0 else if i = p then 0 else sg i * A 0 i * det n fun i' k => A (i' + 1) (skip i k)) = 0 := by
      refine sm_zero fun j hj => ?_
      by_cases c1 : j = p + 1
      · rw [if_pos c1]
      · rw [if_neg c1]
        by_cases c2 : j = p
        · rw [if_pos c2]
        · rw [if_neg c2, det_adj (n := n) (p := if p < j then p else p - 1) (A := fun i k => A (i + 1) (skip j k)) (by split <;> omega) fun i => ?_]
          · grind
          · have q1 : skip j (if p < j then p else p - 1) = p := by
              unfold skip
              repeat' split
              all_goals omega
            have q2 : skip j ((if p < j then p else p - 1) + 1) = p + 1 := by
              unfold skip
              repeat' split
              all_goals omega
            simp only [q1, q2]
            exact h _
    rw [e2, e1, sg_succ, h 0]
    grind
def colp (A : Nat → Nat → Rat) (p : Nat) (v : Nat → Rat) : Nat → Nat → Rat := fun i j => if j = p then v i else A i j
theorem colp_p {A : Nat → Nat → Rat} {p i : Nat} {v : Nat → Rat} : colp A p v i p = v i := by unfold colp; rw [if_pos rfl]
theorem colp_n {A : Nat → Nat → Rat} {p i j : Nat} {v : Nat → Rat} (h : j ≠ p) : colp A p v i j = A i j := by unfold colp; rw [if_neg h]
theorem det_swap {n p : Nat} {A : Nat → Nat → Rat} (hp : p + 1 < n) : det n (colp (colp A p fun i => A i (p + 1)) (p + 1) fun i => A i p) = - det n A := by
  -- both columns the sum
  have ne : p ≠ p + 1 := by omega
  have X := det_adj (A := colp (colp A p fun i => A i p + A i (p + 1)) (p + 1) fun i => A i p + A i (p + 1)) hp fun i => by rw [colp_n ne, colp_p, colp_p]
  have l1 := det_lin (n := n) (p := p) (x := 1) (y := 1) (A := colp (colp A p fun i => A i p + A i (p + 1)) (p + 1) fun i => A i p + A i (p + 1)) (B := colp A (p + 1) fun i => A i p + A i (p + 1)) (C := colp (colp A p fun i => A i (p + 1)) (p + 1) fun i => A i p + A i (p + 1)) (by omega)
    (fun i j hj => by unfold colp; simp [hj]) (fun i j hj => by unfold colp; simp [hj]) (fun i => by unfold colp; simp <;> grind)
  have l2 := det_lin (n := n) (p := p + 1) (x := 1) (y := 1) (A := colp A (p + 1) fun i => A i p + A i (p + 1)) (B := colp A (p + 1) fun i => A i p) (C := A) hp
    (fun i j hj => by unfold colp; simp [hj]) (fun i j hj => by unfold colp; simp [hj]) (fun i => by unfold colp; simp <;> grind)
  have l3 := det_lin (n := n) (p := p + 1) (x := 1) (y := 1) (A := colp (colp A p fun i => A i (p + 1)) (p + 1) fun i => A i p + A i (p + 1)) (B := colp (colp A p fun i => A i (p + 1)) (p + 1) fun i => A i p) (C := colp A p fun i => A i (p + 1)) hp
    (fun i j hj => by unfold colp; simp [hj]) (fun i j hj => by unfold colp; simp [hj]) (fun i => by unfold colp; simp <;> grind)
  have z1 := det_adj (A := colp A (p + 1) fun i => A i p) hp fun i => by rw [colp_n ne, colp_p]
  have z2 := det_adj (A := colp A p fun i => A i (p + 1)) hp fun i => by rw [colp_p, colp_n ne.symm]
  grind
theorem det_eqc {n p : Nat} : ∀ (m : Nat) {A : Nat → Nat → Rat}, p + 1 + m < n → (∀ i, A i p = A i (p + 1 + m)) → det n A = 0
  | 0, A, hn, h => det_adj hn h
  | m + 1, A, hn, h => by
    have hs := det_swap (n := n) (p := p + 1 + m) (A := A) (by omega)
    have := det_eqc (n := n) (p := p) m (A := colp (colp A (p + 1 + m) fun i => A i (p + 1 + m + 1)) (p + 1 + m + 1) fun i => A i (p + 1 + m)) (by omega) fun i => by
      rw [colp_n (show p ≠ p + 1 + m + 1 by omega), colp_n (show p ≠ p + 1 + m by omega), colp_n (show p + 1 + m ≠ p + 1 + m + 1 by omega), colp_p]
      exact h i
    rw [this] at hs
    grind
theorem det_alt {n p q : Nat} {A : Nat → Nat → Rat} (hp : p < n) (hq : q < n) (hn : p ≠ q) (h : ∀ i, A i p = A i q) : det n A = 0 := by
  rcases Nat.lt_or_gt_of_ne hn with c | c
  · refine det_eqc (p := p) (q - p - 1) (by omega) fun i => ?_
    have e : p + 1 + (q - p - 1) = q := by omega
    rw [e]; exact h i
  · refine det_eqc (p := q) (p - q - 1) (by omega) fun i => ?_
    have e : q + 1 + (p - q - 1) = p := by omega
    rw [e]; exact (h i).symm
theorem colp_self {A : Nat → Nat → Rat} {p : Nat} : (colp A p fun i => A i p) = A := by
  funext i j
  unfold colp
  split
  · rename_i e; rw [e]
  · rfl
theorem det_sum {n p : Nat} {A : Nat → Nat → Rat} (hp : p < n) {x : Nat → Rat} {B : Nat → Nat → Rat} : ∀ m : Nat, det n (colp A p fun i => sm m fun k => B i k * x k) = sm m fun k => x k * det n (colp A p fun i => B i k)
  | 0 => by
    have := det_lin (n := n) (p := p) (x := 0) (y := 0) (A := colp A p fun i => sm 0 fun k => B i k * x k) (B := A) (C := A) hp (fun i j hj => colp_n hj) (fun i j hj => colp_n hj) fun i => by rw [colp_p, sm]; grind
    rw [this, sm]; grind
  | m + 1 => by
    have := det_lin (n := n) (p := p) (x := 1) (y := x m) (A := colp A p fun i => sm (m + 1) fun k => B i k * x k) (B := colp A p fun i => sm m fun k => B i k * x k) (C := colp A p fun i => B i m) hp (fun i j hj => by rw [colp_n hj, colp_n hj]) (fun i j hj => by rw [colp_n hj, colp_n hj]) fun i => by rw [colp_p, colp_p, colp_p, sm]; grind
    rw [this, det_sum hp m, sm]; grind
theorem cramer {n p : Nat} {A : Nat → Nat → Rat} {v x : Nat → Rat} (hp : p < n) (h : ∀ i, i < n → v i = sm n fun k => A i k * x k) : det n (colp A p v) = x p * det n A := by
  have e : det n (colp A p v) = det n (colp A p fun i => sm n fun k => A i k * x k) := det_congr fun i j hi _ => by
    unfold colp
    split
    · exact h i hi
    · rfl
  rw [e, det_sum hp n, sm_one hp fun k hk hn => ?_, colp_self]
  rw [det_alt hp hk (fun z => hn z.symm) fun i => by rw [colp_p, colp_n hn]]
  grind
theorem det_one : ∀ n, det n (fun i j => if i = j then 1 else 0) = 1
  | 0 => rfl
  | n + 1 => by
    rw [det, sm_one (p := 0) (by omega) fun j _ hj => by rw [if_neg fun z => hj z.symm]; grind, if_pos rfl]
    have : det n (fun i k => if i + 1 = skip 0 k then (1 : Rat) else 0) = det n fun i j => if i = j then 1 else 0 := det_congr fun i j _ _ => by
      have : skip 0 j = j + 1 := by unfold skip; split <;> omega
      rw [this]
      simp
    rw [this, det_one n]
    unfold sg
    simp
def IsInt (x : Rat) (K : Nat) : Prop := ∃ u : Int, x = (u : Rat) ∧ u.natAbs ≤ K
theorem IsInt.mul {x y : Rat} {K L : Nat} (h : IsInt x K) (g : IsInt y L) : IsInt (x * y) (K * L) := by
  obtain ⟨u, rfl, hu⟩ := h
  obtain ⟨v, rfl, hv⟩ := g
  exact ⟨u * v, by rw [Rat.intCast_mul], by rw [Int.natAbs_mul]; exact Nat.mul_le_mul hu hv⟩
theorem IsInt.add {x y : Rat} {K L : Nat} (h : IsInt x K) (g : IsInt y L) : IsInt (x + y) (K + L) := by
  obtain ⟨u, rfl, hu⟩ := h
  obtain ⟨v, rfl, hv⟩ := g
  exact ⟨u + v, by rw [Rat.intCast_add], Nat.le_trans (Int.natAbs_add_le _ _) (Nat.add_le_add hu hv)⟩
theorem IsInt.mono {x : Rat} {K L : Nat} (h : IsInt x K) (l : K ≤ L) : IsInt x L := by
  obtain ⟨u, e, hu⟩ := h
  exact ⟨u, e, Nat.le_trans hu l⟩
theorem IsInt.zero : IsInt 0 0 := ⟨0, rfl, Nat.le_refl _⟩
theorem IsInt.sm {n K : Nat} {f : Nat → Rat} (h : ∀ i, i < n → IsInt (f i) K) : IsInt (sm n f) (n * K) := by
  induction n with
  | zero => rw [Nat.zero_mul]; exact .zero
  | succ n ih =>
    rw [Nat.succ_mul]
    exact (ih fun i hi => h i (by omega)).add (h n (by omega))
theorem sg_int {j : Nat} : IsInt (sg j) 1 := by
  unfold sg
  split
  · exact ⟨1, rfl, Nat.le_refl _⟩
  · exact ⟨-1, rfl, Nat.le_refl _⟩
theorem det_int : ∀ {n K m : Nat} {A : Nat → Nat → Rat}, n ≤ m → (∀ i j, i < n → j < n → IsInt (A i j) K) → IsInt (det n A) ((m * K) ^ n)
  | 0, _, _, _, _, _ => ⟨1, rfl, by simp⟩
  | n + 1, K, m, A, hm, h => by
    rw [det]
    refine (IsInt.sm fun j hj => ((sg_int.mul (h 0 j (by omega) hj)).mul (det_int (m := m) (by omega) fun i k hi hk => h (i + 1) (skip j k) (by omega) (skip_lt hk)))).mono ?_
    rw [Nat.pow_succ, Nat.one_mul, ← Nat.mul_assoc, Nat.mul_comm ((m * K) ^ n)]
    exact Nat.mul_le_mul_right _ (Nat.mul_le_mul_right _ hm)
def CD (E K : Nat) (x : Rat) : Prop := 0 < E ∧ IsInt (x * (E : Rat)) K
section
variable {n : Nat} {N T : Nat → Nat → Rat} {b : Nat → Nat} {p c : Nat}
def dB (n : Nat) (N : Nat → Nat → Rat) (b : Nat → Nat) : Rat := det n fun i k => N i (b k)
theorem dB_put (h : Tab n N T b) (hp : p < n) : dB n N (put b p c) = T p c * dB n N b := by
  unfold dB
  have := cramer (A := fun i k => N i (b k)) (v := fun i => N i c) (x := fun k => T k c) hp fun i hi => h.right i hi c
  rw [← this]
  refine det_congr fun i j _ _ => ?_
  unfold put colp
  split <;> rfl
theorem dB_start (hb : ∀ i, i < n → ∀ j, j < n → N i j = if i = j then 1 else 0) : dB n N id = 1 := by
  unfold dB
  rw [← det_one n]
  exact det_congr fun i j hi hj => hb i hi j hj
theorem Tab.cd {K : Nat} (h : Tab n N T b) (hd : dB n N b ≠ 0) (hK : ∀ i j, i < n → j ≤ 2 * n → IsInt (N i j) K) (hr : ∀ i, i < n → b i ≤ 2 * n) :
    ∃ D : Nat, 0 < D ∧ D ≤ (n * K) ^ n ∧ (∀ k j, k < n → j ≤ 2 * n → CD D ((n * K) ^ n) (T k j)) := by
  obtain ⟨u, hu, hb⟩ := det_int (n := n) (m := n) (A := fun i k => N i (b k)) (Nat.le_refl n) fun i j hi hj => hK i (b j) hi (hr j hj)
  change dB n N b = u at hu
  have hu0 : u ≠ 0 := by
    rintro rfl
    exact hd (hu.trans rfl)
  refine ⟨u.natAbs, by omega, hb, fun k j hk hj => ⟨by omega, ?_⟩⟩
  obtain ⟨t, ht, hb2⟩ := det_int (n := n) (m := n) (A := fun i l => N i (put b k j l)) (Nat.le_refl n) fun i l hi hl => hK i (put b k j l) hi (by
    unfold put
    split
    · exact hj
    · exact hr l hl)
  change dB n N (put b k j) = t at ht
  rw [dB_put h hk, hu] at ht
  rcases Int.natAbs_eq u with e | e
  · refine ⟨t, ?_, hb2⟩
    rw [← ht]
    have : ((u.natAbs : Nat) : Rat) = ((u : Int) : Rat) := by
      rw [show ((u : Int) : Rat) = (((u.natAbs : Nat) : Int) : Rat) from congrArg _ e]; rfl
    rw [this]
  · refine ⟨-t, ?_, by rw [Int.natAbs_neg]; exact hb2⟩
    rw [Rat.intCast_neg, ← ht]
    have : ((u.natAbs : Nat) : Rat) = - ((u : Int) : Rat) := by
      rw [show ((u : Int) : Rat) = ((-((u.natAbs : Nat) : Int) : Int) : Rat) from congrArg _ e, Rat.intCast_neg, Rat.neg_neg]; rfl
    rw [this]; grind
theorem Tab.cd_last {D e K G : Nat} (h : Tab n N T b) (hD : ∀ k j, k < n → j ≤ 2 * n → CD D G (T k j)) (he : ∀ i, i < n → CD e K (N i (2 * n + 1))) {k : Nat} (hk : k < n) : CD (D * e) (n * (G * K)) (T k (2 * n + 1)) := by
  refine ⟨Nat.mul_pos (hD k 0 hk (by omega)).1 (he k hk).1, ?_⟩
  rw [h.left k hk, ← sm_mulr]
  refine IsInt.sm fun i hi => ?_
  have h1 := (hD k i hk (by omega)).2.mul (he i hi).2
  have : T k i * N i (2 * n + 1) * ((D * e : Nat) : Rat) = T k i * (D : Rat) * (N i (2 * n + 1) * (e : Rat)) := by
    rw [Rat.natCast_mul]; grind
  rw [this]
  exact h1
end
end Lk

namespace Lk
theorem sm_term {n p : Nat} {f : Nat → Rat} (hp : p < n) (h : ∀ i, i < n → 0 ≤ f i) : f p ≤ sm n f := by
  rw [sm_out hp]
  have : 0 ≤ sm n fun i => if i = p then 0 else f i := sm_nn fun i hi => by
    have := h i hi
    split <;> grind
  grind
structure Pr where
  u : Nat
  T : Nat
  r : Nat
  tr : Nat → Nat
  ind : Nat → Nat → Rat
  s : Nat → Rat
  be : Nat → Rat
  d : Nat → Rat
structure Pr.Ok (P : Pr) : Prop where
  trT : ∀ j, j < P.u → P.tr j < P.T
  i01 : ∀ j x, P.ind j x = 0 ∨ P.ind j x = 1
  s0 : ∀ x, 0 ≤ P.s x
  b0 : ∀ x, 0 ≤ P.be x
  d0 : ∀ t, 0 ≤ P.d t
  has : ∀ t, t < P.T → ∃ j, j < P.u ∧ P.tr j = t
def Pr.m (P : Pr) : Nat := P.u + P.T
def Pr.ov (P : Pr) (i j : Nat) : Rat := sm P.r fun x => P.s x * (P.ind i x * P.ind j x)
def Pr.M (P : Pr) (i j : Nat) : Rat := if i < P.u then (if j < P.u then P.ov i j else if j - P.u = P.tr i then -1 else 0) else if j < P.u then (if P.tr j = i - P.u then 1 else 0) else 0
def Pr.bc (P : Pr) (i : Nat) : Rat := sm P.r fun x => P.ind i x * P.be x
def Pr.q (P : Pr) (i : Nat) : Rat := if i < P.u then P.bc i else - P.d (i - P.u)
def Pr.fl (P : Pr) (z : Nat → Rat) (x : Nat) : Rat := sm P.u fun j => P.ind j x * z j
def Pr.cst (P : Pr) (z : Nat → Rat) (i : Nat) : Rat := sm P.r fun x => P.ind i x * (P.s x * P.fl z x + P.be x)
def Pr.tot (P : Pr) (z : Nat → Rat) (t : Nat) : Rat := sm P.u fun j => if P.tr j = t then z j else 0
section
variable {P : Pr} {y z : Nat → Rat}
theorem Pr.mv_hi (h : P.Ok) {i : Nat} (hi : i < P.u) : mv P.m P.M y i = (sm P.u fun j => P.ov i j * y j) - y (P.u + P.tr i) := by
  unfold mv Pr.m
  rw [sm_split]
  have e1 : (sm P.u fun j => P.M i j * y j) = sm P.u fun j => P.ov i j * y j := sm_congr fun j hj => by
    unfold Pr.M
    rw [if_pos hi, if_pos hj]
  have e2 : (sm P.T fun t => P.M i (P.u + t) * y (P.u + t)) = - y (P.u + P.tr i) := by
    rw [sm_one (h.trT i hi) fun t ht hn => ?_]
    · unfold Pr.M
      rw [if_pos hi, if_neg (by omega), Nat.add_sub_cancel_left, if_pos rfl]
      grind
    · unfold Pr.M
      rw [if_pos hi, if_neg (by omega), Nat.add_sub_cancel_left, if_neg hn]
      grind
  rw [e1, e2]
  grind
theorem Pr.mv_lo {t : Nat} (ht : t < P.T) : mv P.m P.M y (P.u + t) = P.tot y t := by
  unfold mv Pr.m Pr.tot
  rw [sm_split]
  have e2 : (sm P.T fun k => P.M (P.u + t) (P.u + k) * y (P.u + k)) = 0 := sm_zero fun k hk => by
    unfold Pr.M
    rw [if_neg (by omega), if_neg (by omega)]
    grind
  rw [e2]
  have e1 : (sm P.u fun j => P.M (P.u + t) j * y j) = sm P.u fun j => if P.tr j = t then y j else 0 := sm_congr fun j hj => by
    unfold Pr.M
    rw [if_neg (by omega), if_pos hj, Nat.add_sub_cancel_left]
    split <;> grind
  rw [e1]
  grind
theorem Pr.ov_fl {i : Nat} : (sm P.u fun j => P.ov i j * y j) = sm P.r fun x => P.ind i x * (P.s x * P.fl y x) := by
  have e1 : (sm P.u fun j => P.ov i j * y j) = sm P.u fun j => sm P.r fun x => P.s x * (P.ind i x * P.ind j x) * y j := sm_congr fun j _ => by
    unfold Pr.ov
    rw [← sm_mulr]
  rw [e1, sm_swap]
  refine sm_congr fun x _ => ?_
  unfold Pr.fl
  have : P.ind i x * (P.s x * sm P.u fun j => P.ind j x * y j) = sm P.u fun j => (P.ind i x * P.s x) * (P.ind j x * y j) := by
    rw [sm_mul]
    grind
  rw [this]
  exact sm_congr fun j _ => by grind
theorem Pr.ov_nn (h : P.Ok) {i j : Nat} : 0 ≤ P.ov i j := sm_nn fun x _ => Rat.mul_nonneg (h.s0 x) (by
  rcases h.i01 i x with e | e <;> rcases h.i01 j x with f | f <;> rw [e, f] <;> grind)
theorem Pr.bc_nn (h : P.Ok) {i : Nat} : 0 ≤ P.bc i := sm_nn fun x _ => Rat.mul_nonneg (by rcases h.i01 i x with e | e <;> rw [e] <;> decide) (h.b0 x)
theorem Pr.feas (h : P.Ok) : ∃ y : Nat → Rat, (∀ i, i < P.m → 0 ≤ y i) ∧ ∀ i, i < P.m → 0 ≤ mv P.m P.M y i + P.q i := by
  have L0 : 0 ≤ sm P.T P.d := sm_nn fun t _ => h.d0 t
  refine ⟨fun i => if i < P.u then sm P.T P.d else 0, fun i _ => by show 0 ≤ if i < P.u then sm P.T P.d else 0; split <;> grind, fun i hi => ?_⟩
  by_cases c : i < P.u
  · rw [Pr.mv_hi h c, if_neg (by omega)]
    unfold Pr.q
    rw [if_pos c]
    have a : 0 ≤ sm P.u fun j => P.ov i j * (if j < P.u then sm P.T P.d else 0) := sm_nn fun j hj => by
      rw [if_pos hj]
      exact Rat.mul_nonneg (Pr.ov_nn h) L0
    have b := Pr.bc_nn h (i := i)
    grind
  · obtain ⟨t, rfl⟩ : ∃ t, i = P.u + t := ⟨i - P.u, by omega⟩
    have ht : t < P.T := by unfold Pr.m at hi; omega
    rw [Pr.mv_lo ht]
    unfold Pr.q Pr.tot
    rw [if_neg c, Nat.add_sub_cancel_left]
    obtain ⟨j, hj, ej⟩ := h.has t ht
    have a : sm P.T P.d ≤ sm P.u fun k => if P.tr k = t then (if k < P.u then sm P.T P.d else 0) else 0 := by
      have e := sm_term (f := fun k => if P.tr k = t then (if k < P.u then sm P.T P.d else 0) else 0) hj fun k hk => by
        show 0 ≤ if P.tr k = t then (if k < P.u then sm P.T P.d else 0) else 0
        rw [if_pos hk]
        split <;> grind
      have e2 : (fun k => if P.tr k = t then (if k < P.u then sm P.T P.d else 0) else 0) j = sm P.T P.d := by
        show (if P.tr j = t then (if j < P.u then sm P.T P.d else 0) else 0) = _
        rw [if_pos ej, if_pos hj]
      exact Rat.le_trans (by rw [if_pos ej, if_pos hj]; exact Rat.le_refl) e
    have b : P.d t ≤ sm P.T P.d := sm_term ht fun k _ => h.d0 k
    grind
structure Pr.Sol (P : Pr) (z : Nat → Rat) : Prop where
  nn : ∀ j, j < P.u → 0 ≤ z j
  un : ∀ t, t < P.T → 0 ≤ z (P.u + t)
  low : ∀ j, j < P.u → z (P.u + P.tr j) ≤ P.cst z j
  eq : ∀ j, j < P.u → 0 < z j → P.cst z j = z (P.u + P.tr j)
  dem : ∀ t, t < P.T → P.d t ≤ P.tot z t
  full : ∀ t, t < P.T → 0 < z (P.u + t) → P.tot z t = P.d t
theorem Pr.fl_nn (h : P.Ok) (hz : ∀ j, j < P.u → 0 ≤ z j) {x : Nat} : 0 ≤ P.fl z x := sm_nn fun j hj => Rat.mul_nonneg (by rcases h.i01 j x with e | e <;> rw [e] <;> grind) (hz j hj)
end
end Lk

namespace Lk
structure Rt where
  u : Nat
  tr : Nat → Nat
  ind : Nat → Nat → Rat
  y : Nat → Rat
def Rt.fl (A : Rt) (x : Nat) : Rat := sm A.u fun j => A.ind j x * A.y j
end Lk

namespace Lk
structure Pg where
  u : Nat
  T : Nat
  r : Nat
  tr : Nat → Nat
  ind : Nat → Nat → Rat
  s : Nat → Rat
  o : Rat
  cb : Nat → Rat
  f : Nat → Rat
  d : Nat → Rat
structure Pg.Ok (P : Pg) : Prop where
  trT : ∀ j, j < P.u → P.tr j < P.T
  i01 : ∀ j x, P.ind j x = 0 ∨ P.ind j x = 1
  s0 : ∀ x, 0 ≤ P.s x
  o0 : 0 ≤ P.o
  c0 : ∀ j, 0 ≤ P.cb j
  f0 : ∀ t, 0 ≤ P.f t
  d0 : ∀ t, 0 ≤ P.d t
  has : ∀ t, t < P.T → ∃ j, j < P.u ∧ P.tr j = t
def Pg.m (P : Pg) : Nat := P.u + P.T
def Pg.ov (P : Pg) (i j : Nat) : Rat := sm P.r fun x => P.s x * (P.ind i x * P.ind j x)
def Pg.M (P : Pg) (i j : Nat) : Rat :=
  if i < P.u then (if j < P.u then (if P.tr j = P.tr i then (1 + P.o) * P.ov i j else P.ov i j) else if j - P.u = P.tr i then -1 else 0)
  else if j < P.u then (if P.tr j = i - P.u then 1 else 0) else if j = i then P.f (i - P.u) else 0
def Pg.q (P : Pg) (i : Nat) : Rat := if i < P.u then P.cb i else - P.d (i - P.u)
def Pg.fl (P : Pg) (z : Nat → Rat) (x : Nat) : Rat := sm P.u fun j => P.ind j x * z j
def Pg.own (P : Pg) (z : Nat → Rat) (t x : Nat) : Rat := sm P.u fun j => if P.tr j = t then P.ind j x * z j else 0
def Pg.cst (P : Pg) (z : Nat → Rat) (i : Nat) : Rat := (sm P.r fun x => P.ind i x * (P.s x * (P.fl z x + P.o * P.own z (P.tr i) x))) + P.cb i
def Pg.tot (P : Pg) (z : Nat → Rat) (t : Nat) : Rat := sm P.u fun j => if P.tr j = t then z j else 0
section
variable {P : Pg} {y z : Nat → Rat}
theorem Pg.ov_fl {i : Nat} {c : Nat → Rat} : (sm P.u fun j => c j * P.ov i j * y j) = sm P.r fun x => P.ind i x * (P.s x * sm P.u fun j => c j * (P.ind j x * y j)) := by
  have e1 : (sm P.u fun j => c j * P.ov i j * y j) = sm P.u fun j => sm P.r fun x => (c j * y j) * (P.s x * (P.ind i x * P.ind j x)) := sm_congr fun j _ => by
    rw [sm_mul]
    unfold Pg.ov
    grind
  rw [e1, sm_swap]
  refine sm_congr fun x _ => ?_
  have : P.ind i x * (P.s x * sm P.u fun j => c j * (P.ind j x * y j)) = sm P.u fun j => (P.ind i x * P.s x) * (c j * (P.ind j x * y j)) := by
    rw [sm_mul]
    grind
  rw [this]
  exact sm_congr fun j _ => by grind
theorem Pg.fo {t x : Nat} : (sm P.u fun j => (if P.tr j = t then 1 + P.o else 1) * (P.ind j x * y j)) = P.fl y x + P.o * P.own y t x := by
  unfold Pg.fl Pg.own
  rw [← sm_mul, ← sm_add]
  exact sm_congr fun j _ => by split <;> grind
theorem Pg.mv_hi (h : P.Ok) {i : Nat} (hi : i < P.u) : mv P.m P.M y i = (sm P.r fun x => P.ind i x * (P.s x * (P.fl y x + P.o * P.own y (P.tr i) x))) - y (P.u + P.tr i) := by
  unfold mv Pg.m
  rw [sm_split]
  have e1 : (sm P.u fun j => P.M i j * y j) = sm P.u fun j => (if P.tr j = P.tr i then 1 + P.o else 1) * P.ov i j * y j := sm_congr fun j hj => by
    unfold Pg.M
    rw [if_pos hi, if_pos hj]
    split <;> grind
  have e2 : (sm P.T fun t => P.M i (P.u + t) * y (P.u + t)) = - y (P.u + P.tr i) := by
    rw [sm_one (h.trT i hi) fun t ht hn => ?_]
    · unfold Pg.M
      rw [if_pos hi, if_neg (by omega), Nat.add_sub_cancel_left, if_pos rfl]
      grind
    · unfold Pg.M
      rw [if_pos hi, if_neg (by omega), Nat.add_sub_cancel_left, if_neg hn]
      grind
  rw [e1, e2, Pg.ov_fl]
  have : (sm P.r fun x => P.ind i x * (P.s x * sm P.u fun j => (if P.tr j = P.tr i then 1 + P.o else 1) * (P.ind j x * y j))) = sm P.r fun x => P.ind i x * (P.s x * (P.fl y x + P.o * P.own y (P.tr i) x)) := sm_congr fun x _ => by rw [Pg.fo]
  rw [this]
  grind
theorem Pg.mv_lo {t : Nat} (ht : t < P.T) : mv P.m P.M y (P.u + t) = P.tot y t + P.f t * y (P.u + t) := by
  unfold mv Pg.m Pg.tot
  rw [sm_split]
  have e2 : (sm P.T fun k => P.M (P.u + t) (P.u + k) * y (P.u + k)) = P.f t * y (P.u + t) := by
    rw [sm_one ht fun k hk hn => ?_]
    · unfold Pg.M
      rw [if_neg (by omega), if_neg (by omega), if_pos rfl, Nat.add_sub_cancel_left]
    · unfold Pg.M
      rw [if_neg (by omega), if_neg (by omega), if_neg (by omega)]
      grind
  rw [e2]
  have e1 : (sm P.u fun j => P.M (P.u + t) j * y j) = sm P.u fun j => if P.tr j = t then y j else 0 := sm_congr fun j hj => by
    unfold Pg.M
    rw [if_neg (by omega), if_pos hj, Nat.add_sub_cancel_left]
    split <;> grind
  rw [e1]
theorem Pg.fl_nn (h : P.Ok) (hz : ∀ j, j < P.u → 0 ≤ z j) {x : Nat} : 0 ≤ P.fl z x := sm_nn fun j hj => Rat.mul_nonneg (by rcases h.i01 j x with e | e <;> rw [e] <;> grind) (hz j hj)
theorem Pg.own_nn (h : P.Ok) (hz : ∀ j, j < P.u → 0 ≤ z j) {t x : Nat} : 0 ≤ P.own z t x := sm_nn fun j hj => by
  show 0 ≤ if P.tr j = t then P.ind j x * z j else 0
  split
  · exact Rat.mul_nonneg (by rcases h.i01 j x with e | e <;> rw [e] <;> grind) (hz j hj)
  · grind
theorem Pg.feas (h : P.Ok) : ∃ y : Nat → Rat, (∀ i, i < P.m → 0 ≤ y i) ∧ ∀ i, i < P.m → 0 ≤ mv P.m P.M y i + P.q i := by
  have L0 : 0 ≤ sm P.T P.d := sm_nn fun t _ => h.d0 t
  refine ⟨fun i => if i < P.u then sm P.T P.d else 0, fun i _ => by show 0 ≤ if i < P.u then sm P.T P.d else 0; split <;> grind, fun i hi => ?_⟩
  have y0 : ∀ j, j < P.u → 0 ≤ (fun i => if i < P.u then sm P.T P.d else 0) j := fun j hj => by show 0 ≤ if j < P.u then _ else _; rw [if_pos hj]; exact L0
  by_cases c : i < P.u
  · rw [Pg.mv_hi h c, if_neg (by omega)]
    unfold Pg.q
    rw [if_pos c]
    have a : 0 ≤ sm P.r fun x => P.ind i x * (P.s x * (P.fl (fun i => if i < P.u then sm P.T P.d else 0) x + P.o * P.own (fun i => if i < P.u then sm P.T P.d else 0) (P.tr i) x)) := sm_nn fun x _ => by
      refine Rat.mul_nonneg (by rcases h.i01 i x with e | e <;> rw [e] <;> grind) (Rat.mul_nonneg (h.s0 x) ?_)
      have a := Pg.fl_nn (x := x) h y0
      have b := Rat.mul_nonneg h.o0 (Pg.own_nn (t := P.tr i) (x := x) h y0)
      grind
    have b := h.c0 i
    grind
  · obtain ⟨t, rfl⟩ : ∃ t, i = P.u + t := ⟨i - P.u, by omega⟩
    have ht : t < P.T := by unfold Pg.m at hi; omega
    rw [Pg.mv_lo ht, if_neg (by omega)]
    unfold Pg.q Pg.tot
    rw [if_neg c, Nat.add_sub_cancel_left]
    obtain ⟨j, hj, ej⟩ := h.has t ht
    have a : sm P.T P.d ≤ sm P.u fun k => if P.tr k = t then (if k < P.u then sm P.T P.d else 0) else 0 := by
      have e := sm_term (f := fun k => if P.tr k = t then (if k < P.u then sm P.T P.d else 0) else 0) hj fun k hk => by
        show 0 ≤ if P.tr k = t then (if k < P.u then sm P.T P.d else 0) else 0
        rw [if_pos hk]
        split <;> grind
      exact Rat.le_trans (by rw [if_pos ej, if_pos hj]; exact Rat.le_refl) e
    have b : P.d t ≤ sm P.T P.d := sm_term ht fun k _ => h.d0 k
    grind
structure Pg.Sol (P : Pg) (z : Nat → Rat) : Prop where
  nn : ∀ j, j < P.u → 0 ≤ z j
  un : ∀ t, t < P.T → 0 ≤ z (P.u + t)
  low : ∀ j, j < P.u → z (P.u + P.tr j) ≤ P.cst z j
  eq : ∀ j, j < P.u → 0 < z j → P.cst z j = z (P.u + P.tr j)
  dem : ∀ t, t < P.T → P.d t ≤ P.tot z t + P.f t * z (P.u + t)
  full : ∀ t, t < P.T → 0 < z (P.u + t) → P.tot z t + P.f t * z (P.u + t) = P.d t
end
end Lk

namespace Lk
section
variable {n p c : Nat} {N T T' : Nat → Nat → Rat} {b b' : Nat → Nat} {w : Nat → Rat}
theorem Tab.via (h : Tab n N T b) (g : Tab n N T' b') {i : Nat} (hi : i < n) (j : Nat) : T' i j = sm n fun l => T' i (b l) * T l j := by
  rw [g.left i hi j]
  have e1 : (sm n fun k => T' i k * N k j) = sm n fun k => sm n fun l => T' i k * (N k (b l) * T l j) := sm_congr fun k hk => by
    rw [h.right k hk j, ← sm_mul]
  rw [e1, sm_swap]
  refine sm_congr fun l hl => ?_
  rw [g.left i hi (b l), ← sm_mulr]
  exact sm_congr fun k _ => by grind
def zc (n : Nat) (w : Nat → Rat) (T : Nat → Nat → Rat) (b : Nat → Nat) (j : Nat) : Rat := sm n fun i => w (b i) * T i j
def rc (n : Nat) (w : Nat → Rat) (T : Nat → Nat → Rat) (b : Nat → Nat) (j : Nat) : Rat := w j - zc n w T b j
theorem Tab.rc_basic (h : Tab n N T b) {i : Nat} (hi : i < n) : rc n w T b (b i) = 0 := by
  unfold rc zc
  rw [sm_one hi fun k hk e => by rw [h.unit i hi k hk, if_neg e]; grind, h.unit i hi i hi, if_pos rfl]
  grind
theorem Tab.rc_via (h : Tab n N T b) (g : Tab n N T' b') (j : Nat) : rc n w T' b' j = rc n w T b j + sm n fun l => rc n w T' b' (b l) * T l j := by
  have e : zc n w T' b' j = sm n fun l => zc n w T' b' (b l) * T l j := by
    unfold zc
    have e1 : (sm n fun i => w (b' i) * T' i j) = sm n fun i => sm n fun l => w (b' i) * (T' i (b l) * T l j) := sm_congr fun i hi => by
      rw [h.via g hi j, ← sm_mul]
    rw [e1, sm_swap]
    refine sm_congr fun l _ => ?_
    rw [← sm_mulr]
    exact sm_congr fun i _ => by grind
  unfold rc
  rw [e]
  have e2 : (sm n fun l => (w (b l) - zc n w T' b' (b l)) * T l j) = zc n w T b j - sm n fun l => zc n w T' b' (b l) * T l j := by
    rw [show zc n w T b j = sm n fun l => w (b l) * T l j from rfl, ← sm_sub]
    exact sm_congr fun l _ => by grind
  rw [e2]
  grind
structure Bst (n M ρ : Nat) (w : Nat → Rat) (T : Nat → Nat → Rat) (b : Nat → Nat) (p s : Nat) : Prop where
  s0 : n ≤ s
  s1 : s < M
  up : 0 < rc n w T b s
  lo : ∀ k, n ≤ k → k < s → rc n w T b k ≤ 0
  hp : p < n
  tp : 0 < T p s
  mn : ∀ l, l < n → 0 < T l s → T p ρ / T p s ≤ T l ρ / T l s
  tie : ∀ l, l < n → 0 < T l s → T p ρ / T p s = T l ρ / T l s → n ≤ b p → n ≤ b l → b p ≤ b l
structure Bs where
  T : Nat → Nat → Rat
  b : Nat → Nat
def Bs.at_ (σ : Bs) (p s : Nat) : Bs := ⟨piv σ.T p s, put σ.b p s⟩
structure Bpath (n M ρ : Nat) (w : Nat → Rat) (N : Nat → Nat → Rat) (σ : Nat → Bs) (K : Nat) : Prop where
  tab : Tab n N (σ 0).T (σ 0).b
  nn : ∀ i, i < n → 0 ≤ (σ 0).T i ρ
  ran : ∀ i, i < n → (σ 0).b i < M
  nxt : ∀ k, k < K → ∃ p s, Bst n M ρ w (σ k).T (σ k).b p s ∧ σ (k + 1) = (σ k).at_ p s
variable {M ρ : Nat} {σ : Nat → Bs} {K : Nat}
theorem Bst.share (B : Bst n M ρ w T b p c) (h : ∀ i, i < n → 0 ≤ T i ρ) : 0 ≤ T p ρ / T p c := by
  rw [Rat.div_def]
  exact Rat.mul_nonneg (h p B.hp) (Rat.le_of_lt (Rat.inv_pos.mpr B.tp))
theorem Bst.nn (B : Bst n M ρ w T b p c) (h : ∀ i, i < n → 0 ≤ T i ρ) : ∀ i, i < n → 0 ≤ piv T p c i ρ := fun i hi => by
  have sh := B.share h
  by_cases e : i = p
  · rw [e, piv_p]; exact sh
  · rw [piv_n e]
    by_cases z : 0 < T i c
    · have m := B.mn i hi z
      have t0 : T i c ≠ 0 := by grind
      have e2 : T i ρ / T i c * T i c = T i ρ := by rw [Rat.div_def, Rat.mul_assoc, Rat.inv_mul_cancel _ t0]; grind
      have := Rat.mul_le_mul_of_nonneg_right m (Rat.le_of_lt z)
      rw [e2] at this
      grind
    · have := Rat.mul_nonneg (show 0 ≤ - T i c by grind) sh
      have := h i hi
      grind
theorem Bpath.st (P : Bpath n M ρ w N σ K) : ∀ k, k ≤ K → Tab n N (σ k).T (σ k).b ∧ (∀ i, i < n → 0 ≤ (σ k).T i ρ) ∧ ∀ i, i < n → (σ k).b i < M
  | 0, _ => ⟨P.tab, P.nn, P.ran⟩
  | k + 1, h => by
    obtain ⟨t, a, r⟩ := P.st k (by omega)
    obtain ⟨p, s, B, e⟩ := P.nxt k (by omega)
    rw [e]
    refine ⟨t.piv B.hp (by have := B.tp; grind), B.nn a, fun i hi => ?_⟩
    show put (σ k).b p s i < M
    by_cases z : i = p
    · rw [z, put_p]; exact B.s1
    · rw [put_n z]; exact r i hi
theorem Bst.val (t : Tab n N T b) (B : Bst n M ρ w T b p c) : rc n w (piv T p c) (put b p c) ρ = rc n w T b ρ - rc n w T b c * (T p ρ / T p c) := by
  have t' := t.piv B.hp (show T p c ≠ 0 by have := B.tp; grind)
  have h := t'.rc_via (w := w) t ρ
  -- the old table by the new one
  rw [sm_one B.hp fun l hl e => by rw [put_n e, t.rc_basic hl]; grind, put_p, piv_p] at h
  grind
end
end Lk

namespace Lk
section
variable {n M ρ : Nat} {N : Nat → Nat → Rat} {w : Nat → Rat} {σ : Nat → Bs} {K : Nat}
theorem Bpath.from (P : Bpath n M ρ w N σ K) {i : Nat} (hi : i ≤ K) : Bpath n M ρ w N (fun k => σ (i + k)) (K - i) := by
  obtain ⟨a, b, c⟩ := P.st i hi
  exact ⟨a, b, c, fun k hk => P.nxt (i + k) (by omega)⟩
end
end Lk

namespace Lk
def cl (n m c : Nat) : Nat := if c < m then n + c else if c < m + n then c - m else c
def bcl (n m x : Nat) : Nat := if n ≤ x then x - n else m + x
theorem cl_real {n m c : Nat} (h : c < m) : cl n m c = n + c := by unfold cl; rw [if_pos h]
theorem cl_help {n m j : Nat} (h : j < n) : cl n m (m + j) = j := by unfold cl; rw [if_neg (by omega), if_pos (by omega)]; omega
theorem cl_last {n m : Nat} : cl n m (m + n) = n + m := by unfold cl; rw [if_neg (by omega), if_neg (by omega)]; omega
theorem bcl_real {n m c : Nat} : bcl n m (n + c) = c := by unfold bcl; rw [if_pos (by omega)]; omega
theorem bcl_help {n m x : Nat} (h : x < n) : bcl n m x = m + x := by unfold bcl; rw [if_neg (by omega)]
section
variable {n m q : Nat} {N T T' : Nat → Nat → Rat} {b b' : Nat → Nat} {W : Nat → Nat → Rat} {β ℓ : Nat → Nat}
structure Rel (n m q : Nat) (ℓ : Nat → Nat) (T : Nat → Nat → Rat) (b : Nat → Nat) (W : Nat → Nat → Rat) (β : Nat → Nat) : Prop where
  lam : ∀ t, t < q → ℓ t < n
  inj : ∀ t, t < q → ∀ s, s < q → ℓ t = ℓ s → t = s
  ent : ∀ t, t < q → ∀ c, W t c = T (ℓ t) (cl n m c)
  bas : ∀ t, t < q → β t = bcl n m (b (ℓ t))
  out : ∀ i, i < n → (∀ t, t < q → ℓ t ≠ i) → b i < n ∧ (∀ c, c < m → T i (n + c) = 0) ∧ T i (n + m) = 0
theorem Rel.piv (R : Rel n m q ℓ T b W β) {p c : Nat} (hp : p < q) (hc : c < m) : Rel n m q ℓ (piv T (ℓ p) (n + c)) (put b (ℓ p) (n + c)) (piv W p c) (put β p c) := by
  refine ⟨R.lam, R.inj, fun t ht j => ?_, fun t ht => ?_, fun i hi ho => ?_⟩
  · by_cases e : t = p
    · subst e
      rw [piv_p, piv_p, R.ent t ht, R.ent t ht, cl_real hc]
    · have e' : ℓ t ≠ ℓ p := fun z => e (R.inj t ht p hp z)
      rw [piv_n e, piv_n e', R.ent t ht, R.ent t ht, R.ent p hp, R.ent p hp, cl_real hc]
  · by_cases e : t = p
    · subst e
      rw [put_p, put_p, bcl_real]
    · have e' : ℓ t ≠ ℓ p := fun z => e (R.inj t ht p hp z)
      rw [put_n e, put_n e', R.bas t ht]
  · have e' : i ≠ ℓ p := fun z => ho p hp z.symm
    obtain ⟨h1, h2, h3⟩ := R.out i hi ho
    refine ⟨by rw [put_n e']; exact h1, fun j hj => ?_, ?_⟩
    · rw [piv_n e', h2 j hj, h2 c hc]; grind
    · rw [piv_n e', h3, h2 c hc]; grind
theorem Rel.sum (R : Rel n m q ℓ T b W β) {f : Nat → Rat} (h : ∀ i, i < n → (∀ t, t < q → ℓ t ≠ i) → f i = 0) : (sm q fun t => f (ℓ t)) = sm n f := by
  have e1 : (sm q fun t => f (ℓ t)) = sm q fun t => sm n fun i => if ℓ t = i then f i else 0 := sm_congr fun t ht => by
    rw [sm_one (R.lam t ht) fun i hi e => if_neg fun z => e z.symm, if_pos rfl]
  rw [e1, sm_swap]
  refine sm_congr fun i hi => ?_
  by_cases c : ∃ t, t < q ∧ ℓ t = i
  · obtain ⟨t, ht, e⟩ := c
    rw [sm_one ht fun s hs hn => if_neg fun z => hn (R.inj s hs t ht (by rw [z, e])), if_pos e]
  · have ho : ∀ t, t < q → ℓ t ≠ i := fun t ht z => c ⟨t, ht, z⟩
    rw [h i hi ho, sm_zero fun t ht => if_neg (ho t ht)]
theorem Rel.mu (R : Rel n m q ℓ T b W β) {γ : Nat → Rat} (h : q = n ∨ ∀ c, m ≤ c → γ c = 0) (c : Nat) : (sm q fun t => γ (β t) * W t c) = zc n (fun x => γ (bcl n m x)) T b (cl n m c) := by
  have e : (sm q fun t => γ (β t) * W t c) = sm q fun t => (fun i => γ (bcl n m (b i)) * T i (cl n m c)) (ℓ t) := sm_congr fun t ht => by
    rw [R.bas t ht, R.ent t ht]
  rw [e]
  refine R.sum (f := fun i => γ (bcl n m (b i)) * T i (cl n m c)) fun i hi ho => ?_
  rcases h with h | h
  · -- all rows are there
    exfalso
    subst h
    exact (show ∀ (k : Nat) (f : Nat → Nat), (∀ t, t < k → f t < k) → (∀ t, t < k → ∀ s, s < k → f t = f s → t = s) → ∀ i, i < k → ∃ t, t < k ∧ f t = i from by
      intro k
      induction k with
      | zero => intro f _ _ i hi; omega
      | succ k ih =>
        intro f hf hj i hi
        -- the last value leaves, its place is taken by k
        by_cases ck : f k = i
        · exact ⟨k, by omega, ck⟩
        obtain ⟨t, ht, e⟩ := ih (fun t => if f t = k then f k else f t) (fun t ht => by
          have h1 := hf t (by omega)
          have h2 := hf k (by omega)
          by_cases z : f t = k
          · rw [if_pos z]
            have : f k ≠ k := fun y => by have := hj t (by omega) k (by omega) (by rw [z, y]); omega
            omega
          · rw [if_neg z]; omega) (fun t ht s hs e => by
          have h1 := hf t (by omega)
          have h2 := hf s (by omega)
          by_cases z : f t = k
          · by_cases y : f s = k
            · exact hj t (by omega) s (by omega) (by rw [z, y])
            · rw [if_pos z, if_neg y] at e
              have := hj k (by omega) s (by omega) e
              omega
          · by_cases y : f s = k
            · rw [if_neg z, if_pos y] at e
              have := hj t (by omega) k (by omega) e
              omega
            · rw [if_neg z, if_neg y] at e
              exact hj t (by omega) s (by omega) e) (if i = k then f k else i) (by
          have h2 := hf k (by omega)
          split
          · have : f k ≠ k := fun y => by omega
            omega
          · omega)
        by_cases z : f t = k
        · rw [if_pos z] at e
          by_cases y : i = k
          · exact ⟨t, by omega, by rw [z, y]⟩
          · rw [if_neg y] at e
            exact absurd e ck
        · rw [if_neg z] at e
          by_cases y : i = k
          · rw [if_pos y] at e
            have := hj t (by omega) k (by omega) e
            omega
          · rw [if_neg y] at e
            exact ⟨t, by omega, e⟩) q ℓ R.lam R.inj i hi |>.elim fun t ht => ho t ht.1 ht.2
  · have h1 := (R.out i hi ho).1
    show γ (bcl n m (b i)) * _ = 0
    rw [bcl_help h1, h _ (by omega)]
    grind
theorem Rel.drop (R : Rel n m q ℓ T b W β) {j : Nat} (hj : j < q) (hb : b (ℓ j) < n) (hz : ∀ c, c < m → W j c = 0) (hr : T (ℓ j) (n + m) = 0) : Rel n m (q - 1) (fun t => ℓ (skip j t)) T b (fun t => W (skip j t)) fun t => β (skip j t) := by
  have sk : ∀ t, t < q - 1 → skip j t < q := fun t ht => by unfold skip; split <;> omega
  refine ⟨fun t ht => R.lam _ (sk t ht), fun t ht s hs e => ?_, fun t ht c => R.ent _ (sk t ht) c, fun t ht => R.bas _ (sk t ht), fun i hi ho => ?_⟩
  · have := R.inj _ (sk t ht) _ (sk s hs) e
    unfold skip at this
    split at this <;> split at this <;> omega
  · by_cases e : i = ℓ j
    · subst e
      refine ⟨hb, fun c hc => ?_, hr⟩
      have := hz c hc
      rw [R.ent j hj, cl_real hc] at this
      exact this
    · refine R.out i hi fun t ht z => ?_
      have tj : t ≠ j := fun y => e (by rw [← z, y])
      by_cases l : t < j
      · refine ho t (by omega) ?_
        show ℓ (skip j t) = i
        unfold skip
        rw [if_pos l]; exact z
      · refine ho (t - 1) (by omega) ?_
        show ℓ (skip j (t - 1)) = i
        unfold skip
        rw [if_neg (by omega), show t - 1 + 1 = t by omega]; exact z
theorem Tab.cdM {M K : Nat} (h : Tab n N T b) (hd : dB n N b ≠ 0) (hK : ∀ i j, i < n → j < M → IsInt (N i j) K) (hr : ∀ i, i < n → b i < M) :
    ∃ D : Nat, 0 < D ∧ D ≤ (n * K) ^ n ∧ (∀ k j, k < n → j < M → CD D ((n * K) ^ n) (T k j)) := by
  obtain ⟨u, hu, hb⟩ := det_int (n := n) (m := n) (A := fun i k => N i (b k)) (Nat.le_refl n) fun i j hi hj => hK i (b j) hi (hr j hj)
  change dB n N b = u at hu
  have hu0 : u ≠ 0 := by
    rintro rfl
    exact hd (hu.trans rfl)
  refine ⟨u.natAbs, by omega, hb, fun k j hk hj => ⟨by omega, ?_⟩⟩
  obtain ⟨t, ht, hb2⟩ := det_int (n := n) (m := n) (A := fun i l => N i (put b k j l)) (Nat.le_refl n) fun i l hi hl => hK i (put b k j l) hi (by
    unfold put
    split
    · exact hj
    · exact hr l hl)
  change dB n N (put b k j) = t at ht
  rw [dB_put h hk, hu] at ht
  rcases Int.natAbs_eq u with e | e
  · refine ⟨t, ?_, hb2⟩
    rw [← ht]
    have : ((u.natAbs : Nat) : Rat) = ((u : Int) : Rat) := by
      rw [show ((u : Int) : Rat) = (((u.natAbs : Nat) : Int) : Rat) from congrArg _ e]; rfl
    rw [this]
  · refine ⟨-t, ?_, by rw [Int.natAbs_neg]; exact hb2⟩
    rw [Rat.intCast_neg, ← ht]
    have : ((u.natAbs : Nat) : Rat) = - ((u : Int) : Rat) := by
      rw [show ((u : Int) : Rat) = ((-((u.natAbs : Nat) : Int) : Int) : Rat) from congrArg _ e, Rat.intCast_neg, Rat.neg_neg]; rfl
    rw [this]; grind
theorem Tab.cdR {D e K G ρ : Nat} (h : Tab n N T b) (hD : ∀ k j, k < n → j < n → CD D G (T k j)) (he : ∀ i, i < n → CD e K (N i ρ)) {k : Nat} (hk : k < n) : CD (D * e) (n * (G * K)) (T k ρ) := by
  refine ⟨Nat.mul_pos (hD k 0 hk (by omega)).1 (he k hk).1, ?_⟩
  rw [h.left k hk, ← sm_mulr]
  refine IsInt.sm fun i hi => ?_
  have h1 := (hD k i hk hi).2.mul (he i hi).2
  have : T k i * N i ρ * ((D * e : Nat) : Rat) = T k i * (D : Rat) * (N i ρ * (e : Rat)) := by
    rw [Rat.natCast_mul]; grind
  rw [this]
  exact h1
theorem CD.mul {E F K L : Nat} {x y : Rat} (h : CD E K x) (g : CD F L y) : CD (E * F) (K * L) (x * y) := by
  refine ⟨Nat.mul_pos h.1 g.1, ?_⟩
  have := h.2.mul g.2
  have e : x * y * ((E * F : Nat) : Rat) = x * (E : Rat) * (y * (F : Rat)) := by
    rw [Rat.natCast_mul]; grind
  rw [e]
  exact this
theorem CD.sm {k E K : Nat} {f : Nat → Rat} (hE : 0 < E) (h : ∀ i, i < k → CD E K (f i)) : CD E (k * K) (sm k f) := by
  refine ⟨hE, ?_⟩
  rw [← sm_mulr]
  exact IsInt.sm fun i hi => (h i hi).2
end
end Lk

namespace Lk
def sgq (q : Rat) : Rat := if q < 0 then -1 else 1
theorem sgq_sq {q : Rat} : sgq q * sgq q = 1 := by unfold sgq; split <;> grind
theorem sgq_nn {q : Rat} : 0 ≤ q * sgq q := by
  unfold sgq
  split
  · grind
  · grind
theorem sgq_or {q : Rat} : sgq q = 1 ∨ sgq q = -1 := by unfold sgq; split <;> simp
def Nz (n m : Nat) (A : Nat → Nat → Rat) (g : Nat → Rat) : Nat → Nat → Rat := fun i x => if x < n then (if i = x then 1 else 0) else if x < n + m then A i (x - n) * sgq (g i) else g i * sgq (g i)
section
variable {n m q : Nat} {A : Nat → Nat → Rat} {g : Nat → Rat} {T T' : Nat → Nat → Rat} {b b' : Nat → Nat} {W : Nat → Nat → Rat} {β ℓ : Nat → Nat} {γ : Nat → Rat}
theorem Nz_unit : ∀ i, i < n → ∀ j, j < n → Nz n m A g i j = if i = j then 1 else 0 := fun i hi j hj => by unfold Nz; rw [if_pos hj]
theorem Nz_real {i c : Nat} (hc : c < m) : Nz n m A g i (n + c) = A i c * sgq (g i) := by unfold Nz; rw [if_neg (by omega), if_pos (by omega), show n + c - n = c by omega]
theorem Nz_last {i : Nat} : Nz n m A g i (n + m) = g i * sgq (g i) := by unfold Nz; rw [if_neg (by omega), if_neg (by omega)]
structure Gq (n M : Nat) (N T : Nat → Nat → Rat) (b : Nat → Nat) : Prop where
  tab : Tab n N T b
  ran : ∀ i, i < n → b i < M
  det : dB n N b ≠ 0
theorem Gq.start : Gq n (n + m) (Nz n m A g) (Nz n m A g) id := ⟨Tab.start Nz_unit, fun i hi => by simp; omega, by rw [dB_start Nz_unit]; decide⟩
theorem Gq.piv {N : Nat → Nat → Rat} {M : Nat} (G : Gq n M N T b) {p c : Nat} (hp : p < n) (hc : c < M) (h0 : T p c ≠ 0) : Gq n M N (Lk.piv T p c) (put b p c) := by
  refine ⟨G.tab.piv hp h0, fun i hi => ?_, ?_⟩
  · by_cases e : i = p
    · subst e; rw [put_p]; exact hc
    · rw [put_n e]; exact G.ran i hi
  · rw [dB_put G.tab hp]
    exact fun z => (Rat.mul_eq_zero.mp z).elim h0 G.det
structure Cl (n m q : Nat) (A : Nat → Nat → Rat) (g : Nat → Rat) (ℓ : Nat → Nat) (γ : Nat → Rat) (K : Nat) (T : Nat → Nat → Rat) (b : Nat → Nat) (W : Nat → Nat → Rat) (β : Nat → Nat) : Prop where
  path : ∃ σ : Nat → Bs, Bpath n (n + m) (n + m) (fun x => γ (bcl n m x)) (Nz n m A g) σ K ∧ σ K = ⟨T, b⟩
  gd : Gq n (n + m) (Nz n m A g) T b
  rel : Rel n m q ℓ T b W β
theorem Cl.nn {K : Nat} (C : Cl n m q A g ℓ γ K T b W β) : ∀ i, i < n → 0 ≤ T i (n + m) := by
  obtain ⟨σ, P, e⟩ := C.path
  have := (P.st K (Nat.le_refl K)).2.1
  rw [e] at this
  exact this
theorem Cl.step {K p s : Nat} (C : Cl n m q A g ℓ γ K T b W β) (hz : q = n ∨ ∀ c, m ≤ c → γ c = 0) (hs : s < m) (up : (sm q fun t => γ (β t) * W t s) < γ s) (lo : ∀ c, c < s → ¬ (sm q fun t => γ (β t) * W t c) < γ c)
    (hp : p < q) (tp : 0 < W p s) (mn : ∀ l, l < q → 0 < W l s → W p (m + n) / W p s ≤ W l (m + n) / W l s) (tie : ∀ l, l < q → 0 < W l s → W p (m + n) / W p s = W l (m + n) / W l s → β p ≤ β l) :
    Cl n m q A g ℓ γ (K + 1) (piv T (ℓ p) (n + s)) (put b (ℓ p) (n + s)) (piv W p s) (put β p s) := by
  have R := C.rel
  obtain ⟨σ, P, e⟩ := C.path
  have rc_of : ∀ c, c < m → rc n (fun x => γ (bcl n m x)) T b (n + c) = γ c - sm q fun t => γ (β t) * W t c := fun c hc => by
    unfold rc
    rw [R.mu hz c, cl_real hc]
    show γ (bcl n m (n + c)) - _ = _
    rw [bcl_real]
  have hpn := R.lam p hp
  have ent : ∀ t, t < q → W t s = T (ℓ t) (n + s) := fun t ht => by rw [R.ent t ht, cl_real hs]
  have lst : ∀ t, t < q → W t (m + n) = T (ℓ t) (n + m) := fun t ht => by rw [R.ent t ht, cl_last]
  have tp' : 0 < T (ℓ p) (n + s) := by rw [← ent p hp]; exact tp
  have kept : ∀ i, i < n → 0 < T i (n + s) → ∃ t, t < q ∧ ℓ t = i := fun i hi h => Classical.byContradiction fun z => by
    have := (R.out i hi fun t ht y => z ⟨t, ht, y⟩).2.1 s hs
    rw [this] at h
    exact absurd h (by decide)
  have B : Bst n (n + m) (n + m) (fun x => γ (bcl n m x)) T b (ℓ p) (n + s) := by
    refine ⟨by omega, by omega, ?_, fun k h1 h2 => ?_, hpn, tp', fun i hi h => ?_, fun i hi h e1 h3 h4 => ?_⟩
    · rw [rc_of s hs]; grind
    · have : k = n + (k - n) := by omega
      rw [this, rc_of (k - n) (by omega)]
      have := lo (k - n) (by omega)
      grind
    · obtain ⟨t, ht, rfl⟩ := kept i hi h
      rw [← ent p hp, ← lst p hp, ← ent t ht, ← lst t ht]
      exact mn t ht (by rw [ent t ht]; exact h)
    · obtain ⟨t, ht, rfl⟩ := kept i hi h
      rw [← ent p hp, ← lst p hp, ← ent t ht, ← lst t ht] at e1
      have := tie t ht (by rw [ent t ht]; exact h) e1
      rw [R.bas p hp, R.bas t ht] at this
      unfold bcl at this
      rw [if_pos h3, if_pos h4] at this
      omega
  refine ⟨⟨fun k => if k ≤ K then σ k else ⟨piv T (ℓ p) (n + s), put b (ℓ p) (n + s)⟩, ⟨?_, ?_, ?_, fun k hk => ?_⟩, ?_⟩, C.gd.piv hpn (by omega) (by grind), R.piv hp hs⟩
  · rw [if_pos (Nat.zero_le _)]; exact P.tab
  · rw [if_pos (Nat.zero_le _)]; exact P.nn
  · rw [if_pos (Nat.zero_le _)]; exact P.ran
  · rw [if_pos (show k ≤ K by omega)]
    by_cases c : k < K
    · rw [if_pos (show k + 1 ≤ K by omega)]
      exact P.nxt k c
    · have : k = K := by omega
      subst this
      rw [if_neg (by omega), e]
      exact ⟨ℓ p, n + s, B, rfl⟩
  · show (if K + 1 ≤ K then σ (K + 1) else _) = _
    rw [if_neg (by omega)]
def xam (q r : Nat) (W : Nat → Nat → Rat) (β : Nat → Nat) (c : Nat) : Rat := sm q fun t => if β t = c then W t r else 0
theorem xam_whole (R : Rel n m q ℓ T b W β) {c j : Nat} (hj : j < m) (h0 : c = m + n ∨ c < m) : xam q c W β j = sm n fun i => if b i = n + j then T i (cl n m c) else 0 := by
  unfold xam
  have e : (sm q fun t => if β t = j then W t c else 0) = sm q fun t => (fun i => if b i = n + j then T i (cl n m c) else 0) (ℓ t) := sm_congr fun t ht => by
    rw [R.bas t ht, R.ent t ht]
    by_cases z : b (ℓ t) = n + j
    · show _ = if b (ℓ t) = n + j then T (ℓ t) (cl n m c) else 0
      rw [if_pos (by rw [z, bcl_real]), if_pos z]
    · have : ¬ bcl n m (b (ℓ t)) = j := fun y => by
        unfold bcl at y
        split at y <;> omega
      show _ = if b (ℓ t) = n + j then T (ℓ t) (cl n m c) else 0
      rw [if_neg this, if_neg z]
  rw [e]
  refine R.sum (f := fun i => if b i = n + j then T i (cl n m c) else 0) fun i hi ho => ?_
  have := (R.out i hi ho).1
  show (if b i = n + j then _ else _) = _
  rw [if_neg (by omega)]
theorem col_real (G : Gq n (n + m) (Nz n m A g) T b) {x : Nat} (hh : ∀ i, i < n → b i < n → T i x = 0) {i : Nat} (hi : i < n) : Nz n m A g i x = sm m fun c => Nz n m A g i (n + c) * sm n fun k => if b k = n + c then T k x else 0 := by
  rw [G.tab.right i hi x]
  have e : (sm m fun c => Nz n m A g i (n + c) * sm n fun k => if b k = n + c then T k x else 0) = sm m fun c => sm n fun k => if b k = n + c then Nz n m A g i (n + c) * T k x else 0 := sm_congr fun c _ => by
    rw [← sm_mul]
    refine sm_congr fun k _ => ?_
    split <;> grind
  rw [e, sm_swap]
  refine sm_congr fun k hk => ?_
  by_cases c : b k < n
  · rw [hh k hk c, sm_zero fun j _ => if_neg (by omega)]; grind
  · have h1 := G.ran k hk
    rw [sm_one (p := b k - n) (by omega) fun j _ hn => if_neg (by omega), if_pos (by omega), show n + (b k - n) = b k by omega]
theorem zc_left (G : Gq n (n + m) (Nz n m A g) T b) (w : Nat → Rat) (x : Nat) : zc n w T b x = sm n fun j => zc n w T b j * Nz n m A g j x := by
  unfold zc
  have e1 : (sm n fun i => w (b i) * T i x) = sm n fun i => sm n fun j => w (b i) * T i j * Nz n m A g j x := sm_congr fun i hi => by
    rw [G.tab.left i hi x, ← sm_mul]
    exact sm_congr fun j _ => by grind
  rw [e1, sm_swap]
  exact sm_congr fun j _ => by rw [sm_mulr]
theorem zc_real (G : Gq n (n + m) (Nz n m A g) T b) (w : Nat → Rat) {c : Nat} (hc : c < m) : zc n w T b (n + c) = sm n fun j => sgq (g j) * zc n w T b j * A j c := by
  rw [zc_left G]
  exact sm_congr fun j _ => by rw [Nz_real hc]; grind
theorem zc_last (G : Gq n (n + m) (Nz n m A g) T b) (w : Nat → Rat) : zc n w T b (n + m) = sm n fun j => sgq (g j) * zc n w T b j * g j := by
  rw [zc_left G]
  exact sm_congr fun j _ => by rw [Nz_last]; grind
theorem unsign {i : Nat} {x y : Rat} (h : x * sgq (g i) = y * sgq (g i)) : x = y := by
  have : x * sgq (g i) * sgq (g i) = y * sgq (g i) * sgq (g i) := by rw [h]
  rw [Rat.mul_assoc, Rat.mul_assoc, sgq_sq] at this
  grind
theorem eqn_of (G : Gq n (n + m) (Nz n m A g) T b) (hh : ∀ i, i < n → b i < n → T i (n + m) = 0) {i : Nat} (hi : i < n) : (sm m fun c => A i c * sm n fun k => if b k = n + c then T k (n + m) else 0) = g i := by
  have h := col_real G (x := n + m) hh hi
  rw [Nz_last] at h
  refine unsign (g := g) (i := i) ?_
  rw [h, ← sm_mulr]
  exact sm_congr fun c hc => by rw [Nz_real hc]; grind
theorem ray_of (G : Gq n (n + m) (Nz n m A g) T b) {s : Nat} (hs : s < m) (hh : ∀ i, i < n → b i < n → T i (n + s) = 0) {i : Nat} (hi : i < n) : (sm m fun c => A i c * sm n fun k => if b k = n + c then T k (n + s) else 0) = A i s := by
  have h := col_real G (x := n + s) hh hi
  rw [Nz_real hs] at h
  refine unsign (g := g) (i := i) ?_
  rw [h, ← sm_mulr]
  exact sm_congr fun c hc => by rw [Nz_real hc]; grind
theorem cost_of (G : Gq n (n + m) (Nz n m A g) T b) {w : Nat → Rat} {x : Nat} (hh : ∀ i, i < n → b i < n → T i x = 0) : zc n w T b x = sm m fun c => w (n + c) * sm n fun k => if b k = n + c then T k x else 0 := by
  unfold zc
  have e : (sm m fun c => w (n + c) * sm n fun k => if b k = n + c then T k x else 0) = sm m fun c => sm n fun k => if b k = n + c then w (n + c) * T k x else 0 := sm_congr fun c _ => by
    rw [← sm_mul]
    refine sm_congr fun k _ => ?_
    split <;> grind
  rw [e, sm_swap]
  refine sm_congr fun k hk => ?_
  by_cases c : b k < n
  · rw [hh k hk c, sm_zero fun j _ => if_neg (by omega)]; grind
  · have h1 := G.ran k hk
    rw [sm_one (p := b k - n) (by omega) fun j _ hn => if_neg (by omega), if_pos (by omega), show n + (b k - n) = b k by omega]
end
end Lk

namespace Lk
def γh (m : Nat) (c : Nat) : Rat := if c < m then 0 else -1
def γc (m : Nat) (γ : Nat → Rat) (c : Nat) : Rat := if c < m then γ c else 0
structure LBest (n m : Nat) (A : Nat → Nat → Rat) (g γ x y : Nat → Rat) : Prop where
  nn : ∀ c, c < m → 0 ≤ x c
  eq : ∀ i, i < n → (sm m fun c => A i c * x c) = g i
  ge : ∀ c, c < m → γ c ≤ sm n fun j => y j * A j c
  val : (sm n fun j => y j * g j) = sm m fun c => γ c * x c
structure LNone (n m : Nat) (A : Nat → Nat → Rat) (g y : Nat → Rat) : Prop where
  ge : ∀ c, c < m → 0 ≤ sm n fun j => y j * A j c
  neg : (sm n fun j => y j * g j) < 0
structure LFree (n m : Nat) (A : Nat → Nat → Rat) (g γ x d : Nat → Rat) : Prop where
  nn : ∀ c, c < m → 0 ≤ x c
  eq : ∀ i, i < n → (sm m fun c => A i c * x c) = g i
  dn : ∀ c, c < m → 0 ≤ d c
  dz : ∀ i, i < n → (sm m fun c => A i c * d c) = 0
  up : 0 < sm m fun c => γ c * d c
section
variable {n m q : Nat} {A : Nat → Nat → Rat} {g : Nat → Rat} {T T' : Nat → Nat → Rat} {b b' : Nat → Nat} {W : Nat → Nat → Rat} {β ℓ : Nat → Nat} {γ : Nat → Rat}
theorem Cl.start (h : ∀ t, t < n → ∀ c, W t c = Nz n m A g t (cl n m c)) (hb : ∀ t, t < n → β t = m + t) : Cl n m n A g id γ 0 (Nz n m A g) id W β := by
  refine ⟨⟨fun _ => ⟨Nz n m A g, id⟩, ⟨Gq.start.tab, fun i hi => ?_, (Gq.start (A := A) (g := g)).ran, fun k hk => absurd hk (by omega)⟩, rfl⟩, Gq.start, ⟨fun t ht => ht, fun _ _ _ _ e => e, fun t ht c => h t ht c, fun t ht => ?_, fun i hi ho => absurd rfl (ho i hi)⟩⟩
  · show 0 ≤ Nz n m A g i (n + m)
    rw [Nz_last]; exact sgq_nn
  · rw [hb t ht]; exact (bcl_help ht).symm
theorem Cl.none {K : Nat} (C : Cl n m n A g ℓ (γh m) K T b W β) (top : ∀ c, c < m → ¬ (sm n fun t => γh m (β t) * W t c) < γh m c) (neg : (sm n fun t => γh m (β t) * W t (m + n)) < 0) :
    LNone n m A g fun j => sgq (g j) * sm n fun t => γh m (β t) * W t (m + j) := by
  have mu := fun c => C.rel.mu (γ := γh m) (.inl rfl) c
  refine ⟨fun c hc => ?_, ?_⟩
  · have e : (sm n fun j => sgq (g j) * (sm n fun t => γh m (β t) * W t (m + j)) * A j c) = zc n (fun x => γh m (bcl n m x)) T b (n + c) := by
      rw [zc_real C.gd _ hc]
      exact sm_congr fun j hj => by rw [mu, cl_help hj]
    rw [e, ← cl_real hc, ← mu]
    have := top c hc
    unfold γh at this ⊢
    rw [if_pos hc] at this
    exact Rat.not_lt.mp this
  · have e : (sm n fun j => sgq (g j) * (sm n fun t => γh m (β t) * W t (m + j)) * g j) = zc n (fun x => γh m (bcl n m x)) T b (n + m) := by
      rw [zc_last C.gd]
      exact sm_congr fun j hj => by rw [mu, cl_help hj]
    rw [e, ← cl_last, ← mu]
    exact neg
theorem Cl.zero {K : Nat} (C : Cl n m n A g ℓ (γh m) K T b W β) (hn : ¬ (sm n fun t => γh m (β t) * W t (m + n)) < 0) : ∀ i, i < n → b i < n → T i (n + m) = 0 := by
  have nn := C.nn
  have e := C.rel.mu (γ := γh m) (.inl rfl) (m + n)
  rw [cl_last] at e
  rw [e] at hn
  unfold zc at hn
  have h1 : ∀ i, i < n → 0 ≤ -(γh m (bcl n m (b i)) * T i (n + m)) := fun i hi => by
    have := nn i hi
    unfold γh
    split <;> grind
  have h2 : (sm n fun i => -(γh m (bcl n m (b i)) * T i (n + m))) = 0 := by
    have a := sm_nn h1
    rw [sm_neg] at a ⊢
    grind
  intro i hi hb
  have := sm_nn_zero h1 h2 i hi
  rw [bcl_help hb] at this
  unfold γh at this
  rw [if_neg (by omega)] at this
  grind
structure Lvg (n m : Nat) (A : Nat → Nat → Rat) (g : Nat → Rat) (j q : Nat) (W : Nat → Nat → Rat) (β : Nat → Nat) : Prop where
  ex : ∃ T b ℓ, Gq n (n + m) (Nz n m A g) T b ∧ Rel n m q ℓ T b W β ∧ (∀ i, i < n → 0 ≤ T i (n + m)) ∧ (∀ i, i < n → b i < n → T i (n + m) = 0) ∧ ∀ t, j ≤ t → t < q → n ≤ b (ℓ t)
  jq : j ≤ q
  qn : q ≤ n
theorem Lvg.swap {j c : Nat} (L : Lvg n m A g (j + 1) q W β) (h : m ≤ β j) (hc : c < m) (h0 : W j c ≠ 0) : Lvg n m A g j q (piv W j c) (put β j c) := by
  obtain ⟨⟨T, b, ℓ, G, R, nn, hz, hr⟩, jq, qn⟩ := L
  have hj : j < q := by omega
  have hjn := R.lam j hj
  have hb : b (ℓ j) < n := by
    rw [R.bas j hj] at h
    have := G.ran (ℓ j) hjn
    unfold bcl at h
    split at h <;> omega
  have z := hz (ℓ j) hjn hb
  have ne : T (ℓ j) (n + c) ≠ 0 := by rw [← cl_real hc, ← R.ent j hj]; exact h0
  have same : ∀ i, Lk.piv T (ℓ j) (n + c) i (n + m) = T i (n + m) := fun i => by
    have e0 : (0 : Rat) / T (ℓ j) (n + c) = 0 := by grind
    by_cases e : i = ℓ j
    · subst e
      rw [piv_p, z, e0]
    · rw [piv_n e, z, e0]; grind
  refine ⟨⟨_, _, ℓ, G.piv hjn (by omega) ne, R.piv hj hc, fun i hi => by rw [same]; exact nn i hi, fun i hi hbi => ?_, fun t h1 h2 => ?_⟩, by omega, qn⟩
  · rw [same]
    by_cases e : i = ℓ j
    · subst e; exact z
    · rw [put_n e] at hbi
      exact hz i hi hbi
  · by_cases e : t = j
    · subst e
      rw [put_p]; omega
    · rw [put_n fun y => e (R.inj t h2 j hj y)]
      exact hr t (by omega) h2
theorem Lvg.drop {j : Nat} (L : Lvg n m A g (j + 1) q W β) (h : m ≤ β j) (h0 : ∀ c, c < m → W j c = 0) : Lvg n m A g j (q - 1) (fun t => W (skip j t)) fun t => β (skip j t) := by
  obtain ⟨⟨T, b, ℓ, G, R, nn, hz, hr⟩, jq, qn⟩ := L
  have hj : j < q := by omega
  have hjn := R.lam j hj
  have hb : b (ℓ j) < n := by
    rw [R.bas j hj] at h
    have := G.ran (ℓ j) hjn
    unfold bcl at h
    split at h <;> omega
  refine ⟨⟨T, b, _, G, R.drop hj hb h0 (hz _ hjn hb), nn, hz, fun t h1 h2 => ?_⟩, by omega, by omega⟩
  show n ≤ b (ℓ (skip j t))
  unfold skip
  rw [if_neg (by omega)]
  exact hr (t + 1) (by omega) (by omega)
structure Cl2 (n m q : Nat) (A : Nat → Nat → Rat) (g γ : Nat → Rat) (K : Nat) (W : Nat → Nat → Rat) (β : Nat → Nat) : Prop where
  ex : ∃ T b ℓ, Cl n m q A g ℓ (γc m γ) K T b W β ∧ ∀ t, t < q → n ≤ b (ℓ t)
theorem γc_help : ∀ c, m ≤ c → γc m γ c = 0 := fun c h => by unfold γc; rw [if_neg (by omega)]
theorem Cl2.step {K p s : Nat} (C : Cl2 n m q A g γ K W β) (hs : s < m) (up : (sm q fun t => γc m γ (β t) * W t s) < γc m γ s) (lo : ∀ c, c < s → ¬ (sm q fun t => γc m γ (β t) * W t c) < γc m γ c)
    (hp : p < q) (tp : 0 < W p s) (mn : ∀ l, l < q → 0 < W l s → W p (m + n) / W p s ≤ W l (m + n) / W l s) (tie : ∀ l, l < q → 0 < W l s → W p (m + n) / W p s = W l (m + n) / W l s → β p ≤ β l) :
    Cl2 n m q A g γ (K + 1) (piv W p s) (put β p s) := by
  obtain ⟨T, b, ℓ, C, hr⟩ := C
  refine ⟨_, _, ℓ, C.step (.inr γc_help) hs up lo hp tp mn tie, fun t ht => ?_⟩
  by_cases e : t = p
  · subst e
    rw [put_p]; omega
  · rw [put_n fun y => e (C.rel.inj t ht p hp y)]
    exact hr t ht
theorem Cl2.help {K : Nat} {T : Nat → Nat → Rat} {b ℓ : Nat → Nat} (C : Cl n m q A g ℓ (γc m γ) K T b W β) (hr : ∀ t, t < q → n ≤ b (ℓ t)) : ∀ i, i < n → b i < n → (∀ c, c < m → T i (n + c) = 0) ∧ T i (n + m) = 0 := fun i hi hb =>
  (C.rel.out i hi fun t ht e => by have := hr t ht; rw [e] at this; omega).2
theorem γc_real {c : Nat} (h : c < m) : γc m γ c = γ c := by unfold γc; rw [if_pos h]
theorem Cl2.feas {K : Nat} (C : Cl2 n m q A g γ K W β) : (∀ c, c < m → 0 ≤ xam q (m + n) W β c) ∧ ∀ i, i < n → (sm m fun c => A i c * xam q (m + n) W β c) = g i := by
  obtain ⟨T, b, ℓ, C, hr⟩ := C
  have hh := Cl2.help C hr
  refine ⟨fun c hc => sm_nn fun t ht => ?_, fun i hi => ?_⟩
  · split
    · rw [C.rel.ent t ht, cl_last]
      exact C.nn _ (C.rel.lam t ht)
    · exact Rat.le_refl
  · rw [← eqn_of C.gd (fun i hi hb => (hh i hi hb).2) hi]
    exact sm_congr fun c hc => by rw [xam_whole C.rel hc (.inl rfl), cl_last]
theorem Cl2.free {K s : Nat} (C : Cl2 n m q A g γ K W β) (hs : s < m) (up : (sm q fun t => γc m γ (β t) * W t s) < γc m γ s) (h : ∀ t, t < q → ¬ 0 < W t s) :
    LFree n m A g γ (xam q (m + n) W β) fun c => (if c = s then 1 else 0) - xam q s W β c := by
  obtain ⟨f1, f2⟩ := C.feas
  obtain ⟨T, b, ℓ, C, hr⟩ := C
  have hh := Cl2.help C hr
  have mu := C.rel.mu (γ := γc m γ) (.inr γc_help) s
  have one : ∀ f : Nat → Rat, (sm m fun c => f c * ((if c = s then 1 else 0) - xam q s W β c)) = f s - sm m fun c => f c * xam q s W β c := fun f => by
    have e : (sm m fun c => f c * ((if c = s then 1 else 0) - xam q s W β c)) = (sm m fun c => if c = s then f c else 0) - sm m fun c => f c * xam q s W β c := by
      rw [← sm_sub]
      exact sm_congr fun c _ => by split <;> grind
    rw [e, sm_one hs fun i hi hn => if_neg hn, if_pos rfl]
  refine ⟨f1, f2, fun c hc => ?_, fun i hi => ?_, ?_⟩
  · have : 0 ≤ sm q fun t => -(if β t = c then W t s else 0) := sm_nn fun t ht => by
      have := h t ht
      split <;> grind
    rw [sm_neg] at this
    have e : xam q s W β c = sm q fun t => if β t = c then W t s else 0 := rfl
    rw [e]
    split <;> grind
  · rw [one]
    have := ray_of C.gd hs (fun i hi hb => (hh i hi hb).1 s hs) hi
    have e : (sm m fun c => A i c * xam q s W β c) = sm m fun c => A i c * sm n fun k => if b k = n + c then T k (n + s) else 0 := sm_congr fun c hc => by rw [xam_whole C.rel hc (.inr hs), cl_real hs]
    rw [e, this]
    grind
  · rw [one]
    rw [mu, cl_real hs, cost_of C.gd fun i hi hb => (hh i hi hb).1 s hs, γc_real hs] at up
    have e : (sm m fun c => γ c * xam q s W β c) = sm m fun c => γc m γ (bcl n m (n + c)) * sm n fun k => if b k = n + c then T k (n + s) else 0 := sm_congr fun c hc => by rw [xam_whole C.rel hc (.inr hs), cl_real hs, bcl_real, γc_real hc]
    rw [e]
    grind
end
end Lk

namespace Lk
structure Lsz (n m : Nat) (A : Nat → Nat → Rat) (g γ : Nat → Rat) (K0 e Kg ec Kc gb eb kg cb kc : Nat) : Prop where
  k1 : 1 ≤ K0
  ai : ∀ i c, i < n → c < m → IsInt (A i c) K0
  gi : ∀ i, i < n → CD e Kg (g i)
  ci : ∀ c, c < m → CD ec Kc (γ c)
  e0 : 0 < ec
  c1 : 1 ≤ Kc
  hg : (n * K0) ^ n < 2 ^ gb
  he : e < 2 ^ eb
  hq : Kg < 2 ^ kg
  hc : ec < 2 ^ cb
  hk : Kc < 2 ^ kc
  hn : n < 128
section
variable {n m q : Nat} {A : Nat → Nat → Rat} {g γ : Nat → Rat} {T : Nat → Nat → Rat} {b : Nat → Nat} {W : Nat → Nat → Rat} {β ℓ : Nat → Nat} {K0 e Kg ec Kc gb eb kg cb kc : Nat}
theorem sgq_int {q : Rat} : IsInt (sgq q) 1 := by
  rcases sgq_or (q := q) with h | h
  · rw [h]; exact ⟨1, rfl, by decide⟩
  · rw [h]; exact ⟨-1, rfl, by decide⟩
theorem CD.sgn {E K : Nat} {x y : Rat} (h : CD E K x) (g : IsInt y 1) : CD E K (y * x) := by
  refine ⟨h.1, ?_⟩
  have := g.mul h.2
  rw [Nat.one_mul] at this
  rw [Rat.mul_assoc]
  exact this
theorem CD.mono {E K L : Nat} {x : Rat} (h : CD E K x) (l : K ≤ L) : CD E L x := ⟨h.1, h.2.mono l⟩
theorem CD.zero {E K : Nat} (h : 0 < E) : CD E K 0 := ⟨h, ⟨0, by grind, by simp⟩⟩
theorem Lsz.ent (S : Lsz n m A g γ K0 e Kg ec Kc gb eb kg cb kc) : ∀ i j, i < n → j < n + m → IsInt (Nz n m A g i j) K0 := by
  intro i j hi hj
  unfold Nz
  by_cases c1 : j < n
  · rw [if_pos c1]
    split
    · exact ⟨1, rfl, by simpa using S.k1⟩
    · exact ⟨0, rfl, by simp⟩
  · rw [if_neg c1, if_pos hj]
    have := (S.ai i (j - n) hi (by omega)).mul (sgq_int (q := g i))
    rwa [Nat.mul_one] at this
theorem Lsz.tab (S : Lsz n m A g γ K0 e Kg ec Kc gb eb kg cb kc) (G : Gq n (n + m) (Nz n m A g) T b) : ∃ D : Nat, 0 < D ∧ D < 2 ^ gb ∧ (∀ k j, k < n → j < n + m → CD D ((n * K0) ^ n) (T k j)) ∧ ∀ k, k < n → CD (D * e) (n * ((n * K0) ^ n * Kg)) (T k (n + m)) := by
  obtain ⟨D, h0, h1, h2⟩ := G.tab.cdM G.det (fun i j hi hj => S.ent i j hi hj) G.ran
  refine ⟨D, h0, Nat.lt_of_le_of_lt h1 S.hg, h2, fun k hk => G.tab.cdR (fun k j hk hj => h2 k j hk (by omega)) (fun i hi => ?_) hk⟩
  rw [Nz_last, Rat.mul_comm]
  exact (S.gi i hi).sgn sgq_int
theorem Lsz.top (S : Lsz n m A g γ K0 e Kg ec Kc gb eb kg cb kc) : n * ((n * K0) ^ n * Kg) < 2 ^ (7 + (gb + kg)) := by
  rw [Nat.pow_add, Nat.pow_add]
  have h1 : (n * K0) ^ n * Kg < 2 ^ gb * 2 ^ kg := Nat.mul_lt_mul'' S.hg S.hq
  have h2 : n < 2 ^ 7 := S.hn
  exact Nat.mul_lt_mul'' h2 h1
end
end Lk

namespace Lk
section
variable {n m : Nat} {A : Nat → Nat → Rat} {g γ x y x' y' : Nat → Rat}
theorem dual_sum (h : ∀ i, i < n → (sm m fun c => A i c * x c) = g i) : (sm n fun j => y j * g j) = sm m fun c => (sm n fun j => y j * A j c) * x c := by
  have e : (sm m fun c => (sm n fun j => y j * A j c) * x c) = sm m fun c => sm n fun j => y j * A j c * x c := sm_congr fun c _ => by rw [sm_mulr]
  rw [e, sm_swap]
  refine sm_congr fun j hj => ?_
  rw [← h j hj, ← sm_mul]
  exact sm_congr fun c _ => by grind
theorem LBest.le (B : LBest n m A g γ x y) (nn : ∀ c, c < m → 0 ≤ x' c) (eq : ∀ i, i < n → (sm m fun c => A i c * x' c) = g i) : (sm m fun c => γ c * x' c) ≤ sm m fun c => γ c * x c := by
  rw [← B.val, dual_sum eq]
  refine sm_le fun c hc => ?_
  exact Rat.mul_le_mul_of_nonneg_right (B.ge c hc) (nn c hc)
theorem LBest.same (B : LBest n m A g γ x y) (B' : LBest n m A g γ x' y') : (sm m fun c => γ c * x' c) = sm m fun c => γ c * x c :=
  Rat.le_antisymm (B.le B'.nn B'.eq) (B'.le B.nn B.eq)
theorem LNone.no (N : LNone n m A g y) (nn : ∀ c, c < m → 0 ≤ x c) (eq : ∀ i, i < n → (sm m fun c => A i c * x c) = g i) : False := by
  have h : 0 ≤ sm n fun j => y j * g j := by
    rw [dual_sum eq]
    exact sm_nn fun c hc => Rat.mul_nonneg (N.ge c hc) (nn c hc)
  exact absurd N.neg (Rat.not_lt.mpr h)
end
end Lk

namespace Lk
end Lk

namespace Tr
open PySem PySem.Spec L2
variable [ProtC]
section
variable {k : D → Prop} {w : Exn → Prop} {t b : Int} {p q : Rat} {B : Nat} {C : Cs} {r : Addr} {φ : Heap → Prop}
theorem RB.mul {p q : Rat} {B : Nat} (hp : RB p B) (hq : RB q B) : RB (p * q) (B + B) := by
  rw [← mul_nd]
  exact ratio_rb dmul_pos (mul_lt2 hp.num hq.num) (mul_lt2 (den_lt hp) (den_lt hq))
theorem RB.add {p q : Rat} {B : Nat} (hp : RB p B) (hq : RB q B) : RB (p + q) (B + B + 1) := by
  rw [← add_nd]
  exact ratio_rb dmul_pos (add_lt2 (mul_lt2 hp.num (den_lt hq)) (mul_lt2 hq.num (den_lt hp))) (Nat.lt_of_lt_of_le (mul_lt2 (den_lt hp) (den_lt hq)) (Nat.pow_le_pow_right (by decide) (by omega)))
theorem RB.sub {p q : Rat} {B : Nat} (hp : RB p B) (hq : RB q B) : RB (p - q) (B + B + 1) := by
  rw [← sub_nd]
  exact ratio_rb dmul_pos (sub_lt2 (mul_lt2 hp.num (den_lt hq)) (mul_lt2 hq.num (den_lt hp))) (Nat.lt_of_lt_of_le (mul_lt2 (den_lt hp) (den_lt hq)) (Nat.pow_le_pow_right (by decide) (by omega)))
theorem isin_run {a lo hi : Int} (hk : k (.bool (decide (lo ≤ a) && decide (a ≤ hi)))) : (f_is_in [.d (.int a), .d (.int lo), .d (.int hi)]).run k w := by
  simp [f_is_in, b_is_in, dStart, arSl]
  by_cases h : lo ≤ a
  · simpa [h] using hk
  · simpa [h] using hk
theorem pick_run {ds : List D} (hr : RO C r φ) (h0 : 0 < ds.length) (h1 : ds.length < 1073741824) (hk : ∀ d ∈ ds, k d) : (f_law_pick C [.t r φ, .d (.list ds)]).run k w := by
  simp [f_law_pick, b_law_pick, dStart, arSl]
  refine taken_run hr (by omega) (by omega) fun n a b => ?_
  obtain ⟨m, rfl⟩ : ∃ m : Nat, n = m := ⟨n.toNat, by omega⟩
  have hm : m < ds.length := by omega
  simp [atI_nat, hm]
  exact hk _ (List.getElem_mem hm)
end
section
variable {k : D → Prop} {w : Exn → Prop}
def rd4 (x : Int × Int × Int × Int) : D := .tuple [.int x.1, .int x.2.1, .int x.2.2.1, .int x.2.2.2]
def en4 (x : Int × Int × Int × Int) : Int × Int := (x.1, x.2.1)
def netD (n : Int) (R : List (Int × Int × Int × Int)) : D := .tuple [.int n, .tuple (R.map rd4)]
def rowD (r : Gm.Row) : D := .tuple [tupI r.1, tupI r.2]
def waysF (E : List (Int × Int)) (a b : Int) (N : Nat) : List (List Int) := srtW (Gm.allF E b N (Gm.rows0 a))
def mor (b : Int) (l : List Gm.Row) : List D := (Gm.rest b l).map rowD
theorem isE_snoc {w ns : List Int} {x b : Int} : Gm.isE b (w, ns ++ [x]) = decide (x = b) := by simp [Gm.isE]
theorem extsP_snoc {l : List ((Int × Int) × Nat)} {p : (Int × Int) × Nat} {w ns : List Int} : Gm.extsP (l ++ [p]) w ns = Gm.extsP l w ns ++ (if Gm.okE ns p.1 then [Gm.exP w ns p] else []) := by
  unfold Gm.extsP
  rw [List.filter_append, List.map_append]
  by_cases h : Gm.okE ns p.1 = true <;> simp [h]
theorem fin_app {b : Int} {l m : List Gm.Row} : Gm.fin b (l ++ m) = Gm.fin b l ++ Gm.fin b m := by simp [Gm.fin]
theorem rest_app {b : Int} {l m : List Gm.Row} : Gm.rest b (l ++ m) = Gm.rest b l ++ Gm.rest b m := by simp [Gm.rest]
theorem rest_len {b : Int} {l : List Gm.Row} : (Gm.rest b l).length ≤ l.length := List.length_filter_le _ _
theorem zip_map {α β : Type} {f : α → β} {xs : List α} : (xs.map f).zipIdx = xs.zipIdx.map fun p => (f p.1, p.2) := by rw [List.zipIdx_map]; rfl
theorem allD_snoc {ds : List D} {e : D} : allD (ds.map Ar.d ++ [Ar.d e]) = .pure (ds ++ [e]) := by rw [allD_map]; rfl
theorem aw_in {n a b : Int} {R : List (Int × Int × Int × Int)} {rw : D} {F M : List D} {wy ns : List Int} {s8 s9 : Sl} {ko : Out → Prop} (hne : ns ≠ []) (hw : wy.length < 1000) (hns : ns.length < 1000) (hF : F.length + R.length < 16000000) (hM : M.length + R.length < 16000000)
    (hk : ∀ s8 s9, ko (.nx [.p (netD n R), .p (.int a), .p (.int b), .o (F ++ (Gm.fin b (Gm.exts (R.map en4) (wy, ns))).map tupI), .p rw, .o (M ++ mor b (Gm.exts (R.map en4) (wy, ns))), .p (tupI wy), .p (tupI ns), s8, s9])) :
    (sFor (iEnD (d2 dIx (dV 0) (dC (PyData.int 1)))) (bTup 2 (bCons (bName 8) (bCons (bName 9) bNil)))
          (sIf
            (tAnd2 (tBv (d2 dEq (d2 dIx (dV 9) (dC (PyData.int 0))) (d2 dIx (dV 7) (d1 dNeg (dC (PyData.int 1))))))
              (tBv (d2 dNotInA (d2 dIx (dV 9) (dC (PyData.int 1))) (dV 7))))
            (sIf (tBv (d2 dEq (d2 dIx (dV 9) (dC (PyData.int 1))) (dV 2)))
              (sApp 3 (dTup (aStar (dV 6) (aCons (dV 8) aNil))))
              (sApp 5
                (dTup
                  (aCons (dTup (aStar (dV 6) (aCons (dV 8) aNil)))
                    (aCons (dTup (aStar (dV 7) (aCons (d2 dIx (dV 9) (dC (PyData.int 1))) aNil))) aNil)))))
            sNext) [.p (netD n R), .p (.int a), .p (.int b), .o F, .p rw, .o M, .p (tupI wy), .p (tupI ns), s8, s9]).run ko w := by
  have hlast : (ns.map PyData.int).getLast? = some (.int (ns.getLastD 0)) := by
    rw [List.getLast?_map]
    cases h : ns.getLast? with
    | none => exact absurd (List.getLast?_eq_none_iff.mp h) hne
    | some x => simp [List.getLastD_eq_getLast?, h]
  have hl2 : ns.getLast? = some (ns.getLastD 0) := by
    cases h : ns.getLast? with
    | none => exact absurd (List.getLast?_eq_none_iff.mp h) hne
    | some x => simp [List.getLastD_eq_getLast?, h]
  generalize ns.getLastD 0 = la at hlast hl2
  simp only [rw_for, rw_iEnD, rw_d2, rw_dV, rw_dC, List.getElem?_cons_zero, slotP_p, pure_bind, netD, rw_ixT]
  rw [show atI [PyData.int n, .tuple (R.map rd4)] 1 = some (.tuple (R.map rd4)) from rfl]
  simp only [optW_some, pure_bind, rw_seqT]
  rw [enD_zip]
  refine loop_pre (fun pre δ => ∃ s8 s9, δ = [.p (netD n R), .p (.int a), .p (.int b), .o (F ++ (Gm.fin b (Gm.extsP (pre.map fun p => (en4 p.1, p.2)) wy ns)).map tupI), .p rw, .o (M ++ mor b (Gm.extsP (pre.map fun p => (en4 p.1, p.2)) wy ns)), .p (tupI wy), .p (tupI ns), s8, s9]) ⟨s8, s9, by simp [Gm.extsP, Gm.fin, mor, Gm.rest, netD]⟩ ?_ ?_
  · rintro pre ⟨x, i⟩ post δ e ⟨s8, s9, rfl⟩
    have lp : pre.length < R.length := by
      have := congrArg List.length e
      simp at this
      omega
    have l1 : (Gm.extsP (pre.map fun p => (en4 p.1, p.2)) wy ns).length ≤ pre.length := by
      have := Gm.extsP_len (l := pre.map fun p => (en4 p.1, p.2)) (w := wy) (ns := ns)
      simpa using this
    have l2 := Gm.fin_len (b := b) (rows := Gm.extsP (pre.map fun p => (en4 p.1, p.2)) wy ns)
    have l3 := rest_len (b := b) (l := Gm.extsP (pre.map fun p => (en4 p.1, p.2)) wy ns)
    refine ⟨_, rfl, ?_⟩
    rw [List.map_append, List.map_singleton, extsP_snoc]
    generalize Gm.extsP (pre.map fun p => (en4 p.1, p.2)) wy ns = X at l1 l2 l3
    simp only [rw_if, rw_tAnd2, rw_tBv, rw_d2, rw_d1, rw_dV, rw_dC, List.set_cons_succ, List.set_cons_zero, List.getElem?_cons_succ, List.getElem?_cons_zero, slotP_p, pure_bind, rd4, rw_ixT, tupI, rw_neg]
    rw [show atI [PyData.int x.1, .int x.2.1, .int x.2.2.1, .int x.2.2.2] 0 = some (.int x.1) from rfl, show atI [PyData.int x.1, .int x.2.1, .int x.2.2.1, .int x.2.2.2] 1 = some (.int x.2.1) from rfl, atI_last, hlast]
    simp only [optW_some, pure_bind, rw_eq, rw_notInAT, in_int, shaped_int, shaped_ints, eqv_int]
    have ok : Gm.okE ns (en4 x) = (decide (x.1 = la) && !decide (x.2.1 ∈ ns)) := by
      unfold Gm.okE en4
      rw [hl2]
      congr 1
      simp only [Option.some.injEq, eq_comm]
    rw [ok]
    have z1 : F.length + (Gm.fin b X).length < sizeLine := lineL (by omega)
    have z2 : M.length + (mor b X).length < sizeLine := lineL (by simp [mor]; omega)
    have z3 : wy.length + 1 ≤ sizeLine := lineN (by omega)
    have z4 : ns.length + 1 ≤ sizeLine := lineN (by omega)
    by_cases c1 : x.1 = la
    · by_cases c2 : x.2.1 ∈ ns
      · simp [c1, c2]
      · by_cases c3 : x.2.1 = b
        · subst c3
          simp only [Gm.fin, List.length_map] at z1
          simp [-List.map_map, c1, c2, allD_snoc, z1, z3, Gm.exP, isE_snoc, Gm.fin, Gm.rest, mor, en4]
          simp [tupI]
        · simp only [mor, Gm.rest, List.length_map] at z2
          simp [-List.map_map, c1, c2, c3, allD_snoc, z2, z3, z4, Gm.exP, isE_snoc, Gm.fin, Gm.rest, mor, en4]
          exact ⟨line2, by simp [rowD, tupI]⟩
    · simp [c1]
  · rintro δ ⟨s8, s9, rfl⟩
    have := hk s8 s9
    simp only [Gm.exts, zip_map] at this
    exact this
theorem allways_run {n : Int} {R : List (Int × Int × Int × Int)} {a b : Int} {N : Nat} (ha : 0 ≤ a ∧ a < N) (hE : ∀ x ∈ R, 0 ≤ x.2.1 ∧ x.2.1 < N) (hm : R.length ≤ 10) (hN : N ≤ 6)
    (hk : k (.list ((waysF (R.map en4) a b N).map tupI))) : (f_all_ways [.d (netD n R), .d (.int a), .d (.int b)]).run k w := by
  have hE' : ∀ e ∈ R.map en4, 0 ≤ e.2 ∧ e.2 < (N : Int) := fun e he => by
    obtain ⟨x, hx, rfl⟩ := List.mem_map.mp he
    exact hE x hx
  have hm' : (R.map en4).length ≤ 10 := by simpa using hm
  unfold f_all_ways b_all_ways
  rw [rw_dRun]
  simp only [run_bind]
  refine seqM (fun δ => δ = [.p (netD n R), .p (.int a), .p (.int b), .o [], .p (.list ((Gm.rows0 a).map rowD)), .non, .non, .non, .non, .non]) ?_ ?_
  · simp [sParOD, dStart, arSl, Gm.rows0, rowD, tupI]
    exact ⟨line1, line2, line1⟩
  rintro _ rfl
  refine seqM (fun δ => ∃ s5 s6 s7 s8 s9, δ = [.p (netD n R), .p (.int a), .p (.int b), .o ((Gm.allF (R.map en4) b N (Gm.rows0 a)).map tupI), .p (.list []), s5, s6, s7, s8, s9]) ?_ ?_
  · refine while_run (fun m δ => ∃ j s5 s6 s7 s8 s9, j ≤ N ∧ m = N - j ∧ δ = [.p (netD n R), .p (.int a), .p (.int b), .o ((Gm.allF (R.map en4) b j (Gm.rows0 a)).map tupI), .p (.list ((Gm.itR (R.map en4) b j (Gm.rows0 a)).map rowD)), s5, s6, s7, s8, s9]) N ⟨0, _, _, _, _, _, Nat.zero_le _, rfl, rfl⟩ ?_
    rintro m _ ⟨j, s5, s6, s7, s8, s9, hj, rfl, rfl⟩
    simp only [rw_tT, rw_dV, List.getElem?_cons_succ, List.getElem?_cons_zero, slotP_p, pure_bind, rw_truL, run_pure]
    by_cases c : Gm.itR (R.map en4) b j (Gm.rows0 a) = []
    · simp [c]
      have := Gm.allF_end c (N - j)
      rw [show j + (N - j) = N by omega] at this
      rw [this]
    · have hjN : j < N := by
        rcases Nat.lt_or_ge j N with z | z
        · exact z
        · have : j = N := by omega
          subst this
          exact absurd (Gm.it_end ha hE') c
      simp [c]
      have hok := Gm.rok_it (b := b) ha hE' j
      have hl1 := Gm.ext_le (a := a) (b := b) hm' (j := j) (by omega)
      have hl2 := Gm.allF_len (a := a) (b := b) hm' j (by omega)
      generalize hrows : Gm.itR (R.map en4) b j (Gm.rows0 a) = rows at *
      have hF' := Gm.allF_succ (E := R.map en4) (b := b) (j := j) (rows := Gm.rows0 a)
      have hI' := Gm.itR_succ (E := R.map en4) (b := b) (j := j) (rows := Gm.rows0 a)
      rw [hrows] at hF' hI'
      generalize hfnd : Gm.allF (R.map en4) b j (Gm.rows0 a) = fnd at *
      refine loop_pre (fun pre δ => ∃ s6 s7 s8 s9, δ = [.p (netD n R), .p (.int a), .p (.int b), .o (fnd.map tupI ++ (Gm.fin b (Gm.ext1 (R.map en4) pre)).map tupI), .p (.list (rows.map rowD)), .o (mor b (Gm.ext1 (R.map en4) pre)), s6, s7, s8, s9]) ⟨_, _, _, _, by simp [Gm.ext1, Gm.fin, mor, Gm.rest]; exact ⟨rfl, rfl, rfl, rfl⟩⟩ ?_ ?_
      · rintro pre r post δ e ⟨s6, s7, s8, s9, rfl⟩
        have hr := hok r (by rw [e]; simp)
        have hj2 := hr.lt
        have le : (Gm.ext1 (R.map en4) pre).length + R.length ≤ 1000000 + 10 := by
          have : (Gm.ext1 (R.map en4) pre).length ≤ (Gm.ext1 (R.map en4) rows).length := by
            rw [e]
            simp only [Gm.ext1, List.flatMap_append, List.length_append]
            omega
          omega
        have l2 := Gm.fin_len (b := b) (rows := Gm.ext1 (R.map en4) pre)
        have l3 := rest_len (b := b) (l := Gm.ext1 (R.map en4) pre)
        obtain ⟨wy, ns⟩ := r
        refine ⟨[.p (netD n R), .p (.int a), .p (.int b), .o (fnd.map tupI ++ (Gm.fin b (Gm.ext1 (R.map en4) pre)).map tupI), .p (.list (rows.map rowD)), .o (mor b (Gm.ext1 (R.map en4) pre)), .p (tupI wy), .p (tupI ns), s8, s9], rfl, ?_⟩
        have hwl : wy.length = j := hr.wl
        have hnl : ns = a :: wy.map (Gm.tgt (R.map en4)) := hr.nl
        refine aw_in (by rw [hnl]; simp) (by omega) (by rw [hnl]; simp; omega) (by simp; omega) (by simp [mor]; omega) fun s8 s9 => ?_
        refine ⟨.p (tupI wy), .p (tupI ns), s8, s9, ?_⟩
        have ef : Gm.ext1 (R.map en4) (pre ++ [(wy, ns)]) = Gm.ext1 (R.map en4) pre ++ Gm.exts (R.map en4) (wy, ns) := by simp [Gm.ext1]
        simp only [ef, fin_app, mor, rest_app, List.map_append, List.append_assoc]
      · rintro δ ⟨s6, s7, s8, s9, rfl⟩
        simp [fz]
        refine ⟨N - (j + 1), by omega, j + 1, by omega, rfl, ?_⟩
        rw [hF', hI']
        simp [mor, Gm.stepR]
  rintro _ ⟨s5, s6, s7, s8, s9, rfl⟩
  simp
  refine sorted_run (fun x hx => (Gm.wok_all ha hE' N x hx).ne) ?_
  exact hk
theorem last_of {ns : List Int} (hne : ns ≠ []) : ∃ la, (ns.map PyData.int).getLast? = some (.int la) ∧ ns.getLast? = some la := by
  cases h : ns.getLast? with
  | none => exact absurd (List.getLast?_eq_none_iff.mp h) hne
  | some x => exact ⟨x, by rw [List.getLast?_map, h]; rfl, rfl⟩
theorem ltrow {E : List (Int × Int)} {n : Nat} {a : Int} {j : Nat} {r : Gm.Row} (h : Gm.ROk E n a j r) : r.2 ≠ [] := by rw [h.nl]; simp
theorem row_last {r : Gm.Row} (h : r.2 ≠ []) {b : Int} : ∃ la, atI (r.2.map PyData.int) (-1) = some (.int la) ∧ Gm.isE b r = decide (la = b) := by
  obtain ⟨la, h1, h2⟩ := last_of h
  refine ⟨la, by rw [atI_last, h1], ?_⟩
  unfold Gm.isE
  rw [h2]
  simp
end
section
def pO (a : Addr) (n : Nat) (R B : List D) : Os := ⟨a, [("many", .d (.int (n : Int))), ("rows", .o R), ("basis", .o B)]⟩
variable {a : Addr} {n : Nat} {R B R' : List D} {N : Nat → Nat → Rat} {b : Nat → Nat}
@[simp] theorem pO_a : (pO a n R B).a = a := rfl
@[simp] theorem lk_many : List.lookup ("many" : Str) (pO a n R B).at_ = some (.d (.int (n : Int))) := rfl
@[simp] theorem lk_rows : List.lookup ("rows" : Str) (pO a n R B).at_ = some (.o R) := rfl
@[simp] theorem lk_basis : List.lookup ("basis" : Str) (pO a n R B).at_ = some (.o B) := rfl
@[simp] theorem lk_turn : List.lookup ("turn" : Str) (pO a n R B).at_ = none := rfl
@[simp] theorem lk_leaving : List.lookup ("leaving" : Str) (pO a n R B).at_ = none := rfl
@[simp] theorem lk_before : List.lookup ("is_before" : Str) (pO a n R B).at_ = none := rfl
@[simp] theorem lk_first : List.lookup ("first_row" : Str) (pO a n R B).at_ = none := rfl
@[simp] theorem lk_solved : List.lookup ("solved" : Str) (pO a n R B).at_ = none := rfl
@[simp] theorem put_rows : (pO a n R B).put "rows" (.o R') = pO a n R' B := rfl
@[simp] theorem put_basis : (pO a n R B).put "basis" (.o R') = pO a n R R' := rfl
@[simp] theorem pO_len : (pO a n R B).at_.length = 3 := rfl
end
section
variable {n B : Nat} {N T : Nat → Nat → Rat} {b : Nat → Nat} {a : Addr} {w : Exn → Prop}
structure Gd (n : Nat) (N T : Nat → Nat → Rat) (b : Nat → Nat) : Prop where
  tab : Lk.Tab n N T b
  ran : ∀ i, i < n → b i ≤ 2 * n
  det : Lk.dB n N b ≠ 0
theorem Gd.start (I : Lk.Ini n N) : Gd n N N id := ⟨Lk.Tab.start I.un, fun i hi => by simp; omega, by rw [Lk.dB_start I.un]; decide⟩
theorem Gd.piv (g : Gd n N T b) {p c : Nat} (hp : p < n) (hc : c ≤ 2 * n) (h0 : T p c ≠ 0) : Gd n N (Lk.piv T p c) (Lk.put b p c) := by
  refine ⟨g.tab.piv hp h0, fun i hi => ?_, ?_⟩
  · by_cases e : i = p
    · subst e; rw [Lk.put_p]; exact hc
    · rw [Lk.put_n e]; exact g.ran i hi
  · rw [Lk.dB_put g.tab hp]
    exact fun z => (Rat.mul_eq_zero.mp z).elim h0 g.det
end
section
variable {n B : Nat} {M : Nat → Nat → Rat} {q : Nat → Rat} {a : Addr} {w : Exn → Prop}
def N0 (n : Nat) (M : Nat → Nat → Rat) (q : Nat → Rat) : Nat → Nat → Rat := fun i j => if j < n then (if i = j then 1 else 0) else if j < 2 * n then - M i (j - n) else if j = 2 * n then -1 else q i
theorem N0_last {i : Nat} : N0 n M q i (2 * n + 1) = q i := by
  unfold N0
  rw [if_neg (by omega), if_neg (by omega), if_neg (by omega)]
end
section
variable {n B : Nat} {M : Nat → Nat → Rat} {q : Nat → Rat} {a : Addr} {w : Exn → Prop}
def pO1 (a : Addr) (n : Nat) (R : List D) : Os := ⟨a, [("many", .d (.int (n : Int))), ("rows", .o R)]⟩
@[simp] theorem lk1_rows {R : List D} : List.lookup ("rows" : Str) (pO1 a n R).at_ = some (.o R) := rfl
@[simp] theorem put1_rows {R R' : List D} : (pO1 a n R).put "rows" (.o R') = pO1 a n R' := rfl
@[simp] theorem put1_basis {R R' : List D} : (pO1 a n R).put "basis" (.o R') = pO a n R R' := rfl
@[simp] theorem pO1_a {R : List D} : (pO1 a n R).a = a := rfl
end
section
abbrev Rd4 := Int × Int × Int × Int
def slR (R : List Rd4) (x : Int) : Int := (R.getD x.toNat (0, 0, 0, 0)).2.2.1
def ovR (R : List Rd4) (w v : List Int) : Int := ((w.filter fun x => decide (x ∈ v)).map (slR R)).sum
abbrev Us := List (Nat × List Int)
variable {nn : Int} {R : List Rd4} {U : Us} {ds bs : List Rat} {w : Exn → Prop}
end
section
variable {nn : Int} {R : List Rd4} {U : Us} {ds bs : List Rat} {w : Exn → Prop} {B : Nat}
def wcR (bs : List Rat) (wy : List Int) : Rat := sumQ (wy.map fun x => bs.getD x.toNat 0)
end
section
variable {nn : Int} {R : List Rd4} {U : Us} {ds bs : List Rat} {w : Exn → Prop} {B : Nat}
def ug (U : Us) (j : Nat) : Nat × List Int := U.getD j (0, [])
def MU (R : List Rd4) (U : Us) : Nat → Nat → Rat := fun i j =>
  if i < U.length then (if j < U.length then (ovR R (ug U i).2 (ug U j).2 : Rat) else if j - U.length = (ug U i).1 then -1 else 0) else if j < U.length then (if (ug U j).1 = i - U.length then 1 else 0) else 0
def qU (bs : List Rat) (U : Us) (ds : List Rat) : Nat → Rat := fun i => if i < U.length then wcR bs (ug U i).2 else - ds.getD (i - U.length) 0
def mU (U : Us) (ds : List Rat) : Nat := U.length + ds.length
theorem ug_get {j : Nat} (h : j < U.length) : ug U j = U[j] := by unfold ug; simp [h]
end
section
open Lk
theorem sumQ_sm {r : Nat} {g : Int → Rat} : ∀ {l : List Int}, l.Nodup → (∀ x ∈ l, 0 ≤ x ∧ x < r) → sumQ (l.map g) = sm r fun (x : Nat) => if (x : Int) ∈ l then g x else 0
  | [], _, _ => by
    rw [sm_zero fun x _ => by simp]
    rfl
  | a :: l, hn, hr => by
    obtain ⟨h1, h2⟩ := List.nodup_cons.mp hn
    obtain ⟨a0, ar⟩ := hr a (by simp)
    obtain ⟨n, rfl⟩ : ∃ n : Nat, a = n := ⟨a.toNat, by omega⟩
    have hnr : n < r := by omega
    rw [List.map_cons]
    show g n + sumQ (l.map g) = _
    rw [sumQ_sm h2 fun x hx => hr x (by simp [hx]), sm_out hnr, sm_out (f := fun (x : Nat) => if (x : Int) ∈ (n : Int) :: l then g x else 0) hnr]
    have e1 : (if (n : Int) ∈ l then g n else 0) = 0 := if_neg h1
    have e2 : (if (n : Int) ∈ (n : Int) :: l then g n else 0) = g n := if_pos (by simp)
    rw [e1, e2]
    have e3 : (sm r fun i => if i = n then 0 else if (i : Int) ∈ l then g i else 0) = sm r fun i => if i = n then 0 else if (i : Int) ∈ (n : Int) :: l then g i else 0 := sm_congr fun i _ => by
      by_cases c : i = n
      · rw [if_pos c, if_pos c]
      · have : ((i : Int) ∈ (n : Int) :: l) ↔ (i : Int) ∈ l := by
          simp only [List.mem_cons]
          constructor
          · rintro (h | h)
            · omega
            · exact h
          · exact .inr
        simp only [this]
    rw [e3]
    grind
def indW (w : List Int) (x : Nat) : Rat := if (x : Int) ∈ w then 1 else 0
def PrU (R : List Rd4) (U : Us) (ds bs : List Rat) : Pr := ⟨U.length, ds.length, R.length, fun j => (ug U j).1, fun j => indW (ug U j).2, fun x => (slR R x : Rat), fun x => bs.getD x 0, fun t => ds.getD t 0⟩
variable {R : List Rd4} {U : Us} {ds bs : List Rat} {T : Nat}
structure UOk (R : List Rd4) (U : Us) (ds bs : List Rat) : Prop where
  pos : 0 < U.length
  len : bs.length = R.length
  nod : ∀ u ∈ U, u.2.Nodup
  rng : ∀ u ∈ U, ∀ x ∈ u.2, 0 ≤ x ∧ x < R.length
  trp : ∀ u ∈ U, u.1 < ds.length
  all : ∀ t, t < ds.length → ∃ u ∈ U, u.1 = t
  s0 : ∀ x, 0 ≤ slR R x
  b0 : ∀ q ∈ bs, 0 ≤ q
  d0 : ∀ q ∈ ds, 0 < q
theorem ug_mem {j : Nat} (h : j < U.length) : ug U j ∈ U := by rw [ug_get h]; exact List.getElem_mem h
theorem PrU.ok (h : UOk R U ds bs) : (PrU R U ds bs).Ok := by
  refine ⟨fun j hj => h.trp _ (ug_mem hj), fun j x => ?_, fun x => ?_, fun x => ?_, fun t => ?_, fun t ht => ?_⟩
  · show indW _ _ = 0 ∨ indW _ _ = 1
    unfold indW
    split <;> simp
  · exact Rat.intCast_nonneg.mpr (h.s0 _)
  · show 0 ≤ bs.getD x 0
    by_cases c : x < bs.length
    · simp [c]; exact h.b0 _ (List.getElem_mem c)
    · simp [c]
  · show 0 ≤ ds.getD t 0
    by_cases c : t < ds.length
    · simp [c]; have := h.d0 _ (List.getElem_mem c); grind
    · simp [c]
  · obtain ⟨u, hu, e⟩ := h.all t ht
    obtain ⟨j, hj, e2⟩ := List.getElem_of_mem hu
    exact ⟨j, hj, by show (ug U j).1 = t; rw [ug_get hj, e2, e]⟩
variable {n : Nat} {q : Nat → Rat} {M : Nat → Nat → Rat}
end
section
open Lk
theorem rb_cd {E K : Nat} {x : Rat} {B : Nat} (h : CD E K x) (hE : E < 2 ^ B) (hK : K < 2 ^ B) : RB x B := by
  obtain ⟨h0, u, hu, hk⟩ := h
  have e : x = (u : Rat) / ((E : Int) : Rat) := by
    have : ((E : Int) : Rat) ≠ 0 := by
      have : (E : Int) ≠ 0 := by omega
      exact_mod_cast this
    have e2 : ((E : Int) : Rat) = (E : Rat) := rfl
    rw [← hu, e2]
    rw [e2] at this
    grind
  rw [e]
  exact ratio_rb (by omega) (by omega) (by simpa using hE)
variable {R : List Rd4} {U : Us} {ds bs : List Rat} {w : Exn → Prop} {n : Nat} {M : Nat → Nat → Rat} {q : Nat → Rat}
structure Szs (n : Nat) (M : Nat → Nat → Rat) (q : Nat → Rat) (K0 e Kq g ee kq : Nat) : Prop where
  k1 : 1 ≤ K0
  mi : ∀ i j, i < n → j < n → IsInt (M i j) K0
  qi : ∀ i, i < n → CD e Kq (q i)
  hg : (n * K0) ^ n < 2 ^ g
  he : e < 2 ^ ee
  hq : Kq < 2 ^ kq
  hn : n < 128
variable {K0 e Kq g ee kq : Nat}
theorem isInt_small {x : Rat} {K : Nat} (h : x = 0 ∨ x = 1 ∨ x = -1) (hK : 1 ≤ K) : IsInt x K := by
  rcases h with rfl | rfl | rfl
  · exact ⟨0, rfl, by simp⟩
  · exact ⟨1, rfl, by simpa using hK⟩
  · exact ⟨-1, rfl, by simpa using hK⟩
theorem Szs.ent (S : Szs n M q K0 e Kq g ee kq) : ∀ i j, i < n → j ≤ 2 * n → IsInt (N0 n M q i j) K0 := by
  intro i j hi hj
  unfold N0
  by_cases c1 : j < n
  · rw [if_pos c1]
    exact isInt_small (by split <;> simp) S.k1
  rw [if_neg c1]
  by_cases c2 : j < 2 * n
  · rw [if_pos c2]
    obtain ⟨u, hu, hk⟩ := S.mi i (j - n) hi (by omega)
    exact ⟨-u, by rw [hu, Rat.intCast_neg], by rw [Int.natAbs_neg]; exact hk⟩
  · rw [if_neg c2, if_pos (by omega)]
    exact isInt_small (by simp) S.k1
theorem Szs.tab (S : Szs n M q K0 e Kq g ee kq) {T : Nat → Nat → Rat} {b : Nat → Nat} (G : Gd n (N0 n M q) T b) : ∃ D : Nat, 0 < D ∧ D < 2 ^ g ∧ (∀ k j, k < n → j ≤ 2 * n → CD D ((n * K0) ^ n) (T k j)) ∧ ∀ k, k < n → CD (D * e) (n * ((n * K0) ^ n * Kq)) (T k (2 * n + 1)) := by
  obtain ⟨D, h0, h1, h2⟩ := G.tab.cd G.det (fun i j hi hj => S.ent i j hi hj) G.ran
  exact ⟨D, h0, Nat.lt_of_le_of_lt h1 S.hg, h2, fun k hk => G.tab.cd_last h2 (fun i hi => by rw [N0_last]; exact S.qi i hi) hk⟩
theorem Szs.top (S : Szs n M q K0 e Kq g ee kq) : n * ((n * K0) ^ n * Kq) < 2 ^ (7 + (g + kq)) := by
  rw [Nat.pow_add, Nat.pow_add]
  have h1 : (n * K0) ^ n * Kq < 2 ^ g * 2 ^ kq := Nat.mul_lt_mul'' S.hg S.hq
  have h2 : n < 2 ^ 7 := S.hn
  exact Nat.mul_lt_mul'' h2 h1
theorem Szs.rb (S : Szs n M q K0 e Kq g ee kq) {T : Nat → Nat → Rat} {b : Nat → Nat} (G : Gd n (N0 n M q) T b) : ∀ i, i < n → ∀ j, j < 2 * n + 2 → RB (T i j) (7 + (g + (ee + kq))) := by
  obtain ⟨D, h0, h1, h2, h3⟩ := S.tab G
  have p : ∀ {a b : Nat}, a ≤ b → 2 ^ a ≤ 2 ^ b := fun h => Nat.pow_le_pow_right (by decide) h
  intro i hi j hj
  by_cases c : j ≤ 2 * n
  · exact rb_cd (h2 i j hi c) (Nat.lt_of_lt_of_le h1 (p (by omega))) (Nat.lt_of_lt_of_le S.hg (p (by omega)))
  · have : j = 2 * n + 1 := by omega
    subst this
    refine rb_cd (h3 i hi) ?_ (Nat.lt_of_lt_of_le S.top (p (by omega)))
    have : D * e < 2 ^ g * 2 ^ ee := Nat.mul_lt_mul'' h1 S.he
    rw [← Nat.pow_add] at this
    exact Nat.lt_of_lt_of_le this (p (by omega))
end
section
open Lk
abbrev Pt := List (List Int × Rat)
theorem cd_add {E K L : Nat} {r s : Rat} (h : CD E K r) (g : CD E L s) : CD E (K + L) (r + s) := by
  obtain ⟨p, u, hu, hk⟩ := h
  obtain ⟨_, v, hv, hk'⟩ := g
  refine ⟨p, u + v, ?_, by omega⟩
  have : (r + s) * (E : Rat) = r * E + s * E := by grind
  rw [this, hu, hv, Rat.intCast_add]
theorem cd_mono {E K L : Nat} {r : Rat} (h : CD E K r) (l : K ≤ L) : CD E L r := ⟨h.1, h.2.mono l⟩
theorem cd_zero {E : Nat} (h : 0 < E) : CD E 0 0 := ⟨h, 0, by rw [Rat.zero_mul]; rfl, by simp⟩
noncomputable def trimP : Pt → Rat → Pt
  | [], _ => []
  | (w, a) :: p, r => if 0 < (if r < a then r else a) then (w, if r < a then r else a) :: trimP p (r - if r < a then r else a) else trimP p r
variable {E K B : Nat} {wx : Exn → Prop}
end
section
open Lk
def flL : Pt → Nat → Rat
  | [], _ => 0
  | q :: L, x => (if (x : Int) ∈ q.1 then q.2 else 0) + flL L x
theorem flL_app {L L' : Pt} {x : Nat} : flL (L ++ L') x = flL L x + flL L' x := by
  induction L with
  | nil => simp [flL]; grind
  | cons q L ih =>
    show _ + flL (L ++ L') x = _ + flL L x + _
    rw [ih]
    grind
variable {E K B : Nat} {w : Exn → Prop} {nn : Int} {R : List Rd4}
theorem flL_cd {L : Pt} {x : Nat} (hE : 0 < E) (h : ∀ q ∈ L, CD E K q.2) : CD E (L.length * K) (flL L x) := by
  induction L with
  | nil => rw [List.length_nil, Nat.zero_mul]; exact cd_zero hE
  | cons q L ih =>
    have h1 : CD E K (if (x : Int) ∈ q.1 then q.2 else 0) := by
      split
      · exact h q (by simp)
      · exact cd_mono (cd_zero hE) (by omega)
    have := cd_add h1 (ih fun y hy => h y (by simp [hy]))
    rw [List.length_cons, Nat.succ_mul, Nat.add_comm]
    exact this
theorem flL_nn {L : Pt} {x : Nat} (h : ∀ q ∈ L, 0 ≤ q.2) : 0 ≤ flL L x := by
  induction L with
  | nil => exact Rat.le_refl
  | cons q L ih =>
    have h1 := h q (by simp)
    have h2 := ih fun y hy => h y (by simp [hy])
    show 0 ≤ _ + flL L x
    split <;> grind
end
section
open Lk
variable {B : Nat} {w : Exn → Prop}
def wcC (Cx : Nat → Rat) (wy : List Int) : Rat := sumQ (wy.map fun x => Cx x.toNat)
end
section
open Lk
variable {B : Nat} {w : Exn → Prop}
abbrev Ws := List (List (List Int))
end
section
open Lk
variable {B : Nat} {w : Exn → Prop}
structure Chp (Cx : Nat → Rat) (W : Ws) (P : List Pt) (n : Nat) (F : Us) : Prop where
  lt : ∀ u ∈ F, u.1 < n
  mem : ∀ u ∈ F, u.2 ∈ W.getD u.1 []
  chp : ∀ u ∈ F, ∃ q ∈ P.getD u.1 [], wcC Cx u.2 < wcC Cx q.1
  no : ∀ t, t < n → (∀ u ∈ F, u.1 ≠ t) → ∀ q ∈ P.getD t [], ∀ x ∈ W.getD t [], wcC Cx q.1 ≤ wcC Cx x
  nd : F.Nodup
end
section
open Lk
variable {w : Exn → Prop} {U : Us} {z : Nat → Rat} {t m : Nat}
def btP (U : Us) (z : Nat → Rat) (t : Nat) : Pt := ((List.range U.length).filter fun j => decide ((ug U j).1 = t)).map fun j => ((ug U j).2, z j)
end
section
open Lk
def amS : Pt → Rat
  | [] => 0
  | q :: p => q.2 + amS p
theorem trim_cons {wy : List Int} {a r : Rat} {p : Pt} : trimP ((wy, a) :: p) r = if 0 < (if r < a then r else a) then (wy, if r < a then r else a) :: trimP p (r - if r < a then r else a) else trimP p r := rfl
theorem trim_zero {p : Pt} (hp : ∀ q ∈ p, 0 < q.2) : trimP p 0 = [] := by
  induction p with
  | nil => rfl
  | cons y p ih =>
    obtain ⟨wy, a⟩ := y
    have h : (0 : Rat) < a := hp (wy, a) (by simp)
    rw [trim_cons, if_pos h, if_neg (by grind)]
    exact ih fun q hq => hp q (by simp [hq])
theorem trim_pos {p : Pt} : ∀ {r : Rat}, ∀ q ∈ trimP p r, 0 < q.2 := by
  induction p with
  | nil => intro r q hq; cases hq
  | cons y p ih =>
    obtain ⟨wy, a⟩ := y
    intro r q hq
    rw [trim_cons] at hq
    generalize (if r < a then r else a) = s at hq
    split at hq
    · rcases List.mem_cons.mp hq with rfl | hq
      · assumption
      · exact ih q hq
    · exact ih q hq
theorem trim_sub {p : Pt} : ∀ {r : Rat}, ((trimP p r).map (·.1)).Sublist (p.map (·.1)) := by
  induction p with
  | nil => intro r; exact List.Sublist.refl _
  | cons y p ih =>
    obtain ⟨wy, a⟩ := y
    intro r
    rw [trim_cons]
    generalize (if r < a then r else a) = s
    split
    · exact (ih).cons₂ _
    · exact (ih).cons _
theorem amS_pos {p : Pt} (hp : ∀ q ∈ p, 0 < q.2) : 0 ≤ amS p := by
  induction p with
  | nil => exact Rat.le_refl
  | cons y p ih =>
    have h1 := hp y (by simp)
    have h2 := ih fun q hq => hp q (by simp [hq])
    show 0 ≤ y.2 + amS p
    grind
theorem trim_sum {p : Pt} : ∀ {r : Rat}, (∀ q ∈ p, 0 < q.2) → 0 ≤ r → r ≤ amS p → amS (trimP p r) = r := by
  induction p with
  | nil =>
    intro r _ r0 h
    have h : r ≤ 0 := h
    show (0 : Rat) = r
    grind
  | cons y p ih =>
    obtain ⟨wy, a⟩ := y
    intro r hp r0 h
    have ha : (0 : Rat) < a := hp (wy, a) (by simp)
    have h : r ≤ a + amS p := h
    have hp' : ∀ q ∈ p, 0 < q.2 := fun q hq => hp q (by simp [hq])
    rw [trim_cons]
    by_cases c : r < a
    · simp only [if_pos c]
      have e : r - r = 0 := by grind
      rw [e, trim_zero hp']
      by_cases c2 : 0 < r
      · rw [if_pos c2]
        show r + 0 = r
        grind
      · have e0 : r = 0 := by grind
        rw [if_neg c2, e0, trim_zero hp']
        rfl
    · simp only [if_neg c]
      rw [if_pos ha]
      show a + amS (trimP p (r - a)) = r
      rw [ih hp' (by grind) (by grind)]
      grind
theorem trim_all {p : Pt} : ∀ {r : Rat}, (∀ q ∈ p, 0 < q.2) → amS p = r → trimP p r = p := by
  induction p with
  | nil => intro r _ _; rfl
  | cons y p ih =>
    obtain ⟨wy, a⟩ := y
    intro r hp h
    have ha : (0 : Rat) < a := hp (wy, a) (by simp)
    have h : a + amS p = r := h
    have hp' : ∀ q ∈ p, 0 < q.2 := fun q hq => hp q (by simp [hq])
    have h0 := amS_pos hp'
    have c : ¬ r < a := by grind
    rw [trim_cons]
    simp only [if_neg c]
    rw [if_pos ha, ih hp' (by grind)]
theorem trim_fl {p : Pt} {x : Nat} : ∀ {r : Rat}, (∀ q ∈ p, 0 < q.2) → 0 ≤ r → flL (trimP p r) x ≤ flL p x := by
  induction p with
  | nil => intro r _ _; exact Rat.le_refl
  | cons y p ih =>
    obtain ⟨wy, a⟩ := y
    intro r hp r0
    have ha : (0 : Rat) < a := hp (wy, a) (by simp)
    have hp' : ∀ q ∈ p, 0 < q.2 := fun q hq => hp q (by simp [hq])
    rw [trim_cons]
    have s1 : (if r < a then r else a) ≤ a := by split <;> grind
    have s3 : (if r < a then r else a) ≤ r := by split <;> grind
    generalize (if r < a then r else a) = s at s1 s3 ⊢
    split
    · have := ih (r := r - s) hp' (by grind)
      show (if (x : Int) ∈ wy then s else 0) + flL (trimP p (r - s)) x ≤ (if (x : Int) ∈ wy then a else 0) + flL p x
      split <;> grind
    · have := ih (r := r) hp' r0
      show flL (trimP p r) x ≤ (if (x : Int) ∈ wy then a else 0) + flL p x
      split <;> grind
theorem fl_perm {p q : Pt} {x : Nat} (h : p.Perm q) : flL p x = flL q x := by
  induction h with
  | nil => rfl
  | cons a _ ih => show _ + _ = _ + _; rw [ih]
  | swap a b l => show _ + (_ + _) = _ + (_ + _); grind
  | trans _ _ h1 h2 => rw [h1, h2]
theorem am_perm {p q : Pt} (h : p.Perm q) : amS p = amS q := by
  induction h with
  | nil => rfl
  | cons a _ ih => show _ + _ = _ + _; rw [ih]
  | swap a b l => show _ + (_ + _) = _ + (_ + _); grind
  | trans _ _ h1 h2 => rw [h1, h2]
theorem fl_filter {p : Pt} {x : Nat} (hp : ∀ q ∈ p, 0 ≤ q.2) : flL (p.filter fun q => decide (0 < q.2)) x = flL p x := by
  induction p with
  | nil => rfl
  | cons y p ih =>
    have h0 := hp y (by simp)
    have e := ih fun q hq => hp q (by simp [hq])
    rw [List.filter_cons]
    split
    · show _ + flL (p.filter _) x = _ + _
      rw [e]
    · rename_i c
      have c : ¬ 0 < y.2 := fun z => c (decide_eq_true z)
      have y0 : y.2 = 0 := by grind
      rw [e]
      show flL p x = (if (x : Int) ∈ y.1 then y.2 else 0) + flL p x
      rw [y0]
      split <;> grind
theorem am_filter {p : Pt} (hp : ∀ q ∈ p, 0 ≤ q.2) : amS (p.filter fun q => decide (0 < q.2)) = amS p := by
  induction p with
  | nil => rfl
  | cons y p ih =>
    have h0 := hp y (by simp)
    have e := ih fun q hq => hp q (by simp [hq])
    rw [List.filter_cons]
    split
    · show _ + amS (p.filter _) = _ + _
      rw [e]
    · rename_i c
      have c : ¬ 0 < y.2 := fun z => c (decide_eq_true z)
      have y0 : y.2 = 0 := by grind
      rw [e]
      show amS p = y.2 + amS p
      rw [y0]
      grind
end
section
open Lk
variable {R : List Rd4} {U : Us} {ds bs : List Rat} {z : Nat → Rat} {P : List Pt}
theorem amS_app {p q : Pt} : amS (p ++ q) = amS p + amS q := by
  induction p with
  | nil => show amS q = 0 + amS q; grind
  | cons y p ih => show _ + amS (p ++ q) = _ + _ + _; rw [ih]; grind
theorem bt_mem {t : Nat} {r : List Int × Rat} : r ∈ btP U z t ↔ ∃ j, j < U.length ∧ (ug U j).1 = t ∧ r = ((ug U j).2, z j) := by
  unfold btP
  constructor
  · intro h
    obtain ⟨j, hj, rfl⟩ := List.mem_map.mp h
    obtain ⟨a, b⟩ := List.mem_filter.mp hj
    exact ⟨j, List.mem_range.mp a, of_decide_eq_true b, rfl⟩
  · rintro ⟨j, h1, h2, rfl⟩
    exact List.mem_map.mpr ⟨j, List.mem_filter.mpr ⟨List.mem_range.mpr h1, decide_eq_true h2⟩, rfl⟩
theorem bt_nn {t : Nat} (S : (PrU R U ds bs).Sol z) : ∀ r ∈ btP U z t, 0 ≤ r.2 := fun r hr => by
  obtain ⟨j, h1, h2, rfl⟩ := bt_mem.mp hr
  exact S.nn j h1
theorem am_range {t : Nat} : ∀ n, amS (((List.range n).filter fun j => decide ((ug U j).1 = t)).map fun j => ((ug U j).2, z j)) = sm n fun j => if (ug U j).1 = t then z j else 0
  | 0 => rfl
  | n + 1 => by
    rw [List.range_succ, List.filter_append, List.map_append, amS_app, am_range n]
    show _ = sm n _ + _
    congr 1
    show _ = if (ug U n).1 = t then z n else 0
    by_cases c : (ug U n).1 = t
    · rw [if_pos c, List.filter_cons, if_pos (decide_eq_true c)]
      show z n + 0 = z n
      grind
    · rw [if_neg c, List.filter_cons, if_neg (by simpa using c)]
      rfl
theorem fl_range {t x : Nat} : ∀ n, flL (((List.range n).filter fun j => decide ((ug U j).1 = t)).map fun j => ((ug U j).2, z j)) x = sm n fun j => if (ug U j).1 = t then indW (ug U j).2 x * z j else 0
  | 0 => rfl
  | n + 1 => by
    rw [List.range_succ, List.filter_append, List.map_append, flL_app, fl_range n]
    show _ = sm n _ + _
    congr 1
    show _ = if (ug U n).1 = t then indW (ug U n).2 x * z n else 0
    by_cases c : (ug U n).1 = t
    · rw [if_pos c, List.filter_cons, if_pos (decide_eq_true c)]
      show (if (x : Int) ∈ (ug U n).2 then z n else 0) + 0 = _
      unfold indW
      split <;> grind
    · rw [if_neg c, List.filter_cons, if_neg (by simpa using c)]
      rfl
theorem am_bt {t : Nat} : amS (btP U z t) = (PrU R U ds bs).tot z t := am_range _
theorem fl_bt {x : Nat} (h : UOk R U ds bs) : (PrU R U ds bs).fl z x = sm ds.length fun t => flL (btP U z t) x := by
  have e : (sm ds.length fun t => flL (btP U z t) x) = sm ds.length fun t => sm U.length fun j => if (ug U j).1 = t then indW (ug U j).2 x * z j else 0 := sm_congr fun t _ => fl_range _
  rw [e, sm_swap]
  show (sm U.length fun j => indW (ug U j).2 x * z j) = _
  refine sm_congr fun j hj => ?_
  rw [sm_one (h.trp _ (ug_mem hj)) fun t _ hn => if_neg fun y => hn y.symm, if_pos rfl]
def Cut (U : Us) (z : Nat → Rat) (ds : List Rat) (n : Nat) (P : List Pt) : Prop := P.length = n ∧ ∀ t, t < n → ∃ q : Pt, q.Perm (btP U z t) ∧ q.Pairwise (fun x y => x.1 < y.1) ∧ P.getD t [] = trimP (q.filter fun r => decide (0 < r.2)) (ds.getD t 0)
theorem fl_flat {x : Nat} : ∀ {P : List Pt}, flL (P.flatMap id) x = sm P.length fun t => flL (P.getD t []) x := by
  intro P
  have : ∀ n, n ≤ P.length → flL ((P.take n).flatMap id) x = sm n fun t => flL (P.getD t []) x := by
    intro n
    induction n with
    | zero => intro _; rfl
    | succ n ih =>
      intro hn
      rw [List.take_succ, List.flatMap_append, flL_app, ih (by omega), List.getElem?_eq_getElem (by omega)]
      show _ + flL ((P[n] :: []).flatMap id) x = sm n _ + _
      simp [List.getElem?_eq_getElem (show n < P.length by omega)]
  have h := this P.length (Nat.le_refl _)
  rwa [List.take_length] at h
variable {n : Nat}
theorem cut_rows (h : UOk R U ds bs) (S : (PrU R U ds bs).Sol z) (C : Cut U z ds ds.length P) {t : Nat} (ht : t < ds.length) :
    (∀ r ∈ P.getD t [], 0 < r.2 ∧ ∃ j, j < U.length ∧ (ug U j).1 = t ∧ r.1 = (ug U j).2 ∧ 0 < z j) ∧ (P.getD t []).Pairwise (fun x y => x.1 < y.1) ∧ amS (P.getD t []) = ds.getD t 0 ∧
    (∀ x, 0 ≤ flL (P.getD t []) x ∧ flL (P.getD t []) x ≤ flL (btP U z t) x) ∧ (0 < z (U.length + t) → ∀ x, flL (P.getD t []) x = flL (btP U z t) x) := by
  obtain ⟨q, qp, qs, e⟩ := C.2 t ht
  have q0 : ∀ r ∈ q, 0 ≤ r.2 := fun r hr => bt_nn S r (qp.mem_iff.mp hr)
  have p0 : ∀ r ∈ q.filter fun r => decide (0 < r.2), 0 < r.2 := fun r hr => of_decide_eq_true (List.mem_filter.mp hr).2
  have d0 : 0 < ds.getD t 0 := by
    have := h.d0 _ (List.getElem_mem ht)
    simpa [ht] using this
  have am : amS (q.filter fun r => decide (0 < r.2)) = (PrU R U ds bs).tot z t := by rw [am_filter q0, am_perm qp, am_bt (R := R) (ds := ds) (bs := bs)]
  have dm : ds.getD t 0 ≤ (PrU R U ds bs).tot z t := S.dem t ht
  rw [e]
  have sub := trim_sub (p := q.filter fun r => decide (0 < r.2)) (r := ds.getD t 0)
  refine ⟨fun r hr => ⟨trim_pos r hr, ?_⟩, ?_, trim_sum p0 (by grind) (by rw [am]; exact dm), fun x => ⟨flL_nn fun r hr => by have := trim_pos r hr; grind, ?_⟩, fun up x => ?_⟩
  · obtain ⟨s, hs, es⟩ := List.mem_map.mp (sub.subset (List.mem_map.mpr ⟨r, hr, rfl⟩))
    obtain ⟨a, b⟩ := List.mem_filter.mp hs
    obtain ⟨j, j1, j2, rfl⟩ := bt_mem.mp (qp.mem_iff.mp a)
    exact ⟨j, j1, j2, es.symm, of_decide_eq_true b⟩
  · have h1 : (q.map (·.1)).Pairwise (fun x y => x < y) := List.pairwise_map.mpr qs
    have h2 := (List.Pairwise.sublist sub (h1.sublist (List.filter_sublist.map _)))
    exact List.pairwise_map.mp h2
  · have := trim_fl (p := q.filter fun r => decide (0 < r.2)) (x := x) (r := ds.getD t 0) p0 (by grind)
    rw [fl_filter q0, fl_perm qp] at this
    exact this
  · have f : (PrU R U ds bs).tot z t = ds.getD t 0 := S.full t ht up
    rw [trim_all p0 (by rw [am, f]), fl_filter q0, fl_perm qp]
theorem cut_fl (h : UOk R U ds bs) (S : (PrU R U ds bs).Sol z) (C : Cut U z ds ds.length P) {x : Nat} (hx : x < R.length) : (slR R x : Rat) * flL (P.flatMap id) x = (slR R x : Rat) * (PrU R U ds bs).fl z x := by
  have ok := PrU.ok h
  have s0 : (0 : Rat) ≤ (slR R x : Rat) := ok.s0 x
  have f1 : flL (P.flatMap id) x = sm ds.length fun t => flL (P.getD t []) x := by rw [fl_flat, C.1]
  have le : flL (P.flatMap id) x ≤ (PrU R U ds bs).fl z x := by
    rw [f1, fl_bt h]
    exact sm_le fun t ht => ((cut_rows h S C ht).2.2.2.1 x).2
  have nn : 0 ≤ flL (P.flatMap id) x := by
    rw [f1]
    exact sm_nn fun t ht => ((cut_rows h S C ht).2.2.2.1 x).1
  by_cases c : (slR R x : Rat) * (PrU R U ds bs).fl z x = 0
  · have a := Rat.mul_le_mul_of_nonneg_left le s0
    have b := Rat.mul_nonneg s0 nn
    grind
  · congr 1
    rw [f1, fl_bt h]
    refine sm_congr fun t ht => ?_
    obtain ⟨_, _, _, k1, k2⟩ := cut_rows h S C ht
    by_cases up : 0 < z (U.length + t)
    · exact k2 up x
    have u0 : z (U.length + t) = 0 := by have : 0 ≤ z (U.length + t) := S.un t ht; grind
    have e0 : flL (btP U z t) x = 0 := by
      unfold btP
      rw [fl_range]
      refine sm_zero fun j hj => ?_
      by_cases c1 : (ug U j).1 = t
      · rw [if_pos c1]
        by_cases zp : 0 < z j
        · have c0 : (PrU R U ds bs).cst z j = 0 := by
            rw [S.eq j hj zp]
            show z (U.length + (ug U j).1) = 0
            rw [c1, u0]
          have fz := fun y => Pr.fl_nn (x := y) ok S.nn
          have i0 : ∀ y, 0 ≤ (PrU R U ds bs).ind j y := fun y => by rcases ok.i01 j y with e | e <;> rw [e] <;> decide
          have t0 := sm_nn_zero (fun y _ => Rat.mul_nonneg (i0 y) (by
            have := Rat.mul_nonneg (ok.s0 y) (fz y)
            have := ok.b0 y
            grind : 0 ≤ (PrU R U ds bs).s y * (PrU R U ds bs).fl z y + (PrU R U ds bs).be y)) c0 x hx
          show (PrU R U ds bs).ind j x * z j = 0
          rcases ok.i01 j x with e | e
          · rw [e]; grind
          · exfalso
            rw [e] at t0
            have a1 := Rat.mul_nonneg (ok.s0 x) (fz x)
            have a2 := ok.b0 x
            have a3 : (PrU R U ds bs).s x * (PrU R U ds bs).fl z x = 0 := by grind
            exact c a3
        · have : 0 ≤ z j := S.nn j hj
          have z0 : z j = 0 := by grind
          rw [z0]; grind
      · rw [if_neg c1]
    have := k1 x
    rw [e0] at this ⊢
    grind
end
section
open Lk
variable {R : List Rd4} {U : Us} {ds bs : List Rat} {z : Nat → Rat} {P : List Pt} {W : Ws} {F : Us}
def cxP (R : List Rd4) (bs : List Rat) (P : List Pt) (x : Nat) : Rat := (slR R x : Rat) * flL (P.flatMap id) x + bs.getD x 0
theorem wcC_sm {Cx : Nat → Rat} {r : Nat} {wy : List Int} (hn : wy.Nodup) (hr : ∀ x ∈ wy, 0 ≤ x ∧ x < r) : wcC Cx wy = sm r fun x => indW wy x * Cx x := by
  unfold wcC
  rw [sumQ_sm (g := fun x => Cx x.toNat) hn hr]
  refine sm_congr fun x _ => ?_
  unfold indW
  rw [Int.toNat_natCast]
  split <;> grind
theorem cut_cost (h : UOk R U ds bs) (S : (PrU R U ds bs).Sol z) (C : Cut U z ds ds.length P) {j : Nat} (hj : j < U.length) : wcC (cxP R bs P) (ug U j).2 = (PrU R U ds bs).cst z j := by
  rw [wcC_sm (h.nod _ (ug_mem hj)) (h.rng _ (ug_mem hj))]
  show (sm R.length _) = sm R.length _
  refine sm_congr fun x hx => ?_
  unfold cxP
  rw [cut_fl h S C hx]
  rfl
theorem fresh (h : UOk R U ds bs) (S : (PrU R U ds bs).Sol z) (C : Cut U z ds ds.length P) (c : Chp (cxP R bs P) W P ds.length F) : ∀ u ∈ F, u ∉ U := by
  intro u hu hU
  obtain ⟨q, hq, lt⟩ := c.chp u hu
  obtain ⟨_, j, hj, e1, e2, zp⟩ := (cut_rows h S C (c.lt u hu)).1 q hq
  rw [e2, cut_cost h S C hj, S.eq j hj zp] at lt
  obtain ⟨i, hi, ei⟩ := List.getElem_of_mem hU
  have lo := S.low i hi
  have eu : ug U i = u := by rw [ug_get hi, ei]
  rw [← cut_cost h S C hi, eu] at lo
  have a : (PrU R U ds bs).tr j = u.1 := e1
  have b : (PrU R U ds bs).tr i = u.1 := congrArg Prod.fst eu
  rw [a] at lt
  rw [b] at lo
  grind
structure RestP (R : List Rd4) (ds bs : List Rat) (W : Ws) (P : List Pt) : Prop where
  len : P.length = ds.length
  mem : ∀ t, t < ds.length → ∀ q ∈ P.getD t [], 0 < q.2 ∧ q.1 ∈ W.getD t []
  ord : ∀ t, t < ds.length → (P.getD t []).Pairwise (fun x y => x.1 < y.1)
  sum : ∀ t, t < ds.length → amS (P.getD t []) = ds.getD t 0
  rst : ∀ t, t < ds.length → ∀ q ∈ P.getD t [], ∀ x ∈ W.getD t [], wcC (cxP R bs P) q.1 ≤ wcC (cxP R bs P) x
end
section
open Lk
variable {R : List Rd4} {U F : Us} {ds bs : List Rat} {W : Ws} {Cx : Nat → Rat} {P : List Pt}
def allU (W : Ws) : Us := W.zipIdx.flatMap fun p => p.1.map fun y => (p.2, y)
theorem allU_mem {u : Nat × List Int} (h : u.2 ∈ W.getD u.1 []) : u ∈ allU W := by
  obtain ⟨t, y⟩ := u
  by_cases c : t < W.length
  · have h : y ∈ W[t] := by simpa [c] using h
    refine List.mem_flatMap.mpr ⟨(W[t], t), ?_, List.mem_map.mpr ⟨y, h, rfl⟩⟩
    rw [List.mem_iff_getElem?]
    exact ⟨t, by rw [List.getElem?_zipIdx, List.getElem?_eq_getElem c]; simp⟩
  · have h : y ∈ W.getD t [] := h
    rw [List.getD_eq_getElem?_getD, List.getElem?_eq_none (by omega)] at h
    cases h
structure UIn (R : List Rd4) (ds bs : List Rat) (W : Ws) (U : Us) : Prop where
  ok : UOk R U ds bs
  mem : ∀ u ∈ U, u.2 ∈ W.getD u.1 []
  nd : U.Nodup
theorem UIn.le (h : UIn R ds bs W U) : U.length ≤ (allU W).length := by
  refine Lk.pigeon U.length (allU W) (fun i => ug U i) (fun i hi => allU_mem (h.mem _ (ug_mem hi))) fun i j hij hj e => ?_
  rw [ug_get (by omega), ug_get hj] at e
  have := (List.getElem_inj h.nd).mp e
  omega
theorem getD_mem {t : Nat} {y : List Int} (h : y ∈ W.getD t []) : ∃ l ∈ W, y ∈ l := by
  by_cases c : t < W.length
  · exact ⟨W[t], List.getElem_mem c, by simpa [c] using h⟩
  · rw [List.getD_eq_getElem?_getD, List.getElem?_eq_none (by omega)] at h
    cases h
theorem UIn.add (h : UIn R ds bs W U) (hw : ∀ l ∈ W, ∀ y ∈ l, y.Nodup ∧ ∀ x ∈ y, 0 ≤ x ∧ x < R.length) (c : Chp Cx W P ds.length F) (fr : ∀ u ∈ F, u ∉ U) : UIn R ds bs W (U ++ F) := by
  have fw : ∀ u ∈ F, u.2.Nodup ∧ ∀ x ∈ u.2, 0 ≤ x ∧ x < R.length := fun u hu => by
    obtain ⟨l, hl, hy⟩ := getD_mem (c.mem u hu)
    exact hw l hl _ hy
  refine ⟨⟨by rw [List.length_append]; have := h.ok.pos; omega, h.ok.len, fun u hu => ?_, fun u hu => ?_, fun u hu => ?_, fun t ht => ?_, h.ok.s0, h.ok.b0, h.ok.d0⟩, fun u hu => ?_, ?_⟩
  · rcases List.mem_append.mp hu with hu | hu
    · exact h.ok.nod u hu
    · exact (fw u hu).1
  · rcases List.mem_append.mp hu with hu | hu
    · exact h.ok.rng u hu
    · exact (fw u hu).2
  · rcases List.mem_append.mp hu with hu | hu
    · exact h.ok.trp u hu
    · exact c.lt u hu
  · obtain ⟨u, hu, e⟩ := h.ok.all t ht
    exact ⟨u, List.mem_append_left _ hu, e⟩
  · rcases List.mem_append.mp hu with hu | hu
    · exact h.mem u hu
    · exact c.mem u hu
  · refine List.nodup_append.mpr ⟨h.nd, c.nd, fun x hx y hy e => ?_⟩
    subst e
    exact fr x hy hx
end
section
open Lk
variable {nn : Int} {R : List Rd4} {ds bs : List Rat} {W : Ws} {w : Exn → Prop}
structure RSz (R : List Rd4) (ds bs : List Rat) (W : Ws) (K0 e Kq g ee kq sm Kb Kd N L B B2 : Nat) : Prop where
  szs : ∀ U, UIn R ds bs W U → Szs (mU U ds) (MU R U) (qU bs U ds) K0 e Kq g ee kq
  e0 : 0 < e
  bd : ∀ q ∈ bs, CD e Kb q
  dd : ∀ d ∈ ds, CD e Kd d
  hKd : Kd * 2 ^ (g + ee) ≤ 2 ^ (7 + (g + kq))
  sl : ∀ x, (slR R x).natAbs ≤ sm
  sm1 : sm < 2 ^ 20
  hN : ds.length * (allU W).length ≤ N
  hW : (allU W).length < 1000
  hT : ds.length < 1000
  hWl : W.length = ds.length
  hg : 7 + (g + (ee + kq)) < 1900
  b1 : 2 ^ (g + ee) ≤ 2 ^ B
  b2 : (N + 1) * 2 ^ (7 + (g + kq)) < 2 ^ B
  b3 : sm * (N * 2 ^ (7 + (g + kq))) + Kb * 2 ^ (g + ee) < 2 ^ B
  hB : B < 1900
  rb : ∀ q ∈ bs, RB q B2
  hB2 : B2 ≤ B
  wl : ∀ l ∈ W, ∀ y ∈ l, y.length ≤ L
  wn : ∀ l ∈ W, ∀ y ∈ l, y.Nodup ∧ ∀ x ∈ y, 0 ≤ x ∧ x < R.length
  we : ∀ l ∈ W, l ≠ []
  hR : R.length ≤ 100
  l1 : (L + 1) * (B + 1) + 1 < 100000
  l2 : L * (B + 1) + 1 < 9000
variable {K0 e Kq g ee kq sm Kb Kd N L B B2 : Nat} {U : Us} {z : Nat → Rat} {P : List Pt}
theorem mem_getD {p : Pt} (h : p ∈ P) : ∃ t, t < P.length ∧ P.getD t [] = p := by
  obtain ⟨t, ht, e⟩ := List.getElem_of_mem h
  exact ⟨t, ht, by simp [ht, e]⟩
end
section
open Lk
variable {nn : Int} {R : List Rd4} {ds bs : List Rat} {W : Ws} {w : Exn → Prop} {K0 e Kq g ee kq sm Kb Kd N L B B2 : Nat}
abbrev Trs := List (Int × Int × Rat)
def Ini (W : Ws) (n : Nat) (U : Us) : Prop := U.length = n ∧ ∀ t, t < n → (ug U t).1 = t ∧ (ug U t).2 ∈ W.getD t []
end
section
open Lk
variable {nn : Int} {R : List Rd4} {ds bs : List Rat} {W : Ws} {w : Exn → Prop} {K0 e Kq g ee kq sm Kb Kd N L B B2 : Nat} {P : List Pt}
theorem RestP.wy (Z : RSz R ds bs W K0 e Kq g ee kq sm Kb Kd N L B B2) (h : RestP R ds bs W P) : ∀ p ∈ P, ∀ q ∈ p, q.1.Nodup ∧ (∀ x ∈ q.1, 0 ≤ x ∧ x < R.length) ∧ q.1.length ≤ L := fun p hp q hq => by
  obtain ⟨t, ht, rfl⟩ := mem_getD hp
  obtain ⟨l, hl, hy⟩ := getD_mem (h.mem t (by rw [← h.len]; exact ht) q hq).2
  exact ⟨(Z.wn l hl _ hy).1, (Z.wn l hl _ hy).2, Z.wl l hl _ hy⟩
end
section
open Lk
variable {w : Exn → Prop} {R : List Rd4} {n : Int} {k : D → Prop}
structure RdOk (n : Int) (r : Rd4) : Prop where
  a0 : 0 ≤ r.1 ∧ r.1 ≤ n - 1
  b0 : 0 ≤ r.2.1 ∧ r.2.1 ≤ n - 1
  ne : r.1 ≠ r.2.1
  s0 : 0 ≤ r.2.2.1 ∧ r.2.2.1 ≤ 100
  c0 : 0 ≤ r.2.2.2 ∧ r.2.2.2 ≤ 1000
theorem isin_yes {a lo hi : Int} (h1 : lo ≤ a) (h2 : a ≤ hi) (hk : k (.bool true)) : (f_is_in [.d (.int a), .d (.int lo), .d (.int hi)]).run k w := isin_run (by simpa [h1, h2] using hk)
theorem cut2 {a b c d : D} : cutD [a, b, c, d] none (some 2) = [a, b] := by first | rfl | simp [cutD] | decide
theorem isroad_run {r : Rd4} (h : RdOk n r) (hk : k (.bool true)) : (f_is_road [.d (.int n), .d (rd4 r)]).run k w := by
  obtain ⟨⟨a0, a1⟩, ⟨b0, b1⟩, ne, ⟨s0, s1⟩, ⟨c0, c1⟩⟩ := h
  simp [f_is_road, b_is_road, dStart, arSl, rd4, cut2, rw_ga1]
  refine isin_yes a0 a1 ?_
  simp
  refine isin_yes b0 b1 ?_
  simp [ne]
  refine isin_yes s0 s1 ?_
  simp
  exact isin_yes c0 c1 hk
end
section
open Lk
variable {w : Exn → Prop} {R : List Rd4} {n : Int} {k : D → Prop}
structure NetOk (n : Int) (R : List Rd4) : Prop where
  n0 : 2 ≤ n ∧ n ≤ 6
  r0 : 1 ≤ R.length ∧ R.length ≤ 10
  rd : ∀ r ∈ R, RdOk n r
theorem neednet_run (h : NetOk n R) (hk : k .none) : (f_need_net [.d (netD n R)]).run k w := by
  obtain ⟨⟨n1, n2⟩, ⟨r1, r2⟩, rd⟩ := h
  unfold f_need_net
  rw [rw_dRun, run_bind]
  have e0 : dStart 3 [Ar.d (netD n R)] = [.p (netD n R), .non, .non] := rfl
  rw [e0]
  unfold b_need_net
  refine seqM (fun δ => δ = [.p (netD n R), .non, .non]) ?_ ?_
  · unfold netD
    simp
    refine isin_yes n1 n2 ?_
    simp
  rintro _ rfl
  refine seqM (fun δ => δ = [.p (netD n R), .non, .non]) ?_ ?_
  · unfold netD
    have c1 : (1 : Int) ≤ (R.length : Int) := by omega
    have c2 : (R.length : Int) ≤ 10 := by omega
    simp [c1, c2]
  rintro _ rfl
  rw [rw_for, run_bind]
  simp only [iEnD, rw_d2, rw_dV, rw_dC, List.getElem?_cons_zero, slotP_p, pure_bind, run_bind]
  unfold netD
  simp only [rw_ixT, at1, optW_some, pure_bind, run_pure]
  rw [rw_seqT, run_pure, enD_zip]
  refine loop_pre (xs := R.zipIdx) (fun pre δ => ∃ s1 s2, δ = [.p (.tuple [.int n, .tuple (R.map rd4)]), s1, s2]) ⟨_, _, rfl⟩ ?_ ?_
  · rintro pre ⟨r, t⟩ post δ hxs ⟨s1, s2, rfl⟩
    have hr : r ∈ R := by
      have : (r, t) ∈ R.zipIdx := by rw [hxs]; simp
      exact (List.mem_zipIdx this).2.2 ▸ List.getElem_mem _
    refine ⟨_, rfl, ?_⟩
    show (sIf _ _ _ [.p (.tuple [.int n, .tuple (R.map rd4)]), .p (.int (t : Int)), .p (rd4 r)]).run _ _
    simp
    refine isroad_run (rd r hr) ?_
    simp
  · rintro δ ⟨s1, s2, rfl⟩
    simpa using hk
end
section
variable {k : D → Prop} {w : Exn → Prop}
theorem lwn_in {n b : Int} {R : List (Int × Int × Int × Int)} {rs : List D} {p1 p2 fd rw : D} {M : List D} {wy ns : List Int} {s5 s9 s10 : Sl} {ko : Out → Prop} (hne : ns ≠ []) (hw : wy.length < 1000) (hns : ns.length < 1000) (hR : R.length < 1000000) (hM : M.length + R.length < 16000000)
    (hk : ∀ s9, ko (.nx [.p (.tuple (.int n :: .tuple (R.map rd4) :: rs)), .p p1, .p p2, .p fd, .p rw, s5, .o (M ++ (Gm.exts (R.map en4) (wy, ns)).map rowD), .p (tupI wy), .p (tupI ns), s9, s10])) :
    (sFor (iRgD1 (dCB bLen (aCons (d2 dIx (dV 0) (dC (.int 1))) aNil))) (bName 9) (sIf (tAnd2 (tBv (d2 dEq (d2 dIx (d2 dIx (d2 dIx (dV 0) (dC (.int 1))) (dV 9)) (dC (.int 0))) (d2 dIx (dV 8) (d1 dNeg (dC (.int 1)))))) (tBv (d2 dNotInA (d2 dIx (d2 dIx (d2 dIx (dV 0) (dC (.int 1))) (dV 9)) (dC (.int 1))) (dV 8)))) (sApp 6 (dTup (aCons (d2 dAdd (dV 7) (dTup (aCons (dV 9) aNil))) (aCons (d2 dAdd (dV 8) (dTup (aCons (d2 dIx (d2 dIx (d2 dIx (dV 0) (dC (.int 1))) (dV 9)) (dC (.int 1))) aNil))) aNil)))) sNext)
      [.p (.tuple (.int n :: .tuple (R.map rd4) :: rs)), .p p1, .p p2, .p fd, .p rw, s5, .o M, .p (tupI wy), .p (tupI ns), s9, s10]).run ko w := by
  obtain ⟨la, hlast, hl2⟩ := last_of hne
  have e1 : atI (PyData.int n :: .tuple (R.map rd4) :: rs) 1 = some (.tuple (R.map rd4)) := by rw [show (1 : Int) = ((1 : Nat) : Int) from rfl, atI_nat]; rfl
  simp only [rw_for, rw_rg1, rw_dCB, rw_aCons, rw_aNil, rw_d2, rw_dV, rw_dC, List.getElem?_cons_zero, slotP_p, pure_bind, rw_ixT, e1, optW_some, rw_allD1, rw_allD0, rw_lenT, List.length_map, rw_asI1, run_bind, run_need, run_pure, Int.toNat_natCast]
  refine ⟨lo62_le (by omega) (by omega), ?_⟩
  rw [rgD_zip]
  refine loop_pre (fun pre δ => ∃ s9, δ = [.p (.tuple (.int n :: .tuple (R.map rd4) :: rs)), .p p1, .p p2, .p fd, .p rw, s5, .o (M ++ (Gm.extsP (pre.map fun p => (en4 p.1, p.2)) wy ns).map rowD), .p (tupI wy), .p (tupI ns), s9, s10]) ⟨s9, by simp [Gm.extsP]⟩ ?_ ?_
  · rintro pre ⟨x, i⟩ post δ e ⟨s9, rfl⟩
    have lp : pre.length < R.length := by
      have := congrArg List.length e
      simp at this
      omega
    have l1 : (Gm.extsP (pre.map fun p => (en4 p.1, p.2)) wy ns).length ≤ pre.length := by
      have := Gm.extsP_len (l := pre.map fun p => (en4 p.1, p.2)) (w := wy) (ns := ns)
      simpa using this
    have hx : R[i]? = some x := zip_mem (p := (x, i)) (by rw [e]; simp)
    refine ⟨_, rfl, ?_⟩
    rw [List.map_append, List.map_singleton, extsP_snoc]
    generalize Gm.extsP (pre.map fun p => (en4 p.1, p.2)) wy ns = X at l1
    have e2 : atI (R.map rd4) (i : Int) = some (rd4 x) := by rw [atI_nat, List.getElem?_map, hx]; rfl
    simp only [rw_if, rw_tAnd2, rw_tBv, rw_d2, rw_d1, rw_dV, rw_dC, List.set_cons_succ, List.set_cons_zero, List.getElem?_cons_succ, List.getElem?_cons_zero, slotP_p, pure_bind, rw_ixT, e1, e2, optW_some, rw_neg, rd4, tupI]
    rw [show atI [PyData.int x.1, .int x.2.1, .int x.2.2.1, .int x.2.2.2] 0 = some (.int x.1) from rfl, show atI [PyData.int x.1, .int x.2.1, .int x.2.2.1, .int x.2.2.2] 1 = some (.int x.2.1) from rfl, atI_last, hlast]
    simp only [optW_some, pure_bind, rw_eq, rw_notInAT, in_int, shaped_int, shaped_ints, eqv_int]
    have ok : Gm.okE ns (en4 x) = (decide (x.1 = la) && !decide (x.2.1 ∈ ns)) := by
      unfold Gm.okE en4
      rw [hl2]
      congr 1
      simp only [Option.some.injEq, eq_comm]
    rw [ok]
    have z2 : M.length + X.length < sizeLine := lineL (by omega)
    have z3 : wy.length + 1 ≤ sizeLine := lineN (by omega)
    have z4 : ns.length + 1 ≤ sizeLine := lineN (by omega)
    by_cases c1 : x.1 = la
    · by_cases c2 : x.2.1 ∈ ns
      · simp [c1, c2]
      · have e3 : atI (List.map rd4 R) (i : Int) = some (PyData.tuple [PyData.int x.1, PyData.int x.2.1, PyData.int x.2.2.1, PyData.int x.2.2.2]) := e2
        have e4 : atI [PyData.int x.1, .int x.2.1, .int x.2.2.1, .int x.2.2.2] 1 = some (.int x.2.1) := rfl
        simp only [c1, c2, decide_true, decide_false, Bool.not_false, Bool.and_self, run_bind, pure_bind, rw_asB, if_true, rw_app, List.getElem?_cons_succ, List.getElem?_cons_zero, slotO_o, rw_dTup, rw_aCons, rw_aNil, rw_d2, rw_dV, rw_dC, slotP_p, rw_allD1, rw_allD0, rw_addT, rw_ixT, e1, optW_some, run_need, run_pure]
        rw [e3]
        simp only [optW_some, run_pure, rw_ixT, e4, List.length_cons, List.length_nil, List.length_map, List.length_append]
        refine ⟨⟨trivial, trivial⟩, ⟨trivial, trivial⟩, line1, z3, line1, z4, line2, z2, .p (.int (i : Int)), ?_⟩
        simp [rowD, tupI, Gm.exP, en4]
    · simp [c1]
  · rintro δ ⟨s9, rfl⟩
    have := hk s9
    simp only [Gm.exts, zip_map] at this
    exact this
theorem lwaysn_run {n : Int} {R : List (Int × Int × Int × Int)} {a b : Int} {N : Nat} (hn : n = N) (ha : 0 ≤ a ∧ a < N) (hE : ∀ x ∈ R, 0 ≤ x.2.1 ∧ x.2.1 < N) (hm : R.length ≤ 10) (hN : N ≤ 6)
    (hk : k (.list ((waysF (R.map en4) a b N).map tupI))) : (f_law_ways [.d (netD n R), .d (.int a), .d (.int b)]).run k w := by
  subst hn
  have hE' : ∀ e ∈ R.map en4, 0 ≤ e.2 ∧ e.2 < (N : Int) := fun e he => by
    obtain ⟨x, hx, rfl⟩ := List.mem_map.mp he
    exact hE x hx
  have hm' : (R.map en4).length ≤ 10 := by simpa using hm
  obtain ⟨G, hG⟩ : ∃ G : D, G = .tuple [.int (N : Int), .tuple (R.map rd4)] := ⟨_, rfl⟩
  have hG' : netD (N : Int) R = G := hG.symm
  unfold f_law_ways b_law_ways
  rw [rw_dRun, hG']
  simp only [run_bind]
  refine seqM (fun δ => δ = [.p G, .p (.int a), .p (.int b), .p (.list []), .p (.list ((Gm.rows0 a).map rowD)), .non, .non, .non, .non, .non, .non]) ?_ ?_
  · simp [sPar, dStart, arSl, Gm.rows0, rowD, tupI]
    exact ⟨line1, line2, line1⟩
  rintro _ rfl
  simp only [rw_sFz, fz, List.getElem?_cons_succ, List.getElem?_cons_zero]
  refine seqM (fun δ => ∃ s4 s5 s6 s7 s8 s9 s10, δ = [.p G, .p (.int a), .p (.int b), .p (.list ((Gm.allF (R.map en4) b N (Gm.rows0 a)).map tupI)), s4, s5, s6, s7, s8, s9, s10]) ?_ ?_
  · simp only [rw_for, rw_rg1, rw_d2, rw_dV, rw_dC, List.getElem?_cons_zero, slotP_p, pure_bind, hG, rw_ixT, optW_some, rw_asI1, run_bind, run_need, run_pure]
    simp only [at0, optW_some, run_pure, rw_asI1, run_need, Int.toNat_natCast]
    refine ⟨lo62_le (by omega) (by omega), ?_⟩
    rw [← hG]
    refine loop_inv (fun i δ => i ≤ N ∧ ∃ s4 s5 s6 s7 s8 s9 s10, (s4 = .p (.list ((Gm.itR (R.map en4) b i (Gm.rows0 a)).map rowD)) ∨ s4 = .o ((Gm.itR (R.map en4) b i (Gm.rows0 a)).map rowD)) ∧ δ = [.p G, .p (.int a), .p (.int b), .p (.list ((Gm.allF (R.map en4) b i (Gm.rows0 a)).map tupI)), s4, s5, s6, s7, s8, s9, s10]) ⟨Nat.zero_le _, _, _, _, _, _, _, _, .inl rfl, rfl⟩ ?_ ?_
    · rintro i _ d hd ⟨hi, s4, s5, s6, s7, s8, s9, s10, h3, rfl⟩
      obtain ⟨hiN, rfl⟩ := rgD_get hd
      refine ⟨_, rfl, ?_⟩
      have hok := Gm.rok_it (b := b) ha hE' i
      have hl1 := Gm.ext_le (a := a) (b := b) hm' (j := i) (by omega)
      have hl2 := Gm.allF_len (a := a) (b := b) hm' i (by omega)
      have hF' := Gm.allF_succ (E := R.map en4) (b := b) (j := i) (rows := Gm.rows0 a)
      have hI' := Gm.itR_succ (E := R.map en4) (b := b) (j := i) (rows := Gm.rows0 a)
      rw [hF', hI']
      unfold Gm.stepR
      clear hF' hI'
      have hnx := Gm.rok_ext1 hok hE'
      generalize hrows : Gm.itR (R.map en4) b i (Gm.rows0 a) = rows at *
      generalize Gm.allF (R.map en4) b i (Gm.rows0 a) = fnd at *
      refine seqM (fun δ => ∃ s5, δ = [.p G, .p (.int a), .p (.int b), .p (.list (fnd.map tupI)), s4, s5, .o [], s7, s8, s9, s10]) ?_ ?_
      · simp
      rintro _ ⟨s5, rfl⟩
      have ef : fz 4 [.p G, .p (.int a), .p (.int b), .p (.list (fnd.map tupI)), s4, s5, .o [], s7, s8, s9, s10] = [.p G, .p (.int a), .p (.int b), .p (.list (fnd.map tupI)), .p (.list (rows.map rowD)), s5, .o [], s7, s8, s9, s10] := by
        rcases h3 with rfl | rfl <;> simp [fz]
      rw [rw_sFz, ef]
      refine seqM (fun δ => ∃ s7 s8 s9, δ = [.p G, .p (.int a), .p (.int b), .p (.list (fnd.map tupI)), .p (.list (rows.map rowD)), s5, .o ((Gm.ext1 (R.map en4) rows).map rowD), s7, s8, s9, s10]) ?_ ?_
      · simp only [rw_for, rw_iSeqD, rw_dV, List.getElem?_cons_succ, List.getElem?_cons_zero, slotP_p, pure_bind, rw_seqL]
        refine loop_pre (fun pre δ => ∃ s7 s8 s9, δ = [.p G, .p (.int a), .p (.int b), .p (.list (fnd.map tupI)), .p (.list (rows.map rowD)), s5, .o ((Gm.ext1 (R.map en4) pre).map rowD), s7, s8, s9, s10]) ⟨s7, s8, s9, by simp [Gm.ext1]⟩ ?_ ?_
        · rintro pre r post δ e ⟨s7, s8, s9, rfl⟩
          have hr := hok r (by rw [e]; simp)
          have hj2 := hr.lt
          have le : (Gm.ext1 (R.map en4) pre).length ≤ 1000000 := by
            have : (Gm.ext1 (R.map en4) pre).length ≤ (Gm.ext1 (R.map en4) rows).length := by
              rw [e]
              simp only [Gm.ext1, List.flatMap_append, List.length_append]
              omega
            omega
          obtain ⟨wy, ns⟩ := r
          refine ⟨[.p G, .p (.int a), .p (.int b), .p (.list (fnd.map tupI)), .p (.list (rows.map rowD)), s5, .o ((Gm.ext1 (R.map en4) pre).map rowD), .p (tupI wy), .p (tupI ns), s9, s10], rfl, ?_⟩
          have hwl : wy.length = i := hr.wl
          have hnl : ns = a :: wy.map (Gm.tgt (R.map en4)) := hr.nl
          rw [hG]
          refine lwn_in (b := b) (by rw [hnl]; simp) (by omega) (by rw [hnl]; simp; omega) (by omega) (by simp; omega) fun s9 => ?_
          refine ⟨.p (tupI wy), .p (tupI ns), s9, ?_⟩
          have ef : Gm.ext1 (R.map en4) (pre ++ [(wy, ns)]) = Gm.ext1 (R.map en4) pre ++ Gm.exts (R.map en4) (wy, ns) := by simp [Gm.ext1]
          simp only [ef, List.map_append]
        · rintro δ ⟨s7, s8, s9, rfl⟩
          exact ⟨_, rfl, s7, s8, s9, rfl⟩
      rintro _ ⟨s7, s8, s9, rfl⟩
      generalize Gm.ext1 (R.map en4) rows = X at hnx hl1
      simp only [rw_sFz, fz, List.getElem?_cons_succ, List.getElem?_cons_zero, List.set_cons_succ, List.set_cons_zero]
      have lf := Gm.fin_len (b := b) (rows := X)
      refine seqM (fun δ => ∃ s7 s8, δ = [.p G, .p (.int a), .p (.int b), .p (.list ((fnd ++ Gm.fin b X).map tupI)), .p (.list (rows.map rowD)), s5, .p (.list (X.map rowD)), s7, s8, s9, s10]) ?_ ?_
      · simp only [rw_set, rw_d2, rw_dV, rw_dNl, rw_nLc, rw_iSeqD, List.getElem?_cons_succ, List.getElem?_cons_zero, slotP_p, pure_bind, rw_seqL, run_bind, run_need, run_nox]
        refine ⟨lineN (by simp; omega), ?_⟩
        refine lc_run (p := Gm.isE b) (h := fun r => tupI r.1) (fun r hr => ?_) ?_
        · obtain ⟨la, h1, h2⟩ := row_last (ltrow (hnx r hr)) (b := b)
          refine ⟨_, rfl, fun kb hkb => ?_, fun _ kd hkd => ?_⟩
          · simp [tupI, h1]
            rw [← h2]
            exact hkb
          · simpa using hkd
        · have e0 : (List.filter (Gm.isE b) X).map (fun r => tupI r.1) = (Gm.fin b X).map tupI := by simp [Gm.fin]
          rw [e0]
          simp
          exact lineN (by omega)
      rintro _ ⟨s7, s8, rfl⟩
      simp only [rw_sFz, fz, List.getElem?_cons_succ, List.getElem?_cons_zero, List.set_cons_succ, List.set_cons_zero, rw_setO, rw_nLc, rw_iSeqD, rw_dV, slotP_p, pure_bind, rw_seqL, run_bind, run_need, run_nox, run_pure]
      refine ⟨lineN (by simp; omega), ?_⟩
      refine lc_run (p := fun r => !Gm.isE b r) (h := rowD) (fun r hr => ?_) ?_
      · obtain ⟨la, h1, h2⟩ := row_last (ltrow (hnx r hr)) (b := b)
        refine ⟨_, rfl, fun kb hkb => ?_, fun _ kd hkd => ?_⟩
        · simp [tupI, rowD, h1]
          rw [h2] at hkb
          exact hkb
        · simpa using hkd
      · exact ⟨by omega, _, _, _, _, _, _, _, .inr rfl, rfl⟩
    · rintro _ ⟨_, s4, s5, s6, s7, s8, s9, s10, _, rfl⟩
      simp only [rgD_len]
      exact ⟨_, rfl, _, _, _, _, _, _, _, rfl⟩
  rintro _ ⟨s4, s5, s6, s7, s8, s9, s10, rfl⟩
  simp
  refine sorted_run (fun x hx => (Gm.wok_all ha hE' N x hx).ne) ?_
  exact hk
end
section
theorem pth_e1 {E : List (Int × Int)} {rows : List Gm.Row} {q : Gm.Row} {p : (Int × Int) × Nat} (hq : q ∈ rows) (hp : p ∈ E.zipIdx) (ok : Gm.okE q.2 p.1 = true) : Gm.exP q.1 q.2 p ∈ Gm.ext1 E rows :=
  List.mem_flatMap.mpr ⟨q, hq, List.mem_map.mpr ⟨p, List.mem_filter.mpr ⟨hp, ok⟩, rfl⟩⟩
structure Pth (E : List (Int × Int)) (b : Int) (m : Nat) (f : Nat → Int) : Prop where
  z : f 0 = 0
  e : ∀ i, i < m → E[i]? = some (f i, f (i + 1))
  lt : ∀ i, i < m → f i < f (i + 1)
  b : f m = b
  m0 : 1 ≤ m
theorem Pth.up {E : List (Int × Int)} {b : Int} {m : Nat} {f : Nat → Int} (h : Pth E b m f) : ∀ j i, i + j ≤ m → f i + j ≤ f (i + j) := by
  intro j
  induction j with
  | zero => intro i _; simp
  | succ j ih =>
    intro i hi
    have h1 := ih i (by omega)
    have h2 := h.lt (i + j) (by omega)
    have e : i + (j + 1) = i + j + 1 := by omega
    rw [e]
    omega
theorem Pth.row {E : List (Int × Int)} {b : Int} {m : Nat} {f : Nat → Int} (h : Pth E b m f) : ∀ i, i < m → ∃ r ∈ Gm.itR E b i (Gm.rows0 0), r.2.getLast? = some (f i) ∧ ∀ x ∈ r.2, x ≤ f i := by
  intro i
  induction i with
  | zero =>
    intro _
    exact ⟨([], [0]), by simp [Gm.itR, Gm.rows0], by simp [h.z], by simp [h.z]⟩
  | succ i ih =>
    intro hi
    obtain ⟨r, hr, hl, hx⟩ := ih (by omega)
    have lt := h.lt i (by omega)
    have hp : ((f i, f (i + 1)), i) ∈ E.zipIdx := List.mk_mem_zipIdx_iff_getElem?.mpr (h.e i (by omega))
    have ok : Gm.okE r.2 (f i, f (i + 1)) = true := by
      have : f (i + 1) ∉ r.2 := fun z => by
        have := hx _ z
        omega
      simp [Gm.okE, hl, this]
    have hm := pth_e1 hr hp ok
    have ne : f (i + 1) ≠ b := by
      have := h.up (m - (i + 1)) (i + 1) (by omega)
      have e : i + 1 + (m - (i + 1)) = m := by omega
      rw [e, h.b] at this
      omega
    refine ⟨Gm.exP r.1 r.2 ((f i, f (i + 1)), i), ?_, ?_, fun x hx2 => ?_⟩
    · rw [Gm.itR_succ]
      refine List.mem_filter.mpr ⟨hm, ?_⟩
      simp [Gm.isE, Gm.exP, ne]
    · simp [Gm.exP]
    · rcases List.mem_append.mp hx2 with z | z
      · have := hx x z
        omega
      · have : x = f (i + 1) := by simpa using z
        omega
theorem allF_mono {E : List (Int × Int)} {b : Int} {rows : List Gm.Row} {j : Nat} {x : List Int} (h : x ∈ Gm.allF E b j rows) : ∀ i, x ∈ Gm.allF E b (j + i) rows := by
  intro i
  induction i with
  | zero => exact h
  | succ i ih =>
    rw [← Nat.add_assoc, Gm.allF_succ]
    exact List.mem_append_left _ ih
theorem Pth.ways {E : List (Int × Int)} {b : Int} {m N : Nat} {f : Nat → Int} (h : Pth E b m f) (hm : m ≤ N) : waysF E 0 b N ≠ [] := by
  obtain ⟨k, rfl⟩ : ∃ k, m = k + 1 := ⟨m - 1, by have := h.m0; omega⟩
  obtain ⟨r, hr, hl, hx⟩ := h.row k (by omega)
  have lt := h.lt k (by omega)
  have hp : ((f k, f (k + 1)), k) ∈ E.zipIdx := List.mk_mem_zipIdx_iff_getElem?.mpr (h.e k (by omega))
  have ok : Gm.okE r.2 (f k, f (k + 1)) = true := by
    have : f (k + 1) ∉ r.2 := fun z => by
      have := hx _ z
      omega
    simp [Gm.okE, hl, this]
  have hm2 := pth_e1 hr hp ok
  have h1 : (Gm.exP r.1 r.2 ((f k, f (k + 1)), k)).1 ∈ Gm.allF E b (k + 1) (Gm.rows0 0) := by
    rw [Gm.allF_succ]
    refine List.mem_append_right _ (List.mem_map.mpr ⟨_, List.mem_filter.mpr ⟨hm2, ?_⟩, rfl⟩)
    simp [Gm.isE, Gm.exP, h.b]
  have h2 := allF_mono h1 (N - (k + 1))
  rw [show k + 1 + (N - (k + 1)) = N by omega] at h2
  exact List.ne_nil_of_mem (srtW_mem.mpr h2)
theorem Pth.app {E : List (Int × Int)} {b : Int} {m : Nat} {f : Nat → Int} (h : Pth E b m f) (x : Int × Int) : Pth (E ++ [x]) b m f :=
  ⟨h.z, fun i hi => by rw [List.getElem?_append_left (List.getElem?_eq_some_iff.mp (h.e i hi)).1]; exact h.e i hi, h.lt, h.b, h.m0⟩
theorem pth_of {l : List Int} {E : List (Int × Int)} {b : Int} (h0 : l[0]? = some 0) (hb : l.getLast? = some b) (hl : 2 ≤ l.length) (up : l.Pairwise (· < ·)) (he : ∀ i, i + 1 < l.length → E[i]? = some (l.getD i 0, l.getD (i + 1) 0)) : Pth E b (l.length - 1) fun i => l.getD i 0 := by
  refine ⟨?_, fun i hi => he i (by omega), fun i hi => ?_, ?_, by omega⟩
  · show l.getD 0 0 = 0
    rw [List.getD_eq_getElem?_getD, h0]
    rfl
  · have h1 : i < l.length := by omega
    have h2 : i + 1 < l.length := by omega
    have := List.pairwise_iff_getElem.mp up i (i + 1) h1 h2 (by omega)
    simpa [h1, h2] using this
  · show l.getD (l.length - 1) 0 = b
    rw [List.getLast?_eq_getElem?] at hb
    rw [List.getD_eq_getElem?_getD, hb]
    rfl
end
section
open Lk
variable {k : D → Prop} {w : Exn → Prop} {C : Cs} {r : Addr} {φ : Heap → Prop}
theorem lroad_run (hr : RO C r φ) {s t : Int} (hk : ∀ sl ba : Int, 0 ≤ sl → sl ≤ 100 → 0 ≤ ba → ba ≤ 1000 → k (rd4 (s, t, sl, ba))) : (f_law_road C [.t r φ, .d (.int s), .d (.int t)]).run k w := by
  unfold f_law_road b_law_road
  rw [rw_dRun]
  simp [dStart, arSl]
  refine taken_run hr (by omega) (by omega) fun z z0 z1 => ?_
  refine ⟨lineN (by simp), pick_run hr (by simp) (by simp) fun d hd => ?_⟩
  refine taken_run hr (by omega) (by omega) fun y y0 y1 => ?_
  refine ⟨lineN (by simp), pick_run hr (by simp) (by simp) fun e he => ?_⟩
  simp at hd he
  obtain ⟨a, ha, rfl⟩ : ∃ a : Int, (0 ≤ a ∧ a ≤ 100) ∧ d = .int a := by
    rcases hd with rfl | rfl | rfl | rfl | rfl <;> exact ⟨_, by omega, rfl⟩
  obtain ⟨b, hb, rfl⟩ : ∃ a : Int, (0 ≤ a ∧ a ≤ 1000) ∧ e = .int a := by
    rcases he with rfl | rfl | rfl | rfl | rfl <;> exact ⟨_, by omega, rfl⟩
  exact ⟨lineN (by simp), hk a b ha.1 ha.2 hb.1 hb.2⟩
end
section
open Lk
variable {k : D → Prop} {w : Exn → Prop} {C : Cs} {r : Addr} {φ : Heap → Prop}
structure NetL (n : Nat) (R : List Rd4) : Prop where
  n2 : 2 ≤ n ∧ n ≤ 5
  ok : NetOk (n : Int) R
  way : waysF (R.map en4) 0 ((n : Int) - 1) n ≠ []
theorem endp {s t n : Int} (h0 : 0 ≤ s) (h1 : s < n) (h2 : 0 ≤ t) (h3 : t < n - 1) : 0 ≤ (s + 1 + t) % n ∧ (s + 1 + t) % n < n ∧ s ≠ (s + 1 + t) % n := by
  have a1 := Int.emod_nonneg (s + 1 + t) (b := n) (by omega)
  have a2 := Int.emod_lt_of_pos (s + 1 + t) (b := n) (by omega)
  refine ⟨a1, a2, ?_⟩
  rcases Int.lt_or_le (s + 1 + t) n with z | z
  · rw [Int.emod_eq_of_lt (by omega) z]
    omega
  · have : (s + 1 + t) % n = s + 1 + t - n := by
      rw [← Int.sub_emod_right, Int.emod_eq_of_lt (by omega) (by omega)]
    omega
structure OrdL (m : Nat) (l : List Int) : Prop where
  h0 : l[0]? = some 0
  up : l.Pairwise (· < ·)
  bd : ∀ x ∈ l, 0 ≤ x ∧ x < m
  len : l.length ≤ m
theorem OrdL.snoc {m : Nat} {l : List Int} (h : OrdL m l) : OrdL (m + 1) (l ++ [(m : Int)]) := by
  have hl : 0 < l.length := by
    rcases Nat.eq_zero_or_pos l.length with z | z
    · have := h.h0
      rw [List.eq_nil_of_length_eq_zero z] at this
      cases this
    · exact z
  refine ⟨by rw [List.getElem?_append_left hl]; exact h.h0, List.pairwise_append.mpr ⟨h.up, by simp, fun x hx y hy => ?_⟩, fun x hx => ?_, by simp; exact h.len⟩
  · have := h.bd x hx
    rw [List.mem_singleton.mp hy]
    exact this.2
  · rcases List.mem_append.mp hx with z | z
    · have := h.bd x z
      omega
    · rw [List.mem_singleton.mp z]
      omega
theorem OrdL.more {m : Nat} {l : List Int} (h : OrdL m l) : OrdL (m + 1) l := ⟨h.h0, h.up, fun x hx => by have := h.bd x hx; omega, by have := h.len; omega⟩
theorem at_ints {l : List Int} {i : Nat} (h : i < l.length) : atI (l.map PyData.int) (i : Int) = some (.int (l.getD i 0)) := by
  rw [atI_nat]
  simp [h]
theorem lnet_run (hr : RO C r φ) (hk : ∀ (n : Nat) (R : List Rd4), NetL n R → k (netD (n : Int) R)) : (f_law_net C [.t r φ]).run k w := by
  unfold f_law_net b_law_net
  rw [rw_dRun]
  simp only [run_bind]
  refine seqM (fun δ => ∃ n : Nat, 2 ≤ n ∧ n ≤ 5 ∧ δ = [.t r φ, .p (.int (n : Int)), .non, .non, .non, .non, .non, .non]) ?_ ?_
  · simp [dStart, arSl]
    refine taken_run hr (by omega) (by omega) fun z z0 z1 => ?_
    simp
    exact ⟨(2 + z).toNat, by omega, by omega, by omega⟩
  rintro _ ⟨n, n2, n5, rfl⟩
  refine seqM (fun δ => δ = [.t r φ, .p (.int (n : Int)), .o [.int 0], .o [], .non, .non, .non, .non]) ?_ ?_
  · unfold sParOO
    simp
    exact line1
  rintro _ rfl
  refine seqM (fun δ => ∃ l s4, OrdL (n - 1) l ∧ δ = [.t r φ, .p (.int (n : Int)), .o (l.map .int), .o [], s4, .non, .non, .non]) ?_ ?_
  · simp only [rw_for, rw_rg2, rw_d2, rw_dV, rw_dC, List.getElem?_cons_succ, List.getElem?_cons_zero, slotP_p, pure_bind, rw_int2, rw_asI1, run_bind, run_need, run_pure, true_and]
    refine ⟨⟨lo62_le (by omega) (by omega), lo62_le (by omega) (by omega)⟩, ?_⟩
    have el : ((n : Int) - 1 - 1).toNat = n - 2 := by omega
    rw [el]
    obtain ⟨J, hJ⟩ : ∃ J : Nat → De → Prop, ∀ i δ, J i δ ↔ ∃ (l : List Int) (s4 : Sl), i ≤ n - 2 ∧ OrdL (i + 1) l ∧ δ = [.t r φ, .p (.int (n : Int)), .o (l.map .int), .o [], s4, .non, .non, .non] := ⟨_, fun _ _ => Iff.rfl⟩
    refine loop_inv J ((hJ _ _).mpr ⟨[0], _, by omega, ⟨rfl, by simp, by simp, by simp⟩, rfl⟩) ?_ ?_
    · rintro i δ d hd hj
      obtain ⟨l, s4, hi, ho, rfl⟩ := (hJ _ _).mp hj
      obtain ⟨hi2, rfl⟩ := rgD_get hd
      refine ⟨_, rfl, ?_⟩
      have hlen := ho.len
      simp [fz]
      refine ⟨line1, ?_⟩
      refine taken_run hr (by omega) (by omega) fun z z0 z1 => ?_
      simp
      have ei : (1 : Int) + (i : Int) = ((i + 1 : Nat) : Int) := by omega
      by_cases c : z = 0
      · simp [c]
        refine ⟨lineN (by omega), (hJ _ _).mpr ⟨l ++ [((i + 1 : Nat) : Int)], .p (.int (1 + (i : Int))), by omega, ho.snoc, ?_⟩⟩
        simp [ei]
      · simp [c]
        refine ⟨lineN (by omega), (hJ _ _).mpr ⟨l, .p (.int (1 + (i : Int))), by omega, ho.more, ?_⟩⟩
        rfl
    · rintro δ hj
      obtain ⟨l, s4, _, ho, rfl⟩ := (hJ _ _).mp hj
      rw [rgD_len] at ho
      rw [show n - 2 + 1 = n - 1 by omega] at ho
      exact ⟨_, rfl, l, s4, ho, rfl⟩
  rintro _ ⟨l0, s4, ho0, rfl⟩
  have ho := ho0.snoc
  rw [show n - 1 + 1 = n by omega] at ho
  have l0n : 1 ≤ l0.length := by
    rcases Nat.eq_zero_or_pos l0.length with z | z
    · have := ho0.h0
      rw [List.eq_nil_of_length_eq_zero z] at this
      cases this
    · exact z
  have hl0 := ho0.len
  refine seqM (fun δ => δ = [.t r φ, .p (.int (n : Int)), .o ((l0 ++ [((n - 1 : Nat) : Int)]).map .int), .o [], s4, .non, .non, .non]) ?_ ?_
  · simp
    refine ⟨lineL (by omega), ?_⟩
    omega
  rintro _ rfl
  obtain ⟨l, hl⟩ : ∃ l, l = l0 ++ [((n - 1 : Nat) : Int)] := ⟨_, rfl⟩
  have hlast : l.getLast? = some ((n : Int) - 1) := by
    rw [hl, List.getLast?_concat]
    congr 1
    omega
  have hl2 : 2 ≤ l.length := by rw [hl]; simp; omega
  rw [← hl] at ho ⊢
  clear hl hl0 l0n ho0
  have hlen := ho.len
  simp only [rw_sFz, fz, List.getElem?_cons_succ, List.getElem?_cons_zero, List.set_cons_succ, List.set_cons_zero]
  refine seqM (fun δ => ∃ (R : List Rd4) (s5 : Sl), R.length = l.length - 1 ∧ (∀ x ∈ R, RdOk (n : Int) x) ∧ Pth (R.map en4) ((n : Int) - 1) (l.length - 1) (fun i => l.getD i 0) ∧ δ = [.t r φ, .p (.int (n : Int)), .p (.list (l.map .int)), .o (R.map rd4), s4, s5, .non, .non]) ?_ ?_
  · simp only [rw_for, rw_rg2, rw_dCB, rw_aCons, rw_aNil, rw_dV, rw_dC, List.getElem?_cons_succ, List.getElem?_cons_zero, slotP_p, pure_bind, rw_allD1, rw_allD0, rw_lenL, List.length_map, rw_asI1, run_bind, run_need, run_pure, true_and]
    refine ⟨⟨lo62_le (by omega) (by omega), lo62_le (by omega) (by omega)⟩, ?_⟩
    have el : ((l.length : Int) - 1).toNat = l.length - 1 := by omega
    rw [el]
    obtain ⟨J, hJ⟩ : ∃ J : Nat → De → Prop, ∀ i δ, J i δ ↔ ∃ (R : List Rd4) (s5 : Sl), i ≤ l.length - 1 ∧ R.length = i ∧ (∀ x ∈ R, RdOk (n : Int) x) ∧ (∀ j, j < i → (R.map en4)[j]? = some (l.getD j 0, l.getD (j + 1) 0)) ∧ δ = [.t r φ, .p (.int (n : Int)), .p (.list (l.map .int)), .o (R.map rd4), s4, s5, .non, .non] := ⟨_, fun _ _ => Iff.rfl⟩
    refine loop_inv J ((hJ _ _).mpr ⟨[], _, by omega, rfl, by simp, by simp, rfl⟩) ?_ ?_
    · rintro i δ d hd hj
      obtain ⟨R, s5, hi, hR, hok, he, rfl⟩ := (hJ _ _).mp hj
      obtain ⟨hi2, rfl⟩ := rgD_get hd
      refine ⟨_, rfl, ?_⟩
      have e1 : (1 : Int) + (i : Int) - 1 = (i : Int) := by omega
      have e2 : (1 : Int) + (i : Int) = ((i + 1 : Nat) : Int) := by omega
      have g1 : atI (l.map PyData.int) (i : Int) = some (.int (l.getD i 0)) := at_ints (by omega)
      have g2 : atI (l.map PyData.int) ((i + 1 : Nat) : Int) = some (.int (l.getD (i + 1) 0)) := at_ints (by omega)
      simp only [rw_sFz, rw_bName, List.set_cons_succ, List.set_cons_zero]
      show (sApp 3 _ [.t r φ, .p (.int (n : Int)), .p (.list (l.map .int)), .o (R.map rd4), s4, .p (.int (1 + (i : Int))), .non, .non]).run _ _
      simp only [rw_app, rw_call, rw_aTrk, rw_aCons, rw_aNil, rw_d2, rw_dV, rw_dC, List.getElem?_cons_succ, List.getElem?_cons_zero, slotO_o, slotT_t, slotP_p, pure_bind, rw_int2, run_bind, run_need, run_pure, rw_ixL, true_and]
      rw [e1, e2, g1, g2]
      simp only [optW_some, run_pure, run_bind, run_need, pure_bind, List.length_cons, List.length_nil, true_and, rw_ixL, g1, g2]
      have b1 : l.getD i 0 ∈ l := by rw [List.getD_eq_getElem?_getD, List.getElem?_eq_getElem (by omega : i < l.length)]; exact List.getElem_mem _
      have b2 : l.getD (i + 1) 0 ∈ l := by rw [List.getD_eq_getElem?_getD, List.getElem?_eq_getElem (by omega : i + 1 < l.length)]; exact List.getElem_mem _
      have lt : l.getD i 0 < l.getD (i + 1) 0 := by
        have h1 : i < l.length := by omega
        have h2 : i + 1 < l.length := by omega
        have := List.pairwise_iff_getElem.mp ho.up i (i + 1) h1 h2 (by omega)
        simpa [h1, h2] using this
      have b1' := ho.bd _ b1
      have b2' := ho.bd _ b2
      refine lroad_run hr fun sl ba s0 s1 c0 c1 => ?_
      refine ⟨lineL (by simp; omega), (hJ _ _).mpr ⟨R ++ [(l.getD i 0, l.getD (i + 1) 0, sl, ba)], _, by omega, by simp [hR], fun x hx => ?_, fun j hj2 => ?_, by rw [List.map_append]; rfl⟩⟩
      · rcases List.mem_append.mp hx with z | z
        · exact hok x z
        · rw [List.mem_singleton.mp z]
          exact ⟨⟨by show 0 ≤ l.getD i 0; omega, by show l.getD i 0 ≤ _; omega⟩, ⟨by show 0 ≤ l.getD (i + 1) 0; omega, by show l.getD (i + 1) 0 ≤ _; omega⟩, by show l.getD i 0 ≠ l.getD (i + 1) 0; omega, ⟨s0, s1⟩, ⟨c0, c1⟩⟩
      · rw [List.map_append]
        by_cases c : j < i
        · rw [List.getElem?_append_left (by simp [hR]; exact c)]
          exact he j c
        · have : j = i := by omega
          subst this
          rw [List.getElem?_append_right (by simp [hR])]
          simp [hR, en4]
    · rintro δ hj
      obtain ⟨R, s5, _, hR, hok, he, rfl⟩ := (hJ _ _).mp hj
      rw [rgD_len] at hR he
      exact ⟨_, rfl, R, s5, hR, hok, pth_of ho.h0 hlast hl2 ho.up fun i hi => he i (by omega), rfl⟩
  rintro _ ⟨R, s5, hR, hok, hP, rfl⟩
  refine seqM (fun δ => ∃ (R : List Rd4) (s6 s7 : Sl), 1 ≤ R.length ∧ R.length ≤ 10 ∧ (∀ x ∈ R, RdOk (n : Int) x) ∧ Pth (R.map en4) ((n : Int) - 1) (l.length - 1) (fun i => l.getD i 0) ∧ δ = [.t r φ, .p (.int (n : Int)), .p (.list (l.map .int)), .o (R.map rd4), s4, s5, s6, s7]) ?_ ?_
  · simp only [rw_for, rw_rg1, rw_call, rw_aTrk, rw_aCons, rw_aNil, rw_dC, List.getElem?_cons_succ, List.getElem?_cons_zero, slotT_t, pure_bind, run_bind, run_need, run_pure, List.length_cons, List.length_nil, true_and]
    refine taken_run hr (by omega) (by omega) fun z z0 z1 => ?_
    simp only [rw_asI1, run_need, run_pure, run_bind]
    refine ⟨lo62_le (by omega) (by omega), ?_⟩
    obtain ⟨J, hJ⟩ : ∃ J : Nat → De → Prop, ∀ i δ, J i δ ↔ ∃ (R : List Rd4) (s6 s7 : Sl), 1 ≤ R.length ∧ R.length ≤ 4 + i ∧ (∀ x ∈ R, RdOk (n : Int) x) ∧ Pth (R.map en4) ((n : Int) - 1) (l.length - 1) (fun i => l.getD i 0) ∧ δ = [.t r φ, .p (.int (n : Int)), .p (.list (l.map .int)), .o (R.map rd4), s4, s5, s6, s7] := ⟨_, fun _ _ => Iff.rfl⟩
    refine loop_inv J ((hJ _ _).mpr ⟨R, _, _, by omega, by omega, hok, hP, rfl⟩) ?_ ?_
    · rintro i δ d hd hj
      obtain ⟨R, s6, s7, r1, r2, hok, hP, rfl⟩ := (hJ _ _).mp hj
      obtain ⟨hi, rfl⟩ := rgD_get hd
      refine ⟨_, rfl, ?_⟩
      simp
      refine taken_run hr (by omega) (by omega) fun s s0 s1 => ?_
      simp
      refine taken_run hr (by omega) (by omega) fun t t0 t1 => ?_
      simp
      obtain ⟨e0, e1, e2⟩ := endp s0 s1 t0 t1
      refine ⟨by omega, lroad_run hr fun sl ba g0 g1 c0 c1 => ?_⟩
      refine ⟨lineL (by omega), (hJ _ _).mpr ⟨R ++ [(s, (s + 1 + t) % n, sl, ba)], _, _, by simp, by simp; omega, fun x hx => ?_, by rw [List.map_append]; exact hP.app _, by rw [List.map_append]; rfl⟩⟩
      rcases List.mem_append.mp hx with z | z
      · exact hok x z
      · rw [List.mem_singleton.mp z]
        exact ⟨⟨s0, by show s ≤ _; omega⟩, ⟨e0, by show (s + 1 + t) % n ≤ _; omega⟩, e2, ⟨g0, g1⟩, ⟨c0, c1⟩⟩
    · rintro δ hj
      obtain ⟨R, s6, s7, r1, r2, hok, hP, rfl⟩ := (hJ _ _).mp hj
      rw [rgD_len] at r2
      exact ⟨_, rfl, R, s6, s7, r1, by omega, hok, hP, rfl⟩
  rintro _ ⟨R, s6, s7, r1, r2, hok, hP, rfl⟩
  have ec : cutD (R.map rd4) none (some 10) = R.map rd4 := by
    have := cut_take (xs := R.map rd4) (n := 10)
    rw [show ((10 : Nat) : Int) = 10 from rfl] at this
    rw [this, List.take_of_length_le (by simpa using r2)]
  simp [fz, ec]
  refine ⟨line2, ?_⟩
  have hlen := ho.len
  exact hk n R ⟨⟨n2, n5⟩, ⟨⟨by omega, by omega⟩, ⟨r1, r2⟩, hok⟩, hP.ways (by omega)⟩
end
section
open Lk
variable {w : Exn → Prop} {nn : Int} {R : List Rd4} {E K B : Nat}
theorem flat_mem_len {rt : List Pt} {p : Pt} (h : p ∈ rt) : p.length ≤ (rt.flatMap id).length := by
  induction rt with
  | nil => cases h
  | cons q rt ih =>
    rw [List.flatMap_cons, List.length_append]
    rcases List.mem_cons.mp h with rfl | h
    · exact Nat.le_add_right _ _
    · have := ih h
      omega
end
section
open Lk
variable {w : Exn → Prop} {R : List Rd4} {B Bc n E K : Nat} {Cx : Nat → Rat} {X : Trs} {ta : List Rat} {P : List Pt} {s : Int}
structure ASz (E K B : Nat) (P : List Pt) : Prop where
  e0 : 0 < E
  e1 : E < 2 ^ B
  cd : ∀ p ∈ P, ∀ q ∈ p, CD E K q.2
  k1 : ((P.flatMap id).length + 1) * K < 2 ^ B
  b0 : 100 ≤ B
  b1 : B < 1480
  len : (P.flatMap id).length ≤ 200
theorem ASz.fl (h : ASz E K B P) (x : Nat) : RB (flL (P.flatMap id) x) B := by
  have k1 := h.k1
  refine rb_cd (flL_cd (K := K) h.e0 fun q hq => ?_) h.e1 ?_
  · obtain ⟨p, hp1, hp2⟩ := List.mem_flatMap.mp hq
    exact h.cd p hp1 q hp2
  · rw [Nat.succ_mul] at k1
    exact Nat.lt_of_le_of_lt (Nat.le_add_right _ _) k1
end
section
open Lk
variable {R : List Rd4} {n : Nat} {X : Trs} {ta : List Rat} {P : List Pt}
theorem ASz.rb {E K B : Nat} (h : ASz E K B P) : ∀ p ∈ P, ∀ q ∈ p, RB q.2 B := fun p hp q hq => by
  have k1 := h.k1
  refine rb_cd (h.cd p hp q hq) h.e1 ?_
  have : 1 * K ≤ ((P.flatMap id).length + 1) * K := Nat.mul_le_mul_right _ (by omega)
  omega
theorem ASz.pl {E K B : Nat} (h : ASz E K B P) : ∀ p ∈ P, p.length ≤ 200 := fun p hp => Nat.le_trans (flat_mem_len hp) h.len
end

end Tr

namespace Rdx
abbrev Ed := Int × Int
section
variable {s g : Int} {M N L : List Ed}
inductive St (s g : Int) (M N : List Ed) : Prop
  | side (e : Ed) : M.Perm (e :: N) → e ∈ N → St s g M N
  | row (a v b : Int) (L : List Ed) : M.Perm ((a, v) :: (v, b) :: L) → N.Perm ((a, b) :: L) → v ≠ s → v ≠ g → a ≠ v → b ≠ v → (∀ e ∈ L, e.1 ≠ v ∧ e.2 ≠ v) → St s g M N
inductive Red (s g : Int) : List Ed → Prop
  | one {M : List Ed} : M.length = 1 → Red s g M
  | step {M N : List Ed} : St s g M N → Red s g N → Red s g M
theorem St.permL (h : St s g M N) (p : L.Perm M) : St s g L N := by
  cases h with
  | side e h1 h2 => exact .side e (p.trans h1) h2
  | row a v b K h1 h2 h3 h4 h5 h6 h7 => exact .row a v b K (p.trans h1) h2 h3 h4 h5 h6 h7
theorem Red.perm (h : Red s g M) (p : M.Perm L) : Red s g L := by
  cases h with
  | one h => exact .one (by rw [← p.length_eq]; exact h)
  | step h r => exact .step (h.permL p.symm) r
theorem St.len (h : St s g M N) : M.length = N.length + 1 := by
  cases h with
  | side e h1 h2 => rw [h1.length_eq]; rfl
  | row a v b K h1 h2 _ _ _ _ _ => rw [h1.length_eq, h2.length_eq]; rfl
inductive Rch (s : Int) (M : List Ed) : Int → Prop
  | z : Rch s M s
  | st {x y : Int} : Rch s M x → (x, y) ∈ M → Rch s M y
def Rea (s : Int) (M : List Ed) : Prop := ∀ e ∈ M, Rch s M e.1
theorem Rch.sub (h : ∀ e ∈ M, e ∈ N) {x : Int} (r : Rch s M x) : Rch s N x := by
  induction r with
  | z => exact .z
  | st _ h1 ih => exact .st ih (h _ h1)
theorem St.rd (h : St s g M N) (r : Rea s M) : Rea s N := by
  cases h with
  | side e h1 h2 =>
    intro f hf
    have := r f (h1.mem_iff.mpr (List.mem_cons_of_mem _ hf))
    refine this.sub fun x hx => ?_
    rcases List.mem_cons.mp (h1.mem_iff.mp hx) with rfl | hx
    · exact h2
    · exact hx
  | row a v b K h1 h2 hs hg ha hb hK =>
    have key : ∀ {x : Int}, Rch s M x → (x ≠ v → Rch s N x) ∧ (x = v → Rch s N a) := fun {x} h => by
      induction h with
      | z => exact ⟨fun _ => .z, fun z => absurd z.symm hs⟩
      | @st x y h0 h3 ih =>
        have h4 := h1.mem_iff.mp h3
        rcases List.mem_cons.mp h4 with h4 | h4
        · cases h4
          exact ⟨fun z => absurd rfl z, fun _ => ih.1 ha⟩
        · rcases List.mem_cons.mp h4 with h4 | h4
          · cases h4
            exact ⟨fun _ => .st (ih.2 rfl) (h2.mem_iff.mpr (by simp)), fun z => absurd z hb⟩
          · have h5 := hK _ h4
            exact ⟨fun _ => .st (ih.1 h5.1) (h2.mem_iff.mpr (by simp [h4])), fun z => absurd z h5.2⟩
    intro f hf
    rcases List.mem_cons.mp (h2.mem_iff.mp hf) with rfl | hf
    · exact (key (r (a, v) (h1.mem_iff.mpr (by simp)))).1 ha
    · exact (key (r f (h1.mem_iff.mpr (by simp [hf])))).1 (hK f hf).1
theorem row_out {a v b : Int} (h : M.Perm ((a, v) :: (v, b) :: L)) (ha : a ≠ v) (hL : ∀ e ∈ L, e.1 ≠ v ∧ e.2 ≠ v) {e : Ed} (he : e ∈ M) (h1 : e.1 = v) : e = (v, b) := by
  rcases List.mem_cons.mp (h.mem_iff.mp he) with rfl | he
  · exact absurd h1 ha
  · rcases List.mem_cons.mp he with rfl | he
    · rfl
    · exact absurd h1 (hL e he).1
theorem row_in {a v b : Int} (h : M.Perm ((a, v) :: (v, b) :: L)) (hb : b ≠ v) (hL : ∀ e ∈ L, e.1 ≠ v ∧ e.2 ≠ v) {e : Ed} (he : e ∈ M) (h1 : e.2 = v) : e = (a, v) := by
  rcases List.mem_cons.mp (h.mem_iff.mp he) with rfl | he
  · rfl
  · rcases List.mem_cons.mp he with rfl | he
    · exact absurd h1 hb
    · exact absurd h1 (hL e he).2
theorem count_row {a v b : Int} (h : M.Perm ((a, v) :: (v, b) :: L)) (ha : a ≠ v) (hL : ∀ e ∈ L, e.1 ≠ v ∧ e.2 ≠ v) : M.count (a, v) = 1 ∧ M.count (v, b) = 1 := by
  have n1 : (a, v) ∉ L := fun z => (hL _ z).2 rfl
  have n2 : (v, b) ∉ L := fun z => (hL _ z).1 rfl
  have d : ((v, b) : Ed) ≠ (a, v) := fun z => ha (Prod.mk.inj z).1.symm
  rw [h.count_eq, h.count_eq]
  constructor
  · rw [List.count_cons_self, List.count_cons_of_ne d, List.count_eq_zero.mpr n1]
  · rw [List.count_cons_of_ne (Ne.symm d), List.count_cons_self, List.count_eq_zero.mpr n2]
theorem side_row {e : Ed} {a v b : Int} {N2 : List Ed} (h : M.Perm (e :: N)) (he : e ∈ N) (h1 : M.Perm ((a, v) :: (v, b) :: L)) (h2 : N2.Perm ((a, b) :: L)) (hs : v ≠ s) (hg : v ≠ g) (ha : a ≠ v) (hb : b ≠ v) (hL : ∀ e ∈ L, e.1 ≠ v ∧ e.2 ≠ v) :
    ∃ K, St s g N K ∧ St s g N2 K := by
  have c2 : 2 ≤ M.count e := by
    rw [h.count_eq, List.count_cons_self]
    have := List.count_pos_iff.mpr he
    omega
  have cc := count_row h1 ha hL
  have e1 : e ≠ (a, v) := fun z => by rw [z] at c2; omega
  have e2 : e ≠ (v, b) := fun z => by rw [z] at c2; omega
  have hm : e ∈ L := by
    have := h1.mem_iff.mp (h.mem_iff.mpr (List.mem_cons_self ..))
    rcases List.mem_cons.mp this with z | z
    · exact absurd z e1
    · rcases List.mem_cons.mp z with z | z
      · exact absurd z e2
      · exact z
  have hLe := List.perm_cons_erase hm
  have hN : N.Perm ((a, v) :: (v, b) :: L.erase e) := by
    have p1 : (e :: N).Perm ((a, v) :: (v, b) :: e :: L.erase e) := h.symm.trans (h1.trans ((hLe.cons _).cons _))
    have p2 : ((a, v) :: (v, b) :: e :: L.erase e).Perm (e :: (a, v) :: (v, b) :: L.erase e) :=
      ((List.Perm.swap e (v, b) _).cons _).trans (List.Perm.swap e (a, v) _)
    exact (p1.trans p2).cons_inv
  have hc : e ∈ L.erase e := by
    apply List.count_pos_iff.mp
    have : M.count e = (L.erase e).count e + 1 := by
      rw [h1.count_eq, List.count_cons_of_ne (Ne.symm e1), List.count_cons_of_ne (Ne.symm e2), hLe.count_eq, List.count_cons_self]
    omega
  refine ⟨(a, b) :: L.erase e, .row a v b _ hN (List.Perm.refl _) hs hg ha hb fun f hf => hL f (List.mem_of_mem_erase hf), .side e ?_ (List.mem_cons_of_mem _ hc)⟩
  exact h2.trans ((hLe.cons _).trans (List.Perm.swap e (a, b) _))
theorem side_side {e f : Ed} {N2 : List Ed} (h : M.Perm (e :: N)) (he : e ∈ N) (h1 : M.Perm (f :: N2)) (hf : f ∈ N2) : N.Perm N2 ∨ ∃ K, St s g N K ∧ St s g N2 K := by
  by_cases c : e = f
  · subst c
    exact .inl (h.symm.trans h1).cons_inv
  · right
    have f1 : f ∈ N := by
      rcases List.mem_cons.mp (h.mem_iff.mp (h1.mem_iff.mpr (List.mem_cons_self ..))) with z | z
      · exact absurd z.symm c
      · exact z
    have e1 : e ∈ N2 := by
      rcases List.mem_cons.mp (h1.mem_iff.mp (h.mem_iff.mpr (List.mem_cons_self ..))) with z | z
      · exact absurd z c
      · exact z
    have p1 := List.perm_cons_erase f1
    have p2 := List.perm_cons_erase e1
    have pe : (N.erase f).Perm (N2.erase e) := by
      have q : (e :: f :: N.erase f).Perm (e :: f :: N2.erase e) := (p1.cons e).symm.trans (h.symm.trans (h1.trans ((p2.cons f).trans (List.Perm.swap e f _))))
      exact q.cons_inv.cons_inv
    have cf : f ∈ N.erase f := by
      apply List.count_pos_iff.mp
      have a1 : M.count f = N.count f := by rw [h.count_eq, List.count_cons_of_ne c]
      have a2 : M.count f = N2.count f + 1 := by rw [h1.count_eq, List.count_cons_self]
      have a3 := List.count_pos_iff.mpr hf
      have a4 : N.count f = (N.erase f).count f + 1 := by rw [p1.count_eq, List.count_cons_self]
      omega
    have ce : e ∈ N2.erase e := by
      apply List.count_pos_iff.mp
      have a1 : M.count e = N2.count e := by rw [h1.count_eq, List.count_cons_of_ne (Ne.symm c)]
      have a2 : M.count e = N.count e + 1 := by rw [h.count_eq, List.count_cons_self]
      have a3 := List.count_pos_iff.mpr he
      have a4 : N2.count e = (N2.erase e).count e + 1 := by rw [p2.count_eq, List.count_cons_self]
      omega
    exact ⟨N.erase f, .side f p1 cf, .side e (p2.trans (pe.symm.cons e)) (pe.mem_iff.mpr ce)⟩
theorem row_same {a v b a' b' : Int} {L' N2 : List Ed} (h1 : M.Perm ((a, v) :: (v, b) :: L)) (h2 : N.Perm ((a, b) :: L)) (ha : a ≠ v) (hb : b ≠ v) (hL : ∀ e ∈ L, e.1 ≠ v ∧ e.2 ≠ v) (h1' : M.Perm ((a', v) :: (v, b') :: L')) (h2' : N2.Perm ((a', b') :: L')) : N.Perm N2 := by
  have e1 := row_in h1 hb hL (h1'.mem_iff.mpr (List.mem_cons_self ..)) rfl
  have e2 := row_out h1 ha hL (h1'.mem_iff.mpr (List.mem_cons_of_mem _ (List.mem_cons_self ..))) rfl
  cases e1
  cases e2
  have : L.Perm L' := (h1.symm.trans h1').cons_inv.cons_inv
  exact h2.trans ((this.cons _).trans h2'.symm)
theorem row_chain {a v w d : Int} {N2 K : List Ed} (p : M.Perm ((a, v) :: (v, w) :: (w, d) :: K)) (h2 : N.Perm ((a, w) :: (w, d) :: K)) (h2' : N2.Perm ((a, v) :: (v, d) :: K)) (hv : v ≠ s ∧ v ≠ g) (hw : w ≠ s ∧ w ≠ g) (hav : a ≠ v) (hwv : w ≠ v) (hdw : d ≠ w) (haw : a ≠ w) (hdv : d ≠ v)
    (hK : ∀ e ∈ K, (e.1 ≠ v ∧ e.2 ≠ v) ∧ e.1 ≠ w ∧ e.2 ≠ w) : ∃ J, St s g N J ∧ St s g N2 J :=
  ⟨(a, d) :: K, .row a w d K h2 (List.Perm.refl _) hw.1 hw.2 haw hdw fun e he => (hK e he).2, .row a v d K h2' (List.Perm.refl _) hv.1 hv.2 hav hdv fun e he => (hK e he).1⟩
theorem no_ring {v w : Int} {K : List Ed} (r : Rea s M) (p : M.Perm ((w, v) :: (v, w) :: K)) (hv : v ≠ s) (hw : w ≠ s) (hK : ∀ e ∈ K, (e.1 ≠ v ∧ e.2 ≠ v) ∧ e.1 ≠ w ∧ e.2 ≠ w) : False := by
  have key : ∀ {x : Int}, Rch s M x → x ≠ v ∧ x ≠ w := fun {x} h => by
    induction h with
    | z => exact ⟨Ne.symm hv, Ne.symm hw⟩
    | @st x y h0 h3 ih =>
      rcases List.mem_cons.mp (p.mem_iff.mp h3) with z | z
      · cases z; exact absurd rfl ih.2
      · rcases List.mem_cons.mp z with z | z
        · cases z; exact absurd rfl ih.1
        · exact ⟨(hK _ z).1.2, (hK _ z).2.2⟩
  exact (key (r (v, w) (p.mem_iff.mpr (by simp)))).1 rfl
theorem row_row {a v b c w d : Int} {L' N2 : List Ed} (r : Rea s M) (h1 : M.Perm ((a, v) :: (v, b) :: L)) (h2 : N.Perm ((a, b) :: L)) (hv : v ≠ s ∧ v ≠ g) (ha : a ≠ v) (hb : b ≠ v) (hL : ∀ e ∈ L, e.1 ≠ v ∧ e.2 ≠ v)
    (h1' : M.Perm ((c, w) :: (w, d) :: L')) (h2' : N2.Perm ((c, d) :: L')) (hw : w ≠ s ∧ w ≠ g) (hc : c ≠ w) (hd : d ≠ w) (hL' : ∀ e ∈ L', e.1 ≠ w ∧ e.2 ≠ w) (hne : v ≠ w) : ∃ J, St s g N J ∧ St s g N2 J := by
  -- the roads of w among the rest
  have mv1 : (a, v) ∈ M := h1.mem_iff.mpr (by simp)
  have mv2 : (v, b) ∈ M := h1.mem_iff.mpr (by simp)
  have mw1 : (c, w) ∈ M := h1'.mem_iff.mpr (by simp)
  have mw2 : (w, d) ∈ M := h1'.mem_iff.mpr (by simp)
  by_cases s1 : b = w
  · subst s1
    -- (v, w) is w's road in
    have e1 := row_in h1' hd hL' mv2 rfl
    have hcv : c = v := (Prod.mk.inj e1).1.symm
    subst hcv
    by_cases s2 : a = b
    · subst s2
      exfalso
      have e2 := row_out h1' hc hL' mv1 rfl
      have hdv : c = d := (Prod.mk.inj e2).2
      subst hdv
      -- both
      have p2 : L.Perm L' := by
        have q : ((a, c) :: (c, a) :: L).Perm ((a, c) :: (c, a) :: L') := h1.symm.trans (h1'.trans (List.Perm.swap _ _ _))
        exact q.cons_inv.cons_inv
      exact no_ring r h1 hv.1 hw.1 fun e he => ⟨hL e he, hL' e (p2.mem_iff.mp he)⟩
    · have m : (b, d) ∈ L := by
        rcases List.mem_cons.mp (h1.mem_iff.mp mw2) with z | z
        · exact absurd (Prod.mk.inj z).1.symm s2
        · rcases List.mem_cons.mp z with z | z
          · exact absurd (Prod.mk.inj z).1 (Ne.symm hne)
          · exact z
      have pL := List.perm_cons_erase m
      have dv : d ≠ c := (hL _ m).2
      have pK : L'.Perm ((a, c) :: L.erase (b, d)) := by
        have q : ((c, b) :: (b, d) :: L').Perm ((c, b) :: (b, d) :: (a, c) :: L.erase (b, d)) := by
          refine h1'.symm.trans (h1.trans ?_)
          refine (((pL.cons _).cons _)).trans ?_
          refine (List.Perm.swap _ _ _).trans (List.Perm.cons _ ?_)
          exact List.Perm.swap _ _ _
        exact q.cons_inv.cons_inv
      refine row_chain (K := L.erase (b, d)) (h1.trans ((pL.cons _).cons _)) (h2.trans (pL.cons _)) ?_ hv hw ha (Ne.symm hne) hd s2 dv fun e he => ⟨hL e (List.mem_of_mem_erase he), hL' e (pK.mem_iff.mpr (by simp [he]))⟩
      exact h2'.trans ((pK.cons _).trans (List.Perm.swap _ _ _))
  · by_cases s2 : a = w
    · subst s2
      have e1 := row_out h1' hc hL' mv1 rfl
      have hdv : d = v := (Prod.mk.inj e1).2.symm
      subst hdv
      have m : (c, a) ∈ L := by
        rcases List.mem_cons.mp (h1.mem_iff.mp mw1) with z | z
        · exact absurd (Prod.mk.inj z).1 hc
        · rcases List.mem_cons.mp z with z | z
          · exact absurd (Prod.mk.inj z).2.symm s1
          · exact z
      have pL := List.perm_cons_erase m
      have cv : c ≠ d := (hL _ m).1
      have pK : L'.Perm ((d, b) :: L.erase (c, a)) := by
        have q : ((c, a) :: (a, d) :: L').Perm ((c, a) :: (a, d) :: (d, b) :: L.erase (c, a)) := by
          refine h1'.symm.trans (h1.trans ?_)
          refine (((pL.cons _).cons _)).trans ?_
          refine (List.Perm.cons _ (List.Perm.swap _ _ _)).trans ?_
          exact List.Perm.swap _ _ _
        exact q.cons_inv.cons_inv
      have q := row_chain (s := s) (g := g) (M := M) (N := N2) (N2 := N) (a := c) (v := a) (w := d) (d := b) (K := L.erase (c, a)) ?_ ?_ ?_ hw hv hc hne hb cv (by exact s1) ?_
      · obtain ⟨J, j1, j2⟩ := q
        exact ⟨J, j2, j1⟩
      · exact h1'.trans ((pK.cons _).cons _)
      · exact h2'.trans (pK.cons _)
      · exact h2.trans ((pL.cons _).trans (List.Perm.swap _ _ _))
      · intro e he
        exact ⟨hL' e (pK.mem_iff.mpr (by simp [he])), hL e (List.mem_of_mem_erase he)⟩
    · -- nothing shared
      have cv : c ≠ v := fun z => by
        subst z
        have := row_out h1 ha hL mw1 rfl
        exact s1 (Prod.mk.inj this).2.symm
      have dv : d ≠ v := fun z => by
        subst z
        have := row_in h1 hb hL mw2 rfl
        exact s2 (Prod.mk.inj this).1.symm
      have m1 : (c, w) ∈ L := by
        rcases List.mem_cons.mp (h1.mem_iff.mp mw1) with z | z
        · exact absurd (Prod.mk.inj z).2 (Ne.symm hne)
        · rcases List.mem_cons.mp z with z | z
          · exact absurd (Prod.mk.inj z).1 cv
          · exact z
      have pL := List.perm_cons_erase m1
      have m2 : (w, d) ∈ L.erase (c, w) := by
        have hm : (w, d) ∈ L := by
          rcases List.mem_cons.mp (h1.mem_iff.mp mw2) with z | z
          · exact absurd (Prod.mk.inj z).1.symm s2
          · rcases List.mem_cons.mp z with z | z
            · exact absurd (Prod.mk.inj z).1 (Ne.symm hne)
            · exact z
        have : ((w, d) : Ed) ≠ (c, w) := fun z => hd (Prod.mk.inj z).2
        exact (List.mem_erase_of_ne this).mpr hm
      have pL2 := List.perm_cons_erase m2
      generalize hKK : (L.erase (c, w)).erase (w, d) = K at pL2
      have pA : L.Perm ((c, w) :: (w, d) :: K) := pL.trans (pL2.cons _)
      have pB : L'.Perm ((a, v) :: (v, b) :: K) := by
        have q : ((c, w) :: (w, d) :: L').Perm ((c, w) :: (w, d) :: (a, v) :: (v, b) :: K) := by
          refine h1'.symm.trans (h1.trans ?_)
          refine ((pA.cons _).cons _).trans ?_
          have : ((a, v) :: (v, b) :: ((c, w) :: (w, d) :: K)) = [(a, v), (v, b)] ++ ([(c, w), (w, d)] ++ K) := rfl
          rw [this]
          have : ((c, w) :: (w, d) :: (a, v) :: (v, b) :: K) = [(c, w), (w, d)] ++ ([(a, v), (v, b)] ++ K) := rfl
          rw [this, ← List.append_assoc, ← List.append_assoc]
          exact List.Perm.append_right _ List.perm_append_comm
        exact q.cons_inv.cons_inv
      have kk : ∀ e ∈ K, (e.1 ≠ v ∧ e.2 ≠ v) ∧ e.1 ≠ w ∧ e.2 ≠ w := fun e he => ⟨hL e (pA.mem_iff.mpr (by simp [he])), hL' e (pB.mem_iff.mpr (by simp [he]))⟩
      refine ⟨(a, b) :: (c, d) :: K, .row c w d ((a, b) :: K) ?_ (List.Perm.swap _ _ _) hw.1 hw.2 hc hd fun e he => ?_, .row a v b ((c, d) :: K) ?_ (List.Perm.refl _) hv.1 hv.2 ha hb fun e he => ?_⟩
      · refine h2.trans ((pA.cons _).trans ?_)
        exact (List.Perm.swap _ _ _).trans (List.Perm.cons _ (List.Perm.swap _ _ _))
      · rcases List.mem_cons.mp he with rfl | he
        · exact ⟨s2, s1⟩
        · exact (kk e he).2
      · refine h2'.trans ((pB.cons _).trans ?_)
        exact (List.Perm.swap _ _ _).trans (List.Perm.cons _ (List.Perm.swap _ _ _))
      · rcases List.mem_cons.mp he with rfl | he
        · exact ⟨cv, dv⟩
        · exact (kk e he).1
theorem local_conf {N2 : List Ed} (r : Rea s M) (h : St s g M N) (h' : St s g M N2) : N.Perm N2 ∨ ∃ J, St s g N J ∧ St s g N2 J := by
  cases h with
  | side e h1 h2 =>
    cases h' with
    | side f k1 k2 => exact side_side h1 h2 k1 k2
    | row a v b K k1 k2 k3 k4 k5 k6 k7 => exact .inr (side_row h1 h2 k1 k2 k3 k4 k5 k6 k7)
  | row a v b K h1 h2 h3 h4 h5 h6 h7 =>
    cases h' with
    | side f k1 k2 =>
      obtain ⟨J, j1, j2⟩ := side_row k1 k2 h1 h2 h3 h4 h5 h6 h7
      exact .inr ⟨J, j2, j1⟩
    | row c w d K' k1 k2 k3 k4 k5 k6 k7 =>
      by_cases e : v = w
      · subst e
        exact .inl (row_same h1 h2 h5 h6 h7 k1 k2)
      · exact .inr (row_row r h1 h2 ⟨h3, h4⟩ h5 h6 h7 k1 k2 ⟨k3, k4⟩ k5 k6 k7 e)
theorem Red.st (h : Red s g M) : ∀ {N : List Ed}, Rea s M → 0 < N.length → St s g M N → Red s g N := by
  induction h with
  | @one M h =>
    intro N _ h0 h'
    have := h'.len
    omega
  | @step M K h1 h2 ih =>
    intro N r h0 h'
    rcases local_conf r h1 h' with p | ⟨J, j1, j2⟩
    · exact h2.perm p
    · by_cases c : N.length = 1
      · exact .one c
      · have l1 := h1.len
        have l2 := h'.len
        have l3 := j2.len
        exact .step j2 (ih (h1.rd r) (by omega) j1)
theorem stuck_no (h : ∀ N, ¬ St s g M N) (hl : M.length ≠ 1) : ¬ Red s g M := fun z => by
  cases z with
  | one h1 => exact hl h1
  | step h1 _ => exact h _ h1
def sw (e : Ed) : Ed := (e.2, e.1)
theorem St.sw (h : St s g M N) : St g s (M.map sw) (N.map sw) := by
  cases h with
  | side e h1 h2 => exact .side (Rdx.sw e) (h1.map _) (List.mem_map.mpr ⟨e, h2, rfl⟩)
  | row a v b K h1 h2 h3 h4 h5 h6 h7 =>
    refine .row b v a (K.map Rdx.sw) ((h1.map _).trans (List.Perm.swap _ _ _)) (h2.map _) h4 h3 h6 h5 fun e he => ?_
    obtain ⟨f, hf, rfl⟩ := List.mem_map.mp he
    exact ⟨(h7 f hf).2, (h7 f hf).1⟩
theorem Red.sw (h : Red s g M) : Red g s (M.map sw) := by
  induction h with
  | one h => exact .one (by rw [List.length_map]; exact h)
  | step h1 _ ih => exact .step h1.sw ih
end
end Rdx

namespace Tr
open PySem PySem.Spec L2
variable [ProtC]
section
open Lk
variable {w : Exn → Prop} {k : D → Prop}
abbrev Tb := List (Int × Rdx.Ed)
def edD (e : Rdx.Ed) : D := .tuple [.int e.1, .int e.2]
def psT (T : Tb) : List (Int × D) := T.map fun p => (p.1, edD p.2)
def tbD (T : Tb) : D := .dict ((psT T).map enI)
def toM (T : Tb) : List Rdx.Ed := T.map (·.2)
abbrev kyT (T : Tb) : List Int := T.map (·.1)
theorem lkT_ps {i : Int} : ∀ {T : Tb}, (psT T).lookup i = (T.lookup i).map edD
  | [] => rfl
  | p :: T => by
    show ((p.1, edD p.2) :: psT T).lookup i = _
    rw [List.lookup_cons, List.lookup_cons]
    cases (i == p.1) with
    | true => rfl
    | false => exact lkT_ps
theorem ixI_tb {T : Tb} {i : Int} {e : Rdx.Ed} (hl : T.lookup i = some e) : dIxI (tbD T) (.int i) = .need True (.pure (edD e)) := by
  unfold dIxI tbD
  simp only [allInt_en, intsOf_en, lkT_ps, hl, Option.map_some, optW_some]
theorem len_tb {T : Tb} : bLenI [tbD T] = .need True (.pure (.int (T.length : Int))) := by
  show (Wp.need (allInt ((psT T).map enI) = true) (.pure (.int (((psT T).map enI).length : Int))) : Wp D) = _
  simp only [allInt_en, psT, List.length_map]
theorem fst_tb {T : Tb} : ((psT T).map enI).map (·.1) = (kyT T).map .int := by
  unfold psT kyT
  rw [List.map_map, List.map_map, List.map_map]
  rfl
theorem list_tb {T : Tb} : bListI [tbD T] = .need True (.pure (.list ((kyT T).map .int))) := by
  show (Wp.need (allInt ((psT T).map enI) = true) (.pure (.list (((psT T).map enI).map (·.1)))) : Wp D) = _
  rw [fst_tb]
  simp only [allInt_en]
theorem keys_tb {T : Tb} (h : T ≠ []) : keysW (tbD T) = .need (True ∧ True) (.pure ((kyT T).map .int)) := by
  show (Wp.need (allInt ((psT T).map enI) = true ∧ (psT T).map enI ≠ []) (.pure (((psT T).map enI).map (·.1))) : Wp (List D)) = _
  rw [fst_tb]
  have : (psT T).map enI ≠ [] := fun z => h (List.map_eq_nil_iff.mp (List.map_eq_nil_iff.mp z))
  simp only [allInt_en, this, ne_eq, not_false_eq_true]
theorem lkT_mem {T : Tb} {i : Int} {e : Rdx.Ed} (h : T.lookup i = some e) : (i, e) ∈ T := by
  induction T with
  | nil => cases h
  | cons p T ih =>
    rw [List.lookup_cons] at h
    by_cases c : (i == p.1) = true
    · rw [c] at h
      have e1 : i = p.1 := by simpa using c
      cases h
      rw [e1]
      simp
    · have c' : (i == p.1) = false := by simpa using c
      rw [c'] at h
      exact List.mem_cons_of_mem _ (ih h)
theorem memT_lk {T : Tb} {i : Int} {e : Rdx.Ed} (nd : (kyT T).Nodup) (h : (i, e) ∈ T) : T.lookup i = some e := by
  induction T with
  | nil => cases h
  | cons p T ih =>
    rw [kyT, List.map_cons, List.nodup_cons] at nd
    rw [List.lookup_cons]
    rcases List.mem_cons.mp h with e1 | h
    · rw [← e1]
      simp
    · have : i ≠ p.1 := fun z => nd.1 (List.mem_map.mpr ⟨_, h, z⟩)
      have c' : (i == p.1) = false := by simpa using this
      rw [c']
      exact ih nd.2 h
theorem lkT_key {T : Tb} {i : Int} (h : i ∈ kyT T) : ∃ e, T.lookup i = some e := by
  induction T with
  | nil => cases h
  | cons p T ih =>
    rw [List.lookup_cons]
    by_cases c : i = p.1
    · exact ⟨p.2, by rw [c]; simp⟩
    · have c' : (i == p.1) = false := by simpa using c
      rw [c']
      rw [kyT, List.map_cons] at h
      exact ih ((List.mem_cons.mp h).resolve_left c)
theorem sortI_run {ns : List Int} (hk : ∀ ms : List Int, ms.Perm ns → ms.Pairwise (· ≤ ·) → k (.list (ms.map .int))) : (bSortedB [.list (ns.map .int)]).run k w := by
  show (if (intsD (ns.map .int)).isSome || (tupsD (ns.map .int)).isSome then bSorted [.list (ns.map .int)] else bSortedD [.list (ns.map .int)]).run k w
  rw [ints_map, if_pos (by simp)]
  show (if (intsD (ns.map .int)).isSome = true then bSortedI [.list (ns.map .int)] else bSortedT [.list (ns.map .int)]).run k w
  rw [ints_map, if_pos (by rfl)]
  show ((optW (intsD (ns.map .int))).bind fun ns => (Wp.any fun (ms : List Int) => ms.Perm ns ∧ ms.Pairwise (· ≤ ·)).bind fun ms => .pure (.list (ms.map .int))).run k w
  rw [ints_map]
  rintro ms ⟨h1, h2⟩
  exact hk ms h1 h2
theorem ed_shaped (e : Rdx.Ed) : SeqAt.shaped (edD e) = true := rfl
theorem ed_eqv (e f : Rdx.Ed) : PyData.eqv (edD e) (edD f) = decide (e = f) := by
  obtain ⟨a, b⟩ := e
  obtain ⟨c, d⟩ := f
  unfold edD
  by_cases h1 : a = c
  · by_cases h2 : b = d
    · simp [PyData.eqv, PyData.eqvAll, h1, h2]
    · simp [PyData.eqv, PyData.eqvAll, h1, h2]
  · simp [PyData.eqv, PyData.eqvAll, h1]
abbrev Stp := Bool × Int × Int
def stpD (x : Stp) : D := .tuple [.str (if x.1 then "row" else "side"), .int x.2.1, .int x.2.2]
def RowT (T : Tb) (s g i j : Int) : Prop := ∃ a v b, T.lookup i = some (a, v) ∧ T.lookup j = some (v, b) ∧ i ≠ j ∧ v ≠ s ∧ v ≠ g ∧ (∀ p ∈ T, p.2.1 = v → p.1 = j) ∧ ∀ p ∈ T, p.2.2 = v → p.1 = i
def SideT (T : Tb) (i j : Int) : Prop := i < j ∧ ∃ e, T.lookup i = some e ∧ T.lookup j = some e
def MayT (T : Tb) (s g : Int) (x : Stp) : Prop := if x.1 then RowT T s g x.2.1 x.2.2 else SideT T x.2.1 x.2.2
theorem sidestep_run {T : Tb} (no : (∀ i j, ¬ SideT T i j) → k .none) (yes : ∀ i j, SideT T i j → k (stpD (false, i, j))) : (f_side_step [.d (tbD T)]).run k w := by
  unfold f_side_step
  rw [rw_dRun, run_bind]
  have e0 : dStart 4 [Ar.d (tbD T)] = [.p (tbD T), .non, .non, .non] := rfl
  rw [e0]
  unfold b_side_step
  refine seqM' (fun δ => ∃ ms : List Int, ms.Perm (kyT T) ∧ δ = [.p (tbD T), .p (.list (ms.map .int)), .non, .non]) ?_ ?_
  · simp only [rw_set, rw_dCB, rw_aCons, rw_aNil, rw_dV, List.getElem?_cons_zero, slotP_p, pure_bind, rw_allD1, rw_allD0, list_tb, run_bind, run_need, run_pure]
    exact ⟨trivial, sortI_run fun ms h1 _ => ⟨ms, h1, rfl⟩⟩
  rintro _ ⟨ms, hp, rfl⟩
  have lk : ∀ i ∈ ms, ∃ e, T.lookup i = some e := fun i hi => lkT_key (hp.mem_iff.mp hi)
  refine seqM' (fun δ => (∀ i ∈ ms, ∀ j ∈ ms, ¬ SideT T i j) ∧ ∃ s2 s3, δ = [.p (tbD T), .p (.list (ms.map .int)), s2, s3]) ?_ ?_
  · rw [rw_for, run_bind, rw_iSeqD]
    simp only [rw_dV, List.getElem?_cons_succ, List.getElem?_cons_zero, slotP_p, pure_bind, rw_seqL, run_pure]
    refine loop_pre (xs := ms) (g := .int) (fun pre δ => (∀ i ∈ pre, ∀ j ∈ ms, ¬ SideT T i j) ∧ ∃ s2 s3, δ = [.p (tbD T), .p (.list (ms.map .int)), s2, s3]) ⟨fun _ z => (by cases z), _, _, rfl⟩ ?_ ?_
    · rintro pre i post δ hxs ⟨hpre, s2, s3, rfl⟩
      have him : i ∈ ms := by rw [hxs]; simp
      obtain ⟨e, he⟩ := lk i him
      refine ⟨_, rfl, ?_⟩
      show (sFor _ _ _ [.p (tbD T), .p (.list (ms.map .int)), .p (.int i), s3]).run _ _
      rw [rw_for, run_bind, rw_iSeqD]
      simp only [rw_dV, List.getElem?_cons_succ, List.getElem?_cons_zero, slotP_p, pure_bind, rw_seqL, run_pure]
      refine loop_pre (xs := ms) (g := .int) (fun pre2 δ => (∀ j ∈ pre2, ¬ SideT T i j) ∧ ∃ s3, δ = [.p (tbD T), .p (.list (ms.map .int)), .p (.int i), s3]) ⟨fun _ z => (by cases z), _, rfl⟩ ?_ ?_
      · rintro pre2 j post2 δ hxs2 ⟨hpre2, s3, rfl⟩
        have hjm : j ∈ ms := by rw [hxs2]; simp
        obtain ⟨f, hf⟩ := lk j hjm
        refine ⟨_, rfl, ?_⟩
        show (sIf _ _ _ [.p (tbD T), .p (.list (ms.map .int)), .p (.int i), .p (.int j)]).run _ _
        simp only [rw_if, rw_tAnd2, rw_tBv, rw_d2, rw_dV, List.getElem?_cons_succ, List.getElem?_cons_zero, slotP_p, pure_bind, dLt, rw_int2, rw_asB, run_bind, run_need, run_pure, true_and]
        by_cases c : i < j
        · rw [decide_eq_true c, if_pos rfl]
          simp only [rw_tBv, rw_d2, rw_dV, List.getElem?_cons_succ, List.getElem?_cons_zero, slotP_p, pure_bind, ixI_tb he, ixI_tb hf, run_bind, run_need, run_pure, rw_eq, ed_shaped, ed_eqv, rw_asB, true_and, and_self]
          by_cases c2 : e = f
          · rw [decide_eq_true c2, if_pos rfl, rw_ret]
            simp only [rw_dTup, rw_aCons, rw_aNil, rw_dV, rw_dC, List.getElem?_cons_succ, List.getElem?_cons_zero, slotP_p, pure_bind, rw_allD1, rw_allD0, run_bind, run_need, run_pure, List.length_cons, List.length_nil]
            exact ⟨lineN (by decide), yes i j ⟨c, e, he, by rw [c2]; exact hf⟩⟩
          · rw [decide_eq_false c2, if_neg (by simp)]
            refine ⟨fun x hx => ?_, _, rfl⟩
            rcases List.mem_append.mp hx with hx | hx
            · exact hpre2 x hx
            · rw [List.mem_singleton.mp hx]
              rintro ⟨_, e', h1, h2⟩
              rw [he] at h1
              rw [hf] at h2
              cases h1
              cases h2
              exact c2 rfl
        · rw [decide_eq_false c, if_neg (by simp)]
          refine ⟨fun x hx => ?_, _, rfl⟩
          rcases List.mem_append.mp hx with hx | hx
          · exact hpre2 x hx
          · rw [List.mem_singleton.mp hx]
            exact fun z => c z.1
      · rintro δ ⟨h2, s3, rfl⟩
        refine ⟨fun x hx => ?_, _, _, rfl⟩
        rcases List.mem_append.mp hx with hx | hx
        · exact hpre x hx
        · rw [List.mem_singleton.mp hx]
          exact h2
    · rintro δ ⟨h, s2, s3, rfl⟩
      exact ⟨h, _, _, rfl⟩
  rintro _ ⟨h, s2, s3, rfl⟩
  rw [rw_ret]
  simp only [rw_dC, run_bind, run_pure]
  refine no fun i j z => ?_
  obtain ⟨_, e, h1, h2⟩ := id z
  exact h i (hp.mem_iff.mpr (List.mem_map.mpr ⟨_, lkT_mem h1, rfl⟩)) j (hp.mem_iff.mpr (List.mem_map.mpr ⟨_, lkT_mem h2, rfl⟩)) z
end

end Tr

namespace Tr
open PySem PySem.Spec L2
variable [ProtC]
section
open Lk
variable {w : Exn → Prop} {k : D → Prop} {T : Tb} {s g : Int}
theorem filt_one {l : List Int} {p : Int → Bool} {j : Int} (nd : l.Nodup) (hj : j ∈ l) (pj : p j = true) : l.filter p = [j] ↔ ∀ x ∈ l, p x = true → x = j := by
  constructor
  · intro h x hx px
    have : x ∈ l.filter p := List.mem_filter.mpr ⟨hx, px⟩
    rw [h] at this
    exact List.mem_singleton.mp this
  · intro h
    have h1 : ∀ x ∈ l.filter p, x = j := fun x hx => h x (List.mem_filter.mp hx).1 (List.mem_filter.mp hx).2
    have h2 : j ∈ l.filter p := List.mem_filter.mpr ⟨hj, pj⟩
    have h3 : (l.filter p).Nodup := nd.filter _
    cases hc : l.filter p with
    | nil => rw [hc] at h2; cases h2
    | cons x r =>
      rw [hc] at h1 h3
      have hx := h1 x (by simp)
      cases r with
      | nil => rw [hx]
      | cons y r =>
        have hy := h1 y (by simp)
        rw [hx, hy] at h3
        simp at h3
theorem ints_eqvAll : ∀ a b : List Int, PyData.eqvAll (a.map .int) (b.map .int) = decide (a = b)
  | [], [] => by simp [PyData.eqvAll]
  | [], _ :: _ => by simp [PyData.eqvAll]
  | _ :: _, [] => by simp [PyData.eqvAll]
  | x :: a, y :: b => by
    rw [List.map_cons, List.map_cons, PyData.eqvAll, ints_eqvAll a b, eqv_int]
    by_cases h1 : x = y
    · by_cases h2 : a = b <;> simp [h1, h2]
    · simp [h1]
theorem ints_eqv {a b : List Int} : PyData.eqv (.list (a.map .int)) (.list (b.map .int)) = decide (a = b) := by
  rw [PyData.eqv]
  exact ints_eqvAll a b
theorem ints_shaped (a : List Int) : SeqAt.shaped (.list (a.map .int)) = true := by
  have : Pl 1 (PyData.list (a.map .int)) := .lst fun x hx => by
    obtain ⟨z, _, rfl⟩ := List.mem_map.mp hx
    exact .int
  exact this.shaped (by omega)
theorem isrow_run (nd : (kyT T).Nodup) (hl : (kyT T).length ≤ sizeLine) {i j : Int} {e f : Rdx.Ed} (hi : T.lookup i = some e) (hj : T.lookup j = some f) (hk : ∀ b : Bool, (b = true ↔ RowT T s g i j) → k (.bool b)) : (f_is_row [.d (tbD T), .d (.int s), .d (.int g), .d (.int i), .d (.int j)]).run k w := by
  obtain ⟨a, v⟩ := e
  obtain ⟨c, b⟩ := f
  have Tn : T ≠ [] := fun z => by rw [z] at hi; cases hi
  have rw_iff : RowT T s g i j ↔ (i ≠ j ∧ v ≠ s ∧ v ≠ g ∧ c = v) ∧ (∀ p ∈ T, p.2.1 = v → p.1 = j) ∧ ∀ p ∈ T, p.2.2 = v → p.1 = i := by
    constructor
    · rintro ⟨a', v', b', h1, h2, h3, h4, h5, h6, h7⟩
      rw [hi] at h1
      rw [hj] at h2
      cases h1
      cases h2
      exact ⟨⟨h3, h4, h5, rfl⟩, h6, h7⟩
    · rintro ⟨⟨h3, h4, h5, rfl⟩, h6, h7⟩
      exact ⟨a, _, b, hi, hj, h3, h4, h5, h6, h7⟩
  unfold f_is_row
  rw [rw_dRun, run_bind]
  have e0 : dStart 9 [Ar.d (tbD T), .d (.int s), .d (.int g), .d (.int i), .d (.int j)] = [.p (tbD T), .p (.int s), .p (.int g), .p (.int i), .p (.int j), .non, .non, .non, .non] := rfl
  rw [e0]
  unfold b_is_row
  have x0 : ∀ e : Rdx.Ed, dIx (edD e) (.int 0) = .pure (.int e.1) := fun e => rfl
  have x1 : ∀ e : Rdx.Ed, dIx (edD e) (.int 1) = .pure (.int e.2) := fun e => rfl
  refine seqM' (fun δ => δ = [.p (tbD T), .p (.int s), .p (.int g), .p (.int i), .p (.int j), .p (.int v), .non, .non, .non]) ?_ ?_
  · simp only [rw_set, rw_d2, rw_dV, rw_dC, List.getElem?_cons_succ, List.getElem?_cons_zero, slotP_p, pure_bind, ixI_tb hi, x1, run_bind, run_need, run_pure, true_and]
    rfl
  rintro _ rfl
  refine seqM' (fun δ => (i ≠ j ∧ v ≠ s ∧ v ≠ g ∧ c = v) ∧ δ = [.p (tbD T), .p (.int s), .p (.int g), .p (.int i), .p (.int j), .p (.int v), .non, .non, .non]) ?_ ?_
  · have fls : ¬ (i ≠ j ∧ v ≠ s ∧ v ≠ g ∧ c = v) → k (.bool false) := fun h => hk false ⟨fun z => (by cases z), fun z => absurd (rw_iff.mp z).1 h⟩
    simp only [rw_if, rw_tOr2, rw_tBv, rw_d2, rw_dV, rw_dC, List.getElem?_cons_succ, List.getElem?_cons_zero, slotP_p, pure_bind, rw_eq, run_bind, run_need, run_pure, eqv_int, rw_asB]
    refine ⟨⟨rfl, rfl⟩, ?_⟩
    by_cases c1 : i = j
    · rw [decide_eq_true c1, if_pos rfl]
      simp only [run_pure, if_true, rw_ret, rw_dC, run_bind]
      exact fls fun z => z.1 c1
    · rw [decide_eq_false c1, if_neg (by simp)]
      simp only [rw_tOr2, rw_tBv, rw_d2, rw_dV, rw_dC, rw_dTup, rw_aCons, rw_aNil, List.getElem?_cons_succ, List.getElem?_cons_zero, slotP_p, pure_bind, rw_inAT, rw_allD1, rw_allD0, run_bind, run_need, run_pure, rw_asB, List.length_cons, List.length_nil]
      refine ⟨lineN (by decide), ⟨rfl, rfl⟩, ?_⟩
      have ea : ([PyData.int s, .int g].any fun z => PyData.eqv z (.int v)) = decide (s = v ∨ g = v) := by
        simp [List.any_cons, eqv_int]
      rw [ea]
      by_cases c2 : s = v ∨ g = v
      · rw [decide_eq_true c2, if_pos rfl]
        simp only [run_pure, if_true, rw_ret, rw_dC, run_bind]
        exact fls fun z => c2.elim (fun q => z.2.1 q.symm) fun q => z.2.2.1 q.symm
      · rw [decide_eq_false c2, if_neg (by simp)]
        simp only [rw_tBv, rw_d2, rw_dV, rw_dC, List.getElem?_cons_succ, List.getElem?_cons_zero, slotP_p, pure_bind, ixI_tb hj, x0, rw_ne, run_bind, run_need, run_pure, rw_asB, true_and]
        refine ⟨⟨rfl, rfl⟩, ?_⟩
        generalize hq : PyData.eqv (PyData.int c) (PyData.int v) = q
        have hq : decide (c = v) = q := hq
        cases q with
        | true => exact ⟨⟨c1, fun z => c2 (.inl z.symm), fun z => c2 (.inr z.symm), of_decide_eq_true hq⟩, rfl⟩
        | false => exact fls fun z => of_decide_eq_false hq z.2.2.2
  rintro _ ⟨h1, rfl⟩
  have lkx : ∀ x ∈ kyT T, ∃ e, T.lookup x = some e := fun x hx => lkT_key hx
  let pO : Int → Bool := fun x => match T.lookup x with
    | some e => decide (e.1 = v)
    | none => false
  let pI : Int → Bool := fun x => match T.lookup x with
    | some e => decide (e.2 = v)
    | none => false
  have key : ∀ (q : Bool) (s6 s7 s8 : Sl) (kl : List D → Prop), (kyT T).length ≤ sizeLine → kl (((kyT T).filter (if q then pO else pI)).map .int) →
      (nLc (iKeysI (dV 0)) (bName 7) (tBv (d2 dEq (d2 dIx (d2 dIxI (dV 0) (dV 7)) (dC (.int (if q then 0 else 1)))) (dV 5))) (dV 7) ([7] : List Nat) [.p (tbD T), .p (.int s), .p (.int g), .p (.int i), .p (.int j), .p (.int v), s6, s7, s8]).run kl w := fun q s6 s7 s8 kl hl hkl => by
    rw [rw_nLc, run_bind]
    show ((dV 0 _).bind keysW).run _ _
    simp only [rw_dV, List.getElem?_cons_succ, List.getElem?_cons_zero, slotP_p, pure_bind, keys_tb Tn, run_need, run_pure, and_self, true_and]
    refine ⟨by rw [List.length_map]; exact hl, ?_⟩
    rw [run_nox]
    refine lc_run (g := .int) (p := if q then pO else pI) (h := .int) (fun x hx => ?_) hkl
    obtain ⟨e, he⟩ := lkx x hx
    refine ⟨_, rfl, fun kb hb => ?_, fun _ kd hd => hd⟩
    show (tBv _ [.p (tbD T), .p (.int s), .p (.int g), .p (.int i), .p (.int j), .p (.int v), _, .p (.int x), _]).run kb _
    cases q with
    | true =>
      simp only [rw_tBv, rw_d2, rw_dV, rw_dC, List.getElem?_cons_succ, List.getElem?_cons_zero, slotP_p, pure_bind, ixI_tb he, x0, rw_eq, run_bind, run_need, run_pure, eqv_int, rw_asB, true_and, if_true]
      refine ⟨⟨rfl, rfl⟩, ?_⟩
      have : pO x = decide (e.1 = v) := by show (match T.lookup x with | some e => decide (e.1 = v) | none => false) = _; rw [he]
      have hb : kb (pO x) := hb
      rw [this] at hb
      exact hb
    | false =>
      simp only [rw_tBv, rw_d2, rw_dV, rw_dC, List.getElem?_cons_succ, List.getElem?_cons_zero, slotP_p, pure_bind, ixI_tb he, x1, rw_eq, run_bind, run_need, run_pure, eqv_int, rw_asB, true_and, if_false, Bool.false_eq_true]
      refine ⟨⟨rfl, rfl⟩, ?_⟩
      have : pI x = decide (e.2 = v) := by show (match T.lookup x with | some e => decide (e.2 = v) | none => false) = _; rw [he]
      have hb : kb (pI x) := hb
      rw [this] at hb
      exact hb
  by_cases hlen : (kyT T).length ≤ sizeLine
  · refine seqM' (fun δ => δ = [.p (tbD T), .p (.int s), .p (.int g), .p (.int i), .p (.int j), .p (.int v), .o (((kyT T).filter pO).map .int), .non, .non]) ?_ ?_
    · rw [rw_setO, run_bind]
      exact key true _ _ _ _ hlen rfl
    rintro _ rfl
    refine seqM' (fun δ => δ = [.p (tbD T), .p (.int s), .p (.int g), .p (.int i), .p (.int j), .p (.int v), .o (((kyT T).filter pO).map .int), .non, .o (((kyT T).filter pI).map .int)]) ?_ ?_
    · rw [rw_setO, run_bind]
      exact key false _ _ _ _ hlen rfl
    rintro _ rfl
    have ef : fz 8 (fz 6 [.p (tbD T), .p (.int s), .p (.int g), .p (.int i), .p (.int j), .p (.int v), .o (((kyT T).filter pO).map .int), .non, .o (((kyT T).filter pI).map .int)]) = [.p (tbD T), .p (.int s), .p (.int g), .p (.int i), .p (.int j), .p (.int v), .p (.list (((kyT T).filter pO).map .int)), .non, .p (.list (((kyT T).filter pI).map .int))] := rfl
    rw [rw_sFz, rw_sFz, ef, rw_ret]
    have l1 : ∀ z : Int, PyData.list [.int z] = .list ([z].map .int) := fun _ => rfl
    have jm : j ∈ kyT T := List.mem_map.mpr ⟨_, lkT_mem hj, rfl⟩
    have im : i ∈ kyT T := List.mem_map.mpr ⟨_, lkT_mem hi, rfl⟩
    have pOj : pO j = true := by
      show (match T.lookup j with | some e => decide (e.1 = v) | none => false) = true
      rw [hj]
      exact decide_eq_true h1.2.2.2
    have pIi : pI i = true := by
      show (match T.lookup i with | some e => decide (e.2 = v) | none => false) = true
      rw [hi]
      exact decide_eq_true rfl
    have fO := filt_one nd jm pOj
    have fI := filt_one nd im pIi
    have gO : (∀ x ∈ kyT T, pO x = true → x = j) ↔ ∀ p ∈ T, p.2.1 = v → p.1 = j := by
      constructor
      · intro h p hp hv
        refine h p.1 (List.mem_map.mpr ⟨p, hp, rfl⟩) ?_
        show (match T.lookup p.1 with | some e => decide (e.1 = v) | none => false) = true
        rw [memT_lk (e := p.2) nd hp]
        exact decide_eq_true hv
      · intro h x hx hp
        obtain ⟨e, he⟩ := lkx x hx
        have hp : (match T.lookup x with | some e => decide (e.1 = v) | none => false) = true := hp
        rw [he] at hp
        exact h _ (lkT_mem he) (of_decide_eq_true hp)
    have gI : (∀ x ∈ kyT T, pI x = true → x = i) ↔ ∀ p ∈ T, p.2.2 = v → p.1 = i := by
      constructor
      · intro h p hp hv
        refine h p.1 (List.mem_map.mpr ⟨p, hp, rfl⟩) ?_
        show (match T.lookup p.1 with | some e => decide (e.2 = v) | none => false) = true
        rw [memT_lk (e := p.2) nd hp]
        exact decide_eq_true hv
      · intro h x hx hp
        obtain ⟨e, he⟩ := lkx x hx
        have hp : (match T.lookup x with | some e => decide (e.2 = v) | none => false) = true := hp
        rw [he] at hp
        exact h _ (lkT_mem he) (of_decide_eq_true hp)
    simp only [rw_dAndV, rw_d2, rw_dLst, rw_aCons, rw_aNil, rw_dV, List.getElem?_cons_succ, List.getElem?_cons_zero, slotP_p, pure_bind, rw_allD1, rw_allD0, run_bind, run_need, run_pure, List.length_cons, List.length_nil, rw_eq, l1, ints_shaped, ints_eqv, rw_truB, and_self, true_and]
    refine ⟨lineN (by decide), ?_⟩
    by_cases c1 : (kyT T).filter pO = [j]
    · rw [decide_eq_true c1]
      simp only [if_true, rw_d2, rw_dLst, rw_aCons, rw_aNil, rw_dV, List.getElem?_cons_succ, List.getElem?_cons_zero, slotP_p, pure_bind, rw_allD1, rw_allD0, run_bind, run_need, run_pure, List.length_cons, List.length_nil, rw_eq, l1, ints_shaped, ints_eqv, and_self, true_and]
      refine ⟨lineN (by decide), hk _ ?_⟩
      rw [rw_iff, decide_eq_true_eq, fI, gI]
      exact ⟨fun z => ⟨h1, gO.mp (fO.mp c1), z⟩, fun z => z.2.2⟩
    · rw [decide_eq_false c1]
      simp only [Bool.false_eq_true, if_false, run_pure]
      refine hk false ⟨fun z => (by cases z), fun z => absurd (fO.mpr (gO.mpr (rw_iff.mp z).2.1)) c1⟩
  · exact absurd hl hlen
end

end Tr

namespace Tr
open PySem PySem.Spec L2
variable [ProtC]
section
open Lk
variable {w : Exn → Prop} {k : D → Prop} {T : Tb} {s g : Int}
theorem rowstep_run (nd : (kyT T).Nodup) (hl : (kyT T).length ≤ sizeLine) (no : (∀ i j, ¬ RowT T s g i j) → k .none) (yes : ∀ i j, RowT T s g i j → k (stpD (true, i, j))) : (f_row_step [.d (tbD T), .d (.int s), .d (.int g)]).run k w := by
  unfold f_row_step
  rw [rw_dRun, run_bind]
  have e0 : dStart 6 [Ar.d (tbD T), .d (.int s), .d (.int g)] = [.p (tbD T), .p (.int s), .p (.int g), .non, .non, .non] := rfl
  rw [e0]
  unfold b_row_step
  refine seqM' (fun δ => ∃ ms : List Int, ms.Perm (kyT T) ∧ δ = [.p (tbD T), .p (.int s), .p (.int g), .p (.list (ms.map .int)), .non, .non]) ?_ ?_
  · simp only [rw_set, rw_dCB, rw_aCons, rw_aNil, rw_dV, List.getElem?_cons_zero, slotP_p, pure_bind, rw_allD1, rw_allD0, list_tb, run_bind, run_need, run_pure]
    exact ⟨trivial, sortI_run fun ms h1 _ => ⟨ms, h1, rfl⟩⟩
  rintro _ ⟨ms, hp, rfl⟩
  have lk : ∀ i ∈ ms, ∃ e, T.lookup i = some e := fun i hi => lkT_key (hp.mem_iff.mp hi)
  refine seqM' (fun δ => (∀ i ∈ ms, ∀ j ∈ ms, ¬ RowT T s g i j) ∧ ∃ s2 s3, δ = [.p (tbD T), .p (.int s), .p (.int g), .p (.list (ms.map .int)), s2, s3]) ?_ ?_
  · rw [rw_for, run_bind, rw_iSeqD]
    simp only [rw_dV, List.getElem?_cons_succ, List.getElem?_cons_zero, slotP_p, pure_bind, rw_seqL, run_pure]
    refine loop_pre (xs := ms) (g := .int) (fun pre δ => (∀ i ∈ pre, ∀ j ∈ ms, ¬ RowT T s g i j) ∧ ∃ s2 s3, δ = [.p (tbD T), .p (.int s), .p (.int g), .p (.list (ms.map .int)), s2, s3]) ⟨fun _ z => (by cases z), _, _, rfl⟩ ?_ ?_
    · rintro pre i post δ hxs ⟨hpre, s2, s3, rfl⟩
      have him : i ∈ ms := by rw [hxs]; simp
      obtain ⟨e, he⟩ := lk i him
      refine ⟨_, rfl, ?_⟩
      show (sFor _ _ _ [.p (tbD T), .p (.int s), .p (.int g), .p (.list (ms.map .int)), .p (.int i), s3]).run _ _
      rw [rw_for, run_bind, rw_iSeqD]
      simp only [rw_dV, List.getElem?_cons_succ, List.getElem?_cons_zero, slotP_p, pure_bind, rw_seqL, run_pure]
      refine loop_pre (xs := ms) (g := .int) (fun pre2 δ => (∀ j ∈ pre2, ¬ RowT T s g i j) ∧ ∃ s3, δ = [.p (tbD T), .p (.int s), .p (.int g), .p (.list (ms.map .int)), .p (.int i), s3]) ⟨fun _ z => (by cases z), _, rfl⟩ ?_ ?_
      · rintro pre2 j post2 δ hxs2 ⟨hpre2, s3, rfl⟩
        have hjm : j ∈ ms := by rw [hxs2]; simp
        obtain ⟨f, hf⟩ := lk j hjm
        refine ⟨_, rfl, ?_⟩
        show (sIf _ _ _ [.p (tbD T), .p (.int s), .p (.int g), .p (.list (ms.map .int)), .p (.int i), .p (.int j)]).run _ _
        simp only [rw_if, rw_tT, rw_call, rw_aCons, rw_aNil, rw_dV, List.getElem?_cons_succ, List.getElem?_cons_zero, slotP_p, pure_bind, run_bind, run_need, run_pure, List.length_cons, List.length_nil, true_and]
        refine isrow_run nd hl he hf fun b hb => ?_
        rw [rw_truB, run_pure]
        cases b with
        | true =>
          rw [if_pos rfl, rw_ret]
          simp only [rw_dTup, rw_aCons, rw_aNil, rw_dV, rw_dC, List.getElem?_cons_succ, List.getElem?_cons_zero, slotP_p, pure_bind, rw_allD1, rw_allD0, run_bind, run_need, run_pure, List.length_cons, List.length_nil]
          exact ⟨lineN (by decide), yes i j (hb.mp rfl)⟩
        | false =>
          rw [if_neg (by simp)]
          refine ⟨fun x hx => ?_, _, rfl⟩
          rcases List.mem_append.mp hx with hx | hx
          · exact hpre2 x hx
          · rw [List.mem_singleton.mp hx]
            exact fun z => by have := hb.mpr z; cases this
      · rintro δ ⟨h2, s3, rfl⟩
        refine ⟨fun x hx => ?_, _, _, rfl⟩
        rcases List.mem_append.mp hx with hx | hx
        · exact hpre x hx
        · rw [List.mem_singleton.mp hx]
          exact h2
    · rintro δ ⟨h, s2, s3, rfl⟩
      exact ⟨h, _, _, rfl⟩
  rintro _ ⟨h, s2, s3, rfl⟩
  rw [rw_ret]
  simp only [rw_dC, run_bind, run_pure]
  refine no fun i j z => ?_
  obtain ⟨a, v, b, h1, h2, _⟩ := id z
  exact h i (hp.mem_iff.mpr (List.mem_map.mpr ⟨_, lkT_mem h1, rfl⟩)) j (hp.mem_iff.mpr (List.mem_map.mpr ⟨_, lkT_mem h2, rfl⟩)) z
def dropT (T : Tb) (j : Int) : Tb := T.filter fun p => decide (p.1 ≠ j)
def setT (T : Tb) (i : Int) (e : Rdx.Ed) : Tb := T.map fun p => if p.1 = i then (p.1, e) else p
def aftT (T : Tb) (x : Stp) : Tb := if x.1 then setT (dropT T x.2.2) x.2.1 (((T.lookup x.2.1).getD (0, 0)).1, ((T.lookup x.2.2).getD (0, 0)).2) else dropT T x.2.2
theorem putI_new {ps : List (Int × D)} {i : Int} {d : D} (h : i ∉ ps.map (·.1)) : putI ps i d = ps ++ [(i, d)] := by
  unfold putI
  rw [if_neg]
  intro z
  obtain ⟨p, hp, e⟩ := List.any_eq_true.mp z
  exact h (List.mem_map.mpr ⟨p, hp, of_decide_eq_true e⟩)
theorem dct_fold : ∀ (T : Tb) (acc : List (Int × D)), (kyT T).Nodup → (∀ x ∈ kyT T, x ∉ acc.map (·.1)) → (T.map fun p => (PyData.tuple [.int p.1, edD p.2] : D)).foldl stepI acc = acc ++ psT T
  | [], acc, _, _ => by simp [psT]
  | p :: T, acc, nd, hd => by
    rw [kyT, List.map_cons, List.nodup_cons] at nd
    rw [List.map_cons, List.foldl_cons]
    have e1 : stepI acc (.tuple [.int p.1, edD p.2]) = acc ++ [(p.1, edD p.2)] := putI_new (hd p.1 (by simp [kyT]))
    rw [e1, dct_fold T _ nd.2 fun x hx z => ?_]
    · rw [List.append_assoc]
      rfl
    · rw [List.map_append, List.mem_append] at z
      rcases z with z | z
      · exact hd x (by rw [kyT, List.map_cons]; exact List.mem_cons_of_mem _ hx) z
      · have : x = p.1 := by simpa using z
        exact nd.1 (this ▸ hx)
theorem dct_ps (nd : (kyT T).Nodup) : dctI (T.map fun p => (PyData.tuple [.int p.1, edD p.2] : D)) = psT T := by
  unfold dctI
  rw [dct_fold T [] nd (by simp)]
  rfl
theorem drop_nd (nd : (kyT T).Nodup) {j : Int} : (kyT (dropT T j)).Nodup := List.Sublist.nodup ((List.filter_sublist).map _) nd
theorem set_ky {i : Int} {e : Rdx.Ed} : kyT (setT T i e) = kyT T := by
  unfold setT kyT
  rw [List.map_map]
  refine List.map_congr_left fun p _ => ?_
  show (if p.1 = i then (p.1, e) else p).1 = p.1
  split <;> rfl
theorem aft_nd (nd : (kyT T).Nodup) (x : Stp) : (kyT (aftT T x)).Nodup := by
  unfold aftT
  split
  · rw [set_ky]; exact drop_nd nd
  · exact drop_nd nd
theorem put_ps {i : Int} {e : Rdx.Ed} (h : i ∈ kyT T) : putI (psT T) i (edD e) = psT (setT T i e) := by
  unfold putI
  have : ((psT T).any fun p => decide (p.1 = i)) = true := by
    obtain ⟨p, hp, rfl⟩ := List.mem_map.mp h
    exact List.any_eq_true.mpr ⟨(p.1, edD p.2), List.mem_map.mpr ⟨p, hp, rfl⟩, by simp⟩
  rw [if_pos this]
  unfold psT setT
  rw [List.map_map, List.map_map]
  refine List.map_congr_left fun p _ => ?_
  show (if p.1 = i then (p.1, edD e) else (p.1, edD p.2)) = _
  by_cases c : p.1 = i
  · simp [c]
  · simp [c]
theorem run_putKI {ko : Out → Prop} {fk fv : DF} {ps : List (Int × D)} {i : Nat} {j : Int} {d : D} {δ : De} (hi : δ[i]? = some (.k (ps.map enI))) (hv : ∀ kk : D → Prop, kk d → (fv δ).run kk w) (hkk : fk δ = .pure (.int j)) (hl : ps.length ≤ 1000)
    (hk : ko (.nx (δ.set i (.k ((putI ps j d).map enI))))) : (sPutK i fk fv δ).run ko w := by
  refine hv _ ?_
  show ((slotK δ[i]?).bind _).run ko w
  rw [hi]
  show ((fk δ).bind _).run ko w
  rw [hkk]
  refine ⟨⟨allInt_en _, by rw [List.length_map]; exact hl⟩, ?_⟩
  rw [intsOf_en]
  exact hk
theorem afterstep_run (nd : (kyT T).Nodup) (hl : T.length ≤ 900) {x : Stp} {e f : Rdx.Ed} (hi : T.lookup x.2.1 = some e) (hj : T.lookup x.2.2 = some f) (ij : x.2.1 ≠ x.2.2) (hk : k (tbD (aftT T x))) : (f_after_step [.d (tbD T), .d (stpD x)]).run k w := by
  obtain ⟨b, i, j⟩ := x
  have Tn : T ≠ [] := fun z => by rw [z] at hi; cases hi
  have x0 : ∀ e : Rdx.Ed, dIx (edD e) (.int 0) = .pure (.int e.1) := fun e => rfl
  have x1 : ∀ e : Rdx.Ed, dIx (edD e) (.int 1) = .pure (.int e.2) := fun e => rfl
  obtain ⟨Kd, hKd⟩ : ∃ Kd : Str, Kd = (if b then "row" else "side" : Str) := ⟨_, rfl⟩
  unfold f_after_step
  rw [rw_dRun, run_bind]
  have e0 : dStart 7 [Ar.d (tbD T), .d (stpD (b, i, j))] = [.p (tbD T), .p (stpD (b, i, j)), .non, .non, .non, .non, .non] := rfl
  rw [e0]
  unfold b_after_step
  refine seqM' (fun δ => δ = [.p (tbD T), .p (stpD (b, i, j)), .p (.str Kd), .p (.int i), .p (.int j), .non, .non]) ?_ ?_
  · rw [rw_asg, run_bind, rw_dV]
    simp only [List.getElem?_cons_succ, List.getElem?_cons_zero, slotP_p, run_pure]
    rw [hKd]
    rfl
  rintro _ rfl
  refine seqM' (fun δ => δ = [.p (tbD T), .p (stpD (b, i, j)), .p (.str Kd), .p (.int i), .p (.int j), .k ((psT (dropT T j)).map enI), .non]) ?_ ?_
  · rw [rw_setK, run_bind]
    show ((nDc _ _ _ _ _ _) _).run _ _
    unfold nDc
    rw [run_bind]
    show ((dV 0 _).bind keysW).run _ _
    simp only [rw_dV, List.getElem?_cons_succ, List.getElem?_cons_zero, slotP_p, pure_bind, keys_tb Tn, run_need, run_pure, and_self, true_and, run_bind, run_nox]
    refine ⟨by rw [List.length_map, List.length_map]; exact lineN (by omega), ?_⟩
    have ek : (kyT T).map PyData.int = T.map fun p => (PyData.int p.1 : D) := by rw [List.map_map]; rfl
    rw [ek]
    refine lc_run (g := fun p : Int × Rdx.Ed => (PyData.int p.1 : D)) (p := fun p => decide (p.1 ≠ j)) (h := fun p => .tuple [.int p.1, edD p.2]) (fun p hp => ?_) ?_
    · have hp2 := memT_lk (e := p.2) nd hp
      refine ⟨_, rfl, fun kb hb => ?_, fun _ kd hd => ?_⟩
      · show (tBv _ [.p (tbD T), .p (stpD (b, i, j)), .p (.str Kd), .p (.int i), .p (.int j), .non, .p (.int p.1)]).run kb _
        simp only [rw_tBv, rw_d2, rw_dV, List.getElem?_cons_succ, List.getElem?_cons_zero, slotP_p, pure_bind, rw_ne, run_bind, run_need, run_pure, rw_asB]
        refine ⟨⟨rfl, rfl⟩, ?_⟩
        have : (!PyData.eqv (PyData.int p.1) (.int j)) = decide (p.1 ≠ j) := by
          rw [eqv_int]
          by_cases c : p.1 = j <;> simp [c]
        rw [this]
        exact hb
      · show (dKv _ _ [.p (tbD T), .p (stpD (b, i, j)), .p (.str Kd), .p (.int i), .p (.int j), .non, .p (.int p.1)]).run kd _
        unfold dKv
        simp only [rw_d2, rw_dV, List.getElem?_cons_succ, List.getElem?_cons_zero, slotP_p, pure_bind, ixI_tb hp2, run_bind, run_need, run_pure, true_and]
        exact ⟨⟨_, rfl⟩, hd⟩
    · have : (T.filter fun p => decide (p.1 ≠ j)).map (fun p => (PyData.tuple [.int p.1, edD p.2] : D)) = (dropT T j).map fun p => (PyData.tuple [.int p.1, edD p.2] : D) := rfl
      rw [this, dct_ps (drop_nd nd)]
      rfl
  rintro _ rfl
  have im : i ∈ kyT (dropT T j) := by
    refine List.mem_map.mpr ⟨(i, e), List.mem_filter.mpr ⟨lkT_mem hi, ?_⟩, rfl⟩
    exact decide_eq_true ij
  have dl : (psT (dropT T j)).length ≤ 1000 := by
    unfold psT dropT
    rw [List.length_map]
    have := List.length_filter_le (fun p : Int × Rdx.Ed => decide (p.1 ≠ j)) T
    omega
  refine seqM' (fun δ => δ = [.p (tbD T), .p (stpD (b, i, j)), .p (.str Kd), .p (.int i), .p (.int j), .k ((psT (aftT T (b, i, j))).map enI), .non]) ?_ ?_
  · cases b with
    | false =>
      have : PyData.eqv (.str Kd) (.str ("row" : Str)) = false := by rw [hKd]; decide +kernel
      simp only [rw_if, rw_tBv, rw_d2, rw_dV, rw_dC, List.getElem?_cons_succ, List.getElem?_cons_zero, slotP_p, pure_bind, rw_eq, run_bind, run_need, run_pure, this, rw_asB, Bool.false_eq_true, if_false, rw_next]
      exact ⟨⟨by rw [hKd]; decide +kernel, by decide +kernel⟩, rfl⟩
    | true =>
      have : PyData.eqv (.str Kd) (.str ("row" : Str)) = true := by rw [hKd]; decide +kernel
      simp only [rw_if, rw_tBv, rw_d2, rw_dV, rw_dC, List.getElem?_cons_succ, List.getElem?_cons_zero, slotP_p, pure_bind, rw_eq, run_bind, run_need, run_pure, this, rw_asB, if_true]
      refine ⟨⟨by rw [hKd]; decide +kernel, by decide +kernel⟩, ?_⟩
      refine run_putKI (ps := psT (dropT T j)) (j := i) (d := edD (e.1, f.2)) rfl (fun kk hkk => ?_) rfl dl ?_
      · simp only [rw_dTup, rw_aCons, rw_aNil, rw_d2, rw_dV, rw_dC, List.getElem?_cons_succ, List.getElem?_cons_zero, slotP_p, pure_bind, ixI_tb hi, ixI_tb hj, x0, x1, run_bind, run_need, run_pure, rw_allD1, rw_allD0, List.length_cons, List.length_nil, true_and]
        exact ⟨lineN (by decide), hkk⟩
      · rw [put_ps im]
        have ea : aftT T (true, i, j) = setT (dropT T j) i (e.1, f.2) := by
          unfold aftT
          rw [if_pos rfl]
          show setT (dropT T j) i (((T.lookup i).getD (0, 0)).1, ((T.lookup j).getD (0, 0)).2) = _
          rw [show T.lookup i = some e from hi, show T.lookup j = some f from hj]
          rfl
        rw [ea]
        rfl
  rintro _ rfl
  rw [rw_fzK]
  show (sRet (dV 5) [.p (tbD T), .p (stpD (b, i, j)), .p (.str Kd), .p (.int i), .p (.int j), .p (.dict ((psT (aftT T (b, i, j))).map enI)), .non]).run _ _
  rw [rw_ret]
  simp only [rw_dV, List.getElem?_cons_succ, List.getElem?_cons_zero, slotP_p, pure_bind, run_bind, run_pure]
  exact hk
end

end Tr

namespace Tr
open PySem PySem.Spec L2
variable [ProtC]
section
open Lk
variable {w : Exn → Prop} {k : D → Prop} {T : Tb} {s g : Int}
theorem drop_perm (nd : (kyT T).Nodup) {j : Int} {f : Rdx.Ed} (hj : T.lookup j = some f) : T.Perm ((j, f) :: dropT T j) := by
  induction T with
  | nil => cases hj
  | cons p T ih =>
    rw [kyT, List.map_cons, List.nodup_cons] at nd
    rw [List.lookup_cons] at hj
    by_cases c : j = p.1
    · subst c
      rw [beq_self_eq_true] at hj
      cases hj
      have : dropT (p :: T) p.1 = T := by
        unfold dropT
        rw [List.filter_cons_of_neg (by simp)]
        refine List.filter_eq_self.mpr fun q hq => decide_eq_true fun z => nd.1 (List.mem_map.mpr ⟨q, hq, z⟩)
      rw [this]
    · have c' : (j == p.1) = false := by simpa using c
      rw [c'] at hj
      have : dropT (p :: T) j = p :: dropT T j := by
        unfold dropT
        rw [List.filter_cons_of_pos (by simpa using Ne.symm c)]
      rw [this]
      exact ((ih nd.2 hj).cons p).trans (List.Perm.swap _ _ _)
theorem set_perm (nd : (kyT T).Nodup) {i : Int} {e e' : Rdx.Ed} (hi : T.lookup i = some e) : (setT T i e').Perm ((i, e') :: dropT T i) := by
  have h := (drop_perm nd hi).map (fun p : Int × Rdx.Ed => if p.1 = i then (p.1, e') else p)
  rw [List.map_cons, if_pos rfl] at h
  have e2 : (dropT T i).map (fun p : Int × Rdx.Ed => if p.1 = i then (p.1, e') else p) = dropT T i := by
    have : ∀ p ∈ dropT T i, (if p.1 = i then (p.1, e') else p) = p := fun p hp => by
      have := of_decide_eq_true (List.mem_filter.mp hp).2
      rw [if_neg this]
    rw [List.map_congr_left this]
    exact List.map_id _
  rw [e2] at h
  exact h
theorem drop_look (nd : (kyT T).Nodup) {i j : Int} {e : Rdx.Ed} (h : T.lookup i = some e) (ij : i ≠ j) : (dropT T j).lookup i = some e := memT_lk (drop_nd nd) (List.mem_filter.mpr ⟨lkT_mem h, decide_eq_true ij⟩)
theorem may_st (nd : (kyT T).Nodup) {x : Stp} (h : MayT T s g x) : (∃ e f, T.lookup x.2.1 = some e ∧ T.lookup x.2.2 = some f ∧ x.2.1 ≠ x.2.2) ∧ Rdx.St s g (toM T) (toM (aftT T x)) := by
  obtain ⟨b, i, j⟩ := x
  cases b with
  | false =>
    have h : SideT T i j := h
    obtain ⟨ij, e, h1, h2⟩ := h
    have ne : i ≠ j := by omega
    refine ⟨⟨e, e, h1, h2, ne⟩, .side e (show (toM T).Perm (toM ((j, e) :: dropT T j)) from (drop_perm nd h2).map (fun p : Int × Rdx.Ed => p.2)) ?_⟩
    exact List.mem_map.mpr ⟨(i, e), lkT_mem (drop_look nd h1 ne), rfl⟩
  | true =>
    have h : RowT T s g i j := h
    obtain ⟨a, v, b, h1, h2, ne, hs, hg, hO, hI⟩ := h
    refine ⟨⟨_, _, h1, h2, ne⟩, ?_⟩
    have h1' := drop_look nd h1 ne
    have ea : aftT T (true, i, j) = setT (dropT T j) i (a, b) := by
      unfold aftT
      rw [if_pos rfl]
      show setT (dropT T j) i (((T.lookup i).getD (0, 0)).1, ((T.lookup j).getD (0, 0)).2) = _
      rw [h1, h2]
      rfl
    have p1 := drop_perm nd h2
    have p2 := drop_perm (drop_nd nd) h1'
    refine .row a v b (toM (dropT (dropT T j) i)) ?_ ?_ hs hg (fun z => ?_) (fun z => ?_) fun e he => ?_
    · exact ((p1.trans (p2.cons _)).map (·.2)).trans (List.Perm.swap _ _ _)
    · rw [ea]
      exact (set_perm (drop_nd nd) h1').map (·.2)
    · exact ne (hO (i, (a, v)) (lkT_mem h1) z)
    · exact ne (hI (j, (v, b)) (lkT_mem h2) z).symm
    · obtain ⟨p, hp, rfl⟩ := List.mem_map.mp he
      obtain ⟨q1, q2⟩ := List.mem_filter.mp hp
      obtain ⟨q3, q4⟩ := List.mem_filter.mp q1
      exact ⟨fun z => of_decide_eq_true q4 (hO p q3 z), fun z => of_decide_eq_true q2 (hI p q3 z)⟩
theorem stuck_st (nd : (kyT T).Nodup) (h1 : ∀ i j, ¬ SideT T i j) (h2 : ∀ i j, ¬ RowT T s g i j) : ∀ N, ¬ Rdx.St s g (toM T) N := by
  intro N h
  have mk : ∀ e ∈ toM T, ∃ i, T.lookup i = some e := fun e he => by
    obtain ⟨p, hp, rfl⟩ := List.mem_map.mp he
    exact ⟨p.1, memT_lk nd hp⟩
  cases h with
  | side e q1 q2 =>
    have c2 : 2 ≤ (toM T).count e := by
      rw [q1.count_eq, List.count_cons_self]
      have := List.count_pos_iff.mpr q2
      omega
    obtain ⟨i, hi⟩ := mk e (q1.mem_iff.mpr (List.mem_cons_self ..))
    have p := (drop_perm nd hi).map (·.2)
    have : 1 ≤ (toM (dropT T i)).count e := by
      have : (toM T).count e = (toM (dropT T i)).count e + 1 := by
        show (T.map (·.2)).count e = _
        rw [p.count_eq, List.map_cons, List.count_cons_self]
        rfl
      omega
    obtain ⟨q, hq, eq⟩ := List.mem_map.mp (List.count_pos_iff.mp this)
    obtain ⟨r1, r2⟩ := List.mem_filter.mp hq
    have hj : T.lookup q.1 = some e := by rw [← eq]; exact memT_lk nd r1
    have ne := of_decide_eq_true r2
    rcases Int.lt_or_lt_of_ne ne with z | z
    · exact h1 q.1 i ⟨z, e, hj, hi⟩
    · exact h1 i q.1 ⟨z, e, hi, hj⟩
  | row a v b L q1 q2 q3 q4 q5 q6 q7 =>
    obtain ⟨i, hi⟩ := mk (a, v) (q1.mem_iff.mpr (by simp))
    obtain ⟨j, hj⟩ := mk (v, b) (q1.mem_iff.mpr (by simp))
    have cc := Rdx.count_row q1 q5 q7
    have one : ∀ {e : Rdx.Ed} {i : Int}, T.lookup i = some e → (toM T).count e = 1 → ∀ p ∈ T, p.2 = e → p.1 = i := fun {e i} hi hc p hp he => by
      refine Classical.byContradiction fun ne => ?_
      have pp := (drop_perm nd hi).map (·.2)
      have : 0 < (toM (dropT T i)).count e := List.count_pos_iff.mpr (List.mem_map.mpr ⟨p, List.mem_filter.mpr ⟨hp, decide_eq_true ne⟩, he⟩)
      have : (toM T).count e = (toM (dropT T i)).count e + 1 := by
        show (T.map (·.2)).count e = _
        rw [pp.count_eq, List.map_cons, List.count_cons_self]
        rfl
      omega
    refine h2 i j ⟨a, v, b, hi, hj, fun z => ?_, q3, q4, fun p hp hv => ?_, fun p hp hv => ?_⟩
    · rw [z, hj] at hi
      exact q5 (Prod.mk.inj (Option.some.inj hi)).1.symm
    · exact one hj cc.2 p hp (Rdx.row_out q1 q5 q7 (List.mem_map.mpr ⟨p, hp, rfl⟩) hv)
    · exact one hi cc.1 p hp (Rdx.row_in q1 q6 q7 (List.mem_map.mpr ⟨p, hp, rfl⟩) hv)
theorem aft_len (nd : (kyT T).Nodup) {x : Stp} (h : MayT T s g x) : (aftT T x).length + 1 = T.length := by
  have := (may_st nd h).2.len
  unfold toM at this
  rw [List.length_map, List.length_map] at this
  exact this.symm
inductive Chn (s g : Int) : Tb → List Stp → Tb → Prop
  | nil (T : Tb) : Chn s g T [] T
  | cons {T T' : Tb} {x : Stp} {l : List Stp} : MayT T s g x → Chn s g (aftT T x) l T' → Chn s g T (x :: l) T'
theorem Chn.snoc {T T' : Tb} {x : Stp} {l : List Stp} (h : Chn s g T l T') (hx : MayT T' s g x) : Chn s g T (l ++ [x]) (aftT T' x) := by
  induction h with
  | nil T => exact .cons hx (.nil _)
  | cons h1 _ ih => exact .cons h1 (ih hx)
theorem Chn.nd {T T' : Tb} {l : List Stp} (h : Chn s g T l T') (nd : (kyT T).Nodup) : (kyT T').Nodup := by
  induction h with
  | nil T => exact nd
  | cons _ _ ih => exact ih (aft_nd nd _)
theorem Chn.len {T T' : Tb} {l : List Stp} (h : Chn s g T l T') (nd : (kyT T).Nodup) : T'.length + l.length = T.length := by
  induction h with
  | nil T => rfl
  | cons h1 _ ih =>
    have := aft_len nd h1
    have := ih (aft_nd nd _)
    rw [List.length_cons]
    omega
theorem Chn.red' {T T' : Tb} {l : List Stp} (h : Chn s g T l T') (nd : (kyT T).Nodup) (r : Rdx.Rea s (toM T)) (h0 : 0 < T'.length) (hT : Rdx.Red s g (toM T)) : Rdx.Red s g (toM T') := by
  induction h with
  | nil T => exact hT
  | @cons T T' x l h1 h2 ih =>
    have nd2 := aft_nd nd x
    have l2 := h2.len nd2
    refine ih nd2 ((may_st nd h1).2.rd r) h0 (hT.st r ?_ (may_st nd h1).2)
    unfold toM
    rw [List.length_map]
    omega
theorem steploop_run {ko : Out → Prop} {s0 s1 s2 s5 : Sl} (nd : (kyT T).Nodup) (hl : T.length ≤ 900) (h0 : 0 < T.length) (r : Rdx.Rea s (toM T)) (h1 : s1 = .p (.int s)) (h2 : s2 = .p (.int g))
    (no : ¬ Rdx.Red s g (toM T) → ko (.rt .none)) (yes : ∀ (l : List Stp) (T' : Tb) (s5 : Sl), Chn s g T l T' → T'.length = 1 → ko (.nx [s0, s1, s2, .p (tbD T'), .o (l.map stpD), s5])) :
    (sWhile (tBv (d2 dGt (dCB bLenI (aCons (dV 3) aNil)) (dC (.int 1)))) (sSeq (sSet 5 (dOrV (dCall 1 f_side_step (aCons (dV 3) aNil)) (dCall 3 f_row_step (aCons (dV 3) (aCons (dV 1) (aCons (dV 2) aNil)))))) (sSeq (sIf (tBv (d2 dIs (dV 5) (dC .none))) (sRet (dC .none)) sNext) (sSeq (sSet 3 (dCall 2 f_after_step (aCons (dV 3) (aCons (dV 5) aNil)))) (sApp 4 (dV 5))))) [s0, s1, s2, .p (tbD T), .o [], s5]).run ko w := by
  subst h1 h2
  refine while_run (fun m δ => ∃ (l : List Stp) (T' : Tb) (s5 : Sl), Chn s g T l T' ∧ T'.length = m ∧ 0 < m ∧ δ = [s0, .p (.int s), .p (.int g), .p (tbD T'), .o (l.map stpD), s5]) T.length ⟨[], T, s5, .nil T, rfl, h0, rfl⟩ ?_
  rintro m δ ⟨l, T', s5, ch, hm, m0, rfl⟩
  have nd' := ch.nd nd
  have ll := ch.len nd
  have hl' : (kyT T').length ≤ sizeLine := by rw [List.length_map]; exact lineN (by omega)
  simp only [rw_tBv, rw_d2, rw_dCB, rw_aCons, rw_aNil, rw_dV, rw_dC, List.getElem?_cons_succ, List.getElem?_cons_zero, slotP_p, pure_bind, rw_allD1, rw_allD0, len_tb, dGt, rw_int2, run_bind, run_need, run_pure, rw_asB, true_and]
  by_cases c : (1 : Int) < (T'.length : Int)
  · have c2 : decide ((T'.length : Int) > 1) = true := decide_eq_true c
    rw [c2, if_pos rfl]
    refine seqM' (fun δ => ∃ x : Option Stp, (∀ y, x = some y → MayT T' s g y) ∧ (x = none → ∀ N, ¬ Rdx.St s g (toM T') N) ∧ δ = [s0, .p (.int s), .p (.int g), .p (tbD T'), .o (l.map stpD), .p (match x with | some y => stpD y | none => .none)]) ?_ ?_
    · rw [rw_set, run_bind, rw_dOrV, run_bind]
      simp only [rw_call, rw_aCons, rw_aNil, rw_dV, List.getElem?_cons_succ, List.getElem?_cons_zero, slotP_p, pure_bind, run_bind, run_need, run_pure, List.length_cons, List.length_nil, true_and]
      have tr : ∀ y : Stp, truD (stpD y) = .pure true := fun y => rfl
      have tn : truD (.none : D) = .pure false := rfl
      refine sidestep_run (fun n1 => ?_) fun i j hs => ?_
      · rw [tn, run_pure, if_neg (by simp)]
        simp only [rw_call, rw_aCons, rw_aNil, rw_dV, List.getElem?_cons_succ, List.getElem?_cons_zero, slotP_p, pure_bind, run_bind, run_need, run_pure, List.length_cons, List.length_nil, true_and]
        refine rowstep_run nd' hl' (fun n2 => ?_) fun i j hs => ?_
        · exact ⟨none, fun _ z => (by cases z), fun _ => stuck_st nd' n1 n2, rfl⟩
        · exact ⟨some (true, i, j), fun y z => (by cases z; exact hs), fun z => (by cases z), rfl⟩
      · rw [tr, run_pure, if_pos rfl]
        simp only [run_pure]
        exact ⟨some (false, i, j), fun y z => (by cases z; exact hs), fun z => (by cases z), rfl⟩
    rintro _ ⟨x, hx, hn, rfl⟩
    cases x with
    | none =>
      refine seqM' (fun δ => False) ?_ (fun δ z => z.elim)
      simp only [rw_if, rw_tBv, rw_d2, rw_dV, rw_dC, List.getElem?_cons_succ, List.getElem?_cons_zero, slotP_p, pure_bind, rw_is, isNoneD, run_bind, run_pure, rw_asB, if_true, rw_ret]
      refine no fun z => ?_
      have z2 := ch.red' nd r (by omega) z
      refine Rdx.stuck_no (hn rfl) ?_ z2
      unfold toM
      rw [List.length_map]
      omega
    | some y =>
      have hy := hx y rfl
      obtain ⟨⟨e, f, q1, q2, q3⟩, st⟩ := may_st nd' hy
      refine seqM' (fun δ => δ = [s0, .p (.int s), .p (.int g), .p (tbD T'), .o (l.map stpD), .p (stpD y)]) ?_ ?_
      · simp only [rw_if, rw_tBv, rw_d2, rw_dV, rw_dC, List.getElem?_cons_succ, List.getElem?_cons_zero, slotP_p, pure_bind, rw_is, run_bind, run_pure, show isNoneD (stpD y) = false from rfl, rw_asB, Bool.false_eq_true, if_false, rw_next]
      rintro _ rfl
      refine seqM' (fun δ => δ = [s0, .p (.int s), .p (.int g), .p (tbD (aftT T' y)), .o (l.map stpD), .p (stpD y)]) ?_ ?_
      · simp only [rw_set, rw_call, rw_aCons, rw_aNil, rw_dV, List.getElem?_cons_succ, List.getElem?_cons_zero, slotP_p, pure_bind, run_bind, run_need, run_pure, List.length_cons, List.length_nil, true_and]
        refine afterstep_run nd' (by omega) q1 q2 q3 ?_
        rfl
      rintro _ rfl
      have l3 := aft_len nd' hy
      simp only [rw_app, rw_dV, List.getElem?_cons_succ, List.getElem?_cons_zero, slotO_o, slotP_p, pure_bind, run_bind, run_need, run_pure]
      refine ⟨lineL (by rw [List.length_map]; omega), (aftT T' y).length, by omega, l ++ [y], aftT T' y, .p (stpD y), ch.snoc hy, rfl, by omega, ?_⟩
      rw [List.map_append]
      rfl
  · have c2 : decide ((T'.length : Int) > 1) = false := decide_eq_false c
    rw [c2, if_neg (by simp)]
    exact yes l T' s5 ch (by omega)
end

end Tr

namespace Tr
open PySem PySem.Spec L2
variable [ProtC]
section
def srcE (E : List (Int × Int)) (k : Int) : Int := (E.getD k.toNat (0, 0)).1
theorem src_ext {E : List (Int × Int)} {r0 : Gm.Row} {p : (Int × Int) × Nat} (h : r0.1.map (srcE E) = r0.2.dropLast) (hp : p ∈ E.zipIdx) (ho : Gm.okE r0.2 p.1 = true) : (Gm.exP r0.1 r0.2 p).1.map (srcE E) = (Gm.exP r0.1 r0.2 p).2.dropLast := by
  obtain ⟨e, k⟩ := p
  have hk := List.mem_zipIdx hp
  simp at hk
  obtain ⟨k1, he⟩ := hk
  have t1 : srcE E (k : Int) = e.1 := by simp [srcE, k1, he]
  simp only [Gm.okE, Bool.and_eq_true, decide_eq_true_eq] at ho
  show (r0.1 ++ [(k : Int)]).map (srcE E) = (r0.2 ++ [e.2]).dropLast
  rw [List.map_append, h, List.dropLast_concat, List.map_singleton, t1]
  have h1 := ho.1
  rcases List.eq_nil_or_concat r0.2 with z | ⟨l, x, z⟩
  · rw [z] at h1
    cases h1
  · rw [List.concat_eq_append] at z
    rw [z] at h1 ⊢
    rw [List.getLast?_concat] at h1
    rw [List.dropLast_concat, Option.some.inj h1]
theorem src_it {E : List (Int × Int)} {a b : Int} : ∀ j, ∀ r ∈ Gm.itR E b j (Gm.rows0 a), r.1.map (srcE E) = r.2.dropLast := by
  intro j
  induction j with
  | zero =>
    intro r hr
    simp [Gm.itR, Gm.rows0] at hr
    subst hr
    rfl
  | succ j ih =>
    intro r hr
    rw [Gm.itR_succ] at hr
    obtain ⟨r0, h0, hr⟩ := List.mem_flatMap.mp (List.mem_filter.mp hr).1
    obtain ⟨p, hp, rfl⟩ := List.mem_map.mp hr
    obtain ⟨hp, ho⟩ := List.mem_filter.mp hp
    exact src_ext (ih r0 h0) hp ho
theorem way_nodes {E : List (Int × Int)} {a b : Int} {m : Nat} (ha : 0 ≤ a ∧ a < m) (hE : ∀ e ∈ E, 0 ≤ e.2 ∧ e.2 < m) : ∀ j, ∀ y ∈ Gm.allF E b j (Gm.rows0 a), ∃ ns : List Int, ns.Nodup ∧ ns.head? = some a ∧ ns.getLast? = some b ∧ y.map (srcE E) = ns.dropLast ∧ y.map (Gm.tgt E) = ns.tail ∧ y ≠ [] := by
  intro j
  induction j with
  | zero => intro w hw; cases hw
  | succ j ih =>
    intro w hw
    rw [Gm.allF_succ] at hw
    rcases List.mem_append.mp hw with hw | hw
    · exact ih w hw
    · obtain ⟨r, hr, rfl⟩ := List.mem_map.mp hw
      obtain ⟨hr, hl⟩ := List.mem_filter.mp hr
      have ok := Gm.rok_ext1 (Gm.rok_it ha hE j) hE r hr
      obtain ⟨r0, h0, hr2⟩ := List.mem_flatMap.mp hr
      obtain ⟨p, hp, e⟩ := List.mem_map.mp hr2
      obtain ⟨hp, ho⟩ := List.mem_filter.mp hp
      have hs := src_ext (src_it j r0 h0) hp ho
      rw [e] at hs
      refine ⟨r.2, ok.nd, by rw [ok.nl]; rfl, by simpa [Gm.isE] using hl, hs, by rw [ok.nl]; rfl, fun z => ?_⟩
      have := ok.wl
      rw [z] at this
      simp at this
end

end Tr

namespace Tr
open PySem PySem.Spec L2
variable [ProtC]
section
def RN (rows : List Gm.Row) : Prop := rows.Pairwise fun a b => a.1 ≠ b.1
theorem zipIdx_pw {α : Type} {E : List α} : E.zipIdx.Pairwise fun p q => p.2 ≠ q.2 := by
  rw [List.pairwise_iff_getElem]
  intro i j hi hj hij
  simp
  omega
theorem rn_ext1 {E : List (Int × Int)} {rows : List Gm.Row} (h : RN rows) : RN (Gm.ext1 E rows) := by
  unfold RN Gm.ext1
  rw [List.pairwise_flatMap]
  constructor
  · intro r _
    unfold Gm.exts Gm.extsP
    rw [List.pairwise_map]
    refine (zipIdx_pw.sublist List.filter_sublist).imp fun {p q} hpq e => hpq ?_
    simp only [Gm.exP] at e
    have := List.append_inj_right e rfl
    simp at this
    omega
  · refine h.imp fun {a b} hab x hx y hy e => hab ?_
    obtain ⟨p, _, rfl⟩ := List.mem_map.mp hx
    obtain ⟨q, _, rfl⟩ := List.mem_map.mp hy
    simp only [Gm.exP] at e
    exact List.append_inj_left' e rfl
theorem rn_it {E : List (Int × Int)} {a b : Int} : ∀ j, RN (Gm.itR E b j (Gm.rows0 a)) := by
  intro j
  induction j with
  | zero => exact List.pairwise_singleton _ _
  | succ j ih =>
    rw [Gm.itR_succ]
    exact (rn_ext1 ih).sublist List.filter_sublist
theorem all_nd {E : List (Int × Int)} {n : Nat} {a b : Int} (ha : 0 ≤ a ∧ a < n) (hE : ∀ e ∈ E, 0 ≤ e.2 ∧ e.2 < n) : ∀ j, (Gm.allF E b j (Gm.rows0 a)).Nodup ∧ ∀ w ∈ Gm.allF E b j (Gm.rows0 a), w.length ≤ j := by
  intro j
  induction j with
  | zero => exact ⟨List.nodup_nil, fun w hw => by cases hw⟩
  | succ j ih =>
    rw [Gm.allF_succ]
    have hl : ∀ w ∈ Gm.fin b (Gm.ext1 E (Gm.itR E b j (Gm.rows0 a))), w.length = j + 1 := fun w hw => by
      obtain ⟨r, hr, rfl⟩ := List.mem_map.mp hw
      exact (Gm.rok_ext1 (Gm.rok_it ha hE j) hE r (List.mem_filter.mp hr).1).wl
    refine ⟨?_, fun w hw => ?_⟩
    · rw [List.nodup_append]
      refine ⟨ih.1, ?_, fun x hx y hy e => ?_⟩
      · unfold Gm.fin
        exact List.pairwise_map.mpr ((rn_ext1 (rn_it j)).sublist List.filter_sublist)
      · have := ih.2 x hx
        have := hl y hy
        rw [e] at *
        omega
    · rcases List.mem_append.mp hw with z | z
      · have := ih.2 w z
        omega
      · have := hl w z
        omega
end

end Tr

namespace Tr
open PySem PySem.Spec L2
variable [ProtC]
section
structure IsW (E : List (Int × Int)) (a b : Int) (y ns : List Int) : Prop where
  nd : ns.Nodup
  hd : ns.head? = some a
  la : ns.getLast? = some b
  rg : ∀ x ∈ y, 0 ≤ x ∧ x < E.length
  src : y.map (srcE E) = ns.dropLast
  tgt : y.map (Gm.tgt E) = ns.tail
  ne : y ≠ []
variable {E : List (Int × Int)} {a b : Int} {y ns : List Int} {N : Nat}
theorem IsW.len (h : IsW E a b y ns) : ns.length = y.length + 1 := by
  have := congrArg List.length h.src
  rw [List.length_map, List.length_dropLast] at this
  have : ns ≠ [] := fun e => by have := h.hd; rw [e] at this; cases this
  have := List.length_pos_iff.mpr this
  omega
theorem IsW.s (h : IsW E a b y ns) {i : Nat} (hi : i < y.length) : srcE E y[i] = ns[i]'(by have := h.len; omega) := by
  have e := h.src
  have l := h.len
  have a1 : (y.map (srcE E))[i]? = some (srcE E y[i]) := by simp [hi]
  rw [e, List.getElem?_dropLast, if_pos (by omega), List.getElem?_eq_getElem (by omega)] at a1
  exact (Option.some.inj a1).symm
theorem IsW.t (h : IsW E a b y ns) {i : Nat} (hi : i < y.length) : Gm.tgt E y[i] = ns[i + 1]'(by have := h.len; omega) := by
  have e := h.tgt
  have l := h.len
  have a1 : (y.map (Gm.tgt E))[i]? = some (Gm.tgt E y[i]) := by simp [hi]
  rw [e, List.getElem?_tail, List.getElem?_eq_getElem (by omega)] at a1
  exact (Option.some.inj a1).symm
theorem IsW.row (h : IsW E a b y ns) : ∀ i, i < y.length → (y.take i, ns.take (i + 1)) ∈ Gm.itR E b i (Gm.rows0 a) ∧ (y.take (i + 1), ns.take (i + 2)) ∈ Gm.ext1 E (Gm.itR E b i (Gm.rows0 a)) := by
  have l := h.len
  have last : ns[y.length]'(by omega) = b := by
    have := h.la
    rw [List.getLast?_eq_getElem?, List.getElem?_eq_getElem (by omega)] at this
    have e := Option.some.inj this
    have e2 : ns.length - 1 = y.length := by omega
    simpa [e2] using e
  have ext : ∀ i, i < y.length → (y.take i, ns.take (i + 1)) ∈ Gm.itR E b i (Gm.rows0 a) → (y.take (i + 1), ns.take (i + 2)) ∈ Gm.ext1 E (Gm.itR E b i (Gm.rows0 a)) := fun i hi hm => by
    have rg := h.rg y[i] (List.getElem_mem _)
    obtain ⟨m, em⟩ : ∃ m : Nat, y[i] = m := ⟨y[i].toNat, by omega⟩
    have hmE : m < E.length := by omega
    have s := h.s hi
    have t := h.t hi
    have s' : E[m].1 = ns[i] := by
      rw [← s, em]
      simp [srcE, hmE]
    have t' : E[m].2 = ns[i + 1] := by
      rw [← t, em]
      simp [Gm.tgt, hmE]
    have hp : (E[m], m) ∈ E.zipIdx := List.mk_mem_zipIdx_iff_getElem?.mpr (List.getElem?_eq_getElem hmE)
    have la : (ns.take (i + 1)).getLast? = some ns[i] := by
      rw [List.getLast?_eq_getElem?, List.length_take, Nat.min_eq_left (by omega)]
      show (ns.take (i + 1))[i + 1 - 1]? = _
      rw [Nat.add_sub_cancel, List.getElem?_take_of_lt (by omega), List.getElem?_eq_getElem (by omega)]
    have nin : ns[i + 1] ∉ ns.take (i + 1) := fun z => by
      obtain ⟨j, hj, e⟩ := List.getElem_of_mem z
      rw [List.length_take] at hj
      rw [List.getElem_take] at e
      have := (List.getElem_inj h.nd).mp e
      omega
    have ok : Gm.okE (ns.take (i + 1)) E[m] = true := by
      simp [Gm.okE, la, s', t', nin]
    have := pth_e1 (rows := Gm.itR E b i (Gm.rows0 a)) hm hp ok
    have e1 : Gm.exP (y.take i) (ns.take (i + 1)) (E[m], m) = (y.take (i + 1), ns.take (i + 2)) := by
      unfold Gm.exP
      rw [t', List.take_succ_eq_append_getElem hi, List.take_succ_eq_append_getElem (show i + 1 < ns.length by omega), em]
    rwa [e1] at this
  intro i
  induction i with
  | zero =>
    intro hi
    have m : (y.take 0, ns.take 1) ∈ Gm.itR E b 0 (Gm.rows0 a) := by
      have : ns.take 1 = [a] := by
        cases ns with
        | nil => cases h.hd
        | cons z l =>
          have : z = a := Option.some.inj h.hd
          rw [this]
          rfl
      rw [this]
      simp [Gm.itR, Gm.rows0]
    exact ⟨m, ext 0 hi m⟩
  | succ i ih =>
    intro hi
    obtain ⟨_, h2⟩ := ih (by omega)
    have m : (y.take (i + 1), ns.take (i + 2)) ∈ Gm.itR E b (i + 1) (Gm.rows0 a) := by
      rw [Gm.itR_succ]
      refine List.mem_filter.mpr ⟨h2, ?_⟩
      have la : (ns.take (i + 2)).getLast? = some ns[i + 1] := by
        rw [List.getLast?_eq_getElem?, List.length_take, Nat.min_eq_left (by omega)]
        show (ns.take (i + 2))[i + 2 - 1]? = _
        have : i + 2 - 1 = i + 1 := by omega
        rw [this, List.getElem?_take_of_lt (by omega), List.getElem?_eq_getElem (by omega)]
      have ne : ns[i + 1] ≠ b := fun e => by
        rw [← last] at e
        have := (List.getElem_inj h.nd).mp e
        omega
      simp [Gm.isE, la, ne]
    exact ⟨m, ext (i + 1) hi m⟩
theorem IsW.ways (h : IsW E a b y ns) (hN : y.length ≤ N) : y ∈ waysF E a b N := by
  have l := h.len
  have yp := List.length_pos_iff.mpr h.ne
  obtain ⟨_, h2⟩ := h.row (y.length - 1) (by omega)
  have e1 : y.length - 1 + 1 = y.length := by omega
  have e2 : y.length - 1 + 2 = ns.length := by omega
  rw [e1, e2, List.take_length, List.take_length] at h2
  have m : y ∈ Gm.allF E b y.length (Gm.rows0 a) := by
    have : y ∈ Gm.allF E b (y.length - 1 + 1) (Gm.rows0 a) := by
      rw [Gm.allF_succ]
      refine List.mem_append_right _ (List.mem_map.mpr ⟨(y, ns), List.mem_filter.mpr ⟨h2, ?_⟩, rfl⟩)
      simp [Gm.isE, h.la]
    rwa [e1] at this
  have := allF_mono m (N - y.length)
  rw [show y.length + (N - y.length) = N by omega] at this
  exact srtW_mem.mpr this
theorem IsW.short (h : IsW E a b y ns) (ha : 0 ≤ a ∧ a < N) (hE : ∀ e ∈ E, 0 ≤ e.2 ∧ e.2 < N) : y.length < N := by
  have l := h.len
  have hn : ∀ x ∈ ns, 0 ≤ x ∧ x < N := fun x hx => by
    cases ns with
    | nil => cases hx
    | cons z ns' =>
      have z0 : z = a := Option.some.inj h.hd
      rcases List.mem_cons.mp hx with e | e
      · rw [e, z0]; exact ha
      · have : x ∈ y.map (Gm.tgt E) := by rw [h.tgt]; exact e
        obtain ⟨k, hk, rfl⟩ := List.mem_map.mp this
        have rg := h.rg k hk
        obtain ⟨m, rfl⟩ : ∃ m : Nat, k = m := ⟨k.toNat, by omega⟩
        have hm : m < E.length := by omega
        have := hE _ (List.getElem_mem hm)
        simpa [Gm.tgt, hm] using this
  have := Gm.nodup_le (T := (List.range N).map fun i : Nat => (i : Int)) h.nd fun x hx => by
    have := hn x hx
    exact List.mem_map.mpr ⟨x.toNat, List.mem_range.mpr (by omega), by omega⟩
  rw [List.length_map, List.length_range] at this
  omega
theorem way_iff (ha : 0 ≤ a ∧ a < N) (hE : ∀ e ∈ E, 0 ≤ e.2 ∧ e.2 < N) : y ∈ waysF E a b N ↔ ∃ ns, IsW E a b y ns := by
  constructor
  · intro hy
    obtain ⟨ns, h1, h2, h3, h4, h5, h6⟩ := way_nodes ha hE N y (srtW_mem.mp hy)
    have w := Gm.wok_all ha hE N y (srtW_mem.mp hy)
    exact ⟨ns, h1, h2, h3, fun x hx => by have := w.ix x hx; omega, h4, h5, h6⟩
  · rintro ⟨ns, h⟩
    exact h.ways (Nat.le_of_lt (h.short ha hE))
end

end Tr

namespace Tr
open PySem PySem.Spec L2
variable [ProtC]
section
variable {E : List (Int × Int)} {a b : Int} {y y' ns ns' : List Int} {N : Nat}
theorem IsW.at0 (h : IsW E a b y ns) : ∃ x l m, y = x :: l ∧ ns = a :: m ∧ srcE E x = a := by
  cases y with
  | nil => exact absurd rfl h.ne
  | cons x l =>
    have hl := h.len
    have hd := h.hd
    cases ns with
    | nil => cases hd
    | cons c m =>
      cases hd
      have := h.s (i := 0) (by simp)
      exact ⟨x, l, m, rfl, rfl, this⟩
theorem IsW.uniq : ∀ {y ns y' ns' : List Int} {a : Int}, IsW E a b y ns → IsW E a b y' ns' → (∀ x, x ∈ y ↔ x ∈ y') → y = y' := by
  intro y
  induction y with
  | nil => intro ns y' ns' a h _ _; exact absurd rfl h.ne
  | cons x l ih =>
    intro ns y' ns' a h h' hm
    obtain ⟨_, _, m, e1, e2, e3⟩ := h.at0
    cases e1
    obtain ⟨x', l', m', rfl, e2', e3'⟩ := h'.at0
    subst e2 e2'
    -- the first roads are the same: only one starts at a
    have src1 : ∀ {x0 : Int} {l0 m0 : List Int}, IsW E a b (x0 :: l0) (a :: m0) → ∀ z ∈ l0, srcE E z ≠ a := fun {x0 l0 m0} h0 z hz e => by
      obtain ⟨i, hi, rfl⟩ := List.mem_iff_getElem.mp hz
      have q := h0.s (i := i + 1) (by simp; omega)
      have q : srcE E l0[i] = m0[i]'(by have := h0.len; simp at this; omega) := q
      have nd := (List.nodup_cons.mp h0.nd).1
      exact nd (by rw [← e, q]; exact List.getElem_mem _)
    have xx : x = x' := by
      rcases List.mem_cons.mp ((hm x).mp (by simp)) with z | z
      · exact z
      · exact absurd e3 (src1 h' x z)
    subst xx
    have hl := h.len
    have hl' := h'.len
    have nm : ∀ {l0 m0 : List Int}, IsW E a b (x :: l0) (a :: m0) → x ∉ l0 := fun {l0 m0} h0 z => src1 h0 x z e3
    have hm2 : ∀ z, z ∈ l ↔ z ∈ l' := fun z => by
      have := hm z
      rw [List.mem_cons, List.mem_cons] at this
      constructor
      · intro hz
        rcases this.mp (.inr hz) with e | e
        · exact absurd (e ▸ hz) (nm h)
        · exact e
      · intro hz
        rcases this.mpr (.inr hz) with e | e
        · exact absurd (e ▸ hz) (nm h')
        · exact e
    cases l with
    | nil =>
      cases l' with
      | nil => rfl
      | cons z l' => exact absurd ((hm2 z).mpr (by simp)) (by simp)
    | cons z l =>
      cases l' with
      | nil => exact absurd ((hm2 z).mp (by simp)) (by simp)
      | cons z' l' =>
        have tl : ∀ {l0 m0 : List Int}, l0 ≠ [] → IsW E a b (x :: l0) (a :: m0) → IsW E (Gm.tgt E x) b l0 m0 := fun {l0 m0} hn h0 => by
          have k0 := h0.len
          have k1 : m0 ≠ [] := fun z => by rw [z] at k0; simp at k0
          have t0 := h0.t (i := 0) (by simp)
          have t0 : Gm.tgt E x = m0[0]'(List.length_pos_iff.mpr k1) := t0
          refine ⟨(List.nodup_cons.mp h0.nd).2, ?_, ?_, fun c hc => h0.rg c (by simp [hc]), ?_, ?_, hn⟩
          · rw [t0]; cases m0 with | nil => exact absurd rfl k1 | cons c m => rfl
          · have := h0.la
            rw [List.getLast?_cons_of_ne_nil k1] at this
            exact this
          · have := h0.src
            rw [List.map_cons, List.dropLast_cons_of_ne_nil k1] at this
            exact (List.cons.inj this).2
          · have := h0.tgt
            rw [List.map_cons, List.tail_cons] at this
            rw [← this]
            rfl
        have := ih (tl (by simp) h) (tl (by simp) h') hm2
        rw [this]
def subsL : List Nat → List (List Nat)
  | [] => [[]]
  | x :: l => subsL l ++ (subsL l).map fun m => x :: m
theorem filt_subs {p : Nat → Bool} : ∀ l : List Nat, l.filter p ∈ subsL l
  | [] => by simp [subsL]
  | x :: l => by
    unfold subsL
    rw [List.filter_cons]
    split
    · exact List.mem_append_right _ (List.mem_map.mpr ⟨_, filt_subs l, rfl⟩)
    · exact List.mem_append_left _ (filt_subs l)
theorem nodup_leG {α : Type} [DecidableEq α] {l T : List α} (h : l.Nodup) (hs : ∀ x ∈ l, x ∈ T) : l.length ≤ T.length := by
  induction l generalizing T with
  | nil => simp
  | cons x l ih =>
    have hx := hs x (by simp)
    have p := List.perm_cons_erase hx
    have := ih (T := T.erase x) (List.nodup_cons.mp h).2 fun z hz => by
      have ne : z ≠ x := fun e => (List.nodup_cons.mp h).1 (e ▸ hz)
      exact (List.mem_erase_of_ne ne).mpr (hs z (by simp [hz]))
    have := p.length_eq
    simp only [List.length_cons] at *
    omega
theorem waysG {B M : Nat} (hS : ((subsL (List.range 10)).filter fun m => decide (m.length ≤ B)).length = M) (ha : 0 ≤ a ∧ a < N) (hE : ∀ e ∈ E, 0 ≤ e.2 ∧ e.2 < N) (hN : N ≤ B + 1) (hm : E.length ≤ 10) : (waysF E a b N).length ≤ M ∧ ∀ y ∈ waysF E a b N, y.length ≤ B := by
  have h4 : ∀ y ∈ waysF E a b N, y.length ≤ B := fun y hy => by
    obtain ⟨ns, h⟩ := (way_iff ha hE).mp hy
    have := h.short ha hE
    omega
  refine ⟨?_, h4⟩
  have nd : (waysF E a b N).Nodup := (srtW_perm.nodup_iff).mpr (all_nd ha hE N).1
  let φ : List Int → List Nat := fun y => (List.range 10).filter fun i : Nat => decide ((i : Int) ∈ y)
  have n2 : ((waysF E a b N).map φ).Nodup := by
    refine List.pairwise_map.mpr (nd.imp_of_mem fun {y y'} hy hy' ne e => ne ?_)
    obtain ⟨ns, h⟩ := (way_iff ha hE).mp hy
    obtain ⟨ns', h'⟩ := (way_iff ha hE).mp hy'
    refine h.uniq h' fun x => ?_
    have one : ∀ {u u' nu : List Int}, IsW E a b u nu → φ u = φ u' → x ∈ u → x ∈ u' := fun {u u' nu} hu eu hx => by
      have rg := hu.rg x hx
      have m1 : x.toNat ∈ φ u := List.mem_filter.mpr ⟨List.mem_range.mpr (by omega), decide_eq_true (by rw [Int.toNat_of_nonneg rg.1]; exact hx)⟩
      rw [eu] at m1
      have := of_decide_eq_true (List.mem_filter.mp m1).2
      rwa [Int.toNat_of_nonneg rg.1] at this
    exact ⟨one h e, one h' e.symm⟩
  have := nodup_leG (T := (subsL (List.range 10)).filter fun m => decide (m.length ≤ B)) n2 fun m hm => by
    obtain ⟨y, hy, rfl⟩ := List.mem_map.mp hm
    refine List.mem_filter.mpr ⟨filt_subs _, decide_eq_true ?_⟩
    have n3 : ((φ y).map fun i : Nat => (i : Int)).Nodup := List.pairwise_map.mpr ((List.nodup_range.filter _).imp fun {i j} ne e => ne (by omega))
    have := Gm.nodup_le (T := y) n3 fun z hz => by
      obtain ⟨i, hi, rfl⟩ := List.mem_map.mp hz
      exact of_decide_eq_true (List.mem_filter.mp hi).2
    rw [List.length_map] at this
    have := h4 y hy
    omega
  rw [List.length_map, hS] at this
  exact this
theorem subs638 : ((subsL (List.range 10)).filter fun m => decide (m.length ≤ 5)).length = 638 := by decide +kernel
theorem ways638 (ha : 0 ≤ a ∧ a < N) (hE : ∀ e ∈ E, 0 ≤ e.2 ∧ e.2 < N) (hN : N ≤ 6) (hm : E.length ≤ 10) : (waysF E a b N).length ≤ 638 ∧ ∀ y ∈ waysF E a b N, y.length ≤ 5 := waysG subs638 ha hE hN hm
theorem flat_le {l : List (List Int)} {B : Nat} (h : ∀ y ∈ l, y.length ≤ B) : l.flatten.length ≤ l.length * B := by
  induction l with
  | nil => simp
  | cons y l ih =>
    rw [List.flatten_cons, List.length_append, List.length_cons, Nat.add_mul]
    have := h y (by simp)
    have := ih fun z hz => h z (by simp [hz])
    omega
theorem nd_perm {α : Type} [DecidableEq α] : ∀ {l m : List α}, l.Nodup → m.Nodup → (∀ x, x ∈ l ↔ x ∈ m) → l.Perm m
  | [], m, _, _, h => by
    cases m with
    | nil => exact .refl _
    | cons x m => exact absurd ((h x).mpr (by simp)) (by simp)
  | x :: l, m, h1, h2, h => by
    have hx := (h x).mp (by simp)
    have p := List.perm_cons_erase hx
    obtain ⟨n1, n2⟩ := List.nodup_cons.mp h1
    refine (List.Perm.cons x (nd_perm n2 (h2.sublist List.erase_sublist) fun z => ?_)).trans p.symm
    by_cases c : z = x
    · subst c
      exact ⟨fun hz => absurd hz n1, fun hz => absurd hz (h2.not_mem_erase)⟩
    · rw [List.mem_erase_of_ne c, ← h z, List.mem_cons]
      exact ⟨.inr, fun hz => hz.resolve_left c⟩
end

end Tr

namespace Tr
open PySem PySem.Spec L2
variable [ProtC]
section
open Lk
variable {w : Exn → Prop}
theorem ded_spec {ns : List Int} : (dedI ns).Nodup ∧ ∀ z, z ∈ dedI ns ↔ z ∈ ns := by
  have key : ∀ (l s : List Int), s.Nodup → (l.foldl PyProof.Rows.step_dedup s).Nodup ∧ ∀ z, z ∈ l.foldl PyProof.Rows.step_dedup s ↔ z ∈ s ∨ z ∈ l := by
    intro l
    induction l with
    | nil => intro s h; exact ⟨h, fun z => by simp⟩
    | cons x l ih =>
      intro s h
      rw [List.foldl_cons]
      have es : PyProof.Rows.step_dedup s x = if x ∈ s then s else s ++ [x] := by
        unfold PyProof.Rows.step_dedup
        by_cases c : x ∈ s
        · rw [if_pos c, if_pos (List.any_eq_true.mpr ⟨x, c, by simp⟩)]
        · rw [if_neg c, if_neg]
          intro z
          obtain ⟨y, hy, e⟩ := List.any_eq_true.mp z
          rw [eq_of_beq e] at hy
          exact c hy
      have hn : (PyProof.Rows.step_dedup s x).Nodup := by
        rw [es]
        split
        · exact h
        · rename_i c
          refine List.nodup_append.mpr ⟨h, by simp, fun a ha b hb e => ?_⟩
          rw [List.mem_singleton] at hb
          rw [e, hb] at ha
          exact c ha
      obtain ⟨a1, a2⟩ := ih _ hn
      refine ⟨a1, fun z => ?_⟩
      rw [a2, es]
      split
      · rename_i c
        constructor
        · rintro (z1 | z1)
          · exact .inl z1
          · exact .inr (List.mem_cons_of_mem _ z1)
        · rintro (z1 | z1)
          · exact .inl z1
          · rcases List.mem_cons.mp z1 with rfl | z1
            · exact .inl c
            · exact .inr z1
      · rw [List.mem_append, List.mem_singleton, List.mem_cons, or_assoc]
  obtain ⟨a, b⟩ := key ns [] (by simp)
  exact ⟨a, fun z => by
    have := b z
    simpa [dedI] using this⟩
end

end Tr

namespace Tr
open PySem PySem.Spec L2
variable [ProtC]
section
open Lk
variable {w : Exn → Prop} {k : D → Prop} {E E' : List Rdx.Ed} {W W' : List (List Int)} {a b s g : Int} {n N : Nat}
def tabW (E : List Rdx.Ed) (W : List (List Int)) : Tb := (dedI W.flatten).map fun i => (i, E.getD i.toNat (0, 0))
theorem tab_ky : kyT (tabW E W) = dedI W.flatten := by
  unfold kyT tabW
  rw [List.map_map]
  exact List.map_id _
theorem tab_nd : (kyT (tabW E W)).Nodup := by rw [tab_ky]; exact ded_spec.1
theorem tab_M : toM (tabW E W) = (dedI W.flatten).map fun i => E.getD i.toNat (0, 0) := by
  unfold toM tabW
  rw [List.map_map]
  rfl
theorem tab_mem {e : Rdx.Ed} : e ∈ toM (tabW E W) ↔ ∃ y ∈ W, ∃ i ∈ y, E.getD i.toNat (0, 0) = e := by
  rw [tab_M, List.mem_map]
  constructor
  · rintro ⟨i, hi, rfl⟩
    obtain ⟨y, hy, hi⟩ := List.mem_flatten.mp ((ded_spec.2 i).mp hi)
    exact ⟨y, hy, i, hi, rfl⟩
  · rintro ⟨y, hy, i, hi, rfl⟩
    exact ⟨i, (ded_spec.2 i).mpr (List.mem_flatten.mpr ⟨y, hy, hi⟩), rfl⟩
theorem tab_len (ha : 0 ≤ a ∧ a < N) (hE : ∀ e ∈ E, 0 ≤ e.2 ∧ e.2 < N) (hm : E.length ≤ 10) : (tabW E (waysF E a b N)).length ≤ 10 ∧ (waysF E a b N ≠ [] → 0 < (tabW E (waysF E a b N)).length) := by
  unfold tabW
  rw [List.length_map]
  constructor
  · have := Gm.nodup_le (T := (List.range 10).map fun i : Nat => (i : Int)) (ded_spec (ns := (waysF E a b N).flatten)).1 fun z hz => by
      obtain ⟨y, hy, hz⟩ := List.mem_flatten.mp ((ded_spec.2 z).mp hz)
      obtain ⟨ns, h⟩ := (way_iff ha hE).mp hy
      have := h.rg z hz
      exact List.mem_map.mpr ⟨z.toNat, List.mem_range.mpr (by omega), by omega⟩
    rw [List.length_map, List.length_range] at this
    exact this
  · intro hne
    obtain ⟨y, hy⟩ := List.exists_mem_of_ne_nil _ hne
    obtain ⟨ns, h⟩ := (way_iff ha hE).mp hy
    obtain ⟨x, hx⟩ := List.exists_mem_of_ne_nil _ h.ne
    exact List.length_pos_of_mem ((ded_spec.2 x).mpr (List.mem_flatten.mpr ⟨y, hy, hx⟩))
theorem tab_rea (ha : 0 ≤ a ∧ a < N) (hE : ∀ e ∈ E, 0 ≤ e.2 ∧ e.2 < N) : Rdx.Rea a (toM (tabW E (waysF E a b N))) := by
  intro e he
  obtain ⟨y, hy, i, hi, rfl⟩ := tab_mem.mp he
  obtain ⟨ns, h⟩ := (way_iff ha hE).mp hy
  have hl := h.len
  have key : ∀ j (hj : j < y.length), Rdx.Rch a (toM (tabW E (waysF E a b N))) (srcE E y[j]) := by
    intro j
    induction j with
    | zero =>
      intro hj
      rw [h.s hj]
      have : ns[0]'(by omega) = a := by
        have := h.hd
        rw [List.head?_eq_getElem?, List.getElem?_eq_getElem (by omega)] at this
        exact Option.some.inj this
      rw [this]
      exact .z
    | succ j ih =>
      intro hj
      rw [h.s hj, ← h.t (i := j) (by omega)]
      refine .st (ih (by omega)) ?_
      exact tab_mem.mpr ⟨y, hy, y[j], List.getElem_mem _, rfl⟩
  obtain ⟨j, hj, rfl⟩ := List.mem_iff_getElem.mp hi
  exact key j hj
theorem dct_ded (f : Int → D) : ∀ (ks s : List Int), (ks.map fun k => (PyData.tuple [.int k, f k] : D)).foldl stepI (s.map fun k => (k, f k)) = (ks.foldl PyProof.Rows.step_dedup s).map fun k => (k, f k)
  | [], s => rfl
  | k :: ks, s => by
    rw [List.map_cons, List.foldl_cons, List.foldl_cons, ← dct_ded f ks]
    congr 1
    show putI (s.map fun k => (k, f k)) k (f k) = _
    unfold putI PyProof.Rows.step_dedup
    have e : ((s.map fun k => (k, f k)).any fun p => decide (p.1 = k)) = s.any (fun x => x == k) := by
      rw [List.any_map]
      congr 1
    rw [e]
    split
    · rw [List.map_map]
      refine List.map_congr_left fun x _ => ?_
      show (if x = k then (x, f k) else (x, f x)) = (x, f x)
      by_cases c : x = k
      · rw [if_pos c, c]
      · rw [if_neg c]
    · rw [List.map_append]
      rfl
theorem dctI_ded (f : Int → D) (ks : List Int) : dctI (ks.map fun k => (PyData.tuple [.int k, f k] : D)) = (dedI ks).map fun k => (k, f k) := dct_ded f ks []
theorem roadsonways_run {R : List Rd4} (ha : 0 ≤ a ∧ a < N) (hE : ∀ x ∈ R, 0 ≤ x.2.1 ∧ x.2.1 < N) (hm : R.length ≤ 10) (hN : N ≤ 6) (hk : k (tbD (tabW (R.map en4) (waysF (R.map en4) a b N)))) : (f_roads_on_ways [.d (netD (N : Int) R), .d (.int a), .d (.int b)]).run k w := by
  have hE2 : ∀ e ∈ R.map en4, 0 ≤ e.2 ∧ e.2 < N := fun e he => by
    obtain ⟨x, hx, rfl⟩ := List.mem_map.mp he
    exact hE x hx
  obtain ⟨w638, w4⟩ := ways638 (b := b) ha hE2 hN (by rw [List.length_map]; exact hm)
  have wok : ∀ y ∈ waysF (R.map en4) a b N, ∀ x ∈ y, 0 ≤ x ∧ x < R.length := fun y hy x hx => by
    obtain ⟨ns, h⟩ := (way_iff ha hE2).mp hy
    have := h.rg x hx
    rw [List.length_map] at this
    exact this
  unfold f_roads_on_ways
  rw [rw_dRun, run_bind]
  have e0 : dStart 5 [Ar.d (netD (N : Int) R), .d (.int a), .d (.int b)] = [.p (netD (N : Int) R), .p (.int a), .p (.int b), .non, .non] := rfl
  rw [e0]
  unfold b_roads_on_ways
  rw [rw_ret, run_bind]
  unfold dDc2
  rw [run_bind, rw_iSeqD]
  simp only [rw_call, rw_aCons, rw_aNil, rw_dV, List.getElem?_cons_succ, List.getElem?_cons_zero, slotP_p, pure_bind, run_bind, run_need, run_pure, List.length_cons, List.length_nil, true_and]
  refine allways_run (N := N) ha hE hm (by omega) ?_
  generalize hW : waysF (R.map en4) a b N = W at *
  rw [rw_seqL, run_pure, run_nox]
  let h2 : Int → D := fun x => .tuple [.int x, edD ((R.map en4).getD x.toNat (0, 0))]
  have ef : W.flatMap (fun y => y.map h2) = W.flatten.map h2 := by
    rw [List.map_flatten, List.flatMap_def]
  refine lc2_run (xs := W) (g := tupI) (h := fun y => y.map h2) (B := 10) (fun y hy => ⟨_, rfl, fun kb hb => hb, fun kd hd => ?_⟩) ?_ ?_
  · have es : seqD (tupI y) = .pure (y.map .int) := rfl
    show (iSeqD (dV 3) [.p (netD (N : Int) R), .p (.int a), .p (.int b), .p (tupI y), .non]).run kd _
    simp only [rw_iSeqD, rw_dV, List.getElem?_cons_succ, List.getElem?_cons_zero, slotP_p, pure_bind, es, run_pure]
    refine hd _ (by rw [List.length_map]; have := w4 y hy; omega) fun kd' h' => ?_
    show (lcLoop (bName 4) tYesD _ [.p (netD (N : Int) R), .p (.int a), .p (.int b), .p (tupI y), .non] _).run kd' _
    refine lc_run (xs := y) (g := fun x : Int => PyData.int x) (p := fun _ => true) (h := h2) (fun x hx => ⟨_, rfl, fun kb hb => hb, fun _ kd hd => ?_⟩) (by rw [List.filter_eq_self.mpr fun _ _ => rfl]; exact h')
    have rg := wok y hy x hx
    show (dKv (dV 4) _ [.p (netD (N : Int) R), .p (.int a), .p (.int b), .p (tupI y), .p (.int x)]).run kd _
    unfold dKv
    have eN : dIx (netD (N : Int) R) (.int 1) = .pure (.tuple (R.map rd4)) := by unfold netD; rw [rw_ixT, at1]; rfl
    have eR : dIx (.tuple (R.map rd4)) (.int x) = .pure (rd4 (R.getD x.toNat (0, 0, 0, 0))) := by
      obtain ⟨j, rfl⟩ : ∃ j : Nat, x = (j : Int) := ⟨x.toNat, by omega⟩
      rw [rw_ixT, atI_nat]
      have h : j < R.length := by omega
      simp [h]
    have eE : (R.map en4).getD x.toNat (0, 0) = en4 (R.getD x.toNat (0, 0, 0, 0)) := by
      have h : x.toNat < R.length := by omega
      simp [h]
    have hd : kd (.tuple [.int x, edD ((R.map en4).getD x.toNat (0, 0))]) := hd
    rw [eE] at hd
    have cc : ∀ r : Rd4, dCut none (some 2) (rd4 r) = .pure (edD (en4 r)) := fun r => by
      show (Wp.pure (PyData.tuple (cutD [.int r.1, .int r.2.1, .int r.2.2.1, .int r.2.2.2] none (some 2))) : Wp D) = _
      rw [cut2]
      rfl
    simp only [rw_dV, rw_dSl, rw_d2, rw_dC, List.getElem?_cons_succ, List.getElem?_cons_zero, slotP_p, pure_bind, eN, eR, run_bind, run_need, run_pure, oNone, oSome, rw_oNone, rw_oSome, asI, rw_asI, cc]
    exact ⟨⟨x, rfl⟩, hd⟩
  · rw [ef, List.length_map]
    have := flat_le w4
    exact lineN (by omega)
  · rw [ef]
    have key : dDi (dctI (W.flatten.map h2)) = tbD (tabW (R.map en4) W) := by
      have q : dctI (W.flatten.map h2) = (dedI W.flatten).map fun k => (k, edD ((R.map en4).getD k.toNat (0, 0))) := dctI_ded (fun x => edD ((R.map en4).getD x.toNat (0, 0))) W.flatten
      rw [q]
      unfold dDi tbD psT tabW enI
      rw [List.map_map, List.map_map, List.map_map]
      rfl
    have goal : k (dDi (dctI (W.flatten.map h2))) := by rw [key]; exact hk
    exact goal
end

end Tr

namespace Tr
open PySem PySem.Spec L2
variable [ProtC]
section
open Lk
variable {w : Exn → Prop} {k : D → Prop} {R : List Rd4} {a b : Int} {n : Nat} {T : Tb} {s g : Int}
structure RNet (n : Nat) (R : List Rd4) (a b : Int) : Prop where
  ok : NetOk (n : Int) R
  n6 : n ≤ 6
  a0 : 0 ≤ a ∧ a < n
  b0 : 0 ≤ b ∧ b < n
  ne : a ≠ b
  wy : waysF (R.map en4) a b n ≠ []
abbrev tbR (R : List Rd4) (n : Nat) (a b : Int) : Tb := tabW (R.map en4) (waysF (R.map en4) a b n)
def RedN (R : List Rd4) (n : Nat) (a b : Int) : Prop := Rdx.Red a b (toM (tbR R n a b))
theorem RNet.tg (h : RNet n R a b) : ∀ x ∈ R, 0 ≤ x.2.1 ∧ x.2.1 < n := fun x hx => by
  have := (h.ok.rd x hx).b0
  omega
theorem RNet.tE (h : RNet n R a b) : ∀ e ∈ R.map en4, 0 ≤ e.2 ∧ e.2 < n := fun e he => by
  obtain ⟨x, hx, rfl⟩ := List.mem_map.mp he
  exact h.tg x hx
theorem RNet.len (h : RNet n R a b) : (tbR R n a b).length ≤ 10 ∧ 0 < (tbR R n a b).length := by
  have := tab_len (b := b) h.a0 h.tE (by rw [List.length_map]; exact h.ok.r0.2)
  exact ⟨this.1, this.2 h.wy⟩
theorem RNet.needway (h : RNet n R a b) (hk : k .none) : (f_need_way [.d (netD (n : Int) R), .d (.int a), .d (.int b)]).run k w := by
  have a0 := h.a0
  have b0 := h.b0
  have n6 := h.n6
  unfold f_need_way
  rw [rw_dRun, run_bind]
  have e0 : dStart 3 [Ar.d (netD (n : Int) R), .d (.int a), .d (.int b)] = [.p (netD (n : Int) R), .p (.int a), .p (.int b)] := rfl
  rw [e0]
  unfold b_need_way
  refine seqM (fun δ => δ = [.p (netD (n : Int) R), .p (.int a), .p (.int b)]) ?_ ?_
  · simp
    exact neednet_run h.ok trivial
  rintro _ rfl
  refine seqM (fun δ => δ = [.p (netD (n : Int) R), .p (.int a), .p (.int b)]) ?_ ?_
  · simp
    simp [f_need_nodes, b_need_nodes, dStart, arSl, netD]
    refine isin_yes a0.1 (by omega) ?_
    simp
    refine isin_yes b0.1 (by omega) ?_
    simp [h.ne]
  rintro _ rfl
  simp
  refine allways_run (N := n) (n := n) (R := R) a0 h.tg h.ok.r0.2 (by omega) ?_
  cases e : waysF (R.map en4) a b n with
  | nil => exact absurd e h.wy
  | cons x l => simpa using hk
theorem stepsof_run (h : RNet n R a b) (no : ¬ RedN R n a b → k .none) (yes : ∀ (l : List Stp) (T' : Tb), Chn a b (tbR R n a b) l T' → T'.length = 1 → k (.list (l.map stpD))) : (f_steps_of [.d (netD (n : Int) R), .d (.int a), .d (.int b)]).run k w := by
  have hl := h.len
  unfold f_steps_of
  rw [rw_dRun, run_bind]
  have e0 : dStart 6 [Ar.d (netD (n : Int) R), .d (.int a), .d (.int b)] = [.p (netD (n : Int) R), .p (.int a), .p (.int b), .non, .non, .non] := rfl
  rw [e0]
  unfold b_steps_of
  refine seqM' (fun δ => δ = [.p (netD (n : Int) R), .p (.int a), .p (.int b), .p (tbD (tbR R n a b)), .o [], .non]) ?_ ?_
  · unfold sParDO
    simp only [rw_call, rw_aCons, rw_aNil, rw_dV, List.getElem?_cons_succ, List.getElem?_cons_zero, slotP_p, pure_bind, run_bind, run_pure, run_need, List.length_cons, List.length_nil, true_and]
    refine roadsonways_run h.a0 h.tg h.ok.r0.2 h.n6 ?_
    show (nLst aNil [.p (netD (n : Int) R), .p (.int a), .p (.int b), .non, .non, .non]).run _ _
    simp [nLst]
  rintro _ rfl
  refine seqM' (fun δ => ∃ (l : List Stp) (T' : Tb) (s5 : Sl), Chn a b (tbR R n a b) l T' ∧ T'.length = 1 ∧ δ = [.p (netD (n : Int) R), .p (.int a), .p (.int b), .p (tbD T'), .o (l.map stpD), s5]) ?_ ?_
  · exact steploop_run tab_nd (by omega) hl.2 (tab_rea h.a0 h.tE) rfl rfl no fun l T' s5 h1 h2 => ⟨l, T', s5, h1, h2, rfl⟩
  rintro _ ⟨l, T', s5, h1, h2, rfl⟩
  rw [rw_sFz]
  show (sRet (dV 4) [.p (netD (n : Int) R), .p (.int a), .p (.int b), .p (tbD T'), .p (.list (l.map stpD)), s5]).run _ _
  rw [rw_ret]
  simp only [rw_dV, List.getElem?_cons_succ, List.getElem?_cons_zero, slotP_p, pure_bind, run_bind, run_pure]
  exact yes l T' h1 h2
theorem reduction_run (h : RNet n R a b) (no : ¬ RedN R n a b → k .none) (yes : ∀ (l : List Stp) (T' : Tb), Chn a b (tbR R n a b) l T' → T'.length = 1 → k (.tuple (l.map stpD))) : (f_reduction [.d (netD (n : Int) R), .d (.int a), .d (.int b)]).run k w := by
  unfold f_reduction
  rw [rw_dRun, run_bind]
  have e0 : dStart 4 [Ar.d (netD (n : Int) R), .d (.int a), .d (.int b)] = [.p (netD (n : Int) R), .p (.int a), .p (.int b), .non] := rfl
  rw [e0]
  unfold b_reduction
  refine seqM' (fun δ => δ = [.p (netD (n : Int) R), .p (.int a), .p (.int b), .non]) ?_ ?_
  · simp only [rw_drop, rw_call, rw_aCons, rw_aNil, rw_dV, List.getElem?_cons_succ, List.getElem?_cons_zero, slotP_p, pure_bind, run_bind, run_pure, run_need, List.length_cons, List.length_nil, true_and]
    exact h.needway trivial
  rintro _ rfl
  refine seqM' (fun δ => (¬ RedN R n a b ∧ δ = [.p (netD (n : Int) R), .p (.int a), .p (.int b), .p .none]) ∨ ∃ (l : List Stp) (T' : Tb), Chn a b (tbR R n a b) l T' ∧ T'.length = 1 ∧ δ = [.p (netD (n : Int) R), .p (.int a), .p (.int b), .p (.list (l.map stpD))]) ?_ ?_
  · simp only [rw_set, rw_call, rw_aCons, rw_aNil, rw_dV, List.getElem?_cons_succ, List.getElem?_cons_zero, slotP_p, pure_bind, run_bind, run_pure, run_need, List.length_cons, List.length_nil, true_and]
    exact stepsof_run h (fun z => .inl ⟨z, rfl⟩) fun l T' h1 h2 => .inr ⟨l, T', h1, h2, rfl⟩
  rintro _ (⟨z, rfl⟩ | ⟨l, T', h1, h2, rfl⟩)
  · simp only [rw_ret, rw_dIf, rw_tBv, rw_d2, rw_dC, rw_dV, List.getElem?_cons_succ, List.getElem?_cons_zero, slotP_p, pure_bind, rw_is, isNoneD, rw_asB, run_bind, run_pure, if_true]
    exact no z
  · have e1 : isNoneD (.list (l.map stpD)) = false := rfl
    have e2 : bTuple [.list (l.map stpD)] = .pure (.tuple (l.map stpD)) := rfl
    simp only [rw_ret, rw_dIf, rw_tBv, rw_d2, rw_dC, rw_dCB, rw_aCons, rw_aNil, rw_allD1, rw_allD0, rw_dV, List.getElem?_cons_succ, List.getElem?_cons_zero, slotP_p, pure_bind, rw_is, e1, rw_asB, run_bind, run_pure, Bool.false_eq_true, if_false, e2]
    exact yes l T' h1 h2
end

end Tr

namespace Tr
open PySem PySem.Spec L2
variable [ProtC]
section
open Lk
variable {w : Exn → Prop} {k : D → Prop}
def eE (z : Int) (e : Rdx.Ed) : Prop := (0 ≤ e.1 ∧ e.1 < z) ∧ (0 ≤ e.2 ∧ e.2 < z) ∧ e.1 ≠ e.2
structure EndsOk (t : Nat) (z : Int) (E : List Rdx.Ed) : Prop where
  l0 : 1 ≤ E.length
  l1 : E.length ≤ t + 1
  z0 : 2 ≤ z ∧ z ≤ 6
  ok : ∀ e ∈ E, eE z e
theorem EndsOk.side {t : Nat} {z : Int} {E : List Rdx.Ed} (h : EndsOk t z E) {i : Nat} (hi : i < E.length) : EndsOk (t + 1) z (E ++ [E.getD i (0, 0)]) := by
  have hm : E.getD i (0, 0) ∈ E := by
    rw [List.getD_eq_getElem?_getD, List.getElem?_eq_getElem hi]
    exact List.getElem_mem _
  refine ⟨by rw [List.length_append]; have := h.l0; omega, by rw [List.length_append]; have := h.l1; simp; omega, h.z0, fun e he => ?_⟩
  rcases List.mem_append.mp he with he | he
  · exact h.ok e he
  · rw [List.mem_singleton.mp he]; exact h.ok _ hm
theorem EndsOk.row {t : Nat} {z : Int} {E : List Rdx.Ed} (h : EndsOk t z E) {i : Nat} (hi : i < E.length) (hz : z < 6) : EndsOk (t + 1) (z + 1) (E.take i ++ [((E.getD i (0, 0)).1, z), (z, (E.getD i (0, 0)).2)] ++ E.drop (i + 1)) := by
  have hm : E.getD i (0, 0) ∈ E := by
    rw [List.getD_eq_getElem?_getD, List.getElem?_eq_getElem hi]
    exact List.getElem_mem _
  have z0 := h.z0
  have up : ∀ e ∈ E, eE (z + 1) e := fun e he => by
    obtain ⟨a, b, c⟩ := h.ok e he
    exact ⟨by omega, by omega, c⟩
  obtain ⟨a, b, c⟩ := h.ok _ hm
  have ll : (E.take i ++ [((E.getD i (0, 0)).1, z), (z, (E.getD i (0, 0)).2)] ++ E.drop (i + 1)).length = E.length + 1 := by
    simp only [List.length_append, List.length_take, List.length_drop, List.length_cons, List.length_nil]
    omega
  refine ⟨by omega, by rw [ll]; have := h.l1; omega, by omega, fun e he => ?_⟩
  rcases List.mem_append.mp he with he | he
  · rcases List.mem_append.mp he with he | he
    · exact up e (List.mem_of_mem_take he)
    · rcases List.mem_cons.mp he with rfl | he
      · exact ⟨by show 0 ≤ (E.getD i (0, 0)).1 ∧ (E.getD i (0, 0)).1 < z + 1; omega, by show 0 ≤ z ∧ z < z + 1; omega, by show (E.getD i (0, 0)).1 ≠ z; omega⟩
      · rw [List.mem_singleton.mp he]
        exact ⟨by show 0 ≤ z ∧ z < z + 1; omega, by show 0 ≤ (E.getD i (0, 0)).2 ∧ (E.getD i (0, 0)).2 < z + 1; omega, by show z ≠ (E.getD i (0, 0)).2; omega⟩
  · exact up e (List.mem_of_mem_drop he)
def endsD (E : List Rdx.Ed) : D := .list (E.map edD)
theorem ends_ix {E : List Rdx.Ed} {i : Nat} (h : i < E.length) : dIx (endsD E) (.int (i : Int)) = .pure (edD (E.getD i (0, 0))) := by
  unfold endsD
  rw [rw_ixL, atI_nat]
  simp [h]
theorem ends_take {E : List Rdx.Ed} {i : Nat} : dCut none (some (i : Int)) (endsD E) = .pure (endsD (E.take i)) := by
  unfold endsD
  rw [rw_cutL, cut_take, List.map_take]
theorem ends_drop {E : List Rdx.Ed} {i : Nat} : dCut (some ((i : Int) + 1)) none (endsD E) = .pure (endsD (E.drop (i + 1))) := by
  unfold endsD
  rw [show (i : Int) + 1 = ((i + 1 : Nat) : Int) by omega, rw_cutL, cut_drop, List.map_drop]
theorem ends_add {E E' : List Rdx.Ed} (h : E.length + E'.length ≤ 1000) (hk : k (endsD (E ++ E'))) : (dAdd (endsD E) (endsD E')).run k w := by
  unfold endsD at hk ⊢
  rw [rw_addL, run_need, run_pure, List.length_map, List.length_map, ← List.map_append]
  exact ⟨lineN (by omega), hk⟩
end

end Tr

namespace Tr
open PySem PySem.Spec L2
variable [ProtC]
section
variable {T : Tb} {F F' : Int → List (List Int)} {s g : Int}
inductive Lang (T : Tb) (F : Int → List (List Int)) : Int → Int → List Int → Prop
  | nil (x : Int) : Lang T F x x []
  | cons {k x y v : Int} {α β : List Int} : (k, (x, y)) ∈ T → α ∈ F k → Lang T F y v β → Lang T F x v (α ++ β)
theorem Lang.app {x y z : Int} {α β : List Int} (h : Lang T F x y α) (h' : Lang T F y z β) : Lang T F x z (α ++ β) := by
  induction h with
  | nil x => exact h'
  | cons h1 h2 _ ih => rw [List.append_assoc]; exact .cons h1 h2 (ih h')
structure WI (T : Tb) (F : Int → List (List Int)) : Prop where
  nd : (kyT T).Nodup
  ne : ∀ k ∈ kyT T, ∀ α ∈ F k, α ≠ []
  dis : ∀ k ∈ kyT T, ∀ k' ∈ kyT T, k ≠ k' → ∀ α ∈ F k, ∀ β ∈ F k', ∀ x ∈ α, x ∉ β
  wn : ∀ k ∈ kyT T, (F k).Nodup
def catL (A B : List (List Int)) : List (List Int) := A.flatMap fun α => B.map fun β => α ++ β
theorem cat_len {A B : List (List Int)} : (catL A B).length = A.length * B.length := by
  unfold catL
  induction A with
  | nil => simp
  | cons x A ih => rw [List.flatMap_cons, List.length_append, ih, List.length_map, List.length_cons, Nat.add_mul]; omega
theorem cat_mem {A B : List (List Int)} {y : List Int} : y ∈ catL A B ↔ ∃ α ∈ A, ∃ β ∈ B, y = α ++ β := by
  unfold catL
  rw [List.mem_flatMap]
  constructor
  · rintro ⟨α, h1, h2⟩
    obtain ⟨β, h3, rfl⟩ := List.mem_map.mp h2
    exact ⟨α, h1, β, h3, rfl⟩
  · rintro ⟨α, h1, β, h3, rfl⟩
    exact ⟨α, h1, List.mem_map.mpr ⟨β, h3, rfl⟩⟩
open Classical in
theorem cat_nodup {A B : List (List Int)} (ha : A.Nodup) (hb : B.Nodup) (d : ∀ α ∈ A, ∀ β ∈ B, ∀ x ∈ α, x ∉ β) : (catL A B).Nodup := by
  let p : Int → Bool := fun x => decide (∃ α ∈ A, x ∈ α)
  have f1 : ∀ α ∈ A, ∀ β ∈ B, (α ++ β).filter p = α := fun α h1 β h2 => by
    rw [List.filter_append, List.filter_eq_self.mpr fun x hx => decide_eq_true ⟨α, h1, hx⟩, List.filter_eq_nil_iff.mpr, List.append_nil]
    intro x hx z
    obtain ⟨α', h3, h4⟩ := of_decide_eq_true z
    exact d α' h3 β h2 x h4 hx
  unfold catL
  rw [List.Nodup, List.pairwise_flatMap]
  constructor
  · intro α _
    rw [List.pairwise_map]
    exact hb.imp fun {x y} ne e => ne (List.append_cancel_left e)
  · refine ha.imp_of_mem fun {α α'} h1 h2 ne y hy y' hy' e => ne ?_
    obtain ⟨β, h3, rfl⟩ := List.mem_map.mp hy
    obtain ⟨β', h4, rfl⟩ := List.mem_map.mp hy'
    rw [← f1 α h1 β h3, ← f1 α' h2 β' h4, e]
def nxF (F : Int → List (List Int)) (x : Stp) : Int → List (List Int) := fun k => if k = x.2.1 then (if x.1 then catL (F x.2.1) (F x.2.2) else F x.2.1 ++ F x.2.2) else F k
theorem key_lk {T : Tb} {i : Int} {e : Rdx.Ed} (h : T.lookup i = some e) : i ∈ kyT T := List.mem_map.mpr ⟨_, lkT_mem h, rfl⟩
theorem nx_mem {x : Stp} {k : Int} {α : List Int} (h : α ∈ nxF F x k) : (k = x.2.1 ∧ ((x.1 = false ∧ (α ∈ F x.2.1 ∨ α ∈ F x.2.2)) ∨ (x.1 = true ∧ ∃ α1 ∈ F x.2.1, ∃ α2 ∈ F x.2.2, α = α1 ++ α2))) ∨ (k ≠ x.2.1 ∧ α ∈ F k) := by
  unfold nxF at h
  by_cases c : k = x.2.1
  · rw [if_pos c] at h
    left
    refine ⟨c, ?_⟩
    cases hb : x.1 with
    | true =>
      rw [hb, if_pos rfl] at h
      exact .inr ⟨rfl, cat_mem.mp h⟩
    | false =>
      rw [hb, if_neg (by simp)] at h
      exact .inl ⟨rfl, List.mem_append.mp h⟩
  · rw [if_neg c] at h
    exact .inr ⟨c, h⟩
theorem aft_key {x : Stp} {k : Int} (h : k ∈ kyT (aftT T x)) : k ∈ kyT T ∧ k ≠ x.2.2 := by
  have d : ∀ {k : Int}, k ∈ kyT (dropT T x.2.2) → k ∈ kyT T ∧ k ≠ x.2.2 := fun {k} h => by
    obtain ⟨p, hp, rfl⟩ := List.mem_map.mp h
    obtain ⟨h1, h2⟩ := List.mem_filter.mp hp
    exact ⟨List.mem_map.mpr ⟨p, h1, rfl⟩, of_decide_eq_true h2⟩
  unfold aftT at h
  split at h
  · rw [set_ky] at h; exact d h
  · exact d h
theorem WI.step {x : Stp} (w : WI T F) (hx : MayT T s g x) : WI (aftT T x) (nxF F x) := by
  obtain ⟨⟨e, f, hi, hj, ij⟩, _⟩ := may_st w.nd hx
  have ki := key_lk hi
  have kj := key_lk hj
  -- where a letter of a new word comes from
  have org : ∀ k ∈ kyT T, k ≠ x.2.2 → ∀ α ∈ nxF F x k, ∀ z ∈ α, ∃ k0 ∈ kyT T, (k0 = k ∨ (k = x.2.1 ∧ k0 = x.2.2)) ∧ ∃ α0 ∈ F k0, z ∈ α0 := fun k hk kj' α hα z hz => by
    rcases nx_mem hα with ⟨rfl, ⟨_, h | h⟩ | ⟨_, α1, h1, α2, h2, rfl⟩⟩ | ⟨_, h⟩
    · exact ⟨_, hk, .inl rfl, α, h, hz⟩
    · exact ⟨_, kj, .inr ⟨rfl, rfl⟩, α, h, hz⟩
    · rcases List.mem_append.mp hz with hz | hz
      · exact ⟨_, hk, .inl rfl, α1, h1, hz⟩
      · exact ⟨_, kj, .inr ⟨rfl, rfl⟩, α2, h2, hz⟩
    · exact ⟨_, hk, .inl rfl, α, h, hz⟩
  refine ⟨aft_nd w.nd x, fun k hk α hα => ?_, fun k hk k' hk' ne α hα β hβ z hz hz' => ?_, fun k hk => ?_⟩
  · obtain ⟨h1, h2⟩ := aft_key hk
    rcases nx_mem hα with ⟨rfl, ⟨_, h | h⟩ | ⟨_, α1, q1, α2, q2, rfl⟩⟩ | ⟨_, h⟩
    · exact w.ne _ h1 _ h
    · exact w.ne _ kj _ h
    · intro z
      exact w.ne _ h1 _ q1 (List.append_eq_nil_iff.mp z).1
    · exact w.ne _ h1 _ h
  · obtain ⟨h1, h2⟩ := aft_key hk
    obtain ⟨h1', h2'⟩ := aft_key hk'
    obtain ⟨k0, m0, c0, α0, a0, b0⟩ := org k h1 h2 α hα z hz
    obtain ⟨k1, m1, c1, α1, a1, b1⟩ := org k' h1' h2' β hβ z hz'
    have n01 : k0 ≠ k1 := fun e0 => by
      rcases c0 with rfl | ⟨rfl, rfl⟩
      · rcases c1 with rfl | ⟨rfl, rfl⟩
        · exact ne e0
        · exact h2 e0
      · rcases c1 with rfl | ⟨rfl, rfl⟩
        · exact h2' e0.symm
        · exact ne rfl
    exact w.dis k0 m0 k1 m1 n01 α0 a0 α1 a1 z b0 b1
  · obtain ⟨h1, h2⟩ := aft_key hk
    unfold nxF
    by_cases c : k = x.2.1
    · rw [if_pos c]
      split
      · exact cat_nodup (w.wn _ ki) (w.wn _ kj) fun α hα β hβ => w.dis _ ki _ kj ij α hα β hβ
      · refine List.nodup_append.mpr ⟨w.wn _ ki, w.wn _ kj, fun α hα β hβ e => ?_⟩
        subst e
        obtain ⟨z, hz⟩ := List.exists_mem_of_ne_nil _ (w.ne _ ki _ hα)
        exact w.dis _ ki _ kj ij _ hα _ hβ z hz hz
    · rw [if_neg c]
      exact w.wn _ h1
theorem lang_step {x : Stp} (nd : (kyT T).Nodup) (hx : MayT T s g x) {y : List Int} : Lang (aftT T x) (nxF F x) s g y ↔ Lang T F s g y := by
  obtain ⟨bb, i, j⟩ := x
  cases bb with
  | false =>
    have h : SideT T i j := hx
    obtain ⟨ij, e, hi, hj⟩ := h
    have ne : i ≠ j := by omega
    have eT : aftT T (false, i, j) = dropT T j := rfl
    have mD : ∀ {p : Int × Rdx.Ed}, p ∈ dropT T j ↔ p ∈ T ∧ p.1 ≠ j := fun {p} => by
      unfold dropT
      rw [List.mem_filter, decide_eq_true_eq]
    rw [eT]
    clear hx
    constructor
    · intro h
      induction h with
      | nil x => exact .nil x
      | @cons k x y v α β h1 h2 _ ih =>
        obtain ⟨m1, m2⟩ := mD.mp h1
        rcases nx_mem h2 with ⟨e0, ⟨_, h | h⟩ | ⟨z, _⟩⟩ | ⟨_, h⟩
        · have e0 : k = i := e0
          rw [e0] at m1
          exact .cons m1 h ih
        · have e0 : k = i := e0
          rw [e0] at m1
          have q : T.lookup i = some (x, y) := memT_lk nd m1
          rw [hi] at q
          cases q
          exact .cons (lkT_mem hj) h ih
        · cases z
        · exact .cons m1 h ih
    · intro h
      have mi : ∀ {α}, (α ∈ F i ∨ α ∈ F j) → α ∈ nxF F (false, i, j) i := fun {α} h => by
        unfold nxF
        rw [if_pos rfl, if_neg (by simp)]
        exact List.mem_append.mpr h
      induction h with
      | nil x => exact .nil x
      | @cons k x y v α β h1 h2 _ ih =>
        by_cases c : k = j
        · subst c
          have q := memT_lk nd h1
          rw [hj] at q
          cases q
          exact .cons (mD.mpr ⟨lkT_mem hi, ne⟩) (mi (.inr h2)) ih
        · refine .cons (mD.mpr ⟨h1, c⟩) ?_ ih
          by_cases c2 : k = i
          · subst c2; exact mi (.inl h2)
          · unfold nxF; rw [if_neg c2]; exact h2
  | true =>
    have h : RowT T s g i j := hx
    obtain ⟨a, v, b, hi, hj, ne, hs, hg, hO, hI⟩ := h
    have ha : a ≠ v := fun z => ne (hO _ (lkT_mem hi) z)
    have hb : b ≠ v := fun z => ne (hI _ (lkT_mem hj) z).symm
    have eT : aftT T (true, i, j) = setT (dropT T j) i (a, b) := by
      unfold aftT
      rw [if_pos rfl]
      show setT (dropT T j) i (((T.lookup i).getD (0, 0)).1, ((T.lookup j).getD (0, 0)).2) = _
      rw [hi, hj]
      rfl
    have mS : ∀ {p : Int × Rdx.Ed}, p ∈ setT (dropT T j) i (a, b) ↔ (p = (i, (a, b))) ∨ (p ∈ T ∧ p.1 ≠ j ∧ p.1 ≠ i) := fun {p} => by
      unfold setT dropT
      rw [List.mem_map]
      constructor
      · rintro ⟨q, hq, rfl⟩
        obtain ⟨q1, q2⟩ := List.mem_filter.mp hq
        by_cases c : q.1 = i
        · rw [if_pos c, c]; exact .inl rfl
        · rw [if_neg c]; exact .inr ⟨q1, of_decide_eq_true q2, c⟩
      · rintro (rfl | ⟨q1, q2, q3⟩)
        · exact ⟨(i, (a, v)), List.mem_filter.mpr ⟨lkT_mem hi, decide_eq_true ne⟩, if_pos rfl⟩
        · exact ⟨p, List.mem_filter.mpr ⟨q1, decide_eq_true q2⟩, if_neg q3⟩
    rw [eT]
    have mi : ∀ {α}, α ∈ nxF F (true, i, j) i ↔ ∃ α1 ∈ F i, ∃ α2 ∈ F j, α = α1 ++ α2 := fun {α} => by
      unfold nxF
      rw [if_pos rfl, if_pos rfl]
      exact cat_mem
    clear hx
    have back : ∀ {x u : Int} {y : List Int}, Lang (setT (dropT T j) i (a, b)) (nxF F (true, i, j)) x u y → Lang T F x u y := fun {x u y} h => by
      induction h with
      | nil x => exact .nil x
      | @cons k x y u α β h1 h2 _ ih =>
        rcases mS.mp h1 with e | ⟨m1, m2, m3⟩
        · cases e
          obtain ⟨α1, q1, α2, q2, rfl⟩ := mi.mp h2
          rw [List.append_assoc]
          exact .cons (lkT_mem hi) q1 (.cons (lkT_mem hj) q2 ih)
        · have m3 : k ≠ i := m3
          unfold nxF at h2
          rw [if_neg m3] at h2
          exact .cons m1 h2 ih
    constructor
    · exact back
    · have key : ∀ {x u : Int} {y : List Int}, Lang T F x u y → u ≠ v → (x ≠ v → Lang (setT (dropT T j) i (a, b)) (nxF F (true, i, j)) x u y) ∧ (x = v → ∃ α2 ∈ F j, ∃ β, y = α2 ++ β ∧ Lang (setT (dropT T j) i (a, b)) (nxF F (true, i, j)) b u β) := fun {x u y} h hu => by
        induction h with
        | nil x => exact ⟨fun _ => .nil x, fun z => absurd z hu⟩
        | @cons k x y u α β h1 h2 _ ih =>
          obtain ⟨ih1, ih2⟩ := ih hu
          constructor
          · intro xv
            have kj : k ≠ j := fun z => by
              subst z
              have q := memT_lk nd h1
              rw [hj] at q
              cases q
              exact xv rfl
            by_cases yv : y = v
            · have ki : k = i := hI _ h1 yv
              subst ki
              have q := memT_lk nd h1
              rw [hi] at q
              cases q
              obtain ⟨α2, q2, β', rfl, q3⟩ := ih2 yv
              rw [← List.append_assoc]
              exact .cons (mS.mpr (.inl rfl)) (mi.mpr ⟨α, h2, α2, q2, rfl⟩) q3
            · have ki : k ≠ i := fun z => by
                subst z
                have q := memT_lk nd h1
                rw [hi] at q
                cases q
                exact yv rfl
              refine .cons (mS.mpr (.inr ⟨h1, kj, ki⟩)) ?_ (ih1 yv)
              unfold nxF
              rw [if_neg ki]
              exact h2
          · intro xv
            have kj : k = j := hO _ h1 xv
            subst kj
            have q := memT_lk nd h1
            rw [hj] at q
            cases q
            exact ⟨α, h2, β, rfl, ih1 hb⟩
      intro h
      exact (key h (Ne.symm hg)).1 (Ne.symm hs)
theorem lang_end {k x y : Int} (sg : s ≠ g) (h : ∃ u, Lang [(k, (x, y))] F s g u) {u : List Int} : Lang [(k, (x, y))] F s g u ↔ u ∈ F k := by
  have one : ∀ {p : Int × Rdx.Ed}, p ∈ [(k, (x, y))] → p = (k, (x, y)) := fun h => List.mem_singleton.mp h
  have ex : x = s ∧ y = g := by
    obtain ⟨u, h⟩ := h
    have key : ∀ {z w : Int} {u : List Int}, Lang [(k, (x, y))] F z w u → z = w ∨ (z = x ∧ w = y) := fun {z w u} h => by
      induction h with
      | nil _ => exact .inl rfl
      | @cons k' x' y' w α β h1 _ _ ih =>
        cases one h1
        rcases ih with rfl | ⟨rfl, rfl⟩
        · exact .inr ⟨rfl, rfl⟩
        · exact .inr ⟨rfl, rfl⟩
    rcases key h with z | ⟨z1, z2⟩
    · exact absurd z sg
    · exact ⟨z1.symm, z2.symm⟩
  obtain ⟨rfl, rfl⟩ := ex
  constructor
  · intro h
    cases h with
    | nil => exact absurd rfl sg
    | @cons k' x' y' w α β h1 h2 h3 =>
      cases one h1
      cases h3 with
      | nil => rw [List.append_nil]; exact h2
      | @cons k2 x2 y2 w2 α2 β2 g1 _ _ =>
        have := one g1
        exact absurd (congrArg (fun p : Int × Rdx.Ed => p.2.1) this).symm sg
  · intro h
    have := Lang.cons (T := [(k, (x, y))]) (F := F) (k := k) (x := x) (y := y) (List.mem_singleton.mpr rfl) h (.nil y)
    rwa [List.append_nil] at this
end

end Tr

namespace Tr
open PySem PySem.Spec L2
variable [ProtC]
section
variable {E : List Rdx.Ed} {s g : Int} {n : Nat} {T : Tb} {F : Int → List (List Int)}
def F0 : Int → List (List Int) := fun k => [[k]]
theorem wi0 {W : List (List Int)} : WI (tabW E W) F0 := by
  refine ⟨tab_nd, fun k _ α hα z => ?_, fun k _ k' _ ne α hα β hβ x hx hx' => ?_, fun k _ => ?_⟩
  · have hα : α ∈ [[k]] := hα
    rw [List.mem_singleton.mp hα] at z
    cases z
  · have hα : α ∈ [[k]] := hα
    have hβ : β ∈ [[k']] := hβ
    rw [List.mem_singleton.mp hα] at hx
    rw [List.mem_singleton.mp hβ] at hx'
    rw [List.mem_singleton.mp hx] at hx'
    exact ne (List.mem_singleton.mp hx')
  · show ([[k]] : List (List Int)).Nodup
    simp
structure Wk (E : List Rdx.Ed) (T : Tb) (y ns : List Int) : Prop where
  len : ns.length = y.length + 1
  s : ∀ i, i < y.length → srcE E (y.getD i 0) = ns.getD i 0
  t : ∀ i, i < y.length → Gm.tgt E (y.getD i 0) = ns.getD (i + 1) 0
  m : ∀ x ∈ y, (x, (srcE E x, Gm.tgt E x)) ∈ T
theorem Wk.seg {y ns : List Int} (h : Wk E T y ns) : ∀ d p, p + d ≤ y.length → Lang T F0 (ns.getD p 0) (ns.getD (p + d) 0) ((y.drop p).take d) := by
  intro d
  induction d with
  | zero => intro p _; rw [List.take_zero]; exact .nil _
  | succ d ih =>
    intro p hp
    have hl : p < y.length := by omega
    have e : y.drop p = y.getD p 0 :: y.drop (p + 1) := by
      rw [List.drop_eq_getElem_cons hl]
      simp [hl]
    rw [e, List.take_succ_cons]
    have q := ih (p + 1) (by omega)
    have hx : y.getD p 0 ∈ y := by
      rw [List.getD_eq_getElem?_getD, List.getElem?_eq_getElem hl]
      exact List.getElem_mem _
    have hm := h.m _ hx
    rw [h.s p hl, h.t p hl] at hm
    rw [show p + (d + 1) = p + 1 + d by omega]
    exact Lang.cons (α := [y.getD p 0]) hm (by show _ ∈ [[_]]; simp) q
theorem t0_mem {W : List (List Int)} {k : Int} {e : Rdx.Ed} (h : (k, e) ∈ tabW E W) : e = (srcE E k, Gm.tgt E k) ∧ ∃ y ∈ W, k ∈ y := by
  obtain ⟨i, hi, e1⟩ := List.mem_map.mp h
  cases e1
  exact ⟨rfl, List.mem_flatten.mp ((ded_spec.2 _).mp hi)⟩
theorem lang_wk {W : List (List Int)} {x v : Int} {y : List Int} (h : Lang (tabW E W) F0 x v y) : ∃ ns, Wk E (tabW E W) y ns ∧ ns.getD 0 0 = x ∧ ns.getD y.length 0 = v := by
  induction h with
  | nil x => exact ⟨[x], ⟨rfl, fun i hi => absurd hi (by simp), fun i hi => absurd hi (by simp), fun x hx => by cases hx⟩, rfl, rfl⟩
  | @cons k x y1 v α β h1 h2 _ ih =>
    obtain ⟨ns, w, n0, nl⟩ := ih
    have h2 : α ∈ [[k]] := h2
    rw [List.mem_singleton.mp h2]
    obtain ⟨e, hk⟩ := t0_mem h1
    have ex := congrArg Prod.fst e
    have ey := congrArg Prod.snd e
    have ex : x = srcE E k := ex
    have ey : y1 = Gm.tgt E k := ey
    refine ⟨x :: ns, ⟨by simp [w.len], fun i hi => ?_, fun i hi => ?_, fun z hz => ?_⟩, rfl, ?_⟩
    · cases i with
      | zero => exact ex.symm
      | succ i =>
        have := w.s i (by simpa using hi)
        simpa using this
    · cases i with
      | zero =>
        have : Gm.tgt E k = ns.getD 0 0 := by rw [n0, ey]
        simpa using this
      | succ i =>
        have := w.t i (by simpa using hi)
        simpa using this
    · rcases List.mem_cons.mp hz with rfl | hz
      · rw [← e]; exact h1
      · exact w.m z hz
    · have : ([k] ++ β).length = β.length + 1 := by simp
      rw [this]
      simpa using nl
theorem isw_wk {y ns : List Int} (h : IsW E s g y ns) {W : List (List Int)} (hm : y ∈ W) : Wk E (tabW E W) y ns ∧ ns.getD 0 0 = s ∧ ns.getD y.length 0 = g := by
  have hl := h.len
  refine ⟨⟨hl, fun i hi => ?_, fun i hi => ?_, fun x hx => ?_⟩, ?_, ?_⟩
  · have := h.s hi
    rw [List.getD_eq_getElem?_getD, List.getElem?_eq_getElem hi, List.getD_eq_getElem?_getD, List.getElem?_eq_getElem (by omega)]
    exact this
  · have := h.t hi
    rw [List.getD_eq_getElem?_getD, List.getElem?_eq_getElem hi, List.getD_eq_getElem?_getD, List.getElem?_eq_getElem (by omega)]
    exact this
  · exact List.mem_map.mpr ⟨x, (ded_spec.2 x).mpr (List.mem_flatten.mpr ⟨y, hm, hx⟩), rfl⟩
  · have := h.hd
    rw [List.head?_eq_getElem?] at this
    rw [List.getD_eq_getElem?_getD, this]
    rfl
  · have := h.la
    rw [List.getLast?_eq_getElem?, hl] at this
    rw [List.getD_eq_getElem?_getD, show y.length = y.length + 1 - 1 by omega, this]
    rfl
theorem pump {z : Int} {α γ β : List Int} (h1 : Lang T F s z α) (h2 : Lang T F z z γ) (h3 : Lang T F z g β) (ne : γ ≠ []) : ∀ m : Nat, ∃ u, Lang T F s g u ∧ m ≤ u.length := by
  have key : ∀ m : Nat, ∃ u, Lang T F s z u ∧ m ≤ u.length := fun m => by
    induction m with
    | zero => exact ⟨α, h1, by omega⟩
    | succ m ih =>
      obtain ⟨u, hu, hl⟩ := ih
      refine ⟨u ++ γ, hu.app h2, ?_⟩
      have := List.length_pos_iff.mpr ne
      rw [List.length_append]
      omega
  intro m
  obtain ⟨u, hu, hl⟩ := key m
  exact ⟨u ++ β, hu.app h3, by rw [List.length_append]; omega⟩
theorem lang_ways (ha : 0 ≤ s ∧ s < n) (hE : ∀ e ∈ E, 0 ≤ e.2 ∧ e.2 < n) (sg : s ≠ g) (fin : ∃ B, ∀ u, Lang (tabW E (waysF E s g n)) F0 s g u → u.length ≤ B) {u : List Int} : Lang (tabW E (waysF E s g n)) F0 s g u ↔ u ∈ waysF E s g n := by
  constructor
  · intro h
    obtain ⟨ns, w, n0, nl⟩ := lang_wk h
    refine (way_iff ha hE).mpr ⟨ns, ?_, ?_, ?_, fun x hx => ?_, ?_, ?_, ?_⟩
    · rw [List.Nodup, List.pairwise_iff_getElem]
      intro i j hi hj hij e
      have hjl : j ≤ u.length := by have := w.len; omega
      have gi : ns.getD i 0 = ns[i] := by rw [List.getD_eq_getElem?_getD, List.getElem?_eq_getElem hi]; rfl
      have gj : ns.getD j 0 = ns[j] := by rw [List.getD_eq_getElem?_getD, List.getElem?_eq_getElem hj]; rfl
      have s1 := w.seg i 0 (by omega)
      have s2 := w.seg (j - i) i (by omega)
      have s3 := w.seg (u.length - j) j (by omega)
      rw [Nat.zero_add, n0] at s1
      rw [show i + (j - i) = j by omega] at s2
      rw [show j + (u.length - j) = u.length by omega, nl] at s3
      have ez : ns.getD j 0 = ns.getD i 0 := by rw [gi, gj, e]
      rw [ez] at s2 s3
      obtain ⟨B, hB⟩ := fin
      obtain ⟨u', hu', hl'⟩ := pump s1 s2 s3 (fun z => by
        have := congrArg List.length z
        rw [List.length_take, List.length_drop, List.length_nil] at this
        omega) (B + 1)
      have := hB u' hu'
      omega
    · have := w.len
      rw [List.head?_eq_getElem?, List.getElem?_eq_getElem (by omega)]
      rw [List.getD_eq_getElem?_getD, List.getElem?_eq_getElem (by omega)] at n0
      exact congrArg some n0
    · have hl := w.len
      rw [List.getLast?_eq_getElem?, hl, show u.length + 1 - 1 = u.length by omega, List.getElem?_eq_getElem (by omega)]
      rw [List.getD_eq_getElem?_getD, List.getElem?_eq_getElem (by omega)] at nl
      exact congrArg some nl
    · obtain ⟨_, y, hy, hxy⟩ := t0_mem (w.m x hx)
      obtain ⟨ns', h'⟩ := (way_iff ha hE).mp hy
      exact h'.rg x hxy
    · have hl := w.len
      apply List.ext_getElem?
      intro i
      rw [List.getElem?_map, List.getElem?_dropLast]
      by_cases c : i < u.length
      · have := w.s i c
        rw [if_pos (by omega), List.getElem?_eq_getElem c, List.getElem?_eq_getElem (by omega)]
        rw [List.getD_eq_getElem?_getD, List.getElem?_eq_getElem c, List.getD_eq_getElem?_getD, List.getElem?_eq_getElem (by omega)] at this
        exact congrArg some this
      · rw [if_neg (by omega), List.getElem?_eq_none (by omega)]
        rfl
    · have hl := w.len
      apply List.ext_getElem?
      intro i
      rw [List.getElem?_map, List.getElem?_tail]
      by_cases c : i < u.length
      · have := w.t i c
        rw [List.getElem?_eq_getElem c, List.getElem?_eq_getElem (by omega)]
        rw [List.getD_eq_getElem?_getD, List.getElem?_eq_getElem c, List.getD_eq_getElem?_getD, List.getElem?_eq_getElem (by omega)] at this
        exact congrArg some this
      · rw [List.getElem?_eq_none (by omega), List.getElem?_eq_none (by omega)]
        rfl
    · intro z
      subst z
      rw [show ([] : List Int).length = 0 from rfl, n0] at nl
      exact sg nl
  · intro hy
    obtain ⟨ns, h⟩ := (way_iff ha hE).mp hy
    obtain ⟨w, n0, nl⟩ := isw_wk h hy
    have := w.seg u.length 0 (by omega)
    rw [Nat.zero_add, n0, nl, List.drop_zero, List.take_length] at this
    exact this
theorem end_count (ha : 0 ≤ s ∧ s < n) (hE : ∀ e ∈ E, 0 ≤ e.2 ∧ e.2 < n) (sg : s ≠ g) (hw : waysF E s g n ≠ []) (wi : WI T F) (lg : ∀ u, Lang T F s g u ↔ Lang (tabW E (waysF E s g n)) F0 s g u) (h1 : T.length = 1) : ∃ k, kyT T = [k] ∧ (F k).length = (waysF E s g n).length := by
  obtain ⟨p, rfl⟩ : ∃ p, T = [p] := by
    cases T with
    | nil => cases h1
    | cons p r =>
      cases r with
      | nil => exact ⟨p, rfl⟩
      | cons q r => simp at h1
  obtain ⟨k, x, y⟩ := p
  refine ⟨k, rfl, ?_⟩
  have ex : ∃ u, Lang [(k, (x, y))] F s g u := by
    obtain ⟨u, hu⟩ := List.exists_mem_of_ne_nil _ hw
    obtain ⟨ns, h⟩ := (way_iff ha hE).mp hu
    obtain ⟨w, n0, nl⟩ := isw_wk h hu
    have := w.seg u.length 0 (by omega)
    rw [Nat.zero_add, n0, nl] at this
    exact ⟨_, (lg _).mpr this⟩
  have le : ∀ u, Lang [(k, (x, y))] F s g u ↔ u ∈ F k := fun u => lang_end sg ex
  have bd : ∃ B, ∀ u ∈ F k, u.length ≤ B := by
    generalize F k = L
    induction L with
    | nil => exact ⟨0, fun u h => by cases h⟩
    | cons z L ih =>
      obtain ⟨B, hB⟩ := ih
      refine ⟨B + z.length, fun u hu => ?_⟩
      rcases List.mem_cons.mp hu with rfl | hu
      · omega
      · have := hB u hu
        omega
  have lw := fun u => lang_ways (u := u) ha hE sg (by
    obtain ⟨B, hB⟩ := bd
    exact ⟨B, fun u hu => hB u ((le u).mp ((lg u).mpr hu))⟩)
  have nd : (waysF E s g n).Nodup := (srtW_perm.nodup_iff).mpr (all_nd ha hE n).1
  refine (nd_perm (wi.wn k (by simp [kyT])) nd fun u => ?_).length_eq
  rw [← le, lg, lw]
end

end Tr

namespace Tr
open PySem PySem.Spec L2
variable [ProtC]
section
open Lk
variable {w : Exn → Prop} {k : D → Prop} {F : Int → List (List Int)} {R : List Rd4} {a b : Int} {n : Nat}
theorem ded_nd : ∀ (ks s : List Int), (s ++ ks).Nodup → ks.foldl PyProof.Rows.step_dedup s = s ++ ks
  | [], s, _ => by simp
  | x :: ks, s, h => by
    rw [List.foldl_cons]
    have nx : x ∉ s := fun z => by
      have := (List.nodup_append.mp h).2.2 x z x (by simp)
      exact this rfl
    have e : PyProof.Rows.step_dedup s x = s ++ [x] := by
      unfold PyProof.Rows.step_dedup
      rw [if_neg]
      intro z
      obtain ⟨y, hy, e⟩ := List.any_eq_true.mp z
      rw [eq_of_beq e] at hy
      exact nx hy
    rw [e, ded_nd ks (s ++ [x]) (by rw [List.append_assoc]; exact h), List.append_assoc]
    rfl
theorem dedI_nd {ks : List Int} (h : ks.Nodup) : dedI ks = ks := by
  unfold dedI
  rw [ded_nd ks [] (by simpa using h)]
  rfl
theorem dictI_run {f : DF} {δ : De} {ks : List Int} {v : Int → D} (nd : ks.Nodup) (hf : ∀ kd : D → Prop, kd (.list (ks.map fun x => PyData.tuple [.int x, v x])) → (f δ).run kd w) (hk : k (.dict ((ks.map fun x => (x, v x)).map enI))) : (dDictI f δ).run k w := by
  unfold dDictI nDictI
  rw [run_bind, run_bind]
  refine hf _ ?_
  have ls : lstD (.list (ks.map fun x => PyData.tuple [.int x, v x])) = .pure (ks.map fun x => PyData.tuple [.int x, v x]) := rfl
  have pr : pairsI (ks.map fun x => (PyData.tuple [.int x, v x] : D)) = true := by
    clear nd hf hk ls
    induction ks with
    | nil => rfl
    | cons p L ih => exact ih
  have ed := dctI_ded v ks
  rw [dedI_nd nd] at ed
  simp only [ls, pr, ed, run_bind, run_pure, run_need, true_and]
  exact hk
def cnD (ms : List Int) (F : Int → List (List Int)) : D := .dict ((ms.map fun x => (x, (PyData.int ((F x).length : Int) : D))).map enI)
theorem lk_map {f : Int → D} {x : Int} : ∀ {ms : List Int}, x ∈ ms → (ms.map fun x => (x, f x)).lookup x = some (f x)
  | [], h => by cases h
  | y :: ms, h => by
    rw [List.map_cons, List.lookup_cons]
    by_cases c : x = y
    · subst c
      simp
    · have c' : (x == y) = false := by simpa using c
      rw [c']
      exact lk_map ((List.mem_cons.mp h).resolve_left c)
theorem cn_ix {ms : List Int} {x : Int} (h : x ∈ ms) : dIxI (cnD ms F) (.int x) = .need True (.pure (.int ((F x).length : Int))) := by
  unfold dIxI cnD
  simp only [allInt_en, intsOf_en, lk_map h, optW_some]
theorem cn_list {ms : List Int} : bListI [cnD ms F] = .need True (.pure (.list (ms.map .int))) := by
  have e : (((ms.map fun x => (x, (PyData.int ((F x).length : Int) : D))).map enI).map (·.1)) = ms.map .int := by
    rw [List.map_map, List.map_map]
    rfl
  show (Wp.need (allInt ((ms.map fun x => (x, (PyData.int ((F x).length : Int) : D))).map enI) = true) (.pure (.list (((ms.map fun x => (x, (PyData.int ((F x).length : Int) : D))).map enI).map (·.1)))) : Wp D) = _
  rw [e]
  simp only [allInt_en]
theorem cn_nx {x : Stp} {y : Int} : ((nxF F x y).length : Int) = if y = x.2.1 then (if x.1 then ((F x.2.1).length : Int) * ((F x.2.2).length : Int) else ((F x.2.1).length : Int) + ((F x.2.2).length : Int)) else ((F y).length : Int) := by
  unfold nxF
  by_cases c : y = x.2.1
  · rw [if_pos c, if_pos c]
    split
    · rw [cat_len, Int.natCast_mul]
    · rw [List.length_append, Int.natCast_add]
  · rw [if_neg c, if_neg c]
theorem fewx_run (ha : 0 ≤ a ∧ a < n) (hE : ∀ x ∈ R, 0 ≤ x.2.1 ∧ x.2.1 < n) (hm : R.length ≤ 10) (hN : n ≤ 6) (yes : (waysF (R.map en4) a b n).length ≤ 20 → k (.list ((waysF (R.map en4) a b n).map tupI)))
    (no : 20 < (waysF (R.map en4) a b n).length → w ⟨"TooMany", some ("most", .int 20)⟩) : (f_few_ways [.d (netD (n : Int) R), .d (.int a), .d (.int b)]).run k w := by
  unfold f_few_ways
  rw [rw_dRun, run_bind]
  have e0 : dStart 4 [Ar.d (netD (n : Int) R), .d (.int a), .d (.int b)] = [.p (netD (n : Int) R), .p (.int a), .p (.int b), .non] := rfl
  rw [e0]
  unfold b_few_ways
  refine seqM' (fun δ => δ = [.p (netD (n : Int) R), .p (.int a), .p (.int b), .p (.list ((waysF (R.map en4) a b n).map tupI))]) ?_ ?_
  · simp only [rw_set, rw_call, rw_aCons, rw_aNil, rw_dV, List.getElem?_cons_succ, List.getElem?_cons_zero, slotP_p, pure_bind, run_bind, run_pure, run_need, List.length_cons, List.length_nil, true_and]
    exact allways_run (N := n) ha hE hm hN rfl
  rintro _ rfl
  generalize waysF (R.map en4) a b n = W at *
  have bl : bLen [.list (W.map tupI)] = .pure (.int (W.length : Int)) := by rw [rw_lenL, List.length_map]
  refine seqM' (fun δ => W.length ≤ 20 ∧ δ = [.p (netD (n : Int) R), .p (.int a), .p (.int b), .p (.list (W.map tupI))]) ?_ ?_
  · simp only [rw_if, rw_tBv, rw_d2, rw_dCB, rw_aCons, rw_aNil, rw_dC, rw_dV, List.getElem?_cons_succ, List.getElem?_cons_zero, slotP_p, pure_bind, rw_allD1, rw_allD0, bl, dGt, rw_int2, run_bind, run_pure, run_need, rw_asB, true_and]
    by_cases c : (20 : Int) < (W.length : Int)
    · rw [show decide ((W.length : Int) > 20) = true from decide_eq_true c, if_pos rfl]
      simp only [rw_sRaiseF, rw_dC, pure_bind]
      exact no (by omega)
    · rw [show decide ((W.length : Int) > 20) = false from decide_eq_false c, if_neg (by simp)]
      exact ⟨by omega, rfl⟩
  rintro _ ⟨h20, rfl⟩
  simp only [rw_ret, rw_dV, List.getElem?_cons_succ, List.getElem?_cons_zero, slotP_p, pure_bind, run_bind, run_pure]
  exact yes h20
theorem waysx_run (h : RNet n R a b) (yes : (waysF (R.map en4) a b n).length ≤ 20 → k (.tuple ((waysF (R.map en4) a b n).map tupI)))
    (no : 20 < (waysF (R.map en4) a b n).length → w ⟨"TooMany", some ("most", .int 20)⟩) : (f_ways [.d (netD (n : Int) R), .d (.int a), .d (.int b)]).run k w := by
  have a0 := h.a0
  have b0 := h.b0
  unfold f_ways
  rw [rw_dRun, run_bind]
  have e0 : dStart 3 [Ar.d (netD (n : Int) R), .d (.int a), .d (.int b)] = [.p (netD (n : Int) R), .p (.int a), .p (.int b)] := rfl
  rw [e0]
  unfold b_ways
  refine seqM (fun δ => δ = [.p (netD (n : Int) R), .p (.int a), .p (.int b)]) ?_ ?_
  · simp
    exact neednet_run h.ok trivial
  rintro _ rfl
  refine seqM (fun δ => δ = [.p (netD (n : Int) R), .p (.int a), .p (.int b)]) ?_ ?_
  · simp
    simp [f_need_nodes, b_need_nodes, dStart, arSl, netD]
    refine isin_yes a0.1 (by omega) ?_
    simp
    refine isin_yes b0.1 (by omega) ?_
    simp [h.ne]
  rintro _ rfl
  rw [rw_ret, run_bind]
  simp only [rw_dCB, rw_call, rw_aCons, rw_aNil, rw_dV, List.getElem?_cons_succ, List.getElem?_cons_zero, slotP_p, pure_bind, run_bind, run_pure, run_need, List.length_cons, List.length_nil, true_and]
  refine fewx_run a0 h.tg h.ok.r0.2 h.n6 (fun q => ?_) no
  simp only [pure_bind, rw_allD1, rw_allD0, rw_tupL, run_pure]
  exact yes q
end

end Tr

namespace Tr
open PySem PySem.Spec L2
variable [ProtC]
section
variable {w : Exn → Prop}
theorem used_run {δ : De} {i j : Nat} {l : List (List Int)} {ko : Out → Prop} {s0 : Sl} (hj : δ[j]? = some (.p (.list []))) (hi : δ[i]? = some s0) (nij : i ≠ j) (h6 : ∀ y ∈ l, y.length ≤ 5) (h20 : l.length ≤ 780)
    (hk : ∀ s : Sl, ko (.nx ((δ.set i s).set j (.p (.list (l.flatten.map .int)))))) :
    (sLoop (bName i) (sSet j (d2 dAdd (dV j) (dCB bList (aCons (dV i) aNil)))) (l.map tupI) δ).run ko w := by
  have li : i < δ.length := (List.getElem?_eq_some_iff.mp hi).1
  have lj : j < δ.length := (List.getElem?_eq_some_iff.mp hj).1
  have flen : ∀ m : List (List Int), (∀ y ∈ m, y.length ≤ 5) → m.flatten.length ≤ m.length * 5 := fun m => by
    induction m with
    | nil => intro _; simp
    | cons y m ih =>
      intro h
      rw [List.flatten_cons, List.length_append, List.length_cons]
      have a := h y (by simp)
      have b := ih fun z hz => h z (by simp [hz])
      omega
  refine loop_pre (xs := l) (fun pre δ' => ∃ s : Sl, δ' = (δ.set i s).set j (.p (.list (pre.flatten.map .int)))) ⟨s0, ?_⟩ ?_ ?_
  · apply List.ext_getElem?
    intro k
    by_cases c : k = j
    · subst c
      rw [List.getElem?_set_self (by rw [List.length_set]; exact lj), hj]
      rfl
    · rw [List.getElem?_set_ne (fun z => c z.symm)]
      by_cases c2 : k = i
      · subst c2
        rw [List.getElem?_set_self li, hi]
      · rw [List.getElem?_set_ne (fun z => c2 z.symm)]
  · rintro pre y post δ' hxs ⟨s, rfl⟩
    refine ⟨_, rfl, ?_⟩
    obtain ⟨Y, hY⟩ : ∃ Y : De, Y = ((δ.set i s).set j (.p (.list (pre.flatten.map .int)))).set i (.p (tupI y)) := ⟨_, rfl⟩
    rw [← hY]
    have gi : Y[i]? = some (.p (tupI y)) := by rw [hY, List.getElem?_set_self (by rw [List.length_set, List.length_set]; exact li)]
    have gj : Y[j]? = some (.p (.list (pre.flatten.map .int))) := by rw [hY, List.getElem?_set_ne nij, List.getElem?_set_self (by rw [List.length_set]; exact lj)]
    have hpre : pre.flatten.length ≤ 3900 := by
      have a := flen pre fun z hz => h6 z (by rw [hxs]; simp [hz])
      have b : pre.length ≤ l.length := by rw [hxs]; simp
      omega
    have hy := h6 y (by rw [hxs]; simp)
    have tl : bList [tupI y] = .pure (.list (y.map .int)) := rfl
    simp only [rw_set, rw_d2, rw_dCB, rw_aCons, rw_aNil, rw_dV, gi, gj, slotP_p, pure_bind, rw_allD1, rw_allD0, tl, rw_addL, run_bind, run_need, run_pure, List.length_map]
    refine ⟨by first | exact lineN (by omega) | (rw [← List.length_append]; exact lineN (by simp; omega)), .p (tupI y), ?_⟩
    have ef : (pre ++ [y]).flatten.map PyData.int = pre.flatten.map PyData.int ++ y.map PyData.int := by simp
    rw [ef, hY]
    apply List.ext_getElem?
    intro k
    by_cases c : k = j
    · subst c
      rw [List.getElem?_set_self (by simp; exact lj), List.getElem?_set_self (by simp; exact lj)]
    · rw [List.getElem?_set_ne (fun z => c z.symm), List.getElem?_set_ne (fun z => c z.symm)]
      by_cases c2 : k = i
      · subst c2
        rw [List.getElem?_set_self (by simp; exact li), List.getElem?_set_self li]
      · rw [List.getElem?_set_ne (fun z => c2 z.symm), List.getElem?_set_ne (fun z => c z.symm), List.getElem?_set_ne (fun z => c2 z.symm), List.getElem?_set_ne (fun z => c2 z.symm)]
  · rintro δ' ⟨s, rfl⟩
    exact hk s
end

end Tr

namespace Tr
open PySem PySem.Spec L2 Lk
variable [ProtC]
theorem pw2 {t a b : Nat} (ha : a < 2 ^ (2 ^ t)) (hb : b < 2 ^ (2 ^ t)) : a * b < 2 ^ (2 ^ (t + 1)) ∧ a + b < 2 ^ (2 ^ (t + 1)) := by
  have e : 2 ^ (2 ^ (t + 1)) = 2 ^ (2 ^ t) * 2 ^ (2 ^ t) := by rw [← Nat.pow_add, Nat.pow_succ]; congr 1; omega
  have p : 1 ≤ 2 ^ t := Nat.one_le_two_pow
  have p2 : 2 ≤ 2 ^ (2 ^ t) := by
    have := Nat.pow_le_pow_right (n := 2) (by omega) p
    omega
  rw [e]
  constructor
  · exact Nat.mul_lt_mul'' ha hb
  · have := Nat.mul_le_mul_right (2 ^ (2 ^ t)) p2
    omega
theorem law_true (C : Cs) (a : Addr) (ns : List Int) (hz : (a, ns) ∈ C.Z) (hn : ns.length ≤ 63) (hb : ∀ z ∈ ns, Builtin.Int.intBits z ≤ 1048576) : (f_law C [.v (.ref a)]).run (fun d => d = .bool true) (fun _ => False) := by
  show ((b_law C (dStart 19 [.v (.ref a)])).bind _).run _ _
  rw [run_bind]
  unfold b_law
  refine seqM' (fun δ => ∃ r, δ = [.v (.ref a), .t r (RowP r a), .non, .non, .non, .non, .non, .non, .non, .non, .non, .non, .non, .non, .non, .non, .non, .non, .non]) ?_ ?_
  · simp [dStart, arSl]
  rintro _ ⟨r, rfl⟩
  have hr : RO C r (RowP r a) := ⟨(a, ns), hz, rfl, hn⟩
  refine seqM' (fun δ => ∃ (n : Nat) (R : List Rd4), NetL n R ∧ δ = [.v (.ref a), .t r (RowP r a), .p (netD (n : Int) R), .p (.int 1), .non, .non, .non, .non, .non, .non, .non, .non, .non, .non, .non, .non, .non, .non, .non]) ?_ ?_
  · rw [rw_asg, run_bind, rw_dTup, run_bind]
    simp only [rw_call, rw_aTrk, rw_aCons, rw_aNil, rw_dC, List.getElem?_cons_succ, List.getElem?_cons_zero, slotT_t, pure_bind, run_bind, run_pure, run_need, List.length_cons, List.length_nil, true_and]
    refine lnet_run hr fun n R hN => ?_
    simp only [rw_allD1, rw_allD0, pure_bind, run_bind, run_pure, run_need, List.length_cons, List.length_nil]
    exact ⟨lineN (by decide), n, R, hN, rfl⟩
  rintro _ ⟨n, R, hN, rfl⟩
  have hn2 := hN.n2
  refine seqM' (fun δ => ∃ (n : Nat) (R : List Rd4) (g : Int) (s4 s5 s6 s7 s8 : Sl), NetOk (n : Int) R ∧ 2 ≤ n ∧ n ≤ 6 ∧ 1 ≤ g ∧ g < n ∧ δ = [.v (.ref a), .t r (RowP r a), .p (netD (n : Int) R), .p (.int g), s4, s5, s6, s7, s8, .non, .non, .non, .non, .non, .non, .non, .non, .non, .non]) ?_ ?_
  · rw [rw_if, run_bind, rw_tBv, run_bind, rw_d2, run_bind]
    simp only [rw_call, rw_aTrk, rw_aCons, rw_aNil, rw_dC, List.getElem?_cons_succ, List.getElem?_cons_zero, slotT_t, pure_bind, run_bind, run_pure, run_need, List.length_cons, List.length_nil, true_and]
    refine taken_run hr (by decide) (by decide) fun z z0 z1 => ?_
    simp only [dGt, rw_int2, run_need, run_pure, rw_asB, true_and]
    by_cases c : z > 0
    · rw [decide_eq_true c, if_pos rfl]
      obtain ⟨N0, hN0⟩ : ∃ N0 : D, N0 = netD (n : Int) R := ⟨_, rfl⟩
      rw [← hN0]
      refine seqM' (fun δ => δ = [.v (.ref a), .t r (RowP r a), .p N0, .p (.int 1), .p (endsD [(0, 1)]), .p (.int 2), .non, .non, .non, .non, .non, .non, .non, .non, .non, .non, .non, .non, .non]) ?_ ?_
      · rw [rw_asg, run_bind]
        simp only [rw_dLst, rw_dTup, rw_dV, rw_dC, rw_aCons, rw_aNil, List.getElem?_cons_succ, List.getElem?_cons_zero, slotP_p, pure_bind, rw_allD1, rw_allD0, run_bind, run_pure, run_need, List.length_cons, List.length_nil]
        exact ⟨lineN (by decide), lineN (by decide), lineN (by decide), rfl⟩
      rintro _ rfl
      refine seqM' (fun δ => ∃ (t : Nat) (z : Int) (E : List Rdx.Ed) (s6 s7 : Sl), EndsOk t z E ∧ t ≤ 8 ∧ δ = [.v (.ref a), .t r (RowP r a), .p N0, .p (.int 1), .p (endsD E), .p (.int z), s6, s7, .non, .non, .non, .non, .non, .non, .non, .non, .non, .non, .non]) ?_ ?_
      · rw [rw_for, run_bind, rw_rg1]
        simp only [rw_d2, rw_call, rw_aTrk, rw_aCons, rw_aNil, rw_dC, List.getElem?_cons_succ, List.getElem?_cons_zero, slotT_t, pure_bind, run_bind, run_pure, run_need, List.length_cons, List.length_nil, true_and]
        refine taken_run hr (by decide) (by decide) fun m m0 m1 => ?_
        simp only [rw_addI, rw_int2, run_need, rw_asI1, run_pure, true_and]
        refine ⟨lo62_le (by omega) (by omega), ?_⟩
        refine loop_inv (fun t δ => ∃ (z : Int) (E : List Rdx.Ed) (s6 s7 : Sl), EndsOk t z E ∧ t ≤ 8 ∧ δ = [.v (.ref a), .t r (RowP r a), .p N0, .p (.int 1), .p (endsD E), .p (.int z), s6, s7, .non, .non, .non, .non, .non, .non, .non, .non, .non, .non, .non]) ⟨2, [(0, 1)], _, _, ⟨by simp, by simp, by omega, fun e he => by rw [List.mem_singleton.mp he]; exact ⟨by decide, by decide, by decide⟩⟩, by omega, rfl⟩ ?_ ?_
        · rintro t δ d hd ⟨z, E, s6, s7, ok, t7, rfl⟩
          obtain ⟨ht, rfl⟩ := rgD_get hd
          refine ⟨_, rfl, ?_⟩
          have l0 := ok.l0
          have l1 := ok.l1
          have z0 := ok.z0
          have eL : bLen [endsD E] = .pure (.int (E.length : Int)) := by unfold endsD; rw [rw_lenL, List.length_map]
          show (sSeq _ _ [.v (.ref a), .t r (RowP r a), .p N0, .p (.int 1), .p (endsD E), .p (.int z), .p (.int (0 + (t : Int))), s7, .non, .non, .non, .non, .non, .non, .non, .non, .non, .non, .non]).run _ _
          refine seqM' (fun δ => ∃ i : Nat, i < E.length ∧ δ = [.v (.ref a), .t r (RowP r a), .p N0, .p (.int 1), .p (endsD E), .p (.int z), .p (.int (0 + (t : Int))), .p (.int (i : Int)), .non, .non, .non, .non, .non, .non, .non, .non, .non, .non, .non]) ?_ ?_
          · simp only [rw_set, rw_call, rw_aTrk, rw_aCons, rw_aNil, rw_dCB, rw_dV, List.getElem?_cons_succ, List.getElem?_cons_zero, slotT_t, slotP_p, pure_bind, rw_allD1, rw_allD0, eL, run_bind, run_pure, run_need, List.length_cons, List.length_nil, true_and]
            refine taken_run hr (by omega) (by omega) fun x x0 x1 => ⟨x.toNat, by omega, ?_⟩
            rw [Int.toNat_of_nonneg x0]
            rfl
          rintro _ ⟨i, hi, rfl⟩
          rw [rw_if, run_bind, rw_tAnd2, run_bind, rw_tBv, run_bind, rw_d2, run_bind]
          simp only [rw_call, rw_aTrk, rw_aCons, rw_aNil, rw_dC, List.getElem?_cons_succ, List.getElem?_cons_zero, slotT_t, pure_bind, run_bind, run_pure, run_need, List.length_cons, List.length_nil, true_and]
          refine taken_run hr (by decide) (by decide) fun u u0 u1 => ?_
          simp only [rw_eq, shaped_int, eqv_int, run_need, run_pure, rw_asB, and_self, true_and]
          have side : (sSet 4 (d2 dAdd (dV 4) (dLst (aCons (d2 dIx (dV 4) (dV 7)) aNil))) [.v (.ref a), .t r (RowP r a), .p N0, .p (.int 1), .p (endsD E), .p (.int z), .p (.int (0 + (t : Int))), .p (.int (i : Int)), .non, .non, .non, .non, .non, .non, .non, .non, .non, .non, .non]).run (fun o => match o with
              | .nx δ' => ∃ (z : Int) (E : List Rdx.Ed) (s6 s7 : Sl), EndsOk (t + 1) z E ∧ t + 1 ≤ 8 ∧ δ' = [.v (.ref a), .t r (RowP r a), .p N0, .p (.int 1), .p (endsD E), .p (.int z), s6, s7, .non, .non, .non, .non, .non, .non, .non, .non, .non, .non, .non]
              | _ => False) (fun _ => False) := by
            simp only [rw_set, rw_d2, rw_dLst, rw_aCons, rw_aNil, rw_dV, List.getElem?_cons_succ, List.getElem?_cons_zero, slotP_p, pure_bind, ends_ix hi, rw_allD1, rw_allD0, run_bind, run_pure, run_need, List.length_cons, List.length_nil]
            refine ⟨lineN (by decide), ?_⟩
            refine ends_add (E' := [E.getD i (0, 0)]) (by simp; omega) ?_
            exact ⟨z, _, _, _, ok.side hi, by omega, rfl⟩
          have mo : ∀ {S : Wp Out} {ko : Out → Prop}, S.run (fun o => match o with
              | .nx δ' => ∃ (z : Int) (E : List Rdx.Ed) (s6 s7 : Sl), EndsOk (t + 1) z E ∧ t + 1 ≤ 8 ∧ δ' = [.v (.ref a), .t r (RowP r a), .p N0, .p (.int 1), .p (endsD E), .p (.int z), s6, s7, .non, .non, .non, .non, .non, .non, .non, .non, .non, .non, .non]
              | _ => False) (fun _ => False) → (∀ δ', (∃ (z : Int) (E : List Rdx.Ed) (s6 s7 : Sl), EndsOk (t + 1) z E ∧ t + 1 ≤ 8 ∧ δ' = [.v (.ref a), .t r (RowP r a), .p N0, .p (.int 1), .p (endsD E), .p (.int z), s6, s7, .non, .non, .non, .non, .non, .non, .non, .non, .non, .non, .non]) → ko (.nx δ')) → S.run ko (fun _ => False) := fun {S ko} h h2 => S.mono (fun o ho => by
            cases o with
            | nx δ' => exact h2 δ' ho
            | _ => exact ho.elim) (fun _ z => z) h
          by_cases cu : u = 0
          · rw [decide_eq_true cu, if_pos rfl]
            simp only [rw_tBv, rw_d2, rw_dV, rw_dC, List.getElem?_cons_succ, List.getElem?_cons_zero, slotP_p, pure_bind, dLt, rw_int2, rw_asB, run_bind, run_pure, run_need, true_and]
            by_cases cz : z < 6
            · rw [decide_eq_true cz, if_pos rfl]
              refine seqM' (fun δ => δ = [.v (.ref a), .t r (RowP r a), .p N0, .p (.int 1), .p (endsD (E.take i ++ [((E.getD i (0, 0)).1, z), (z, (E.getD i (0, 0)).2)] ++ E.drop (i + 1))), .p (.int z), .p (.int (0 + (t : Int))), .p (.int (i : Int)), .non, .non, .non, .non, .non, .non, .non, .non, .non, .non, .non]) ?_ ?_
              · have x0 : ∀ e : Rdx.Ed, dIx (edD e) (.int 0) = .pure (.int e.1) := fun e => rfl
                have x1 : ∀ e : Rdx.Ed, dIx (edD e) (.int 1) = .pure (.int e.2) := fun e => rfl
                have asI' : ∀ x : Int, asI (.int x) = .pure (some x) := fun x => rfl
                have tl : (E.take i).length ≤ 9 := by rw [List.length_take]; omega
                have dl : (E.drop (i + 1)).length ≤ 9 := by rw [List.length_drop]; omega
                rw [rw_set, run_bind, rw_d2, run_bind, rw_d2, run_bind]
                simp only [rw_dSl, rw_oNone, rw_oSome, rw_d2, rw_dLst, rw_dTup, rw_aCons, rw_aNil, rw_dV, rw_dC, List.getElem?_cons_succ, List.getElem?_cons_zero, slotP_p, pure_bind, asI', ends_take, ends_ix hi, x0, x1, rw_allD1, rw_allD0, run_bind, run_pure, run_need, List.length_cons, List.length_nil]
                refine ⟨lineN (by decide), lineN (by decide), lineN (by decide), ?_⟩
                refine ends_add (E := E.take i) (E' := [((E.getD i (0, 0)).1, z), (z, (E.getD i (0, 0)).2)]) (by simp; omega) ?_
                simp only [rw_addI, rw_int2, run_need, run_pure, pure_bind, asI', true_and, ends_drop]
                refine ends_add (by rw [List.length_append]; simp; omega) ?_
                rfl
              rintro _ rfl
              simp only [rw_set, rw_d2, rw_dV, rw_dC, List.getElem?_cons_succ, List.getElem?_cons_zero, slotP_p, pure_bind, rw_addI, rw_int2, run_bind, run_pure, run_need, true_and]
              exact ⟨z + 1, _, _, _, ok.row hi cz, by omega, rfl⟩
            · rw [decide_eq_false cz, if_neg (by simp)]
              exact mo side fun δ' h => h
          · rw [decide_eq_false cu, if_neg (by simp)]
            simp only [run_pure, Bool.false_eq_true, if_false]
            exact mo side fun δ' h => h
        · rintro δ ⟨z, E, s6, s7, ok, t7, rfl⟩
          exact ⟨_, z, E, s6, s7, ok, t7, rfl⟩
      rintro _ ⟨t, z, E, s6, s7, ok, t7, rfl⟩
      have l0 := ok.l0
      have l1 := ok.l1
      have z0 := ok.z0
      obtain ⟨n', hn'⟩ : ∃ n' : Nat, z = (n' : Int) := ⟨z.toNat, by omega⟩
      subst hn'
      have asI' : ∀ x : Int, asI (.int x) = .pure (some x) := fun x => rfl
      have ct : dCut none (some 10) (endsD E) = .pure (endsD (E.take 10)) := ends_take (i := 10)
      have sq : seqD (endsD (E.take 10)) = .pure ((E.take 10).map edD) := rfl
      rw [rw_set, run_bind, rw_dTup, run_bind, rw_aCons, run_bind]
      simp only [rw_dV, rw_dCB, rw_aCons, rw_aNil, rw_dC, List.getElem?_cons_succ, List.getElem?_cons_zero, slotP_p, pure_bind, run_bind, run_pure]
      rw [rw_dNl, run_bind, rw_nLc, run_bind, rw_iSeqD]
      simp only [rw_dSl, rw_oNone, rw_oSome, rw_dV, rw_dC, List.getElem?_cons_succ, List.getElem?_cons_zero, slotP_p, pure_bind, asI', ct, sq, run_bind, run_pure, run_need, List.length_map]
      have tk : (E.take 10).length ≤ 10 := by rw [List.length_take]; omega
      have tk1 : 1 ≤ (E.take 10).length := by rw [List.length_take]; omega
      refine ⟨lineN (by omega), ?_⟩
      rw [run_nox]
      have w1 : ∀ δ : De, δ[1]? = some (.t r (RowP r a)) → (dWipe δ [8])[1]? = some (.t r (RowP r a)) := fun δ h1 => by
        simp only [dWipe]
        rw [List.getElem?_set_ne (by decide), List.getElem?_map, h1]
        rfl
      have hY1 := w1 [.v (.ref a), .t r (RowP r a), .p N0, .p (.int 1), .p (endsD E), .p (.int (n' : Int)), s6, s7, .non, .non, .non, .non, .non, .non, .non, .non, .non, .non, .non] rfl
      have hYl : (dWipe [Sl.v (.ref a), .t r (RowP r a), .p N0, .p (.int 1), .p (endsD E), .p (.int (n' : Int)), s6, s7, .non, .non, .non, .non, .non, .non, .non, .non, .non, .non, .non] [8]).length = 19 := by rw [dWipe_len]; rfl
      generalize dWipe [Sl.v (.ref a), .t r (RowP r a), .p N0, .p (.int 1), .p (endsD E), .p (.int (n' : Int)), s6, s7, .non, .non, .non, .non, .non, .non, .non, .non, .non, .non, .non] [8] = Y at hY1 hYl ⊢
      refine lc_ex (P := fun d => ∃ x : Rd4, RdOk (n' : Int) x ∧ d = rd4 x) (fun d hd => ?_) fun ds dl dp => ?_
      · obtain ⟨e, he, rfl⟩ := List.mem_map.mp hd
        obtain ⟨e0, e1, e2⟩ := ok.ok e (List.mem_of_mem_take he)
        refine ⟨_, rfl, fun kb h => h, fun kd h => ?_⟩
        have x0 : dIx (edD e) (.int 0) = .pure (.int e.1) := rfl
        have x1 : dIx (edD e) (.int 1) = .pure (.int e.2) := rfl
        show (dCall 3 (f_law_road C) _ (Y.set 8 (.p (edD e)))).run kd _
        have q1 : (Y.set 8 (.p (edD e)))[1]? = some (.t r (RowP r a)) := by rw [List.getElem?_set_ne (by decide)]; exact hY1
        have q2 : (Y.set 8 (.p (edD e)))[8]? = some (.p (edD e)) := List.getElem?_set_self (by omega)
        simp only [rw_call, rw_aTrk, rw_aCons, rw_aNil, rw_d2, rw_dV, rw_dC, q1, q2, slotT_t, slotP_p, pure_bind, x0, x1, run_bind, run_need, run_pure, List.length_cons, List.length_nil, true_and]
        refine lroad_run hr fun sl ba s0 s1 b0 b1 => h _ ⟨(e.1, e.2, sl, ba), ⟨by show 0 ≤ e.1 ∧ e.1 ≤ _; omega, by show 0 ≤ e.2 ∧ e.2 ≤ _; omega, e2, ⟨s0, s1⟩, ⟨b0, b1⟩⟩, rfl⟩
      · obtain ⟨R', rfl, hR⟩ := pic dp
        simp only [run_pure, pure_bind, run_bind, rw_allD1, rw_allD0, run_need, List.length_cons, List.length_nil, rw_tupL]
        rw [List.length_map, List.length_map] at dl
        refine ⟨lineN (by decide), n', R', 1, _, _, _, _, _, ⟨by omega, by omega, hR⟩, by omega, by omega, by omega, by omega, rfl⟩
    · rw [decide_eq_false c, if_neg (by simp)]
      have nt0 : dIx (netD (n : Int) R) (.int 0) = .pure (.int (n : Int)) := rfl
      simp only [rw_set, rw_d2, rw_dV, rw_dC, List.getElem?_cons_succ, List.getElem?_cons_zero, slotP_p, pure_bind, nt0, dSub, rw_int2, run_bind, run_pure, run_need, true_and]
      exact ⟨n, R, (n : Int) - 1, _, _, _, _, _, hN.ok, by omega, by omega, by omega, by omega, rfl⟩
  clear hN hn2
  rintro _ ⟨n, R, g, s4, s5, s6, s7, s8, nok, n2, n6, g1, gn, rfl⟩
  obtain ⟨N, hNd⟩ : ∃ N : D, N = netD (n : Int) R := ⟨_, rfl⟩
  have hg : ∀ x ∈ R, 0 ≤ x.2.1 ∧ x.2.1 < (n : Int) := fun x hx => by
    have := (nok.rd x hx).b0
    omega
  have hE2 : ∀ e ∈ R.map en4, 0 ≤ e.2 ∧ e.2 < (n : Int) := fun e he => by
    obtain ⟨x, hx, rfl⟩ := List.mem_map.mp he
    exact hg x hx
  have a0 : (0 : Int) ≤ 0 ∧ (0 : Int) < n := by omega
  obtain ⟨w638, w5⟩ := ways638 (b := g) a0 hE2 n6 (by rw [List.length_map]; exact nok.r0.2)
  obtain ⟨W, hW⟩ : ∃ W, W = waysF (R.map en4) 0 g n := ⟨_, rfl⟩
  rw [← hW] at w638 w5
  obtain ⟨Wd, hWd⟩ : ∃ Wd : D, Wd = .list (W.map tupI) := ⟨_, rfl⟩
  rw [← hNd]
  refine seqM' (fun δ => δ = [.v (.ref a), .t r (RowP r a), .p N, .p (.int g), s4, s5, s6, s7, s8, .p Wd, .non, .non, .non, .non, .non, .non, .non, .non, .non]) ?_ ?_
  · simp only [rw_set, rw_call, rw_aCons, rw_aNil, rw_dV, rw_dC, List.getElem?_cons_succ, List.getElem?_cons_zero, slotP_p, pure_bind, run_bind, run_pure, run_need, List.length_cons, List.length_nil, true_and]
    rw [hNd]
    refine lwaysn_run (N := n) rfl a0 hg nok.r0.2 n6 ?_
    rw [← hW, ← hWd]
    rfl
  rintro _ rfl
  refine seqM' (fun δ => W ≠ [] ∧ δ = [.v (.ref a), .t r (RowP r a), .p N, .p (.int g), s4, s5, s6, s7, s8, .p Wd, .non, .non, .non, .non, .non, .non, .non, .non, .non]) ?_ ?_
  · have ew : PyData.eqv Wd (.list []) = decide (W = []) := by
      rw [hWd]
      cases W with
      | nil => simp [PyData.eqv, PyData.eqvAll]
      | cons x S => simp [PyData.eqv, PyData.eqvAll]
    have sw : ∀ W : List (List Int), SeqAt.shaped (.list (W.map tupI)) = true := fun W => (pl_mapL (n := 1) fun y => pl_tupI).shaped (by omega)
    have sWd : SeqAt.shaped Wd = true := by rw [hWd]; exact sw W
    simp only [rw_if, rw_tBv, rw_d2, rw_dLst, rw_aNil, rw_allD0, rw_dV, List.getElem?_cons_succ, List.getElem?_cons_zero, slotP_p, pure_bind, run_bind, run_need, run_pure, List.length_nil, rw_eq, ew, sWd, show SeqAt.shaped (.list []) = true from sw [], rw_asB, and_self, true_and]
    refine ⟨Nat.zero_le _, ?_⟩
    by_cases c : W = []
    · rw [decide_eq_true c, if_pos rfl]
      simp only [rw_ret, rw_dC, run_bind, run_pure]
    · rw [decide_eq_false c, if_neg (by simp)]
      exact ⟨c, rfl⟩
  rintro _ ⟨wne, rfl⟩
  have rn : RNet n R 0 g := ⟨nok, n6, a0, by omega, by omega, by rw [← hW]; exact wne⟩
  have tl10 := rn.len.1
  refine seqM' (fun δ => δ = [.v (.ref a), .t r (RowP r a), .p N, .p (.int g), s4, s5, s6, s7, s8, .p Wd, .p .none, .non, .non, .non, .non, .non, .non, .non, .non] ∨ (∃ (l : List Stp) (T' : Tb), Chn 0 g (tbR R n 0 g) l T' ∧ T'.length = 1 ∧ δ = [.v (.ref a), .t r (RowP r a), .p N, .p (.int g), s4, s5, s6, s7, s8, .p Wd, .p (.tuple (l.map stpD)), .non, .non, .non, .non, .non, .non, .non, .non])) ?_ ?_
  · simp only [rw_set, rw_call, rw_aCons, rw_aNil, rw_dV, rw_dC, List.getElem?_cons_succ, List.getElem?_cons_zero, slotP_p, pure_bind, run_bind, run_pure, run_need, List.length_cons, List.length_nil, true_and]
    rw [hNd]
    exact reduction_run rn (fun no => .inl rfl) fun l T' h1 h2 => .inr ⟨l, T', h1, h2, rfl⟩
  rintro _ (rfl | ⟨l, T', ch, l1, rfl⟩)
  · refine seqM' (fun δ => False) ?_ (fun _ z => z.elim)
    simp only [rw_if, rw_tBv, rw_d2, rw_dC, rw_dV, List.getElem?_cons_succ, List.getElem?_cons_zero, slotP_p, pure_bind, rw_is, isNoneD, run_bind, run_pure, rw_asB, if_true, rw_ret]
  obtain ⟨Q, hQ⟩ : ∃ Q : D, Q = .tuple (l.map stpD) := ⟨_, rfl⟩
  rw [← hQ]
  refine seqM' (fun δ => δ = [.v (.ref a), .t r (RowP r a), .p N, .p (.int g), s4, s5, s6, s7, s8, .p Wd, .p Q, .non, .non, .non, .non, .non, .non, .non, .non]) ?_ ?_
  · have e1 : isNoneD Q = false := by rw [hQ]; rfl
    simp only [rw_if, rw_tBv, rw_d2, rw_dC, rw_dV, List.getElem?_cons_succ, List.getElem?_cons_zero, slotP_p, pure_bind, rw_is, e1, run_bind, run_pure, rw_asB, Bool.false_eq_true, if_false, rw_next]
  rintro _ rfl
  refine seqM' (fun δ => δ = [.v (.ref a), .t r (RowP r a), .p N, .p (.int g), s4, s5, s6, s7, s8, .p Wd, .p Q, .p (.list []), .non, .non, .non, .non, .non, .non, .non]) ?_ ?_
  · simp
  rintro _ rfl
  obtain ⟨Ud, hUd⟩ : ∃ Ud : D, Ud = .list (W.flatten.map .int) := ⟨_, rfl⟩
  refine seqM' (fun δ => ∃ s12, δ = [.v (.ref a), .t r (RowP r a), .p N, .p (.int g), s4, s5, s6, s7, s8, .p Wd, .p Q, .p Ud, s12, .non, .non, .non, .non, .non, .non]) ?_ ?_
  · have sq : seqD Wd = .pure (W.map tupI) := by rw [hWd]; rfl
    rw [rw_for, run_bind, rw_iSeqD]
    simp only [rw_dV, List.getElem?_cons_succ, List.getElem?_cons_zero, slotP_p, pure_bind, sq, run_pure]
    rw [hUd]
    exact used_run (i := 12) (j := 11) (l := W) rfl rfl (by decide) w5 (by omega) fun s => ⟨s, rfl⟩
  rintro _ ⟨s12, rfl⟩
  have wrg : ∀ z ∈ W.flatten, 0 ≤ z ∧ z < 10 := fun z hz => by
    obtain ⟨y, hy, hz⟩ := List.mem_flatten.mp hz
    rw [hW] at hy
    obtain ⟨ns, hw⟩ := (way_iff a0 hE2).mp hy
    have := hw.rg z hz
    rw [List.length_map] at this
    have := nok.r0.2
    omega
  obtain ⟨T0, hT0⟩ : ∃ T0, T0 = tbR R n 0 g := ⟨_, rfl⟩
  have kT0 : kyT T0 = dedI W.flatten := by rw [hT0]; show kyT (tabW _ _) = _; rw [tab_ky, hW]
  have wi0' : WI T0 F0 := by rw [hT0]; exact wi0
  rw [← hT0] at ch tl10
  refine seqM' (fun δ => ∃ (ms : List Int) (s14 : Sl), ms.Nodup ∧ (∀ z, z ∈ ms ↔ z ∈ kyT T0) ∧ δ = [.v (.ref a), .t r (RowP r a), .p N, .p (.int g), s4, s5, s6, s7, s8, .p Wd, .p Q, .p Ud, s12, .p (cnD ms F0), s14, .non, .non, .non, .non]) ?_ ?_
  · rw [rw_set, run_bind]
    have fl := flat_le w5
    have srt : ∀ {kd : D → Prop} {δ : De}, δ[11]? = some (.p Ud) → (∀ ms : List Int, ms.Pairwise (· < ·) → (∀ z, z ∈ ms ↔ z ∈ W.flatten) → kd (.list (ms.map .int))) → (dSortSetI (dV 11) δ).run kd (fun _ => False) := fun {kd δ} h11 hh => by
      rw [rw_dSortSetI, run_bind, rw_dV, h11]
      have ls : lstD Ud = .pure (W.flatten.map .int) := by rw [hUd]; rfl
      simp only [slotP_p, run_pure, ls, run_bind]
      refine ⟨⟨W.flatten, rfl, by omega, (List.range 10).map fun i : Nat => (i : Int), by simp, fun z hz => ?_⟩, ?_⟩
      · have := wrg z hz
        exact List.mem_map.mpr ⟨z.toNat, List.mem_range.mpr (by omega), by omega⟩
      · intro ms hms
        exact hh ms hms.1 (hms.2 _ rfl)
    -- the sorted roads are the same at every asking: one asking alone
    show (dDictI (dNl (nLc (iSeqD (dSortSetI (dV 11))) (bName 14) tYesD (dTup (aCons (dV 14) (aCons (dC (.int 1)) aNil))) ([14] : List Nat))) _).run _ _
    unfold dDictI nDictI
    rw [run_bind, run_bind, rw_dNl, run_bind, rw_nLc, run_bind, rw_iSeqD, run_bind]
    refine srt rfl fun ms pw mem => ?_
    have nd : ms.Nodup := pw.imp fun {a b} h => Int.ne_of_lt h
    have ml : ms.length ≤ 10 := by
      have := Gm.nodup_le (T := (List.range 10).map fun i : Nat => (i : Int)) nd fun z hz => by
        have := wrg z ((mem z).mp hz)
        exact List.mem_map.mpr ⟨z.toNat, List.mem_range.mpr (by omega), by omega⟩
      rw [List.length_map, List.length_range] at this
      exact this
    rw [rw_seqL, run_pure]
    refine ⟨by rw [List.length_map]; exact lineN (by omega), ?_⟩
    rw [run_nox]
    refine lc_run (g := .int) (p := fun _ => true) (h := fun z : Int => (.tuple [.int z, .int 1] : D)) (fun z hz => ⟨_, rfl, fun kb hb => hb, fun _ kd hd => ?_⟩) ?_
    · have q : ∀ δ : De, 14 < δ.length → (δ.set 14 (.p (.int z)))[14]? = some (.p (.int z)) := fun δ h => List.getElem?_set_self h
      have hl : 14 < (dWipe [Sl.v (.ref a), .t r (RowP r a), .p N, .p (.int g), s4, s5, s6, s7, s8, .p Wd, .p Q, .p Ud, s12, .non, .non, .non, .non, .non, .non] [14]).length := by rw [dWipe_len]; exact (by decide : 14 < 19)
      generalize dWipe [Sl.v (.ref a), .t r (RowP r a), .p N, .p (.int g), s4, s5, s6, s7, s8, .p Wd, .p Q, .p Ud, s12, .non, .non, .non, .non, .non, .non] [14] = Y at hl ⊢
      show (dTup _ (Y.set 14 (.p (.int z)))).run kd _
      simp only [rw_dTup, rw_aCons, rw_aNil, rw_dV, rw_dC, q Y hl, slotP_p, pure_bind, rw_allD1, rw_allD0, run_bind, run_need, run_pure, List.length_cons, List.length_nil]
      exact ⟨lineN (by decide), hd⟩
    · rw [List.filter_eq_self.mpr fun _ _ => rfl]
      have hk2 : ∀ {kl : List (D × D) → Prop}, kl ((ms.map fun x => (x, (PyData.int ((F0 x).length : Int) : D))).map enI) → ((lstD (.list (ms.map fun z : Int => (.tuple [.int z, .int 1] : D)))).bind fun es => .need (pairsI es = true) (.pure ((dctI es).map enI)) : Wp (List (D × D))).run kl (fun _ => False) := fun {kl} hh => by
        have := dictI_run (w := fun _ => False) (f := fun _ => .pure (.list (ms.map fun z : Int => (.tuple [.int z, .int 1] : D)))) (δ := []) (v := fun _ => .int 1) (k := fun d => ∃ qs, d = .dict qs ∧ kl qs) nd (fun kd h => h) ⟨_, rfl, hh⟩
        unfold dDictI nDictI at this
        rw [run_bind, run_bind, run_pure] at this
        refine Wp.mono _ (fun qs h => ?_) (fun _ z => z) this
        obtain ⟨qs', e, h⟩ := h
        cases e
        exact h
      rw [run_pure]
      refine hk2 ?_
      rw [run_pure]
      exact ⟨ms, _, nd, fun z => by rw [mem, kT0, ded_spec.2], rfl⟩
  rintro _ ⟨ms, s14, mnd, mk, rfl⟩
  refine seqM' (fun δ => ∃ (F : Int → List (List Int)) (ms : List Int) (s5 s14 s15 s16 s17 : Sl), WI T' F ∧ (∀ u, Lang T' F 0 g u ↔ Lang T0 F0 0 g u) ∧ ms.Nodup ∧ (∀ z, z ∈ ms ↔ z ∈ kyT T') ∧ δ = [.v (.ref a), .t r (RowP r a), .p N, .p (.int g), s4, s5, s6, s7, s8, .p Wd, .p Q, .p Ud, s12, .p (cnD ms F), s14, s15, s16, s17, .non]) ?_ ?_
  · have sq : seqD Q = .pure (l.map stpD) := by rw [hQ]; rfl
    rw [rw_for, run_bind, rw_iSeqD]
    simp only [rw_dV, List.getElem?_cons_succ, List.getElem?_cons_zero, slotP_p, pure_bind, sq, run_pure]
    refine loop_pre (xs := l) (g := stpD) (fun pre δ => ∃ (T1 : Tb) (post : List Stp) (F : Int → List (List Int)) (ms : List Int) (s5 s14 s15 s16 s17 : Sl), l = pre ++ post ∧ Chn 0 g T1 post T' ∧ T1.length ≤ 10 ∧ WI T1 F ∧ (∀ u, Lang T1 F 0 g u ↔ Lang T0 F0 0 g u) ∧ ms.Nodup ∧ (∀ z, z ∈ ms ↔ z ∈ kyT T1) ∧ (∀ z ∈ kyT T1, (F z).length < 2 ^ (2 ^ pre.length)) ∧ δ = [.v (.ref a), .t r (RowP r a), .p N, .p (.int g), s4, s5, s6, s7, s8, .p Wd, .p Q, .p Ud, s12, .p (cnD ms F), s14, s15, s16, s17, .non]) ⟨T0, l, F0, ms, s5, s14, .non, .non, .non, rfl, ch, tl10, wi0', fun u => Iff.rfl, mnd, mk, fun z _ => (by decide : 1 < 2 ^ (2 ^ 0)), rfl⟩ ?_ ?_
    · rintro pre x post δ hxs ⟨T1, post', F, ms, s5, s14, s15, s16, s17, hp, c1, t10, wi, lg, mnd, mk, bd, rfl⟩
      have : post' = x :: post := List.append_cancel_left (hp.symm.trans hxs)
      subst this
      cases c1 with
      | cons hx c2 =>
        obtain ⟨⟨e, f, q1, q2, q3⟩, st⟩ := may_st wi.nd hx
        have al := aft_len wi.nd hx
        have wi2 := wi.step hx
        have bi := bd _ (key_lk q1)
        have bj := bd _ (key_lk q2)
        have pl10 : pre.length ≤ 9 := by
          have h1 := congrArg List.length hxs
          have h2 := ch.len (by rw [kT0]; exact ded_spec.1)
          rw [List.length_append, List.length_cons] at h1
          omega
        have pp : 2 ^ pre.length ≤ 2 ^ 9 := Nat.pow_le_pow_right (by omega) pl10
        have cm : CMulW ((F x.2.1).length : Int) ((F x.2.2).length : Int) := cmul (a := 2 ^ pre.length) (b := 2 ^ pre.length) (by simpa using bi) (by simpa using bj) (by omega)
        have mi : x.2.1 ∈ ms := (mk _).mpr (key_lk q1)
        have mj : x.2.2 ∈ ms := (mk _).mpr (key_lk q2)
        obtain ⟨Kd, hKd⟩ : ∃ Kd : Str, Kd = (if x.1 then "row" else "side" : Str) := ⟨_, rfl⟩
        obtain ⟨Cd, hCd⟩ : ∃ Cd : D, Cd = cnD ms F := ⟨_, rfl⟩
        have ixi : dIxI Cd (.int x.2.1) = .need True (.pure (.int ((F x.2.1).length : Int))) := by rw [hCd]; exact cn_ix mi
        have ixj : dIxI Cd (.int x.2.2) = .need True (.pure (.int ((F x.2.2).length : Int))) := by rw [hCd]; exact cn_ix mj
        refine ⟨[.v (.ref a), .t r (RowP r a), .p N, .p (.int g), s4, s5, s6, s7, s8, .p Wd, .p Q, .p Ud, s12, .p Cd, s14, .p (.str Kd), .p (.int x.2.1), .p (.int x.2.2), .non], by rw [hKd, hCd]; rfl, ?_⟩
        obtain ⟨z, hz⟩ : ∃ z : Int, z = if x.1 then ((F x.2.1).length : Int) * ((F x.2.2).length : Int) else ((F x.2.1).length : Int) + ((F x.2.2).length : Int) := ⟨_, rfl⟩
        refine seqM' (fun δ => δ = [.v (.ref a), .t r (RowP r a), .p N, .p (.int g), s4, .p (.int z), s6, s7, s8, .p Wd, .p Q, .p Ud, s12, .p Cd, s14, .p (.str Kd), .p (.int x.2.1), .p (.int x.2.2), .non]) ?_ ?_
        · have shK : SeqAt.shaped (.str Kd) = true := by rw [hKd]; cases x.1 <;> decide +kernel
          have shS : SeqAt.shaped (.str ("side" : Str)) = true := by decide +kernel
          have eK : PyData.eqv (.str Kd) (.str ("side" : Str)) = !x.1 := by rw [hKd]; cases x.1 <;> decide +kernel
          simp only [rw_set, rw_dIf, rw_tBv, rw_d2, rw_dV, rw_dC, List.getElem?_cons_succ, List.getElem?_cons_zero, slotP_p, pure_bind, rw_eq, shK, shS, eK, run_bind, run_need, run_pure, rw_asB, and_self, true_and]
          cases hb : x.1 with
          | true =>
            rw [hb] at hz
            simp only [Bool.not_true, Bool.false_eq_true, if_false, rw_d2, rw_dV, List.getElem?_cons_succ, List.getElem?_cons_zero, slotP_p, pure_bind, ixi, ixj, dMul, rw_int2, run_bind, run_need, run_pure, true_and]
            rw [hz, if_pos rfl]
            exact ⟨cm, rfl⟩
          | false =>
            rw [hb] at hz
            simp only [Bool.not_false, if_true, rw_d2, rw_dV, List.getElem?_cons_succ, List.getElem?_cons_zero, slotP_p, pure_bind, ixi, ixj, rw_addI, rw_int2, run_bind, run_need, run_pure, true_and]
            rw [hz]
            rfl
        rintro _ rfl
        rw [rw_set, run_bind]
        have kf : ∀ y, y ∈ kyT (aftT T1 x) ↔ y ∈ kyT T1 ∧ y ≠ x.2.2 := fun y => by
          constructor
          · exact aft_key
          · rintro ⟨h1, h2⟩
            have d : y ∈ kyT (dropT T1 x.2.2) := by
              obtain ⟨p, hp, rfl⟩ := List.mem_map.mp h1
              exact List.mem_map.mpr ⟨p, List.mem_filter.mpr ⟨hp, decide_eq_true h2⟩, rfl⟩
            unfold aftT
            split
            · rw [set_ky]; exact d
            · exact d
        have bl : bListI [Cd] = .need True (.pure (.list (ms.map .int))) := by rw [hCd]; exact cn_list
        have ml : ms.length ≤ 10 := by
          have p := nd_perm mnd wi.nd mk
          rw [p.length_eq, List.length_map]
          exact t10
        show (dDictI (dNl (nLc _ _ _ _ _)) _).run _ _
        unfold dDictI nDictI
        rw [run_bind, run_bind, rw_dNl, run_bind, rw_nLc, run_bind, rw_iSeqD, run_bind]
        simp only [rw_dCB, rw_aCons, rw_aNil, rw_dV, List.getElem?_cons_succ, List.getElem?_cons_zero, slotP_p, pure_bind, rw_allD1, rw_allD0, bl, run_bind, run_need, run_pure, true_and]
        refine sortI_run fun m2 pm _ => ?_
        rw [rw_seqL, run_pure]
        refine ⟨by rw [List.length_map, pm.length_eq]; exact lineN (by omega), ?_⟩
        rw [run_nox]
        have nd2 : m2.Nodup := pm.nodup_iff.mpr mnd
        refine lc_run (g := .int) (p := fun y : Int => decide (y ≠ x.2.2)) (h := fun y : Int => (.tuple [.int y, .int ((nxF F x y).length : Int)] : D)) (fun y hy => ?_) ?_
        · have my : y ∈ ms := pm.mem_iff.mp hy
          have ixy : dIxI Cd (.int y) = .need True (.pure (.int ((F y).length : Int))) := by rw [hCd]; exact cn_ix my
          have hl : (dWipe [Sl.v (.ref a), .t r (RowP r a), .p N, .p (.int g), s4, .p (.int z), s6, s7, s8, .p Wd, .p Q, .p Ud, s12, .p Cd, s14, .p (.str Kd), .p (.int x.2.1), .p (.int x.2.2), .non] [14]).length = 19 := by rw [dWipe_len]; rfl
          have wp : ∀ (i : Nat) (d : D) (δ : De), i ≠ 14 → δ[i]? = some (.p d) → (dWipe δ [14])[i]? = some (.p d) := fun i d δ ne h1 => by
            simp only [dWipe]
            rw [List.getElem?_set_ne (Ne.symm ne), List.getElem?_map, h1]
            rfl
          have w5 := wp 5 (.int z) [Sl.v (.ref a), .t r (RowP r a), .p N, .p (.int g), s4, .p (.int z), s6, s7, s8, .p Wd, .p Q, .p Ud, s12, .p Cd, s14, .p (.str Kd), .p (.int x.2.1), .p (.int x.2.2), .non] (by decide) rfl
          have w13 := wp 13 Cd [Sl.v (.ref a), .t r (RowP r a), .p N, .p (.int g), s4, .p (.int z), s6, s7, s8, .p Wd, .p Q, .p Ud, s12, .p Cd, s14, .p (.str Kd), .p (.int x.2.1), .p (.int x.2.2), .non] (by decide) rfl
          have w16 := wp 16 (.int x.2.1) [Sl.v (.ref a), .t r (RowP r a), .p N, .p (.int g), s4, .p (.int z), s6, s7, s8, .p Wd, .p Q, .p Ud, s12, .p Cd, s14, .p (.str Kd), .p (.int x.2.1), .p (.int x.2.2), .non] (by decide) rfl
          have w17 := wp 17 (.int x.2.2) [Sl.v (.ref a), .t r (RowP r a), .p N, .p (.int g), s4, .p (.int z), s6, s7, s8, .p Wd, .p Q, .p Ud, s12, .p Cd, s14, .p (.str Kd), .p (.int x.2.1), .p (.int x.2.2), .non] (by decide) rfl
          generalize dWipe [Sl.v (.ref a), .t r (RowP r a), .p N, .p (.int g), s4, .p (.int z), s6, s7, s8, .p Wd, .p Q, .p Ud, s12, .p Cd, s14, .p (.str Kd), .p (.int x.2.1), .p (.int x.2.2), .non] [14] = Y at hl w5 w13 w16 w17 ⊢
          have y14 : (Y.set 14 (.p (.int y)))[14]? = some (.p (.int y)) := List.getElem?_set_self (by omega)
          have y5 : (Y.set 14 (.p (.int y)))[5]? = some (.p (.int z)) := by rw [List.getElem?_set_ne (by decide)]; exact w5
          have y13 : (Y.set 14 (.p (.int y)))[13]? = some (.p Cd) := by rw [List.getElem?_set_ne (by decide)]; exact w13
          have y16 : (Y.set 14 (.p (.int y)))[16]? = some (.p (.int x.2.1)) := by rw [List.getElem?_set_ne (by decide)]; exact w16
          have y17 : (Y.set 14 (.p (.int y)))[17]? = some (.p (.int x.2.2)) := by rw [List.getElem?_set_ne (by decide)]; exact w17
          refine ⟨_, rfl, fun kb hb => ?_, fun _ kd hd => ?_⟩
          · show (tBv _ (Y.set 14 (.p (.int y)))).run kb _
            simp only [rw_tBv, rw_d2, rw_dV, y14, y17, slotP_p, pure_bind, rw_ne, run_bind, run_need, run_pure, rw_asB]
            refine ⟨⟨rfl, rfl⟩, ?_⟩
            have : (!PyData.eqv (PyData.int y) (.int x.2.2)) = decide (y ≠ x.2.2) := by
              rw [eqv_int]
              by_cases c : y = x.2.2 <;> simp [c]
            rw [this]
            exact hb
          · show (dTup _ (Y.set 14 (.p (.int y)))).run kd _
            have hd : kd (.tuple [.int y, .int ((nxF F x y).length : Int)]) := hd
            rw [cn_nx, ← hz] at hd
            rw [rw_dTup, run_bind, rw_aCons, run_bind]
            simp only [rw_dV, y14, slotP_p, pure_bind, run_pure, rw_aCons, rw_aNil, rw_dIf, rw_tBv, rw_d2, y16, rw_eq, shaped_int, eqv_int, run_bind, run_need, rw_asB, and_self, true_and]
            by_cases c : y = x.2.1
            · rw [if_pos c] at hd
              rw [decide_eq_true c, if_pos rfl]
              simp only [rw_dV, y5, slotP_p, pure_bind, rw_allD1, rw_allD0, run_bind, run_need, run_pure, List.length_cons, List.length_nil]
              exact ⟨lineN (by decide), hd⟩
            · rw [if_neg c] at hd
              rw [decide_eq_false c, if_neg (by simp)]
              simp only [rw_d2, rw_dV, y13, y14, slotP_p, pure_bind, ixy, rw_allD1, rw_allD0, run_bind, run_need, run_pure, List.length_cons, List.length_nil, true_and]
              exact ⟨lineN (by decide), hd⟩
        · obtain ⟨m3, hm3⟩ : ∃ m3, m3 = m2.filter fun y : Int => decide (y ≠ x.2.2) := ⟨_, rfl⟩
          have nd3 : m3.Nodup := by rw [hm3]; exact nd2.filter _
          rw [← hm3]
          have ls : lstD (.list (m3.map fun y : Int => (.tuple [.int y, .int ((nxF F x y).length : Int)] : D))) = .pure (m3.map fun y : Int => (.tuple [.int y, .int ((nxF F x y).length : Int)] : D)) := rfl
          have pr : pairsI (m3.map fun y : Int => (.tuple [.int y, .int ((nxF F x y).length : Int)] : D)) = true := by
            clear hm3 nd3 ls
            induction m3 with
            | nil => rfl
            | cons p L ih => exact ih
          have ed : dctI (m3.map fun y : Int => (.tuple [.int y, .int ((nxF F x y).length : Int)] : D)) = m3.map fun y => (y, .int ((nxF F x y).length : Int)) := by
            have := dctI_ded (fun y : Int => (.int ((nxF F x y).length : Int) : D)) m3
            rw [dedI_nd nd3] at this
            exact this
          have p2 := pw2 bi bj
          rw [ls, run_pure, ed]
          refine ⟨pr, aftT T1 x, post, nxF F x, m3, _, _, _, _, _, by rw [hp]; simp, c2, by omega, wi2, fun u => (lang_step wi.nd hx).trans (lg u), nd3, fun y => ?_, fun y hy => ?_, rfl⟩
          · rw [hm3, List.mem_filter, decide_eq_true_eq, pm.mem_iff, mk, kf]
          · have cn := cn_nx (F := F) (x := x) (y := y)
            rw [List.length_append, List.length_singleton]
            by_cases c : y = x.2.1
            · rw [if_pos c] at cn
              have q1 := p2.1
              have q2 := p2.2
              cases hb : x.1 with
              | true =>
                rw [hb, if_pos rfl] at cn
                have : (nxF F x y).length = (F x.2.1).length * (F x.2.2).length := by
                  have : ((nxF F x y).length : Int) = (((F x.2.1).length * (F x.2.2).length : Nat) : Int) := by rw [cn, Int.natCast_mul]
                  omega
                rw [this]
                exact q1
              | false =>
                rw [hb, if_neg (by simp)] at cn
                omega
            · rw [if_neg c] at cn
              have h1 := bd y (kf y |>.mp hy).1
              have h2 : 2 ^ (2 ^ pre.length) ≤ 2 ^ (2 ^ (pre.length + 1)) := Nat.pow_le_pow_right (by omega) (Nat.pow_le_pow_right (by omega) (by omega))
              omega
    · rintro δ ⟨T1, post', F, ms, s5, s14, s15, s16, s17, hp, c1, t10, wi, lg, mnd, mk, bd, rfl⟩
      have : post' = [] := by
        have := congrArg List.length hp
        rw [List.length_append] at this
        exact List.length_eq_zero_iff.mp (by omega)
      subst this
      cases c1
      exact ⟨F, ms, s5, s14, s15, s16, s17, wi, lg, mnd, mk, rfl⟩
  clear ms mnd mk
  rintro _ ⟨F, ms, s5, s14', s15, s16, s17, wi, lg, mnd, mk, rfl⟩
  rw [hT0] at lg
  obtain ⟨k0, hk0, hcount⟩ := end_count (s := 0) (g := g) a0 hE2 (by omega) (by rw [← hW]; exact wne) wi lg l1
  rw [← hW] at hcount
  have ems : ms = [k0] := by
    have p := nd_perm mnd wi.nd mk
    rw [hk0] at p
    exact List.perm_singleton.mp p
  subst ems
  obtain ⟨Cd, hCd⟩ : ∃ Cd : D, Cd = cnD [k0] F := ⟨_, rfl⟩
  have bl : bListI [Cd] = .need True (.pure (.list (([k0] : List Int).map .int))) := by rw [hCd]; exact cn_list
  have ixk : dIxI Cd (.int k0) = .need True (.pure (.int (W.length : Int))) := by rw [hCd, cn_ix (by simp), hcount]
  rw [← hCd]
  have wl : bLen [Wd] = .pure (.int (W.length : Int)) := by rw [hWd, rw_lenL, List.length_map]
  refine seqM' (fun δ => δ = [.v (.ref a), .t r (RowP r a), .p N, .p (.int g), s4, s5, s6, s7, s8, .p Wd, .p Q, .p Ud, s12, .p Cd, s14', s15, s16, s17, .non]) ?_ ?_
  · rw [rw_if, run_bind, rw_tBv, run_bind, rw_d2, run_bind, rw_dNl, run_bind, rw_nLc, run_bind, rw_iSeqD, run_bind]
    simp only [rw_dCB, rw_aCons, rw_aNil, rw_dV, List.getElem?_cons_succ, List.getElem?_cons_zero, slotP_p, pure_bind, rw_allD1, rw_allD0, bl, run_bind, run_need, run_pure, true_and]
    refine sortI_run fun m2 pm _ => ?_
    have em2 : m2 = [k0] := List.perm_singleton.mp pm
    subst em2
    rw [rw_seqL, run_pure]
    refine ⟨lineN (by simp), ?_⟩
    rw [run_nox]
    refine lc_run (g := .int) (p := fun _ => true) (h := fun _ : Int => (.int (W.length : Int) : D)) (fun z hz => ⟨_, rfl, fun kb hb => hb, fun _ kd hd => ?_⟩) ?_
    · have hz := List.mem_singleton.mp hz
      subst hz
      have wp : ∀ (i : Nat) (d : D) (δ : De), i ≠ 14 → δ[i]? = some (.p d) → (dWipe δ [14])[i]? = some (.p d) := fun i d δ ne h1 => by
        simp only [dWipe]
        rw [List.getElem?_set_ne (Ne.symm ne), List.getElem?_map, h1]
        rfl
      have hl : (dWipe [Sl.v (.ref a), .t r (RowP r a), .p N, .p (.int g), s4, s5, s6, s7, s8, .p Wd, .p Q, .p Ud, s12, .p Cd, s14', s15, s16, s17, .non] [14]).length = 19 := by rw [dWipe_len]; rfl
      have w13 := wp 13 Cd [Sl.v (.ref a), .t r (RowP r a), .p N, .p (.int g), s4, s5, s6, s7, s8, .p Wd, .p Q, .p Ud, s12, .p Cd, s14', s15, s16, s17, .non] (by decide) rfl
      generalize dWipe [Sl.v (.ref a), .t r (RowP r a), .p N, .p (.int g), s4, s5, s6, s7, s8, .p Wd, .p Q, .p Ud, s12, .p Cd, s14', s15, s16, s17, .non] [14] = Y at hl w13 ⊢
      have y14 : (Y.set 14 (.p (.int z)))[14]? = some (.p (.int z)) := List.getElem?_set_self (by omega)
      have y13 : (Y.set 14 (.p (.int z)))[13]? = some (.p Cd) := by rw [List.getElem?_set_ne (by decide)]; exact w13
      show (d2 dIxI (dV 13) (dV 14) (Y.set 14 (.p (.int z)))).run kd _
      simp only [rw_d2, rw_dV, y13, y14, slotP_p, pure_bind, ixk, run_need, run_pure, true_and]
      exact hd
    · rw [List.filter_eq_self.mpr fun _ _ => rfl]
      have l1 : ∀ z : Int, ([PyData.int z] : List D) = [z].map .int := fun z => rfl
      simp only [List.map_cons, List.map_nil, run_pure, rw_dLst, rw_dCB, rw_aCons, rw_aNil, rw_dV, List.getElem?_cons_succ, List.getElem?_cons_zero, slotP_p, pure_bind, rw_allD1, rw_allD0, wl, run_bind, run_need, List.length_cons, List.length_nil]
      refine ⟨lineN (by decide), ?_⟩
      rw [l1, rw_ne, ints_shaped, ints_eqv]
      simp only [run_need, run_pure, decide_true, Bool.not_true, rw_asB, Bool.false_eq_true, if_false, rw_next, and_self, true_and]
  rintro _ rfl
  refine seqM' (fun δ => ((W.length ≤ 20 ∧ δ = [.v (.ref a), .t r (RowP r a), .p N, .p (.int g), s4, s5, s6, s7, s8, .p Wd, .p Q, .p Ud, s12, .p Cd, s14', s15, s16, s17, .p (.tuple (W.map tupI))]) ∨ (20 < W.length ∧ δ = [.v (.ref a), .t r (RowP r a), .p N, .p (.int g), s4, s5, s6, s7, s8, .p Wd, .p Q, .p Ud, s12, .p Cd, s14', s15, s16, s17, .p .none]))) ?_ ?_
  · rw [rw_set, run_bind]
    refine toldN_run ?_
    simp only [rw_call, rw_aCons, rw_aNil, rw_dV, rw_dC, List.getElem?_cons_succ, List.getElem?_cons_zero, slotP_p, pure_bind, run_bind, run_pure, run_need, List.length_cons, List.length_nil, true_and]
    rw [hNd]
    refine waysx_run rn (fun h => ?_) fun h => ?_
    · rw [← hW] at h ⊢
      exact .inl ⟨h, rfl⟩
    · rw [← hW] at h
      exact ⟨20, rfl, .inr ⟨h, rfl⟩⟩
  have sw : SeqAt.shaped (.tuple (W.map tupI)) = true := (pl_map (n := 1) fun y => pl_tupI).shaped (by omega)
  have bt : bTuple [Wd] = .pure (.tuple (W.map tupI)) := by rw [hWd]; rfl
  rintro _ (⟨h, rfl⟩ | ⟨h, rfl⟩)
  · have e1 : isNoneD (.tuple (W.map tupI)) = false := rfl
    have e2 : PyData.eqv (.tuple (W.map tupI)) (.tuple (W.map tupI)) = true := ((pl_map (n := 1) fun y => pl_tupI).eqv (pl_map (n := 1) fun y => pl_tupI)).mpr rfl
    rw [rw_ret, run_bind, rw_dOrV, run_bind, rw_dAndV, run_bind]
    simp only [rw_d2, rw_dV, rw_dC, rw_dCB, rw_aCons, rw_aNil, List.getElem?_cons_succ, List.getElem?_cons_zero, slotP_p, pure_bind, rw_is, e1, run_bind, run_pure, rw_truB, Bool.false_eq_true, if_false, rw_allD1, rw_allD0, bt, rw_eq, sw, e2, run_need, and_self, true_and]
  · have c : (W.length : Int) > 20 := by omega
    rw [rw_ret, run_bind, rw_dOrV, run_bind, rw_dAndV, run_bind]
    simp only [rw_d2, rw_dV, rw_dC, rw_dCB, rw_aCons, rw_aNil, List.getElem?_cons_succ, List.getElem?_cons_zero, slotP_p, pure_bind, rw_is, isNoneD, run_bind, run_pure, rw_truB, if_true, rw_allD1, rw_allD0, wl, dGt, rw_int2, decide_eq_true c, run_need, true_and]
end Tr

set_option maxHeartbeats 0
namespace Tr
open PySem PySem.Spec L2
@[reducible] def protT (K : PySem.W.Frag) : ProtC := ⟨fun P q => (P, q) ∈ tlT.map (lmA K)⟩
theorem tpT {K : PySem.W.Frag} {h base : Heap} {mg : Str → Option Value} {w : World} {a : Addr} {ns : List Int} (X : K.In h) (G : h.Ns mainGlobals mg) (c0 : He.SaysX faT fnT [] tfT exT w h K) (tb : ∀ p ∈ tfT.map (He.cT K), LamX.TabB base mg p.1 p.2)
    (hu : ((tlT.map (lmA K)).map (·.1)).Nodup) : letI := protT K; ∀ (np : ∀ P ∈ tgT.map (tabA K), ∀ q, ¬ ProtC.p P q) (pl : ∀ p ∈ tlT.map (lmA K), ProtC.p p.1 p.2), Tp (mkC K mg (tgT.map (tabA K)) np (tlT.map (lmA K)) pl a ns) base :=
  letI := protT K
  have c := c0.t.d
  have hex := (Bool.and_eq_true_iff.mp c0.more).2
  fun np pl => {
    d_law_taken := c.def_ 0 (d := dd_law_taken) rfl
    g_law_taken := He.glo_ok X G (c.fact 0 (f := .glo "_law_taken") rfl)
    d_law_pick := c.def_ 1 (d := dd_law_pick) rfl
    g_law_pick := He.glo_ok X G (c.fact 1 (f := .glo "_law_pick") rfl)
    d_law_road := c.def_ 2 (d := dd_law_road) rfl
    g_law_road := He.glo_ok X G (c.fact 2 (f := .glo "_law_road") rfl)
    d_law_net := c.def_ 3 (d := dd_law_net) rfl
    g_law_net := He.glo_ok X G (c.fact 3 (f := .glo "_law_net") rfl)
    d_law_ways := c.def_ 4 (d := dd_law_ways) rfl
    g_law_ways := He.glo_ok X G (c.fact 4 (f := .glo "_law_ways") rfl)
    d_is_in := c.def_ 5 (d := dd_is_in) rfl
    g_is_in := He.glo_ok X G (c.fact 5 (f := .glo "is_in") rfl)
    d_is_road := c.def_ 6 (d := dd_is_road) rfl
    g_is_road := He.glo_ok X G (c.fact 6 (f := .glo "is_road") rfl)
    t_is_road := tabGx (tb (He.cT K ("is_road", none)) (List.mem_map_of_mem (f := He.cT K) (a := (("is_road", none) : He.Defn)) (by decide +kernel)))
    p_is_road := List.mem_map_of_mem (f := tabA K) (a := (("is_road", none) : He.Defn)) (by decide +kernel)
    d_need_net := c.def_ 7 (d := dd_need_net) rfl
    g_need_net := He.glo_ok X G (c.fact 7 (f := .glo "need_net") rfl)
    d_need_nodes := c.def_ 8 (d := dd_need_nodes) rfl
    g_need_nodes := He.glo_ok X G (c.fact 8 (f := .glo "need_nodes") rfl)
    d_all_ways := c.def_ 9 (d := dd_all_ways) rfl
    g_all_ways := He.glo_ok X G (c.fact 9 (f := .glo "all_ways") rfl)
    d_need_way := c.def_ 10 (d := dd_need_way) rfl
    g_need_way := He.glo_ok X G (c.fact 10 (f := .glo "need_way") rfl)
    d_roads_on_ways := c.def_ 11 (d := dd_roads_on_ways) rfl
    g_roads_on_ways := He.glo_ok X G (c.fact 11 (f := .glo "roads_on_ways") rfl)
    d_side_step := c.def_ 12 (d := dd_side_step) rfl
    g_side_step := He.glo_ok X G (c.fact 12 (f := .glo "side_step") rfl)
    d_is_row := c.def_ 13 (d := dd_is_row) rfl
    g_is_row := He.glo_ok X G (c.fact 13 (f := .glo "is_row") rfl)
    d_row_step := c.def_ 14 (d := dd_row_step) rfl
    g_row_step := He.glo_ok X G (c.fact 14 (f := .glo "row_step") rfl)
    d_after_step := c.def_ 15 (d := dd_after_step) rfl
    g_after_step := He.glo_ok X G (c.fact 15 (f := .glo "after_step") rfl)
    d_steps_of := c.def_ 16 (d := dd_steps_of) rfl
    g_steps_of := He.glo_ok X G (c.fact 16 (f := .glo "steps_of") rfl)
    d_reduction := c.def_ 17 (d := dd_reduction) rfl
    g_reduction := He.glo_ok X G (c.fact 17 (f := .glo "reduction") rfl)
    d_few_ways := c.def_ 18 (d := dd_few_ways) rfl
    g_few_ways := He.glo_ok X G (c.fact 18 (f := .glo "few_ways") rfl)
    d_ways := c.def_ 19 (d := dd_ways) rfl
    g_ways := He.glo_ok X G (c.fact 19 (f := .glo "ways") rfl)
    d_law := c.def_ 20 (d := dd_law) rfl
    g_law := He.glo_ok X G (c.fact 20 (f := .glo "law") rfl)
    d_TooMany___init__ := c.def_ 21 (d := dd_TooMany___init__) rfl
    d_law_told := c.def_ 22 (d := dd_law_told) rfl
    g_law_told := He.glo_ok X G (c.fact 21 (f := .glo "_law_told") rfl)
    g_RoadError := He.glo_ok X G (c.fact 22 (f := .glo "RoadError") rfl)
    g_TooMany := He.glo_ok X G (c.fact 23 (f := .glo "TooMany") rfl)
    tl_TooMany := tldB_ok hex
    l_law := tb (He.cT K ("law", none)) (List.mem_map_of_mem (f := He.cT K) (a := (("law", none) : He.Defn)) (by decide +kernel))
    lp_law := List.mem_map_of_mem (f := lmA K) (a := ((("law", none), (("law" : Str) ++ ".<locals>.") ++ "<lambda>") : He.Defn × Str)) (by decide +kernel)
    lu_law := prot_u hu (List.mem_map_of_mem (f := lmA K) (a := ((("law", none), (("law" : Str) ++ ".<locals>.") ++ "<lambda>") : He.Defn × Str)) (by decide +kernel))
    b_all := He.free_ok X G (c.fact 24 (f := .free "all") rfl)
    b_bool := He.free_ok X G (c.fact 25 (f := .free "bool") rfl)
    b_dict := He.free_ok X G (c.fact 26 (f := .free "dict") rfl)
    b_enumerate := He.free_ok X G (c.fact 27 (f := .free "enumerate") rfl)
    b_int := He.free_ok X G (c.fact 28 (f := .free "int") rfl)
    b_isinstance := He.free_ok X G (c.fact 29 (f := .free "isinstance") rfl)
    b_len := He.free_ok X G (c.fact 30 (f := .free "len") rfl)
    b_list := He.free_ok X G (c.fact 31 (f := .free "list") rfl)
    b_range := He.free_ok X G (c.fact 32 (f := .free "range") rfl)
    b_set := He.free_ok X G (c.fact 33 (f := .free "set") rfl)
    b_sorted := He.free_ok X G (c.fact 34 (f := .free "sorted") rfl)
    b_tuple := He.free_ok X G (c.fact 35 (f := .free "tuple") rfl)
    i_MOST_BASE := He.int_ok X G (c.fact 36 (f := .int "MOST_BASE" 1000) rfl)
    i_MOST_NODES := He.int_ok X G (c.fact 37 (f := .int "MOST_NODES" 6) rfl)
    i_MOST_ROADS := He.int_ok X G (c.fact 38 (f := .int "MOST_ROADS" 10) rfl)
    i_MOST_SLOPE := He.int_ok X G (c.fact 39 (f := .int "MOST_SLOPE" 100) rfl)
    i_MOST_WAYS := He.int_ok X G (c.fact 40 (f := .int "MOST_WAYS" 20) rfl) }
theorem lawT (w : World) (mg : Str → Option Value) (fa : Addr) (h : Heap) (hl : ∀ (I : ProtC) (C : @Cs I) (a : Addr) (ns : List Int), (a, ns) ∈ C.Z → ns.length ≤ 63 → (∀ z ∈ ns, Builtin.Int.intBits z ≤ 1048576) → (@f_law I C [.v (.ref a)]).run (fun d => d = .bool true) (fun _ => False))
    (Y : hkT.says w h) (G : h.Ns mainGlobals mg) (hm : mg "law" = some (.ref fa)) : ∃ K : PySem.W.Frag, K.In h ∧ LamX.LawAtS PySem.Challenge.rw_tollroads_k91_across_reductions_and_ways w K (L2.CX (PySem.Challenge.rw_tollroads_k91_across_reductions_and_ways).prog w) 9 63 "_law_script" mg fa h := by
  obtain ⟨K, X, c⟩ := Y
  have e := hm.symm.trans (He.glo_ok X G (c.t.d.fact 20 (f := .glo "law") rfl))
  cases e
  obtain ⟨fd, F⟩ := c.t.d.def_ 20 (d := dd_law) rfl
  have b := FunD.bindsA (ps := ["_law_script"]) F fun _ _ _ _ _ _ us hl => match us, hl with | [_], _ => rfl
  have nod : (tgT.map (tabA K) ++ (tlT.map (lmA K)).map (·.1)).Nodup := of_decide_eq_true (Bool.and_eq_true_iff.mp c.more).1
  letI := protT K
  have np : ∀ P ∈ tgT.map (tabA K), ∀ q, ¬ ProtC.p P q := prot_np nod
  have pl : ∀ p ∈ tlT.map (lmA K), ProtC.p p.1 p.2 := fun p hp => hp
  refine ⟨K, X, lawAt (F := fun C => f_law C) (cs := tfT.map (He.cT K)) np pl (fun P hP => ?_) (fun q hq => ?_) (fun p hp => ?_) (fun p hp => ?_) (fun p hp => ?_) (fun s v => b s [v] rfl) (fun base kb gb tb a ns => n_law (tpT X G c tb (List.nodup_append.mp nod).2.1 np pl) F) (hl _)⟩
  · obtain ⟨q, hq, rfl⟩ := List.mem_map.mp hP
    exact ⟨_, List.mem_map_of_mem (f := He.cT K) (List.mem_append_left _ hq), rfl⟩
  · obtain ⟨q', hq', rfl⟩ := List.mem_map.mp hq
    exact ⟨_, List.mem_map_of_mem (f := He.cT K) (List.mem_append_right _ (List.mem_map_of_mem (f := (·.1)) hq')), rfl⟩
  · obtain ⟨q, hq, rfl⟩ := List.mem_map.mp hp
    exact c.empty q hq
  · obtain ⟨q, hq, rfl⟩ := List.mem_map.mp hp
    exact c.out q hq
  · obtain ⟨q, hq, rfl⟩ := List.mem_map.mp hp
    exact PySem.W.codeHd_of_K X (c.hd q hq)
end Tr
open PySem PySem.W PySem.Calls PyProof.Rows
theorem PySem.Challenge.cw_tollroads_k91_across_reductions_and_ways_holds : PySem.Challenge.rw_tollroads_k91_across_reductions_and_ways.Holds := by
  w_on; o_law
  refine HandSHeadRun.head_any (r := Tr.rwT) (q := view Tr.rwT.prog [53]) (H := Tr.hkT) (ob := Tr.obT) (M := 6000) (loose := Tr.looseT) (d := HandSHeadRun.topDef Tr.rwT.prog 53) (kwd := []) Tr.obT_eq
    (by kernel_rfl) (fun s => by kernel_rfl) Tr.runT (by kernel_rfl) (by kernel_rfl) (by kernel_rfl) (by rfl) (by first | assumption | decide +kernel) (by decide +kernel) ⟨rfl, rfl, rfl, rfl, rfl, by decide +kernel⟩ ?hw ?hc
  case hw => w_witness2
  case hc =>
    refine LamX.walk_ofTsE (l := PySem.Challenge.rw_tollroads_k91_across_reductions_and_ways) (n := 63) (k := 9) (x := "_law_script") (CX := L2.CX (PySem.Challenge.rw_tollroads_k91_across_reductions_and_ways).prog) rfl (by decide) (by kernel_rfl) ⟨rfl, by decide, by decide⟩ ?F (letI : Tr.ProtC := ⟨fun _ _ => False⟩; fun _ _ _ _ _ z => Tr.noOut z)
    intro w mg fa h Y G hmg0
    have hmg : mg ("law" : PySem.Str) = some (.ref fa) := by
      have e : (HandSHeadRun.topDef Tr.rwT.prog 53).name = ("law" : PySem.Str) := by kernel_rfl
      rw [← e]
      exact hmg0
    exact Tr.lawT w mg fa h (fun I => @Tr.law_true I) Y G hmg
