import PyProof.Rows.All
import Wide.All
import OpenK.AllK
import Wide.FinOn
import HandS.Base
import HandS.Call
import HandS.List
import HandS.Comp
import HandS.Words
import HandS.WordsList
import HandS.Exc
import HandS.AnyAll
import HandS.ExcOwn
import HandS.WordsExc
import HandS.IsInst
import HandS.Wide
import HandS.Gcd
import HandS.Deep
import HandS.Flow
import HandS.TupAny
import HandS.Text
import HandS.Walk
import HandS.Iter
import HandS.Zip
import HandS.Defaults
import KE.KNest
import HandS.GenOver
import HandS.GenList
import HandS.HeadHook4
import HandS.Lambda
import KE.KStateDown
import HandS.EndTab
import HandS.HeadWalk
import HandS.Head0
import HandS.Head1
import HandS.Head2
import HandS.HeadEnd
import HandS.Head3
import HandS.Star
import KE.GoesMore
import KE.GoesZip
import HandS.TupLe
import PySem.Challenge.RW_tollroads_k88_across_leaders_in_scale
set_option Elab.async false
set_option linter.all false
set_option maxRecDepth 100000
set_option maxHeartbeats 4000000
namespace Tr
open PySem PySem.Spec L2

abbrev D := PyData

/-! ## heaps that grow -/
def Le (H G : Hp) : Prop := ∀ b u, H b = some u → (∀ ps, u ≠ HO.tbl ps) → G b = some u
theorem Le.refl (H : Hp) : Le H H := fun _ _ e _ => e
theorem Le.trans {H G F : Hp} (a : Le H G) (b : Le G F) : Le H F := fun c u e n => b c u (a c u e n) n
theorem Le.rd {H G : Hp} {a : Addr} {u : HO} (l : Le H G) (nt : ∀ ps, u ≠ HO.tbl ps) (r : Rd H a u) : Rd G a u := by
  rcases r with r | ⟨o, r⟩
  · exact .inl (l a u r nt)
  · exact .inr ⟨o, l a _ r fun ps z => by cases z⟩
theorem Le.sqL {K : PySem.W.Frag} {H G : Hp} {a : Addr} {xs : List V} (l : Le H G) (r : SqL K H a xs) : SqL K G a xs := by
  rcases r with r | r
  · exact .inl (l.rd (fun ps z => by cases z) r)
  · exact .inr r
theorem Le.sqT {K : PySem.W.Frag} {H G : Hp} {a : Addr} {xs : List V} (l : Le H G) (r : SqT K H a xs) : SqT K G a xs := by
  rcases r with r | r
  · exact .inl (l.rd (fun ps z => by cases z) r)
  · exact .inr r
mutual
theorem Le.dp {K : PySem.W.Frag} {H G : Hp} (l : Le H G) : ∀ (d : D) (v : V), Dp K H v d → Dp K G v d
  | .none, _, h => by cases h; exact .non
  | .bool b, _, h => by cases h; exact .bl b
  | .int i, _, h => by cases h; exact .int i
  | .str x, _, h => by cases h; exact .str x
  | .list ds, _, h => by
    cases h with
    | lst s a => exact .lst (l.sqL s) (Le.dps l ds _ a)
  | .tuple ds, _, h => by
    cases h with
    | tup s a => exact .tup (l.sqT s) (Le.dps l ds _ a)
  | .dict _, _, h => by cases h
theorem Le.dps {K : PySem.W.Frag} {H G : Hp} (l : Le H G) : ∀ (ds : List D) (vs : List V), DpAll K H vs ds → DpAll K G vs ds
  | [], _, h => by cases h; exact .nil
  | d :: ds, _, h => by
    cases h with
    | cons a b => exact .cons (Le.dp l d _ a) (Le.dps l ds _ b)
end

/-- the heap behind: what was tracked stands, the tables of codes stay tables -/
structure Grow (H G : Hp) : Prop where
  le : Le H G
  tb : ∀ P, GxR.TabG H P → GxR.TabG G P
  dm : ∀ b, H b ≠ none → G b ≠ none
theorem Grow.refl (H : Hp) : Grow H H := ⟨Le.refl H, fun _ h => h, fun _ h => h⟩
theorem Grow.trans {H G F : Hp} (a : Grow H G) (b : Grow G F) : Grow H F := ⟨a.le.trans b.le, fun P h => b.tb P (a.tb P h), fun c h => b.dm c (a.dm c h)⟩
theorem Grow.new {H : Hp} {p : Addr} {u : HO} (n : H p = none) : Grow H (upd H p u) := by
  have ne : ∀ b w, H b = some w → b ≠ p := fun b w e => ne_of_none e n
  refine ⟨fun b w e _ => by rw [upd_ne (ne b w e)]; exact e, fun P h => ?_, fun b h => ?_⟩
  · obtain ⟨ps, e, t⟩ := h
    exact ⟨ps, by rw [upd_ne (ne P _ e)]; exact e, t⟩
  · by_cases c : b = p
    · rw [c, upd_same]; exact fun z => nomatch z
    · rw [upd_ne c]; exact h
theorem Grow.free {H G : Hp} {p : Addr} (g : Grow H G) (n : G p = none) : H p = none := by
  cases e : H p with
  | none => rfl
  | some u => exact absurd n (g.dm p (by rw [e]; exact fun z => nomatch z))

/-- a heap without the addresses in S -/
noncomputable def hid (S : Addr → Prop) (H : Hp) : Hp := fun b => open Classical in if S b then none else H b
theorem hid_in {S : Addr → Prop} {H : Hp} {b : Addr} (h : ¬ S b) : hid S H b = H b := by unfold hid; rw [if_neg h]
theorem hid_out {S : Addr → Prop} {H : Hp} {b : Addr} (h : S b) : hid S H b = none := by unfold hid; rw [if_pos h]
theorem of_hid {S : Addr → Prop} {H : Hp} {b : Addr} {u : HO} (h : hid S H b = some u) : ¬ S b ∧ H b = some u := by
  by_cases c : S b
  · rw [hid_out c] at h; cases h
  · rw [hid_in c] at h; exact ⟨c, h⟩
theorem hid_le {S S' : Addr → Prop} {H G : Hp} (l : Le H G) (s : ∀ b, S' b → S b) : Le (hid S H) (hid S' G) := fun b u e n => by
  obtain ⟨h1, h2⟩ := of_hid e
  rw [hid_in fun z => h1 (s b z)]
  exact l b u h2 n
theorem hid_sub {S : Addr → Prop} {H : Hp} : Le (hid S H) H := fun b u e _ => (of_hid e).2
theorem hid_none {H : Hp} : hid (fun _ => False) H = H := by funext b; exact hid_in id

/-! ## what is wanted of a run: weakest preconditions over data -/
/-- an exception of an own class: its name, its one field -/
structure Exn where
  cls : Str
  fld : Option (Str × D)
structure Wp (A : Type) where
  run : (A → Prop) → (Exn → Prop) → Prop
  mono : ∀ {k k' : A → Prop} {e e' : Exn → Prop}, (∀ a, k a → k' a) → (∀ x, e x → e' x) → run k e → run k' e'
def Wp.pure {A : Type} (a : A) : Wp A := ⟨fun k _ => k a, fun h _ r => h _ r⟩
def Wp.stuck {A : Type} : Wp A := ⟨fun _ _ => False, fun _ _ r => r⟩
def Wp.ex {A : Type} (x : Exn) : Wp A := ⟨fun _ e => e x, fun _ h r => h _ r⟩
def Wp.bind {A C : Type} (m : Wp A) (f : A → Wp C) : Wp C := ⟨fun k e => m.run (fun a => (f a).run k e) e, fun h1 h2 r => m.mono (fun a q => (f a).mono h1 h2 q) h2 r⟩
/-- any a with P -/
def Wp.any {A : Type} (P : A → Prop) : Wp A := ⟨fun k _ => ∀ a, P a → k a, fun h _ r a p => h a (r a p)⟩
/-- a condition, then a -/
def Wp.need {A : Type} (c : Prop) (m : Wp A) : Wp A := ⟨fun k e => c ∧ m.run k e, fun h1 h2 r => ⟨r.1, m.mono h1 h2 r.2⟩⟩
section
variable {A C : Type} {k : A → Prop} {e : Exn → Prop}
@[simp] theorem run_pure {a : A} : (Wp.pure a).run k e = k a := rfl
@[simp] theorem run_stuck : (Wp.stuck : Wp A).run k e = False := rfl
@[simp] theorem run_ex {x : Exn} : (Wp.ex x : Wp A).run k e = e x := rfl
@[simp] theorem run_bind {k : C → Prop} {m : Wp A} {f : A → Wp C} : (m.bind f).run k e = m.run (fun a => (f a).run k e) e := rfl
@[simp] theorem run_any {P : A → Prop} : (Wp.any P).run k e = ∀ a, P a → k a := rfl
@[simp] theorem run_need {c : Prop} {m : Wp A} : (Wp.need c m).run k e = (c ∧ m.run k e) := rfl
@[simp] theorem pure_bind {a : A} {f : A → Wp C} : (Wp.pure a).bind f = f a := rfl
theorem run_ite {c : Prop} [Decidable c] {m n : Wp A} : (if c then m else n).run k e = if c then m.run k e else n.run k e := by split <;> rfl
end

/-! ## slots -/
/-- a slot: no value; data that stays; a list of the def's own, new; any value; an object that is told by a property -/
inductive Sl where
  | non
  | p (d : D)
  | o (ds : List D)
  | v (x : V)
  | t (a : Addr) (φ : Heap → Prop)
abbrev De := List Sl

/-- what is fixed in a def's body: the written part, the module's names, tables, the heap at the entry, hidden addresses -/
structure Cs where
  K : PySem.W.Frag
  mg : Str → Option Value
  T : List Addr
  Z : List (Addr × List Int)
structure Bx where
  c : Cs
  S : Addr → Prop
  H : Hp
abbrev Cs.bx (C : Cs) (S : Addr → Prop) (H : Hp) : Bx := ⟨C, S, H⟩
def Own (B : Bx) (σ : St) (δ : De) (b : Addr) : Prop := B.S b ∨ ∃ (i : Nat) (ds : List D), δ[i]? = some (Sl.o ds) ∧ σ[i]? = some (some (V.ref b))
structure Rep (B : Bx) (Pb : Hp) (σ : St) (H : Hp) (δ : De) : Prop where
  ph : Le Pb (hid (Own B σ δ) H)
  len : σ.length = δ.length
  grow : Grow B.H H
  dom : ∀ b, B.S b → B.H b ≠ none
  tabs : ∀ P ∈ B.c.T, GxR.TabG H P
  pers : ∀ (i : Nat) (d : D), δ[i]? = some (Sl.p d) → ∃ v, σ[i]? = some (some v) ∧ Dp B.c.K (hid (Own B σ δ) H) v d
  own : ∀ (i : Nat) (ds : List D), δ[i]? = some (Sl.o ds) → ∃ a xs, σ[i]? = some (some (V.ref a)) ∧ H a = some (.lst xs) ∧ B.H a = none ∧ DpAll B.c.K (hid (Own B σ δ) H) xs ds
  uniq : ∀ (i j : Nat) (ds es : List D) (a : Addr), δ[i]? = some (Sl.o ds) → δ[j]? = some (Sl.o es) → σ[i]? = some (some (V.ref a)) → σ[j]? = some (some (V.ref a)) → i = j
  val : ∀ (i : Nat) (x : V), δ[i]? = some (Sl.v x) → σ[i]? = some (some x)
  trk : ∀ (i : Nat) (a : Addr) (φ : Heap → Prop), δ[i]? = some (Sl.t a φ) → σ[i]? = some (some (V.ref a)) ∧ hid (Own B σ δ) H a = some (.ext φ)
  scr : ∀ q ∈ B.c.Z, SqL B.c.K B.H q.1 (q.2.map V.int)
theorem Rep.gr {B : Bx} {Pb : Hp} {σ : St} {H G : Hp} {δ : De} (r : Rep B Pb σ H δ) (g : Grow H G) : Rep B Pb σ G δ where
  ph := r.ph.trans (hid_le g.le fun _ z => z)
  len := r.len
  grow := r.grow.trans g
  dom := r.dom
  tabs := fun P h => g.tb P (r.tabs P h)
  pers := fun i d e => by
    obtain ⟨v, h1, h2⟩ := r.pers i d e
    exact ⟨v, h1, Le.dp (hid_le g.le fun _ z => z) d v h2⟩
  own := fun i ds e => by
    obtain ⟨a, xs, h1, h2, h3, h4⟩ := r.own i ds e
    exact ⟨a, xs, h1, g.le a _ h2 (fun ps z => by cases z), h3, Le.dps (hid_le g.le fun _ z => z) ds xs h4⟩
  uniq := r.uniq
  val := r.val
  trk := fun i a φ e => ⟨(r.trk i a φ e).1, hid_le g.le (fun _ z => z) a _ (r.trk i a φ e).2 fun ps z => by cases z⟩
  scr := r.scr
/-- an exception as it lies: class, own dict -/
def ExAt (B : Bx) (x : Exn) (cls : Value) (dc : Option Addr) (H : Hp) : Prop :=
  (∃ C, B.c.mg x.cls = some (.ref C) ∧ cls = .ref C) ∧ match x.fld with
    | none => dc = none
    | some (n, d) => ∃ a v, dc = some a ∧ H a = some (.xd [(n, v)]) ∧ Dp B.c.K (hid B.S H) v d
/-- data wanted behind an expression; an exception wanted -/
def Dv (B : Bx) (σ : St) (H : Hp) (δ : De) (Q : VK) (d : D) : Prop := ∀ v G, Grow H G → Dp B.c.K (hid (Own B σ δ) G) v d → Q v G
def Ew (B : Bx) (W : WX) (σ : St) (H : Hp) (x : Exn) : Prop := ∀ cls dc G, Grow H G → ExAt B x cls dc G → W cls dc σ G
theorem Dv.gr {B : Bx} {σ : St} {H G : Hp} {δ : De} {Q : VK} {d : D} (h : Dv B σ H δ Q d) (g : Grow H G) : Dv B σ G δ Q d := fun v F g' => h v F (g.trans g')
theorem Ew.gr {B : Bx} {W : WX} {σ : St} {H G : Hp} {x : Exn} (h : Ew B W σ H x) (g : Grow H G) : Ew B W σ G x := fun c d F g' => h c d F (g.trans g')

/-! ## expressions -/
abbrev DF := De → Wp D
def DE (X : Cx) (C : Cs) (W : WX) (e : Expr) (f : DF) : Prop :=
  ∃ t, PE X e t ∧ ∀ S0 H0 Pb σ H δ Q, Rep (C.bx S0 H0) Pb σ H δ → (f δ).run (Dv (C.bx S0 H0) σ H δ Q) (Ew (C.bx S0 H0) W σ H) → t σ H Q
/-- dead code -/
theorem de_dead {X : Cx} {C : Cs} {W : WX} {e : Expr} : DE X C W e fun _ => .stuck := ⟨fun _ _ _ => False, ⟨fun _ _ _ _ _ _ h => h.elim⟩, fun _ _ _ _ _ _ _ _ h => h⟩
def dC (d : D) : DF := fun _ => .pure d
def slotP : Option Sl → Wp D
  | some (.p d) => .pure d
  | _ => .stuck
def dV (i : Nat) : DF := fun δ => slotP δ[i]?
/-- f, then g, then F -/
def d2 (F : D → D → Wp D) (f g : DF) : DF := fun δ => (f δ).bind fun d => (g δ).bind fun e => F d e
def d1 (F : D → Wp D) (f : DF) : DF := fun δ => (f δ).bind F
section
variable {X : Cx} {C : Cs} {W : WX} {pos : Pos}
theorem de_int {i : Int} {j} : DE X C W (.Constant (.int i) j pos) (dC (.int i)) := ⟨_, pe_int, fun _ _ _ _ H _ _ _ h => h _ H (Grow.refl H) (.int i)⟩
theorem de_bl {b : Bool} {j} : DE X C W (.Constant (.bool b) j pos) (dC (.bool b)) := ⟨_, pe_bl, fun _ _ _ _ H _ _ _ h => h _ H (Grow.refl H) (.bl b)⟩
theorem de_non {j} : DE X C W (.Constant .none j pos) (dC .none) := ⟨_, pe_non, fun _ _ _ _ H _ _ _ h => h _ H (Grow.refl H) .non⟩
theorem de_str {x : Str} {j} : DE X C W (.Constant (.str x) j pos) (dC (.str x)) := ⟨_, pe_str, fun _ _ _ _ H _ _ _ h => h _ H (Grow.refl H) (.str x)⟩
theorem de_v {i : Nat} {x : Str} (hN : X.N[i]? = some x) (hv : Vis X.env.scope x) (hd : (x == ("__debug__" : Str)) = false := by decide) (hcd : (x == ("__classdict__" : Str)) = false := by decide) : DE X C W (.Name x pos) (dV i) := by
  refine ⟨_, pe_var hN hv hd hcd, fun S0 H0 Pb σ H δ Q r h => ?_⟩
  unfold dV at h
  cases e : δ[i]? with
  | none => rw [e] at h; exact h.elim
  | some z =>
    rw [e] at h
    cases z with
    | non => exact h.elim
    | o ds => exact h.elim
    | v x => exact h.elim
    | t a φ => exact h.elim
    | p d =>
      obtain ⟨v, h1, h2⟩ := r.pers i d e
      exact ⟨v, h1, h v H (Grow.refl H) h2⟩
/-- a module's constant -/
theorem de_glob {x : Str} {v : V} {u : Value} {d : D} (hg : Gl X x) (hm : X.mg x = some u) (r : RelV v u) (hdp : ∀ H, Dp C.K H v d) (hd : (x == ("__debug__" : Str)) = false := by decide) : DE X C W (.Name x pos) (dC d) :=
  ⟨_, pe_glob hg hm r hd, fun _ _ _ _ H _ _ _ h => h v H (Grow.refl H) (hdp _)⟩

/-- an operation by values, told over data -/
def Op2 (X : Cx) (C : Cs) (r : R2) (F : D → D → Wp D) : Prop := ∀ (x y : V) (H : Hp) (d e : D) (Q : VK) (S0 : Addr → Prop) (H0 Pb : Hp) (σ : St) (δ : De) (W : Exn → Prop), Rep (C.bx S0 H0) Pb σ H δ → Dp C.K (hid (Own (C.bx S0 H0) σ δ) H) x d → Dp C.K (hid (Own (C.bx S0 H0) σ δ) H) y e → (F d e).run (Dv (C.bx S0 H0) σ H δ Q) W → r x y H Q
theorem two {a b : Expr} {f g : DF} {F : D → D → Wp D} {r : R2} (ha : DE X C W a f) (hb : DE X C W b g) (hF : Op2 X C r F) :
    ∃ ta tb, PE X a ta ∧ PE X b tb ∧ ∀ S0 H0 Pb σ H δ Q, Rep (C.bx S0 H0) Pb σ H δ → (d2 F f g δ).run (Dv (C.bx S0 H0) σ H δ Q) (Ew (C.bx S0 H0) W σ H) → tOp r ta tb σ H Q := by
  obtain ⟨ta, pa, qa⟩ := ha
  obtain ⟨tb, pb, qb⟩ := hb
  refine ⟨ta, tb, pa, pb, fun S0 H0 Pb σ H δ Q R h => qa S0 H0 Pb σ H δ _ R ((f δ).mono (fun d h x H1 g1 dx => ?_) (fun _ z => z) h)⟩
  refine qb S0 H0 Pb σ H1 δ _ (R.gr g1) ((g δ).mono (fun e h y H2 g2 dy => ?_) (fun _ z => z.gr g1) h)
  exact hF x y H2 d e Q S0 H0 Pb σ δ _ (R.gr (g1.trans g2)) (Le.dp (hid_le g2.le fun _ z => z) d x dx) dy ((F d e).mono (fun _ z => z.gr (g1.trans g2)) (fun _ z => z) h)
theorem de_op {op : Operator} {a b : Expr} {f g : DF} {F : D → D → Wp D} {r : R2} (ho : OpR X (binaryOp op) r) (hF : Op2 X C r F) (ha : DE X C W a f) (hb : DE X C W b g) : DE X C W (.BinOp a op b pos) (d2 F f g) := by
  obtain ⟨ta, tb, pa, pb, q⟩ := two ha hb hF
  exact ⟨_, pe_op ho pa pb, q⟩
theorem de_cmp {op : CmpOp} {a b : Expr} {f g : DF} {F : D → D → Wp D} {r : R2} (ho : OpR X (compareOp op) r) (hF : Op2 X C r F) (hm : behindInMarks op b = false) (ha : DE X C W a f) (hb : DE X C W b g) : DE X C W (.Compare a [op] [b] pos) (d2 F f g) := by
  obtain ⟨ta, tb, pa, pb, q⟩ := two ha hb hF
  exact ⟨_, pe_cmpR ho pa pb hm, q⟩
end
end Tr

set_option Elab.async false
set_option linter.all false
set_option maxRecDepth 100000
set_option maxHeartbeats 4000000
namespace Tr
open PySem PySem.Spec L2

/-! ## operations on data -/
theorem any_mono {A C : Prop} (h : A → C) (a : A) : C := h a
section
variable {X : Cx} {C : Cs} {W : WX} {pos : Pos}
theorem op2_int {r : R2} {g : Int → Int → V} {c : Int → Int → Prop} {F : D → D → Wp D} {q : Int → Int → D}
    (hr : ∀ i j H Q, c i j → Q (g i j) H → r (.int i) (.int j) H Q) (hg : ∀ i j H, Dp C.K H (g i j) (q i j))
    (hF : ∀ d e k w, (F d e).run k w → ∃ i j, d = .int i ∧ e = .int j ∧ c i j ∧ k (q i j)) : Op2 X C r F := by
  intro x y H d e Q S0 H0 Pb σ δ w R dx dy h
  obtain ⟨i, j, rfl, rfl, hc, hk⟩ := hF d e _ _ h
  cases dx
  cases dy
  exact hr i j H Q hc (hk _ H (Grow.refl H) (hg i j _))
end
def dInt2 (c : Int → Int → Prop) (q : Int → Int → D) : D → D → Wp D
  | .int i, .int j => .need (c i j) (.pure (q i j))
  | _, _ => .stuck
theorem dInt2_inv {c : Int → Int → Prop} {q : Int → Int → D} {d e : D} {k : D → Prop} {w : Exn → Prop} (h : (dInt2 c q d e).run k w) : ∃ i j, d = .int i ∧ e = .int j ∧ c i j ∧ k (q i j) := by
  unfold dInt2 at h
  split at h
  · exact ⟨_, _, rfl, rfl, h.1, h.2⟩
  · exact h.elim
abbrev dSub : D → D → Wp D := dInt2 (fun _ _ => True) fun i j => .int (i - j)
abbrev dMul : D → D → Wp D := dInt2 CMulW fun i j => .int (i * j)
abbrev dFdv : D → D → Wp D := dInt2 CDivW fun i j => .int (i / j)
abbrev dMod : D → D → Wp D := dInt2 (fun _ j => 0 < j) fun i j => .int (i % j)
abbrev dPow : D → D → Wp D := dInt2 CPow fun i j => .int (i ^ j.toNat)
abbrev dLt : D → D → Wp D := dInt2 (fun _ _ => True) fun i j => .bool (decide (i < j))
abbrev dLe : D → D → Wp D := dInt2 (fun _ _ => True) fun i j => .bool (decide (i ≤ j))
abbrev dGt : D → D → Wp D := dInt2 (fun _ _ => True) fun i j => .bool (decide (j < i))
abbrev dGe : D → D → Wp D := dInt2 (fun _ _ => True) fun i j => .bool (decide (j ≤ i))
def dAdd : D → D → Wp D
  | .int i, .int j => .pure (.int (i + j))
  | .tuple xs, .tuple ys => .need (xs.length + ys.length ≤ sizeLine) (.pure (.tuple (xs ++ ys)))
  | .list xs, .list ys => .need (xs.length + ys.length ≤ sizeLine) (.pure (.list (xs ++ ys)))
  | .str x, .str y => .need (x.length + y.length ≤ sizeLine) (.pure (.str (x ++ y)))
  | _, _ => .stuck
def dEq : D → D → Wp D := fun d e => .need (SeqAt.shaped d = true ∧ SeqAt.shaped e = true) (.pure (.bool (PyData.eqv d e)))
def dNe : D → D → Wp D := fun d e => .need (SeqAt.shaped d = true ∧ SeqAt.shaped e = true) (.pure (.bool (!PyData.eqv d e)))
def dIn : D → D → Wp D
  | d, .list ds => .need (SeqAt.shaped d = true ∧ SeqAt.shaped (.list ds) = true) (.pure (.bool (ds.any fun z => PyData.eqv z d)))
  | _, _ => .stuck
def dNotIn : D → D → Wp D
  | d, .list ds => .need (SeqAt.shaped d = true ∧ SeqAt.shaped (.list ds) = true) (.pure (.bool (!ds.any fun z => PyData.eqv z d)))
  | _, _ => .stuck
def isNoneD : D → Bool
  | .none => true
  | _ => false
def dIs : D → D → Wp D
  | d, .none => .pure (.bool (isNoneD d))
  | _, _ => .stuck
def dIsNot : D → D → Wp D
  | d, .none => .pure (.bool (!isNoneD d))
  | _, _ => .stuck
theorem hid_dp {K : PySem.W.Frag} {S : Addr → Prop} {H : Hp} {v : V} {d : D} (h : Dp K (hid S H) v d) : Dp K H v d := Le.dp hid_sub d v h
theorem hid_dps {K : PySem.W.Frag} {S : Addr → Prop} {H : Hp} {vs : List V} {ds : List D} (h : DpAll K (hid S H) vs ds) : DpAll K H vs ds := Le.dps hid_sub ds vs h
theorem dps_len {K : PySem.W.Frag} {H : Hp} : ∀ {vs : List V} {ds : List D}, DpAll K H vs ds → vs.length = ds.length
  | [], _, h => by cases h; rfl
  | v :: vs, _, h => by
    cases h with
    | cons a b => rw [List.length_cons, List.length_cons, dps_len b]
theorem dps_app {K : PySem.W.Frag} {H : Hp} : ∀ {vs us : List V} {ds es : List D}, DpAll K H vs ds → DpAll K H us es → DpAll K H (vs ++ us) (ds ++ es)
  | [], _, _, _, h, g => by cases h; exact g
  | v :: vs, _, _, _, h, g => by
    cases h with
    | cons a b => exact .cons a (dps_app b g)
theorem dps_get {K : PySem.W.Frag} {H : Hp} : ∀ {vs : List V} {ds : List D} {i : Nat} {d : D}, DpAll K H vs ds → ds[i]? = some d → ∃ v, vs[i]? = some v ∧ Dp K H v d
  | [], _, _, _, h, e => by cases h; simp at e
  | v :: vs, _, 0, d, h, e => by
    cases h with
    | cons a b => exact ⟨v, rfl, by simp at e; subst e; exact a⟩
  | v :: vs, _, i + 1, d, h, e => by
    cases h with
    | cons a b => obtain ⟨u, h1, h2⟩ := dps_get (i := i) b (by simpa using e); exact ⟨u, by simpa using h1, h2⟩
theorem dps_take {K : PySem.W.Frag} {H : Hp} : ∀ {vs : List V} {ds : List D} (n : Nat), DpAll K H vs ds → DpAll K H (vs.take n) (ds.take n)
  | _, _, 0, _ => .nil
  | [], _, n + 1, h => by cases h; exact .nil
  | v :: vs, _, n + 1, h => by
    cases h with
    | cons a b => exact .cons a (dps_take n b)
theorem dps_drop {K : PySem.W.Frag} {H : Hp} : ∀ {vs : List V} {ds : List D} (n : Nat), DpAll K H vs ds → DpAll K H (vs.drop n) (ds.drop n)
  | _, _, 0, h => h
  | [], _, n + 1, h => by cases h; exact .nil
  | v :: vs, _, n + 1, h => by
    cases h with
    | cons a b => exact dps_drop n b
/-- a new tuple, a new list -/
theorem new_tup {B : Bx} {Pb : Hp} {σ : St} {H : Hp} {δ : De} {Q : VK} {xs : List V} {ds : List D} (R : Rep B Pb σ H δ) (h : DpAll B.c.K (hid (Own B σ δ) H) xs ds) (k : Dv B σ H δ Q (.tuple ds)) : ∀ p, H p = none → Q (.ref p) (upd H p (.tup xs)) := by
  intro p n
  have g : Grow H (upd H p (.tup xs)) := Grow.new n
  refine k _ _ g (.tup (SqT.of ?_) (Le.dps (hid_le g.le fun _ z => z) ds xs h))
  rw [hid_in, upd_same]
  rintro (z | ⟨i, es, e1, e2⟩)
  · exact R.grow.dm p (R.dom p z) n
  · obtain ⟨a, ys, q1, q2, _⟩ := R.own i es e1
    rw [e2] at q1
    cases q1
    rw [n] at q2
    cases q2
theorem new_lst {B : Bx} {Pb : Hp} {σ : St} {H : Hp} {δ : De} {Q : VK} {xs : List V} {ds : List D} (R : Rep B Pb σ H δ) (h : DpAll B.c.K (hid (Own B σ δ) H) xs ds) (k : Dv B σ H δ Q (.list ds)) : ∀ p, H p = none → Q (.ref p) (upd H p (.lst xs)) := by
  intro p n
  have g : Grow H (upd H p (.lst xs)) := Grow.new n
  refine k _ _ g (.lst (SqL.of ?_) (Le.dps (hid_le g.le fun _ z => z) ds xs h))
  rw [hid_in, upd_same]
  rintro (z | ⟨i, es, e1, e2⟩)
  · exact R.grow.dm p (R.dom p z) n
  · obtain ⟨a, ys, q1, q2, _⟩ := R.own i es e1
    rw [e2] at q1
    cases q1
    rw [n] at q2
    cases q2
section
variable {X : Cx} {C : Cs} {W : WX} {pos : Pos}
theorem o2_int {r : R2} {g : Int → Int → V} {c : Int → Int → Prop} {q : Int → Int → D} (hr : ∀ i j H Q, c i j → Q (g i j) H → r (.int i) (.int j) H Q) (hg : ∀ i j H, Dp C.K H (g i j) (q i j)) : Op2 X C r (dInt2 c q) :=
  op2_int hr hg fun _ _ _ _ h => dInt2_inv h
theorem o2_0 {g : Int → Int → V} {q : Int → Int → D} (hg : ∀ i j H, Dp C.K H (g i j) (q i j)) : Op2 X C (rI0 g) (dInt2 (fun _ _ => True) q) := o2_int (fun i j H Q _ h => ⟨i, j, rfl, rfl, h⟩) hg
theorem o2_c {c : Int → Int → Prop} {g : Int → Int → V} {q : Int → Int → D} (hg : ∀ i j H, Dp C.K H (g i j) (q i j)) : Op2 X C (rI c g) (dInt2 c q) := o2_int (fun i j H Q hc h => ⟨i, j, rfl, rfl, hc, h⟩) hg
variable {a b : Expr} {f g : DF}
theorem de_sub (ha : DE X C W a f) (hb : DE X C W b g) : DE X C W (.BinOp a .Sub b pos) (d2 dSub f g) := de_op op_sub (o2_0 fun _ _ _ => .int _) ha hb
theorem de_mul (ha : DE X C W a f) (hb : DE X C W b g) : DE X C W (.BinOp a .Mult b pos) (d2 dMul f g) := de_op op_mulW (o2_c fun _ _ _ => .int _) ha hb
theorem de_fdv (ha : DE X C W a f) (hb : DE X C W b g) : DE X C W (.BinOp a .FloorDiv b pos) (d2 dFdv f g) := de_op op_fdivW (o2_c fun _ _ _ => .int _) ha hb
theorem de_mod (ha : DE X C W a f) (hb : DE X C W b g) : DE X C W (.BinOp a .Mod b pos) (d2 dMod f g) := de_op op_mod (o2_c fun _ _ _ => .int _) ha hb
theorem de_pow (ha : DE X C W a f) (hb : DE X C W b g) : DE X C W (.BinOp a .Pow b pos) (d2 dPow f g) := de_op op_pow (o2_c fun _ _ _ => .int _) ha hb
theorem de_lt (ha : DE X C W a f) (hb : DE X C W b g) : DE X C W (.Compare a [.Lt] [b] pos) (d2 dLt f g) := de_cmp op_lt (o2_0 fun _ _ _ => .bl _) (nomark _) ha hb
theorem de_le (ha : DE X C W a f) (hb : DE X C W b g) : DE X C W (.Compare a [.LtE] [b] pos) (d2 dLe f g) := de_cmp op_le (o2_0 fun _ _ _ => .bl _) (nomark _) ha hb
theorem de_gt (ha : DE X C W a f) (hb : DE X C W b g) : DE X C W (.Compare a [.Gt] [b] pos) (d2 dGt f g) := de_cmp op_gt (o2_0 fun _ _ _ => .bl _) (nomark _) ha hb
theorem de_ge (ha : DE X C W a f) (hb : DE X C W b g) : DE X C W (.Compare a [.GtE] [b] pos) (d2 dGe f g) := de_cmp op_ge (o2_0 fun _ _ _ => .bl _) (nomark _) ha hb
theorem o2_eq : Op2 X C (rEqD C.K) dEq := fun x y H d e Q S0 H0 Pb σ δ w R dx dy h => ⟨d, e, hid_dp dx, hid_dp dy, h.1.1, h.1.2, h.2 _ H (Grow.refl H) (.bl _)⟩
theorem o2_ne : Op2 X C (rNeD C.K) dNe := fun x y H d e Q S0 H0 Pb σ δ w R dx dy h => ⟨d, e, hid_dp dx, hid_dp dy, h.1.1, h.1.2, h.2 _ H (Grow.refl H) (.bl _)⟩
theorem de_eq (hK : C.K = X.K) {k : Nat} (hr : Room k X.A) (ha : DE X C W a f) (hb : DE X C W b g) : DE X C W (.Compare a [.Eq] [b] pos) (d2 dEq f g) := de_cmp (op_eqD hr.units) (by rw [← hK]; exact o2_eq) (nomark _) ha hb
theorem de_ne (hK : C.K = X.K) {k : Nat} (hr : Room k X.A) (ha : DE X C W a f) (hb : DE X C W b g) : DE X C W (.Compare a [.NotEq] [b] pos) (d2 dNe f g) := de_cmp (op_neD hr.units) (by rw [← hK]; exact o2_ne) (nomark _) ha hb
theorem room65 {k : Nat} {A : Around} (hr : Room k A) : A.units + 65 < cLine := by have := hr.un; omega
theorem o2_in : Op2 X C (rInD C.K) dIn := by
  intro x y H d e Q S0 H0 Pb σ δ w R dx dy h
  unfold dIn at h
  split at h
  · exact ⟨_, _, hid_dp dx, hid_dp dy, h.1.1, h.1.2, h.2 _ H (Grow.refl H) (.bl _)⟩
  · exact h.elim
theorem o2_notIn : Op2 X C (rNotInD C.K) dNotIn := by
  intro x y H d e Q S0 H0 Pb σ δ w R dx dy h
  unfold dNotIn at h
  split at h
  · exact ⟨_, _, hid_dp dx, hid_dp dy, h.1.1, h.1.2, h.2 _ H (Grow.refl H) (.bl _)⟩
  · exact h.elim
theorem isNoneD_v {K : PySem.W.Frag} {H : Hp} {v : V} {d : D} (h : Dp K H v d) : decide (v = V.non) = isNoneD d := by
  cases h <;> simp [isNoneD]
theorem de_is (ha : DE X C W a f) (hb : DE X C W b g) : DE X C W (.Compare a [.Is] [b] pos) (d2 dIs f g) := by
  refine de_cmp op_isN (fun x y H d e Q S0 H0 Pb σ δ w R dx dy h => ?_) (nomark _) ha hb
  unfold dIs at h
  split at h
  · cases dy
    refine ⟨rfl, ?_⟩
    rw [isNoneD_v dx]
    exact h _ H (Grow.refl H) (.bl _)
  · exact h.elim
theorem de_isNot (ha : DE X C W a f) (hb : DE X C W b g) : DE X C W (.Compare a [.IsNot] [b] pos) (d2 dIsNot f g) := by
  refine de_cmp op_notN (fun x y H d e Q S0 H0 Pb σ δ w R dx dy h => ?_) (nomark _) ha hb
  unfold dIsNot at h
  split at h
  · cases dy
    refine ⟨rfl, ?_⟩
    rw [isNoneD_v dx]
    exact h _ H (Grow.refl H) (.bl _)
  · exact h.elim
/-- list + list, wherever they lie -/
def rCatL (K : PySem.W.Frag) : R2 := fun x y H Q => ∃ l b xs zs, x = .ref l ∧ y = .ref b ∧ SqL K H l xs ∧ SqL K H b zs ∧ xs.length + zs.length ≤ sizeLine ∧ ∀ p, H p = none → Q (.ref p) (upd H p (.lst (xs ++ zs)))
theorem op_catL : OpR X (binaryOp .Add) (rCatL X.K) := by
  intro pins s σ H x y v u Q I rx ry h
  obtain ⟨l, b, xs, zs, rfl, rfl, hl, hb, hz, q⟩ := h
  cases rx
  cases ry
  obtain ⟨its, r1, ⟨⟨c1, d1, t1, sl1⟩, n1, e1, hc1, _, hd1⟩, z1⟩ := I.list hl
  obtain ⟨its2, r2, ⟨⟨c2, d2, t2, sl2⟩, n2, e2, hc2, _, hd2⟩, z2⟩ := I.list hb
  simp only at hc1 hd1 hc2 hd2
  subst hc1 hd1 hc2 hd2
  have k1 := r1.length
  have k2 := r2.length
  have hs : its.toArray.size + its2.toArray.size ≤ sizeLine := by rw [List.size_toArray, List.size_toArray]; omega
  refine concat_meets ⟨_, e1, rfl⟩ ⟨_, e2, rfl⟩ noFill_list_add seq_list_add PySem.F.slot_list_add PySem.F.entry_list_add (PySem.F.args_list_add_2 _ _) (PyProof.Rows.list_addW l b its.toArray its2.toArray n1 n2 _ _ sl1 sl2 hs) ⟨e1, e2, ?_⟩
  have ea : its.toArray ++ its2.toArray = (its ++ its2).toArray := by simp
  rw [ea]
  exact ⟨.ref _, _, I.lnew (t' := s.toks) (r1.append r2) (by rw [List.length_append]; exact hz), rfl, q _ I.fresh⟩
theorem o2_add : Op2 X C (fun x y H Q => rI0 (fun i j => .int (i + j)) x y H Q ∨ (rCatA C.K x y H Q ∨ (rCatL C.K x y H Q ∨ ∃ i j, x = .str i ∧ y = .str j ∧ i.length + j.length ≤ sizeLine ∧ Q (.str (i ++ j)) H))) dAdd := by
  intro x y H d e Q S0 H0 Pb σ δ w R dx dy h
  unfold dAdd at h
  split at h
  · cases dx
    cases dy
    exact .inl ⟨_, _, rfl, rfl, h _ H (Grow.refl H) (.int _)⟩
  · cases dx with
    | tup s1 a1 =>
      cases dy with
      | tup s2 a2 =>
        obtain ⟨hl, hk⟩ := h
        refine .inr (.inl ⟨_, _, _, _, rfl, rfl, Le.sqT hid_sub s1, Le.sqT hid_sub s2, by rw [dps_len a1, dps_len a2]; exact hl, fun e0 => ?_, fun _ e0 => ?_, fun _ _ => new_tup R (dps_app a1 a2) hk⟩)
        · subst e0
          cases a1
          exact hk _ H (Grow.refl H) (.tup s2 a2)
        · subst e0
          cases a2
          rw [List.append_nil] at hk
          exact hk _ H (Grow.refl H) (.tup s1 a1)
  · cases dx with
    | lst s1 a1 =>
      cases dy with
      | lst s2 a2 =>
        obtain ⟨hl, hk⟩ := h
        exact .inr (.inr (.inl ⟨_, _, _, _, rfl, rfl, Le.sqL hid_sub s1, Le.sqL hid_sub s2, by rw [dps_len a1, dps_len a2]; exact hl, new_lst R (dps_app a1 a2) hk⟩))
  · cases dx
    cases dy
    exact .inr (.inr (.inr ⟨_, _, rfl, rfl, h.1, h.2 _ H (Grow.refl H) (.str _)⟩))
  · exact h.elim
theorem de_add (hK : C.K = X.K) (ha : DE X C W a f) (hb : DE X C W b g) : DE X C W (.BinOp a .Add b pos) (d2 dAdd f g) :=
  de_op (OpR.or op_add (OpR.or op_catA (OpR.or op_catL op_add_str))) (by rw [← hK]; exact o2_add) ha hb
theorem de_in (hK : C.K = X.K) {k : Nat} (hr : Room k X.A) (hm : behindInMarks .In b = false) (ha : DE X C W a f) (hb : DE X C W b g) : DE X C W (.Compare a [.In] [b] pos) (d2 dIn f g) := de_cmp (op_inD (room65 hr)) (by rw [← hK]; exact o2_in) hm ha hb
theorem de_notIn (hK : C.K = X.K) {k : Nat} (hr : Room k X.A) (hm : behindInMarks .NotIn b = false) (ha : DE X C W a f) (hb : DE X C W b g) : DE X C W (.Compare a [.NotIn] [b] pos) (d2 dNotIn f g) := de_cmp (op_notInD (room65 hr)) (by rw [← hK]; exact o2_notIn) hm ha hb

/-! ## tests -/
abbrev TF := De → Wp Bool
def Bv (H : Hp) (Q : Bool → Hp → Prop) (b : Bool) : Prop := ∀ G, Grow H G → Q b G
theorem Bv.gr {H G : Hp} {Q : Bool → Hp → Prop} {b : Bool} (h : Bv H Q b) (g : Grow H G) : Bv G Q b := fun F g' => h F (g.trans g')
def DT (X : Cx) (C : Cs) (W : WX) (e : Expr) (f : TF) : Prop :=
  ∃ t, PT X e t ∧ ∀ S0 H0 Pb σ H δ Q, Rep (C.bx S0 H0) Pb σ H δ → (f δ).run (Bv H Q) (Ew (C.bx S0 H0) W σ H) → t σ H Q
/-- truth of data -/
def truD : D → Wp Bool
  | .none => .pure false
  | .bool b => .pure b
  | .int i => .pure (i != 0)
  | .str y => .need (y.length ≤ sizeLine) (.pure ((y.length : Int) != 0))
  | .list xs => .pure (!xs.isEmpty)
  | .tuple xs => .pure (!xs.isEmpty)
  | .dict _ => .stuck
def tT (f : DF) : TF := fun δ => (f δ).bind truD
theorem isEmpty_dps {K : PySem.W.Frag} {H : Hp} {vs : List V} {ds : List D} (h : DpAll K H vs ds) : (!vs.isEmpty) = !ds.isEmpty := by
  cases h <;> rfl
theorem tru_v {K : PySem.W.Frag} {H : Hp} {v : V} {d : D} {k : Bool → Prop} {w : Exn → Prop} (dp : Dp K H v d) (h : (truD d).run k w) : ∃ b, TruV K v H b ∧ k b := by
  cases dp with
  | non => exact ⟨_, rfl, h⟩
  | bl b => exact ⟨_, rfl, h⟩
  | int i => exact ⟨_, rfl, h⟩
  | str x => exact ⟨_, ⟨h.1, rfl⟩, h.2⟩
  | lst s a => exact ⟨_, .inl ⟨_, s, rfl⟩, by rw [isEmpty_dps a]; exact h⟩
  | tup s a => exact ⟨_, .inr (.inl ⟨_, s, rfl⟩), by rw [isEmpty_dps a]; exact h⟩
theorem dt_tru (hK : C.K = X.K) (ha : DE X C W a f) (he : ∀ whole, isTrue a X.env whole = (do let v ← whole; standAt a.pos; holding [v] (truthy v)) := by intro _; rfl) : DT X C W a (tT f) := by
  obtain ⟨ta, pa, qa⟩ := ha
  refine ⟨_, pt_truth pa he, fun S0 H0 Pb σ H δ Q R h => qa S0 H0 Pb σ H δ _ R ((f δ).mono (fun d h v G g dp => ?_) (fun _ z => z) h)⟩
  rw [← hK]
  obtain ⟨b, h1, h2⟩ := tru_v (hid_dp dp) h
  exact ⟨b, h1, h2 G g⟩
/-- a comparison as a test -/
def asB : D → Wp Bool
  | .bool b => .pure b
  | _ => .stuck
def tBv (f : DF) : TF := fun δ => (f δ).bind asB
theorem asB_inv {d : D} {k : Bool → Prop} {w : Exn → Prop} (h : (asB d).run k w) : ∃ b, d = .bool b ∧ k b := by
  unfold asB at h
  split at h
  · exact ⟨_, rfl, h⟩
  · exact h.elim
theorem dt_cmp {op : CmpOp} {F : D → D → Wp D} {r : R2} (ho : OpR X (compareOp op) r) (hF : Op2 X C r F) (hm : behindInMarks op b = false) (ha : DE X C W a f) (hb : DE X C W b g) : DT X C W (.Compare a [op] [b] pos) (tBv (d2 F f g)) := by
  obtain ⟨ta, tb, pa, pb, q⟩ := two ha hb hF
  refine ⟨_, pt_cmpR ho pa pb hm, fun S0 H0 Pb σ H δ Q R h => q S0 H0 Pb σ H δ _ R ((d2 F f g δ).mono (fun d h v G g' dp => ?_) (fun _ z => z) h)⟩
  obtain ⟨k, rfl, hk⟩ := asB_inv h
  cases dp
  exact ⟨k, rfl, hk G g'⟩
theorem dt_not {f : TF} (ha : DT X C W a f) : DT X C W (.UnaryOp .Not a pos) (fun δ => (f δ).bind fun b => .pure (!b)) := by
  obtain ⟨t, p, q⟩ := ha
  exact ⟨_, pt_not p, fun S0 H0 Pb σ H δ Q R h => q S0 H0 Pb σ H δ _ R h⟩
def DW (X : Cx) (C : Cs) (W : WX) (e : Expr) (f : TF) : Prop :=
  ∃ t, PW X e t ∧ ∀ S0 H0 Pb σ H δ Q, Rep (C.bx S0 H0) Pb σ H δ → (f δ).run (Bv H Q) (Ew (C.bx S0 H0) W σ H) → t σ H Q
theorem dw_dt {f : TF} (h : DW X C W a f) : DT X C W a f := by
  obtain ⟨t, p, q⟩ := h
  exact ⟨t, p.pt, q⟩
def tAnd2 (f g : TF) : TF := fun δ => (f δ).bind fun b => if b then g δ else .pure false
def tOr2 (f g : TF) : TF := fun δ => (f δ).bind fun b => if b then .pure true else g δ
variable {rest : List Expr}
theorem dw_and1 {f : TF} (ha : DT X C W a f) : DW X C W (.BoolOp .And [a] pos) f := by
  obtain ⟨t, p, q⟩ := ha
  exact ⟨t, pw_and1 p, q⟩
theorem dw_or1 {f : TF} (ha : DT X C W a f) : DW X C W (.BoolOp .Or [a] pos) f := by
  obtain ⟨t, p, q⟩ := ha
  exact ⟨t, pw_or1 p, q⟩
theorem dw_and {f g : TF} (ha : DT X C W a f) (hb : DW X C W (.BoolOp .And (b :: rest) pos) g) : DW X C W (.BoolOp .And (a :: b :: rest) pos) (tAnd2 f g) := by
  obtain ⟨t, p, q⟩ := ha
  obtain ⟨u, p2, q2⟩ := hb
  refine ⟨_, pw_and p p2, fun S0 H0 Pb σ H δ Q R h => q S0 H0 Pb σ H δ _ R ((f δ).mono (fun c h G g' => ?_) (fun _ z => z) h)⟩
  cases c with
  | true => exact q2 S0 H0 Pb σ G δ Q (R.gr g') ((g δ).mono (fun _ z => z.gr g') (fun _ z => z.gr g') h)
  | false => exact h G g'
theorem dw_or {f g : TF} (ha : DT X C W a f) (hb : DW X C W (.BoolOp .Or (b :: rest) pos) g) : DW X C W (.BoolOp .Or (a :: b :: rest) pos) (tOr2 f g) := by
  obtain ⟨t, p, q⟩ := ha
  obtain ⟨u, p2, q2⟩ := hb
  refine ⟨_, pw_or p p2, fun S0 H0 Pb σ H δ Q R h => q S0 H0 Pb σ H δ _ R ((f δ).mono (fun c h G g' => ?_) (fun _ z => z) h)⟩
  cases c with
  | false => exact q2 S0 H0 Pb σ G δ Q (R.gr g') ((g δ).mono (fun _ z => z.gr g') (fun _ z => z.gr g') h)
  | true => exact h G g'
/-! ## and, or, not as values -/
theorem de_one {op} (h : DE X C W a f) : DE X C W (.BoolOp op [a] pos) f := by
  obtain ⟨t, p, q⟩ := h
  exact ⟨t, pe_one p, q⟩
def dAndV (f g : DF) : DF := fun δ => (f δ).bind fun d => (truD d).bind fun b => if b then g δ else .pure d
def dOrV (f g : DF) : DF := fun δ => (f δ).bind fun d => (truD d).bind fun b => if b then .pure d else g δ
theorem de_and (hK : C.K = X.K) (ha : DE X C W a f) (hb : DE X C W (.BoolOp .And (b :: rest) pos) g) : DE X C W (.BoolOp .And (a :: b :: rest) pos) (dAndV f g) := by
  obtain ⟨t, p, q⟩ := ha
  obtain ⟨u, p2, q2⟩ := hb
  refine ⟨_, pe_andT p p2, fun S0 H0 Pb σ H δ Q R h => q S0 H0 Pb σ H δ _ R ((f δ).mono (fun d h v G g' dp => ?_) (fun _ z => z) h)⟩
  rw [← hK]
  obtain ⟨c, h1, h2⟩ := tru_v (hid_dp dp) h
  refine ⟨c, h1, ?_⟩
  cases c with
  | true => exact q2 S0 H0 Pb σ G δ Q (R.gr g') ((g δ).mono (fun _ z => z.gr g') (fun _ z => z.gr g') h2)
  | false => exact h2 v G g' dp
theorem de_or (hK : C.K = X.K) (ha : DE X C W a f) (hb : DE X C W (.BoolOp .Or (b :: rest) pos) g) : DE X C W (.BoolOp .Or (a :: b :: rest) pos) (dOrV f g) := by
  obtain ⟨t, p, q⟩ := ha
  obtain ⟨u, p2, q2⟩ := hb
  refine ⟨_, pe_orT p p2, fun S0 H0 Pb σ H δ Q R h => q S0 H0 Pb σ H δ _ R ((f δ).mono (fun d h v G g' dp => ?_) (fun _ z => z) h)⟩
  rw [← hK]
  obtain ⟨c, h1, h2⟩ := tru_v (hid_dp dp) h
  refine ⟨c, h1, ?_⟩
  cases c with
  | false => exact q2 S0 H0 Pb σ G δ Q (R.gr g') ((g δ).mono (fun _ z => z.gr g') (fun _ z => z.gr g') h2)
  | true => exact h2 v G g' dp
theorem de_not (hK : C.K = X.K) (ha : DE X C W a f) : DE X C W (.UnaryOp .Not a pos) (fun δ => (tT f δ).bind fun b => .pure (.bool (!b))) := by
  obtain ⟨t, p, q⟩ := ha
  refine ⟨_, pe_notT p, fun S0 H0 Pb σ H δ Q R h => q S0 H0 Pb σ H δ _ R ((f δ).mono (fun d h v G g' dp => ?_) (fun _ z => z) h)⟩
  rw [← hK]
  obtain ⟨c, h1, h2⟩ := tru_v (hid_dp dp) h
  exact ⟨c, h1, h2 _ G g' (.bl _)⟩
def dIf (t : TF) (f g : DF) : DF := fun δ => (t δ).bind fun b => if b then f δ else g δ
theorem de_if {c : Expr} {t : TF} (hc : DT X C W c t) (ha : DE X C W a f) (hb : DE X C W b g) : DE X C W (.IfExp c a b pos) (dIf t f g) := by
  obtain ⟨tc, pc, qc⟩ := hc
  obtain ⟨ta, pa, qa⟩ := ha
  obtain ⟨tb, pb, qb⟩ := hb
  refine ⟨_, pe_ifExp pc pa pb, fun S0 H0 Pb σ H δ Q R h => qc S0 H0 Pb σ H δ _ R ((t δ).mono (fun k h G g' => ?_) (fun _ z => z) h)⟩
  cases k with
  | true => exact qa S0 H0 Pb σ G δ Q (R.gr g') ((f δ).mono (fun _ z => z.gr g') (fun _ z => z.gr g') h)
  | false => exact qb S0 H0 Pb σ G δ Q (R.gr g') ((g δ).mono (fun _ z => z.gr g') (fun _ z => z.gr g') h)
/-- a <= b <= c -/
theorem de_chain {c : Expr} {op op' : CmpOp} {F F' : D → D → Wp D} {r r' : R2} {h : DF} (ho : OpR X (compareOp op) r) (hF : Op2 X C r F) (ho' : OpR X (compareOp op') r') (hF' : Op2 X C r' F') (ha : DE X C W a f) (hb : DE X C W b g) (hc : DE X C W c h)
    (hm : lastMarks [op, op'] [b, c] = false := by with_unfolding_all rfl) :
    DE X C W (.Compare a [op, op'] [b, c] pos) (fun δ => (f δ).bind fun d => (g δ).bind fun e => (F d e).bind fun z => (asB z).bind fun k => if k then (h δ).bind fun x => F' e x else .pure (.bool false)) := by
  obtain ⟨ta, pa, qa⟩ := ha
  obtain ⟨tb, pb, qb⟩ := hb
  obtain ⟨tc, pc, qc⟩ := hc
  refine ⟨_, pe_chain ho ho' pa pb pc hm, fun S0 H0 Pb σ H δ Q R hh => qa S0 H0 Pb σ H δ _ R ((f δ).mono (fun d hh x H1 g1 dx => ?_) (fun _ z => z) hh)⟩
  refine qb S0 H0 Pb σ H1 δ _ (R.gr g1) ((g δ).mono (fun e hh y H2 g2 dy => ?_) (fun _ z => z.gr g1) hh)
  refine hF x y H2 d e _ S0 H0 Pb σ δ _ (R.gr (g1.trans g2)) (Le.dp (hid_le g2.le fun _ z => z) d x dx) dy ((F d e).mono (fun z hz v H3 g3 dz => ?_) (fun _ z => z) hh)
  obtain ⟨k, rfl, hk⟩ := asB_inv hz
  cases dz
  refine ⟨k, rfl, ?_⟩
  cases k with
  | false => exact hk _ H3 (g1.trans (g2.trans g3)) (.bl _)
  | true =>
    refine qc S0 H0 Pb σ H3 δ _ (R.gr (g1.trans (g2.trans g3))) ((h δ).mono (fun x' hx v' H4 g4 dx' => ?_) (fun _ z => z.gr (g1.trans (g2.trans g3))) hk)
    exact hF' y v' H4 e x' Q S0 H0 Pb σ δ _ (R.gr (g1.trans (g2.trans (g3.trans g4)))) (Le.dp (hid_le (g3.trans g4).le fun _ z => z) e y dy) dx' ((F' e x').mono (fun _ z => z.gr (g1.trans (g2.trans (g3.trans g4)))) (fun _ z => z) hx)
end
end Tr

set_option Elab.async false
set_option linter.all false
set_option maxRecDepth 100000
set_option maxHeartbeats 4000000
namespace Tr
open PySem PySem.Spec L2

/-! ## arguments -/
inductive Ar where
  | d (x : D)
  | v (x : V)
  | t (a : Addr) (φ : Heap → Prop)
def ArOk (K : PySem.W.Frag) (H : Hp) (v : V) : Ar → Prop
  | .d x => Dp K H v x
  | .v x => v = x
  | .t a φ => v = .ref a ∧ H a = some (.ext φ)
def ArsOk (K : PySem.W.Frag) (H : Hp) : List V → List Ar → Prop
  | [], [] => True
  | v :: vs, a :: as => ArOk K H v a ∧ ArsOk K H vs as
  | _, _ => False
theorem ArsOk.len {K : PySem.W.Frag} {H : Hp} : ∀ {vs : List V} {as : List Ar}, ArsOk K H vs as → vs.length = as.length
  | [], [], _ => rfl
  | v :: vs, a :: as, h => by rw [List.length_cons, List.length_cons, ArsOk.len h.2]
  | [], _ :: _, h => h.elim
  | _ :: _, [], h => h.elim
theorem ArOk.le {K : PySem.W.Frag} {H G : Hp} (l : Le H G) {v : V} {a : Ar} (h : ArOk K H v a) : ArOk K G v a := by
  cases a with
  | d x => exact Le.dp l x v h
  | v x => exact h
  | t a φ => exact ⟨h.1, l a _ h.2 fun ps z => by cases z⟩
theorem ArsOk.le {K : PySem.W.Frag} {H G : Hp} (l : Le H G) : ∀ {vs : List V} {as : List Ar}, ArsOk K H vs as → ArsOk K G vs as
  | [], [], _ => trivial
  | v :: vs, a :: as, h => ⟨h.1.le l, ArsOk.le l h.2⟩
  | [], _ :: _, h => h.elim
  | _ :: _, [], h => h.elim
def Av (B : Bx) (σ : St) (H : Hp) (δ : De) (Q : List V → Hp → Prop) (as : List Ar) : Prop := ∀ vs G, Grow H G → ArsOk B.c.K (hid (Own B σ δ) G) vs as → Q vs G
theorem Av.gr {B : Bx} {σ : St} {H G : Hp} {δ : De} {Q : List V → Hp → Prop} {as : List Ar} (h : Av B σ H δ Q as) (g : Grow H G) : Av B σ G δ Q as := fun vs F g' => h vs F (g.trans g')
abbrev AF := De → Wp (List Ar)
def DA (X : Cx) (C : Cs) (W : WX) (es : List Expr) (f : AF) : Prop :=
  ∃ t, PA X es t ∧ ∀ S0 H0 Pb σ H δ Q, Rep (C.bx S0 H0) Pb σ H δ → (f δ).run (Av (C.bx S0 H0) σ H δ Q) (Ew (C.bx S0 H0) W σ H) → t σ H Q
def slotT : Option Sl → Wp (Addr × (Heap → Prop))
  | some (.t a φ) => .pure (a, φ)
  | _ => .stuck
def slotV : Option Sl → Wp V
  | some (.v x) => .pure x
  | _ => .stuck
def aNil : AF := fun _ => .pure []
def aCons (f : DF) (r : AF) : AF := fun δ => (f δ).bind fun d => (r δ).bind fun as => .pure (.d d :: as)
def aVal (i : Nat) (r : AF) : AF := fun δ => (slotV δ[i]?).bind fun v => (r δ).bind fun as => .pure (.v v :: as)
def aTrk (i : Nat) (r : AF) : AF := fun δ => (slotT δ[i]?).bind fun q => (r δ).bind fun as => .pure (.t q.1 q.2 :: as)
/-- all data -/
def allD : List Ar → Wp (List D)
  | [] => .pure []
  | .d x :: as => (allD as).bind fun ds => .pure (x :: ds)
  | .v _ :: _ => .stuck
  | .t _ _ :: _ => .stuck
theorem allD_ok {K : PySem.W.Frag} {H : Hp} : ∀ {as : List Ar} {vs : List V} {k : List D → Prop} {w : Exn → Prop}, ArsOk K H vs as → (allD as).run k w → ∃ ds, DpAll K H vs ds ∧ k ds
  | [], [], _, _, _, h => ⟨[], .nil, h⟩
  | .d x :: as, v :: vs, _, _, o, h => by
    obtain ⟨ds, h1, h2⟩ := allD_ok o.2 h
    exact ⟨x :: ds, .cons o.1 h1, h2⟩
  | .v _ :: _, _, _, _, _, h => h.elim
  | .t _ _ :: _, _, _, _, _, h => h.elim
  | [], _ :: _, _, _, o, _ => o.elim
  | .d _ :: _, [], _, _, o, _ => o.elim
section
variable {X : Cx} {C : Cs} {W : WX} {pos : Pos} {e : Expr} {es : List Expr} {f : DF} {r : AF}
theorem da_nil : DA X C W [] aNil := ⟨_, pa_nil, fun S0 H0 Pb σ H δ Q _ h => h [] H (Grow.refl H) trivial⟩
theorem da_cons (ha : DE X C W e f) (hr : DA X C W es r) (hs : starEach (e :: es) X.env = (false, eval e X.env) :: starEach es X.env := by rfl) : DA X C W (e :: es) (aCons f r) := by
  obtain ⟨t, p, q⟩ := ha
  obtain ⟨u, p2, q2⟩ := hr
  refine ⟨_, pa_cons p p2 hs, fun S0 H0 Pb σ H δ Q R h => q S0 H0 Pb σ H δ _ R ((f δ).mono (fun d h v G g dp => ?_) (fun _ z => z) h)⟩
  refine q2 S0 H0 Pb σ G δ _ (R.gr g) ((r δ).mono (fun as h vs F g' ok => ?_) (fun _ z => z.gr g) h)
  exact h (v :: vs) F (g.trans g') ⟨Le.dp (hid_le g'.le fun _ z => z) d v dp, ok⟩
theorem da_val {i : Nat} {x : Str} {p : Pos} (hN : X.N[i]? = some x) (hv : Vis X.env.scope x) (hr : DA X C W es r) (hd : (x == ("__debug__" : Str)) = false := by decide) (hcd : (x == ("__classdict__" : Str)) = false := by decide)
    (hs : starEach (.Name x p :: es) X.env = (false, eval (.Name x p) X.env) :: starEach es X.env := by rfl) : DA X C W (.Name x p :: es) (aVal i r) := by
  obtain ⟨u, p2, q2⟩ := hr
  refine ⟨_, pa_cons (pe_var hN hv hd hcd) p2 hs, fun S0 H0 Pb σ H δ Q R h => ?_⟩
  unfold aVal at h
  cases hz : δ[i]? with
  | none => rw [hz] at h; exact h.elim
  | some z =>
    rw [hz] at h
    cases z with
    | non => exact h.elim
    | o ds => exact h.elim
    | p d => exact h.elim
    | t a φ => exact h.elim
    | v x =>
      refine ⟨x, R.val i x hz, ?_⟩
      refine q2 S0 H0 Pb σ H δ _ R ((r δ).mono (fun as h vs F g' ok => ?_) (fun _ z => z) h)
      exact h (x :: vs) F g' ⟨rfl, ok⟩
theorem da_trk {i : Nat} {x : Str} {p : Pos} (hN : X.N[i]? = some x) (hv : Vis X.env.scope x) (hr : DA X C W es r) (hd : (x == ("__debug__" : Str)) = false := by decide) (hcd : (x == ("__classdict__" : Str)) = false := by decide)
    (hs : starEach (.Name x p :: es) X.env = (false, eval (.Name x p) X.env) :: starEach es X.env := by rfl) : DA X C W (.Name x p :: es) (aTrk i r) := by
  obtain ⟨u, p2, q2⟩ := hr
  refine ⟨_, pa_cons (pe_var hN hv hd hcd) p2 hs, fun S0 H0 Pb σ H δ Q R h => ?_⟩
  unfold aTrk at h
  cases hz : δ[i]? with
  | none => rw [hz] at h; exact h.elim
  | some z =>
    rw [hz] at h
    cases z with
    | non => exact h.elim
    | o ds => exact h.elim
    | p d => exact h.elim
    | v x => exact h.elim
    | t a φ =>
      obtain ⟨t1, t2⟩ := R.trk i a φ hz
      refine ⟨.ref a, t1, ?_⟩
      refine q2 S0 H0 Pb σ H δ _ R ((r δ).mono (fun as h vs G g' ok => ?_) (fun _ z => z) h)
      exact h (.ref a :: vs) G g' ⟨⟨rfl, hid_le g'.le (fun _ z => z) a _ t2 fun ps z => by cases z⟩, ok⟩
/-! ## displays -/
def dTup (r : AF) : DF := fun δ => (r δ).bind fun as => (allD as).bind fun ds => .need (ds.length ≤ sizeLine) (.pure (.tuple ds))
def dLst (r : AF) : DF := fun δ => (r δ).bind fun as => (allD as).bind fun ds => .need (ds.length ≤ sizeLine) (.pure (.list ds))
theorem de_tup {x1} (h : DA X C W es r) : DE X C W (.Tuple es x1 pos) (dTup r) := by
  obtain ⟨t, p, q⟩ := h
  refine ⟨_, pe_tup p, fun S0 H0 Pb σ H δ Q R h => q S0 H0 Pb σ H δ _ R ((r δ).mono (fun as h vs G g ok => ?_) (fun _ z => z) h)⟩
  obtain ⟨ds, h1, h2, h3⟩ := allD_ok ok h
  exact ⟨by rw [dps_len h1]; exact h2, new_tup (R.gr g) h1 (h3.gr g)⟩
theorem de_lst (h : DA X C W es r) : DE X C W (.List es pos) (dLst r) := by
  obtain ⟨t, p, q⟩ := h
  refine ⟨_, pe_lst p, fun S0 H0 Pb σ H δ Q R h => q S0 H0 Pb σ H δ _ R ((r δ).mono (fun as h vs G g ok => ?_) (fun _ z => z) h)⟩
  obtain ⟨ds, h1, h2, h3⟩ := allD_ok ok h
  exact ⟨by rw [dps_len h1]; exact h2, new_lst (R.gr g) h1 (h3.gr g)⟩
/-! ## subscripts, slices -/
def optW {A : Type} : Option A → Wp A
  | some a => .pure a
  | none => .stuck
theorem optW_inv {A : Type} {o : Option A} {k : A → Prop} {w : Exn → Prop} (h : (optW o).run k w) : ∃ a, o = some a ∧ k a := by
  cases o with
  | none => exact h.elim
  | some a => exact ⟨a, rfl, h⟩
def dIx : D → D → Wp D
  | .list ds, .int i => optW (atI ds i)
  | .tuple ds, .int i => optW (atI ds i)
  | .str z, .int i => .need (z.length ≤ sizeLine) ((optW (atI z.cps.toList i)).bind fun c => .pure (.str ⟨#[c]⟩))
  | _, _ => .stuck
theorem atI_dps {K : PySem.W.Frag} {H : Hp} {vs : List V} {ds : List D} {i : Int} {d : D} (h : DpAll K H vs ds) (e : atI ds i = some d) : ∃ v, atI vs i = some v ∧ Dp K H v d := by
  unfold atI at e ⊢
  rw [dps_len h]
  cases hj : ixN ds.length i with
  | none => rw [hj] at e; cases e
  | some j =>
    rw [hj] at e
    obtain ⟨v, h1, h2⟩ := dps_get h (i := j) e
    exact ⟨v, h1, h2⟩
theorem o2_ix : Op2 X C (rIx C.K) dIx := by
  intro x y H d e Q S0 H0 Pb σ δ w R dx dy h
  unfold dIx at h
  split at h
  · cases dx with
    | lst s a =>
      cases dy
      obtain ⟨d, h1, h2⟩ := optW_inv h
      obtain ⟨v, h3, h4⟩ := atI_dps a h1
      exact .inl ⟨_, _, _, v, rfl, rfl, Le.sqL hid_sub s, h3, h2 v H (Grow.refl H) h4⟩
  · cases dx with
    | tup s a =>
      cases dy
      obtain ⟨d, h1, h2⟩ := optW_inv h
      obtain ⟨v, h3, h4⟩ := atI_dps a h1
      exact .inr (.inl ⟨_, _, _, v, rfl, rfl, Le.sqT hid_sub s, h3, h2 v H (Grow.refl H) h4⟩)
  · cases dx
    cases dy
    obtain ⟨hz, h⟩ := h
    obtain ⟨c, h1, h2⟩ := optW_inv h
    exact .inr (.inr ⟨_, _, c, rfl, rfl, hz, h1, h2 _ H (Grow.refl H) (.str _)⟩)
  · exact h.elim
theorem de_ix {a b : Expr} {f g : DF} (hK : C.K = X.K) (ha : DE X C W a f) (hb : DE X C W b g) (hs : PlainIx b) : DE X C W (.Subscript a b pos) (d2 dIx f g) := by
  obtain ⟨ta, tb, pa, pb, q⟩ := two ha hb o2_ix
  exact ⟨_, pe_ix (by rw [hK]; exact ix_seq) pa pb hs, q⟩
/-- a bound of a slice -/
abbrev OF := De → Wp (Option Int)
def DO (X : Cx) (C : Cs) (W : WX) (e : Option Expr) (f : OF) : Prop :=
  ∃ t, PO X e t ∧ ∀ S0 H0 Pb σ H δ Q, Rep (C.bx S0 H0) Pb σ H δ → (f δ).run (fun o => ∀ G, Grow H G → Q o G) (Ew (C.bx S0 H0) W σ H) → t σ H Q
def asI : D → Wp (Option Int)
  | .int i => .pure (some i)
  | _ => .stuck
def oNone : OF := fun _ => .pure none
def oSome (f : DF) : OF := fun δ => (f δ).bind asI
theorem do_none : DO X C W none oNone := ⟨_, po_none, fun S0 H0 Pb σ H δ Q _ h => h H (Grow.refl H)⟩
theorem do_some (h : DE X C W e f) : DO X C W (some e) (oSome f) := by
  obtain ⟨t, p, q⟩ := h
  refine ⟨_, po_some p, fun S0 H0 Pb σ H δ Q R h => q S0 H0 Pb σ H δ _ R ((f δ).mono (fun d h v G g dp => ?_) (fun _ z => z) h)⟩
  unfold asI at h
  split at h
  · cases dp
    exact ⟨_, rfl, h G g⟩
  · exact h.elim
def cutD {A : Type} (xs : List A) (lo hi : Option Int) : List A := (xs.drop (HT.sIx xs.length 0 lo)).take (HT.sIx xs.length xs.length hi - HT.sIx xs.length 0 lo)
theorem cut_dps {K : PySem.W.Frag} {H : Hp} {vs : List V} {ds : List D} (lo hi : Option Int) (h : DpAll K H vs ds) : DpAll K H (cutV vs lo hi) (cutD ds lo hi) := by
  unfold cutV cutD
  rw [dps_len h]
  exact dps_take _ (dps_drop _ h)
def dCut (lo hi : Option Int) : D → Wp D
  | .list ds => .pure (.list (cutD ds lo hi))
  | .tuple ds => .pure (.tuple (cutD ds lo hi))
  | .str z => .need (z.length ≤ sizeLine) (.pure (.str (cutS z lo hi)))
  | _ => .stuck
def dSl (f : DF) (l h : OF) : DF := fun δ => (f δ).bind fun d => (l δ).bind fun lo => (h δ).bind fun hi => dCut lo hi d
theorem cut_all {A : Type} {xs : List A} {lo hi : Option Int} (h : HT.sIx xs.length 0 lo = 0 ∧ HT.sIx xs.length xs.length hi = xs.length) : cutD xs lo hi = xs := by
  unfold cutD
  rw [h.1, h.2]
  simp
theorem de_slice {lo hi : Option Expr} {p2 : Pos} {l h : OF} (hK : C.K = X.K) (ha : DE X C W e f) (hl : DO X C W lo l) (hh : DO X C W hi h) : DE X C W (.Subscript e (.Slice lo hi none p2) pos) (dSl f l h) := by
  obtain ⟨ta, pa, qa⟩ := ha
  obtain ⟨tl, pl, ql⟩ := hl
  obtain ⟨tu, pu, qu⟩ := hh
  refine ⟨_, pe_slice (SlR.or sl_tupA (SlR.or sl_list sl_str)) pa pl pu, fun S0 H0 Pb σ H δ Q R hw => qa S0 H0 Pb σ H δ _ R ((f δ).mono (fun d hw x H1 g1 dx => ?_) (fun _ z => z) hw)⟩
  refine ql S0 H0 Pb σ H1 δ _ (R.gr g1) ((l δ).mono (fun lo' hw H2 g2 => ?_) (fun _ z => z.gr g1) hw)
  refine qu S0 H0 Pb σ H2 δ _ (R.gr (g1.trans g2)) ((h δ).mono (fun hi' hw H3 g3 => ?_) (fun _ z => z.gr (g1.trans g2)) hw)
  have R3 := R.gr (g1.trans (g2.trans g3))
  have dx3 := Le.dp (hid_le (S' := Own (C.bx S0 H0) σ δ) (g2.trans g3).le fun _ z => z) d x dx
  have k3 : (dCut lo' hi' d).run (Dv (C.bx S0 H0) σ H3 δ Q) (Ew (C.bx S0 H0) W σ H) := (dCut lo' hi' d).mono (fun _ z => z.gr (g1.trans (g2.trans g3))) (fun _ z => z) hw
  show rSlA X.K x lo' hi' H3 Q ∨ (rSlL X.K x lo' hi' H3 Q ∨ rSlS x lo' hi' H3 Q)
  rw [← hK]
  unfold dCut at k3
  split at k3
  · cases dx3 with
    | lst s a => exact .inr (.inl ⟨_, _, rfl, Le.sqL hid_sub s, new_lst R3 (cut_dps lo' hi' a) k3⟩)
  · cases dx3 with
    | tup s a =>
      refine .inl ⟨_, _, rfl, Le.sqT hid_sub s, fun ha => ?_, fun _ => new_tup R3 (cut_dps lo' hi' a) k3⟩
      rw [dps_len a] at ha
      rw [cut_all ha] at k3
      exact k3 _ H3 (Grow.refl H3) (.tup s a)
  · cases dx3
    exact .inr (.inr ⟨_, rfl, k3.1, k3.2 _ H3 (Grow.refl H3) (.str _)⟩)
  · exact k3.elim
/-! ## built-ins -/
def OpN (C : Cs) (r : List V → Hp → VK → Prop) (F : List D → Wp D) : Prop := ∀ (vs : List V) (H : Hp) (ds : List D) (Q : VK) (S0 : Addr → Prop) (H0 Pb : Hp) (σ : St) (δ : De) (w : Exn → Prop), Rep (C.bx S0 H0) Pb σ H δ → DpAll C.K (hid (Own (C.bx S0 H0) σ δ) H) vs ds → (F ds).run (Dv (C.bx S0 H0) σ H δ Q) w → r vs H Q
def dCB (F : List D → Wp D) (r : AF) : DF := fun δ => (r δ).bind fun as => (allD as).bind F
variable {x id T : String} {nm : Str} {p : Pos} {rr : List V → Hp → VK → Prop} {F : List D → Wp D}
theorem cb_q {t : TA} (h : ∀ S0 H0 Pb σ H δ Q, Rep (C.bx S0 H0) Pb σ H δ → (r δ).run (Av (C.bx S0 H0) σ H δ Q) (Ew (C.bx S0 H0) W σ H) → t σ H Q) (hF : OpN C rr F) : ∀ S0 H0 Pb σ H δ Q, Rep (C.bx S0 H0) Pb σ H δ → (dCB F r δ).run (Dv (C.bx S0 H0) σ H δ Q) (Ew (C.bx S0 H0) W σ H) → tCB rr t σ H Q := by
  intro S0 H0 Pb σ H δ Q R hw
  refine h S0 H0 Pb σ H δ _ R ((r δ).mono (fun as hw vs G g ok => ?_) (fun _ z => z) hw)
  obtain ⟨ds, h1, h2⟩ := allD_ok ok hw
  exact hF vs G ds Q S0 H0 Pb σ δ _ (R.gr g) h1 ((F ds).mono (fun _ z => z.gr g) (fun _ z => z) h2)
theorem de_callB (hc : CallR X (.builtin id) rr) (hF : OpN C rr F) (hg : Gl X nm) (hm : X.mg nm = none) (hv : bootBuiltins nm = some (.builtin id)) (ha : DA X C W (e :: es) r) (hn : nm ≠ "__name__" := by decide) (hdb : (nm == ("__debug__" : Str)) = false := by decide)
    (he : starEach (e :: es) X.env = (false, eval e X.env) :: starEach es X.env := by rfl) (hpl : (backTo pos (starEach es X.env)).any (·.1) = false := by rfl) : DE X C W (.Call (.Name nm p) (e :: es) [] pos) (dCB F r) := by
  obtain ⟨t, pt, q⟩ := ha
  exact ⟨_, pe_callB hc hg hm hv pt hn hdb he hpl, cb_q q hF⟩
theorem de_callTy (hc : CallR X (.type T) rr) (hF : OpN C rr F) (hg : Gl X nm) (hm : X.mg nm = none) (hv : bootBuiltins nm = some (.type T)) (ha : DA X C W (e :: es) r) (hn : nm ≠ "__name__" := by decide) (hdb : (nm == ("__debug__" : Str)) = false := by decide)
    (he : starEach (e :: es) X.env = (false, eval e X.env) :: starEach es X.env := by rfl) (hpl : (backTo pos (starEach es X.env)).any (·.1) = false := by rfl) : DE X C W (.Call (.Name nm p) (e :: es) [] pos) (dCB F r) := by
  obtain ⟨t, pt, q⟩ := ha
  exact ⟨_, pe_callTy hc hg hm hv pt hn hdb he hpl, cb_q q hF⟩
/-- f(..), f a module's name for a built-in function (gcd) -/
theorem de_callF (hc : CallR X (.builtin id) rr) (hF : OpN C rr F) (hg : Gl X nm) (hm : X.mg nm = some (.builtin id)) (ha : DA X C W (e :: es) r) (hdb : (nm == ("__debug__" : Str)) = false := by decide)
    (he : starEach (e :: es) X.env = (false, eval e X.env) :: starEach es X.env := by rfl) (hpl : (backTo pos (starEach es X.env)).any (·.1) = false := by rfl) : DE X C W (.Call (.Name nm p) (e :: es) [] pos) (dCB F r) := by
  obtain ⟨t, pt, q⟩ := ha
  exact ⟨_, pe_callBfun hc hg hm pt hdb he hpl, cb_q q hF⟩
def bGcd : List D → Wp D
  | [.int a, .int b] => .pure (.int ((Nat.gcd a.natAbs b.natAbs : Nat) : Int))
  | _ => .stuck
def bLen : List D → Wp D
  | [.list ds] => .pure (.int ds.length)
  | [.tuple ds] => .pure (.int ds.length)
  | [.str z] => .need (z.length ≤ sizeLine) (.pure (.int z.length))
  | _ => .stuck
def bInt : List D → Wp D
  | [.int a] => .pure (.int a)
  | [.bool b] => .pure (.int (if b then 1 else 0))
  | [.str a] => match PySem.intText? a with
    | some n => .need (a.length ≤ 640) (.pure (.int n))
    | none => .stuck
  | _ => .stuck
def bAbs : List D → Wp D
  | [.int i] => .pure (.int (if i < 0 then -i else i))
  | _ => .stuck
def bMin2 : List D → Wp D
  | [.int i, .int j] => .pure (.int (if j < i then j else i))
  | _ => .stuck
def bMax2 : List D → Wp D
  | [.int i, .int j] => .pure (.int (if j > i then j else i))
  | _ => .stuck
def bTuple : List D → Wp D
  | [.list ds] => .pure (.tuple ds)
  | [.tuple ds] => .pure (.tuple ds)
  | _ => .stuck
def bList : List D → Wp D
  | [.list ds] => .pure (.list ds)
  | [.tuple ds] => .pure (.list ds)
  | _ => .stuck
theorem on_gcd : OpN C rGcd bGcd := by
  intro vs H ds Q S0 H0 Pb σ δ w R h hw
  unfold bGcd at hw
  split at hw
  · cases h with
    | cons a b =>
      cases b with
      | cons b c =>
        cases a
        cases b
        cases c
        exact ⟨_, _, rfl, hw _ H (Grow.refl H) (.int _)⟩
  · exact hw.elim
theorem on_len : OpN C (fun xs H Q => ∃ x n, xs = [x] ∧ LenV C.K x H n ∧ Q (.int n) H) bLen := by
  intro vs H ds Q S0 H0 Pb σ δ w R h hw
  unfold bLen at hw
  split at hw
  · cases h with
    | cons a b =>
      cases b
      cases a with
      | lst s a => exact ⟨_, _, rfl, .inl ⟨_, Le.sqL hid_sub s, rfl⟩, by rw [dps_len a]; exact hw _ H (Grow.refl H) (.int _)⟩
  · cases h with
    | cons a b =>
      cases b
      cases a with
      | tup s a => exact ⟨_, _, rfl, .inr ⟨_, Le.sqT hid_sub s, rfl⟩, by rw [dps_len a]; exact hw _ H (Grow.refl H) (.int _)⟩
  · cases h with
    | cons a b =>
      cases b
      cases a
      exact ⟨_, _, rfl, ⟨hw.1, rfl⟩, hw.2 _ H (Grow.refl H) (.int _)⟩
  · exact hw.elim
theorem on_int : OpN C (fun xs H Q => ((∃ i, xs = [.int i] ∧ Q (.int i) H) ∨ ∃ k, xs = [.bl k] ∧ Q (.int (if k then 1 else 0)) H) ∨ ∃ a n, xs = [.str a] ∧ PySem.intText? a = some n ∧ a.length ≤ 640 ∧ Q (.int n) H) bInt := by
  intro vs H ds Q S0 H0 Pb σ δ w R h hw
  unfold bInt at hw
  split at hw
  · cases h with
    | cons a b =>
      cases b
      cases a
      exact .inl (.inl ⟨_, rfl, hw _ H (Grow.refl H) (.int _)⟩)
  · cases h with
    | cons a b =>
      cases b
      cases a
      exact .inl (.inr ⟨_, rfl, hw _ H (Grow.refl H) (.int _)⟩)
  · cases h with
    | cons a b =>
      cases b
      cases a
      split at hw
      · rename_i n e
        exact .inr ⟨_, n, rfl, e, hw.1, hw.2 _ H (Grow.refl H) (.int _)⟩
      · exact hw.elim
  · exact hw.elim
theorem on_abs : OpN C (fun xs H Q => ∃ i, xs = [.int i] ∧ Q (.int (if i < 0 then -i else i)) H) bAbs := by
  intro vs H ds Q S0 H0 Pb σ δ w R h hw
  unfold bAbs at hw
  split at hw
  · cases h with
    | cons a b =>
      cases b
      cases a
      exact ⟨_, rfl, hw _ H (Grow.refl H) (.int _)⟩
  · exact hw.elim
theorem on_min2 : OpN C (fun xs H Q => ∃ i j, xs = [.int i, .int j] ∧ Q (.int (if j < i then j else i)) H) bMin2 := by
  intro vs H ds Q S0 H0 Pb σ δ w R h hw
  unfold bMin2 at hw
  split at hw
  · cases h with
    | cons a b =>
      cases b with
      | cons b c =>
        cases c
        cases a
        cases b
        exact ⟨_, _, rfl, hw _ H (Grow.refl H) (.int _)⟩
  · exact hw.elim
theorem on_max2 : OpN C (fun xs H Q => ∃ i j, xs = [.int i, .int j] ∧ Q (.int (if j > i then j else i)) H) bMax2 := by
  intro vs H ds Q S0 H0 Pb σ δ w R h hw
  unfold bMax2 at hw
  split at hw
  · cases h with
    | cons a b =>
      cases b with
      | cons b c =>
        cases c
        cases a
        cases b
        exact ⟨_, _, rfl, hw _ H (Grow.refl H) (.int _)⟩
  · exact hw.elim
theorem on_tuple : OpN C (fun xs H Q => ∃ p ys, xs = [.ref p] ∧ ((SqL C.K H p ys ∧ ∀ l, H l = none → Q (.ref l) (upd H l (.tup ys))) ∨ (SqT C.K H p ys ∧ Q (.ref p) H))) bTuple := by
  intro vs H ds Q S0 H0 Pb σ δ w R h hw
  unfold bTuple at hw
  split at hw
  · cases h with
    | cons a b =>
      cases b
      cases a with
      | lst s a => exact ⟨_, _, rfl, .inl ⟨Le.sqL hid_sub s, new_tup R a hw⟩⟩
  · cases h with
    | cons a b =>
      cases b
      cases a with
      | tup s a => exact ⟨_, _, rfl, .inr ⟨Le.sqT hid_sub s, hw _ H (Grow.refl H) (.tup s a)⟩⟩
  · exact hw.elim
theorem on_list : OpN C (fun xs H Q => ∃ p ys, xs = [.ref p] ∧ (SqL C.K H p ys ∨ SqT C.K H p ys) ∧ ∀ l, H l = none → Q (.ref l) (upd H l (.lst ys))) bList := by
  intro vs H ds Q S0 H0 Pb σ δ w R h hw
  unfold bList at hw
  split at hw
  · cases h with
    | cons a b =>
      cases b
      cases a with
      | lst s a => exact ⟨_, _, rfl, .inl (Le.sqL hid_sub s), new_lst R a hw⟩
  · cases h with
    | cons a b =>
      cases b
      cases a with
      | tup s a => exact ⟨_, _, rfl, .inr (Le.sqT hid_sub s), new_lst R a hw⟩
  · exact hw.elim
/-! ## isinstance of a written class -/
/-- is data of a built-in class -/
def isTy (T : String) : D → Option Bool
  | .none => kitB "NoneType" T
  | .bool _ => kitB "bool" T
  | .int _ => kitB "int" T
  | .str _ => kitB "str" T
  | .list _ => kitB "list" T
  | .tuple _ => kitB "tuple" T
  | .dict _ => none
def dIsi (T : String) (f : DF) : DF := fun δ => (f δ).bind fun d => (optW (isTy T d)).bind fun b => .pure (.bool b)
theorem tyx_dp {H : Hp} {v : V} {d : D} (h : Dp C.K H v d) : ∃ t : String, TyX C.K H v (.type t) ∧ ∀ T, isTy T d = kitB t T := by
  cases h with
  | non => exact ⟨_, .base .non, fun _ => rfl⟩
  | bl b => exact ⟨_, .base (.bl b), fun _ => rfl⟩
  | int i => exact ⟨_, .base (.int i), fun _ => rfl⟩
  | str x => exact ⟨_, .base (.str x), fun _ => rfl⟩
  | lst s a =>
    refine ⟨"list", ?_, fun _ => rfl⟩
    rcases s with (z | ⟨o, z⟩) | ⟨o, its, n, e1, e2, _⟩
    · exact .base (.lst z)
    · exact .base (.frz z)
    · exact .kList e1 e2
  | tup s a =>
    refine ⟨"tuple", ?_, fun _ => rfl⟩
    rcases s with (z | ⟨o, z⟩) | ⟨o, its, n, e1, e2, _⟩
    · exact .base (.tup z)
    · exact .fTuple z
    · exact .kTuple e1 e2
theorem de_isi {T : String} {x2 : Str} {p2 : Pos} (hK : C.K = X.K) (hg : Gl X "isinstance") (hm : X.mg "isinstance" = none) (hg2 : Gl X x2) (hm2 : X.mg x2 = none) (hv2 : bootBuiltins x2 = some (.type T)) (ha : DE X C W e f) (hn2 : x2 ≠ "__name__" := by decide) (hd2 : (x2 == ("__debug__" : Str)) = false := by decide)
    (he : starEach [e, .Name x2 p2] X.env = (false, eval e X.env) :: starEach [.Name x2 p2] X.env := by rfl) (he2 : starEach [.Name x2 p2] X.env = (false, eval (.Name x2 p2) X.env) :: starEach [] X.env := by rfl) (hpl : (backTo pos (starEach [.Name x2 p2] X.env)).any (·.1) = false := by rfl) :
    DE X C W (.Call (.Name "isinstance" p) [e, .Name x2 p2] [] pos) (dIsi T f) := by
  obtain ⟨t, pt, q⟩ := ha
  refine ⟨_, pe_callB call_isi hg hm PyProof.Rows.boot_isinstance (pa_cons pt (pa_cons (pe_bltn hg2 hm2 hv2 (show RelV (.ty T) _ from rfl) hn2 hd2) pa_nil he2) he) (by decide) (by decide) he hpl, fun S0 H0 Pb σ H δ Q R h => q S0 H0 Pb σ H δ _ R ((f δ).mono (fun d h v G g dp => ?_) (fun _ z => z) h)⟩
  obtain ⟨b, h1, h2⟩ := optW_inv h
  obtain ⟨t', h3, h4⟩ := tyx_dp (C := C) (hid_dp dp)
  refine ⟨v, .ty T, _, _, b, rfl, .ty T, ?_, kit_ty (a := t') ?_, h2 _ G g (.bl b)⟩
  · rw [← hK]; exact h3
  · rw [← h4 T]; exact h1
/-- isinstance(e, (T, U)) -/
def isTys : List String → D → Option Bool
  | [], _ => some false
  | T :: Ts, d => match isTy T d with
    | some true => some true
    | some false => isTys Ts d
    | none => none
def dIsiT (Ts : List String) (f : DF) : DF := fun δ => (f δ).bind fun d => (optW (isTys Ts d)).bind fun b => .pure (.bool b)
theorem kitAny_tys {K : PySem.W.Frag} {t : String} {d : D} (h4 : ∀ T, isTy T d = kitB t T) : ∀ {Ts : List String} {b : Bool}, isTys Ts d = some b → PySem.W.kitAny K (.type t) (Ts.map Value.type) = some b
  | [], b, h => by
    cases h
    exact kitAny_nil
  | T :: Ts, b, h => by
    unfold isTys at h
    cases e : isTy T d with
    | none => rw [e] at h; cases h
    | some c =>
      rw [e] at h
      have e2 : PySem.W.kitOne K (.type t) (.type T) = some c := kit_ty (by rw [← h4 T]; exact e)
      cases c with
      | true =>
        cases h
        exact kitAny_cons e2 (fun z => by cases z) fun _ => rfl
      | false => exact kitAny_cons e2 (fun _ => kitAny_tys h4 h) fun z => by cases z
theorem de_isiT {T1 T2 : String} {x1 x2 : Str} {p1 p2 tp : Pos} {kt : Nat} (hK : C.K = X.K) (hg : Gl X "isinstance") (hm : X.mg "isinstance" = none) (hg1 : Gl X x1) (hm1 : X.mg x1 = none) (hv1 : bootBuiltins x1 = some (.type T1)) (hg2 : Gl X x2) (hm2 : X.mg x2 = none) (hv2 : bootBuiltins x2 = some (.type T2)) (ha : DE X C W e f)
    (hn1 : x1 ≠ "__name__" := by decide) (hd1 : (x1 == ("__debug__" : Str)) = false := by decide) (hn2 : x2 ≠ "__name__" := by decide) (hd2 : (x2 == ("__debug__" : Str)) = false := by decide)
    (he1 : starEach [.Name x1 p1, .Name x2 p2] X.env = (false, eval (.Name x1 p1) X.env) :: starEach [.Name x2 p2] X.env := by rfl) (he2 : starEach [.Name x2 p2] X.env = (false, eval (.Name x2 p2) X.env) :: starEach [] X.env := by rfl)
    (he : starEach [e, .Tuple [.Name x1 p1, .Name x2 p2] kt tp] X.env = (false, eval e X.env) :: starEach [.Tuple [.Name x1 p1, .Name x2 p2] kt tp] X.env := by rfl)
    (he3 : starEach [.Tuple [.Name x1 p1, .Name x2 p2] kt tp] X.env = (false, eval (.Tuple [.Name x1 p1, .Name x2 p2] kt tp) X.env) :: starEach [] X.env := by rfl) (hpl : (backTo pos (starEach [.Tuple [.Name x1 p1, .Name x2 p2] kt tp] X.env)).any (·.1) = false := by rfl) :
    DE X C W (.Call (.Name "isinstance" p) [e, .Tuple [.Name x1 p1, .Name x2 p2] kt tp] [] pos) (dIsiT [T1, T2] f) := by
  obtain ⟨t, pt, q⟩ := ha
  refine ⟨_, pe_callB call_isiT hg hm PyProof.Rows.boot_isinstance (pa_cons pt (pa_cons (pe_tup (pa_cons (pe_bltn hg1 hm1 hv1 (show RelV (.ty T1) _ from rfl) hn1 hd1) (pa_cons (pe_bltn hg2 hm2 hv2 (show RelV (.ty T2) _ from rfl) hn2 hd2) pa_nil he2) he1)) pa_nil he3) he) (by decide) (by decide) he hpl,
    fun S0 H0 Pb σ H δ Q R h => q S0 H0 Pb σ H δ _ R ((f δ).mono (fun d h v G g dp => ?_) (fun _ z => z) h)⟩
  obtain ⟨b, h1, h2⟩ := optW_inv h
  refine ⟨by show 2 ≤ sizeLine; decide, fun u nu => ?_⟩
  have g2 : Grow G (upd G u (.tup [.ty T1, .ty T2])) := Grow.new nu
  obtain ⟨t', h3, h4⟩ := tyx_dp (C := C) (Le.dp g2.le d v (hid_dp dp))
  refine ⟨v, u, _, _, _, b, rfl, upd_same, .cons (.ty T1) (.cons (.ty T2) .nil), ?_, kitAny_tys (Ts := [T1, T2]) h4 h1, h2 _ _ (g.trans g2) (.bl b)⟩
  rw [← hK]; exact h3
end
/-! ## calls of defs -/
/-- a def over data: what is told of it (arguments, result, exception) -/
def spD (C : Cs) (n : Nat) (F : List Ar → Wp D) : Sp := fun vs H Q E => ∃ (S : Addr → Prop) (as : List Ar), as.length = n ∧ (∀ b, S b → H b ≠ none) ∧ (∀ P ∈ C.T, GxR.TabG H P) ∧ (∀ q ∈ C.Z, SqL C.K H q.1 (q.2.map V.int)) ∧ ArsOk C.K (hid S H) vs as ∧
  (F as).run (fun d => ∀ v G, Grow H G → Dp C.K (hid S G) v d → Q v G) (fun x => ∀ cls dc G, Grow H G → ExAt (C.bx S H) x cls dc G → E cls dc G)
theorem spD_len {C : Cs} {n : Nat} {F : List Ar → Wp D} : ∀ vs H Q E, spD C n F vs H Q E → vs.length = n := fun vs H Q E ⟨S, as, h1, _, _, _, h2, _⟩ => h2.len.trans h1
section
variable {X : Cx} {C : Cs} {W : WX} {pos p : Pos} {e : Expr} {es : List Expr} {r : AF} {x : Str} {fa : Addr} {fd : FuncData} {ps : List Str} {k n : Nat} {F : List Ar → Wp D}
def dCall (n : Nat) (F : List Ar → Wp D) (r : AF) : DF := fun δ => (r δ).bind fun as => .need (as.length = n) (F as)
theorem exat_own {B : Bx} {σ : St} {δ : De} {H : Hp} {x : Exn} {cls : Value} {dc : Option Addr} {G : Hp} (h : ExAt ⟨B.c, Own B σ δ, H⟩ x cls dc G) : ExAt B x cls dc G := by
  refine ⟨h.1, ?_⟩
  have h2 := h.2
  revert h2
  cases x.fld with
  | none => exact id
  | some q =>
    rintro ⟨a, v, h3, h4, h5⟩
    exact ⟨a, v, h3, h4, Le.dp (hid_le (Le.refl G) fun b z => .inl z) _ v h5⟩
theorem de_call (hK : C.K = X.K) (tk : Takes X W) (G : FnOk X.prog X.w X.K X.mg X.base (L2.CX X.prog X.w) k fa fd ps (spD C n F)) (hr : Room k X.A) (hg : Gl X x) (hm : X.mg x = some (.ref fa)) (hk : PySem.W.keepIn X.K (.ref fa) = true) (hb : Binds X.K fd ps []) (ha : DA X C W (e :: es) r)
    (hdb : (x == ("__debug__" : Str)) = false := by decide) (he : starEach (e :: es) X.env = (false, eval e X.env) :: starEach es X.env := by rfl) (hpl : (backTo pos (starEach es X.env)).any (·.1) = false := by rfl) :
    DE X C W (.Call (.Name x p) (e :: es) [] pos) (dCall n F r) := by
  obtain ⟨t, pt, q⟩ := ha
  refine ⟨_, pe_callS G hr hg hm hk hb (fun σ => passAt tk σ) pt hdb he hpl, fun S0 H0 Pb σ H δ Q R h => q S0 H0 Pb σ H δ _ R ((r δ).mono (fun as h vs G g ok => ?_) (fun _ z => z) h)⟩
  refine ⟨Own (C.bx S0 H0) σ δ, as, h.1, fun b z => ?_, (R.gr g).tabs, fun q hq => (R.gr g).grow.le.sqL (R.scr q hq), ok, (F as).mono (fun d h v G' g' dp => h v G' (g.trans g') dp) (fun y hy cls dc G' g' ex => hy cls dc G' (g.trans g') (exat_own ex)) h.2⟩
  rcases z with z | ⟨i, ds, e1, e2⟩
  · exact (R.gr g).grow.dm b (R.dom b z)
  · obtain ⟨a, xs, q1, q2, _⟩ := (R.gr g).own i ds e1
    rw [e2] at q1
    cases q1
    rw [q2]
    exact fun z => nomatch z
end
end Tr

set_option Elab.async false
set_option linter.all false
set_option maxRecDepth 100000
set_option maxHeartbeats 4000000
namespace Tr
open PySem PySem.Spec L2

/-! ## statements -/
inductive Out where
  | nx (δ : De)
  | rt (d : D)
  | bk (δ : De)
  | ct (δ : De)
def OutW (B : Bx) (Pb : Hp) (E : Ends) : Out → Prop
  | .nx δ => ∀ σ H, Rep B Pb σ H δ → E.nx σ H
  | .rt d => ∀ v G, Grow B.H G → Dp B.c.K (hid B.S G) v d → E.rt v G
  | .bk δ => ∀ σ H, Rep B Pb σ H δ → E.bk σ H
  | .ct δ => ∀ σ H, Rep B Pb σ H δ → E.ct σ H
def Xw (B : Bx) (W : WX) (x : Exn) : Prop := ∀ cls dc σ G, Grow B.H G → ExAt B x cls dc G → W cls dc σ G
theorem Xw.ew {B : Bx} {W : WX} {x : Exn} {Pb : Hp} {σ : St} {H : Hp} {δ : De} (h : Xw B W x) (R : Rep B Pb σ H δ) : Ew B W σ H x := fun c d G g e => h c d σ G (R.grow.trans g) e
abbrev SF := De → Wp Out
def DS (X : Cx) (C : Cs) (W : WX) (st : Stmt) (F : SF) : Prop :=
  ∃ t, PS X st t ∧ ∀ S0 H0 Pb σ H δ E, Rep (C.bx S0 H0) Pb σ H δ → (F δ).run (OutW (C.bx S0 H0) Pb E) (Xw (C.bx S0 H0) W) → t E σ H
def DSs (X : Cx) (C : Cs) (W : WX) (st : List Stmt) (F : SF) : Prop :=
  ∃ t, PSs X st t ∧ ∀ S0 H0 Pb σ H δ E, Rep (C.bx S0 H0) Pb σ H δ → (F δ).run (OutW (C.bx S0 H0) Pb E) (Xw (C.bx S0 H0) W) → t E σ H

/-! ### what a store does to the state -/
theorem get_set_cases {A : Type} {l : List A} {i j : Nat} {x y : A} (h : (l.set i x)[j]? = some y) : (i = j ∧ y = x ∧ j < l.length) ∨ (i ≠ j ∧ l[j]? = some y) := by
  by_cases e : i = j
  · subst e
    have hl : i < l.length := by
      have := (List.getElem?_eq_some_iff.mp h).1
      rwa [List.length_set] at this
    rw [List.getElem?_set_self hl] at h
    exact .inl ⟨rfl, (Option.some.inj h).symm, hl⟩
  · rw [List.getElem?_set_ne e] at h
    exact .inr ⟨e, h⟩
theorem own_set {B : Bx} {σ : St} {δ : De} {i : Nat} {v : V} {d : D} {b : Addr} (hl : σ.length = δ.length) (h : Own B (σ.set i (some v)) (δ.set i (.p d)) b) : Own B σ δ b := by
  rcases h with z | ⟨j, ds, e1, e2⟩
  · exact .inl z
  · rcases get_set_cases e1 with ⟨_, h1, _⟩ | ⟨h1, h2⟩
    · cases h1
    · rcases get_set_cases e2 with ⟨h3, _⟩ | ⟨_, h4⟩
      · exact absurd h3 h1
      · exact .inr ⟨j, ds, h2, h4⟩
/-- a slot gets data -/
theorem Rep.setP {B : Bx} {Pb : Hp} {σ : St} {H : Hp} {δ : De} {i : Nat} {v : V} {d : D} (R : Rep B Pb σ H δ) (dp : Dp B.c.K (hid (Own B σ δ) H) v d) : Rep B Pb (σ.set i (some v)) H (δ.set i (.p d)) := by
  have sub : ∀ b, Own B (σ.set i (some v)) (δ.set i (.p d)) b → Own B σ δ b := fun b z => own_set R.len z
  have le : Le (hid (Own B σ δ) H) (hid (Own B (σ.set i (some v)) (δ.set i (.p d))) H) := hid_le (Le.refl H) sub
  refine ⟨R.ph.trans le, by rw [List.length_set, List.length_set]; exact R.len, R.grow, R.dom, R.tabs, fun j e h => ?_, fun j es h => ?_, fun j k es fs a h1 h2 h3 h4 => ?_, fun j x h => ?_, fun j b φ h => ?_, R.scr⟩
  · rcases get_set_cases h with ⟨rfl, h1, h2⟩ | ⟨h1, h2⟩
    · cases h1
      exact ⟨v, List.getElem?_set_self (by rw [R.len]; exact h2), Le.dp le _ v dp⟩
    · obtain ⟨u, q1, q2⟩ := R.pers j e h2
      exact ⟨u, by rw [List.getElem?_set_ne h1]; exact q1, Le.dp le _ u q2⟩
  · rcases get_set_cases h with ⟨_, h1, _⟩ | ⟨h1, h2⟩
    · cases h1
    · obtain ⟨a, xs, q1, q2, q3, q4⟩ := R.own j es h2
      exact ⟨a, xs, by rw [List.getElem?_set_ne h1]; exact q1, q2, q3, Le.dps le _ xs q4⟩
  · rcases get_set_cases h1 with ⟨_, z, _⟩ | ⟨n1, g1⟩
    · cases z
    · rcases get_set_cases h2 with ⟨_, z, _⟩ | ⟨n2, g2⟩
      · cases z
      · rw [List.getElem?_set_ne n1] at h3
        rw [List.getElem?_set_ne n2] at h4
        exact R.uniq j k es fs a g1 g2 h3 h4
  · rcases get_set_cases h with ⟨_, z, _⟩ | ⟨n1, g1⟩
    · cases z
    · rw [List.getElem?_set_ne n1]
      exact R.val j x g1
  · rcases get_set_cases h with ⟨_, z, _⟩ | ⟨n1, g1⟩
    · cases z
    · rw [List.getElem?_set_ne n1]
      exact ⟨(R.trk j b φ g1).1, le b _ (R.trk j b φ g1).2 fun ps z => by cases z⟩
/-- a slot gets a new list of its own -/
theorem Rep.setO {B : Bx} {Pb : Hp} {σ : St} {H G : Hp} {δ : De} {i : Nat} {a : Addr} {xs : List V} {ds : List D} (R : Rep B Pb σ H δ) (g : Grow H G) (na : H a = none) (ha : G a = some (.lst xs)) (dp : DpAll B.c.K (hid (fun b => Own B σ δ b ∨ b = a) G) xs ds) :
    Rep B Pb (σ.set i (some (.ref a))) G (δ.set i (.o ds)) := by
  have R' := R.gr g
  have nB : B.H a = none := R.grow.free na
  have nO : ∀ j es, δ[j]? = some (Sl.o es) → σ[j]? ≠ some (some (V.ref a)) := fun j es e z => by
    obtain ⟨b, ys, q1, q2, _⟩ := R.own j es e
    rw [z] at q1
    cases q1
    rw [na] at q2
    cases q2
  have sub : ∀ b, Own B (σ.set i (some (.ref a))) (δ.set i (.o ds)) b → Own B σ δ b ∨ b = a := fun b z => by
    rcases z with z | ⟨j, es, e1, e2⟩
    · exact .inl (.inl z)
    · rcases get_set_cases e1 with ⟨rfl, h1, h2⟩ | ⟨h1, h2⟩
      · rw [List.getElem?_set_self (by rw [R.len]; exact h2)] at e2
        cases e2
        exact .inr rfl
      · rw [List.getElem?_set_ne h1] at e2
        exact .inl (.inr ⟨j, es, h2, e2⟩)
  have leN : Le (hid (fun b => Own B σ δ b ∨ b = a) G) (hid (Own B (σ.set i (some (.ref a))) (δ.set i (.o ds))) G) := hid_le (Le.refl G) sub
  have leH : Le (hid (Own B σ δ) H) (hid (fun b => Own B σ δ b ∨ b = a) G) := fun b u e n => by
    obtain ⟨h1, h2⟩ := of_hid e
    rw [hid_in]
    · exact g.le b u h2 n
    · rintro (z | z)
      · exact h1 z
      · rw [z, na] at h2
        cases h2
  have le := leH.trans leN
  refine ⟨R.ph.trans le, by rw [List.length_set, List.length_set]; exact R.len, R'.grow, R.dom, R'.tabs, fun j e h => ?_, fun j es h => ?_, fun j k es fs b h1 h2 h3 h4 => ?_, fun j x h => ?_, fun j b φ h => ?_, R.scr⟩
  · rcases get_set_cases h with ⟨_, h1, _⟩ | ⟨h1, h2⟩
    · cases h1
    · obtain ⟨u, q1, q2⟩ := R.pers j e h2
      exact ⟨u, by rw [List.getElem?_set_ne h1]; exact q1, Le.dp le _ u q2⟩
  · rcases get_set_cases h with ⟨rfl, h1, h2⟩ | ⟨h1, h2⟩
    · cases h1
      exact ⟨a, xs, List.getElem?_set_self (by rw [R.len]; exact h2), ha, nB, Le.dps leN _ xs dp⟩
    · obtain ⟨b, ys, q1, q2, q3, q4⟩ := R.own j es h2
      exact ⟨b, ys, by rw [List.getElem?_set_ne h1]; exact q1, g.le b _ q2 (fun ps z => by cases z), q3, Le.dps le _ ys q4⟩
  · rcases get_set_cases h1 with ⟨e1, z1, l1⟩ | ⟨n1, g1⟩
    · rcases get_set_cases h2 with ⟨e2, z2, l2⟩ | ⟨n2, g2⟩
      · exact e1.symm.trans e2
      · subst e1
        rw [List.getElem?_set_self (by rw [R.len]; exact l1)] at h3
        cases h3
        rw [List.getElem?_set_ne n2] at h4
        exact absurd h4 (nO k _ g2)
    · rcases get_set_cases h2 with ⟨e2, z2, l2⟩ | ⟨n2, g2⟩
      · subst e2
        rw [List.getElem?_set_self (by rw [R.len]; exact l2)] at h4
        cases h4
        rw [List.getElem?_set_ne n1] at h3
        exact absurd h3 (nO j _ g1)
      · rw [List.getElem?_set_ne n1] at h3
        rw [List.getElem?_set_ne n2] at h4
        exact R.uniq j k es fs b g1 g2 h3 h4
  · rcases get_set_cases h with ⟨_, z, _⟩ | ⟨n1, g1⟩
    · cases z
    · rw [List.getElem?_set_ne n1]
      exact R.val j x g1
  · rcases get_set_cases h with ⟨_, z, _⟩ | ⟨n1, g1⟩
    · cases z
    · rw [List.getElem?_set_ne n1]
      exact ⟨(R.trk j b φ g1).1, le b _ (R.trk j b φ g1).2 fun ps z => by cases z⟩
/-- a list of one's own is changed -/
theorem Rep.wr {B : Bx} {Pb : Hp} {σ : St} {H : Hp} {δ : De} {i : Nat} {a : Addr} {xs ys : List V} {ds es : List D} (R : Rep B Pb σ H δ) (hd : δ[i]? = some (Sl.o ds)) (hs : σ[i]? = some (some (.ref a))) (ha : H a = some (.lst xs)) (dp : DpAll B.c.K (hid (Own B σ δ) H) ys es) :
    Rep B Pb σ (upd H a (.lst ys)) (δ.set i (.o es)) := by
  obtain ⟨a', xs', q1, q2, q3, q4⟩ := R.own i ds hd
  rw [hs] at q1
  cases q1
  have hi : i < δ.length := (List.getElem?_eq_some_iff.mp hd).1
  have oa : Own B σ δ a := .inr ⟨i, ds, hd, hs⟩
  have own : ∀ b, Own B σ (δ.set i (.o es)) b ↔ Own B σ δ b := fun b => by
    constructor
    · rintro (z | ⟨j, fs, e1, e2⟩)
      · exact .inl z
      · rcases get_set_cases e1 with ⟨rfl, h1, h2⟩ | ⟨h1, h2⟩
        · exact .inr ⟨i, ds, hd, e2⟩
        · exact .inr ⟨j, fs, h2, e2⟩
    · rintro (z | ⟨j, fs, e1, e2⟩)
      · exact .inl z
      · by_cases e : i = j
        · subst e
          exact .inr ⟨i, es, List.getElem?_set_self hi, e2⟩
        · exact .inr ⟨j, fs, by rw [List.getElem?_set_ne e]; exact e1, e2⟩
  have le : Le (hid (Own B σ δ) H) (hid (Own B σ (δ.set i (.o es))) (upd H a (.lst ys))) := fun b u e n => by
    obtain ⟨h1, h2⟩ := of_hid e
    rw [hid_in fun z => h1 ((own b).mp z), upd_ne]
    · exact h2
    · intro z
      subst z
      exact h1 oa
  refine ⟨R.ph.trans le, by rw [List.length_set]; exact R.len, ⟨fun b u e n => ?_, fun P h => ?_, fun b h => ?_⟩, R.dom, fun P h => ?_, fun j e h => ?_, fun j fs h => ?_, fun j k fs fs' b h1 h2 h3 h4 => ?_, fun j x h => ?_, fun j b φ h => ?_, R.scr⟩
  · rw [upd_ne (ne_of_none e q3)]
    exact R.grow.le b u e n
  · obtain ⟨ps, e, t⟩ := R.grow.tb P h
    refine ⟨ps, ?_, t⟩
    rw [upd_ne (ne_of e ha fun z => by cases z)]
    exact e
  · by_cases c : b = a
    · rw [c, upd_same]
      exact fun z => nomatch z
    · rw [upd_ne c]
      exact R.grow.dm b h
  · obtain ⟨ps, e, t⟩ := R.tabs P h
    refine ⟨ps, ?_, t⟩
    rw [upd_ne (ne_of e ha fun z => by cases z)]
    exact e
  · rcases get_set_cases h with ⟨_, h1, _⟩ | ⟨h1, h2⟩
    · cases h1
    · obtain ⟨u, g1, g2⟩ := R.pers j e h2
      exact ⟨u, g1, Le.dp le _ u g2⟩
  · rcases get_set_cases h with ⟨rfl, h1, h2⟩ | ⟨h1, h2⟩
    · cases h1
      exact ⟨a, ys, hs, upd_same, q3, Le.dps le _ ys dp⟩
    · obtain ⟨b, zs, g1, g2, g3, g4⟩ := R.own j fs h2
      refine ⟨b, zs, g1, ?_, g3, Le.dps le _ zs g4⟩
      rw [upd_ne]
      · exact g2
      · intro z
        subst z
        exact h1 (R.uniq i j ds fs b hd h2 hs g1)
  · have ex : ∀ j fs, (δ.set i (.o es))[j]? = some (Sl.o fs) → ∃ fs0, δ[j]? = some (Sl.o fs0) := fun j fs e => by
      rcases get_set_cases e with ⟨rfl, _, _⟩ | ⟨_, h2⟩
      · exact ⟨ds, hd⟩
      · exact ⟨fs, h2⟩
    obtain ⟨f1, g1⟩ := ex j fs h1
    obtain ⟨f2, g2⟩ := ex k fs' h2
    exact R.uniq j k f1 f2 b g1 g2 h3 h4
  · rcases get_set_cases h with ⟨_, z, _⟩ | ⟨n1, g1⟩
    · cases z
    · exact R.val j x g1
  · rcases get_set_cases h with ⟨_, z, _⟩ | ⟨n1, g1⟩
    · cases z
    · exact ⟨(R.trk j b φ g1).1, le b _ (R.trk j b φ g1).2 fun ps z => by cases z⟩
/-- a list of one's own becomes data -/
theorem Rep.fz {B : Bx} {Pb : Hp} {σ : St} {H : Hp} {δ : De} {i : Nat} {ds : List D} (R : Rep B Pb σ H δ) (hd : δ[i]? = some (Sl.o ds)) : Rep B Pb σ H (δ.set i (.p (.list ds))) := by
  obtain ⟨a, xs, q1, q2, q3, q4⟩ := R.own i ds hd
  have hi : i < δ.length := (List.getElem?_eq_some_iff.mp hd).1
  have hσ : σ.set i (some (.ref a)) = σ := by
    apply List.ext_getElem?
    intro j
    by_cases e : i = j
    · subst e
      rw [List.getElem?_set_self (by rw [R.len]; exact hi), q1]
    · rw [List.getElem?_set_ne e]
  have sub : ∀ b, Own B σ (δ.set i (.p (.list ds))) b → Own B σ δ b ∧ b ≠ a := fun b z => by
    rcases z with z | ⟨j, es, e1, e2⟩
    · refine ⟨.inl z, ?_⟩
      rintro rfl
      exact R.dom b z q3
    · rcases get_set_cases e1 with ⟨_, h1, _⟩ | ⟨h1, h2⟩
      · cases h1
      · refine ⟨.inr ⟨j, es, h2, e2⟩, ?_⟩
        rintro rfl
        exact h1 (R.uniq i j ds es b hd h2 q1 e2)
  have le : Le (hid (Own B σ δ) H) (hid (Own B σ (δ.set i (.p (.list ds)))) H) := hid_le (Le.refl H) fun b z => (sub b z).1
  refine ⟨R.ph.trans le, by rw [List.length_set]; exact R.len, R.grow, R.dom, R.tabs, fun j e h => ?_, fun j es h => ?_, fun j k es fs b h1 h2 h3 h4 => ?_, fun j x h => ?_, fun j b φ h => ?_, R.scr⟩
  · rcases get_set_cases h with ⟨rfl, h1, _⟩ | ⟨h1, h2⟩
    · cases h1
      refine ⟨.ref a, q1, .lst (SqL.of ?_) (Le.dps le ds xs q4)⟩
      rw [hid_in fun z => (sub a z).2 rfl]
      exact q2
    · obtain ⟨u, g1, g2⟩ := R.pers j e h2
      exact ⟨u, g1, Le.dp le _ u g2⟩
  · rcases get_set_cases h with ⟨_, h1, _⟩ | ⟨h1, h2⟩
    · cases h1
    · obtain ⟨b, ys, g1, g2, g3, g4⟩ := R.own j es h2
      exact ⟨b, ys, g1, g2, g3, Le.dps le _ ys g4⟩
  · rcases get_set_cases h1 with ⟨_, z, _⟩ | ⟨n1, g1⟩
    · cases z
    · rcases get_set_cases h2 with ⟨_, z, _⟩ | ⟨n2, g2⟩
      · cases z
      · exact R.uniq j k es fs b g1 g2 h3 h4
  · rcases get_set_cases h with ⟨_, z, _⟩ | ⟨n1, g1⟩
    · cases z
    · exact R.val j x g1
  · rcases get_set_cases h with ⟨_, z, _⟩ | ⟨n1, g1⟩
    · cases z
    · exact ⟨(R.trk j b φ g1).1, le b _ (R.trk j b φ g1).2 fun ps z => by cases z⟩

/-! ### the rules -/
section
variable {X : Cx} {C : Cs} {W : WX} {pos : Pos} {e : Expr} {f : DF} {st : Stmt} {rest : List Stmt} {F G : SF}
theorem ds_never : DS X C W st fun _ => .stuck := ⟨_, ps_never, fun _ _ _ _ _ _ _ _ h => h⟩
theorem dss_never {sts : List Stmt} : DSs X C W sts fun _ => .stuck := ⟨_, pss_never, fun _ _ _ _ _ _ _ _ h => h⟩
def sNext : SF := fun δ => .pure (.nx δ)
theorem dss_nil : DSs X C W [] sNext := ⟨_, pss_nil, fun _ _ _ σ H _ _ R h => h σ H R⟩
/-- one, then another -/
def sSeq (F G : SF) : SF := fun δ => (F δ).bind fun o => match o with
  | .nx δ' => G δ'
  | o => .pure o
theorem dss_cons (h1 : DS X C W st F) (h2 : DSs X C W rest G) : DSs X C W (st :: rest) (sSeq F G) := by
  obtain ⟨t, p, q⟩ := h1
  obtain ⟨u, p2, q2⟩ := h2
  refine ⟨_, pss_cons p p2, fun S0 H0 Pb σ H δ E R h => q S0 H0 Pb σ H δ _ R ((F δ).mono (fun o h => ?_) (fun _ z => z) h)⟩
  cases o with
  | nx δ' => exact fun σ' H' R' => q2 S0 H0 Pb σ' H' δ' E R' h
  | rt d => exact h
  | bk δ' => exact h
  | ct δ' => exact h
theorem dss_one (h1 : DS X C W st F) : DSs X C W [st] F := by
  obtain ⟨t, p, q⟩ := h1
  exact ⟨_, pss_one p, q⟩
/-- a list of one's own in slot i becomes data, ahead of the rest -/
def fz (i : Nat) (δ : De) : De := match δ[i]? with
  | some (.o ds) => δ.set i (.p (.list ds))
  | _ => δ
theorem dss_fz (i : Nat) {sts : List Stmt} (h : DSs X C W sts F) : DSs X C W sts (fun δ => F (fz i δ)) := by
  obtain ⟨t, p, q⟩ := h
  refine ⟨t, p, fun S0 H0 Pb σ H δ E R h => q S0 H0 Pb σ H (fz i δ) E ?_ h⟩
  unfold fz
  split
  · rename_i ds e
    exact R.fz e
  · exact R
theorem ds_pass : DS X C W (.Pass pos) sNext := ⟨_, ps_pass, fun _ _ _ σ H _ _ R h => h σ H R⟩
theorem ds_break : DS X C W (.Break pos) fun δ => .pure (.bk δ) := ⟨_, ps_break, fun _ _ _ σ H _ _ R h => h σ H R⟩
theorem ds_cont : DS X C W (.Continue pos) fun δ => .pure (.ct δ) := ⟨_, ps_continue, fun _ _ _ σ H _ _ R h => h σ H R⟩
def sRet (f : DF) : SF := fun δ => (f δ).bind fun d => .pure (.rt d)
theorem ds_ret (he : DE X C W e f) : DS X C W (.Return (some e) pos) (sRet f) := by
  obtain ⟨t, p, q⟩ := he
  refine ⟨_, ps_ret p, fun S0 H0 Pb σ H δ E R h => q S0 H0 Pb σ H δ _ R ((f δ).mono (fun d h v G g dp => ?_) (fun _ z => z.ew R) h)⟩
  exact h v G (R.grow.trans g) (Le.dp (hid_le (Le.refl G) fun _ z => .inl z) d v dp)
theorem ds_retN : DS X C W (.Return none pos) fun _ => .pure (.rt .none) := ⟨_, ps_retN, fun _ _ _ σ H _ _ R h => h .non H R.grow .non⟩
def sDrop (f : DF) : SF := fun δ => (f δ).bind fun _ => .pure (.nx δ)
theorem ds_expr (he : DE X C W e f) (hs : swapsWith e none pos.line X.env = pure false := by rfl) : DS X C W (.Expr e pos) (sDrop f) := by
  obtain ⟨t, p, q⟩ := he
  refine ⟨_, ps_expr p hs, fun S0 H0 Pb σ H δ E R h => q S0 H0 Pb σ H δ _ R ((f δ).mono (fun d h v G g dp => h σ G (R.gr g)) (fun _ z => z.ew R) h)⟩
/-- x = e -/
def sSet (i : Nat) (f : DF) : SF := fun δ => (f δ).bind fun d => .pure (.nx (δ.set i (.p d)))
theorem ds_set {i : Nat} {x : Str} {pos' : Pos} (hN : X.N.Nodup) (hi : X.N[i]? = some x) (hx : Loc X.env.scope x) (he : DE X C W e f) (hs : swapsWith e (some (.Name x pos')) pos.line X.env = pure false := by rfl) (hf : X.fn x = true ∨ X.env.scope.names.lookup x = some .local := by first | exact .inl rfl | exact .inr rfl | assumption) :
    DS X C W (.Assign [.Name x pos'] e pos) (sSet i f) := by
  obtain ⟨t, p, q⟩ := he
  refine ⟨_, ps_set hN hi hx p hs hf, fun S0 H0 Pb σ H δ E R h => q S0 H0 Pb σ H δ _ R ((f δ).mono (fun d h v G g dp => ?_) (fun _ z => z.ew R) h)⟩
  exact h _ G ((R.gr g).setP dp)
def sIf (c : TF) (F G : SF) : SF := fun δ => (c δ).bind fun b => if b then F δ else G δ
theorem ds_if {c : Expr} {a b : List Stmt} {t : TF} (hc : DT X C W c t) (ha : DSs X C W a F) (hb : DSs X C W b G) : DS X C W (.If c a b pos) (sIf t F G) := by
  obtain ⟨tc, pc, qc⟩ := hc
  obtain ⟨ta, pa, qa⟩ := ha
  obtain ⟨tb, pb, qb⟩ := hb
  refine ⟨_, ps_if pc pa pb, fun S0 H0 Pb σ H δ E R h => qc S0 H0 Pb σ H δ _ R ((t δ).mono (fun k h G' g => ?_) (fun _ z => z.ew R) h)⟩
  cases k with
  | true => exact qa S0 H0 Pb σ G' δ E (R.gr g) h
  | false => exact qb S0 H0 Pb σ G' δ E (R.gr g) h
/-! ### targets -/
theorem wipe_get {σ : St} {j : Nat} : ∀ {vs : List Nat}, (wipe σ vs)[j]? = if j ∈ vs then (σ[j]?).map (fun _ => none) else σ[j]?
  | [] => by simp [wipe]
  | v :: vs => by
    unfold wipe
    by_cases e : v = j
    · subst e
      rw [if_pos (List.mem_cons_self ..)]
      by_cases hl : v < σ.length
      · rw [List.getElem?_set_self (by rw [wipe_length]; exact hl), List.getElem?_eq_getElem hl]
        rfl
      · rw [List.getElem?_eq_none (by rw [List.length_set, wipe_length]; omega), List.getElem?_eq_none (by omega)]
        rfl
    · rw [List.getElem?_set_ne e, wipe_get (vs := vs)]
      have : (j ∈ v :: vs) ↔ j ∈ vs := by
        rw [List.mem_cons]
        exact ⟨fun z => z.resolve_left fun q => e q.symm, .inr⟩
      simp only [this]
theorem wipe_set {σ : St} {i : Nat} {x : Option V} {vs : List Nat} (h : i ∈ vs) : wipe (σ.set i x) vs = wipe σ vs := by
  apply List.ext_getElem?
  intro j
  rw [wipe_get, wipe_get]
  by_cases e : i = j
  · subst e
    rw [if_pos h, if_pos h]
    by_cases hl : i < σ.length
    · rw [List.getElem?_set_self hl, List.getElem?_eq_getElem hl]
      rfl
    · rw [List.getElem?_eq_none (by rw [List.length_set]; omega), List.getElem?_eq_none (by omega)]
  · rw [List.getElem?_set_ne e]
abbrev BF := D → De → Option De
def DG (X : Cx) (C : Cs) (tg : Expr) (ix : List Nat) (f : BF) : Prop :=
  ∃ g, PG X tg g ∧ ∀ S0 H0 Pb σ H δ x d δ' Q, Rep (C.bx S0 H0) Pb σ H δ → Dp C.K (hid (Own (C.bx S0 H0) σ δ) H) x d → f d δ = some δ' →
    (∀ σ', Rep (C.bx S0 H0) Pb σ' H δ' → (∀ b, Own (C.bx S0 H0) σ' δ' b → Own (C.bx S0 H0) σ δ b) → (∀ vs, (∀ i ∈ ix, i ∈ vs) → wipe σ' vs = wipe σ vs) → Q σ' H) → g x σ H Q
def DGs (X : Cx) (C : Cs) (tgs : List Expr) (ix : List Nat) (f : List D → De → Option De) : Prop :=
  ∃ g, PGs X tgs g ∧ ∀ S0 H0 Pb σ H δ xs ds δ' Q, Rep (C.bx S0 H0) Pb σ H δ → DpAll C.K (hid (Own (C.bx S0 H0) σ δ) H) xs ds → f ds δ = some δ' →
    (∀ σ', Rep (C.bx S0 H0) Pb σ' H δ' → (∀ b, Own (C.bx S0 H0) σ' δ' b → Own (C.bx S0 H0) σ δ b) → (∀ vs, (∀ i ∈ ix, i ∈ vs) → wipe σ' vs = wipe σ vs) → Q σ' H) → g xs σ H Q
def bName (i : Nat) : BF := fun d δ => some (δ.set i (.p d))
theorem dg_name {i : Nat} {x : Str} (hN : X.N.Nodup) (hi : X.N[i]? = some x) (hx : Loc X.env.scope x) (hf : X.fn x = true ∨ X.env.scope.names.lookup x = some .local := by first | exact .inl rfl | exact .inr rfl | assumption) : DG X C (.Name x pos) [i] (bName i) := by
  refine ⟨_, pg_name hN hi hx hf, fun S0 H0 Pb σ H δ x d δ' Q R dp h k => ?_⟩
  cases h
  exact k _ (R.setP dp) (fun b z => own_set R.len z) fun vs h => wipe_set (h i (List.mem_singleton.mpr rfl))
def bNil : List D → De → Option De
  | [], δ => some δ
  | _, _ => none
def bCons (f : BF) (r : List D → De → Option De) : List D → De → Option De
  | d :: ds, δ => (f d δ).bind (r ds)
  | [], _ => none
def bTup (n : Nat) (r : List D → De → Option De) : BF
  | .tuple ds, δ => if ds.length = n then r ds δ else none
  | _, _ => none
theorem dgs_nil : DGs X C [] [] bNil := by
  refine ⟨_, pgs_nil, fun S0 H0 Pb σ H δ xs ds δ' Q R dp h k => ?_⟩
  cases dp with
  | nil =>
    cases h
    exact ⟨rfl, k σ R (fun _ z => z) fun _ _ => rfl⟩
  | cons a b => cases h
theorem dgs_cons {es : List Expr} {ix iy : List Nat} {f : BF} {r : List D → De → Option De} (h1 : DG X C e ix f) (h2 : DGs X C es iy r) (hs : (assignEach (e :: es) X.env).map (·.2) = assign e X.env :: (assignEach es X.env).map (·.2) := by rfl) : DGs X C (e :: es) (ix ++ iy) (bCons f r) := by
  obtain ⟨g, p, q⟩ := h1
  obtain ⟨g2, p2, q2⟩ := h2
  refine ⟨_, pgs_cons p p2 hs, fun S0 H0 Pb σ H δ xs ds δ' Q R dp h k => ?_⟩
  cases dp with
  | nil => cases h
  | cons a b =>
    rename_i v vs d ds
    obtain ⟨δ1, h3, h4⟩ := Option.bind_eq_some_iff.mp h
    refine ⟨v, vs, rfl, q S0 H0 Pb σ H δ v d δ1 _ R a h3 fun σ1 R1 o1 w1 => ?_⟩
    exact q2 S0 H0 Pb σ1 H δ1 vs ds δ' Q R1 (Le.dps (hid_le (Le.refl H) o1) ds vs b) h4 fun σ2 R2 o2 w2 => k σ2 R2 (fun b z => o1 b (o2 b z)) fun vs h => (w2 vs fun i hi => h i (List.mem_append_right _ hi)).trans (w1 vs fun i hi => h i (List.mem_append_left _ hi))
theorem dg_tup {es : List Expr} {ix : List Nat} {kk n : Nat} {r : List D → De → Option De} (hK : C.K = X.K) (hc : X.calm = true) (h : DGs X C es ix r) (hn : (assignEach es X.env).length = n := by rfl) (hst : (assignEach es X.env).findIdx? (·.1) = none := by rfl) : DG X C (.Tuple es kk pos) ix (bTup n r) := by
  obtain ⟨g, p, q⟩ := h
  refine ⟨_, pg_tup hc p hn hst, fun S0 H0 Pb σ H δ x d δ' Q R dp h k => ?_⟩
  unfold bTup at h
  split at h
  · cases dp with
    | tup s a =>
      split at h
      · rename_i hl
        exact ⟨_, _, rfl, by rw [← hK]; exact Le.sqT hid_sub s, by rw [dps_len a]; exact hl, q S0 H0 Pb σ H δ _ _ δ' Q R a h k⟩
      · cases h
  · cases h
/-- a, b = e -/
def sAsg (f : DF) (g : BF) : SF := fun δ => (f δ).bind fun d => (optW (g d δ)).bind fun δ' => .pure (.nx δ')
theorem ds_asg {tg : Expr} {ix : List Nat} {g : BF} (he : DE X C W e f) (hg : DG X C tg ix g) (hs : swapsWithSole [tg] e pos.line X.env = pure false := by rfl) (hw : swappedStores [tg] e X.env = pure none := by rfl)
    (h1 : (assignEach [tg] X.env).map (·.2) = [assign tg X.env] := by rfl) : DS X C W (.Assign [tg] e pos) (sAsg f g) := by
  obtain ⟨t, p, q⟩ := he
  obtain ⟨u, p2, q2⟩ := hg
  refine ⟨_, ps_asg p p2 hs hw h1, fun S0 H0 Pb σ H δ E R h => q S0 H0 Pb σ H δ _ R ((f δ).mono (fun d h v G g' dp => ?_) (fun _ z => z.ew R) h)⟩
  obtain ⟨δ', h2, h3⟩ := optW_inv h
  exact q2 S0 H0 Pb σ G δ v d δ' _ (R.gr g') dp h2 fun σ' R' _ _ => h3 σ' G R'
/-- a, b = e1, e2 -/
def sPar (i j : Nat) (r : AF) : SF := fun δ => (r δ).bind fun as => match as with
  | [.d x, .d y] => .pure (.nx ((δ.set i (.p x)).set j (.p y)))
  | _ => .stuck
theorem ds_par {i j : Nat} {x y : Str} {a b : Expr} {r : AF} {px py pt : Pos} {kt k2 pt2} (hc : X.calm = true) (hN : X.N.Nodup) (hi : X.N[i]? = some x) (hj : X.N[j]? = some y) (hij : i ≠ j)
    (hx : X.env.scope.names.lookup x = some .local) (hy : X.env.scope.names.lookup y = some .local) (ha : DA X C W [a, b] r) (hw : swappedStores [.Tuple [.Name x px, .Name y py] kt pt] (.Tuple [a, b] k2 pt2) X.env = pure (some [x, y]))
    (hs : swapsWithSole [.Tuple [.Name x px, .Name y py] kt pt] (.Tuple [a, b] k2 pt2) pos.line X.env = pure false := by rfl) : DS X C W (.Assign [.Tuple [.Name x px, .Name y py] kt pt] (.Tuple [a, b] k2 pt2) pos) (sPar i j r) := by
  obtain ⟨t, p, q⟩ := ha
  refine ⟨_, ps_par hc hN hi hj hij hx hy p hw hs, fun S0 H0 Pb σ H δ E R h => q S0 H0 Pb σ H δ _ R ((r δ).mono (fun as h vs G g ok => ?_) (fun _ z => z.ew R) h)⟩
  dsimp only at h
  split at h
  · match vs, ok with
    | [v, u], ⟨d1, d2, _⟩ =>
      refine ⟨v, u, rfl, h _ G ?_⟩
      have R1 := (R.gr g).setP (i := i) d1
      exact R1.setP (Le.dp (hid_le (Le.refl G) fun b z => own_set (R.gr g).len z) _ _ d2)
    | [], ok => exact ok.elim
    | [_], ok => exact ok.2.elim
    | _ :: _ :: _ :: _, ok => exact ok.2.2.elim
  · exact h.elim
/-! ### while -/
/-- while c: body -/
def sWhile (c : TF) (b : SF) : SF := fun δ => ⟨fun k w => ∃ I : Nat → De → Prop, (∃ m, I m δ) ∧ ∀ m δ, I m δ → (c δ).run (fun t => if t = true then (b δ).run (fun o => match o with
    | .nx δ' => ∃ m', m' < m ∧ I m' δ'
    | .ct δ' => ∃ m', m' < m ∧ I m' δ'
    | .bk δ' => k (.nx δ')
    | .rt d => k (.rt d)) w else k (.nx δ)) w, fun {k k' w w'} hk hw ⟨I, h0, h⟩ => ⟨I, h0, fun m δ hi => (c δ).mono (fun t ht => by
      cases t with
      | false => exact hk _ ht
      | true => exact (b δ).mono (fun o ho => by cases o <;> first | exact ho | exact hk _ ho) hw ht) hw (h m δ hi)⟩⟩
theorem ds_while {c : Expr} {body : List Stmt} {t : TF} (hp : PassesOwn (model X.prog X.w) X.A X.env X.xe) (hc : DT X C W c t) (hb : DSs X C W body F) : DS X C W (.While c body [] pos) (sWhile t F) := by
  obtain ⟨tc, pc, qc⟩ := hc
  obtain ⟨tb, pb, qb⟩ := hb
  refine ⟨_, ps_while hp pc pb, fun S0 H0 Pb σ H δ E R h => ?_⟩
  obtain ⟨I, ⟨m0, i0⟩, h⟩ := h
  refine ⟨fun m σ H => ∃ δ, Rep (C.bx S0 H0) Pb σ H δ ∧ I m δ, ⟨m0, δ, R, i0⟩, fun m σ H ⟨δ, R, i⟩ => ?_⟩
  refine qc S0 H0 Pb σ H δ _ R ((t δ).mono (fun k hk G g => ?_) (fun _ z => z.ew R) (h m δ i))
  cases k with
  | false => exact hk σ G (R.gr g)
  | true =>
    refine ⟨fun σ' H' => ∃ m', m' < m ∧ ∃ δ', Rep (C.bx S0 H0) Pb σ' H' δ' ∧ I m' δ', fun σ' H' q => q, ?_⟩
    refine qb S0 H0 Pb σ G δ _ (R.gr g) ((F δ).mono (fun o ho => ?_) (fun _ z => z) hk)
    cases o with
    | nx δ' => exact fun σ' H' R' => let ⟨m', h1, h2⟩ := ho; ⟨m', h1, δ', R', h2⟩
    | ct δ' => exact fun σ' H' R' => let ⟨m', h1, h2⟩ := ho; ⟨m', h1, δ', R', h2⟩
    | bk δ' => exact ho
    | rt d => exact ho
end
end Tr

set_option Elab.async false
set_option linter.all false
set_option maxRecDepth 100000
set_option maxHeartbeats 4000000
namespace Tr
open PySem PySem.Spec L2

theorem Rep.base {B : Bx} {Pb Ph : Hp} {σ : St} {H : Hp} {δ : De} (R : Rep B Ph σ H δ) (l : Le Pb Ph) : Rep B Pb σ H δ :=
  ⟨l.trans R.ph, R.len, R.grow, R.dom, R.tabs, R.pers, R.own, R.uniq, R.val, R.trk, R.scr⟩
theorem Rep.top {B : Bx} {Pb : Hp} {σ : St} {H : Hp} {δ : De} (R : Rep B Pb σ H δ) : Rep B (hid (Own B σ δ) H) σ H δ :=
  ⟨Le.refl _, R.len, R.grow, R.dom, R.tabs, R.pers, R.own, R.uniq, R.val, R.trk, R.scr⟩
theorem Rep.odom {B : Bx} {Pb : Hp} {σ : St} {H : Hp} {δ : De} (R : Rep B Pb σ H δ) : ∀ b, Own B σ δ b → H b ≠ none := fun b z => by
  rcases z with z | ⟨i, ds, e1, e2⟩
  · exact R.grow.dm b (R.dom b z)
  · obtain ⟨a, xs, q1, q2, _⟩ := R.own i ds e1
    rw [e2] at q1
    cases q1
    rw [q2]
    exact fun z => nomatch z

/-! ## what is walked -/
/-- the turns of J give ds, whatever stands beside Ph -/
def Items (K : PySem.W.Frag) (Ph : Hp) (ds : List D) (J : It) : Prop := ∃ Gp Y, Walk J ds.length Gp Y ∧ (∀ H1, Le Ph H1 → Gp H1) ∧
  ∀ i H1 x H2 (S : Addr → Prop), i < ds.length → Le Ph (hid S H1) → (∀ b, S b → H1 b ≠ none) → Y i H1 x H2 → Grow H1 H2 ∧ ∃ d, ds[i]? = some d ∧ Dp K (hid S H2) x d
def DI (X : Cx) (C : Cs) (W : WX) (tg iter : Expr) (f : De → Wp (List D)) : Prop :=
  ∃ wi, PI X tg iter wi ∧ ∀ S0 H0 Pb σ H δ Q, Rep (C.bx S0 H0) Pb σ H δ → (f δ).run (fun ds => ∀ J G, Grow H G → Items C.K (hid (Own (C.bx S0 H0) σ δ) G) ds J → Q J G) (Ew (C.bx S0 H0) W σ H) → wi σ H Q
theorem items_at {K : PySem.W.Frag} {Ph : Hp} {xs : List V} {ds : List D} {J : It} {Gp : Hp → Prop} (w : Walk J xs.length Gp (YAt xs)) (hG : ∀ H1, Le Ph H1 → Gp H1) (dp : DpAll K Ph xs ds) : Items K Ph ds J := by
  refine ⟨Gp, YAt xs, by rw [← dps_len dp]; exact w, hG, fun i H1 x H2 S hi l _ y => ?_⟩
  obtain ⟨rfl, e⟩ := y
  obtain ⟨d, hd⟩ : ∃ d, ds[i]? = some d := ⟨ds[i], List.getElem?_eq_getElem hi⟩
  obtain ⟨v, h1, h2⟩ := dps_get dp hd
  rw [e] at h1
  cases h1
  exact ⟨Grow.refl _, d, hd, Le.dp l d x h2⟩
def seqD : D → Wp (List D)
  | .list ds => .pure ds
  | .tuple ds => .pure ds
  | _ => .stuck
section
variable {X : Cx} {C : Cs} {W : WX} {pos p : Pos} {e tg : Expr} {f : DF}
/-- a list or a tuple, walked -/
def wSeq (K : PySem.W.Frag) (tl : TE) : TI := fun σ H R => tl σ H fun x H1 => ∃ a, x = .ref a ∧ ((∃ xs, SqL K H1 a xs ∧ R (Itl K a) H1) ∨ ∃ xs, SqT K H1 a xs ∧ R (Itt K a) H1)
theorem pi_seq {tl : TE} (hl : PE X e tl) : PI X tg e (wSeq X.K tl) := by
  constructor
  intro pins s σ H R I h
  refine thn (hl.run pins s σ H _ I h) ?_
  rintro v s1 ⟨x, H1, I1, r1, a, rfl, q⟩
  cases r1
  have one : ∀ b, b ∈ [s1.heap.objs.size] → FpOk X pins H1 b := fun b hb => by
    cases List.mem_singleton.mp hb
    exact I1.fpOk (Nat.le_refl _) (I1.hok.fresh (Nat.le_refl _))
  rcases q with ⟨xs, hq, q⟩ | ⟨xs, hq, q⟩
  · obtain ⟨its, rv, pl, hz⟩ := I1.list hq
    apply wpAny_pyIter_list pl.isList
    exact ⟨s1.heap.objs.size, [s1.heap.objs.size], _, _, H1, rfl, I1.kept (t' := s1.toks) (fun _ _ z => Heap.get?_push_of_some _ z), turn_list a _, ⟨_, Heap.get?_push_size _ rfl, rfl, rfl⟩, one, q⟩
  · obtain ⟨its, rv, pl, hz⟩ := I1.tuple hq
    apply wpAny_pyIter_tuple (show s1.heap.IsTuple a its.toArray from pl)
    exact ⟨s1.heap.objs.size, [s1.heap.objs.size], _, _, H1, rfl, I1.kept (t' := s1.toks) (fun _ _ z => Heap.get?_push_of_some _ z), turn_tuple a _, ⟨_, Heap.get?_push_size _ rfl, rfl, rfl⟩, one, q⟩
def iSeqD (f : DF) : De → Wp (List D) := fun δ => (f δ).bind seqD
theorem di_seq (hK : C.K = X.K) (he : DE X C W e f) : DI X C W tg e (iSeqD f) := by
  obtain ⟨t, pt, q⟩ := he
  refine ⟨_, pi_seq pt, fun S0 H0 Pb σ H δ Q R h => q S0 H0 Pb σ H δ _ R ((f δ).mono (fun d h v G g dp => ?_) (fun _ z => z) h)⟩
  rw [← hK]
  cases dp with
  | lst s a => exact ⟨_, rfl, .inl ⟨_, Le.sqL hid_sub s, h _ G g (items_at walk_list (fun H1 l => l.sqL s) a)⟩⟩
  | tup s a => exact ⟨_, rfl, .inr ⟨_, Le.sqT hid_sub s, h _ G g (items_at walk_tup (fun H1 l => l.sqT s) a)⟩⟩
  | _ => exact h.elim
/-- range(n), range(a, b) -/
def rgD (lo : Int) (n : Nat) : List D := (List.range n).map fun (i : Nat) => .int (lo + (i : Int))
theorem items_range {K : PySem.W.Frag} {Ph : Hp} {lo : Int} {n : Nat} : Items K Ph (rgD lo n) (Itr lo n) := by
  have hl : (rgD lo n).length = n := by simp [rgD]
  refine ⟨_, _, by rw [hl]; exact walk_range, fun _ _ => trivial, fun i H1 x H2 S hi _ _ y => ?_⟩
  obtain ⟨rfl, rfl⟩ := y
  rw [hl] at hi
  exact ⟨Grow.refl _, .int (lo + i), by simp [rgD, hi], .int _⟩
def asI1 : D → Wp Int
  | .int i => .pure i
  | _ => .stuck
def lo62 (j : Int) : Prop := -(2 ^ 62) ≤ j ∧ j < 2 ^ 62
def iRgD1 (f : DF) : De → Wp (List D) := fun δ => (f δ).bind fun d => (asI1 d).bind fun j => .need (lo62 j) (.pure (rgD 0 j.toNat))
def iRgD2 (f g : DF) : De → Wp (List D) := fun δ => (f δ).bind fun d => (g δ).bind fun e => (asI1 d).bind fun i => (asI1 e).bind fun j => .need (lo62 i ∧ lo62 j) (.pure (rgD i (j - i).toNat))
theorem asI1_dp {K : PySem.W.Frag} {H : Hp} {v : V} {d : D} {k : Int → Prop} {w : Exn → Prop} (dp : Dp K H v d) (h : (asI1 d).run k w) : ∃ i, v = .int i ∧ k i := by
  unfold asI1 at h
  split at h
  · cases dp
    exact ⟨_, rfl, h⟩
  · exact h.elim
theorem di_range1 (hg : Gl X "range") (hm : X.mg "range" = none) (he : DE X C W e f) (hs : starEach [e] X.env = [(false, eval e X.env)] := by rfl) : DI X C W tg (.Call (.Name "range" p) [e] [] pos) (iRgD1 f) := by
  obtain ⟨t, pt, q⟩ := he
  refine ⟨_, pi_range1 hg hm (pa_cons pt pa_nil hs) hs, fun S0 H0 Pb σ H δ Q R h => q S0 H0 Pb σ H δ _ R ((f δ).mono (fun d h v G g dp => ?_) (fun _ z => z) h)⟩
  obtain ⟨j, rfl, hj, hk⟩ := asI1_dp dp h
  exact ⟨j, rfl, hj.1, hj.2, hk _ G g items_range⟩
theorem di_range2 {e2 : Expr} {f2 : DF} (hg : Gl X "range") (hm : X.mg "range" = none) (he : DE X C W e f) (he2 : DE X C W e2 f2) (hs : starEach [e, e2] X.env = [(false, eval e X.env), (false, eval e2 X.env)] := by rfl) (hs2 : starEach [e2] X.env = [(false, eval e2 X.env)] := by rfl) :
    DI X C W tg (.Call (.Name "range" p) [e, e2] [] pos) (iRgD2 f f2) := by
  obtain ⟨t, pt, q⟩ := he
  obtain ⟨u, pu, q2⟩ := he2
  refine ⟨_, pi_range2 hg hm (pa_cons pt (pa_cons pu pa_nil hs2) (by rw [hs, hs2])) hs hs2, fun S0 H0 Pb σ H δ Q R h => q S0 H0 Pb σ H δ _ R ((f δ).mono (fun d h v G g dp => ?_) (fun _ z => z) h)⟩
  refine q2 S0 H0 Pb σ G δ _ (R.gr g) ((f2 δ).mono (fun d2 h v2 G2 g2 dp2 => ?_) (fun _ z => z.gr g) h)
  obtain ⟨i, rfl, h⟩ := asI1_dp dp h
  obtain ⟨j, rfl, hj, hk⟩ := asI1_dp dp2 h
  exact ⟨i, j, rfl, ⟨hj.1.1, hj.1.2, hj.2.1, hj.2.2⟩, hk _ G2 (g.trans g2) items_range⟩

/-! ## for -/
def sLoop (g : BF) (F : SF) : List D → De → Wp Out
  | [], δ => .pure (.nx δ)
  | d :: ds, δ => (optW (g d δ)).bind fun δ1 => (F δ1).bind fun o => match o with
    | .nx δ' => sLoop g F ds δ'
    | .ct δ' => sLoop g F ds δ'
    | .bk δ' => .pure (.nx δ')
    | .rt d => .pure (.rt d)
def sFor (f : De → Wp (List D)) (g : BF) (F : SF) : SF := fun δ => (f δ).bind fun ds => sLoop g F ds δ
theorem OutW.base {B : Bx} {Pb Ph : Hp} {E : Ends} {o : Out} (l : Le Pb Ph) (h : OutW B Pb E o) : OutW B Ph E o := by
  cases o with
  | nx δ => exact fun σ H R => h σ H (R.base l)
  | rt d => exact h
  | bk δ => exact fun σ H R => h σ H (R.base l)
  | ct δ => exact fun σ H R => h σ H (R.base l)
theorem ds_for {fi : De → Wp (List D)} {g : BF} {ix : List Nat} {F : SF} {body : List Stmt} (hp : PassesOwn (model X.prog X.w) X.A X.env X.xe) (hc : X.calm = true) (hi : DI X C W tg e fi) (hg : DG X C tg ix g) (hb : DSs X C W body F) (hs : ∀ x, foldedSetIterable e X.env x = pure x := by intro _; rfl) : DS X C W (.For tg e body [] pos) (sFor fi g F) := by
  obtain ⟨wi, pw, qw⟩ := hi
  obtain ⟨tg', pg, qg⟩ := hg
  obtain ⟨tb, pb, qb⟩ := hb
  refine ⟨_, ps_for hp hc pw pg pb hs, fun S0 H0 Pb σ H δ E R h => qw S0 H0 Pb σ H δ _ R ((fi δ).mono (fun ds h J G gr it => ?_) (fun _ z => z.ew R) h)⟩
  obtain ⟨Gp, Y, w, hG, hY⟩ := it
  have R1 := (R.gr gr).top
  have lb : Le Pb (hid (Own (C.bx S0 H0) σ δ) G) := (R.gr gr).ph
  revert R1 hY hG lb
  generalize hid (Own (C.bx S0 H0) σ δ) G = Ph
  intro hG hY R1 lb
  refine for_it w (fun i σ H => ∃ δ, Rep (C.bx S0 H0) Ph σ H δ ∧ (sLoop g F (ds.drop i) δ).run (OutW (C.bx S0 H0) Pb E) (Xw (C.bx S0 H0) W)) ⟨δ, R1, h⟩ (fun i σ H _ ⟨δ, R, _⟩ => hG H (R.ph.trans hid_sub)) (fun i x σ H H2 hi ⟨δ, R, hl⟩ y => ?_) (fun σ H ⟨δ, R, hl⟩ => ?_)
  · obtain ⟨gw, d, hd, dp⟩ := hY i H x H2 _ hi R.ph R.odom y
    have ed : ds.drop i = d :: ds.drop (i + 1) := by
      rw [List.drop_eq_getElem_cons hi]
      rw [List.getElem?_eq_getElem hi] at hd
      rw [Option.some.inj hd]
    rw [ed] at hl
    obtain ⟨δ1, h1, h2⟩ := optW_inv hl
    refine qg S0 H0 Ph σ H2 δ x d δ1 _ (R.gr gw) dp h1 fun σ1 R1 _ _ => ?_
    refine qb S0 H0 Ph σ1 H2 δ1 _ R1 ((F δ1).mono (fun o ho => ?_) (fun _ z => z) h2)
    cases o with
    | nx δ' => exact fun σ' H' R' => ⟨δ', R', ho⟩
    | ct δ' => exact fun σ' H' R' => ⟨δ', R', ho⟩
    | bk δ' => exact OutW.base (o := .nx δ') lb ho
    | rt d => exact ho
  · rw [List.drop_length] at hl
    exact hl σ H (R.base lb)
/-! ## a new list of one's own -/
def DN (X : Cx) (C : Cs) (W : WX) (e : Expr) (f : De → Wp (List D)) : Prop :=
  ∃ t, PE X e t ∧ ∀ S0 H0 Pb σ H δ Q, Rep (C.bx S0 H0) Pb σ H δ → (f δ).run (fun ds => ∀ a xs G, Grow H G → H a = none → G a = some (.lst xs) → DpAll C.K (hid (fun b => Own (C.bx S0 H0) σ δ b ∨ b = a) G) xs ds → Q (.ref a) G) (Ew (C.bx S0 H0) W σ H) → t σ H Q
def dNl (f : De → Wp (List D)) : DF := fun δ => (f δ).bind fun ds => .pure (.list ds)
theorem de_dn {fl : De → Wp (List D)} (h : DN X C W e fl) : DE X C W e (dNl fl) := by
  obtain ⟨t, p, q⟩ := h
  refine ⟨t, p, fun S0 H0 Pb σ H δ Q R h => q S0 H0 Pb σ H δ Q R ((fl δ).mono (fun ds h a xs G g na ha dp => ?_) (fun _ z => z) h)⟩
  refine h (.ref a) G g (.lst (SqL.of ?_) (Le.dps (hid_le (Le.refl G) fun b z => .inl z) ds xs dp))
  rw [hid_in]
  · exact ha
  · exact fun z => R.odom a z na
def nLst (r : AF) : De → Wp (List D) := fun δ => (r δ).bind fun as => (allD as).bind fun ds => .need (ds.length ≤ sizeLine) (.pure ds)
theorem dn_lst {es : List Expr} {r : AF} (h : DA X C W es r) : DN X C W (.List es pos) (nLst r) := by
  obtain ⟨t, p, q⟩ := h
  refine ⟨_, pe_lst p, fun S0 H0 Pb σ H δ Q R h => q S0 H0 Pb σ H δ _ R ((r δ).mono (fun as h vs G g ok => ?_) (fun _ z => z) h)⟩
  obtain ⟨ds, h1, h2, h3⟩ := allD_ok ok h
  refine ⟨by rw [dps_len h1]; exact h2, fun a na => h3 a vs _ (g.trans (Grow.new na)) (g.free na) upd_same (Le.dps (fun b u e n => ?_) ds vs h1)⟩
  obtain ⟨h4, h5⟩ := of_hid e
  have nb : b ≠ a := ne_of_none h5 na
  rw [hid_in, upd_ne nb]
  · exact h5
  · exact fun z => z.elim h4 nb
/-- x = a new list, kept as one's own -/
def sSetO (i : Nat) (f : De → Wp (List D)) : SF := fun δ => (f δ).bind fun ds => .pure (.nx (δ.set i (.o ds)))
theorem ds_setO {i : Nat} {x : Str} {pos' : Pos} {fl : De → Wp (List D)} (hN : X.N.Nodup) (hi : X.N[i]? = some x) (hx : Loc X.env.scope x) (he : DN X C W e fl) (hs : swapsWith e (some (.Name x pos')) pos.line X.env = pure false := by rfl) (hf : X.fn x = true ∨ X.env.scope.names.lookup x = some .local := by first | exact .inl rfl | exact .inr rfl | assumption) :
    DS X C W (.Assign [.Name x pos'] e pos) (sSetO i fl) := by
  obtain ⟨t, p, q⟩ := he
  refine ⟨_, ps_set hN hi hx p hs hf, fun S0 H0 Pb σ H δ E R h => q S0 H0 Pb σ H δ _ R ((fl δ).mono (fun ds h a xs G g na ha dp => ?_) (fun _ z => z.ew R) h)⟩
  exact h _ G (R.setO g na ha dp)
/-- x.append(e) -/
def slotO : Option Sl → Wp (List D)
  | some (.o ds) => .pure ds
  | _ => .stuck
def sApp (i : Nat) (f : DF) : SF := fun δ => (slotO δ[i]?).bind fun ds => (f δ).bind fun d => .need (ds.length < sizeLine) (.pure (.nx (δ.set i (.o (ds ++ [d])))))
theorem slotO_inv {o : Option Sl} {k : List D → Prop} {w : Exn → Prop} (h : (slotO o).run k w) : ∃ ds, o = some (.o ds) ∧ k ds := by
  unfold slotO at h
  split at h
  · exact ⟨_, rfl, h⟩
  · exact h.elim
theorem ds_app {i : Nat} {x : Str} {p1 p2 p3 : Pos} (hN : X.N[i]? = some x) (hv : Vis X.env.scope x) (he : DE X C W e f) (hd : (x == ("__debug__" : Str)) = false := by decide) (hcd : (x == ("__classdict__" : Str)) = false := by decide)
    (hsr : starEach [e] X.env = (false, eval e X.env) :: starEach [] X.env := by rfl)
    (hp : ∀ t, PA X [e] t → PE X (.Call (.Attribute (.Name x p1) "append" p2) [e] [] p3) (tBM X.K "list" rAppend (tVar i) t)) (hs : swapsWith (.Call (.Attribute (.Name x p1) "append" p2) [e] [] p3) none pos.line X.env = pure false := by rfl) :
    DS X C W (.Expr (.Call (.Attribute (.Name x p1) "append" p2) [e] [] p3) pos) (sApp i f) := by
  obtain ⟨t, pt, q⟩ := he
  refine ⟨_, ps_expr (hp _ (pa_cons pt pa_nil hsr)) hs, fun S0 H0 Pb σ H δ E R h => ?_⟩
  obtain ⟨ds, hz, h⟩ := slotO_inv h
  obtain ⟨a, xs, q1, q2, q3, q4⟩ := R.own i ds hz
  refine ⟨_, q1, .inl ⟨rfl, xs, SqL.of q2⟩, q S0 H0 Pb σ H δ _ R ((f δ).mono (fun d h v G g dp => ?_) (fun _ z => z.ew R) h)⟩
  have hG : G a = some (.lst xs) := g.le a _ q2 fun ps z => by cases z
  refine ⟨a, xs, v, rfl, rfl, hG, by rw [dps_len q4]; exact h.1, ?_⟩
  exact h.2 σ _ ((R.gr g).wr hz q1 hG (dps_app (Le.dps (hid_le g.le fun _ z => z) ds xs q4) (.cons dp .nil)))
/-- x[e1] = e2, x a list of one's own -/
def sSetIx (i : Nat) (fi f : DF) : SF := fun δ => (f δ).bind fun d => (slotO δ[i]?).bind fun ds => (fi δ).bind fun k => (asI1 k).bind fun k => (optW (ixN ds.length k)).bind fun j => .pure (.nx (δ.set i (.o (ds.set j d))))
theorem dps_set {K : PySem.W.Frag} {H : Hp} {v : V} {d : D} (h : Dp K H v d) : ∀ {vs : List V} {ds : List D} (j : Nat), DpAll K H vs ds → DpAll K H (vs.set j v) (ds.set j d)
  | [], _, _, g => by cases g; exact .nil
  | _ :: _, _, 0, g => by
    cases g with
    | cons a b => exact .cons h b
  | _ :: _, _, j + 1, g => by
    cases g with
    | cons a b => exact .cons a (dps_set h j b)
theorem ds_setIx {i : Nat} {x : Str} {p1 p2 : Pos} {e2 : Expr} {fi : DF} (hN : X.N[i]? = some x) (hv : Vis X.env.scope x) (he : DE X C W e f) (hi : DE X C W e2 fi) (hp : ∀ tx ti te, PE X (.Name x p1) tx → PE X e2 ti → PE X e te → PS X (.Assign [.Subscript (.Name x p1) e2 p2] e pos) (tAsg te (gSub tx ti rSetL)))
    (hd : (x == ("__debug__" : Str)) = false := by decide) (hcd : (x == ("__classdict__" : Str)) = false := by decide) : DS X C W (.Assign [.Subscript (.Name x p1) e2 p2] e pos) (sSetIx i fi f) := by
  obtain ⟨t, pt, q⟩ := he
  obtain ⟨u, pu, q2⟩ := hi
  refine ⟨_, hp _ _ _ (pe_var hN hv hd hcd) pu pt, fun S0 H0 Pb σ H δ E R h => q S0 H0 Pb σ H δ _ R ((f δ).mono (fun d h v G g dp => ?_) (fun _ z => z.ew R) h)⟩
  obtain ⟨ds, hz, h⟩ := slotO_inv h
  obtain ⟨a, xs, q1, _, _, _⟩ := R.own i ds hz
  refine ⟨_, q1, q2 S0 H0 Pb σ G δ _ (R.gr g) ((fi δ).mono (fun k h v2 G2 g2 dp2 => ?_) (fun _ z => z.ew (R.gr g)) h)⟩
  have R2 := R.gr (g.trans g2)
  obtain ⟨a', xs, q1', q2', q3', q4'⟩ := R2.own i ds hz
  rw [q1] at q1'
  cases q1'
  obtain ⟨k, rfl, h⟩ := asI1_dp dp2 h
  obtain ⟨j, hj, h⟩ := optW_inv h
  refine ⟨a, xs, k, j, rfl, rfl, q2', by rw [dps_len q4']; exact hj, ?_⟩
  exact h σ _ (R2.wr hz q1 q2' (dps_set (Le.dp (hid_le g2.le fun _ z => z) d v dp) j q4'))
/-- reading x[e], x a list of one's own -/
def dOix (i : Nat) (fi : DF) : DF := fun δ => (slotO δ[i]?).bind fun ds => (fi δ).bind fun k => (asI1 k).bind fun k => optW (atI ds k)
theorem de_oix {i : Nat} {x : Str} {p1 : Pos} {e2 : Expr} {fi : DF} (hK : C.K = X.K) (hN : X.N[i]? = some x) (hv : Vis X.env.scope x) (hi : DE X C W e2 fi) (hs : PlainIx e2) (hd : (x == ("__debug__" : Str)) = false := by decide) (hcd : (x == ("__classdict__" : Str)) = false := by decide) : DE X C W (.Subscript (.Name x p1) e2 pos) (dOix i fi) := by
  obtain ⟨u, pu, q2⟩ := hi
  refine ⟨_, pe_ix ix_seq (pe_var hN hv hd hcd) pu hs, fun S0 H0 Pb σ H δ Q R h => ?_⟩
  obtain ⟨ds, hz, h⟩ := slotO_inv h
  obtain ⟨a, xs, q1, _, _, _⟩ := R.own i ds hz
  refine ⟨_, q1, q2 S0 H0 Pb σ H δ _ R ((fi δ).mono (fun k h v2 G2 g2 dp2 => ?_) (fun _ z => z) h)⟩
  obtain ⟨a', xs, q1', q2', q3', q4'⟩ := (R.gr g2).own i ds hz
  rw [q1] at q1'
  cases q1'
  obtain ⟨k, rfl, h⟩ := asI1_dp dp2 h
  obtain ⟨d, hd', h⟩ := optW_inv h
  obtain ⟨v, hv1, hv2⟩ := atI_dps q4' hd'
  exact .inl ⟨a, xs, k, v, rfl, rfl, SqL.of q2', hv1, h v G2 g2 hv2⟩
end
end Tr

set_option Elab.async false
set_option linter.all false
set_option maxRecDepth 100000
set_option maxHeartbeats 4000000
namespace Tr
open PySem PySem.Spec L2

/-! ## one reading for all contexts -/
def rE (C : Cs) (W : WX) (f : DF) : TE := fun σ H Q => ∃ S0 H0 Pb δ, Rep (C.bx S0 H0) Pb σ H δ ∧ (f δ).run (Dv (C.bx S0 H0) σ H δ Q) (Ew (C.bx S0 H0) W σ H)
def rT (C : Cs) (W : WX) (f : TF) : TT := fun σ H Q => ∃ S0 H0 Pb δ, Rep (C.bx S0 H0) Pb σ H δ ∧ (f δ).run (Bv H Q) (Ew (C.bx S0 H0) W σ H)
def rG (C : Cs) (ix : List Nat) (g : BF) : TG := fun x σ H Q => ∃ S0 H0 Pb δ d δ', Rep (C.bx S0 H0) Pb σ H δ ∧ Dp C.K (hid (Own (C.bx S0 H0) σ δ) H) x d ∧ g d δ = some δ' ∧
  ∀ σ', Rep (C.bx S0 H0) Pb σ' H δ' → (∀ b, Own (C.bx S0 H0) σ' δ' b → Own (C.bx S0 H0) σ δ b) → (∀ vs, (∀ i ∈ ix, i ∈ vs) → wipe σ' vs = wipe σ vs) → Q σ' H
section
variable {X : Cx} {C : Cs} {W : WX} {e : Expr}
theorem DE.to {f : DF} (h : DE X C W e f) : PE X e (rE C W f) := by
  obtain ⟨t, p, q⟩ := h
  exact ⟨fun pins s σ H Q I ⟨S0, H0, Pb, δ, R, z⟩ => p.run pins s σ H Q I (q S0 H0 Pb σ H δ Q R z)⟩
theorem DT.to {f : TF} (h : DT X C W e f) : PT X e (rT C W f) := by
  obtain ⟨t, p, q⟩ := h
  exact ⟨fun pins s σ H Q I ⟨S0, H0, Pb, δ, R, z⟩ => p.run pins s σ H Q I (q S0 H0 Pb σ H δ Q R z)⟩
theorem DG.to {ix : List Nat} {g : BF} (h : DG X C e ix g) : PG X e (rG C ix g) := by
  obtain ⟨t, p, q⟩ := h
  exact ⟨fun pins s σ H x u Q I r ⟨S0, H0, Pb, δ, d, δ', R, dp, hg, z⟩ => p.run pins s σ H x u Q I r (q S0 H0 Pb σ H δ x d δ' Q R dp hg z)⟩
end
/-- nothing leaves -/
abbrev W0 : WX := fun _ _ _ _ => False

/-! ## comprehensions -/
def sIn : Sl → Sl
  | .o _ => .non
  | s => s
def dWipe : De → List Nat → De
  | δ, [] => δ.map sIn
  | δ, v :: vs => (dWipe δ vs).set v .non
theorem dWipe_len {δ : De} : ∀ {vs : List Nat}, (dWipe δ vs).length = δ.length
  | [] => by simp [dWipe]
  | v :: vs => by unfold dWipe; rw [List.length_set, dWipe_len]
theorem dWipe_get {δ : De} {j : Nat} {s : Sl} (hs : s ≠ .non) : ∀ {vs : List Nat}, (dWipe δ vs)[j]? = some s → j ∉ vs ∧ δ[j]? = some s ∧ ∀ ds, s ≠ .o ds
  | [], h => by
    unfold dWipe at h
    rw [List.getElem?_map] at h
    cases e : δ[j]? with
    | none => rw [e] at h; cases h
    | some q =>
      rw [e] at h
      have h := Option.some.inj h
      cases q <;> first
        | exact absurd h.symm hs
        | (refine ⟨fun z => (by cases z), congrArg some h, fun ds z => ?_⟩; rw [z] at h; cases h)
  | v :: vs, h => by
    unfold dWipe at h
    rcases get_set_cases h with ⟨_, h1, _⟩ | ⟨h1, h2⟩
    · exact absurd h1 hs
    · obtain ⟨q1, q2, q3⟩ := dWipe_get hs h2
      exact ⟨fun z => (List.mem_cons.mp z).elim (fun z => h1 z.symm) q1, q2, q3⟩
def lcLoop (g : BF) (t : TF) (f : DF) (δ : De) : List D → Wp (List D)
  | [] => .pure []
  | d :: ds => (optW (g d δ)).bind fun δ1 => (t δ1).bind fun b => if b then (f δ1).bind fun y => (lcLoop g t f δ ds).bind fun ys => .pure (y :: ys) else lcLoop g t f δ ds
/-- nothing is raised -/
def Wp.nox {A : Type} (m : Wp A) : Wp A := ⟨fun k _ => m.run k fun _ => False, fun h _ r => m.mono h (fun _ z => z) r⟩
@[simp] theorem run_nox {A : Type} {m : Wp A} {k : A → Prop} {e : Exn → Prop} : m.nox.run k e = m.run k fun _ => False := rfl
def nLc (fi : De → Wp (List D)) (g : BF) (t : TF) (f : DF) (vs : List Nat) : De → Wp (List D) := fun δ => (fi δ).bind fun ds => .need (ds.length ≤ sizeLine) (lcLoop g t f (dWipe δ vs) ds).nox
/-- the state of a comprehension's block -/
theorem Rep.blk {C : Cs} {S0 : Addr → Prop} {H0 Pb : Hp} {σ : St} {H G : Hp} {δ : De} {a : Addr} {xs : List V} (vs : List Nat) (R : Rep (C.bx S0 H0) Pb σ H δ) (g : Grow H G) (na : H a = none) (ha : G a = some (.lst xs)) :
    Rep (C.bx (fun b => Own (C.bx S0 H0) σ δ b ∨ b = a) G) (hid (fun b => Own (C.bx S0 H0) σ δ b ∨ b = a) G) (wipe σ vs) G (dWipe δ vs) := by
  have no : ∀ j ds, (dWipe δ vs)[j]? ≠ some (Sl.o ds) := fun j ds h => (dWipe_get (by intro z; cases z) h).2.2 ds rfl
  have own : ∀ b, Own (C.bx (fun b => Own (C.bx S0 H0) σ δ b ∨ b = a) G) (wipe σ vs) (dWipe δ vs) b ↔ (Own (C.bx S0 H0) σ δ b ∨ b = a) := fun b =>
    ⟨fun z => z.elim id fun ⟨j, ds, e1, _⟩ => absurd e1 (no j ds), .inl⟩
  have le : Le (hid (Own (C.bx S0 H0) σ δ) H) (hid (Own (C.bx (fun b => Own (C.bx S0 H0) σ δ b ∨ b = a) G) (wipe σ vs) (dWipe δ vs)) G) := fun b u e n => by
    obtain ⟨h1, h2⟩ := of_hid e
    rw [hid_in]
    · exact g.le b u h2 n
    · intro z
      rcases (own b).mp z with z | z
      · exact h1 z
      · rw [z, na] at h2
        cases h2
  refine ⟨hid_le (Le.refl G) fun b z => (own b).mp z, by rw [wipe_length, dWipe_len]; exact R.len, Grow.refl G, fun b z => ?_, (R.gr g).tabs, fun j d h => ?_, fun j ds h => absurd h (no j ds), fun j k ds es b h => absurd h (no j ds), fun j x h => ?_, fun j b φ h => ?_, fun q hq => (R.grow.trans g).le.sqL (R.scr q hq)⟩
  · show G b ≠ none
    rcases z with z | z
    · exact g.dm b (R.odom b z)
    · rw [z, ha]
      exact fun z => nomatch z
  · obtain ⟨h1, h2, _⟩ := dWipe_get (by intro z; cases z) h
    obtain ⟨v, q1, q2⟩ := R.pers j d h2
    exact ⟨v, by rw [wipe_get, if_neg h1]; exact q1, Le.dp le _ v q2⟩
  · obtain ⟨h1, h2, _⟩ := dWipe_get (by intro z; cases z) h
    rw [wipe_get, if_neg h1]
    exact R.val j x h2
  · obtain ⟨h1, h2, _⟩ := dWipe_get (by intro z; cases z) h
    rw [wipe_get, if_neg h1]
    exact ⟨(R.trk j b φ h2).1, le b _ (R.trk j b φ h2).2 fun ps z => by cases z⟩
theorem lc_read {C : Cs} {W : WX} {wi : TI} {fi : De → Wp (List D)} {g : BF} {ix vs : List Nat} {t : TF} {f : DF}
    (qw : ∀ S0 H0 Pb σ H δ Q, Rep (C.bx S0 H0) Pb σ H δ → (fi δ).run (fun ds => ∀ J G, Grow H G → Items C.K (hid (Own (C.bx S0 H0) σ δ) G) ds J → Q J G) (Ew (C.bx S0 H0) W σ H) → wi σ H Q) (hix : ∀ i ∈ ix, i ∈ vs)
    {S0 : Addr → Prop} {H0 Pb : Hp} {σ : St} {H : Hp} {δ : De} {Q : VK} (R : Rep (C.bx S0 H0) Pb σ H δ) (E : Exn → Prop) (hE : ∀ x, E x → Ew (C.bx S0 H0) W σ H x ∧ False)
    (h : (fi δ).run (fun ds => ds.length ≤ sizeLine ∧ (lcLoop g t f (dWipe δ vs) ds).run (fun ds => ∀ a xs G, Grow H G → H a = none → G a = some (.lst xs) → DpAll C.K (hid (fun b => Own (C.bx S0 H0) σ δ b ∨ b = a) G) xs ds → Q (.ref a) G) E) (Ew (C.bx S0 H0) W σ H)) :
    tLc wi (rG C ix g) (rT C W0 t) (rE C W0 f) vs σ H Q := by
  refine qw S0 H0 Pb σ H δ _ R ((fi δ).mono (fun ds h J G gr it => ?_) (fun _ z => z) h)
  obtain ⟨hlen, h⟩ := h
  intro a na
  have nH : H a = none := gr.free na
  obtain ⟨Gp, Y, w, hG, hY⟩ := it
  have g0 : Grow G (upd G a (.lst [])) := Grow.new na
  -- behind i items: the list at a holds acc, data ys; the rest gives the end
  refine lc_it w (fun i Hi => Grow H Hi ∧ Le (hid (Own (C.bx S0 H0) σ δ) G) (hid (fun b => Own (C.bx S0 H0) σ δ b ∨ b = a) Hi) ∧ ∃ acc ys, Hi a = some (.lst acc) ∧ acc.length ≤ i ∧ DpAll C.K (hid (fun b => Own (C.bx S0 H0) σ δ b ∨ b = a) Hi) acc ys ∧
    (lcLoop g t f (dWipe δ vs) (ds.drop i)).run (fun zs => ∀ a xs G, Grow H G → H a = none → G a = some (.lst xs) → DpAll C.K (hid (fun b => Own (C.bx S0 H0) σ δ b ∨ b = a) G) xs (ys ++ zs) → Q (.ref a) G) E) ?_ (fun i Hi _ q => hG Hi (q.2.1.trans hid_sub)) ?_ ?_
  · refine ⟨gr.trans g0, fun b u e n => ?_, [], [], upd_same, Nat.le_refl _, .nil, h⟩
    obtain ⟨h1, h2⟩ := of_hid e
    have nb : b ≠ a := ne_of_none h2 na
    rw [hid_in, upd_ne nb]
    · exact h2
    · exact fun z => z.elim h1 nb
  · rintro i x Hi Hi2 hi ⟨gi, li, acc, ys, ha, hl, dp, hr⟩ y
    have dom : ∀ b, (Own (C.bx S0 H0) σ δ b ∨ b = a) → Hi b ≠ none := fun b z => by
      rcases z with z | z
      · exact gi.dm b (R.odom b z)
      · rw [z, ha]
        exact fun z => nomatch z
    obtain ⟨gw, d, hd, dx⟩ := hY i Hi x Hi2 _ hi li dom y
    have g2 : Grow H Hi2 := gi.trans gw
    have ha2 : Hi2 a = some (.lst acc) := gw.le a _ ha fun ps z => by cases z
    have ed : ds.drop i = d :: ds.drop (i + 1) := by
      rw [List.drop_eq_getElem_cons hi]
      rw [List.getElem?_eq_getElem hi] at hd
      rw [Option.some.inj hd]
    rw [ed] at hr
    obtain ⟨δ1, hg1, hr⟩ := optW_inv hr
    have RB := R.blk vs g2 nH ha2
    have sup : ∀ σ' δ' b, (Own (C.bx S0 H0) σ δ b ∨ b = a) → Own (C.bx (fun b => Own (C.bx S0 H0) σ δ b ∨ b = a) Hi2) σ' δ' b := fun _ _ _ z => .inl z
    have ownB : ∀ b, Own (C.bx (fun b => Own (C.bx S0 H0) σ δ b ∨ b = a) Hi2) (wipe σ vs) (dWipe δ vs) b → (Own (C.bx S0 H0) σ δ b ∨ b = a) := fun b z => by
      rcases z with z | ⟨j, es, e1, _⟩
      · exact z
      · exact absurd rfl ((dWipe_get (by intro z; cases z) e1).2.2 es)
    refine ⟨_, _, _, dWipe δ vs, d, δ1, RB, Le.dp (hid_le (Le.refl _) ownB) d x dx, hg1, fun σ2 R2 o2 w2 => ⟨?_, ?_⟩⟩
    · rw [w2 vs hix]
      apply List.ext_getElem?
      intro j
      rw [wipe_get, wipe_get]
      split
      · rename_i hj
        cases σ[j]? <;> rfl
      · rename_i hj
        rfl
    refine ⟨_, _, _, δ1, R2, (t δ1).mono (fun b hb H3 g3 => ?_) (fun x hx => (hE x hx).2.elim) hr⟩
    have g3' : Grow H H3 := g2.trans g3
    have ha3 : H3 a = some (.lst acc) := g3.le a _ ha2 fun ps z => by cases z
    have li3 : Le (hid (Own (C.bx S0 H0) σ δ) G) (hid (fun b => Own (C.bx S0 H0) σ δ b ∨ b = a) H3) := li.trans (hid_le (gw.trans g3).le fun _ z => z)
    have dp3 : DpAll C.K (hid (fun b => Own (C.bx S0 H0) σ δ b ∨ b = a) H3) acc ys := Le.dps (hid_le (gw.trans g3).le fun _ z => z) ys acc dp
    cases b with
    | false => exact ⟨g3', li3, acc, ys, ha3, Nat.le_succ_of_le hl, dp3, hb⟩
    | true =>
      refine ⟨_, _, _, δ1, R2.gr g3, (f δ1).mono (fun yd hy v H4 g4 dv => ?_) (fun x hx => (hE x hx).2.elim) hb⟩
      have ha4 : H4 a = some (.lst acc) := g4.le a _ ha3 fun ps z => by cases z
      have keep : ∀ b, b ≠ a → upd H4 a (.lst (acc ++ [v])) b = H4 b := fun b nb => upd_ne nb
      have leA : Le (hid (fun b => Own (C.bx S0 H0) σ δ b ∨ b = a) H4) (hid (fun b => Own (C.bx S0 H0) σ δ b ∨ b = a) (upd H4 a (.lst (acc ++ [v])))) := fun b u e n => by
        obtain ⟨h1, h2⟩ := of_hid e
        rw [hid_in h1, keep b fun z => h1 (.inr z)]
        exact h2
      refine ⟨acc, ha4, by omega, ⟨fun b u e n => ?_, fun P hP => ?_, fun b hb => ?_⟩, li3.trans ((hid_le g4.le fun _ z => z).trans leA), acc ++ [v], ys ++ [yd], upd_same, by rw [List.length_append]; exact Nat.succ_le_succ hl, ?_, ?_⟩
      · rw [keep b (ne_of_none e nH)]
        exact (g3'.trans g4).le b u e n
      · obtain ⟨ps, e, tr⟩ := (g3'.trans g4).tb P hP
        exact ⟨ps, by rw [keep P (ne_of e ha4 fun z => by cases z)]; exact e, tr⟩
      · by_cases c : b = a
        · rw [c, upd_same]
          exact fun z => nomatch z
        · rw [keep b c]
          exact (g3'.trans g4).dm b hb
      · refine Le.dps leA _ _ (dps_app (Le.dps (hid_le g4.le fun _ z => z) ys acc dp3) (.cons ?_ .nil))
        exact Le.dp (hid_le (Le.refl H4) fun b z => sup σ2 δ1 b z) yd v dv
      · refine (lcLoop g t f (dWipe δ vs) (ds.drop (i + 1))).mono (fun zs hz => ?_) (fun _ z => z) hy
        rw [List.append_assoc]
        exact hz
  · rintro Hn ⟨gn, ln, acc, ys, ha, hl, dp, hr⟩
    rw [List.drop_length] at hr
    have hr' : ∀ a xs G, Grow H G → H a = none → G a = some (.lst xs) → DpAll C.K (hid (fun b => Own (C.bx S0 H0) σ δ b ∨ b = a) G) xs (ys ++ []) → Q (.ref a) G := hr
    rw [List.append_nil] at hr'
    exact hr' a acc Hn gn nH ha dp
section
variable {X : Cx} {C : Cs} {W : WX} {pos : Pos} {elt tg iter : Expr} {ifs : List Expr} {scope : Scope} {own : List (Str × Nat)} {fi : De → Wp (List D)} {g : BF} {ix : List Nat} {t : TF} {f : DF}
def DTs (X : Cx) (C : Cs) (W : WX) (ifs : List Expr) (t : TF) : Prop := PTs X ifs (rT C W t)
def tYesD : TF := fun _ => .pure true
theorem dts_nil : DTs X C W [] tYesD := ⟨fun pins s σ H Q I ⟨S0, H0, Pb, δ, R, z⟩ => pts_nil.run pins s σ H Q I (z H (Grow.refl H))⟩
theorem dts_one {c : Expr} (h : DT X C W c t) : DTs X C W [c] t := pts_one h.to
theorem dn_lc (hc : X.calm = true) (hN : X.N.Nodup) (hi : DI X C W tg iter fi) (ok : BlkOk X.N X.env.scope scope own) (hix : ∀ i ∈ ix, i ∈ own.map (·.2))
    (hg : ∀ (s : Shared) (H : Hp) (Ca : Addr) (cl : List (Str × Addr)) (fp : List Addr), DG (X.blk s H scope (compEnvC scope cl Ca X.env) fp) C tg ix g) (ht : ∀ (s : Shared) (H : Hp) (Ca : Addr) (cl : List (Str × Addr)) (fp : List Addr), DTs (X.blk s H scope (compEnvC scope cl Ca X.env) fp) C W0 ifs t)
    (he : ∀ (s : Shared) (H : Hp) (Ca : Addr) (cl : List (Str × Addr)) (fp : List Addr), DE (X.blk s H scope (compEnvC scope cl Ca X.env) fp) C W0 elt f) (hs : ∀ x, foldedSetIterable iter X.env x = pure x := by intro _; rfl) :
    DN X C W (.ListComp elt [⟨tg, iter, ifs, 0⟩] scope pos) (nLc fi g t f (own.map (·.2))) := by
  obtain ⟨wi, pw, qw⟩ := hi
  exact ⟨_, pe_lc hc hN pw ok (fun s H Ca cl fp => (hg s H Ca cl fp).to) ht (fun s H Ca cl fp => (he s H Ca cl fp).to) hs, fun S0 H0 Pb σ H δ Q R h => lc_read qw hix R (fun _ => False) (fun _ z => z.elim) h⟩
/-- name = [..] on one line: as data, as one's own -/
theorem setLc {i : Nat} {y : Str} {py spos : Pos} (hc : X.calm = true) (hN : X.N.Nodup) (hy : X.N[i]? = some y) (hyl : X.env.scope.names.lookup y = some .local) (hsw : swapsWith (.ListComp elt [⟨tg, iter, ifs, 0⟩] scope pos) (some (.Name y py)) spos.line X.env = pure true)
    (hi : DI X C W tg iter fi) (ok : BlkOk X.N X.env.scope scope own) (hix : ∀ i ∈ ix, i ∈ own.map (·.2))
    (hg : ∀ (s : Shared) (H : Hp) (Ca : Addr) (cl : List (Str × Addr)) (fp : List Addr), DG (X.blk s H scope (compEnvC scope cl Ca X.env) fp) C tg ix g) (ht : ∀ (s : Shared) (H : Hp) (Ca : Addr) (cl : List (Str × Addr)) (fp : List Addr), DTs (X.blk s H scope (compEnvC scope cl Ca X.env) fp) C W0 ifs t)
    (he : ∀ (s : Shared) (H : Hp) (Ca : Addr) (cl : List (Str × Addr)) (fp : List Addr), DE (X.blk s H scope (compEnvC scope cl Ca X.env) fp) C W0 elt f) (hs : ∀ x, foldedSetIterable iter X.env x = pure x := by intro _; rfl) :
    DS X C W (.Assign [.Name y py] (.ListComp elt [⟨tg, iter, ifs, 0⟩] scope pos) spos) (sSetO i (nLc fi g t f (own.map (·.2)))) := by
  obtain ⟨wi, pw, qw⟩ := hi
  refine ⟨_, ps_setLc hc hN hy hyl hsw pw ok (fun s H Ca cl fp => (hg s H Ca cl fp).to) ht (fun s H Ca cl fp => (he s H Ca cl fp).to) hs, fun S0 H0 Pb σ H δ E R h => ?_⟩
  refine lc_read qw hix R (fun _ => False) (fun _ z => z.elim) ((fi δ).mono (fun ds hd => ⟨hd.1, ?_⟩) (fun _ z => z.ew R) h)
  refine (lcLoop g t f (dWipe δ (own.map (·.2))) ds).mono (fun ys hy => ?_) (fun _ z => z) (show (lcLoop g t f (dWipe δ (own.map (·.2))) ds).run _ _ from hd.2)
  intro a xs G gr na ha dp
  exact hy _ G (R.setO gr na ha dp)
end

/-! ## a def -/
def arSl : Ar → Sl
  | .d x => .p x
  | .v x => .v x
  | .t a φ => .t a φ
def dStart (m : Nat) (as : List Ar) : De := as.map arSl ++ List.replicate (m - as.length) .non
def dRun (m : Nat) (bd : SF) (as : List Ar) : Wp D := (bd (dStart m as)).bind fun o => match o with
  | .rt d => .pure d
  | .nx _ => .pure .none
  | _ => .stuck
theorem ars_get {K : PySem.W.Frag} {H : Hp} : ∀ {vs : List V} {as : List Ar} {i : Nat} {a : Ar}, ArsOk K H vs as → as[i]? = some a → ∃ v, vs[i]? = some v ∧ ArOk K H v a
  | v :: vs, b :: as, 0, a, h, e => by
    cases Option.some.inj e
    exact ⟨v, rfl, h.1⟩
  | v :: vs, b :: as, i + 1, a, h, e => ars_get (i := i) h.2 e
  | [], [], _, _, _, e => by simp at e
  | [], _ :: _, _, _, h, _ => h.elim
  | _ :: _, [], _, _, h, _ => h.elim
theorem start_rep {C : Cs} {S : Addr → Prop} {H : Hp} {N : List Str} {vs : List V} {as : List Ar} (dom : ∀ b, S b → H b ≠ none) (tabs : ∀ P ∈ C.T, GxR.TabG H P) (scr : ∀ q ∈ C.Z, SqL C.K H q.1 (q.2.map V.int)) (ok : ArsOk C.K (hid S H) vs as) : Rep (C.bx S H) (hid S H) (L2.start N vs) H (dStart N.length as) := by
  have hl := ok.len
  have arg : ∀ {i : Nat} {s : Sl}, s ≠ .non → (dStart N.length as)[i]? = some s → ∃ a, as[i]? = some a ∧ arSl a = s := fun {i s} hs e => by
    unfold dStart at e
    by_cases c : i < as.length
    · rw [List.getElem?_append_left (by rw [List.length_map]; exact c), List.getElem?_map, List.getElem?_eq_getElem c] at e
      exact ⟨as[i], List.getElem?_eq_getElem c, Option.some.inj e⟩
    · rw [List.getElem?_append_right (by rw [List.length_map]; omega), List.getElem?_replicate] at e
      split at e
      · exact absurd (Option.some.inj e).symm hs
      · cases e
  have val : ∀ {i : Nat} {v : V}, vs[i]? = some v → (L2.start N vs)[i]? = some (some v) := fun {i v} e => by
    have c : i < vs.length := (List.getElem?_eq_some_iff.mp e).1
    unfold L2.start
    rw [List.getElem?_append_left (by rw [List.length_map]; exact c), List.getElem?_map, e]
    rfl
  have no : ∀ j ds, (dStart N.length as)[j]? ≠ some (Sl.o ds) := fun j ds e => by
    obtain ⟨a, _, h⟩ := arg (by intro z; cases z) e
    cases a <;> cases h
  have own : ∀ b, Own (C.bx S H) (L2.start N vs) (dStart N.length as) b → S b := fun b z => z.elim id fun ⟨j, ds, e, _⟩ => absurd e (no j ds)
  have le : Le (hid S H) (hid (Own (C.bx S H) (L2.start N vs) (dStart N.length as)) H) := hid_le (Le.refl H) own
  refine ⟨le, ?_, Grow.refl H, dom, tabs, fun j d e => ?_, fun j ds e => absurd e (no j ds), fun j k ds es b e => absurd e (no j ds), fun j x e => ?_, fun j b φ e => ?_, scr⟩
  · unfold L2.start dStart
    rw [List.length_append, List.length_append, List.length_map, List.length_map, List.length_replicate, List.length_replicate, hl]
  · obtain ⟨a, h1, h2⟩ := arg (by intro z; cases z) e
    obtain ⟨v, h3, h4⟩ := ars_get ok h1
    cases a with
    | v x => cases h2
    | t a φ => cases h2
    | d x =>
      cases h2
      exact ⟨v, val h3, Le.dp le d v h4⟩
  · obtain ⟨a, h1, h2⟩ := arg (by intro z; cases z) e
    obtain ⟨v, h3, h4⟩ := ars_get ok h1
    cases a with
    | d x => cases h2
    | t a φ => cases h2
    | v y =>
      cases h2
      have h5 : v = x := h4
      rw [← h5]
      exact val h3
  · obtain ⟨a, h1, h2⟩ := arg (by intro z; cases z) e
    obtain ⟨v, h3, h4⟩ := ars_get ok h1
    cases a with
    | d x => cases h2
    | v y => cases h2
    | t c ψ =>
      cases h2
      obtain ⟨rfl, h6⟩ := h4
      exact ⟨val h3, le b _ h6 fun ps z => by cases z⟩
/-- a def of the text over data: its body's meaning -/
theorem def_ok {P : Program} {w : World} {C : Cs} {base : Heap} {x qual : Str} {params : Arguments} {body : List Stmt} {scope : Scope} {fa : Addr} {fd : FuncData} {N ps : List Str} {k : Nat} {bd : SF}
    (F : FunD C.K x qual params body scope [] [] fa fd) (S : FnScope N ps scope)
    (hb : ∀ (cdv : Value) (A : Around) (outer : List Env) (s : Shared) (H : Hp) (E : XK), Room k (A.deeper (PyProof.Rows.envOfC qual scope s.heap.objs.size fa cdv)) →
      DSs (cxOf (L2.CX P w) P w C.K C.mg base N qual scope fa cdv A outer s H E) C (fun cls d _ H' => E cls d H') body bd) :
    FnOk P w C.K C.mg base (L2.CX P w) (k + 1) fa fd ps (spD C ps.length (dRun N.length bd)) := by
  refine F.ok S spD_len fun cdv A outer s H vs Q E hr ⟨Sx, as, hn, dom, tabs, scr, ok, hw⟩ => ?_
  obtain ⟨t, p, q⟩ := hb cdv A outer s H E hr
  refine ⟨t, p, q Sx H (hid Sx H) (L2.start N vs) H (dStart N.length as) _ (start_rep dom tabs scr ok) ((bd (dStart N.length as)).mono (fun o ho => ?_) (fun y hy cls dc σ G g ex => hy cls dc G g ex) hw)⟩
  cases o with
  | nx δ' => exact fun σ' H' R' => ho .non H' R'.grow .non
  | rt d => exact ho
  | bk δ' => exact ho.elim
  | ct δ' => exact ho.elim
end Tr

set_option Elab.async false
set_option linter.all false
set_option maxRecDepth 100000
set_option maxHeartbeats 4000000
namespace Tr
open PySem PySem.Spec L2

/-! ## the law's row of draws -/
def RowI (i j : Int) : Prop := 0 ≤ i ∧ 0 ≤ j ∧ j < 4294967296
def RowP (r a : Addr) (h : Heap) : Prop := ∃ (i j k : Int) (t u v : Tok) (n : Nat), RowI i j ∧ h.get? r = some { cls := .type "list", data := .seq #[.ref a, .int i t, .int j u, .int k v] n }
abbrev rowL (a : Addr) (i j k : Int) : HO := .lst [.ref a, .int i, .int j, .int k]
theorem rowP_stay {r a : Addr} : ∀ h1 h2 : Heap, RowP r a h1 → (∀ o, h1.get? r = some o → h2.get? r = some o) → RowP r a h2 := fun h1 h2 ⟨i, j, k, t, u, v, n, hi, e⟩ st => ⟨i, j, k, t, u, v, n, hi, st _ e⟩
section
variable {X : Cx} {pins : List (Addr × Obj)} {σ : St} {H : Hp} {s : Shared} {r a : Addr}
theorem row_in (I : Inv X pins σ H s) (h : H r = some (.ext (RowP r a))) : ∃ i j k, RowI i j ∧ Inv X pins σ (upd H r (rowL a i j k)) s := by
  obtain ⟨⟨i, j, k, t, u, v, n, hi, e⟩, _, _⟩ := I.hok r _ h
  refine ⟨i, j, k, hi, I.write (x := r) (e := r) (h' := s.heap) (t' := s.toks) (by rw [h]; trivial) (.inl rfl) (fun _ _ _ q => q) ⟨_, e⟩ ?_⟩
  exact ⟨by show 4 ≤ sizeLine; decide, [.ref a, .int i t, .int j u, .int k v], n, .cons rfl (.cons ⟨t, rfl⟩ (.cons ⟨u, rfl⟩ (.cons ⟨v, rfl⟩ .nil))), e⟩
theorem row_out {i j k : Int} (I : Inv X pins σ H s) (hi : RowI i j) (h : H r = some (rowL a i j k)) : Inv X pins σ (upd H r (.ext (RowP r a))) s := by
  obtain ⟨hl, its, n, hv, e⟩ := I.hok r _ h
  refine I.write (x := r) (e := r) (h' := s.heap) (t' := s.toks) (by rw [h]; trivial) (.inl rfl) (fun _ _ _ q => q) ⟨_, e⟩ ?_
  cases hv with
  | cons r0 hv =>
    cases hv with
    | cons r1 hv =>
      cases hv with
      | cons r2 hv =>
        cases hv with
        | cons r3 hv =>
          cases hv
          cases r0
          obtain ⟨t, rfl⟩ := r1
          obtain ⟨u, rfl⟩ := r2
          obtain ⟨v, rfl⟩ := r3
          exact ⟨⟨i, j, k, t, u, v, n, hi, e⟩, ⟨_, e⟩, rowP_stay⟩
/-- a body within which the row is a list -/
def tRow (t : TS) : TS := fun D σ H => ∃ r a, H r = some (.ext (RowP r a)) ∧ ∀ i j k, RowI i j →
  t { nx := fun σ' G => ∃ i j k, RowI i j ∧ G r = some (rowL a i j k) ∧ D.nx σ' (upd G r (.ext (RowP r a)))
      rt := fun v G => ∃ i j k, RowI i j ∧ G r = some (rowL a i j k) ∧ D.rt v (upd G r (.ext (RowP r a)))
      bk := fun σ' G => ∃ i j k, RowI i j ∧ G r = some (rowL a i j k) ∧ D.bk σ' (upd G r (.ext (RowP r a)))
      ct := fun σ' G => ∃ i j k, RowI i j ∧ G r = some (rowL a i j k) ∧ D.ct σ' (upd G r (.ext (RowP r a))) } σ (upd H r (rowL a i j k))
theorem pss_row {sts : List Stmt} {t : TS} (h : PSs X sts t) : PSs X sts (tRow t) := by
  constructor
  intro pins s σ H D I ⟨r, a, hr, q⟩
  obtain ⟨i, j, k, hi, I1⟩ := row_in I hr
  refine thn (h.run pins s σ _ _ I1 (q i j k hi)) fun fl s' hs => ?_
  cases fl with
  | next => obtain ⟨σ', G, J, i, j, k, h1, h2, h3⟩ := hs; exact ⟨σ', _, row_out J h1 h2, h3⟩
  | brk => obtain ⟨σ', G, J, i, j, k, h1, h2, h3⟩ := hs; exact ⟨σ', _, row_out J h1 h2, h3⟩
  | cont => obtain ⟨σ', G, J, i, j, k, h1, h2, h3⟩ := hs; exact ⟨σ', _, row_out J h1 h2, h3⟩
  | ret u => obtain ⟨v, σ', G, J, rv, i, j, k, h1, h2, h3⟩ := hs; exact ⟨v, σ', _, row_out J h1 h2, rv, h3⟩
/-- a statement behind which a list is the row -/
def tMkRow (t : TS) : TS := fun D σ H => t { D with nx := fun σ' G => ∃ r a i j k, RowI i j ∧ G r = some (rowL a i j k) ∧ D.nx σ' (upd G r (.ext (RowP r a))) } σ H
theorem ps_mkRow {st : Stmt} {t : TS} (h : PS X st t) : PS X st (tMkRow t) := by
  constructor
  intro pins s σ H D I q
  refine thn (h.run pins s σ H _ I q) fun fl s' hs => ?_
  cases fl with
  | next => obtain ⟨σ', G, J, r, a, i, j, k, h1, h2, h3⟩ := hs; exact ⟨σ', _, row_out J h1 h2, h3⟩
  | brk => exact hs
  | cont => exact hs
  | ret u => exact hs
end
/-- a number below m -/
def drawn (m : Int) (d : D) : Prop := ∃ n, d = .int n ∧ 0 ≤ n ∧ n < m
open Classical in
noncomputable def fTaken (C : Cs) : List Ar → Wp D
  | [.t r φ, .d (.int m)] => .need ((∃ q ∈ C.Z, φ = RowP r q.1 ∧ q.2.length ≤ 63) ∧ 0 < m ∧ m < 1073741824) (.any (drawn m))
  | _ => .stuck
end Tr

set_option Elab.async false
set_option linter.all false
set_option maxRecDepth 100000
set_option maxHeartbeats 4000000
namespace Tr
open PySem PySem.Spec L2
open GxR (TabG Tabbed)
open PyProof.Rows (AllBare)

/-! ## generator expressions -/
/-- the frame of a generator expression: the def's context with a frame of its own -/
abbrev gcx (X : Cx) (s : Shared) (H : Hp) (cenv : Env) (A : Around) (fp : List Addr) (pn : List (Addr × Obj)) : Cx :=
  { X with A := A.deeper cenv, s_0 := s, H_0 := H, env := cenv, outer := X.stack, stack := cenv :: X.stack, ex := fp, fn := fun _ => false, calm := true, pn := pn, xe := fun _ _ => False }
abbrev gEnv (X : Cx) (scope : Scope) (C : Addr) (code : Value) : Env := genEnv scope (cloFrom X.env.cells scope.names []) C code builtinsNs X.env
/-- a generator expression's scope: no cells of its own, the walked thing at «.0» -/
structure GOk (N : List Str) (sc scope : Scope) (own : List (Str × Nat)) : Prop where
  blk : BlkOk N sc scope own
  co : scope.isCoroutine = false
  cell : ∀ y ∈ scope.names, y.2 ≠ .cell
  dot : scope.names.lookup (".0" : Str) = some NameKind.local
theorem over_comp {A : Around} {elt tg iter : Expr} {ifs : List Expr} {scope : Scope} {pos : Pos} {it acc : Value} {env : Env} : A.over (.compLoop (.GeneratorExp elt [⟨tg, iter, ifs, 0⟩] scope pos) 0 it acc env) [] = A.deeper env := by rfl
theorem over_start {A : Around} {elt tg iter : Expr} {ifs : List Expr} {scope : Scope} {pos : Pos} {it acc : Value} {env : Env} : A.over (.compStart (.GeneratorExp elt [⟨tg, iter, ifs, 0⟩] scope pos) 0 it acc env) [] = A.deeper env := by rfl
section
variable {X : Cx} {pins : List (Addr × Obj)} {σ : St} {H : Hp} {s : Shared}
theorem gen_start {scope : Scope} {own : List (Str × Nat)} {fp : List Addr} {A : Around} {code it : Value} {h5 : Heap} {g5 : Array GenState} {t5 : Nat} {a : Addr} {go : Obj} (I : Inv X pins σ H s) (ok : GOk X.N X.env.scope scope own) (hN : X.N.Nodup)
    (hfp : ∀ b ∈ fp, FpOk X pins H b ∧ b < s.heap.objs.size) (hA : A.handled = none) (hfr : A.frames = some X.stack) (kp : ∀ b o, s.heap.get? b = some o → h5.get? b = some o)
    (hns : h5.Ns s.heap.objs.size (fun y => if y = ".0" then some it else none)) (hb : AllBare g5) (ha : h5.get? a = some go) (hlt : s.heap.objs.size < a) (hgo : ∀ v, go.data ≠ .cell v) :
    Inv (gcx X s H (gEnv X scope s.heap.objs.size code) A fp [(a, go)]) [] (wipe σ (own.map (·.2))) H { s with heap := h5, gens := g5, toks := t5 } := by
  have hfree : ∀ y ∈ scope.names, y.2 = .free → ∃ c, X.env.cells.lookup y.1 = some c := fun y hy e => (ok.blk.free y hy e).elim (fun k => I.ok.has _ (.inl k)) fun k => I.ok.has _ (.inr k)
  have cm : ∀ {y c}, (cloFrom X.env.cells scope.names []).lookup y = some c → X.env.cells.lookup y = some c ∧ c < s.heap.objs.size := fun {y c} e => by
    rcases cloFrom_mem (PySem.mem_of_lookup e) with z | ⟨h1, z⟩
    · cases z
    · obtain ⟨c', hc⟩ := hfree _ h1 rfl
      rw [hc] at z
      have z : c = c' := z
      subst z
      obtain ⟨v, q⟩ := I.cell _ _ hc
      exact ⟨hc, q.lt⟩
  have lk : ∀ {y}, scope.names.lookup y = some .free → ∃ c, (cloFrom X.env.cells scope.names []).lookup y = some c ∧ X.env.cells.lookup y = some c := fun {y} hl => by
    obtain ⟨c, e⟩ := mem_lookup (cloFrom_has (cells := X.env.cells) (acc := []) (PySem.mem_of_lookup hl))
    exact ⟨c, e, (cm e).1⟩
  have nocell : ∀ y, scope.names.lookup y ≠ some .cell := fun y e => ok.cell _ (PySem.mem_of_lookup e) rfl
  have young : H a = none ∧ a ∉ frs X.stack := by
    refine ⟨I.hok.fresh (Nat.le_of_lt hlt), fun z => ?_⟩
    rcases List.mem_cons.mp (I.stkSub a z) with z | z
    · have := I.lt
      rw [← z] at this
      exact absurd (Nat.lt_trans hlt this) (Nat.lt_irrefl _)
    · exact I.nofs (Nat.le_of_lt hlt) z
  refine ⟨⟨I.ok.mod, ok.blk.kind, I.ok.glob, rfl, Nat.le_refl _, fun y z c e1 e2 => I.ok.inj y z c (cm e1).1 (cm e2).1, fun y hy => ?_, fun y c z => Bool.noConfusion z, fun _ => hA, Around.frames_deeper hfr, .inr ⟨rfl, rfl⟩,
      fun b hb => ⟨Nat.ne_of_lt (hfp b hb).2, fun y c e z => (hfp b hb).1.2.2.2.2.1 y c (cm e).1 z⟩, I.bs, Nat.le_trans I.ok.bsz I.sz, fun b o e hb => ?_, fun b hb z => ?_, I.stack, I.stkFree⟩,
    rfl, hb, Un.kept kp, ⟨_, hns, fun i y v e1 e2 e3 => ?_⟩, fun y c e => ?_, I.hok.fresh (Nat.le_refl _), fun y c e => I.freeC y c (cm e).1, fun p hp => ?_, I.hok.kept kp, by rw [wipe_length]; exact I.len⟩
  · have hy : scope.names.lookup y = some .cell ∨ scope.names.lookup y = some .free := hy
    rcases hy with hy | hy
    · exact absurd hy (nocell y)
    · obtain ⟨c, h1, _⟩ := lk hy
      exact ⟨c, h1⟩
  · rcases (hfp b hb).1.2.2.2.1 with z | z
    · exact I.ok.noex b o e z
    · exact absurd (Nat.lt_of_lt_of_le (Heap.lt_size e) (Nat.le_trans I.ok.bsz z)) (Nat.lt_irrefl _)
  · rcases List.mem_cons.mp (I.stkSub b z) with z | z
    · exact (hfp b hb).1.2.1 z
    · exact (hfp b hb).1.2.2.1 z
  · obtain ⟨e2, hne⟩ := wipe_some e2
    have e3 : Vis scope y := e3
    have fr : scope.names.lookup y = some .free := by
      rcases e3 with k | k | k
      · rcases ok.blk.own _ (PySem.mem_of_lookup k) (.inl rfl) with q | q
        · obtain ⟨p, hp, hpy⟩ := List.mem_map.mp q
          have e4 := ok.blk.ix p hp
          have hpy : p.1 = y := hpy
          rw [hpy] at e4
          exact absurd (List.mem_map.mpr ⟨p, hp, nodup_ix hN e4 e1⟩) hne
        · exact absurd (List.mem_of_getElem? e1) q
      · exact absurd k (nocell y)
      · exact k
    obtain ⟨m, hn, hl⟩ := I.loc
    have hf := ok.blk.free _ (PySem.mem_of_lookup fr) rfl
    obtain ⟨w, r, q⟩ := hl i y v e1 e2 (hf.elim (fun k => .inr (.inl k)) fun k => .inr (.inr k))
    obtain ⟨c, h1, h2⟩ := lk fr
    refine ⟨w, r, .inr ⟨.inr fr, c, h1, ?_⟩⟩
    rcases q with ⟨k, _⟩ | ⟨_, c', e', z⟩
    · have k : X.env.scope.names.lookup y = some .local := k
      rcases hf with k' | k' <;> rw [show X.env.scope.names.lookup y = _ from k'] at k <;> cases k
    · rw [h2] at e'
      cases e'
      exact z.keeps kp
  · obtain ⟨v, z⟩ := I.cell y c (cm e).1
    exact ⟨v, z.keeps kp⟩
  · have hp : p ∈ [(a, go)] ++ ([] : List (Addr × Obj)) := hp
    rw [List.append_nil, List.mem_singleton] at hp
    subst hp
    exact ⟨ha, young.1, Nat.ne_of_gt hlt, young.2, hgo⟩
/-- out of its frame again -/
theorem gen_back {cenv : Env} {A : Around} {fp : List Addr} {pn pins' : List (Addr × Obj)} {σ' : St} {H' : Hp} {s' : Shared} (I : Inv X pins σ H s) (J : Inv (gcx X s H cenv A fp pn) pins' σ' H' s') (hfp : ∀ b ∈ fp, FpOk X pins H b) : Inv X pins σ H' s' :=
  I.call' (ch := fp) J.os J.base J.hok J.bare fun b hb => ⟨(hfp b hb).2.2.2.1, (hfp b hb).2.1, (hfp b hb).2.2.2.2.1, (hfp b hb).2.2.2.2.2⟩
end
end Tr

set_option Elab.async false
set_option linter.all false
set_option maxRecDepth 100000
set_option maxHeartbeats 4000000
namespace Tr
open PySem PySem.Spec L2
open GxR (TabG Tabbed)
open PyProof.Rows (AllBare)

/-- while a generator sleeps under all and any nothing is touched -/
def SleptB (s t : Shared) : Prop := t.heap = s.heap ∧ t.os = s.os ∧ AllBare t.gens
theorem Inv.slept {X : Cx} {pins : List (Addr × Obj)} {σ : St} {H : Hp} {s t : Shared} (I : Inv X pins σ H s) (z : SleptB s t) : Inv X pins σ H t := by
  have k : ∀ b u, s.heap.get? b = some u → t.heap.get? b = some u := fun b u e => by rw [z.1]; exact e
  exact I.call' (ch := []) z.2.1 (Un.kept k) (I.hok.kept k) z.2.2 fun b hb => by cases hb
def gEnd (X : Cx) (σ : St) (Qe : Hp → Prop) : GenEnd := fun _ s0 r s => r = .ok .next ∧ s0.gens.size ≤ s.gens.size ∧ ∃ H, Inv X [] σ H s ∧ Qe H
def gPro (X : Cx) (σ : St) (on : Bool) (Qs : Hp → Prop) : Protocol := fun _ s0 v s kap => s0.gens.size ≤ s.gens.size ∧ ∃ k H, v = .bool k ∧ Inv X [] σ H s ∧ (k = on → ∀ t, SleptB s t → kap (.send .none) t) ∧ (k ≠ on → Qs H)
section
variable {X : Cx}
/-- the turns of a generator expression: W by the turn and a measure -/
def GTurn (J : It) (W : Nat → Nat → Hp → Prop) (Qe Qs : Hp → Prop) (on : Bool) (g : TG) (tt : TT) (te : TE) (vs : List Nat) (σ : St) : Prop := ∀ i m H, W i m H →
  (J.stop i H ∧ Qe H) ∨ (J.go i H ∧ ∃ Nx : Hp → Prop, (∀ G, Nx G → ∃ m', m' < m ∧ W (i + 1) m' G) ∧ ∀ x G, J.yld i H x G → g x σ G fun σ2 H2 => wipe σ2 vs = σ ∧ tt σ2 H2 fun b H3 =>
    if b = true then te σ2 H3 fun y H4 => ∃ k, y = .bl k ∧ if k = on then Nx H4 else Qs H4 else Nx H3)
theorem gen_loop {s4 : Shared} {H0 : Hp} {A : Around} {fp : List Addr} {pn : List (Addr × Obj)} {it C : Addr} {code : Value} {elt tg iter : Expr} {ifs : List Expr} {scope : Scope} {own : List (Str × Nat)} {pos : Pos} {tn : Nat → Heap → Prop} {J : It} {W : Nat → Nat → Hp → Prop} {Qe Qs : Hp → Prop} {on : Bool} {g : TG} {tt : TT} {te : TE} {σ : St}
    (hco : scope.isCoroutine = false) (T : Turn X.prog X.w X.K tg J fp it tn) (hpn : ∀ b ∈ fp, ∀ p ∈ pn, p.1 ≠ b)
    (pg : PG (gcx X s4 H0 (gEnv X scope C code) A fp pn) tg g) (pt : PTs (gcx X s4 H0 (gEnv X scope C code) A fp pn) ifs tt) (pe : PE (gcx X s4 H0 (gEnv X scope C code) A fp pn) elt te)
    (ht : GTurn J W Qe Qs on g tt te (own.map (·.2)) (wipe σ (own.map (·.2)))) : ∀ (m n i : Nat) (s0 s : Shared) (H : Hp), m < n → s0.gens.size ≤ s.gens.size → W i m H → Inv (gcx X s4 H0 (gEnv X scope C code) A fp pn) [] (wipe σ (own.map (·.2))) H s → tn i s.heap → (∀ b ∈ fp, H b = none) →
    Seg (model X.prog X.w) A (gEnd (gcx X s4 H0 (gEnv X scope C code) A fp pn) (wipe σ (own.map (·.2))) Qe) (gPro (gcx X s4 H0 (gEnv X scope C code) A fp pn) (wipe σ (own.map (·.2))) on Qs) n s0
      (.compLoop (.GeneratorExp elt [⟨tg, iter, ifs, 0⟩] scope pos) 0 (.ref it) .none (gEnv X scope C code)) ((model X.prog X.w).den (.compLoop (.GeneratorExp elt [⟨tg, iter, ifs, 0⟩] scope pos) 0 (.ref it) .none (gEnv X scope C code))) [] s := by
  generalize hX : gcx X s4 H0 (gEnv X scope C code) A fp pn = XG at *
  have e1 : XG.prog = X.prog := by rw [← hX]
  have e2 : XG.w = X.w := by rw [← hX]
  have e3 : XG.K = X.K := by rw [← hX]
  have e4 : XG.calm = true := by rw [← hX]
  have e5 : XG.A = A.deeper (gEnv X scope C code) := by rw [← hX]
  have e6 : XG.env = gEnv X scope C code := by rw [← hX]
  have e7 : XG.pn = pn := by rw [← hX]
  have e8 : XG.ex = fp := by rw [← hX]
  have e9 : XG.xe = fun _ _ => False := by rw [← hX]
  intro m
  induction m using Nat.strongRecOn with
  | ind m ih =>
    intro n i s0 s H hmn hz hw I st nf
    have stat : ∀ {σ' : St} {H' : Hp} {s' : Shared}, Inv XG [] σ' H' s' → (∀ b ∈ fp, H' b = none) → ∀ b ∈ fp, FpOk XG [] H' b := fun {σ' H' s'} I' hn b hb => by
      have hb' : b ∈ XG.ex := by rw [e8]; exact hb
      exact ⟨hn b hb, (I'.ok.exf b hb').1, I'.ok.exfs b hb', .inl hb', fun x c e => (I'.ok.exf b hb').2 x c e, fun p hp => by rw [List.append_nil, e7] at hp; exact hpn b hb p hp⟩
    show Seg _ A _ _ _ s0 _ ((compTurn (.GeneratorExp elt [⟨tg, iter, ifs, 0⟩] scope pos) 0 (.ref it) .none (gEnv X scope C code)).onRaise (leaving (gEnv X scope C code))) [] s
    rw [compTurn_gen, Sem.onRaise_eq_wrap]
    refine seg_bind_wrap (wpAny_standAt ?_)
    rcases ht i m H hw with ⟨stop, qe⟩ | ⟨go, Nx, hNx, step⟩
    · have td := T.done XG e1 e2 e3 e4 i [] s _ H (fun _ _ => False) I (stat I nf) st stop
      rw [e5] at td
      refine seg_bind_wrap (GenW.wpAny_gsz hz (wpAny_mono td (fun r s1 hr hz => ?_) fun _ _ z _ => z.elim))
      obtain ⟨rfl, I1⟩ := hr
      exact seg_end (.ok .next) ⟨rfl, hz, H, I1, qe⟩
    · have ti := T.item XG e1 e2 e3 e4 i [] s _ H (fun _ _ => False) I (stat I nf) st go
      rw [e5] at ti
      refine seg_bind_wrap (GenW.wpAny_gsz hz (wpAny_mono ti (fun r s1 hr hz => ?_) fun _ _ z _ => z.elim))
      obtain ⟨u, rfl, h1⟩ := hr
      refine seg_bind_wrap (GenW.wpAny_gsz hz (wpAny_mono h1 (fun _ s2 h2 hz => ?_) fun _ _ z _ => z.elim))
      obtain ⟨x, H2, I2, r2, y2, st2, n2⟩ := h2
      have I2' := I2.pinned (stat I2 n2) (T.obj _ _ st2)
      have pga := pg.run _ s2 _ H2 x u _ I2' r2 (step x H2 y2)
      rw [e1, e2, e5, e6, e9] at pga
      refine seg_bind_wrap (GenW.wpAny_gsz hz (wpAny_mono pga (fun _ s3 h3 hz => ?_) fun _ _ z _ => z.elim))
      obtain ⟨σ3, H3, I3, hw3, q3⟩ := h3
      have pta := pt.run _ s3 σ3 H3 _ I3 q3
      rw [e1, e2, e5, e6, e9] at pta
      refine seg_bind_wrap (GenW.wpAny_gsz hz (wpAny_mono pta (fun b s5 h5 hz => ?_) fun _ _ z _ => z.elim))
      obtain ⟨H5, I5, q5⟩ := h5
      -- the turn's end
      have back : ∀ {s' : Shared} {H' : Hp}, Inv XG ([] ++ pinsAt fp s2.heap) σ3 H' s' → Inv XG [] (wipe σ (own.map (·.2))) H' s' ∧ tn (i + 1) s'.heap ∧ ∀ b ∈ fp, H' b = none := fun {s' H'} I' => by
        have pin' : ∀ b ∈ fp, ∀ o, s2.heap.get? b = some o → s'.heap.get? b = some o ∧ H' b = none := fun b hb o e =>
          let z := I'.pin (b, o) (List.mem_append_right _ (List.mem_append_right _ (mem_pinsAt hb e)))
          ⟨z.1, z.2.1⟩
        refine ⟨(I'.unpinned (pins := [])).weak (by rw [← hw3, wipe_length]) fun j v e => ?_, T.keep _ _ _ st2 fun b hb o e => (pin' b hb o e).1, fun b hb => ?_⟩
        · rw [← hw3] at e
          exact (wipe_some e).1
        · obtain ⟨o, e, _⟩ := T.obj _ _ st2 b hb
          exact (pin' b hb o e).2
      cases b with
      | false =>
        simp only [Bool.false_eq_true, if_false] at q5 ⊢
        obtain ⟨m', hm', w'⟩ := hNx H5 q5
        obtain ⟨b1, b2, b3⟩ := back I5
        exact seg_again rfl (ih m' hm' n (i + 1) s0 s5 H5 (by omega) hz w' b1 b2 b3)
      | true =>
        simp only [if_true] at q5 ⊢
        have hy : ∀ v, yieldOut (gEnv X scope C code) v = yieldValue v := fun v => by
          have hco' : (gEnv X scope C code).scope.isCoroutine = false := hco
          simp only [yieldOut, hco', Bool.false_eq_true, if_false]
        simp only [hy]
        rw [Sem.bind_eq_wrap', Sem.bind_eq_wrap', Sem.wrap_wrap, Sem.wrap_wrap]
        have pea := pe.run _ s5 σ3 H5 _ I5 q5
        rw [e1, e2, e5, e6, e9] at pea
        refine seg_wrap (GenW.wpAny_gsz hz (wpAny_mono pea (fun v s6 h6 hz => ?_) fun _ _ z _ => z.elim))
        obtain ⟨y, H6, I6, r6, k, rfl, q6⟩ := h6
        cases r6
        obtain ⟨b1, b2, b3⟩ := back I6
        obtain ⟨n', rfl⟩ : ∃ n', n = n' + 1 := ⟨n - 1, by omega⟩
        refine seg_at (seg_yield rfl rfl rfl ⟨hz, k, H6, rfl, b1, fun hk t ht => ?_, fun hk => ?_⟩)
        · rw [if_pos hk] at q6
          obtain ⟨m', hm', w'⟩ := hNx H6 q6
          exact seg_again rfl (ih m' hm' n' (i + 1) t t H6 (by omega) (Nat.le_refl _) w' (Inv.slept b1 ht) (by rw [ht.1]; exact b2) b3)
        · rw [if_neg hk] at q6
          exact q6
end
end Tr

set_option Elab.async false
set_option linter.all false
set_option maxRecDepth 100000
set_option maxHeartbeats 4000000
namespace Tr
open PySem PySem.Spec L2
open GxR (TabG Tabbed)
open PyProof.Rows (AllBare)
section
variable {prog : Program} {w : World} {A : Around} {E : Value → Shared → Prop}
theorem gen_begin {R : GenEnd} {Y : Protocol} {P : Program} {K : PySem.W.Frag} {n : Nat} {s0 s : Shared} {elt tg iter : Expr} {ifs : List Expr} {scope : Scope} {pos : Pos} {J : It} {fp : List Addr} {it : Addr} {tn : Nat → Heap → Prop} {cenv : Env} (T : Turn prog w K tg J fp it tn) (st : tn 0 s.heap)
    (h : Seg (model prog w) A R Y n s0 (.compLoop (.GeneratorExp elt [⟨tg, iter, ifs, 0⟩] scope pos) 0 (.ref it) .none cenv) ((model prog w).den (.compLoop (.GeneratorExp elt [⟨tg, iter, ifs, 0⟩] scope pos) 0 (.ref it) .none cenv)) [] s) :
    Seg (model prog w) A R Y n s0 (.compStart (.GeneratorExp elt [⟨tg, iter, ifs, 0⟩] scope pos) 0 (.ref it) .none cenv) ((model prog w).den (.compStart (.GeneratorExp elt [⟨tg, iter, ifs, 0⟩] scope pos) 0 (.ref it) .none cenv)) [] s := by
  show Seg _ A R Y n s0 _ ((compStart (.GeneratorExp elt [⟨tg, iter, ifs, 0⟩] scope pos) 0 (.ref it) .none cenv).onRaise (leaving cenv)) [] s
  unfold compStart
  rw [Sem.onRaise_eq_wrap]
  show Seg _ A R Y n s0 _ ((ask >>= _).wrap _ _ _ _) [] s
  apply seg_bind_wrap
  apply wpAny_askSetting
  split
  · exact seg_again rfl h
  · apply seg_bind_wrap
    apply wpAny_rule
    show Seg _ A R Y n s0 _ ((standAt iter.pos >>= _).wrap _ _ _ _) [] s
    apply seg_bind_wrap
    apply wpAny_standAt
    apply seg_bind_wrap
    exact T.self _ 0 s _ _ st (seg_again rfl h)
/-- the consumer of bools: all (on = true), any (on = false) -/
theorem gen_next {XG : Cx} {σ : St} {Qe Qs : Hp → Prop} {on : Bool} {a : Addr} {g : Nat} {go : Obj} {Q : Option Value → Shared → Prop} (hP : XG.prog = prog) (hW : XG.w = w) (hh : A.handled = none) (hroom : A.depth < recursionLimit) (hpn : XG.pn = [(a, go)])
    (hgo : ∀ h : Heap, h.get? a = some go → h.IsGen a g) {n : Nat} {s : Shared} {gs : GenState} (hl : s.heap.NoLimit) (hg : s.heap.get? a = some go) (hgs : s.gens[g]? = some gs)
    (hr : gs.Goes (model prog w) A.in1 (gEnd XG σ Qe) (gPro XG σ on Qs) n (.send .none) (s.setGen g .running))
    (hv : ∀ k s1, s1.heap.NoLimit → s1.heap.get? a = some go → (∃ H, Inv XG [] σ H s1 ∧ (k ≠ on → Qs H)) → (k = on → ∃ m gs', n = m + 1 ∧ s1.gens[g]? = some gs' ∧ gs'.Goes (model prog w) A.in1 (gEnd XG σ Qe) (gPro XG σ on Qs) m (.send .none) (s1.setGen g .running)) → Q (some (.bool k)) s1)
    (he : ∀ s1, (∃ H, Inv XG [] σ H s1 ∧ Qe H) → Q none s1) : wpAny (model prog w) A (pyNext (.ref a)) Q E s := by
  have bare1 : ∀ (s1 : Shared) (x : GenState), AllBare s1.gens → x.bare = true → AllBare (s1.setGen g x).gens := fun s1 x h hx => allBare_setGen h hx
  have hlt : g < s.gens.size := (Array.getElem?_eq_some_iff.mp hgs).1
  refine wpAny_pyNext_genexpQ (Y := gPro XG σ on Qs) (P := fun _ s0 s1 => s0.gens.size ≤ s1.gens.size ∧ ∃ H, Inv XG [] σ H s1 ∧ Qe H) hh hl hroom (hgo _ hg) hgs hr (fun v s1 gs' hb hy => ?_) (fun s1 hp h' hk => ?_)
  · obtain ⟨hz, k, H, rfl, I, hon, hoff⟩ := hy
    have ha : s1.heap.get? a = some go := (I.pin (a, go) (by rw [hpn]; exact List.mem_cons_self ..)).1
    have I' : Inv XG [] σ H (s1.setGen g gs') := Inv.slept I ⟨rfl, rfl, bare1 s1 gs' I.bare hb⟩
    have hz1 : g < s1.gens.size := by
      have hz2 : (s.setGen g .running).gens.size ≤ s1.gens.size := hz
      rw [GenW.setGen_size] at hz2
      exact Nat.lt_of_lt_of_le hlt hz2
    refine hv k (s1.setGen g gs') I'.nolimit ha ⟨H, I', hoff⟩ fun hk => ?_
    have z := hon hk ((s1.setGen g gs').setGen g .running) ⟨rfl, rfl, bare1 _ _ I'.bare rfl⟩
    cases n with
    | zero => exact z.elim
    | succ m => exact ⟨m, gs', rfl, setGen_self (gs := s1.gens[g]) (Array.getElem?_eq_getElem hz1), z⟩
  · obtain ⟨_, H, I, q⟩ := hp
    have k : ∀ b u, s1.heap.get? b = some u → h'.get? b = some u := hk
    refine he _ ⟨H, ?_, q⟩
    exact I.call' (ch := []) rfl (Un.kept k) (I.hok.kept k) (bare1 s1 _ I.bare rfl) fun b hb => by cases hb
theorem gen_all {XG : Cx} {σ : St} {Qe Qs : Hp → Prop} {a : Addr} {g : Nat} {go : Obj} {R : Result → Shared → Prop} (hP : XG.prog = prog) (hW : XG.w = w) (hh : A.handled = none) (hroom : A.depth < recursionLimit) (hpn : XG.pn = [(a, go)])
    (hgo : ∀ h : Heap, h.get? a = some go → h.IsGen a g) (hR : ∀ k s1, (∃ H, Inv XG [] σ H s1 ∧ (k = true → Qe H) ∧ (k = false → Qs H)) → R (.ok (.ret (.bool k))) s1) : ∀ (n : Nat) (s : Shared) (gs : GenState), s.heap.NoLimit → s.heap.get? a = some go → s.gens[g]? = some gs →
    gs.Goes (model prog w) A.in1.in1 (gEnd XG σ Qe) (gPro XG σ true Qs) n (.send .none) (s.setGen g .running) → codeAny (model prog w) A (.builtin "all.loop" ⟨[.ref a], []⟩) R s := by
  intro n
  induction n with
  | zero =>
    intro s gs hl hg hgs hr
    refine codeAny_builtin F.entry_all_loop ?_
    rw [Around.under_plainId F.plain_all_loop _]
    show wpAny _ A.in1 (pyNext (.ref a) >>= _) _ _ s
    refine wpAny_bind (gen_next (A := A.in1) hP hW hh hroom hpn hgo hl hg hgs hr (fun k s1 hl1 hg1 hs1 hgo1 => ?_) fun s1 ⟨H, I, q⟩ => ?_)
    · refine wpAny_bind (wpAny_holding (wpAny_truthy_bool ?_))
      refine wpAny_bind (wpAny_letGo ?_)
      cases k with
      | true =>
        obtain ⟨m, gs', e, _⟩ := hgo1 rfl
        exact absurd e (by omega)
      | false =>
        simp only [Bool.false_eq_true, if_false]
        obtain ⟨H, I, q⟩ := hs1
        exact wpAny_bind (wpAny_rule (wpAny_pure (hR false s1 ⟨H, I, fun z => (by cases z), fun _ => q (by decide)⟩)))
    · exact wpAny_bind (wpAny_rule (wpAny_pure (hR true s1 ⟨H, I, fun _ => q, fun z => (by cases z)⟩)))
  | succ n ih =>
    intro s gs hl hg hgs hr
    refine codeAny_builtin F.entry_all_loop ?_
    rw [Around.under_plainId F.plain_all_loop _]
    show wpAny _ A.in1 (pyNext (.ref a) >>= _) _ _ s
    refine wpAny_bind (gen_next (A := A.in1) hP hW hh hroom hpn hgo hl hg hgs hr (fun k s1 hl1 hg1 hs1 hgo1 => ?_) fun s1 ⟨H, I, q⟩ => ?_)
    · refine wpAny_bind (wpAny_holding (wpAny_truthy_bool ?_))
      refine wpAny_bind (wpAny_letGo ?_)
      cases k with
      | true =>
        simp only [if_true]
        obtain ⟨m, gs', e, e2, e3⟩ := hgo1 rfl
        cases e
        exact wpAny_pure ⟨plainId_quiet F.plain_all_loop _, ih s1 gs' hl1 hg1 e2 e3⟩
      | false =>
        simp only [Bool.false_eq_true, if_false]
        obtain ⟨H, I, q⟩ := hs1
        exact wpAny_bind (wpAny_rule (wpAny_pure (hR false s1 ⟨H, I, fun z => (by cases z), fun _ => q (by decide)⟩)))
    · exact wpAny_bind (wpAny_rule (wpAny_pure (hR true s1 ⟨H, I, fun _ => q, fun z => (by cases z)⟩)))
theorem gen_any {XG : Cx} {σ : St} {Qe Qs : Hp → Prop} {a : Addr} {g : Nat} {go : Obj} {R : Result → Shared → Prop} (hP : XG.prog = prog) (hW : XG.w = w) (hh : A.handled = none) (hroom : A.depth < recursionLimit) (hpn : XG.pn = [(a, go)])
    (hgo : ∀ h : Heap, h.get? a = some go → h.IsGen a g) (hR : ∀ k s1, (∃ H, Inv XG [] σ H s1 ∧ (k = false → Qe H) ∧ (k = true → Qs H)) → R (.ok (.ret (.bool k))) s1) : ∀ (n : Nat) (s : Shared) (gs : GenState), s.heap.NoLimit → s.heap.get? a = some go → s.gens[g]? = some gs →
    gs.Goes (model prog w) A.in1.in1 (gEnd XG σ Qe) (gPro XG σ false Qs) n (.send .none) (s.setGen g .running) → codeAny (model prog w) A (.builtin "any.loop" ⟨[.ref a], []⟩) R s := by
  intro n
  induction n with
  | zero =>
    intro s gs hl hg hgs hr
    refine codeAny_builtin F.entry_any_loop ?_
    rw [Around.under_plainId F.plain_any_loop _]
    show wpAny _ A.in1 (pyNext (.ref a) >>= _) _ _ s
    refine wpAny_bind (gen_next (A := A.in1) hP hW hh hroom hpn hgo hl hg hgs hr (fun k s1 hl1 hg1 hs1 hgo1 => ?_) fun s1 ⟨H, I, q⟩ => ?_)
    · refine wpAny_bind (wpAny_holding (wpAny_truthy_bool ?_))
      refine wpAny_bind (wpAny_letGo ?_)
      cases k with
      | false =>
        obtain ⟨m, gs', e, _⟩ := hgo1 rfl
        exact absurd e (by omega)
      | true =>
        simp only [if_true]
        obtain ⟨H, I, q⟩ := hs1
        exact wpAny_bind (wpAny_rule (wpAny_pure (hR true s1 ⟨H, I, fun z => (by cases z), fun _ => q (by decide)⟩)))
    · exact wpAny_bind (wpAny_rule (wpAny_pure (hR false s1 ⟨H, I, fun _ => q, fun z => (by cases z)⟩)))
  | succ n ih =>
    intro s gs hl hg hgs hr
    refine codeAny_builtin F.entry_any_loop ?_
    rw [Around.under_plainId F.plain_any_loop _]
    show wpAny _ A.in1 (pyNext (.ref a) >>= _) _ _ s
    refine wpAny_bind (gen_next (A := A.in1) hP hW hh hroom hpn hgo hl hg hgs hr (fun k s1 hl1 hg1 hs1 hgo1 => ?_) fun s1 ⟨H, I, q⟩ => ?_)
    · refine wpAny_bind (wpAny_holding (wpAny_truthy_bool ?_))
      refine wpAny_bind (wpAny_letGo ?_)
      cases k with
      | false =>
        simp only [Bool.false_eq_true, if_false]
        obtain ⟨m, gs', e, e2, e3⟩ := hgo1 rfl
        cases e
        exact wpAny_pure ⟨plainId_quiet F.plain_any_loop _, ih s1 gs' hl1 hg1 e2 e3⟩
      | true =>
        simp only [if_true]
        obtain ⟨H, I, q⟩ := hs1
        exact wpAny_bind (wpAny_rule (wpAny_pure (hR true s1 ⟨H, I, fun z => (by cases z), fun _ => q (by decide)⟩)))
    · exact wpAny_bind (wpAny_rule (wpAny_pure (hR false s1 ⟨H, I, fun _ => q, fun z => (by cases z)⟩)))
end
/-! ### the making -/
section
variable {X : Cx} {pins : List (Addr × Obj)} {σ : St} {H : Hp} {s : Shared}
/-- a generator a that has not begun, in the state t, made in the state s4 -/
structure Made (X : Cx) (pins : List (Addr × Obj)) (σ : St) (tg iter elt : Expr) (ifs : List Expr) (scope : Scope) (pos : Pos) (J : It) (H2 : Hp) (s4 t : Shared) (a : Addr) : Prop where
  ex : ∃ (it : Addr) (fp : List Addr) (tn : Nat → Heap → Prop) (code : Value) (g : Nat) (go : Obj) (h5 : Heap) (g5 : Array GenState) (t5 : Nat), Inv X pins σ H2 s4 ∧ Turn X.prog X.w X.K tg J fp it tn ∧ tn 0 h5 ∧ (∀ b ∈ fp, FpOk X pins H2 b ∧ b < s4.heap.objs.size) ∧
    t = { s4 with heap := h5, gens := g5, toks := t5 } ∧ (∀ b o, s4.heap.get? b = some o → h5.get? b = some o) ∧ h5.Ns s4.heap.objs.size (fun y => if y = ".0" then some (.ref it) else none) ∧ AllBare g5 ∧ h5.get? a = some go ∧ s4.heap.objs.size < a ∧ (∀ v, go.data ≠ .cell v) ∧
    (∀ h : Heap, h.get? a = some go → h.IsGen a g) ∧ g5[g]? = some (.fresh (.compStart (.GeneratorExp elt [⟨tg, iter, ifs, 0⟩] scope pos) 0 (.ref it) .none (gEnv X scope s4.heap.objs.size code)))
theorem gen_make {c P : Addr} {elt tg iter : Expr} {ifs : List Expr} {gpos : Pos} {scope : Scope} {own : List (Str × Nat)} {wi : TI} {k : Nat} {Q' : Value → Shared → Prop} {R : It → Hp → Prop}
    (hr : Room k X.A) (TB : GxR.TabB X.base X.mg c P) (hcode : X.env.code = .ref c) (ok : GOk X.N X.env.scope scope own) (hi : PI X tg iter wi) (hs : ∀ v, genFold iter X.env v = pure v) (I : Inv X pins σ H s)
    (h : wi σ H fun J H1 => TabG H1 P ∧ ∀ H2, Tabbed P H1 H2 → R J H2) (hQ : ∀ J H2 s4 t a, R J H2 → Made X pins σ tg iter elt ifs scope gpos J H2 s4 t a → Q' (.ref a) t) :
    wpAny (model X.prog X.w) X.A (eval (.GeneratorExp elt [⟨tg, iter, ifs, 0⟩] scope gpos) X.env) Q' X.xe s := by
  have hfree : ∀ y ∈ scope.names, y.2 = .free → ∃ c, X.env.cells.lookup y.1 = some c := fun y hy e => (ok.blk.free y hy e).elim (fun k => I.ok.has _ (.inl k)) fun k => I.ok.has _ (.inr k)
  refine wpAny_GeneratorExp_make ok.co (closure_ok hfree) ok.cell ok.dot ok.blk.kind (by have := hr.dp; omega) ?_ hs
  refine thn (hi.run pins s σ H _ I h) fun xv s1 h1 => thn h1 fun itv s2 h2 => ?_
  obtain ⟨it, fp, tn, J, H1, rfl, I2, T, st2, f2, ⟨ps, hP, htr⟩, q⟩ := h2
  have hPs : s2.heap.get? P = some { cls := .none, data := .fields ps } := I2.hok P _ hP
  have cd : PySem.W.CodeHd s2.heap c P := TB.code.keeps I2.bk
  refine ⟨I2.nolimit, ?_⟩
  have fpP : ∀ b ∈ fp, b ≠ P := fun b hb z => by
    have := (f2 b hb).1
    rw [z, hP] at this
    cases this
  have cont : ∀ (code : Value) (h3 : Heap) (tk : Nat) (ps' more : Array Value), Heap.ExtBut P s2.heap h3 → s2.heap.objs.size ≤ h3.objs.size → h3.get? P = some { cls := .none, data := .fields ps' } → ps' = ps ++ more → TriplesOk ps'.toList →
      wpAny (model X.prog X.w) X.A (builtinsFor X.env.globals X.env.builtins) (fun bi s4 => ∀ h', h'.Ns s4.heap.objs.size (fun y => if y = ".0" then some (.ref it) else none) → Heap.SameBut s4.heap.objs.size (s4.heap.push { cls := .type "frame", data := .dict #[] }) h' →
          Q' (.ref h'.objs.size) { s4 with
            gens := s4.gens.push (.fresh (.compStart (.GeneratorExp elt [⟨tg, iter, ifs, 0⟩] scope gpos) 0 (.ref it) .none (genEnv scope (cloFrom X.env.cells scope.names []) s4.heap.objs.size code bi X.env))),
            toks := s4.toks + 1 + 1 + 1,
            heap := h'.push { cls := .type "generator", data := .fields #[.int s4.gens.size 0, .str "<genexpr>" (s4.toks + 1), .str (X.env.qual ++ "<genexpr>") (s4.toks + 1 + 1)] } }) X.xe { s2 with heap := h3, toks := tk } := by
    intro code h3 tk ps' more hx hsz hP3 hmore ht3
    obtain ⟨bm, ob, e1, e2, e3, e4, e5, e6, e7, e8⟩ := TB.bm
    have keep3 : ∀ b u, b ≠ P → s2.heap.get? b = some u → h3.get? b = some u := fun b u hb e => hx b u hb e
    refine wpAny_builtinsFor (m := X.mg) (by rw [I2.ok.glob]; exact (I2.mod.glob.keeps I2.bk).extBut hx TB.gP) e1 e2 (keep3 _ _ e4 (I2.bk _ _ e5)) e6 e7 e8 ?_
    intro h' hn hsb
    have I3 : Inv X pins σ (upd H1 P (.tbl (ps ++ more))) { s2 with heap := h3, toks := tk } := GxR.inv_tab (g' := s2.gens) (d' := s2.drawn) I2 hP keep3 (by rw [← hmore]; exact hP3) I2.bare
    have sz' : h'.objs.size = h3.objs.size + 1 := by rw [hsb.1, Heap.size_push]
    have kp1 : ∀ b o, h3.get? b = some o → h'.get? b = some o := fun b o e => hsb.extBut b o (Nat.ne_of_lt (Heap.lt_size e)) (Heap.get?_push_of_some _ e)
    refine hQ J (upd H1 P (.tbl (ps ++ more))) { s2 with heap := h3, toks := tk } _ h'.objs.size (q _ ⟨⟨ps ++ more, upd_same, by rw [← hmore]; exact ht3⟩, fun b hb => upd_ne hb⟩) ⟨?_⟩
    refine ⟨it, fp, tn, code, s2.gens.size, _, _, _, _, I3, T, ?_, fun b hb => ?_, rfl, fun b o e => Heap.get?_push_of_some _ (kp1 b o e), hn.push _, AllBare.push I2.bare rfl, Heap.get?_push_size _ rfl, by show h3.objs.size < h'.objs.size; omega, fun v z => (by cases z), fun h e => ⟨_, _, _, e, rfl, rfl, rfl⟩, Array.getElem?_push_size ..⟩
    · exact T.keep _ _ _ st2 fun b hb o e => Heap.get?_push_of_some _ (kp1 b o (keep3 b o (fpP b hb) e))
    · obtain ⟨o, e, _⟩ := T.obj _ _ st2 b hb
      refine ⟨⟨by rw [upd_ne (fpP b hb)]; exact (f2 b hb).1, (f2 b hb).2⟩, Heap.lt_size (keep3 b o (fpP b hb) e)⟩
  cases hf : codeAmong gpos ps.toList with
  | none =>
    refine wpAny_genexprCodeX hcode (cd.code hPs htr) (cd.tab hPs) hf fun c' h3 tk hx hge hlt hco' _ htab' _ => ?_
    obtain ⟨o1, vs, f1, tf, fl, tg', inF, tx, tt, op, _, _, _, _, _, _, _, _, _, htr', _⟩ := hco'
    exact cont _ h3 tk _ _ hx (Nat.le_trans hge (Nat.le_of_lt hlt)) htab'.2 rfl htr'
  | some cv =>
    refine wpAny_genexprCode_hit hcode (cd.code hPs htr) hf ?_
    exact cont cv s2.heap s2.toks ps #[] (Heap.ExtBut.refl _ _) (Nat.le_refl _) hPs (by simp) htr
end
end Tr

set_option Elab.async false
set_option linter.all false
set_option maxRecDepth 100000
set_option maxHeartbeats 4000000
namespace Tr
open PySem PySem.Spec L2
open GxR (TabG Tabbed)
open PyProof.Rows (AllBare)

/-! ## all and any over a generator expression -/
def tGa (on : Bool) (P : Addr) (wi : TI) (g : TG) (tt : TT) (te : TE) (vs : List Nat) : TE := fun σ H Q => wi σ H fun J H1 => TabG H1 P ∧ ∀ H2, Tabbed P H1 H2 →
  ∃ (W : Nat → Nat → Hp → Prop) (Qe Qs : Hp → Prop), (∃ m, W 0 m H2) ∧ GTurn J W Qe Qs on g tt te vs (wipe σ vs) ∧ (∀ G, Qe G → Q (.bl on) G) ∧ ∀ G, Qs G → Q (.bl (!on)) G
section
variable {X : Cx}
abbrev gA (X : Cx) : Around := X.A.in1.in1
/-- the contexts of a generator's frame -/
def GFr (X : Cx) (scope : Scope) (p : Cx → Prop) : Prop := ∀ (s : Shared) (H : Hp) (C : Addr) (code : Value) (fp : List Addr) (pn : List (Addr × Obj)), p (gcx X s H (gEnv X scope C code) (gA X) fp pn)
theorem ga_goes {pins : List (Addr × Obj)} {σ : St} {tg iter elt : Expr} {ifs : List Expr} {scope : Scope} {pos : Pos} {J : It} {H2 : Hp} {s4 t : Shared} {a : Addr} {own : List (Str × Nat)} {on : Bool} {g : TG} {tt : TT} {te : TE} {W : Nat → Nat → Hp → Prop} {Qe Qs : Hp → Prop}
    (hA : X.A.handled = none) (ok : GOk X.N X.env.scope scope own) (hN : X.N.Nodup) (pg : GFr X scope fun Y => PG Y tg g) (pt : GFr X scope fun Y => PTs Y ifs tt) (pe : GFr X scope fun Y => PE Y elt te)
    (ht : GTurn J W Qe Qs on g tt te (own.map (·.2)) (wipe σ (own.map (·.2)))) (hm : ∃ m, W 0 m H2) (M : Made X pins σ tg iter elt ifs scope pos J H2 s4 t a) :
    ∃ (XG : Cx) (n : Nat) (gi : Nat) (go : Obj) (gs : GenState), XG.prog = X.prog ∧ XG.w = X.w ∧ XG.pn = [(a, go)] ∧ (∀ h : Heap, h.get? a = some go → h.IsGen a gi) ∧ t.heap.NoLimit ∧ t.heap.get? a = some go ∧ t.gens[gi]? = some gs ∧
      gs.Goes (model X.prog X.w) (gA X) (gEnd XG (wipe σ (own.map (·.2))) Qe) (gPro XG (wipe σ (own.map (·.2))) on Qs) n (.send .none) (t.setGen gi .running) ∧
      ∀ H s, Inv XG [] (wipe σ (own.map (·.2))) H s → Inv X pins σ H s := by
  obtain ⟨it, fp, tn, code, gi, go, h5, g5, t5, I2, T, st, hfp, rfl, kp, hns, hb, hga, hlt, hgo, hgen, hgs⟩ := M.ex
  obtain ⟨m, hm⟩ := hm
  have hfr : (gA X).frames = some X.stack := I2.ok.frames
  have IG := gen_start (A := gA X) (code := code) (fp := fp) (t5 := t5) I2 ok hN hfp hA hfr kp hns hb hga hlt hgo
  refine ⟨gcx X s4 H2 (gEnv X scope s4.heap.objs.size code) (gA X) fp [(a, go)], m + 1, gi, go, _, rfl, rfl, rfl, hgen, IG.nolimit, hga, hgs, ⟨rfl, ?_⟩, fun H s J => gen_back I2 J fun b hb => (hfp b hb).1⟩
  refine gen_begin (P := X.prog) T st ?_
  refine gen_loop ok.co T (fun b hb p hp => ?_) (pg ..) (pt ..) (pe ..) ht m (m + 1) 0 _ _ H2 (Nat.lt_succ_self _) (Nat.le_refl _) hm (Inv.slept IG ⟨rfl, rfl, allBare_setGen hb rfl⟩) st fun b hb => (hfp b hb).1.1
  rw [List.mem_singleton] at hp
  subst hp
  exact Nat.ne_of_gt (Nat.lt_trans (hfp b hb).2 hlt)
theorem pe_allG {c P : Addr} {elt tg iter : Expr} {ifs : List Expr} {p pos gpos : Pos} {scope : Scope} {own : List (Str × Nat)} {wi : TI} {g : TG} {tt : TT} {te : TE} {k : Nat}
    (hr : Room k X.A) (hg : Gl X "all") (hm : X.mg "all" = none) (TB : GxR.TabB X.base X.mg c P) (hcode : X.env.code = .ref c) (ok : GOk X.N X.env.scope scope own) (hN : X.N.Nodup) (hi : PI X tg iter wi)
    (pg : GFr X scope fun Y => PG Y tg g) (pt : GFr X scope fun Y => PTs Y ifs tt) (pe : GFr X scope fun Y => PE Y elt te) (hs : ∀ v, genFold iter X.env v = pure v)
    (he : starEach [.GeneratorExp elt [⟨tg, iter, ifs, 0⟩] scope gpos] X.env = (false, eval (.GeneratorExp elt [⟨tg, iter, ifs, 0⟩] scope gpos) X.env) :: starEach [] X.env := by rfl) :
    PE X (.Call (.Name "all" p) [.GeneratorExp elt [⟨tg, iter, ifs, 0⟩] scope gpos] [] pos) (tGa true P wi g tt te (own.map (·.2))) := by
  refine ⟨fun pins s σ H Q I h => ?_⟩
  refine wpAny_Call_Name_kw (ld_blt I hg hm PyProof.Rows.boot_all ?_)
  refine PyProof.Rows.callWith_builtin1 ?_ he (by rfl)
  rw [he]
  show wpAny _ _ (spliced ((false, eval (.GeneratorExp elt [⟨tg, iter, ifs, 0⟩] scope gpos) X.env) :: backTo pos (starEach [] X.env))) _ _ s
  refine Calls.spliced_cons (gen_make hr TB hcode ok hi hs I h fun J H2 s4 t a ⟨W, Qe, Qs, hW, ht, q1, q2⟩ M => ?_)
  refine Calls.spliced_nil ?_
  obtain ⟨XG, n, gi, go, gs, e1, e2, e3, hgen, hl, hga, hgs, hgo, back⟩ := ga_goes hr.hd ok hN pg pt pe ht hW M
  refine call_function_tree F.kind_all F.plain_all F.entry_all (F.args_all1 _) ?_
  unfold Builtin.«all»
  refine wpAny_bind (m := oneArg "all" _) (wpAny_pure ?_)
  refine wpAny_bind (wpAny_pyIter_gen (hgen _ hga) ?_)
  refine wpAny_pure ⟨plainId_quiet F.plain_all_loop _, gen_all e1 e2 hr.hd (by have := hr.dp; show X.A.depth < _; omega) e3 hgen (fun b s1 ⟨H, J, z1, z2⟩ => ?_) n t gs hl hga hgs hgo⟩
  refine ⟨.bl b, H, back H s1 J, rfl, ?_⟩
  cases b with
  | true => exact q1 H (z1 rfl)
  | false => exact q2 H (z2 rfl)
theorem pe_anyG {c P : Addr} {elt tg iter : Expr} {ifs : List Expr} {p pos gpos : Pos} {scope : Scope} {own : List (Str × Nat)} {wi : TI} {g : TG} {tt : TT} {te : TE} {k : Nat}
    (hr : Room k X.A) (hg : Gl X "any") (hm : X.mg "any" = none) (TB : GxR.TabB X.base X.mg c P) (hcode : X.env.code = .ref c) (ok : GOk X.N X.env.scope scope own) (hN : X.N.Nodup) (hi : PI X tg iter wi)
    (pg : GFr X scope fun Y => PG Y tg g) (pt : GFr X scope fun Y => PTs Y ifs tt) (pe : GFr X scope fun Y => PE Y elt te) (hs : ∀ v, genFold iter X.env v = pure v)
    (he : starEach [.GeneratorExp elt [⟨tg, iter, ifs, 0⟩] scope gpos] X.env = (false, eval (.GeneratorExp elt [⟨tg, iter, ifs, 0⟩] scope gpos) X.env) :: starEach [] X.env := by rfl) :
    PE X (.Call (.Name "any" p) [.GeneratorExp elt [⟨tg, iter, ifs, 0⟩] scope gpos] [] pos) (tGa false P wi g tt te (own.map (·.2))) := by
  refine ⟨fun pins s σ H Q I h => ?_⟩
  refine wpAny_Call_Name_kw (ld_blt I hg hm PyProof.Rows.boot_any ?_)
  refine PyProof.Rows.callWith_builtin1 ?_ he (by rfl)
  rw [he]
  show wpAny _ _ (spliced ((false, eval (.GeneratorExp elt [⟨tg, iter, ifs, 0⟩] scope gpos) X.env) :: backTo pos (starEach [] X.env))) _ _ s
  refine Calls.spliced_cons (gen_make hr TB hcode ok hi hs I h fun J H2 s4 t a ⟨W, Qe, Qs, hW, ht, q1, q2⟩ M => ?_)
  refine Calls.spliced_nil ?_
  obtain ⟨XG, n, gi, go, gs, e1, e2, e3, hgen, hl, hga, hgs, hgo, back⟩ := ga_goes hr.hd ok hN pg pt pe ht hW M
  refine call_function_tree F.kind_any F.plain_any F.entry_any (F.args_any1 _) ?_
  unfold Builtin.«any»
  refine wpAny_bind (m := oneArg "any" _) (wpAny_pure ?_)
  refine wpAny_bind (wpAny_pyIter_gen (hgen _ hga) ?_)
  refine wpAny_pure ⟨plainId_quiet F.plain_any_loop _, gen_any e1 e2 hr.hd (by have := hr.dp; show X.A.depth < _; omega) e3 hgen (fun b s1 ⟨H, J, z1, z2⟩ => ?_) n t gs hl hga hgs hgo⟩
  refine ⟨.bl b, H, back H s1 J, rfl, ?_⟩
  cases b with
  | true => exact q2 H (z2 rfl)
  | false => exact q1 H (z1 rfl)
end

/-! ### over data -/
def gaLoop (on : Bool) (g : BF) (t : TF) (f : DF) (δ : De) : List D → Wp D
  | [] => .pure (.bool on)
  | d :: ds => (optW (g d δ)).bind fun δ1 => (t δ1).bind fun b => if b then (f δ1).bind fun y => match y with
    | .bool k => if k = on then gaLoop on g t f δ ds else .pure (.bool k)
    | _ => .stuck else gaLoop on g t f δ ds
def dGa (on : Bool) (fi : De → Wp (List D)) (g : BF) (t : TF) (f : DF) (vs : List Nat) : DF := fun δ => (fi δ).bind fun ds => (gaLoop on g t f (dWipe δ vs) ds).nox
/-- the state of a generator's block -/
theorem Rep.gen {C : Cs} {S0 : Addr → Prop} {H0 Pb : Hp} {σ : St} {H G : Hp} {δ : De} (vs : List Nat) (R : Rep (C.bx S0 H0) Pb σ H δ) (g : Grow H G) :
    Rep (C.bx (Own (C.bx S0 H0) σ δ) G) (hid (Own (C.bx S0 H0) σ δ) G) (wipe σ vs) G (dWipe δ vs) := by
  have no : ∀ j ds, (dWipe δ vs)[j]? ≠ some (Sl.o ds) := fun j ds h => (dWipe_get (by intro z; cases z) h).2.2 ds rfl
  have own : ∀ b, Own (C.bx (Own (C.bx S0 H0) σ δ) G) (wipe σ vs) (dWipe δ vs) b ↔ Own (C.bx S0 H0) σ δ b := fun b =>
    ⟨fun z => z.elim id fun ⟨j, ds, e1, _⟩ => absurd e1 (no j ds), .inl⟩
  have le : Le (hid (Own (C.bx S0 H0) σ δ) H) (hid (Own (C.bx (Own (C.bx S0 H0) σ δ) G) (wipe σ vs) (dWipe δ vs)) G) := hid_le g.le fun b z => (own b).mp z
  refine ⟨hid_le (Le.refl G) fun b z => (own b).mp z, by rw [wipe_length, dWipe_len]; exact R.len, Grow.refl G, fun b z => g.dm b (R.odom b z), (R.gr g).tabs, fun j d h => ?_, fun j ds h => absurd h (no j ds), fun j k ds es b h => absurd h (no j ds), fun j x h => ?_, fun j b φ h => ?_, fun q hq => (R.grow.trans g).le.sqL (R.scr q hq)⟩
  · obtain ⟨h1, h2, _⟩ := dWipe_get (by intro z; cases z) h
    obtain ⟨v, q1, q2⟩ := R.pers j d h2
    exact ⟨v, by rw [wipe_get, if_neg h1]; exact q1, Le.dp le _ v q2⟩
  · obtain ⟨h1, h2, _⟩ := dWipe_get (by intro z; cases z) h
    rw [wipe_get, if_neg h1]
    exact R.val j x h2
  · obtain ⟨h1, h2, _⟩ := dWipe_get (by intro z; cases z) h
    rw [wipe_get, if_neg h1]
    exact ⟨(R.trk j b φ h2).1, le b _ (R.trk j b φ h2).2 fun ps z => by cases z⟩
theorem Tabbed.grow {P : Addr} {H H' : Hp} (t : TabG H P) (h : Tabbed P H H') : Grow H H' := by
  obtain ⟨ps, e, tr⟩ := t
  refine ⟨fun b u e1 n => ?_, fun P' h' => ?_, fun b hb => ?_⟩
  · have nb : b ≠ P := fun z => by
      rw [z, e] at e1
      exact n ps (Option.some.inj e1).symm
    rw [h.2 b nb]
    exact e1
  · by_cases c : P' = P
    · rw [c]; exact h.1
    · obtain ⟨qs, e1, tr1⟩ := h'
      exact ⟨qs, by rw [h.2 P' c]; exact e1, tr1⟩
  · by_cases c : b = P
    · obtain ⟨qs, e1, _⟩ := h.1
      rw [c, e1]
      exact fun z => nomatch z
    · rw [h.2 b c]; exact hb
theorem ga_read {C : Cs} {W : WX} {on : Bool} {P : Addr} {wi : TI} {fi : De → Wp (List D)} {g : BF} {ix vs : List Nat} {t : TF} {f : DF} (hP : P ∈ C.T)
    (qw : ∀ S0 H0 Pb σ H δ Q, Rep (C.bx S0 H0) Pb σ H δ → (fi δ).run (fun ds => ∀ J G, Grow H G → Items C.K (hid (Own (C.bx S0 H0) σ δ) G) ds J → Q J G) (Ew (C.bx S0 H0) W σ H) → wi σ H Q) (hix : ∀ i ∈ ix, i ∈ vs)
    {S0 : Addr → Prop} {H0 Pb : Hp} {σ : St} {H : Hp} {δ : De} {Q : VK} (R : Rep (C.bx S0 H0) Pb σ H δ)
    (h : (dGa on fi g t f vs δ).run (Dv (C.bx S0 H0) σ H δ Q) (Ew (C.bx S0 H0) W σ H)) :
    tGa on P wi (rG C ix g) (rT C W0 t) (rE C W0 f) vs σ H Q := by
  refine qw S0 H0 Pb σ H δ _ R ((fi δ).mono (fun ds h J G gr it => ?_) (fun _ z => z) h)
  have hT : TabG G P := gr.tb P (R.tabs P hP)
  refine ⟨hT, fun H2 hT2 => ?_⟩
  have g2 : Grow H H2 := gr.trans (Tabbed.grow hT hT2)
  have l2 : Le (hid (Own (C.bx S0 H0) σ δ) G) (hid (Own (C.bx S0 H0) σ δ) H2) := hid_le (Tabbed.grow hT hT2).le fun _ z => z
  obtain ⟨Gp, Y, w, hG, hY⟩ := it
  have h : (gaLoop on g t f (dWipe δ vs) ds).run (Dv (C.bx S0 H0) σ H δ Q) (fun _ => False) := h
  refine ⟨fun i m Hi => m = ds.length - i ∧ i ≤ ds.length ∧ Grow H2 Hi ∧ (gaLoop on g t f (dWipe δ vs) (ds.drop i)).run (Dv (C.bx S0 H0) σ H δ Q) (fun _ => False), fun G => Q (.bl on) G, fun G => Q (.bl (!on)) G, ⟨ds.length, by simp, Nat.zero_le _, Grow.refl _, h⟩, ?_, fun _ z => z, fun _ z => z⟩
  rintro i m Hi ⟨rfl, hi, gi, hr⟩
  have li : Le (hid (Own (C.bx S0 H0) σ δ) G) (hid (Own (C.bx S0 H0) σ δ) Hi) := l2.trans (hid_le gi.le fun _ z => z)
  have gp : Gp Hi := hG Hi (li.trans hid_sub)
  by_cases hlt : i < ds.length
  · refine .inr ⟨w.goes i Hi hlt gp, fun G => Grow H2 G ∧ (gaLoop on g t f (dWipe δ vs) (ds.drop (i + 1))).run (Dv (C.bx S0 H0) σ H δ Q) (fun _ => False), fun G p' => ⟨ds.length - (i + 1), by omega, rfl, hlt, p'⟩, fun x Hi2 y => ?_⟩
    have dom : ∀ b, Own (C.bx S0 H0) σ δ b → Hi b ≠ none := fun b z => (g2.trans gi).dm b (R.odom b z)
    obtain ⟨gw, d, hd, dx⟩ := hY i Hi x Hi2 _ hlt li dom (w.yields i Hi x Hi2 hlt gp y)
    have ed : ds.drop i = d :: ds.drop (i + 1) := by
      rw [List.drop_eq_getElem_cons hlt]
      rw [List.getElem?_eq_getElem hlt] at hd
      rw [Option.some.inj hd]
    rw [ed] at hr
    obtain ⟨δ1, hg1, hr⟩ := optW_inv hr
    have g3 : Grow H Hi2 := (g2.trans gi).trans gw
    have RB := R.gen vs g3
    have ownB : ∀ b, Own (C.bx (Own (C.bx S0 H0) σ δ) Hi2) (wipe σ vs) (dWipe δ vs) b → Own (C.bx S0 H0) σ δ b := fun b z => by
      rcases z with z | ⟨j, es, e1, _⟩
      · exact z
      · exact absurd rfl ((dWipe_get (by intro z; cases z) e1).2.2 es)
    refine ⟨_, _, _, dWipe δ vs, d, δ1, RB, Le.dp (hid_le (Le.refl _) ownB) d x dx, hg1, fun σ2 R2 o2 w2 => ⟨?_, ?_⟩⟩
    · rw [w2 vs hix]
      apply List.ext_getElem?
      intro j
      rw [wipe_get, wipe_get]
      split
      · rename_i hj
        cases σ[j]? <;> rfl
      · rename_i hj
        rfl
    refine ⟨_, _, _, δ1, R2, (t δ1).mono (fun b hb H3 g3' => ?_) (fun x hx => hx.elim) hr⟩
    cases b with
    | false => exact ⟨(gi.trans gw).trans g3', hb⟩
    | true =>
      refine ⟨_, _, _, δ1, R2.gr g3', (f δ1).mono (fun yd hy v H4 g4 dv => ?_) (fun x hx => hx.elim) hb⟩
      have g5 : Grow H2 H4 := ((gi.trans gw).trans g3').trans g4
      cases dv with
      | bl k =>
        refine ⟨k, rfl, ?_⟩
        simp only [] at hy
        by_cases c : k = on
        · rw [if_pos c] at hy ⊢
          exact ⟨g5, hy⟩
        · rw [if_neg c] at hy ⊢
          have e : k = !on := by
            cases k <;> cases on <;> simp_all
          rw [← e]
          exact hy (.bl k) H4 (g2.trans g5) (.bl k)
      | _ => exact hy.elim
  · have e : i = ds.length := by omega
    subst e
    rw [List.drop_length] at hr
    have hr : Dv (C.bx S0 H0) σ H δ Q (.bool on) := hr
    exact .inl ⟨w.stops Hi gp, hr (.bl on) Hi (g2.trans gi) (.bl on)⟩
section
variable {X : Cx} {C : Cs} {W : WX} {c P : Addr} {elt tg iter : Expr} {ifs : List Expr} {p pos gpos : Pos} {scope : Scope} {own : List (Str × Nat)} {fi : De → Wp (List D)} {g : BF} {ix : List Nat} {t : TF} {f : DF} {k : Nat}
theorem de_allG (hr : Room k X.A) (hg : Gl X "all") (hm : X.mg "all" = none) (TB : GxR.TabB X.base X.mg c P) (hP : P ∈ C.T) (hcode : X.env.code = .ref c) (ok : GOk X.N X.env.scope scope own) (hix : ∀ i ∈ ix, i ∈ own.map (·.2)) (hN : X.N.Nodup) (hi : DI X C W tg iter fi)
    (pg : GFr X scope fun Y => DG Y C tg ix g) (pt : GFr X scope fun Y => DTs Y C W0 ifs t) (pe : GFr X scope fun Y => DE Y C W0 elt f) (hs : ∀ v, genFold iter X.env v = pure v := by intro _; rfl) :
    DE X C W (.Call (.Name "all" p) [.GeneratorExp elt [⟨tg, iter, ifs, 0⟩] scope gpos] [] pos) (dGa true fi g t f (own.map (·.2))) := by
  obtain ⟨wi, pw, qw⟩ := hi
  exact ⟨_, pe_allG hr hg hm TB hcode ok hN pw (fun s H C c fp pn => (pg s H C c fp pn).to) pt (fun s H C c fp pn => (pe s H C c fp pn).to) hs, fun S0 H0 Pb σ H δ Q R h => ga_read hP qw hix R h⟩
theorem de_anyG (hr : Room k X.A) (hg : Gl X "any") (hm : X.mg "any" = none) (TB : GxR.TabB X.base X.mg c P) (hP : P ∈ C.T) (hcode : X.env.code = .ref c) (ok : GOk X.N X.env.scope scope own) (hix : ∀ i ∈ ix, i ∈ own.map (·.2)) (hN : X.N.Nodup) (hi : DI X C W tg iter fi)
    (pg : GFr X scope fun Y => DG Y C tg ix g) (pt : GFr X scope fun Y => DTs Y C W0 ifs t) (pe : GFr X scope fun Y => DE Y C W0 elt f) (hs : ∀ v, genFold iter X.env v = pure v := by intro _; rfl) :
    DE X C W (.Call (.Name "any" p) [.GeneratorExp elt [⟨tg, iter, ifs, 0⟩] scope gpos] [] pos) (dGa false fi g t f (own.map (·.2))) := by
  obtain ⟨wi, pw, qw⟩ := hi
  exact ⟨_, pe_anyG hr hg hm TB hcode ok hN pw (fun s H C c fp pn => (pg s H C c fp pn).to) pt (fun s H C c fp pn => (pe s H C c fp pn).to) hs, fun S0 H0 Pb σ H δ Q R h => ga_read hP qw hix R h⟩
end
end Tr

set_option Elab.async false
set_option linter.all false
set_option maxRecDepth 100000
set_option maxHeartbeats 4000000
namespace Tr
open PySem PySem.Spec L2

/-! ## the row of draws: made, drawn from -/
section
variable {X : Cx} {C : Cs} {W : WX} {pos : Pos}
/-- row = [script, 0, c, 0] -/
def sRow (i j : Nat) : SF := fun δ => (slotV δ[j]?).bind fun v => match v with
  | .ref a => (Wp.any fun (_ : Addr) => True).bind fun r => .pure (.nx (δ.set i (.t r (RowP r a))))
  | _ => .stuck
theorem Rep.setT {B : Bx} {Pb : Hp} {σ : St} {H G : Hp} {δ : De} {i : Nat} {a : Addr} {φ : Heap → Prop} (R : Rep B Pb σ H δ) (g : Grow H G) (na : H a = none) (ha : G a = some (.ext φ)) : Rep B Pb (σ.set i (some (.ref a))) G (δ.set i (.t a φ)) := by
  have R' := R.gr g
  have sub : ∀ b, Own B (σ.set i (some (.ref a))) (δ.set i (.t a φ)) b → Own B σ δ b := fun b z => by
    rcases z with z | ⟨j, es, e1, e2⟩
    · exact .inl z
    · rcases get_set_cases e1 with ⟨rfl, h1, h2⟩ | ⟨h1, h2⟩
      · cases h1
      · rw [List.getElem?_set_ne h1] at e2
        exact .inr ⟨j, es, h2, e2⟩
  have le : Le (hid (Own B σ δ) G) (hid (Own B (σ.set i (some (.ref a))) (δ.set i (.t a φ))) G) := hid_le (Le.refl G) sub
  have no : ¬ Own B (σ.set i (some (.ref a))) (δ.set i (.t a φ)) a := fun z => R.odom a (sub a z) na
  refine ⟨R'.ph.trans le, by rw [List.length_set, List.length_set]; exact R.len, R'.grow, R.dom, R'.tabs, fun j e h => ?_, fun j es h => ?_, fun j k es fs b h1 h2 h3 h4 => ?_, fun j x h => ?_, fun j b ψ h => ?_, R.scr⟩
  · rcases get_set_cases h with ⟨rfl, h1, h2⟩ | ⟨h1, h2⟩
    · cases h1
    · obtain ⟨u, q1, q2⟩ := R'.pers j e h2
      exact ⟨u, by rw [List.getElem?_set_ne h1]; exact q1, Le.dp le _ u q2⟩
  · rcases get_set_cases h with ⟨rfl, h1, h2⟩ | ⟨h1, h2⟩
    · cases h1
    · obtain ⟨b, ys, q1, q2, q3, q4⟩ := R'.own j es h2
      exact ⟨b, ys, by rw [List.getElem?_set_ne h1]; exact q1, q2, q3, Le.dps le _ ys q4⟩
  · rcases get_set_cases h1 with ⟨e1, z1, l1⟩ | ⟨n1, g1⟩
    · cases z1
    · rcases get_set_cases h2 with ⟨e2, z2, l2⟩ | ⟨n2, g2⟩
      · cases z2
      · rw [List.getElem?_set_ne n1] at h3
        rw [List.getElem?_set_ne n2] at h4
        exact R.uniq j k es fs b g1 g2 h3 h4
  · rcases get_set_cases h with ⟨_, z, _⟩ | ⟨n1, g1⟩
    · cases z
    · rw [List.getElem?_set_ne n1]
      exact R.val j x g1
  · rcases get_set_cases h with ⟨rfl, z, l1⟩ | ⟨n1, g1⟩
    · cases z
      refine ⟨List.getElem?_set_self (by rw [R.len]; exact l1), ?_⟩
      rw [hid_in no]
      exact ha
    · rw [List.getElem?_set_ne n1]
      exact ⟨(R'.trk j b ψ g1).1, le b _ (R'.trk j b ψ g1).2 fun ps z => by cases z⟩
theorem ds_row {i j : Nat} {x y : Str} {p1 p2 p3 p4 p5 p6 : Pos} {c : Int} {j1 j2 j3} (hc : 0 ≤ c ∧ c < 4294967296) (hN : X.N.Nodup) (hi : X.N[i]? = some x) (hx : Loc X.env.scope x) (hj : X.N[j]? = some y) (hv : Vis X.env.scope y)
    (hs : swapsWith (.List [.Name y p2, .Constant (.int 0) j1 p3, .Constant (.int c) j2 p4, .Constant (.int 0) j3 p5] p6) (some (.Name x p1)) pos.line X.env = pure false := by rfl)
    (hd : (y == ("__debug__" : Str)) = false := by decide) (hcd : (y == ("__classdict__" : Str)) = false := by decide)
    (hst : starEach [.Name y p2, .Constant (.int 0) j1 p3, .Constant (.int c) j2 p4, .Constant (.int 0) j3 p5] X.env = (false, eval (.Name y p2) X.env) :: starEach [.Constant (.int 0) j1 p3, .Constant (.int c) j2 p4, .Constant (.int 0) j3 p5] X.env := by rfl)
    (hf : X.fn x = true ∨ X.env.scope.names.lookup x = some .local := by first | exact .inl rfl | exact .inr rfl | assumption) :
    DS X C W (.Assign [.Name x p1] (.List [.Name y p2, .Constant (.int 0) j1 p3, .Constant (.int c) j2 p4, .Constant (.int 0) j3 p5] p6) pos) (sRow i j) := by
  refine ⟨_, ps_mkRow (ps_set hN hi hx (pe_lst (pa_cons (pe_var hj hv hd hcd) (pa_cons pe_int (pa_cons pe_int (pa_cons pe_int pa_nil))) hst)) hs hf), fun S0 H0 Pb σ H δ E R h => ?_⟩
  unfold sRow slotV at h
  split at h
  · rename_i v e
    have h0 := R.val j v e
    cases v with
    | ref a =>
      refine ⟨_, h0, by show 4 ≤ sizeLine; decide, fun p np => ?_⟩
      refine ⟨p, a, 0, c, 0, ⟨by omega, hc.1, hc.2⟩, upd_same, ?_⟩
      have h1 := h p trivial
      have e2 : upd (upd H p (.lst [.ref a, .int 0, .int c, .int 0])) p (.ext (RowP p a)) = upd H p (.ext (RowP p a)) := by
        funext b
        by_cases hb : b = p
        · rw [hb, upd_same, upd_same]
        · rw [upd_ne hb, upd_ne hb, upd_ne hb]
      show E.nx _ (upd (upd H p (.lst [.ref a, .int 0, .int c, .int 0])) p (.ext (RowP p a)))
      rw [e2]
      exact h1 _ _ (R.setT (Grow.new np) np upd_same)
    | _ => exact h.elim
  · exact h.elim
end
/-! ### a draw -/
abbrev tIxC (K : PySem.W.Frag) (k : Int) : TE := tOp (rIx K) (tVar 0) (tC (.int k))
abbrev rInt1 : List V → Hp → VK → Prop := fun xs H Q => (∃ i, xs = [V.int i] ∧ Q (V.int i) H) ∨ ∃ k, xs = [V.bl k] ∧ Q (V.int (if k = true then 1 else 0)) H
abbrev tI1 (e : TE) : TE := tCB rInt1 (tCons e tNil)
abbrev rMod1 : R2 := rI (fun _ j => 0 < j) fun i j => .int (i % j)
abbrev rFdv1 : R2 := rI CDivW fun i j => .int (i / j)
abbrev rMul1 : R2 := rI CMulW fun i j => .int (i * j)
abbrev rAdd1 : R2 := rI0 fun i j => .int (i + j)
abbrev tPut (k : Int) (e : TE) : TS := tAsg e (gSub (tVar 0) (tC (.int k)) rSetL)
def t_taken (K : PySem.W.Frag) : TS :=
  tSeq (tIfS (tTest (tOp (rI0 fun i j => .bl (decide (j < i))) (tIxC K 3) (tC (.int 0)))) (tSeq (tAsg (tOp rMod1 (tI1 (tIxC K 3)) (tVar 1)) (gName 2)) (tSeq (tPut 3 (tOp rFdv1 (tIxC K 3) (tVar 1))) (tRet (tVar 2)))) tNext)
  (tSeq (tPut 1 (tOp rAdd1 (tIxC K 1) (tC (.int 1))))
  (tSeq (tIfS (tTest (tOp (rI0 fun i j => .bl (decide (j < i))) (tIxC K 1) (tCB (fun xs H Q => ∃ x n, xs = [x] ∧ LenV K x H n ∧ Q (.int n) H) (tCons (tIxC K 0) tNil))))
    (tSeq (tPut 2 (tOp rMod1 (tI1 (tOp rAdd1 (tOp rMul1 (tIxC K 2) (tC (.int 48271))) (tC (.int 11)))) (tC (.int 2147483647)))) (tRet (tOp rMod1 (tI1 (tOp rFdv1 (tIxC K 2) (tC (.int 7)))) (tVar 1)))) tNext)
  (tSeq (tAsg (tOp (rIx K) (tIxC K 0) (tOp (rI0 fun i j => .int (i - j)) (tIxC K 1) (tC (.int 1)))) (gName 3))
  (tSeq (tPut 2 (tOp rMod1 (tI1 (tOp rAdd1 (tOp rAdd1 (tOp rMul1 (tIxC K 2) (tC (.int 48271))) (tVar 3)) (tC (.int 11)))) (tC (.int 2147483647))))
  (tSeq (tIfS (tTest (tOp (rI0 fun i j => .bl (decide (j ≤ i))) (tVar 3) (tOp (rI CPow fun i j => .int (i ^ j.toNat)) (tC (.int 10)) (tC (.int 18))))) (tPut 3 (tOp rFdv1 (tVar 3) (tVar 1))) tNext)
  (tRet (tOp rMod1 (tI1 (tVar 3)) (tVar 1))))))))
section
variable {K : PySem.W.Frag} {r a : Addr} {ns : List Int} {m : Int} {σ : St} {G : Hp} {Q : VK} {D : Ends} {i j k : Int}
theorem ixc {k : Int} {v : V} {xs : List V} (h0 : σ[0]? = some (some (.ref r))) (hg : G r = some (.lst xs)) (e : atI xs k = some v) (q : Q v G) : tIxC K k σ G Q := ⟨_, h0, .inl ⟨r, xs, k, v, rfl, rfl, SqL.of hg, e, q⟩⟩
theorem put {k : Int} {n : Nat} {v : V} {xs : List V} (h0 : σ[0]? = some (some (.ref r))) (hg : G r = some (.lst xs)) (e : ixN xs.length k = some n) (q : D.nx σ (upd G r (.lst (xs.set n v)))) : gSub (tVar 0) (tC (.int k)) rSetL v σ G D.nx := ⟨_, h0, r, xs, k, n, rfl, rfl, hg, e, q⟩
theorem cMulRow {j : Int} (h0 : 0 ≤ j) (h1 : j < 4294967296) : CMulW j 48271 := by
  have h2 : j.natAbs.log2 < 32 := by
    rcases Nat.eq_zero_or_pos j.natAbs with z | z
    · rw [z]; decide
    · exact (Nat.log2_lt (by omega)).mpr (by show j.natAbs < 2 ^ 32; omega)
  have h3 : (48271 : Int).natAbs.log2 = 15 := by decide +kernel
  show j.natAbs.log2 + (48271 : Int).natAbs.log2 < 1000000
  rw [h3]
  omega
theorem cDiv30 {i m : Int} (h0 : 0 < m) (h1 : m < 1073741824) : CDivW i m := by
  refine ⟨h0, ?_⟩
  have : m.natAbs.log2 < 30 := (Nat.log2_lt (by omega)).mpr (by show m.natAbs < 2 ^ 30; omega)
  omega
def RowAt (G : Hp) (r a : Addr) : Prop := ∃ i j k, RowI i j ∧ G r = some (rowL a i j k)
theorem iftt {c : Prop} [Decidable c] {A B : Prop} (h1 : c → A) (h2 : ¬ c → B) : if decide c = true then A else B := by
  by_cases h : c
  · rw [if_pos (decide_eq_true h)]
    exact h1 h
  · rw [if_neg (by simpa using h)]
    exact h2 h
theorem taken_runs (hm : 0 < m ∧ m < 1073741824) (hi : RowI i j) (hG : G r = some (rowL a i j k)) (hS : ∀ G', (∀ b, b ≠ r → G' b = G b) → SqL K G' a (ns.map V.int))
    (hD : ∀ n G', 0 ≤ n → n < m → (∀ b, b ≠ r → G' b = G b) → RowAt G' r a → D.rt (.int n) G') : t_taken K D [some (.ref r), some (.int m), none, none] G := by
  have md : ∀ x : Int, 0 ≤ x % m ∧ x % m < m := fun x => ⟨Int.emod_nonneg _ (by omega), Int.emod_lt_of_pos _ hm.1⟩
  have m2 : ∀ x : Int, 0 ≤ x % 2147483647 ∧ x % 2147483647 < 4294967296 := fun x => ⟨Int.emod_nonneg _ (by decide), by have := Int.emod_lt_of_pos x (show (0 : Int) < 2147483647 by decide); omega⟩
  have hdv : ∀ x, CDivW x m := fun x => cDiv30 hm.1 hm.2
  have h7 : ∀ x, CDivW x 7 := fun x => cDiv30 (by decide) (by decide)
  have hp : CPow 10 18 := ⟨by decide, by decide, by decide +kernel⟩
  have hmul := cMulRow hi.2.1 hi.2.2
  have ne : ∀ {G' : Hp} {u : HO}, (∀ b, b ≠ r → G' b = G b) → ∀ b, b ≠ r → upd G' r u b = G b := fun h b hb => by rw [upd_ne hb]; exact h b hb
  refine ixc rfl hG rfl ⟨_, _, rfl, rfl, _, rfl, iftt (fun c => ?_) fun c => ?_⟩
  · refine ixc rfl hG rfl (.inl ⟨_, rfl, _, rfl, _, _, rfl, rfl, hm.1, ?_⟩)
    refine ixc rfl hG rfl ⟨_, rfl, _, _, rfl, rfl, hdv _, ?_⟩
    refine ⟨_, rfl, r, _, 3, 3, rfl, rfl, hG, rfl, ?_⟩
    exact ⟨_, rfl, hD _ _ (md k).1 (md k).2 (fun b hb => upd_ne hb) ⟨i, j, k / m, hi, upd_same⟩⟩
  · refine ixc rfl hG rfl ⟨_, _, rfl, rfl, ?_⟩
    refine ⟨_, rfl, r, _, 1, 1, rfl, rfl, hG, rfl, ?_⟩
    have n1 : ∀ b, b ≠ r → upd G r (rowL a (i + 1) j k) b = G b := fun b hb => upd_ne hb
    have g1 : upd G r (rowL a (i + 1) j k) r = some (rowL a (i + 1) j k) := upd_same
    have i1 : RowI (i + 1) j := ⟨by have := hi.1; omega, hi.2⟩
    revert n1 g1
    show (∀ b, b ≠ r → upd G r (.lst [.ref a, .int (i + 1), .int j, .int k]) b = G b) → upd G r (.lst [.ref a, .int (i + 1), .int j, .int k]) r = some (rowL a (i + 1) j k) → _
    show _ → _ → tSeq _ _ D _ (upd G r (.lst [.ref a, .int (i + 1), .int j, .int k]))
    generalize upd G r (.lst [.ref a, .int (i + 1), .int j, .int k]) = G1
    intro n1 g1
    refine ixc rfl g1 rfl (ixc rfl g1 rfl ⟨_, ns.length, rfl, ?_, _, _, rfl, rfl, _, rfl, iftt (fun c2 => ?_) fun c2 => ?_⟩)
    · exact .inl ⟨_, hS G1 n1, by rw [List.length_map]⟩
    · refine ixc rfl g1 rfl ⟨_, _, rfl, rfl, hmul, _, _, rfl, rfl, .inl ⟨_, rfl, _, _, rfl, rfl, (by show (0 : Int) < 2147483647; decide), ?_⟩⟩
      refine ⟨_, rfl, r, _, 2, 2, rfl, rfl, g1, rfl, ?_⟩
      refine ixc (xs := [.ref a, .int (i + 1), .int ((j * 48271 + 11) % 2147483647), .int k]) rfl upd_same rfl ⟨_, _, rfl, rfl, h7 _, .inl ⟨_, rfl, _, rfl, _, _, rfl, rfl, hm.1, ?_⟩⟩
      exact hD _ _ (md _).1 (md _).2 (ne n1) ⟨i + 1, _, k, ⟨i1.1, m2 _⟩, upd_same⟩
    · have c3 : i + 1 ≤ (ns.length : Int) := by omega
      obtain ⟨n, rfl⟩ : ∃ n : Nat, i = n := ⟨i.toNat, by have := hi.1; omega⟩
      have hn : n < ns.length := by omega
      have e1 : atI (ns.map V.int) ((n : Int) + 1 - 1) = some (.int ns[n]) := by
        have e0 : (n : Int) + 1 - 1 = n := by omega
        rw [e0]
        unfold atI ixN
        rw [if_pos (by omega), if_pos (by rw [List.length_map]; omega)]
        simp [hn]
      refine ixc rfl g1 rfl (ixc rfl g1 rfl ⟨_, _, rfl, rfl, .inl ⟨a, ns.map V.int, _, _, rfl, rfl, hS G1 n1, e1, ?_⟩⟩)
      refine ixc rfl g1 rfl ⟨_, _, rfl, rfl, hmul, _, rfl, _, _, rfl, rfl, _, _, rfl, rfl, .inl ⟨_, rfl, _, _, rfl, rfl, (by show (0 : Int) < 2147483647; decide), ?_⟩⟩
      refine ⟨_, rfl, r, _, 2, 2, rfl, rfl, g1, rfl, ?_⟩
      refine ⟨_, rfl, _, _, rfl, rfl, hp, _, _, rfl, rfl, _, rfl, iftt (fun c4 => ?_) fun c4 => ?_⟩
      · refine ⟨_, rfl, _, rfl, _, _, rfl, rfl, hdv _, ?_⟩
        refine ⟨_, rfl, r, [.ref a, .int (n + 1), .int ((j * 48271 + ns[n] + 11) % 2147483647), .int k], 3, 3, rfl, rfl, upd_same, rfl, ?_⟩
        refine ⟨_, rfl, .inl ⟨_, rfl, _, rfl, _, _, rfl, rfl, hm.1, ?_⟩⟩
        exact hD _ _ (md _).1 (md _).2 (ne (ne n1)) ⟨n + 1, _, _, ⟨i1.1, m2 _⟩, upd_same⟩
      · refine ⟨_, rfl, .inl ⟨_, rfl, _, rfl, _, _, rfl, rfl, hm.1, ?_⟩⟩
        exact hD _ _ (md _).1 (md _).2 (ne n1) ⟨n + 1, _, k, ⟨i1.1, m2 _⟩, upd_same⟩
end
/-- a def that draws -/
theorem taken_ok {P : Program} {w : World} {C : Cs} {base : Heap} {x qual : Str} {params : Arguments} {body : List Stmt} {scope : Scope} {fa : Addr} {fd : FuncData} {x1 x2 x3 x4 : Str} {k : Nat}
    (F : FunD C.K x qual params body scope [] [] fa fd) (S : FnScope [x1, x2, x3, x4] [x1, x2] scope) (hb : ∀ (cdv : Value) (A : Around) (outer : List Env) (s : Shared) (H : Hp) (E : XK), PSs (cxOf (L2.CX P w) P w C.K C.mg base [x1, x2, x3, x4] qual scope fa cdv A outer s H E) body (t_taken C.K)) :
    FnOk P w C.K C.mg base (L2.CX P w) (k + 1) fa fd [x1, x2] (spD C 2 (fTaken C)) := by
  refine F.ok S spD_len fun cdv A outer s H vs Q E hr ⟨Sx, as, hn, dom, tabs, scr, ok, hw⟩ => ⟨tRow (t_taken C.K), pss_row (hb cdv A outer s H E), ?_⟩
  unfold fTaken at hw
  split at hw
  · rename_i r φ m
    obtain ⟨⟨⟨q, hq, rfl, hl⟩, h1, h2⟩, hk⟩ := hw
    match vs, ok with
    | [v, u], ⟨d1, d2, _⟩ =>
      obtain ⟨rfl, hr1⟩ := d1
      have d2 : Dp C.K (hid Sx H) u (.int m) := d2
      cases d2
      have hH := (of_hid hr1).2
      refine ⟨r, q.1, hH, fun i j k hi => ?_⟩
      refine taken_runs (ns := q.2) (i := i) (j := j) (k := k) ⟨h1, h2⟩ hi upd_same (fun G' hG' => ?_) fun n G' n0 nm hG' hR => ?_
      · rcases scr q hq with z | z
        · refine .inl ?_
          rcases z with z | ⟨o, z⟩
          · exact .inl (by rw [hG' _ (ne_of z hH fun y => by cases y), upd_ne (ne_of z hH fun y => by cases y)]; exact z)
          · exact .inr ⟨o, by rw [hG' _ (ne_of z hH fun y => by cases y), upd_ne (ne_of z hH fun y => by cases y)]; exact z⟩
        · exact .inr z
      · obtain ⟨i', j', k', hi', hG⟩ := hR
        have e : upd G' r (.ext (RowP r q.1)) = H := by
          funext b
          by_cases hb : b = r
          · rw [hb, upd_same, hH]
          · rw [upd_ne hb, hG' b hb, upd_ne hb]
        refine ⟨i', j', k', hi', hG, ?_⟩
        rw [e]
        exact hk (.int n) ⟨n, rfl, n0, nm⟩ (.int n) H (Grow.refl H) (.int n)
    | [], ok => exact ok.elim
    | [_], ok => exact ok.2.elim
    | _ :: _ :: _ :: _, ok => exact ok.2.2.elim
  · exact hw.elim
end Tr

set_option Elab.async false
set_option linter.all false
set_option maxRecDepth 100000
set_option maxHeartbeats 4000000
namespace Tr
open PySem PySem.Spec L2

/-! ## defs by names -/
/-- the def x: n parameters, k rooms, its meaning F -/
structure Dn (P : Program) (w : World) (C : Cs) (base : Heap) (x : Str) (n k : Nat) (F : List Ar → Wp D) : Prop where
  ex : ∃ (fa : Addr) (fd : FuncData) (ps : List Str), C.mg x = some (.ref fa) ∧ PySem.W.keepIn C.K (.ref fa) = true ∧ Binds C.K fd ps [] ∧ FnOk P w C.K C.mg base (L2.CX P w) k fa fd ps (spD C n F)
section
variable {X : Cx} {C : Cs} {W : WX} {pos p : Pos} {e : Expr} {es : List Expr} {r : AF} {x : Str} {k k' n : Nat} {F : List Ar → Wp D}
theorem de_callN (hK : C.K = X.K) (hmg : C.mg = X.mg) (tk : Takes X W) (G : Dn X.prog X.w C X.base x n k F) (hr : Room k' X.A) (hk : k ≤ k') (hg : Gl X x) (ha : DA X C W (e :: es) r)
    (hdb : (x == ("__debug__" : Str)) = false := by decide) (he : starEach (e :: es) X.env = (false, eval e X.env) :: starEach es X.env := by rfl) (hpl : (backTo pos (starEach es X.env)).any (·.1) = false := by rfl) :
    DE X C W (.Call (.Name x p) (e :: es) [] pos) (dCall n F r) := by
  obtain ⟨fa, fd, ps, h1, h2, h3, h4⟩ := G.ex
  rw [hK, hmg] at h4
  rw [hK] at h2 h3
  rw [hmg] at h1
  exact de_call hK tk h4 (hr.mono hk) hg h1 h2 h3 ha hdb he hpl
variable {a b : Expr} {f g : DF}
theorem dt_lt (ha : DE X C W a f) (hb : DE X C W b g) : DT X C W (.Compare a [.Lt] [b] pos) (tBv (d2 dLt f g)) := dt_cmp op_lt (o2_0 fun _ _ _ => .bl _) (nomark _) ha hb
theorem dt_le (ha : DE X C W a f) (hb : DE X C W b g) : DT X C W (.Compare a [.LtE] [b] pos) (tBv (d2 dLe f g)) := dt_cmp op_le (o2_0 fun _ _ _ => .bl _) (nomark _) ha hb
theorem dt_gt (ha : DE X C W a f) (hb : DE X C W b g) : DT X C W (.Compare a [.Gt] [b] pos) (tBv (d2 dGt f g)) := dt_cmp op_gt (o2_0 fun _ _ _ => .bl _) (nomark _) ha hb
theorem dt_ge (ha : DE X C W a f) (hb : DE X C W b g) : DT X C W (.Compare a [.GtE] [b] pos) (tBv (d2 dGe f g)) := dt_cmp op_ge (o2_0 fun _ _ _ => .bl _) (nomark _) ha hb
theorem dt_eq (hK : C.K = X.K) (hr : Room k X.A) (ha : DE X C W a f) (hb : DE X C W b g) : DT X C W (.Compare a [.Eq] [b] pos) (tBv (d2 dEq f g)) := dt_cmp (op_eqD hr.units) (by rw [← hK]; exact o2_eq) (nomark _) ha hb
theorem dt_ne (hK : C.K = X.K) (hr : Room k X.A) (ha : DE X C W a f) (hb : DE X C W b g) : DT X C W (.Compare a [.NotEq] [b] pos) (tBv (d2 dNe f g)) := dt_cmp (op_neD hr.units) (by rw [← hK]; exact o2_ne) (nomark _) ha hb
theorem dt_in (hK : C.K = X.K) (hr : Room k X.A) (hm : behindInMarks .In b = false) (ha : DE X C W a f) (hb : DE X C W b g) : DT X C W (.Compare a [.In] [b] pos) (tBv (d2 dIn f g)) := dt_cmp (op_inD (room65 hr)) (by rw [← hK]; exact o2_in) hm ha hb
theorem dt_notIn (hK : C.K = X.K) (hr : Room k X.A) (hm : behindInMarks .NotIn b = false) (ha : DE X C W a f) (hb : DE X C W b g) : DT X C W (.Compare a [.NotIn] [b] pos) (tBv (d2 dNotIn f g)) := dt_cmp (op_notInD (room65 hr)) (by rw [← hK]; exact o2_notIn) hm ha hb
end
section
variable {P : Program} {w : World} {C : Cs} {base : Heap} {x qual : Str} {params : Arguments} {body : List Stmt} {scope : Scope} {fa : Addr} {fd : FuncData} {N ps : List Str} {k : Nat} {bd : SF}
/-- the context of a def's body -/
abbrev cxN (P : Program) (w : World) (C : Cs) (base : Heap) (N : List Str) (qual : Str) (scope : Scope) (fa : Addr) (cdv : Value) (A : Around) (outer : List Env) (s : Shared) (H : Hp) (E : XK) : Cx := cxOf (L2.CX P w) P w C.K C.mg base N qual scope fa cdv A outer s H E
abbrev wxN (E : XK) : WX := fun cls d _ H' => E cls d H'
theorem takesN {cdv : Value} {A : Around} {outer : List Env} {s : Shared} {H : Hp} {E : XK} : Takes (cxN P w C base N qual scope fa cdv A outer s H E) (wxN E) := takes_of rfl rfl rfl rfl
theorem ownsN {cdv : Value} {A : Around} {outer : List Env} {s : Shared} {H : Hp} {E : XK} : PassesOwn (model P w) (cxN P w C base N qual scope fa cdv A outer s H E).A (cxN P w C base N qual scope fa cdv A outer s H E).env (cxN P w C base N qual scope fa cdv A outer s H E).xe :=
  passes_of (X := cxN P w C base N qual scope fa cdv A outer s H E) rfl
theorem takes0 {X : Cx} : Takes X W0 := LamX.takes0
/-- the def x of the text: from its body's rules -/
theorem Dn.mk' (F : FunD C.K x qual params body scope [] [] (He.ga C.K x) fd) (S : FnScope N ps scope) (hg : C.mg x = some (.ref (He.ga C.K x))) (hn : ps.length = n)
    (hbi : ∀ (kV doc pm : Value) (an : Option Addr) (cdv ct : Value) (us : List Value), us.length = ps.length → bindArgs (PySem.W.fnOf x qual params body scope .none kV doc pm an cdv ct) ⟨us, []⟩ = pure (ps.zip us))
    (hb : ∀ (A : Around) (outer : List Env) (s : Shared) (H : Hp) (E : XK), Room k (A.deeper (PyProof.Rows.envOfC qual scope s.heap.objs.size (He.ga C.K x) (.ref (He.codeOf C.K (x, none))))) →
      DSs (cxN P w C base N qual scope (He.ga C.K x) (.ref (He.codeOf C.K (x, none))) A outer s H E) C (wxN E) body bd) :
    Dn P w C base x n (k + 1) (dRun N.length bd) := by
  refine ⟨_, fd, ps, hg, F.kp, F.bindsN hbi, ?_⟩
  subst hn
  obtain ⟨oc, od, dV, kV, doc, pm, an, cdv, ct, osl, rfl, lk, hcd, _, _⟩ := F.ex
  obtain ⟨c, hc⟩ := He.codeIn_ref hcd
  have ec : He.codeOf C.K (x, none) = c := He.codeOf_eq (p := (x, none)) lk hc
  subst hc
  rw [ec] at hb
  refine fn_of lk hcd S spD_len fun A outer s H vs Q E hr ⟨Sx, as, hn, dom, tabs, scr, ok, hw⟩ => ?_
  obtain ⟨t, p, q⟩ := hb A outer s H E hr
  refine ⟨t, p, q Sx H (hid Sx H) (L2.start N vs) H (dStart N.length as) _ (start_rep dom tabs scr ok) ((bd (dStart N.length as)).mono (fun o ho => ?_) (fun y hy cls dc σ G g ex => hy cls dc G g ex) hw)⟩
  cases o with
  | nx δ' => exact fun σ' H' R' => ho .non H' R'.grow .non
  | rt d => exact ho
  | bk δ' => exact ho.elim
  | ct δ' => exact ho.elim
/-- a def that draws -/
theorem Dn.taken {x1 x2 x3 x4 : Str} (F : FunD C.K x qual params body scope [] [] (He.ga C.K x) fd) (S : FnScope [x1, x2, x3, x4] [x1, x2] scope) (hg : C.mg x = some (.ref (He.ga C.K x)))
    (hbi : ∀ (kV doc pm : Value) (an : Option Addr) (cdv ct : Value) (us : List Value), us.length = 2 → bindArgs (PySem.W.fnOf x qual params body scope .none kV doc pm an cdv ct) ⟨us, []⟩ = pure ([x1, x2].zip us))
    (hb : ∀ (cdv : Value) (A : Around) (outer : List Env) (s : Shared) (H : Hp) (E : XK), PSs (cxN P w C base [x1, x2, x3, x4] qual scope (He.ga C.K x) cdv A outer s H E) body (t_taken C.K)) :
    Dn P w C base x 2 (k + 1) (fTaken C) := ⟨_, fd, [x1, x2], hg, F.kp, F.bindsN (ps := [x1, x2]) hbi, taken_ok F S hb⟩
end
/-! ### the minus ahead of an int -/
def dNeg : D → Wp D
  | .int i => .pure (.int (-i))
  | _ => .stuck
section
variable {X : Cx} {C : Cs} {W : WX} {pos : Pos} {a : Expr} {f : DF}
theorem de_neg (ha : DE X C W a f) : DE X C W (.UnaryOp .USub a pos) (d1 dNeg f) := by
  obtain ⟨t, pt, q⟩ := ha
  refine ⟨_, pe_un un_neg pt, fun S0 H0 Pb σ H δ Q R h => q S0 H0 Pb σ H δ _ R ((f δ).mono (fun d h v G g dp => ?_) (fun _ z => z) h)⟩
  cases dp with
  | int i => exact ⟨i, rfl, h _ G g (.int _)⟩
  | _ => exact h.elim
/-- a module's int -/
theorem de_globI {x : Str} {i : Int} (hg : Gl X x) (hm : ∃ t, X.mg x = some (.int i t)) (hd : (x == ("__debug__" : Str)) = false := by decide) : DE X C W (.Name x pos) (dC (.int i)) := by
  obtain ⟨t, hm⟩ := hm
  exact de_glob (v := .int i) hg hm ⟨t, rfl⟩ (fun _ => .int i) hd
end
end Tr

set_option Elab.async false
set_option linter.all false
set_option maxRecDepth 100000
set_option maxHeartbeats 4000000
namespace Tr
open PySem PySem.Spec L2

/-! ## two stores at once, new lists among them -/
section
variable {X : Cx} {C : Cs} {W : WX} {pos : Pos} {i j : Nat} {x y : Str} {a b : Expr} {px py pt : Pos} {kt k2 pt2} {f : DF} {fl fl2 : De → Wp (List D)}
def sParDO (i j : Nat) (f : DF) (fl : De → Wp (List D)) : SF := fun δ => (f δ).bind fun d => (fl δ).bind fun ds => .pure (.nx ((δ.set j (.o ds)).set i (.p d)))
def sParOD (i j : Nat) (fl : De → Wp (List D)) (f : DF) : SF := fun δ => (fl δ).bind fun ds => (f (dWipe δ [])).nox.bind fun d => .pure (.nx ((δ.set i (.o ds)).set j (.p d)))
def sParOO (i j : Nat) (fl fl2 : De → Wp (List D)) : SF := fun δ => (fl δ).bind fun ds => (fl2 (dWipe δ [])).nox.bind fun es => .pure (.nx ((δ.set i (.o ds)).set j (.o es)))
theorem ds_parDO (hc : X.calm = true) (hN : X.N.Nodup) (hi : X.N[i]? = some x) (hj : X.N[j]? = some y) (hij : i ≠ j)
    (hx : X.env.scope.names.lookup x = some .local) (hy : X.env.scope.names.lookup y = some .local) (ha : DE X C W a f) (hb : DN X C W b fl) (hw : swappedStores [.Tuple [.Name x px, .Name y py] kt pt] (.Tuple [a, b] k2 pt2) X.env = pure (some [x, y]))
    (hs : swapsWithSole [.Tuple [.Name x px, .Name y py] kt pt] (.Tuple [a, b] k2 pt2) pos.line X.env = pure false := by rfl)
    (h1 : starEach [a, b] X.env = (false, eval a X.env) :: starEach [b] X.env := by rfl) (h2 : starEach [b] X.env = (false, eval b X.env) :: starEach [] X.env := by rfl) :
    DS X C W (.Assign [.Tuple [.Name x px, .Name y py] kt pt] (.Tuple [a, b] k2 pt2) pos) (sParDO i j f fl) := by
  obtain ⟨t, p, q⟩ := ha
  obtain ⟨u, p2, q2⟩ := hb
  refine ⟨_, ps_par hc hN hi hj hij hx hy (pa_cons p (pa_cons p2 pa_nil h2) h1) hw hs, fun S0 H0 Pb σ H δ E R h => q S0 H0 Pb σ H δ _ R ((f δ).mono (fun d h v G g dp => ?_) (fun _ z => z.ew R) h)⟩
  have R1 := R.gr g
  refine q2 S0 H0 Pb σ G δ _ R1 ((fl δ).mono (fun ds h l xs G2 g2 na hl dps => ?_) (fun _ z => z.ew R1) h)
  refine ⟨_, _, rfl, ?_⟩
  have le := (R1.top.setO (i := j) g2 na hl dps).ph
  have R2 := R1.setO (i := j) g2 na hl dps
  rw [List.set_comm _ _ hij]
  exact h _ G2 (R2.setP (i := i) (Le.dp le d v dp))
theorem ds_parOD (hc : X.calm = true) (hN : X.N.Nodup) (hi : X.N[i]? = some x) (hj : X.N[j]? = some y) (hij : i ≠ j)
    (hx : X.env.scope.names.lookup x = some .local) (hy : X.env.scope.names.lookup y = some .local) (ha : DN X C W a fl) (hb : DE X C W b f) (hw : swappedStores [.Tuple [.Name x px, .Name y py] kt pt] (.Tuple [a, b] k2 pt2) X.env = pure (some [x, y]))
    (hs : swapsWithSole [.Tuple [.Name x px, .Name y py] kt pt] (.Tuple [a, b] k2 pt2) pos.line X.env = pure false := by rfl)
    (h1 : starEach [a, b] X.env = (false, eval a X.env) :: starEach [b] X.env := by rfl) (h2 : starEach [b] X.env = (false, eval b X.env) :: starEach [] X.env := by rfl) :
    DS X C W (.Assign [.Tuple [.Name x px, .Name y py] kt pt] (.Tuple [a, b] k2 pt2) pos) (sParOD i j fl f) := by
  obtain ⟨t, p, q⟩ := ha
  obtain ⟨u, p2, q2⟩ := hb
  refine ⟨_, ps_par hc hN hi hj hij hx hy (pa_cons p (pa_cons p2 pa_nil h2) h1) hw hs, fun S0 H0 Pb σ H δ E R h => q S0 H0 Pb σ H δ _ R ((fl δ).mono (fun ds h l xs G g na hl dps => ?_) (fun _ z => z.ew R) h)⟩
  have RB := R.blk [] g na hl
  have h : (f (dWipe δ [])).run _ (fun _ => False) := h
  refine q2 _ _ _ σ G (dWipe δ []) _ RB ((f (dWipe δ [])).mono (fun d h v G2 g2 dp => ?_) (fun _ z => z.elim) h)
  refine ⟨_, _, rfl, ?_⟩
  have R2 := (R.setO (i := i) g na hl dps).gr g2
  refine h _ G2 (R2.setP (i := j) (Le.dp (hid_le (Le.refl G2) fun c z => ?_) d v dp))
  rcases z with z | ⟨m, es, e1, e2⟩
  · exact .inl (.inl (.inl z))
  · rcases get_set_cases e1 with ⟨e3, e4, e5⟩ | ⟨e3, e4⟩
    · subst e3
      rw [List.getElem?_set_self (by rw [R.len]; exact e5)] at e2
      cases e2
      exact .inl (.inr rfl)
    · rw [List.getElem?_set_ne e3] at e2
      exact .inl (.inl (.inr ⟨m, es, e4, e2⟩))
theorem ds_parOO (hc : X.calm = true) (hN : X.N.Nodup) (hi : X.N[i]? = some x) (hj : X.N[j]? = some y) (hij : i ≠ j)
    (hx : X.env.scope.names.lookup x = some .local) (hy : X.env.scope.names.lookup y = some .local) (ha : DN X C W a fl) (hb : DN X C W b fl2) (hw : swappedStores [.Tuple [.Name x px, .Name y py] kt pt] (.Tuple [a, b] k2 pt2) X.env = pure (some [x, y]))
    (hs : swapsWithSole [.Tuple [.Name x px, .Name y py] kt pt] (.Tuple [a, b] k2 pt2) pos.line X.env = pure false := by rfl)
    (h1 : starEach [a, b] X.env = (false, eval a X.env) :: starEach [b] X.env := by rfl) (h2 : starEach [b] X.env = (false, eval b X.env) :: starEach [] X.env := by rfl) :
    DS X C W (.Assign [.Tuple [.Name x px, .Name y py] kt pt] (.Tuple [a, b] k2 pt2) pos) (sParOO i j fl fl2) := by
  obtain ⟨t, p, q⟩ := ha
  obtain ⟨u, p2, q2⟩ := hb
  refine ⟨_, ps_par hc hN hi hj hij hx hy (pa_cons p (pa_cons p2 pa_nil h2) h1) hw hs, fun S0 H0 Pb σ H δ E R h => q S0 H0 Pb σ H δ _ R ((fl δ).mono (fun ds h l xs G g na hl dps => ?_) (fun _ z => z.ew R) h)⟩
  have RB := R.blk [] g na hl
  have h : (fl2 (dWipe δ [])).run _ (fun _ => False) := h
  refine q2 _ _ _ σ G (dWipe δ []) _ RB ((fl2 (dWipe δ [])).mono (fun es h l2 ys G2 g2 na2 hl2 dps2 => ?_) (fun _ z => z.elim) h)
  refine ⟨_, _, rfl, ?_⟩
  have R1 := R.setO (i := i) g na hl dps
  refine h _ G2 (R1.setO (i := j) g2 na2 hl2 (Le.dps (hid_le (Le.refl G2) fun c z => ?_) es ys dps2))
  rcases z with z | z
  · rcases z with z | ⟨m, es, e1, e2⟩
    · exact .inl (.inl (.inl (.inl z)))
    · rcases get_set_cases e1 with ⟨e3, e4, e5⟩ | ⟨e3, e4⟩
      · subst e3
        rw [List.getElem?_set_self (by rw [R.len]; exact e5)] at e2
        cases e2
        exact .inl (.inl (.inr rfl))
      · rw [List.getElem?_set_ne e3] at e2
        exact .inl (.inl (.inl (.inr ⟨m, es, e4, e2⟩)))
  · exact .inr z
end
section
variable {X : Cx} {C : Cs} {W : WX} {pos : Pos} {a b : Expr} {f g : DF}
theorem dt_is (ha : DE X C W a f) (hb : DE X C W b g) : DT X C W (.Compare a [.Is] [b] pos) (tBv (d2 dIs f g)) := by
  refine dt_cmp op_isN (fun x y H d e Q S0 H0 Pb σ δ w R dx dy h => ?_) (nomark _) ha hb
  unfold dIs at h
  split at h
  · cases dy
    refine ⟨rfl, ?_⟩
    rw [isNoneD_v dx]
    exact h _ H (Grow.refl H) (.bl _)
  · exact h.elim
theorem dt_isNot (ha : DE X C W a f) (hb : DE X C W b g) : DT X C W (.Compare a [.IsNot] [b] pos) (tBv (d2 dIsNot f g)) := by
  refine dt_cmp op_notN (fun x y H d e Q S0 H0 Pb σ δ w R dx dy h => ?_) (nomark _) ha hb
  unfold dIsNot at h
  split at h
  · cases dy
    refine ⟨rfl, ?_⟩
    rw [isNoneD_v dx]
    exact h _ H (Grow.refl H) (.bl _)
  · exact h.elim
end
end Tr

set_option Elab.async false
set_option linter.all false
set_option maxRecDepth 100000
set_option maxHeartbeats 4000000
namespace Tr
open PySem PySem.Spec L2

/-! ## the law at the end -/
section
variable {P : Program} {w : World} {C : Cs} {base : Heap} {x qual : Str} {params : Arguments} {body : List Stmt} {scope : Scope} {fd : FuncData} {N ps : List Str} {k n : Nat} {bd : SF}
theorem fnL (F : FunD C.K x qual params body scope [] [] (He.ga C.K x) fd) (S : FnScope N ps scope) (hn : ps.length = n)
    (hb : ∀ (A : Around) (outer : List Env) (s : Shared) (H : Hp) (E : XK), Room k (A.deeper (PyProof.Rows.envOfC qual scope s.heap.objs.size (He.ga C.K x) (.ref (He.codeOf C.K (x, none))))) →
      DSs (cxN P w C base N qual scope (He.ga C.K x) (.ref (He.codeOf C.K (x, none))) A outer s H E) C (wxN E) body bd) :
    FnOk P w C.K C.mg base (L2.CX P w) (k + 1) (He.ga C.K x) fd ps (spD C n (dRun N.length bd)) := by
  subst hn
  obtain ⟨oc, od, dV, kV, doc, pm, an, cdv, ct, osl, rfl, lk, hcd, _, _⟩ := F.ex
  obtain ⟨c, hc⟩ := He.codeIn_ref hcd
  have ec : He.codeOf C.K (x, none) = c := He.codeOf_eq (p := (x, none)) lk hc
  subst hc
  rw [ec] at hb
  refine fn_of lk hcd S spD_len fun A outer s H vs Q E hr ⟨Sx, as, hn, dom, tabs, scr, ok, hw⟩ => ?_
  obtain ⟨t, p, q⟩ := hb A outer s H E hr
  refine ⟨t, p, q Sx H (hid Sx H) (L2.start N vs) H (dStart N.length as) _ (start_rep dom tabs scr ok) ((bd (dStart N.length as)).mono (fun o ho => ?_) (fun y hy cls dc σ G g ex => hy cls dc G g ex) hw)⟩
  cases o with
  | nx δ' => exact fun σ' H' R' => ho .non H' R'.grow .non
  | rt d => exact ho
  | bk δ' => exact ho.elim
  | ct δ' => exact ho.elim
end
/-- what is fixed for a law at the script at a -/
def mkC (K : PySem.W.Frag) (mg : Str → Option Value) (cs : List (Addr × Addr)) (a : Addr) (ns : List Int) : Cs := ⟨K, mg, cs.map (·.2), [(a, ns)]⟩
theorem lawAt {l : PySem.W.OpenLaw} {w : World} {K : PySem.W.Frag} {mg : Str → Option Value} {fa : Addr} {h : Heap} {k : Nat} {F : Cs → List Ar → Wp D} {cs : List (Addr × Addr)} {x : Str} {fd : FuncData}
    (hT : ∀ p ∈ cs, h.get? p.2 = some { cls := .none, data := .fields #[] }) (nT : ∀ p ∈ cs, K.lookup p.2 = none) (hC : ∀ p ∈ cs, PySem.W.CodeHd h p.1 p.2) (hb : ∀ (s : Shared) (u : Value), BindsTo s fd ⟨[u], []⟩ [(x, u)])
    (hF : ∀ base : Heap, K.In base → base.Ns mainGlobals mg → (∀ p ∈ cs, LamX.TabB base mg p.1 p.2) → ∀ a ns, FnOk l.prog w K mg base (L2.CX l.prog w) k fa fd [x] (spD (mkC K mg cs a ns) 1 (F (mkC K mg cs a ns))))
    (hl : ∀ (C : Cs) (a : Addr) (ns : List Int), (a, ns) ∈ C.Z → ns.length ≤ 63 → (∀ z ∈ ns, Builtin.Int.intBits z ≤ 1048576) → (F C [.v (.ref a)]).run (fun d => d = .bool true) (fun _ => False)) :
    LamX.LawAtS l w K (L2.CX l.prog w) k 63 x mg fa h := by
  refine ⟨fd, cs, fun vs H Q E => ∃ a ns, vs = [.ref a] ∧ spD (mkC K mg cs a ns) 1 (F (mkC K mg cs a ns)) vs H Q E, hT, nT, hC, hb, fun H a ns h1 h2 h3 h4 => ⟨a, ns, rfl, fun _ => False, [.v (.ref a)], rfl, fun b z => z.elim, fun P hP => ?_, fun q hq => ?_, ⟨rfl, trivial⟩, ?_⟩, fun base kb ns tb => ⟨fun vs H Q E ⟨a, ns, e, _⟩ => by rw [e]; rfl, fun A outer s H args us vs Q E hr e0 hbt hv ⟨a, ns, _, hs⟩ => ?_⟩⟩
  · obtain ⟨p, hp, rfl⟩ := List.mem_map.mp hP
    exact ⟨#[], h3 p hp, trivial⟩
  · cases List.mem_singleton.mp hq
    exact h4
  · refine (F (mkC K mg cs a ns) [.v (.ref a)]).mono (fun d e v G _ dp => ?_) (fun _ z => z.elim) (hl (mkC K mg cs a ns) a ns (List.mem_cons_self ..) h1 h2)
    subst e
    cases dp
    rfl
  · exact (hF base kb ‹_› tb a ns).run A outer s H args us vs Q E hr e0 hbt hv hs
theorem tabGx {base : Heap} {mg : Str → Option Value} {c P : Addr} (t : LamX.TabB base mg c P) : GxR.TabB base mg c P := ⟨t.code, t.bm, t.gP⟩
theorem noOut {P : Program} {w : World} {H : Hp} {s : Shared} {e : Value} {s' : Shared} (h : L2.CX P w [] H s (fun _ _ _ => False) e s') : False := by
  obtain ⟨_, _, _, _, _, _, _, _, _, _, _, _, z⟩ := h
  exact z
/-! ### words of the printed texts -/
def dNotV (f : DF) : DF := fun δ => (tT f δ).bind fun b => .pure (.bool (!b))
def tNotV (f : TF) : TF := fun δ => (f δ).bind fun b => .pure (!b)
def sFz (i : Nat) (F : SF) : SF := fun δ => F (fz i δ)
def sDead : SF := fun _ => .stuck
def sBreak : SF := fun δ => .pure (.bk δ)
def sCont : SF := fun δ => .pure (.ct δ)
def sRetN : SF := fun _ => .pure (.rt .none)
def dChain (F G : D → D → Wp D) (f g h : DF) : DF := fun δ => (f δ).bind fun d => (g δ).bind fun e => (F d e).bind fun z => (asB z).bind fun k => if k then (h δ).bind fun x => G e x else .pure (.bool false)
theorem roomG {X : Cx} {k : Nat} {env : Env} (r : Room (k + 1) X.A) : Room k ((gA X).deeper env) := ⟨r.hd, by have := r.dp; show X.A.depth + 1 + 3 * k + 5 < _; omega, by have := r.un; show X.A.units + 1 + 1 + 3 + 16 * k + 200 < _; omega⟩
end Tr

set_option Elab.async false
set_option linter.all false
set_option maxRecDepth 100000
set_option maxHeartbeats 4000000
namespace Tr
open PySem PySem.Spec L2

/-! ## meanings, run step by step: rules for simp -/
section
variable {A : Type} {k : D → Prop} {kb : Bool → Prop} {ko : Out → Prop} {w : Exn → Prop} {δ : De} {i j n : Nat} {f g h : DF} {t u : TF} {F G : SF} {d e : D} {as : List Ar} {r : AF}
@[simp] theorem slotP_p : slotP (some (.p d)) = .pure d := rfl
@[simp] theorem slotO_o {ds : List D} : slotO (some (.o ds)) = .pure ds := rfl
@[simp] theorem slotT_t {a : Addr} {φ : Heap → Prop} : slotT (some (.t a φ)) = .pure (a, φ) := rfl
@[simp] theorem slotV_v {x : V} : slotV (some (.v x)) = .pure x := rfl
@[simp] theorem rw_dV : dV i δ = slotP δ[i]? := rfl
@[simp] theorem rw_dC : dC d δ = .pure d := rfl
@[simp] theorem rw_d2 {B : D → D → Wp D} : d2 B f g δ = (f δ).bind fun d => (g δ).bind fun e => B d e := rfl
@[simp] theorem rw_d1 {B : D → Wp D} : d1 B f δ = (f δ).bind B := rfl
@[simp] theorem rw_int2 {c : Int → Int → Prop} {q : Int → Int → D} {a b : Int} : dInt2 c q (.int a) (.int b) = .need (c a b) (.pure (q a b)) := rfl
@[simp] theorem rw_addI {a b : Int} : dAdd (.int a) (.int b) = .pure (.int (a + b)) := rfl
@[simp] theorem rw_addT {a b : List D} : dAdd (.tuple a) (.tuple b) = .need (a.length + b.length ≤ sizeLine) (.pure (.tuple (a ++ b))) := rfl
@[simp] theorem rw_addL {a b : List D} : dAdd (.list a) (.list b) = .need (a.length + b.length ≤ sizeLine) (.pure (.list (a ++ b))) := rfl
@[simp] theorem rw_neg {a : Int} : dNeg (.int a) = .pure (.int (-a)) := rfl
@[simp] theorem rw_eq : dEq d e = .need (SeqAt.shaped d = true ∧ SeqAt.shaped e = true) (.pure (.bool (PyData.eqv d e))) := rfl
@[simp] theorem rw_ne : dNe d e = .need (SeqAt.shaped d = true ∧ SeqAt.shaped e = true) (.pure (.bool (!PyData.eqv d e))) := rfl
@[simp] theorem rw_is : dIs d .none = .pure (.bool (isNoneD d)) := rfl
@[simp] theorem rw_isNot : dIsNot d .none = .pure (.bool (!isNoneD d)) := rfl
@[simp] theorem rw_asB {b : Bool} : asB (.bool b) = .pure b := rfl
@[simp] theorem rw_tBv : tBv f δ = (f δ).bind asB := rfl
@[simp] theorem rw_tT : tT f δ = (f δ).bind truD := rfl
@[simp] theorem rw_truB {b : Bool} : truD (.bool b) = .pure b := rfl
@[simp] theorem rw_truI {a : Int} : truD (.int a) = .pure (a != 0) := rfl
@[simp] theorem rw_truL {ds : List D} : truD (.list ds) = .pure (!ds.isEmpty) := rfl
@[simp] theorem rw_truT {ds : List D} : truD (.tuple ds) = .pure (!ds.isEmpty) := rfl
@[simp] theorem rw_tAnd2 : tAnd2 t u δ = (t δ).bind fun b => if b then u δ else .pure false := rfl
@[simp] theorem rw_tOr2 : tOr2 t u δ = (t δ).bind fun b => if b then .pure true else u δ := rfl
@[simp] theorem rw_tNotV : tNotV t δ = (t δ).bind fun b => .pure (!b) := rfl
@[simp] theorem rw_dNotV : dNotV f δ = (tT f δ).bind fun b => .pure (.bool (!b)) := rfl
@[simp] theorem rw_dAndV : dAndV f g δ = (f δ).bind fun d => (truD d).bind fun b => if b then g δ else .pure d := rfl
@[simp] theorem rw_dOrV : dOrV f g δ = (f δ).bind fun d => (truD d).bind fun b => if b then .pure d else g δ := rfl
@[simp] theorem rw_dIf : dIf t f g δ = (t δ).bind fun b => if b then f δ else g δ := rfl
@[simp] theorem rw_dChain {B B' : D → D → Wp D} : dChain B B' f g h δ = (f δ).bind fun d => (g δ).bind fun e => (B d e).bind fun z => (asB z).bind fun k => if k then (h δ).bind fun x => B' e x else .pure (.bool false) := rfl
@[simp] theorem rw_aNil : aNil δ = .pure [] := rfl
@[simp] theorem rw_aCons : aCons f r δ = (f δ).bind fun d => (r δ).bind fun as => .pure (.d d :: as) := rfl
@[simp] theorem rw_aTrk : aTrk i r δ = (slotT δ[i]?).bind fun q => (r δ).bind fun as => .pure (.t q.1 q.2 :: as) := rfl
@[simp] theorem rw_aVal : aVal i r δ = (slotV δ[i]?).bind fun v => (r δ).bind fun as => .pure (.v v :: as) := rfl
@[simp] theorem rw_allD0 : allD [] = .pure [] := rfl
@[simp] theorem rw_allD1 : allD (.d d :: as) = (allD as).bind fun ds => .pure (d :: ds) := rfl
@[simp] theorem rw_dTup : dTup r δ = (r δ).bind fun as => (allD as).bind fun ds => .need (ds.length ≤ sizeLine) (.pure (.tuple ds)) := rfl
@[simp] theorem rw_dLst : dLst r δ = (r δ).bind fun as => (allD as).bind fun ds => .need (ds.length ≤ sizeLine) (.pure (.list ds)) := rfl
@[simp] theorem rw_nLst : nLst r δ = (r δ).bind fun as => (allD as).bind fun ds => .need (ds.length ≤ sizeLine) (.pure ds) := rfl
@[simp] theorem rw_dNl {fl : De → Wp (List D)} : dNl fl δ = (fl δ).bind fun ds => .pure (.list ds) := rfl
@[simp] theorem optW_some {a : A} : optW (some a) = .pure a := rfl
@[simp] theorem rw_ixL {ds : List D} {a : Int} : dIx (.list ds) (.int a) = optW (atI ds a) := rfl
@[simp] theorem rw_ixT {ds : List D} {a : Int} : dIx (.tuple ds) (.int a) = optW (atI ds a) := rfl
@[simp] theorem rw_dSl {l hh : OF} : dSl f l hh δ = (f δ).bind fun d => (l δ).bind fun lo => (hh δ).bind fun hi => dCut lo hi d := rfl
@[simp] theorem rw_oNone : oNone δ = .pure none := rfl
@[simp] theorem rw_oSome : oSome f δ = (f δ).bind asI := rfl
@[simp] theorem rw_asI {a : Int} : asI (.int a) = .pure (some a) := rfl
@[simp] theorem rw_asI1 {a : Int} : asI1 (.int a) = .pure a := rfl
@[simp] theorem rw_cutT {ds : List D} {lo hi : Option Int} : dCut lo hi (.tuple ds) = .pure (.tuple (cutD ds lo hi)) := rfl
@[simp] theorem rw_cutL {ds : List D} {lo hi : Option Int} : dCut lo hi (.list ds) = .pure (.list (cutD ds lo hi)) := rfl
@[simp] theorem rw_dCB {B : List D → Wp D} : dCB B r δ = (r δ).bind fun as => (allD as).bind B := rfl
@[simp] theorem rw_gcd {a b : Int} : bGcd [.int a, .int b] = .pure (.int ((Nat.gcd a.natAbs b.natAbs : Nat) : Int)) := rfl
@[simp] theorem rw_lenL {ds : List D} : bLen [.list ds] = .pure (.int ds.length) := rfl
@[simp] theorem rw_lenT {ds : List D} : bLen [.tuple ds] = .pure (.int ds.length) := rfl
@[simp] theorem rw_intI {a : Int} : bInt [.int a] = .pure (.int a) := rfl
@[simp] theorem rw_abs {a : Int} : bAbs [.int a] = .pure (.int (if a < 0 then -a else a)) := rfl
@[simp] theorem rw_min2 {a b : Int} : bMin2 [.int a, .int b] = .pure (.int (if b < a then b else a)) := rfl
@[simp] theorem rw_max2 {a b : Int} : bMax2 [.int a, .int b] = .pure (.int (if b > a then b else a)) := rfl
@[simp] theorem rw_isi {T : String} : dIsi T f δ = (f δ).bind fun d => (optW (isTy T d)).bind fun b => .pure (.bool b) := rfl
@[simp] theorem rw_isiT {Ts : List String} : dIsiT Ts f δ = (f δ).bind fun d => (optW (isTys Ts d)).bind fun b => .pure (.bool b) := rfl
@[simp] theorem rw_call {M : List Ar → Wp D} : dCall n M r δ = (r δ).bind fun as => .need (as.length = n) (M as) := rfl
@[simp] theorem rw_seq : sSeq F G δ = (F δ).bind fun o => match o with
  | .nx δ' => G δ'
  | o => .pure o := rfl
@[simp] theorem rw_set : sSet i f δ = (f δ).bind fun d => .pure (.nx (δ.set i (.p d))) := rfl
@[simp] theorem rw_setO {fl : De → Wp (List D)} : sSetO i fl δ = (fl δ).bind fun ds => .pure (.nx (δ.set i (.o ds))) := rfl
@[simp] theorem rw_app : sApp i f δ = (slotO δ[i]?).bind fun ds => (f δ).bind fun d => .need (ds.length < sizeLine) (.pure (.nx (δ.set i (.o (ds ++ [d]))))) := rfl
@[simp] theorem rw_ret : sRet f δ = (f δ).bind fun d => .pure (.rt d) := rfl
@[simp] theorem rw_retN : sRetN δ = .pure (.rt .none) := rfl
@[simp] theorem rw_if : sIf t F G δ = (t δ).bind fun b => if b then F δ else G δ := rfl
@[simp] theorem rw_next : sNext δ = .pure (.nx δ) := rfl
@[simp] theorem rw_drop : sDrop f δ = (f δ).bind fun _ => .pure (.nx δ) := rfl
@[simp] theorem rw_sFz : sFz i F δ = F (fz i δ) := rfl
@[simp] theorem rw_fzo {ds : List D} (h : δ[i]? = some (.o ds)) : fz i δ = δ.set i (.p (.list ds)) := by unfold fz; rw [h]
@[simp] theorem rw_fzp (h : δ[i]? = some (.p d)) : fz i δ = δ := by unfold fz; rw [h]
@[simp] theorem rw_asg {q : BF} : sAsg f q δ = (f δ).bind fun d => (optW (q d δ)).bind fun δ' => .pure (.nx δ') := rfl
@[simp] theorem rw_bName : bName i d δ = some (δ.set i (.p d)) := rfl
@[simp] theorem rw_parDO {fl : De → Wp (List D)} : sParDO i j f fl δ = (f δ).bind fun d => (fl δ).bind fun ds => .pure (.nx ((δ.set j (.o ds)).set i (.p d))) := rfl
@[simp] theorem rw_for {fi : De → Wp (List D)} {q : BF} : sFor fi q F δ = (fi δ).bind fun ds => sLoop q F ds δ := rfl
@[simp] theorem rw_loop0 {q : BF} : sLoop q F [] δ = .pure (.nx δ) := rfl
theorem rw_loop1 {q : BF} {ds : List D} : sLoop q F (d :: ds) δ = (optW (q d δ)).bind fun δ1 => (F δ1).bind fun o => match o with
    | .nx δ' => sLoop q F ds δ'
    | .ct δ' => sLoop q F ds δ'
    | .bk δ' => .pure (.nx δ')
    | .rt d => .pure (.rt d) := rfl
@[simp] theorem rw_iSeqD : iSeqD f δ = (f δ).bind seqD := rfl
@[simp] theorem rw_seqL {ds : List D} : seqD (.list ds) = .pure ds := rfl
@[simp] theorem rw_seqT {ds : List D} : seqD (.tuple ds) = .pure ds := rfl
@[simp] theorem rw_rg1 : iRgD1 f δ = (f δ).bind fun d => (asI1 d).bind fun j => .need (lo62 j) (.pure (rgD 0 j.toNat)) := rfl
@[simp] theorem rw_rg2 : iRgD2 f g δ = (f δ).bind fun d => (g δ).bind fun e => (asI1 d).bind fun i => (asI1 e).bind fun j => .need (lo62 i ∧ lo62 j) (.pure (rgD i (j - i).toNat)) := rfl
@[simp] theorem rw_dRun {bd : SF} : dRun n bd as = (bd (dStart n as)).bind fun o => match o with
  | .rt d => .pure d
  | .nx _ => .pure .none
  | _ => .stuck := rfl
@[simp] theorem run_if {c : Prop} [Decidable c] {m m' : Wp A} {k : A → Prop} : (if c then m else m').run k w = if c then m.run k w else m'.run k w := by split <;> rfl
@[simp] theorem shaped_int {a : Int} : SeqAt.shaped (.int a) = true := rfl
@[simp] theorem eqv_int {a b : Int} : PyData.eqv (.int a) (.int b) = decide (a = b) := rfl
end
end Tr

set_option Elab.async false
set_option linter.all false
set_option maxRecDepth 100000
set_option maxHeartbeats 4000000
namespace Tr
open PySem PySem.Spec L2

section
variable {A : Type} {a b c d e f : A} {l : List A}
theorem atI_nat {l : List A} {n : Nat} : atI l (n : Int) = l[n]? := by
  unfold atI ixN
  rw [if_pos (by omega)]
  by_cases h : n < l.length
  · rw [if_pos (by omega)]
    rfl
  · rw [if_neg (by omega)]
    simp [List.getElem?_eq_none (Nat.le_of_not_lt h)]
@[simp] theorem atI_0 : atI (a :: l) 0 = some a := atI_nat (n := 0)
@[simp] theorem atI_1 : atI (a :: b :: l) 1 = some b := atI_nat (n := 1)
@[simp] theorem atI_2 : atI (a :: b :: c :: l) 2 = some c := atI_nat (n := 2)
@[simp] theorem atI_3 : atI (a :: b :: c :: d :: l) 3 = some d := atI_nat (n := 3)
@[simp] theorem atI_4 : atI (a :: b :: c :: d :: e :: l) 4 = some e := atI_nat (n := 4)
@[simp] theorem atI_5 : atI (a :: b :: c :: d :: e :: f :: l) 5 = some f := atI_nat (n := 5)
end
/-! ## ratios -/
def rD (q : Rat) : D := .tuple [.int q.num, .int q.den]
structure RB (q : Rat) (B : Nat) : Prop where
  num : q.num.natAbs < 2 ^ B
  den : q.den < 2 ^ B
theorem RB.mono {q : Rat} {B C : Nat} (h : RB q B) (l : B ≤ C) : RB q C := ⟨Nat.lt_of_lt_of_le h.num (Nat.pow_le_pow_right (by decide) l), Nat.lt_of_lt_of_le h.den (Nat.pow_le_pow_right (by decide) l)⟩
theorem rat_nd (q : Rat) : q = (q.num : Rat) / (q.den : Rat) := by
  rw [← Rat.mkRat_eq_div, Rat.mkRat_self]
theorem den_ne (q : Rat) : (q.den : Rat) ≠ 0 := by
  have := q.den_nz
  exact_mod_cast this
theorem ratio_nd {t b : Int} (hb : 0 < b) : ((t : Rat) / (b : Rat)).num = t / ((Nat.gcd t.natAbs b.natAbs : Nat) : Int) ∧ (((t : Rat) / (b : Rat)).den : Int) = b / ((Nat.gcd t.natAbs b.natAbs : Nat) : Int) := by
  obtain ⟨n, rfl⟩ : ∃ n : Nat, b = n := ⟨b.toNat, by omega⟩
  have hn : n ≠ 0 := by omega
  have e : ((t : Rat) / ((n : Int) : Rat)) = Rat.normalize t n hn := by
    rw [Rat.normalize_eq_mkRat, Rat.mkRat_eq_div]
    rfl
  rw [e, Rat.normalize_eq]
  simp
theorem gcd_pos' {t b : Int} (hb : 0 < b) : 0 < Nat.gcd t.natAbs b.natAbs := Nat.gcd_pos_of_pos_right _ (by omega)
theorem ratio_rb {t b : Int} {B : Nat} (hb : 0 < b) (h1 : t.natAbs < 2 ^ B) (h2 : b.natAbs < 2 ^ B) : RB ((t : Rat) / (b : Rat)) B := by
  obtain ⟨e1, e2⟩ := ratio_nd (t := t) hb
  have g := gcd_pos' (t := t) hb
  constructor
  · rw [e1, Int.natAbs_ediv_of_dvd (Int.ofNat_dvd_left.mpr (Nat.gcd_dvd_left _ _))]
    exact Nat.lt_of_le_of_lt (Nat.div_le_self _ _) h1
  · have e3 : ((t : Rat) / (b : Rat)).den = b.natAbs / Nat.gcd t.natAbs b.natAbs := by
      have := congrArg Int.natAbs e2
      rw [Int.natAbs_ediv_of_dvd (Int.ofNat_dvd_left.mpr (Nat.gcd_dvd_right _ _))] at this
      simpa using this
    rw [e3]
    exact Nat.lt_of_le_of_lt (Nat.div_le_self _ _) h2
theorem log2_lt' {n B : Nat} (h : n < 2 ^ B) : n.log2 < B + 1 := by
  rcases Nat.eq_zero_or_pos n with z | z
  · rw [z]; simp
  · exact Nat.lt_succ_of_lt ((Nat.log2_lt (by omega)).mpr h)
theorem cmul {i j : Int} {a b : Nat} (h1 : i.natAbs < 2 ^ a) (h2 : j.natAbs < 2 ^ b) (h : a + b < 900000) : CMulW i j := by
  have := log2_lt' h1
  have := log2_lt' h2
  show i.natAbs.log2 + j.natAbs.log2 < 1000000
  omega
theorem cdivg {i : Int} {g B : Nat} (hg : 0 < g) (h : g < 2 ^ B) (hB : B < 8900) : CDivW i (g : Int) := by
  refine ⟨by omega, ?_⟩
  have := log2_lt' h
  simp only [Int.natAbs_natCast]
  omega
theorem mul_lt2 {i j : Int} {a b : Nat} (h1 : i.natAbs < 2 ^ a) (h2 : j.natAbs < 2 ^ b) : (i * j).natAbs < 2 ^ (a + b) := by
  rw [Int.natAbs_mul, Nat.pow_add]
  exact Nat.mul_lt_mul'' h1 h2
theorem sub_lt2 {i j : Int} {a : Nat} (h1 : i.natAbs < 2 ^ a) (h2 : j.natAbs < 2 ^ a) : (i - j).natAbs < 2 ^ (a + 1) := by
  rw [Nat.pow_succ]
  omega
theorem add_lt2 {i j : Int} {a : Nat} (h1 : i.natAbs < 2 ^ a) (h2 : j.natAbs < 2 ^ a) : (i + j).natAbs < 2 ^ (a + 1) := by
  rw [Nat.pow_succ]
  omega
theorem two_le_line : (2 : Nat) ≤ sizeLine := by decide
theorem den_lt {q : Rat} {B : Nat} (h : RB q B) : ((q.den : Int)).natAbs < 2 ^ B := by simpa using h.den
theorem dmul_pos {p q : Rat} : (0 : Int) < (p.den : Int) * (q.den : Int) := Int.mul_pos (by have := p.den_pos; omega) (by have := q.den_pos; omega)
theorem sub_nd {p q : Rat} : ((p.num * q.den - q.num * p.den : Int) : Rat) / ((p.den * q.den : Int) : Rat) = p - q := by
  conv => rhs; rw [rat_nd p, rat_nd q]
  have h1 := den_ne p
  have h2 := den_ne q
  push_cast
  grind
theorem add_nd {p q : Rat} : ((p.num * q.den + q.num * p.den : Int) : Rat) / ((p.den * q.den : Int) : Rat) = p + q := by
  conv => rhs; rw [rat_nd p, rat_nd q]
  have h1 := den_ne p
  have h2 := den_ne q
  push_cast
  grind
theorem mul_nd {p q : Rat} : ((p.num * q.num : Int) : Rat) / ((p.den * q.den : Int) : Rat) = p * q := by
  conv => rhs; rw [rat_nd p, rat_nd q]
  have h1 := den_ne p
  have h2 := den_ne q
  push_cast
  grind
theorem div_nd {p q : Rat} (hq : 0 < q.num) : ((p.num * q.den : Int) : Rat) / ((p.den * q.num : Int) : Rat) = p / q := by
  conv => rhs; rw [rat_nd p, rat_nd q]
  have h1 := den_ne p
  have h2 := den_ne q
  have h3 : (q.num : Rat) ≠ 0 := by
    have : q.num ≠ 0 := by omega
    exact_mod_cast this
  push_cast
  grind
end Tr

set_option Elab.async false
set_option linter.all false
set_option maxRecDepth 100000
set_option maxHeartbeats 4000000
namespace Tr
open PySem PySem.Spec L2
@[simp] theorem ty_int_none : isTy "int" .none = some false := by show kitB "NoneType" "int" = _; decide +kernel
@[simp] theorem ty_int_bool {b : Bool} : isTy "int" (.bool b) = some true := by show kitB "bool" "int" = _; decide +kernel
@[simp] theorem ty_int_int {a : Int} : isTy "int" (.int a) = some true := by show kitB "int" "int" = _; decide +kernel
@[simp] theorem ty_int_str {s : Str} : isTy "int" (.str s) = some false := by show kitB "str" "int" = _; decide +kernel
@[simp] theorem ty_int_list {ds : List D} : isTy "int" (.list ds) = some false := by show kitB "list" "int" = _; decide +kernel
@[simp] theorem ty_int_tuple {ds : List D} : isTy "int" (.tuple ds) = some false := by show kitB "tuple" "int" = _; decide +kernel
@[simp] theorem ty_bool_none : isTy "bool" .none = some false := by show kitB "NoneType" "bool" = _; decide +kernel
@[simp] theorem ty_bool_bool {b : Bool} : isTy "bool" (.bool b) = some true := by show kitB "bool" "bool" = _; decide +kernel
@[simp] theorem ty_bool_int {a : Int} : isTy "bool" (.int a) = some false := by show kitB "int" "bool" = _; decide +kernel
@[simp] theorem ty_bool_str {s : Str} : isTy "bool" (.str s) = some false := by show kitB "str" "bool" = _; decide +kernel
@[simp] theorem ty_bool_list {ds : List D} : isTy "bool" (.list ds) = some false := by show kitB "list" "bool" = _; decide +kernel
@[simp] theorem ty_bool_tuple {ds : List D} : isTy "bool" (.tuple ds) = some false := by show kitB "tuple" "bool" = _; decide +kernel
@[simp] theorem ty_tuple_none : isTy "tuple" .none = some false := by show kitB "NoneType" "tuple" = _; decide +kernel
@[simp] theorem ty_tuple_bool {b : Bool} : isTy "tuple" (.bool b) = some false := by show kitB "bool" "tuple" = _; decide +kernel
@[simp] theorem ty_tuple_int {a : Int} : isTy "tuple" (.int a) = some false := by show kitB "int" "tuple" = _; decide +kernel
@[simp] theorem ty_tuple_str {s : Str} : isTy "tuple" (.str s) = some false := by show kitB "str" "tuple" = _; decide +kernel
@[simp] theorem ty_tuple_list {ds : List D} : isTy "tuple" (.list ds) = some false := by show kitB "list" "tuple" = _; decide +kernel
@[simp] theorem ty_tuple_tuple {ds : List D} : isTy "tuple" (.tuple ds) = some true := by show kitB "tuple" "tuple" = _; decide +kernel
@[simp] theorem ty_list_none : isTy "list" .none = some false := by show kitB "NoneType" "list" = _; decide +kernel
@[simp] theorem ty_list_bool {b : Bool} : isTy "list" (.bool b) = some false := by show kitB "bool" "list" = _; decide +kernel
@[simp] theorem ty_list_int {a : Int} : isTy "list" (.int a) = some false := by show kitB "int" "list" = _; decide +kernel
@[simp] theorem ty_list_str {s : Str} : isTy "list" (.str s) = some false := by show kitB "str" "list" = _; decide +kernel
@[simp] theorem ty_list_list {ds : List D} : isTy "list" (.list ds) = some true := by show kitB "list" "list" = _; decide +kernel
@[simp] theorem ty_list_tuple {ds : List D} : isTy "list" (.tuple ds) = some false := by show kitB "tuple" "list" = _; decide +kernel
@[simp] theorem ty_str_none : isTy "str" .none = some false := by show kitB "NoneType" "str" = _; decide +kernel
@[simp] theorem ty_str_bool {b : Bool} : isTy "str" (.bool b) = some false := by show kitB "bool" "str" = _; decide +kernel
@[simp] theorem ty_str_int {a : Int} : isTy "str" (.int a) = some false := by show kitB "int" "str" = _; decide +kernel
@[simp] theorem ty_str_str {s : Str} : isTy "str" (.str s) = some true := by show kitB "str" "str" = _; decide +kernel
@[simp] theorem ty_str_list {ds : List D} : isTy "str" (.list ds) = some false := by show kitB "list" "str" = _; decide +kernel
@[simp] theorem ty_str_tuple {ds : List D} : isTy "str" (.tuple ds) = some false := by show kitB "tuple" "str" = _; decide +kernel
section
variable {A : Type} {k : D → Prop} {w : Exn → Prop} {δ : De} {i j n : Nat} {f g h : DF} {t u : TF} {F G : SF} {d e : D} {ds : List D} {on : Bool} {q : BF} {fi : De → Wp (List D)} {vs : List Nat}
@[simp] theorem tys_nil : isTys [] d = some false := rfl
@[simp] theorem tys_cons {T : String} {Ts : List String} : isTys (T :: Ts) d = match isTy T d with
    | some true => some true
    | some false => isTys Ts d
    | none => none := rfl
@[simp] theorem rw_dGa : dGa on fi q t f vs δ = (fi δ).bind fun ds => (gaLoop on q t f (dWipe δ vs) ds).nox := rfl
@[simp] theorem rw_ga0 : gaLoop on q t f δ [] = .pure (.bool on) := rfl
theorem rw_ga1 : gaLoop on q t f δ (d :: ds) = (optW (q d δ)).bind fun δ1 => (t δ1).bind fun b => if b then (f δ1).bind fun y => match y with
    | .bool k => if k = on then gaLoop on q t f δ ds else .pure (.bool k)
    | _ => .stuck else gaLoop on q t f δ ds := rfl
@[simp] theorem rw_nLc : nLc fi q t f vs δ = (fi δ).bind fun ds => .need (ds.length ≤ sizeLine) (lcLoop q t f (dWipe δ vs) ds).nox := rfl
@[simp] theorem rw_lc0 : lcLoop q t f δ [] = .pure [] := rfl
theorem rw_lc1 : lcLoop q t f δ (d :: ds) = (optW (q d δ)).bind fun δ1 => (t δ1).bind fun b => if b then (f δ1).bind fun y => (lcLoop q t f δ ds).bind fun ys => .pure (y :: ys) else lcLoop q t f δ ds := rfl
@[simp] theorem rw_tYes : tYesD δ = .pure true := rfl
@[simp] theorem rw_wipe0 : dWipe δ [] = δ.map sIn := rfl
@[simp] theorem rw_wipe1 {v : Nat} : dWipe δ (v :: vs) = (dWipe δ vs).set v .non := rfl
@[simp] theorem sIn_p : sIn (.p d) = .p d := rfl
@[simp] theorem sIn_o : sIn (.o ds) = .non := rfl
@[simp] theorem sIn_non : sIn .non = .non := rfl
@[simp] theorem sIn_t {a : Addr} {φ : Heap → Prop} : sIn (.t a φ) = .t a φ := rfl
@[simp] theorem sIn_v {x : V} : sIn (.v x) = .v x := rfl
@[simp] theorem bTup_t {r : List D → De → Option De} : bTup n r (.tuple ds) δ = if ds.length = n then r ds δ else none := rfl
@[simp] theorem bNil_n : bNil [] δ = some δ := rfl
@[simp] theorem bCons_c {b : BF} {r : List D → De → Option De} : bCons b r (d :: ds) δ = (b d δ).bind fun δ' => r ds δ' := rfl
@[simp] theorem shaped_rD {p : Rat} : SeqAt.shaped (rD p) = true := rfl
@[simp] theorem eqv_nil : PyData.eqv (.list []) (.list []) = true := rfl
@[simp] theorem shaped_nil : SeqAt.shaped (.list []) = true := rfl
theorem eqvAll_cons {a b : D} {as bs : List D} : PyData.eqv (.tuple (a :: as)) (.tuple (b :: bs)) = (PyData.eqv a b && PyData.eqv (.tuple as) (.tuple bs)) := by simp [PyData.eqv, PyData.eqvAll]
theorem eqv_rD {p q : Rat} : PyData.eqv (rD p) (rD q) = decide (p = q) := by
  have h1 : PyData.eqv (rD p) (rD q) = (decide (p.num = q.num) && decide ((p.den : Int) = q.den)) := by
    simp [rD, PyData.eqv, PyData.eqvAll]
    rfl
  rw [h1]
  by_cases h : p = q
  · subst h; simp
  · have : ¬ (p.num = q.num ∧ p.den = q.den) := fun ⟨a, b⟩ => h (Rat.ext a b)
    simp [h]
    intro a b
    exact this ⟨a, by exact_mod_cast b⟩
end
theorem num_pos {q : Rat} : 0 < q.num ↔ 0 < q := by
  have h1 := Rat.num_nonneg (q := -q)
  rw [Rat.neg_num] at h1
  constructor
  · intro h
    have : ¬ (0 ≤ -q) := fun z => by have := h1.mpr z; omega
    grind
  · intro h
    have : ¬ (0 ≤ -q) := by grind
    have : ¬ (0 ≤ -q.num) := fun z => this (h1.mp z)
    omega
theorem num_neg {q : Rat} : q.num < 0 ↔ q < 0 := by
  have h1 := Rat.num_nonneg (q := q)
  constructor
  · intro h
    have : ¬ (0 ≤ q) := fun z => by have := h1.mpr z; omega
    grind
  · intro h
    have : ¬ (0 ≤ q) := by grind
    have : ¬ (0 ≤ q.num) := fun z => this (h1.mp z)
    omega
theorem rD_int (a : Int) : PyData.tuple [.int a, .int 1] = rD (a : Rat) := rfl
theorem nb7 {x : Int} (h0 : 0 ≤ x) (h : x ≤ 100) : x.natAbs < 2 ^ 7 := by
  show x.natAbs < 128
  omega
theorem nb10 {x : Int} (h0 : 0 ≤ x) (h : x ≤ 1000) : x.natAbs < 2 ^ 10 := by
  show x.natAbs < 1024
  omega
theorem rb_int {a : Int} {B : Nat} (h : a.natAbs < 2 ^ B) (hB : 0 < B) : RB (a : Rat) B := ⟨by rw [Rat.num_intCast]; exact h, by
  show 1 < 2 ^ B
  exact Nat.one_lt_two_pow (by omega)⟩
/-- the row of draws -/
def RO (C : Cs) (r : Addr) (φ : Heap → Prop) : Prop := ∃ q ∈ C.Z, φ = RowP r q.1 ∧ q.2.length ≤ 63
theorem taken_run {C : Cs} {r : Addr} {φ : Heap → Prop} {m : Int} {k : D → Prop} {w : Exn → Prop} (hr : RO C r φ) (h0 : 0 < m) (h1 : m < 1073741824) (hk : ∀ n : Int, 0 ≤ n → n < m → k (.int n)) : (fTaken C [.t r φ, .d (.int m)]).run k w :=
  ⟨⟨hr, h0, h1⟩, fun _ ⟨n, e, a, b⟩ => e ▸ hk n a b⟩
theorem loop_inv {q : BF} {F : SF} {ko : Out → Prop} {w : Exn → Prop} (I : Nat → De → Prop) {ds : List D} {δ : De} (h0 : I 0 δ)
    (hs : ∀ i δ d, ds[i]? = some d → I i δ → ∃ δ1, q d δ = some δ1 ∧ (F δ1).run (fun o => match o with
      | .nx δ' => I (i + 1) δ'
      | .ct δ' => I (i + 1) δ'
      | .bk δ' => ko (.nx δ')
      | .rt d => ko (.rt d)) w)
    (hd : ∀ δ, I ds.length δ → ko (.nx δ)) : (sLoop q F ds δ).run ko w := by
  induction ds generalizing I δ with
  | nil => exact hd δ h0
  | cons d ds ih =>
    obtain ⟨δ1, e, h⟩ := hs 0 δ d rfl h0
    rw [rw_loop1, e]
    simp only [optW_some, pure_bind, run_bind]
    refine (F δ1).mono (fun o ho => ?_) (fun _ z => z) h
    have go : ∀ δ', I 1 δ' → (sLoop q F ds δ').run ko w := fun δ' h1 => ih (fun i => I (i + 1)) h1 (fun i δ d e h => hs (i + 1) δ d e h) hd
    cases o with
    | nx δ' => exact go δ' ho
    | ct δ' => exact go δ' ho
    | bk δ' => exact ho
    | rt d => exact ho
@[simp] theorem rw_row {i j : Nat} {δ : De} : sRow i j δ = (slotV δ[j]?).bind fun v => match v with
  | .ref a => (Wp.any fun (_ : Addr) => True).bind fun r => .pure (.nx (δ.set i (.t r (RowP r a))))
  | _ => .stuck := rfl
@[simp] theorem rw_ixR0 {p : Rat} : dIx (rD p) (.int 0) = .pure (.int p.num) := by simp [rD]
@[simp] theorem rw_ixR1 {p : Rat} : dIx (rD p) (.int 1) = .pure (.int p.den) := by simp [rD]
@[simp] theorem shaped_bool {b : Bool} : SeqAt.shaped (.bool b) = true := rfl
@[simp] theorem eqv_bool {a b : Bool} : PyData.eqv (.bool a) (.bool b) = (a == b) := by cases a <;> cases b <;> rfl
theorem rD_neg {q : Rat} : PyData.tuple [.int (-q.num), .int q.den] = rD (-q) := by unfold rD; rw [Rat.neg_num, Rat.neg_den]
theorem RB.neg {q : Rat} {B : Nat} (h : RB q B) : RB (-q) B := ⟨by rw [Rat.neg_num, Int.natAbs_neg]; exact h.num, by rw [Rat.neg_den]; exact h.den⟩
theorem rgD_get {lo : Int} {n i : Nat} {d : D} (h : (rgD lo n)[i]? = some d) : i < n ∧ d = .int (lo + i) := by
  unfold rgD at h
  rw [List.getElem?_map] at h
  by_cases c : i < n
  · rw [List.getElem?_range c] at h
    exact ⟨c, (Option.some.inj h).symm⟩
  · rw [List.getElem?_eq_none (by simpa using c)] at h
    cases h
@[simp] theorem rgD_len {lo : Int} {n : Nat} : (rgD lo n).length = n := by simp [rgD]
theorem eqv_rD0 {x : Rat} : PyData.eqv (rD x) (.tuple [.int 0, .int 1]) = decide (x = 0) := eqv_rD (q := 0)
theorem rat_lt {p q : Rat} : (p.num * (q.den : Int) < q.num * (p.den : Int)) ↔ p < q := (Rat.lt_iff p q).symm
end Tr

set_option Elab.async false
set_option linter.all false
set_option maxRecDepth 100000
set_option maxHeartbeats 4000000
namespace Tr
open PySem PySem.Spec L2

/-! ## starred arguments -/
section
variable {X : Cx} {C : Cs} {W : WX} {p : Pos} {e : Expr} {es : List Expr} {f : DF} {r : AF}
def aStar (f : DF) (r : AF) : AF := fun δ => (f δ).bind fun d => (seqD d).bind fun ds => (r δ).bind fun as => .pure (ds.map Ar.d ++ as)
theorem arsOk_app {K : PySem.W.Frag} {H : Hp} : ∀ {vs : List V} {ds : List D} {us : List V} {as : List Ar}, DpAll K H vs ds → ArsOk K H us as → ArsOk K H (vs ++ us) (ds.map Ar.d ++ as)
  | [], _, _, _, h, g => by cases h; exact g
  | v :: vs, _, _, _, h, g => by
    cases h with
    | cons a b => exact ⟨a, arsOk_app b g⟩
theorem da_star (hK : C.K = X.K) (he : DE X C W e f) (hr : DA X C W es r) (hs : starEach (.Starred e p :: es) X.env = (true, eval e X.env) :: starEach es X.env := by rfl) : DA X C W (.Starred e p :: es) (aStar f r) := by
  obtain ⟨t, pt, q⟩ := he
  obtain ⟨u, pu, q2⟩ := hr
  refine ⟨_, StX.pa_star pt pu hs, fun S0 H0 Pb σ H δ Q R h => q S0 H0 Pb σ H δ _ R ((f δ).mono (fun d h v G g dp => ?_) (fun _ z => z) h)⟩
  have fin : ∀ (ds : List D) (vs : List V), DpAll C.K (hid (Own (C.bx S0 H0) σ δ) G) vs ds → (r δ).run (fun as => Av (C.bx S0 H0) σ H δ Q (ds.map Ar.d ++ as)) (Ew (C.bx S0 H0) W σ H) → u σ G fun ys H2 => Q (vs ++ ys) H2 := fun ds vs hd h =>
    q2 S0 H0 Pb σ G δ _ (R.gr g) ((r δ).mono (fun as ha us G2 g2 ok => ha (vs ++ us) G2 (g.trans g2) (arsOk_app (Le.dps (hid_le g2.le fun _ z => z) ds vs hd) ok)) (fun _ z => z.gr g) h)
  rw [← hK]
  cases dp with
  | lst s a => exact ⟨_, _, rfl, .inr (Le.sqL hid_sub s), fin _ _ a h⟩
  | tup s a => exact ⟨_, _, rfl, .inl (Le.sqT hid_sub s), fin _ _ a h⟩
  | _ => exact h.elim
@[simp] theorem rw_aStar {δ : De} : aStar f r δ = (f δ).bind fun d => (seqD d).bind fun ds => (r δ).bind fun as => .pure (ds.map Ar.d ++ as) := rfl
theorem allD_map {ds : List D} {as : List Ar} : allD (ds.map Ar.d ++ as) = (allD as).bind fun es => .pure (ds ++ es) := by
  induction ds with
  | nil => rfl
  | cons d ds ih =>
    show (allD (ds.map Ar.d ++ as)).bind _ = _
    rw [ih]
    rfl
end
end Tr

set_option Elab.async false
set_option linter.all false
set_option maxRecDepth 100000
set_option maxHeartbeats 4000000
/-! ## enumerate over a tuple -/
namespace TrE
open PySem PySem.Spec L2
theorem enum_new {v : Value} {o : Obj} {H : Heap → Prop} (B : Begins v o H) :
    Meets (Builtin.«enumerate.__new__» ⟨[.type "enumerate", v], []⟩) (fun _ R s => H s.heap ∧
      R (.ok (.ret (.ref (s.heap.push o).objs.size))) { s with heap := (s.heap.push o).push { cls := .type "enumerate", data := .fields #[.none, .bool false, .ref s.heap.objs.size, rawInt 0, .none, .none] } }) :=
  .of_wp fun prog w A R s h => by
    obtain ⟨hp, g, d, tk, os⟩ := s
    obtain ⟨h1, h⟩ := h
    have hsub := sub_enumerate
    have q1 : ∀ {A' : Around} {E : Value → Shared → Prop} {Q : Value → Shared → Prop}, Q (.ref hp.objs.size) ⟨hp.push o, g, d, tk, os⟩ → wpAny (model prog w) A' (pyIter v) Q E ⟨hp, g, d, tk, os⟩ := fun q => B.iter prog w _ _ ⟨hp, g, d, tk, os⟩ _ h1 q
    wp_walk using q1
    refine wpAny_stack_any fun st => wpAny_pure ?_
    split
    · rename_i c _ _ _ _ _
      cases (c == Value.type "enumerate")
      · wp_walk using q1
        exact ⟨_, rfl, h⟩
      · wp_walk using q1
        exact ⟨_, rfl, h⟩
    · wp_walk using q1
      exact ⟨_, rfl, h⟩
end TrE
namespace Tr
open PySem PySem.Spec L2
/-- the tuple at a as it stands at each turn, each item in a new pair -/
def IteT (K : PySem.W.Frag) (a : Addr) : It :=
  ⟨fun i H => ∃ (xs : List V) (x : V), SqT K H a xs ∧ xs[i]? = some x, fun i H v H' => ∃ T x, v = .ref T ∧ H T = none ∧ H' = upd H T (.tup [.int (i : Nat), x]) ∧ ∀ xs, SqT K H a xs → xs[i]? = some x, fun i H => ∃ xs : List V, SqT K H a xs ∧ xs.length = i⟩
theorem walk_enumT {K : PySem.W.Frag} {a : Addr} {xs : List V} : Walk (IteT K a) xs.length (fun H => SqT K H a xs) (YPair (fun i => some (.int (i : Nat))) (fun i => xs[i]?)) :=
  ⟨fun i H hi h => ⟨xs, xs[i], h, List.getElem?_eq_getElem hi⟩, fun H h => ⟨xs, h, rfl⟩, fun i H x H' hi h ⟨T, y, e1, e2, e3, e4⟩ => ⟨T, .int (i : Nat), y, e1, e2, e3, rfl, e4 xs h⟩⟩
theorem turn_enumT {P : Program} {w : World} {K : PySem.W.Frag} {elts : List Expr} {kk : Nat} {tpos : Pos} (a e it : Addr) :
    Turn P w K (.Tuple elts kk tpos) (IteT K a) [e, it] e (fun i h => (∃ old, IsEnum h e it ((i : Nat) : Int) old) ∧ h.IsTupleIter it a i ∧ e ≠ it ∧ e ≠ a ∧ a ≠ it) where
  mem := by simp
  obj := fun i h st b hb => by
    obtain ⟨⟨old, he⟩, ⟨o, ho, hc, hd⟩, _⟩ := st
    have e' : b = e ∨ b = it := by simpa using hb
    rcases e' with z | z
    · rw [z]; exact ⟨_, he, fun v q => nomatch q⟩
    · rw [z]; exact ⟨o, ho, fun v q => by rw [hd] at q; cases q⟩
  keep := fun i h h' st k => let ⟨⟨old, he⟩, hi, hne⟩ := st; ⟨⟨old, k e (by simp) _ he⟩, hi.at fun o q => k it (by simp) o q, hne⟩
  item := by
    intro X hP hw hK hc i pins s σ H E I hf st hg
    subst hP hw hK
    obtain ⟨⟨old, he⟩, hit, hne, hea, hai⟩ := st
    obtain ⟨xs, x, hq, hx⟩ := hg
    obtain ⟨its, rv, p, hz⟩ := I.tuple hq
    obtain ⟨u, hu, ru⟩ := rv.get hx
    have hel : e < s.heap.objs.size := Heap.lt_size he
    have hil : it < s.heap.objs.size := by obtain ⟨_, q, _⟩ := hit; exact Heap.lt_size q
    have hlt : i < its.toArray.size := by
      have := (List.getElem?_eq_some_iff.mp hu).1
      simpa using this
    have D := Draws.tuple (prog := X.prog) (w := X.w) (A := X.A.in1) (I.ok.hd hc) it a hai its.toArray
    refine wpAny_pyNext_enum_itemD D he ⟨hit, show s.heap.IsTuple a its.toArray from p⟩ hlt hne (by simp [hne, hea]) fun x' h' tk hx' ho hs' hT hsz hk => ?_
    have ex : x' = u := by
      have hu' : its.toArray[i]? = some u := by simpa using hu
      rw [hu'] at hx'
      exact (Option.some.inj hx').symm
    subst ex
    refine ⟨_, rfl, wpAny_letOwnedTupleGo_enum (s := { s with heap := h', toks := tk + 1 }) ho fun h'' he' sb => ?_⟩
    have hT2 : h''.get? s.heap.objs.size = some { cls := .type "tuple", data := .seq #[.int i tk, x'] } := (sb.2 _ (Nat.ne_of_gt hel)).trans hT
    have new : ObjOk X.prog X.w (upd H s.heap.objs.size (.tup [.int (i : Nat), x])) h'' s.heap.objs.size (.tup [.int (i : Nat), x]) :=
      ⟨by show 2 ≤ sizeLine; decide, [.int i tk, x'], .cons ⟨_, rfl⟩ (.cons ru .nil), ⟨_, hT2, rfl, _, rfl⟩⟩
    have I1 : Inv X pins σ (upd H s.heap.objs.size (.tup [.int (i : Nat), x])) { s with heap := h'', toks := tk + 1 } :=
      I.turnedNew (ch := [e, it]) (fun b ob hb q => (sb.2 b (fun z => hb (by simp [z]))).trans (hk b ob (fun z => hb (by simp [z])) (fun z => hb (by simp [z])) q)) hf (Nat.le_refl _) new
    refine ⟨.ref s.heap.objs.size, _, I1, rfl, ⟨_, x, rfl, I.hok.fresh (Nat.le_refl _), rfl, fun ys hy => by rw [I.tuple_inj hy hq]; exact hx⟩, ⟨⟨x', ?_⟩, hs'.1.at fun o q => (sb.2 it (Ne.symm hne)).trans q, hne, hea, hai⟩, fun b hb => ?_⟩
    · have e1 : ((i + 1 : Nat) : Int) = (i : Int) + 1 := by omega
      rw [e1]; exact he'
    · have hb' : b < s.heap.objs.size := by
        have e' : b = e ∨ b = it := by simpa using hb
        rcases e' with z | z
        · rw [z]; exact hel
        · rw [z]; exact hil
      rw [upd_ne (Nat.ne_of_lt hb')]
      exact (hf b hb).1
  done := by
    intro X hP hw hK hc i pins s σ H E I hf st hg
    subst hP hw hK
    obtain ⟨⟨old, he⟩, hit, hne, hea, hai⟩ := st
    obtain ⟨xs, hq, hx⟩ := hg
    obtain ⟨its, rv, p, hz⟩ := I.tuple hq
    obtain ⟨f0, f1, f2, f3, f4, f5⟩ := hf it (by simp)
    have hl := rv.length
    have D := Draws.tuple (prog := X.prog) (w := X.w) (A := X.A.in1) (I.ok.hd hc) it a hai its.toArray
    have e1 : its.toArray.size = i := by rw [List.size_toArray]; omega
    exact wpAny_pyNext_enum_endD D he ⟨by rw [e1]; exact hit, p⟩ fun h' eb => ⟨rfl, I.turned (t' := s.toks) (fun b o hb q => eb b o hb q) f0 f1 f3 f4 f5⟩
  self := fun A i s Q E st h => let ⟨⟨_, he⟩, _⟩ := st; wpAny_pyIter_enum he h
/-- enumerate(e), a list or a tuple -/
def iEnumA (K : PySem.W.Frag) (ta : TA) : TI := fun σ H R => ta σ H fun vs H1 => ∃ a xs, vs = [.ref a] ∧ ((SqL K H1 a xs ∧ R (Ite K a) H1) ∨ (SqT K H1 a xs ∧ R (IteT K a) H1))
theorem pi_enumA {X : Cx} {e : Expr} {ta : TA} {p pos tpos : Pos} {elts : List Expr} {kk : Nat} (hg : Gl X "enumerate") (hm : X.mg "enumerate" = none) (ha : PA X [e] ta) (hs : starEach [e] X.env = [(false, eval e X.env)] := by rfl) :
    PI X (.Tuple elts kk tpos) (.Call (.Name "enumerate" p) [e] [] pos) (iEnumA X.K ta) := by
  refine ⟨fun pins s σ H R I h => ?_⟩
  refine PyProof.Rows.Call_ (ld_blt I hg hm PyProof.Rows.boot_enumerate (PyProof.Rows.callWith_type1 (thn (ha.run pos pins s σ H _ I h) fun us s1 ⟨vs, H1, I1, r1, q1⟩ => ?_) hs rfl))
  obtain ⟨a, xs, ex, q1⟩ := q1
  subst ex
  cases r1 with
  | cons r rr =>
    cases rr
    cases r
    have fp2 : ∀ b ∈ [s1.heap.objs.size + 1, s1.heap.objs.size], FpOk X pins H1 b := fun b hb => by
      have e' : b = s1.heap.objs.size + 1 ∨ b = s1.heap.objs.size := by simpa using hb
      have hle : s1.heap.objs.size ≤ b := by
        rcases e' with z | z
        · rw [z]; exact Nat.le_add_right _ _
        · rw [z]; exact Nat.le_refl _
      exact I1.fpOk hle (I1.hok.fresh hle)
    rcases q1 with ⟨hq, q⟩ | ⟨hq, q⟩
    · obtain ⟨its, rv, p', hz⟩ := I1.list hq
      refine call_enumerate_list p'.isList fun h' he hit hsz hk => wpAny_pyIter_enum he ?_
      have I2 : Inv X pins σ H1 { s1 with heap := h' } := I1.kept (t' := s1.toks) hk
      exact ⟨s1.heap.objs.size + 1, [s1.heap.objs.size + 1, s1.heap.objs.size], _, _, H1, rfl, I2, turn_enum a (s1.heap.objs.size + 1) s1.heap.objs.size, ⟨⟨.none, he⟩, hit, Nat.succ_ne_self _⟩, fp2, q⟩
    · obtain ⟨its, rv, p', hz⟩ := I1.tuple hq
      have p2 : s1.heap.IsTuple a its.toArray := p'
      have al : a < s1.heap.objs.size := by obtain ⟨_, z, _⟩ := p2; exact Heap.lt_size z
      refine callType_new F.called_enumerate (by decide) (F.typeCall_enumerate_1 _) (F.newCall_enumerate_1 _) (fun obj => F.args_object_init_2 obj _) F.entry_enumerate_new (TrE.enum_new (begins_tuple a its.toArray)) ⟨p2, ?_⟩
      have hz2 : (s1.heap.push { cls := .type "tuple_iterator", data := .fields #[.ref a, .int 0 0] }).objs.size = s1.heap.objs.size + 1 := Heap.size_push ..
      show _ ∧ _
      rw [hz2]
      have he : IsEnum ((s1.heap.push { cls := .type "tuple_iterator", data := .fields #[.ref a, .int 0 0] }).push { cls := .type "enumerate", data := .fields #[.none, .bool false, .ref s1.heap.objs.size, rawInt 0, .none, .none] }) (s1.heap.objs.size + 1) s1.heap.objs.size 0 .none := by
        have := Heap.get?_push_size (s1.heap.push { cls := .type "tuple_iterator", data := .fields #[.ref a, .int 0 0] }) (o := { cls := .type "enumerate", data := .fields #[.none, .bool false, .ref s1.heap.objs.size, rawInt 0, .none, .none] }) rfl
        rw [hz2] at this
        exact this
      refine ⟨⟨_, he, rfl⟩, wpAny_pyIter_enum he ?_⟩
      have hk : ∀ b o, s1.heap.get? b = some o → ((s1.heap.push { cls := .type "tuple_iterator", data := .fields #[.ref a, .int 0 0] }).push { cls := .type "enumerate", data := .fields #[.none, .bool false, .ref s1.heap.objs.size, rawInt 0, .none, .none] }).get? b = some o := fun b o x => Heap.get?_push_of_some _ (Heap.get?_push_of_some _ x)
      have I2 := I1.kept (t' := s1.toks) hk
      exact ⟨s1.heap.objs.size + 1, [s1.heap.objs.size + 1, s1.heap.objs.size], _, _, H1, rfl, I2, turn_enumT a (s1.heap.objs.size + 1) s1.heap.objs.size, ⟨⟨.none, he⟩, ⟨_, Heap.get?_push_of_some _ (Heap.get?_push_size _ rfl), rfl, rfl⟩, Nat.succ_ne_self _, Nat.ne_of_gt (Nat.lt_succ_of_lt al), Nat.ne_of_lt al⟩, fp2, q⟩
/-! ### over data -/
def enD (ds : List D) : List D := (List.range ds.length).zipWith (fun (i : Nat) d => PyData.tuple [.int (i : Int), d]) ds
theorem enD_len {ds : List D} : (enD ds).length = ds.length := by simp [enD]
theorem enD_get {ds : List D} {i : Nat} {d : D} (h : ds[i]? = some d) : (enD ds)[i]? = some (.tuple [.int (i : Int), d]) := by
  have hi : i < ds.length := (List.getElem?_eq_some_iff.mp h).1
  have hd : ds[i] = d := (List.getElem?_eq_some_iff.mp h).2
  simp [enD, List.getElem?_zipWith, hi, hd]
theorem items_pair {K : PySem.W.Frag} {Ph : Hp} {xs : List V} {ds : List D} {J : It} {Gp : Hp → Prop} (w : Walk J xs.length Gp (YPair (fun i => some (.int (i : Nat))) (fun i => xs[i]?))) (hG : ∀ H1, Le Ph H1 → Gp H1) (dp : DpAll K Ph xs ds) : Items K Ph (enD ds) J := by
  refine ⟨Gp, _, by rw [enD_len, ← dps_len dp]; exact w, hG, fun i H1 x H2 S hi l hS y => ?_⟩
  obtain ⟨T, u, v, rfl, hT, rfl, eu, ev⟩ := y
  cases eu
  rw [enD_len] at hi
  obtain ⟨d, hd⟩ : ∃ d, ds[i]? = some d := ⟨ds[i], List.getElem?_eq_getElem hi⟩
  obtain ⟨v', h1, h2⟩ := dps_get dp hd
  have ev : xs[i]? = some v := ev
  rw [ev] at h1
  cases h1
  have nT : ¬ S T := fun z => hS T z hT
  have le : Le (hid S H1) (hid S (upd H1 T (.tup [.int (i : Nat), v]))) := hid_le (Grow.new hT).le fun _ z => z
  refine ⟨Grow.new hT, _, enD_get hd, .tup (SqT.of ?_) (.cons (.int _) (.cons (Le.dp (l.trans le) d v h2) .nil))⟩
  rw [hid_in nT]
  exact upd_same
def iEnD (f : DF) : De → Wp (List D) := fun δ => (f δ).bind fun d => (seqD d).bind fun ds => .pure (enD ds)
theorem di_enum {X : Cx} {C : Cs} {W : WX} {e : Expr} {f : DF} {p pos tpos : Pos} {elts : List Expr} {kk : Nat} (hK : C.K = X.K) (hg : Gl X "enumerate") (hm : X.mg "enumerate" = none) (he : DE X C W e f) (hs : starEach [e] X.env = [(false, eval e X.env)] := by rfl) :
    DI X C W (.Tuple elts kk tpos) (.Call (.Name "enumerate" p) [e] [] pos) (iEnD f) := by
  obtain ⟨t, pt, q⟩ := he
  refine ⟨_, pi_enumA hg hm (pa_cons pt pa_nil hs) hs, fun S0 H0 Pb σ H δ Q R h => q S0 H0 Pb σ H δ _ R ((f δ).mono (fun d h v G g dp => ?_) (fun _ z => z) h)⟩
  rw [← hK]
  cases dp with
  | lst s a => exact ⟨_, _, rfl, .inl ⟨Le.sqL hid_sub s, h _ G g (items_pair walk_enum (fun H1 l => l.sqL s) a)⟩⟩
  | tup s a => exact ⟨_, _, rfl, .inr ⟨Le.sqT hid_sub s, h _ G g (items_pair walk_enumT (fun H1 l => l.sqT s) a)⟩⟩
  | _ => exact h.elim
@[simp] theorem rw_iEnD {f : DF} {δ : De} : iEnD f δ = (f δ).bind fun d => (seqD d).bind fun ds => .pure (enD ds) := rfl
end Tr

set_option Elab.async false
set_option linter.all false
set_option maxRecDepth 100000
set_option maxHeartbeats 4000000
namespace Tr
open PySem PySem.Spec L2
/-! ## min, sum of a list of ints -/
def intsD : List D → Option (List Int)
  | [] => some []
  | .int i :: ds => (intsD ds).map (i :: ·)
  | _ => none
theorem ints_dps {K : PySem.W.Frag} {H : Hp} : ∀ {xs : List V} {ds : List D} {ns : List Int}, DpAll K H xs ds → intsD ds = some ns → xs = ns.map V.int
  | [], _, _, h, e => by cases h; cases e; rfl
  | x :: xs, _, _, h, e => by
    cases h with
    | cons a b =>
      cases a with
      | int i =>
        unfold intsD at e
        obtain ⟨ms, e1, e2⟩ := Option.map_eq_some_iff.mp e
        subst e2
        rw [ints_dps b e1]
        rfl
      | _ => cases e
def bMinL : List D → Wp D
  | [.list ds] => (optW (intsD ds)).bind fun ns => .need (0 < ns.length) ((Wp.any fun m => m ∈ ns ∧ ∀ y ∈ ns, m ≤ y).bind fun m => .pure (.int m))
  | _ => .stuck
def bSumL : List D → Wp D
  | [.list ds] => (optW (intsD ds)).bind fun ns => .pure (.int ns.sum)
  | _ => .stuck
section
variable {C : Cs}
theorem on_minL : OpN C (rMin C.K) bMinL := by
  intro vs H ds Q S0 H0 Pb σ δ w R dp h
  unfold bMinL at h
  split at h
  · rename_i es
    obtain ⟨ns, e, h1, h2⟩ := optW_inv h
    cases dp with
    | cons a b =>
      cases b
      cases a with
      | lst s a =>
        rw [ints_dps a e] at s
        exact ⟨_, ns, rfl, Le.sqL hid_sub s, h1, fun m m1 m2 => h2 m ⟨m1, m2⟩ _ H (Grow.refl H) (.int m)⟩
  · exact h.elim
theorem on_sumL : OpN C (rSum C.K) bSumL := by
  intro vs H ds Q S0 H0 Pb σ δ w R dp h
  unfold bSumL at h
  split at h
  · rename_i es
    obtain ⟨ns, e, h2⟩ := optW_inv h
    cases dp with
    | cons a b =>
      cases b
      cases a with
      | lst s a =>
        rw [ints_dps a e] at s
        exact ⟨_, ns, rfl, Le.sqL hid_sub s, h2 _ H (Grow.refl H) (.int _)⟩
  · exact h.elim
end
end Tr

set_option maxRecDepth 100000
set_option maxHeartbeats 1000000
namespace Tr
abbrev Ln := Int × Rat
def fL (x : Ln) (t : Rat) : Rat := if 0 < x.1 ∧ x.2 < t then (t - x.2) / (x.1 : Rat) else 0
def rL (x : Ln) (t : Rat) : Rat := if 0 < x.1 ∧ x.2 ≤ t then 1 / (x.1 : Rat) else 0
def tkQ : List Ln → Rat → Rat
  | [], _ => 0
  | x :: L, t => fL x t + tkQ L t
def rtQ : List Ln → Rat → Rat
  | [], _ => 0
  | x :: L, t => rL x t + rtQ L t
theorem qdiv_nonneg {a : Rat} {s : Int} (h : 0 ≤ a) (hs : 0 < s) : 0 ≤ a / (s : Rat) := by
  have h1 : (0 : Rat) < s := by exact_mod_cast hs
  have : 0 < (s : Rat)⁻¹ := Rat.inv_pos.mpr h1
  rw [Rat.div_def]
  exact Rat.mul_nonneg h (Rat.le_of_lt this)
theorem qdiv_pos {a : Rat} {s : Int} (h : 0 < a) (hs : 0 < s) : 0 < a / (s : Rat) := by
  have h1 : (0 : Rat) < s := by exact_mod_cast hs
  have : 0 < (s : Rat)⁻¹ := Rat.inv_pos.mpr h1
  rw [Rat.div_def]
  exact Rat.mul_pos h this
theorem fL_nonneg (x : Ln) (t : Rat) : 0 ≤ fL x t := by
  unfold fL; split
  · exact qdiv_nonneg (by grind) (by grind)
  · grind
theorem fL_pos {x : Ln} {t : Rat} : 0 < fL x t ↔ 0 < x.1 ∧ x.2 < t := by
  unfold fL; split
  · rename_i h
    exact ⟨fun _ => h, fun h => qdiv_pos (by grind) h.1⟩
  · rename_i h
    exact ⟨fun z => by grind, fun z => absurd z h⟩
theorem rL_nonneg (x : Ln) (t : Rat) : 0 ≤ rL x t := by
  unfold rL; split
  · exact qdiv_nonneg (by grind) (by grind)
  · grind
/-- a lane's flow is straight where its base does not lie between -/
theorem fL_line {x : Ln} {t u v : Rat} (h : 0 < x.1 → x.2 ≤ t ∨ u ≤ x.2) (h1 : t ≤ v) (h2 : v ≤ u) : fL x v = fL x t + (v - t) * rL x t := by
  unfold fL rL
  by_cases hs : 0 < x.1
  · have hq : (x.1 : Rat) ≠ 0 := by
      have : x.1 ≠ 0 := by omega
      exact_mod_cast this
    simp only [hs, true_and]
    rcases h hs with a | a
    · rw [if_pos a]
      by_cases c : x.2 < t
      · rw [if_pos c, if_pos (by grind)]; grind
      · have e : x.2 = t := by grind
        by_cases d : x.2 < v
        · rw [if_pos d, if_neg c]; grind
        · rw [if_neg d, if_neg c]; grind
    · rw [if_neg (by grind)]
      by_cases c : x.2 ≤ t
      · rw [if_pos c, if_neg (by grind)]
        have : v = t := by grind
        subst this
        grind
      · rw [if_neg c, if_neg (by grind)]; grind
  · simp only [hs, false_and, if_false]; grind
theorem fL_mono {x : Ln} {t u : Rat} (h : t ≤ u) : fL x t ≤ fL x u := by
  by_cases c : 0 < x.1 ∧ x.2 < u
  · by_cases d : x.2 ≤ t
    · have := fL_line (x := x) (u := u) (fun _ => .inl d) h (by grind)
      have := Rat.mul_nonneg (show 0 ≤ u - t by grind) (rL_nonneg x t)
      grind
    · have : fL x t = 0 := by unfold fL; rw [if_neg (by grind)]
      have := fL_nonneg x u
      grind
  · have : fL x u = 0 := by unfold fL; rw [if_neg c]
    have : fL x t = 0 := by unfold fL; rw [if_neg (by grind)]
    grind
theorem fL_strict {x : Ln} {t u : Rat} (h : t < u) (hp : 0 < fL x t) : fL x t < fL x u := by
  have c := fL_pos.mp hp
  have e := fL_line (x := x) (u := u) (fun _ => .inl (by grind)) (show t ≤ u by grind) (by grind)
  have : 0 < rL x t := by unfold rL; rw [if_pos ⟨c.1, by grind⟩]; exact qdiv_pos (by grind) c.1
  have := Rat.mul_pos (show 0 < u - t by grind) this
  grind
theorem tk_nonneg (L : List Ln) (t : Rat) : 0 ≤ tkQ L t := by
  induction L with
  | nil => exact Rat.le_refl
  | cons x L ih => have := fL_nonneg x t; simp only [tkQ]; grind
theorem rt_nonneg (L : List Ln) (t : Rat) : 0 ≤ rtQ L t := by
  induction L with
  | nil => exact Rat.le_refl
  | cons x L ih => have := rL_nonneg x t; simp only [rtQ]; grind
theorem tk_mono {L : List Ln} {t u : Rat} (h : t ≤ u) : tkQ L t ≤ tkQ L u := by
  induction L with
  | nil => exact Rat.le_refl
  | cons x L ih => have := fL_mono (x := x) h; simp only [tkQ]; grind
theorem tk_pos {L : List Ln} {t : Rat} : 0 < tkQ L t ↔ ∃ x ∈ L, 0 < x.1 ∧ x.2 < t := by
  induction L with
  | nil => simp [tkQ]
  | cons x L ih =>
    have h1 := fL_nonneg x t
    have h2 := tk_nonneg L t
    simp only [tkQ, List.mem_cons, exists_eq_or_imp]
    rw [← ih, ← fL_pos]
    constructor
    · intro h
      by_cases c : 0 < fL x t
      · exact .inl c
      · exact .inr (by grind)
    · rintro (h | h) <;> grind
theorem tk_zero {L : List Ln} {t : Rat} (h : ∀ x ∈ L, 0 < x.1 → t ≤ x.2) : tkQ L t = 0 := by
  have h1 := tk_nonneg L t
  have h2 : ¬ 0 < tkQ L t := fun z => by
    obtain ⟨x, hx, a, b⟩ := tk_pos.mp z
    have := h x hx a
    grind
  grind
theorem tk_strict {L : List Ln} {t u : Rat} (h : t < u) (hp : 0 < tkQ L t) : tkQ L t < tkQ L u := by
  induction L with
  | nil => simp [tkQ] at hp
  | cons x L ih =>
    have h1 := fL_mono (x := x) (Rat.le_of_lt h)
    have h2 := tk_mono (L := L) (Rat.le_of_lt h)
    have h3 := fL_nonneg x t
    have h4 := tk_nonneg L t
    simp only [tkQ] at hp ⊢
    by_cases c : 0 < fL x t
    · have := fL_strict h c; grind
    · have := ih (by grind); grind
/-- no base of a lane with a slope between t and u -/
def Free (L : List Ln) (t u : Rat) : Prop := ∀ x ∈ L, 0 < x.1 → x.2 ≤ t ∨ u ≤ x.2
theorem tk_line {L : List Ln} {t u v : Rat} (h : Free L t u) (h1 : t ≤ v) (h2 : v ≤ u) : tkQ L v = tkQ L t + (v - t) * rtQ L t := by
  induction L with
  | nil => simp only [tkQ, rtQ]; grind
  | cons x L ih =>
    have := fL_line (h x (by simp)) h1 h2
    have := ih fun y hy => h y (by simp [hy])
    simp only [tkQ, rtQ]; grind
theorem rL_mono {x : Ln} {t u : Rat} (h : t ≤ u) : rL x t ≤ rL x u := by
  unfold rL
  by_cases c : 0 < x.1 ∧ x.2 ≤ t
  · rw [if_pos c, if_pos ⟨c.1, by grind⟩]; exact Rat.le_refl
  · rw [if_neg c]; split
    · exact qdiv_nonneg (by grind) (by grind)
    · exact Rat.le_refl
theorem rt_mono {L : List Ln} {t u : Rat} (h : t ≤ u) : rtQ L t ≤ rtQ L u := by
  induction L with
  | nil => exact Rat.le_refl
  | cons x L ih => have := rL_mono (x := x) h; simp only [rtQ]; grind
theorem rt_strict {L : List Ln} {t u : Rat} (h : t < u) {x : Ln} (hx : x ∈ L) (h0 : 0 < x.1) (h1 : x.2 = u) : rtQ L t < rtQ L u := by
  induction L with
  | nil => cases hx
  | cons y L ih =>
    have a := rL_mono (x := y) (Rat.le_of_lt h)
    have b := rt_mono (L := L) (Rat.le_of_lt h)
    simp only [rtQ]
    rcases List.mem_cons.mp hx with rfl | hx
    · have e1 : rL x t = 0 := by unfold rL; rw [if_neg (by grind)]
      have e2 : 0 < rL x u := by unfold rL; rw [if_pos ⟨h0, by grind⟩]; exact qdiv_pos (by grind) h0
      grind
    · have := ih hx; grind
theorem rt_pos {L : List Ln} {t : Rat} {x : Ln} (hx : x ∈ L) (h0 : 0 < x.1) (h1 : x.2 ≤ t) : 0 < rtQ L t := by
  induction L with
  | nil => cases hx
  | cons y L ih =>
    have a := rL_nonneg y t
    have b := rt_nonneg L t
    simp only [rtQ]
    rcases List.mem_cons.mp hx with rfl | hx
    · have e2 : 0 < rL x t := by unfold rL; rw [if_pos ⟨h0, h1⟩]; exact qdiv_pos (by grind) h0
      grind
    · have := ih hx; grind
/-- t is the time at rest of a demand d -/
structure Lev (L : List Ln) (d t : Rat) : Prop where
  le : ∀ x ∈ L, x.1 = 0 → t ≤ x.2
  tk : tkQ L t ≤ d
  eq : tkQ L t = d ∨ ∃ x ∈ L, x.1 = 0 ∧ x.2 = t
theorem Lev.lt_no {L : List Ln} {d t u : Rat} (hd : 0 < d) (a : Lev L d t) (b : Lev L d u) : ¬ t < u := by
  intro h
  rcases a.eq with e | ⟨x, hx, h0, e⟩
  · have := tk_strict (L := L) h (by grind)
    have := b.tk
    grind
  · have := b.le x hx h0
    grind
theorem Lev.uniq {L : List Ln} {d t u : Rat} (hd : 0 < d) (a : Lev L d t) (b : Lev L d u) : t = u := by
  have := Lev.lt_no hd a b
  have := Lev.lt_no hd b a
  grind
/-! ## corners -/
/-- from one corner to the next one -/
structure Seg (L : List Ln) (d t d' t' : Rat) : Prop where
  tt : t ≤ t'
  e : d = tkQ L t
  dd : d < d'
  le : ∀ x ∈ L, x.1 = 0 → t' ≤ x.2
  k : (d' = tkQ L t' ∧ t < t' ∧ Free L t t') ∨ (t = t' ∧ ∃ x ∈ L, x.1 = 0 ∧ x.2 = t')
theorem Seg.mid {L : List Ln} {d t d' t' s : Rat} (h : Seg L d t d' t') (s0 : 0 ≤ s) (s1 : s ≤ 1) : Lev L (d + s * (d' - d)) (t + s * (t' - t)) := by
  have dd := h.dd
  have m0 := Rat.mul_nonneg s0 (show 0 ≤ d' - d by grind)
  rcases h.k with ⟨e', lt, fr⟩ | ⟨rfl, x, hx, h0, e'⟩
  · have m1 := Rat.mul_nonneg s0 (show 0 ≤ t' - t by grind)
    have m2 := Rat.mul_nonneg (show 0 ≤ 1 - s by grind) (show 0 ≤ t' - t by grind)
    have l1 := tk_line (v := t') fr (by grind) (by grind)
    have l2 := tk_line (v := t + s * (t' - t)) fr (by grind) (by grind)
    have e1 : tkQ L (t + s * (t' - t)) = d + s * (d' - d) := by rw [l2, e', l1, h.e]; grind
    exact ⟨fun x hx h0 => by have := h.le x hx h0; grind, by grind, .inl e1⟩
  · have e1 : t + s * (t - t) = t := by grind
    rw [e1]
    exact ⟨h.le, by rw [← h.e]; grind, .inr ⟨x, hx, h0, e'⟩⟩
theorem Seg.slower {L : List Ln} {d t d' t' d'' t'' : Rat} (a : Seg L d t d' t') (b : Seg L d' t' d'' t'') (h : ∃ x ∈ L, 0 ≤ x.1 ∧ x.2 = t') : (t'' - t') * (d' - d) < (t' - t) * (d'' - d') := by
  have d1 := a.dd
  have d2 := b.dd
  have a1 := a.k
  rcases a1 with ⟨e1, lt1, f1⟩ | ⟨rfl, _⟩
  · rcases b.k with ⟨e2, lt2, f2⟩ | ⟨rfl, _⟩
    · obtain ⟨x, hx, h0, hb⟩ := h
      have h0' : 0 < x.1 := by
        by_cases c : x.1 = 0
        · have := b.le x hx c
          grind
        · omega
      have r := rt_strict lt1 hx h0' hb
      have l1 := tk_line (v := t') f1 (by grind) (by grind)
      have l2 := tk_line (v := t'') f2 (by grind) (by grind)
      have ea := a.e
      have eb := b.e
      have q1 : d' - d = (t' - t) * rtQ L t := by grind
      have q2 : d'' - d' = (t'' - t') * rtQ L t' := by grind
      rw [q1, q2]
      have := Rat.mul_pos (Rat.mul_pos (show 0 < t'' - t' by grind) (show 0 < t' - t by grind)) (show 0 < rtQ L t' - rtQ L t by grind)
      grind
    · have := Rat.mul_pos (show 0 < t' - t by grind) (show 0 < d'' - d' by grind)
      grind
  · have := a.e
    have := b.e
    grind
/-! ## sorting -/
def insQ (q : Rat) (l : List Rat) : List Rat := l.take (l.filter fun o => !decide (q < o)).length ++ q :: l.drop (l.filter fun o => !decide (q < o)).length
def sortQ (some : List Rat) : List Rat := some.foldl (fun l q => insQ q l) []
abbrev Srt (l : List Rat) : Prop := l.Pairwise (· ≤ ·)
theorem split_srt {q : Rat} {l : List Rat} (h : Srt l) : l.take (l.filter fun o => !decide (q < o)).length = (l.filter fun o => !decide (q < o)) ∧ l.drop (l.filter fun o => !decide (q < o)).length = (l.filter fun o => decide (q < o)) := by
  induction l with
  | nil => simp
  | cons x l ih =>
    have ⟨h1, h2⟩ := List.pairwise_cons.mp h
    by_cases c : q < x
    · have e1 : (l.filter fun o => !decide (q < o)) = [] := by
        rw [List.filter_eq_nil_iff]
        intro y hy
        have := h1 y hy
        simp
        grind
      have e2 : (l.filter fun o => decide (q < o)) = l := by
        rw [List.filter_eq_self]
        intro y hy
        have := h1 y hy
        simp
        grind
      simp [c, e1, e2]
    · have := ih h2
      simp [c, this.1, this.2]
theorem mem_ins {q x : Rat} {l : List Rat} : x ∈ insQ q l ↔ x = q ∨ x ∈ l := by
  unfold insQ
  generalize (l.filter fun o => !decide (q < o)).length = n
  have e : x ∈ l ↔ x ∈ l.take n ∨ x ∈ l.drop n := by rw [← List.mem_append, List.take_append_drop]
  rw [e]
  simp
  grind
theorem len_ins {q : Rat} {l : List Rat} : (insQ q l).length = l.length + 1 := by
  unfold insQ
  simp
  omega
theorem srt_ins {q : Rat} {l : List Rat} (h : Srt l) : Srt (insQ q l) := by
  unfold insQ
  rw [(split_srt h).1, (split_srt h).2]
  refine List.pairwise_append.mpr ⟨h.filter _, List.pairwise_cons.mpr ⟨fun y hy => ?_, h.filter _⟩, fun a ha b hb => ?_⟩
  · simp at hy
    grind
  · simp at ha hb
    rcases hb with rfl | hb
    · grind
    · grind
theorem sort_aux {s l : List Rat} (h : Srt l) : Srt (s.foldl (fun l q => insQ q l) l) ∧ (∀ x, x ∈ s.foldl (fun l q => insQ q l) l ↔ x ∈ l ∨ x ∈ s) ∧ (s.foldl (fun l q => insQ q l) l).length = l.length + s.length := by
  induction s generalizing l with
  | nil => simp; exact h
  | cons q s ih =>
    have ⟨a, b, c⟩ := ih (srt_ins (q := q) h)
    refine ⟨a, fun x => ?_, ?_⟩
    · simp only [List.foldl_cons, b, mem_ins, List.mem_cons]
      grind
    · simp only [List.foldl_cons, c, len_ins, List.length_cons]
      omega
theorem srt_sort (s : List Rat) : Srt (sortQ s) := (sort_aux List.Pairwise.nil).1
theorem mem_sort {s : List Rat} {x : Rat} : x ∈ sortQ s ↔ x ∈ s := by rw [sortQ, (sort_aux List.Pairwise.nil).2.1]; simp
theorem len_sort {s : List Rat} : (sortQ s).length = s.length := by rw [sortQ, (sort_aux List.Pairwise.nil).2.2]; simp
theorem srt_get {l : List Rat} (h : Srt l) {i j : Nat} {a b : Rat} (hij : i ≤ j) (ha : l[i]? = some a) (hb : l[j]? = some b) : a ≤ b := by
  rcases Nat.lt_or_eq_of_le hij with c | rfl
  · obtain ⟨h1, rfl⟩ := List.getElem?_eq_some_iff.mp ha
    obtain ⟨h2, rfl⟩ := List.getElem?_eq_some_iff.mp hb
    exact List.pairwise_iff_getElem.mp h i j h1 h2 c
  · rw [ha] at hb
    cases hb
    exact Rat.le_refl
/-- the least one of a sorted list -/
theorem srt_head {l : List Rat} (h : Srt l) {a x : Rat} (ha : l[0]? = some a) (hx : x ∈ l) : a ≤ x := by
  obtain ⟨j, hj⟩ := List.mem_iff_getElem?.mp hx
  exact srt_get h (Nat.zero_le j) ha hj
/-! ## the time at rest -/
theorem lev_time {L : List Ln} {d b : Rat} {lt : Option Rat} (hb : tkQ L b < d) {x : Ln} (hx : x ∈ L) (h0 : 0 < x.1) (h1 : x.2 = b)
    (hl : match lt with | none => ∀ y ∈ L, 0 < y.1 → y.2 ≤ b | some u => b ≤ u ∧ d ≤ tkQ L u ∧ Free L b u) :
    tkQ L (b + (d - tkQ L b) / rtQ L b) = d ∧ b < b + (d - tkQ L b) / rtQ L b := by
  have r := rt_pos hx h0 (show x.2 ≤ b by grind)
  have p : 0 < (d - tkQ L b) / rtQ L b := by
    rw [Rat.lt_div_iff r]
    grind
  have m : (d - tkQ L b) / rtQ L b * rtQ L b = d - tkQ L b := by
    have : rtQ L b ≠ 0 := by grind
    grind
  refine ⟨?_, by grind⟩
  have go : ∀ u, b + (d - tkQ L b) / rtQ L b ≤ u → Free L b u → tkQ L (b + (d - tkQ L b) / rtQ L b) = d := by
    intro u hu f
    have l1 := tk_line (v := b + (d - tkQ L b) / rtQ L b) f (by grind) hu
    rw [l1]
    grind
  cases lt with
  | none => exact go _ Rat.le_refl fun y hy hp => .inl (hl y hy hp)
  | some u =>
    obtain ⟨a, b', f⟩ := hl
    refine go u ?_ f
    have l1 := tk_line (v := u) f a Rat.le_refl
    have : ¬ u < b + (d - tkQ L b) / rtQ L b := by
      intro z
      have := Rat.mul_pos (show 0 < b + (d - tkQ L b) / rtQ L b - u by grind) r
      grind
    grind
theorem lev_steep {L : List Ln} {d t : Rat} (e : tkQ L t = d) (h : ∀ x ∈ L, x.1 = 0 → t ≤ x.2) : Lev L d t := ⟨h, by grind, .inl e⟩
theorem lev_flat {L : List Ln} {d t m : Rat} (e : tkQ L t = d) (hm : m ≤ t) {x : Ln} (hx : x ∈ L) (h0 : x.1 = 0) (h1 : x.2 = m) (h : ∀ x ∈ L, x.1 = 0 → m ≤ x.2) : Lev L d m := ⟨h, by have := tk_mono (L := L) hm; grind, .inr ⟨x, hx, h0, h1⟩⟩
theorem lev_only {L : List Ln} {d m : Rat} (hd : 0 < d) (hn : ∀ x ∈ L, ¬ 0 < x.1) {x : Ln} (hx : x ∈ L) (h0 : x.1 = 0) (h1 : x.2 = m) (h : ∀ x ∈ L, x.1 = 0 → m ≤ x.2) : Lev L d m :=
  ⟨h, by rw [tk_zero fun x hx h => absurd h (hn x hx)]; grind, .inr ⟨x, hx, h0, h1⟩⟩
/-! ## corners -/
/-- all the corners found so far -/
structure Crn (L : List Ln) (M b0 : Rat) (ps : List Rat) (cs : List (Rat × Rat)) (d t : Rat) : Prop where
  hd : cs[0]? = some (0, b0)
  la : cs.getLast? = some (d, t)
  seg : ∀ (i : Nat) (c c' : Rat × Rat), cs[i]? = some c → cs[i + 1]? = some c' → Seg L c.1 c.2 c'.1 c'.2
  ba : ∀ c ∈ cs, ∃ x ∈ L, x.2 = c.2
  e : d = tkQ L t
  dM : d < M
  le : ∀ x ∈ L, x.1 = 0 → t ≤ x.2
  pr : ∀ b ∈ ps, b ≤ t ∨ (∃ x ∈ L, x.1 = 0 ∧ x.2 < b) ∨ M ≤ tkQ L b
section
variable {L : List Ln} {M b0 : Rat} {ps : List Rat} {cs : List (Rat × Rat)} {d t : Rat}
theorem seg_snoc {c0 : Rat × Rat} (la : cs.getLast? = some c0) {c1 : Rat × Rat} (seg : ∀ (i : Nat) (c c' : Rat × Rat), cs[i]? = some c → cs[i + 1]? = some c' → Seg L c.1 c.2 c'.1 c'.2) (h : Seg L c0.1 c0.2 c1.1 c1.2) (i : Nat) (c c' : Rat × Rat)
    (h1 : (cs ++ [c1])[i]? = some c) (h2 : (cs ++ [c1])[i + 1]? = some c') : Seg L c.1 c.2 c'.1 c'.2 := by
  have hl : cs ≠ [] := by rintro rfl; cases la
  have hp : 0 < cs.length := List.length_pos_iff.mpr hl
  by_cases hi : i + 1 < cs.length
  · rw [List.getElem?_append_left (by omega)] at h1
    rw [List.getElem?_append_left hi] at h2
    exact seg i c c' h1 h2
  · by_cases hi' : i + 1 = cs.length
    · rw [List.getElem?_append_left (by omega)] at h1
      rw [hi', List.getElem?_append_right (Nat.le_refl _)] at h2
      simp at h2
      rw [List.getLast?_eq_getElem?] at la
      rw [show cs.length - 1 = i by omega, h1] at la
      cases la
      cases h2
      exact h
    · rw [List.getElem?_eq_none (by simp; omega)] at h2
      cases h2
theorem Crn.skip {b : Rat} (h : Crn L M b0 ps cs d t) (hb : b ≤ t ∨ (∃ x ∈ L, x.1 = 0 ∧ x.2 < b) ∨ M ≤ tkQ L b) : Crn L M b0 (ps ++ [b]) cs d t :=
  ⟨h.hd, h.la, h.seg, h.ba, h.e, h.dM, h.le, fun b' hb' => by
    rcases List.mem_append.mp hb' with z | z
    · exact h.pr b' z
    · rw [List.mem_singleton] at z
      exact z ▸ hb⟩
/-- a base at which nothing is taken lies not above the first one -/
theorem Crn.low {b : Rat} (h : Crn L M b0 ps cs d t) (h0 : ∃ x ∈ L, 0 ≤ x.1 ∧ x.2 = b0) (ht : b0 ≤ t) (hb : tkQ L b = 0) (hu : ∀ x ∈ L, x.1 = 0 → b ≤ x.2) : b ≤ t := by
  obtain ⟨x, hx, h0, e⟩ := h0
  by_cases c : x.1 = 0
  · have := hu x hx c
    grind
  · have : ¬ x.2 < b := fun z => by
      have := tk_pos.mpr ⟨x, hx, by omega, z⟩
      grind
    grind
theorem Crn.same {b : Rat} (h : Crn L M b0 ps cs d t) (hb : tkQ L b = d) (hp : 0 < d) : b ≤ t := by
  have : ¬ t < b := fun z => by
    have := tk_strict (L := L) z (by have := h.e; grind)
    have := h.e
    grind
  grind
theorem Crn.free {b : Rat} (h : Crn L M b0 ps cs d t) (hps : ∀ x ∈ L, 0 < x.1 → x.2 < b → x.2 ∈ ps) (hu : ∀ x ∈ L, x.1 = 0 → b ≤ x.2) (hM : tkQ L b ≤ M) (hMp : 0 < M) : Free L t b := by
  intro x hx hp
  by_cases c : x.2 < b
  · rcases h.pr _ (hps x hx hp c) with z | ⟨y, hy, hy0, hyb⟩ | z
    · exact .inl z
    · have := hu y hy hy0
      grind
    · have := tk_strict (L := L) c (by grind)
      grind
  · exact .inr (by grind)
theorem Crn.snoc {b : Rat} (h : Crn L M b0 ps cs d t) (hps : ∀ x ∈ L, 0 < x.1 → x.2 < b → x.2 ∈ ps) (hbL : ∃ x ∈ L, x.2 = b) (hu : ∀ x ∈ L, x.1 = 0 → b ≤ x.2) (hp : 0 < tkQ L b) (hM : tkQ L b < M) (hd : tkQ L b ≠ d) (htb : ∀ b' ∈ ps, b' ≤ b) (ht : t ∈ ps ∨ t ≤ b) :
    Crn L M b0 (ps ++ [b]) (cs ++ [(tkQ L b, b)]) (tkQ L b) b := by
  have tb : t ≤ b := by
    rcases ht with z | z
    · exact htb t z
    · exact z
  have ne : t ≠ b := by rintro rfl; exact hd h.e.symm
  have lt : t < b := by grind
  have hl : cs ≠ [] := by rintro rfl; cases h.la
  have dd : d < tkQ L b := by
    have := tk_mono (L := L) tb
    have := h.e
    grind
  refine ⟨?_, by simp, seg_snoc h.la h.seg ⟨tb, h.e, dd, hu, .inl ⟨rfl, lt, h.free hps hu (by grind) (by grind)⟩⟩, fun c hc => ?_, rfl, hM, hu, fun b' hb' => ?_⟩
  · rw [List.getElem?_append_left (List.length_pos_iff.mpr hl)]
    exact h.hd
  · rcases List.mem_append.mp hc with z | z
    · exact h.ba c z
    · rw [List.mem_singleton] at z
      subst z
      exact hbL
  · rcases List.mem_append.mp hb' with z | z
    · exact .inl (htb b' z)
    · rw [List.mem_singleton] at z
      exact .inl (by rw [z]; exact Rat.le_refl)
/-- the last corner -/
theorem Crn.fin {u : Rat} (h : Crn L M b0 ps cs d t) (hM : 0 < M) (hps : ∀ x ∈ L, x.2 ∈ ps) (hu : Lev L M u) : Seg L d t M u := by
  have e := h.e
  have dM := h.dM
  have tu : t ≤ u := by
    have : ¬ u < t := fun z => by
      rcases hu.eq with q | ⟨x, hx, h0, q⟩
      · have := tk_mono (L := L) (Rat.le_of_lt z)
        grind
      · have := h.le x hx h0
        grind
    grind
  refine ⟨tu, e, dM, hu.le, ?_⟩
  rcases hu.eq with q | ⟨x, hx, h0, q⟩
  · refine .inl ⟨q.symm, ?_, h.free (fun x hx _ _ => hps x hx) hu.le hu.tk hM⟩
    have : t ≠ u := by rintro rfl; grind
    grind
  · by_cases c : tkQ L u = M
    · refine .inl ⟨c.symm, ?_, h.free (fun x hx _ _ => hps x hx) hu.le hu.tk hM⟩
      have : t ≠ u := by rintro rfl; grind
      grind
    · refine .inr ⟨?_, x, hx, h0, q⟩
      rcases h.pr u (q ▸ hps x hx) with z | ⟨y, hy, hy0, hyb⟩ | z
      · grind
      · have := hu.le y hy hy0
        grind
      · have := hu.tk
        grind
end
end Tr
namespace Tr
/-! ## flows at rest -/
def sumQ : List Rat → Rat
  | [] => 0
  | q :: s => q + sumQ s
def flQ : List Ln → Rat → Rat → List Rat
  | [], _, _ => []
  | x :: L, t, r => if 0 < x.1 then fL x t :: flQ L t r else if x.2 = t then r :: flQ L t 0 else 0 :: flQ L t r
/-- flows that rest at a time -/
def RestQ : List Ln → List Rat → Rat → Prop
  | [], [], _ => True
  | x :: L, f :: fs, t => 0 ≤ f ∧ t ≤ x.1 * f + x.2 ∧ (0 < f → x.1 * f + x.2 = t) ∧ RestQ L fs t
  | _, _, _ => False
/-- the sum of all flows times their times -/
def whQ : List Ln → List Rat → Rat
  | x :: L, f :: fs => f * (x.1 * f + x.2) + whQ L fs
  | _, _ => 0
def Pos0 (fs : List Rat) : Prop := ∀ f ∈ fs, 0 ≤ f
def Lok (L : List Ln) : Prop := ∀ x ∈ L, 0 ≤ x.1 ∧ 0 ≤ x.2
def steepQ (L : List Ln) : List Ln := L.map fun x => (2 * x.1, x.2)
theorem scast {s : Int} (h : 0 ≤ s) : (0 : Rat) ≤ (s : Rat) := by exact_mod_cast h
theorem fL_time {x : Ln} {t : Rat} (h : 0 < x.1) : t ≤ x.1 * fL x t + x.2 ∧ (0 < fL x t → x.1 * fL x t + x.2 = t) := by
  have hq : (x.1 : Rat) ≠ 0 := by
    have : x.1 ≠ 0 := by omega
    exact_mod_cast this
  unfold fL
  by_cases c : x.2 < t
  · rw [if_pos ⟨h, c⟩]
    have e : (x.1 : Rat) * ((t - x.2) / x.1) = t - x.2 := by grind
    constructor
    · grind
    · intro _; grind
  · rw [if_neg (by grind)]
    constructor
    · grind
    · intro z; grind
theorem fl_rest {L : List Ln} {t r : Rat} (h1 : ∀ x ∈ L, 0 ≤ x.1) (h2 : ∀ x ∈ L, x.1 = 0 → t ≤ x.2) (hr : 0 ≤ r) : RestQ L (flQ L t r) t := by
  induction L generalizing r with
  | nil => trivial
  | cons x L ih =>
    have i1 := fun (r : Rat) (hr : 0 ≤ r) => ih (r := r) (fun y hy => h1 y (by simp [hy])) (fun y hy => h2 y (by simp [hy])) hr
    simp only [flQ]
    by_cases c : 0 < x.1
    · rw [if_pos c]
      exact ⟨fL_nonneg x t, (fL_time c).1, (fL_time c).2, i1 r hr⟩
    · rw [if_neg c]
      have e : x.1 = 0 := by have := h1 x (by simp); omega
      have ec : (x.1 : Rat) = 0 := by rw [e]; rfl
      have hb := h2 x (by simp) e
      by_cases c2 : x.2 = t
      · rw [if_pos c2]
        exact ⟨hr, by rw [ec]; grind, fun _ => by rw [ec]; grind, i1 0 (by grind)⟩
      · rw [if_neg c2]
        exact ⟨by grind, by rw [ec]; grind, fun z => by grind, i1 r hr⟩
theorem fl_sum0 {L : List Ln} {t : Rat} : sumQ (flQ L t 0) = tkQ L t := by
  induction L with
  | nil => rfl
  | cons x L ih =>
    simp only [flQ, tkQ]
    by_cases c : 0 < x.1
    · rw [if_pos c]; simp only [sumQ, ih]
    · have e : fL x t = 0 := by unfold fL; rw [if_neg (by grind)]
      rw [if_neg c, e]
      split <;> simp only [sumQ, ih]
theorem fl_sum {L : List Ln} {t r : Rat} (h : r = 0 ∨ ∃ x ∈ L, x.1 = 0 ∧ x.2 = t) : sumQ (flQ L t r) = tkQ L t + r := by
  rcases h with rfl | h
  · rw [fl_sum0]; grind
  · induction L with
    | nil => obtain ⟨x, hx, _⟩ := h; cases hx
    | cons x L ih =>
      simp only [flQ, tkQ]
      by_cases c : 0 < x.1
      · rw [if_pos c]
        obtain ⟨y, hy, h0, h1⟩ := h
        rcases List.mem_cons.mp hy with rfl | hy
        · omega
        · simp only [sumQ, ih ⟨y, hy, h0, h1⟩]; grind
      · have e : fL x t = 0 := by unfold fL; rw [if_neg (by grind)]
        rw [if_neg c, e]
        by_cases c2 : x.2 = t
        · rw [if_pos c2]
          simp only [sumQ, fl_sum0]; grind
        · rw [if_neg c2]
          obtain ⟨y, hy, h0, h1⟩ := h
          rcases List.mem_cons.mp hy with rfl | hy
          · exact absurd h1 c2
          · simp only [sumQ, ih ⟨y, hy, h0, h1⟩]; grind
theorem Lev.flows {L : List Ln} {d t : Rat} (h1 : ∀ x ∈ L, 0 ≤ x.1) (h : Lev L d t) : RestQ L (flQ L t (d - tkQ L t)) t ∧ sumQ (flQ L t (d - tkQ L t)) = d := by
  have hr : 0 ≤ d - tkQ L t := by have := h.tk; grind
  refine ⟨fl_rest h1 h.le hr, ?_⟩
  rw [fl_sum]
  · grind
  · rcases h.eq with e | e
    · exact .inl (by grind)
    · exact .inr e
theorem RestQ.len {L : List Ln} {f : List Rat} {t : Rat} (h : RestQ L f t) : f.length = L.length := by
  induction L generalizing f with
  | nil => cases f with
    | nil => rfl
    | cons _ _ => exact h.elim
  | cons x L ih => cases f with
    | nil => exact h.elim
    | cons y f => simp [ih h.2.2.2]
theorem RestQ.pos {L : List Ln} {f : List Rat} {t : Rat} (h : RestQ L f t) : Pos0 f := by
  induction L generalizing f with
  | nil => cases f with
    | nil => intro _ h; cases h
    | cons _ _ => exact h.elim
  | cons x L ih => cases f with
    | nil => exact h.elim
    | cons y f =>
      intro z hz
      rcases List.mem_cons.mp hz with rfl | hz
      · exact h.1
      · exact ih h.2.2.2 z hz
theorem rest_whole {L : List Ln} {f : List Rat} {t : Rat} (h : RestQ L f t) : whQ L f = t * sumQ f := by
  induction L generalizing f with
  | nil => cases f with
    | nil => simp only [whQ, sumQ]; grind
    | cons _ _ => exact h.elim
  | cons x L ih => cases f with
    | nil => exact h.elim
    | cons y f =>
      simp only [whQ, sumQ, ih h.2.2.2]
      have : y * (x.1 * y + x.2) = y * t := by
        by_cases c : 0 < y
        · rw [h.2.2.1 c]
        · have : y = 0 := by have := h.1; grind
          rw [this]; grind
      grind
theorem lane_quarter {s b f g : Rat} (hs : 0 ≤ s) (hb : 0 ≤ b) (hf : 0 ≤ f) : g * (s * f + b) ≤ g * (s * g + b) + f * (s * f + b) / 4 := by
  have h1 := Rat.mul_nonneg hs (show 0 ≤ (g - f / 2) * (g - f / 2) by
    rcases @Rat.le_total 0 (g - f / 2) with z | z
    · exact Rat.mul_nonneg z z
    · have := Rat.mul_nonneg (show 0 ≤ -(g - f / 2) by grind) (show 0 ≤ -(g - f / 2) by grind)
      grind)
  have h2 := Rat.mul_nonneg hf hb
  grind
theorem rest_quarter {L : List Ln} {f g : List Rat} {t : Rat} (hL : Lok L) (h : RestQ L f t) (hg : Pos0 g) (hl : g.length = L.length) : t * sumQ g ≤ whQ L g + whQ L f / 4 := by
  induction L generalizing f g with
  | nil => cases g with
    | nil => cases f with
      | nil => simp only [whQ, sumQ]; grind
      | cons _ _ => exact h.elim
    | cons _ _ => simp at hl
  | cons x L ih => cases f with
    | nil => exact h.elim
    | cons y f => cases g with
      | nil => simp at hl
      | cons z g =>
        have i := ih (g := g) (fun y hy => hL y (by simp [hy])) h.2.2.2 (fun y hy => hg y (by simp [hy])) (by simpa using hl)
        simp only [whQ, sumQ]
        have hx := hL x (by simp)
        have q := lane_quarter (s := x.1) (b := x.2) (f := y) (g := z) (scast hx.1) hx.2 h.1
        have m := Rat.mul_nonneg (hg z (by simp)) (show 0 ≤ x.1 * y + x.2 - t by have := h.2.1; grind)
        grind
theorem lane_tangent {s b y g l : Rat} (hs : 0 ≤ s) (hy : 0 ≤ y) (hg : 0 ≤ g) (h1 : l ≤ 2 * s * y + b) (h2 : 0 < y → 2 * s * y + b = l) : y * (s * y + b) + l * (g - y) ≤ g * (s * g + b) := by
  have q := Rat.mul_nonneg hs (show 0 ≤ (g - y) * (g - y) by
    rcases @Rat.le_total 0 (g - y) with z | z
    · exact Rat.mul_nonneg z z
    · have := Rat.mul_nonneg (show 0 ≤ -(g - y) by grind) (show 0 ≤ -(g - y) by grind)
      grind)
  have m := Rat.mul_nonneg hg (show 0 ≤ 2 * s * y + b - l by grind)
  have e : y * (2 * s * y + b) = y * l := by
    by_cases c : 0 < y
    · rw [h2 c]
    · have : y = 0 := by grind
      rw [this]; grind
  grind
theorem best_tangent {L : List Ln} {y g : List Rat} {l : Rat} (hL : Lok L) (h : RestQ (steepQ L) y l) (hg : Pos0 g) (hl : g.length = L.length) : whQ L y + l * (sumQ g - sumQ y) ≤ whQ L g := by
  induction L generalizing y g with
  | nil => cases g with
    | nil => cases y with
      | nil => simp only [whQ, sumQ]; grind
      | cons _ _ => exact h.elim
    | cons _ _ => simp at hl
  | cons x L ih => cases y with
    | nil => exact h.elim
    | cons y ys => cases g with
      | nil => simp at hl
      | cons z g =>
        obtain ⟨a, b, c, d⟩ := h
        have i := ih (g := g) (fun y hy => hL y (by simp [hy])) d (fun y hy => hg y (by simp [hy])) (by simpa using hl)
        simp only [whQ, sumQ]
        have hx := hL x (by simp)
        have e : ((2 * x.1 : Int) : Rat) = 2 * (x.1 : Rat) := by push_cast; rfl
        simp only [e] at b c
        have q := lane_tangent (s := x.1) (b := x.2) (y := y) (g := z) (l := l) (scast hx.1) a (hg z (by simp)) b c
        grind
theorem best_least {L : List Ln} {y g : List Rat} {l : Rat} (hL : Lok L) (h : RestQ (steepQ L) y l) (hg : Pos0 g) (hl : g.length = L.length) (hs : sumQ g = sumQ y) : whQ L y ≤ whQ L g := by
  have := best_tangent hL h hg hl
  rw [hs] at this
  grind
theorem wh_nonneg {L : List Ln} {f : List Rat} (hL : Lok L) (hf : Pos0 f) : 0 ≤ whQ L f := by
  induction L generalizing f with
  | nil => exact Rat.le_refl
  | cons x L ih => cases f with
    | nil => exact Rat.le_refl
    | cons y f =>
      have hx := hL x (by simp)
      have hy := hf y (by simp)
      have i := ih (fun y hy => hL y (by simp [hy])) (f := f) (fun y hy => hf y (by simp [hy]))
      have m := Rat.mul_nonneg hy (show 0 ≤ x.1 * y + x.2 by have := Rat.mul_nonneg (scast hx.1) hy; have := hx.2; grind)
      simp only [whQ]
      grind
theorem wh_double {L : List Ln} {f : List Rat} (hL : Lok L) (hf : Pos0 f) : whQ L (f.map (2 * ·)) ≤ 4 * whQ L f := by
  induction L generalizing f with
  | nil => simp only [whQ]; grind
  | cons x L ih => cases f with
    | nil => simp only [List.map_nil, whQ]; grind
    | cons y f =>
      have hx := hL x (by simp)
      have hy := hf y (by simp)
      have i := ih (fun y hy => hL y (by simp [hy])) (f := f) (fun y hy => hf y (by simp [hy]))
      have m := Rat.mul_nonneg hy hx.2
      simp only [List.map_cons, whQ]
      grind
theorem wh_half {L : List Ln} {f : List Rat} (hL : Lok L) (hf : Pos0 f) : 2 * whQ L (f.map (· / 2)) ≤ whQ L f := by
  induction L generalizing f with
  | nil => simp only [whQ]; grind
  | cons x L ih => cases f with
    | nil => simp only [List.map_nil, whQ]; grind
    | cons y f =>
      have hx := hL x (by simp)
      have hy := hf y (by simp)
      have i := ih (fun y hy => hL y (by simp [hy])) (f := f) (fun y hy => hf y (by simp [hy]))
      have m := Rat.mul_nonneg hy (Rat.mul_nonneg (scast hx.1) hy)
      simp only [List.map_cons, whQ]
      grind
theorem sum_map_mul {f : List Rat} {c : Rat} : sumQ (f.map (c * ·)) = c * sumQ f := by
  induction f with
  | nil => simp only [List.map_nil, sumQ]; grind
  | cons y f ih => simp only [List.map_cons, sumQ, ih]; grind
theorem sum_map_half {f : List Rat} : sumQ (f.map (· / 2)) = sumQ f / 2 := by
  induction f with
  | nil => simp only [List.map_nil, sumQ]; grind
  | cons y f ih => simp only [List.map_cons, sumQ, ih]; grind
/-! ### order -/
theorem tk_append {L M : List Ln} {t : Rat} : tkQ (L ++ M) t = tkQ L t + tkQ M t := by
  induction L with
  | nil => simp only [List.nil_append, tkQ]; grind
  | cons x L ih => simp only [List.cons_append, tkQ, ih]; grind
theorem tk_reverse {L : List Ln} {t : Rat} : tkQ L.reverse t = tkQ L t := by
  induction L with
  | nil => rfl
  | cons x L ih => rw [List.reverse_cons, tk_append, ih]; simp only [tkQ]; grind
theorem Lev.rev {L : List Ln} {d t : Rat} (h : Lev L d t) : Lev L.reverse d t :=
  ⟨fun x hx => h.le x (List.mem_reverse.mp hx), by rw [tk_reverse]; exact h.tk, by
    rw [tk_reverse]
    rcases h.eq with e | ⟨x, hx, h0⟩
    · exact .inl e
    · exact .inr ⟨x, List.mem_reverse.mpr hx, h0⟩⟩
theorem Lev.more {L : List Ln} {x : Ln} {d t t' : Rat} (hd : 0 < d) (h : Lev L d t) (h' : Lev (L ++ [x]) d t') : ¬ t < t' := by
  intro z
  rcases h.eq with e | ⟨y, hy, h0, e⟩
  · have a := tk_append (L := L) (M := [x]) (t := t)
    have b := tk_nonneg [x] t
    have c := tk_strict (L := L ++ [x]) z (by grind)
    have := h'.tk
    grind
  · have := h'.le y (by simp [hy]) h0
    grind
theorem sum_append {f g : List Rat} : sumQ (f ++ g) = sumQ f + sumQ g := by
  induction f with
  | nil => simp only [List.nil_append, sumQ]; grind
  | cons x L ih => simp only [List.cons_append, sumQ, ih]; grind
theorem sum_reverse {f : List Rat} : sumQ f.reverse = sumQ f := by
  induction f with
  | nil => rfl
  | cons x L ih => rw [List.reverse_cons, sum_append, ih]; simp only [sumQ]; grind
theorem rest_append {L M : List Ln} {f g : List Rat} {t : Rat} (h : RestQ L f t) (h' : RestQ M g t) : RestQ (L ++ M) (f ++ g) t := by
  induction L generalizing f with
  | nil => cases f with
    | nil => exact h'
    | cons _ _ => exact h.elim
  | cons x L ih => cases f with
    | nil => exact h.elim
    | cons y f => exact ⟨h.1, h.2.1, h.2.2.1, ih h.2.2.2⟩
theorem rest_reverse {L : List Ln} {f : List Rat} {t : Rat} (h : RestQ L f t) : RestQ L.reverse f.reverse t := by
  induction L generalizing f with
  | nil => cases f with
    | nil => trivial
    | cons _ _ => exact h.elim
  | cons x L ih => cases f with
    | nil => exact h.elim
    | cons y f =>
      rw [List.reverse_cons, List.reverse_cons]
      exact rest_append (ih h.2.2.2) ⟨h.1, h.2.1, h.2.2.1, trivial⟩
theorem srt_perm {a b : List Rat} (ha : a.Pairwise (· ≤ ·)) (hb : b.Pairwise (· ≤ ·)) (h : List.Perm a b) : a = b :=
  h.eq_of_pairwise (fun x y _ _ h1 h2 => by grind) ha hb
/-! ### the corners, told at once -/
open Classical in
noncomputable def cstep (L : List Ln) (M : Rat) (cs : List (Rat × Rat)) (b : Rat) : List (Rat × Rat) :=
  if (∀ x ∈ L, x.1 = 0 → b ≤ x.2) ∧ 0 < tkQ L b ∧ tkQ L b < M ∧ cs.getLast?.map (·.1) ≠ some (tkQ L b) then cs ++ [(tkQ L b, b)] else cs
noncomputable def cornQ (L : List Ln) (M b0 : Rat) (bs : List Rat) : List (Rat × Rat) := bs.foldl (cstep L M) [(0, b0)]
theorem cstep_reverse {L : List Ln} : cstep L.reverse = cstep L := by
  funext M cs b
  unfold cstep
  simp only [tk_reverse, List.mem_reverse]
theorem corn_reverse {L : List Ln} {M b0 : Rat} {bs : List Rat} : cornQ L.reverse M b0 bs = cornQ L M b0 bs := by unfold cornQ; rw [cstep_reverse]
theorem sort_aux_perm {s l : List Rat} : List.Perm (s.foldl (fun l q => insQ q l) l) (l ++ s) := by
  induction s generalizing l with
  | nil => simp
  | cons q s ih =>
    rw [List.foldl_cons]
    refine (ih (l := insQ q l)).trans ?_
    have : List.Perm (insQ q l) (l ++ [q]) := by
      unfold insQ
      generalize (l.filter fun o => !decide (q < o)).length = n
      refine List.perm_middle.trans ?_
      rw [List.take_append_drop]
      exact (List.perm_append_singleton q l).symm
    have h := this.append_right s
    simpa using h
theorem sort_perm {s : List Rat} : List.Perm (sortQ s) s := by
  have := sort_aux_perm (s := s) (l := [])
  simpa [sortQ] using this
theorem sort_reverse {s : List Rat} : sortQ s.reverse = sortQ s := srt_perm (srt_sort _) (srt_sort _) (sort_perm.trans ((List.reverse_perm s).trans sort_perm.symm))
end Tr
namespace Tr
/-! ## leaders -/
def leftQ : List Ln → List Rat → List Ln
  | x :: L, f :: fs => (x.1, x.1 * f + x.2) :: leftQ L fs
  | _, _ => []
def tmsQ : List Ln → List Rat → List Rat
  | x :: L, f :: fs => (x.1 * f + x.2) :: tmsQ L fs
  | _, _ => []
def slowQ (c : Int) (L : List Ln) : List Ln := L.map fun x => (x.1 * c, x.2 * c)
def stpQ (c : Int) (L : List Ln) : List Ln := L.map fun x => (x.1 * c, x.2)
theorem rest_tk {L : List Ln} {z : List Rat} {t : Rat} (h1 : ∀ x ∈ L, 0 ≤ x.1) (h : RestQ L z t) : (∀ x ∈ L, x.1 = 0 → t ≤ x.2) ∧ ((sumQ z = tkQ L t) ∨ (tkQ L t < sumQ z ∧ ∃ x ∈ L, x.1 = 0 ∧ x.2 = t)) := by
  induction L generalizing z with
  | nil => cases z with
    | nil => exact ⟨fun x hx => (by cases hx), .inl rfl⟩
    | cons _ _ => exact h.elim
  | cons x L ih => cases z with
    | nil => exact h.elim
    | cons y z =>
      obtain ⟨a, b, c, d⟩ := h
      obtain ⟨i1, i2⟩ := ih (fun y hy => h1 y (by simp [hy])) d
      have hx0 := h1 x (by simp)
      by_cases hs : 0 < x.1
      · have e : y = fL x t := by
          have hq : (x.1 : Rat) ≠ 0 := by
            have : x.1 ≠ 0 := by omega
            exact_mod_cast this
          have hqp : (0 : Rat) < x.1 := by exact_mod_cast hs
          unfold fL
          by_cases c1 : 0 < y
          · have e := c c1
            have := Rat.mul_pos hqp c1
            rw [if_pos ⟨hs, by grind⟩]
            grind
          · have y0 : y = 0 := by grind
            subst y0
            rw [if_neg (by grind)]
        refine ⟨fun v hv h0 => ?_, ?_⟩
        · rcases List.mem_cons.mp hv with rfl | hv
          · omega
          · exact i1 v hv h0
        · simp only [sumQ, tkQ, e]
          rcases i2 with i2 | ⟨i2, v, hv, h0⟩
          · exact .inl (by rw [i2])
          · exact .inr ⟨by grind, v, by simp [hv], h0⟩
      · have e0 : x.1 = 0 := by omega
        have ec : (x.1 : Rat) = 0 := by rw [e0]; rfl
        have ef : fL x t = 0 := by unfold fL; rw [if_neg (by grind)]
        rw [ec] at b c
        refine ⟨fun v hv h0 => ?_, ?_⟩
        · rcases List.mem_cons.mp hv with rfl | hv
          · grind
          · exact i1 v hv h0
        · simp only [sumQ, tkQ, ef]
          by_cases c1 : 0 < y
          · have := c c1
            refine .inr ⟨?_, x, by simp, e0, by grind⟩
            rcases i2 with i2 | ⟨i2, _⟩ <;> grind
          · have y0 : y = 0 := by grind
            rcases i2 with i2 | ⟨i2, v, hv, h0⟩
            · exact .inl (by grind)
            · exact .inr ⟨by grind, v, by simp [hv], h0⟩
theorem rest_lev {L : List Ln} {z : List Rat} {t : Rat} (h1 : ∀ x ∈ L, 0 ≤ x.1) (h : RestQ L z t) : Lev L (sumQ z) t := by
  obtain ⟨a, b⟩ := rest_tk h1 h
  rcases b with b | ⟨b, c⟩
  · exact ⟨a, by grind, .inl b.symm⟩
  · exact ⟨a, by grind, .inr c⟩
/-! ### scales -/
theorem icast_mul {a b : Int} : ((a * b : Int) : Rat) = (a : Rat) * (b : Rat) := by push_cast; rfl
theorem rest_slow {L : List Ln} {z : List Rat} {t : Rat} {c : Int} (hc : 0 < c) (h : RestQ L z t) : RestQ (slowQ c L) z (t * c) := by
  have cp : (0 : Rat) < c := by exact_mod_cast hc
  induction L generalizing z with
  | nil => cases z with
    | nil => trivial
    | cons _ _ => exact h.elim
  | cons x L ih => cases z with
    | nil => exact h.elim
    | cons y z =>
      obtain ⟨a, b, e, d⟩ := h
      refine ⟨a, ?_, fun q => ?_, ih d⟩
      · have := Rat.mul_nonneg (show 0 ≤ x.1 * y + x.2 - t by grind) (Rat.le_of_lt cp)
        show t * c ≤ ((x.1 * c : Int) : Rat) * y + x.2 * c
        rw [icast_mul]
        grind
      · show ((x.1 * c : Int) : Rat) * y + x.2 * c = t * c
        rw [icast_mul, ← e q]
        grind
theorem rest_stp {L : List Ln} {z : List Rat} {t : Rat} {c : Int} (hc : 0 < c) (h : RestQ L z t) : RestQ (stpQ c L) (z.map (1 / (c : Rat) * ·)) t := by
  have cp : (0 : Rat) < c := by exact_mod_cast hc
  have cn : (c : Rat) ≠ 0 := by grind
  have ip : (0 : Rat) < 1 / (c : Rat) := qdiv_pos (by grind) hc
  induction L generalizing z with
  | nil => cases z with
    | nil => trivial
    | cons _ _ => exact h.elim
  | cons x L ih => cases z with
    | nil => exact h.elim
    | cons y z =>
      obtain ⟨a, b, e, d⟩ := h
      have key : ((x.1 * c : Int) : Rat) * (1 / (c : Rat) * y) + x.2 = x.1 * y + x.2 := by
        rw [icast_mul]
        grind
      refine ⟨Rat.mul_nonneg (Rat.le_of_lt ip) a, ?_, fun q => ?_, ih d⟩
      · show t ≤ ((x.1 * c : Int) : Rat) * (1 / (c : Rat) * y) + x.2
        rw [key]; exact b
      · show ((x.1 * c : Int) : Rat) * (1 / (c : Rat) * y) + x.2 = t
        rw [key]
        refine e ?_
        rcases Rat.le_total (a := y) (b := 0) with q' | q'
        · have : y = 0 := by grind
          rw [this] at q
          grind
        · by_cases z0 : y = 0
          · rw [z0] at q; grind
          · grind
theorem wh_slow {L : List Ln} {z : List Rat} {c : Int} : whQ (slowQ c L) z = c * whQ L z := by
  induction L generalizing z with
  | nil => simp only [slowQ, List.map_nil, whQ]; grind
  | cons x L ih => cases z with
    | nil => simp only [slowQ, List.map_cons, whQ]; grind
    | cons y z =>
      have i := ih (z := z)
      simp only [slowQ, List.map_cons, whQ] at i ⊢
      rw [i, icast_mul]
      grind
theorem wh_stp {L : List Ln} {z : List Rat} {c : Int} (hc : 0 < c) : whQ (stpQ c L) (z.map (1 / (c : Rat) * ·)) = 1 / (c : Rat) * whQ L z := by
  have cp : (0 : Rat) < c := by exact_mod_cast hc
  have cn : (c : Rat) ≠ 0 := by grind
  induction L generalizing z with
  | nil => simp only [stpQ, List.map_nil, whQ]; grind
  | cons x L ih => cases z with
    | nil => simp only [stpQ, List.map_cons, List.map_nil, whQ]; grind
    | cons y z =>
      have i := ih (z := z)
      simp only [stpQ, List.map_cons, whQ] at i ⊢
      rw [i, icast_mul]
      grind
theorem steep_slow {L : List Ln} {c : Int} : steepQ (slowQ c L) = slowQ c (steepQ L) := by
  simp only [steepQ, slowQ, List.map_map]
  refine List.map_congr_left fun x _ => ?_
  simp [Int.mul_assoc]
theorem steep_stp {L : List Ln} {c : Int} : steepQ (stpQ c L) = stpQ c (steepQ L) := by
  simp only [steepQ, stpQ, List.map_map]
  refine List.map_congr_left fun x _ => ?_
  simp [Int.mul_assoc]
theorem left_slow {L : List Ln} {g : List Rat} {c : Int} : leftQ (slowQ c L) g = slowQ c (leftQ L g) := by
  induction L generalizing g with
  | nil => rfl
  | cons x L ih => cases g with
    | nil => rfl
    | cons y g =>
      have i := ih (g := g)
      simp only [slowQ, List.map_cons, leftQ] at i ⊢
      rw [i, icast_mul]
      congr 2
      grind
theorem left_stp {L : List Ln} {g : List Rat} {c : Int} (hc : 0 < c) : leftQ (stpQ c L) (g.map (1 / (c : Rat) * ·)) = stpQ c (leftQ L g) := by
  have cp : (0 : Rat) < c := by exact_mod_cast hc
  have cn : (c : Rat) ≠ 0 := by grind
  induction L generalizing g with
  | nil => rfl
  | cons x L ih => cases g with
    | nil => rfl
    | cons y g =>
      have i := ih (g := g)
      simp only [stpQ, List.map_cons, leftQ] at i ⊢
      rw [i, icast_mul]
      congr 2
      grind
theorem tms_slow {L : List Ln} {g : List Rat} {c : Int} : tmsQ (slowQ c L) g = (tmsQ L g).map ((c : Rat) * ·) := by
  induction L generalizing g with
  | nil => rfl
  | cons x L ih => cases g with
    | nil => rfl
    | cons y g =>
      have i := ih (g := g)
      simp only [slowQ, List.map_cons, tmsQ] at i ⊢
      rw [i, icast_mul]
      congr 1
      grind
theorem tms_stp {L : List Ln} {g : List Rat} {c : Int} (hc : 0 < c) : tmsQ (stpQ c L) (g.map (1 / (c : Rat) * ·)) = tmsQ L g := by
  have cp : (0 : Rat) < c := by exact_mod_cast hc
  have cn : (c : Rat) ≠ 0 := by grind
  induction L generalizing g with
  | nil => rfl
  | cons x L ih => cases g with
    | nil => rfl
    | cons y g =>
      have i := ih (g := g)
      simp only [stpQ, List.map_cons, tmsQ] at i ⊢
      rw [i, icast_mul]
      congr 1
      grind
/-! ### the order of the lanes, the leader's flows -/
def insF (ts : List Rat) (p : List Nat) (i : Nat) : List Nat := p.take (p.filter fun j => decide (ts.getD i 0 < ts.getD j 0)).length ++ i :: p.drop (p.filter fun j => decide (ts.getD i 0 < ts.getD j 0)).length
def fallQ (ts : List Rat) : List Nat := (List.range ts.length).foldl (insF ts) []
theorem fall_scale {ts : List Rat} {c : Rat} (hc : 0 < c) : fallQ (ts.map (c * ·)) = fallQ ts := by
  unfold fallQ
  rw [List.length_map]
  congr 1
  funext p i
  unfold insF
  have e : ∀ j, (ts.map (c * ·)).getD j 0 = c * ts.getD j 0 := fun j => by
    rw [List.getD_eq_getElem?_getD, List.getD_eq_getElem?_getD, List.getElem?_map]
    cases ts[j]? with
    | none => simp
    | some v => rfl
  have e2 : ∀ a b : Rat, decide (c * a < c * b) = decide (a < b) := fun a b => by
    have : c * a < c * b ↔ a < b := by
      constructor
      · intro h
        have : ¬ b ≤ a := fun z => by
          have := Rat.mul_nonneg (Rat.le_of_lt hc) (show 0 ≤ a - b by grind)
          grind
        grind
      · intro h
        have := Rat.mul_pos hc (show 0 < b - a by grind)
        grind
    simp [this]
  simp only [e, e2]
theorem fall_perm_aux {ts : List Rat} (n : Nat) : List.Perm ((List.range n).foldl (insF ts) []) (List.range n) := by
  induction n with
  | zero => exact .refl _
  | succ n ih =>
    rw [List.range_succ, List.foldl_append]
    simp only [List.foldl_cons, List.foldl_nil]
    generalize (List.range n).foldl (insF ts) [] = p at ih
    unfold insF
    refine List.perm_middle.trans ?_
    rw [List.take_append_drop]
    exact (List.perm_append_singleton n p).symm.trans (ih.append_right [n])
theorem fall_perm {ts : List Rat} : List.Perm (fallQ ts) (List.range ts.length) := fall_perm_aux _
def ledG (y : List Rat) : List Nat → Rat → List Rat → List Rat
  | [], _, g => g
  | j :: p, r, g => ledG y p (r - (if r < y.getD j 0 then r else y.getD j 0)) (g.set j (if r < y.getD j 0 then r else y.getD j 0))
def ledQ (y ts : List Rat) (a : Rat) : List Rat := ledG y (fallQ ts) a (List.replicate y.length 0)
theorem led_scale {y : List Rat} {p : List Nat} {r k : Rat} {g : List Rat} (hk : 0 < k) : ledG (y.map (k * ·)) p (k * r) (g.map (k * ·)) = (ledG y p r g).map (k * ·) := by
  induction p generalizing r g with
  | nil => rfl
  | cons j p ih =>
    have e : (y.map (k * ·)).getD j 0 = k * y.getD j 0 := by
      rw [List.getD_eq_getElem?_getD, List.getD_eq_getElem?_getD, List.getElem?_map]
      cases y[j]? with
      | none => simp
      | some v => rfl
    have e2 : (if k * r < k * y.getD j 0 then k * r else k * y.getD j 0) = k * (if r < y.getD j 0 then r else y.getD j 0) := by
      have : k * r < k * y.getD j 0 ↔ r < y.getD j 0 := by
        generalize y.getD j 0 = b
        constructor
        · intro h
          have : ¬ b ≤ r := fun z => by
            have := Rat.mul_nonneg (Rat.le_of_lt hk) (show 0 ≤ r - b by grind)
            grind
          grind
        · intro h
          have := Rat.mul_pos hk (show 0 < b - r by grind)
          grind
      by_cases c : r < y.getD j 0
      · rw [if_pos (this.mpr c), if_pos c]
      · rw [if_neg fun z => c (this.mp z), if_neg c]
    simp only [ledG, e, e2]
    rw [← ih, List.map_set]
    congr 1
    grind
theorem led_len {y : List Rat} {p : List Nat} {r : Rat} {g : List Rat} : (ledG y p r g).length = g.length := by
  induction p generalizing r g with
  | nil => rfl
  | cons j p ih => rw [ledG, ih, List.length_set]
theorem getD_nonneg {y : List Rat} (hy : Pos0 y) (j : Nat) : 0 ≤ y.getD j 0 := by
  rw [List.getD_eq_getElem?_getD]
  cases h : y[j]? with
  | none => exact Rat.le_refl
  | some q => exact hy q (List.mem_of_getElem? h)
theorem set_sum {g : List Rat} {j : Nat} {v : Rat} (hj : j < g.length) : sumQ (g.set j v) = sumQ g - g.getD j 0 + v := by
  induction g generalizing j with
  | nil => simp at hj
  | cons q g ih => cases j with
    | zero => simp [sumQ]; grind
    | succ j =>
      have := ih (j := j) (by simpa using hj)
      simp only [List.set_cons_succ, sumQ, this, List.getD_cons_succ]
      grind
def sumJ (y : List Rat) : List Nat → Rat
  | [] => 0
  | j :: p => y.getD j 0 + sumJ y p
theorem led_facts {y : List Rat} (hy : Pos0 y) {p : List Nat} (hn : p.Nodup) {r : Rat} {g : List Rat} (hg : Pos0 g) (hgl : g.length = y.length) (hp : ∀ j ∈ p, j < y.length ∧ g.getD j 0 = 0) (h0 : 0 ≤ r) (h1 : r ≤ sumJ y p) :
    Pos0 (ledG y p r g) ∧ sumQ (ledG y p r g) = sumQ g + r := by
  induction p generalizing r g with
  | nil =>
    simp only [sumJ] at h1
    exact ⟨hg, by simp only [ledG]; grind⟩
  | cons j p ih =>
    have yj := getD_nonneg hy j
    have ⟨n1, n2⟩ := List.nodup_cons.mp hn
    simp only [sumJ] at h1
    obtain ⟨hj, hgj⟩ := hp j (by simp)
    generalize hv : (if r < y.getD j 0 then r else y.getD j 0) = v
    have v0 : 0 ≤ v := by rw [← hv]; split <;> grind
    have vr : v ≤ r := by rw [← hv]; split <;> grind
    have vs : r - v ≤ sumJ y p := by
      rw [← hv]
      split
      · have : ∀ p, 0 ≤ sumJ y p := fun p => by
          induction p with
          | nil => exact Rat.le_refl
          | cons i p ih => have := getD_nonneg hy i; simp only [sumJ]; grind
        have := this p
        grind
      · grind
    have pg : Pos0 (g.set j v) := fun q hq => by
      rcases List.mem_or_eq_of_mem_set hq with z | z
      · exact hg q z
      · rw [z]; exact v0
    obtain ⟨i1, i2⟩ := ih n2 (r := r - v) (g := g.set j v) pg (by simpa using hgl) (fun i hi => by
      obtain ⟨a, b⟩ := hp i (by simp [hi])
      refine ⟨a, ?_⟩
      have ne : j ≠ i := fun z => n1 (z ▸ hi)
      rw [List.getD_eq_getElem?_getD, List.getElem?_set_ne ne, ← List.getD_eq_getElem?_getD]
      exact b) (by grind) vs
    simp only [ledG, hv]
    refine ⟨i1, ?_⟩
    rw [i2, set_sum (by omega), hgj]
    grind
theorem sumJ_perm {y : List Rat} {p q : List Nat} (h : List.Perm p q) : sumJ y p = sumJ y q := by
  induction h with
  | nil => rfl
  | cons x _ ih => simp only [sumJ, ih]
  | swap x z l => simp only [sumJ]; grind
  | trans _ _ i1 i2 => rw [i1, i2]
theorem sumJ_append {y : List Rat} {p q : List Nat} : sumJ y (p ++ q) = sumJ y p + sumJ y q := by
  induction p with
  | nil => simp only [List.nil_append, sumJ]; grind
  | cons j p ih => simp only [List.cons_append, sumJ, ih]; grind
theorem sumJ_take {y : List Rat} (n : Nat) (hn : n ≤ y.length) : sumJ y (List.range n) = sumQ (y.take n) := by
  induction n with
  | zero => simp [sumJ, sumQ]
  | succ n ih =>
    rw [List.range_succ, sumJ_append, ih (by omega), List.take_succ, List.getElem?_eq_getElem (by omega), sum_append]
    simp [sumJ, sumQ, show n < y.length by omega]
theorem sumJ_all {y : List Rat} : sumJ y (List.range y.length) = sumQ y := by rw [sumJ_take _ (Nat.le_refl _), List.take_length]
theorem rep_pos {n : Nat} : Pos0 (List.replicate n (0 : Rat)) := fun q hq => by rw [(List.mem_replicate.mp hq).2]; exact Rat.le_refl
theorem rep_sum {n : Nat} : sumQ (List.replicate n (0 : Rat)) = 0 := by
  induction n with
  | zero => rfl
  | succ n ih => rw [List.replicate_succ, sumQ, ih]; grind
theorem led_all {y ts : List Rat} {a : Rat} (hy : Pos0 y) (hl : ts.length = y.length) (h0 : 0 ≤ a) (h1 : a ≤ sumQ y) : Pos0 (ledQ y ts a) ∧ sumQ (ledQ y ts a) = a ∧ (ledQ y ts a).length = y.length := by
  have P := fall_perm (ts := ts)
  rw [hl] at P
  have f := led_facts hy (p := fallQ ts) (P.nodup_iff.mpr List.nodup_range) (r := a) (g := List.replicate y.length 0) rep_pos (by simp) (fun j hj => by
    have := List.mem_range.mp (P.mem_iff.mp hj)
    exact ⟨this, by simp [List.getD_eq_getElem?_getD, this]⟩) h0 (by rw [sumJ_perm P, sumJ_all]; exact h1)
  refine ⟨f.1, ?_, by simp [ledQ, led_len]⟩
  unfold ledQ
  rw [f.2, rep_sum]
  grind
/-! ### whole parts -/
def IsZ (Q : Nat) (q : Rat) : Prop := ∃ n : Int, q * (Q : Rat) = n
theorem IsZ.sub {Q : Nat} {p q : Rat} (h : IsZ Q p) (h' : IsZ Q q) : IsZ Q (p - q) := by
  obtain ⟨a, ha⟩ := h
  obtain ⟨b, hb⟩ := h'
  refine ⟨a - b, ?_⟩
  push_cast
  grind
theorem IsZ.up {Q k : Nat} {q : Rat} (h : IsZ Q q) : IsZ (Q * k) q := by
  obtain ⟨a, ha⟩ := h
  refine ⟨a * k, ?_⟩
  push_cast
  grind
theorem IsZ.zero {Q : Nat} : IsZ Q 0 := ⟨0, by simp⟩
theorem led_isZ {Q : Nat} {y : List Rat} (hy : ∀ q ∈ y, IsZ Q q) {p : List Nat} {r : Rat} {g : List Rat} (hr : IsZ Q r) (hg : ∀ q ∈ g, IsZ Q q) : ∀ q ∈ ledG y p r g, IsZ Q q := by
  induction p generalizing r g with
  | nil => exact hg
  | cons j p ih =>
    have yj : IsZ Q (y.getD j 0) := by
      rw [List.getD_eq_getElem?_getD]
      cases h : y[j]? with
      | none => exact .zero
      | some q => exact hy q (List.mem_of_getElem? h)
    have v : IsZ Q (if r < y.getD j 0 then r else y.getD j 0) := by split <;> assumption
    refine ih (hr.sub v) fun q hq => ?_
    rcases List.mem_or_eq_of_mem_set hq with z | z
    · exact hg q z
    · rw [z]; exact v
theorem le_sum {g : List Rat} (hg : Pos0 g) : ∀ q ∈ g, q ≤ sumQ g := by
  have nn : ∀ g : List Rat, Pos0 g → 0 ≤ sumQ g := fun g => by
    induction g with
    | nil => intro _; exact Rat.le_refl
    | cons a g ih =>
      intro h
      have := ih fun q hq => h q (by simp [hq])
      have := h a (by simp)
      simp only [sumQ]; grind
  induction g with
  | nil => intro q hq; cases hq
  | cons a g ih =>
    intro q hq
    have h1 := nn g fun q hq => hg q (by simp [hq])
    have h2 := hg a (by simp)
    simp only [sumQ]
    rcases List.mem_cons.mp hq with rfl | hq
    · grind
    · have := ih (fun q hq => hg q (by simp [hq])) q hq
      grind
end Tr
namespace Tr
/-! ### the denominators of the best flows -/
def Fine (L : List Ln) : Prop := ∀ x ∈ L, (x.1 = 0 ∨ ∃ m : Int, 0 < x.1 ∧ 0 < m ∧ m ≤ 100 ∧ m * x.1 = 200) ∧ ∃ b : Int, x.2 = (b : Rat)
theorem fine_fL {x : Ln} {t : Rat} {m : Int} (h0 : 0 < x.1) (hm : m * x.1 = 200) (h : x.2 < t) : 200 * fL x t = (t - x.2) * m := by
  have hq : (x.1 : Rat) ≠ 0 := by
    have : x.1 ≠ 0 := by omega
    exact_mod_cast this
  have e : (m : Rat) * (x.1 : Rat) = 200 := by exact_mod_cast hm
  unfold fL
  rw [if_pos ⟨h0, h⟩, ← e]
  grind
theorem tk_lin {L : List Ln} (h : Fine L) (t : Rat) : ∃ R N : Int, 0 ≤ R ∧ R ≤ 100 * L.length ∧ 200 * tkQ L t = t * R - N ∧ (0 < tkQ L t → 0 < R) := by
  induction L with
  | nil => exact ⟨0, 0, by omega, by show (0:Int) ≤ 100 * ((0:Nat):Int); omega, by simp only [tkQ]; grind, fun z => by simp only [tkQ] at z; grind⟩
  | cons x L ih =>
    obtain ⟨R, N, r0, r1, r2, r3⟩ := ih fun y hy => h y (by simp [hy])
    obtain ⟨hx, b, hb⟩ := h x (by simp)
    by_cases c : 0 < x.1 ∧ x.2 < t
    · rcases hx with hx | ⟨m, h1, h2, h3, h4⟩
      · omega
      · have e := fine_fL c.1 h4 c.2
        refine ⟨R + m, N + b * m, by omega, by simp; omega, ?_, fun _ => by omega⟩
        simp only [tkQ]
        push_cast
        rw [hb] at e
        grind
    · have e : fL x t = 0 := by unfold fL; rw [if_neg c]
      refine ⟨R, N, r0, by simp; omega, ?_, fun z => r3 ?_⟩
      · simp only [tkQ, e]; grind
      · simp only [tkQ, e] at z; grind
theorem fl_isZ {L : List Ln} (h : Fine L) {t r : Rat} {k : Nat} (ht : ∃ n : Int, t * (k : Rat) = n) (hr : IsZ (200 * k) r) : ∀ q ∈ flQ L t r, IsZ (200 * k) q := by
  induction L generalizing r with
  | nil => intro q hq; cases hq
  | cons x L ih =>
    have i1 := fun (r : Rat) (hr : IsZ (200 * k) r) => ih (fun y hy => h y (by simp [hy])) (r := r) hr
    obtain ⟨hx, b, hb⟩ := h x (by simp)
    have z : IsZ (200 * k) (fL x t) := by
      by_cases c : 0 < x.1 ∧ x.2 < t
      · rcases hx with hx | ⟨m, h1, h2, h3, h4⟩
        · omega
        · have e := fine_fL c.1 h4 c.2
          obtain ⟨n, hn⟩ := ht
          refine ⟨(n - b * k) * m, ?_⟩
          rw [hb] at e
          push_cast
          have : fL x t * (200 * (k : Rat)) = (200 * fL x t) * k := by grind
          rw [this, e]
          grind
      · have e : fL x t = 0 := by unfold fL; rw [if_neg c]
        rw [e]; exact .zero
    intro q hq
    simp only [flQ] at hq
    split at hq
    · rcases List.mem_cons.mp hq with rfl | hq
      · exact z
      · exact i1 r hr q hq
    · split at hq
      · rcases List.mem_cons.mp hq with rfl | hq
        · exact hr
        · exact i1 0 .zero q hq
      · rcases List.mem_cons.mp hq with rfl | hq
        · exact .zero
        · exact i1 r hr q hq
theorem rat_num {d : Rat} : d * (d.den : Rat) = d.num := by
  have h := Rat.mkRat_self d
  have e : d = (d.num : Rat) / (d.den : Rat) := by rw [← Rat.mkRat_eq_div, h]
  have n : (d.den : Rat) ≠ 0 := by
    have := d.den_nz
    exact_mod_cast this
  conv => lhs; rw [e]
  grind
theorem best_isZ {L : List Ln} (h : Fine L) (hn : 1 ≤ L.length) {d t : Rat} (hd : 0 < d) (hl : Lev L d t) : ∃ k : Nat, 0 < k ∧ k ≤ 100 * L.length * d.den ∧ ∀ q ∈ flQ L t (d - tkQ L t), IsZ (200 * k) q := by
  obtain ⟨R, N, r0, r1, r2, r3⟩ := tk_lin h t
  have dn := rat_num (d := d)
  have dp := d.den_pos
  by_cases c : tkQ L t = d
  · have rp := r3 (by rw [c]; exact hd)
    refine ⟨R.toNat * d.den, Nat.mul_pos (by omega) dp, Nat.mul_le_mul_right _ (by omega), fl_isZ h ?_ ?_⟩
    · refine ⟨200 * d.num + N * d.den, ?_⟩
      have eR : ((R.toNat : Nat) : Rat) = (R : Rat) := by
        have : ((R.toNat : Nat) : Int) = R := by omega
        exact_mod_cast this
      push_cast
      rw [eR]
      have : t * (R : Rat) = 200 * d + N := by rw [← c]; grind
      have e2 : t * ((R : Rat) * (d.den : Rat)) = (t * R) * d.den := by grind
      rw [e2, this]
      grind
    · rw [c, show d - d = 0 by grind]; exact .zero
  · rcases hl.eq with z | ⟨x, hx, h0, hb⟩
    · exact absurd z c
    · obtain ⟨_, b, hb'⟩ := h x hx
      have tb : t = (b : Rat) := by rw [← hb, hb']
      refine ⟨d.den, dp, ?_, fl_isZ h ⟨b * d.den, by rw [tb]; push_cast; rfl⟩ ?_⟩
      · have := Nat.mul_le_mul_right d.den (show 1 ≤ 100 * L.length by omega)
        omega
      · refine ⟨200 * d.num - d.den * (b * R - N), ?_⟩
        push_cast
        have : (d - tkQ L t) * (200 * (d.den : Rat)) = 200 * (d * d.den) - d.den * (200 * tkQ L t) := by grind
        rw [this, r2, dn, tb]
end Tr

set_option Elab.async false
set_option linter.all false
set_option maxRecDepth 100000
set_option maxHeartbeats 4000000
namespace Tr
open PySem PySem.Spec L2
section
variable {X : Cx} {C : Cs} {W : WX} {pos : Pos} {a b c : Expr} {f g h : DF}
/-- a <= b <= c as a test -/
theorem dt_chain {op op' : CmpOp} {F F' : D → D → Wp D} {r r' : R2} (ho : OpR X (compareOp op) r) (hF : Op2 X C r F) (ho' : OpR X (compareOp op') r') (hF' : Op2 X C r' F') (ha : DE X C W a f) (hb : DE X C W b g) (hc : DE X C W c h)
    (hm : lastMarks [op, op'] [b, c] = false := by with_unfolding_all rfl) :
    DT X C W (.Compare a [op, op'] [b, c] pos) (tBv (dChain F F' f g h)) := by
  obtain ⟨ta, pa, qa⟩ := ha
  obtain ⟨tb, pb, qb⟩ := hb
  obtain ⟨tc, pc, qc⟩ := hc
  refine ⟨_, pt_chain ho ho' pa pb pc hm, fun S0 H0 Pb σ H δ Q R hh => qa S0 H0 Pb σ H δ _ R ((f δ).mono (fun d hh x H1 g1 dx => ?_) (fun _ z => z) hh)⟩
  refine qb S0 H0 Pb σ H1 δ _ (R.gr g1) ((g δ).mono (fun e hh y H2 g2 dy => ?_) (fun _ z => z.gr g1) hh)
  refine hF x y H2 d e _ S0 H0 Pb σ δ _ (R.gr (g1.trans g2)) (Le.dp (hid_le g2.le fun _ z => z) d x dx) dy ((F d e).mono (fun z hz v H3 g3 dz => ?_) (fun _ z => z) hh)
  obtain ⟨k, rfl, hk⟩ := asB_inv hz
  cases dz
  refine ⟨k, rfl, ?_⟩
  cases k with
  | false => exact ⟨false, rfl, hk H3 (g1.trans (g2.trans g3))⟩
  | true =>
    refine qc S0 H0 Pb σ H3 δ _ (R.gr (g1.trans (g2.trans g3))) ((h δ).mono (fun x' hx v' H4 g4 dx' => ?_) (fun _ z => z.gr (g1.trans (g2.trans g3))) hk)
    refine hF' y v' H4 e x' _ S0 H0 Pb σ δ _ (R.gr (g1.trans (g2.trans (g3.trans g4)))) (Le.dp (hid_le (g3.trans g4).le fun _ z => z) e y dy) dx' ((F' e x').mono (fun d' hd v2 H5 g5 dp => ?_) (fun _ z => z.gr (g1.trans (g2.trans (g3.trans g4)))) hx)
    obtain ⟨k', rfl, hk'⟩ := asB_inv hd
    cases dp
    exact ⟨k', rfl, hk' H5 ((g1.trans (g2.trans (g3.trans g4))).trans g5)⟩
end
/-! ## loops over a list that is the picture of another one -/
section
variable {α : Type} {g : α → D} {xs : List α} {q : BF} {F : SF} {ko : Out → Prop} {w : Exn → Prop} {δ : De}
theorem loop_pre (I : List α → De → Prop) (h0 : I [] δ)
    (hs : ∀ pre x post δ, xs = pre ++ x :: post → I pre δ → ∃ δ1, q (g x) δ = some δ1 ∧ (F δ1).run (fun o => match o with
      | .nx δ' => I (pre ++ [x]) δ'
      | .ct δ' => I (pre ++ [x]) δ'
      | .bk δ' => ko (.nx δ')
      | .rt d => ko (.rt d)) w)
    (hd : ∀ δ, I xs δ → ko (.nx δ)) : (sLoop q F (xs.map g) δ).run ko w := by
  refine loop_inv (fun i δ => I (xs.take i) δ) (by simpa using h0) (fun i δ d hi hI => ?_) (fun δ h => hd δ (by simpa using h))
  rw [List.getElem?_map] at hi
  cases hx : xs[i]? with
  | none => rw [hx] at hi; cases hi
  | some x =>
    rw [hx] at hi
    obtain ⟨hl, hx'⟩ := List.getElem?_eq_some_iff.mp hx
    have e : xs = xs.take i ++ x :: xs.drop (i + 1) := by rw [← hx', ← List.drop_eq_getElem_cons hl, List.take_append_drop]
    have e2 : xs.take (i + 1) = xs.take i ++ [x] := by rw [List.take_succ, hx]; rfl
    have := hs _ x _ δ e hI
    rw [← e2] at this
    cases hi
    exact this
variable {t : TF} {f : DF} {k : List D → Prop} {p : α → Bool} {h : α → D}
theorem lc_run (hs : ∀ x ∈ xs, ∃ δ1, q (g x) δ = some δ1 ∧ (∀ kb : Bool → Prop, kb (p x) → (t δ1).run kb w) ∧ (p x = true → ∀ kd : D → Prop, kd (h x) → (f δ1).run kd w)) (hk : k ((xs.filter p).map h)) : (lcLoop q t f δ (xs.map g)).run k w := by
  induction xs generalizing k with
  | nil => simpa using hk
  | cons x xs ih =>
    obtain ⟨δ1, e, h1, h2⟩ := hs x (by simp)
    rw [List.map_cons, rw_lc1, e]
    simp only [optW_some, pure_bind, run_bind]
    refine h1 _ ?_
    cases c : p x with
    | true =>
      simp only [if_true]
      simp only [run_bind]
      refine h2 c _ (ih (fun y hy => hs y (by simp [hy])) ?_)
      simpa [c] using hk
    | false =>
      simp only [Bool.false_eq_true, if_false]
      refine ih (fun y hy => hs y (by simp [hy])) ?_
      simpa [c] using hk
theorem ga_run {kd : D → Prop} (hs : ∀ x ∈ xs, ∃ δ1, q (g x) δ = some δ1 ∧ (∀ kb : Bool → Prop, kb true → (t δ1).run kb w) ∧ (∀ kd : D → Prop, kd (.bool (p x)) → (f δ1).run kd w)) (hk : kd (.bool (xs.all p))) : (gaLoop true q t f δ (xs.map g)).run kd w := by
  induction xs with
  | nil => simpa using hk
  | cons x xs ih =>
    obtain ⟨δ1, e, h1, h2⟩ := hs x (by simp)
    rw [List.map_cons, rw_ga1, e]
    simp only [optW_some, pure_bind, run_bind]
    refine h1 _ ?_
    simp only [if_true, run_bind]
    refine h2 _ ?_
    cases c : p x with
    | true =>
      simp only [if_true]
      exact ih (fun y hy => hs y (by simp [hy])) (by simpa [c] using hk)
    | false =>
      simp only [Bool.false_eq_true, if_false]
      simpa [c] using hk
end
theorem cut_take {A : Type} {xs : List A} {n : Nat} : cutD xs none (some (n : Int)) = xs.take n := by
  unfold cutD
  rw [HT.sIx_nat, HT.sIx_none]
  by_cases h : n ≤ xs.length
  · simp [Nat.min_eq_left h]
  · simp [Nat.min_eq_right (Nat.le_of_lt (Nat.lt_of_not_le h)), List.take_of_length_le (Nat.le_of_lt (Nat.lt_of_not_le h))]
theorem cut_drop {A : Type} {xs : List A} {n : Nat} : cutD xs (some (n : Int)) none = xs.drop n := by
  unfold cutD
  rw [HT.sIx_nat, HT.sIx_none]
  by_cases h : n ≤ xs.length
  · rw [Nat.min_eq_left h, List.take_of_length_le (by simp)]
  · simp [Nat.min_eq_right (Nat.le_of_lt (Nat.lt_of_not_le h)), List.drop_eq_nil_of_le (Nat.le_of_lt (Nat.lt_of_not_le h))]
theorem lt_line {n : Nat} (h : n < 1000000) : n ≤ sizeLine := by show n ≤ 16777216; omega
theorem allD_only {ds : List D} : allD (ds.map Ar.d) = .pure ds := by
  have := allD_map (ds := ds) (as := [])
  rw [List.append_nil] at this
  rw [this]
  simp [rw_allD0]
@[simp] theorem rw_tupL {ds : List D} : bTuple [.list ds] = .pure (.tuple ds) := rfl
@[simp] theorem rw_tupT {ds : List D} : bTuple [.tuple ds] = .pure (.tuple ds) := rfl
@[simp] theorem rw_listL {ds : List D} : bList [.list ds] = .pure (.list ds) := rfl
@[simp] theorem rw_listT {ds : List D} : bList [.tuple ds] = .pure (.list ds) := rfl
@[simp] theorem rw_dOix {i : Nat} {f : DF} {δ : De} : dOix i f δ = (slotO δ[i]?).bind fun ds => (f δ).bind fun k => (asI1 k).bind fun k => optW (atI ds k) := rfl
theorem atI_last {A : Type} {l : List A} : atI l (-1) = l.getLast? := by
  unfold atI ixN
  rw [List.getLast?_eq_getElem?, if_neg (by omega)]
  by_cases h : l = []
  · subst h; rfl
  · have : 0 < l.length := List.length_pos_iff.mpr h
    rw [if_pos (by omega)]
    show l[((-1 : Int) + l.length).toNat]? = _
    rw [show ((-1 : Int) + l.length).toNat = l.length - 1 by omega]
section
variable {q : BF} {w : Exn → Prop} {δ : De} {t : TF} {f : DF}
/-- a comprehension whose items are drawn -/
theorem lc_ex {xs : List D} {P : D → Prop} {k : List D → Prop} (hs : ∀ x ∈ xs, ∃ δ1, q x δ = some δ1 ∧ (∀ kb : Bool → Prop, kb true → (t δ1).run kb w) ∧ (∀ kd : D → Prop, (∀ d, P d → kd d) → (f δ1).run kd w)) (hk : ∀ ds : List D, ds.length = xs.length → (∀ d ∈ ds, P d) → k ds) : (lcLoop q t f δ xs).run k w := by
  induction xs generalizing k with
  | nil => exact hk [] rfl (fun _ h => by cases h)
  | cons x xs ih =>
    obtain ⟨δ1, e, h1, h2⟩ := hs x (by simp)
    rw [rw_lc1, e]
    simp only [optW_some, pure_bind, run_bind]
    refine h1 _ ?_
    simp only [if_true]
    simp only [run_bind]
    refine h2 _ fun d hd => ih (fun y hy => hs y (by simp [hy])) fun ds hl hp => ?_
    refine hk (d :: ds) (by simp [hl]) fun y hy => ?_
    rcases List.mem_cons.mp hy with rfl | hy
    · exact hd
    · exact hp y hy
end
/-- lists that are pictures -/
theorem pic {α : Type} {g : α → D} {P : α → Prop} {ds : List D} (h : ∀ d ∈ ds, ∃ x, P x ∧ d = g x) : ∃ xs : List α, ds = xs.map g ∧ ∀ x ∈ xs, P x := by
  induction ds with
  | nil => exact ⟨[], rfl, fun _ h => by cases h⟩
  | cons d ds ih =>
    obtain ⟨x, hx, rfl⟩ := h d (by simp)
    obtain ⟨xs, rfl, hxs⟩ := ih fun d hd => h d (by simp [hd])
    exact ⟨x :: xs, rfl, fun y hy => by
      rcases List.mem_cons.mp hy with rfl | hy
      · exact hx
      · exact hxs y hy⟩
theorem lo62_le {i : Int} (h0 : 0 ≤ i) (h1 : i < 1000000) : lo62 i := by
  unfold lo62
  constructor <;> omega
theorem ints_map {ns : List Int} : intsD (ns.map PyData.int) = some ns := by
  induction ns with
  | nil => rfl
  | cons n ns ih => simp [intsD, ih]
theorem min_run {ns : List Int} {k : D → Prop} {w : Exn → Prop} (h : 0 < ns.length) (hk : ∀ m ∈ ns, (∀ y ∈ ns, m ≤ y) → k (.int m)) : (bMinL [.list (ns.map .int)]).run k w := by
  show ((optW (intsD (ns.map .int))).bind _).run k w
  rw [ints_map]
  exact ⟨h, fun m hm => hk m hm.1 hm.2⟩
/-- a comprehension that takes nothing -/
theorem lc_no {q : BF} {w : Exn → Prop} {δ : De} {t : TF} {f : DF} {xs : List D} {k : List D → Prop} (hs : ∀ x ∈ xs, ∃ δ1, q x δ = some δ1 ∧ ∀ kb : Bool → Prop, kb false → (t δ1).run kb w) (hk : k []) : (lcLoop q t f δ xs).run k w := by
  induction xs with
  | nil => exact hk
  | cons x xs ih =>
    obtain ⟨δ1, e, h1⟩ := hs x (by simp)
    rw [rw_lc1, e]
    simp only [optW_some, pure_bind, run_bind]
    refine h1 _ ?_
    simp only [Bool.false_eq_true, if_false]
    exact ih fun y hy => hs y (by simp [hy])
theorem rgD_mem {lo : Int} {n : Nat} {d : D} (h : d ∈ rgD lo n) : ∃ i : Nat, i < n ∧ d = .int (lo + i) := by
  obtain ⟨i, hi⟩ := List.mem_iff_getElem?.mp h
  exact ⟨i, rgD_get hi⟩
end Tr

set_option Elab.async false
set_option linter.all false
set_option maxRecDepth 100000
set_option maxHeartbeats 4000000
/-! ## zip of lists and tuples in any mix -/
namespace Tr
open PySem PySem.Spec PyProof.Rows L2
def SqB (t : Bool) (K : PySem.W.Frag) (H : Hp) (a : Addr) (xs : List V) : Prop := match t with
  | true => SqT K H a xs
  | false => SqL K H a xs
def IsIt (t : Bool) (h : Heap) (it l : Addr) (i : Nat) : Prop := match t with
  | true => h.IsTupleIter it l i
  | false => h.IsListIter it l i
def IsIs (t : Bool) (h : Heap) (l : Addr) (xs : Array Value) : Prop := match t with
  | true => h.IsTuple l xs
  | false => h.IsList l xs
theorem drawsB {prog : Program} {w : World} {A : Around} (t : Bool) (hh : A.handled = none) (it l : Addr) (hne : l ≠ it) (items : Array Value) :
    Draws prog w A it [it, l] items.size (fun i v => items[i]? = some v) (fun i h => IsIt t h it l i ∧ IsIs t h l items) := by
  cases t
  · exact Draws.list hh it l hne items
  · exact Draws.tuple hh it l hne items
theorem IsIt.at' {t : Bool} {h h' : Heap} {it l : Addr} {i : Nat} (q : IsIt t h it l i) (k : ∀ o, h.get? it = some o → h'.get? it = some o) : IsIt t h' it l i := by
  cases t
  · exact Heap.IsListIter.at q k
  · exact Heap.IsTupleIter.at q k
theorem IsIt.obj {t : Bool} {h : Heap} {it l : Addr} {i : Nat} (q : IsIt t h it l i) : ∃ o, h.get? it = some o ∧ ∃ fs, o.data = .fields fs := by
  cases t <;> (obtain ⟨o, e, _, d⟩ := q; exact ⟨o, e, _, d⟩)
section
variable {X : Cx} {pins : List (Addr × Obj)} {σ : L2.St} {H : Hp} {s : Shared}
theorem seqB (I : Inv X pins σ H s) {t : Bool} {a : Addr} {xs : List V} (h : SqB t X.K H a xs) : ∃ its : List Value, Vals xs its ∧ IsIs t s.heap a its.toArray ∧ xs.length ≤ sizeLine := by
  cases t
  · obtain ⟨its, r, p, z⟩ := I.list h
    exact ⟨its, r, p.isList, z⟩
  · obtain ⟨its, r, p, z⟩ := I.tuple h
    exact ⟨its, r, p, z⟩
theorem seqB_inj (I : Inv X pins σ H s) {t : Bool} {a : Addr} {xs ys : List V} (h : SqB t X.K H a xs) (h' : SqB t X.K H a ys) : xs = ys := by
  cases t
  · exact I.list_inj h h'
  · exact I.tuple_inj h h'
theorem IsIs.lt {t : Bool} {h : Heap} {a : Addr} {xs : Array Value} (q : IsIs t h a xs) : a < h.objs.size := by
  cases t
  · obtain ⟨_, e, _⟩ := q; exact Heap.lt_size e
  · obtain ⟨_, e, _⟩ := q; exact Heap.lt_size e
end
def ItB (t1 t2 : Bool) (K : PySem.W.Frag) (a b : Addr) : It :=
  ⟨fun i H => ∃ (xs ys : List V) (x y : V), SqB t1 K H a xs ∧ SqB t2 K H b ys ∧ xs[i]? = some x ∧ ys[i]? = some y,
    fun i H v H' => ∃ T x y, v = .ref T ∧ H T = none ∧ H' = upd H T (.tup [x, y]) ∧ (∀ xs, SqB t1 K H a xs → xs[i]? = some x) ∧ ∀ ys, SqB t2 K H b ys → ys[i]? = some y,
    fun i H => ∃ xs ys : List V, SqB t1 K H a xs ∧ SqB t2 K H b ys ∧ i ≤ xs.length ∧ i ≤ ys.length ∧ (i = xs.length ∨ i = ys.length)⟩
theorem turn_zipB {P : Program} {w : World} {K : PySem.W.Frag} {elts : List Expr} {kk : Nat} {tpos : Pos} {t1 t2 : Bool} {a b z TI TO i1 i2 : Addr} (D : ZipSep2 z TI TO i1 i2 [i1, a] [i2, b]) (n1 : a ≠ i1) (n2 : b ≠ i2) :
    Turn P w K (.Tuple elts kk tpos) (ItB t1 t2 K a b) [z, TI, TO, i1, i2] z (fun i h => IsZip h z TI TO .none ∧ IsTupOf2 h TI (.ref i1) (.ref i2) ∧ (∃ x y, IsTupOf2 h TO x y) ∧ IsIt t1 h i1 a i ∧ IsIt t2 h i2 b i) where
  mem := by simp
  obj := fun i h st c hc => by
    obtain ⟨hz, hTI, ⟨x, y, hTO⟩, q1, q2⟩ := st
    obtain ⟨o1, e1, f1, d1⟩ := q1.obj
    obtain ⟨o2, e2, f2, d2⟩ := q2.obj
    have e' : c = z ∨ c = TI ∨ c = TO ∨ c = i1 ∨ c = i2 := by simpa using hc
    rcases e' with q | q | q | q | q
    · rw [q]; exact ⟨_, hz, fun v q => nomatch q⟩
    · rw [q]; exact ⟨_, hTI, fun v q => nomatch q⟩
    · rw [q]; exact ⟨_, hTO, fun v q => nomatch q⟩
    · rw [q]; exact ⟨o1, e1, fun v q => by rw [d1] at q; cases q⟩
    · rw [q]; exact ⟨o2, e2, fun v q => by rw [d2] at q; cases q⟩
  keep := fun i h h' st k => by
    obtain ⟨hz, hTI, ⟨x, y, hTO⟩, h1, h2⟩ := st
    exact ⟨k z (by simp) _ hz, k TI (by simp) _ hTI, ⟨x, y, k TO (by simp) _ hTO⟩, h1.at' fun o q => k i1 (by simp) o q, h2.at' fun o q => k i2 (by simp) o q⟩
  item := by
    intro X hP hw hK hc i pins s σ H E I hf st hg
    subst hP hw hK
    obtain ⟨hz, hTI, ⟨x0, y0, hTO⟩, h1, h2⟩ := st
    obtain ⟨xs, ys, x, y, hqx, hqy, hx, hy⟩ := hg
    obtain ⟨its, rv, p, _⟩ := seqB I hqx
    obtain ⟨its2, rv2, p2, _⟩ := seqB I hqy
    obtain ⟨u, hu, ru⟩ := rv.get hx
    obtain ⟨u2, hu2, ru2⟩ := rv2.get hy
    have hzl : z < s.heap.objs.size := Heap.lt_size hz
    have lt1 : i < its.toArray.size := by
      have := (List.getElem?_eq_some_iff.mp hu).1
      simpa using this
    have lt2 : i < its2.toArray.size := by
      have := (List.getElem?_eq_some_iff.mp hu2).1
      simpa using this
    have D1 := drawsB (prog := X.prog) (w := X.w) (A := X.A.in1) t1 (I.ok.hd hc) i1 a n1 its.toArray
    have D2 := drawsB (prog := X.prog) (w := X.w) (A := X.A.in1) t2 (I.ok.hd hc) i2 b n2 its2.toArray
    refine wpAny_pyNext_zipD2_item D D1 D2 hz hTI hTO ⟨h1, p⟩ ⟨h2, p2⟩ lt1 lt2 fun x1 x2 h' tk y1 y2 z' TO' h1' h2' hT hsz hk => ?_
    have ex1 : x1 = u := by
      have hu' : its.toArray[i]? = some u := by simpa using hu
      rw [hu'] at y1
      exact (Option.some.inj y1).symm
    have ex2 : x2 = u2 := by
      have hu' : its2.toArray[i]? = some u2 := by simpa using hu2
      rw [hu'] at y2
      exact (Option.some.inj y2).symm
    subst ex1 ex2
    refine ⟨_, rfl, wpAny_letOwnedTupleGo_zip (s := { s with heap := h', toks := tk }) z' fun h'' z'' sb => ?_⟩
    have hT2 : h''.get? s.heap.objs.size = some { cls := .type "tuple", data := .seq #[x1, x2] } := (sb.2 _ (Nat.ne_of_gt hzl)).trans hT
    have new : ObjOk X.prog X.w (upd H s.heap.objs.size (.tup [x, y])) h'' s.heap.objs.size (.tup [x, y]) :=
      ⟨by show 2 ≤ sizeLine; decide, [x1, x2], .cons ru (.cons ru2 .nil), ⟨_, hT2, rfl, _, rfl⟩⟩
    have I1 : Inv X pins σ (upd H s.heap.objs.size (.tup [x, y])) { s with heap := h'', toks := tk } :=
      I.turnedNew (t' := tk) (ch := [z, TI, TO, i1, i2]) (fun c o hb q => (sb.2 c (fun q' => hb (by simp [q']))).trans (hk c o (fun q' => hb (by simp [q'])) (fun q' => hb (by simp [q'])) (fun q' => hb (by simp [q'])) (fun q' => hb (by simp [q'])) q)) hf (Nat.le_refl _) new
    refine ⟨.ref s.heap.objs.size, _, I1, rfl, ⟨_, x, y, rfl, I.hok.fresh (Nat.le_refl _), rfl, fun l hl => by rw [seqB_inj I hl hqx]; exact hx, fun l hl => by rw [seqB_inj I hl hqy]; exact hy⟩, ⟨z'', ?_, ⟨x1, x2, ?_⟩, ?_, ?_⟩, fun c hcm => ?_⟩
    · exact (sb.2 _ D.TIz).trans (hk _ _ D.TIz D.TITO D.TIi1 D.TIi2 hTI)
    · exact (sb.2 _ D.TOz).trans TO'
    · exact h1'.1.at' fun o q => (sb.2 _ D.zi1.symm).trans q
    · exact h2'.1.at' fun o q => (sb.2 _ D.zi2.symm).trans q
    · have hlt : c < s.heap.objs.size := by
        have e' : c = z ∨ c = TI ∨ c = TO ∨ c = i1 ∨ c = i2 := by simpa using hcm
        rcases e' with q | q | q | q | q
        · rw [q]; exact hzl
        · rw [q]; exact Heap.lt_size hTI
        · rw [q]; exact Heap.lt_size hTO
        · rw [q]; obtain ⟨_, e1, _⟩ := h1.obj; exact Heap.lt_size e1
        · rw [q]; obtain ⟨_, e2, _⟩ := h2.obj; exact Heap.lt_size e2
      rw [upd_ne (Nat.ne_of_lt hlt)]
      exact (hf c hcm).1
  done := by
    intro X hP hw hK hc i pins s σ H E I hf st hg
    subst hP hw hK
    obtain ⟨hz, hTI, ⟨x0, y0, hTO⟩, h1, h2⟩ := st
    obtain ⟨xs, ys, hqx, hqy, l1', l2', hend⟩ := hg
    obtain ⟨its, rv, p, _⟩ := seqB I hqx
    obtain ⟨its2, rv2, p2, _⟩ := seqB I hqy
    have l1 := rv.length
    have l2 := rv2.length
    have D1 := drawsB (prog := X.prog) (w := X.w) (A := X.A.in1) t1 (I.ok.hd hc) i1 a n1 its.toArray
    have D2 := drawsB (prog := X.prog) (w := X.w) (A := X.A.in1) t2 (I.ok.hd hc) i2 b n2 its2.toArray
    exact wpAny_pyNext_zipD2_end D D1 D2 hz hTI hTO ⟨h1, p⟩ ⟨h2, p2⟩ (by simp; omega) (by simp; omega) (by simp; omega) fun h' tk hk => ⟨rfl, I.turnedL (t' := tk) (ch := [z, TI, TO, i1, i2]) (fun c o hb q =>
      hk c o (fun q' => hb (by simp [q'])) (fun q' => hb (by simp [q'])) (fun q' => hb (by simp [q'])) (fun q' => hb (by simp [q'])) q) hf⟩
  self := fun A i s Q E st h => wpAny_pyIter_zip st.1 h
def iZipB (K : PySem.W.Frag) (ta : TA) : TI := fun σ H R => ta σ H fun vs H1 => ∃ a b t1 t2 xs ys, vs = [.ref a, .ref b] ∧ SqB t1 K H1 a xs ∧ SqB t2 K H1 b ys ∧ R (ItB t1 t2 K a b) H1
def itO (t : Bool) (a : Addr) : Obj := match t with
  | true => { cls := .type "tuple_iterator", data := .fields #[.ref a, .int 0 0] }
  | false => { cls := .type "list_iterator", data := .fields #[.ref a, .int 0 0] }
theorem beginsB (t : Bool) (a : Addr) (items : Array Value) : Begins (.ref a) (itO t a) fun h => IsIs t h a items := by
  cases t
  · exact begins_list a items
  · exact begins_tuple a items
theorem itO_is {t : Bool} {h : Heap} {it a : Addr} (e : h.get? it = some (itO t a)) : IsIt t h it a 0 := by
  cases t
  · exact ⟨_, e, rfl, rfl⟩
  · exact ⟨_, e, rfl, rfl⟩
theorem sepB {n a b : Nat} (la : a < n) (lb : b < n) : ZipSep2 (n + 4) (n + 2) (n + 3) n (n + 1) [n, a] [n + 1, b] where
  TIz := by show (_ : Nat) ≠ _; omega
  TOz := by show (_ : Nat) ≠ _; omega
  TITO := by show (_ : Nat) ≠ _; omega
  TIi1 := by show (_ : Nat) ≠ _; omega
  mem1 := by simp
  zf1 := fun h => by
    rcases List.mem_cons.mp h with h | h
    · have h : (_ : Nat) = _ := h
      omega
    · have h : (_ : Nat) = _ := List.mem_singleton.mp h
      omega
  Tf1 := fun h => by
    rcases List.mem_cons.mp h with h | h
    · have h : (_ : Nat) = _ := h
      omega
    · have h : (_ : Nat) = _ := List.mem_singleton.mp h
      omega
  TIi2 := by show (_ : Nat) ≠ _; omega
  mem2 := by simp
  zf2 := fun h => by
    rcases List.mem_cons.mp h with h | h
    · have h : (_ : Nat) = _ := h
      omega
    · have h : (_ : Nat) = _ := List.mem_singleton.mp h
      omega
  Tf2 := fun h => by
    rcases List.mem_cons.mp h with h | h
    · have h : (_ : Nat) = _ := h
      omega
    · have h : (_ : Nat) = _ := List.mem_singleton.mp h
      omega
  sep1_2 := fun h => by
    rcases List.mem_cons.mp h with h | h
    · have h : (_ : Nat) = _ := h
      omega
    · have h : (_ : Nat) = _ := List.mem_singleton.mp h
      omega
  sep2_1 := fun h => by
    rcases List.mem_cons.mp h with h | h
    · have h : (_ : Nat) = _ := h
      omega
    · have h : (_ : Nat) = _ := List.mem_singleton.mp h
      omega
theorem pi_zipB {X : Cx} {e e2 : Expr} {ta : TA} {p pos tpos : Pos} {elts : List Expr} {kk : Nat} (hg : Gl X "zip") (hm : X.mg "zip" = none) (ha : PA X [e, e2] ta)
    (hs : starEach [e, e2] X.env = (false, eval e X.env) :: starEach [e2] X.env := by rfl) (hpl : (backTo pos (starEach [e2] X.env)).any (·.1) = false := by rfl) :
    PI X (.Tuple elts kk tpos) (.Call (.Name "zip" p) [e, e2] [] pos) (iZipB X.K ta) := by
  refine ⟨fun pins s σ H R I h => ?_⟩
  refine Call_ (ld_blt I hg hm PyProof.Rows.boot_zip (PyProof.Rows.callWith_type1 (thn (ha.run pos pins s σ H _ I h) fun us s1 ⟨vs, H1, I1, r1, q1⟩ => ?_) hs hpl))
  obtain ⟨a, b, t1, t2, xs, ys, ex, hqx, hqy, q⟩ := q1
  subst ex
  cases r1 with
  | cons r rr =>
    cases rr with
    | cons r' rr =>
      cases rr
      cases r
      cases r'
      have fresh5 : ∀ c, c ∈ [s1.heap.objs.size + 4, s1.heap.objs.size + 2, s1.heap.objs.size + 3, s1.heap.objs.size, s1.heap.objs.size + 1] → FpOk X pins H1 c := fun c hcm => by
        have e' : c = s1.heap.objs.size + 4 ∨ c = s1.heap.objs.size + 2 ∨ c = s1.heap.objs.size + 3 ∨ c = s1.heap.objs.size ∨ c = s1.heap.objs.size + 1 := by simpa using hcm
        have hle : s1.heap.objs.size ≤ c := by
          rcases e' with z | z | z | z | z
          · rw [z]; exact Nat.le_add_right _ _
          · rw [z]; exact Nat.le_add_right _ _
          · rw [z]; exact Nat.le_add_right _ _
          · rw [z]; exact Nat.le_refl _
          · rw [z]; exact Nat.le_add_right _ _
        exact I1.fpOk hle (I1.hok.fresh hle)
      obtain ⟨its, rv, p1, _⟩ := seqB I1 hqx
      obtain ⟨its2, rv2, p2, _⟩ := seqB I1 hqy
      refine zip_begins2 (beginsB t1 a its.toArray) (beginsB t2 b its2.toArray) p1 p2 fun h' hz hTI hTO g1 g2 hsz hk => wpAny_pyIter_zip hz ?_
      have I2 : Inv X pins σ H1 { s1 with heap := h' } := I1.kept (t' := s1.toks) hk
      exact ⟨s1.heap.objs.size + 4, [s1.heap.objs.size + 4, s1.heap.objs.size + 2, s1.heap.objs.size + 3, s1.heap.objs.size, s1.heap.objs.size + 1], _, _, H1, rfl, I2, turn_zipB (sepB p1.lt p2.lt) (Nat.ne_of_lt p1.lt) (Nat.ne_of_lt (Nat.lt_succ_of_lt p2.lt)), ⟨hz, hTI, ⟨_, _, hTO⟩, itO_is g1, itO_is g2⟩, fresh5, q⟩
end Tr

set_option Elab.async false
set_option linter.all false
set_option maxRecDepth 100000
set_option maxHeartbeats 4000000
namespace Tr
open PySem PySem.Spec PyProof.Rows L2
/-! ### zip over data -/
def zipD (ds es : List D) : List D := List.zipWith (fun d e => PyData.tuple [d, e]) ds es
theorem zipD_len {ds es : List D} : (zipD ds es).length = min ds.length es.length := by simp [zipD]
theorem zipD_get {ds es : List D} {i : Nat} {d e : D} (h : ds[i]? = some d) (h' : es[i]? = some e) : (zipD ds es)[i]? = some (.tuple [d, e]) := by
  simp [zipD, List.getElem?_zipWith, h, h']
theorem walk_zipB {K : PySem.W.Frag} {t1 t2 : Bool} {a b : Addr} {xs ys : List V} : Walk (ItB t1 t2 K a b) (min xs.length ys.length) (fun H => SqB t1 K H a xs ∧ SqB t2 K H b ys) (YPair (fun i => xs[i]?) (fun i => ys[i]?)) := by
  refine ⟨fun i _ hi q => ?_, fun _ q => ⟨xs, ys, q.1, q.2, by omega⟩, fun i H v H' _ q y => ?_⟩
  · have h1 : i < xs.length := by omega
    have h2 : i < ys.length := by omega
    exact ⟨xs, ys, xs[i], ys[i], q.1, q.2, by simp [h1], by simp [h2]⟩
  · obtain ⟨T, x, y, e1, e2, e3, e4, e5⟩ := y
    exact ⟨T, x, y, e1, e2, e3, e4 xs q.1, e5 ys q.2⟩
theorem items_zip {K : PySem.W.Frag} {Ph : Hp} {xs ys : List V} {ds es : List D} {J : It} {Gp : Hp → Prop} (w : Walk J (min xs.length ys.length) Gp (YPair (fun i => xs[i]?) (fun i => ys[i]?))) (hG : ∀ H1, Le Ph H1 → Gp H1) (dp : DpAll K Ph xs ds) (ep : DpAll K Ph ys es) : Items K Ph (zipD ds es) J := by
  refine ⟨Gp, _, by rw [zipD_len, ← dps_len dp, ← dps_len ep]; exact w, hG, fun i H1 x H2 S hi l hS y => ?_⟩
  obtain ⟨T, u, v, rfl, hT, rfl, eu, ev⟩ := y
  rw [zipD_len] at hi
  have i1 : i < ds.length := by omega
  have i2 : i < es.length := by omega
  obtain ⟨u', h1, h2⟩ := dps_get dp (List.getElem?_eq_getElem i1)
  obtain ⟨v', h3, h4⟩ := dps_get ep (List.getElem?_eq_getElem i2)
  have eu : xs[i]? = some u := eu
  have ev : ys[i]? = some v := ev
  rw [eu] at h1
  cases h1
  rw [ev] at h3
  cases h3
  have nT : ¬ S T := fun z => hS T z hT
  have le : Le (hid S H1) (hid S (upd H1 T (.tup [u, v]))) := hid_le (Grow.new hT).le fun _ z => z
  refine ⟨Grow.new hT, _, zipD_get (List.getElem?_eq_getElem i1) (List.getElem?_eq_getElem i2), .tup (SqT.of ?_) (.cons (Le.dp (l.trans le) _ u h2) (.cons (Le.dp (l.trans le) _ v h4) .nil))⟩
  rw [hid_in nT]
  exact upd_same
def iZpD (f g : DF) : De → Wp (List D) := fun δ => (f δ).bind fun d => (g δ).bind fun e => (seqD d).bind fun ds => (seqD e).bind fun es => .pure (zipD ds es)
theorem seqB_of {K : PySem.W.Frag} {H : Hp} {v : V} {d : D} {k : List D → Prop} {w : Exn → Prop} (dp : Dp K H v d) (h : (seqD d).run k w) : ∃ t a xs ds, v = .ref a ∧ SqB t K H a xs ∧ DpAll K H xs ds ∧ k ds := by
  cases dp with
  | lst s a => exact ⟨false, _, _, _, rfl, s, a, h⟩
  | tup s a => exact ⟨true, _, _, _, rfl, s, a, h⟩
  | _ => exact h.elim
theorem SqB.le {t : Bool} {K : PySem.W.Frag} {H G : Hp} {a : Addr} {xs : List V} (l : Le H G) (h : SqB t K H a xs) : SqB t K G a xs := by
  cases t
  · exact Le.sqL l h
  · exact Le.sqT l h
theorem di_zip {X : Cx} {C : Cs} {W : WX} {e e2 : Expr} {f g : DF} {p pos tpos : Pos} {elts : List Expr} {kk : Nat} (hK : C.K = X.K) (hg : Gl X "zip") (hm : X.mg "zip" = none) (he : DE X C W e f) (he2 : DE X C W e2 g)
    (hs : starEach [e, e2] X.env = (false, eval e X.env) :: starEach [e2] X.env := by rfl) (hs2 : starEach [e2] X.env = [(false, eval e2 X.env)] := by rfl) (hpl : (backTo pos (starEach [e2] X.env)).any (·.1) = false := by rfl) :
    DI X C W (.Tuple elts kk tpos) (.Call (.Name "zip" p) [e, e2] [] pos) (iZpD f g) := by
  obtain ⟨t, pt, q⟩ := he
  obtain ⟨u, pu, q2⟩ := he2
  refine ⟨_, pi_zipB hg hm (pa_cons pt (pa_cons pu pa_nil hs2) hs) hs hpl, fun S0 H0 Pb σ H δ Q R h => q S0 H0 Pb σ H δ _ R ((f δ).mono (fun d h v G g1 dp => ?_) (fun _ z => z) h)⟩
  refine q2 S0 H0 Pb σ G δ _ (R.gr g1) ((g δ).mono (fun e h v2 G2 g2 dp2 => ?_) (fun _ z => z.gr g1) h)
  rw [← hK]
  have dp' := Le.dp (hid_le (S' := Own (C.bx S0 H0) σ δ) g2.le fun _ z => z) d v dp
  simp only [run_bind] at h
  obtain ⟨t1, a, xs, ds, rfl, s1, a1, h⟩ := seqB_of dp' h
  obtain ⟨t2, b, ys, es, rfl, s2, a2, h⟩ := seqB_of dp2 h
  exact ⟨a, b, t1, t2, xs, ys, rfl, SqB.le hid_sub s1, SqB.le hid_sub s2, h _ G2 (g1.trans g2) (items_zip walk_zipB (fun H1 l => ⟨SqB.le l s1, SqB.le l s2⟩) a1 a2)⟩
@[simp] theorem rw_iZpD {f g : DF} {δ : De} : iZpD f g δ = (f δ).bind fun d => (g δ).bind fun e => (seqD d).bind fun ds => (seqD e).bind fun es => .pure (zipD ds es) := rfl
theorem zipD_map {α β : Type} {f : α → D} {g : β → D} {xs : List α} {ys : List β} : zipD (xs.map f) (ys.map g) = (xs.zip ys).map fun p => PyData.tuple [f p.1, g p.2] := by
  simp [zipD, List.zipWith_map, List.zip, List.map_zipWith]
/-! ### a <= b <= c <= d as a test -/
section
variable {X : Cx} {C : Cs} {W : WX} {pos : Pos} {a b c d : Expr} {f g h m : DF} {ta tb tc td : TE}
def tChain3 (r r' r'' : R2) (ta tb tc td : TE) : TE := fun σ H Q => ta σ H fun x H1 => tb σ H1 fun y H2 => r x y H2 fun z H3 => ∃ k, z = .bl k ∧
  (if k = true then tc σ H3 fun w' H4 => r' y w' H4 fun z' H5 => ∃ k', z' = .bl k' ∧ (if k' = true then td σ H5 fun w'' H6 => r'' w' w'' H6 Q else Q (.bl false) H5) else Q (.bl false) H3)
theorem pt_chain3 {op op' op'' : CmpOp} {r r' r'' : R2} (ho : OpR X (compareOp op) r) (ho' : OpR X (compareOp op') r') (ho'' : OpR X (compareOp op'') r'') (ha : PE X a ta) (hb : PE X b tb) (hc : PE X c tc) (hd : PE X d td)
    (hm : lastMarks [op, op', op''] [b, c, d] = false := by with_unfolding_all rfl) : PT X (.Compare a [op, op', op''] [b, c, d] pos) (tTest (tChain3 r r' r'' ta tb tc td)) := by
  refine ⟨fun pins s σ H Q I h => ?_⟩
  refine isTrue_chain (thn (ha.run pins s σ H _ I h) fun v s1 ⟨x, H1, I1, r1, q1⟩ => test_link (thn (hb.run pins s1 σ H1 _ I1 q1) fun u s2 ⟨y, H2, I2, r2, q2⟩ =>
    thn (ho pins s2 σ H2 x y v u _ I2 r1 r2 q2) fun dd s3 ⟨z, H3, I3, r3, k, e, q3⟩ => ?_)) hm
  subst e
  cases r3
  refine wpAny_truthy_bool ?_
  cases k with
  | false =>
    obtain ⟨k', e', q'⟩ := q3
    cases e'
    exact ite_ff ⟨H3, I3, q'⟩
  | true =>
    refine ite_tt (test_link (thn (hc.run pins s3 σ H3 _ I3 q3) fun w1 s4 ⟨x4, H4, I4, r4, q4⟩ => thn (ho' pins s4 σ H4 y x4 u w1 _ I4 r2 r4 q4) fun dd s5 ⟨z, H5, I5, r5, k, e, q5⟩ => ?_))
    subst e
    cases r5
    refine wpAny_truthy_bool ?_
    cases k with
    | false =>
      obtain ⟨k', e', q'⟩ := q5
      cases e'
      exact ite_ff ⟨H5, I5, q'⟩
    | true =>
      refine ite_tt (test_last (thn (hd.run pins s5 σ H5 _ I5 q5) fun w2 s6 ⟨x6, H6, I6, r6, q6⟩ => thn (ho'' pins s6 σ H6 x4 x6 w1 w2 _ I6 r4 r6 q6) fun dd s7 ⟨z, H7, I7, r7, k, e, q7⟩ => ?_))
      subst e
      cases r7
      exact wpAny_truthy_bool ⟨H7, I7, q7⟩
def dChain3 (F G J : D → D → Wp D) (f g h m : DF) : DF := fun δ => (f δ).bind fun d => (g δ).bind fun e => (F d e).bind fun z => (asB z).bind fun k => if k then (h δ).bind fun x => (G e x).bind fun z' => (asB z').bind fun k' => if k' then (m δ).bind fun y => J x y else .pure (.bool false) else .pure (.bool false)
theorem dt_chain3 {op op' op'' : CmpOp} {F F' F'' : D → D → Wp D} {r r' r'' : R2} (ho : OpR X (compareOp op) r) (hF : Op2 X C r F) (ho' : OpR X (compareOp op') r') (hF' : Op2 X C r' F') (ho'' : OpR X (compareOp op'') r'') (hF'' : Op2 X C r'' F'')
    (ha : DE X C W a f) (hb : DE X C W b g) (hc : DE X C W c h) (hd : DE X C W d m)
    (hm : lastMarks [op, op', op''] [b, c, d] = false := by with_unfolding_all rfl) :
    DT X C W (.Compare a [op, op', op''] [b, c, d] pos) (tBv (dChain3 F F' F'' f g h m)) := by
  obtain ⟨ta, pa, qa⟩ := ha
  obtain ⟨tb, pb, qb⟩ := hb
  obtain ⟨tc, pc, qc⟩ := hc
  obtain ⟨td, pd, qd⟩ := hd
  refine ⟨_, pt_chain3 ho ho' ho'' pa pb pc pd hm, fun S0 H0 Pb σ H δ Q R hh => qa S0 H0 Pb σ H δ _ R ((f δ).mono (fun d hh x H1 g1 dx => ?_) (fun _ z => z) hh)⟩
  refine qb S0 H0 Pb σ H1 δ _ (R.gr g1) ((g δ).mono (fun e hh y H2 g2 dy => ?_) (fun _ z => z.gr g1) hh)
  refine hF x y H2 d e _ S0 H0 Pb σ δ _ (R.gr (g1.trans g2)) (Le.dp (hid_le g2.le fun _ z => z) d x dx) dy ((F d e).mono (fun z hz v H3 g3 dz => ?_) (fun _ z => z) hh)
  obtain ⟨k, rfl, hk⟩ := asB_inv hz
  cases dz
  refine ⟨k, rfl, ?_⟩
  have g13 := g1.trans (g2.trans g3)
  cases k with
  | false => exact ⟨false, rfl, hk H3 g13⟩
  | true =>
    refine qc S0 H0 Pb σ H3 δ _ (R.gr g13) ((h δ).mono (fun x' hx v' H4 g4 dx' => ?_) (fun _ z => z.gr g13) hk)
    refine hF' y v' H4 e x' _ S0 H0 Pb σ δ _ (R.gr (g13.trans g4)) (Le.dp (hid_le (g3.trans g4).le fun _ z => z) e y dy) dx' ((F' e x').mono (fun d' hd v2 H5 g5 dp => ?_) (fun _ z => z.gr (g13.trans g4)) hx)
    obtain ⟨k', rfl, hk'⟩ := asB_inv hd
    cases dp
    refine ⟨k', rfl, ?_⟩
    have g15 := (g13.trans g4).trans g5
    cases k' with
    | false => exact ⟨false, rfl, hk' H5 g15⟩
    | true =>
      refine qd S0 H0 Pb σ H5 δ _ (R.gr g15) ((m δ).mono (fun y' hy v3 H6 g6 dy' => ?_) (fun _ z => z.gr g15) hk')
      refine hF'' v' v3 H6 x' y' _ S0 H0 Pb σ δ _ (R.gr (g15.trans g6)) (Le.dp (hid_le (g5.trans g6).le fun _ z => z) x' v' dx') dy' ((F'' x' y').mono (fun d' hd v2 H7 g7 dp => ?_) (fun _ z => z.gr (g15.trans g6)) hy)
      obtain ⟨k'', rfl, hk''⟩ := asB_inv hd
      cases dp
      exact ⟨k'', rfl, hk'' H7 ((g15.trans g6).trans g7)⟩
@[simp] theorem rw_dChain3 {F G J : D → D → Wp D} {δ : De} : dChain3 F G J f g h m δ = (f δ).bind fun d => (g δ).bind fun e => (F d e).bind fun z => (asB z).bind fun k => if k then (h δ).bind fun x => (G e x).bind fun z' => (asB z').bind fun k' => if k' then (m δ).bind fun y => J x y else .pure (.bool false) else .pure (.bool false) := rfl
end
end Tr

set_option Elab.async false
set_option linter.all false
set_option maxRecDepth 100000
set_option maxHeartbeats 4000000
namespace Tr
open PySem PySem.Spec PyProof.Rows L2
/-! ### x is True -/
section
variable {X : Cx} {C : Cs} {W : WX} {pos : Pos} {a b : Expr} {f g : DF}
def dIsB : D → D → Wp D
  | .bool a, .bool b => .pure (.bool (decide (a = b)))
  | _, _ => .stuck
def dIsNotB : D → D → Wp D
  | .bool a, .bool b => .pure (.bool (!decide (a = b)))
  | _, _ => .stuck
@[simp] theorem rw_isB {a b : Bool} : dIsB (.bool a) (.bool b) = .pure (.bool (decide (a = b))) := rfl
@[simp] theorem rw_isNotB {a b : Bool} : dIsNotB (.bool a) (.bool b) = .pure (.bool (!decide (a = b))) := rfl
theorem o2_isB : Op2 X C (fun x y H Q => ∃ a b, x = .bl a ∧ y = .bl b ∧ Q (.bl (decide (a = b))) H) dIsB := by
  intro x y H d e Q S0 H0 Pb σ δ w R dx dy h
  unfold dIsB at h
  split at h
  · cases dx
    cases dy
    exact ⟨_, _, rfl, rfl, h _ H (Grow.refl H) (.bl _)⟩
  · exact h.elim
theorem o2_isNotB : Op2 X C (fun x y H Q => ∃ a b, x = .bl a ∧ y = .bl b ∧ Q (.bl (!decide (a = b))) H) dIsNotB := by
  intro x y H d e Q S0 H0 Pb σ δ w R dx dy h
  unfold dIsNotB at h
  split at h
  · cases dx
    cases dy
    exact ⟨_, _, rfl, rfl, h _ H (Grow.refl H) (.bl _)⟩
  · exact h.elim
theorem de_isB (ha : DE X C W a f) (hb : DE X C W b g) : DE X C W (.Compare a [.Is] [b] pos) (d2 dIsB f g) := de_cmp op_is_bl o2_isB (nomark _) ha hb
theorem de_isNotB (ha : DE X C W a f) (hb : DE X C W b g) : DE X C W (.Compare a [.IsNot] [b] pos) (d2 dIsNotB f g) := de_cmp op_isnot_bl o2_isNotB (nomark _) ha hb
theorem dt_isB (ha : DE X C W a f) (hb : DE X C W b g) : DT X C W (.Compare a [.Is] [b] pos) (tBv (d2 dIsB f g)) := dt_cmp op_is_bl o2_isB (nomark _) ha hb
theorem dt_isNotB (ha : DE X C W a f) (hb : DE X C W b g) : DT X C W (.Compare a [.IsNot] [b] pos) (tBv (d2 dIsNotB f g)) := dt_cmp op_isnot_bl o2_isNotB (nomark _) ha hb
end
/-! ### t[::-1] -/
section
variable {prog : Program} {w : World} {A : Around} {E : Value → Shared → Prop} {s : Shared}
theorem pick_rev (xs : Array Value) : ((List.range xs.size).filterMap fun (m : Nat) => xs[(((xs.size : Int) - 1) + (m : Int) * (-1)).toNat]?).toArray = xs.toList.reverse.toArray := by
  congr 1
  have key : ∀ n : Nat, n ≤ xs.size → ((List.range n).filterMap fun (m : Nat) => xs[(((xs.size : Int) - 1) + (m : Int) * (-1)).toNat]?) = xs.toList.reverse.take n := by
    intro n
    induction n with
    | zero => intro _; simp
    | succ n ih =>
      intro hn
      rw [List.range_succ, List.filterMap_append, ih (by omega)]
      have e : (((xs.size : Int) - 1) + (n : Int) * (-1)).toNat = xs.size - 1 - n := by omega
      have hl : n < xs.toList.reverse.length := by simp; omega
      rw [List.take_succ, List.getElem?_eq_getElem hl]
      simp only [List.filterMap_cons, List.filterMap_nil, e]
      rw [Array.getElem?_eq_getElem (by omega)]
      simp
  rw [key _ (Nat.le_refl _), List.take_of_length_le (by simp)]
theorem applied_rev {sl : Addr} {t : Tok} {n : Nat} {Q : Int × Int × Nat → Shared → Prop} (hs : s.heap.IsSliceOf sl .none .none (.int (-1) t))
    (h : Q ((n : Int) - 1, -1, n) s) : wpAny (model prog w) A (Builtin.Slice.sliceApplied (.ref sl) (pure (n : Int))) Q E s := by
  obtain ⟨os, hos, hcs, hds⟩ := id hs
  unfold Builtin.Slice.sliceApplied Builtin.Slice.sliceFields
  refine wpAny_bind (wpAny_bind (wpAny_field hos hds (x := .none) rfl (wpAny_bind (wpAny_field hos hds (x := .none) rfl (wpAny_bind (wpAny_field hos hds (x := .int (-1) t) rfl (wpAny_pure ?_)))))))
  refine wpAny_bind (slicePart_int ?_)
  show wpAny _ _ (if ((-1 : Int) == 0) = true then _ else _) _ _ s
  rw [if_neg (by decide)]
  refine wpAny_bind (slicePart_none (wpAny_bind (slicePart_none (wpAny_bind (wpAny_pure ?_)))))
  show wpAny _ _ (pure (((n : Int) - 1), (-1 : Int), Builtin.Slice.slicePlaces ((n : Int) - 1) (-1) (-1))) _ _ s
  have e : Builtin.Slice.slicePlaces ((n : Int) - 1) (-1) (-1) = n := by
    unfold Builtin.Slice.slicePlaces
    have h1 : ¬ ((-1 : Int) > 0) := by omega
    simp only [h1, if_false]
    split
    · have : ((n : Int) - 1 - -1 - 1) / (- -1) = n - 1 := by
        rw [show (- -1 : Int) = 1 by omega, Int.ediv_one]
        omega
      rw [this]
      omega
    · omega
  rw [e]
  exact wpAny_pure h
theorem getItem_tuple_rev {t sl : Addr} {items : Array Value} {tk : Tok} {Q : Value → Shared → Prop} (ht : IsTup s.heap t items) (hs : s.heap.IsSliceOf sl .none .none (.int (-1) tk))
    (h : Q (.ref s.heap.objs.size) { s with heap := s.heap.push { cls := .type "tuple", data := .seq items.toList.reverse.toArray } })
    (hsz : items.size ≤ sizeLine) : wpAny (model prog w) A (getItem (.ref t) (.ref sl)) Q E s := by
  have htake : sizeOk (.seq items.toList.reverse.toArray) := by
    show items.toList.reverse.toArray.size ≤ sizeLine
    rw [List.size_toArray, List.length_reverse, Array.length_toList]
    omega
  obtain ⟨os, hos, hcs, hds⟩ := id hs
  have hTs : s.TypeIs (.ref sl) "slice" := ⟨os, hos, hcs⟩
  unfold getItem
  try with_reducible refine wpAny_holding ?_
  first | refine wpAny_bind (wpAny_pure ?_) | skip
  refine wpAny_bind (wpAny_sequenceKey ht.typeIs (by decide) ?_)
  refine wpAny_bind (wpAny_callSpecial?_slot (name := Str.ofString "__getitem__") ht.typeIs PyProof.Rows.slot_tuple_getitem
    (wpAny_call_entry PyProof.Rows.slot_tuple_getitem ht.typeIs entry_tuple_getitem ?_ (args_tuple_getitem _ _)))
  show wpAny _ _ (Builtin.Tuple.tupleItemsOf (.ref t) >>= _) _ _ s
  refine wpAny_bind (tupleItemsOf_ ht ?_)
  refine wpAny_bind (wpAny_typeOf hTs ?_)
  rw [if_pos (by decide)]
  refine wpAny_bind (applied_rev hs ?_)
  have hno : ¬ ((((items.size : Int) - 1) == 0 && (-1 : Int) == 1 && items.size == items.size) = true) := by
    intro q
    rw [Bool.and_eq_true, Bool.and_eq_true] at q
    exact absurd q.1.2 (by decide)
  show wpAny _ _ (if (((items.size : Int) - 1) == 0 && (-1 : Int) == 1 && items.size == items.size) = true then _ else _) _ _ s
  rw [if_neg hno, pick_rev]
  first
    | exact wpAny_bind (m := Builtin.Tuple.tupleExact _) (wpAny_newObj_type (wpAny_pure ⟨_, rfl, wpAny_pure h⟩) htake)
    | exact wpAny_bind (m := Builtin.Tuple.tupleExact _) (wpAny_newObj_type (wpAny_bind (wpAny_pure (wpAny_pure ⟨_, rfl, wpAny_pure h⟩))) htake)
    | exact wpAny_bind (wpAny_bind (m := Builtin.Tuple.tupleExact _) (wpAny_newObj_type (wpAny_pure (wpAny_pure ⟨_, rfl, wpAny_pure h⟩)) htake))
    | exact wpAny_bind (wpAny_bind (m := Builtin.Tuple.tupleExact _) (wpAny_newObj_type (wpAny_pure ⟨_, rfl, wpAny_pure h⟩) htake))
end
section
variable {X : Cx} {e st : Expr} {te ts : TE} {pos p2 : Pos}
def tRev (K : PySem.W.Frag) (te ts : TE) : TE := fun σ H Q => te σ H fun x H1 => ts σ H1 fun y H2 => y = .int (-1) ∧ ∃ a xs, x = .ref a ∧ SqT K H2 a xs ∧ ∀ p, H2 p = none → Q (.ref p) (upd H2 p (.tup xs.reverse))
theorem vals_rev {xs : List V} {us : List Value} (r : Vals xs us) : Vals xs.reverse us.reverse := by
  induction r with
  | nil => exact .nil
  | cons a r ih =>
    rw [List.reverse_cons, List.reverse_cons]
    exact ih.append (.cons a .nil)
theorem pe_rev (he : PE X e te) (hs : PE X st ts) : PE X (.Subscript e (.Slice none none (some st) p2) pos) (tRev X.K te ts) := by
  refine ⟨fun pins s σ H Q I h => ?_⟩
  refine Subscript_ (thn (he.run pins s σ H _ I h) fun v s1 ⟨x, H1, I1, r1, q1⟩ => ?_)
  refine wpAny_Slice ?_
  rw [evalPart_none]
  refine wpAny_pure ?_
  refine wpAny_pure ?_
  rw [evalPart_some]
  refine thn (hs.run pins s1 σ H1 _ I1 q1) fun vs s3 ⟨y, H3, I3, ry, q3⟩ => ?_
  obtain ⟨rfl, a, xs, rfl, hx, q⟩ := q3
  obtain ⟨tk, rfl⟩ := ry
  cases r1
  have I4 : Inv X pins σ H3 { s3 with heap := s3.heap.push { cls := .type "slice", data := .fields #[.none, .none, .int (-1) tk] } } := I3.kept (t' := s3.toks) fun b ob q => Heap.get?_push_of_some _ q
  obtain ⟨its, r, ht, hz⟩ := I4.tuple hx
  have hlen : its.toArray.size = xs.length := by rw [List.size_toArray]; exact r.length.symm
  have hg : wpAny (model X.prog X.w) X.A (getItem (.ref a) (.ref s3.heap.objs.size)) (EP X pins σ Q) X.xe { s3 with heap := s3.heap.push { cls := .type "slice", data := .fields #[.none, .none, .int (-1) tk] } } := by
    refine getItem_tuple_rev ht (Heap.IsSliceOf.new ..) ?_ (by rw [hlen]; exact hz)
    refine ⟨.ref _, _, I4.laid (t' := s3.toks) (o := .tup xs.reverse) (fun b ob q => Heap.get?_push_of_some _ q) (Nat.le_refl _) ?_, rfl, q _ (I4.hok.fresh (Nat.le_refl _))⟩
    exact ⟨by rw [List.length_reverse]; exact hz, _, vals_rev r, IsTup.new _ _⟩
  show wpAny (model X.prog X.w) X.A (subscriptTail e (.Slice none none (some st) p2) (.ref a) (.ref s3.heap.objs.size)) (EP X pins σ Q) X.xe { s3 with heap := s3.heap.push { cls := .type "slice", data := .fields #[.none, .none, .int (-1) tk] } }
  exact tail_any (ops := [.ref a, .ref s3.heap.objs.size]) ht.typeIs PyProof.Rows.slot_tuple_getitem.lookup hg (by with_unfolding_all rfl)
end
section
variable {X : Cx} {C : Cs} {W : WX} {pos p2 : Pos} {a b : Expr} {f g : DF}
theorem dps_rev {K : PySem.W.Frag} {H : Hp} : ∀ {vs : List V} {ds : List D}, DpAll K H vs ds → DpAll K H vs.reverse ds.reverse
  | [], [], _ => .nil
  | v :: vs, d :: ds, .cons x r => by
    rw [List.reverse_cons, List.reverse_cons]
    exact dps_app (dps_rev r) (.cons x .nil)
def dRev : D → D → Wp D
  | .tuple ds, .int i => .need (i = -1) (.pure (.tuple ds.reverse))
  | _, _ => .stuck
@[simp] theorem rw_rev {ds : List D} : dRev (.tuple ds) (.int (-1)) = .need ((-1 : Int) = -1) (.pure (.tuple ds.reverse)) := rfl
theorem de_rev (hK : C.K = X.K) (ha : DE X C W a f) (hb : DE X C W b g) : DE X C W (.Subscript a (.Slice none none (some b) p2) pos) (d2 dRev f g) := by
  obtain ⟨ta, pa, qa⟩ := ha
  obtain ⟨tb, pb, qb⟩ := hb
  refine ⟨_, pe_rev pa pb, fun S0 H0 Pb σ H δ Q R hw => qa S0 H0 Pb σ H δ _ R ((f δ).mono (fun d hw x H1 g1 dx => ?_) (fun _ z => z) hw)⟩
  refine qb S0 H0 Pb σ H1 δ _ (R.gr g1) ((g δ).mono (fun e hw y H2 g2 dy => ?_) (fun _ z => z.gr g1) hw)
  have R2 := R.gr (g1.trans g2)
  have dx2 := Le.dp (hid_le (S' := Own (C.bx S0 H0) σ δ) g2.le fun _ z => z) d x dx
  have k2 : (dRev d e).run (Dv (C.bx S0 H0) σ H2 δ Q) (Ew (C.bx S0 H0) W σ H) := (dRev d e).mono (fun _ z => z.gr (g1.trans g2)) (fun _ z => z) hw
  unfold dRev at k2
  split at k2
  · cases dy
    cases dx2 with
    | tup s a =>
      obtain ⟨rfl, k3⟩ := k2
      rw [← hK]
      exact ⟨rfl, _, _, rfl, Le.sqT hid_sub s, new_tup R2 (dps_rev a) k3⟩
  · exact k2.elim
end
end Tr

set_option Elab.async false
set_option linter.all false
set_option maxRecDepth 100000
set_option maxHeartbeats 4000000
namespace Tr
open PySem PySem.Spec PyProof.Rows L2
/-! ### max of a list or a tuple of ints; bool of a list -/
section
variable {prog : Program} {w : World} {A : Around} {E : Value → Shared → Prop} {s : Shared} {l : Addr}
theorem iter_intTup {xs : Array (Int × Tok)} {Q : Value → Shared → Prop} (hl : s.heap.IsTuple l (intItems xs))
    (h : ∀ s₂, s₂ = { s with heap := s.heap.push { cls := .type "tuple_iterator", data := .fields #[.ref l, .int 0 0] } } →
      (s₂.heap.IsTupleIter s.heap.objs.size l 0 ∧ s₂.heap.IsTuple l (intItems xs)) → (∀ b ∈ [s.heap.objs.size, l], b < s₂.heap.objs.size) → l ≠ s.heap.objs.size → Q (.ref s.heap.objs.size) s₂) :
    wpAny (model prog w) A (pyIter (.ref l)) Q E s := by
  have hlt : l < s.heap.objs.size := by obtain ⟨_, e, _⟩ := hl; exact Heap.lt_size e
  refine wpAny_pyIter_tuple hl (h _ rfl ⟨⟨_, Heap.get?_push_size _ rfl, rfl, rfl⟩, hl.push _⟩ (fun b hb => ?_) (Nat.ne_of_lt hlt))
  show b < (s.heap.push _).objs.size
  rw [Heap.size_push]
  rcases List.mem_cons.mp hb with rfl | hb
  · exact Nat.lt_succ_self _
  · rcases List.mem_cons.mp hb with rfl | hb
    · exact Nat.lt_succ_of_lt hlt
    · cases hb
theorem old_keptT {h' : Heap} (hk : ∀ b o, b ∉ [s.heap.objs.size] → (s.heap.push { cls := .type "tuple_iterator", data := .fields #[.ref l, .int 0 0] }).get? b = some o → h'.get? b = some o) :
    ∀ b o, s.heap.get? b = some o → h'.get? b = some o := fun b o e => by
  refine hk b o (fun hm => ?_) (Heap.get?_push_of_some _ e)
  rcases List.mem_cons.mp hm with e1 | hm
  · exact absurd (e1 ▸ Heap.lt_size e) (Nat.lt_irrefl _)
  · cases hm
theorem max_intTup {xs : Array (Int × Tok)} {Q : Value → Shared → Prop} (hh : A.handled = none) (hl : s.heap.IsTuple l (intItems xs)) (hne : 0 < xs.size)
    (h : ∀ v h' tk, (intItems xs)[argBest (fun i j => decide (numAt xs i > numAt xs j)) (xs.size - 1)]? = some v → (∀ b o, s.heap.get? b = some o → h'.get? b = some o) → Q v { s with heap := h', toks := tk }) :
    wpAny (model prog w) A (call (.builtin "max") [.ref l]) Q E s := by
  refine call_max_walk (iter_intTup hl fun s₂ e st hfp hlI => ?_)
  subst e
  refine ⟨_, _, _, _, _, _, _, rfl, Walks.tuple (A := A.in1) hh _ l hlI (intItems xs), st, hfp, by simpa [intItems] using hne, CmpOf.ints_gt (numAt xs) (fun _ _ => intItems_at), fun v h' tk hP hk => ?_⟩
  exact h v h' tk (by simpa [intItems] using hP) (old_keptT hk)
theorem max_rawT {its : List Value} {ns : List Int} {Q : Value → Shared → Prop} (hh : A.handled = none) (hl : s.heap.IsTuple l its.toArray) (hi : IntsAre its ns) (hne : 0 < ns.length)
    (h : ∀ h' tk M t', (∀ b o, s.heap.get? b = some o → h'.get? b = some o) → M ∈ ns → (∀ a, a ∈ ns → a ≤ M) → Q (.int M t') { s with heap := h', toks := tk }) : wpAny (model prog w) A (call (.builtin "max") [.ref l]) Q E s := by
  obtain ⟨xs, e⟩ := hi.allInts.items
  have hn : numsOf (intItems xs).toList = ns := by rw [← e]; exact hi.numsOf
  rw [nums_intItems] at hn
  subst hn
  rw [e] at hl
  have hsz : 0 < xs.size := by simpa using hne
  refine max_intTup hh hl hsz fun v h' tk hv hk => ?_
  obtain ⟨t, rfl⟩ := intItems_at hv
  obtain ⟨h1, h2⟩ := argBest_gt (numAt xs) (xs.size - 1)
  refine h h' tk _ t hk ?_ fun a ha => ?_
  · rw [numAt_eq]; exact PySem.getD_mem (by rw [List.length_map, Array.length_toList]; omega)
  · obtain ⟨j, hj, rfl⟩ := mem_getD ha
    rw [List.length_map, Array.length_toList] at hj
    rw [← numAt_eq]; exact h2 j (by omega)
end
section
variable {X : Cx}
def rMaxA (K : PySem.W.Frag) : List V → Hp → VK → Prop := fun vs H Q => ∃ (t : Bool) (a : Addr) (ns : List Int), vs = [V.ref a] ∧ SqB t K H a (ns.map V.int) ∧ 0 < ns.length ∧ ∀ m, m ∈ ns → (∀ y, y ∈ ns → y ≤ m) → Q (.int m) H
theorem cr_maxA (hc : X.calm = true) : CallR X (.builtin "max") (rMaxA X.K) := by
  intro pins s σ H vs us Q I r h
  obtain ⟨t, a, ns, rfl, hs, hne, q⟩ := h
  obtain ⟨its, rv, hl, _⟩ := seqB I hs
  rw [Vals.ref1 r]
  cases t
  · exact max_raw (I.ok.hd hc) hl rv.ints hne fun h' tk m t' hk h1 h2 => ⟨.int _, H, I.kept hk, ⟨_, rfl⟩, q m h1 h2⟩
  · exact max_rawT (I.ok.hd hc) hl rv.ints hne fun h' tk m t' hk h1 h2 => ⟨.int _, H, I.kept hk, ⟨_, rfl⟩, q m h1 h2⟩
end
def bMaxL : List D → Wp D
  | [d] => (seqD d).bind fun ds => (optW (intsD ds)).bind fun ns => .need (0 < ns.length) ((Wp.any fun m => m ∈ ns ∧ ∀ y ∈ ns, y ≤ m).bind fun m => .pure (.int m))
  | _ => .stuck
theorem on_maxL {C : Cs} : OpN C (rMaxA C.K) bMaxL := by
  intro vs H ds Q S0 H0 Pb σ δ w R dp h
  unfold bMaxL at h
  split at h
  · rename_i d
    cases dp with
    | cons a b =>
      cases b
      simp only [run_bind] at h
      obtain ⟨t, a, xs, es, rfl, s, dps, h⟩ := seqB_of a h
      obtain ⟨ns, e, h1, h2⟩ := optW_inv h
      rw [ints_dps dps e] at s
      exact ⟨t, _, ns, rfl, SqB.le hid_sub s, h1, fun m m1 m2 => h2 m ⟨m1, m2⟩ _ H (Grow.refl H) (.int m)⟩
  · exact h.elim
theorem max_run {ns : List Int} {k : D → Prop} {w : Exn → Prop} {tp : List D → D} (htp : tp = PyData.tuple ∨ tp = PyData.list) (h : 0 < ns.length) (hk : ∀ m ∈ ns, (∀ y ∈ ns, y ≤ m) → k (.int m)) : (bMaxL [tp (ns.map .int)]).run k w := by
  show ((seqD (tp (ns.map .int))).bind _).run k w
  have e : seqD (tp (ns.map .int)) = .pure (ns.map .int) := by rcases htp with rfl | rfl <;> rfl
  rw [e]
  show ((optW (intsD (ns.map .int))).bind _).run k w
  rw [ints_map]
  exact ⟨h, fun m hm => hk m hm.1 hm.2⟩
end Tr

set_option Elab.async false
set_option linter.all false
set_option maxRecDepth 100000
set_option maxHeartbeats 4000000
namespace Tr
open PySem PySem.Spec L2
def top (i : Nat) : Stmt := PySem.Challenge.pw_tollroads_k88_across_leaders_in_scale.main.body.getD i (.Pass ⟨0, 0, 0, 0⟩)

abbrev s_law_taken : Stmt := top 49
theorem sc_law_taken : FnScope ["_law_row", "_law_many", "_law_found", "_law_cell"] ["_law_row", "_law_many"] (defScope s_law_taken) := ⟨rfl, rfl, rfl, by decide +kernel, rfl, by decide +kernel, by decide +kernel⟩
noncomputable abbrev f_law_taken (C : Cs) : List Ar → Wp D := fTaken C

abbrev s_law_pick : Stmt := top 50
theorem sc_law_pick : FnScope ["_law_row", "_law_things"] ["_law_row", "_law_things"] (defScope s_law_pick) := ⟨rfl, rfl, rfl, by decide +kernel, rfl, by decide +kernel, by decide +kernel⟩
noncomputable def b_law_pick (C : Cs) : SF := (sRet (d2 dIx (dV 1) (dCall 2 (f_law_taken C) (aTrk 0 (aCons (dCB bLen (aCons (dV 1) aNil)) aNil)))))
noncomputable def f_law_pick (C : Cs) : List Ar → Wp D := dRun 2 (b_law_pick C)

abbrev s_law_ratio : Stmt := top 52
theorem sc_law_ratio : FnScope ["_law_top", "_law_bottom", "_law_one", "_law_other"] ["_law_top", "_law_bottom"] (defScope s_law_ratio) := ⟨rfl, rfl, rfl, by decide +kernel, rfl, by decide +kernel, by decide +kernel⟩
noncomputable def b_law_ratio : SF := (sSeq (sPar 2 3 (aCons (dCB bAbs (aCons (dV 0) aNil)) (aCons (dCB bAbs (aCons (dV 1) aNil)) aNil))) (sSeq (sWhile (tBv (d2 dNe (dV 3) (dC (.int 0)))) (sPar 2 3 (aCons (dV 3) (aCons (d2 dMod (dCB bInt (aCons (dV 2) aNil)) (dV 3)) aNil)))) (sRet (dIf (tBv (d2 dGt (dV 1) (dC (.int 0)))) (dTup (aCons (d2 dFdv (dV 0) (dV 2)) (aCons (d2 dFdv (dV 1) (dV 2)) aNil))) (dTup (aCons (d2 dSub (dC (.int 0)) (d2 dFdv (dV 0) (dV 2))) (aCons (d2 dSub (dC (.int 0)) (d2 dFdv (dV 1) (dV 2))) aNil)))))))
noncomputable def f_law_ratio : List Ar → Wp D := dRun 4 b_law_ratio

abbrev s_law_demand : Stmt := top 57
theorem sc_law_demand : FnScope ["_law_row"] ["_law_row"] (defScope s_law_demand) := ⟨rfl, rfl, rfl, by decide +kernel, rfl, by decide +kernel, by decide +kernel⟩
noncomputable def b_law_demand (C : Cs) : SF := (sRet (dCall 2 (f_law_pick C) (aTrk 0 (aCons (dLst (aCons (dTup (aCons (dC (.int 1)) (aCons (dC (.int 1)) aNil))) (aCons (dTup (aCons (dC (.int 1)) (aCons (dC (.int 2)) aNil))) (aCons (dTup (aCons (dC (.int 10)) (aCons (dC (.int 1)) aNil))) (aCons (dTup (aCons (dC (.int 7)) (aCons (dC (.int 3)) aNil))) (aCons (dTup (aCons (dC (.int 1000)) (aCons (dC (.int 1)) aNil))) (aCons (dCall 2 f_law_ratio (aCons (d2 dAdd (dC (.int 1)) (dCall 2 (f_law_taken C) (aTrk 0 (aCons (dC (.int 30)) aNil)))) (aCons (d2 dAdd (dC (.int 1)) (dCall 2 (f_law_taken C) (aTrk 0 (aCons (dC (.int 6)) aNil)))) aNil))) aNil))))))) aNil))))
noncomputable def f_law_demand (C : Cs) : List Ar → Wp D := dRun 1 (b_law_demand C)

abbrev s_law_lanes : Stmt := top 59
theorem sc_law_lanes : FnScope ["_law_row", "_law_k"] ["_law_row"] (defScope s_law_lanes) := ⟨rfl, rfl, rfl, by decide +kernel, rfl, by decide +kernel, by decide +kernel⟩
noncomputable def b_law_lanes (C : Cs) : SF := (sRet (dCB bTuple (aCons (dNl (nLc (iRgD1 (d2 dAdd (dC (.int 1)) (dCall 2 (f_law_taken C) (aTrk 0 (aCons (dC (.int 5)) aNil))))) (bName 1) tYesD (dTup (aCons (dCall 2 (f_law_pick C) (aTrk 0 (aCons (dLst (aCons (dC (.int 0)) (aCons (dC (.int 1)) (aCons (dC (.int 2)) (aCons (dC (.int 5)) (aCons (dC (.int 100)) aNil)))))) aNil))) (aCons (dCall 2 (f_law_pick C) (aTrk 0 (aCons (dLst (aCons (dC (.int 0)) (aCons (dC (.int 1)) (aCons (dC (.int 10)) (aCons (dC (.int 1000)) (aCons (dCall 2 (f_law_taken C) (aTrk 0 (aCons (dC (.int 30)) aNil))) aNil)))))) aNil))) aNil))) ([1] : List Nat))) aNil)))
noncomputable def f_law_lanes (C : Cs) : List Ar → Wp D := dRun 2 (b_law_lanes C)

abbrev s_is_in : Stmt := top 9
theorem sc_is_in : FnScope ["value", "least", "most"] ["value", "least", "most"] (defScope s_is_in) := ⟨rfl, rfl, rfl, by decide +kernel, rfl, by decide +kernel, by decide +kernel⟩
noncomputable def b_is_in : SF := (sRet (dAndV (dIsi "int" (dV 0)) (dAndV (dNotV (dIsi "bool" (dV 0))) (dChain dLe dLe (dV 1) (dV 0) (dV 2)))))
noncomputable def f_is_in : List Ar → Wp D := dRun 3 b_is_in

abbrev s_is_lane : Stmt := top 23
theorem sc_is_lane : FnScope ["value"] ["value"] (defScope s_is_lane) := ⟨rfl, rfl, rfl, by decide +kernel, rfl, by decide +kernel, by decide +kernel⟩
noncomputable def b_is_lane : SF := (sSeq (sIf (tOr2 (tNotV (tT (dIsi "tuple" (dV 0)))) (tBv (d2 dNe (dCB bLen (aCons (dV 0) aNil)) (dC (.int 2))))) (sRet (dC (.bool false))) sNext) (sRet (dAndV (dCall 3 f_is_in (aCons (d2 dIx (dV 0) (dC (.int 0))) (aCons (dC (.int 0)) (aCons (dC (.int 100)) aNil)))) (dCall 3 f_is_in (aCons (d2 dIx (dV 0) (dC (.int 1))) (aCons (dC (.int 0)) (aCons (dC (.int 1000)) aNil)))))))
noncomputable def f_is_lane : List Ar → Wp D := dRun 1 b_is_lane

abbrev s_is_ratio : Stmt := top 18
theorem sc_is_ratio : FnScope ["value", "one"] ["value"] (defScope s_is_ratio) := ⟨rfl, rfl, rfl, by decide +kernel, rfl, by decide +kernel, by decide +kernel⟩
noncomputable def b_is_ratio : SF := (sSeq (sIf (tOr2 (tNotV (tT (dIsi "tuple" (dV 0)))) (tBv (d2 dNe (dCB bLen (aCons (dV 0) aNil)) (dC (.int 2))))) (sRet (dC (.bool false))) sNext) (sSeq (sIf (tNotV (tT (dGa true (iSeqD (dV 0)) (bName 1) tYesD (dAndV (dIsi "int" (dV 1)) (dNotV (dIsi "bool" (dV 1)))) ([1] : List Nat)))) (sRet (dC (.bool false))) sNext) (sRet (dAndV (d2 dGt (d2 dIx (dV 0) (dC (.int 1))) (dC (.int 0))) (d2 dEq (dCB bGcd (aCons (d2 dIx (dV 0) (dC (.int 0))) (aCons (d2 dIx (dV 0) (dC (.int 1))) aNil))) (dC (.int 1)))))))
noncomputable def f_is_ratio : List Ar → Wp D := dRun 2 b_is_ratio

abbrev s_need_demand : Stmt := top 24
theorem sc_need_demand : FnScope ["demand"] ["demand"] (defScope s_need_demand) := ⟨rfl, rfl, rfl, by decide +kernel, rfl, by decide +kernel, by decide +kernel⟩
noncomputable def b_need_demand : SF := (sIf (tOr2 (tNotV (tT (dCall 1 f_is_ratio (aCons (dV 0) aNil)))) (tOr2 (tNotV (tBv (dChain dLe dLe (dC (.int 1)) (d2 dIx (dV 0) (dC (.int 0))) (dC (.int 1000))))) (tBv (d2 dGt (d2 dIx (dV 0) (dC (.int 1))) (dC (.int 100)))))) sDead sNext)
noncomputable def f_need_demand : List Ar → Wp D := dRun 1 b_need_demand

abbrev s_need_lanes : Stmt := top 25
theorem sc_need_lanes : FnScope ["lanes", "demand", "index", "one"] ["lanes", "demand"] (defScope s_need_lanes) := ⟨rfl, rfl, rfl, by decide +kernel, rfl, by decide +kernel, by decide +kernel⟩
noncomputable def b_need_lanes : SF := (sSeq (sIf (tOr2 (tNotV (tT (dIsi "tuple" (dV 0)))) (tNotV (tBv (dChain dLe dLe (dC (.int 1)) (dCB bLen (aCons (dV 0) aNil)) (dC (.int 8)))))) sDead sNext) (sSeq (sFor (iEnD (dV 0)) (bTup 2 (bCons (bName 2) (bCons (bName 3) bNil))) (sIf (tNotV (tT (dCall 1 f_is_lane (aCons (dV 3) aNil)))) sDead sNext)) (sDrop (dCall 1 f_need_demand (aCons (dV 1) aNil)))))
noncomputable def f_need_lanes : List Ar → Wp D := dRun 4 b_need_lanes

abbrev s_need_share : Stmt := top 36
theorem sc_need_share : FnScope ["lanes", "demand", "share"] ["lanes", "demand", "share"] (defScope s_need_share) := ⟨rfl, rfl, rfl, by decide +kernel, rfl, by decide +kernel, by decide +kernel⟩
noncomputable def b_need_share : SF := (sSeq (sDrop (dCall 2 f_need_lanes (aCons (dV 0) (aCons (dV 1) aNil)))) (sIf (tOr2 (tNotV (tT (dCall 1 f_is_ratio (aCons (dV 2) aNil)))) (tNotV (tBv (dChain3 dLe dLe dLe (dC (.int 0)) (d2 dIx (dV 2) (dC (.int 0))) (d2 dIx (dV 2) (dC (.int 1))) (dC (.int 100)))))) sDead sNext))
noncomputable def f_need_share : List Ar → Wp D := dRun 3 b_need_share

abbrev s_with_ratios : Stmt := top 30
theorem sc_with_ratios : FnScope ["lanes", "slope", "base"] ["lanes"] (defScope s_with_ratios) := ⟨rfl, rfl, rfl, by decide +kernel, rfl, by decide +kernel, by decide +kernel⟩
noncomputable def b_with_ratios : SF := (sRet (dNl (nLc (iSeqD (dV 0)) (bTup 2 (bCons (bName 1) (bCons (bName 2) bNil))) tYesD (dTup (aCons (dV 1) (aCons (dTup (aCons (dV 2) (aCons (dC (.int 1)) aNil))) aNil))) ([1, 2] : List Nat))))
noncomputable def f_with_ratios : List Ar → Wp D := dRun 3 b_with_ratios

abbrev s_steep : Stmt := top 37
theorem sc_steep : FnScope ["lanes", "slope", "base"] ["lanes"] (defScope s_steep) := ⟨rfl, rfl, rfl, by decide +kernel, rfl, by decide +kernel, by decide +kernel⟩
noncomputable def b_steep : SF := (sRet (dNl (nLc (iSeqD (dCall 1 f_with_ratios (aCons (dV 0) aNil))) (bTup 2 (bCons (bName 1) (bCons (bName 2) bNil))) tYesD (dTup (aCons (d2 dMul (dC (.int 2)) (dV 1)) (aCons (dV 2) aNil))) ([1, 2] : List Nat))))
noncomputable def f_steep : List Ar → Wp D := dRun 3 b_steep

abbrev s_ratio : Stmt := top 11
theorem sc_ratio : FnScope ["top", "bottom", "common"] ["top", "bottom"] (defScope s_ratio) := ⟨rfl, rfl, rfl, by decide +kernel, rfl, by decide +kernel, by decide +kernel⟩
noncomputable def b_ratio : SF := (sSeq (sSet 2 (dIf (tBv (d2 dGt (dV 1) (dC (.int 0)))) (dCB bGcd (aCons (dV 0) (aCons (dV 1) aNil))) (d2 dSub (dC (.int 0)) (dCB bGcd (aCons (dV 0) (aCons (dV 1) aNil)))))) (sRet (dTup (aCons (d2 dFdv (dV 0) (dV 2)) (aCons (d2 dFdv (dV 1) (dV 2)) aNil)))))
noncomputable def f_ratio : List Ar → Wp D := dRun 3 b_ratio

abbrev s_minus : Stmt := top 13
theorem sc_minus : FnScope ["one", "other"] ["one", "other"] (defScope s_minus) := ⟨rfl, rfl, rfl, by decide +kernel, rfl, by decide +kernel, by decide +kernel⟩
noncomputable def b_minus : SF := (sRet (dCall 2 f_ratio (aCons (d2 dSub (d2 dMul (d2 dIx (dV 0) (dC (.int 0))) (d2 dIx (dV 1) (dC (.int 1)))) (d2 dMul (d2 dIx (dV 1) (dC (.int 0))) (d2 dIx (dV 0) (dC (.int 1))))) (aCons (d2 dMul (d2 dIx (dV 0) (dC (.int 1))) (d2 dIx (dV 1) (dC (.int 1)))) aNil))))
noncomputable def f_minus : List Ar → Wp D := dRun 2 b_minus

abbrev s_less : Stmt := top 16
theorem sc_less : FnScope ["one", "other"] ["one", "other"] (defScope s_less) := ⟨rfl, rfl, rfl, by decide +kernel, rfl, by decide +kernel, by decide +kernel⟩
noncomputable def b_less : SF := (sRet (d2 dLt (d2 dMul (d2 dIx (dV 0) (dC (.int 0))) (d2 dIx (dV 1) (dC (.int 1)))) (d2 dMul (d2 dIx (dV 1) (dC (.int 0))) (d2 dIx (dV 0) (dC (.int 1))))))
noncomputable def f_less : List Ar → Wp D := dRun 2 b_less

abbrev s_plus : Stmt := top 12
theorem sc_plus : FnScope ["one", "other"] ["one", "other"] (defScope s_plus) := ⟨rfl, rfl, rfl, by decide +kernel, rfl, by decide +kernel, by decide +kernel⟩
noncomputable def b_plus : SF := (sRet (dCall 2 f_ratio (aCons (d2 dAdd (d2 dMul (d2 dIx (dV 0) (dC (.int 0))) (d2 dIx (dV 1) (dC (.int 1)))) (d2 dMul (d2 dIx (dV 1) (dC (.int 0))) (d2 dIx (dV 0) (dC (.int 1))))) (aCons (d2 dMul (d2 dIx (dV 0) (dC (.int 1))) (d2 dIx (dV 1) (dC (.int 1)))) aNil))))
noncomputable def f_plus : List Ar → Wp D := dRun 2 b_plus

abbrev s_over : Stmt := top 15
theorem sc_over : FnScope ["one", "other"] ["one", "other"] (defScope s_over) := ⟨rfl, rfl, rfl, by decide +kernel, rfl, by decide +kernel, by decide +kernel⟩
noncomputable def b_over : SF := (sRet (dCall 2 f_ratio (aCons (d2 dMul (d2 dIx (dV 0) (dC (.int 0))) (d2 dIx (dV 1) (dC (.int 1)))) (aCons (d2 dMul (d2 dIx (dV 0) (dC (.int 1))) (d2 dIx (dV 1) (dC (.int 0)))) aNil))))
noncomputable def f_over : List Ar → Wp D := dRun 2 b_over

abbrev s_taken_at : Stmt := top 26
theorem sc_taken_at : FnScope ["lanes", "time", "found", "slope", "base"] ["lanes", "time"] (defScope s_taken_at) := ⟨rfl, rfl, rfl, by decide +kernel, rfl, by decide +kernel, by decide +kernel⟩
noncomputable def b_taken_at : SF := (sSeq (sSet 2 (dTup (aCons (dC (.int 0)) (aCons (dC (.int 1)) aNil)))) (sSeq (sFor (iSeqD (dV 0)) (bTup 2 (bCons (bName 3) (bCons (bName 4) bNil))) (sIf (tAnd2 (tBv (d2 dGt (dV 3) (dC (.int 0)))) (tT (dCall 2 f_less (aCons (dV 4) (aCons (dV 1) aNil))))) (sSet 2 (dCall 2 f_plus (aCons (dV 2) (aCons (dCall 2 f_over (aCons (dCall 2 f_minus (aCons (dV 1) (aCons (dV 4) aNil))) (aCons (dTup (aCons (dV 3) (aCons (dC (.int 1)) aNil))) aNil))) aNil)))) sNext)) (sRet (dV 2))))
noncomputable def f_taken_at : List Ar → Wp D := dRun 5 b_taken_at

abbrev s_flows_at : Stmt := top 29
theorem sc_flows_at : FnScope ["lanes", "demand", "time", "found", "rest", "slope", "base"] ["lanes", "demand", "time"] (defScope s_flows_at) := ⟨rfl, rfl, rfl, by decide +kernel, rfl, by decide +kernel, by decide +kernel⟩
noncomputable def b_flows_at : SF := (sSeq (sParOD 3 4 (nLst aNil) (dCall 2 f_minus (aCons (dV 1) (aCons (dCall 2 f_taken_at (aCons (dV 0) (aCons (dV 2) aNil))) aNil)))) (sSeq (sFor (iSeqD (dV 0)) (bTup 2 (bCons (bName 5) (bCons (bName 6) bNil))) (sIf (tBv (d2 dGt (dV 5) (dC (.int 0)))) (sApp 3 (dIf (tT (dCall 2 f_less (aCons (dV 6) (aCons (dV 2) aNil)))) (dCall 2 f_over (aCons (dCall 2 f_minus (aCons (dV 2) (aCons (dV 6) aNil))) (aCons (dTup (aCons (dV 5) (aCons (dC (.int 1)) aNil))) aNil))) (dTup (aCons (dC (.int 0)) (aCons (dC (.int 1)) aNil))))) (sIf (tBv (d2 dEq (dV 6) (dV 2))) (sSeq (sApp 3 (dV 4)) (sSet 4 (dTup (aCons (dC (.int 0)) (aCons (dC (.int 1)) aNil))))) (sApp 3 (dTup (aCons (dC (.int 0)) (aCons (dC (.int 1)) aNil))))))) (sFz 3 (sRet (dV 3)))))
noncomputable def f_flows_at : List Ar → Wp D := dRun 7 b_flows_at

abbrev s_sorted_ratios : Stmt := top 28
theorem sc_sorted_ratios : FnScope ["some", "found", "one", "at", "other"] ["some"] (defScope s_sorted_ratios) := ⟨rfl, rfl, rfl, by decide +kernel, rfl, by decide +kernel, by decide +kernel⟩
noncomputable def b_sorted_ratios : SF := (sSeq (sSet 1 (dLst aNil)) (sSeq (sFor (iSeqD (dV 0)) (bName 2) (sSeq (sSet 3 (dCB bLen (aCons (dNl (nLc (iSeqD (dV 1)) (bName 4) (tNotV (tT (dCall 2 f_less (aCons (dV 2) (aCons (dV 4) aNil))))) (dV 4) ([4] : List Nat))) aNil))) (sSet 1 (dLst (aStar (dSl (dV 1) oNone (oSome (dV 3))) (aCons (dV 2) (aStar (dSl (dV 1) (oSome (dV 3)) oNone) aNil))))))) (sRet (dV 1))))
noncomputable def f_sorted_ratios : List Ar → Wp D := dRun 5 b_sorted_ratios

abbrev s_sum_of : Stmt := top 17
theorem sc_sum_of : FnScope ["some", "found", "one"] ["some"] (defScope s_sum_of) := ⟨rfl, rfl, rfl, by decide +kernel, rfl, by decide +kernel, by decide +kernel⟩
noncomputable def b_sum_of : SF := (sSeq (sSet 1 (dTup (aCons (dC (.int 0)) (aCons (dC (.int 1)) aNil)))) (sSeq (sFor (iSeqD (dV 0)) (bName 2) (sSet 1 (dCall 2 f_plus (aCons (dV 1) (aCons (dV 2) aNil))))) (sRet (dV 1))))
noncomputable def f_sum_of : List Ar → Wp D := dRun 3 b_sum_of

abbrev s_level_of : Stmt := top 27
theorem sc_level_of : FnScope ["lanes", "demand", "flat", "slope", "base", "most", "bases", "k", "later", "rate", "one", "time"] ["lanes", "demand"] (defScope s_level_of) := ⟨rfl, rfl, rfl, by decide +kernel, rfl, by decide +kernel, by decide +kernel⟩
noncomputable def b_level_of : SF := (sSeq (sSetO 2 (nLc (iSeqD (dV 0)) (bTup 2 (bCons (bName 3) (bCons (bName 4) bNil))) (tBv (d2 dEq (dV 3) (dC (.int 0)))) (dV 4) ([3, 4] : List Nat))) (sFz 2 (sSeq (sSet 5 (dIf (tT (dV 2)) (d2 dIx (dCall 1 f_sorted_ratios (aCons (dV 2) aNil)) (dC (.int 0))) (dC .none))) (sSeq (sSet 6 (dCall 1 f_sorted_ratios (aCons (dNl (nLc (iSeqD (dV 0)) (bTup 2 (bCons (bName 3) (bCons (bName 4) bNil))) (tBv (d2 dGt (dV 3) (dC (.int 0)))) (dV 4) ([3, 4] : List Nat))) aNil))) (sSeq (sFor (iEnD (dV 6)) (bTup 2 (bCons (bName 7) (bCons (bName 4) bNil))) (sSeq (sSet 8 (dIf (tBv (d2 dLt (d2 dAdd (dV 7) (dC (.int 1))) (dCB bLen (aCons (dV 6) aNil)))) (d2 dIx (dV 6) (d2 dAdd (dV 7) (dC (.int 1)))) (dC .none))) (sIf (tOr2 (tBv (d2 dIs (dV 8) (dC .none))) (tNotV (tT (dCall 2 f_less (aCons (dCall 2 f_taken_at (aCons (dV 0) (aCons (dV 8) aNil))) (aCons (dV 1) aNil)))))) (sSeq (sSet 9 (dCall 1 f_sum_of (aCons (dNl (nLc (iSeqD (dV 0)) (bTup 2 (bCons (bName 3) (bCons (bName 10) bNil))) (tAnd2 (tBv (d2 dGt (dV 3) (dC (.int 0)))) (tNotV (tT (dCall 2 f_less (aCons (dV 4) (aCons (dV 10) aNil)))))) (dTup (aCons (dC (.int 1)) (aCons (dV 3) aNil))) ([3, 10] : List Nat))) aNil))) (sSeq (sSet 11 (dCall 2 f_plus (aCons (dV 4) (aCons (dCall 2 f_over (aCons (dCall 2 f_minus (aCons (dV 1) (aCons (dCall 2 f_taken_at (aCons (dV 0) (aCons (dV 4) aNil))) aNil))) (aCons (dV 9) aNil))) aNil)))) (sRet (dIf (tOr2 (tBv (d2 dIs (dV 5) (dC .none))) (tT (dCall 2 f_less (aCons (dV 11) (aCons (dV 5) aNil))))) (dV 11) (dV 5))))) sNext))) (sRet (dV 5)))))))
noncomputable def f_level_of : List Ar → Wp D := dRun 12 b_level_of

abbrev s_best_flows : Stmt := top 38
theorem sc_best_flows : FnScope ["lanes", "demand", "some"] ["lanes", "demand"] (defScope s_best_flows) := ⟨rfl, rfl, rfl, by decide +kernel, rfl, by decide +kernel, by decide +kernel⟩
noncomputable def b_best_flows : SF := (sSeq (sSet 2 (dCall 1 f_steep (aCons (dV 0) aNil))) (sRet (dCall 3 f_flows_at (aCons (dV 2) (aCons (dV 1) (aCons (dCall 2 f_level_of (aCons (dV 2) (aCons (dV 1) aNil))) aNil))))))
noncomputable def f_best_flows : List Ar → Wp D := dRun 3 b_best_flows

abbrev s_by : Stmt := top 14
theorem sc_by : FnScope ["one", "other"] ["one", "other"] (defScope s_by) := ⟨rfl, rfl, rfl, by decide +kernel, rfl, by decide +kernel, by decide +kernel⟩
noncomputable def b_by : SF := (sRet (dCall 2 f_ratio (aCons (d2 dMul (d2 dIx (dV 0) (dC (.int 0))) (d2 dIx (dV 1) (dC (.int 0)))) (aCons (d2 dMul (d2 dIx (dV 0) (dC (.int 1))) (d2 dIx (dV 1) (dC (.int 1)))) aNil))))
noncomputable def f_by : List Ar → Wp D := dRun 2 b_by

abbrev s_lane_time : Stmt := top 39
theorem sc_lane_time : FnScope ["lane", "flow"] ["lane", "flow"] (defScope s_lane_time) := ⟨rfl, rfl, rfl, by decide +kernel, rfl, by decide +kernel, by decide +kernel⟩
noncomputable def b_lane_time : SF := (sRet (dCall 2 f_plus (aCons (dCall 2 f_by (aCons (dTup (aCons (d2 dIx (dV 0) (dC (.int 0))) (aCons (dC (.int 1)) aNil))) (aCons (dV 1) aNil))) (aCons (dTup (aCons (d2 dIx (dV 0) (dC (.int 1))) (aCons (dC (.int 1)) aNil))) aNil))))
noncomputable def f_lane_time : List Ar → Wp D := dRun 2 b_lane_time

abbrev s_falling : Stmt := top 41
theorem sc_falling : FnScope ["lanes", "some", "found", "index", "lane", "here", "at", "one"] ["lanes", "some"] (defScope s_falling) := ⟨rfl, rfl, rfl, by decide +kernel, rfl, by decide +kernel, by decide +kernel⟩
noncomputable def b_falling : SF := (sSeq (sSet 2 (dLst aNil)) (sSeq (sFor (iEnD (dV 0)) (bTup 2 (bCons (bName 3) (bCons (bName 4) bNil))) (sSeq (sSet 5 (dCall 2 f_lane_time (aCons (dV 4) (aCons (d2 dIx (dV 1) (dV 3)) aNil)))) (sSeq (sSet 6 (dCB bLen (aCons (dNl (nLc (iSeqD (dV 2)) (bName 7) (tT (dCall 2 f_less (aCons (dV 5) (aCons (dCall 2 f_lane_time (aCons (d2 dIx (dV 0) (dV 7)) (aCons (d2 dIx (dV 1) (dV 7)) aNil))) aNil)))) (dV 7) ([7] : List Nat))) aNil))) (sSet 2 (dLst (aStar (dSl (dV 2) oNone (oSome (dV 6))) (aCons (dV 3) (aStar (dSl (dV 2) (oSome (dV 6)) oNone) aNil)))))))) (sRet (dV 2))))
noncomputable def f_falling : List Ar → Wp D := dRun 8 b_falling

abbrev s_led_of : Stmt := top 42
theorem sc_led_of : FnScope ["lanes", "some", "amount", "found", "rest", "lane", "index"] ["lanes", "some", "amount"] (defScope s_led_of) := ⟨rfl, rfl, rfl, by decide +kernel, rfl, by decide +kernel, by decide +kernel⟩
noncomputable def b_led_of : SF := (sSeq (sParOD 3 4 (nLc (iSeqD (dV 0)) (bName 5) tYesD (dTup (aCons (dC (.int 0)) (aCons (dC (.int 1)) aNil))) ([5] : List Nat)) (dV 2)) (sSeq (sFor (iSeqD (dCall 2 f_falling (aCons (dV 0) (aCons (dV 1) aNil)))) (bName 6) (sSeq (sSetIx 3 (dV 6) (dIf (tT (dCall 2 f_less (aCons (dV 4) (aCons (d2 dIx (dV 1) (dV 6)) aNil)))) (dV 4) (d2 dIx (dV 1) (dV 6)))) (sSet 4 (dCall 2 f_minus (aCons (dV 4) (aCons (dOix 3 (dV 6)) aNil)))))) (sFz 3 (sRet (dV 3)))))
noncomputable def f_led_of : List Ar → Wp D := dRun 7 b_led_of

abbrev s_left_lanes : Stmt := top 43
theorem sc_left_lanes : FnScope ["lanes", "led", "lane", "flow"] ["lanes", "led"] (defScope s_left_lanes) := ⟨rfl, rfl, rfl, by decide +kernel, rfl, by decide +kernel, by decide +kernel⟩
noncomputable def b_left_lanes : SF := (sRet (dNl (nLc (iZpD (dV 0) (dV 1)) (bTup 2 (bCons (bName 2) (bCons (bName 3) bNil))) tYesD (dTup (aCons (d2 dIx (dV 2) (dC (.int 0))) (aCons (dCall 2 f_lane_time (aCons (dV 2) (aCons (dV 3) aNil))) aNil))) ([2, 3] : List Nat))))
noncomputable def f_left_lanes : List Ar → Wp D := dRun 4 b_left_lanes

abbrev s_others_of : Stmt := top 44
theorem sc_others_of : FnScope ["lanes", "led", "amount", "lane", "some"] ["lanes", "led", "amount"] (defScope s_others_of) := ⟨rfl, rfl, rfl, by decide +kernel, rfl, by decide +kernel, by decide +kernel⟩
noncomputable def b_others_of : SF := (sSeq (sIf (tBv (d2 dEq (d2 dIx (dV 2) (dC (.int 0))) (dC (.int 0)))) (sRet (dNl (nLc (iSeqD (dV 0)) (bName 3) tYesD (dTup (aCons (dC (.int 0)) (aCons (dC (.int 1)) aNil))) ([3] : List Nat)))) sNext) (sSeq (sSet 4 (dCall 2 f_left_lanes (aCons (dV 0) (aCons (dV 1) aNil)))) (sRet (dCall 3 f_flows_at (aCons (dV 4) (aCons (dV 2) (aCons (dCall 2 f_level_of (aCons (dV 4) (aCons (dV 2) aNil))) aNil)))))))
noncomputable def f_others_of : List Ar → Wp D := dRun 5 b_others_of

abbrev s_total_of : Stmt := top 40
theorem sc_total_of : FnScope ["lanes", "some", "lane", "flow"] ["lanes", "some"] (defScope s_total_of) := ⟨rfl, rfl, rfl, by decide +kernel, rfl, by decide +kernel, by decide +kernel⟩
noncomputable def b_total_of : SF := (sRet (dCall 1 f_sum_of (aCons (dNl (nLc (iZpD (dV 0) (dV 1)) (bTup 2 (bCons (bName 2) (bCons (bName 3) bNil))) tYesD (dCall 2 f_by (aCons (dV 3) (aCons (dCall 2 f_lane_time (aCons (dV 2) (aCons (dV 3) aNil))) aNil))) ([2, 3] : List Nat))) aNil)))
noncomputable def f_total_of : List Ar → Wp D := dRun 4 b_total_of

abbrev s_leader_plan : Stmt := top 45
theorem sc_leader_plan : FnScope ["lanes", "demand", "share", "best", "amount", "led", "rest", "whole", "one", "other"] ["lanes", "demand", "share"] (defScope s_leader_plan) := ⟨rfl, rfl, rfl, by decide +kernel, rfl, by decide +kernel, by decide +kernel⟩
noncomputable def b_leader_plan : SF := (sSeq (sDrop (dCall 3 f_need_share (aCons (dV 0) (aCons (dV 1) (aCons (dV 2) aNil))))) (sSeq (sSet 3 (dCall 2 f_best_flows (aCons (dV 0) (aCons (dV 1) aNil)))) (sSeq (sSet 4 (dCall 2 f_by (aCons (dV 2) (aCons (dV 1) aNil)))) (sSeq (sSet 5 (dCall 3 f_led_of (aCons (dV 0) (aCons (dV 3) (aCons (dV 4) aNil))))) (sSeq (sSet 6 (dCall 3 f_others_of (aCons (dV 0) (aCons (dV 5) (aCons (dCall 2 f_minus (aCons (dV 1) (aCons (dV 4) aNil))) aNil))))) (sSeq (sSetO 7 (nLc (iZpD (dV 5) (dV 6)) (bTup 2 (bCons (bName 8) (bCons (bName 9) bNil))) tYesD (dCall 2 f_plus (aCons (dV 8) (aCons (dV 9) aNil))) ([8, 9] : List Nat))) (sFz 7 (sRet (dTup (aCons (dCB bTuple (aCons (dV 3) aNil)) (aCons (dCB bTuple (aCons (dV 5) aNil)) (aCons (dCB bTuple (aCons (dV 6) aNil)) (aCons (dCall 2 f_total_of (aCons (dV 0) (aCons (dV 7) aNil))) aNil)))))))))))))
noncomputable def f_leader_plan : List Ar → Wp D := dRun 10 b_leader_plan

abbrev s_are_flows : Stmt := top 32
theorem sc_are_flows : FnScope ["lanes", "value", "one"] ["lanes", "value"] (defScope s_are_flows) := ⟨rfl, rfl, rfl, by decide +kernel, rfl, by decide +kernel, by decide +kernel⟩
noncomputable def b_are_flows : SF := (sSeq (sIf (tOr2 (tNotV (tT (dIsi "tuple" (dV 1)))) (tBv (d2 dNe (dCB bLen (aCons (dV 1) aNil)) (dCB bLen (aCons (dV 0) aNil))))) (sRet (dC (.bool false))) sNext) (sRet (dGa true (iSeqD (dV 1)) (bName 2) tYesD (dAndV (dCall 1 f_is_ratio (aCons (dV 2) aNil)) (d2 dGe (d2 dIx (dV 2) (dC (.int 0))) (dC (.int 0)))) ([2] : List Nat))))
noncomputable def f_are_flows : List Ar → Wp D := dRun 3 b_are_flows

abbrev s_do_rest : Stmt := top 33
theorem sc_do_rest : FnScope ["lanes", "time", "some", "slope", "base", "flow", "here"] ["lanes", "time", "some"] (defScope s_do_rest) := ⟨rfl, rfl, rfl, by decide +kernel, rfl, by decide +kernel, by decide +kernel⟩
noncomputable def b_do_rest : SF := (sSeq (sFor (iZpD (dV 0) (dV 2)) (bTup 2 (bCons (bTup 2 (bCons (bName 3) (bCons (bName 4) bNil))) (bCons (bName 5) bNil))) (sSeq (sSet 6 (dCall 2 f_plus (aCons (dCall 2 f_by (aCons (dTup (aCons (dV 3) (aCons (dC (.int 1)) aNil))) (aCons (dV 5) aNil))) (aCons (dV 4) aNil)))) (sIf (tOr2 (tT (dCall 2 f_less (aCons (dV 6) (aCons (dV 1) aNil)))) (tAnd2 (tBv (d2 dGt (d2 dIx (dV 5) (dC (.int 0))) (dC (.int 0)))) (tBv (d2 dNe (dV 6) (dV 1))))) (sRet (dC (.bool false))) sNext))) (sRet (dC (.bool true))))
noncomputable def f_do_rest : List Ar → Wp D := dRun 7 b_do_rest

abbrev s_rests_behind : Stmt := top 46
theorem sc_rests_behind : FnScope ["lanes", "led", "amount", "some", "left"] ["lanes", "led", "amount", "some"] (defScope s_rests_behind) := ⟨rfl, rfl, rfl, by decide +kernel, rfl, by decide +kernel, by decide +kernel⟩
noncomputable def b_rests_behind : SF := (sSeq (sIf (tBv (d2 dNe (dCall 1 f_sum_of (aCons (dCB bList (aCons (dV 3) aNil)) aNil)) (dV 2))) (sRet (dC (.bool false))) sNext) (sSeq (sIf (tBv (d2 dEq (d2 dIx (dV 2) (dC (.int 0))) (dC (.int 0)))) (sRet (dC (.bool true))) sNext) (sSeq (sSet 4 (dCall 2 f_left_lanes (aCons (dV 0) (aCons (dV 1) aNil)))) (sRet (dCall 3 f_do_rest (aCons (dV 4) (aCons (dCall 2 f_level_of (aCons (dV 4) (aCons (dV 2) aNil))) (aCons (dV 3) aNil))))))))
noncomputable def f_rests_behind : List Ar → Wp D := dRun 5 b_rests_behind

abbrev s_shows_plan : Stmt := top 47
theorem sc_shows_plan : FnScope ["lanes", "demand", "share", "value", "best", "led", "rest", "total", "one", "amount", "other"] ["lanes", "demand", "share", "value"] (defScope s_shows_plan) := ⟨rfl, rfl, rfl, by decide +kernel, rfl, by decide +kernel, by decide +kernel⟩
noncomputable def b_shows_plan : SF := (sSeq (sDrop (dCall 3 f_need_share (aCons (dV 0) (aCons (dV 1) (aCons (dV 2) aNil))))) (sSeq (sIf (tOr2 (tNotV (tT (dIsi "tuple" (dV 3)))) (tOr2 (tBv (d2 dNe (dCB bLen (aCons (dV 3) aNil)) (dC (.int 4)))) (tNotV (tT (dCall 1 f_is_ratio (aCons (d2 dIx (dV 3) (dC (.int 3))) aNil)))))) (sRet (dC (.bool false))) sNext) (sSeq (sAsg (dV 3) (bTup 4 (bCons (bName 4) (bCons (bName 5) (bCons (bName 6) (bCons (bName 7) bNil)))))) (sSeq (sIf (tOr2 (tNotV (tT (dGa true (iSeqD (dTup (aCons (dV 4) (aCons (dV 5) (aCons (dV 6) aNil))))) (bName 8) tYesD (dCall 2 f_are_flows (aCons (dV 0) (aCons (dV 8) aNil))) ([8] : List Nat)))) (tBv (d2 dNe (dCall 1 f_sum_of (aCons (dCB bList (aCons (dV 4) aNil)) aNil)) (dV 1)))) (sRet (dC (.bool false))) sNext) (sSeq (sIf (tBv (d2 dNe (dCall 2 f_total_of (aCons (dV 0) (aCons (dV 4) aNil))) (dCall 2 f_total_of (aCons (dV 0) (aCons (dCall 2 f_best_flows (aCons (dV 0) (aCons (dV 1) aNil))) aNil))))) (sRet (dC (.bool false))) sNext) (sSeq (sSet 9 (dCall 2 f_by (aCons (dV 2) (aCons (dV 1) aNil)))) (sSeq (sIf (tOr2 (tBv (d2 dNe (dV 5) (dCB bTuple (aCons (dCall 3 f_led_of (aCons (dV 0) (aCons (dV 4) (aCons (dV 9) aNil)))) aNil)))) (tNotV (tT (dCall 4 f_rests_behind (aCons (dV 0) (aCons (dV 5) (aCons (dCall 2 f_minus (aCons (dV 1) (aCons (dV 9) aNil))) (aCons (dV 6) aNil)))))))) (sRet (dC (.bool false))) sNext) (sRet (d2 dEq (dCall 2 f_total_of (aCons (dV 0) (aCons (dNl (nLc (iZpD (dV 5) (dV 6)) (bTup 2 (bCons (bName 8) (bCons (bName 10) bNil))) tYesD (dCall 2 f_plus (aCons (dV 8) (aCons (dV 10) aNil))) ([8, 10] : List Nat))) aNil))) (dV 7))))))))))
noncomputable def f_shows_plan : List Ar → Wp D := dRun 11 b_shows_plan

abbrev s_law_by : Stmt := top 54
theorem sc_law_by : FnScope ["_law_one", "_law_other"] ["_law_one", "_law_other"] (defScope s_law_by) := ⟨rfl, rfl, rfl, by decide +kernel, rfl, by decide +kernel, by decide +kernel⟩
noncomputable def b_law_by : SF := (sRet (dCall 2 f_law_ratio (aCons (d2 dMul (d2 dIx (dV 0) (dC (.int 0))) (d2 dIx (dV 1) (dC (.int 0)))) (aCons (d2 dMul (d2 dIx (dV 0) (dC (.int 1))) (d2 dIx (dV 1) (dC (.int 1)))) aNil))))
noncomputable def f_law_by : List Ar → Wp D := dRun 2 b_law_by

abbrev s_lane_rest : Stmt := top 31
theorem sc_lane_rest : FnScope ["lanes", "demand", "some", "time"] ["lanes", "demand"] (defScope s_lane_rest) := ⟨rfl, rfl, rfl, by decide +kernel, rfl, by decide +kernel, by decide +kernel⟩
noncomputable def b_lane_rest : SF := (sSeq (sDrop (dCall 2 f_need_lanes (aCons (dV 0) (aCons (dV 1) aNil)))) (sSeq (sSet 2 (dCall 1 f_with_ratios (aCons (dV 0) aNil))) (sSeq (sSet 3 (dCall 2 f_level_of (aCons (dV 2) (aCons (dV 1) aNil)))) (sRet (dTup (aCons (dV 3) (aCons (dCB bTuple (aCons (dCall 3 f_flows_at (aCons (dV 2) (aCons (dV 1) (aCons (dV 3) aNil)))) aNil)) aNil)))))))
noncomputable def f_lane_rest : List Ar → Wp D := dRun 4 b_lane_rest

abbrev s_law_plus : Stmt := top 53
theorem sc_law_plus : FnScope ["_law_one", "_law_other"] ["_law_one", "_law_other"] (defScope s_law_plus) := ⟨rfl, rfl, rfl, by decide +kernel, rfl, by decide +kernel, by decide +kernel⟩
noncomputable def b_law_plus : SF := (sRet (dCall 2 f_law_ratio (aCons (d2 dAdd (d2 dMul (d2 dIx (dV 0) (dC (.int 0))) (d2 dIx (dV 1) (dC (.int 1)))) (d2 dMul (d2 dIx (dV 1) (dC (.int 0))) (d2 dIx (dV 0) (dC (.int 1))))) (aCons (d2 dMul (d2 dIx (dV 0) (dC (.int 1))) (d2 dIx (dV 1) (dC (.int 1)))) aNil))))
noncomputable def f_law_plus : List Ar → Wp D := dRun 2 b_law_plus

abbrev s_law_sum : Stmt := top 55
theorem sc_law_sum : FnScope ["_law_some", "_law_found", "_law_one"] ["_law_some"] (defScope s_law_sum) := ⟨rfl, rfl, rfl, by decide +kernel, rfl, by decide +kernel, by decide +kernel⟩
noncomputable def b_law_sum : SF := (sSeq (sSet 1 (dTup (aCons (dC (.int 0)) (aCons (dC (.int 1)) aNil)))) (sSeq (sFor (iSeqD (dV 0)) (bName 2) (sSet 1 (dCall 2 f_law_plus (aCons (dV 1) (aCons (dV 2) aNil))))) (sRet (dV 1))))
noncomputable def f_law_sum : List Ar → Wp D := dRun 3 b_law_sum

abbrev s_law : Stmt := top 62
theorem sc_law : FnScope ["_law_script", "_law_row", "_law_lanes_here", "_law_demand_here", "_law_size", "_law_share", "_law_best", "_law_led", "_law_rest", "_law_total", "_law_lane", "_law_slow", "_law_fewer", "_law_steep", "_law_flows", "_law_one", "_law_side", "_law_whole"] ["_law_script"] (defScope s_law) := ⟨rfl, rfl, rfl, by decide +kernel, rfl, by decide +kernel, by decide +kernel⟩
noncomputable def b_law (C : Cs) : SF := (sSeq (sRow 1 0) (sSeq (sAsg (dTup (aCons (dCall 1 (f_law_lanes C) (aTrk 1 aNil)) (aCons (dCall 1 (f_law_demand C) (aTrk 1 aNil)) (aCons (d2 dAdd (dC (.int 2)) (dCall 2 (f_law_taken C) (aTrk 1 (aCons (dC (.int 3)) aNil)))) aNil)))) (bTup 3 (bCons (bName 2) (bCons (bName 3) (bCons (bName 4) bNil))))) (sSeq (sSet 5 (dCall 2 (f_law_pick C) (aTrk 1 (aCons (dLst (aCons (dTup (aCons (dC (.int 0)) (aCons (dC (.int 1)) aNil))) (aCons (dTup (aCons (dC (.int 1)) (aCons (dC (.int 1)) aNil))) (aCons (dTup (aCons (dC (.int 1)) (aCons (dC (.int 2)) aNil))) (aCons (dTup (aCons (dC (.int 1)) (aCons (dC (.int 3)) aNil))) (aCons (dCall 2 f_law_ratio (aCons (dCall 2 (f_law_taken C) (aTrk 1 (aCons (dC (.int 8)) aNil))) (aCons (dC (.int 7)) aNil))) aNil)))))) aNil)))) (sSeq (sAsg (dCall 3 f_leader_plan (aCons (dV 2) (aCons (dV 3) (aCons (dV 5) aNil)))) (bTup 4 (bCons (bName 6) (bCons (bName 7) (bCons (bName 8) (bCons (bName 9) bNil)))))) (sSeq (sIf (tBv (d2 dLe (d2 dMul (dCB bMaxL (aCons (dNl (nLc (iSeqD (dV 2)) (bName 10) tYesD (dCB bMaxL (aCons (dV 10) aNil)) ([10] : List Nat))) aNil)) (dV 4)) (dC (.int 100)))) (sSeq (sSet 11 (dCB bTuple (aCons (dNl (nLc (iSeqD (dV 2)) (bName 10) tYesD (dTup (aCons (d2 dMul (d2 dIx (dV 10) (dC (.int 0))) (dV 4)) (aCons (d2 dMul (d2 dIx (dV 10) (dC (.int 1))) (dV 4)) aNil))) ([10] : List Nat))) aNil))) (sSeq (sIf (tBv (d2 dIsNotB (dCall 4 f_shows_plan (aCons (dV 11) (aCons (dV 3) (aCons (dV 5) (aCons (dTup (aCons (dV 6) (aCons (dV 7) (aCons (dV 8) (aCons (dCall 2 f_law_by (aCons (dTup (aCons (dV 4) (aCons (dC (.int 1)) aNil))) (aCons (dV 9) aNil))) aNil))))) aNil))))) (dC (.bool true)))) (sRet (dC (.bool false))) sNext) (sIf (tBv (d2 dNe (d2 dIx (dCall 2 f_lane_rest (aCons (dV 11) (aCons (dV 3) aNil))) (dC (.int 0))) (dCall 2 f_law_by (aCons (dTup (aCons (dV 4) (aCons (dC (.int 1)) aNil))) (aCons (d2 dIx (dCall 2 f_lane_rest (aCons (dV 2) (aCons (dV 3) aNil))) (dC (.int 0))) aNil))))) (sRet (dC (.bool false))) sNext))) sNext) (sSeq (sSet 12 (dCall 2 f_law_by (aCons (dV 3) (aCons (dTup (aCons (dC (.int 1)) (aCons (dV 4) aNil))) aNil)))) (sSeq (sIf (tAnd2 (tBv (d2 dLe (d2 dMul (dCB bMaxL (aCons (dNl (nLc (iSeqD (dV 2)) (bName 10) tYesD (d2 dIx (dV 10) (dC (.int 0))) ([10] : List Nat))) aNil)) (dV 4)) (dC (.int 100)))) (tBv (d2 dLe (d2 dIx (dV 12) (dC (.int 1))) (dC (.int 100))))) (sSeq (sSet 13 (dCB bTuple (aCons (dNl (nLc (iSeqD (dV 2)) (bName 10) tYesD (dTup (aCons (d2 dMul (d2 dIx (dV 10) (dC (.int 0))) (dV 4)) (aCons (d2 dIx (dV 10) (dC (.int 1))) aNil))) ([10] : List Nat))) aNil))) (sSeq (sSetO 14 (nLc (iSeqD (dLst (aCons (dV 6) (aCons (dV 7) (aCons (dV 8) aNil))))) (bName 16) tYesD (dCB bTuple (aCons (dNl (nLc (iSeqD (dV 16)) (bName 15) tYesD (dCall 2 f_law_by (aCons (dV 15) (aCons (dTup (aCons (dC (.int 1)) (aCons (dV 4) aNil))) aNil))) ([15] : List Nat))) aNil)) ([16] : List Nat))) (sFz 14 (sIf (tBv (d2 dIsNotB (dCall 4 f_shows_plan (aCons (dV 13) (aCons (dV 12) (aCons (dV 5) (aCons (dTup (aCons (d2 dIx (dV 14) (dC (.int 0))) (aCons (d2 dIx (dV 14) (dC (.int 1))) (aCons (d2 dIx (dV 14) (dC (.int 2))) (aCons (dCall 2 f_law_by (aCons (dV 9) (aCons (dTup (aCons (dC (.int 1)) (aCons (dV 4) aNil))) aNil))) aNil))))) aNil))))) (dC (.bool true)))) (sRet (dC (.bool false))) sNext)))) sNext) (sSeq (sSet 17 (dCall 1 f_law_sum (aCons (d2 dAdd (dCB bList (aCons (dV 7) aNil)) (dCB bList (aCons (dV 8) aNil))) aNil))) (sRet (dAndV (d2 dEq (dV 17) (dV 3)) (dAndV (d2 dEq (dCall 1 f_law_sum (aCons (dCB bList (aCons (dV 7) aNil)) aNil)) (dCall 2 f_law_by (aCons (dV 5) (aCons (dV 3) aNil)))) (d2 dEq (dCall 1 f_law_sum (aCons (dCB bList (aCons (dV 6) aNil)) aNil)) (dV 3)))))))))))))
noncomputable def f_law (C : Cs) : List Ar → Wp D := dRun 18 (b_law C)
end Tr

set_option Elab.async false
set_option linter.all false
set_option maxRecDepth 100000
set_option maxHeartbeats 4000000
namespace Tr
open PySem PySem.Spec L2
/-! source for mkx.py: ratios; not built by itself -/
section
variable {k : D → Prop} {w : Exn → Prop} {t b : Int} {p q : Rat} {B : Nat} {C : Cs} {r : Addr} {φ : Heap → Prop}
theorem RB.mul {p q : Rat} {B : Nat} (hp : RB p B) (hq : RB q B) : RB (p * q) (B + B) := by
  rw [← mul_nd]
  exact ratio_rb dmul_pos (mul_lt2 hp.num hq.num) (mul_lt2 (den_lt hp) (den_lt hq))
theorem RB.add {p q : Rat} {B : Nat} (hp : RB p B) (hq : RB q B) : RB (p + q) (B + B + 1) := by
  rw [← add_nd]
  exact ratio_rb dmul_pos (add_lt2 (mul_lt2 hp.num (den_lt hq)) (mul_lt2 hq.num (den_lt hp))) (Nat.lt_of_lt_of_le (mul_lt2 (den_lt hp) (den_lt hq)) (Nat.pow_le_pow_right (by decide) (by omega)))
theorem RB.sub {p q : Rat} {B : Nat} (hp : RB p B) (hq : RB q B) : RB (p - q) (B + B + 1) := by
  rw [← sub_nd]
  exact ratio_rb dmul_pos (sub_lt2 (mul_lt2 hp.num (den_lt hq)) (mul_lt2 hq.num (den_lt hp))) (Nat.lt_of_lt_of_le (mul_lt2 (den_lt hp) (den_lt hq)) (Nat.pow_le_pow_right (by decide) (by omega)))
theorem seq_mid {F G : SF} {δ : De} {k : Out → Prop} {w : Exn → Prop} (P : De → Prop) (h1 : (F δ).run (fun o => ∃ δ', o = .nx δ' ∧ P δ') w) (h2 : ∀ δ', P δ' → (G δ').run k w) : (sSeq F G δ).run k w := by
  rw [rw_seq]
  simp only [run_bind]
  refine (F δ).mono (fun o ho => ?_) (fun _ z => z) h1
  obtain ⟨δ', rfl, hp⟩ := ho
  exact h2 δ' hp
theorem ratio_run (hb : 0 < b) (h1 : t.natAbs < 2 ^ B) (h2 : b.natAbs < 2 ^ B) (hB : B < 8900) (hk : RB ((t : Rat) / (b : Rat)) B → k (rD ((t : Rat) / (b : Rat)))) : (f_ratio [.d (.int t), .d (.int b)]).run k w := by
  obtain ⟨e1, e2⟩ := ratio_nd (t := t) hb
  have g := gcd_pos' (t := t) hb
  have gl : Nat.gcd t.natAbs b.natAbs < 2 ^ B := Nat.lt_of_le_of_lt (Nat.gcd_le_right _ (by omega)) h2
  simp [f_ratio, b_ratio, dStart, arSl, hb]
  refine ⟨cdivg g gl hB, cdivg g gl hB, two_le_line, ?_⟩
  rw [← e1, ← e2]
  exact hk (ratio_rb hb h1 h2)
theorem minus_run (hp : RB p B) (hq : RB q B) (hB : B < 4000) (hk : RB (p - q) (B + B + 1) → k (rD (p - q))) : (f_minus [.d (rD p), .d (rD q)]).run k w := by
  simp [f_minus, b_minus, dStart, arSl, rD]
  refine ⟨cmul hp.num (den_lt hq) (by omega), cmul hq.num (den_lt hp) (by omega), cmul (den_lt hp) (den_lt hq) (by omega), ?_⟩
  refine ratio_run (B := B + B + 1) dmul_pos (sub_lt2 (mul_lt2 hp.num (den_lt hq)) (mul_lt2 hq.num (den_lt hp))) (Nat.lt_of_lt_of_le (mul_lt2 (den_lt hp) (den_lt hq)) (Nat.pow_le_pow_right (by decide) (by omega))) (by omega) fun h => ?_
  rw [sub_nd] at h ⊢
  exact hk h
theorem by_run (hp : RB p B) (hq : RB q B) (hB : B < 4000) (hk : RB (p * q) (B + B) → k (rD (p * q))) : (f_by [.d (rD p), .d (rD q)]).run k w := by
  simp [f_by, b_by, dStart, arSl, rD]
  refine ⟨cmul hp.num hq.num (by omega), cmul (den_lt hp) (den_lt hq) (by omega), ?_⟩
  refine ratio_run (B := B + B) dmul_pos (mul_lt2 hp.num hq.num) (mul_lt2 (den_lt hp) (den_lt hq)) (by omega) fun h => ?_
  rw [mul_nd] at h ⊢
  exact hk h
theorem over_run (h0 : 0 < q.num) (hp : RB p B) (hq : RB q B) (hB : B < 4000) (hk : RB (p / q) (B + B) → k (rD (p / q))) : (f_over [.d (rD p), .d (rD q)]).run k w := by
  simp [f_over, b_over, dStart, arSl, rD]
  refine ⟨cmul hp.num (den_lt hq) (by omega), cmul (den_lt hp) hq.num (by omega), ?_⟩
  refine ratio_run (B := B + B) (Int.mul_pos (by have := p.den_pos; omega) h0) (mul_lt2 hp.num (den_lt hq)) (mul_lt2 (den_lt hp) hq.num) (by omega) fun h => ?_
  rw [div_nd h0] at h ⊢
  exact hk h
theorem lratio_run (hb : 0 < b) (h1 : t.natAbs < 2 ^ B) (h2 : b.natAbs < 2 ^ B) (hB : B < 8900) (hk : RB ((t : Rat) / (b : Rat)) B → k (rD ((t : Rat) / (b : Rat)))) : (f_law_ratio [.d (.int t), .d (.int b)]).run k w := by
  obtain ⟨e1, e2⟩ := ratio_nd (t := t) hb
  have g := gcd_pos' (t := t) hb
  have gl : Nat.gcd t.natAbs b.natAbs < 2 ^ B := Nat.lt_of_le_of_lt (Nat.gcd_le_right _ (by omega)) h2
  have ab : ∀ x : Int, (if x < 0 then -x else x) = (x.natAbs : Int) := fun x => by split <;> omega
  simp [f_law_ratio, b_law_ratio, dStart, arSl, sPar, ab]
  refine ⟨fun m δ => ∃ x : Nat, δ = [.p (.int t), .p (.int b), .p (.int x), .p (.int m)] ∧ Nat.gcd x m = Nat.gcd t.natAbs b.natAbs, ⟨_, _, rfl, rfl⟩, ?_⟩
  rintro y δ ⟨x, rfl, hg⟩
  simp
  by_cases hy : y = 0
  · subst hy
    simp [hb]
    rw [Nat.gcd_zero_right] at hg
    subst hg
    refine ⟨cdivg g gl hB, cdivg g gl hB, two_le_line, ?_⟩
    rw [← e1, ← e2]
    exact hk (ratio_rb hb h1 h2)
  · simp [hy]
    refine ⟨by omega, x % y, Nat.mod_lt _ (by omega), y, ?_, ?_⟩
    · simp
    rw [← hg, Nat.gcd_comm x y, Nat.gcd_rec y x, Nat.gcd_comm]
theorem lplus_run (hp : RB p B) (hq : RB q B) (hB : B < 4000) (hk : RB (p + q) (B + B + 1) → k (rD (p + q))) : (f_law_plus [.d (rD p), .d (rD q)]).run k w := by
  simp [f_law_plus, b_law_plus, dStart, arSl, rD]
  refine ⟨cmul hp.num (den_lt hq) (by omega), cmul hq.num (den_lt hp) (by omega), cmul (den_lt hp) (den_lt hq) (by omega), ?_⟩
  refine lratio_run (B := B + B + 1) dmul_pos (add_lt2 (mul_lt2 hp.num (den_lt hq)) (mul_lt2 hq.num (den_lt hp))) (Nat.lt_of_lt_of_le (mul_lt2 (den_lt hp) (den_lt hq)) (Nat.pow_le_pow_right (by decide) (by omega))) (by omega) fun h => ?_
  rw [add_nd] at h ⊢
  exact hk h
theorem lby_run (hp : RB p B) (hq : RB q B) (hB : B < 4000) (hk : RB (p * q) (B + B) → k (rD (p * q))) : (f_law_by [.d (rD p), .d (rD q)]).run k w := by
  simp [f_law_by, b_law_by, dStart, arSl, rD]
  refine ⟨cmul hp.num hq.num (by omega), cmul (den_lt hp) (den_lt hq) (by omega), ?_⟩
  refine lratio_run (B := B + B) dmul_pos (mul_lt2 hp.num hq.num) (mul_lt2 (den_lt hp) (den_lt hq)) (by omega) fun h => ?_
  rw [mul_nd] at h ⊢
  exact hk h
theorem isin_run {a lo hi : Int} (hk : k (.bool (decide (lo ≤ a) && decide (a ≤ hi)))) : (f_is_in [.d (.int a), .d (.int lo), .d (.int hi)]).run k w := by
  simp [f_is_in, b_is_in, dStart, arSl]
  by_cases h : lo ≤ a
  · simpa [h] using hk
  · simpa [h] using hk
theorem isratio_run (hk : k (.bool true)) : (f_is_ratio [.d (rD p)]).run k w := by
  have h1 := p.den_pos
  have h2 : Nat.gcd p.num.natAbs p.den = 1 := p.reduced
  simp [f_is_ratio, b_is_ratio, dStart, arSl, rD, rw_ga1, h1, h2]
  exact hk
theorem pick_run {ds : List D} (hr : RO C r φ) (h0 : 0 < ds.length) (h1 : ds.length < 1073741824) (hk : ∀ d ∈ ds, k d) : (f_law_pick C [.t r φ, .d (.list ds)]).run k w := by
  simp [f_law_pick, b_law_pick, dStart, arSl]
  refine taken_run hr (by omega) (by omega) fun n a b => ?_
  obtain ⟨m, rfl⟩ : ∃ m : Nat, n = m := ⟨n.toNat, by omega⟩
  have hm : m < ds.length := by omega
  simp [atI_nat, hm]
  exact hk _ (List.getElem_mem hm)
theorem rgD2 : rgD 0 2 = [.int 0, .int 1] := rfl
theorem lby_raw {a b : Int} {q : Rat} {B : Nat} (hb : 0 < b) (h1 : a.natAbs < 2 ^ B) (h2 : b.natAbs < 2 ^ B) (hq : RB q B) (hB : B < 4000) (hk : RB ((a : Rat) / (b : Rat) * q) (B + B) → k (rD ((a : Rat) / (b : Rat) * q))) : (f_law_by [.d (.tuple [.int a, .int b]), .d (rD q)]).run k w := by
  simp [f_law_by, b_law_by, dStart, arSl]
  refine ⟨cmul h1 hq.num (by omega), cmul h2 (den_lt hq) (by omega), ?_⟩
  refine lratio_run (B := B + B) (Int.mul_pos hb (by have := q.den_pos; omega)) (mul_lt2 h1 hq.num) (mul_lt2 h2 (den_lt hq)) (by omega) fun h => ?_
  have e : ((a * q.num : Int) : Rat) / ((b * (q.den : Int) : Int) : Rat) = (a : Rat) / (b : Rat) * q := by
    conv => rhs; rw [rat_nd q]
    have h1 := den_ne q
    have h3 : (b : Rat) ≠ 0 := by
      have : b ≠ 0 := by omega
      exact_mod_cast this
    push_cast
    grind
  rw [e] at h ⊢
  exact hk h
theorem plus_run (hp : RB p B) (hq : RB q B) (hB : B < 4400) (hk : RB (p + q) (B + B + 1) → k (rD (p + q))) : (f_plus [.d (rD p), .d (rD q)]).run k w := by
  simp [f_plus, b_plus, dStart, arSl]
  refine ⟨cmul hp.num (den_lt hq) (by omega), cmul hq.num (den_lt hp) (by omega), cmul (den_lt hp) (den_lt hq) (by omega), ?_⟩
  refine ratio_run (B := B + B + 1) dmul_pos (add_lt2 (mul_lt2 hp.num (den_lt hq)) (mul_lt2 hq.num (den_lt hp))) (Nat.lt_of_lt_of_le (mul_lt2 (den_lt hp) (den_lt hq)) (Nat.pow_le_pow_right (by decide) (by omega))) (by omega) fun h => ?_
  rw [add_nd] at h ⊢
  exact hk h
theorem less_run (hp : RB p B) (hq : RB q B) (hB : B < 9000) (hk : k (.bool (decide (p < q)))) : (f_less [.d (rD p), .d (rD q)]).run k w := by
  simp [f_less, b_less, dStart, arSl]
  refine ⟨cmul hp.num (den_lt hq) (by omega), cmul hq.num (den_lt hp) (by omega), ?_⟩
  simpa only [rat_lt] using hk
theorem rgD5 : rgD 0 5 = [.int 0, .int 1, .int 2, .int 3, .int 4] := rfl
theorem eqv_3 {a b c : Rat} : PyData.eqv (.tuple [rD a, rD b, rD c]) (.tuple [rD a, rD b, rD c]) = true := by
  rw [eqvAll_cons, eqvAll_cons, eqvAll_cons, eqv_rD, eqv_rD, eqv_rD]
  simp
  rfl
theorem eqv_2 {a b : Rat} : PyData.eqv (.tuple [rD a, rD b]) (.tuple [rD a, rD b]) = true := by
  rw [eqvAll_cons, eqvAll_cons, eqv_rD, eqv_rD]
  simp
  rfl
theorem lby_raw2 {a b : Int} {q : Rat} {B : Nat} {k : D → Prop} {w : Exn → Prop} (hb : 0 < b) (h1 : a.natAbs < 2 ^ B) (h2 : b.natAbs < 2 ^ B) (hq : RB q B) (hB : B < 4000) (hk : RB (q * ((a : Rat) / (b : Rat))) (B + B) → k (rD (q * ((a : Rat) / (b : Rat))))) : (f_law_by [.d (rD q), .d (.tuple [.int a, .int b])]).run k w := by
  simp [f_law_by, b_law_by, dStart, arSl]
  refine ⟨cmul hq.num h1 (by omega), cmul (den_lt hq) h2 (by omega), ?_⟩
  refine lratio_run (B := B + B) (Int.mul_pos (by have := q.den_pos; omega) hb) (mul_lt2 hq.num h1) (mul_lt2 (den_lt hq) h2) (by omega) fun h => ?_
  have e : ((q.num * a : Int) : Rat) / (((q.den : Int) * b : Int) : Rat) = q * ((a : Rat) / (b : Rat)) := by
    conv => rhs; rw [rat_nd q]
    have h1 := den_ne q
    have h3 : (b : Rat) ≠ 0 := by
      have : b ≠ 0 := by omega
      exact_mod_cast this
    push_cast
    grind
  rw [e] at h ⊢
  exact hk h
theorem sq0_d : PyData.tuple [.int 0, .int 1] = rD 0 := rfl
theorem RB.add' {a b : Nat} (hp : RB p a) (hq : RB q b) : RB (p + q) (a + b + 1) := by
  rw [← add_nd]
  refine ratio_rb dmul_pos (add_lt2 (mul_lt2 hp.num (den_lt hq)) ?_) (Nat.lt_of_lt_of_le (mul_lt2 (den_lt hp) (den_lt hq)) (Nat.pow_le_pow_right (by decide) (by omega)))
  rw [Nat.add_comm a b]
  exact mul_lt2 hq.num (den_lt hp)
theorem RB.sub' {a b : Nat} (hp : RB p a) (hq : RB q b) : RB (p - q) (a + b + 1) := by
  rw [← sub_nd]
  refine ratio_rb dmul_pos (sub_lt2 (mul_lt2 hp.num (den_lt hq)) ?_) (Nat.lt_of_lt_of_le (mul_lt2 (den_lt hp) (den_lt hq)) (Nat.pow_le_pow_right (by decide) (by omega)))
  rw [Nat.add_comm a b]
  exact mul_lt2 hq.num (den_lt hp)
theorem RB.mul' {a b : Nat} (hp : RB p a) (hq : RB q b) : RB (p * q) (a + b) := by
  rw [← mul_nd]
  exact ratio_rb dmul_pos (mul_lt2 hp.num hq.num) (mul_lt2 (den_lt hp) (den_lt hq))
theorem RB.div' {a b : Nat} (h0 : 0 < q) (hp : RB p a) (hq : RB q b) : RB (p / q) (a + b) := by
  have h0' := num_pos.mpr h0
  rw [← div_nd h0']
  exact ratio_rb (Int.mul_pos (by have := p.den_pos; omega) h0') (mul_lt2 hp.num (den_lt hq)) (mul_lt2 (den_lt hp) hq.num)
theorem plus_run' {a b : Nat} (hp : RB p a) (hq : RB q b) (hB : a + b < 4400) (hk : RB (p + q) (a + b + 1) → k (rD (p + q))) : (f_plus [.d (rD p), .d (rD q)]).run k w :=
  plus_run (B := a + b) (hp.mono (by omega)) (hq.mono (by omega)) hB fun _ => hk (hp.add' hq)
theorem minus_run' {a b : Nat} (hp : RB p a) (hq : RB q b) (hB : a + b < 4000) (hk : RB (p - q) (a + b + 1) → k (rD (p - q))) : (f_minus [.d (rD p), .d (rD q)]).run k w :=
  minus_run (B := a + b) (hp.mono (by omega)) (hq.mono (by omega)) hB fun _ => hk (hp.sub' hq)
theorem by_run' {a b : Nat} (hp : RB p a) (hq : RB q b) (hB : a + b < 4000) (hk : RB (p * q) (a + b) → k (rD (p * q))) : (f_by [.d (rD p), .d (rD q)]).run k w :=
  by_run (B := a + b) (hp.mono (by omega)) (hq.mono (by omega)) hB fun _ => hk (hp.mul' hq)
theorem over_run' {a b : Nat} (h0 : 0 < q) (hp : RB p a) (hq : RB q b) (hB : a + b < 4000) (hk : RB (p / q) (a + b) → k (rD (p / q))) : (f_over [.d (rD p), .d (rD q)]).run k w :=
  over_run (B := a + b) (num_pos.mpr h0) (hp.mono (by omega)) (hq.mono (by omega)) hB fun _ => hk (hp.div' h0 hq)
theorem less_run' {a b : Nat} (hp : RB p a) (hq : RB q b) (hB : a + b < 9000) (hk : k (.bool (decide (p < q)))) : (f_less [.d (rD p), .d (rD q)]).run k w :=
  less_run (B := a + b) (hp.mono (by omega)) (hq.mono (by omega)) hB hk
theorem lplus_run' {a b : Nat} (hp : RB p a) (hq : RB q b) (hB : a + b < 4000) (hk : RB (p + q) (a + b + 1) → k (rD (p + q))) : (f_law_plus [.d (rD p), .d (rD q)]).run k w :=
  lplus_run (B := a + b) (hp.mono (by omega)) (hq.mono (by omega)) hB fun _ => hk (hp.add' hq)
theorem lby_run' {a b : Nat} (hp : RB p a) (hq : RB q b) (hB : a + b < 4000) (hk : RB (p * q) (a + b) → k (rD (p * q))) : (f_law_by [.d (rD p), .d (rD q)]).run k w :=
  lby_run (B := a + b) (hp.mono (by omega)) (hq.mono (by omega)) hB fun _ => hk (hp.mul' hq)
/-! bounds by the divisor alone -/
theorem gcd_le_sq {p q : Rat} {s : Int} (hs : s = 1 ∨ s = -1) : Nat.gcd (p.num * q.den + s * (q.num * p.den)).natAbs ((p.den : Int) * q.den).natAbs ≤ q.den * q.den := by
  have h1 : ((Nat.gcd (p.num * q.den + s * (q.num * p.den)).natAbs ((p.den : Int) * q.den).natAbs : Nat) : Int) ∣ p.num * q.den + s * (q.num * p.den) := Int.ofNat_dvd_left.mpr (Nat.gcd_dvd_left _ _)
  have h2 : ((Nat.gcd (p.num * q.den + s * (q.num * p.den)).natAbs ((p.den : Int) * q.den).natAbs : Nat) : Int) ∣ (p.den : Int) * q.den := Int.ofNat_dvd_left.mpr (Nat.gcd_dvd_right _ _)
  generalize Nat.gcd (p.num * q.den + s * (q.num * p.den)).natAbs ((p.den : Int) * q.den).natAbs = g at h1 h2 ⊢
  have h3 : (g : Int) ∣ p.num * (q.den * q.den) := by
    have a := Int.dvd_trans h1 (Int.dvd_mul_right _ (q.den : Int))
    have b := Int.dvd_trans h2 (Int.dvd_mul_left (s * q.num) _)
    have e : p.num * (q.den * q.den) = (p.num * q.den + s * (q.num * p.den)) * q.den - s * q.num * ((p.den : Int) * q.den) := by grind
    rw [e]
    exact Int.dvd_sub a b
  have h4 : (g : Int) ∣ (p.den : Int) * (q.den * q.den) := by
    have := Int.dvd_trans h2 (Int.dvd_mul_right _ (q.den : Int))
    rwa [Int.mul_assoc] at this
  have h5 : g ∣ Nat.gcd (p.num.natAbs * (q.den * q.den)) (p.den * (q.den * q.den)) := by
    refine Nat.dvd_gcd ?_ ?_
    · have := Int.natAbs_dvd_natAbs.mpr h3
      simpa [Int.natAbs_mul] using this
    · have := Int.natAbs_dvd_natAbs.mpr h4
      simpa [Int.natAbs_mul] using this
  rw [Nat.gcd_mul_right, p.reduced, Nat.one_mul] at h5
  exact Nat.le_of_dvd (Nat.mul_pos q.den_pos q.den_pos) h5
theorem gcd_le_mul {p q : Rat} (hq : q.num ≠ 0) : Nat.gcd (p.num * q.num).natAbs ((p.den : Int) * q.den).natAbs ≤ q.num.natAbs * q.den := by
  have h5 : Nat.gcd (p.num * q.num).natAbs ((p.den : Int) * q.den).natAbs ∣ Nat.gcd (p.num.natAbs * (q.num.natAbs * q.den)) (p.den * (q.num.natAbs * q.den)) := by
    refine Nat.dvd_gcd ?_ ?_
    · have := Nat.dvd_mul_right_of_dvd (Nat.gcd_dvd_left (p.num * q.num).natAbs ((p.den : Int) * q.den).natAbs) q.den
      have e : (p.num * q.num).natAbs * q.den = p.num.natAbs * (q.num.natAbs * q.den) := by rw [Int.natAbs_mul, Nat.mul_assoc]
      rwa [e] at this
    · have := Nat.dvd_mul_right_of_dvd (Nat.gcd_dvd_right (p.num * q.num).natAbs ((p.den : Int) * q.den).natAbs) q.num.natAbs
      have e : ((p.den : Int) * q.den).natAbs * q.num.natAbs = p.den * (q.num.natAbs * q.den) := by
        rw [Int.natAbs_mul, Int.natAbs_natCast, Int.natAbs_natCast, Nat.mul_assoc, Nat.mul_comm q.den]
      rwa [e] at this
  rw [Nat.gcd_mul_right, p.reduced, Nat.one_mul] at h5
  exact Nat.le_of_dvd (Nat.mul_pos (by omega) q.den_pos) h5
theorem ratio_runG {G : Nat} (hb : 0 < b) (hg : Nat.gcd t.natAbs b.natAbs < 2 ^ G) (hG : G < 8900) (h1 : t.natAbs < 2 ^ B) (h2 : b.natAbs < 2 ^ B) (hk : RB ((t : Rat) / (b : Rat)) B → k (rD ((t : Rat) / (b : Rat)))) : (f_ratio [.d (.int t), .d (.int b)]).run k w := by
  obtain ⟨e1, e2⟩ := ratio_nd (t := t) hb
  have g := gcd_pos' (t := t) hb
  simp [f_ratio, b_ratio, dStart, arSl, hb]
  refine ⟨cdivg g hg hG, cdivg g hg hG, two_le_line, ?_⟩
  rw [← e1, ← e2]
  exact hk (ratio_rb hb h1 h2)
theorem lratio_runG {G : Nat} (hb : 0 < b) (hg : Nat.gcd t.natAbs b.natAbs < 2 ^ G) (hG : G < 8900) (h1 : t.natAbs < 2 ^ B) (h2 : b.natAbs < 2 ^ B) (hk : RB ((t : Rat) / (b : Rat)) B → k (rD ((t : Rat) / (b : Rat)))) : (f_law_ratio [.d (.int t), .d (.int b)]).run k w := by
  obtain ⟨e1, e2⟩ := ratio_nd (t := t) hb
  have g := gcd_pos' (t := t) hb
  have ab : ∀ x : Int, (if x < 0 then -x else x) = (x.natAbs : Int) := fun x => by split <;> omega
  simp [f_law_ratio, b_law_ratio, dStart, arSl, sPar, ab]
  refine ⟨fun m δ => ∃ x : Nat, δ = [.p (.int t), .p (.int b), .p (.int x), .p (.int m)] ∧ Nat.gcd x m = Nat.gcd t.natAbs b.natAbs, ⟨_, _, rfl, rfl⟩, ?_⟩
  rintro y δ ⟨x, rfl, hg'⟩
  simp
  by_cases hy : y = 0
  · subst hy
    simp [hb]
    rw [Nat.gcd_zero_right] at hg'
    subst hg'
    refine ⟨cdivg g hg hG, cdivg g hg hG, two_le_line, ?_⟩
    rw [← e1, ← e2]
    exact hk (ratio_rb hb h1 h2)
  · simp [hy]
    refine ⟨by omega, x % y, Nat.mod_lt _ (by omega), y, ?_, ?_⟩
    · simp
    rw [← hg', Nat.gcd_comm x y, Nat.gcd_rec y x, Nat.gcd_comm]
theorem sq_lt {n b : Nat} (h : n < 2 ^ b) : n * n < 2 ^ (b + b) := by
  rw [Nat.pow_add]
  exact Nat.mul_lt_mul'' h h
theorem pow_leG {a b : Nat} (h : a ≤ b) : 2 ^ a ≤ 2 ^ b := Nat.pow_le_pow_right (by decide) h
theorem plus_runG {a b : Nat} (hp : RB p a) (hq : RB q b) (hB : a + b < 400000) (hm : b < 4400) (hk : RB (p + q) (a + b + 1) → k (rD (p + q))) : (f_plus [.d (rD p), .d (rD q)]).run k w := by
  simp [f_plus, b_plus, dStart, arSl]
  refine ⟨cmul hp.num (den_lt hq) (by omega), cmul hq.num (den_lt hp) (by omega), cmul (den_lt hp) (den_lt hq) (by omega), ?_⟩
  have e : p.num * q.den + q.num * p.den = p.num * q.den + 1 * (q.num * p.den) := by rw [Int.one_mul]
  refine ratio_runG (B := a + b + 1) (G := b + b) dmul_pos ?_ (by omega) (add_lt2 (mul_lt2 hp.num (den_lt hq)) ?_) (Nat.lt_of_lt_of_le (mul_lt2 (den_lt hp) (den_lt hq)) (pow_leG (by omega))) fun h => ?_
  · rw [e]
    exact Nat.lt_of_le_of_lt (gcd_le_sq (.inl rfl)) (sq_lt hq.den)
  · rw [Nat.add_comm a b]; exact mul_lt2 hq.num (den_lt hp)
  · rw [add_nd] at h ⊢
    exact hk h
theorem minus_runG {a b : Nat} (hp : RB p a) (hq : RB q b) (hB : a + b < 400000) (hm : b < 4400) (hk : RB (p - q) (a + b + 1) → k (rD (p - q))) : (f_minus [.d (rD p), .d (rD q)]).run k w := by
  simp [f_minus, b_minus, dStart, arSl, rD]
  refine ⟨cmul hp.num (den_lt hq) (by omega), cmul hq.num (den_lt hp) (by omega), cmul (den_lt hp) (den_lt hq) (by omega), ?_⟩
  have e : p.num * q.den - q.num * p.den = p.num * q.den + -1 * (q.num * p.den) := by omega
  refine ratio_runG (B := a + b + 1) (G := b + b) dmul_pos ?_ (by omega) (sub_lt2 (mul_lt2 hp.num (den_lt hq)) ?_) (Nat.lt_of_lt_of_le (mul_lt2 (den_lt hp) (den_lt hq)) (pow_leG (by omega))) fun h => ?_
  · rw [e]
    exact Nat.lt_of_le_of_lt (gcd_le_sq (.inr rfl)) (sq_lt hq.den)
  · rw [Nat.add_comm a b]; exact mul_lt2 hq.num (den_lt hp)
  · rw [sub_nd] at h ⊢
    exact hk h
theorem gcd_swap {p q : Rat} : Nat.gcd (p.num * q.den - q.num * p.den).natAbs ((p.den : Int) * q.den).natAbs = Nat.gcd (q.num * p.den - p.num * q.den).natAbs ((q.den : Int) * p.den).natAbs := by
  rw [← Int.natAbs_neg (p.num * q.den - q.num * p.den), Int.neg_sub, Int.mul_comm (p.den : Int)]
/-- the same, the first one small -/
theorem minus_runG' {a b : Nat} (hp : RB p a) (hq : RB q b) (hB : a + b < 400000) (hm : a < 4400) (hk : RB (p - q) (a + b + 1) → k (rD (p - q))) : (f_minus [.d (rD p), .d (rD q)]).run k w := by
  simp [f_minus, b_minus, dStart, arSl, rD]
  refine ⟨cmul hp.num (den_lt hq) (by omega), cmul hq.num (den_lt hp) (by omega), cmul (den_lt hp) (den_lt hq) (by omega), ?_⟩
  have e : q.num * p.den - p.num * q.den = q.num * p.den + -1 * (p.num * q.den) := by omega
  refine ratio_runG (B := a + b + 1) (G := a + a) dmul_pos ?_ (by omega) (sub_lt2 (mul_lt2 hp.num (den_lt hq)) ?_) (Nat.lt_of_lt_of_le (mul_lt2 (den_lt hp) (den_lt hq)) (pow_leG (by omega))) fun h => ?_
  · rw [gcd_swap, e]
    exact Nat.lt_of_le_of_lt (gcd_le_sq (.inr rfl)) (sq_lt hp.den)
  · rw [Nat.add_comm a b]; exact mul_lt2 hq.num (den_lt hp)
  · rw [sub_nd] at h ⊢
    exact hk h
theorem lplus_runG {a b : Nat} (hp : RB p a) (hq : RB q b) (hB : a + b < 400000) (hm : b < 4400) (hk : RB (p + q) (a + b + 1) → k (rD (p + q))) : (f_law_plus [.d (rD p), .d (rD q)]).run k w := by
  simp [f_law_plus, b_law_plus, dStart, arSl, rD]
  refine ⟨cmul hp.num (den_lt hq) (by omega), cmul hq.num (den_lt hp) (by omega), cmul (den_lt hp) (den_lt hq) (by omega), ?_⟩
  have e : p.num * q.den + q.num * p.den = p.num * q.den + 1 * (q.num * p.den) := by rw [Int.one_mul]
  refine lratio_runG (B := a + b + 1) (G := b + b) dmul_pos ?_ (by omega) (add_lt2 (mul_lt2 hp.num (den_lt hq)) ?_) (Nat.lt_of_lt_of_le (mul_lt2 (den_lt hp) (den_lt hq)) (pow_leG (by omega))) fun h => ?_
  · rw [e]
    exact Nat.lt_of_le_of_lt (gcd_le_sq (.inl rfl)) (sq_lt hq.den)
  · rw [Nat.add_comm a b]; exact mul_lt2 hq.num (den_lt hp)
  · rw [add_nd] at h ⊢
    exact hk h
/-- the product of a small ratio, not 0, and any other one -/
theorem lby_runG {a b : Nat} (hp : RB p a) (hq : RB q b) (h0 : p.num ≠ 0) (hB : a + b < 400000) (hm : a < 4400) (hk : RB (p * q) (a + b) → k (rD (p * q))) : (f_law_by [.d (rD p), .d (rD q)]).run k w := by
  simp [f_law_by, b_law_by, dStart, arSl, rD]
  refine ⟨cmul hp.num hq.num (by omega), cmul (den_lt hp) (den_lt hq) (by omega), ?_⟩
  refine lratio_runG (B := a + b) (G := a + a) dmul_pos ?_ (by omega) (mul_lt2 hp.num hq.num) (mul_lt2 (den_lt hp) (den_lt hq)) fun h => ?_
  · have := gcd_le_mul (p := q) (q := p) h0
    rw [Int.mul_comm q.num, Int.mul_comm (q.den : Int)] at this
    refine Nat.lt_of_le_of_lt this ?_
    rw [Nat.pow_add]
    exact Nat.mul_lt_mul'' hp.num hp.den
  · rw [mul_nd] at h ⊢
    exact hk h
theorem lby_runG' {a b : Nat} (hp : RB p a) (hq : RB q b) (h0 : q.num ≠ 0) (hB : a + b < 400000) (hm : b < 4400) (hk : RB (p * q) (a + b) → k (rD (p * q))) : (f_law_by [.d (rD p), .d (rD q)]).run k w := by
  simp [f_law_by, b_law_by, dStart, arSl, rD]
  refine ⟨cmul hp.num hq.num (by omega), cmul (den_lt hp) (den_lt hq) (by omega), ?_⟩
  refine lratio_runG (B := a + b) (G := b + b) dmul_pos ?_ (by omega) (mul_lt2 hp.num hq.num) (mul_lt2 (den_lt hp) (den_lt hq)) fun h => ?_
  · refine Nat.lt_of_le_of_lt (gcd_le_mul (p := p) (q := q) h0) ?_
    rw [Nat.pow_add]
    exact Nat.mul_lt_mul'' hq.num hq.den
  · rw [mul_nd] at h ⊢
    exact hk h
end
/-! source for mkx.py: lanes; not built by itself -/
section
variable {k : D → Prop} {w : Exn → Prop} {L : List Ln} {t d : Rat} {n S Bb Bt Bd : Nat}
def lnD (x : Ln) : D := .tuple [.int x.1, rD x.2]
/-- lanes with bounds -/
structure LOk (L : List Ln) (n S Bb : Nat) : Prop where
  len : L.length ≤ n
  sl : ∀ x ∈ L, 0 ≤ x.1 ∧ x.1.natAbs < 2 ^ S
  bs : ∀ x ∈ L, RB x.2 Bb
theorem rb_zero {B : Nat} (h : 0 < B) : RB (0 : Rat) B := rb_int (a := 0) (Nat.two_pow_pos _) h
theorem rat_pos_int {s : Int} (h : 0 < s) : (0 : Rat) < (s : Rat) := by exact_mod_cast h
theorem fL_rb {x : Ln} (h1 : 0 ≤ x.1 ∧ x.1.natAbs < 2 ^ S) (h2 : RB x.2 Bb) (ht : RB t Bt) (hS : 0 < S) : RB (fL x t) (Bt + Bb + 1 + S) := by
  unfold fL
  split
  · rename_i c
    exact (ht.sub' h2).div' (rat_pos_int c.1) (rb_int h1.2 hS)
  · exact rb_zero (by omega)
theorem rL_rb {x : Ln} (h1 : 0 ≤ x.1 ∧ x.1.natAbs < 2 ^ S) (hS : 0 < S) : RB (rL x t) (S + 1) := by
  unfold rL
  split
  · rename_i c
    have : RB (1 / (x.1 : Rat)) (1 + S) := RB.div' (p := 1) (rat_pos_int c.1) (rb_int (a := 1) (by decide) (by omega)) (rb_int h1.2 hS)
    exact this.mono (by omega)
  · exact rb_zero (by omega)
theorem tk_rb (h : LOk L n S Bb) (ht : RB t Bt) (hS : 0 < S) : RB (tkQ L t) (L.length * (Bt + Bb + S + 2) + 1) := by
  have h1 := h.sl
  have h2 := h.bs
  clear h
  induction L with
  | nil => exact rb_zero (by omega)
  | cons x L ih =>
    have a := fL_rb (h1 x (by simp)) (h2 x (by simp)) ht hS
    have b := ih (fun y hy => h1 y (by simp [hy])) (fun y hy => h2 y (by simp [hy]))
    have := a.add' b
    refine this.mono ?_
    rw [List.length_cons, Nat.add_mul]
    omega
theorem rt_rb (h : LOk L n S Bb) (hS : 0 < S) : RB (rtQ L t) (L.length * (S + 2) + 1) := by
  have h1 := h.sl
  clear h
  induction L with
  | nil => exact rb_zero (by omega)
  | cons x L ih =>
    have a := rL_rb (t := t) (h1 x (by simp)) hS
    have b := ih (fun y hy => h1 y (by simp [hy]))
    have := a.add' b
    refine this.mono ?_
    rw [List.length_cons, Nat.add_mul]
    omega
theorem tk_snoc {L : List Ln} {x : Ln} : tkQ (L ++ [x]) t = tkQ L t + fL x t := by
  induction L with
  | nil => simp only [List.nil_append, tkQ]; grind
  | cons y L ih => simp only [List.cons_append, tkQ, ih]; grind
theorem rt_snoc {L : List Ln} {x : Ln} : rtQ (L ++ [x]) t = rtQ L t + rL x t := by
  induction L with
  | nil => simp only [List.nil_append, rtQ]; grind
  | cons y L ih => simp only [List.cons_append, rtQ, ih]; grind
theorem LOk.pre {L : List Ln} (h : LOk L n S Bb) {a : List Ln} {x : Ln} {b : List Ln} (e : L = a ++ x :: b) : LOk a n S Bb ∧ a.length < L.length ∧ x ∈ L := by
  subst e
  exact ⟨⟨by have := h.len; simp at this; omega, fun y hy => h.sl y (by simp [hy]), fun y hy => h.bs y (by simp [hy])⟩, by simp, by simp⟩
theorem taken_at_run (h : LOk L n S Bb) (ht : RB t Bt) (hS : 0 < S) (hB : (L.length + 1) * (Bt + Bb + S + 2) + 1 < 300000) (hm : Bt + Bb + S + 2 < 4000) (hk : RB (tkQ L t) (L.length * (Bt + Bb + S + 2) + 1) → k (rD (tkQ L t))) : (f_taken_at [.d (.list (L.map lnD)), .d (rD t)]).run k w := by
  simp [f_taken_at, b_taken_at, dStart, arSl]
  refine ⟨two_le_line, loop_pre (fun pre δ => ∃ s3 s4, δ = [Sl.p (PyData.list (List.map lnD L)), Sl.p (rD t), Sl.p (rD (tkQ pre t)), s3, s4]) ⟨_, _, rfl⟩ ?_ ?_⟩
  · rintro pre x post δ e ⟨s3, s4, rfl⟩
    obtain ⟨h1, h2, h3⟩ := h.pre e
    have rb := tk_rb h1 ht hS
    have l1 : (pre.length + 1) * (Bt + Bb + S + 2) ≤ L.length * (Bt + Bb + S + 2) := Nat.mul_le_mul_right _ (by omega)
    rw [Nat.add_mul] at hB l1
    refine ⟨_, rfl, ?_⟩
    by_cases c : 0 < x.1
    · simp [c]
      refine less_run' (h.bs x h3) ht (by omega) ?_
      by_cases c2 : x.2 < t
      · simp [c2]
        refine minus_run' ht (h.bs x h3) (by omega) fun m => ⟨two_le_line, ?_⟩
        rw [rD_int]
        refine over_run' (rat_pos_int c) m (rb_int (h.sl x h3).2 hS) (by omega) fun o => ?_
        refine plus_runG rb o (by omega) (by omega) fun _ => ?_
        rw [tk_snoc]
        simp [fL, c, c2]
      · simp [c2]
        rw [tk_snoc]
        simp [fL, c, c2, Rat.add_zero]
    · simp [c]
      rw [tk_snoc]
      simp [fL, c, Rat.add_zero]
  · rintro δ ⟨s3, s4, rfl⟩
    simp
    exact hk (tk_rb h ht hS)
theorem sorted_run {s : List Rat} {B : Nat} (h : ∀ q ∈ s, RB q B) (hl : s.length < 1000) (hB : B < 4000) (hk : k (.list ((sortQ s).map rD))) : (f_sorted_ratios [.d (.list (s.map rD))]).run k w := by
  simp [f_sorted_ratios, b_sorted_ratios, dStart, arSl]
  refine loop_pre (fun pre δ => ∃ s2 s3 s4, δ = [Sl.p (PyData.list (List.map rD s)), Sl.p (.list ((sortQ pre).map rD)), s2, s3, s4]) ⟨_, _, _, rfl⟩ ?_ ?_
  · rintro pre x post δ e ⟨s2, s3, s4, rfl⟩
    have hm : ∀ y ∈ sortQ pre, RB y B := fun y hy => h y (by rw [e]; simp [mem_sort.mp hy])
    have hx : RB x B := h x (by rw [e]; simp)
    have hlen : (sortQ pre).length < 1000 := by rw [len_sort]; have := congrArg List.length e; simp at this; omega
    refine ⟨_, rfl, ?_⟩
    simp
    refine ⟨lt_line (by omega), lc_run (p := fun o => !decide (x < o)) (h := rD) (fun y hy => ⟨_, rfl, fun kb hkb => ?_, fun _ kd hkd => ?_⟩) ?_⟩
    · simp
      refine less_run' hx (hm y hy) (by omega) ?_
      simpa using hkb
    · simpa using hkd
    rw [cut_take, cut_drop, allD_map, List.length_map, rw_allD1, allD_only]
    simp
    refine ⟨lt_line (by omega), ?_⟩
    simp [sortQ, insQ]
  · rintro δ ⟨s2, s3, s4, rfl⟩
    simp
    exact hk
def optD : Option Rat → D
  | none => .none
  | some m => rD m
theorem sum_snoc {s : List Rat} {q : Rat} : sumQ (s ++ [q]) = sumQ s + q := by
  induction s with
  | nil => simp only [List.nil_append, sumQ]; grind
  | cons y L ih => simp only [List.cons_append, sumQ, ih]; grind
theorem sum_rb {s : List Rat} {B : Nat} (h : ∀ q ∈ s, RB q B) : RB (sumQ s) (s.length * (B + 1) + 1) := by
  induction s with
  | nil => exact rb_zero (by omega)
  | cons q s ih =>
    have := (h q (by simp)).add' (ih fun y hy => h y (by simp [hy]))
    refine this.mono ?_
    rw [List.length_cons, Nat.add_mul]
    omega
theorem sum_run {s : List Rat} {B : Nat} (h : ∀ q ∈ s, RB q B) (hB : (s.length + 1) * (B + 1) + 1 < 300000) (hm : B < 4400) (hk : RB (sumQ s) (s.length * (B + 1) + 1) → k (rD (sumQ s))) : (f_sum_of [.d (.list (s.map rD))]).run k w := by
  simp [f_sum_of, b_sum_of, dStart, arSl]
  refine ⟨two_le_line, loop_pre (fun pre δ => ∃ s2, δ = [Sl.p (PyData.list (List.map rD s)), Sl.p (rD (sumQ pre)), s2]) ⟨_, rfl⟩ ?_ ?_⟩
  · rintro pre x post δ e ⟨s2, rfl⟩
    have rb := sum_rb (s := pre) (B := B) fun q hq => h q (by rw [e]; simp [hq])
    have l1 : (pre.length + 1) * (B + 1) ≤ s.length * (B + 1) := Nat.mul_le_mul_right _ (by rw [e]; simp)
    rw [Nat.add_mul] at hB l1
    refine ⟨_, rfl, ?_⟩
    simp
    refine plus_runG rb (h x (by rw [e]; simp)) (by omega) (by omega) fun _ => ?_
    rw [sum_snoc]
  · rintro δ ⟨s2, rfl⟩
    simp
    exact hk (sum_rb h)
theorem inv_rD {s : Int} (h : 0 < s) : PyData.tuple [.int 1, .int s] = rD (1 / (s : Rat)) := by
  have ⟨a, b⟩ := ratio_nd (t := 1) h
  simp at a b
  have e : ((1 : Int) : Rat) = 1 := rfl
  rw [rD, a, b]
theorem rt_sum {b : Rat} : rtQ L b = sumQ ((L.filter fun x => decide (0 < x.1) && !decide (b < x.2)).map fun x => 1 / (x.1 : Rat)) := by
  induction L with
  | nil => rfl
  | cons x L ih =>
    simp only [rtQ, ih, rL]
    by_cases c : 0 < x.1 ∧ x.2 ≤ b
    · have c2 : ¬ b < x.2 := by grind
      simp [c.1, c.2, c2, sumQ]
    · have : (decide (0 < x.1) && !decide (b < x.2)) = false := by
        simp
        intro z
        grind
      rw [if_neg c, List.filter_cons, this]
      simp [Rat.zero_add]
theorem enD_get' {ds : List D} {i : Nat} {d : D} (h : (enD ds)[i]? = some d) : ∃ x, ds[i]? = some x ∧ d = .tuple [.int i, x] := by
  unfold enD at h
  rw [List.getElem?_zipWith] at h
  by_cases c : i < ds.length
  · rw [List.getElem?_range c, List.getElem?_eq_getElem c] at h
    exact ⟨ds[i], List.getElem?_eq_getElem c, (Option.some.inj h).symm⟩
  · rw [List.getElem?_eq_none (by omega : ds.length ≤ i)] at h
    cases hh : (List.range ds.length)[i]? <;> rw [hh] at h <;> cases h
/-- the time at rest -/
theorem level_run (h : LOk L n S Bb) (hL : L ≠ []) (hsl : ∀ x ∈ L, x.1 = 0 ∨ 0 < x.1) (hl : L.length < 1000) (hd : RB d Bd) (h0 : 0 < d) (hS : 0 < S) (hB : (L.length + 1) * (Bb + Bb + S + 2) + (L.length + 1) * (S + 3) + Bd + Bb + 10 < 2000)
    (hk : ∀ t, Lev L d t → RB t (Bb + (Bd + (L.length * (Bb + Bb + S + 2) + 1) + 1 + (L.length * (S + 2) + 1)) + 1) → (tkQ L t = d ∨ RB t Bb) → k (rD t)) : (f_level_of [.d (.list (L.map lnD)), .d (rD d)]).run k w := by
  have hB1 : L.length * (Bb + Bb + S + 2) + L.length * (S + 3) + Bd + Bb + 10 + (Bb + Bb + S + 2) + (S + 3) < 2000 := by
    have := Nat.add_mul L.length 1 (Bb + Bb + S + 2)
    have := Nat.add_mul L.length 1 (S + 3)
    omega
  have hB2 : L.length * (S + 2) ≤ L.length * (S + 3) := Nat.mul_le_mul_left _ (by omega)
  have fl : ∀ (p : Ln → Bool), ∀ q ∈ (L.filter p).map (·.2), RB q Bb := by
    intro p q hq
    simp at hq
    obtain ⟨a, hq, _⟩ := hq
    exact h.bs _ hq
  have fll : ∀ (p : Ln → Bool), ((L.filter p).map (·.2)).length < 1000 := by
    intro p
    have := List.length_filter_le p L
    simp
    omega
  simp only [f_level_of, rw_dRun, dStart, arSl, List.map_cons, List.map_nil]
  unfold b_level_of
  simp only [run_bind]
  refine seq_mid (fun δ => δ = [.p (.list (L.map lnD)), .p (rD d), .o (((L.filter fun x => decide (x.1 = 0)).map (·.2)).map rD), .non, .non, .non, .non, .non, .non, .non, .non, .non]) ?_ ?_
  · simp
    refine ⟨lt_line (by omega), lc_run (p := fun x => decide (x.1 = 0)) (h := fun x => rD x.2) (fun y hy => ⟨_, rfl, fun kb hkb => ?_, fun _ kd hkd => ?_⟩) ?_⟩
    · simpa using hkb
    · simpa using hkd
    · simp [Function.comp_def]
  rintro δ rfl
  simp only [rw_sFz]
  generalize hfl : ((L.filter fun x => decide (x.1 = 0)).map (·.2)) = fs
  have mfl : ∀ x ∈ L, x.1 = 0 → x.2 ∈ fs := by
    intro x hx hz
    rw [← hfl]
    exact List.mem_map.mpr ⟨x, List.mem_filter.mpr ⟨hx, by simp [hz]⟩, rfl⟩
  have mfl2 : ∀ q ∈ fs, ∃ x ∈ L, x.1 = 0 ∧ x.2 = q := by
    intro q hq
    rw [← hfl] at hq
    obtain ⟨x, hx, e⟩ := List.mem_map.mp hq
    have := List.mem_filter.mp hx
    exact ⟨x, this.1, by simpa using this.2, e⟩
  have rbf : ∀ q ∈ fs, RB q Bb := by rw [← hfl]; exact fl _
  have lfs : fs.length < 1000 := by rw [← hfl]; exact fll _
  clear hfl
  refine seq_mid (fun δ => ∃ m : Option Rat, δ = [.p (.list (L.map lnD)), .p (rD d), .p (.list (fs.map rD)), .non, .non, .p (optD m), .non, .non, .non, .non, .non, .non] ∧ (match m with | none => ∀ x ∈ L, x.1 ≠ 0 | some m => RB m Bb ∧ (∃ x ∈ L, x.1 = 0 ∧ x.2 = m) ∧ ∀ x ∈ L, x.1 = 0 → m ≤ x.2)) ?_ ?_
  · simp
    by_cases c : fs = []
    · simp [c]
      refine ⟨none, rfl, fun a b hx hz => ?_⟩
      have := mfl _ hx hz
      rw [c] at this
      cases this
    · simp [c]
      refine sorted_run rbf (by omega) (by omega) ?_
      have hne : 0 < (sortQ fs).length := by rw [len_sort]; exact List.length_pos_iff.mpr c
      obtain ⟨m, hm⟩ : ∃ m, (sortQ fs)[0]? = some m := ⟨_, List.getElem?_eq_getElem hne⟩
      have hmm : m ∈ fs := mem_sort.mp (List.mem_of_getElem? hm)
      have : atI (List.map rD (sortQ fs)) 0 = some (rD m) := by
        rw [show (0 : Int) = ((0 : Nat) : Int) from rfl, atI_nat, List.getElem?_map, hm]
        rfl
      simp [this]
      refine ⟨some m, rfl, rbf m hmm, ?_, fun a b hx hz => ?_⟩
      · obtain ⟨x, hx, h1, h2⟩ := mfl2 m hmm
        have e : x = (0, m) := Prod.ext h1 h2
        exact e ▸ hx
      · exact srt_head (srt_sort fs) hm (mem_sort.mpr (mfl _ hx hz))
  rintro δ ⟨m, rfl, hm⟩
  refine seq_mid (fun δ => δ = [.p (.list (L.map lnD)), .p (rD d), .p (.list (fs.map rD)), .non, .non, .p (optD m), .p (.list ((sortQ ((L.filter fun x => decide (0 < x.1)).map (·.2))).map rD)), .non, .non, .non, .non, .non]) ?_ ?_
  · simp
    refine ⟨lt_line (by omega), lc_run (p := fun x => decide (0 < x.1)) (h := fun x => rD x.2) (fun y hy => ⟨_, rfl, fun kb hkb => ?_, fun _ kd hkd => ?_⟩) ?_⟩
    · simpa using hkb
    · simpa using hkd
    · rw [show ((L.filter fun x => decide (0 < x.1)).map fun x => rD x.2) = ((L.filter fun x => decide (0 < x.1)).map (·.2)).map rD by simp [Function.comp_def]]
      refine sorted_run (fl _) (fll _) (by omega) ?_
      simp
  rintro δ rfl
  generalize hbs : sortQ ((L.filter fun x => decide (0 < x.1)).map (·.2)) = bs
  have sbs : Srt bs := by rw [← hbs]; exact srt_sort _
  have mbs : ∀ x ∈ L, 0 < x.1 → x.2 ∈ bs := by
    intro x hx hz
    rw [← hbs, mem_sort]
    exact List.mem_map.mpr ⟨x, List.mem_filter.mpr ⟨hx, by simp [hz]⟩, rfl⟩
  have mbs2 : ∀ q ∈ bs, ∃ x ∈ L, 0 < x.1 ∧ x.2 = q := by
    intro q hq
    rw [← hbs, mem_sort] at hq
    obtain ⟨x, hx, e⟩ := List.mem_map.mp hq
    have := List.mem_filter.mp hx
    exact ⟨x, this.1, by simpa using this.2, e⟩
  have rbb : ∀ q ∈ bs, RB q Bb := fun q hq => by
    obtain ⟨x, hx, _, e⟩ := mbs2 q hq
    exact e ▸ h.bs x hx
  clear hbs
  rw [rw_seq, rw_for, rw_iEnD]
  simp only [run_bind, rw_dV, List.getElem?_cons_succ, List.getElem?_cons_zero, slotP_p, pure_bind, rw_seqL]
  refine loop_inv (fun i δ => (i = 0 ∨ i < bs.length) ∧ (∀ b, bs[i]? = some b → tkQ L b < d) ∧ ∃ s3 s4 s7 s8 s9 s10 s11, δ = [.p (.list (L.map lnD)), .p (rD d), .p (.list (fs.map rD)), s3, s4, .p (optD m), .p (.list (bs.map rD)), s7, s8, s9, s10, s11]) ⟨.inl rfl, fun b hb => ?_, _, _, _, _, _, _, _, rfl⟩ ?_ ?_
  · rw [tk_zero fun x hx hp => srt_head sbs hb (mbs x hx hp)]
    exact h0
  · rintro i δ e he ⟨hi, hlt, s3, s4, s7, s8, s9, s10, s11, rfl⟩
    obtain ⟨x, hx, rfl⟩ := enD_get' he
    rw [List.getElem?_map] at hx
    obtain ⟨b, hb, rfl⟩ : ∃ b, bs[i]? = some b ∧ x = rD b := by
      cases hh : bs[i]? <;> rw [hh] at hx <;> cases hx
      exact ⟨_, rfl, rfl⟩
    have hbm := List.mem_of_getElem? hb
    have hil : i < bs.length := by
      obtain ⟨hl, _⟩ := List.getElem?_eq_some_iff.mp hb
      exact hl
    obtain ⟨xb, hxb, hxb0, hxb1⟩ := mbs2 b hbm
    refine ⟨_, rfl, ?_⟩
    refine seq_mid (fun δ => ∃ lt : Option Rat, δ = [.p (.list (L.map lnD)), .p (rD d), .p (.list (fs.map rD)), s3, .p (rD b), .p (optD m), .p (.list (bs.map rD)), .p (.int i), .p (optD lt), s9, s10, s11] ∧ lt = bs[i + 1]?) ?_ ?_
    · simp
      by_cases c : i + 1 < bs.length
      · have c' : (i : Int) + 1 < bs.length := by omega
        simp [c']
        have e1 : atI (List.map rD bs) ((i : Int) + 1) = some (rD bs[i + 1]) := by
          rw [show (i : Int) + 1 = ((i + 1 : Nat) : Int) by omega, atI_nat, List.getElem?_map, List.getElem?_eq_getElem c]
          rfl
        simp [e1, List.getElem?_eq_getElem c, optD]
      · have c' : ¬ (i : Int) + 1 < bs.length := by omega
        simp [c', List.getElem?_eq_none (Nat.le_of_not_lt c), optD]
    rintro δ ⟨lt, rfl, hlt'⟩
    have fin : (match lt with | none => ∀ y ∈ L, 0 < y.1 → y.2 ≤ b | some u => b ≤ u ∧ d ≤ tkQ L u ∧ Free L b u) → (sSeq (sSet 9 (dCall 1 f_sum_of (aCons (dNl (nLc (iSeqD (dV 0)) (bTup 2 (bCons (bName 3) (bCons (bName 10) bNil))) (tAnd2 (tBv (d2 dGt (dV 3) (dC (.int 0)))) (tNotV (tT (dCall 2 f_less (aCons (dV 4) (aCons (dV 10) aNil)))))) (dTup (aCons (dC (.int 1)) (aCons (dV 3) aNil))) ([3, 10] : List Nat))) aNil))) (sSeq (sSet 11 (dCall 2 f_plus (aCons (dV 4) (aCons (dCall 2 f_over (aCons (dCall 2 f_minus (aCons (dV 1) (aCons (dCall 2 f_taken_at (aCons (dV 0) (aCons (dV 4) aNil))) aNil))) (aCons (dV 9) aNil))) aNil)))) (sRet (dIf (tOr2 (tBv (d2 dIs (dV 5) (dC .none))) (tT (dCall 2 f_less (aCons (dV 11) (aCons (dV 5) aNil))))) (dV 11) (dV 5)))) [.p (.list (L.map lnD)), .p (rD d), .p (.list (fs.map rD)), s3, .p (rD b), .p (optD m), .p (.list (bs.map rD)), .p (.int i), .p (optD lt), s9, s10, s11]).run (fun o => ∃ t, o = .rt (rD t) ∧ Lev L d t ∧ RB t (Bb + (Bd + (L.length * (Bb + Bb + S + 2) + 1) + 1 + (L.length * (S + 2) + 1)) + 1) ∧ (tkQ L t = d ∨ RB t Bb)) w := by
      intro hfr
      obtain ⟨ht1, ht2⟩ := lev_time (lt := lt) (hlt b hb) hxb hxb0 hxb1 (by cases lt <;> exact hfr)
      have rt0 := rt_pos hxb hxb0 (show xb.2 ≤ b by grind)
      have rbt := rt_rb (t := b) h hS
      have rbk := tk_rb (t := b) h (rbb b hbm) hS
      simp
      refine ⟨lt_line (by omega), lc_run (p := fun x => decide (0 < x.1) && !decide (b < x.2)) (h := fun x => .tuple [.int 1, .int x.1]) (fun y hy => ⟨_, rfl, fun kb hkb => ?_, fun _ kd hkd => ?_⟩) ?_⟩
      · by_cases c : 0 < y.1
        · simp [c]
          refine less_run' (rbb b hbm) (h.bs y hy) (by omega) ?_
          simpa [c] using hkb
        · simpa [c] using hkb
      · simp
        exact ⟨two_le_line, hkd⟩
      have e1 : ((L.filter fun x => decide (0 < x.1) && !decide (b < x.2)).map fun x => PyData.tuple [.int 1, .int x.1]) = ((L.filter fun x => decide (0 < x.1) && !decide (b < x.2)).map fun x => 1 / (x.1 : Rat)).map rD := by
        rw [List.map_map]
        refine List.map_congr_left fun x hx => ?_
        simp at hx
        exact inv_rD hx.2.1
      rw [e1]
      have hlen := List.length_filter_le (fun x : Ln => decide (0 < x.1) && !decide (b < x.2)) L
      have hlm : ((L.filter fun x => decide (0 < x.1) && !decide (b < x.2)).length + 1) * (S + 1 + 1) ≤ (L.length + 1) * (S + 2) := Nat.mul_le_mul_right _ (by omega)
      have hlm2 : (L.length + 1) * (S + 2) = L.length * (S + 2) + 1 * (S + 2) := Nat.add_mul _ _ _
      refine sum_run (B := S + 1) (fun q hq => ?_) (by rw [List.length_map]; omega) (by omega) ?_
      · obtain ⟨a, ha', rfl⟩ := List.mem_map.mp hq
        have ha := (List.mem_filter.mp ha').1
        have ha1 : 0 < a.1 := by have := (List.mem_filter.mp ha').2; simp at this; exact this.1
        have := RB.div' (p := 1) (a := 1) (b := S) (rat_pos_int ha1) (rb_int (a := 1) (by decide) (by omega)) (rb_int (h.sl _ ha).2 hS)
        exact this.mono (by omega)
      rw [← rt_sum]
      intro _
      refine taken_at_run h (rbb b hbm) hS (by have := Nat.add_mul L.length 1 (Bb + Bb + S + 2); omega) (by omega) fun hk1 => ?_
      refine minus_run' hd hk1 (by omega) fun hk2 => ?_
      refine over_run' rt0 hk2 rbt (by omega) fun hk3 => ?_
      refine plus_run' (rbb b hbm) hk3 (by omega) fun hk4 => ?_
      cases m with
      | none =>
        simp [optD]
        exact ⟨_, rfl, lev_steep ht1 fun x hx hz => absurd hz (hm x hx), hk4, .inl ht1⟩
      | some m =>
        obtain ⟨hm1, ⟨xm, hxm, hxm0, hxm1⟩, hm2⟩ := hm
        simp [optD]
        refine less_run' hk4 hm1 (by omega) ?_
        by_cases c : b + (d - tkQ L b) / rtQ L b < m
        · simp [c]
          exact ⟨_, rfl, lev_steep ht1 fun x hx hz => by have := hm2 x hx hz; grind, hk4, .inl ht1⟩
        · simp [c]
          exact ⟨_, rfl, lev_flat ht1 (by grind) hxm hxm0 hxm1 hm2, hm1.mono (by omega), .inr hm1⟩
    simp only [rw_if, run_bind]
    cases lt with
    | none =>
      simp only [rw_tOr2, rw_tBv, rw_d2, rw_dV, List.getElem?_cons_succ, List.getElem?_cons_zero, slotP_p, pure_bind, rw_dC, optD, rw_is, isNoneD, rw_asB, run_pure, if_true]
      refine Wp.mono _ (fun o ho => ?_) (fun _ z => z) (fin fun y hy hp => ?_)
      · obtain ⟨t, rfl, ht1, ht2, ht3⟩ := ho
        simp
        exact hk t ht1 ht2 ht3
      · obtain ⟨j, hj⟩ := List.mem_iff_getElem?.mp (mbs y hy hp)
        have : bs.length ≤ i + 1 := by rcases Nat.lt_or_ge (i + 1) bs.length with z | z; · rw [List.getElem?_eq_getElem z] at hlt'; cases hlt'
                                       · exact z
        have hjl : j < bs.length := (List.getElem?_eq_some_iff.mp hj).1
        exact srt_get sbs (by omega) hj hb
    | some u =>
      have hu := hlt'.symm
      have hum := List.mem_of_getElem? hu
      have hul : i + 1 < bs.length := (List.getElem?_eq_some_iff.mp hu).1
      simp only [rw_tOr2, rw_tBv, rw_tNotV, rw_tT, rw_call, rw_aCons, rw_aNil, rw_d2, rw_dV, List.getElem?_cons_succ, List.getElem?_cons_zero, slotP_p, pure_bind, rw_dC, rw_is, show isNoneD (rD u) = false from rfl, true_and, List.length_nil, Nat.zero_add, Nat.reduceAdd, show optD (some u) = rD u from rfl, rw_asB, run_pure, run_bind, run_need, List.length_cons, List.length_nil, Bool.false_eq_true, if_false]
      refine taken_at_run h (rbb u hum) hS (by have := Nat.add_mul L.length 1 (Bb + Bb + S + 2); omega) (by omega) fun hk1 => ?_
      refine less_run' hk1 hd (by omega) ?_
      by_cases c : tkQ L u < d
      · simp [c]
        exact ⟨hul, fun b' hb' => by rw [hu] at hb'; cases hb'; exact c⟩
      · simp only [decide_eq_false c, rw_truB, run_pure, Bool.not_false, if_true]
        refine Wp.mono _ (fun o ho => ?_) (fun _ z => z) (fin ⟨srt_get sbs (by omega) hb hu, by grind, fun x hx hp => ?_⟩)
        · obtain ⟨t, rfl, ht1, ht2, ht3⟩ := ho
          simp
          exact hk t ht1 ht2 ht3
        · obtain ⟨j, hj⟩ := List.mem_iff_getElem?.mp (mbs x hx hp)
          rcases Nat.lt_or_ge i j with z | z
          · exact .inr (srt_get sbs z hu hj)
          · exact .inl (srt_get sbs z hj hb)
  · rintro δ ⟨hi, hlt, s3, s4, s7, s8, s9, s10, s11, rfl⟩
    rw [enD_len, List.length_map] at hi
    have hb0 : bs = [] := List.length_eq_zero_iff.mp (by omega)
    simp
    have hno : ∀ x ∈ L, ¬ 0 < x.1 := fun x hx hp => by
      have := mbs x hx hp
      rw [hb0] at this
      cases this
    cases m with
    | none =>
      obtain ⟨x, hx⟩ := List.exists_mem_of_ne_nil L hL
      rcases hsl x hx with z | z
      · exact absurd z (hm x hx)
      · exact absurd z (hno x hx)
    | some m =>
      obtain ⟨hm1, ⟨xm, hxm, hxm0, hxm1⟩, hm2⟩ := hm
      exact hk m (lev_only h0 hno hxm hxm0 hxm1 hm2) (hm1.mono (by omega)) (.inr hm1)
end
/-! source for mkx.py: lanes in use; not built by itself -/
section
variable {k : D → Prop} {w : Exn → Prop} {L : List Ln} {I : List (Int × Int)} {t d : Rat} {n S Bb Bt Bd : Nat}
def lnI (x : Int × Int) : D := .tuple [.int x.1, .int x.2]
def toL (x : Int × Int) : Ln := (x.1, (x.2 : Rat))
structure Ins (I : List (Int × Int)) : Prop where
  l1 : 1 ≤ I.length
  l2 : I.length ≤ 8
  sl : ∀ x ∈ I, 0 ≤ x.1 ∧ x.1 ≤ 100
  bs : ∀ x ∈ I, 0 ≤ x.2 ∧ x.2 ≤ 1000
structure Dm (d : Rat) : Prop where
  n1 : 1 ≤ d.num
  n2 : d.num ≤ 1000
  d2 : d.den ≤ 100
theorem Dm.pos (h : Dm d) : 0 < d := num_pos.mp (by have := h.n1; omega)
theorem Dm.rb (h : Dm d) : RB d 10 := ⟨by have := h.n1; have := h.n2; show _ < 1024; omega, by have := h.d2; show _ < 1024; omega⟩
theorem Ins.ok (h : Ins I) : LOk (I.map toL) I.length 7 10 := ⟨by simp, fun x hx => by
  obtain ⟨y, hy, rfl⟩ := List.mem_map.mp hx
  have := h.sl y hy
  exact ⟨this.1, nb7 this.1 this.2⟩, fun x hx => by
  obtain ⟨y, hy, rfl⟩ := List.mem_map.mp hx
  have := h.bs y hy
  exact rb_int (nb10 this.1 this.2) (by omega)⟩
theorem Ins.ne (h : Ins I) : I.map toL ≠ [] := by
  have := h.l1
  intro z
  rw [List.map_eq_nil_iff] at z
  subst z
  simp at this
theorem Ins.sg (h : Ins I) : ∀ x ∈ I.map toL, x.1 = 0 ∨ 0 < x.1 := fun x hx => by
  obtain ⟨y, hy, rfl⟩ := List.mem_map.mp hx
  have := (h.sl y hy).1
  show y.1 = 0 ∨ 0 < y.1
  omega
theorem islane_run {x : Int × Int} (h1 : 0 ≤ x.1 ∧ x.1 ≤ 100) (h2 : 0 ≤ x.2 ∧ x.2 ≤ 1000) (hk : k (.bool true)) : (f_is_lane [.d (lnI x)]).run k w := by
  simp [f_is_lane, b_is_lane, dStart, arSl, lnI]
  refine isin_run ?_
  simp [h1.1, h1.2]
  refine isin_run ?_
  simp [h2.1, h2.2]
  exact hk
theorem needd_run (h : Dm d) (hk : k .none) : (f_need_demand [.d (rD d)]).run k w := by
  have h1 := h.n1
  have h2 := h.n2
  have h3 : ¬ (100 : Int) < (d.den : Int) := by have := h.d2; omega
  simp [f_need_demand, b_need_demand, dStart, arSl]
  refine isratio_run ?_
  simp [h1, h2, h3]
  exact hk
theorem needl_run (hI : Ins I) (h : Dm d) (hk : k .none) : (f_need_lanes [.d (.tuple (I.map lnI)), .d (rD d)]).run k w := by
  have h1 : (1 : Int) ≤ (I.length : Int) := by have := hI.l1; omega
  have h2 : (I.length : Int) ≤ 8 := by have := hI.l2; omega
  simp [f_need_lanes, b_need_lanes, dStart, arSl, h1, h2]
  refine loop_inv (fun i δ => ∃ s2 s3, δ = [.p (.tuple (I.map lnI)), .p (rD d), s2, s3]) ⟨_, _, rfl⟩ ?_ ?_
  · rintro i δ e he ⟨s2, s3, rfl⟩
    obtain ⟨x, hx, rfl⟩ := enD_get' he
    obtain ⟨y, hy, rfl⟩ := List.mem_map.mp (List.mem_of_getElem? hx)
    refine ⟨_, rfl, ?_⟩
    simp
    refine islane_run (hI.sl y hy) (hI.bs y hy) ?_
    simp
  · rintro δ ⟨s2, s3, rfl⟩
    simp
    exact needd_run h hk
theorem with_run (hl : I.length < 1000) (hk : k (.list ((I.map toL).map lnD))) : (f_with_ratios [.d (.tuple (I.map lnI))]).run k w := by
  simp [f_with_ratios, b_with_ratios, dStart, arSl]
  refine ⟨lt_line (by omega), lc_run (p := fun _ => true) (h := fun x => lnD (toL x)) (fun y hy => ⟨_, rfl, fun kb hkb => ?_, fun _ kd hkd => ?_⟩) ?_⟩
  · simpa using hkb
  · simp
    exact ⟨two_le_line, hkd⟩
  · rw [List.filter_eq_self.mpr (by simp)]
    simpa [Function.comp_def] using hk
def flF (t : Rat) (p : List Rat × Rat) (x : Ln) : List Rat × Rat := if 0 < x.1 then (p.1 ++ [fL x t], p.2) else if x.2 = t then (p.1 ++ [p.2], 0) else (p.1 ++ [0], p.2)
def flR (L : List Ln) (t r : Rat) : List Rat × Rat := L.foldl (flF t) ([], r)
theorem flF_eq {L : List Ln} {fs : List Rat} {r : Rat} : (L.foldl (flF t) (fs, r)).1 = fs ++ flQ L t r := by
  induction L generalizing fs r with
  | nil => simp [flQ]
  | cons x L ih =>
    rw [List.foldl_cons]
    by_cases c : 0 < x.1
    · rw [show flF t (fs, r) x = (fs ++ [fL x t], r) by simp [flF, c], ih]
      simp [flQ, c]
    · by_cases c2 : x.2 = t
      · rw [show flF t (fs, r) x = (fs ++ [r], 0) by simp [flF, c, c2], ih]
        simp [flQ, c, c2]
      · rw [show flF t (fs, r) x = (fs ++ [0], r) by simp [flF, c, c2], ih]
        simp [flQ, c, c2]
theorem flR_eq {L : List Ln} {r : Rat} : (flR L t r).1 = flQ L t r := flF_eq
theorem flR_snoc {L : List Ln} {x : Ln} {r : Rat} : flR (L ++ [x]) t r = flF t (flR L t r) x := by simp [flR]
theorem fl_len {L : List Ln} {r : Rat} : (flQ L t r).length = L.length := by
  induction L generalizing r with
  | nil => rfl
  | cons x L ih =>
    simp only [flQ]
    split
    · simp [ih]
    · split <;> simp [ih]
theorem fl_rb {r : Rat} {Br : Nat} (h1 : ∀ x ∈ L, 0 ≤ x.1 ∧ x.1.natAbs < 2 ^ S) (h2 : ∀ x ∈ L, RB x.2 Bb) (ht : RB t Bt) (hS : 0 < S) (hr : RB r Br) : ∀ q ∈ flQ L t r, RB q (Bt + Bb + 1 + S + Br) := by
  induction L generalizing r with
  | nil => intro q hq; cases hq
  | cons x L ih =>
    have i1 := fun r (hr : RB r Br) => ih (r := r) (fun y hy => h1 y (by simp [hy])) (fun y hy => h2 y (by simp [hy])) hr
    have z : 0 < Br := by
      rcases Nat.eq_zero_or_pos Br with z | z
      · have := hr.den
        have := r.den_pos
        subst z
        simp at this
        omega
      · exact z
    intro q hq
    simp only [flQ] at hq
    split at hq
    · rcases List.mem_cons.mp hq with rfl | hq
      · exact (fL_rb (h1 x (by simp)) (h2 x (by simp)) ht hS).mono (by omega)
      · exact i1 _ hr q hq
    · split at hq
      · rcases List.mem_cons.mp hq with rfl | hq
        · exact hr.mono (by omega)
        · exact i1 0 (rb_zero z) q hq
      · rcases List.mem_cons.mp hq with rfl | hq
        · exact rb_zero (by omega)
        · exact i1 _ hr q hq
theorem flows_run (h : LOk L n S Bb) (hl : L.length < 1000) (ht : RB t Bt) (hd : RB d Bd) (hS : 0 < S) (hB : (L.length + 1) * (Bt + Bb + S + 2) + Bd + 10 < 300000) (hm : Bt + Bb + S + 2 < 4000) (hm2 : Bd < 4000)
    (hk : k (.list ((flQ L t (d - tkQ L t)).map rD))) : (f_flows_at [.d (.list (L.map lnD)), .d (rD d), .d (rD t)]).run k w := by
  have hB1 := Nat.add_mul L.length 1 (Bt + Bb + S + 2)
  have rbk := tk_rb (t := t) h ht hS
  simp [f_flows_at, b_flows_at, dStart, arSl, sParOD]
  refine taken_at_run h ht hS (by omega) (by omega) fun _ => ?_
  refine minus_runG' hd rbk (by omega) (by omega) fun hm => ?_
  refine loop_pre (fun pre δ => ∃ s5 s6, δ = [Sl.p (PyData.list (List.map lnD L)), Sl.p (rD d), Sl.p (rD t), .o ((flR pre t (d - tkQ L t)).1.map rD), .p (rD (flR pre t (d - tkQ L t)).2), s5, s6]) ⟨_, _, rfl⟩ ?_ ?_
  · rintro pre x post δ e ⟨s5, s6, rfl⟩
    obtain ⟨h1, h2, h3⟩ := h.pre e
    have lp : (flR pre t (d - tkQ L t)).1.length = pre.length := by rw [flR_eq, fl_len]
    have hlp : (flR pre t (d - tkQ L t)).1.length < sizeLine := by rw [lp]; show _ < 16777216; omega
    rw [flR_snoc]
    generalize flR pre t (d - tkQ L t) = fr at hlp
    refine ⟨_, rfl, ?_⟩
    by_cases c : 0 < x.1
    · simp [c]
      refine less_run' (h.bs x h3) ht (by omega) ?_
      by_cases c2 : x.2 < t
      · simp [c2]
        refine minus_run' ht (h.bs x h3) (by omega) fun m => ⟨two_le_line, ?_⟩
        rw [rD_int]
        refine over_run' (rat_pos_int c) m (rb_int (h.sl x h3).2 hS) (by omega) fun o => ?_
        simp [hlp, flF, c, c2, fL]
      · simp [c2]
        refine ⟨two_le_line, ?_⟩
        simp [hlp, flF, c, c2, fL]
        exact sq0_d
    · simp [c, eqv_rD]
      by_cases c2 : x.2 = t
      · simp [c2]
        simp [hlp, flF, c, c2, fL]
        exact ⟨two_le_line, sq0_d⟩
      · simp [c2]
        simp [hlp, flF, c, c2, fL]
        exact ⟨two_le_line, sq0_d⟩
  · rintro δ ⟨s5, s6, rfl⟩
    simp
    rw [flR_eq]
    exact hk
theorem fl_sharp {B : Nat} (h : LOk L n S Bb) (ht : RB t Bt) (hd : RB d Bd) (hS : 0 < S) (he : tkQ L t = d ∨ RB t Bb) (h1 : Bt + Bb + 1 + S + 1 ≤ B) (h2 : Bb + Bb + 1 + S + (Bd + (L.length * (Bb + Bb + S + 2) + 1) + 1) ≤ B) : ∀ q ∈ flQ L t (d - tkQ L t), RB q B := by
  intro q hq
  rcases he with e | e
  · rw [e, show d - d = 0 by grind] at hq
    exact (fl_rb h.sl h.bs ht hS (rb_zero (by omega : 0 < 1)) q hq).mono h1
  · exact (fl_rb h.sl h.bs e hS (hd.sub' (tk_rb h e hS)) q hq).mono h2
/-- the time and the flows at rest -/
theorem lrest_run (hI : Ins I) (h : Dm d) (hk : ∀ t, Lev (I.map toL) d t → RB t 390 → (∀ q ∈ flQ (I.map toL) t (d - tkQ (I.map toL) t), RB q 420) → (I.length ≤ 5 → ∀ q ∈ flQ (I.map toL) t (d - tkQ (I.map toL) t), RB q 250) → k (.tuple [rD t, .tuple ((flQ (I.map toL) t (d - tkQ (I.map toL) t)).map rD)])) : (f_lane_rest [.d (.tuple (I.map lnI)), .d (rD d)]).run k w := by
  have l2 := hI.l2
  have lm : (I.map toL).length ≤ 8 := by simp [l2]
  have b1 : ((I.map toL).length + 1) * (10 + 10 + 7 + 2) ≤ 9 * (10 + 10 + 7 + 2) := Nat.mul_le_mul_right _ (by omega)
  have b2 : ((I.map toL).length + 1) * (7 + 3) ≤ 9 * (7 + 3) := Nat.mul_le_mul_right _ (by omega)
  have b3 : ((I.map toL).length) * (10 + 10 + 7 + 2) ≤ 8 * (10 + 10 + 7 + 2) := Nat.mul_le_mul_right _ (by omega)
  have b4 : ((I.map toL).length) * (7 + 2) ≤ 8 * (7 + 2) := Nat.mul_le_mul_right _ (by omega)
  have b5 : ((I.map toL).length + 1) * (390 + 10 + 7 + 2) ≤ 9 * (390 + 10 + 7 + 2) := Nat.mul_le_mul_right _ (by omega)
  simp [f_lane_rest, b_lane_rest, dStart, arSl]
  refine needl_run hI h ?_
  refine with_run (by omega) ?_
  refine level_run hI.ok hI.ne hI.sg (by omega) h.rb h.pos (by omega) (by omega) fun t ht hrb he => ?_
  have hrb' : RB t 390 := hrb.mono (by omega)
  refine flows_run hI.ok (by omega) hrb' h.rb (by omega) (by omega) (by omega) (by omega) ?_
  simp
  refine ⟨two_le_line, hk t ht hrb' (fl_sharp (n := I.length) (S := 7) (Bb := 10) hI.ok hrb' h.rb (by omega) he (by omega) (by omega)) fun h5 => ?_⟩
  have c3 : ((I.map toL).length) * (10 + 10 + 7 + 2) ≤ 5 * (10 + 10 + 7 + 2) := Nat.mul_le_mul_right _ (by simpa using h5)
  have c4 : ((I.map toL).length) * (7 + 2) ≤ 5 * (7 + 2) := Nat.mul_le_mul_right _ (by simpa using h5)
  exact fl_sharp (n := I.length) (S := 7) (Bb := 10) hI.ok (hrb.mono (show _ ≤ 230 by omega)) h.rb (by omega) he (by omega) (by omega)
def cD (c : Rat × Rat) : D := .tuple [rD c.1, rD c.2]
end
/-! source for mkx.py: lanes drawn; not built by itself -/
section
variable {k : D → Prop} {w : Exn → Prop} {C : Cs} {r : Addr} {φ : Heap → Prop}
theorem rat_self (q : Rat) : PyData.tuple [.int q.num, .int (q.den : Int)] = rD q := rfl
theorem dm_mk {a b : Int} (a1 : 1 ≤ a) (a2 : a ≤ 1000) (b1 : 1 ≤ b) (b2 : b ≤ 100) : Dm ((a : Rat) / (b : Rat)) := by
  have hb : 0 < b := by omega
  obtain ⟨e1, e2⟩ := ratio_nd (t := a) hb
  have g := gcd_pos' (t := a) hb
  have l1 := Int.ediv_le_self (b := ((Nat.gcd a.natAbs b.natAbs : Nat) : Int)) (show 0 ≤ a by omega)
  have l2 := Int.ediv_le_self (b := ((Nat.gcd a.natAbs b.natAbs : Nat) : Int)) (show 0 ≤ b by omega)
  have p : 0 < ((a : Rat) / (b : Rat)).num := num_pos.mpr (qdiv_pos (by exact_mod_cast a1) hb)
  exact ⟨by omega, by omega, by omega⟩
theorem dm_raw {a b : Int} (hb : 0 < b) (hg : Nat.gcd a.natAbs b.natAbs = 1) : PyData.tuple [.int a, .int b] = rD ((a : Rat) / (b : Rat)) := by
  obtain ⟨e1, e2⟩ := ratio_nd (t := a) hb
  rw [rD, e1, e2, hg]
  simp
theorem ldemand_run (hr : RO C r φ) (hk : ∀ d, Dm d → k (rD d)) : (f_law_demand C [.t r φ]).run k w := by
  simp [f_law_demand, b_law_demand, dStart, arSl]
  refine ⟨two_le_line, taken_run hr (by omega) (by omega) fun a a0 a1 => taken_run hr (by omega) (by omega) fun b b0 b1 => ?_⟩
  refine lratio_run (B := 8) (by omega) (by show _ < 256; omega) (by show _ < 256; omega) (by omega) fun _ => ⟨by decide, pick_run hr (by simp) (by simp) fun d hd => ?_⟩
  have R : ∀ a b : Int, 1 ≤ a → a ≤ 1000 → 1 ≤ b → b ≤ 100 → Nat.gcd a.natAbs b.natAbs = 1 → k (.tuple [.int a, .int b]) := fun a b a1 a2 b1 b2 g => by
    rw [dm_raw (by omega) g]
    exact hk _ (dm_mk a1 a2 b1 b2)
  simp at hd
  rcases hd with rfl | rfl | rfl | rfl | rfl | rfl
  · exact R 1 1 (by omega) (by omega) (by omega) (by omega) (by decide)
  · exact R 1 2 (by omega) (by omega) (by omega) (by omega) (by decide)
  · exact R 10 1 (by omega) (by omega) (by omega) (by omega) (by decide)
  · exact R 7 3 (by omega) (by omega) (by omega) (by omega) (by decide)
  · exact R 1000 1 (by omega) (by omega) (by omega) (by omega) (by decide)
  · have := hk _ (dm_mk (a := 1 + a) (b := 1 + b) (by omega) (by omega) (by omega) (by omega))
    simpa using this
/-- drawn lanes: slopes of a short list -/
structure Lw (I : List (Int × Int)) : Prop where
  l1 : 1 ≤ I.length
  l2 : I.length ≤ 5
  sl : ∀ x ∈ I, x.1 = 0 ∨ x.1 = 1 ∨ x.1 = 2 ∨ x.1 = 5 ∨ x.1 = 100
  bs : ∀ x ∈ I, 0 ≤ x.2 ∧ x.2 ≤ 1000
theorem Lw.ins {I : List (Int × Int)} (h : Lw I) : Ins I := ⟨h.l1, by have := h.l2; omega, fun x hx => by have := h.sl x hx; omega, h.bs⟩
theorem llanes_run (hr : RO C r φ) (hk : ∀ I, Lw I → k (.tuple (I.map lnI))) : (f_law_lanes C [.t r φ]).run k w := by
  simp [f_law_lanes, b_law_lanes, dStart, arSl]
  refine taken_run hr (by omega) (by omega) fun n n0 n1 => ⟨lo62_le (by omega) (by omega), by have := lt_line (n := 10) (by omega); omega, ?_⟩
  refine lc_ex (P := fun d => ∃ x : Int × Int, ((x.1 = 0 ∨ x.1 = 1 ∨ x.1 = 2 ∨ x.1 = 5 ∨ x.1 = 100) ∧ 0 ≤ x.2 ∧ x.2 ≤ 1000) ∧ d = lnI x) (fun x hx => ⟨_, rfl, fun kb hkb => ?_, fun kd hkd => ?_⟩) fun ds hl hp => ?_
  · simpa using hkb
  · simp
    refine ⟨by decide, pick_run hr (by simp) (by simp) fun d hd => ?_⟩
    obtain ⟨s, rfl, hs⟩ : ∃ s : Int, d = .int s ∧ (s = 0 ∨ s = 1 ∨ s = 2 ∨ s = 5 ∨ s = 100) := by
      simp at hd
      rcases hd with rfl | rfl | rfl | rfl | rfl <;> exact ⟨_, rfl, by omega⟩
    refine taken_run hr (by omega) (by omega) fun a a0 a1 => ⟨by decide, pick_run hr (by simp) (by simp) fun d hd => ?_⟩
    obtain ⟨b, rfl, hb⟩ : ∃ b : Int, d = .int b ∧ 0 ≤ b ∧ b ≤ 1000 := by
      simp at hd
      rcases hd with rfl | rfl | rfl | rfl | rfl <;> exact ⟨_, rfl, by omega⟩
    exact ⟨two_le_line, hkd _ ⟨(s, b), ⟨hs, hb⟩, rfl⟩⟩
  · obtain ⟨I, rfl, hI⟩ := pic hp
    simp at hl
    exact hk I ⟨by omega, by omega, fun x hx => (hI x hx).1, fun x hx => (hI x hx).2⟩
end
/-! source for mkx.py: leaders and rests judged; not built by itself -/
section
variable {k : D → Prop} {w : Exn → Prop} {L : List Ln} {I : List (Int × Int)} {t d : Rat} {n S Bb Bt Bd B : Nat}
@[simp] theorem rw_setIx {i : Nat} {fi f : DF} {δ : De} : sSetIx i fi f δ = (f δ).bind fun d => (slotO δ[i]?).bind fun ds => (fi δ).bind fun k => (asI1 k).bind fun k => (optW (ixN ds.length k)).bind fun j => .pure (.nx (δ.set i (.o (ds.set j d)))) := rfl
theorem ixN_nat {n i : Nat} (h : i < n) : ixN n (i : Int) = some i := by
  unfold ixN
  rw [if_pos (by omega), if_pos (by omega)]
  rfl
theorem get_map {α : Type} {g : α → D} {xs : List α} {i : Nat} {x : α} (h : xs[i]? = some x) : atI (xs.map g) (i : Int) = some (g x) := by rw [atI_nat, List.getElem?_map, h]; rfl
/-- a lane's time -/
def tmQ (x : Int × Int) (f : Rat) : Rat := (x.1 : Rat) * f + (x.2 : Rat)
theorem tm_rb {x : Int × Int} {f : Rat} (h1 : 0 ≤ x.1 ∧ x.1 ≤ 100) (h2 : 0 ≤ x.2 ∧ x.2 ≤ 1000) (hf : RB f B) : RB (tmQ x f) (7 + B + 10 + 1) :=
  RB.add' (RB.mul' (rb_int (nb7 h1.1 h1.2) (by omega)) hf) (rb_int (nb10 h2.1 h2.2) (by omega))
theorem ltm_run {x : Int × Int} {f : Rat} (h1 : 0 ≤ x.1 ∧ x.1 ≤ 100) (h2 : 0 ≤ x.2 ∧ x.2 ≤ 1000) (hf : RB f B) (hB : B < 3000) (hk : RB (tmQ x f) (7 + B + 10 + 1) → k (rD (tmQ x f))) : (f_lane_time [.d (lnI x), .d (rD f)]).run k w := by
  simp [f_lane_time, b_lane_time, dStart, arSl, lnI]
  simp only [rD_int]
  refine ⟨two_le_line, by_run' (rb_int (nb7 h1.1 h1.2) (by omega)) hf (by omega) fun g => ⟨two_le_line, ?_⟩⟩
  exact plus_run' g (rb_int (nb10 h2.1 h2.2) (by omega)) (by omega) fun g => hk g
def wtQ (p : (Int × Int) × Rat) : Rat := p.2 * tmQ p.1 p.2
theorem wt_sum {I : List (Int × Int)} {fs : List Rat} : sumQ ((I.zip fs).map wtQ) = whQ (I.map toL) fs := by
  induction I generalizing fs with
  | nil => rfl
  | cons x I ih => cases fs with
    | nil => rfl
    | cons f fs =>
      simp only [List.zip_cons_cons, List.map_cons, sumQ, whQ, ih]
      rfl
theorem zip_mem {I : List (Int × Int)} {fs : List Rat} {p : (Int × Int) × Rat} (h : p ∈ I.zip fs) : p.1 ∈ I ∧ p.2 ∈ fs := ⟨(List.of_mem_zip h).1, (List.of_mem_zip h).2⟩
theorem wt_rb (hI : Ins I) {fs : List Rat} (hf : ∀ q ∈ fs, RB q B) : ∀ q ∈ (I.zip fs).map wtQ, RB q (B + (7 + B + 10 + 1)) := by
  intro q hq
  obtain ⟨p, hp, rfl⟩ := List.mem_map.mp hq
  obtain ⟨h1, h2⟩ := zip_mem hp
  exact RB.mul' (hf _ h2) (tm_rb (hI.sl _ h1) (hI.bs _ h1) (hf _ h2))
theorem total_run (hI : Ins I) {fs : List Rat} (hl : fs.length = I.length) (hf : ∀ q ∈ fs, RB q B) (hB : (I.length + 1) * (B + (7 + B + 10 + 1) + 1) + 1 < 300000) (hm : B < 1900) (hk : RB (whQ (I.map toL) fs) (I.length * (B + (7 + B + 10 + 1) + 1) + 1) → k (rD (whQ (I.map toL) fs))) : (f_total_of [.d (.tuple (I.map lnI)), .d (.list (fs.map rD))]).run k w := by
  have l2 := hI.l2
  have hz : (I.zip fs).length = I.length := by simp [hl]
  simp [f_total_of, b_total_of, dStart, arSl]
  rw [zipD_map]
  refine ⟨by simp [hl]; exact lt_line (by omega), lc_run (p := fun _ => true) (h := fun p => rD (wtQ p)) (fun y hy => ⟨_, rfl, fun kb hkb => ?_, fun _ kd hkd => ?_⟩) ?_⟩
  · simpa using hkb
  · obtain ⟨m1, m2⟩ := zip_mem hy
    simp
    refine ltm_run (hI.sl _ m1) (hI.bs _ m1) (hf _ m2) (by omega) fun g => ?_
    refine by_run' (hf _ m2) g (by omega) fun _ => ?_
    exact hkd
  · rw [List.filter_eq_self.mpr (by simp), show ((I.zip fs).map fun p => rD (wtQ p)) = ((I.zip fs).map wtQ).map rD by simp [Function.comp_def]]
    refine sum_run (wt_rb hI hf) (by simp only [List.length_map, hz]; exact hB) (by omega) fun g => ?_
    rw [wt_sum] at g ⊢
    refine hk (g.mono ?_)
    simp only [List.length_map, hz]
    omega
theorem total_runT {tp : List D → D} (hI : Ins I) (htp : tp = PyData.tuple ∨ tp = PyData.list) {fs : List Rat} (hl : fs.length = I.length) (hf : ∀ q ∈ fs, RB q B) (hB : (I.length + 1) * (B + (7 + B + 10 + 1) + 1) + 1 < 300000) (hm : B < 1900) (hk : RB (whQ (I.map toL) fs) (I.length * (B + (7 + B + 10 + 1) + 1) + 1) → k (rD (whQ (I.map toL) fs))) : (f_total_of [.d (.tuple (I.map lnI)), .d (tp (fs.map rD))]).run k w := by
  have l2 := hI.l2
  have hz : (I.zip fs).length = I.length := by simp [hl]
  have hsq : seqD (tp (fs.map rD)) = .pure (fs.map rD) := by rcases htp with rfl | rfl <;> rfl
  simp [f_total_of, b_total_of, dStart, arSl, hsq]
  rw [zipD_map]
  refine ⟨by simp [hl]; exact lt_line (by omega), lc_run (p := fun _ => true) (h := fun p => rD (wtQ p)) (fun y hy => ⟨_, rfl, fun kb hkb => ?_, fun _ kd hkd => ?_⟩) ?_⟩
  · simpa using hkb
  · obtain ⟨m1, m2⟩ := zip_mem hy
    simp
    refine ltm_run (hI.sl _ m1) (hI.bs _ m1) (hf _ m2) (by omega) fun g => ?_
    refine by_run' (hf _ m2) g (by omega) fun _ => ?_
    exact hkd
  · rw [List.filter_eq_self.mpr (by simp), show ((I.zip fs).map fun p => rD (wtQ p)) = ((I.zip fs).map wtQ).map rD by simp [Function.comp_def]]
    refine sum_run (wt_rb hI hf) (by simp only [List.length_map, hz]; exact hB) (by omega) fun g => ?_
    rw [wt_sum] at g ⊢
    refine hk (g.mono ?_)
    simp only [List.length_map, hz]
    omega
/-- lanes with slopes twice as great -/
theorem steep_run (hI : Ins I) (hk : k (.list ((steepQ (I.map toL)).map lnD))) : (f_steep [.d (.tuple (I.map lnI))]).run k w := by
  have l2 := hI.l2
  simp [f_steep, b_steep, dStart, arSl]
  refine with_run (by omega) ?_
  simp only [run_pure, rw_seqL, run_need, run_bind, rw_dNl, rw_nLc]
  refine ⟨lt_line (by simp; omega), lc_run (p := fun _ => true) (h := fun x : Ln => lnD (2 * x.1, x.2)) (fun y hy => ⟨_, rfl, fun kb hkb => ?_, fun _ kd hkd => ?_⟩) ?_⟩
  · simpa using hkb
  · obtain ⟨z, hz, rfl⟩ := List.mem_map.mp hy
    have := hI.sl z hz
    simp [toL]
    exact ⟨cmul (a := 2) (b := 7) (by decide) (nb7 this.1 this.2) (by omega), two_le_line, hkd⟩
  · rw [List.filter_eq_self.mpr (by simp)]
    simpa [steepQ, Function.comp_def] using hk
theorem Ins.sok (hI : Ins I) : LOk (steepQ (I.map toL)) I.length 8 10 := ⟨by simp [steepQ], fun x hx => by
  obtain ⟨y, hy, rfl⟩ := List.mem_map.mp hx
  obtain ⟨z, hz, rfl⟩ := List.mem_map.mp hy
  have := hI.sl z hz
  show 0 ≤ 2 * z.1 ∧ (2 * z.1).natAbs < 256
  omega, fun x hx => by
  obtain ⟨y, hy, rfl⟩ := List.mem_map.mp hx
  obtain ⟨z, hz, rfl⟩ := List.mem_map.mp hy
  have := hI.bs z hz
  exact rb_int (nb10 this.1 this.2) (by omega)⟩
theorem Ins.ssg (hI : Ins I) : ∀ x ∈ steepQ (I.map toL), x.1 = 0 ∨ 0 < x.1 := fun x hx => by
  obtain ⟨y, hy, rfl⟩ := List.mem_map.mp hx
  have := hI.sg y hy
  show 2 * y.1 = 0 ∨ 0 < 2 * y.1
  omega
theorem Ins.lok (hI : Ins I) : Lok (I.map toL) := fun x hx => by
  obtain ⟨z, hz, rfl⟩ := List.mem_map.mp hx
  exact ⟨(hI.sl z hz).1, scast (hI.bs z hz).1⟩
/-- the best flows -/
structure BestQ (I : List (Int × Int)) (d : Rat) (y : List Rat) : Prop where
  rest : ∃ l, RestQ (steepQ (I.map toL)) y l
  sum : sumQ y = d
  rb : ∀ q ∈ y, RB q 250
  ex : ∃ l, Lev (steepQ (I.map toL)) d l ∧ y = flQ (steepQ (I.map toL)) l (d - tkQ (steepQ (I.map toL)) l)
theorem BestQ.len {y : List Rat} (h : BestQ I d y) : y.length = I.length := by
  obtain ⟨l, hl⟩ := h.rest
  rw [hl.len]
  simp [steepQ]
theorem BestQ.pos {y : List Rat} (h : BestQ I d y) : Pos0 y := by
  obtain ⟨l, hl⟩ := h.rest
  exact hl.pos
theorem best_run (hI : Ins I) (h5 : I.length ≤ 5) (h : Dm d) (hk : ∀ y, BestQ I d y → k (.list (y.map rD))) : (f_best_flows [.d (.tuple (I.map lnI)), .d (rD d)]).run k w := by
  have lm : (steepQ (I.map toL)).length ≤ 5 := by simp [steepQ, h5]
  have lm1 : 1 ≤ (steepQ (I.map toL)).length := by have := hI.l1; simp [steepQ]; omega
  have b1 : ((steepQ (I.map toL)).length + 1) * (10 + 10 + 8 + 2) ≤ 6 * (10 + 10 + 8 + 2) := Nat.mul_le_mul_right _ (by omega)
  have b2 : ((steepQ (I.map toL)).length + 1) * (8 + 3) ≤ 6 * (8 + 3) := Nat.mul_le_mul_right _ (by omega)
  have b3 : ((steepQ (I.map toL)).length) * (10 + 10 + 8 + 2) ≤ 5 * (10 + 10 + 8 + 2) := Nat.mul_le_mul_right _ (by omega)
  have b4 : ((steepQ (I.map toL)).length) * (8 + 2) ≤ 5 * (8 + 2) := Nat.mul_le_mul_right _ (by omega)
  have b5 : ((steepQ (I.map toL)).length + 1) * (230 + 10 + 8 + 2) ≤ 6 * (230 + 10 + 8 + 2) := Nat.mul_le_mul_right _ (by omega)
  have hne : steepQ (I.map toL) ≠ [] := fun z => by rw [z] at lm1; simp at lm1
  simp [f_best_flows, b_best_flows, dStart, arSl]
  refine steep_run hI ?_
  refine level_run hI.sok hne hI.ssg (by omega) h.rb h.pos (by omega) (by omega) fun t ht hrb he => ?_
  have hrb' : RB t 230 := hrb.mono (by omega)
  refine flows_run hI.sok (by omega) hrb' h.rb (by omega) (by omega) (by omega) (by omega) ?_
  have h0 : ∀ x ∈ steepQ (I.map toL), 0 ≤ x.1 := fun x hx => by rcases hI.ssg x hx with z | z <;> omega
  exact hk _ ⟨⟨t, (ht.flows h0).1⟩, (ht.flows h0).2, fl_sharp (n := I.length) (S := 8) (Bb := 10) hI.sok hrb' h.rb (by omega) he (by omega) (by omega), ⟨t, ht, rfl⟩⟩
/-! the leader with a share of 1 -/
def natD (i : Nat) : D := .int (i : Int)
theorem falling_run (hI : Ins I) {y : List Rat} (hl : y.length = I.length) (hy : ∀ q ∈ y, RB q B) (hB : B < 1000) (hk : ∀ p : List Nat, List.Perm p (List.range I.length) → k (.list (p.map natD))) : (f_falling [.d (.tuple (I.map lnI)), .d (.list (y.map rD))]).run k w := by
  have l2 := hI.l2
  simp [f_falling, b_falling, dStart, arSl]
  refine loop_inv (fun i δ => ∃ (p : List Nat) (s3 s4 s5 s6 s7 : Sl), List.Perm p (List.range i) ∧ δ = [.p (.tuple (I.map lnI)), .p (.list (y.map rD)), .p (.list (p.map natD)), s3, s4, s5, s6, s7]) ⟨[], _, _, _, _, _, .refl _, rfl⟩ ?_ ?_
  · rintro i δ e he ⟨p, s3, s4, s5, s6, s7, hp, rfl⟩
    obtain ⟨x, hx, rfl⟩ := enD_get' he
    rw [List.getElem?_map] at hx
    obtain ⟨z, hz, rfl⟩ : ∃ z, I[i]? = some z ∧ x = lnI z := by
      cases hh : I[i]? <;> rw [hh] at hx <;> cases hx
      exact ⟨_, rfl, rfl⟩
    have hi : i < I.length := (List.getElem?_eq_some_iff.mp hz).1
    have hzm := List.mem_of_getElem? hz
    obtain ⟨f, hf⟩ : ∃ f, y[i]? = some f := ⟨_, List.getElem?_eq_getElem (by omega)⟩
    have hfm := List.mem_of_getElem? hf
    have pl : p.length = i := by have := hp.length_eq; simpa using this
    refine ⟨_, rfl, ?_⟩
    simp [get_map hf]
    refine ltm_run (hI.sl _ hzm) (hI.bs _ hzm) (hy _ hfm) (by omega) fun g => ⟨lt_line (by omega), ?_⟩
    have tms : ∀ j : Nat, ∃ u : Rat, j < I.length → ∃ v q, I[j]? = some v ∧ y[j]? = some q ∧ u = tmQ v q := fun j => by
      by_cases hj : j < I.length
      · exact ⟨tmQ I[j] (y[j]'(by omega)), fun _ => ⟨_, _, List.getElem?_eq_getElem hj, List.getElem?_eq_getElem (by omega), rfl⟩⟩
      · exact ⟨0, fun z => absurd z hj⟩
    obtain ⟨tm, htm⟩ : ∃ tm : Nat → Rat, ∀ j, j < I.length → ∃ v q, I[j]? = some v ∧ y[j]? = some q ∧ tm j = tmQ v q := ⟨fun j => Classical.choose (tms j), fun j => Classical.choose_spec (tms j)⟩
    refine lc_run (p := fun j => decide (tmQ z f < tm j)) (h := natD) (fun j hj => ⟨_, rfl, fun kb hkb => ?_, fun _ kd hkd => ?_⟩) ?_
    · have hj' : j < i := List.mem_range.mp (hp.mem_iff.mp hj)
      obtain ⟨v, q, hv, hq, etm⟩ := htm j (by omega)
      simp [natD, get_map hv, get_map hq]
      refine ltm_run (hI.sl _ (List.mem_of_getElem? hv)) (hI.bs _ (List.mem_of_getElem? hv)) (hy _ (List.mem_of_getElem? hq)) (by omega) fun g2 => ?_
      refine less_run' g g2 (by omega) ?_
      rw [← etm]
      simpa using hkb
    · simpa using hkd
    generalize (p.filter fun j => decide (tmQ z f < tm j)) = fl
    simp only [List.length_map]
    rw [cut_take, cut_drop, allD_map, rw_allD1, allD_only]
    simp
    refine ⟨lt_line (by omega), p.take fl.length ++ i :: p.drop fl.length, ?_, by simp [natD]⟩
    refine List.perm_middle.trans ?_
    rw [List.take_append_drop, List.range_succ]
    exact (List.perm_append_singleton i p).symm.trans (hp.append_right [i])
  · rintro δ ⟨p, s3, s4, s5, s6, s7, hp, rfl⟩
    simp
    rw [enD_len, List.length_map] at hp
    exact hk p hp
def sumI (y : List Rat) (js : List Nat) : Rat := sumQ (js.map fun j => y.getD j 0)
theorem sum_perm {a b : List Rat} (h : List.Perm a b) : sumQ a = sumQ b := by
  induction h with
  | nil => rfl
  | cons x _ ih => simp only [sumQ, ih]
  | swap x y l => simp only [sumQ]; grind
  | trans _ _ i1 i2 => rw [i1, i2]
theorem sumI_all {y : List Rat} {p : List Nat} (hp : List.Perm p (List.range y.length)) : sumI y p = sumQ y := by
  unfold sumI
  rw [sum_perm (hp.map fun j => y.getD j 0)]
  congr 1
  apply List.ext_getElem?
  intro i
  rw [List.getElem?_map]
  by_cases h : i < y.length
  · rw [List.getElem?_range h, List.getElem?_eq_getElem h]
    simp [h]
  · rw [List.getElem?_eq_none (by simpa using h), List.getElem?_eq_none (by simpa using h)]
    rfl
theorem sumI_nonneg {y : List Rat} (hy : Pos0 y) (js : List Nat) : 0 ≤ sumI y js := by
  induction js with
  | nil => exact Rat.le_refl
  | cons j js ih =>
    have e : sumI y (j :: js) = y.getD j 0 + sumI y js := rfl
    have : 0 ≤ y.getD j 0 := by
      rw [List.getD_eq_getElem?_getD]
      cases h : y[j]? with
      | none => exact Rat.le_refl
      | some q => exact hy q (List.mem_of_getElem? h)
    rw [e]
    grind
theorem sumI_rb {y : List Rat} (hy : ∀ q ∈ y, RB q B) (h0 : 0 < B) (js : List Nat) : RB (sumI y js) (js.length * (B + 1) + 1) := by
  have := sum_rb (s := js.map fun j => y.getD j 0) (B := B) (fun q hq => by
    obtain ⟨j, _, rfl⟩ := List.mem_map.mp hq
    rw [List.getD_eq_getElem?_getD]
    cases h : y[j]? with
    | none => exact rb_zero h0
    | some q => exact hy q (List.mem_of_getElem? h))
  simpa [sumI] using this
theorem led_run (hI : Ins I) {y : List Rat} (hl : y.length = I.length) (hp : Pos0 y) (hy : ∀ q ∈ y, RB q B) (h0 : 0 < B) (hB : B < 400) (hk : k (.list (y.map rD))) : (f_led_of [.d (.tuple (I.map lnI)), .d (.list (y.map rD)), .d (rD (sumQ y))]).run k w := by
  have l2 := hI.l2
  simp [f_led_of, b_led_of, dStart, arSl, sParOD]
  refine ⟨lt_line (by omega), lc_run (p := fun _ => true) (h := fun _ => rD 0) (fun y hy => ⟨_, rfl, fun kb hkb => ?_, fun _ kd hkd => ?_⟩) ?_⟩
  · simpa using hkb
  · simp
    exact ⟨two_le_line, hkd⟩
  rw [List.filter_eq_self.mpr (by simp)]
  refine falling_run hI hl hy (by omega) fun p hp' => ?_
  have pl : p.length = I.length := by have := hp'.length_eq; simpa using this
  simp only [run_pure, rw_seqL]
  refine loop_pre (fun pre δ => ∃ (g : List Rat) (s5 s6 : Sl), g.length = I.length ∧ (∀ j ∈ pre, g[j]? = y[j]?) ∧ δ = [.p (.tuple (I.map lnI)), .p (.list (y.map rD)), .p (rD (sumQ y)), .o (g.map rD), .p (rD (sumI y (p.drop pre.length))), s5, s6]) ?_ ?_ ?_
  · refine ⟨I.map fun _ => 0, .non, .non, by simp, fun j hj => (by cases hj), ?_⟩
    rw [List.length_nil, List.drop_zero, sumI_all (hl ▸ hp')]
    simp
  · rintro pre j post δ e ⟨g, s5, s6, hg, hgy, rfl⟩
    have hj : j < I.length := List.mem_range.mp (hp'.mem_iff.mp (by rw [e]; simp))
    obtain ⟨q, hq⟩ : ∃ q, y[j]? = some q := ⟨_, List.getElem?_eq_getElem (by omega)⟩
    have hqm := List.mem_of_getElem? hq
    have ed : p.drop pre.length = j :: post := by rw [e]; simp
    have ed2 : p.drop (pre ++ [j]).length = post := by rw [e]; simp
    have es : sumI y (j :: post) = q + sumI y post := by
      show y.getD j 0 + sumI y post = _
      rw [List.getD_eq_getElem?_getD, hq]
      rfl
    have sp := sumI_nonneg hp post
    have lpost : (j :: post).length ≤ 8 := by have := congrArg List.length e; simp at this; simp; omega
    have rbS := sumI_rb hy h0 (j :: post)
    have mm : (j :: post).length * (B + 1) ≤ 8 * (B + 1) := Nat.mul_le_mul_right _ lpost
    rw [ed]
    refine ⟨_, rfl, ?_⟩
    simp only [rw_seq, rw_setIx, rw_dIf, rw_tT, rw_call, rw_aCons, rw_aNil, rw_dV, rw_d2, List.getElem?_cons_succ, List.getElem?_cons_zero, slotP_p, slotO_o, pure_bind, List.set_cons_succ, List.set_cons_zero, List.length_cons, List.length_nil, Nat.zero_add, Nat.reduceAdd, run_bind, run_need, true_and, natD, rw_ixL, get_map hq, optW_some]
    refine less_run' (rbS.mono (Nat.le_refl _)) (hy _ hqm) (by omega) ?_
    rw [decide_eq_false (by rw [es]; grind)]
    simp [get_map hq, ixN_nat (show j < g.length by omega)]
    have eg : atI (List.map rD (g.set j q)) (j : Int) = some (rD q) := get_map (by rw [List.getElem?_set_self (by omega)])
    rw [← List.map_set, eg]
    simp
    refine minus_run' rbS (hy _ hqm) (by omega) fun _ => ?_
    have e3 : sumI y (j :: post) - q = sumI y post := by rw [es]; grind
    rw [e3]
    refine ⟨g.set j q, by simpa using hg, fun i hi => ?_, by rw [List.map_set], by rw [show pre.length + 1 = (pre ++ [j]).length by simp, ed2]⟩
    by_cases c : i = j
    · subst c
      rw [List.getElem?_set_self (by omega), hq]
    · rw [List.getElem?_set_ne (Ne.symm c)]
      rcases hi with hi | hi
      · exact hgy i hi
      · exact absurd hi c
  · rintro δ ⟨g, s5, s6, hg, hgy, rfl⟩
    simp
    have : g = y := by
      apply List.ext_getElem?
      intro i
      by_cases h : i < I.length
      · exact hgy i (hp'.mem_iff.mpr (List.mem_range.mpr h))
      · rw [List.getElem?_eq_none (by omega), List.getElem?_eq_none (by omega)]
    rw [this]
    exact hk
theorem one_rD : PyData.tuple [.int 1, .int 1] = rD 1 := rfl
theorem share1_run (hI : Ins I) (h : Dm d) (hk : k .none) : (f_need_share [.d (.tuple (I.map lnI)), .d (rD d), .d (rD 1)]).run k w := by
  have e1 : (1 : Rat).num = 1 := rfl
  have e2 : (1 : Rat).den = 1 := rfl
  simp [f_need_share, b_need_share, dStart, arSl]
  refine needl_run hI h ?_
  refine isratio_run ?_
  simp [e1, e2]
  exact hk
theorem others0_run (hl : I.length < 1000) {s : D} (hk : k (.list ((I.map fun _ => (0 : Rat)).map rD))) : (f_others_of [.d (.tuple (I.map lnI)), .d s, .d (rD 0)]).run k w := by
  have e1 : (0 : Rat).num = 0 := rfl
  simp [f_others_of, b_others_of, dStart, arSl, e1]
  refine ⟨lt_line (by omega), lc_run (p := fun _ => true) (h := fun _ => rD 0) (fun y hy => ⟨_, rfl, fun kb hkb => ?_, fun _ kd hkd => ?_⟩) ?_⟩
  · simpa using hkb
  · simp
    exact ⟨two_le_line, hkd⟩
  · rw [List.filter_eq_self.mpr (by simp)]
    simpa [Function.comp_def] using hk
theorem zip0 {I : List (Int × Int)} {y : List Rat} (hl : y.length = I.length) : ((y.zip (I.map fun _ => (0 : Rat))).map fun p => p.1 + p.2) = y := by
  induction I generalizing y with
  | nil => cases y with
    | nil => rfl
    | cons _ _ => simp at hl
  | cons x I ih => cases y with
    | nil => simp at hl
    | cons q y =>
      simp only [List.map_cons, List.zip_cons_cons, ih (y := y) (by simpa using hl)]
      rw [Rat.add_zero]
/-- a leader of the whole demand -/
theorem plan1_run (hI : Ins I) (h5 : I.length ≤ 5) (h : Dm d) (hk : ∀ y x z, BestQ I d y → RB (whQ (I.map toL) y) 2700 → k (.tuple [.tuple (y.map rD), x, z, rD (whQ (I.map toL) y)])) : (f_leader_plan [.d (.tuple (I.map lnI)), .d (rD d), .d (rD 1)]).run k w := by
  have l1 := hI.l1
  simp only [f_leader_plan, rw_dRun, dStart, arSl, List.map_cons, List.map_nil]
  unfold b_leader_plan
  simp only [run_bind]
  refine seq_mid (fun δ => δ = [.p (.tuple (I.map lnI)), .p (rD d), .p (rD 1), .non, .non, .non, .non, .non, .non, .non]) (by simp; exact share1_run hI h (by simp)) ?_
  rintro δ rfl
  refine seq_mid (fun δ => ∃ y, BestQ I d y ∧ δ = [.p (.tuple (I.map lnI)), .p (rD d), .p (rD 1), .p (.list (y.map rD)), .non, .non, .non, .non, .non, .non]) (by simp only [rw_set, rw_call]; simp; exact best_run hI h5 h fun y hy => ⟨y, hy, rfl⟩) ?_
  rintro δ ⟨y, hy, rfl⟩
  have yl := hy.len
  refine seq_mid (fun δ => δ = [.p (.tuple (I.map lnI)), .p (rD d), .p (rD 1), .p (.list (y.map rD)), .p (rD d), .non, .non, .non, .non, .non]) ?_ ?_
  · simp
    refine by_run' (a := 2) (rb_int (a := 1) (by decide) (by omega)) h.rb (by omega) fun _ => ?_
    rw [Rat.one_mul]
  rintro δ rfl
  refine seq_mid (fun δ => δ = [.p (.tuple (I.map lnI)), .p (rD d), .p (rD 1), .p (.list (y.map rD)), .p (rD d), .p (.list (y.map rD)), .non, .non, .non, .non]) ?_ ?_
  · simp
    have e : rD d = rD (sumQ y) := by rw [hy.sum]
    rw [e]
    exact led_run hI yl hy.pos hy.rb (by omega) (by omega) rfl
  rintro δ rfl
  refine seq_mid (fun δ => δ = [.p (.tuple (I.map lnI)), .p (rD d), .p (rD 1), .p (.list (y.map rD)), .p (rD d), .p (.list (y.map rD)), .p (.list ((I.map fun _ => (0 : Rat)).map rD)), .non, .non, .non]) ?_ ?_
  · simp only [rw_set, rw_call, rw_aCons, rw_aNil, rw_dV, List.getElem?_cons_succ, List.getElem?_cons_zero, slotP_p, pure_bind, run_bind, run_need, run_pure, List.length_cons, List.length_nil, Nat.zero_add, Nat.reduceAdd, true_and]
    refine minus_run' h.rb h.rb (by omega) fun _ => ?_
    rw [show d - d = 0 by grind]
    exact others0_run (by omega) ⟨_, rfl, rfl⟩
  rintro δ rfl
  refine seq_mid (fun δ => δ = [.p (.tuple (I.map lnI)), .p (rD d), .p (rD 1), .p (.list (y.map rD)), .p (rD d), .p (.list (y.map rD)), .p (.list ((I.map fun _ => (0 : Rat)).map rD)), .o (y.map rD), .non, .non]) ?_ ?_
  · rw [rw_setO, rw_nLc, rw_iZpD]
    simp only [run_bind, rw_dV, List.getElem?_cons_succ, List.getElem?_cons_zero, slotP_p, pure_bind, rw_seqL, run_pure, run_need]
    rw [zipD_map]
    refine ⟨by simp [yl]; exact lt_line (by omega), lc_run (p := fun _ => true) (h := fun p => rD (p.1 + p.2)) (fun p hp => ⟨_, rfl, fun kb hkb => ?_, fun _ kd hkd => ?_⟩) ?_⟩
    · simpa using hkb
    · have m1 := (List.of_mem_zip hp).1
      have m2 : p.2 = 0 := by
        have := (List.of_mem_zip hp).2
        obtain ⟨_, _, e⟩ := List.mem_map.mp this
        exact e.symm
      simp
      refine plus_run' (b := 1) (hy.rb _ m1) (by rw [m2]; exact rb_zero (by omega)) (by omega) fun _ => hkd
    · rw [List.filter_eq_self.mpr (by simp), show ((y.zip (I.map fun _ => (0 : Rat))).map fun p => rD (p.1 + p.2)) = ((y.zip (I.map fun _ => (0 : Rat))).map fun p => p.1 + p.2).map rD by simp [Function.comp_def], zip0 yl]
      simp
  rintro δ rfl
  simp
  have m5 : (I.length + 1) * (250 + (7 + 250 + 10 + 1) + 1) ≤ 6 * (250 + (7 + 250 + 10 + 1) + 1) := Nat.mul_le_mul_right _ (by omega)
  have m6 : I.length * (250 + (7 + 250 + 10 + 1) + 1) ≤ 5 * (250 + (7 + 250 + 10 + 1) + 1) := Nat.mul_le_mul_right _ (by omega)
  refine total_run hI yl hy.rb (by omega) (by omega) fun g => ⟨by decide, hk y _ _ hy (g.mono (by omega))⟩
/-! rests judged -/
theorem areflows_run {s : List D} {fs : List Rat} (hl : fs.length = s.length) (hp : Pos0 fs) (hk : k (.bool true)) : (f_are_flows [.d (.tuple s), .d (.tuple (fs.map rD))]).run k w := by
  simp [f_are_flows, b_are_flows, dStart, arSl, hl]
  refine ga_run (p := fun _ => true) (fun q hq => ⟨_, rfl, fun kb hkb => ?_, fun kd hkd => ?_⟩) ?_
  · simpa using hkb
  · simp
    refine isratio_run ?_
    have : 0 ≤ q := hp q hq
    simp [this]
    exact hkd
  · rw [List.all_eq_true.mpr (by simp)]
    exact hk
theorem dorest_run (h : LOk L n S Bb) {fs : List Rat} (hS : 0 < S) (hr : RestQ L fs t) (hf : ∀ q ∈ fs, RB q B) (ht : RB t Bt) (hB : S + B + Bb + Bt + 10 < 4000) (hk : k (.bool true)) : (f_do_rest [.d (.list (L.map lnD)), .d (rD t), .d (.tuple (fs.map rD))]).run k w := by
  simp [f_do_rest, b_do_rest, dStart, arSl]
  rw [zipD_map]
  have key : ∀ p ∈ L.zip fs, t ≤ p.1.1 * p.2 + p.1.2 ∧ (0 < p.2 → p.1.1 * p.2 + p.1.2 = t) := by
    clear hk hf h
    induction L generalizing fs with
    | nil => intro p hp; cases hp
    | cons x L ih => cases fs with
      | nil => intro p hp; cases hp
      | cons f fs =>
        intro p hp
        rcases List.mem_cons.mp hp with rfl | hp
        · exact ⟨hr.2.1, hr.2.2.1⟩
        · exact ih hr.2.2.2 p hp
  refine loop_pre (fun pre δ => ∃ s3 s4 s5 s6, δ = [.p (.list (L.map lnD)), .p (rD t), .p (.tuple (fs.map rD)), s3, s4, s5, s6]) ⟨_, _, _, _, rfl⟩ ?_ ?_
  · rintro pre p post δ e ⟨s3, s4, s5, s6, rfl⟩
    have hp : p ∈ L.zip fs := by rw [e]; simp
    obtain ⟨m1, m2⟩ := List.of_mem_zip hp
    obtain ⟨k1, k2⟩ := key p hp
    refine ⟨_, rfl, ?_⟩
    simp
    simp only [rD_int]
    refine ⟨two_le_line, by_run' (rb_int (h.sl _ m1).2 hS) (hf _ m2) (by omega) fun g => plus_run' g (h.bs _ m1) (by omega) fun g => ?_⟩
    simp
    refine less_run' g ht (by omega) ?_
    rw [decide_eq_false (by grind)]
    simp
    by_cases c : 0 < p.2
    · simp [num_pos.mpr c, eqv_rD, k2 c]
    · have c' : ¬ 0 < p.2.num := fun z => c (num_pos.mp z)
      simp [c']
  · rintro δ ⟨s3, s4, s5, s6, rfl⟩
    simp
    exact hk
/-! the law's sums -/
theorem lsum_run {s : List Rat} (h : ∀ q ∈ s, RB q B) (hB : (s.length + 1) * (B + 1) + 1 < 300000) (hm : B < 4400) (hk : RB (sumQ s) (s.length * (B + 1) + 1) → k (rD (sumQ s))) : (f_law_sum [.d (.list (s.map rD))]).run k w := by
  simp [f_law_sum, b_law_sum, dStart, arSl]
  refine ⟨two_le_line, loop_pre (fun pre δ => ∃ s2, δ = [Sl.p (PyData.list (List.map rD s)), Sl.p (rD (sumQ pre)), s2]) ⟨_, rfl⟩ ?_ ?_⟩
  · rintro pre x post δ e ⟨s2, rfl⟩
    have rb := sum_rb (s := pre) (B := B) fun q hq => h q (by rw [e]; simp [hq])
    have l1 : (pre.length + 1) * (B + 1) ≤ s.length * (B + 1) := Nat.mul_le_mul_right _ (by rw [e]; simp)
    rw [Nat.add_mul] at hB l1
    refine ⟨_, rfl, ?_⟩
    simp
    refine lplus_runG rb (h x (by rw [e]; simp)) (by omega) (by omega) fun _ => ?_
    rw [sum_snoc]
  · rintro δ ⟨s2, rfl⟩
    simp
    exact hk (sum_rb h)
theorem rg_zip {I : List (Int × Int)} {fs : List Rat} (hl : fs.length = I.length) {G : Nat → D} (hG : ∀ i x f, I[i]? = some x → fs[i]? = some f → G i = rD (wtQ (x, f))) : (List.range I.length).map G = ((I.zip fs).map wtQ).map rD := by
  apply List.ext_getElem?
  intro i
  rw [List.getElem?_map, List.getElem?_map, List.getElem?_map]
  by_cases h : i < I.length
  · have h2 : i < fs.length := by omega
    rw [List.getElem?_range h, (List.getElem?_zip_eq_some (z := (I[i], fs[i]))).mpr ⟨List.getElem?_eq_getElem h, List.getElem?_eq_getElem h2⟩]
    simp [hG i _ _ (List.getElem?_eq_getElem h) (List.getElem?_eq_getElem h2)]
  · rw [List.getElem?_eq_none (by simpa using h), List.getElem?_eq_none (by simp; omega)]
    rfl
end
/-! source for mkx.py: leaders of any share; not built by itself -/
section
variable {k : D → Prop} {w : Exn → Prop} {L : List Ln} {I : List (Int × Int)} {t d σ a : Rat} {n S Bb Bt Bd B : Nat} {tp : List D → D}
theorem tp_seq (h : tp = PyData.tuple ∨ tp = PyData.list) {ds : List D} : seqD (tp ds) = .pure ds := by rcases h with rfl | rfl <;> rfl
theorem tp_ix (h : tp = PyData.tuple ∨ tp = PyData.list) {y : List Rat} {i : Nat} {q : Rat} (hq : y[i]? = some q) : dIx (tp (y.map rD)) (.int (i : Int)) = .pure (rD q) := by
  rcases h with rfl | rfl
  · rw [rw_ixT, get_map hq]; rfl
  · rw [rw_ixL, get_map hq]; rfl
theorem tms_len {y : List Rat} (h : y.length = L.length) : (tmsQ L y).length = L.length := by
  induction L generalizing y with
  | nil => rfl
  | cons x L ih => cases y with
    | nil => simp at h
    | cons q y => simp [tmsQ, ih (y := y) (by simpa using h)]
theorem tms_get {y : List Rat} {i : Nat} {x : Int × Int} {q : Rat} (hx : I[i]? = some x) (hq : y[i]? = some q) : (tmsQ (I.map toL) y).getD i 0 = tmQ x q := by
  induction I generalizing y i with
  | nil => cases hx
  | cons x' I ih => cases y with
    | nil => cases hq
    | cons q' y => cases i with
      | zero =>
        cases hx
        cases hq
        rfl
      | succ i => exact ih (y := y) (i := i) (by simpa using hx) (by simpa using hq)
theorem falling_runG (hI : Ins I) (htp : tp = PyData.tuple ∨ tp = PyData.list) {y : List Rat} (hl : y.length = I.length) (hy : ∀ q ∈ y, RB q B) (hB : B < 1000) (hk : k (.list ((fallQ (tmsQ (I.map toL) y)).map natD))) : (f_falling [.d (.tuple (I.map lnI)), .d (tp (y.map rD))]).run k w := by
  have l2 := hI.l2
  have tl : (tmsQ (I.map toL) y).length = I.length := by rw [tms_len (by simpa using hl)]; simp
  simp [f_falling, b_falling, dStart, arSl]
  refine loop_inv (fun i δ => ∃ (s3 s4 s5 s6 s7 : Sl), δ = [.p (.tuple (I.map lnI)), .p (tp (y.map rD)), .p (.list (((List.range i).foldl (insF (tmsQ (I.map toL) y)) []).map natD)), s3, s4, s5, s6, s7]) ⟨_, _, _, _, _, rfl⟩ ?_ ?_
  · rintro i δ e he ⟨s3, s4, s5, s6, s7, rfl⟩
    obtain ⟨x, hx, rfl⟩ := enD_get' he
    rw [List.getElem?_map] at hx
    obtain ⟨z, hz, rfl⟩ : ∃ z, I[i]? = some z ∧ x = lnI z := by
      cases hh : I[i]? <;> rw [hh] at hx <;> cases hx
      exact ⟨_, rfl, rfl⟩
    have hi : i < I.length := (List.getElem?_eq_some_iff.mp hz).1
    have hzm := List.mem_of_getElem? hz
    obtain ⟨f, hf⟩ : ∃ f, y[i]? = some f := ⟨_, List.getElem?_eq_getElem (by omega)⟩
    have hfm := List.mem_of_getElem? hf
    have hp := fall_perm_aux (ts := tmsQ (I.map toL) y) i
    rw [List.range_succ, List.foldl_append]
    simp only [List.foldl_cons, List.foldl_nil]
    generalize (List.range i).foldl (insF (tmsQ (I.map toL) y)) [] = p at hp ⊢
    have pl : p.length = i := by have := hp.length_eq; simpa using this
    refine ⟨_, rfl, ?_⟩
    simp [tp_ix htp hf]
    refine ltm_run (hI.sl _ hzm) (hI.bs _ hzm) (hy _ hfm) (by omega) fun g => ⟨lt_line (by omega), ?_⟩
    refine lc_run (p := fun j => decide ((tmsQ (I.map toL) y).getD i 0 < (tmsQ (I.map toL) y).getD j 0)) (h := natD) (fun j hj => ⟨_, rfl, fun kb hkb => ?_, fun _ kd hkd => ?_⟩) ?_
    · have hj' : j < i := List.mem_range.mp (hp.mem_iff.mp hj)
      obtain ⟨v, hv⟩ : ∃ v, I[j]? = some v := ⟨_, List.getElem?_eq_getElem (by omega)⟩
      obtain ⟨q, hq⟩ : ∃ q, y[j]? = some q := ⟨_, List.getElem?_eq_getElem (by omega)⟩
      rw [tms_get hz hf, tms_get hv hq] at hkb
      simp [natD, get_map hv, tp_ix htp hq]
      refine ltm_run (hI.sl _ (List.mem_of_getElem? hv)) (hI.bs _ (List.mem_of_getElem? hv)) (hy _ (List.mem_of_getElem? hq)) (by omega) fun g2 => ?_
      refine less_run' g g2 (by omega) ?_
      simpa using hkb
    · simpa using hkd
    unfold insF
    have hfl := List.length_filter_le (fun j => decide ((tmsQ (I.map toL) y).getD i 0 < (tmsQ (I.map toL) y).getD j 0)) p
    generalize (p.filter fun j => decide ((tmsQ (I.map toL) y).getD i 0 < (tmsQ (I.map toL) y).getD j 0)) = fl at hfl ⊢
    simp only [List.length_map]
    rw [cut_take, cut_drop, allD_map, rw_allD1, allD_only]
    simp
    exact ⟨lt_line (by omega), by simp [natD]⟩
  · rintro δ ⟨s3, s4, s5, s6, s7, rfl⟩
    simp
    rw [enD_len, List.length_map]
    unfold fallQ at hk
    rw [tl] at hk
    exact hk
theorem led_runG (hI : Ins I) (htp : tp = PyData.tuple ∨ tp = PyData.list) {y : List Rat} (hl : y.length = I.length) (hy : ∀ q ∈ y, RB q B) (h0 : 0 < B) (ha : RB a 30) (hB : B < 400) (hk : k (.list ((ledQ y (tmsQ (I.map toL) y) a).map rD))) : (f_led_of [.d (.tuple (I.map lnI)), .d (tp (y.map rD)), .d (rD a)]).run k w := by
  have l2 := hI.l2
  have tl : (tmsQ (I.map toL) y).length = I.length := by rw [tms_len (by simpa using hl)]; simp
  simp [f_led_of, b_led_of, dStart, arSl, sParOD]
  refine ⟨lt_line (by omega), lc_run (p := fun _ => true) (h := fun _ => rD 0) (fun y hy => ⟨_, rfl, fun kb hkb => ?_, fun _ kd hkd => ?_⟩) ?_⟩
  · simpa using hkb
  · simp
    exact ⟨two_le_line, hkd⟩
  rw [List.filter_eq_self.mpr (by simp)]
  refine falling_runG hI htp hl hy (by omega) ?_
  have hp := fall_perm (ts := tmsQ (I.map toL) y)
  rw [tl] at hp
  unfold ledQ at hk
  generalize fallQ (tmsQ (I.map toL) y) = p at hp hk ⊢
  have pl : p.length = I.length := by have := hp.length_eq; simpa using this
  simp only [run_pure, rw_seqL]
  refine loop_pre (fun pre δ => ∃ (g : List Rat) (r : Rat) (post : List Nat) (s5 s6 : Sl), p = pre ++ post ∧ g.length = I.length ∧ RB r (30 + pre.length * (B + 1)) ∧ ledG y post r g = ledG y p a (List.replicate y.length 0) ∧ δ = [.p (.tuple (I.map lnI)), .p (tp (y.map rD)), .p (rD a), .o (g.map rD), .p (rD r), s5, s6]) ?_ ?_ ?_
  · refine ⟨List.replicate y.length 0, a, p, .non, .non, rfl, by simp [hl], by simpa using ha, rfl, ?_⟩
    rw [hl]
    congr 4
    rw [List.map_replicate, ← List.map_const']
  · rintro pre j post δ e ⟨g, r, post', s5, s6, e', hg, rbr, hled, rfl⟩
    have epost : post' = j :: post := by
      rw [e] at e'
      exact (List.append_cancel_left e').symm
    subst epost
    have hj : j < I.length := List.mem_range.mp (hp.mem_iff.mp (by rw [e]; simp))
    obtain ⟨q, hq⟩ : ∃ q, y[j]? = some q := ⟨_, List.getElem?_eq_getElem (by omega)⟩
    have hqm := List.mem_of_getElem? hq
    have eq : y.getD j 0 = q := by rw [List.getD_eq_getElem?_getD, hq]; rfl
    have lpre : pre.length ≤ 8 := by have := congrArg List.length e; simp at this; omega
    have mm : pre.length * (B + 1) ≤ 8 * (B + 1) := Nat.mul_le_mul_right _ lpre
    refine ⟨_, rfl, ?_⟩
    simp only [rw_seq, rw_setIx, rw_dIf, rw_tT, rw_call, rw_aCons, rw_aNil, rw_dV, rw_d2, List.getElem?_cons_succ, List.getElem?_cons_zero, slotP_p, slotO_o, pure_bind, List.set_cons_succ, List.set_cons_zero, List.length_cons, List.length_nil, Nat.zero_add, Nat.reduceAdd, run_bind, run_need, true_and, natD, tp_ix htp hq]
    refine less_run' rbr (hy _ hqm) (by omega) ?_
    by_cases c : r < q
    · rw [decide_eq_true c]
      simp [ixN_nat (show j < g.length by omega)]
      have eg : atI (List.map rD (g.set j r)) (j : Int) = some (rD r) := get_map (by rw [List.getElem?_set_self (by omega)])
      rw [← List.map_set, eg]
      simp
      refine minus_runG rbr rbr (by omega) (by omega) fun _ => ?_
      refine ⟨g.set j r, r - r, post, e, by simpa using hg, ?_, ?_, by rw [List.map_set], rfl⟩
      · rw [show r - r = 0 by grind]
        exact rb_zero (by omega)
      · rw [← hled, ledG, eq, if_pos c]
    · rw [decide_eq_false c]
      simp [ixN_nat (show j < g.length by omega), tp_ix htp hq]
      have eg : atI (List.map rD (g.set j q)) (j : Int) = some (rD q) := get_map (by rw [List.getElem?_set_self (by omega)])
      rw [← List.map_set, eg]
      simp
      refine minus_runG rbr (hy _ hqm) (by omega) (by omega) fun hm => ?_
      refine ⟨g.set j q, r - q, post, e, by simpa using hg, ?_, ?_, by rw [List.map_set], rfl⟩
      · refine hm.mono ?_
        rw [Nat.add_mul]
        omega
      · rw [← hled, ledG, eq, if_neg c]
  · rintro δ ⟨g, r, post, s5, s6, e, hg, rbr, hled, rfl⟩
    have : post = [] := by
      have := congrArg List.length e
      simp at this
      exact this
    subst this
    simp
    rw [← hled] at hk
    exact hk
theorem left_eq {I : List (Int × Int)} {g : List Rat} : ((I.zip g).map fun p => lnD (p.1.1, tmQ p.1 p.2)) = (leftQ (I.map toL) g).map lnD := by
  induction I generalizing g with
  | nil => rfl
  | cons x I ih => cases g with
    | nil => rfl
    | cons q g =>
      simp only [List.zip_cons_cons, List.map_cons, leftQ, ih]
      rfl
theorem left_ok (hI : Ins I) {g : List Rat} (hg : ∀ q ∈ g, RB q 50) : LOk (leftQ (I.map toL) g) I.length 7 68 := by
  have e : ∀ x ∈ leftQ (I.map toL) g, ∃ p ∈ I.zip g, x = (p.1.1, tmQ p.1 p.2) := by
    clear hI hg
    induction I generalizing g with
    | nil => intro x hx; cases hx
    | cons y I ih => cases g with
      | nil => intro x hx; cases hx
      | cons q g =>
        intro x hx
        rcases List.mem_cons.mp hx with rfl | hx
        · exact ⟨(y, q), by simp, rfl⟩
        · obtain ⟨p, hp, e⟩ := ih x hx
          exact ⟨p, by simp [hp], e⟩
  refine ⟨?_, fun x hx => ?_, fun x hx => ?_⟩
  · clear hI hg e
    induction I generalizing g with
    | nil => simp [leftQ]
    | cons y I ih => cases g with
      | nil => simp [leftQ]
      | cons q g => simpa [leftQ] using ih
  · obtain ⟨p, hp, rfl⟩ := e x hx
    have := hI.sl _ (zip_mem hp).1
    exact ⟨this.1, nb7 this.1 this.2⟩
  · obtain ⟨p, hp, rfl⟩ := e x hx
    obtain ⟨m1, m2⟩ := zip_mem hp
    exact (tm_rb (hI.sl _ m1) (hI.bs _ m1) (hg _ m2)).mono (by omega)
theorem left_len {g : List Rat} (h : g.length = L.length) : (leftQ L g).length = L.length := by
  induction L generalizing g with
  | nil => rfl
  | cons x L ih => cases g with
    | nil => simp at h
    | cons q g => simp [leftQ, ih (g := g) (by simpa using h)]
theorem left_fst {g : List Rat} : ∀ x ∈ leftQ L g, ∃ y ∈ L, x.1 = y.1 := by
  induction L generalizing g with
  | nil => intro x hx; cases hx
  | cons y L ih => cases g with
    | nil => intro x hx; cases hx
    | cons q g =>
      intro x hx
      rcases List.mem_cons.mp hx with rfl | hx
      · exact ⟨y, by simp, rfl⟩
      · obtain ⟨z, hz, e⟩ := ih x hx
        exact ⟨z, by simp [hz], e⟩
theorem leftl_run (hI : Ins I) (htp : tp = PyData.tuple ∨ tp = PyData.list) {g : List Rat} (hl : g.length = I.length) (hg : ∀ q ∈ g, RB q 50) (hk : k (.list ((leftQ (I.map toL) g).map lnD))) : (f_left_lanes [.d (.tuple (I.map lnI)), .d (tp (g.map rD))]).run k w := by
  have l2 := hI.l2
  simp [f_left_lanes, b_left_lanes, dStart, arSl, tp_seq htp]
  rw [zipD_map]
  refine ⟨by simp [hl]; exact lt_line (by omega), lc_run (p := fun _ => true) (h := fun p => lnD (p.1.1, tmQ p.1 p.2)) (fun p hp => ⟨_, rfl, fun kb hkb => ?_, fun _ kd hkd => ?_⟩) ?_⟩
  · simpa using hkb
  · obtain ⟨m1, m2⟩ := zip_mem hp
    simp
    have e1 : dIx (lnI p.1) (.int 0) = .pure (.int p.1.1) := by unfold lnI; simp
    rw [e1]
    simp
    refine ltm_run (hI.sl _ m1) (hI.bs _ m1) (hg _ m2) (by omega) fun _ => ⟨two_le_line, hkd⟩
  · rw [List.filter_eq_self.mpr (by simp), left_eq]
    exact hk
/-- the level of the lanes that are left -/
theorem leftlev_run (hI : Ins I) (h5 : I.length ≤ 5) {g : List Rat} (hl : g.length = I.length) (hg : ∀ q ∈ g, RB q 50) (ha : RB a 30) (h0 : 0 < a) (hk : ∀ t, Lev (leftQ (I.map toL) g) a t → RB t 880 → (tkQ (leftQ (I.map toL) g) t = a ∨ RB t 68) → k (rD t)) : (f_level_of [.d (.list ((leftQ (I.map toL) g).map lnD)), .d (rD a)]).run k w := by
  have ll : (leftQ (I.map toL) g).length = I.length := by rw [left_len (by simpa using hl)]; simp
  have l1 := hI.l1
  have b1 : ((leftQ (I.map toL) g).length + 1) * (68 + 68 + 7 + 2) ≤ 6 * (68 + 68 + 7 + 2) := Nat.mul_le_mul_right _ (by omega)
  have b2 : ((leftQ (I.map toL) g).length + 1) * (7 + 3) ≤ 6 * (7 + 3) := Nat.mul_le_mul_right _ (by omega)
  have b3 : ((leftQ (I.map toL) g).length) * (68 + 68 + 7 + 2) ≤ 5 * (68 + 68 + 7 + 2) := Nat.mul_le_mul_right _ (by omega)
  have b4 : ((leftQ (I.map toL) g).length) * (7 + 2) ≤ 5 * (7 + 2) := Nat.mul_le_mul_right _ (by omega)
  have hne : leftQ (I.map toL) g ≠ [] := fun z => by rw [z] at ll; simp at ll; omega
  refine level_run (left_ok hI hg) hne (fun x hx => ?_) (by omega) ha h0 (by omega) (by omega) fun t ht hrb he => hk t ht (hrb.mono (by omega)) he
  obtain ⟨y, hy, e⟩ := left_fst x hx
  rw [e]
  exact hI.sg y hy
theorem others_runG (hI : Ins I) (h5 : I.length ≤ 5) (htp : tp = PyData.tuple ∨ tp = PyData.list) {g : List Rat} (hl : g.length = I.length) (hg : ∀ q ∈ g, RB q 50) (ha : RB a 30) (h0 : 0 < a) (hk : ∀ t z, RestQ (leftQ (I.map toL) g) z t → sumQ z = a → (∀ q ∈ z, RB q 1000) → k (.list (z.map rD))) : (f_others_of [.d (.tuple (I.map lnI)), .d (tp (g.map rD)), .d (rD a)]).run k w := by
  have ll : (leftQ (I.map toL) g).length = I.length := by rw [left_len (by simpa using hl)]; simp
  have hn : ¬ a.num = 0 := by have := num_pos.mpr h0; omega
  have b3 : ((leftQ (I.map toL) g).length) * (68 + 68 + 7 + 2) ≤ 5 * (68 + 68 + 7 + 2) := Nat.mul_le_mul_right _ (by omega)
  have b5 : ((leftQ (I.map toL) g).length + 1) * (880 + 68 + 7 + 2) ≤ 6 * (880 + 68 + 7 + 2) := Nat.mul_le_mul_right _ (by omega)
  have hs : ∀ x ∈ leftQ (I.map toL) g, 0 ≤ x.1 := fun x hx => by
    obtain ⟨y, hy, e⟩ := left_fst x hx
    rw [e]
    rcases hI.sg y hy with z | z <;> omega
  simp [f_others_of, b_others_of, dStart, arSl]
  rw [if_neg (by grind)]
  refine leftl_run hI htp hl hg ?_
  refine leftlev_run hI h5 hl hg ha h0 fun t ht htb he => ?_
  refine flows_run (left_ok hI hg) (by omega) htb ha (by omega) (by omega) (by omega) (by omega) ?_
  exact hk t _ (ht.flows hs).1 (ht.flows hs).2 (fl_sharp (n := I.length) (S := 7) (Bb := 68) (left_ok hI hg) htb ha (by omega) he (by omega) (by omega))
structure Sh (σ : Rat) : Prop where
  n0 : 0 ≤ σ.num
  n1 : σ.num ≤ σ.den
  d1 : σ.den ≤ 100
theorem Sh.rb (h : Sh σ) : RB σ 7 := ⟨by have := h.n0; have := h.n1; have := h.d1; show _ < 128; omega, by have := h.d1; show _ < 128; omega⟩
theorem Sh.pos (h : Sh σ) : 0 ≤ σ := Rat.num_nonneg.mp h.n0
theorem Sh.le1 (h : Sh σ) : σ ≤ 1 := by
  have e := rat_nd σ
  have dp : (0 : Rat) < (σ.den : Rat) := by have := σ.den_pos; exact_mod_cast this
  have : ¬ 1 < σ := fun z => by
    rw [e, Rat.lt_div_iff dp] at z
    have h1 : ((σ.num : Int) : Rat) ≤ ((σ.den : Int) : Rat) := by exact_mod_cast h.n1
    have h2 : ((σ.den : Int) : Rat) = (σ.den : Rat) := rfl
    rw [h2] at h1
    grind
  grind
theorem share_run (hI : Ins I) (h : Dm d) (hs : Sh σ) (hk : k .none) : (f_need_share [.d (.tuple (I.map lnI)), .d (rD d), .d (rD σ)]).run k w := by
  have e1 := hs.n0
  have e2 := hs.n1
  have e3 : (σ.den : Int) ≤ 100 := by have := hs.d1; omega
  simp [f_need_share, b_need_share, dStart, arSl]
  refine needl_run hI h ?_
  refine isratio_run ?_
  simp only [run_pure, rw_truB, Bool.not_true, Bool.false_eq_true, if_false, rw_ixR0, rw_ixR1, run_bind, rw_asB]
  simp [dLe, e1, e2, e3]
  rw [if_pos hs.pos]
  exact hk
def plusL (g z : List Rat) : List Rat := List.zipWith (· + ·) g z
theorem plusL_len {g z : List Rat} (h : z.length = g.length) : (plusL g z).length = g.length := by simp [plusL, h]
theorem plusL_eq {g z : List Rat} : ((g.zip z).map fun p => p.1 + p.2) = plusL g z := by simp [plusL, List.zip, List.map_zipWith]
/-- a leader's plan -/
structure PlanQ (I : List (Int × Int)) (d σ : Rat) (y g z : List Rat) : Prop where
  best : ∃ l, RestQ (steepQ (I.map toL)) y l
  ys : sumQ y = d
  led : g = ledQ y (tmsQ (I.map toL) y) (σ * d)
  gl : g.length = I.length
  gp : Pos0 g
  zl : z.length = I.length
  zp : Pos0 z
  zs : sumQ z = d - σ * d
  rest : d - σ * d = 0 ∨ (0 < d - σ * d ∧ ∃ t, RestQ (leftQ (I.map toL) g) z t)
theorem whole_rb {g z : List Rat} (hg : ∀ q ∈ g, RB q 50) (hz : ∀ q ∈ z, RB q 1010) : ∀ q ∈ plusL g z, RB q 1061 := by
  intro q hq
  rw [← plusL_eq] at hq
  obtain ⟨p, hp, rfl⟩ := List.mem_map.mp hq
  have := List.of_mem_zip hp
  exact (hg _ this.1).add' (hz _ this.2)
theorem wholelc_run {g z : List Rat} {δ : De} {kl : List D → Prop} {i j : Nat} (hq : ∀ p ∈ g.zip z, ∃ δ1, bTup 2 (bCons (bName i) (bCons (bName j) bNil)) (PyData.tuple [rD p.1, rD p.2]) δ = some δ1 ∧ dV i δ1 = .pure (rD p.1) ∧ dV j δ1 = .pure (rD p.2)) (hg : ∀ q ∈ g, RB q 50) (hz : ∀ q ∈ z, RB q 1010) (hk : kl ((plusL g z).map rD)) :
    (lcLoop (bTup 2 (bCons (bName i) (bCons (bName j) bNil))) tYesD (dCall 2 f_plus (aCons (dV i) (aCons (dV j) aNil))) δ (zipD (g.map rD) (z.map rD))).run kl w := by
  rw [zipD_map]
  refine lc_run (p := fun _ => true) (h := fun p => rD (p.1 + p.2)) (fun p hp => ?_) ?_
  · obtain ⟨δ1, e1, e2, e3⟩ := hq p hp
    have := List.of_mem_zip hp
    refine ⟨δ1, e1, fun kb hkb => by simpa using hkb, fun _ kd hkd => ?_⟩
    simp only [rw_call, rw_aCons, rw_aNil, e2, e3, pure_bind, run_need]
    exact ⟨rfl, plus_runG (hg _ this.1) (hz _ this.2) (by omega) (by omega) fun _ => hkd⟩
  · rw [List.filter_eq_self.mpr (by simp), show ((g.zip z).map fun p => rD (p.1 + p.2)) = ((g.zip z).map fun p => p.1 + p.2).map rD by simp [Function.comp_def], plusL_eq]
    exact hk
theorem Lw.fine {I : List (Int × Int)} (h : Lw I) : Fine (steepQ (I.map toL)) := fun x hx => by
  obtain ⟨y, hy, rfl⟩ := List.mem_map.mp hx
  obtain ⟨v, hv, rfl⟩ := List.mem_map.mp hy
  refine ⟨?_, v.2, rfl⟩
  show 2 * v.1 = 0 ∨ ∃ m : Int, 0 < 2 * v.1 ∧ 0 < m ∧ m ≤ 100 ∧ m * (2 * v.1) = 200
  rcases h.sl v hv with e | e | e | e | e
  · exact .inl (by omega)
  · exact .inr ⟨100, by omega, by omega, by omega, by rw [e]; rfl⟩
  · exact .inr ⟨50, by omega, by omega, by omega, by rw [e]; rfl⟩
  · exact .inr ⟨20, by omega, by omega, by omega, by rw [e]; rfl⟩
  · exact .inr ⟨1, by omega, by omega, by omega, by rw [e]; rfl⟩
theorem isZ_rb {Q : Nat} {q : Rat} (h : IsZ Q q) (hQ : 0 < Q) (hb : Q < 2 ^ B) (h0 : 0 ≤ q) (h1 : q ≤ 1000) : RB q (B + 10) := by
  obtain ⟨n, hn⟩ := h
  have Qp : (0 : Rat) < (Q : Rat) := by exact_mod_cast hQ
  have e : q = (n : Rat) / ((Q : Int) : Rat) := by
    show q = (n : Rat) / (Q : Rat)
    have : (Q : Rat) ≠ 0 := by grind
    grind
  have n0 : (0 : Rat) ≤ (n : Rat) := by rw [← hn]; exact Rat.mul_nonneg h0 (Rat.le_of_lt Qp)
  have n1 : (n : Rat) ≤ ((1000 * (Q : Int) : Int) : Rat) := by
    rw [← hn]
    have := Rat.mul_nonneg (show 0 ≤ 1000 - q by grind) (Rat.le_of_lt Qp)
    push_cast
    show q * (Q : Rat) ≤ 1000 * (Q : Rat)
    grind
  have n0' : 0 ≤ n := by exact_mod_cast n0
  have n1' : n ≤ 1000 * (Q : Int) := by exact_mod_cast n1
  rw [e]
  refine ratio_rb (by omega) ?_ ?_
  · rw [Nat.pow_add, show (2 : Nat) ^ 10 = 1024 by decide]
    omega
  · rw [Nat.pow_add, show (2 : Nat) ^ 10 = 1024 by decide, Int.natAbs_natCast]
    omega
theorem dm_le {d : Rat} (h : Dm d) : d ≤ 1000 := by
  have dp : (0 : Rat) < (d.den : Rat) := by have := d.den_pos; exact_mod_cast this
  have dn := rat_num (d := d)
  have h1 : ((d.num : Int) : Rat) ≤ ((1000 : Int) : Rat) := by exact_mod_cast h.n2
  have h2 : ((1 : Int) : Rat) ≤ ((d.den : Int) : Rat) := by have := d.den_pos; exact_mod_cast (show (1 : Int) ≤ (d.den : Int) by omega)
  have e1 : ((1000 : Int) : Rat) = 1000 := rfl
  have e2 : ((1 : Int) : Rat) = 1 := rfl
  have e3 : ((d.den : Int) : Rat) = (d.den : Rat) := rfl
  rw [e1] at h1
  rw [e2, e3] at h2
  have hp := h.pos
  have := Rat.mul_nonneg (Rat.le_of_lt hp) (show 0 ≤ (d.den : Rat) - 1 by grind)
  grind
/-- the bounds of a plan's flows -/
theorem best_small {y : List Rat} (hw : Lw I) (h : Dm d) (hy : BestQ I d y) : ∃ Q : Nat, 0 < Q ∧ Q < 2 ^ 24 ∧ ∀ q ∈ y, IsZ Q q := by
  obtain ⟨l, hl, e⟩ := hy.ex
  have ln : (steepQ (I.map toL)).length = I.length := by simp [steepQ]
  have l1 := hw.l1
  have l2 := hw.l2
  obtain ⟨k, k0, k1, k2⟩ := best_isZ hw.fine (by omega) h.pos hl
  rw [ln] at k1
  rw [← e] at k2
  refine ⟨200 * k, by omega, ?_, k2⟩
  have m1 : 100 * I.length * d.den ≤ 500 * 100 := Nat.mul_le_mul (by omega) h.d2
  show _ < 16777216
  omega
theorem plan_small {y : List Rat} (hw : Lw I) (h : Dm d) (hy : BestQ I d y) (hs : Sh σ) (h7 : σ.den ≤ 7) : (∀ q ∈ y, RB q 34) ∧ ∀ q ∈ ledQ y (tmsQ (I.map toL) y) (σ * d), RB q 44 := by
  obtain ⟨Q, q0, q1, q2⟩ := best_small hw h hy
  have d1 := dm_le h
  have yl := hy.len
  have sd : σ * d ≤ d := by
    have := Rat.mul_nonneg (show 0 ≤ 1 - σ by have := hs.le1; grind) (Rat.le_of_lt h.pos)
    grind
  have s0 : 0 ≤ σ * d := Rat.mul_nonneg hs.pos (Rat.le_of_lt h.pos)
  obtain ⟨f1, f2, f3⟩ := led_all (y := y) (ts := tmsQ (I.map toL) y) hy.pos (by rw [tms_len (by simpa using yl)]; simp [yl]) s0 (by rw [hy.sum]; exact sd)
  constructor
  · intro q hq
    refine isZ_rb (B := 24) (q2 q hq) q0 q1 (hy.pos q hq) ?_
    have := le_sum hy.pos q hq
    rw [hy.sum] at this
    exact Rat.le_trans this d1
  · intro q hq
    have z : IsZ (Q * (σ.den * d.den)) q := by
      refine led_isZ (fun q hq => (q2 q hq).up) ?_ ?_ q hq
      · have e1 := rat_num (d := σ)
        have e2 := rat_num (d := d)
        refine ⟨Q * (σ.num * d.num), ?_⟩
        push_cast
        rw [← e1, ← e2]
        grind
      · intro q hq
        rw [(List.mem_replicate.mp hq).2]
        exact .zero
    have m1 : σ.den * d.den ≤ 7 * 100 := Nat.mul_le_mul h7 h.d2
    have m0 : 0 < σ.den * d.den := Nat.mul_pos σ.den_pos d.den_pos
    refine isZ_rb (B := 34) z (Nat.mul_pos q0 m0) ?_ (f1 q hq) ?_
    · have : Q * (σ.den * d.den) ≤ Q * 1024 := Nat.mul_le_mul_left _ (by omega)
      have e : (2 : Nat) ^ 34 = 2 ^ 24 * 1024 := by decide
      rw [e]
      exact Nat.lt_of_le_of_lt this (Nat.mul_lt_mul_of_pos_right q1 (by decide))
    · have := le_sum f1 q hq
      rw [f2] at this
      exact Rat.le_trans this (Rat.le_trans sd d1)
/-- the plan, run -/
theorem plan_runG (hw : Lw I) (h : Dm d) (hs : Sh σ) (h7 : σ.den ≤ 7) (hk : ∀ y g z, PlanQ I d σ y g z → (∀ q ∈ y, RB q 34) → (∀ q ∈ g, RB q 44) → (∀ q ∈ z, RB q 1000) → RB (whQ (I.map toL) (plusL g z)) 11000 → k (.tuple [.tuple (y.map rD), .tuple (g.map rD), .tuple (z.map rD), rD (whQ (I.map toL) (plusL g z))])) : (f_leader_plan [.d (.tuple (I.map lnI)), .d (rD d), .d (rD σ)]).run k w := by
  have hI := hw.ins
  have l1 := hw.l1
  have h5 := hw.l2
  simp only [f_leader_plan, rw_dRun, dStart, arSl, List.map_cons, List.map_nil]
  unfold b_leader_plan
  simp only [run_bind]
  refine seq_mid (fun δ => δ = [.p (.tuple (I.map lnI)), .p (rD d), .p (rD σ), .non, .non, .non, .non, .non, .non, .non]) (by simp; exact share_run hI h hs (by simp)) ?_
  rintro δ rfl
  refine seq_mid (fun δ => ∃ y, BestQ I d y ∧ δ = [.p (.tuple (I.map lnI)), .p (rD d), .p (rD σ), .p (.list (y.map rD)), .non, .non, .non, .non, .non, .non]) (by simp only [rw_set, rw_call]; simp; exact best_run hI h5 h fun y hy => ⟨y, hy, rfl⟩) ?_
  rintro δ ⟨y, hy, rfl⟩
  have yl := hy.len
  obtain ⟨ry, rg⟩ := plan_small hw h hy hs h7
  have sd : σ * d ≤ d := by
    have := Rat.mul_nonneg (show 0 ≤ 1 - σ by have := hs.le1; grind) (Rat.le_of_lt h.pos)
    grind
  have s0 : 0 ≤ σ * d := Rat.mul_nonneg hs.pos (Rat.le_of_lt h.pos)
  have ra : RB (σ * d) 17 := (hs.rb.mul' h.rb).mono (by omega)
  have rr : RB (d - σ * d) 30 := (h.rb.sub' ra).mono (by omega)
  obtain ⟨f1, f2, f3⟩ := led_all (y := y) (ts := tmsQ (I.map toL) y) hy.pos (by rw [tms_len (by simpa using yl)]; simp [yl]) s0 (by rw [hy.sum]; exact sd)
  refine seq_mid (fun δ => δ = [.p (.tuple (I.map lnI)), .p (rD d), .p (rD σ), .p (.list (y.map rD)), .p (rD (σ * d)), .non, .non, .non, .non, .non]) ?_ ?_
  · simp
    exact by_run' hs.rb h.rb (by omega) fun _ => rfl
  rintro δ rfl
  refine seq_mid (fun δ => δ = [.p (.tuple (I.map lnI)), .p (rD d), .p (rD σ), .p (.list (y.map rD)), .p (rD (σ * d)), .p (.list ((ledQ y (tmsQ (I.map toL) y) (σ * d)).map rD)), .non, .non, .non, .non]) ?_ ?_
  · simp
    exact led_runG (tp := PyData.list) hI (.inr rfl) yl ry (by omega) (ra.mono (by omega)) (by omega) rfl
  rintro δ rfl
  generalize hg : ledQ y (tmsQ (I.map toL) y) (σ * d) = g at *
  have gl : g.length = I.length := by rw [f3, yl]
  refine seq_mid (fun δ => ∃ z, PlanQ I d σ y g z ∧ (∀ q ∈ z, RB q 1000) ∧ δ = [.p (.tuple (I.map lnI)), .p (rD d), .p (rD σ), .p (.list (y.map rD)), .p (rD (σ * d)), .p (.list (g.map rD)), .p (.list (z.map rD)), .non, .non, .non]) ?_ ?_
  · simp only [rw_set, rw_call, rw_aCons, rw_aNil, rw_dV, List.getElem?_cons_succ, List.getElem?_cons_zero, slotP_p, pure_bind, run_bind, run_need, run_pure, List.length_cons, List.length_nil, Nat.zero_add, Nat.reduceAdd, true_and]
    refine minus_run' h.rb ra (by omega) fun _ => ?_
    by_cases c : d - σ * d = 0
    · rw [c]
      refine others0_run (by omega) ⟨_, rfl, I.map fun _ => 0, ⟨hy.rest, hy.sum, hg.symm, gl, f1, by simp, fun q hq => ?_, ?_, .inl c⟩, fun q hq => ?_, rfl⟩
      · obtain ⟨_, _, rfl⟩ := List.mem_map.mp hq
        exact Rat.le_refl
      · rw [c, List.map_const', rep_sum]
      · obtain ⟨_, _, rfl⟩ := List.mem_map.mp hq
        exact rb_zero (by omega)
    · have rp : 0 < d - σ * d := by grind
      refine others_runG (tp := PyData.list) hI h5 (.inr rfl) gl (fun q hq => (rg q hq).mono (by omega)) rr rp fun t z hz hzs hzb => ?_
      exact ⟨_, rfl, z, ⟨hy.rest, hy.sum, hg.symm, gl, f1, by rw [hz.len, left_len (by simpa using gl)]; simp, hz.pos, hzs, .inr ⟨rp, t, hz⟩⟩, hzb, rfl⟩
  rintro δ ⟨z, hp, rz, rfl⟩
  have rg5 : ∀ q ∈ g, RB q 50 := fun q hq => (rg q hq).mono (by omega)
  have rz5 : ∀ q ∈ z, RB q 1010 := fun q hq => (rz q hq).mono (by omega)
  refine seq_mid (fun δ => δ = [.p (.tuple (I.map lnI)), .p (rD d), .p (rD σ), .p (.list (y.map rD)), .p (rD (σ * d)), .p (.list (g.map rD)), .p (.list (z.map rD)), .o ((plusL g z).map rD), .non, .non]) ?_ ?_
  · rw [rw_setO, rw_nLc, rw_iZpD]
    simp only [run_bind, rw_dV, List.getElem?_cons_succ, List.getElem?_cons_zero, slotP_p, pure_bind, rw_seqL, run_pure, run_need]
    refine ⟨by simp [zipD_len, gl, hp.zl]; exact lt_line (by omega), wholelc_run (fun p hp => ⟨_, rfl, rfl, rfl⟩) rg5 rz5 ?_⟩
    exact ⟨_, rfl, rfl⟩
  rintro δ rfl
  simp
  have m5 : (I.length + 1) * (1061 + (7 + 1061 + 10 + 1) + 1) ≤ 6 * (1061 + (7 + 1061 + 10 + 1) + 1) := Nat.mul_le_mul_right _ (by omega)
  have m6 : I.length * (1061 + (7 + 1061 + 10 + 1) + 1) ≤ 5 * (1061 + (7 + 1061 + 10 + 1) + 1) := Nat.mul_le_mul_right _ (by omega)
  refine total_run hI (by rw [plusL_len (by rw [hp.zl, gl]), gl]) (whole_rb rg5 rz5) (by omega) (by omega) fun q => ⟨by decide, hk y g z hp ry rg rz (q.mono (by omega))⟩
theorem rbehind_run (hI : Ins I) (h5 : I.length ≤ 5) {g z : List Rat} (gl : g.length = I.length) (hg : ∀ q ∈ g, RB q 50) (hz : ∀ q ∈ z, RB q 1010) (zs : sumQ z = a) (ha : RB a 30) (hr : a = 0 ∨ (0 < a ∧ ∃ t, RestQ (leftQ (I.map toL) g) z t)) (zl : z.length = I.length) (hk : k (.bool true)) : (f_rests_behind [.d (.tuple (I.map lnI)), .d (.tuple (g.map rD)), .d (rD a), .d (.tuple (z.map rD))]).run k w := by
  have b3 : (z.length + 1) * (1010 + 1) ≤ 6 * (1010 + 1) := Nat.mul_le_mul_right _ (by omega)
  have hs : ∀ x ∈ leftQ (I.map toL) g, 0 ≤ x.1 := fun x hx => by
    obtain ⟨y, hy, e⟩ := left_fst x hx
    rw [e]
    rcases hI.sg y hy with z | z <;> omega
  simp [f_rests_behind, b_rests_behind, dStart, arSl]
  refine sum_run hz (by omega) (by omega) fun _ => ?_
  rw [zs]
  simp [eqv_rD]
  rcases hr with hr | ⟨hr, t, ht⟩
  · rw [if_pos hr]
    exact hk
  · rw [if_neg (by grind)]
    refine leftl_run (tp := PyData.tuple) hI (.inl rfl) gl hg ?_
    refine leftlev_run hI h5 gl hg ha hr fun u hu hub _ => ?_
    have hl := rest_lev hs ht
    rw [zs] at hl
    have : u = t := hu.uniq hr hl
    subst this
    exact dorest_run (left_ok hI hg) (by omega) ht hz hub (by omega) hk
theorem eqs_list : ∀ (s : List Rat), PyData.eqv (.tuple (s.map rD)) (.tuple (s.map rD)) = true
  | [] => rfl
  | c :: cs => by
    rw [List.map_cons, eqvAll_cons, eqs_list cs]
    have : PyData.eqv (rD c) (rD c) = true := by rw [eqv_rD]; simp
    rw [this]
    rfl
theorem shaped_list (cs : List Rat) : SeqAt.shaped (.tuple (cs.map rD)) = true := by
  have h1 : PyData.canLayAll0 (cs.map rD) = true := by
    induction cs with
    | nil => rfl
    | cons c cs ih => rw [List.map_cons, PyData.canLayAll0, ih]; rfl
  have h3 : PyData.depthAll (cs.map rD) ≤ 1 := by
    clear h1
    induction cs with
    | nil => exact Nat.zero_le _
    | cons c cs ih =>
      rw [List.map_cons, PyData.depthAll]
      have : (rD c).depth = 1 := by simp [rD, PyData.depth, PyData.depthAll]
      omega
  have h2 : (PyData.tuple (cs.map rD)).depth ≤ 64 := by
    rw [PyData.depth]
    omega
  unfold SeqAt.shaped
  rw [show (PyData.tuple (cs.map rD)).canLay0 = PyData.canLayAll0 (cs.map rD) by simp [PyData.canLay0], h1, decide_eq_true h2]
  rfl
/-- a plan is shown -/
theorem shows_runG (hI : Ins I) (h5 : I.length ≤ 5) (h : Dm d) (hs : Sh σ) {y g z : List Rat} (hp : PlanQ I d σ y g z) (ry : ∀ q ∈ y, RB q 50) (rg : ∀ q ∈ g, RB q 50) (rz : ∀ q ∈ z, RB q 1010) (hk : k (.bool true)) :
    (f_shows_plan [.d (.tuple (I.map lnI)), .d (rD d), .d (rD σ), .d (.tuple [.tuple (y.map rD), .tuple (g.map rD), .tuple (z.map rD), rD (whQ (I.map toL) (plusL g z))])]).run k w := by
  have l1 := hI.l1
  obtain ⟨l, hyl⟩ := hp.best
  have yl : y.length = I.length := by rw [hyl.len]; simp [steepQ]
  have lok := hI.lok
  have ra : RB (σ * d) 17 := (hs.rb.mul' h.rb).mono (by omega)
  have rr : RB (d - σ * d) 30 := (h.rb.sub' ra).mono (by omega)
  have b3 : (y.length + 1) * (50 + 1) ≤ 6 * (50 + 1) := Nat.mul_le_mul_right _ (by omega)
  have m5 : (I.length + 1) * (1061 + (7 + 1061 + 10 + 1) + 1) ≤ 6 * (1061 + (7 + 1061 + 10 + 1) + 1) := Nat.mul_le_mul_right _ (by omega)
  have m6 : (I.length + 1) * (250 + (7 + 250 + 10 + 1) + 1) ≤ 6 * (250 + (7 + 250 + 10 + 1) + 1) := Nat.mul_le_mul_right _ (by omega)
  have m7 : (I.length + 1) * (50 + (7 + 50 + 10 + 1) + 1) ≤ 6 * (50 + (7 + 50 + 10 + 1) + 1) := Nat.mul_le_mul_right _ (by omega)
  generalize hC : whQ (I.map toL) (plusL g z) = C
  simp only [f_shows_plan, rw_dRun, dStart, arSl, List.map_cons, List.map_nil]
  unfold b_shows_plan
  simp only [run_bind]
  refine seq_mid (fun δ => δ = [.p (.tuple (I.map lnI)), .p (rD d), .p (rD σ), .p (.tuple [.tuple (y.map rD), .tuple (g.map rD), .tuple (z.map rD), rD C]), .non, .non, .non, .non, .non, .non, .non]) (by simp; exact share_run hI h hs (by simp)) ?_
  rintro δ rfl
  refine seq_mid (fun δ => δ = [.p (.tuple (I.map lnI)), .p (rD d), .p (rD σ), .p (.tuple [.tuple (y.map rD), .tuple (g.map rD), .tuple (z.map rD), rD C]), .non, .non, .non, .non, .non, .non, .non]) ?_ ?_
  · simp
    refine isratio_run ?_
    simp
  rintro δ rfl
  refine seq_mid (fun δ => δ = [.p (.tuple (I.map lnI)), .p (rD d), .p (rD σ), .p (.tuple [.tuple (y.map rD), .tuple (g.map rD), .tuple (z.map rD), rD C]), .p (.tuple (y.map rD)), .p (.tuple (g.map rD)), .p (.tuple (z.map rD)), .p (rD C), .non, .non, .non]) (by simp) ?_
  rintro δ rfl
  refine seq_mid (fun δ => δ = [.p (.tuple (I.map lnI)), .p (rD d), .p (rD σ), .p (.tuple [.tuple (y.map rD), .tuple (g.map rD), .tuple (z.map rD), rD C]), .p (.tuple (y.map rD)), .p (.tuple (g.map rD)), .p (.tuple (z.map rD)), .p (rD C), .non, .non, .non]) ?_ ?_
  · simp [rw_ga1]
    refine ⟨by decide, areflows_run (by simpa using yl) hyl.pos ?_⟩
    simp
    refine areflows_run (by simpa using hp.gl) hp.gp ?_
    simp
    refine areflows_run (by simpa using hp.zl) hp.zp ?_
    simp
    refine sum_run ry (by omega) (by omega) fun _ => ?_
    rw [hp.ys]
    simp [eqv_rD]
  rintro δ rfl
  refine seq_mid (fun δ => δ = [.p (.tuple (I.map lnI)), .p (rD d), .p (rD σ), .p (.tuple [.tuple (y.map rD), .tuple (g.map rD), .tuple (z.map rD), rD C]), .p (.tuple (y.map rD)), .p (.tuple (g.map rD)), .p (.tuple (z.map rD)), .p (rD C), .non, .non, .non]) ?_ ?_
  · simp
    refine total_runT hI (.inl rfl) yl ry (by omega) (by omega) fun _ => ?_
    refine best_run hI h5 h fun u hu => ?_
    refine total_run hI hu.len hu.rb (by omega) (by omega) fun _ => ?_
    obtain ⟨l2, hul⟩ := hu.rest
    have e : whQ (I.map toL) y = whQ (I.map toL) u := by
      have a1 := best_least lok hyl hu.pos (by simpa using hu.len) (by rw [hu.sum, hp.ys])
      have a2 := best_least lok hul hyl.pos (by simpa using yl) (by rw [hu.sum, hp.ys])
      grind
    rw [e]
    simp [eqv_rD]
  rintro δ rfl
  refine seq_mid (fun δ => δ = [.p (.tuple (I.map lnI)), .p (rD d), .p (rD σ), .p (.tuple [.tuple (y.map rD), .tuple (g.map rD), .tuple (z.map rD), rD C]), .p (.tuple (y.map rD)), .p (.tuple (g.map rD)), .p (.tuple (z.map rD)), .p (rD C), .non, .p (rD (σ * d)), .non]) ?_ ?_
  · simp
    exact by_run' hs.rb h.rb (by omega) fun _ => rfl
  rintro δ rfl
  refine seq_mid (fun δ => δ = [.p (.tuple (I.map lnI)), .p (rD d), .p (rD σ), .p (.tuple [.tuple (y.map rD), .tuple (g.map rD), .tuple (z.map rD), rD C]), .p (.tuple (y.map rD)), .p (.tuple (g.map rD)), .p (.tuple (z.map rD)), .p (rD C), .non, .p (rD (σ * d)), .non]) ?_ ?_
  · simp
    refine led_runG (tp := PyData.tuple) hI (.inl rfl) yl ry (by omega) (ra.mono (by omega)) (by omega) ?_
    rw [← hp.led]
    simp
    refine ⟨shaped_list _, ?_⟩
    rw [eqs_list]
    simp
    refine minus_run' h.rb ra (by omega) fun _ => ?_
    refine rbehind_run hI h5 hp.gl rg rz hp.zs rr hp.rest hp.zl ?_
    simp
  rintro δ rfl
  simp
  refine ⟨by simp [zipD_len, hp.gl, hp.zl]; exact lt_line (by omega), wholelc_run (fun p hp => ⟨_, rfl, rfl, rfl⟩) rg rz ?_⟩
  refine total_run hI (by rw [plusL_len (by rw [hp.zl, hp.gl]), hp.gl]) (whole_rb rg rz) (by omega) (by omega) fun _ => ?_
  rw [hC]
  simp [eqv_rD]
  exact hk
/-- the law's share -/
theorem lshare_q (n : Int) (n0 : 0 ≤ n) (n1 : n < 8) : Sh ((n : Rat) / ((7 : Int) : Rat)) ∧ ((n : Rat) / ((7 : Int) : Rat)).den ≤ 7 := by
  obtain ⟨e1, e2⟩ := ratio_nd (t := n) (b := 7) (by omega)
  have g := gcd_pos' (t := n) (b := 7) (by omega)
  have l2 := Int.ediv_le_self (b := ((Nat.gcd n.natAbs (7 : Int).natAbs : Nat) : Int)) (show 0 ≤ (7 : Int) by omega)
  have l1 : n / ((Nat.gcd n.natAbs (7 : Int).natAbs : Nat) : Int) ≤ 7 / ((Nat.gcd n.natAbs (7 : Int).natAbs : Nat) : Int) := Int.ediv_le_ediv (by omega) (by omega)
  have l0 : 0 ≤ n / ((Nat.gcd n.natAbs (7 : Int).natAbs : Nat) : Int) := Int.ediv_nonneg n0 (by omega)
  exact ⟨⟨by omega, by omega, by omega⟩, by omega⟩
end

end Tr

set_option Elab.async false
set_option linter.all false
set_option maxRecDepth 100000
set_option maxHeartbeats 4000000
namespace Tr
open PySem PySem.Spec L2
theorem eqs_rD {x : Rat} : PyData.eqv (rD x) (rD x) = true := by rw [eqv_rD]; simp
def slowI (c : Int) (I : List (Int × Int)) : List (Int × Int) := I.map fun x => (x.1 * c, x.2 * c)
def stpI (c : Int) (I : List (Int × Int)) : List (Int × Int) := I.map fun x => (x.1 * c, x.2)
theorem slowI_toL {c : Int} {I : List (Int × Int)} : (slowI c I).map toL = slowQ c (I.map toL) := by
  simp only [slowI, slowQ, List.map_map]
  refine List.map_congr_left fun x _ => ?_
  simp only [Function.comp_apply, toL, icast_mul]
theorem stpI_toL {c : Int} {I : List (Int × Int)} : (stpI c I).map toL = stpQ c (I.map toL) := by
  simp only [stpI, stpQ, List.map_map]
  refine List.map_congr_left fun x _ => ?_
  simp only [Function.comp_apply, toL]
variable {I : List (Int × Int)} {d σ : Rat} {y g z : List Rat} {c : Int}
theorem PlanQ.slow (hc : 0 < c) (h : PlanQ I d σ y g z) : PlanQ (slowI c I) d σ y g z := by
  have cp : (0 : Rat) < c := by exact_mod_cast hc
  obtain ⟨l, hl⟩ := h.best
  refine ⟨⟨l * c, ?_⟩, h.ys, ?_, by simpa [slowI] using h.gl, h.gp, by simpa [slowI] using h.zl, h.zp, h.zs, ?_⟩
  · rw [slowI_toL, steep_slow]
    exact rest_slow hc hl
  · rw [slowI_toL, tms_slow]
    unfold ledQ
    rw [fall_scale cp]
    exact h.led
  · rcases h.rest with q | ⟨q, t, ht⟩
    · exact .inl q
    · refine .inr ⟨q, t * c, ?_⟩
      rw [slowI_toL, left_slow]
      exact rest_slow hc ht
theorem plus_scale {k : Rat} {g z : List Rat} : plusL (g.map (k * ·)) (z.map (k * ·)) = (plusL g z).map (k * ·) := by
  induction g generalizing z with
  | nil => rfl
  | cons a g ih => cases z with
    | nil => rfl
    | cons b z =>
      have := ih (z := z)
      simp only [plusL, List.map_cons, List.zipWith_cons_cons] at this ⊢
      rw [this]
      congr 1
      grind
theorem PlanQ.stp (hc : 0 < c) (h : PlanQ I d σ y g z) : PlanQ (stpI c I) (1 / (c : Rat) * d) σ (y.map (1 / (c : Rat) * ·)) (g.map (1 / (c : Rat) * ·)) (z.map (1 / (c : Rat) * ·)) := by
  have kp : (0 : Rat) < 1 / (c : Rat) := qdiv_pos (by grind) hc
  have mp : ∀ f : List Rat, Pos0 f → Pos0 (f.map (1 / (c : Rat) * ·)) := fun f hf q hq => by
    obtain ⟨v, hv, rfl⟩ := List.mem_map.mp hq
    exact Rat.mul_nonneg (Rat.le_of_lt kp) (hf v hv)
  obtain ⟨l, hl⟩ := h.best
  refine ⟨⟨l, ?_⟩, ?_, ?_, by simpa [stpI] using h.gl, mp g h.gp, by simpa [stpI] using h.zl, mp z h.zp, ?_, ?_⟩
  · rw [stpI_toL, steep_stp]
    exact rest_stp hc hl
  · rw [sum_map_mul, h.ys]
  · rw [stpI_toL, tms_stp hc]
    have e : σ * (1 / (c : Rat) * d) = 1 / (c : Rat) * (σ * d) := by grind
    have e2 : List.replicate (y.map (1 / (c : Rat) * ·)).length (0 : Rat) = (List.replicate y.length (0 : Rat)).map (1 / (c : Rat) * ·) := by
      rw [List.length_map, List.map_replicate, Rat.mul_zero]
    unfold ledQ
    rw [e, e2, led_scale kp]
    rw [show g = ledG y (fallQ (tmsQ (I.map toL) y)) (σ * d) (List.replicate y.length 0) from h.led]
  · rw [sum_map_mul, h.zs]
    grind
  · have e : 1 / (c : Rat) * d - σ * (1 / (c : Rat) * d) = 1 / (c : Rat) * (d - σ * d) := by grind
    rw [e]
    rcases h.rest with q | ⟨q, t, ht⟩
    · exact .inl (by rw [q, Rat.mul_zero])
    · refine .inr ⟨Rat.mul_pos kp q, t, ?_⟩
      rw [stpI_toL, left_stp hc]
      exact rest_stp hc ht
theorem scaled_rb {f : List Rat} {B : Nat} (hc : 0 < c) (hc4 : c ≤ 4) (hf : ∀ q ∈ f, RB q B) : ∀ q ∈ f.map (1 / (c : Rat) * ·), RB q (4 + B) := by
  intro q hq
  obtain ⟨v, hv, rfl⟩ := List.mem_map.mp hq
  have : RB (1 / (c : Rat)) 4 := RB.div' (p := 1) (a := 1) (b := 3) (rat_pos_int hc) (rb_int (a := 1) (by decide) (by omega)) (rb_int (by show _ < 8; omega) (by omega))
  exact this.mul' (hf v hv)
theorem max2_run {k : D → Prop} {w : Exn → Prop} {x : Int × Int} (hk : k (.int (max x.1 x.2))) : (bMaxL [lnI x]).run k w := by
  refine max_run (ns := [x.1, x.2]) (tp := PyData.tuple) (.inl rfl) (by simp) fun m hm hy => ?_
  have h1 := hy x.1 (by simp)
  have h2 := hy x.2 (by simp)
  have : m = max x.1 x.2 := by
    simp at hm
    omega
  rw [this]
  exact hk
theorem mul_le_self {s d : Rat} (h : s ≤ 1) (hd : 0 < d) : s * d ≤ d := by
  have := Rat.mul_nonneg (show 0 ≤ 1 - s by grind) (Rat.le_of_lt hd)
  grind
theorem add_back {a d : Rat} : a + (d - a) = d := by grind
theorem law_true (C : Cs) (a : Addr) (ns : List Int) (hz : (a, ns) ∈ C.Z) (hn : ns.length ≤ 63) (hb : ∀ z ∈ ns, Builtin.Int.intBits z ≤ 1048576) : (f_law C [.v (.ref a)]).run (fun d => d = .bool true) (fun _ => False) := by
  show ((b_law C (dStart 18 [.v (.ref a)])).bind _).run _ _
  rw [run_bind]
  unfold b_law
  refine seq_mid (fun δ => ∃ r, δ = [.v (.ref a), .t r (RowP r a), .non, .non, .non, .non, .non, .non, .non, .non, .non, .non, .non, .non, .non, .non, .non, .non]) ?_ ?_
  · simp [dStart, arSl]
  rintro δ ⟨r, rfl⟩
  have hr : RO C r (RowP r a) := ⟨(a, ns), hz, rfl, hn⟩
  refine seq_mid (fun δ => ∃ I d c, Lw I ∧ Dm d ∧ 2 ≤ c ∧ c ≤ 4 ∧ δ = [.v (.ref a), .t r (RowP r a), .p (.tuple (I.map lnI)), .p (rD d), .p (.int c), .non, .non, .non, .non, .non, .non, .non, .non, .non, .non, .non, .non, .non]) ?_ ?_
  · simp
    refine llanes_run hr fun I hI => ldemand_run hr fun d hd => taken_run hr (by omega) (by omega) fun n n0 n1 => ?_
    simp
    exact ⟨by decide, I, hI, d, hd, 2 + n, by omega, by omega, rfl, rfl, rfl⟩
  rintro δ ⟨I, d, c, hI, hd, c2, c4, rfl⟩
  have hc : 0 < c := by omega
  have cp : (0 : Rat) < c := by exact_mod_cast hc
  have hi := hI.ins
  have h5 := hI.l2
  refine seq_mid (fun δ => ∃ σ, Sh σ ∧ σ.den ≤ 7 ∧ δ = [.v (.ref a), .t r (RowP r a), .p (.tuple (I.map lnI)), .p (rD d), .p (.int c), .p (rD σ), .non, .non, .non, .non, .non, .non, .non, .non, .non, .non, .non, .non]) ?_ ?_
  · simp
    refine ⟨two_le_line, taken_run hr (by omega) (by omega) fun n n0 n1 => ?_⟩
    refine lratio_run (B := 4) (by omega) (by show _ < 16; omega) (by decide) (by omega) fun _ => ⟨by decide, pick_run hr (by simp) (by simp) fun e he => ?_⟩
    have R : ∀ q : Rat, Sh q ∧ q.den ≤ 7 → e = rD q → ∃ σ, Sh σ ∧ σ.den ≤ 7 ∧ e = rD σ := fun q h1 h2 => ⟨q, h1.1, h1.2, h2⟩
    simp at he
    suffices h : ∃ σ, Sh σ ∧ σ.den ≤ 7 ∧ e = rD σ by
      obtain ⟨σ, h1, h2, h3⟩ := h
      exact ⟨σ, h1, h2, h3⟩
    rcases he with rfl | rfl | rfl | rfl | rfl
    · exact R ⟨0, 1, by decide, by decide⟩ ⟨⟨by decide, by decide, by decide⟩, by decide⟩ rfl
    · exact R ⟨1, 1, by decide, by decide⟩ ⟨⟨by decide, by decide, by decide⟩, by decide⟩ rfl
    · exact R ⟨1, 2, by decide, by decide⟩ ⟨⟨by decide, by decide, by decide⟩, by decide⟩ rfl
    · exact R ⟨1, 3, by decide, by decide⟩ ⟨⟨by decide, by decide, by decide⟩, by decide⟩ rfl
    · exact R _ (lshare_q n n0 n1) rfl
  rintro δ ⟨σ, hs, h7, rfl⟩
  refine seq_mid (fun δ => ∃ y g z, PlanQ I d σ y g z ∧ (∀ q ∈ y, RB q 34) ∧ (∀ q ∈ g, RB q 44) ∧ (∀ q ∈ z, RB q 1000) ∧ RB (whQ (I.map toL) (plusL g z)) 11000 ∧ δ = [.v (.ref a), .t r (RowP r a), .p (.tuple (I.map lnI)), .p (rD d), .p (.int c), .p (rD σ), .p (.tuple (y.map rD)), .p (.tuple (g.map rD)), .p (.tuple (z.map rD)), .p (rD (whQ (I.map toL) (plusL g z))), .non, .non, .non, .non, .non, .non, .non, .non]) ?_ ?_
  · rw [rw_asg]
    simp only [rw_call, run_bind, rw_aCons, rw_aNil, rw_dV, List.getElem?_cons_succ, List.getElem?_cons_zero, slotP_p, pure_bind, run_need]
    refine ⟨rfl, plan_runG hI hd hs h7 fun y g z hp r1 r2 r3 r4 => ?_⟩
    exact ⟨_, rfl, y, g, z, hp, r1, r2, r3, r4, rfl⟩
  rintro δ ⟨y, g, z, hp, ry, rg, rz, rC, rfl⟩
  generalize hC : whQ (I.map toL) (plusL g z) = W at rC ⊢
  have mul10 : ∀ m : Int, 0 ≤ m → m ≤ 1000 → CMulW m c := fun m m0 m1 => cmul (nb10 m0 m1) (show c.natAbs < 2 ^ 3 by show _ < 8; omega) (by omega)
  have cq : PyData.tuple [.int c, .int 1] = rD (c : Rat) := rfl
  have rcq : RB (c : Rat) 3 := rb_int (by show _ < 8; omega) (by omega)
  refine seq_mid (fun δ => ∃ s10 s11, δ = [.v (.ref a), .t r (RowP r a), .p (.tuple (I.map lnI)), .p (rD d), .p (.int c), .p (rD σ), .p (.tuple (y.map rD)), .p (.tuple (g.map rD)), .p (.tuple (z.map rD)), .p (rD W), s10, s11, .non, .non, .non, .non, .non, .non]) ?_ ?_
  · rw [rw_if]
    simp
    refine ⟨lt_line (by omega), lc_run (p := fun _ => true) (h := fun x => .int (max x.1 x.2)) (fun x hx => ⟨_, rfl, fun kb hkb => ?_, fun _ kd hkd => ?_⟩) ?_⟩
    · simpa using hkb
    · simp
      exact max2_run hkd
    rw [List.filter_eq_self.mpr (by simp), show (I.map fun x => PyData.int (max x.1 x.2)) = (I.map fun x => max x.1 x.2).map PyData.int by simp [Function.comp_def]]
    refine max_run (tp := PyData.list) (.inr rfl) (by have := hI.l1; simp; omega) fun m hm hmy => ?_
    have hm01 : 0 ≤ m ∧ m ≤ 1000 := by
      obtain ⟨x, hx, rfl⟩ := List.mem_map.mp hm
      have := hi.sl x hx
      have := hi.bs x hx
      omega
    refine ⟨mul10 m hm01.1 hm01.2, ?_⟩
    by_cases c1 : m * c ≤ 100
    · simp [c1]
      have hsl : Ins (slowI c I) := by
        have hx : ∀ x ∈ I, x.1 * c ≤ 100 ∧ x.2 * c ≤ 100 ∧ 0 ≤ x.1 * c ∧ 0 ≤ x.2 * c := fun x hx => by
          have h1 := hmy _ (List.mem_map.mpr ⟨x, hx, rfl⟩)
          have h2 := Int.mul_le_mul_of_nonneg_right (show x.1 ≤ m by omega) (show 0 ≤ c by omega)
          have h3 := Int.mul_le_mul_of_nonneg_right (show x.2 ≤ m by omega) (show 0 ≤ c by omega)
          have h4 := Int.mul_nonneg (hi.sl x hx).1 (show 0 ≤ c by omega)
          have h5 := Int.mul_nonneg (hi.bs x hx).1 (show 0 ≤ c by omega)
          omega
        refine ⟨by simpa [slowI] using hi.l1, by simpa [slowI] using hi.l2, fun v hv => ?_, fun v hv => ?_⟩
        · obtain ⟨x, hx', rfl⟩ := List.mem_map.mp hv
          have := hx x hx'
          exact ⟨this.2.2.1, this.1⟩
        · obtain ⟨x, hx', rfl⟩ := List.mem_map.mp hv
          have := hx x hx'
          exact ⟨this.2.2.2, by show x.2 * c ≤ 1000; omega⟩
      refine ⟨lt_line (by omega), lc_run (p := fun _ => true) (h := fun x => lnI (x.1 * c, x.2 * c)) (fun x hx => ⟨_, rfl, fun kb hkb => ?_, fun _ kd hkd => ?_⟩) ?_⟩
      · simpa using hkb
      · have h1 := hi.sl x hx
        have h2 := hi.bs x hx
        simp [lnI]
        exact ⟨mul10 _ h1.1 (by omega), mul10 _ h2.1 h2.2, two_le_line, hkd⟩
      rw [List.filter_eq_self.mpr (by simp), show (I.map fun x => lnI (x.1 * c, x.2 * c)) = (slowI c I).map lnI by simp [slowI, Function.comp_def]]
      rw [cq]
      refine ⟨two_le_line, lby_runG rcq rC (by rw [Rat.num_intCast]; omega) (by omega) (by omega) fun _ => ⟨by decide, ?_⟩⟩
      have e : (c : Rat) * W = whQ ((slowI c I).map toL) (plusL g z) := by rw [slowI_toL, wh_slow, hC]
      rw [e]
      refine shows_runG hsl (by simpa [slowI] using h5) hd hs (hp.slow hc) (fun q hq => (ry q hq).mono (by omega)) (fun q hq => (rg q hq).mono (by omega)) (fun q hq => (rz q hq).mono (by omega)) ?_
      simp
      refine lrest_run hsl hd fun t' ht' _ _ _ => ?_
      simp
      refine ⟨two_le_line, lrest_run hi hd fun t ht htb _ _ => ?_⟩
      simp
      refine lby_run' rcq htb (by omega) fun _ => ?_
      have h0 : ∀ x ∈ I.map toL, 0 ≤ x.1 := fun x hx => by rcases hi.sg x hx with z | z <;> omega
      have h0' : ∀ x ∈ slowQ c (I.map toL), 0 ≤ x.1 := fun x hx => by
        rw [← slowI_toL] at hx
        rcases hsl.sg x hx with z | z <;> omega
      have fw := ht.flows h0
      have l2 := rest_lev h0' (rest_slow hc fw.1)
      rw [fw.2] at l2
      rw [slowI_toL] at ht'
      have : t' = (c : Rat) * t := by rw [ht'.uniq hd.pos l2]; exact Rat.mul_comm _ _
      rw [this]
      simp [eqs_rD]
    · simp [c1]
  rintro δ ⟨s10, s11, rfl⟩
  have kq : PyData.tuple [.int 1, .int c] = rD (1 / (c : Rat)) := inv_rD hc
  have rk : RB (1 / (c : Rat)) 4 := RB.div' (p := 1) (a := 1) (b := 3) (rat_pos_int hc) (rb_int (a := 1) (by decide) (by omega)) (rb_int (by show _ < 8; omega) (by omega))
  have rd' : RB (1 / (c : Rat) * d) 14 := (rk.mul' hd.rb).mono (by omega)
  refine seq_mid (fun δ => δ = [.v (.ref a), .t r (RowP r a), .p (.tuple (I.map lnI)), .p (rD d), .p (.int c), .p (rD σ), .p (.tuple (y.map rD)), .p (.tuple (g.map rD)), .p (.tuple (z.map rD)), .p (rD W), s10, s11, .p (rD (1 / (c : Rat) * d)), .non, .non, .non, .non, .non]) ?_ ?_
  · simp
    rw [kq]
    refine ⟨two_le_line, lby_run' hd.rb rk (by omega) fun _ => ?_⟩
    rw [Rat.mul_comm]
  rintro δ rfl
  refine seq_mid (fun δ => ∃ s10 s13 s14 s15 s16, δ = [.v (.ref a), .t r (RowP r a), .p (.tuple (I.map lnI)), .p (rD d), .p (.int c), .p (rD σ), .p (.tuple (y.map rD)), .p (.tuple (g.map rD)), .p (.tuple (z.map rD)), .p (rD W), s10, s11, .p (rD (1 / (c : Rat) * d)), s13, s14, s15, s16, .non]) ?_ ?_
  · rw [rw_if]
    simp
    refine ⟨lt_line (by omega), lc_run (p := fun _ => true) (h := fun x => .int x.1) (fun x hx => ⟨_, rfl, fun kb hkb => ?_, fun _ kd hkd => ?_⟩) ?_⟩
    · simpa using hkb
    · simpa [lnI] using hkd
    rw [List.filter_eq_self.mpr (by simp), show (I.map fun x => PyData.int x.1) = (I.map fun x => x.1).map PyData.int by simp [Function.comp_def]]
    refine max_run (tp := PyData.list) (.inr rfl) (by have := hI.l1; simp; omega) fun m hm hmy => ?_
    have hm01 : 0 ≤ m ∧ m ≤ 1000 := by
      obtain ⟨x, hx, rfl⟩ := List.mem_map.mp hm
      have := hi.sl x hx
      omega
    refine ⟨mul10 m hm01.1 hm01.2, ?_⟩
    by_cases c1 : m * c ≤ 100
    · by_cases c2 : ((1 / (c : Rat) * d).den : Int) ≤ 100
      · simp [c1, c2]
        have hsl : Ins (stpI c I) := by
          have hx : ∀ x ∈ I, x.1 * c ≤ 100 ∧ 0 ≤ x.1 * c := fun x hx => by
            have h1 := hmy _ (List.mem_map.mpr ⟨x, hx, rfl⟩)
            have h2 := Int.mul_le_mul_of_nonneg_right (show x.1 ≤ m by omega) (show 0 ≤ c by omega)
            have h4 := Int.mul_nonneg (hi.sl x hx).1 (show 0 ≤ c by omega)
            omega
          refine ⟨by simpa [stpI] using hi.l1, by simpa [stpI] using hi.l2, fun v hv => ?_, fun v hv => ?_⟩
          · obtain ⟨x, hx', rfl⟩ := List.mem_map.mp hv
            have := hx x hx'
            exact ⟨this.2, this.1⟩
          · obtain ⟨x, hx', rfl⟩ := List.mem_map.mp hv
            exact hi.bs x hx'
        have hd' : Dm (1 / (c : Rat) * d) := by
          have kp : (0 : Rat) < 1 / (c : Rat) := qdiv_pos (by grind) hc
          have dp := Rat.mul_pos kp hd.pos
          refine ⟨by have := num_pos.mpr dp; omega, ?_, by omega⟩
          have e : 1 / (c : Rat) * d = ((d.num : Int) : Rat) / (((d.den : Int) * c : Int) : Rat) := by
            conv => lhs; rw [rat_nd d]
            have h1 := den_ne d
            have h2 : (c : Rat) ≠ 0 := by grind
            push_cast
            grind
          have h1 := (ratio_nd (t := d.num) (b := (d.den : Int) * c) (Int.mul_pos (by have := d.den_pos; omega) hc)).1
          rw [← e] at h1
          have h2 := Int.ediv_le_self (b := ((Nat.gcd d.num.natAbs ((d.den : Int) * c).natAbs : Nat) : Int)) (show 0 ≤ d.num by have := hd.n1; omega)
          have := hd.n2
          omega
        refine ⟨lt_line (by omega), lc_run (p := fun _ => true) (h := fun x => lnI (x.1 * c, x.2)) (fun x hx => ⟨_, rfl, fun kb hkb => ?_, fun _ kd hkd => ?_⟩) ?_⟩
        · simpa using hkb
        · have h1 := hi.sl x hx
          simp [lnI]
          exact ⟨mul10 _ h1.1 (by omega), two_le_line, hkd⟩
        rw [List.filter_eq_self.mpr (by simp), show (I.map fun x => lnI (x.1 * c, x.2)) = (stpI c I).map lnI by simp [stpI, Function.comp_def]]
        refine ⟨by decide, ?_⟩
        show Wp.run (lcLoop _ _ _ _ ([y, g, z].map fun f => PyData.tuple (f.map rD))) _ _
        refine lc_run (p := fun _ => true) (h := fun f => PyData.tuple ((f.map (1 / (c : Rat) * ·)).map rD)) (fun f hf => ⟨_, rfl, fun kb hkb => ?_, fun _ kd hkd => ?_⟩) ?_
        · simpa using hkb
        · have hf1 : (∀ q ∈ f, RB q 1000) ∧ f.length = I.length := by
            have yl : y.length = I.length := by
              obtain ⟨l, hyl⟩ := hp.best
              rw [hyl.len]
              simp [steepQ]
            rcases List.mem_cons.mp hf with rfl | hf
            · exact ⟨fun q hq => (ry q hq).mono (by omega), yl⟩
            rcases List.mem_cons.mp hf with rfl | hf
            · exact ⟨fun q hq => (rg q hq).mono (by omega), hp.gl⟩
            rcases List.mem_cons.mp hf with rfl | hf
            · exact ⟨rz, hp.zl⟩
            cases hf
          simp
          refine ⟨lt_line (by omega), lc_run (p := fun _ => true) (h := fun q => rD (1 / (c : Rat) * q)) (fun q hq => ⟨_, rfl, fun kb hkb => ?_, fun _ kd hkd => ?_⟩) ?_⟩
          · simpa using hkb
          · simp
            rw [kq]
            refine ⟨two_le_line, lby_run' (hf1.1 q hq) rk (by omega) fun _ => ?_⟩
            rw [Rat.mul_comm]
            exact hkd
          · rw [List.filter_eq_self.mpr (by simp)]
            simpa [Function.comp_def] using hkd
        rw [List.filter_eq_self.mpr (by simp)]
        simp only [List.map_cons, List.map_nil, atI_0, atI_1, atI_2, optW_some, run_pure]
        rw [kq]
        refine ⟨two_le_line, lby_runG' rC rk (by have := num_pos.mpr (show (0 : Rat) < 1 / (c : Rat) from qdiv_pos (by grind) hc); omega) (by omega) (by omega) fun _ => ⟨by decide, ?_⟩⟩
        have e : W * (1 / (c : Rat)) = whQ ((stpI c I).map toL) (plusL (g.map (1 / (c : Rat) * ·)) (z.map (1 / (c : Rat) * ·))) := by rw [plus_scale, stpI_toL, wh_stp hc, hC, Rat.mul_comm]
        rw [e]
        refine shows_runG hsl (by simpa [stpI] using h5) hd' hs (hp.stp hc) (fun q hq => (scaled_rb hc c4 ry q hq).mono (by omega)) (fun q hq => (scaled_rb hc c4 rg q hq).mono (by omega)) (fun q hq => (scaled_rb hc c4 rz q hq).mono (by omega)) ?_
        simp
      · simp [c1, c2]
    · simp [c1]
  rintro δ ⟨s10, s13, s14, s15, s16, rfl⟩
  have rgz : ∀ q ∈ g ++ z, RB q 1000 := fun q hq => by
    rcases List.mem_append.mp hq with z | z
    · exact (rg q z).mono (by omega)
    · exact rz q z
  have gl := hp.gl
  have zl := hp.zl
  obtain ⟨l, hyl⟩ := hp.best
  have yl : y.length = I.length := by rw [hyl.len]; simp [steepQ]
  have sg : sumQ g = σ * d := by
    have hs1 := hs.le1
    have hs0 := hs.pos
    have e := (led_all (y := y) (ts := tmsQ (I.map toL) y) (a := σ * d) hyl.pos (by rw [tms_len (by simpa using yl)]; simp [yl]) (Rat.mul_nonneg hs0 (Rat.le_of_lt hd.pos)) (by rw [hp.ys]; exact mul_le_self hs1 hd.pos)).2.1
    rw [← hp.led] at e
    exact e
  have n1 : ((g ++ z).length + 1) * (1000 + 1) ≤ 11 * (1000 + 1) := Nat.mul_le_mul_right _ (by simp; omega)
  have n2 : (g.length + 1) * (44 + 1) ≤ 6 * (44 + 1) := Nat.mul_le_mul_right _ (by omega)
  have n3 : (y.length + 1) * (34 + 1) ≤ 6 * (34 + 1) := Nat.mul_le_mul_right _ (by omega)
  simp [-List.map_append]
  refine ⟨lt_line (by omega), ?_⟩
  rw [← List.map_append]
  refine lsum_run rgz (by omega) (by omega) fun _ => ?_
  have e1 : sumQ (g ++ z) = d := by rw [sum_append, sg, hp.zs]; exact add_back
  rw [e1]
  simp [eqs_rD]
  refine lsum_run rg (by omega) (by omega) fun _ => ?_
  refine lby_run' hs.rb hd.rb (by omega) fun _ => ?_
  rw [sg]
  simp [eqs_rD]
  refine lsum_run ry (by omega) (by omega) fun _ => ?_
  rw [hp.ys]
  simp [eqs_rD]
end Tr

set_option Elab.async false
set_option linter.all false
set_option maxRecDepth 100000
set_option maxHeartbeats 4000000
namespace Tr
open PySem PySem.Spec L2
structure Tp (C : Cs) (base : Heap) : Prop where
  d_law_taken : ∃ fd, FunD C.K "_law_taken" "_law_taken" (defArgs s_law_taken) (defBody s_law_taken) (defScope s_law_taken) [] [] (He.ga C.K "_law_taken") fd
  g_law_taken : C.mg "_law_taken" = some (.ref (He.ga C.K "_law_taken"))
  d_law_pick : ∃ fd, FunD C.K "_law_pick" "_law_pick" (defArgs s_law_pick) (defBody s_law_pick) (defScope s_law_pick) [] [] (He.ga C.K "_law_pick") fd
  g_law_pick : C.mg "_law_pick" = some (.ref (He.ga C.K "_law_pick"))
  d_law_ratio : ∃ fd, FunD C.K "_law_ratio" "_law_ratio" (defArgs s_law_ratio) (defBody s_law_ratio) (defScope s_law_ratio) [] [] (He.ga C.K "_law_ratio") fd
  g_law_ratio : C.mg "_law_ratio" = some (.ref (He.ga C.K "_law_ratio"))
  d_law_demand : ∃ fd, FunD C.K "_law_demand" "_law_demand" (defArgs s_law_demand) (defBody s_law_demand) (defScope s_law_demand) [] [] (He.ga C.K "_law_demand") fd
  g_law_demand : C.mg "_law_demand" = some (.ref (He.ga C.K "_law_demand"))
  d_law_lanes : ∃ fd, FunD C.K "_law_lanes" "_law_lanes" (defArgs s_law_lanes) (defBody s_law_lanes) (defScope s_law_lanes) [] [] (He.ga C.K "_law_lanes") fd
  g_law_lanes : C.mg "_law_lanes" = some (.ref (He.ga C.K "_law_lanes"))
  d_is_in : ∃ fd, FunD C.K "is_in" "is_in" (defArgs s_is_in) (defBody s_is_in) (defScope s_is_in) [] [] (He.ga C.K "is_in") fd
  g_is_in : C.mg "is_in" = some (.ref (He.ga C.K "is_in"))
  d_is_lane : ∃ fd, FunD C.K "is_lane" "is_lane" (defArgs s_is_lane) (defBody s_is_lane) (defScope s_is_lane) [] [] (He.ga C.K "is_lane") fd
  g_is_lane : C.mg "is_lane" = some (.ref (He.ga C.K "is_lane"))
  d_is_ratio : ∃ fd, FunD C.K "is_ratio" "is_ratio" (defArgs s_is_ratio) (defBody s_is_ratio) (defScope s_is_ratio) [] [] (He.ga C.K "is_ratio") fd
  g_is_ratio : C.mg "is_ratio" = some (.ref (He.ga C.K "is_ratio"))
  t_is_ratio : GxR.TabB base C.mg (He.codeOf C.K ("is_ratio", none)) (He.tabOf C.K (He.codeOf C.K ("is_ratio", none)))
  p_is_ratio : He.tabOf C.K (He.codeOf C.K ("is_ratio", none)) ∈ C.T
  d_need_demand : ∃ fd, FunD C.K "need_demand" "need_demand" (defArgs s_need_demand) (defBody s_need_demand) (defScope s_need_demand) [] [] (He.ga C.K "need_demand") fd
  g_need_demand : C.mg "need_demand" = some (.ref (He.ga C.K "need_demand"))
  d_need_lanes : ∃ fd, FunD C.K "need_lanes" "need_lanes" (defArgs s_need_lanes) (defBody s_need_lanes) (defScope s_need_lanes) [] [] (He.ga C.K "need_lanes") fd
  g_need_lanes : C.mg "need_lanes" = some (.ref (He.ga C.K "need_lanes"))
  d_need_share : ∃ fd, FunD C.K "need_share" "need_share" (defArgs s_need_share) (defBody s_need_share) (defScope s_need_share) [] [] (He.ga C.K "need_share") fd
  g_need_share : C.mg "need_share" = some (.ref (He.ga C.K "need_share"))
  d_with_ratios : ∃ fd, FunD C.K "with_ratios" "with_ratios" (defArgs s_with_ratios) (defBody s_with_ratios) (defScope s_with_ratios) [] [] (He.ga C.K "with_ratios") fd
  g_with_ratios : C.mg "with_ratios" = some (.ref (He.ga C.K "with_ratios"))
  d_steep : ∃ fd, FunD C.K "steep" "steep" (defArgs s_steep) (defBody s_steep) (defScope s_steep) [] [] (He.ga C.K "steep") fd
  g_steep : C.mg "steep" = some (.ref (He.ga C.K "steep"))
  d_ratio : ∃ fd, FunD C.K "ratio" "ratio" (defArgs s_ratio) (defBody s_ratio) (defScope s_ratio) [] [] (He.ga C.K "ratio") fd
  g_ratio : C.mg "ratio" = some (.ref (He.ga C.K "ratio"))
  d_minus : ∃ fd, FunD C.K "minus" "minus" (defArgs s_minus) (defBody s_minus) (defScope s_minus) [] [] (He.ga C.K "minus") fd
  g_minus : C.mg "minus" = some (.ref (He.ga C.K "minus"))
  d_less : ∃ fd, FunD C.K "less" "less" (defArgs s_less) (defBody s_less) (defScope s_less) [] [] (He.ga C.K "less") fd
  g_less : C.mg "less" = some (.ref (He.ga C.K "less"))
  d_plus : ∃ fd, FunD C.K "plus" "plus" (defArgs s_plus) (defBody s_plus) (defScope s_plus) [] [] (He.ga C.K "plus") fd
  g_plus : C.mg "plus" = some (.ref (He.ga C.K "plus"))
  d_over : ∃ fd, FunD C.K "over" "over" (defArgs s_over) (defBody s_over) (defScope s_over) [] [] (He.ga C.K "over") fd
  g_over : C.mg "over" = some (.ref (He.ga C.K "over"))
  d_taken_at : ∃ fd, FunD C.K "taken_at" "taken_at" (defArgs s_taken_at) (defBody s_taken_at) (defScope s_taken_at) [] [] (He.ga C.K "taken_at") fd
  g_taken_at : C.mg "taken_at" = some (.ref (He.ga C.K "taken_at"))
  d_flows_at : ∃ fd, FunD C.K "flows_at" "flows_at" (defArgs s_flows_at) (defBody s_flows_at) (defScope s_flows_at) [] [] (He.ga C.K "flows_at") fd
  g_flows_at : C.mg "flows_at" = some (.ref (He.ga C.K "flows_at"))
  d_sorted_ratios : ∃ fd, FunD C.K "sorted_ratios" "sorted_ratios" (defArgs s_sorted_ratios) (defBody s_sorted_ratios) (defScope s_sorted_ratios) [] [] (He.ga C.K "sorted_ratios") fd
  g_sorted_ratios : C.mg "sorted_ratios" = some (.ref (He.ga C.K "sorted_ratios"))
  d_sum_of : ∃ fd, FunD C.K "sum_of" "sum_of" (defArgs s_sum_of) (defBody s_sum_of) (defScope s_sum_of) [] [] (He.ga C.K "sum_of") fd
  g_sum_of : C.mg "sum_of" = some (.ref (He.ga C.K "sum_of"))
  d_level_of : ∃ fd, FunD C.K "level_of" "level_of" (defArgs s_level_of) (defBody s_level_of) (defScope s_level_of) [] [] (He.ga C.K "level_of") fd
  g_level_of : C.mg "level_of" = some (.ref (He.ga C.K "level_of"))
  d_best_flows : ∃ fd, FunD C.K "best_flows" "best_flows" (defArgs s_best_flows) (defBody s_best_flows) (defScope s_best_flows) [] [] (He.ga C.K "best_flows") fd
  g_best_flows : C.mg "best_flows" = some (.ref (He.ga C.K "best_flows"))
  d_by : ∃ fd, FunD C.K "by" "by" (defArgs s_by) (defBody s_by) (defScope s_by) [] [] (He.ga C.K "by") fd
  g_by : C.mg "by" = some (.ref (He.ga C.K "by"))
  d_lane_time : ∃ fd, FunD C.K "lane_time" "lane_time" (defArgs s_lane_time) (defBody s_lane_time) (defScope s_lane_time) [] [] (He.ga C.K "lane_time") fd
  g_lane_time : C.mg "lane_time" = some (.ref (He.ga C.K "lane_time"))
  d_falling : ∃ fd, FunD C.K "falling" "falling" (defArgs s_falling) (defBody s_falling) (defScope s_falling) [] [] (He.ga C.K "falling") fd
  g_falling : C.mg "falling" = some (.ref (He.ga C.K "falling"))
  d_led_of : ∃ fd, FunD C.K "led_of" "led_of" (defArgs s_led_of) (defBody s_led_of) (defScope s_led_of) [] [] (He.ga C.K "led_of") fd
  g_led_of : C.mg "led_of" = some (.ref (He.ga C.K "led_of"))
  d_left_lanes : ∃ fd, FunD C.K "left_lanes" "left_lanes" (defArgs s_left_lanes) (defBody s_left_lanes) (defScope s_left_lanes) [] [] (He.ga C.K "left_lanes") fd
  g_left_lanes : C.mg "left_lanes" = some (.ref (He.ga C.K "left_lanes"))
  d_others_of : ∃ fd, FunD C.K "others_of" "others_of" (defArgs s_others_of) (defBody s_others_of) (defScope s_others_of) [] [] (He.ga C.K "others_of") fd
  g_others_of : C.mg "others_of" = some (.ref (He.ga C.K "others_of"))
  d_total_of : ∃ fd, FunD C.K "total_of" "total_of" (defArgs s_total_of) (defBody s_total_of) (defScope s_total_of) [] [] (He.ga C.K "total_of") fd
  g_total_of : C.mg "total_of" = some (.ref (He.ga C.K "total_of"))
  d_leader_plan : ∃ fd, FunD C.K "leader_plan" "leader_plan" (defArgs s_leader_plan) (defBody s_leader_plan) (defScope s_leader_plan) [] [] (He.ga C.K "leader_plan") fd
  g_leader_plan : C.mg "leader_plan" = some (.ref (He.ga C.K "leader_plan"))
  d_are_flows : ∃ fd, FunD C.K "are_flows" "are_flows" (defArgs s_are_flows) (defBody s_are_flows) (defScope s_are_flows) [] [] (He.ga C.K "are_flows") fd
  g_are_flows : C.mg "are_flows" = some (.ref (He.ga C.K "are_flows"))
  t_are_flows : GxR.TabB base C.mg (He.codeOf C.K ("are_flows", none)) (He.tabOf C.K (He.codeOf C.K ("are_flows", none)))
  p_are_flows : He.tabOf C.K (He.codeOf C.K ("are_flows", none)) ∈ C.T
  d_do_rest : ∃ fd, FunD C.K "do_rest" "do_rest" (defArgs s_do_rest) (defBody s_do_rest) (defScope s_do_rest) [] [] (He.ga C.K "do_rest") fd
  g_do_rest : C.mg "do_rest" = some (.ref (He.ga C.K "do_rest"))
  d_rests_behind : ∃ fd, FunD C.K "rests_behind" "rests_behind" (defArgs s_rests_behind) (defBody s_rests_behind) (defScope s_rests_behind) [] [] (He.ga C.K "rests_behind") fd
  g_rests_behind : C.mg "rests_behind" = some (.ref (He.ga C.K "rests_behind"))
  d_shows_plan : ∃ fd, FunD C.K "shows_plan" "shows_plan" (defArgs s_shows_plan) (defBody s_shows_plan) (defScope s_shows_plan) [] [] (He.ga C.K "shows_plan") fd
  g_shows_plan : C.mg "shows_plan" = some (.ref (He.ga C.K "shows_plan"))
  t_shows_plan : GxR.TabB base C.mg (He.codeOf C.K ("shows_plan", none)) (He.tabOf C.K (He.codeOf C.K ("shows_plan", none)))
  p_shows_plan : He.tabOf C.K (He.codeOf C.K ("shows_plan", none)) ∈ C.T
  d_law_by : ∃ fd, FunD C.K "_law_by" "_law_by" (defArgs s_law_by) (defBody s_law_by) (defScope s_law_by) [] [] (He.ga C.K "_law_by") fd
  g_law_by : C.mg "_law_by" = some (.ref (He.ga C.K "_law_by"))
  d_lane_rest : ∃ fd, FunD C.K "lane_rest" "lane_rest" (defArgs s_lane_rest) (defBody s_lane_rest) (defScope s_lane_rest) [] [] (He.ga C.K "lane_rest") fd
  g_lane_rest : C.mg "lane_rest" = some (.ref (He.ga C.K "lane_rest"))
  d_law_plus : ∃ fd, FunD C.K "_law_plus" "_law_plus" (defArgs s_law_plus) (defBody s_law_plus) (defScope s_law_plus) [] [] (He.ga C.K "_law_plus") fd
  g_law_plus : C.mg "_law_plus" = some (.ref (He.ga C.K "_law_plus"))
  d_law_sum : ∃ fd, FunD C.K "_law_sum" "_law_sum" (defArgs s_law_sum) (defBody s_law_sum) (defScope s_law_sum) [] [] (He.ga C.K "_law_sum") fd
  g_law_sum : C.mg "_law_sum" = some (.ref (He.ga C.K "_law_sum"))
  d_law : ∃ fd, FunD C.K "law" "law" (defArgs s_law) (defBody s_law) (defScope s_law) [] [] (He.ga C.K "law") fd
  g_law : C.mg "law" = some (.ref (He.ga C.K "law"))
  b_abs : C.mg "abs" = none
  b_all : C.mg "all" = none
  b_bool : C.mg "bool" = none
  b_enumerate : C.mg "enumerate" = none
  b_int : C.mg "int" = none
  b_isinstance : C.mg "isinstance" = none
  b_len : C.mg "len" = none
  b_list : C.mg "list" = none
  b_max : C.mg "max" = none
  b_range : C.mg "range" = none
  b_tuple : C.mg "tuple" = none
  b_zip : C.mg "zip" = none
  i_MOST_BASE : ∃ t, C.mg "MOST_BASE" = some (.int 1000 t)
  i_MOST_BOTTOM : ∃ t, C.mg "MOST_BOTTOM" = some (.int 100 t)
  i_MOST_LANES : ∃ t, C.mg "MOST_LANES" = some (.int 8 t)
  i_MOST_PART : ∃ t, C.mg "MOST_PART" = some (.int 100 t)
  i_MOST_SLOPE : ∃ t, C.mg "MOST_SLOPE" = some (.int 100 t)
  i_MOST_TOP : ∃ t, C.mg "MOST_TOP" = some (.int 1000 t)
  m_gcd : C.mg "gcd" = some (.builtin "math.gcd")

theorem n_law_taken {P : Program} {w : World} {C : Cs} {base : Heap} (T : Tp C base) : Dn P w C base "_law_taken" 2 1 (f_law_taken C) := by
  obtain ⟨fd, F⟩ := T.d_law_taken
  have gi := T.b_int
  have gl := T.b_len
  exact Dn.taken F sc_law_taken T.g_law_taken (fun _ _ _ _ _ _ us hl => match us, hl with | [_, _], _ => rfl) fun cdv A outer s H E =>
    (pss_cons (ps_if (pt_cmpR op_gt (pe_ix ix_seq (pv 0) pe_int (fun _ _ => rfl)) pe_int (nomark _)) (pss_cons (ps_set (i := 2) sc_law_taken.nd rfl (.inl rfl) (pe_op op_mod (pe_callTy call_int1 rfl gi (by decide +kernel) (pa_cons (pe_ix ix_seq (pv 0) pe_int (fun _ _ => rfl)) pa_nil)) (pv 1))) (pss_cons (ps_asg (pe_op op_fdivW (pe_ix ix_seq (pv 0) pe_int (fun _ _ => rfl)) (pv 1)) (pg_sub (pv 0) pe_int set_list)) (pss_one (ps_ret (pv 2))))) pss_nil)
    (pss_cons (ps_asg (pe_op op_add (pe_ix ix_seq (pv 0) pe_int (fun _ _ => rfl)) pe_int) (pg_sub (pv 0) pe_int set_list))
    (pss_cons (ps_if (pt_cmpR op_gt (pe_ix ix_seq (pv 0) pe_int (fun _ _ => rfl)) (pe_callB call_len rfl gl boot_len (pa_cons (pe_ix ix_seq (pv 0) pe_int (fun _ _ => rfl)) pa_nil)) (nomark _)) (pss_cons (ps_asg (pe_op op_mod (pe_callTy call_int1 rfl gi (by decide +kernel) (pa_cons (pe_op op_add (pe_op op_mulW (pe_ix ix_seq (pv 0) pe_int (fun _ _ => rfl)) pe_int) pe_int) pa_nil)) pe_int) (pg_sub (pv 0) pe_int set_list)) (pss_one (ps_ret (pe_op op_mod (pe_callTy call_int1 rfl gi (by decide +kernel) (pa_cons (pe_op op_fdivW (pe_ix ix_seq (pv 0) pe_int (fun _ _ => rfl)) pe_int) pa_nil)) (pv 1))))) pss_nil)
    (pss_cons (ps_set (i := 3) sc_law_taken.nd rfl (.inl rfl) (pe_ix ix_seq (pe_ix ix_seq (pv 0) pe_int (fun _ _ => rfl)) (pe_op op_sub (pe_ix ix_seq (pv 0) pe_int (fun _ _ => rfl)) pe_int) (fun _ _ => rfl)))
    (pss_cons (ps_asg (pe_op op_mod (pe_callTy call_int1 rfl gi (by decide +kernel) (pa_cons (pe_op op_add (pe_op op_add (pe_op op_mulW (pe_ix ix_seq (pv 0) pe_int (fun _ _ => rfl)) pe_int) (pv 3)) pe_int) pa_nil)) pe_int) (pg_sub (pv 0) pe_int set_list))
    (pss_cons (ps_if (pt_cmpR op_ge (pv 3) (pe_op op_pow pe_int pe_int) (nomark _)) (pss_one (ps_asg (pe_op op_fdivW (pv 3) (pv 1)) (pg_sub (pv 0) pe_int set_list))) pss_nil)
    (pss_one (ps_ret (pe_op op_mod (pe_callTy call_int1 rfl gi (by decide +kernel) (pa_cons (pv 3) pa_nil)) (pv 1))))))))))

theorem n_law_pick {P : Program} {w : World} {C : Cs} {base : Heap} (T : Tp C base) : Dn P w C base "_law_pick" 2 2 (f_law_pick C) := by
  obtain ⟨fd, F⟩ := T.d_law_pick
  exact Dn.mk' F sc_law_pick T.g_law_pick rfl (fun _ _ _ _ _ _ us hl => match us, hl with | [_, _], _ => rfl) fun A outer s H E hr =>
    (dss_one (ds_ret (de_ix rfl (de_v (i := 1) rfl (.inl rfl)) (de_callN rfl rfl takesN (n_law_taken T) hr (by decide) rfl (da_trk (i := 0) rfl (.inl rfl) (da_cons (de_callB call_len on_len rfl T.b_len boot_len (da_cons (de_v (i := 1) rfl (.inl rfl)) da_nil)) da_nil))) (fun _ _ => rfl))))

theorem n_law_ratio {P : Program} {w : World} {C : Cs} {base : Heap} (T : Tp C base) : Dn P w C base "_law_ratio" 2 2 (f_law_ratio) := by
  obtain ⟨fd, F⟩ := T.d_law_ratio
  exact Dn.mk' F sc_law_ratio T.g_law_ratio rfl (fun _ _ _ _ _ _ us hl => match us, hl with | [_, _], _ => rfl) fun A outer s H E hr =>
    (dss_cons (ds_par (i := 2) (j := 3) rfl sc_law_ratio.nd rfl rfl (by decide) rfl rfl (da_cons (de_callB call_abs on_abs rfl T.b_abs (by decide +kernel) (da_cons (de_v (i := 0) rfl (.inl rfl)) da_nil)) (da_cons (de_callB call_abs on_abs rfl T.b_abs (by decide +kernel) (da_cons (de_v (i := 1) rfl (.inl rfl)) da_nil)) da_nil)) rfl) (dss_cons (ds_while ownsN (dt_ne rfl hr (de_v (i := 3) rfl (.inl rfl)) de_int) (dss_one (ds_par (i := 2) (j := 3) rfl sc_law_ratio.nd rfl rfl (by decide) rfl rfl (da_cons (de_v (i := 3) rfl (.inl rfl)) (da_cons (de_mod (de_callTy (call_int1.or call_int_str) on_int rfl T.b_int (by decide +kernel) (da_cons (de_v (i := 2) rfl (.inl rfl)) da_nil)) (de_v (i := 3) rfl (.inl rfl))) da_nil)) rfl))) (dss_one (ds_ret (de_if (dt_gt (de_v (i := 1) rfl (.inl rfl)) de_int) (de_tup (da_cons (de_fdv (de_v (i := 0) rfl (.inl rfl)) (de_v (i := 2) rfl (.inl rfl))) (da_cons (de_fdv (de_v (i := 1) rfl (.inl rfl)) (de_v (i := 2) rfl (.inl rfl))) da_nil))) (de_tup (da_cons (de_sub de_int (de_fdv (de_v (i := 0) rfl (.inl rfl)) (de_v (i := 2) rfl (.inl rfl)))) (da_cons (de_sub de_int (de_fdv (de_v (i := 1) rfl (.inl rfl)) (de_v (i := 2) rfl (.inl rfl)))) da_nil))))))))

theorem n_law_demand {P : Program} {w : World} {C : Cs} {base : Heap} (T : Tp C base) : Dn P w C base "_law_demand" 1 3 (f_law_demand C) := by
  obtain ⟨fd, F⟩ := T.d_law_demand
  exact Dn.mk' F sc_law_demand T.g_law_demand rfl (fun _ _ _ _ _ _ us hl => match us, hl with | [_], _ => rfl) fun A outer s H E hr =>
    (dss_one (ds_ret (de_callN rfl rfl takesN (n_law_pick T) hr (by decide) rfl (da_trk (i := 0) rfl (.inl rfl) (da_cons (de_lst (da_cons (de_tup (da_cons de_int (da_cons de_int da_nil))) (da_cons (de_tup (da_cons de_int (da_cons de_int da_nil))) (da_cons (de_tup (da_cons de_int (da_cons de_int da_nil))) (da_cons (de_tup (da_cons de_int (da_cons de_int da_nil))) (da_cons (de_tup (da_cons de_int (da_cons de_int da_nil))) (da_cons (de_callN rfl rfl takesN (n_law_ratio T) hr (by decide) rfl (da_cons (de_add rfl de_int (de_callN rfl rfl takesN (n_law_taken T) hr (by decide) rfl (da_trk (i := 0) rfl (.inl rfl) (da_cons de_int da_nil)))) (da_cons (de_add rfl de_int (de_callN rfl rfl takesN (n_law_taken T) hr (by decide) rfl (da_trk (i := 0) rfl (.inl rfl) (da_cons de_int da_nil)))) da_nil))) da_nil))))))) da_nil)))))

theorem n_law_lanes {P : Program} {w : World} {C : Cs} {base : Heap} (T : Tp C base) : Dn P w C base "_law_lanes" 1 3 (f_law_lanes C) := by
  obtain ⟨fd, F⟩ := T.d_law_lanes
  exact Dn.mk' F sc_law_lanes T.g_law_lanes rfl (fun _ _ _ _ _ _ us hl => match us, hl with | [_], _ => rfl) fun A outer s H E hr =>
    (dss_one (ds_ret (de_callTy call_tuple_of on_tuple rfl T.b_tuple (by decide +kernel) (da_cons (de_dn (dn_lc (own := [("_law_k", 1)]) (ix := [1]) rfl sc_law_lanes.nd (di_range1 rfl T.b_range (de_add rfl de_int (de_callN rfl rfl takesN (n_law_taken T) hr (by decide) rfl (da_trk (i := 0) rfl (.inr (.inl rfl)) (da_cons de_int da_nil))))) (blkOk_by (by kernel_rfl)) (by decide +kernel) (fun _ _ _ _ _ => (dg_name (i := 1) sc_law_lanes.nd rfl (.inl rfl))) (fun _ _ _ _ _ => dts_nil) (fun _ _ _ _ _ => (de_tup (da_cons (de_callN rfl rfl takes0 (n_law_pick T) hr (by decide) rfl (da_trk (i := 0) rfl (.inr (.inl rfl)) (da_cons (de_lst (da_cons de_int (da_cons de_int (da_cons de_int (da_cons de_int (da_cons de_int da_nil)))))) da_nil))) (da_cons (de_callN rfl rfl takes0 (n_law_pick T) hr (by decide) rfl (da_trk (i := 0) rfl (.inr (.inl rfl)) (da_cons (de_lst (da_cons de_int (da_cons de_int (da_cons de_int (da_cons de_int (da_cons (de_callN rfl rfl takes0 (n_law_taken T) hr (by decide) rfl (da_trk (i := 0) rfl (.inr (.inl rfl)) (da_cons de_int da_nil))) da_nil)))))) da_nil))) da_nil)))))) da_nil))))

theorem n_is_in {P : Program} {w : World} {C : Cs} {base : Heap} (T : Tp C base) : Dn P w C base "is_in" 3 2 (f_is_in) := by
  obtain ⟨fd, F⟩ := T.d_is_in
  exact Dn.mk' F sc_is_in T.g_is_in rfl (fun _ _ _ _ _ _ us hl => match us, hl with | [_, _, _], _ => rfl) fun A outer s H E hr =>
    (dss_one (ds_ret (de_and rfl (de_isi rfl rfl T.b_isinstance rfl T.b_int (by decide +kernel) (de_v (i := 0) rfl (.inl rfl))) (de_and rfl (de_not rfl (de_isi rfl rfl T.b_isinstance rfl T.b_bool (by decide +kernel) (de_v (i := 0) rfl (.inl rfl)))) (de_one (de_chain op_le (o2_0 fun _ _ _ => .bl _) op_le (o2_0 fun _ _ _ => .bl _) (de_v (i := 1) rfl (.inl rfl)) (de_v (i := 0) rfl (.inl rfl)) (de_v (i := 2) rfl (.inl rfl))))))))

theorem n_is_lane {P : Program} {w : World} {C : Cs} {base : Heap} (T : Tp C base) : Dn P w C base "is_lane" 1 3 (f_is_lane) := by
  obtain ⟨fd, F⟩ := T.d_is_lane
  exact Dn.mk' F sc_is_lane T.g_is_lane rfl (fun _ _ _ _ _ _ us hl => match us, hl with | [_], _ => rfl) fun A outer s H E hr =>
    (dss_cons (ds_if (dw_dt (dw_or (dt_not (dt_tru rfl (de_isi rfl rfl T.b_isinstance rfl T.b_tuple (by decide +kernel) (de_v (i := 0) rfl (.inl rfl))))) (dw_or1 (dt_ne rfl hr (de_callB call_len on_len rfl T.b_len boot_len (da_cons (de_v (i := 0) rfl (.inl rfl)) da_nil)) de_int)))) (dss_one (ds_ret de_bl)) dss_nil) (dss_one (ds_ret (de_and rfl (de_callN rfl rfl takesN (n_is_in T) hr (by decide) rfl (da_cons (de_ix rfl (de_v (i := 0) rfl (.inl rfl)) de_int (fun _ _ => rfl)) (da_cons de_int (da_cons (de_globI rfl T.i_MOST_SLOPE) da_nil)))) (de_one (de_callN rfl rfl takesN (n_is_in T) hr (by decide) rfl (da_cons (de_ix rfl (de_v (i := 0) rfl (.inl rfl)) de_int (fun _ _ => rfl)) (da_cons de_int (da_cons (de_globI rfl T.i_MOST_BASE) da_nil)))))))))

theorem n_is_ratio {P : Program} {w : World} {C : Cs} {base : Heap} (T : Tp C base) : Dn P w C base "is_ratio" 1 3 (f_is_ratio) := by
  obtain ⟨fd, F⟩ := T.d_is_ratio
  exact Dn.mk' F sc_is_ratio T.g_is_ratio rfl (fun _ _ _ _ _ _ us hl => match us, hl with | [_], _ => rfl) fun A outer s H E hr =>
    (dss_cons (ds_if (dw_dt (dw_or (dt_not (dt_tru rfl (de_isi rfl rfl T.b_isinstance rfl T.b_tuple (by decide +kernel) (de_v (i := 0) rfl (.inl rfl))))) (dw_or1 (dt_ne rfl hr (de_callB call_len on_len rfl T.b_len boot_len (da_cons (de_v (i := 0) rfl (.inl rfl)) da_nil)) de_int)))) (dss_one (ds_ret de_bl)) dss_nil) (dss_cons (ds_if (dt_not (dt_tru rfl (de_allG (own := [("one", 1)]) (ix := [1]) hr rfl T.b_all T.t_is_ratio T.p_is_ratio rfl ⟨blkOk_by (by kernel_rfl), rfl, by decide +kernel, rfl⟩ (by decide +kernel) sc_is_ratio.nd (di_seq rfl (de_v (i := 0) rfl (.inl rfl))) (fun _ _ _ _ _ _ => (dg_name (i := 1) sc_is_ratio.nd rfl (.inl rfl))) (fun _ _ _ _ _ _ => dts_nil) (fun _ _ _ _ _ _ => (de_and rfl (de_isi rfl rfl T.b_isinstance rfl T.b_int (by decide +kernel) (de_v (i := 1) rfl (.inl rfl))) (de_one (de_not rfl (de_isi rfl rfl T.b_isinstance rfl T.b_bool (by decide +kernel) (de_v (i := 1) rfl (.inl rfl)))))))))) (dss_one (ds_ret de_bl)) dss_nil) (dss_one (ds_ret (de_and rfl (de_gt (de_ix rfl (de_v (i := 0) rfl (.inl rfl)) de_int (fun _ _ => rfl)) de_int) (de_one (de_eq rfl hr (de_callF cr_gcd on_gcd rfl T.m_gcd (da_cons (de_ix rfl (de_v (i := 0) rfl (.inl rfl)) de_int (fun _ _ => rfl)) (da_cons (de_ix rfl (de_v (i := 0) rfl (.inl rfl)) de_int (fun _ _ => rfl)) da_nil))) de_int)))))))

theorem n_need_demand {P : Program} {w : World} {C : Cs} {base : Heap} (T : Tp C base) : Dn P w C base "need_demand" 1 4 (f_need_demand) := by
  obtain ⟨fd, F⟩ := T.d_need_demand
  exact Dn.mk' F sc_need_demand T.g_need_demand rfl (fun _ _ _ _ _ _ us hl => match us, hl with | [_], _ => rfl) fun A outer s H E hr =>
    (dss_one (ds_if (dw_dt (dw_or (dt_not (dt_tru rfl (de_callN rfl rfl takesN (n_is_ratio T) hr (by decide) rfl (da_cons (de_v (i := 0) rfl (.inl rfl)) da_nil)))) (dw_or (dt_not (dt_chain op_le (o2_0 fun _ _ _ => .bl _) op_le (o2_0 fun _ _ _ => .bl _) de_int (de_ix rfl (de_v (i := 0) rfl (.inl rfl)) de_int (fun _ _ => rfl)) (de_globI rfl T.i_MOST_TOP))) (dw_or1 (dt_gt (de_ix rfl (de_v (i := 0) rfl (.inl rfl)) de_int (fun _ _ => rfl)) (de_globI rfl T.i_MOST_BOTTOM)))))) (dss_one ds_never) dss_nil))

theorem n_need_lanes {P : Program} {w : World} {C : Cs} {base : Heap} (T : Tp C base) : Dn P w C base "need_lanes" 2 5 (f_need_lanes) := by
  obtain ⟨fd, F⟩ := T.d_need_lanes
  exact Dn.mk' F sc_need_lanes T.g_need_lanes rfl (fun _ _ _ _ _ _ us hl => match us, hl with | [_, _], _ => rfl) fun A outer s H E hr =>
    (dss_cons (ds_if (dw_dt (dw_or (dt_not (dt_tru rfl (de_isi rfl rfl T.b_isinstance rfl T.b_tuple (by decide +kernel) (de_v (i := 0) rfl (.inl rfl))))) (dw_or1 (dt_not (dt_chain op_le (o2_0 fun _ _ _ => .bl _) op_le (o2_0 fun _ _ _ => .bl _) de_int (de_callB call_len on_len rfl T.b_len boot_len (da_cons (de_v (i := 0) rfl (.inl rfl)) da_nil)) (de_globI rfl T.i_MOST_LANES)))))) (dss_one ds_never) dss_nil) (dss_cons (ds_for ownsN rfl (di_enum rfl rfl T.b_enumerate (de_v (i := 0) rfl (.inl rfl))) (dg_tup rfl rfl (dgs_cons (dg_name (i := 2) sc_need_lanes.nd rfl (.inl rfl)) (dgs_cons (dg_name (i := 3) sc_need_lanes.nd rfl (.inl rfl)) dgs_nil))) (dss_one (ds_if (dt_not (dt_tru rfl (de_callN rfl rfl takesN (n_is_lane T) hr (by decide) rfl (da_cons (de_v (i := 3) rfl (.inl rfl)) da_nil)))) (dss_one ds_never) dss_nil))) (dss_one (ds_expr (de_callN rfl rfl takesN (n_need_demand T) hr (by decide) rfl (da_cons (de_v (i := 1) rfl (.inl rfl)) da_nil))))))

theorem n_need_share {P : Program} {w : World} {C : Cs} {base : Heap} (T : Tp C base) : Dn P w C base "need_share" 3 6 (f_need_share) := by
  obtain ⟨fd, F⟩ := T.d_need_share
  exact Dn.mk' F sc_need_share T.g_need_share rfl (fun _ _ _ _ _ _ us hl => match us, hl with | [_, _, _], _ => rfl) fun A outer s H E hr =>
    (dss_cons (ds_expr (de_callN rfl rfl takesN (n_need_lanes T) hr (by decide) rfl (da_cons (de_v (i := 0) rfl (.inl rfl)) (da_cons (de_v (i := 1) rfl (.inl rfl)) da_nil)))) (dss_one (ds_if (dw_dt (dw_or (dt_not (dt_tru rfl (de_callN rfl rfl takesN (n_is_ratio T) hr (by decide) rfl (da_cons (de_v (i := 2) rfl (.inl rfl)) da_nil)))) (dw_or1 (dt_not (dt_chain3 op_le (o2_0 fun _ _ _ => .bl _) op_le (o2_0 fun _ _ _ => .bl _) op_le (o2_0 fun _ _ _ => .bl _) de_int (de_ix rfl (de_v (i := 2) rfl (.inl rfl)) de_int (fun _ _ => rfl)) (de_ix rfl (de_v (i := 2) rfl (.inl rfl)) de_int (fun _ _ => rfl)) (de_globI rfl T.i_MOST_PART)))))) (dss_one ds_never) dss_nil)))

theorem n_with_ratios {P : Program} {w : World} {C : Cs} {base : Heap} (T : Tp C base) : Dn P w C base "with_ratios" 1 2 (f_with_ratios) := by
  obtain ⟨fd, F⟩ := T.d_with_ratios
  exact Dn.mk' F sc_with_ratios T.g_with_ratios rfl (fun _ _ _ _ _ _ us hl => match us, hl with | [_], _ => rfl) fun A outer s H E hr =>
    (dss_one (ds_ret (de_dn (dn_lc (own := [("slope", 1), ("base", 2)]) (ix := [1, 2]) rfl sc_with_ratios.nd (di_seq rfl (de_v (i := 0) rfl (.inl rfl))) (blkOk_by (by kernel_rfl)) (by decide +kernel) (fun _ _ _ _ _ => (dg_tup rfl rfl (dgs_cons (dg_name (i := 1) sc_with_ratios.nd rfl (.inl rfl)) (dgs_cons (dg_name (i := 2) sc_with_ratios.nd rfl (.inl rfl)) dgs_nil)))) (fun _ _ _ _ _ => dts_nil) (fun _ _ _ _ _ => (de_tup (da_cons (de_v (i := 1) rfl (.inl rfl)) (da_cons (de_tup (da_cons (de_v (i := 2) rfl (.inl rfl)) (da_cons de_int da_nil))) da_nil))))))))

theorem n_steep {P : Program} {w : World} {C : Cs} {base : Heap} (T : Tp C base) : Dn P w C base "steep" 1 3 (f_steep) := by
  obtain ⟨fd, F⟩ := T.d_steep
  exact Dn.mk' F sc_steep T.g_steep rfl (fun _ _ _ _ _ _ us hl => match us, hl with | [_], _ => rfl) fun A outer s H E hr =>
    (dss_one (ds_ret (de_dn (dn_lc (own := [("slope", 1), ("base", 2)]) (ix := [1, 2]) rfl sc_steep.nd (di_seq rfl (de_callN rfl rfl takesN (n_with_ratios T) hr (by decide) rfl (da_cons (de_v (i := 0) rfl (.inl rfl)) da_nil))) (blkOk_by (by kernel_rfl)) (by decide +kernel) (fun _ _ _ _ _ => (dg_tup rfl rfl (dgs_cons (dg_name (i := 1) sc_steep.nd rfl (.inl rfl)) (dgs_cons (dg_name (i := 2) sc_steep.nd rfl (.inl rfl)) dgs_nil)))) (fun _ _ _ _ _ => dts_nil) (fun _ _ _ _ _ => (de_tup (da_cons (de_mul de_int (de_v (i := 1) rfl (.inl rfl))) (da_cons (de_v (i := 2) rfl (.inl rfl)) da_nil))))))))

theorem n_ratio {P : Program} {w : World} {C : Cs} {base : Heap} (T : Tp C base) : Dn P w C base "ratio" 2 2 (f_ratio) := by
  obtain ⟨fd, F⟩ := T.d_ratio
  exact Dn.mk' F sc_ratio T.g_ratio rfl (fun _ _ _ _ _ _ us hl => match us, hl with | [_, _], _ => rfl) fun A outer s H E hr =>
    (dss_cons (ds_set (i := 2) sc_ratio.nd rfl (.inl rfl) (de_if (dt_gt (de_v (i := 1) rfl (.inl rfl)) de_int) (de_callF cr_gcd on_gcd rfl T.m_gcd (da_cons (de_v (i := 0) rfl (.inl rfl)) (da_cons (de_v (i := 1) rfl (.inl rfl)) da_nil))) (de_sub de_int (de_callF cr_gcd on_gcd rfl T.m_gcd (da_cons (de_v (i := 0) rfl (.inl rfl)) (da_cons (de_v (i := 1) rfl (.inl rfl)) da_nil)))))) (dss_one (ds_ret (de_tup (da_cons (de_fdv (de_v (i := 0) rfl (.inl rfl)) (de_v (i := 2) rfl (.inl rfl))) (da_cons (de_fdv (de_v (i := 1) rfl (.inl rfl)) (de_v (i := 2) rfl (.inl rfl))) da_nil))))))

theorem n_minus {P : Program} {w : World} {C : Cs} {base : Heap} (T : Tp C base) : Dn P w C base "minus" 2 3 (f_minus) := by
  obtain ⟨fd, F⟩ := T.d_minus
  exact Dn.mk' F sc_minus T.g_minus rfl (fun _ _ _ _ _ _ us hl => match us, hl with | [_, _], _ => rfl) fun A outer s H E hr =>
    (dss_one (ds_ret (de_callN rfl rfl takesN (n_ratio T) hr (by decide) rfl (da_cons (de_sub (de_mul (de_ix rfl (de_v (i := 0) rfl (.inl rfl)) de_int (fun _ _ => rfl)) (de_ix rfl (de_v (i := 1) rfl (.inl rfl)) de_int (fun _ _ => rfl))) (de_mul (de_ix rfl (de_v (i := 1) rfl (.inl rfl)) de_int (fun _ _ => rfl)) (de_ix rfl (de_v (i := 0) rfl (.inl rfl)) de_int (fun _ _ => rfl)))) (da_cons (de_mul (de_ix rfl (de_v (i := 0) rfl (.inl rfl)) de_int (fun _ _ => rfl)) (de_ix rfl (de_v (i := 1) rfl (.inl rfl)) de_int (fun _ _ => rfl))) da_nil)))))

theorem n_less {P : Program} {w : World} {C : Cs} {base : Heap} (T : Tp C base) : Dn P w C base "less" 2 2 (f_less) := by
  obtain ⟨fd, F⟩ := T.d_less
  exact Dn.mk' F sc_less T.g_less rfl (fun _ _ _ _ _ _ us hl => match us, hl with | [_, _], _ => rfl) fun A outer s H E hr =>
    (dss_one (ds_ret (de_lt (de_mul (de_ix rfl (de_v (i := 0) rfl (.inl rfl)) de_int (fun _ _ => rfl)) (de_ix rfl (de_v (i := 1) rfl (.inl rfl)) de_int (fun _ _ => rfl))) (de_mul (de_ix rfl (de_v (i := 1) rfl (.inl rfl)) de_int (fun _ _ => rfl)) (de_ix rfl (de_v (i := 0) rfl (.inl rfl)) de_int (fun _ _ => rfl))))))

theorem n_plus {P : Program} {w : World} {C : Cs} {base : Heap} (T : Tp C base) : Dn P w C base "plus" 2 3 (f_plus) := by
  obtain ⟨fd, F⟩ := T.d_plus
  exact Dn.mk' F sc_plus T.g_plus rfl (fun _ _ _ _ _ _ us hl => match us, hl with | [_, _], _ => rfl) fun A outer s H E hr =>
    (dss_one (ds_ret (de_callN rfl rfl takesN (n_ratio T) hr (by decide) rfl (da_cons (de_add rfl (de_mul (de_ix rfl (de_v (i := 0) rfl (.inl rfl)) de_int (fun _ _ => rfl)) (de_ix rfl (de_v (i := 1) rfl (.inl rfl)) de_int (fun _ _ => rfl))) (de_mul (de_ix rfl (de_v (i := 1) rfl (.inl rfl)) de_int (fun _ _ => rfl)) (de_ix rfl (de_v (i := 0) rfl (.inl rfl)) de_int (fun _ _ => rfl)))) (da_cons (de_mul (de_ix rfl (de_v (i := 0) rfl (.inl rfl)) de_int (fun _ _ => rfl)) (de_ix rfl (de_v (i := 1) rfl (.inl rfl)) de_int (fun _ _ => rfl))) da_nil)))))

theorem n_over {P : Program} {w : World} {C : Cs} {base : Heap} (T : Tp C base) : Dn P w C base "over" 2 3 (f_over) := by
  obtain ⟨fd, F⟩ := T.d_over
  exact Dn.mk' F sc_over T.g_over rfl (fun _ _ _ _ _ _ us hl => match us, hl with | [_, _], _ => rfl) fun A outer s H E hr =>
    (dss_one (ds_ret (de_callN rfl rfl takesN (n_ratio T) hr (by decide) rfl (da_cons (de_mul (de_ix rfl (de_v (i := 0) rfl (.inl rfl)) de_int (fun _ _ => rfl)) (de_ix rfl (de_v (i := 1) rfl (.inl rfl)) de_int (fun _ _ => rfl))) (da_cons (de_mul (de_ix rfl (de_v (i := 0) rfl (.inl rfl)) de_int (fun _ _ => rfl)) (de_ix rfl (de_v (i := 1) rfl (.inl rfl)) de_int (fun _ _ => rfl))) da_nil)))))

theorem n_taken_at {P : Program} {w : World} {C : Cs} {base : Heap} (T : Tp C base) : Dn P w C base "taken_at" 2 4 (f_taken_at) := by
  obtain ⟨fd, F⟩ := T.d_taken_at
  exact Dn.mk' F sc_taken_at T.g_taken_at rfl (fun _ _ _ _ _ _ us hl => match us, hl with | [_, _], _ => rfl) fun A outer s H E hr =>
    (dss_cons (ds_set (i := 2) sc_taken_at.nd rfl (.inl rfl) (de_tup (da_cons de_int (da_cons de_int da_nil)))) (dss_cons (ds_for ownsN rfl (di_seq rfl (de_v (i := 0) rfl (.inl rfl))) (dg_tup rfl rfl (dgs_cons (dg_name (i := 3) sc_taken_at.nd rfl (.inl rfl)) (dgs_cons (dg_name (i := 4) sc_taken_at.nd rfl (.inl rfl)) dgs_nil))) (dss_one (ds_if (dw_dt (dw_and (dt_gt (de_v (i := 3) rfl (.inl rfl)) de_int) (dw_and1 (dt_tru rfl (de_callN rfl rfl takesN (n_less T) hr (by decide) rfl (da_cons (de_v (i := 4) rfl (.inl rfl)) (da_cons (de_v (i := 1) rfl (.inl rfl)) da_nil))))))) (dss_one (ds_set (i := 2) sc_taken_at.nd rfl (.inl rfl) (de_callN rfl rfl takesN (n_plus T) hr (by decide) rfl (da_cons (de_v (i := 2) rfl (.inl rfl)) (da_cons (de_callN rfl rfl takesN (n_over T) hr (by decide) rfl (da_cons (de_callN rfl rfl takesN (n_minus T) hr (by decide) rfl (da_cons (de_v (i := 1) rfl (.inl rfl)) (da_cons (de_v (i := 4) rfl (.inl rfl)) da_nil))) (da_cons (de_tup (da_cons (de_v (i := 3) rfl (.inl rfl)) (da_cons de_int da_nil))) da_nil))) da_nil))))) dss_nil))) (dss_one (ds_ret (de_v (i := 2) rfl (.inl rfl))))))

theorem n_flows_at {P : Program} {w : World} {C : Cs} {base : Heap} (T : Tp C base) : Dn P w C base "flows_at" 3 5 (f_flows_at) := by
  obtain ⟨fd, F⟩ := T.d_flows_at
  exact Dn.mk' F sc_flows_at T.g_flows_at rfl (fun _ _ _ _ _ _ us hl => match us, hl with | [_, _, _], _ => rfl) fun A outer s H E hr =>
    (dss_cons (ds_parOD (i := 3) (j := 4) rfl sc_flows_at.nd rfl rfl (by decide) rfl rfl (dn_lst da_nil) (de_callN rfl rfl takesN (n_minus T) hr (by decide) rfl (da_cons (de_v (i := 1) rfl (.inl rfl)) (da_cons (de_callN rfl rfl takesN (n_taken_at T) hr (by decide) rfl (da_cons (de_v (i := 0) rfl (.inl rfl)) (da_cons (de_v (i := 2) rfl (.inl rfl)) da_nil))) da_nil))) rfl) (dss_cons (ds_for ownsN rfl (di_seq rfl (de_v (i := 0) rfl (.inl rfl))) (dg_tup rfl rfl (dgs_cons (dg_name (i := 5) sc_flows_at.nd rfl (.inl rfl)) (dgs_cons (dg_name (i := 6) sc_flows_at.nd rfl (.inl rfl)) dgs_nil))) (dss_one (ds_if (dt_gt (de_v (i := 5) rfl (.inl rfl)) de_int) (dss_one (ds_app (i := 3) rfl (.inl rfl) (de_if (dt_tru rfl (de_callN rfl rfl takesN (n_less T) hr (by decide) rfl (da_cons (de_v (i := 6) rfl (.inl rfl)) (da_cons (de_v (i := 2) rfl (.inl rfl)) da_nil)))) (de_callN rfl rfl takesN (n_over T) hr (by decide) rfl (da_cons (de_callN rfl rfl takesN (n_minus T) hr (by decide) rfl (da_cons (de_v (i := 2) rfl (.inl rfl)) (da_cons (de_v (i := 6) rfl (.inl rfl)) da_nil))) (da_cons (de_tup (da_cons (de_v (i := 5) rfl (.inl rfl)) (da_cons de_int da_nil))) da_nil))) (de_tup (da_cons de_int (da_cons de_int da_nil)))) (hp := fun t h => pe_bm PySem.F.plainAttrs_list PySem.F.slot_list_append PySem.F.type_list_append mt_append (pe_var (i := 3) rfl (.inl rfl)) h))) (dss_one (ds_if (dt_eq rfl hr (de_v (i := 6) rfl (.inl rfl)) (de_v (i := 2) rfl (.inl rfl))) (dss_cons (ds_app (i := 3) rfl (.inl rfl) (de_v (i := 4) rfl (.inl rfl)) (hp := fun t h => pe_bm PySem.F.plainAttrs_list PySem.F.slot_list_append PySem.F.type_list_append mt_append (pe_var (i := 3) rfl (.inl rfl)) h)) (dss_one (ds_set (i := 4) sc_flows_at.nd rfl (.inl rfl) (de_tup (da_cons de_int (da_cons de_int da_nil)))))) (dss_one (ds_app (i := 3) rfl (.inl rfl) (de_tup (da_cons de_int (da_cons de_int da_nil))) (hp := fun t h => pe_bm PySem.F.plainAttrs_list PySem.F.slot_list_append PySem.F.type_list_append mt_append (pe_var (i := 3) rfl (.inl rfl)) h)))))))) (dss_fz 3 (dss_one (ds_ret (de_v (i := 3) rfl (.inl rfl)))))))

theorem n_sorted_ratios {P : Program} {w : World} {C : Cs} {base : Heap} (T : Tp C base) : Dn P w C base "sorted_ratios" 1 3 (f_sorted_ratios) := by
  obtain ⟨fd, F⟩ := T.d_sorted_ratios
  exact Dn.mk' F sc_sorted_ratios T.g_sorted_ratios rfl (fun _ _ _ _ _ _ us hl => match us, hl with | [_], _ => rfl) fun A outer s H E hr =>
    (dss_cons (ds_set (i := 1) sc_sorted_ratios.nd rfl (.inl rfl) (de_lst da_nil)) (dss_cons (ds_for ownsN rfl (di_seq rfl (de_v (i := 0) rfl (.inl rfl))) (dg_name (i := 2) sc_sorted_ratios.nd rfl (.inr rfl)) (dss_cons (ds_set (i := 3) sc_sorted_ratios.nd rfl (.inl rfl) (de_callB call_len on_len rfl T.b_len boot_len (da_cons (de_dn (dn_lc (own := [("other", 4)]) (ix := [4]) rfl sc_sorted_ratios.nd (di_seq rfl (de_v (i := 1) rfl (.inl rfl))) (blkOk_by (by kernel_rfl)) (by decide +kernel) (fun _ _ _ _ _ => (dg_name (i := 4) sc_sorted_ratios.nd rfl (.inl rfl))) (fun _ _ _ _ _ => (dts_one (dt_not (dt_tru rfl (de_callN rfl rfl takes0 (n_less T) hr (by decide) rfl (da_cons (de_v (i := 2) rfl (.inr (.inl rfl))) (da_cons (de_v (i := 4) rfl (.inl rfl)) da_nil))))))) (fun _ _ _ _ _ => (de_v (i := 4) rfl (.inl rfl))))) da_nil))) (dss_one (ds_set (i := 1) sc_sorted_ratios.nd rfl (.inl rfl) (de_lst (da_star rfl (de_slice rfl (de_v (i := 1) rfl (.inl rfl)) do_none (do_some (de_v (i := 3) rfl (.inl rfl)))) (da_cons (de_v (i := 2) rfl (.inr (.inl rfl))) (da_star rfl (de_slice rfl (de_v (i := 1) rfl (.inl rfl)) (do_some (de_v (i := 3) rfl (.inl rfl))) do_none) da_nil)))))))) (dss_one (ds_ret (de_v (i := 1) rfl (.inl rfl))))))

theorem n_sum_of {P : Program} {w : World} {C : Cs} {base : Heap} (T : Tp C base) : Dn P w C base "sum_of" 1 4 (f_sum_of) := by
  obtain ⟨fd, F⟩ := T.d_sum_of
  exact Dn.mk' F sc_sum_of T.g_sum_of rfl (fun _ _ _ _ _ _ us hl => match us, hl with | [_], _ => rfl) fun A outer s H E hr =>
    (dss_cons (ds_set (i := 1) sc_sum_of.nd rfl (.inl rfl) (de_tup (da_cons de_int (da_cons de_int da_nil)))) (dss_cons (ds_for ownsN rfl (di_seq rfl (de_v (i := 0) rfl (.inl rfl))) (dg_name (i := 2) sc_sum_of.nd rfl (.inl rfl)) (dss_one (ds_set (i := 1) sc_sum_of.nd rfl (.inl rfl) (de_callN rfl rfl takesN (n_plus T) hr (by decide) rfl (da_cons (de_v (i := 1) rfl (.inl rfl)) (da_cons (de_v (i := 2) rfl (.inl rfl)) da_nil)))))) (dss_one (ds_ret (de_v (i := 1) rfl (.inl rfl))))))

theorem n_level_of {P : Program} {w : World} {C : Cs} {base : Heap} (T : Tp C base) : Dn P w C base "level_of" 2 5 (f_level_of) := by
  obtain ⟨fd, F⟩ := T.d_level_of
  exact Dn.mk' F sc_level_of T.g_level_of rfl (fun _ _ _ _ _ _ us hl => match us, hl with | [_, _], _ => rfl) fun A outer s H E hr =>
    (dss_cons (setLc (i := 2) (own := [("slope", 3), ("base", 4)]) (ix := [3, 4]) rfl sc_level_of.nd rfl rfl rfl (di_seq rfl (de_v (i := 0) rfl (.inl rfl))) (blkOk_by (by kernel_rfl)) (by decide +kernel) (fun _ _ _ _ _ => (dg_tup rfl rfl (dgs_cons (dg_name (i := 3) sc_level_of.nd rfl (.inl rfl)) (dgs_cons (dg_name (i := 4) sc_level_of.nd rfl (.inl rfl)) dgs_nil)))) (fun _ _ _ _ _ => (dts_one (dt_eq rfl hr (de_v (i := 3) rfl (.inl rfl)) de_int))) (fun _ _ _ _ _ => (de_v (i := 4) rfl (.inl rfl)))) (dss_fz 2 (dss_cons (ds_set (i := 5) sc_level_of.nd rfl (.inl rfl) (de_if (dt_tru rfl (de_v (i := 2) rfl (.inl rfl))) (de_ix rfl (de_callN rfl rfl takesN (n_sorted_ratios T) hr (by decide) rfl (da_cons (de_v (i := 2) rfl (.inl rfl)) da_nil)) de_int (fun _ _ => rfl)) de_non)) (dss_cons (ds_set (i := 6) sc_level_of.nd rfl (.inl rfl) (de_callN rfl rfl takesN (n_sorted_ratios T) hr (by decide) rfl (da_cons (de_dn (dn_lc (own := [("slope", 3), ("base", 4)]) (ix := [3, 4]) rfl sc_level_of.nd (di_seq rfl (de_v (i := 0) rfl (.inl rfl))) (blkOk_by (by kernel_rfl)) (by decide +kernel) (fun _ _ _ _ _ => (dg_tup rfl rfl (dgs_cons (dg_name (i := 3) sc_level_of.nd rfl (.inl rfl)) (dgs_cons (dg_name (i := 4) sc_level_of.nd rfl (.inl rfl)) dgs_nil)))) (fun _ _ _ _ _ => (dts_one (dt_gt (de_v (i := 3) rfl (.inl rfl)) de_int))) (fun _ _ _ _ _ => (de_v (i := 4) rfl (.inl rfl))))) da_nil))) (dss_cons (ds_for ownsN rfl (di_enum rfl rfl T.b_enumerate (de_v (i := 6) rfl (.inl rfl))) (dg_tup rfl rfl (dgs_cons (dg_name (i := 7) sc_level_of.nd rfl (.inl rfl)) (dgs_cons (dg_name (i := 4) sc_level_of.nd rfl (.inr rfl)) dgs_nil))) (dss_cons (ds_set (i := 8) sc_level_of.nd rfl (.inl rfl) (de_if (dt_lt (de_add rfl (de_v (i := 7) rfl (.inl rfl)) de_int) (de_callB call_len on_len rfl T.b_len boot_len (da_cons (de_v (i := 6) rfl (.inl rfl)) da_nil))) (de_ix rfl (de_v (i := 6) rfl (.inl rfl)) (de_add rfl (de_v (i := 7) rfl (.inl rfl)) de_int) (fun _ _ => rfl)) de_non)) (dss_one (ds_if (dw_dt (dw_or (dt_is (de_v (i := 8) rfl (.inl rfl)) de_non) (dw_or1 (dt_not (dt_tru rfl (de_callN rfl rfl takesN (n_less T) hr (by decide) rfl (da_cons (de_callN rfl rfl takesN (n_taken_at T) hr (by decide) rfl (da_cons (de_v (i := 0) rfl (.inl rfl)) (da_cons (de_v (i := 8) rfl (.inl rfl)) da_nil))) (da_cons (de_v (i := 1) rfl (.inl rfl)) da_nil)))))))) (dss_cons (ds_set (i := 9) sc_level_of.nd rfl (.inl rfl) (de_callN rfl rfl takesN (n_sum_of T) hr (by decide) rfl (da_cons (de_dn (dn_lc (own := [("slope", 3), ("one", 10)]) (ix := [3, 10]) rfl sc_level_of.nd (di_seq rfl (de_v (i := 0) rfl (.inl rfl))) (blkOk_by (by kernel_rfl)) (by decide +kernel) (fun _ _ _ _ _ => (dg_tup rfl rfl (dgs_cons (dg_name (i := 3) sc_level_of.nd rfl (.inl rfl)) (dgs_cons (dg_name (i := 10) sc_level_of.nd rfl (.inl rfl)) dgs_nil)))) (fun _ _ _ _ _ => (dts_one (dw_dt (dw_and (dt_gt (de_v (i := 3) rfl (.inl rfl)) de_int) (dw_and1 (dt_not (dt_tru rfl (de_callN rfl rfl takes0 (n_less T) hr (by decide) rfl (da_cons (de_v (i := 4) rfl (.inr (.inl rfl))) (da_cons (de_v (i := 10) rfl (.inl rfl)) da_nil)))))))))) (fun _ _ _ _ _ => (de_tup (da_cons de_int (da_cons (de_v (i := 3) rfl (.inl rfl)) da_nil)))))) da_nil))) (dss_cons (ds_set (i := 11) sc_level_of.nd rfl (.inl rfl) (de_callN rfl rfl takesN (n_plus T) hr (by decide) rfl (da_cons (de_v (i := 4) rfl (.inr (.inl rfl))) (da_cons (de_callN rfl rfl takesN (n_over T) hr (by decide) rfl (da_cons (de_callN rfl rfl takesN (n_minus T) hr (by decide) rfl (da_cons (de_v (i := 1) rfl (.inl rfl)) (da_cons (de_callN rfl rfl takesN (n_taken_at T) hr (by decide) rfl (da_cons (de_v (i := 0) rfl (.inl rfl)) (da_cons (de_v (i := 4) rfl (.inr (.inl rfl))) da_nil))) da_nil))) (da_cons (de_v (i := 9) rfl (.inl rfl)) da_nil))) da_nil)))) (dss_one (ds_ret (de_if (dw_dt (dw_or (dt_is (de_v (i := 5) rfl (.inl rfl)) de_non) (dw_or1 (dt_tru rfl (de_callN rfl rfl takesN (n_less T) hr (by decide) rfl (da_cons (de_v (i := 11) rfl (.inl rfl)) (da_cons (de_v (i := 5) rfl (.inl rfl)) da_nil))))))) (de_v (i := 11) rfl (.inl rfl)) (de_v (i := 5) rfl (.inl rfl))))))) dss_nil)))) (dss_one (ds_ret (de_v (i := 5) rfl (.inl rfl)))))))))

theorem n_best_flows {P : Program} {w : World} {C : Cs} {base : Heap} (T : Tp C base) : Dn P w C base "best_flows" 2 6 (f_best_flows) := by
  obtain ⟨fd, F⟩ := T.d_best_flows
  exact Dn.mk' F sc_best_flows T.g_best_flows rfl (fun _ _ _ _ _ _ us hl => match us, hl with | [_, _], _ => rfl) fun A outer s H E hr =>
    (dss_cons (ds_set (i := 2) sc_best_flows.nd rfl (.inl rfl) (de_callN rfl rfl takesN (n_steep T) hr (by decide) rfl (da_cons (de_v (i := 0) rfl (.inl rfl)) da_nil))) (dss_one (ds_ret (de_callN rfl rfl takesN (n_flows_at T) hr (by decide) rfl (da_cons (de_v (i := 2) rfl (.inl rfl)) (da_cons (de_v (i := 1) rfl (.inl rfl)) (da_cons (de_callN rfl rfl takesN (n_level_of T) hr (by decide) rfl (da_cons (de_v (i := 2) rfl (.inl rfl)) (da_cons (de_v (i := 1) rfl (.inl rfl)) da_nil))) da_nil)))))))

theorem n_by {P : Program} {w : World} {C : Cs} {base : Heap} (T : Tp C base) : Dn P w C base "by" 2 3 (f_by) := by
  obtain ⟨fd, F⟩ := T.d_by
  exact Dn.mk' F sc_by T.g_by rfl (fun _ _ _ _ _ _ us hl => match us, hl with | [_, _], _ => rfl) fun A outer s H E hr =>
    (dss_one (ds_ret (de_callN rfl rfl takesN (n_ratio T) hr (by decide) rfl (da_cons (de_mul (de_ix rfl (de_v (i := 0) rfl (.inl rfl)) de_int (fun _ _ => rfl)) (de_ix rfl (de_v (i := 1) rfl (.inl rfl)) de_int (fun _ _ => rfl))) (da_cons (de_mul (de_ix rfl (de_v (i := 0) rfl (.inl rfl)) de_int (fun _ _ => rfl)) (de_ix rfl (de_v (i := 1) rfl (.inl rfl)) de_int (fun _ _ => rfl))) da_nil)))))

theorem n_lane_time {P : Program} {w : World} {C : Cs} {base : Heap} (T : Tp C base) : Dn P w C base "lane_time" 2 4 (f_lane_time) := by
  obtain ⟨fd, F⟩ := T.d_lane_time
  exact Dn.mk' F sc_lane_time T.g_lane_time rfl (fun _ _ _ _ _ _ us hl => match us, hl with | [_, _], _ => rfl) fun A outer s H E hr =>
    (dss_one (ds_ret (de_callN rfl rfl takesN (n_plus T) hr (by decide) rfl (da_cons (de_callN rfl rfl takesN (n_by T) hr (by decide) rfl (da_cons (de_tup (da_cons (de_ix rfl (de_v (i := 0) rfl (.inl rfl)) de_int (fun _ _ => rfl)) (da_cons de_int da_nil))) (da_cons (de_v (i := 1) rfl (.inl rfl)) da_nil))) (da_cons (de_tup (da_cons (de_ix rfl (de_v (i := 0) rfl (.inl rfl)) de_int (fun _ _ => rfl)) (da_cons de_int da_nil))) da_nil)))))

theorem n_falling {P : Program} {w : World} {C : Cs} {base : Heap} (T : Tp C base) : Dn P w C base "falling" 2 5 (f_falling) := by
  obtain ⟨fd, F⟩ := T.d_falling
  exact Dn.mk' F sc_falling T.g_falling rfl (fun _ _ _ _ _ _ us hl => match us, hl with | [_, _], _ => rfl) fun A outer s H E hr =>
    (dss_cons (ds_set (i := 2) sc_falling.nd rfl (.inl rfl) (de_lst da_nil)) (dss_cons (ds_for ownsN rfl (di_enum rfl rfl T.b_enumerate (de_v (i := 0) rfl (.inr (.inl rfl)))) (dg_tup rfl rfl (dgs_cons (dg_name (i := 3) sc_falling.nd rfl (.inl rfl)) (dgs_cons (dg_name (i := 4) sc_falling.nd rfl (.inl rfl)) dgs_nil))) (dss_cons (ds_set (i := 5) sc_falling.nd rfl (.inr rfl) (de_callN rfl rfl takesN (n_lane_time T) hr (by decide) rfl (da_cons (de_v (i := 4) rfl (.inl rfl)) (da_cons (de_ix rfl (de_v (i := 1) rfl (.inr (.inl rfl))) (de_v (i := 3) rfl (.inl rfl)) (fun _ _ => rfl)) da_nil)))) (dss_cons (ds_set (i := 6) sc_falling.nd rfl (.inl rfl) (de_callB call_len on_len rfl T.b_len boot_len (da_cons (de_dn (dn_lc (own := [("one", 7)]) (ix := [7]) rfl sc_falling.nd (di_seq rfl (de_v (i := 2) rfl (.inl rfl))) (blkOk_by (by kernel_rfl)) (by decide +kernel) (fun _ _ _ _ _ => (dg_name (i := 7) sc_falling.nd rfl (.inl rfl))) (fun _ _ _ _ _ => (dts_one (dt_tru rfl (de_callN rfl rfl takes0 (n_less T) hr (by decide) rfl (da_cons (de_v (i := 5) rfl (.inr (.inl rfl))) (da_cons (de_callN rfl rfl takes0 (n_lane_time T) hr (by decide) rfl (da_cons (de_ix rfl (de_v (i := 0) rfl (.inr (.inl rfl))) (de_v (i := 7) rfl (.inl rfl)) (fun _ _ => rfl)) (da_cons (de_ix rfl (de_v (i := 1) rfl (.inr (.inl rfl))) (de_v (i := 7) rfl (.inl rfl)) (fun _ _ => rfl)) da_nil))) da_nil)))))) (fun _ _ _ _ _ => (de_v (i := 7) rfl (.inl rfl))))) da_nil))) (dss_one (ds_set (i := 2) sc_falling.nd rfl (.inl rfl) (de_lst (da_star rfl (de_slice rfl (de_v (i := 2) rfl (.inl rfl)) do_none (do_some (de_v (i := 6) rfl (.inl rfl)))) (da_cons (de_v (i := 3) rfl (.inl rfl)) (da_star rfl (de_slice rfl (de_v (i := 2) rfl (.inl rfl)) (do_some (de_v (i := 6) rfl (.inl rfl))) do_none) da_nil))))))))) (dss_one (ds_ret (de_v (i := 2) rfl (.inl rfl))))))

theorem n_led_of {P : Program} {w : World} {C : Cs} {base : Heap} (T : Tp C base) : Dn P w C base "led_of" 3 6 (f_led_of) := by
  obtain ⟨fd, F⟩ := T.d_led_of
  exact Dn.mk' F sc_led_of T.g_led_of rfl (fun _ _ _ _ _ _ us hl => match us, hl with | [_, _, _], _ => rfl) fun A outer s H E hr =>
    (dss_cons (ds_parOD (i := 3) (j := 4) rfl sc_led_of.nd rfl rfl (by decide) rfl rfl (dn_lc (own := [("lane", 5)]) (ix := [5]) rfl sc_led_of.nd (di_seq rfl (de_v (i := 0) rfl (.inl rfl))) (blkOk_by (by kernel_rfl)) (by decide +kernel) (fun _ _ _ _ _ => (dg_name (i := 5) sc_led_of.nd rfl (.inl rfl))) (fun _ _ _ _ _ => dts_nil) (fun _ _ _ _ _ => (de_tup (da_cons de_int (da_cons de_int da_nil))))) (de_v (i := 2) rfl (.inl rfl)) rfl) (dss_cons (ds_for ownsN rfl (di_seq rfl (de_callN rfl rfl takesN (n_falling T) hr (by decide) rfl (da_cons (de_v (i := 0) rfl (.inl rfl)) (da_cons (de_v (i := 1) rfl (.inl rfl)) da_nil)))) (dg_name (i := 6) sc_led_of.nd rfl (.inl rfl)) (dss_cons (ds_setIx (i := 3) rfl (.inl rfl) (de_if (dt_tru rfl (de_callN rfl rfl takesN (n_less T) hr (by decide) rfl (da_cons (de_v (i := 4) rfl (.inl rfl)) (da_cons (de_ix rfl (de_v (i := 1) rfl (.inl rfl)) (de_v (i := 6) rfl (.inl rfl)) (fun _ _ => rfl)) da_nil)))) (de_v (i := 4) rfl (.inl rfl)) (de_ix rfl (de_v (i := 1) rfl (.inl rfl)) (de_v (i := 6) rfl (.inl rfl)) (fun _ _ => rfl))) (de_v (i := 6) rfl (.inl rfl)) (fun _ _ _ h1 h2 h3 => ps_asg h3 (pg_sub h1 h2 set_list))) (dss_one (ds_set (i := 4) sc_led_of.nd rfl (.inl rfl) (de_callN rfl rfl takesN (n_minus T) hr (by decide) rfl (da_cons (de_v (i := 4) rfl (.inl rfl)) (da_cons (de_oix (i := 3) rfl rfl (.inl rfl) (de_v (i := 6) rfl (.inl rfl)) (fun _ _ => rfl)) da_nil))))))) (dss_fz 3 (dss_one (ds_ret (de_v (i := 3) rfl (.inl rfl)))))))

theorem n_left_lanes {P : Program} {w : World} {C : Cs} {base : Heap} (T : Tp C base) : Dn P w C base "left_lanes" 2 5 (f_left_lanes) := by
  obtain ⟨fd, F⟩ := T.d_left_lanes
  exact Dn.mk' F sc_left_lanes T.g_left_lanes rfl (fun _ _ _ _ _ _ us hl => match us, hl with | [_, _], _ => rfl) fun A outer s H E hr =>
    (dss_one (ds_ret (de_dn (dn_lc (own := [("lane", 2), ("flow", 3)]) (ix := [2, 3]) rfl sc_left_lanes.nd (di_zip rfl rfl T.b_zip (de_v (i := 0) rfl (.inl rfl)) (de_v (i := 1) rfl (.inl rfl))) (blkOk_by (by kernel_rfl)) (by decide +kernel) (fun _ _ _ _ _ => (dg_tup rfl rfl (dgs_cons (dg_name (i := 2) sc_left_lanes.nd rfl (.inl rfl)) (dgs_cons (dg_name (i := 3) sc_left_lanes.nd rfl (.inl rfl)) dgs_nil)))) (fun _ _ _ _ _ => dts_nil) (fun _ _ _ _ _ => (de_tup (da_cons (de_ix rfl (de_v (i := 2) rfl (.inl rfl)) de_int (fun _ _ => rfl)) (da_cons (de_callN rfl rfl takes0 (n_lane_time T) hr (by decide) rfl (da_cons (de_v (i := 2) rfl (.inl rfl)) (da_cons (de_v (i := 3) rfl (.inl rfl)) da_nil))) da_nil))))))))

theorem n_others_of {P : Program} {w : World} {C : Cs} {base : Heap} (T : Tp C base) : Dn P w C base "others_of" 3 6 (f_others_of) := by
  obtain ⟨fd, F⟩ := T.d_others_of
  exact Dn.mk' F sc_others_of T.g_others_of rfl (fun _ _ _ _ _ _ us hl => match us, hl with | [_, _, _], _ => rfl) fun A outer s H E hr =>
    (dss_cons (ds_if (dt_eq rfl hr (de_ix rfl (de_v (i := 2) rfl (.inl rfl)) de_int (fun _ _ => rfl)) de_int) (dss_one (ds_ret (de_dn (dn_lc (own := [("lane", 3)]) (ix := [3]) rfl sc_others_of.nd (di_seq rfl (de_v (i := 0) rfl (.inl rfl))) (blkOk_by (by kernel_rfl)) (by decide +kernel) (fun _ _ _ _ _ => (dg_name (i := 3) sc_others_of.nd rfl (.inl rfl))) (fun _ _ _ _ _ => dts_nil) (fun _ _ _ _ _ => (de_tup (da_cons de_int (da_cons de_int da_nil)))))))) dss_nil) (dss_cons (ds_set (i := 4) sc_others_of.nd rfl (.inl rfl) (de_callN rfl rfl takesN (n_left_lanes T) hr (by decide) rfl (da_cons (de_v (i := 0) rfl (.inl rfl)) (da_cons (de_v (i := 1) rfl (.inl rfl)) da_nil)))) (dss_one (ds_ret (de_callN rfl rfl takesN (n_flows_at T) hr (by decide) rfl (da_cons (de_v (i := 4) rfl (.inl rfl)) (da_cons (de_v (i := 2) rfl (.inl rfl)) (da_cons (de_callN rfl rfl takesN (n_level_of T) hr (by decide) rfl (da_cons (de_v (i := 4) rfl (.inl rfl)) (da_cons (de_v (i := 2) rfl (.inl rfl)) da_nil))) da_nil))))))))

theorem n_total_of {P : Program} {w : World} {C : Cs} {base : Heap} (T : Tp C base) : Dn P w C base "total_of" 2 5 (f_total_of) := by
  obtain ⟨fd, F⟩ := T.d_total_of
  exact Dn.mk' F sc_total_of T.g_total_of rfl (fun _ _ _ _ _ _ us hl => match us, hl with | [_, _], _ => rfl) fun A outer s H E hr =>
    (dss_one (ds_ret (de_callN rfl rfl takesN (n_sum_of T) hr (by decide) rfl (da_cons (de_dn (dn_lc (own := [("lane", 2), ("flow", 3)]) (ix := [2, 3]) rfl sc_total_of.nd (di_zip rfl rfl T.b_zip (de_v (i := 0) rfl (.inl rfl)) (de_v (i := 1) rfl (.inl rfl))) (blkOk_by (by kernel_rfl)) (by decide +kernel) (fun _ _ _ _ _ => (dg_tup rfl rfl (dgs_cons (dg_name (i := 2) sc_total_of.nd rfl (.inl rfl)) (dgs_cons (dg_name (i := 3) sc_total_of.nd rfl (.inl rfl)) dgs_nil)))) (fun _ _ _ _ _ => dts_nil) (fun _ _ _ _ _ => (de_callN rfl rfl takes0 (n_by T) hr (by decide) rfl (da_cons (de_v (i := 3) rfl (.inl rfl)) (da_cons (de_callN rfl rfl takes0 (n_lane_time T) hr (by decide) rfl (da_cons (de_v (i := 2) rfl (.inl rfl)) (da_cons (de_v (i := 3) rfl (.inl rfl)) da_nil))) da_nil)))))) da_nil))))

theorem n_leader_plan {P : Program} {w : World} {C : Cs} {base : Heap} (T : Tp C base) : Dn P w C base "leader_plan" 3 7 (f_leader_plan) := by
  obtain ⟨fd, F⟩ := T.d_leader_plan
  exact Dn.mk' F sc_leader_plan T.g_leader_plan rfl (fun _ _ _ _ _ _ us hl => match us, hl with | [_, _, _], _ => rfl) fun A outer s H E hr =>
    (dss_cons (ds_expr (de_callN rfl rfl takesN (n_need_share T) hr (by decide) rfl (da_cons (de_v (i := 0) rfl (.inl rfl)) (da_cons (de_v (i := 1) rfl (.inl rfl)) (da_cons (de_v (i := 2) rfl (.inl rfl)) da_nil))))) (dss_cons (ds_set (i := 3) sc_leader_plan.nd rfl (.inl rfl) (de_callN rfl rfl takesN (n_best_flows T) hr (by decide) rfl (da_cons (de_v (i := 0) rfl (.inl rfl)) (da_cons (de_v (i := 1) rfl (.inl rfl)) da_nil)))) (dss_cons (ds_set (i := 4) sc_leader_plan.nd rfl (.inl rfl) (de_callN rfl rfl takesN (n_by T) hr (by decide) rfl (da_cons (de_v (i := 2) rfl (.inl rfl)) (da_cons (de_v (i := 1) rfl (.inl rfl)) da_nil)))) (dss_cons (ds_set (i := 5) sc_leader_plan.nd rfl (.inl rfl) (de_callN rfl rfl takesN (n_led_of T) hr (by decide) rfl (da_cons (de_v (i := 0) rfl (.inl rfl)) (da_cons (de_v (i := 3) rfl (.inl rfl)) (da_cons (de_v (i := 4) rfl (.inl rfl)) da_nil))))) (dss_cons (ds_set (i := 6) sc_leader_plan.nd rfl (.inl rfl) (de_callN rfl rfl takesN (n_others_of T) hr (by decide) rfl (da_cons (de_v (i := 0) rfl (.inl rfl)) (da_cons (de_v (i := 5) rfl (.inl rfl)) (da_cons (de_callN rfl rfl takesN (n_minus T) hr (by decide) rfl (da_cons (de_v (i := 1) rfl (.inl rfl)) (da_cons (de_v (i := 4) rfl (.inl rfl)) da_nil))) da_nil))))) (dss_cons (setLc (i := 7) (own := [("one", 8), ("other", 9)]) (ix := [8, 9]) rfl sc_leader_plan.nd rfl rfl rfl (di_zip rfl rfl T.b_zip (de_v (i := 5) rfl (.inl rfl)) (de_v (i := 6) rfl (.inl rfl))) (blkOk_by (by kernel_rfl)) (by decide +kernel) (fun _ _ _ _ _ => (dg_tup rfl rfl (dgs_cons (dg_name (i := 8) sc_leader_plan.nd rfl (.inl rfl)) (dgs_cons (dg_name (i := 9) sc_leader_plan.nd rfl (.inl rfl)) dgs_nil)))) (fun _ _ _ _ _ => dts_nil) (fun _ _ _ _ _ => (de_callN rfl rfl takes0 (n_plus T) hr (by decide) rfl (da_cons (de_v (i := 8) rfl (.inl rfl)) (da_cons (de_v (i := 9) rfl (.inl rfl)) da_nil))))) (dss_fz 7 (dss_one (ds_ret (de_tup (da_cons (de_callTy call_tuple_of on_tuple rfl T.b_tuple (by decide +kernel) (da_cons (de_v (i := 3) rfl (.inl rfl)) da_nil)) (da_cons (de_callTy call_tuple_of on_tuple rfl T.b_tuple (by decide +kernel) (da_cons (de_v (i := 5) rfl (.inl rfl)) da_nil)) (da_cons (de_callTy call_tuple_of on_tuple rfl T.b_tuple (by decide +kernel) (da_cons (de_v (i := 6) rfl (.inl rfl)) da_nil)) (da_cons (de_callN rfl rfl takesN (n_total_of T) hr (by decide) rfl (da_cons (de_v (i := 0) rfl (.inl rfl)) (da_cons (de_v (i := 7) rfl (.inl rfl)) da_nil))) da_nil))))))))))))))

theorem n_are_flows {P : Program} {w : World} {C : Cs} {base : Heap} (T : Tp C base) : Dn P w C base "are_flows" 2 5 (f_are_flows) := by
  obtain ⟨fd, F⟩ := T.d_are_flows
  exact Dn.mk' F sc_are_flows T.g_are_flows rfl (fun _ _ _ _ _ _ us hl => match us, hl with | [_, _], _ => rfl) fun A outer s H E hr =>
    (dss_cons (ds_if (dw_dt (dw_or (dt_not (dt_tru rfl (de_isi rfl rfl T.b_isinstance rfl T.b_tuple (by decide +kernel) (de_v (i := 1) rfl (.inl rfl))))) (dw_or1 (dt_ne rfl hr (de_callB call_len on_len rfl T.b_len boot_len (da_cons (de_v (i := 1) rfl (.inl rfl)) da_nil)) (de_callB call_len on_len rfl T.b_len boot_len (da_cons (de_v (i := 0) rfl (.inl rfl)) da_nil)))))) (dss_one (ds_ret de_bl)) dss_nil) (dss_one (ds_ret (de_allG (own := [("one", 2)]) (ix := [2]) hr rfl T.b_all T.t_are_flows T.p_are_flows rfl ⟨blkOk_by (by kernel_rfl), rfl, by decide +kernel, rfl⟩ (by decide +kernel) sc_are_flows.nd (di_seq rfl (de_v (i := 1) rfl (.inl rfl))) (fun _ _ _ _ _ _ => (dg_name (i := 2) sc_are_flows.nd rfl (.inl rfl))) (fun _ _ _ _ _ _ => dts_nil) (fun _ _ _ _ _ _ => (de_and rfl (de_callN rfl rfl takes0 (n_is_ratio T) (roomG hr) (by decide) rfl (da_cons (de_v (i := 2) rfl (.inl rfl)) da_nil)) (de_one (de_ge (de_ix rfl (de_v (i := 2) rfl (.inl rfl)) de_int (fun _ _ => rfl)) de_int))))))))

theorem n_do_rest {P : Program} {w : World} {C : Cs} {base : Heap} (T : Tp C base) : Dn P w C base "do_rest" 3 4 (f_do_rest) := by
  obtain ⟨fd, F⟩ := T.d_do_rest
  exact Dn.mk' F sc_do_rest T.g_do_rest rfl (fun _ _ _ _ _ _ us hl => match us, hl with | [_, _, _], _ => rfl) fun A outer s H E hr =>
    (dss_cons (ds_for ownsN rfl (di_zip rfl rfl T.b_zip (de_v (i := 0) rfl (.inl rfl)) (de_v (i := 2) rfl (.inl rfl))) (dg_tup rfl rfl (dgs_cons (dg_tup rfl rfl (dgs_cons (dg_name (i := 3) sc_do_rest.nd rfl (.inl rfl)) (dgs_cons (dg_name (i := 4) sc_do_rest.nd rfl (.inl rfl)) dgs_nil))) (dgs_cons (dg_name (i := 5) sc_do_rest.nd rfl (.inl rfl)) dgs_nil))) (dss_cons (ds_set (i := 6) sc_do_rest.nd rfl (.inl rfl) (de_callN rfl rfl takesN (n_plus T) hr (by decide) rfl (da_cons (de_callN rfl rfl takesN (n_by T) hr (by decide) rfl (da_cons (de_tup (da_cons (de_v (i := 3) rfl (.inl rfl)) (da_cons de_int da_nil))) (da_cons (de_v (i := 5) rfl (.inl rfl)) da_nil))) (da_cons (de_v (i := 4) rfl (.inl rfl)) da_nil)))) (dss_one (ds_if (dw_dt (dw_or (dt_tru rfl (de_callN rfl rfl takesN (n_less T) hr (by decide) rfl (da_cons (de_v (i := 6) rfl (.inl rfl)) (da_cons (de_v (i := 1) rfl (.inl rfl)) da_nil)))) (dw_or1 (dw_dt (dw_and (dt_gt (de_ix rfl (de_v (i := 5) rfl (.inl rfl)) de_int (fun _ _ => rfl)) de_int) (dw_and1 (dt_ne rfl hr (de_v (i := 6) rfl (.inl rfl)) (de_v (i := 1) rfl (.inl rfl))))))))) (dss_one (ds_ret de_bl)) dss_nil)))) (dss_one (ds_ret de_bl)))

theorem n_rests_behind {P : Program} {w : World} {C : Cs} {base : Heap} (T : Tp C base) : Dn P w C base "rests_behind" 4 6 (f_rests_behind) := by
  obtain ⟨fd, F⟩ := T.d_rests_behind
  exact Dn.mk' F sc_rests_behind T.g_rests_behind rfl (fun _ _ _ _ _ _ us hl => match us, hl with | [_, _, _, _], _ => rfl) fun A outer s H E hr =>
    (dss_cons (ds_if (dt_ne rfl hr (de_callN rfl rfl takesN (n_sum_of T) hr (by decide) rfl (da_cons (de_callTy call_list_of on_list rfl T.b_list (by decide +kernel) (da_cons (de_v (i := 3) rfl (.inl rfl)) da_nil)) da_nil)) (de_v (i := 2) rfl (.inl rfl))) (dss_one (ds_ret de_bl)) dss_nil) (dss_cons (ds_if (dt_eq rfl hr (de_ix rfl (de_v (i := 2) rfl (.inl rfl)) de_int (fun _ _ => rfl)) de_int) (dss_one (ds_ret de_bl)) dss_nil) (dss_cons (ds_set (i := 4) sc_rests_behind.nd rfl (.inl rfl) (de_callN rfl rfl takesN (n_left_lanes T) hr (by decide) rfl (da_cons (de_v (i := 0) rfl (.inl rfl)) (da_cons (de_v (i := 1) rfl (.inl rfl)) da_nil)))) (dss_one (ds_ret (de_callN rfl rfl takesN (n_do_rest T) hr (by decide) rfl (da_cons (de_v (i := 4) rfl (.inl rfl)) (da_cons (de_callN rfl rfl takesN (n_level_of T) hr (by decide) rfl (da_cons (de_v (i := 4) rfl (.inl rfl)) (da_cons (de_v (i := 2) rfl (.inl rfl)) da_nil))) (da_cons (de_v (i := 3) rfl (.inl rfl)) da_nil)))))))))

theorem n_shows_plan {P : Program} {w : World} {C : Cs} {base : Heap} (T : Tp C base) : Dn P w C base "shows_plan" 4 7 (f_shows_plan) := by
  obtain ⟨fd, F⟩ := T.d_shows_plan
  exact Dn.mk' F sc_shows_plan T.g_shows_plan rfl (fun _ _ _ _ _ _ us hl => match us, hl with | [_, _, _, _], _ => rfl) fun A outer s H E hr =>
    (dss_cons (ds_expr (de_callN rfl rfl takesN (n_need_share T) hr (by decide) rfl (da_cons (de_v (i := 0) rfl (.inr (.inl rfl))) (da_cons (de_v (i := 1) rfl (.inl rfl)) (da_cons (de_v (i := 2) rfl (.inl rfl)) da_nil))))) (dss_cons (ds_if (dw_dt (dw_or (dt_not (dt_tru rfl (de_isi rfl rfl T.b_isinstance rfl T.b_tuple (by decide +kernel) (de_v (i := 3) rfl (.inl rfl))))) (dw_or (dt_ne rfl hr (de_callB call_len on_len rfl T.b_len boot_len (da_cons (de_v (i := 3) rfl (.inl rfl)) da_nil)) de_int) (dw_or1 (dt_not (dt_tru rfl (de_callN rfl rfl takesN (n_is_ratio T) hr (by decide) rfl (da_cons (de_ix rfl (de_v (i := 3) rfl (.inl rfl)) de_int (fun _ _ => rfl)) da_nil)))))))) (dss_one (ds_ret de_bl)) dss_nil) (dss_cons (ds_asg (de_v (i := 3) rfl (.inl rfl)) (dg_tup rfl rfl (dgs_cons (dg_name (i := 4) sc_shows_plan.nd rfl (.inl rfl)) (dgs_cons (dg_name (i := 5) sc_shows_plan.nd rfl (.inl rfl)) (dgs_cons (dg_name (i := 6) sc_shows_plan.nd rfl (.inl rfl)) (dgs_cons (dg_name (i := 7) sc_shows_plan.nd rfl (.inl rfl)) dgs_nil)))))) (dss_cons (ds_if (dw_dt (dw_or (dt_not (dt_tru rfl (de_allG (own := [("one", 8)]) (ix := [8]) hr rfl T.b_all T.t_shows_plan T.p_shows_plan rfl ⟨blkOk_by (by kernel_rfl), rfl, by decide +kernel, rfl⟩ (by decide +kernel) sc_shows_plan.nd (di_seq rfl (de_tup (da_cons (de_v (i := 4) rfl (.inl rfl)) (da_cons (de_v (i := 5) rfl (.inl rfl)) (da_cons (de_v (i := 6) rfl (.inl rfl)) da_nil))))) (fun _ _ _ _ _ _ => (dg_name (i := 8) sc_shows_plan.nd rfl (.inl rfl))) (fun _ _ _ _ _ _ => dts_nil) (fun _ _ _ _ _ _ => (de_callN rfl rfl takes0 (n_are_flows T) (roomG hr) (by decide) rfl (da_cons (de_v (i := 0) rfl (.inr (.inr rfl))) (da_cons (de_v (i := 8) rfl (.inl rfl)) da_nil))))))) (dw_or1 (dt_ne rfl hr (de_callN rfl rfl takesN (n_sum_of T) hr (by decide) rfl (da_cons (de_callTy call_list_of on_list rfl T.b_list (by decide +kernel) (da_cons (de_v (i := 4) rfl (.inl rfl)) da_nil)) da_nil)) (de_v (i := 1) rfl (.inl rfl)))))) (dss_one (ds_ret de_bl)) dss_nil) (dss_cons (ds_if (dt_ne rfl hr (de_callN rfl rfl takesN (n_total_of T) hr (by decide) rfl (da_cons (de_v (i := 0) rfl (.inr (.inl rfl))) (da_cons (de_v (i := 4) rfl (.inl rfl)) da_nil))) (de_callN rfl rfl takesN (n_total_of T) hr (by decide) rfl (da_cons (de_v (i := 0) rfl (.inr (.inl rfl))) (da_cons (de_callN rfl rfl takesN (n_best_flows T) hr (by decide) rfl (da_cons (de_v (i := 0) rfl (.inr (.inl rfl))) (da_cons (de_v (i := 1) rfl (.inl rfl)) da_nil))) da_nil)))) (dss_one (ds_ret de_bl)) dss_nil) (dss_cons (ds_set (i := 9) sc_shows_plan.nd rfl (.inl rfl) (de_callN rfl rfl takesN (n_by T) hr (by decide) rfl (da_cons (de_v (i := 2) rfl (.inl rfl)) (da_cons (de_v (i := 1) rfl (.inl rfl)) da_nil)))) (dss_cons (ds_if (dw_dt (dw_or (dt_ne rfl hr (de_v (i := 5) rfl (.inl rfl)) (de_callTy call_tuple_of on_tuple rfl T.b_tuple (by decide +kernel) (da_cons (de_callN rfl rfl takesN (n_led_of T) hr (by decide) rfl (da_cons (de_v (i := 0) rfl (.inr (.inl rfl))) (da_cons (de_v (i := 4) rfl (.inl rfl)) (da_cons (de_v (i := 9) rfl (.inl rfl)) da_nil)))) da_nil))) (dw_or1 (dt_not (dt_tru rfl (de_callN rfl rfl takesN (n_rests_behind T) hr (by decide) rfl (da_cons (de_v (i := 0) rfl (.inr (.inl rfl))) (da_cons (de_v (i := 5) rfl (.inl rfl)) (da_cons (de_callN rfl rfl takesN (n_minus T) hr (by decide) rfl (da_cons (de_v (i := 1) rfl (.inl rfl)) (da_cons (de_v (i := 9) rfl (.inl rfl)) da_nil))) (da_cons (de_v (i := 6) rfl (.inl rfl)) da_nil)))))))))) (dss_one (ds_ret de_bl)) dss_nil) (dss_one (ds_ret (de_eq rfl hr (de_callN rfl rfl takesN (n_total_of T) hr (by decide) rfl (da_cons (de_v (i := 0) rfl (.inr (.inl rfl))) (da_cons (de_dn (dn_lc (own := [("one", 8), ("other", 10)]) (ix := [8, 10]) rfl sc_shows_plan.nd (di_zip rfl rfl T.b_zip (de_v (i := 5) rfl (.inl rfl)) (de_v (i := 6) rfl (.inl rfl))) (blkOk_by (by kernel_rfl)) (by decide +kernel) (fun _ _ _ _ _ => (dg_tup rfl rfl (dgs_cons (dg_name (i := 8) sc_shows_plan.nd rfl (.inl rfl)) (dgs_cons (dg_name (i := 10) sc_shows_plan.nd rfl (.inl rfl)) dgs_nil)))) (fun _ _ _ _ _ => dts_nil) (fun _ _ _ _ _ => (de_callN rfl rfl takes0 (n_plus T) hr (by decide) rfl (da_cons (de_v (i := 8) rfl (.inl rfl)) (da_cons (de_v (i := 10) rfl (.inl rfl)) da_nil)))))) da_nil))) (de_v (i := 7) rfl (.inl rfl))))))))))))

theorem n_law_by {P : Program} {w : World} {C : Cs} {base : Heap} (T : Tp C base) : Dn P w C base "_law_by" 2 3 (f_law_by) := by
  obtain ⟨fd, F⟩ := T.d_law_by
  exact Dn.mk' F sc_law_by T.g_law_by rfl (fun _ _ _ _ _ _ us hl => match us, hl with | [_, _], _ => rfl) fun A outer s H E hr =>
    (dss_one (ds_ret (de_callN rfl rfl takesN (n_law_ratio T) hr (by decide) rfl (da_cons (de_mul (de_ix rfl (de_v (i := 0) rfl (.inl rfl)) de_int (fun _ _ => rfl)) (de_ix rfl (de_v (i := 1) rfl (.inl rfl)) de_int (fun _ _ => rfl))) (da_cons (de_mul (de_ix rfl (de_v (i := 0) rfl (.inl rfl)) de_int (fun _ _ => rfl)) (de_ix rfl (de_v (i := 1) rfl (.inl rfl)) de_int (fun _ _ => rfl))) da_nil)))))

theorem n_lane_rest {P : Program} {w : World} {C : Cs} {base : Heap} (T : Tp C base) : Dn P w C base "lane_rest" 2 6 (f_lane_rest) := by
  obtain ⟨fd, F⟩ := T.d_lane_rest
  exact Dn.mk' F sc_lane_rest T.g_lane_rest rfl (fun _ _ _ _ _ _ us hl => match us, hl with | [_, _], _ => rfl) fun A outer s H E hr =>
    (dss_cons (ds_expr (de_callN rfl rfl takesN (n_need_lanes T) hr (by decide) rfl (da_cons (de_v (i := 0) rfl (.inl rfl)) (da_cons (de_v (i := 1) rfl (.inl rfl)) da_nil)))) (dss_cons (ds_set (i := 2) sc_lane_rest.nd rfl (.inl rfl) (de_callN rfl rfl takesN (n_with_ratios T) hr (by decide) rfl (da_cons (de_v (i := 0) rfl (.inl rfl)) da_nil))) (dss_cons (ds_set (i := 3) sc_lane_rest.nd rfl (.inl rfl) (de_callN rfl rfl takesN (n_level_of T) hr (by decide) rfl (da_cons (de_v (i := 2) rfl (.inl rfl)) (da_cons (de_v (i := 1) rfl (.inl rfl)) da_nil)))) (dss_one (ds_ret (de_tup (da_cons (de_v (i := 3) rfl (.inl rfl)) (da_cons (de_callTy call_tuple_of on_tuple rfl T.b_tuple (by decide +kernel) (da_cons (de_callN rfl rfl takesN (n_flows_at T) hr (by decide) rfl (da_cons (de_v (i := 2) rfl (.inl rfl)) (da_cons (de_v (i := 1) rfl (.inl rfl)) (da_cons (de_v (i := 3) rfl (.inl rfl)) da_nil)))) da_nil)) da_nil))))))))

theorem n_law_plus {P : Program} {w : World} {C : Cs} {base : Heap} (T : Tp C base) : Dn P w C base "_law_plus" 2 3 (f_law_plus) := by
  obtain ⟨fd, F⟩ := T.d_law_plus
  exact Dn.mk' F sc_law_plus T.g_law_plus rfl (fun _ _ _ _ _ _ us hl => match us, hl with | [_, _], _ => rfl) fun A outer s H E hr =>
    (dss_one (ds_ret (de_callN rfl rfl takesN (n_law_ratio T) hr (by decide) rfl (da_cons (de_add rfl (de_mul (de_ix rfl (de_v (i := 0) rfl (.inl rfl)) de_int (fun _ _ => rfl)) (de_ix rfl (de_v (i := 1) rfl (.inl rfl)) de_int (fun _ _ => rfl))) (de_mul (de_ix rfl (de_v (i := 1) rfl (.inl rfl)) de_int (fun _ _ => rfl)) (de_ix rfl (de_v (i := 0) rfl (.inl rfl)) de_int (fun _ _ => rfl)))) (da_cons (de_mul (de_ix rfl (de_v (i := 0) rfl (.inl rfl)) de_int (fun _ _ => rfl)) (de_ix rfl (de_v (i := 1) rfl (.inl rfl)) de_int (fun _ _ => rfl))) da_nil)))))

theorem n_law_sum {P : Program} {w : World} {C : Cs} {base : Heap} (T : Tp C base) : Dn P w C base "_law_sum" 1 4 (f_law_sum) := by
  obtain ⟨fd, F⟩ := T.d_law_sum
  exact Dn.mk' F sc_law_sum T.g_law_sum rfl (fun _ _ _ _ _ _ us hl => match us, hl with | [_], _ => rfl) fun A outer s H E hr =>
    (dss_cons (ds_set (i := 1) sc_law_sum.nd rfl (.inl rfl) (de_tup (da_cons de_int (da_cons de_int da_nil)))) (dss_cons (ds_for ownsN rfl (di_seq rfl (de_v (i := 0) rfl (.inl rfl))) (dg_name (i := 2) sc_law_sum.nd rfl (.inl rfl)) (dss_one (ds_set (i := 1) sc_law_sum.nd rfl (.inl rfl) (de_callN rfl rfl takesN (n_law_plus T) hr (by decide) rfl (da_cons (de_v (i := 1) rfl (.inl rfl)) (da_cons (de_v (i := 2) rfl (.inl rfl)) da_nil)))))) (dss_one (ds_ret (de_v (i := 1) rfl (.inl rfl))))))

theorem n_law {P : Program} {w : World} {C : Cs} {base : Heap} {fd : FuncData} (T : Tp C base) (F : FunD C.K "law" "law" (defArgs s_law) (defBody s_law) (defScope s_law) [] [] (He.ga C.K "law") fd) :
    FnOk P w C.K C.mg base (L2.CX P w) 8 (He.ga C.K "law") fd ["_law_script"] (spD C 1 (f_law C)) :=
  fnL F sc_law rfl fun A outer s H E hr =>
    (dss_cons (ds_row (i := 1) (j := 0) (by decide) sc_law.nd rfl (.inl rfl) rfl (.inl rfl)) (dss_cons (ds_asg (de_tup (da_cons (de_callN rfl rfl takesN (n_law_lanes T) hr (by decide) rfl (da_trk (i := 1) rfl (.inl rfl) da_nil)) (da_cons (de_callN rfl rfl takesN (n_law_demand T) hr (by decide) rfl (da_trk (i := 1) rfl (.inl rfl) da_nil)) (da_cons (de_add rfl de_int (de_callN rfl rfl takesN (n_law_taken T) hr (by decide) rfl (da_trk (i := 1) rfl (.inl rfl) (da_cons de_int da_nil)))) da_nil)))) (dg_tup rfl rfl (dgs_cons (dg_name (i := 2) sc_law.nd rfl (.inl rfl)) (dgs_cons (dg_name (i := 3) sc_law.nd rfl (.inl rfl)) (dgs_cons (dg_name (i := 4) sc_law.nd rfl (.inr rfl)) dgs_nil))))) (dss_cons (ds_set (i := 5) sc_law.nd rfl (.inl rfl) (de_callN rfl rfl takesN (n_law_pick T) hr (by decide) rfl (da_trk (i := 1) rfl (.inl rfl) (da_cons (de_lst (da_cons (de_tup (da_cons de_int (da_cons de_int da_nil))) (da_cons (de_tup (da_cons de_int (da_cons de_int da_nil))) (da_cons (de_tup (da_cons de_int (da_cons de_int da_nil))) (da_cons (de_tup (da_cons de_int (da_cons de_int da_nil))) (da_cons (de_callN rfl rfl takesN (n_law_ratio T) hr (by decide) rfl (da_cons (de_callN rfl rfl takesN (n_law_taken T) hr (by decide) rfl (da_trk (i := 1) rfl (.inl rfl) (da_cons de_int da_nil))) (da_cons de_int da_nil))) da_nil)))))) da_nil)))) (dss_cons (ds_asg (de_callN rfl rfl takesN (n_leader_plan T) hr (by decide) rfl (da_cons (de_v (i := 2) rfl (.inl rfl)) (da_cons (de_v (i := 3) rfl (.inl rfl)) (da_cons (de_v (i := 5) rfl (.inl rfl)) da_nil)))) (dg_tup rfl rfl (dgs_cons (dg_name (i := 6) sc_law.nd rfl (.inl rfl)) (dgs_cons (dg_name (i := 7) sc_law.nd rfl (.inl rfl)) (dgs_cons (dg_name (i := 8) sc_law.nd rfl (.inl rfl)) (dgs_cons (dg_name (i := 9) sc_law.nd rfl (.inl rfl)) dgs_nil)))))) (dss_cons (ds_if (dt_le (de_mul (de_callB (cr_maxA rfl) on_maxL rfl T.b_max (by decide +kernel) (da_cons (de_dn (dn_lc (own := [("_law_lane", 10)]) (ix := [10]) rfl sc_law.nd (di_seq rfl (de_v (i := 2) rfl (.inl rfl))) (blkOk_by (by kernel_rfl)) (by decide +kernel) (fun _ _ _ _ _ => (dg_name (i := 10) sc_law.nd rfl (.inl rfl))) (fun _ _ _ _ _ => dts_nil) (fun _ _ _ _ _ => (de_callB (cr_maxA rfl) on_maxL rfl T.b_max (by decide +kernel) (da_cons (de_v (i := 10) rfl (.inl rfl)) da_nil))))) da_nil)) (de_v (i := 4) rfl (.inr (.inl rfl)))) de_int) (dss_cons (ds_set (i := 11) sc_law.nd rfl (.inl rfl) (de_callTy call_tuple_of on_tuple rfl T.b_tuple (by decide +kernel) (da_cons (de_dn (dn_lc (own := [("_law_lane", 10)]) (ix := [10]) rfl sc_law.nd (di_seq rfl (de_v (i := 2) rfl (.inl rfl))) (blkOk_by (by kernel_rfl)) (by decide +kernel) (fun _ _ _ _ _ => (dg_name (i := 10) sc_law.nd rfl (.inl rfl))) (fun _ _ _ _ _ => dts_nil) (fun _ _ _ _ _ => (de_tup (da_cons (de_mul (de_ix rfl (de_v (i := 10) rfl (.inl rfl)) de_int (fun _ _ => rfl)) (de_v (i := 4) rfl (.inr (.inl rfl)))) (da_cons (de_mul (de_ix rfl (de_v (i := 10) rfl (.inl rfl)) de_int (fun _ _ => rfl)) (de_v (i := 4) rfl (.inr (.inl rfl)))) da_nil)))))) da_nil))) (dss_cons (ds_if (dt_isNotB (de_callN rfl rfl takesN (n_shows_plan T) hr (by decide) rfl (da_cons (de_v (i := 11) rfl (.inl rfl)) (da_cons (de_v (i := 3) rfl (.inl rfl)) (da_cons (de_v (i := 5) rfl (.inl rfl)) (da_cons (de_tup (da_cons (de_v (i := 6) rfl (.inl rfl)) (da_cons (de_v (i := 7) rfl (.inl rfl)) (da_cons (de_v (i := 8) rfl (.inl rfl)) (da_cons (de_callN rfl rfl takesN (n_law_by T) hr (by decide) rfl (da_cons (de_tup (da_cons (de_v (i := 4) rfl (.inr (.inl rfl))) (da_cons de_int da_nil))) (da_cons (de_v (i := 9) rfl (.inl rfl)) da_nil))) da_nil))))) da_nil))))) de_bl) (dss_one (ds_ret de_bl)) dss_nil) (dss_one (ds_if (dt_ne rfl hr (de_ix rfl (de_callN rfl rfl takesN (n_lane_rest T) hr (by decide) rfl (da_cons (de_v (i := 11) rfl (.inl rfl)) (da_cons (de_v (i := 3) rfl (.inl rfl)) da_nil))) de_int (fun _ _ => rfl)) (de_callN rfl rfl takesN (n_law_by T) hr (by decide) rfl (da_cons (de_tup (da_cons (de_v (i := 4) rfl (.inr (.inl rfl))) (da_cons de_int da_nil))) (da_cons (de_ix rfl (de_callN rfl rfl takesN (n_lane_rest T) hr (by decide) rfl (da_cons (de_v (i := 2) rfl (.inl rfl)) (da_cons (de_v (i := 3) rfl (.inl rfl)) da_nil))) de_int (fun _ _ => rfl)) da_nil)))) (dss_one (ds_ret de_bl)) dss_nil)))) dss_nil) (dss_cons (ds_set (i := 12) sc_law.nd rfl (.inl rfl) (de_callN rfl rfl takesN (n_law_by T) hr (by decide) rfl (da_cons (de_v (i := 3) rfl (.inl rfl)) (da_cons (de_tup (da_cons de_int (da_cons (de_v (i := 4) rfl (.inr (.inl rfl))) da_nil))) da_nil)))) (dss_cons (ds_if (dw_dt (dw_and (dt_le (de_mul (de_callB (cr_maxA rfl) on_maxL rfl T.b_max (by decide +kernel) (da_cons (de_dn (dn_lc (own := [("_law_lane", 10)]) (ix := [10]) rfl sc_law.nd (di_seq rfl (de_v (i := 2) rfl (.inl rfl))) (blkOk_by (by kernel_rfl)) (by decide +kernel) (fun _ _ _ _ _ => (dg_name (i := 10) sc_law.nd rfl (.inl rfl))) (fun _ _ _ _ _ => dts_nil) (fun _ _ _ _ _ => (de_ix rfl (de_v (i := 10) rfl (.inl rfl)) de_int (fun _ _ => rfl))))) da_nil)) (de_v (i := 4) rfl (.inr (.inl rfl)))) de_int) (dw_and1 (dt_le (de_ix rfl (de_v (i := 12) rfl (.inl rfl)) de_int (fun _ _ => rfl)) de_int)))) (dss_cons (ds_set (i := 13) sc_law.nd rfl (.inl rfl) (de_callTy call_tuple_of on_tuple rfl T.b_tuple (by decide +kernel) (da_cons (de_dn (dn_lc (own := [("_law_lane", 10)]) (ix := [10]) rfl sc_law.nd (di_seq rfl (de_v (i := 2) rfl (.inl rfl))) (blkOk_by (by kernel_rfl)) (by decide +kernel) (fun _ _ _ _ _ => (dg_name (i := 10) sc_law.nd rfl (.inl rfl))) (fun _ _ _ _ _ => dts_nil) (fun _ _ _ _ _ => (de_tup (da_cons (de_mul (de_ix rfl (de_v (i := 10) rfl (.inl rfl)) de_int (fun _ _ => rfl)) (de_v (i := 4) rfl (.inr (.inl rfl)))) (da_cons (de_ix rfl (de_v (i := 10) rfl (.inl rfl)) de_int (fun _ _ => rfl)) da_nil)))))) da_nil))) (dss_cons (setLc (i := 14) (own := [("_law_side", 16)]) (ix := [16]) rfl sc_law.nd rfl rfl rfl (di_seq rfl (de_lst (da_cons (de_v (i := 6) rfl (.inl rfl)) (da_cons (de_v (i := 7) rfl (.inl rfl)) (da_cons (de_v (i := 8) rfl (.inl rfl)) da_nil))))) (blkOk_by (by kernel_rfl)) (by decide +kernel) (fun _ _ _ _ _ => (dg_name (i := 16) sc_law.nd rfl (.inl rfl))) (fun _ _ _ _ _ => dts_nil) (fun _ _ _ _ _ => (de_callTy call_tuple_of on_tuple rfl T.b_tuple (by decide +kernel) (da_cons (de_dn (dn_lc (own := [("_law_one", 15)]) (ix := [15]) rfl sc_law.nd (di_seq rfl (de_v (i := 16) rfl (.inl rfl))) (blkOk_by (by kernel_rfl)) (by decide +kernel) (fun _ _ _ _ _ => (dg_name (i := 15) sc_law.nd rfl (.inl rfl))) (fun _ _ _ _ _ => dts_nil) (fun _ _ _ _ _ => (de_callN rfl rfl takes0 (n_law_by T) hr (by decide) rfl (da_cons (de_v (i := 15) rfl (.inl rfl)) (da_cons (de_tup (da_cons de_int (da_cons (de_v (i := 4) rfl (.inr (.inl rfl))) da_nil))) da_nil)))))) da_nil)))) (dss_fz 14 (dss_one (ds_if (dt_isNotB (de_callN rfl rfl takesN (n_shows_plan T) hr (by decide) rfl (da_cons (de_v (i := 13) rfl (.inl rfl)) (da_cons (de_v (i := 12) rfl (.inl rfl)) (da_cons (de_v (i := 5) rfl (.inl rfl)) (da_cons (de_tup (da_cons (de_ix rfl (de_v (i := 14) rfl (.inl rfl)) de_int (fun _ _ => rfl)) (da_cons (de_ix rfl (de_v (i := 14) rfl (.inl rfl)) de_int (fun _ _ => rfl)) (da_cons (de_ix rfl (de_v (i := 14) rfl (.inl rfl)) de_int (fun _ _ => rfl)) (da_cons (de_callN rfl rfl takesN (n_law_by T) hr (by decide) rfl (da_cons (de_v (i := 9) rfl (.inl rfl)) (da_cons (de_tup (da_cons de_int (da_cons (de_v (i := 4) rfl (.inr (.inl rfl))) da_nil))) da_nil))) da_nil))))) da_nil))))) de_bl) (dss_one (ds_ret de_bl)) dss_nil))))) dss_nil) (dss_cons (ds_set (i := 17) sc_law.nd rfl (.inl rfl) (de_callN rfl rfl takesN (n_law_sum T) hr (by decide) rfl (da_cons (de_add rfl (de_callTy call_list_of on_list rfl T.b_list (by decide +kernel) (da_cons (de_v (i := 7) rfl (.inl rfl)) da_nil)) (de_callTy call_list_of on_list rfl T.b_list (by decide +kernel) (da_cons (de_v (i := 8) rfl (.inl rfl)) da_nil))) da_nil))) (dss_one (ds_ret (de_and rfl (de_eq rfl hr (de_v (i := 17) rfl (.inl rfl)) (de_v (i := 3) rfl (.inl rfl))) (de_and rfl (de_eq rfl hr (de_callN rfl rfl takesN (n_law_sum T) hr (by decide) rfl (da_cons (de_callTy call_list_of on_list rfl T.b_list (by decide +kernel) (da_cons (de_v (i := 7) rfl (.inl rfl)) da_nil)) da_nil)) (de_callN rfl rfl takesN (n_law_by T) hr (by decide) rfl (da_cons (de_v (i := 5) rfl (.inl rfl)) (da_cons (de_v (i := 3) rfl (.inl rfl)) da_nil)))) (de_one (de_eq rfl hr (de_callN rfl rfl takesN (n_law_sum T) hr (by decide) rfl (da_cons (de_callTy call_list_of on_list rfl T.b_list (by decide +kernel) (da_cons (de_v (i := 6) rfl (.inl rfl)) da_nil)) da_nil)) (de_v (i := 3) rfl (.inl rfl))))))))))))))))
end Tr

set_option Elab.async false
set_option linter.all false
set_option maxRecDepth 100000
set_option maxHeartbeats 0
namespace Tr
open PySem PySem.Spec L2
def dd_law_taken : He.DefD := ⟨("_law_taken", none), "_law_taken", "_law_taken", defArgs s_law_taken, defBody s_law_taken, defScope s_law_taken, [], []⟩
def dd_law_pick : He.DefD := ⟨("_law_pick", none), "_law_pick", "_law_pick", defArgs s_law_pick, defBody s_law_pick, defScope s_law_pick, [], []⟩
def dd_law_ratio : He.DefD := ⟨("_law_ratio", none), "_law_ratio", "_law_ratio", defArgs s_law_ratio, defBody s_law_ratio, defScope s_law_ratio, [], []⟩
def dd_law_demand : He.DefD := ⟨("_law_demand", none), "_law_demand", "_law_demand", defArgs s_law_demand, defBody s_law_demand, defScope s_law_demand, [], []⟩
def dd_law_lanes : He.DefD := ⟨("_law_lanes", none), "_law_lanes", "_law_lanes", defArgs s_law_lanes, defBody s_law_lanes, defScope s_law_lanes, [], []⟩
def dd_is_in : He.DefD := ⟨("is_in", none), "is_in", "is_in", defArgs s_is_in, defBody s_is_in, defScope s_is_in, [], []⟩
def dd_is_lane : He.DefD := ⟨("is_lane", none), "is_lane", "is_lane", defArgs s_is_lane, defBody s_is_lane, defScope s_is_lane, [], []⟩
def dd_is_ratio : He.DefD := ⟨("is_ratio", none), "is_ratio", "is_ratio", defArgs s_is_ratio, defBody s_is_ratio, defScope s_is_ratio, [], []⟩
def dd_need_demand : He.DefD := ⟨("need_demand", none), "need_demand", "need_demand", defArgs s_need_demand, defBody s_need_demand, defScope s_need_demand, [], []⟩
def dd_need_lanes : He.DefD := ⟨("need_lanes", none), "need_lanes", "need_lanes", defArgs s_need_lanes, defBody s_need_lanes, defScope s_need_lanes, [], []⟩
def dd_need_share : He.DefD := ⟨("need_share", none), "need_share", "need_share", defArgs s_need_share, defBody s_need_share, defScope s_need_share, [], []⟩
def dd_with_ratios : He.DefD := ⟨("with_ratios", none), "with_ratios", "with_ratios", defArgs s_with_ratios, defBody s_with_ratios, defScope s_with_ratios, [], []⟩
def dd_steep : He.DefD := ⟨("steep", none), "steep", "steep", defArgs s_steep, defBody s_steep, defScope s_steep, [], []⟩
def dd_ratio : He.DefD := ⟨("ratio", none), "ratio", "ratio", defArgs s_ratio, defBody s_ratio, defScope s_ratio, [], []⟩
def dd_minus : He.DefD := ⟨("minus", none), "minus", "minus", defArgs s_minus, defBody s_minus, defScope s_minus, [], []⟩
def dd_less : He.DefD := ⟨("less", none), "less", "less", defArgs s_less, defBody s_less, defScope s_less, [], []⟩
def dd_plus : He.DefD := ⟨("plus", none), "plus", "plus", defArgs s_plus, defBody s_plus, defScope s_plus, [], []⟩
def dd_over : He.DefD := ⟨("over", none), "over", "over", defArgs s_over, defBody s_over, defScope s_over, [], []⟩
def dd_taken_at : He.DefD := ⟨("taken_at", none), "taken_at", "taken_at", defArgs s_taken_at, defBody s_taken_at, defScope s_taken_at, [], []⟩
def dd_flows_at : He.DefD := ⟨("flows_at", none), "flows_at", "flows_at", defArgs s_flows_at, defBody s_flows_at, defScope s_flows_at, [], []⟩
def dd_sorted_ratios : He.DefD := ⟨("sorted_ratios", none), "sorted_ratios", "sorted_ratios", defArgs s_sorted_ratios, defBody s_sorted_ratios, defScope s_sorted_ratios, [], []⟩
def dd_sum_of : He.DefD := ⟨("sum_of", none), "sum_of", "sum_of", defArgs s_sum_of, defBody s_sum_of, defScope s_sum_of, [], []⟩
def dd_level_of : He.DefD := ⟨("level_of", none), "level_of", "level_of", defArgs s_level_of, defBody s_level_of, defScope s_level_of, [], []⟩
def dd_best_flows : He.DefD := ⟨("best_flows", none), "best_flows", "best_flows", defArgs s_best_flows, defBody s_best_flows, defScope s_best_flows, [], []⟩
def dd_by : He.DefD := ⟨("by", none), "by", "by", defArgs s_by, defBody s_by, defScope s_by, [], []⟩
def dd_lane_time : He.DefD := ⟨("lane_time", none), "lane_time", "lane_time", defArgs s_lane_time, defBody s_lane_time, defScope s_lane_time, [], []⟩
def dd_falling : He.DefD := ⟨("falling", none), "falling", "falling", defArgs s_falling, defBody s_falling, defScope s_falling, [], []⟩
def dd_led_of : He.DefD := ⟨("led_of", none), "led_of", "led_of", defArgs s_led_of, defBody s_led_of, defScope s_led_of, [], []⟩
def dd_left_lanes : He.DefD := ⟨("left_lanes", none), "left_lanes", "left_lanes", defArgs s_left_lanes, defBody s_left_lanes, defScope s_left_lanes, [], []⟩
def dd_others_of : He.DefD := ⟨("others_of", none), "others_of", "others_of", defArgs s_others_of, defBody s_others_of, defScope s_others_of, [], []⟩
def dd_total_of : He.DefD := ⟨("total_of", none), "total_of", "total_of", defArgs s_total_of, defBody s_total_of, defScope s_total_of, [], []⟩
def dd_leader_plan : He.DefD := ⟨("leader_plan", none), "leader_plan", "leader_plan", defArgs s_leader_plan, defBody s_leader_plan, defScope s_leader_plan, [], []⟩
def dd_are_flows : He.DefD := ⟨("are_flows", none), "are_flows", "are_flows", defArgs s_are_flows, defBody s_are_flows, defScope s_are_flows, [], []⟩
def dd_do_rest : He.DefD := ⟨("do_rest", none), "do_rest", "do_rest", defArgs s_do_rest, defBody s_do_rest, defScope s_do_rest, [], []⟩
def dd_rests_behind : He.DefD := ⟨("rests_behind", none), "rests_behind", "rests_behind", defArgs s_rests_behind, defBody s_rests_behind, defScope s_rests_behind, [], []⟩
def dd_shows_plan : He.DefD := ⟨("shows_plan", none), "shows_plan", "shows_plan", defArgs s_shows_plan, defBody s_shows_plan, defScope s_shows_plan, [], []⟩
def dd_law_by : He.DefD := ⟨("_law_by", none), "_law_by", "_law_by", defArgs s_law_by, defBody s_law_by, defScope s_law_by, [], []⟩
def dd_lane_rest : He.DefD := ⟨("lane_rest", none), "lane_rest", "lane_rest", defArgs s_lane_rest, defBody s_lane_rest, defScope s_lane_rest, [], []⟩
def dd_law_plus : He.DefD := ⟨("_law_plus", none), "_law_plus", "_law_plus", defArgs s_law_plus, defBody s_law_plus, defScope s_law_plus, [], []⟩
def dd_law_sum : He.DefD := ⟨("_law_sum", none), "_law_sum", "_law_sum", defArgs s_law_sum, defBody s_law_sum, defScope s_law_sum, [], []⟩
def dd_law : He.DefD := ⟨("law", none), "law", "law", defArgs s_law, defBody s_law, defScope s_law, [], []⟩
def fnT : List He.DefD := ([dd_law_taken, dd_law_pick, dd_law_ratio, dd_law_demand, dd_law_lanes, dd_is_in, dd_is_lane, dd_is_ratio, dd_need_demand, dd_need_lanes, dd_need_share, dd_with_ratios, dd_steep, dd_ratio, dd_minus, dd_less, dd_plus, dd_over, dd_taken_at, dd_flows_at] : List He.DefD) ++
  ([dd_sorted_ratios, dd_sum_of, dd_level_of, dd_best_flows, dd_by, dd_lane_time, dd_falling, dd_led_of, dd_left_lanes, dd_others_of, dd_total_of, dd_leader_plan, dd_are_flows, dd_do_rest, dd_rests_behind, dd_shows_plan, dd_law_by, dd_lane_rest, dd_law_plus, dd_law_sum] : List He.DefD) ++
  ([dd_law] : List He.DefD)
def faT : List He.Fa := ([.glo "_law_taken", .glo "_law_pick", .glo "_law_ratio", .glo "_law_demand", .glo "_law_lanes", .glo "is_in", .glo "is_lane", .glo "is_ratio", .glo "need_demand", .glo "need_lanes", .glo "need_share", .glo "with_ratios", .glo "steep", .glo "ratio", .glo "minus", .glo "less", .glo "plus", .glo "over", .glo "taken_at", .glo "flows_at"] : List He.Fa) ++
  ([.glo "sorted_ratios", .glo "sum_of", .glo "level_of", .glo "best_flows", .glo "by", .glo "lane_time", .glo "falling", .glo "led_of", .glo "left_lanes", .glo "others_of", .glo "total_of", .glo "leader_plan", .glo "are_flows", .glo "do_rest", .glo "rests_behind", .glo "shows_plan", .glo "_law_by", .glo "lane_rest", .glo "_law_plus", .glo "_law_sum"] : List He.Fa) ++
  ([.glo "law", .free "abs", .free "all", .free "bool", .free "enumerate", .free "int", .free "isinstance", .free "len", .free "list", .free "max", .free "range", .free "tuple", .free "zip", .int "MOST_BASE" 1000, .int "MOST_BOTTOM" 100, .int "MOST_LANES" 8, .int "MOST_PART" 100, .int "MOST_SLOPE" 100, .int "MOST_TOP" 1000] : List He.Fa)
def looseT : List Str := (["RoadError", "BadDemand", "BadLanes", "BadShare", "MOST_SLOPE", "MOST_BASE", "is_in", "ratio", "plus", "minus", "by", "over", "less", "sum_of", "is_ratio", "MOST_TOP", "MOST_BOTTOM", "MOST_LANES", "is_lane", "need_demand"] : List Str) ++
  (["need_lanes", "taken_at", "level_of", "sorted_ratios", "flows_at", "with_ratios", "lane_rest", "are_flows", "do_rest", "MOST_PART", "need_share", "steep", "best_flows", "lane_time", "total_of", "falling", "led_of", "left_lanes", "others_of", "leader_plan"] : List Str) ++
  (["rests_behind", "shows_plan", "_law_taken", "_law_pick", "_law_alike", "_law_ratio", "_law_plus", "_law_by", "_law_sum", "_law_less", "_law_demand", "_law_is_ratio", "_law_lanes", "_law_time", "_law_lane_rests"] : List Str)
def tfT : List He.Defn := [("is_ratio", none), ("are_flows", none), ("shows_plan", none)]
def exT (K : PySem.W.Frag) : Bool := He.eqO (PySem.W.nsIn K mainGlobals "gcd") (some (some (.builtin "math.gcd")))
abbrev hkT : PySem.W.Hook := He.hookX 4 faT fnT [] tfT exT
def obT (s : PySem.W.SharedT) : He.AlX := He.obsX 4 faT fnT [] tfT exT (HandSHeadRun.getT s)
theorem obT_eq (s : PySem.W.SharedT) : obT s = hkT.obs s.abs := He.obsX_eq (HandSHeadRun.getT_eq s)
abbrev rwT : PySem.W.OpenRow := PySem.W.OpenLaw.row PySem.Challenge.rw_tollroads_k88_across_leaders_in_scale
theorem runT (w : World) : HandSHeadRun.RunEqI rwT (PySem.W.view rwT.prog [0, 62]) hkT obT 6000 looseT w := by
  unfold HandSHeadRun.RunEqI
  kernel_rfl
theorem tpT {K : PySem.W.Frag} {h base : Heap} {mg : Str → Option Value} {w : World} {a : Addr} {ns : List Int} (X : K.In h) (G : h.Ns mainGlobals mg) (c0 : He.SaysX faT fnT [] tfT exT w h K) (tb : ∀ p ∈ tfT.map (He.cT K), LamX.TabB base mg p.1 p.2) : Tp (mkC K mg (tfT.map (He.cT K)) a ns) base :=
  have c := c0.t.d
  have hex := c0.more
  {
    d_law_taken := c.def_ 0 (d := dd_law_taken) rfl
    g_law_taken := He.glo_ok X G (c.fact 0 (f := .glo "_law_taken") rfl)
    d_law_pick := c.def_ 1 (d := dd_law_pick) rfl
    g_law_pick := He.glo_ok X G (c.fact 1 (f := .glo "_law_pick") rfl)
    d_law_ratio := c.def_ 2 (d := dd_law_ratio) rfl
    g_law_ratio := He.glo_ok X G (c.fact 2 (f := .glo "_law_ratio") rfl)
    d_law_demand := c.def_ 3 (d := dd_law_demand) rfl
    g_law_demand := He.glo_ok X G (c.fact 3 (f := .glo "_law_demand") rfl)
    d_law_lanes := c.def_ 4 (d := dd_law_lanes) rfl
    g_law_lanes := He.glo_ok X G (c.fact 4 (f := .glo "_law_lanes") rfl)
    d_is_in := c.def_ 5 (d := dd_is_in) rfl
    g_is_in := He.glo_ok X G (c.fact 5 (f := .glo "is_in") rfl)
    d_is_lane := c.def_ 6 (d := dd_is_lane) rfl
    g_is_lane := He.glo_ok X G (c.fact 6 (f := .glo "is_lane") rfl)
    d_is_ratio := c.def_ 7 (d := dd_is_ratio) rfl
    g_is_ratio := He.glo_ok X G (c.fact 7 (f := .glo "is_ratio") rfl)
    t_is_ratio := tabGx (tb (He.cT K ("is_ratio", none)) (List.mem_map_of_mem (f := He.cT K) (a := (("is_ratio", none) : He.Defn)) (by decide +kernel)))
    p_is_ratio := List.mem_map_of_mem (List.mem_map_of_mem (f := He.cT K) (a := (("is_ratio", none) : He.Defn)) (by decide +kernel))
    d_need_demand := c.def_ 8 (d := dd_need_demand) rfl
    g_need_demand := He.glo_ok X G (c.fact 8 (f := .glo "need_demand") rfl)
    d_need_lanes := c.def_ 9 (d := dd_need_lanes) rfl
    g_need_lanes := He.glo_ok X G (c.fact 9 (f := .glo "need_lanes") rfl)
    d_need_share := c.def_ 10 (d := dd_need_share) rfl
    g_need_share := He.glo_ok X G (c.fact 10 (f := .glo "need_share") rfl)
    d_with_ratios := c.def_ 11 (d := dd_with_ratios) rfl
    g_with_ratios := He.glo_ok X G (c.fact 11 (f := .glo "with_ratios") rfl)
    d_steep := c.def_ 12 (d := dd_steep) rfl
    g_steep := He.glo_ok X G (c.fact 12 (f := .glo "steep") rfl)
    d_ratio := c.def_ 13 (d := dd_ratio) rfl
    g_ratio := He.glo_ok X G (c.fact 13 (f := .glo "ratio") rfl)
    d_minus := c.def_ 14 (d := dd_minus) rfl
    g_minus := He.glo_ok X G (c.fact 14 (f := .glo "minus") rfl)
    d_less := c.def_ 15 (d := dd_less) rfl
    g_less := He.glo_ok X G (c.fact 15 (f := .glo "less") rfl)
    d_plus := c.def_ 16 (d := dd_plus) rfl
    g_plus := He.glo_ok X G (c.fact 16 (f := .glo "plus") rfl)
    d_over := c.def_ 17 (d := dd_over) rfl
    g_over := He.glo_ok X G (c.fact 17 (f := .glo "over") rfl)
    d_taken_at := c.def_ 18 (d := dd_taken_at) rfl
    g_taken_at := He.glo_ok X G (c.fact 18 (f := .glo "taken_at") rfl)
    d_flows_at := c.def_ 19 (d := dd_flows_at) rfl
    g_flows_at := He.glo_ok X G (c.fact 19 (f := .glo "flows_at") rfl)
    d_sorted_ratios := c.def_ 20 (d := dd_sorted_ratios) rfl
    g_sorted_ratios := He.glo_ok X G (c.fact 20 (f := .glo "sorted_ratios") rfl)
    d_sum_of := c.def_ 21 (d := dd_sum_of) rfl
    g_sum_of := He.glo_ok X G (c.fact 21 (f := .glo "sum_of") rfl)
    d_level_of := c.def_ 22 (d := dd_level_of) rfl
    g_level_of := He.glo_ok X G (c.fact 22 (f := .glo "level_of") rfl)
    d_best_flows := c.def_ 23 (d := dd_best_flows) rfl
    g_best_flows := He.glo_ok X G (c.fact 23 (f := .glo "best_flows") rfl)
    d_by := c.def_ 24 (d := dd_by) rfl
    g_by := He.glo_ok X G (c.fact 24 (f := .glo "by") rfl)
    d_lane_time := c.def_ 25 (d := dd_lane_time) rfl
    g_lane_time := He.glo_ok X G (c.fact 25 (f := .glo "lane_time") rfl)
    d_falling := c.def_ 26 (d := dd_falling) rfl
    g_falling := He.glo_ok X G (c.fact 26 (f := .glo "falling") rfl)
    d_led_of := c.def_ 27 (d := dd_led_of) rfl
    g_led_of := He.glo_ok X G (c.fact 27 (f := .glo "led_of") rfl)
    d_left_lanes := c.def_ 28 (d := dd_left_lanes) rfl
    g_left_lanes := He.glo_ok X G (c.fact 28 (f := .glo "left_lanes") rfl)
    d_others_of := c.def_ 29 (d := dd_others_of) rfl
    g_others_of := He.glo_ok X G (c.fact 29 (f := .glo "others_of") rfl)
    d_total_of := c.def_ 30 (d := dd_total_of) rfl
    g_total_of := He.glo_ok X G (c.fact 30 (f := .glo "total_of") rfl)
    d_leader_plan := c.def_ 31 (d := dd_leader_plan) rfl
    g_leader_plan := He.glo_ok X G (c.fact 31 (f := .glo "leader_plan") rfl)
    d_are_flows := c.def_ 32 (d := dd_are_flows) rfl
    g_are_flows := He.glo_ok X G (c.fact 32 (f := .glo "are_flows") rfl)
    t_are_flows := tabGx (tb (He.cT K ("are_flows", none)) (List.mem_map_of_mem (f := He.cT K) (a := (("are_flows", none) : He.Defn)) (by decide +kernel)))
    p_are_flows := List.mem_map_of_mem (List.mem_map_of_mem (f := He.cT K) (a := (("are_flows", none) : He.Defn)) (by decide +kernel))
    d_do_rest := c.def_ 33 (d := dd_do_rest) rfl
    g_do_rest := He.glo_ok X G (c.fact 33 (f := .glo "do_rest") rfl)
    d_rests_behind := c.def_ 34 (d := dd_rests_behind) rfl
    g_rests_behind := He.glo_ok X G (c.fact 34 (f := .glo "rests_behind") rfl)
    d_shows_plan := c.def_ 35 (d := dd_shows_plan) rfl
    g_shows_plan := He.glo_ok X G (c.fact 35 (f := .glo "shows_plan") rfl)
    t_shows_plan := tabGx (tb (He.cT K ("shows_plan", none)) (List.mem_map_of_mem (f := He.cT K) (a := (("shows_plan", none) : He.Defn)) (by decide +kernel)))
    p_shows_plan := List.mem_map_of_mem (List.mem_map_of_mem (f := He.cT K) (a := (("shows_plan", none) : He.Defn)) (by decide +kernel))
    d_law_by := c.def_ 36 (d := dd_law_by) rfl
    g_law_by := He.glo_ok X G (c.fact 36 (f := .glo "_law_by") rfl)
    d_lane_rest := c.def_ 37 (d := dd_lane_rest) rfl
    g_lane_rest := He.glo_ok X G (c.fact 37 (f := .glo "lane_rest") rfl)
    d_law_plus := c.def_ 38 (d := dd_law_plus) rfl
    g_law_plus := He.glo_ok X G (c.fact 38 (f := .glo "_law_plus") rfl)
    d_law_sum := c.def_ 39 (d := dd_law_sum) rfl
    g_law_sum := He.glo_ok X G (c.fact 39 (f := .glo "_law_sum") rfl)
    d_law := c.def_ 40 (d := dd_law) rfl
    g_law := He.glo_ok X G (c.fact 40 (f := .glo "law") rfl)
    b_abs := He.free_ok X G (c.fact 41 (f := .free "abs") rfl)
    b_all := He.free_ok X G (c.fact 42 (f := .free "all") rfl)
    b_bool := He.free_ok X G (c.fact 43 (f := .free "bool") rfl)
    b_enumerate := He.free_ok X G (c.fact 44 (f := .free "enumerate") rfl)
    b_int := He.free_ok X G (c.fact 45 (f := .free "int") rfl)
    b_isinstance := He.free_ok X G (c.fact 46 (f := .free "isinstance") rfl)
    b_len := He.free_ok X G (c.fact 47 (f := .free "len") rfl)
    b_list := He.free_ok X G (c.fact 48 (f := .free "list") rfl)
    b_max := He.free_ok X G (c.fact 49 (f := .free "max") rfl)
    b_range := He.free_ok X G (c.fact 50 (f := .free "range") rfl)
    b_tuple := He.free_ok X G (c.fact 51 (f := .free "tuple") rfl)
    b_zip := He.free_ok X G (c.fact 52 (f := .free "zip") rfl)
    i_MOST_BASE := He.int_ok X G (c.fact 53 (f := .int "MOST_BASE" 1000) rfl)
    i_MOST_BOTTOM := He.int_ok X G (c.fact 54 (f := .int "MOST_BOTTOM" 100) rfl)
    i_MOST_LANES := He.int_ok X G (c.fact 55 (f := .int "MOST_LANES" 8) rfl)
    i_MOST_PART := He.int_ok X G (c.fact 56 (f := .int "MOST_PART" 100) rfl)
    i_MOST_SLOPE := He.int_ok X G (c.fact 57 (f := .int "MOST_SLOPE" 100) rfl)
    i_MOST_TOP := He.int_ok X G (c.fact 58 (f := .int "MOST_TOP" 1000) rfl)
    m_gcd := PySem.W.mg_of X G (He.eqO_ok hex) }
theorem lawT (w : World) (mg : Str → Option Value) (fa : Addr) (h : Heap) (hl : ∀ (C : Cs) (a : Addr) (ns : List Int), (a, ns) ∈ C.Z → ns.length ≤ 63 → (∀ z ∈ ns, Builtin.Int.intBits z ≤ 1048576) → (f_law C [.v (.ref a)]).run (fun d => d = .bool true) (fun _ => False))
    (Y : hkT.says w h) (G : h.Ns mainGlobals mg) (hm : mg "law" = some (.ref fa)) : ∃ K : PySem.W.Frag, K.In h ∧ LamX.LawAtS PySem.Challenge.rw_tollroads_k88_across_leaders_in_scale w K (L2.CX (PySem.Challenge.rw_tollroads_k88_across_leaders_in_scale).prog w) 8 63 "_law_script" mg fa h := by
  obtain ⟨K, X, c⟩ := Y
  have e := hm.symm.trans (He.glo_ok X G (c.t.d.fact 40 (f := .glo "law") rfl))
  cases e
  obtain ⟨fd, F⟩ := c.t.d.def_ 40 (d := dd_law) rfl
  have b := FunD.bindsA (ps := ["_law_script"]) F fun _ _ _ _ _ _ us hl => match us, hl with | [_], _ => rfl
  refine ⟨K, X, lawAt (F := fun C => f_law C) (cs := tfT.map (He.cT K)) (fun p hp => ?_) (fun p hp => ?_) (fun p hp => ?_) (fun s v => b s [v] rfl) (fun base kb gb tb a ns => n_law (tpT X G c tb) F) hl⟩
  · obtain ⟨q, hq, rfl⟩ := List.mem_map.mp hp
    exact c.empty q hq
  · obtain ⟨q, hq, rfl⟩ := List.mem_map.mp hp
    exact c.out q hq
  · obtain ⟨q, hq, rfl⟩ := List.mem_map.mp hp
    exact PySem.W.codeHd_of_K X (c.hd q hq)
end Tr
open PySem PySem.W PySem.Calls PyProof.Rows
theorem PySem.Challenge.cw_tollroads_k88_across_leaders_in_scale_holds : PySem.Challenge.rw_tollroads_k88_across_leaders_in_scale.Holds := by
  w_on; o_law
  refine HandSHeadRun.head_imp (r := Tr.rwT) (q := view Tr.rwT.prog [0, 62]) (H := Tr.hkT) (ob := Tr.obT) (M := 6000) (loose := Tr.looseT) (d := HandSHeadRun.topDef Tr.rwT.prog 62) (kwd := []) Tr.obT_eq
    Tr.runT (by kernel_rfl) (by kernel_rfl) (by kernel_rfl) (by rfl) (by first | assumption | decide +kernel) (by decide +kernel) ⟨rfl, rfl, rfl, rfl, rfl, by decide +kernel⟩ ?hw ?hc
  case hw => w_witness2
  case hc =>
    refine LamX.walk_ofTsE (l := PySem.Challenge.rw_tollroads_k88_across_leaders_in_scale) (n := 63) (k := 8) (x := "_law_script") (CX := L2.CX (PySem.Challenge.rw_tollroads_k88_across_leaders_in_scale).prog) rfl (by decide) (by kernel_rfl) ⟨rfl, by decide, by decide⟩ ?F (fun _ _ _ _ _ z => Tr.noOut z)
    intro w mg fa h Y G hmg0
    have hmg : mg ("law" : PySem.Str) = some (.ref fa) := by
      have e : (HandSHeadRun.topDef Tr.rwT.prog 62).name = ("law" : PySem.Str) := by kernel_rfl
      rw [← e]
      exact hmg0
    exact Tr.lawT w mg fa h Tr.law_true Y G hmg
