import PyProof.Rows.All
import Wide.All
import OpenK.AllK
import Wide.FinOn
import KE.KStateDown
import Lean
import HandS.Base
import HandS.Call
import HandS.Ends
import HandS.More
import HandS.Words
import HandS.WordsExc
import HandS.Defaults
import HandS.Head0
import HandS.Head1
import HandS.Head2
import HandS.HeadEnd
import HandS.HeadHook1
import HandS.HeadHook2
import HandS.ForMost
import HandS.Walk
import HandS.IsInst
import HandS.TupSets
import HandS.TupAny
import HandS.TupLen
import HandS.Conv
import HandS.SetFor
import HandS.SetKeys
import HandS.Zip
import HandS.Flow
import HandS.Style
import HandS.DictTup
import KE.GoesEnum
import KE.GoesMore
import KE.KDictPairs
import KE.KDictCopyH
import KE.KDictSum
import PySem.Challenge.RW_laidandeaten_k05_whole_how_many_are_laid
/-! KHead -/
set_option Elab.async false
set_option linter.all false
set_option maxRecDepth 100000
set_option maxHeartbeats 0
namespace KH
open PySem PySem.Spec PyProof.Rows L2
abbrev prog : Program := PySem.Challenge.pw_laidandeaten_k05_whole_how_many_are_laid
def top (i : Nat) : Stmt := PySem.Challenge.pw_laidandeaten_k05_whole_how_many_are_laid.main.body.getD i (.Pass ⟨0, 0, 0, 0⟩)

abbrev s_is_number : Stmt := top 3
abbrev s_is_from : Stmt := top 4
abbrev s_is_row : Stmt := top 5
abbrev s_tupled : Stmt := top 6
abbrev s_set_of : Stmt := top 7
abbrev s_is_cell : Stmt := top 10
abbrev s_some_cell : Stmt := top 11
abbrev s_near_cells : Stmt := top 12
abbrev s_beside : Stmt := top 13
abbrev s_heights_of : Stmt := top 16
abbrev s_air_cells : Stmt := top 17
abbrev s_near_stuff : Stmt := top 18
abbrev s_steps_of : Stmt := top 19
abbrev s_necks_of : Stmt := top 20
abbrev s_rounds_of : Stmt := top 21
abbrev s_never_laid : Stmt := top 22
abbrev s_laid_by : Stmt := top 23
abbrev s_laid_counts : Stmt := top 24
abbrev s_least_rounds : Stmt := top 25
abbrev s_law_box : Stmt := top 27
abbrev s_law_take : Stmt := top 28
abbrev s_law_cells : Stmt := top 29
abbrev s_law_of : Stmt := top 30
abbrev s_law_pick : Stmt := top 31
abbrev s_law_lists : Stmt := top 32
abbrev s_law_same : Stmt := top 33
abbrev s_law_vault : Stmt := top 34
abbrev s_law_shut : Stmt := top 35
abbrev s_law_ridge : Stmt := top 36
abbrev s_law_at : Stmt := top 37
abbrev s_law_round_about : Stmt := top 38
abbrev s_law_all_spots : Stmt := top 39
abbrev s_law_grown : Stmt := top 40
abbrev s_law_opened : Stmt := top 41
abbrev s_law_held : Stmt := top 42
abbrev s_law_put : Stmt := top 43
abbrev s_law_washed : Stmt := top 44
abbrev s_law_tops : Stmt := top 45
abbrev s_law_growth : Stmt := top 47
abbrev s_law_first_half : Stmt := top 49
abbrev s_law_many : Stmt := top 50
abbrev s_law_rounds : Stmt := top 51
abbrev s_law_done : Stmt := top 52
abbrev s_law_roofs : Stmt := top 53
abbrev s_law_pile : Stmt := top 54
abbrev s_law_cave : Stmt := top 55
abbrev s_law_lain : Stmt := top 56
abbrev s_law_airs : Stmt := top 57
abbrev s_law_by_hand_right : Stmt := top 58
abbrev s_law : Stmt := top 59
def dd (x : Str) (i : Nat) : He.DefD := ⟨(x, none), x, x, defArgs (top i), defBody (top i), defScope (top i), [], []⟩
def fn : List He.DefD := ([dd "is_number" 3, dd "is_from" 4, dd "is_row" 5, dd "tupled" 6, dd "set_of" 7, dd "is_cell" 10, dd "some_cell" 11, dd "near_cells" 12, dd "beside" 13, dd "heights_of" 16, dd "air_cells" 17, dd "near_stuff" 18, dd "steps_of" 19, dd "necks_of" 20, dd "rounds_of" 21, dd "never_laid" 22, dd "laid_by" 23, dd "laid_counts" 24, dd "least_rounds" 25, dd "_law_box" 27] : List He.DefD) ++ ([dd "_law_take" 28, dd "_law_cells" 29, dd "_law_of" 30, dd "_law_pick" 31, dd "_law_lists" 32, dd "_law_same" 33, dd "_law_vault" 34, dd "_law_shut" 35, dd "_law_ridge" 36, dd "_law_at" 37, dd "_law_round_about" 38, dd "_law_all_spots" 39, dd "_law_grown" 40, dd "_law_opened" 41, dd "_law_held" 42, dd "_law_put" 43, dd "_law_washed" 44, dd "_law_tops" 45, dd "_law_growth" 47, dd "_law_first_half" 49] : List He.DefD) ++ ([dd "_law_many" 50, dd "_law_rounds" 51, dd "_law_done" 52, dd "_law_roofs" 53, dd "_law_pile" 54, dd "_law_cave" 55, dd "_law_lain" 56, dd "_law_airs" 57, dd "_law_by_hand_right" 58, dd "law" 59] : List He.DefD)
def fa : List He.Fa := ([.glo "is_number", .glo "is_from", .glo "is_row", .glo "tupled", .glo "set_of", .glo "is_cell", .glo "some_cell", .glo "near_cells", .glo "beside", .glo "heights_of", .glo "air_cells", .glo "near_stuff", .glo "steps_of", .glo "necks_of", .glo "rounds_of", .glo "never_laid", .glo "laid_by", .glo "laid_counts", .glo "least_rounds", .glo "_law_box"] : List He.Fa) ++ ([.glo "_law_take", .glo "_law_cells", .glo "_law_of", .glo "_law_pick", .glo "_law_lists", .glo "_law_same", .glo "_law_vault", .glo "_law_shut", .glo "_law_ridge", .glo "_law_at", .glo "_law_round_about", .glo "_law_all_spots", .glo "_law_grown", .glo "_law_opened", .glo "_law_held", .glo "_law_put", .glo "_law_washed", .glo "_law_tops", .glo "_law_growth", .glo "_law_first_half"] : List He.Fa) ++ ([.glo "_law_many", .glo "_law_rounds", .glo "_law_done", .glo "_law_roofs", .glo "_law_pile", .glo "_law_cave", .glo "_law_lain", .glo "_law_airs", .glo "_law_by_hand_right", .glo "law", .free "abs", .free "all", .free "any", .free "bool", .free "dict", .free "enumerate", .free "int", .free "isinstance", .free "len", .free "list"] : List He.Fa) ++ ([.free "max", .free "min", .free "range", .free "set", .free "sorted", .free "str", .free "sum", .free "tuple", .free "zip", .int "PAIR" 2, .int "AIR" 0] : List He.Fa)
abbrev R : PySem.W.OpenRow := PySem.W.OpenLaw.row PySem.Challenge.rw_laidandeaten_k05_whole_how_many_are_laid
abbrev hk : PySem.W.Hook := He.hookD 4 fa fn
def ob (s : PySem.W.SharedT) : He.AlD := He.obsDG 4 fa fn (HandSHeadRun.getT s)
theorem ob_eq (s : PySem.W.SharedT) : ob s = hk.obs s.abs := He.obsDG_eq (HandSHeadRun.getT_eq s)
def loose : List PySem.Str := (["NoCell", "is_number", "is_from", "is_row", "tupled", "set_of", "is_cell", "some_cell", "near_cells", "beside", "heights_of", "air_cells", "near_stuff", "steps_of", "necks_of", "rounds_of", "never_laid", "laid_by", "laid_counts", "least_rounds", "_law_box", "_law_take", "_law_cells", "_law_of", "_law_pick", "_law_lists", "_law_same", "_law_vault", "_law_shut", "_law_ridge"] : List PySem.Str) ++ (["_law_at", "_law_round_about", "_law_all_spots", "_law_grown", "_law_opened", "_law_held", "_law_put", "_law_washed", "_law_tops", "_law_touched", "_law_growth", "_law_lit", "_law_first_half", "_law_many", "_law_rounds", "_law_done", "_law_roofs", "_law_pile", "_law_cave", "_law_lain", "_law_airs", "_law_by_hand_right", "PAIR", "AIR"] : List PySem.Str)
theorem run (w : World) : HandSHeadRun.RunEq R (PySem.W.view R.prog [59]) hk ob 4000 loose w := by
  intro os
  kernel_rfl
end KH
/-! KMath -/
namespace KM
theorem int_lt_or_ge (a b : Int) : a < b ∨ a ≥ b := by omega
abbrev Cell := Int × Int
/-- beside one another -/
def Adj (p q : Cell) : Prop := (q.1 = p.1 ∧ (q.2 = p.2 + 1 ∨ q.2 = p.2 - 1)) ∨ (q.2 = p.2 ∧ (q.1 = p.1 + 1 ∨ q.1 = p.1 - 1))
theorem Adj.symm {p q : Cell} (h : Adj p q) : Adj q p := by
  unfold Adj at *; omega
/-- a grid: width, height, which cells are air -/
structure Gd where
  W : Int
  T : Int
  air : Cell → Prop
def Gd.In (g : Gd) (p : Cell) : Prop := 0 ≤ p.1 ∧ p.1 < g.W ∧ 0 ≤ p.2 ∧ p.2 < g.T
structure Gd.Ok (g : Gd) : Prop where
  ain : ∀ p, g.air p → g.In p
/-- beside stuff or the ground -/
def Gd.sb (g : Gd) (p : Cell) : Prop := p.2 = 0 ∨ ∃ q, Adj p q ∧ g.In q ∧ ¬ g.air q
/-- clearance at most k -/
def Gd.near (g : Gd) : Nat → Cell → Prop
  | 0, _ => False
  | k + 1, p => g.air p ∧ (g.sb p ∨ ∃ q, Adj p q ∧ g.near k q)
/-- joined to the top row over air of clearance above t -/
inductive Gd.O (g : Gd) (t : Nat) : Cell → Prop
  | top {p} : g.air p → p.2 = g.T - 1 → ¬ g.near t p → Gd.O g t p
  | step {p q} : g.air p → ¬ g.near t p → Adj p q → Gd.O g t q → Gd.O g t p
section
variable {g : Gd}
theorem near_air {k : Nat} {p : Cell} (h : g.near k p) : g.air p := by
  cases k with
  | zero => exact h.elim
  | succ k => exact h.1
theorem near_succ : ∀ {k : Nat} {p : Cell}, g.near k p → g.near (k + 1) p
  | 0, _, h => h.elim
  | k + 1, p, h => ⟨h.1, h.2.elim .inl fun ⟨q, a, n⟩ => .inr ⟨q, a, near_succ n⟩⟩
theorem near_mono {k j : Nat} {p : Cell} (h : g.near k p) (hj : k ≤ j) : g.near j p := by
  induction hj with
  | refl => exact h
  | step _ ih => exact near_succ ih
theorem near_first {t : Nat} {p : Cell} (h : g.near t p) : ∃ k, k < t ∧ g.near (k + 1) p ∧ ¬ g.near k p := by
  induction t with
  | zero => exact h.elim
  | succ t ih =>
    by_cases h1 : g.near t p
    · obtain ⟨k, a, b⟩ := ih h1
      exact ⟨k, by omega, b⟩
    · exact ⟨t, by omega, h, h1⟩
theorem O_air {t : Nat} {p : Cell} (h : g.O t p) : g.air p := by cases h <;> assumption
theorem O_far {t : Nat} {p : Cell} (h : g.O t p) : ¬ g.near t p := by cases h <;> assumption
theorem O_mono {t k : Nat} {p : Cell} (h : g.O t p) (hk : k ≤ t) : g.O k p := by
  induction h with
  | top a b c => exact .top a b fun n => c (near_mono n hk)
  | step a c ad _ ih => exact .step a (fun n => c (near_mono n hk)) ad ih
/-- laid in round k + 1 -/
def Gd.L (g : Gd) (k : Nat) (p : Cell) : Prop := g.near (k + 1) p ∧ g.O k p
def Gd.laid (g : Gd) (t : Nat) (p : Cell) : Prop := ∃ k, k < t ∧ g.L k p
/-- behind t rounds -/
def Gd.aft (g : Gd) (t : Nat) : Gd := { W := g.W, T := g.T, air := fun p => g.air p ∧ ¬ g.laid t p }
theorem L_inj {k j : Nat} {p : Cell} (h : g.L k p) (h' : g.L j p) : k = j := by
  have a := O_far h.2
  have b := O_far h'.2
  rcases Nat.lt_trichotomy k j with q | q | q
  · exact (b (near_mono h.1 q)).elim
  · exact q
  · exact (a (near_mono h'.1 q)).elim
theorem near0 (g : Gd) (p : Cell) : ¬ g.near 0 p := fun h => h
theorem O_aft {t : Nat} {p : Cell} : (g.aft t).O 0 p ↔ g.O t p := by
  have key : ∀ p, g.air p → ¬ g.laid t p → (g.near t p → ∀ k, k ≤ t → ¬ g.near k p → g.O k p) → ¬ g.near t p := fun p a nl f n => by
    obtain ⟨k, hk, h1, h2⟩ := near_first n
    exact nl ⟨k, hk, h1, f n k (by omega) h2⟩
  constructor
  · intro h
    induction h with
    | @top p a b c =>
      refine .top a.1 b (key p a.1 a.2 fun _ k _ hn => .top a.1 b hn)
    | @step p q a c ad _ ih =>
      exact .step a.1 (key p a.1 a.2 fun _ k hk hn => .step a.1 hn ad (O_mono ih hk)) ad ih
  · intro h
    have nl : ∀ p, ¬ g.near t p → ¬ g.laid t p := fun p f ⟨k, hk, l⟩ => f (near_mono l.1 hk)
    induction h with
    | @top p a b c => exact .top ⟨a, nl p c⟩ b (near0 _ _)
    | @step p q a c ad _ ih => exact .step ⟨a, nl p c⟩ (near0 _ _) ad ih
/-- beside stuff or the ground behind t rounds -/
theorem sb_aft {t : Nat} {p : Cell} (ok : g.Ok) (h : g.O t p) : (g.aft t).sb p ↔ g.near (t + 1) p := by
  constructor
  · rintro (e | ⟨q, ad, i, na⟩)
    · exact ⟨O_air h, .inl (.inl e)⟩
    · by_cases aq : g.air q
      · have : g.laid t q := Classical.byContradiction fun nl => na ⟨aq, nl⟩
        obtain ⟨k, hk, l⟩ := this
        exact ⟨O_air h, .inr ⟨q, ad, near_mono l.1 hk⟩⟩
      · exact ⟨O_air h, .inl (.inr ⟨q, ad, i, aq⟩)⟩
  · rintro ⟨_, (e | ⟨q, ad, i, na⟩) | ⟨q, ad, n⟩⟩
    · exact .inl e
    · exact .inr ⟨q, ad, i, fun z => na z.1⟩
    · obtain ⟨k, hk, h1, h2⟩ := near_first n
      have l : g.laid t q := ⟨k, hk, h1, .step (near_air n) h2 ad.symm (O_mono h (by omega))⟩
      exact .inr ⟨q, ad, ok.ain q (near_air n), fun z => z.2 l⟩
theorem laid_succ {t : Nat} {p : Cell} : g.laid (t + 1) p ↔ g.laid t p ∨ g.L t p := by
  constructor
  · rintro ⟨k, hk, l⟩
    by_cases e : k = t
    · subst e; exact .inr l
    · exact .inl ⟨k, by omega, l⟩
  · rintro (⟨k, hk, l⟩ | l)
    · exact ⟨k, by omega, l⟩
    · exact ⟨t, by omega, l⟩
/-- what a round of the simulation lays -/
theorem round_lays {t : Nat} {p : Cell} (ok : g.Ok) : ((g.aft t).O 0 p ∧ (g.aft t).sb p) ↔ g.L t p := by
  constructor
  · rintro ⟨o, s⟩
    have o' := O_aft.mp o
    exact ⟨(sb_aft ok o').mp s, o'⟩
  · rintro ⟨n, o⟩
    exact ⟨O_aft.mpr o, (sb_aft ok o).mpr n⟩
theorem aft_in (ok : g.Ok) (t : Nat) : (g.aft t).Ok := ⟨fun p h => ok.ain p h.1⟩
/-- stuff that is held -/
inductive Gd.Held (g : Gd) : Cell → Prop
  | low {p} : g.In p → ¬ g.air p → p.2 = 0 → Gd.Held g p
  | step {p q} : g.In p → ¬ g.air p → Adj p q → Gd.Held g q → Gd.Held g p
theorem held_mono {g' : Gd} (hi : ∀ p, g.In p → g'.In p) (ha : ∀ p, g.In p → g'.air p → g.air p) {p : Cell} (h : g.Held p) : g'.Held p := by
  induction h with
  | low i a z => exact .low (hi _ i) (fun q => a (ha _ i q)) z
  | step i a ad _ ih => exact .step (hi _ i) (fun q => a (ha _ i q)) ad ih
theorem held_in {p : Cell} (h : g.Held p) : g.In p ∧ ¬ g.air p := by
  cases h with
  | low i a _ => exact ⟨i, a⟩
  | step i a _ _ => exact ⟨i, a⟩
/-- nothing is washed away -/
theorem aft_held (ok : g.Ok) (w : ∀ p, g.In p → ¬ g.air p → g.Held p) : ∀ (t : Nat) (p : Cell), (g.aft t).In p → ¬ (g.aft t).air p → (g.aft t).Held p
  | 0, p, i, na => by
    have na' : ¬ g.air p := fun a => na ⟨a, fun ⟨k, hk, _⟩ => by omega⟩
    exact held_mono (g := g) (g' := g.aft 0) (fun _ i => i) (fun _ _ a => a.1) (w p i na')
  | t + 1, p, i, na => by
    have up : ∀ q, (g.aft t).Held q → (g.aft (t + 1)).Held q := fun q h => held_mono (g := g.aft t) (g' := g.aft (t + 1)) (fun _ i => i) (fun _ _ a => (show (g.aft t).air _ from ⟨a.1, fun l => a.2 (laid_succ.mpr (.inl l))⟩)) h
    by_cases h : (g.aft t).air p
    · -- newly laid
      have l : g.L t p := Classical.byContradiction fun n => na ⟨h.1, fun l => (laid_succ.mp l).elim h.2 n⟩
      rcases ((round_lays ok).mpr l).2 with z | ⟨q, ad, iq, nq⟩
      · exact .low i na z
      · exact .step i na ad (up q (aft_held ok w t q iq nq))
    · exact up p (aft_held ok w t p i h)
/-- clearances are bounded by the height -/
theorem near_low (ok : g.Ok) : ∀ (h : Nat) (p : Cell), g.air p → p.2 = (h : Int) → g.near (h + 1) p
  | 0, p, a, e => ⟨a, .inl (.inl (by simpa using e))⟩
  | h + 1, p, a, e => by
    have ip := ok.ain p a
    have ad : Adj p (p.1, p.2 - 1) := .inl ⟨rfl, .inr rfl⟩
    by_cases b : g.air (p.1, p.2 - 1)
    · exact ⟨a, .inr ⟨_, ad, near_low ok h _ b (by show p.2 - 1 = _; omega)⟩⟩
    · refine ⟨a, .inl (.inr ⟨_, ad, ?_, b⟩)⟩
      obtain ⟨i1, i2, i3, i4⟩ := ip
      exact ⟨i1, i2, by show 0 ≤ p.2 - 1; omega, by show p.2 - 1 < _; omega⟩
theorem near_all (ok : g.Ok) {p : Cell} (a : g.air p) : g.near (p.2.toNat + 1) p := by
  have i := ok.ain p a
  exact near_low ok p.2.toNat p a (by have := i.2.2.1; omega)
/-! ### one more row of air -/
def Gd.high (g : Gd) : Gd := { W := g.W, T := g.T + 1, air := fun p => g.air p ∨ (p.2 = g.T ∧ 0 ≤ p.1 ∧ p.1 < g.W) }
theorem high_ok (ok : g.Ok) (hT : 0 ≤ g.T) : g.high.Ok := ⟨fun p h => by
  rcases h with h | ⟨h1, h2, h3⟩
  · obtain ⟨a, b, c, d⟩ := ok.ain p h
    exact ⟨a, b, c, by show p.2 < g.T + 1; omega⟩
  · exact ⟨h2, h3, by omega, by show p.2 < g.T + 1; omega⟩⟩
theorem high_air {p : Cell} (hp : p.2 < g.T) : g.high.air p ↔ g.air p := ⟨fun h => h.elim id fun z => by omega, .inl⟩
theorem near_up (ok : g.Ok) : ∀ {t : Nat} {p : Cell}, g.near t p → g.high.near t p
  | 0, _, h => h.elim
  | t + 1, p, h => by
    refine ⟨.inl h.1, ?_⟩
    rcases h.2 with (z | ⟨q, ad, i, na⟩) | ⟨q, ad, n⟩
    · exact .inl (.inl z)
    · obtain ⟨i1, i2, i3, i4⟩ := i
      exact .inl (.inr ⟨q, ad, ⟨i1, i2, i3, by show q.2 < g.T + 1; omega⟩, fun z => na ((high_air i4).mp z)⟩)
    · exact .inr ⟨q, ad, near_up ok n⟩
theorem near_down (ok : g.Ok) (hT : 1 ≤ g.T) : ∀ {t : Nat} {p : Cell}, g.high.near t p → (p.2 < g.T → g.near t p) ∧ (p.2 = g.T → ¬ g.air (p.1, g.T - 1) ∨ g.near t (p.1, g.T - 1))
  | 0, _, h => h.elim
  | t + 1, p, h => by
    have inn : ∀ q, g.high.In q → ¬ g.high.air q → q.2 < g.T ∧ g.In q ∧ ¬ g.air q := fun q ⟨a, b, c, d⟩ na => by
      have d : q.2 < g.T + 1 := d
      have hq : q.2 < g.T := by
        rcases int_lt_or_ge q.2 g.T with z | z
        · exact z
        · exact (na (.inr ⟨by omega, a, b⟩)).elim
      exact ⟨hq, ⟨a, b, c, hq⟩, fun z => na (.inl z)⟩
    obtain ⟨ha, hs⟩ := h
    constructor
    · intro hp
      have a : g.air p := (high_air hp).mp ha
      refine ⟨a, ?_⟩
      rcases hs with (z | ⟨q, ad, i, na⟩) | ⟨q, ad, n⟩
      · exact .inl (.inl z)
      · obtain ⟨_, b, c⟩ := inn q i na
        exact .inl (.inr ⟨q, ad, b, c⟩)
      · have ih := near_down ok hT n
        have iq : g.high.In q := (high_ok ok (by omega)).ain q (near_air n)
        rcases int_lt_or_ge q.2 g.T with z | z
        · exact .inr ⟨q, ad, ih.1 z⟩
        · have e : q.2 = g.T := by have := iq.2.2.2; have : q.2 < g.T + 1 := this; omega
          have ep : (q.1, g.T - 1) = p := by
            unfold Adj at ad
            refine Prod.ext ?_ ?_
            · show q.1 = p.1; omega
            · show g.T - 1 = p.2; omega
          rcases ih.2 e with y | y
          · rw [ep] at y; exact (y a).elim
          · rw [ep] at y; exact (near_succ y).2
    · intro hp
      by_cases a : g.air (p.1, g.T - 1)
      · refine .inr ⟨a, ?_⟩
        rcases hs with (z | ⟨q, ad, i, na⟩) | ⟨q, ad, n⟩
        · omega
        · obtain ⟨b, _, c⟩ := inn q i na
          have eq : q = (p.1, g.T - 1) := by
            unfold Adj at ad
            refine Prod.ext ?_ ?_
            · show q.1 = p.1; omega
            · show q.2 = g.T - 1; omega
          rw [eq] at c; exact (c a).elim
        · have ih := near_down ok hT n
          have iq : g.high.In q := (high_ok ok (by omega)).ain q (near_air n)
          rcases int_lt_or_ge q.2 g.T with z | z
          · have eq : q = (p.1, g.T - 1) := by
              unfold Adj at ad
              refine Prod.ext ?_ ?_
              · show q.1 = p.1; omega
              · show q.2 = g.T - 1; omega
            have y := ih.1 z
            rw [eq] at y
            exact (near_succ y).2
          · have e : q.2 = g.T := by have := iq.2.2.2; have : q.2 < g.T + 1 := this; omega
            have ad' : Adj (p.1, g.T - 1) (q.1, g.T - 1) := by
              unfold Adj at ad ⊢
              show (q.1 = p.1 ∧ _) ∨ (g.T - 1 = g.T - 1 ∧ (q.1 = p.1 + 1 ∨ q.1 = p.1 - 1))
              omega
            rcases ih.2 e with y | y
            · exact .inl (.inr ⟨_, ad', ⟨iq.1, iq.2.1, by show 0 ≤ g.T - 1; omega, by show g.T - 1 < g.T; omega⟩, y⟩)
            · exact .inr ⟨_, ad', y⟩
      · exact .inl a
theorem near_high (ok : g.Ok) (hT : 1 ≤ g.T) {t : Nat} {p : Cell} (hp : p.2 < g.T) : g.high.near t p ↔ g.near t p := ⟨fun h => (near_down ok hT h).1 hp, near_up ok⟩
theorem O_high (ok : g.Ok) (hT : 1 ≤ g.T) {t : Nat} {p : Cell} (hp : p.2 < g.T) : g.high.O t p ↔ g.O t p := by
  constructor
  · intro h
    induction h with
    | top a b c =>
      have b : _ = g.T + 1 - 1 := b
      omega
    | @step p q a c ad o ih =>
      have a' := (high_air hp).mp a
      have c' : ¬ g.near t p := fun n => c (near_up ok n)
      rcases int_lt_or_ge q.2 g.T with z | z
      · exact .step a' c' ad (ih z)
      · refine .top a' ?_ c'
        unfold Adj at ad
        omega
  · intro h
    have fin : ∀ p, g.air p → ¬ g.near t p → p.2 = g.T - 1 → g.high.O t p := fun p a c b => by
      have hp : p.2 < g.T := by omega
      have i := ok.ain p a
      refine .step (.inl a) (fun n => c ((near_down ok hT n).1 hp)) (q := (p.1, g.T)) (.inl ⟨rfl, .inl (by show g.T = p.2 + 1; omega)⟩) ?_
      refine .top (.inr ⟨rfl, i.1, i.2.1⟩) (by show g.T = g.T + 1 - 1; omega) fun n => ?_
      have ep : (p.1, g.T - 1) = p := Prod.ext rfl (by show g.T - 1 = p.2; omega)
      rcases (near_down ok hT n).2 rfl with y | y
      · exact y (by show g.air (p.1, g.T - 1); rw [ep]; exact a)
      · exact c (by have y : g.near t (p.1, g.T - 1) := y; rw [ep] at y; exact y)
    clear hp
    induction h with
    | @top p a b c => exact fin p a c b
    | @step p q a c ad o ih =>
      have hp : p.2 < g.T := (ok.ain p a).2.2.2
      exact .step (.inl a) (fun n => c ((near_down ok hT n).1 hp)) ad ih
theorem L_high (ok : g.Ok) (hT : 1 ≤ g.T) {k : Nat} {p : Cell} (hp : p.2 < g.T) : g.high.L k p ↔ g.L k p := by
  unfold Gd.L
  rw [near_high ok hT hp, O_high ok hT hp]
end
end KM
/-! KVal -/
set_option Elab.async false
set_option linter.all false
set_option maxRecDepth 100000
set_option maxHeartbeats 4000000
namespace KV
open PySem L2
abbrev Cell := Int × Int
def kc (p : Cell) : List Key := [Sum.inl p.1, Sum.inl p.2]
/-! ### data at a value -/
mutual
inductive Rp (H : Hp) : V → PyData → Prop
  | non : Rp H .non .none
  | bl (b : Bool) : Rp H (.bl b) (.bool b)
  | int (i : Int) : Rp H (.int i) (.int i)
  | str (x : Str) : Rp H (.str x) (.str x)
  | lst {a : Addr} {xs : List V} {ds : List PyData} : H a = some (.lst xs) → RpAll H xs ds → Rp H (.ref a) (.list ds)
  | tup {a : Addr} {xs : List V} {ds : List PyData} : H a = some (.tup xs) → RpAll H xs ds → Rp H (.ref a) (.tuple ds)
inductive RpAll (H : Hp) : List V → List PyData → Prop
  | nil : RpAll H [] []
  | cons {v : V} {vs : List V} {d : PyData} {ds : List PyData} : Rp H v d → RpAll H vs ds → RpAll H (v :: vs) (d :: ds)
end
mutual
theorem Rp.mono {H H' : Hp} (s : Same H H') : ∀ (d : PyData) (v : V), Rp H v d → Rp H' v d
  | .none, _, .non => .non
  | .bool b, _, .bl _ => .bl b
  | .int i, _, .int _ => .int i
  | .str x, _, .str _ => .str x
  | .list ds, _, .lst e h => .lst (s _ _ e) (RpAll.mono s ds _ h)
  | .tuple ds, _, .tup e h => .tup (s _ _ e) (RpAll.mono s ds _ h)
  | .dict _, _, h => nomatch h
theorem RpAll.mono {H H' : Hp} (s : Same H H') : ∀ (ds : List PyData) (vs : List V), RpAll H vs ds → RpAll H' vs ds
  | [], _, .nil => .nil
  | d :: ds, _, .cons h t => .cons (Rp.mono s d _ h) (RpAll.mono s ds _ t)
end
mutual
theorem Rp.dp {K : PySem.W.Frag} {H : Hp} : ∀ (d : PyData) (v : V), Rp H v d → Dp K H v d
  | .none, _, .non => .non
  | .bool b, _, .bl _ => .bl b
  | .int i, _, .int _ => .int i
  | .str x, _, .str _ => .str x
  | .list ds, _, .lst e h => .lst (SqL.of e) (RpAll.dp ds _ h)
  | .tuple ds, _, .tup e h => .tup (SqT.of e) (RpAll.dp ds _ h)
  | .dict _, _, h => nomatch h
theorem RpAll.dp {K : PySem.W.Frag} {H : Hp} : ∀ (ds : List PyData) (vs : List V), RpAll H vs ds → DpAll K H vs ds
  | [], _, .nil => .nil
  | d :: ds, _, .cons h t => .cons (Rp.dp d _ h) (RpAll.dp ds _ t)
end
theorem RpAll.length {H : Hp} : ∀ {ds : List PyData} {vs : List V}, RpAll H vs ds → vs.length = ds.length
  | [], _, .nil => rfl
  | _ :: _, _, .cons _ t => congrArg Nat.succ t.length
theorem RpAll.get {H : Hp} : ∀ {ds : List PyData} {vs : List V} {i : Nat} {d : PyData}, RpAll H vs ds → ds[i]? = some d → ∃ v, vs[i]? = some v ∧ Rp H v d
  | [], _, i, _, .nil, e => by simp at e
  | _ :: _, _, 0, _, .cons h _, e => by simp at e; subst e; exact ⟨_, rfl, h⟩
  | _ :: _, _, i + 1, _, .cons _ t, e => by
    obtain ⟨v, e1, e2⟩ := t.get (i := i) (by simpa using e)
    exact ⟨v, by simpa using e1, e2⟩
theorem RpAll.getV {H : Hp} : ∀ {ds : List PyData} {vs : List V} {i : Nat} {v : V}, RpAll H vs ds → vs[i]? = some v → ∃ d, ds[i]? = some d ∧ Rp H v d
  | [], _, i, _, .nil, e => by simp at e
  | _ :: _, _, 0, _, .cons h _, e => by simp at e; subst e; exact ⟨_, rfl, h⟩
  | _ :: _, _, i + 1, _, .cons _ t, e => by
    obtain ⟨v, e1, e2⟩ := t.getV (i := i) (by simpa using e)
    exact ⟨v, by simpa using e1, e2⟩
theorem RpAll.append {H : Hp} : ∀ {ds es : List PyData} {vs ws : List V}, RpAll H vs ds → RpAll H ws es → RpAll H (vs ++ ws) (ds ++ es)
  | [], _, _, _, .nil, h => h
  | _ :: _, _, _, _, .cons h t, g => .cons h (t.append g)
theorem RpAll.of_get {H : Hp} : ∀ {ds : List PyData} {vs : List V}, vs.length = ds.length → (∀ (i : Nat) (v : V) (d : PyData), vs[i]? = some v → ds[i]? = some d → Rp H v d) → RpAll H vs ds
  | [], [], _, _ => .nil
  | [], _ :: _, e, _ => by simp at e
  | _ :: _, [], e, _ => by simp at e
  | d :: ds, v :: vs, e, h => .cons (h 0 v d rfl rfl) (RpAll.of_get (by simpa using e) fun i w c e1 e2 => h (i + 1) w c (by simpa using e1) (by simpa using e2))
theorem RpAll.ints {H : Hp} : ∀ (ns : List Int), RpAll H (ns.map V.int) (ns.map PyData.int)
  | [] => .nil
  | n :: ns => .cons (.int n) (RpAll.ints ns)
theorem RpAll.toInts {H : Hp} : ∀ {ns : List Int} {vs : List V}, RpAll H vs (ns.map PyData.int) → vs = ns.map V.int
  | [], _, .nil => rfl
  | n :: ns, _, .cons h t => by
    cases h
    rw [t.toInts]
    rfl
theorem RpAll.toBls {H : Hp} : ∀ {bs : List Bool} {vs : List V}, RpAll H vs (bs.map PyData.bool) → vs = bs.map V.bl
  | [], _, .nil => rfl
  | n :: ns, _, .cons h t => by
    cases h
    rw [t.toBls]
    rfl
theorem Rp.toInt {H : Hp} {v : V} {i : Int} (h : Rp H v (.int i)) : v = .int i := by cases h; rfl
theorem Rp.toBl {H : Hp} {v : V} {i : Bool} (h : Rp H v (.bool i)) : v = .bl i := by cases h; rfl
/-! ### the heap without what is owned -/
def cut (O : List Addr) (H : Hp) : Hp := fun a => if a ∈ O then none else H a
theorem cut_same (O : List Addr) (H : Hp) : Same (cut O H) H := fun a o e => by
  unfold cut at e
  split at e
  · cases e
  · exact e
theorem cut_mono {O : List Addr} {H H' : Hp} (s : Same H H') : Same (cut O H) (cut O H') := fun a o e => by
  unfold cut at e ⊢
  split at e
  · cases e
  · rename_i h
    rw [if_neg h]
    exact s a o e
theorem cut_get {O : List Addr} {H : Hp} {a : Addr} {o : HO} (h : H a = some o) (n : a ∉ O) : cut O H a = some o := by
  unfold cut
  rw [if_neg n]
  exact h
theorem cut_own {O : List Addr} {H : Hp} {a : Addr} {o : HO} (h : a ∈ O) : cut O (upd H a o) = cut O H := by
  funext b
  unfold cut
  split
  · rfl
  · rename_i hb
    rw [upd_ne fun e => hb (by rw [e]; exact h)]
theorem cut_nil (H : Hp) : cut [] H = H := by
  funext b
  unfold cut
  rw [if_neg (by simp)]
/-- one more owned: nothing else is lost, if it was new -/
theorem cut_cons {O : List Addr} {H H' : Hp} {p : Addr} (n : H p = none) (s : Same H H') : Same (cut O H) (cut (p :: O) H') := fun a o e => by
  unfold cut at e ⊢
  split at e
  · cases e
  · rename_i h
    have ne : a ≠ p := ne_of_none e n
    rw [if_neg (by simp only [List.mem_cons, not_or]; exact ⟨ne, h⟩)]
    exact s a o e
theorem cut_sub {O O' : List Addr} {H : Hp} (h : ∀ a ∈ O, a ∈ O') : Same (cut O' H) (cut O H) := fun a o e => by
  unfold cut at e ⊢
  split at e
  · cases e
  · rename_i n
    rw [if_neg fun z => n (h a z)]
    exact e
/-- the owned ones stand, and are no tuples -/
def Live (O : List Addr) (H : Hp) : Prop := ∀ p ∈ O, ∃ o, H p = some o ∧ ∀ xs, o ≠ .tup xs
theorem Live.mono {O : List Addr} {H H' : Hp} (l : Live O H) (s : Same H H') : Live O H' := fun p hp => let ⟨o, e, n⟩ := l p hp; ⟨o, s p o e, n⟩
theorem Live.no {O : List Addr} {H : Hp} (l : Live O H) {p : Addr} (h : H p = none) : p ∉ O := fun hp => by
  obtain ⟨o, e, _⟩ := l p hp
  rw [h] at e
  cases e
theorem Live.tup {O : List Addr} {H : Hp} (l : Live O H) {p : Addr} {xs : List V} (h : H p = some (.tup xs)) : p ∉ O := fun hp => by
  obtain ⟨o, e, n⟩ := l p hp
  rw [h] at e
  exact n xs (Option.some.inj e).symm
theorem Live.nil {H : Hp} : Live [] H := fun p hp => absurd hp (by simp)
theorem Live.cons {O : List Addr} {H : Hp} {p : Addr} {o : HO} (l : Live O H) (h : H p = some o) (n : ∀ xs, o ≠ .tup xs) : Live (p :: O) H := fun q hq => by
  rcases List.mem_cons.mp hq with e | hq
  · subst e
    exact ⟨o, h, n⟩
  · exact l q hq
theorem Live.upd {O : List Addr} {H : Hp} {p : Addr} {o : HO} (l : Live O H) (n : ∀ xs, o ≠ .tup xs) : Live O (L2.upd H p o) := fun q hq => by
  by_cases e : q = p
  · subst e
    exact ⟨o, upd_same, n⟩
  · rw [upd_ne e]
    exact l q hq
theorem same_upd {H : Hp} {p : Addr} {o : HO} (h : H p = none) : Same H (upd H p o) := fun b x e => by
  rw [upd_ne (ne_of_none e h)]
  exact e
/-! ### what a slot holds -/
inductive En where
  | unk
  | dat (d : PyData)
  | dic (kvs : List (Cell × V))
  | dif (kvs : List (Cell × V))
  | dfz (kvs : List (Cell × V))
  | ptr (p : Addr)
  | scr (K : PySem.W.Frag) (ns : List Int)
abbrev ent (e : Cell × V) : List Key × V := (kc e.1, e.2)
inductive Er (H : Hp) : V → En → Prop
  | unk {v} : Er H v .unk
  | dat {v d} : Rp H v d → Er H v (.dat d)
  | dic {a kvs} : H a = some (.dT (kvs.map ent)) → Er H (.ref a) (.dic kvs)
  | dif {a kvs} : Rd H a (.dT (kvs.map ent)) → Er H (.ref a) (.dif kvs)
  | dfz {a o kvs} : H a = some (.frz o (.dT (kvs.map ent))) → Er H (.ref a) (.dfz kvs)
  | ptr {a} : Er H (.ref a) (.ptr a)
  | scr {K a ns} : SqL K H a (ns.map V.int) → Er H (.ref a) (.scr K ns)
theorem Er.mono {H H' : Hp} (s : Same H H') {v : V} {e : En} (h : Er H v e) : Er H' v e := by
  cases h with
  | unk => exact .unk
  | dat h => exact .dat (Rp.mono s _ _ h)
  | dic h => exact .dic (s _ _ h)
  | dif h => exact .dif (h.elim (fun z => .inl (s _ _ z)) fun ⟨o, z⟩ => .inr ⟨o, s _ _ z⟩)
  | dfz h => exact .dfz (s _ _ h)
  | ptr => exact .ptr
  | scr h => exact .scr (h.elim (fun h => .inl (h.elim (fun z => .inl (s _ _ z)) fun ⟨o, z⟩ => .inr ⟨o, s _ _ z⟩)) .inr)
inductive Eo (H : Hp) : Option V → En → Prop
  | unk {x} : Eo H x .unk
  | some {v e} : Er H v e → Eo H (some v) e
inductive EnvOk (H : Hp) : St → List En → Prop
  | nil : EnvOk H [] []
  | cons {x s e g} : Eo H x e → EnvOk H s g → EnvOk H (x :: s) (e :: g)
theorem EnvOk.mono {H H' : Hp} (s : Same H H') {σ : St} {Γ : List En} (h : EnvOk H σ Γ) : EnvOk H' σ Γ := by
  induction h with
  | nil => exact .nil
  | cons h _ ih =>
    refine .cons ?_ ih
    cases h with
    | unk => exact .unk
    | some h => exact .some (h.mono s)
theorem EnvOk.length {H : Hp} {σ : St} {Γ : List En} (h : EnvOk H σ Γ) : σ.length = Γ.length := by
  induction h with
  | nil => rfl
  | cons _ _ ih => exact congrArg Nat.succ ih
theorem EnvOk.get {H : Hp} {σ : St} {Γ : List En} (h : EnvOk H σ Γ) : ∀ {i : Nat} {e : En}, Γ[i]? = some e → e ≠ .unk → ∃ v, σ[i]? = some (some v) ∧ Er H v e := by
  induction h with
  | nil => intro i e q; simp at q
  | cons h _ ih =>
    intro i e q ne
    cases i with
    | zero =>
      have q := Option.some.inj q
      subst q
      cases h with
      | unk => exact absurd rfl ne
      | some h => exact ⟨_, rfl, h⟩
    | succ i =>
      obtain ⟨v, e1, e2⟩ := ih (i := i) (by simpa using q) ne
      exact ⟨v, by simpa using e1, e2⟩
theorem EnvOk.set {H : Hp} {σ : St} {Γ : List En} (h : EnvOk H σ Γ) {v : V} {e : En} (hv : Er H v e) : ∀ (i : Nat), EnvOk H (σ.set i (some v)) (Γ.set i e) := by
  induction h with
  | nil => intro i; exact .nil
  | cons h t ih =>
    intro i
    cases i with
    | zero => exact .cons (.some hv) t
    | succ i => exact .cons h (ih i)
theorem EnvOk.forget {H : Hp} {σ : St} {Γ : List En} (h : EnvOk H σ Γ) {x : Option V} : ∀ (i : Nat), EnvOk H (σ.set i x) (Γ.set i .unk) := by
  induction h with
  | nil => intro i; exact .nil
  | cons h t ih =>
    intro i
    cases i with
    | zero => exact .cons .unk t
    | succ i => exact .cons h (ih i)
def wipeG (Γ : List En) : List Nat → List En
  | [] => Γ
  | v :: vs => (wipeG Γ vs).set v .unk
theorem EnvOk.wipe {H : Hp} {σ : St} {Γ : List En} (h : EnvOk H σ Γ) : ∀ vs : List Nat, EnvOk H (L2.wipe σ vs) (wipeG Γ vs)
  | [] => h
  | v :: vs => (EnvOk.wipe h vs).forget v
/-! ### the judgements -/
def Es (te : TE) (Γ : List En) (Φ : En → Prop) : Prop := ∀ (σ : St) (H : Hp) (O : List Addr), Live O H → EnvOk (cut O H) σ Γ → ∀ Q : VK, (∀ v H2 e, Φ e → Same H H2 → Er (cut O H2) v e → Q v H2) → te σ H Q
abbrev E (te : TE) (Γ : List En) (e : En) : Prop := Es te Γ (· = e)
abbrev Ed (te : TE) (Γ : List En) (d : PyData) : Prop := E te Γ (.dat d)
/-- a new object -/
def NL (te : TE) (Γ : List En) (ds : List PyData) : Prop := ∀ (σ : St) (H : Hp) (O : List Addr), Live O H → EnvOk (cut O H) σ Γ → ∀ Q : VK, (∀ p H2 xs, H p = none → Same H H2 → H2 p = some (.lst xs) → RpAll (cut (p :: O) H2) xs ds → Q (.ref p) H2) → te σ H Q
def ND (te : TE) (Γ : List En) (kvs : List (Cell × V)) : Prop := ∀ (σ : St) (H : Hp) (O : List Addr), Live O H → EnvOk (cut O H) σ Γ → ∀ Q : VK, (∀ p H2, H p = none → Same H H2 → H2 p = some (.dT (kvs.map ent)) → Q (.ref p) H2) → te σ H Q
def Tt (tt : TT) (Γ : List En) (b : Bool) : Prop := ∀ (σ : St) (H : Hp) (O : List Addr), Live O H → EnvOk (cut O H) σ Γ → ∀ Q : Bool → Hp → Prop, (∀ H2, Same H H2 → Q b H2) → tt σ H Q
inductive ErAll (H : Hp) : List V → List En → Prop
  | nil : ErAll H [] []
  | cons {v vs e es} : Er H v e → ErAll H vs es → ErAll H (v :: vs) (e :: es)
theorem ErAll.mono {H H' : Hp} (s : Same H H') {vs : List V} {es : List En} (h : ErAll H vs es) : ErAll H' vs es := by
  induction h with
  | nil => exact .nil
  | cons h _ ih => exact .cons (h.mono s) ih
def Ar (ta : TA) (Γ : List En) (es : List En) : Prop := ∀ (σ : St) (H : Hp) (O : List Addr), Live O H → EnvOk (cut O H) σ Γ → ∀ Q : List V → Hp → Prop, (∀ vs H2, Same H H2 → ErAll (cut O H2) vs es → Q vs H2) → ta σ H Q
theorem NL.e {te : TE} {Γ : List En} {ds : List PyData} (h : NL te Γ ds) : Ed te Γ (.list ds) := fun σ H O l g Q q => h σ H O l g Q fun p H2 xs n s e r => by
  refine q _ _ _ rfl s (.dat (.lst (cut_get e (l.no n)) (RpAll.mono (cut_sub fun a ha => List.mem_cons_of_mem _ ha) _ _ r)))
theorem ND.e {te : TE} {Γ : List En} {kvs : List (Cell × V)} (h : ND te Γ kvs) : E te Γ (.dic kvs) := fun σ H O l g Q q => h σ H O l g Q fun p H2 n s e =>
  q _ _ _ rfl s (.dic (cut_get e (l.no n)))
section
variable {Γ : List En} {ta tb te : TE} {t u : TT}
theorem e_var {i : Nat} {e : En} (h : Γ[i]? = some e) (ne : e ≠ .unk := by exact fun z => nomatch z) : E (tVar i) Γ e := fun σ H O l g Q q => by
  obtain ⟨v, e1, e2⟩ := g.get h ne
  exact ⟨v, e1, q v H e rfl (Same.refl H) e2⟩
theorem e_int {i : Int} : Ed (tC (.int i)) Γ (.int i) := fun σ H O l g Q q => q _ _ _ rfl (Same.refl H) (.dat (.int i))
theorem e_bl {i : Bool} : Ed (tC (.bl i)) Γ (.bool i) := fun σ H O l g Q q => q _ _ _ rfl (Same.refl H) (.dat (.bl i))
theorem e_str {i : Str} : Ed (tC (.str i)) Γ (.str i) := fun σ H O l g Q q => q _ _ _ rfl (Same.refl H) (.dat (.str i))
theorem e_non : Ed (tC .non) Γ .none := fun σ H O l g Q q => q _ _ _ rfl (Same.refl H) (.dat .non)
/-- two operands -/
theorem e_bin {r : R2} {e1 e2 e3 : En} (ha : E ta Γ e1) (hb : E tb Γ e2) (hr : ∀ (x y : V) (H : Hp) (O : List Addr) (Q : VK), Live O H → Er (cut O H) x e1 → Er (cut O H) y e2 → (∀ v H2, Same H H2 → Er (cut O H2) v e3 → Q v H2) → r x y H Q) : E (tOp r ta tb) Γ e3 := fun σ H O l g Q q =>
  ha σ H O l g _ fun x H1 _ z s1 r1 => by
    subst z
    refine hb σ H1 O (l.mono s1) (g.mono (cut_mono s1)) _ fun y H2 _ z s2 r2 => ?_
    subst z
    exact hr x y H2 O Q (l.mono (s1.trans s2)) (r1.mono (cut_mono s2)) r2 fun v H3 s3 r3 => q v H3 _ rfl ((s1.trans s2).trans s3) r3
theorem e_I0 {f : Int → Int → Int} {i j : Int} (ha : Ed ta Γ (.int i)) (hb : Ed tb Γ (.int j)) : Ed (tOp (rI0 fun i j => .int (f i j)) ta tb) Γ (.int (f i j)) :=
  e_bin ha hb fun x y H O Q l hx hy q => by
    cases hx with | dat hx => cases hy with | dat hy =>
    exact ⟨i, j, hx.toInt, hy.toInt, q _ _ (Same.refl H) (.dat (.int _))⟩
theorem e_I {C : Int → Int → Prop} {f : Int → Int → Int} {i j : Int} (ha : Ed ta Γ (.int i)) (hb : Ed tb Γ (.int j)) (hc : C i j) : Ed (tOp (rI C fun i j => .int (f i j)) ta tb) Γ (.int (f i j)) :=
  e_bin ha hb fun x y H O Q l hx hy q => by
    cases hx with | dat hx => cases hy with | dat hy =>
    exact ⟨i, j, hx.toInt, hy.toInt, hc, q _ _ (Same.refl H) (.dat (.int _))⟩
theorem e_B0 {f : Int → Int → Bool} {i j : Int} (ha : Ed ta Γ (.int i)) (hb : Ed tb Γ (.int j)) : Ed (tOp (rI0 fun i j => .bl (f i j)) ta tb) Γ (.bool (f i j)) :=
  e_bin ha hb fun x y H O Q l hx hy q => by
    cases hx with | dat hx => cases hy with | dat hy =>
    exact ⟨i, j, hx.toInt, hy.toInt, q _ _ (Same.refl H) (.dat (.bl _))⟩
/-- scalars -/
def scD : PyData → Option V
  | .none => some .non
  | .bool b => some (.bl b)
  | .int i => some (.int i)
  | .str x => some (.str x)
  | _ => none
theorem scD_rp {H : Hp} {v x : V} {d : PyData} (h : Rp H v d) (e : scD d = some x) : v = x := by
  cases h <;> first | exact Option.some.inj e | cases e
theorem e_eq {d1 d2 : PyData} {x y : V} (ha : Ed ta Γ d1) (hb : Ed tb Γ d2) (h1 : scD d1 = some x := by rfl) (h2 : scD d2 = some y := by rfl) (hs : scal x y = true := by rfl) : Ed (tOp rEq ta tb) Γ (.bool (decide (x = y))) :=
  e_bin ha hb fun v w H O Q l hx hy q => by
    cases hx with | dat hx => cases hy with | dat hy =>
    rw [scD_rp hx h1, scD_rp hy h2]
    exact ⟨hs, q _ _ (Same.refl H) (.dat (.bl _))⟩
theorem e_ne {d1 d2 : PyData} {x y : V} (ha : Ed ta Γ d1) (hb : Ed tb Γ d2) (h1 : scD d1 = some x := by rfl) (h2 : scD d2 = some y := by rfl) (hs : scal x y = true := by rfl) : Ed (tOp rNe ta tb) Γ (.bool (!decide (x = y))) :=
  e_bin ha hb fun v w H O Q l hx hy q => by
    cases hx with | dat hx => cases hy with | dat hy =>
    rw [scD_rp hx h1, scD_rp hy h2]
    exact ⟨hs, q _ _ (Same.refl H) (.dat (.bl _))⟩
theorem e_to {e e' : En} (h : E te Γ e) (q : e = e') : E te Γ e' := q ▸ h
theorem t_to {a b : Bool} (h : Tt t Γ a) (q : a = b) : Tt t Γ b := q ▸ h
theorem e_isN {d : PyData} {x : V} {b : Bool} (ha : Ed ta Γ d) (hb : Ed tb Γ .none) (h : ∀ H v, Rp H v d → decide (v = .non) = b) : Ed (tOp (fun x y H Q => y = .non ∧ Q (.bl (decide (x = .non))) H) ta tb) Γ (.bool b) :=
  e_bin ha hb fun v w H O Q l hx hy q => by
    cases hx with | dat hx => cases hy with | dat hy =>
    cases hy
    rw [h _ _ hx]
    exact ⟨rfl, q _ _ (Same.refl H) (.dat (.bl _))⟩
theorem e_notN {d : PyData} {x : V} {b : Bool} (ha : Ed ta Γ d) (hb : Ed tb Γ .none) (h : ∀ H v, Rp H v d → decide (v = .non) = b) : Ed (tOp (fun x y H Q => y = .non ∧ Q (.bl (!decide (x = .non))) H) ta tb) Γ (.bool (!b)) :=
  e_bin ha hb fun v w H O Q l hx hy q => by
    cases hx with | dat hx => cases hy with | dat hy =>
    cases hy
    rw [h _ _ hx]
    exact ⟨rfl, q _ _ (Same.refl H) (.dat (.bl _))⟩
theorem e_un {f : Int → Int} {i : Int} (ha : Ed ta Γ (.int i)) : Ed (tUn (rU fun i => .int (f i)) ta) Γ (.int (f i)) := fun σ H O l g Q q =>
  ha σ H O l g _ fun x H1 _ z s1 r1 => by
    subst z
    cases r1 with | dat r1 =>
    exact ⟨i, r1.toInt, q _ _ _ rfl s1 (.dat (.int _))⟩
/-! tests -/
theorem t_tst {b : Bool} (h : Ed te Γ (.bool b)) : Tt (tTest te) Γ b := fun σ H O l g Q q => h σ H O l g _ fun x H1 _ z s r => by
  subst z
  cases r with | dat r => exact ⟨b, r.toBl, q H1 s⟩
theorem t_B {b : Bool} (h : Ed te Γ (.bool b)) : Tt (tB te) Γ b := fun σ H O l g Q q => h σ H O l g _ fun x H1 _ z s r => by
  subst z
  cases r with | dat r => exact ⟨b, r.toBl, q H1 s⟩
theorem t_and {a b : Bool} (h1 : Tt t Γ a) (h2 : a = true → Tt u Γ b) : Tt (tAnd t u) Γ (a && b) := fun σ H O l g Q q => h1 σ H O l g _ fun H1 s1 => by
  cases a with
  | true => exact h2 rfl σ H1 O (l.mono s1) (g.mono (cut_mono s1)) Q fun H2 s2 => q H2 (s1.trans s2)
  | false => exact q H1 s1
theorem t_or {a b : Bool} (h1 : Tt t Γ a) (h2 : a = false → Tt u Γ b) : Tt (tOr t u) Γ (a || b) := fun σ H O l g Q q => h1 σ H O l g _ fun H1 s1 => by
  cases a with
  | false => exact h2 rfl σ H1 O (l.mono s1) (g.mono (cut_mono s1)) Q fun H2 s2 => q H2 (s1.trans s2)
  | true => exact q H1 s1
theorem t_not {a : Bool} (h1 : Tt t Γ a) : Tt (tNot t) Γ (!a) := fun σ H O l g Q q => h1 σ H O l g _ fun H1 s1 => q H1 s1
theorem e_andV {a : Bool} {d : PyData} (h1 : Ed ta Γ (.bool a)) (h2 : a = true → Ed tb Γ d) (h3 : a = false → d = .bool false) : Ed (tAndV ta tb) Γ d := fun σ H O l g Q q => h1 σ H O l g _ fun x H1 _ z s1 r1 => by
  subst z
  cases r1 with | dat r1 =>
  refine ⟨a, r1.toBl, ?_⟩
  cases a with
  | true =>
    rw [if_pos rfl]
    exact h2 rfl σ H1 O (l.mono s1) (g.mono (cut_mono s1)) Q fun v H2 e z s2 r => q v H2 e z (s1.trans s2) r
  | false =>
    rw [if_neg (by decide)]
    have := h3 rfl
    subst this
    exact q _ _ _ rfl s1 (.dat (.bl _))
theorem e_orV {a : Bool} {d : PyData} (h1 : Ed ta Γ (.bool a)) (h2 : a = false → Ed tb Γ d) (h3 : a = true → d = .bool true) : Ed (tOrV ta tb) Γ d := fun σ H O l g Q q => h1 σ H O l g _ fun x H1 _ z s1 r1 => by
  subst z
  cases r1 with | dat r1 =>
  refine ⟨a, r1.toBl, ?_⟩
  cases a with
  | false =>
    rw [if_neg (by decide)]
    exact h2 rfl σ H1 O (l.mono s1) (g.mono (cut_mono s1)) Q fun v H2 e z s2 r => q v H2 e z (s1.trans s2) r
  | true =>
    rw [if_pos rfl]
    have := h3 rfl
    subst this
    exact q _ _ _ rfl s1 (.dat (.bl _))
theorem e_notV {a : Bool} (h1 : Ed ta Γ (.bool a)) : Ed (tNotV ta) Γ (.bool (!a)) := fun σ H O l g Q q => h1 σ H O l g _ fun x H1 _ z s1 r1 => by
  subst z
  cases r1 with | dat r1 => exact ⟨a, r1.toBl, q _ _ _ rfl s1 (.dat (.bl _))⟩
theorem es_if {b : Bool} {Φ : En → Prop} (h : Tt t Γ b) (h1 : b = true → Es ta Γ Φ) (h2 : b = false → Es tb Γ Φ) : Es (tIf t ta tb) Γ Φ := fun σ H O l g Q q => h σ H O l g _ fun H1 s1 => by
  cases b with
  | true =>
    rw [if_pos rfl]
    exact h1 rfl σ H1 O (l.mono s1) (g.mono (cut_mono s1)) Q fun v H2 e z s2 r => q v H2 e z (s1.trans s2) r
  | false =>
    rw [if_neg (by decide)]
    exact h2 rfl σ H1 O (l.mono s1) (g.mono (cut_mono s1)) Q fun v H2 e z s2 r => q v H2 e z (s1.trans s2) r
/-- a op b op c, all ints -/
theorem e_chain {p r : Int → Int → Bool} {tc : TE} {i j k : Int} (ha : Ed ta Γ (.int i)) (hb : Ed tb Γ (.int j)) (hc : p i j = true → Ed tc Γ (.int k)) :
    Ed (tChain (rI0 fun i j => .bl (p i j)) (rI0 fun i j => .bl (r i j)) ta tb tc) Γ (.bool (p i j && r j k)) := fun σ H O l g Q q =>
  ha σ H O l g _ fun x H1 _ z s1 r1 => by
    subst z
    refine hb σ H1 O (l.mono s1) (g.mono (cut_mono s1)) _ fun y H2 _ z s2 r2 => ?_
    subst z
    cases r1 with | dat r1 => cases r2 with | dat r2 =>
    refine ⟨i, j, r1.toInt, r2.toInt, _, rfl, ?_⟩
    cases hp : p i j with
    | true =>
      rw [if_pos rfl]
      refine hc hp σ H2 O (l.mono (s1.trans s2)) (g.mono (cut_mono (s1.trans s2))) _ fun w H3 _ z s3 r3 => ?_
      subst z
      cases r3 with | dat r3 =>
      refine ⟨j, k, r2.toInt, r3.toInt, q _ _ _ rfl ((s1.trans s2).trans s3) ?_⟩
      rw [hp, Bool.true_and]
      exact .dat (.bl _)
    | false =>
      rw [if_neg (by decide)]
      refine q _ _ _ rfl (s1.trans s2) ?_
      rw [hp, Bool.false_and]
      exact .dat (.bl _)
/-! arguments, displays -/
theorem a_nil : Ar tNil Γ [] := fun σ H O l g Q q => q _ _ (Same.refl H) .nil
theorem a_cons {tr : TA} {e : En} {es : List En} (h : E ta Γ e) (hr : Ar tr Γ es) : Ar (tCons ta tr) Γ (e :: es) := fun σ H O l g Q q => h σ H O l g _ fun x H1 _ z s1 r1 => by
  subst z
  exact hr σ H1 O (l.mono s1) (g.mono (cut_mono s1)) _ fun vs H2 s2 r2 => q _ _ (s1.trans s2) (.cons (r1.mono (cut_mono s2)) r2)
theorem erAll_rp {H : Hp} : ∀ {ds : List PyData} {vs : List V}, ErAll H vs (ds.map En.dat) → RpAll H vs ds
  | [], _, .nil => .nil
  | _ :: _, _, .cons (.dat h) t => .cons h (erAll_rp t)
theorem small {n : Nat} (h : n ≤ 100000) : n ≤ sizeLine := Nat.le_trans h (by decide)
theorem e_tup {ta : TA} {ds : List PyData} (h : Ar ta Γ (ds.map En.dat)) (hl : ds.length ≤ 100000 := by exact Nat.le_of_ble_eq_true rfl) : Ed (tTup ta) Γ (.tuple ds) := fun σ H O l g Q q => h σ H O l g _ fun vs H1 s r => by
  have r' := erAll_rp r
  refine ⟨by rw [r'.length]; exact small hl, fun p hp => q _ _ _ rfl (s.trans (same_upd hp)) (.dat (.tup (cut_get upd_same ((l.mono s).no hp)) (RpAll.mono (cut_mono (same_upd hp)) _ _ r')))⟩
theorem n_lst {ta : TA} {ds : List PyData} (h : Ar ta Γ (ds.map En.dat)) (hl : ds.length ≤ 100000 := by exact Nat.le_of_ble_eq_true rfl) : NL (tLst ta) Γ ds := fun σ H O l g Q q => h σ H O l g _ fun vs H1 s r => by
  have r' := erAll_rp r
  exact ⟨by rw [r'.length]; exact small hl, fun p hp => q p _ vs ((s.free hp)) (s.trans (same_upd hp)) upd_same (RpAll.mono (cut_cons hp (same_upd hp)) _ _ r')⟩
end
end KV
/-! KVal2 -/
set_option Elab.async false
set_option linter.all false
set_option maxRecDepth 100000
set_option maxHeartbeats 4000000
namespace KV
open PySem L2
variable {K : PySem.W.Frag} {Γ : List En} {ta tb te td ty : TE} {t u : TT}
/-! ### one operand -/
theorem es_mono {Φ Ψ : En → Prop} (h : Es te Γ Φ) (k : ∀ e, Φ e → Ψ e) : Es te Γ Ψ := fun σ H O l g Q q => h σ H O l g Q fun v H2 e z s r => q v H2 e (k e z) s r
/-! ### sequences -/
theorem rp_list {H : Hp} {v : V} {ds : List PyData} (h : Rp H v (.list ds)) : ∃ a xs, v = .ref a ∧ H a = some (.lst xs) ∧ RpAll H xs ds := by
  cases h with | lst e r => exact ⟨_, _, rfl, e, r⟩
theorem rp_tuple {H : Hp} {v : V} {ds : List PyData} (h : Rp H v (.tuple ds)) : ∃ a xs, v = .ref a ∧ H a = some (.tup xs) ∧ RpAll H xs ds := by
  cases h with | tup e r => exact ⟨_, _, rfl, e, r⟩
theorem atI_rp {H : Hp} {xs : List V} {ds : List PyData} {i : Int} {d : PyData} (r : RpAll H xs ds) (h : atI ds i = some d) : ∃ v, atI xs i = some v ∧ Rp H v d := by
  unfold atI at h ⊢
  rw [r.length]
  cases e : ixN ds.length i with
  | none => rw [e] at h; cases h
  | some j =>
    rw [e] at h
    obtain ⟨v, e1, e2⟩ := r.get (i := j) (d := d) h
    exact ⟨v, e1, e2⟩
theorem e_ixL {ds : List PyData} {i : Int} {d : PyData} (ha : Ed ta Γ (.list ds)) (hb : Ed tb Γ (.int i)) (h : atI ds i = some d) : Ed (tOp (rIxL K) ta tb) Γ d :=
  e_bin ha hb fun x y H O Q l hx hy q => by
    cases hx with | dat hx => cases hy with | dat hy =>
    obtain ⟨a, xs, rfl, e, r⟩ := rp_list hx
    obtain ⟨v, e1, e2⟩ := atI_rp r h
    exact ⟨a, xs, i, v, rfl, hy.toInt, SqL.of (cut_same _ _ _ _ e), e1, q _ _ (Same.refl H) (.dat e2)⟩
theorem e_ixT {ds : List PyData} {i : Int} {d : PyData} (ha : Ed ta Γ (.tuple ds)) (hb : Ed tb Γ (.int i)) (h : atI ds i = some d) : Ed (tOp (rIxT K) ta tb) Γ d :=
  e_bin ha hb fun x y H O Q l hx hy q => by
    cases hx with | dat hx => cases hy with | dat hy =>
    obtain ⟨a, xs, rfl, e, r⟩ := rp_tuple hx
    obtain ⟨v, e1, e2⟩ := atI_rp r h
    exact ⟨a, xs, i, v, rfl, hy.toInt, SqT.of (cut_same _ _ _ _ e), e1, q _ _ (Same.refl H) (.dat e2)⟩
/-- list or tuple -/
def seqOf : PyData → Option (List PyData)
  | .list ds => some ds
  | .tuple ds => some ds
  | _ => none
theorem seq_rp {H : Hp} {v : V} {d : PyData} {ds : List PyData} (h : Rp H v d) (e : seqOf d = some ds) : ∃ a xs, v = .ref a ∧ (H a = some (.lst xs) ∨ H a = some (.tup xs)) ∧ RpAll H xs ds := by
  cases h <;> first | cases e | skip
  · exact ⟨_, _, rfl, .inl (by assumption), by assumption⟩
  · exact ⟨_, _, rfl, .inr (by assumption), by assumption⟩
theorem e_ix {d : PyData} {ds : List PyData} {i : Int} {d' : PyData} (ha : Ed ta Γ d) (hb : Ed tb Γ (.int i)) (hs : seqOf d = some ds) (h : atI ds i = some d') : Ed (tOp (rIx K) ta tb) Γ d' :=
  e_bin ha hb fun x y H O Q l hx hy q => by
    cases hx with | dat hx => cases hy with | dat hy =>
    obtain ⟨a, xs, rfl, e, r⟩ := seq_rp hx hs
    obtain ⟨v, e1, e2⟩ := atI_rp r h
    have q' := q _ _ (Same.refl H) (.dat e2)
    rcases e with e | e
    · exact .inl ⟨a, xs, i, v, rfl, hy.toInt, SqL.of (cut_same _ _ _ _ e), e1, q'⟩
    · exact .inr (.inl ⟨a, xs, i, v, rfl, hy.toInt, SqT.of (cut_same _ _ _ _ e), e1, q'⟩)
/-- a call of one argument by values -/
theorem e_c1 {r : List V → Hp → VK → Prop} {e : En} {Φ : En → Prop} (ha : E ta Γ e) (hr : ∀ (x : V) (H : Hp) (O : List Addr) (Q : VK), Live O H → Er (cut O H) x e → (∀ v H2 e, Φ e → Same H H2 → Er (cut O H2) v e → Q v H2) → r [x] H Q) : Es (tCB r (tCons ta tNil)) Γ Φ := fun σ H O l g Q q =>
  ha σ H O l g _ fun x H1 _ z s1 r1 => by
    subst z
    exact hr x H1 O Q (l.mono s1) r1 fun v H2 e z s2 r2 => q v H2 e z (s1.trans s2) r2
theorem n_c1 {r : List V → Hp → VK → Prop} {e : En} {ds : List PyData} (ha : E ta Γ e) (hr : ∀ (x : V) (H : Hp) (O : List Addr) (Q : VK), Live O H → Er (cut O H) x e → (∀ p H2 xs, H p = none → Same H H2 → H2 p = some (.lst xs) → RpAll (cut (p :: O) H2) xs ds → Q (.ref p) H2) → r [x] H Q) : NL (tCB r (tCons ta tNil)) Γ ds := fun σ H O l g Q q =>
  ha σ H O l g _ fun x H1 _ z s1 r1 => by
    subst z
    exact hr x H1 O Q (l.mono s1) r1 fun p H2 xs n s2 e r2 => q p H2 xs (s1.free n) (s1.trans s2) e r2
theorem e_len {d : PyData} {ds : List PyData} (ha : Ed ta Γ d) (hs : seqOf d = some ds) : Ed (tCB (fun xs H Q => ∃ p ys, xs = [.ref p] ∧ (SqL K H p ys ∨ SqT K H p ys) ∧ Q (.int ys.length) H) (tCons ta tNil)) Γ (.int ds.length) :=
  e_c1 ha fun x H O Q l hx q => by
    cases hx with | dat hx =>
    obtain ⟨a, xs, rfl, e, r⟩ := seq_rp hx hs
    refine ⟨a, xs, rfl, e.elim (fun e => .inl (SqL.of (cut_same _ _ _ _ e))) (fun e => .inr (SqT.of (cut_same _ _ _ _ e))), ?_⟩
    rw [r.length]
    exact q _ _ _ rfl (Same.refl H) (.dat (.int _))
theorem e_lenD {kvs : List (Cell × V)} (ha : E ta Γ (.dic kvs)) : Ed (tCB rLenT (tCons ta tNil)) Γ (.int kvs.length) :=
  e_c1 ha fun x H O Q l hx q => by
    cases hx with | dic hx =>
    refine ⟨_, _, rfl, cut_same _ _ _ _ hx, ?_⟩
    rw [List.length_map]
    exact q _ _ _ rfl (Same.refl H) (.dat (.int _))
theorem n_list {d : PyData} {ds : List PyData} (ha : Ed ta Γ d) (hs : seqOf d = some ds) : NL (tCB (fun xs H Q => ∃ p ys, xs = [.ref p] ∧ (SqL K H p ys ∨ SqT K H p ys) ∧ ∀ l, H l = none → Q (.ref l) (upd H l (.lst ys))) (tCons ta tNil)) Γ ds :=
  n_c1 ha fun x H O Q l hx q => by
    cases hx with | dat hx =>
    obtain ⟨a, xs, rfl, e, r⟩ := seq_rp hx hs
    exact ⟨a, xs, rfl, e.elim (fun e => .inl (SqL.of (cut_same _ _ _ _ e))) (fun e => .inr (SqT.of (cut_same _ _ _ _ e))), fun p hp => q p _ xs hp (same_upd hp) upd_same (RpAll.mono (cut_cons hp (same_upd hp)) _ _ r)⟩
theorem e_tuple {d : PyData} {ds : List PyData} (ha : Ed ta Γ d) (hs : seqOf d = some ds) : Ed (tCB (fun xs H Q => ∃ p ys, xs = [.ref p] ∧ ((SqL K H p ys ∧ ∀ l, H l = none → Q (.ref l) (upd H l (.tup ys))) ∨ (SqT K H p ys ∧ Q (.ref p) H))) (tCons ta tNil)) Γ (.tuple ds) :=
  e_c1 ha fun x H O Q l hx q => by
    cases hx with | dat hx =>
    obtain ⟨a, xs, rfl, e, r⟩ := seq_rp hx hs
    refine ⟨a, xs, rfl, e.elim (fun e => .inl ⟨SqL.of (cut_same _ _ _ _ e), fun p hp => q _ _ _ rfl (same_upd hp) (.dat (.tup (cut_get upd_same (l.no hp)) (RpAll.mono (cut_mono (same_upd hp)) _ _ r)))⟩) (fun e => .inr ⟨SqT.of (cut_same _ _ _ _ e), q _ _ _ rfl (Same.refl H) (.dat (.tup e r))⟩)⟩
theorem e_all {bs : List Bool} (ha : Ed ta Γ (.list (bs.map .bool))) : Ed (tCB (rAll K) (tCons ta tNil)) Γ (.bool (bs.all id)) :=
  e_c1 ha fun x H O Q l hx q => by
    cases hx with | dat hx =>
    obtain ⟨a, xs, rfl, e, r⟩ := rp_list hx
    rw [r.toBls] at e
    exact ⟨a, bs, rfl, SqL.of (cut_same _ _ _ _ e), q _ _ _ rfl (Same.refl H) (.dat (.bl _))⟩
theorem e_any {bs : List Bool} (ha : Ed ta Γ (.list (bs.map .bool))) : Ed (tCB (rAny K) (tCons ta tNil)) Γ (.bool (bs.any id)) :=
  e_c1 ha fun x H O Q l hx q => by
    cases hx with | dat hx =>
    obtain ⟨a, xs, rfl, e, r⟩ := rp_list hx
    rw [r.toBls] at e
    exact ⟨a, bs, rfl, SqL.of (cut_same _ _ _ _ e), q _ _ _ rfl (Same.refl H) (.dat (.bl _))⟩
theorem e_sum {ns : List Int} (ha : Ed ta Γ (.list (ns.map .int))) : Ed (tCB (rSum K) (tCons ta tNil)) Γ (.int ns.sum) :=
  e_c1 ha fun x H O Q l hx q => by
    cases hx with | dat hx =>
    obtain ⟨a, xs, rfl, e, r⟩ := rp_list hx
    rw [r.toInts] at e
    exact ⟨a, ns, rfl, SqL.of (cut_same _ _ _ _ e), q _ _ _ rfl (Same.refl H) (.dat (.int _))⟩
/-- the greatest of a list that is not empty -/
theorem e_max {ns : List Int} {m : Int} (ha : Ed ta Γ (.list (ns.map .int))) (hm : m ∈ ns) (hl : ∀ y ∈ ns, y ≤ m) : Ed (tCB (rMax K) (tCons ta tNil)) Γ (.int m) :=
  e_c1 ha fun x H O Q l hx q => by
    cases hx with | dat hx =>
    obtain ⟨a, xs, rfl, e, r⟩ := rp_list hx
    rw [r.toInts] at e
    refine ⟨a, ns, rfl, SqL.of (cut_same _ _ _ _ e), List.length_pos_of_mem hm, fun m' h1 h2 => ?_⟩
    have e' : m' = m := Int.le_antisymm (hl _ h1) (h2 _ hm)
    subst e'
    exact q _ _ _ rfl (Same.refl H) (.dat (.int _))
theorem e_c2 {r : List V → Hp → VK → Prop} {e1 e2 e3 : En} (ha : E ta Γ e1) (hb : E tb Γ e2) (hr : ∀ (x y : V) (H : Hp) (O : List Addr) (Q : VK), Live O H → Er (cut O H) x e1 → Er (cut O H) y e2 → (∀ v H2, Same H H2 → Er (cut O H2) v e3 → Q v H2) → r [x, y] H Q) : E (tCB r (tCons ta (tCons tb tNil))) Γ e3 := fun σ H O l g Q q =>
  ha σ H O l g _ fun x H1 _ z s1 r1 => by
    subst z
    refine hb σ H1 O (l.mono s1) (g.mono (cut_mono s1)) _ fun y H2 _ z s2 r2 => ?_
    subst z
    exact hr x y H2 O Q (l.mono (s1.trans s2)) (r1.mono (cut_mono s2)) r2 fun v H3 s3 r3 => q v H3 _ rfl ((s1.trans s2).trans s3) r3
theorem e_min2 {i j : Int} (ha : Ed ta Γ (.int i)) (hb : Ed tb Γ (.int j)) : Ed (tCB (fun xs H Q => ∃ i j, xs = [.int i, .int j] ∧ Q (.int (if j < i then j else i)) H) (tCons ta (tCons tb tNil))) Γ (.int (min i j)) :=
  e_c2 ha hb fun x y H O Q l hx hy q => by
    cases hx with | dat hx => cases hy with | dat hy =>
    refine ⟨i, j, by rw [hx.toInt, hy.toInt], ?_⟩
    rw [show (if j < i then j else i) = min i j by split <;> omega]
    exact q _ _ (Same.refl H) (.dat (.int _))
theorem e_max2 {i j : Int} (ha : Ed ta Γ (.int i)) (hb : Ed tb Γ (.int j)) : Ed (tCB (fun xs H Q => ∃ i j, xs = [.int i, .int j] ∧ Q (.int (if j > i then j else i)) H) (tCons ta (tCons tb tNil))) Γ (.int (max i j)) :=
  e_c2 ha hb fun x y H O Q l hx hy q => by
    cases hx with | dat hx => cases hy with | dat hy =>
    refine ⟨i, j, by rw [hx.toInt, hy.toInt], ?_⟩
    rw [show (if j > i then j else i) = max i j by split <;> omega]
    exact q _ _ (Same.refl H) (.dat (.int _))
theorem e_abs {i : Int} (ha : Ed ta Γ (.int i)) : Ed (tCB (fun xs H Q => ∃ i, xs = [.int i] ∧ Q (.int (if i < 0 then -i else i)) H) (tCons ta tNil)) Γ (.int (if i < 0 then -i else i)) :=
  e_c1 ha fun x H O Q l hx q => by
    cases hx with | dat hx =>
    exact ⟨i, by rw [hx.toInt], q _ _ _ rfl (Same.refl H) (.dat (.int _))⟩
theorem e_intI {i : Int} (ha : Ed ta Γ (.int i)) : Ed (tCB (fun xs H Q => (∃ i, xs = [.int i] ∧ Q (.int i) H) ∨ ∃ k, xs = [.bl k] ∧ Q (.int (if k then 1 else 0)) H) (tCons ta tNil)) Γ (.int i) :=
  e_c1 ha fun x H O Q l hx q => by
    cases hx with | dat hx =>
    exact .inl ⟨i, by rw [hx.toInt], q _ _ _ rfl (Same.refl H) (.dat (.int _))⟩
theorem e_intB {k : Bool} (ha : Ed ta Γ (.bool k)) : Ed (tCB (fun xs H Q => (∃ i, xs = [.int i] ∧ Q (.int i) H) ∨ ∃ k, xs = [.bl k] ∧ Q (.int (if k then 1 else 0)) H) (tCons ta tNil)) Γ (.int (if k then 1 else 0)) :=
  e_c1 ha fun x H O Q l hx q => by
    cases hx with | dat hx =>
    exact .inr ⟨k, by rw [hx.toBl], q _ _ _ rfl (Same.refl H) (.dat (.int _))⟩
/-! ### list + list, [x] * n, tuple + tuple, slices -/
theorem n_bin {r : R2} {e1 e2 : En} {ds : List PyData} (ha : E ta Γ e1) (hb : E tb Γ e2) (hr : ∀ (x y : V) (H : Hp) (O : List Addr) (Q : VK), Live O H → Er (cut O H) x e1 → Er (cut O H) y e2 → (∀ p H2 xs, H p = none → Same H H2 → H2 p = some (.lst xs) → RpAll (cut (p :: O) H2) xs ds → Q (.ref p) H2) → r x y H Q) : NL (tOp r ta tb) Γ ds := fun σ H O l g Q q =>
  ha σ H O l g _ fun x H1 _ z s1 r1 => by
    subst z
    refine hb σ H1 O (l.mono s1) (g.mono (cut_mono s1)) _ fun y H2 _ z s2 r2 => ?_
    subst z
    exact hr x y H2 O Q (l.mono (s1.trans s2)) (r1.mono (cut_mono s2)) r2 fun p H3 xs n s3 e r3 => q p H3 xs ((s1.trans s2).free n) ((s1.trans s2).trans s3) e r3
theorem n_cat {ds es : List PyData} (ha : Ed ta Γ (.list ds)) (hb : Ed tb Γ (.list es)) (hl : ds.length + es.length ≤ 100000) : NL (tOp rCat ta tb) Γ (ds ++ es) :=
  n_bin ha hb fun x y H O Q l hx hy q => by
    cases hx with | dat hx => cases hy with | dat hy =>
    obtain ⟨a, xs, rfl, e, r⟩ := rp_list hx
    obtain ⟨b, ys, rfl, e', r'⟩ := rp_list hy
    exact ⟨a, b, xs, ys, rfl, rfl, cut_same _ _ _ _ e, cut_same _ _ _ _ e', by rw [r.length, r'.length]; exact small hl, fun p hp => q p _ _ hp (same_upd hp) upd_same (RpAll.mono (cut_cons hp (same_upd hp)) _ _ (r.append r'))⟩
theorem RpAll.rep {H : Hp} {v : V} {d : PyData} (h : Rp H v d) : ∀ n : Nat, RpAll H (List.replicate n v) (List.replicate n d)
  | 0 => .nil
  | n + 1 => .cons h (RpAll.rep h n)
theorem e_catT {ds es : List PyData} (ha : Ed ta Γ (.tuple ds)) (hb : Ed tb Γ (.tuple es)) (hl : ds.length + es.length ≤ 100000) : Ed (tOp (rCatA K) ta tb) Γ (.tuple (ds ++ es)) :=
  e_bin ha hb fun x y H O Q l hx hy q => by
    cases hx with | dat hx => cases hy with | dat hy =>
    obtain ⟨a, xs, rfl, e, r⟩ := rp_tuple hx
    obtain ⟨b, ys, rfl, e', r'⟩ := rp_tuple hy
    refine ⟨a, b, xs, ys, rfl, rfl, SqT.of (cut_same _ _ _ _ e), SqT.of (cut_same _ _ _ _ e'), by rw [r.length, r'.length]; exact small hl, fun z => ?_, fun _ z => ?_, fun _ _ p hp => ?_⟩
    · subst z
      have : ds = [] := List.eq_nil_of_length_eq_zero r.length.symm
      subst this
      exact q _ _ (Same.refl H) (.dat (.tup e' r'))
    · subst z
      have : es = [] := List.eq_nil_of_length_eq_zero r'.length.symm
      subst this
      exact q _ _ (Same.refl H) (by rw [List.append_nil]; exact .dat (.tup e r))
    · exact q _ _ (same_upd hp) (.dat (.tup (cut_get upd_same (l.no hp)) (RpAll.mono (cut_mono (same_upd hp)) _ _ (r.append r'))))
/-! ### isinstance -/
def tyD : PyData → String
  | .none => "NoneType"
  | .bool _ => "bool"
  | .int _ => "int"
  | .str _ => "str"
  | .list _ => "list"
  | .tuple _ => "tuple"
  | .dict _ => "dict"
theorem rp_ty {H : Hp} {v : V} {d : PyData} (h : Rp H v d) : TyX K H v (.type (tyD d)) := by
  cases h with
  | non => exact .base .non
  | bl b => exact .base (.bl b)
  | int i => exact .base (.int i)
  | str x => exact .base (.str x)
  | lst e _ => exact .base (.lst e)
  | tup e _ => exact .base (.tup e)
theorem Rp.up {O : List Addr} {H : Hp} {v : V} {d : PyData} (h : Rp (cut O H) v d) : Rp H v d := Rp.mono (cut_same _ _) _ _ h
theorem e_isi {d : PyData} {T : String} {b : Bool} (ha : Ed ta Γ d) (hk : kitB (tyD d) T = some b) : Ed (tCB (rIsi K) (tCons ta (tCons (tC (.ty T)) tNil))) Γ (.bool b) := fun σ H O l g Q q =>
  ha σ H O l g _ fun x H1 _ z s1 r1 => by
    subst z
    cases r1 with | dat r1 =>
    exact ⟨x, .ty T, _, _, b, rfl, .ty T, rp_ty r1.up, kit_ty hk, q _ _ _ rfl s1 (.dat (.bl b))⟩
theorem e_isi2 {d : PyData} {T S : String} {b c : Bool} (ha : Ed ta Γ d) (hk : kitB (tyD d) T = some b) (hk' : kitB (tyD d) S = some c) : Ed (tCB (rIsiT K) (tCons ta (tCons (tTup (tCons (tC (.ty T)) (tCons (tC (.ty S)) tNil))) tNil))) Γ (.bool (b || c)) := fun σ H O l g Q q =>
  ha σ H O l g _ fun x H1 _ z s1 r1 => by
    subst z
    cases r1 with | dat r1 =>
    refine ⟨small (n := 2) (by decide), fun p hp => ⟨x, p, _, _, _, b || c, rfl, upd_same, .cons (.ty T) (.cons (.ty S) .nil), rp_ty (Rp.mono (same_upd hp) _ _ r1.up), ?_, q _ _ _ rfl (s1.trans (same_upd hp)) (.dat (.bl _))⟩⟩
    refine kitAny_cons (kit_ty hk) (fun z => ?_) (fun z => by rw [z]; rfl)
    rw [z]
    refine kitAny_cons (kit_ty hk') (fun z => ?_) (fun z => by rw [z]; rfl)
    rw [z]
    rfl
/-! ### x in (a, b, ..), deep comparisons -/
theorem scD_all {H : Hp} : ∀ {ds : List PyData} {xs ys : List V}, RpAll H ys ds → ds.map scD = xs.map some → ys = xs
  | [], [], _, .nil, _ => rfl
  | [], _ :: _, _, .nil, h => by cases h
  | _ :: _, [], _, .cons _ _, h => by cases h
  | _ :: _, _ :: _, _, .cons a b, h => by
    injection h with h1 h2
    rw [scD_rp a h1, scD_all b h2]
theorem e_inT {d : PyData} {ds : List PyData} {x : V} {xs : List V} {neg : Bool} (ha : Ed ta Γ d) (hb : Ed tb Γ (.tuple ds)) (h1 : scD d = some x) (h2 : ds.map scD = xs.map some) (f1 : flatV x = true) (f2 : xs.all flatV = true) :
    Ed (tOp (rIn K neg) ta tb) Γ (.bool (if neg then !inV x xs else inV x xs)) :=
  e_bin ha hb fun v w H O Q l hx hy q => by
    cases hx with | dat hx => cases hy with | dat hy =>
    obtain ⟨b, ys, rfl, e', r'⟩ := rp_tuple hy
    have ev := scD_rp hx h1
    have ey : ys = xs := scD_all r' h2
    subst ev ey
    exact ⟨b, ys, rfl, .inr (SqT.of (cut_same _ _ _ _ e')), f1, f2, q _ _ (Same.refl H) (.dat (.bl _))⟩
theorem e_neD {d e : PyData} (ha : Ed ta Γ d) (hb : Ed tb Γ e) (h1 : SeqAt.shaped d = true) (h2 : SeqAt.shaped e = true) : Ed (tOp (rNeD K) ta tb) Γ (.bool (!PyData.eqv d e)) :=
  e_bin ha hb fun v w H O Q l hx hy q => by
    cases hx with | dat hx => cases hy with | dat hy =>
    exact ⟨d, e, hx.up.dp, hy.up.dp, h1, h2, q _ _ (Same.refl H) (.dat (.bl _))⟩
/-! ### dicts with cells as keys -/
theorem kc_inj {p q : Cell} (h : kc p = kc q) : p = q := by
  unfold kc at h
  injection h with h1 h2
  injection h2 with h2 _
  exact Prod.ext (Sum.inl.inj h1) (Sum.inl.inj h2)
theorem valV_ent : ∀ (kvs : List (Cell × V)) (c : Cell), valV (kvs.map ent) (kc c) = valV kvs c
  | [], c => rfl
  | e :: r, c => by
    have ih := valV_ent r c
    unfold valV at ih ⊢
    rw [List.map_cons, List.find?_cons, List.find?_cons]
    by_cases h : e.1 = c
    · have h' : (ent e).1 = kc c := by show kc e.1 = kc c; rw [h]
      rw [decide_eq_true h, decide_eq_true h']
      rfl
    · have h' : ¬ (ent e).1 = kc c := fun z => h (kc_inj z)
      rw [decide_eq_false h, decide_eq_false h']
      exact ih
theorem putK_ent (kvs : List (Cell × V)) (c : Cell) (v : V) : putK (kvs.map ent) (kc c) v = (putK kvs c v).map ent := by
  have hi : ∀ e : Cell × V, decide ((ent e).1 = kc c) = decide (e.1 = c) := fun e => by
    by_cases h : e.1 = c
    · rw [decide_eq_true h, decide_eq_true (show kc e.1 = kc c by rw [h])]
    · rw [decide_eq_false h, decide_eq_false fun z => h (kc_inj z)]
  have ha : ((kvs.map ent).any fun kv => decide (kv.1 = kc c)) = kvs.any fun kv => decide (kv.1 = c) := by
    rw [List.any_map]
    congr 1
    funext e
    exact hi e
  unfold putK
  rw [ha]
  split
  · rw [List.map_map, List.map_map]
    congr 1
    funext e
    show (if (ent e).1 = kc c then ((ent e).1, v) else ent e) = ent (if e.1 = c then (e.1, v) else e)
    by_cases h : e.1 = c
    · rw [if_pos h, if_pos (show kc e.1 = kc c by rw [h])]
    · rw [if_neg h, if_neg fun z => h (kc_inj z)]
  · rw [List.map_append]
    rfl
def cellD (c : Cell) : PyData := .tuple [.int c.1, .int c.2]
theorem rp_cell {H : Hp} {v : V} {c : Cell} (h : Rp H v (cellD c)) : ∃ b, v = .ref b ∧ H b = some (.tup ((kc c).map kV)) := by
  obtain ⟨b, xs, rfl, e, r⟩ := rp_tuple h
  cases r with | cons r1 r =>
  cases r with | cons r2 r =>
  cases r
  rw [r1.toInt, r2.toInt] at e
  exact ⟨b, rfl, e⟩
theorem cell_rp {H : Hp} {b : Addr} {c : Cell} (h : H b = some (.tup ((kc c).map kV))) : Rp H (.ref b) (cellD c) := .tup h (.cons (.int _) (.cons (.int _) .nil))
inductive IsDic : En → List (Cell × V) → Prop
  | c {kvs} : IsDic (.dic kvs) kvs
  | f {kvs} : IsDic (.dif kvs) kvs
  | z {kvs} : IsDic (.dfz kvs) kvs
theorem IsDic.rd {H : Hp} {v : V} {e : En} {kvs : List (Cell × V)} (i : IsDic e kvs) (h : Er H v e) : ∃ a, v = .ref a ∧ Rd H a (.dT (kvs.map ent)) := by
  cases i <;> cases h
  · exact ⟨_, rfl, .inl (by assumption)⟩
  · exact ⟨_, rfl, by assumption⟩
  · exact ⟨_, rfl, .inr ⟨_, by assumption⟩⟩
theorem rd_up {O : List Addr} {H : Hp} {a : Addr} {u : HO} (h : Rd (cut O H) a u) : Rd H a u := h.elim (fun z => .inl (cut_same _ _ _ _ z)) fun ⟨o, z⟩ => .inr ⟨o, cut_same _ _ _ _ z⟩
/-- a plain value -/
def vD : V → Option PyData
  | .int i => some (.int i)
  | .bl b => some (.bool b)
  | _ => none
theorem vD_rp {H : Hp} {v : V} {d : PyData} (h : vD v = some d) : Rp H v d := by
  cases v <;> cases h
  · exact .bl _
  · exact .int _
theorem e_dget {e : En} {kvs : List (Cell × V)} {c : Cell} {v : V} {d : PyData} (hd : E td Γ e) (hi : IsDic e kvs) (hk : Ed ty Γ (cellD c)) (hv : valV kvs c = some v) (he : vD v = some d) : Ed (tDGet td ty) Γ d := fun σ H O l g Q q =>
  hd σ H O l g _ fun x H1 _ z s1 r1 => by
    subst z
    refine hk σ H1 O (l.mono s1) (g.mono (cut_mono s1)) _ fun y H2 _ z s2 r2 => ?_
    subst z
    obtain ⟨a, rfl, h1⟩ := hi.rd (r1.mono (cut_mono s2))
    cases r2 with | dat r2 =>
    obtain ⟨b, rfl, h2⟩ := rp_cell r2.up
    exact ⟨a, v, rfl, .inr ⟨_, kc c, b, rd_up h1, rfl, h2, by rw [valV_ent, hv]⟩, q _ _ _ rfl (s1.trans s2) (.dat (vD_rp he))⟩
theorem e_din {e : En} {kvs : List (Cell × V)} {c : Cell} (hk : Ed ty Γ (cellD c)) (hd : E td Γ e) (hi : IsDic e kvs) : Ed (tDIn ty td) Γ (.bool (valV kvs c).isSome) := fun σ H O l g Q q =>
  hk σ H O l g _ fun y H1 _ z s1 r1 => by
    subst z
    refine hd σ H1 O (l.mono s1) (g.mono (cut_mono s1)) _ fun x H2 _ z s2 r2 => ?_
    subst z
    obtain ⟨a, rfl, h1⟩ := hi.rd r2
    cases r1 with | dat r1 =>
    obtain ⟨b, rfl, h2⟩ := rp_cell (Rp.mono (cut_mono s2) _ _ r1).up
    exact ⟨a, _, rfl, .inr ⟨_, kc c, b, rd_up h1, rfl, h2, rfl⟩, q _ _ _ rfl (s1.trans s2) (by rw [valV_ent]; exact .dat (.bl _))⟩
theorem e_dnotin {e : En} {kvs : List (Cell × V)} {c : Cell} (hk : Ed ty Γ (cellD c)) (hd : E td Γ e) (hi : IsDic e kvs) : Ed (tDNotIn ty td) Γ (.bool (!(valV kvs c).isSome)) := fun σ H O l g Q q =>
  hk σ H O l g _ fun y H1 _ z s1 r1 => by
    subst z
    refine hd σ H1 O (l.mono s1) (g.mono (cut_mono s1)) _ fun x H2 _ z s2 r2 => ?_
    subst z
    obtain ⟨a, rfl, h1⟩ := hi.rd r2
    cases r1 with | dat r1 =>
    obtain ⟨b, rfl, h2⟩ := rp_cell (Rp.mono (cut_mono s2) _ _ r1).up
    exact ⟨a, _, rfl, .inr ⟨_, kc c, b, rd_up h1, rfl, h2, rfl⟩, q _ _ _ rfl (s1.trans s2) (by rw [valV_ent]; exact .dat (.bl _))⟩
/-! ### calls -/
/-- a promise: on data es it gives some e of Φ -/
def spE (R : List En → (En → Prop) → Prop) : Sp := fun vs H Q _ => ∃ (O : List Addr) (es : List En) (Φ : En → Prop), Live O H ∧ ErAll (cut O H) vs es ∧ R es Φ ∧ ∀ v H2 e, Φ e → Same H H2 → Er (cut O H2) v e → Q v H2
theorem es_call {R : List En → (En → Prop) → Prop} {E0 : XK} {tA : TA} {es : List En} {Φ : En → Prop} (ha : Ar tA Γ es) (h : R es Φ) : Es (tCall (spE R) [] E0 tA) Γ Φ := fun σ H O l g Q q =>
  ha σ H O l g _ fun vs H1 s1 r1 => by
    rw [List.append_nil]
    exact ⟨O, es, Φ, l.mono s1, r1, h, fun v H2 e z s2 r2 => q v H2 e z (s1.trans s2) r2⟩
/-- by a function of data -/
def rF (n : Nat) (P : List PyData → PyData → Prop) : List En → (En → Prop) → Prop := fun es Φ => ∃ (ds : List PyData) (d : PyData), ds.length = n ∧ es = ds.map En.dat ∧ P ds d ∧ Φ = (· = .dat d)
theorem e_call {n : Nat} {P : List PyData → PyData → Prop} {E0 : XK} {tA : TA} {ds : List PyData} {d : PyData} (ha : Ar tA Γ (ds.map En.dat)) (h : P ds d) (hn : ds.length = n := by rfl) : Ed (tCall (spE (rF n P)) [] E0 tA) Γ d := es_call ha ⟨ds, d, hn, rfl, h, rfl⟩
/-! ### a body that hands back -/
def Bs (ts : TS) (Γ : List En) (Φ : En → Prop) : Prop := ∀ (σ : St) (H : Hp) (O : List Addr) (D : Ends), Live O H → EnvOk (cut O H) σ Γ → (∀ v H2 e, Φ e → Same H H2 → Er (cut O H2) v e → D.rt v H2) → ts D σ H
theorem b_ret {Φ : En → Prop} (h : Es te Γ Φ) : Bs (tRet te) Γ Φ := fun σ H O D l g q => h σ H O l g D.rt q
variable {ts tr tw : TS} {Φ : En → Prop}
theorem b_asgs {i : Nat} {Ψ : En → Prop} (h : Es te Γ Ψ) (k : ∀ e, Ψ e → Bs tr (Γ.set i e) Φ) : Bs (tSeq (tAsg te (gName i)) tr) Γ Φ := fun σ H O D l g q =>
  h σ H O l g _ fun v H1 e z s1 r1 => k e z _ H1 O D (l.mono s1) ((g.mono (cut_mono s1)).set r1 i) fun w H2 e z s2 r2 => q w H2 e z (s1.trans s2) r2
theorem b_asg {i : Nat} {e : En} (h : E te Γ e) (k : Bs tr (Γ.set i e) Φ) : Bs (tSeq (tAsg te (gName i)) tr) Γ Φ := b_asgs h fun _ z => z ▸ k
/-- if c: (hands back); the rest -/
theorem b_if {b : Bool} (h : Tt t Γ b) (h1 : b = true → Bs ts Γ Φ) (h2 : b = false → Bs tr Γ Φ) : Bs (tSeq (tIfS t ts tNext) tr) Γ Φ := fun σ H O D l g q => h σ H O l g _ fun H1 s1 => by
  have l1 := l.mono s1
  have g1 := g.mono (cut_mono s1)
  cases b with
  | true =>
    rw [if_pos rfl]
    exact h1 rfl σ H1 O _ l1 g1 fun v H2 e z s2 r2 => q v H2 e z (s1.trans s2) r2
  | false =>
    rw [if_neg (by decide)]
    exact h2 rfl σ H1 O D l1 g1 fun v H2 e z s2 r2 => q v H2 e z (s1.trans s2) r2
/-- a, b = a pair -/
theorem b_pair {i j : Nat} {d1 d2 : PyData} (h : Ed te Γ (.tuple [d1, d2])) (k : Bs tr ((Γ.set i (.dat d1)).set j (.dat d2)) Φ) : Bs (tSeq (tAsg te (gTup K 2 (gCons (gName i) (gCons (gName j) gNil)))) tr) Γ Φ := fun σ H O D l g q =>
  h σ H O l g _ fun v H1 e z s1 r1 => by
    subst z
    cases r1 with | dat r1 =>
    obtain ⟨a, xs, rfl, ea, r⟩ := rp_tuple r1
    have hl := r.length
    cases r with | cons r1 r =>
    cases r with | cons r2 r =>
    cases r
    exact ⟨a, _, rfl, SqT.of (cut_same _ _ _ _ ea), rfl, _, _, rfl, _, _, rfl, rfl, k _ H1 O D (l.mono s1) (((g.mono (cut_mono s1)).set (.dat r1) i).set (.dat r2) j) fun w H2 e z s2 r2 => q w H2 e z (s1.trans s2) r2⟩
/-- a, b = x, y -/
theorem b_par {i j : Nat} {tA : TA} {e1 e2 : En} (h : Ar tA Γ [e1, e2]) (k : Bs tr ((Γ.set i e1).set j e2) Φ) : Bs (tSeq (tPar i j tA) tr) Γ Φ := fun σ H O D l g q =>
  h σ H O l g _ fun vs H1 s1 r1 => by
    cases r1 with | cons r1 r =>
    cases r with | cons r2 r =>
    cases r
    exact ⟨_, _, rfl, k _ H1 O D (l.mono s1) (((g.mono (cut_mono s1)).set r1 i).set r2 j) fun w H2 e z s2 r2 => q w H2 e z (s1.trans s2) r2⟩
theorem b_if2 {b : Bool} (h : Tt t Γ b) (h1 : b = true → Bs ts Γ Φ) (h2 : b = false → Bs tr Γ Φ) : Bs (tIfS t ts tr) Γ Φ := fun σ H O D l g q => h σ H O l g _ fun H1 s1 => by
  have l1 := l.mono s1
  have g1 := g.mono (cut_mono s1)
  cases b with
  | true =>
    rw [if_pos rfl]
    exact h1 rfl σ H1 O D l1 g1 fun v H2 e z s2 r2 => q v H2 e z (s1.trans s2) r2
  | false =>
    rw [if_neg (by decide)]
    exact h2 rfl σ H1 O D l1 g1 fun v H2 e z s2 r2 => q v H2 e z (s1.trans s2) r2
end KV
/-! KVal3 -/
set_option Elab.async false
set_option linter.all false
set_option maxRecDepth 100000
set_option maxHeartbeats 4000000
namespace KV
open PySem L2
variable {K : PySem.W.Frag} {Γ : List En} {ta tb te td ty : TE} {t u tt tt1 : TT}
/-! ### wipes -/
theorem wipe_get (σ : St) : ∀ (vs : List Nat) (i : Nat), (L2.wipe σ vs)[i]? = if i ∈ vs then (σ[i]?).map (fun _ => none) else σ[i]?
  | [], i => by rw [if_neg (by simp)]; rfl
  | v :: vs, i => by
    have ih := wipe_get σ vs i
    show ((L2.wipe σ vs).set v none)[i]? = _
    by_cases h : v = i
    · subst h
      rw [if_pos (by simp), List.getElem?_set]
      rw [if_pos rfl, wipe_length]
      by_cases hl : v < σ.length
      · rw [if_pos hl, List.getElem?_eq_getElem hl]; rfl
      · rw [if_neg hl, List.getElem?_eq_none (by omega)]; rfl
    · rw [List.getElem?_set_ne h, ih]
      by_cases hm : i ∈ vs
      · rw [if_pos hm, if_pos (List.mem_cons_of_mem _ hm)]
      · rw [if_neg hm, if_neg (by simp only [List.mem_cons, not_or]; exact ⟨fun e => h e.symm, hm⟩)]
theorem wipe_eq {σ τ : St} {vs : List Nat} (h : ∀ i, i ∉ vs → σ[i]? = τ[i]?) (hl : σ.length = τ.length) : L2.wipe σ vs = L2.wipe τ vs := by
  apply List.ext_getElem?
  intro i
  rw [wipe_get, wipe_get]
  by_cases hm : i ∈ vs
  · rw [if_pos hm, if_pos hm]
    by_cases hi : i < σ.length
    · rw [List.getElem?_eq_getElem hi, List.getElem?_eq_getElem (by omega : i < τ.length)]; rfl
    · rw [List.getElem?_eq_none (by omega), List.getElem?_eq_none (by omega)]
  · rw [if_neg hm, if_neg hm, h i hm]
theorem wipe_idem (σ : St) (vs : List Nat) : L2.wipe (L2.wipe σ vs) vs = L2.wipe σ vs :=
  wipe_eq (fun i hi => by rw [wipe_get, if_neg hi]) (wipe_length _ _)
theorem wipe_set {σ : St} {vs : List Nat} {j : Nat} {x : Option V} (h : j ∈ vs) : L2.wipe (σ.set j x) vs = L2.wipe σ vs :=
  wipe_eq (fun i hi => List.getElem?_set_ne fun e => hi (by rw [← e]; exact h)) (by simp)
/-! ### targets -/
def Tg (g : TG) (js : List Nat) (d : PyData) (Γ Γ' : List En) : Prop := ∀ (σ : St) (H : Hp) (O : List Addr) (x : V) (k : St → Hp → Prop), Live O H → EnvOk (cut O H) σ Γ → Rp (cut O H) x d →
  (∀ σ', EnvOk (cut O H) σ' Γ' → (∀ vs : List Nat, (∀ j ∈ js, j ∈ vs) → L2.wipe σ' vs = L2.wipe σ vs) → k σ' H) → g x σ H k
theorem tg_name (j : Nat) {d : PyData} : Tg (gName j) [j] d Γ (Γ.set j (.dat d)) := fun σ H O x k l g r q => q _ (g.set (.dat r) j) fun vs hv => wipe_set (hv j (by simp))
theorem tg_pair (i j : Nat) {d1 d2 : PyData} : Tg (gTup K 2 (gCons (gName i) (gCons (gName j) gNil))) [i, j] (.tuple [d1, d2]) Γ ((Γ.set i (.dat d1)).set j (.dat d2)) := fun σ H O x k l g r q => by
  obtain ⟨a, xs, rfl, ea, r⟩ := rp_tuple r
  cases r with | cons r1 r =>
  cases r with | cons r2 r =>
  cases r
  refine ⟨a, _, rfl, SqT.of (cut_same _ _ _ _ ea), rfl, _, _, rfl, _, _, rfl, rfl, q _ ((g.set (.dat r1) i).set (.dat r2) j) fun vs hv => ?_⟩
  rw [wipe_set (hv j (by simp)), wipe_set (hv i (by simp))]
/-! ### what is walked -/
def YRp (O : List Addr) (H1 : Hp) (items : List PyData) : Nat → Hp → V → Hp → Prop := fun i H' x H'' => Same H' H'' ∧ ∃ d, items[i]? = some d ∧ ∀ O', Live O' H' → Same (cut O H1) (cut O' H') → Rp (cut O' H'') x d
def Src (wi : TI) (Γ : List En) (items : List PyData) : Prop := ∀ (σ : St) (H : Hp) (O : List Addr), Live O H → EnvOk (cut O H) σ Γ → ∀ R : It → Hp → Prop,
  (∀ J H1, Same H H1 → Walk J items.length (fun H' => Same (cut O H1) (cut O H')) (YRp O H1 items) → R J H1) → wi σ H R
theorem src_list {tl : TE} {ds : List PyData} (h : Ed tl Γ (.list ds)) : Src (iList K tl) Γ ds := fun σ H O l g R q =>
  h σ H O l g _ fun v H1 _ z s r => by
    subst z
    cases r with | dat r =>
    obtain ⟨a, xs, rfl, e, r⟩ := rp_list r
    refine ⟨a, rfl, ⟨xs, SqL.of (cut_same _ _ _ _ e)⟩, q _ _ s ?_⟩
    rw [← r.length]
    refine (walk_list (K := K) (a := a) (xs := xs)).mono (fun H' s' => SqL.of (cut_same _ _ _ _ (s' _ _ e))) fun i H' x H'' hi _ y => ?_
    obtain ⟨rfl, y⟩ := y
    obtain ⟨d, e1, e2⟩ := r.getV y
    exact ⟨Same.refl _, d, e1, fun O' _ s2 => Rp.mono s2 _ _ e2⟩
theorem sameT {K : PySem.W.Frag} {H H' : Hp} {a : Addr} {xs : List V} (s : Same H H') (h : SqT K H a xs) : SqT K H' a xs := by
  rcases h with (h | ⟨o, h⟩) | h
  · exact .inl (.inl (s _ _ h))
  · exact .inl (.inr ⟨o, s _ _ h⟩)
  · exact .inr h
theorem src_tup {tl : TE} {ds : List PyData} (h : Ed tl Γ (.tuple ds)) : Src (iTup K tl) Γ ds := fun σ H O l g R q =>
  h σ H O l g _ fun v H1 _ z s r => by
    subst z
    cases r with | dat r =>
    obtain ⟨a, xs, rfl, e, r⟩ := rp_tuple r
    refine ⟨a, rfl, ⟨xs, SqT.of (cut_same _ _ _ _ e)⟩, q _ _ s ?_⟩
    rw [← r.length]
    refine (walk_tup (K := K) (a := a) (xs := xs)).mono (fun H' s' => SqT.of (cut_same _ _ _ _ (s' _ _ e))) fun i H' x H'' hi _ y => ?_
    obtain ⟨rfl, y⟩ := y
    obtain ⟨d, e1, e2⟩ := r.getV y
    exact ⟨Same.refl _, d, e1, fun O' _ s2 => Rp.mono s2 _ _ e2⟩
/-- lo, lo + 1, .. -/
def rgD (lo : Int) (n : Nat) : List PyData := (List.range n).map fun (i : Nat) => PyData.int (lo + (i : Int))
theorem rgD_length (lo : Int) (n : Nat) : (rgD lo n).length = n := by simp [rgD]
theorem rgD_get {lo : Int} {n i : Nat} (h : i < n) : (rgD lo n)[i]? = some (.int (lo + (i : Int))) := by simp [rgD, h]
theorem walk_rgD {O : List Addr} {H1 : Hp} {lo : Int} {n : Nat} : Walk (Itr lo n) (rgD lo n).length (fun H' => Same (cut O H1) (cut O H')) (YRp O H1 (rgD lo n)) := by
  rw [rgD_length]
  refine (walk_range (lo := lo) (n := n)).mono (fun _ _ => trivial) fun i H' x H'' hi _ y => ?_
  obtain ⟨rfl, rfl⟩ := y
  exact ⟨Same.refl _, _, rgD_get hi, fun _ _ _ => .int _⟩
theorem src_rng1 {tA : TA} {n : Int} (h : Ar tA Γ [.dat (.int n)]) (h1 : n ≤ 100000) (h0 : -100000 ≤ n) : Src (iRng1 tA) Γ (rgD 0 n.toNat) := fun σ H O l g R q =>
  h σ H O l g _ fun vs H1 s r => by
    cases r with | cons r1 r =>
    cases r
    cases r1 with | dat r1 =>
    rw [r1.toInt]
    exact ⟨n, rfl, by omega, by omega, q _ _ s walk_rgD⟩
theorem src_rng2 {tA : TA} {m n : Int} (h : Ar tA Γ [.dat (.int m), .dat (.int n)]) (h1 : -100000 ≤ m ∧ m ≤ 100000 ∧ -100000 ≤ n ∧ n ≤ 100000) : Src (iRng2 tA) Γ (rgD m (n - m).toNat) := fun σ H O l g R q =>
  h σ H O l g _ fun vs H1 s r => by
    cases r with | cons r1 r =>
    cases r with | cons r2 r =>
    cases r
    cases r1 with | dat r1 => cases r2 with | dat r2 =>
    rw [r1.toInt, r2.toInt]
    exact ⟨m, n, rfl, by omega, q _ _ s walk_rgD⟩
/-- the keys of a locked dict -/
theorem src_keys {kvs : List (Cell × V)} (h : E td Γ (.dfz kvs)) : Src (iKeys td) Γ (kvs.map fun e => cellD e.1) := fun σ H O l g R q =>
  h σ H O l g _ fun v H1 _ z s r => by
    subst z
    cases r with | @dfz a o _ e =>
    refine ⟨a, o, rfl, .inr ⟨_, cut_same _ _ _ _ e, q _ _ s ?_⟩⟩
    have hl : (kvs.map fun e => cellD e.1).length = (kvs.map ent).length := by simp
    rw [hl]
    refine (walk_keysT (d := a) (o := o) (kvs := kvs.map ent)).mono (fun H' s' => cut_same _ _ _ _ (s' _ _ e)) fun i H' x H'' hi _ y => ?_
    obtain ⟨rfl, k, v, p, h1, rfl, h2⟩ := y
    rw [List.getElem?_map] at h1
    cases hk : kvs[i]? with
    | none => rw [hk] at h1; cases h1
    | some kv =>
      rw [hk] at h1
      have h3 : ent kv = (k, v) := Option.some.inj h1
      injection h3 with h3 _
      subst h3
      refine ⟨Same.refl _, cellD kv.1, by rw [List.getElem?_map, hk]; rfl, fun O' l' _ => cell_rp (cut_get h2 (l'.tup h2))⟩
/-- pairs -/
theorem yPair_rp {O : List Addr} {H1 : Hp} {xs ys : Nat → Option V} {items : List PyData} {i : Nat} {H' H'' : Hp} {x : V} (h : YPair xs ys i H' x H'')
    (hd : ∀ a b, xs i = some a → ys i = some b → ∃ d e, items[i]? = some (.tuple [d, e]) ∧ Rp (cut O H1) a d ∧ Rp (cut O H1) b e) : YRp O H1 items i H' x H'' := by
  obtain ⟨T, a, b, rfl, hT, rfl, h1, h2⟩ := h
  obtain ⟨d, e, e1, ra, rb⟩ := hd a b h1 h2
  refine ⟨same_upd hT, _, e1, fun O' l' s' => ?_⟩
  have s2 : Same (cut O H1) (cut O' (upd H' T (.tup [a, b]))) := s'.trans (cut_mono (same_upd hT))
  exact .tup (cut_get upd_same (l'.no hT)) (.cons (Rp.mono s2 _ _ ra) (.cons (Rp.mono s2 _ _ rb) .nil))
def enD (ds : List PyData) : List PyData := (List.range ds.length).map fun (i : Nat) => PyData.tuple [.int (i : Int), ds.getD i .none]
theorem enD_length (ds : List PyData) : (enD ds).length = ds.length := by simp [enD]
theorem enD_get {ds : List PyData} {i : Nat} {d : PyData} (h : ds[i]? = some d) : (enD ds)[i]? = some (.tuple [.int (i : Int), d]) := by
  have hi : i < ds.length := (List.getElem?_eq_some_iff.mp h).1
  unfold enD
  rw [List.getElem?_map, List.getElem?_range hi]
  show some (PyData.tuple [.int (i : Int), ds.getD i .none]) = _
  rw [List.getD_eq_getElem?_getD, h]
  rfl
theorem src_enum {tA : TA} {ds : List PyData} (h : Ar tA Γ [.dat (.list ds)]) : Src (iEnum K tA) Γ (enD ds) := fun σ H O l g R q =>
  h σ H O l g _ fun vs H1 s r => by
    cases r with | cons r1 r =>
    cases r
    cases r1 with | dat r1 =>
    obtain ⟨a, xs, rfl, e, r⟩ := rp_list r1
    refine ⟨a, xs, rfl, SqL.of (cut_same _ _ _ _ e), q _ _ s ?_⟩
    rw [enD_length, ← r.length]
    refine (walk_enum (K := K) (a := a) (xs := xs)).mono (fun H' s' => SqL.of (cut_same _ _ _ _ (s' _ _ e))) fun i H' x H'' hi _ y => yPair_rp y fun b c hb hc => ?_
    obtain ⟨d, e1, e2⟩ := r.getV hc
    rw [← Option.some.inj hb]
    exact ⟨_, d, enD_get e1, .int _, e2⟩
/-- zip of two of one kind -/
def zpD (ds es : List PyData) : List PyData := (ds.zip es).map fun p => .tuple [p.1, p.2]
theorem zpD_get {ds es : List PyData} {i : Nat} {d e : PyData} (h : ds[i]? = some d) (h' : es[i]? = some e) : (zpD ds es)[i]? = some (.tuple [d, e]) := by
  unfold zpD
  rw [List.getElem?_map, (List.getElem?_zip_eq_some (z := (d, e))).mpr ⟨h, h'⟩]
  rfl
theorem zpD_length (ds es : List PyData) : (zpD ds es).length = min ds.length es.length := by simp [zpD]
theorem src_zipL {tA : TA} {ds es : List PyData} (h : Ar tA Γ [.dat (.list ds), .dat (.list es)]) : Src (RZ.iZipA K tA) Γ (zpD ds es) := fun σ H O l g R q =>
  h σ H O l g _ fun vs H1 s r => by
    cases r with | cons r1 r =>
    cases r with | cons r2 r =>
    cases r
    cases r1 with | dat r1 => cases r2 with | dat r2 =>
    obtain ⟨a, xs, rfl, e, r⟩ := rp_list r1
    obtain ⟨b, ys, rfl, e', r'⟩ := rp_list r2
    refine ⟨a, b, xs, ys, rfl, .inl ⟨SqL.of (cut_same _ _ _ _ e), SqL.of (cut_same _ _ _ _ e'), q _ _ s ?_⟩⟩
    rw [zpD_length, ← r.length, ← r'.length]
    refine (walk_zip (K := K) (a := a) (b := b) rfl).mono (fun H' s' => ⟨SqL.of (cut_same _ _ _ _ (s' _ _ e)), SqL.of (cut_same _ _ _ _ (s' _ _ e'))⟩) fun i H' x H'' hi _ y => yPair_rp y fun b c hb hc => ?_
    obtain ⟨d, e1, e2⟩ := r.getV hb
    obtain ⟨d', e1', e2'⟩ := r'.getV hc
    exact ⟨d, d', zpD_get e1 e1', e2, e2'⟩
theorem walk_zipT {a b : Addr} {xs ys : List V} {n : Nat} (hn : n = min xs.length ys.length) : Walk (RZ.ItzT K a b) n (fun H => SqT K H a xs ∧ SqT K H b ys) (YPair (fun i => xs[i]?) (fun i => ys[i]?)) := by
  subst hn
  refine ⟨fun i _ hi q => ?_, fun _ q => ⟨xs, ys, q.1, q.2, by omega⟩, fun i H v H' _ q y => ?_⟩
  · have h1 : i < xs.length := by omega
    have h2 : i < ys.length := by omega
    exact ⟨xs, ys, xs[i], ys[i], q.1, q.2, by simp [h1], by simp [h2]⟩
  · obtain ⟨T, x, z, h1, h2, h3, h4, h5⟩ := y
    exact ⟨T, x, z, h1, h2, h3, h4 xs q.1, h5 ys q.2⟩
theorem src_zipT {tA : TA} {ds es : List PyData} (h : Ar tA Γ [.dat (.tuple ds), .dat (.tuple es)]) : Src (RZ.iZipA K tA) Γ (zpD ds es) := fun σ H O l g R q =>
  h σ H O l g _ fun vs H1 s r => by
    cases r with | cons r1 r =>
    cases r with | cons r2 r =>
    cases r
    cases r1 with | dat r1 => cases r2 with | dat r2 =>
    obtain ⟨a, xs, rfl, e, r⟩ := rp_tuple r1
    obtain ⟨b, ys, rfl, e', r'⟩ := rp_tuple r2
    refine ⟨a, b, xs, ys, rfl, .inr ⟨SqT.of (cut_same _ _ _ _ e), SqT.of (cut_same _ _ _ _ e'), q _ _ s ?_⟩⟩
    rw [zpD_length, ← r.length, ← r'.length]
    refine (walk_zipT (K := K) (a := a) (b := b) rfl).mono (fun H' s' => ⟨SqT.of (cut_same _ _ _ _ (s' _ _ e)), SqT.of (cut_same _ _ _ _ (s' _ _ e'))⟩) fun i H' x H'' hi _ y => yPair_rp y fun b c hb hc => ?_
    obtain ⟨d, e1, e2⟩ := r.getV hb
    obtain ⟨d', e1', e2'⟩ := r'.getV hc
    exact ⟨d, d', zpD_get e1 e1', e2, e2'⟩
/-! ### comprehensions -/
theorem take_filter_map {p : PyData → Bool} {f : PyData → PyData} {items : List PyData} {i : Nat} {d : PyData} (h : items[i]? = some d) :
    ((items.take (i + 1)).filter p).map f = ((items.take i).filter p).map f ++ (if p d then [f d] else []) := by
  rw [List.take_add_one, h, List.filter_append, List.map_append]
  congr 1
  show (List.filter p [d]).map f = _
  rw [List.filter_cons]
  by_cases hp : p d = true
  · rw [if_pos hp, if_pos hp]; rfl
  · rw [if_neg hp, if_neg hp]; rfl
theorem n_lc {wi : TI} {g : TG} {vs js : List Nat} {items : List PyData} (Γ' : PyData → List En) (p : PyData → Bool) (f : PyData → PyData) (hs : Src wi Γ items) (hl : items.length ≤ 100000)
    (hg : ∀ d ∈ items, Tg g js d (wipeG Γ vs) (Γ' d)) (hj : ∀ j ∈ js, j ∈ vs) (ht : ∀ d ∈ items, Tt tt (Γ' d) (p d)) (he : ∀ d ∈ items, p d = true → Ed te (Γ' d) (f d)) :
    NL (tLc wi g tt te vs) Γ ((items.filter p).map f) := fun σ H O l env Q q =>
  hs σ H O l env _ fun J H1 s1 W D hD => by
    have l1 := l.mono s1
    refine lc_it W (fun i H' => Same H1 H' ∧ ∃ acc, H' D = some (.lst acc) ∧ RpAll (cut (D :: O) H') acc (((items.take i).filter p).map f)) ⟨same_upd hD, [], upd_same, .nil⟩ (fun i H' _ h => cut_mono h.1) (fun i x H' H2 hi ⟨s2, acc, eD, ra⟩ y => ?_) fun H' ⟨s2, acc, eD, ra⟩ => ?_
    · obtain ⟨s3, d, ed, hr⟩ := y
      have hm : d ∈ items := List.mem_of_getElem? ed
      have l2 : Live (D :: O) H' := (l1.mono s2).cons eD (fun _ z => nomatch z)
      have rx := hr (D :: O) l2 (cut_cons hD s2)
      have l3 := l2.mono s3
      have s13 := s2.trans s3
      have env3 : EnvOk (cut (D :: O) H2) (L2.wipe σ vs) (wipeG Γ vs) := (env.mono ((cut_mono s1).trans (cut_cons hD s13))).wipe vs
      refine hg d hm _ H2 (D :: O) x _ l3 env3 rx fun σ2 env4 hw => ⟨(hw vs hj).trans (wipe_idem σ vs), ?_⟩
      refine ht d hm σ2 H2 (D :: O) l3 env4 _ fun H3 s4 => ?_
      have hz : acc.length < sizeLine := by
        have h1 := ra.length
        rw [List.length_map] at h1
        have h2 := List.length_filter_le p (items.take i)
        have h3 : (items.take i).length ≤ items.length := by rw [List.length_take]; omega
        exact Nat.lt_of_le_of_lt (by omega : acc.length ≤ 100000) (by decide)
      cases hp : p d with
      | true =>
        rw [if_pos rfl]
        refine he d hm hp σ2 H3 (D :: O) (l3.mono s4) (env4.mono (cut_mono s4)) _ fun y H4 _ z s5 r5 => ?_
        subst z
        cases r5 with | dat r5 =>
        have s25 := (s3.trans s4).trans s5
        refine ⟨acc, s25 _ _ eD, hz, fun a o e => ?_, acc ++ [y], upd_same, ?_⟩
        · rw [upd_ne (ne_of_none e hD)]
          exact (s2.trans s25) a o e
        · rw [take_filter_map ed, if_pos hp, cut_own (by simp)]
          exact (RpAll.mono (cut_mono s25) _ _ ra).append (.cons r5 .nil)
      | false =>
        rw [if_neg (by decide)]
        refine ⟨(s2.trans s3).trans s4, acc, (s3.trans s4) _ _ eD, ?_⟩
        rw [take_filter_map ed, hp, if_neg (by decide), List.append_nil]
        exact RpAll.mono (cut_mono (s3.trans s4)) _ _ ra
    · rw [List.take_length] at ra
      exact q D H' acc (s1.free hD) (s1.trans s2) eD ra
theorem t_yes : Tt tYes Γ true := fun σ H O l g Q q => q H (Same.refl H)
/-- without a test -/
theorem n_lcm {wi : TI} {g : TG} {vs js : List Nat} {items : List PyData} (Γ' : PyData → List En) (f : PyData → PyData) (hs : Src wi Γ items) (hl : items.length ≤ 100000)
    (hg : ∀ d ∈ items, Tg g js d (wipeG Γ vs) (Γ' d)) (hj : ∀ j ∈ js, j ∈ vs) (he : ∀ d ∈ items, Ed te (Γ' d) (f d)) : NL (tLc wi g tYes te vs) Γ (items.map f) := by
  have h := n_lc (te := te) (tt := tYes) Γ' (fun _ => true) f hs hl hg hj (fun _ _ => t_yes) fun d hd _ => he d hd
  rw [List.filter_eq_self.mpr (fun _ _ => rfl)] at h
  exact h
/-! ### under a lock -/
def weak : En → En
  | .dic k => .dif k
  | .dfz k => .dif k
  | .scr _ _ => .unk
  | e => e
theorem Rp.lt {H H' : Hp} (hl : ∀ a xs, H a = some (.lst xs) → H' a = some (.lst xs)) (ht : ∀ a xs, H a = some (.tup xs) → H' a = some (.tup xs)) {v : V} {d : PyData} (h : Rp H v d) : Rp H' v d := by
  -- the part of H that is lists and tuples
  let H0 : Hp := fun a => match H a with
    | some (.lst xs) => some (.lst xs)
    | some (.tup xs) => some (.tup xs)
    | _ => none
  have h0 : ∀ a xs, H a = some (.lst xs) → H0 a = some (.lst xs) := fun a xs e => by show (match H a with | some (.lst xs) => some (HO.lst xs) | some (.tup xs) => some (.tup xs) | _ => none) = _; rw [e]
  have h1 : ∀ a xs, H a = some (.tup xs) → H0 a = some (.tup xs) := fun a xs e => by show (match H a with | some (.lst xs) => some (HO.lst xs) | some (.tup xs) => some (.tup xs) | _ => none) = _; rw [e]
  have s : Same H0 H' := fun a o e => by
    have e : (match H a with | some (.lst xs) => some (HO.lst xs) | some (.tup xs) => some (.tup xs) | _ => none) = some o := e
    split at e
    · rename_i xs q; cases e; exact hl a _ q
    · rename_i xs q; cases e; exact ht a _ q
    · cases e
  refine Rp.mono s d v ?_
  have key : ∀ v d, Rp H v d → Rp H0 v d := fun v d h => by
    refine Rp.rec (motive_1 := fun v d _ => Rp H0 v d) (motive_2 := fun vs ds _ => RpAll H0 vs ds) .non (fun b => .bl b) (fun i => .int i) (fun x => .str x) (fun e _ ih => .lst (h0 _ _ e) ih) (fun e _ ih => .tup (h1 _ _ e) ih) .nil (fun _ _ ih1 ih2 => .cons ih1 ih2) h
  exact key v d h
theorem env_lock {G : Hp} {σ : St} {a : Addr} {od : Obj} {kvs : List (Cell × V)} (ha : G a = some (.dT (kvs.map ent))) (env : EnvOk G σ Γ) : EnvOk (upd G a (.frz od (.dT (kvs.map ent)))) σ (Γ.map weak) := by
  have ne : ∀ b o, G b = some o → o ≠ .dT (kvs.map ent) → (upd G a (.frz od (.dT (kvs.map ent)))) b = some o := fun b o e n => by
    rw [upd_ne fun z => n (by rw [z, ha] at e; exact (Option.some.inj e).symm)]
    exact e
  have rd : ∀ (b : Addr) (ks : List (Cell × V)), Rd G b (.dT (ks.map ent)) → Rd (upd G a (.frz od (.dT (kvs.map ent)))) b (.dT (ks.map ent)) := fun b ks h => by
    by_cases hb : b = a
    · subst hb
      rcases h with h | ⟨o, h⟩
      · rw [ha] at h
        rw [← Option.some.inj h]
        exact .inr ⟨od, upd_same⟩
      · rw [ha] at h; cases h
    · rcases h with h | ⟨o, h⟩
      · exact .inl (by rw [upd_ne hb]; exact h)
      · exact .inr ⟨o, by rw [upd_ne hb]; exact h⟩
  induction env with
  | nil => exact .nil
  | cons h _ ih =>
    refine .cons ?_ ih
    cases h with
    | unk => exact .unk
    | some h =>
      refine .some ?_
      cases h with
      | unk => exact .unk
      | dat h => exact .dat (Rp.lt (fun b xs e => ne b _ e fun z => nomatch z) (fun b xs e => ne b _ e fun z => nomatch z) h)
      | dic h => exact .dif (rd _ _ (.inl h))
      | dif h => exact .dif (rd _ _ h)
      | dfz h => exact .dif (rd _ _ (.inr ⟨_, h⟩))
      | scr h => exact .unk
      | ptr => exact .ptr
theorem EnvOk.put {G : Hp} {σ : St} {v : V} {e : En} {i : Nat} (env : EnvOk G σ Γ) (hi : σ[i]? = some (some v)) (h : Er G v e) : EnvOk G σ (Γ.set i e) := by
  have z := env.set h i
  have e : σ.set i (some v) = σ := by
    apply List.ext_getElem?
    intro j
    by_cases hj : i = j
    · subst hj
      rw [List.getElem?_set, if_pos rfl, if_pos (List.getElem?_eq_some_iff.mp hi).1, hi]
    · rw [List.getElem?_set_ne hj]
  rw [e] at z
  exact z
theorem cut_upd {O : List Addr} {H : Hp} {a : Addr} {o : HO} (h : a ∉ O) : cut O (upd H a o) = upd (cut O H) a o := by
  funext b
  by_cases e : b = a
  · subst e
    rw [upd_same]
    exact cut_get upd_same h
  · rw [upd_ne e]
    unfold cut
    rw [upd_ne e]
abbrev lockG (Γ : List En) (i : Nat) (kvs : List (Cell × V)) : List En := (Γ.map weak).set i (.dfz kvs)
/-- what a lock at slot i does to a state -/
theorem lock_in {σ : St} {H : Hp} {O : List Addr} {i : Nat} {kvs : List (Cell × V)} (l : Live O H) (env : EnvOk (cut O H) σ Γ) (hi : Γ[i]? = some (.dic kvs)) :
    ∃ a, H a = some (.dT (kvs.map ent)) ∧ a ∉ O ∧ ∀ od, Live O (upd H a (.frz od (.dT (kvs.map ent)))) ∧ EnvOk (cut O (upd H a (.frz od (.dT (kvs.map ent))))) σ (lockG Γ i kvs) := by
  obtain ⟨v, e1, e2⟩ := env.get hi fun z => nomatch z
  cases e2 with | @dic a _ e2 =>
  have na : a ∉ O := fun z => by unfold cut at e2; rw [if_pos z] at e2; cases e2
  refine ⟨a, cut_same _ _ _ _ e2, na, fun od => ⟨l.upd (fun _ z => nomatch z), ?_⟩⟩
  rw [cut_upd na]
  exact (env_lock e2 env).put e1 (.dfz upd_same)
/-- back from under the lock: what holds of lists and tuples holds on -/
theorem lock_rp {O : List Addr} {H : Hp} {a : Addr} {od : Obj} {u : HO} {v : V} {d : PyData} (ha : H a = some (.frz od u)) (h : Rp (cut O H) v d) : Rp (cut O (upd H a u)) v d := by
  have ne : ∀ b o, cut O H b = some o → o ≠ .frz od u → cut O (upd H a u) b = some o := fun b o e n => by
    unfold cut at e ⊢
    split at e
    · cases e
    · rename_i hb
      rw [if_neg hb, upd_ne fun z => n (by rw [z, ha] at e; exact (Option.some.inj e).symm)]
      exact e
  exact Rp.lt (fun b xs e => ne b _ e fun z => nomatch z) (fun b xs e => ne b _ e fun z => nomatch z) h
theorem lock_rpAll {O : List Addr} {H : Hp} {a : Addr} {od : Obj} {u : HO} (ha : H a = some (.frz od u)) : ∀ {ds : List PyData} {vs : List V}, RpAll (cut O H) vs ds → RpAll (cut O (upd H a u)) vs ds
  | _, _, .nil => .nil
  | _, _, .cons h t => .cons (lock_rp ha h) (lock_rpAll ha t)
theorem lock_same {H H2 : Hp} {a : Addr} {od : Obj} {u : HO} (ha : H a = some u) (s : Same (upd H a (.frz od u)) H2) : Same H (upd H2 a u) := fun b o e => by
  by_cases hb : b = a
  · subst hb
    rw [ha] at e
    rw [upd_same]
    exact e
  · rw [upd_ne hb]
    exact s _ _ (by rw [upd_ne hb]; exact e)
theorem n_lock {i : Nat} {kvs : List (Cell × V)} {ds : List PyData} (h : NL te (lockG Γ i kvs) ds) (hi : Γ[i]? = some (.dic kvs) := by rfl) : NL (tLockE te) Γ ds := fun σ H O l env Q q => by
  obtain ⟨a, ha, na, k⟩ := lock_in l env hi
  refine ⟨a, _, ha, trivial, fun od => ?_⟩
  obtain ⟨l1, env1⟩ := k od
  refine h σ _ O l1 env1 _ fun p H2 xs n s e r => ?_
  have h2 := s _ _ (upd_same (H := H) (a := a) (o := .frz od (.dT (kvs.map ent))))
  have np : p ≠ a := fun z => by rw [z, upd_same] at n; cases n
  refine ⟨h2, q p _ xs ?_ (lock_same ha s) (by rw [upd_ne np]; exact e) (lock_rpAll h2 r)⟩
  rw [upd_ne np] at n
  exact n
/-! ### statements over a state with owned objects -/
theorem for_src {wi : TI} {g : TG} {tb : TS} {D : Ends} {σ : St} {H : Hp} {O : List Addr} {items : List PyData} (hs : Src wi Γ items) (l : Live O H) (env : EnvOk (cut O H) σ Γ)
    (k : ∀ H1, Same H H1 → ∃ Pv : Nat → St → Hp → Prop, Pv 0 σ H1 ∧ (∀ i σ' H', i ≤ items.length → Pv i σ' H' → Same (cut O H1) (cut O H')) ∧
      (∀ i d x σ' H' H'', items[i]? = some d → Pv i σ' H' → Same H' H'' → (∀ O', Live O' H' → Same (cut O H1) (cut O' H') → Rp (cut O' H'') x d) → g x σ' H'' fun σ2 H2 => tb { D with nx := Pv (i + 1), ct := Pv (i + 1), bk := D.nx } σ2 H2) ∧
      (∀ σ' H', Pv items.length σ' H' → D.nx σ' H')) : tFor wi g tb D σ H := hs σ H O l env _ fun J H1 s1 W => by
  obtain ⟨Pv, h0, hG, ht, hd⟩ := k H1 s1
  refine for_it W Pv h0 hG (fun i x σ' H' H'' hi p y => ?_) hd
  obtain ⟨s3, d, ed, hr⟩ := y
  exact ht i d x σ' H' H'' ed p s3 hr
/-- all but p stands -/
def But (p : Addr) (H H' : Hp) : Prop := ∀ b o, b ≠ p → H b = some o → H' b = some o
theorem But.cut {p : Addr} {H H' : Hp} {O : List Addr} (b : But p H H') (hp : p ∈ O) : Same (KV.cut O H) (KV.cut O H') := fun a o e => by
  unfold KV.cut at e ⊢
  split at e
  · cases e
  · rename_i h
    rw [if_neg h]
    exact b a o (fun z => h (z ▸ hp)) e
theorem But.of {p : Addr} {H H1 : Hp} {o : HO} (s : Same H H1) : But p H (upd H1 p o) := fun b o' n e => by
  rw [upd_ne n]
  exact s _ _ e
theorem But.trans {p : Addr} {H H1 H2 : Hp} (a : But p H H1) (b : But p H1 H2) : But p H H2 := fun c o n e => b c o n (a c o n e)
theorem But.same {p : Addr} {H H1 H2 : Hp} (a : Same H H1) (b : But p H1 H2) : But p H H2 := fun c o n e => b c o n (a c o e)
theorem Live.but {p : Addr} {H H' : Hp} {O : List Addr} (l : Live O H) (b : But p H H') (h : ∃ o, H' p = some o ∧ ∀ xs, o ≠ .tup xs) : Live O H' := fun q hq => by
  by_cases e : q = p
  · subst e; exact h
  · obtain ⟨o, e1, n⟩ := l q hq
    exact ⟨o, b q o e e1, n⟩
section
variable {D : Ends} {σ : St} {H : Hp} {O : List Addr} {tz : TS}
/-- x = e -/
theorem s_asg {i : Nat} {Φ : En → Prop} (l : Live O H) (env : EnvOk (cut O H) σ Γ) (h : Es te Γ Φ) (k : ∀ v H1 e, Φ e → Same H H1 → Live O H1 → EnvOk (cut O H1) (σ.set i (some v)) (Γ.set i e) → Er (cut O H1) v e → tz D (σ.set i (some v)) H1) : tSeq (tAsg te (gName i)) tz D σ H :=
  h σ H O l env _ fun v H1 e z s r => k v H1 e z s (l.mono s) ((env.mono (cut_mono s)).set r i) r
/-- x = a new list -/
theorem s_new {i : Nat} {ds : List PyData} (l : Live O H) (env : EnvOk (cut O H) σ Γ) (h : NL te Γ ds) (k : ∀ p H1 xs, H p = none → Same H H1 → H1 p = some (.lst xs) → RpAll (cut (p :: O) H1) xs ds → Live (p :: O) H1 → EnvOk (cut (p :: O) H1) (σ.set i (some (.ref p))) (Γ.set i (.ptr p)) → tz D (σ.set i (some (.ref p))) H1) : tSeq (tAsg te (gName i)) tz D σ H :=
  h σ H O l env _ fun p H1 xs n s e r => k p H1 xs n s e r ((l.mono s).cons e fun _ z => nomatch z) ((env.mono (cut_cons n s)).set .ptr i)
theorem s_newD {i : Nat} {kvs : List (Cell × V)} (l : Live O H) (env : EnvOk (cut O H) σ Γ) (h : ND te Γ kvs) (k : ∀ p H1, H p = none → Same H H1 → H1 p = some (.dT (kvs.map ent)) → Live (p :: O) H1 → EnvOk (cut (p :: O) H1) (σ.set i (some (.ref p))) (Γ.set i (.ptr p)) → tz D (σ.set i (some (.ref p))) H1) : tSeq (tAsg te (gName i)) tz D σ H :=
  h σ H O l env _ fun p H1 n s e => k p H1 n s e ((l.mono s).cons e fun _ z => nomatch z) ((env.mono (cut_cons n s)).set .ptr i)
/-- p.append(d), p owned -/
theorem s_app {to : TE} {p : Addr} {xs : List V} {ds : List PyData} {d : PyData} (l : Live O H) (env : EnvOk (cut O H) σ Γ) (hp : p ∈ O) (eP : H p = some (.lst xs)) (r : RpAll (cut O H) xs ds) (ho : E to Γ (.ptr p)) (he : Ed te Γ d) (hl : ds.length < 100000)
    (k : ∀ H1 v, But p H H1 → H1 p = some (.lst (xs ++ [v])) → RpAll (cut O H1) (xs ++ [v]) (ds ++ [d]) → D.nx σ H1) : tDrop (tBM K "list" rAppend to (tCons te tNil)) D σ H :=
  ho σ H O l env _ fun v H1 _ z s1 r1 => by
    subst z
    cases r1
    refine ⟨.inl ⟨rfl, xs, SqL.of (s1 _ _ eP)⟩, ?_⟩
    refine he σ H1 O (l.mono s1) (env.mono (cut_mono s1)) _ fun y H2 _ z s2 r2 => ?_
    subst z
    cases r2 with | dat r2 =>
    refine ⟨p, xs, y, rfl, rfl, s2 _ _ (s1 _ _ eP), Nat.lt_of_lt_of_le (by rw [r.length]; exact hl) (by decide), k _ y (But.of (s1.trans s2)) upd_same ?_⟩
    rw [cut_own hp]
    exact (RpAll.mono (cut_mono (s1.trans s2)) _ _ r).append (.cons r2 .nil)
end
end KV
/-! KRul -/
set_option Elab.async false
set_option linter.all false
set_option maxRecDepth 100000
set_option maxHeartbeats 4000000
/-! rules that the layer lacks: enumerate(tuple), dict(pairs) by cells, list(d.values()), sorted(d) -/
namespace KR
open PySem L2 PyProof.Rows
open AutoSeq1 (wpAny_loadPart')
/-! ### enumerate(t), t a tuple -/
theorem meets_enT {v : Value} {o : Obj} {G : Heap → Prop} (B : Begins v o G) :
    Meets (Builtin.«enumerate.__new__» ⟨[.type "enumerate", v], []⟩) (fun _ R s => G s.heap ∧ R (.ok (.ret (.ref (s.heap.push o).objs.size)))
      { s with heap := (s.heap.push o).push { cls := .type "enumerate", data := .fields #[.none, .bool false, .ref s.heap.objs.size, rawInt 0, .none, .none] } }) :=
  .of_wp fun prog w A R s q => by
    obtain ⟨hp, gs, dr, tk, os⟩ := s
    obtain ⟨g1, q⟩ := q
    have su := sub_enumerate
    have it1 : ∀ {A' : Around} {E Q : Value → Shared → Prop}, Q (.ref hp.objs.size) ⟨hp.push o, gs, dr, tk, os⟩ → wpAny (model prog w) A' (pyIter v) Q E ⟨hp, gs, dr, tk, os⟩ := fun z => B.iter prog w _ _ ⟨hp, gs, dr, tk, os⟩ _ g1 z
    wp_walk using it1
    refine wpAny_stack_any fun _ => wpAny_pure ?_
    split
    · rename_i c _ _ _ _ _
      cases (c == Value.type "enumerate") <;> (wp_walk using it1; exact ⟨_, rfl, q⟩)
    · wp_walk using it1
      exact ⟨_, rfl, q⟩
section
variable {prog : Program} {w : World} {A : Around} {E : Value → Shared → Prop} {s : Shared}
theorem enT_call {v : Value} {o : Obj} {G : Heap → Prop} {Q : Value → Shared → Prop} (B : Begins v o G) (g1 : G s.heap)
    (k : ∀ h', IsEnum h' (s.heap.objs.size + 1) s.heap.objs.size 0 .none → h'.get? s.heap.objs.size = some o → (∀ b u, s.heap.get? b = some u → h'.get? b = some u) → Q (.ref (s.heap.objs.size + 1)) { s with heap := h' }) :
    wpAny (model prog w) A (call (.type "enumerate") [v]) Q E s := by
  refine callType_new F.called_enumerate (by decide) (F.typeCall_enumerate_1 _) (F.newCall_enumerate_1 _) (fun x => F.args_object_init_2 x _) F.entry_enumerate_new (meets_enT B) ⟨g1, ?_⟩
  have sz : (s.heap.push o).objs.size = s.heap.objs.size + 1 := Heap.size_push ..
  have en := Heap.get?_push_size (s.heap.push o) (o := { cls := .type "enumerate", data := .fields #[.none, .bool false, .ref s.heap.objs.size, rawInt 0, .none, .none] }) rfl
  rw [sz] at en
  show _ ∧ _
  rw [sz]
  exact ⟨⟨_, en, rfl⟩, k _ en (Heap.get?_push_of_some _ (Heap.get?_push_size _ B.free)) fun b u z => Heap.get?_push_of_some _ (Heap.get?_push_of_some _ z)⟩
end
/-- the tuple at a, each item in a new pair with its place -/
def ItU (K : PySem.W.Frag) (a : Addr) : It :=
  ⟨fun i H => ∃ (zs : List V) (x : V), SqT K H a zs ∧ zs[i]? = some x, fun i H v H' => ∃ T x, v = .ref T ∧ H T = none ∧ H' = upd H T (.tup [.int (i : Nat), x]) ∧ ∀ zs, SqT K H a zs → zs[i]? = some x, fun i H => ∃ zs : List V, SqT K H a zs ∧ zs.length ≤ i⟩
theorem turn_enT {P : Program} {w : World} {K : PySem.W.Frag} {els : List Expr} {kk : Nat} {tp : Pos} (a e it : Addr) :
    Turn P w K (.Tuple els kk tp) (ItU K a) [e, it] e (fun i h => (∃ old, IsEnum h e it ((i : Nat) : Int) old) ∧ h.IsTupleIter it a i ∧ e ≠ it ∧ a ≠ it ∧ a ≠ e) where
  mem := by simp
  obj := fun i h st b hb => by
    obtain ⟨⟨old, he⟩, ⟨o, ho, hc, hd⟩, _⟩ := st
    rcases (show b = e ∨ b = it by simpa using hb) with z | z <;> rw [z]
    · exact ⟨_, he, fun _ q => nomatch q⟩
    · exact ⟨o, ho, fun _ q => by rw [hd] at q; cases q⟩
  keep := fun i h h' st k => by
    obtain ⟨⟨old, he⟩, hi, r⟩ := st
    exact ⟨⟨old, k e (by simp) _ he⟩, hi.at fun o q => k it (by simp) o q, r⟩
  item := by
    intro X p1 p2 p3 hc i pins s σ H E I hf st hg
    subst p1 p2 p3
    obtain ⟨⟨old, he⟩, hit, n1, n2, n3⟩ := st
    obtain ⟨zs, x, hq, hx⟩ := hg
    obtain ⟨its, rv, ht, hz⟩ := I.tuple hq
    obtain ⟨u, hu, ru⟩ := rv.get hx
    have le : e < s.heap.objs.size := Heap.lt_size he
    have li : it < s.heap.objs.size := by obtain ⟨_, q, _⟩ := hit; exact Heap.lt_size q
    have hi : i < its.toArray.size := by
      have := (List.getElem?_eq_some_iff.mp hu).1
      simpa using this
    refine wpAny_pyNext_enum_itemD (Draws.tuple (A := X.A.in1) (I.ok.hd hc) it a n2 its.toArray) he ⟨hit, ht⟩ hi n1 (by simp only [List.mem_cons, List.not_mem_nil, or_false, not_or]; exact ⟨n1, fun z => n3 z.symm⟩) fun y h' tk hy ho hs hT hsz hk => ?_
    have ey : y = u := by
      have hy : its.toArray[i]? = some y := hy
      rw [List.getElem?_toArray, hu] at hy
      exact (Option.some.inj hy).symm
    subst ey
    refine ⟨_, rfl, wpAny_letOwnedTupleGo_enum (s := { s with heap := h', toks := tk + 1 }) ho fun h'' he' sb => ?_⟩
    have hT2 : h''.get? s.heap.objs.size = some { cls := .type "tuple", data := .seq #[.int i tk, y] } := (sb.2 _ (Nat.ne_of_gt le)).trans hT
    have new : ObjOk X.prog X.w (upd H s.heap.objs.size (.tup [.int (i : Nat), x])) h'' s.heap.objs.size (.tup [.int (i : Nat), x]) :=
      ⟨by show 2 ≤ sizeLine; decide, [.int i tk, y], .cons ⟨_, rfl⟩ (.cons ru .nil), ⟨_, hT2, rfl, _, rfl⟩⟩
    have I1 : Inv X pins σ (upd H s.heap.objs.size (.tup [.int (i : Nat), x])) { s with heap := h'', toks := tk + 1 } :=
      I.turnedNew (ch := [e, it]) (fun b ob hb q => (sb.2 b (fun z => hb (by simp [z]))).trans (hk b ob (fun z => hb (by simp [z])) (fun z => hb (by simp [z])) q)) hf (Nat.le_refl _) new
    refine ⟨.ref s.heap.objs.size, _, I1, rfl, ⟨_, x, rfl, I.hok.fresh (Nat.le_refl _), rfl, fun ys hy => by rw [I.tuple_inj hy hq]; exact hx⟩, ⟨⟨y, ?_⟩, hs.1.at fun o q => (sb.2 it (Ne.symm n1)).trans q, n1, n2, n3⟩, fun b hb => ?_⟩
    · rw [show ((i + 1 : Nat) : Int) = (i : Int) + 1 by omega]
      exact he'
    · have lb : b < s.heap.objs.size := by
        rcases (show b = e ∨ b = it by simpa using hb) with z | z <;> rw [z]
        · exact le
        · exact li
      rw [upd_ne (Nat.ne_of_lt lb)]
      exact (hf b hb).1
  done := by
    intro X p1 p2 p3 hc i pins s σ H E I hf st hg
    subst p1 p2 p3
    obtain ⟨⟨old, he⟩, hit, n1, n2, n3⟩ := st
    obtain ⟨zs, hq, hx⟩ := hg
    obtain ⟨its, rv, ht, hz⟩ := I.tuple hq
    obtain ⟨f0, f1, f2, f3, f4, f5⟩ := hf it (by simp)
    have hl := rv.length
    refine PySem.wpAny_pyNext_enum_endD (n := i) (P := fun _ _ => True) (St := fun j h => j = i ∧ h.IsTupleIter it a i ∧ h.IsTuple a its.toArray) (fp := [it, a]) ⟨fun j h z => let ⟨o, ho, _⟩ := z.2.1; ⟨o, ho⟩, fun j h h' z k => ⟨z.1, z.2.1.at fun o q => k it (by simp) o q, z.2.2.at fun o q => k a (by simp) o q⟩, fun j s' Q' E' hj z => absurd z.1 (Nat.ne_of_lt hj), fun s' Q' E' z hE => ?_⟩ he ⟨rfl, hit, ht⟩ fun h' eb => ⟨rfl, I.turned (t' := s.toks) (fun b o hb q => eb b o hb q) f0 f1 f3 f4 f5⟩
    exact wpAny_nextOf_tuple_end (I.ok.hd hc) z.2.1 z.2.2 (by simp; omega) hE
  self := fun A i s Q E st h => let ⟨⟨_, he⟩, _⟩ := st; wpAny_pyIter_enum he h
def iEnT (K : PySem.W.Frag) (ta : TA) : TI := fun σ H R => ta σ H fun vs H1 => ∃ a zs, vs = [.ref a] ∧ SqT K H1 a zs ∧ R (ItU K a) H1
theorem pi_enT {X : Cx} {e : Expr} {ta : TA} {p pos tp : Pos} {els : List Expr} {kk : Nat} (hg : Gl X "enumerate") (hm : X.mg "enumerate" = none) (ha : PA X [e] ta) (hs : starEach [e] X.env = [(false, eval e X.env)] := by rfl) :
    PI X (.Tuple els kk tp) (.Call (.Name "enumerate" p) [e] [] pos) (iEnT X.K ta) := by
  refine ⟨fun pins s σ H R I h => Call_ (ld_blt I hg hm boot_enumerate (PyProof.Rows.callWith_type1 (thn (ha.run pos pins s σ H _ I h) fun us s1 ⟨vs, H1, I1, r1, q1⟩ => ?_) hs rfl))⟩
  obtain ⟨a, zs, ex, hq, q⟩ := q1
  subst ex
  obtain ⟨u, rfl, rx⟩ := vals1 r1
  cases rx
  obtain ⟨its, rv, ht, hz⟩ := I1.tuple hq
  have hs1 := ht
  refine enT_call (begins_tuple a its.toArray) ht fun h' he hit hk => wpAny_pyIter_enum he ?_
  have I2 : Inv X pins σ H1 { s1 with heap := h' } := I1.kept (t' := s1.toks) hk
  have la : a < s1.heap.objs.size := by obtain ⟨o, q, _⟩ := hs1; exact Heap.lt_size q
  refine ⟨s1.heap.objs.size + 1, [s1.heap.objs.size + 1, s1.heap.objs.size], _, _, H1, rfl, I2, turn_enT a (s1.heap.objs.size + 1) s1.heap.objs.size, ⟨⟨.none, he⟩, ⟨_, hit, rfl, rfl⟩, Nat.succ_ne_self _, Nat.ne_of_lt la, Nat.ne_of_lt (Nat.lt_succ_of_lt la)⟩, fun b hb => ?_, q⟩
  have hle : s1.heap.objs.size ≤ b := by
    rcases (show b = s1.heap.objs.size + 1 ∨ b = s1.heap.objs.size by simpa using hb) with z | z <;> rw [z]
    · exact Nat.le_add_right _ _
    · exact Nat.le_refl _
  exact I1.fpOk hle (I1.hok.fresh hle)
end KR
/-! KRul2 -/
set_option Elab.async false
set_option linter.all false
set_option maxRecDepth 100000
set_option maxHeartbeats 4000000
namespace KR
open PySem L2 KV
open PyProof.Rows (IsTup)
section
variable {X : Cx} {pins : List (Addr × Obj)} {σ : St} {H : Hp} {s : Shared}
/-! ### dict(ps), keys that are tuples -/
/-- one pair: its own address, its key's, key, value -/
abbrev Pr := Addr × Addr × List Key × V
def pairT (K : PySem.W.Frag) (H : Hp) (t : Pr) : Prop := SqT K H t.1 [.ref t.2.1, t.2.2.2] ∧ H t.2.1 = some (.tup (t.2.2.1.map kV))
def mergeT (L : List Pr) : List (List Key × V) := L.foldl (fun acc t => putK acc t.2.2.1 t.2.2.2) []
theorem pairs_at (I : Inv X pins σ H s) : ∀ (L : List Pr), (∀ t ∈ L, pairT X.K H t) → ∃ xs : List (List Key × Addr × Value), KT H (L.map fun t => t.2.2) xs ∧ (∀ x ∈ xs, ∃ ks, H x.2.1 = some (.tup (ks.map kV)) ∧ x.1 = ks) ∧
    ∀ (j : Nat) (q : List Key × Addr × Value), xs[j]? = some q → ∃ t, L[j]? = some t ∧ t.2.1 = q.2.1 ∧ IsTup s.heap t.1 #[.ref q.2.1, q.2.2]
  | [], _ => ⟨[], .nil, fun x hx => by simp at hx, fun j q e => by simp at e⟩
  | t :: L, h => by
    obtain ⟨xs, r, hk, hx⟩ := pairs_at I L fun u hu => h u (List.mem_cons_of_mem _ hu)
    obtain ⟨h1, h2⟩ := h t (List.mem_cons_self ..)
    obtain ⟨its, rv, ht, _⟩ := I.tuple h1
    obtain ⟨u1, u2, ei, r1, r2⟩ := vals2 rv
    cases r1
    subst ei
    refine ⟨(t.2.2.1, t.2.1, u2) :: xs, .cons ⟨rfl, h2, r2⟩ r, fun x hxm => ?_, fun j q e => ?_⟩
    · rcases List.mem_cons.mp hxm with z | z
      · subst z; exact ⟨_, h2, rfl⟩
      · exact hk x z
    · cases j with
      | zero =>
        have e := Option.some.inj e
        subst e
        exact ⟨t, rfl, rfl, ht⟩
      | succ j =>
        obtain ⟨t', e1, e2⟩ := hx j q (by simpa using e)
        exact ⟨t', by simpa using e1, e2⟩
theorem kt_merge : ∀ (L : List (List Key × V)) (xs : List (List Key × Addr × Value)) (acc : List (List Key × V)) (ys : List (List Key × Addr × Value)), KT H L xs → KT H acc ys →
    KT H (L.foldl (fun a t => putK a t.1 t.2) acc) (PySem.storedAllH ys xs)
  | [], [], acc, ys, _, r => r
  | [], _ :: _, acc, ys, h, r => nomatch h
  | _ :: _, [], acc, ys, h, r => nomatch h
  | p :: L, q :: xs, acc, ys, .cons h t, r => by
    obtain ⟨h1, h2, h3⟩ := h
    have z : KT H (putK acc p.1 p.2) (PySem.storedH ys q.1 q.2.1 q.2.2) := by
      have z := KT.put r p.1 h2 h3
      rw [h1] at z ⊢
      exact z
    exact kt_merge L xs _ _ t z
theorem putK_len {kvs : List (List Key × V)} {k : List Key} {v : V} : (putK kvs k v).length ≤ kvs.length + 1 := by
  unfold putK
  split
  · rw [List.length_map]; omega
  · simp
theorem mergeT_len (L : List Pr) : (mergeT L).length ≤ L.length := by
  have z : ∀ (L : List Pr) (acc : List (List Key × V)), (L.foldl (fun acc t => putK acc t.2.2.1 t.2.2.2) acc).length ≤ acc.length + L.length := by
    intro L
    induction L with
    | nil => intro acc; exact Nat.le_refl _
    | cons t L ih =>
      intro acc
      have a := ih (putK acc t.2.2.1 t.2.2.2)
      have b := putK_len (kvs := acc) (k := t.2.2.1) (v := t.2.2.2)
      rw [List.foldl_cons, List.length_cons]
      omega
  have q := z L []
  simp only [List.length_nil, Nat.zero_add] at q
  exact q
def rDictT (K : PySem.W.Frag) : List V → Hp → VK → Prop := fun vs H Q => ∃ (a : Addr) (L : List Pr), vs = [.ref a] ∧ SqL K H a (L.map fun t => V.ref t.1) ∧ (∀ t ∈ L, pairT K H t) ∧ ∀ p, H p = none → Q (.ref p) (upd H p (.dT (mergeT L)))
theorem call_dictT (hc : X.calm = true) (hu : X.A.units + 64 < cLine) : CallR X (.type "dict") (rDictT X.K) := by
  intro pins s σ H vs us Q I r h
  obtain ⟨a, L, rfl, hq, hp, q⟩ := h
  rw [Vals.ref1 r]
  obtain ⟨its, rv, pl, hz⟩ := I.list hq
  have ei : its = (L.map fun t => t.1).map Value.ref := refs_at (ps := L.map fun t => t.1) (by rw [List.map_map]; exact rv)
  obtain ⟨xs, kt, hks, hx⟩ := pairs_at I L hp
  have hl : xs.length = L.length := by
    have z : (L.map fun t => t.2.2).length = xs.length := Paired.length kt
    rw [List.length_map] at z
    exact z.symm
  rw [List.length_map] at hz
  have szi : its.toArray.size = L.length := by rw [List.size_toArray, ei]; simp
  refine PySem.call_dict_pairsH (knd := tupleKind (mixKind X.prog X.w)) (ps := xs) (PySem.PairArg.list a its.toArray (fun j => (L.map fun t => t.1).getD j 0) (xs.map fun x => (Value.ref x.2.1, x.2.2))) (I.ok.hd hc) (by show X.A.units + 1 + 1 < cLine; omega)
    ⟨?_, ?_, fun j k v e => ?_⟩ ⟨by simp, fun i key v e => ?_⟩ (fun h' keep x hxm => ?_) (by simp only [List.length_map]; omega) fun h' tk dd keep => ?_
  · obtain ⟨o, n, ho, c1, c2, c3⟩ := pl
    exact ⟨o, n, ho, c1, c2, c3⟩
  · rw [szi, List.length_map, hl]
  · rw [List.getElem?_map] at e
    cases hj : xs[j]? with
    | none => rw [hj] at e; cases e
    | some x =>
      rw [hj] at e
      obtain ⟨t, e1, e2, e3⟩ := hx j x hj
      have e4 := Option.some.inj e
      obtain ⟨rfl, rfl⟩ := Prod.mk.inj e4
      refine ⟨?_, .inl ?_⟩
      · rw [List.getElem?_toArray, ei, List.getElem?_map, List.getElem?_map, e1]
        show some (Value.ref t.1) = some (Value.ref ((L.map fun t => t.1).getD j 0))
        rw [List.getD_eq_getElem?_getD, List.getElem?_map, e1]
        rfl
      · show s.heap.IsTuple ((L.map fun t => t.1).getD j 0) _
        rw [List.getD_eq_getElem?_getD, List.getElem?_map, e1]
        exact e3
  · have e : (xs.map fun x => (Value.ref x.2.1, x.2.2))[i]? = some (key, v) := e
    rw [List.getElem?_map] at e
    cases hj : xs[i]? with
    | none => rw [hj] at e; cases e
    | some x =>
      rw [hj] at e
      obtain ⟨e1, e2⟩ := Prod.mk.inj (Option.some.inj e)
      exact ⟨x.1, x.2.1, by rw [← e2], e1.symm⟩
  · obtain ⟨ks, e1, e2⟩ := hks x hxm
    obtain ⟨o, arr, n, k1, k2, k3, k4⟩ := key_of (P := X.prog) (w := X.w) I.hok e1
    subst e2
    exact ⟨o, arr, n, keep _ _ (Nat.ne_of_lt (Heap.lt_size k1)) (by simp) k1, k2, k3, k4⟩
  · have nm : (s.heap.objs.size == sysModules) = false := beq_eq_false_iff_ne.mpr (Nat.ne_of_gt I.big)
    have fresh := I.hok.fresh (Nat.le_refl s.heap.objs.size)
    obtain ⟨o, es, ep, d1, d2, d3, d4, d5, d6⟩ := dd
    have km : KT H (mergeT L) (PySem.storedAllH [] xs) := by
      have z := kt_merge (H := H) (L.map fun t => t.2.2) xs [] [] kt .nil
      rw [List.foldl_map] at z
      exact z
    exact ⟨.ref s.heap.objs.size, _, I.laid (t' := tk) (fun b u e => keep b u (by simp) e) (Nat.le_refl _) (o := .dT (mergeT L)) ⟨Nat.le_trans (mergeT_len L) hz, nm, _, km.keeps (fun b ys e => by rw [upd_ne (ne_of_none e fresh)]; exact e), o, es, ep, d1, d2, d3, d4, d6⟩, rfl, q _ fresh⟩
/-! ### list(d.values()) -/
def valsO (p d : Addr) : HO := .ext fun h => h.IsValuesView p d
def rValsT : V → List V → Hp → VK → Prop := fun x xs H Q => ∃ (a : Addr) (kvs : List (List Key × V)), x = .ref a ∧ xs = [] ∧ H a = some (.dT kvs) ∧ ∀ p, H p = none → Q (.ref p) (upd H p (valsO p a))
theorem mt_valsT : MtR X "dict.values" rValsT := by
  intro pins s σ H x xs v us Q I rx rxs h
  obtain ⟨a, kvs, rfl, rfl, ha, q⟩ := h
  cases rx
  cases rxs
  obtain ⟨z, hd, ys, rel, o, es, ep, ho, hx, hdat, _⟩ := dt_of I.hok ha
  have raw : s.heap.DictRaw a es ep := ⟨o, ho, hx, hdat⟩
  refine call_meetsIn PySem.F.slot_dict_values raw.typeIs PySem.F.entry_dict_values (PySem.F.args_dict_values_1 _) (meets_dict_values_raw a hd) ⟨⟨es, ep, raw⟩, ?_⟩
  have ne := Heap.get?_push_size s.heap (o := { cls := .type "dict_values", data := .fields #[.ref a] }) rfl
  exact ⟨.ref s.heap.objs.size, upd H s.heap.objs.size (valsO s.heap.objs.size a), I.laid (t' := s.toks) (fun b u e => Heap.get?_push_of_some _ e) (Nat.le_refl _) ⟨⟨_, ne, rfl, rfl⟩, ⟨_, ne⟩, fun h1 h2 x k => let ⟨o, ho, r⟩ := x; ⟨o, k o ho, r⟩⟩, rfl, q _ (I.hok.fresh (Nat.le_refl _))⟩
def rListV : List V → Hp → VK → Prop := fun vs H Q => ∃ (p d : Addr) (kvs : List (List Key × V)), vs = [.ref p] ∧ H p = some (valsO p d) ∧ H d = some (.dT kvs) ∧ ∀ l, H l = none → Q (.ref l) (upd H l (.lst (kvs.map (·.2))))
theorem kt_vals : ∀ {kvs : List (List Key × V)} {ks : List (List Key × Addr × Value)}, KT H kvs ks → Vals (kvs.map (·.2)) (ks.map fun x => x.2.2)
  | [], [], _ => .nil
  | [], _ :: _, h => nomatch h
  | _ :: _, [], h => nomatch h
  | _ :: _, _ :: _, .cons h t => .cons h.2.2 (kt_vals t)
theorem call_listV (hc : X.calm = true) : CallR X (.type "list") rListV := by
  intro pins s σ H vs us Q I r h
  obtain ⟨p, d, kvs, rfl, hp, hd, q⟩ := h
  rw [Vals.ref1 r]
  obtain ⟨z, ns, ks, pr, o, es, ep, ho, hx, hdt, he, _, hn⟩ := dt_of I.hok hd
  have l1 : es.size = ks.length := by
    have q := congrArg List.length he
    rw [Array.length_toList, List.length_map] at q
    exact q
  have l2 : kvs.length = ks.length := Paired.length pr
  have hv : s.heap.IsValuesView p d := (show ObjOk X.prog X.w H s.heap p (valsO p d) from I.hok p _ hp).1
  refine PySem.W.kdl_call (PySem.KdlSrc.rawValues (es := es) (ep := ep) (d := d)) (I.ok.hd hc) ⟨hv, ⟨o, ho, hx, hdt⟩⟩ (by omega) fun h' tk acc c kp e it => ?_
  have rv : Vals (kvs.map (·.2)) acc.toList := by
    have hal : acc.toList = ks.map fun x => x.2.2 := by
      apply List.ext_getElem?
      intro j
      rw [List.getElem?_map]
      by_cases hj : j < ks.length
      · have hj' : j < es.size := by omega
        have ha : j < acc.size := by rw [it.1]; exact hj'
        have e1 : acc.toList[j]? = some acc[j] := by rw [Array.getElem?_toList]; exact Array.getElem?_eq_getElem ha
        obtain ⟨hi, hv⟩ := it.2 j acc[j] (Array.getElem?_eq_getElem ha)
        have e2 := PySem.entry_at he j
        rw [Array.getElem?_eq_getElem hi, List.getElem?_eq_getElem hj] at e2
        rw [e1, List.getElem?_eq_getElem hj, hv, Option.some.inj e2]
        rfl
      · have la : acc.toList.length = ks.length := by rw [Array.length_toList, it.1]; exact l1
        rw [List.getElem?_eq_none (by omega), List.getElem?_eq_none (by omega)]
        rfl
    rw [hal]
    exact kt_vals pr
  exact ⟨.ref s.heap.objs.size, _, I.laid (t' := tk) (o := .lst (kvs.map (·.2))) kp (Nat.le_refl _) ⟨by rw [List.length_map]; exact z, acc.toList, c, rv, by rw [Array.toArray_toList]; exact e⟩, rfl, q _ (I.hok.fresh (Nat.le_refl _))⟩
end
end KR
/-! KRul3 -/
set_option Elab.async false
set_option linter.all false
set_option maxRecDepth 100000
set_option maxHeartbeats 4000000
namespace KR
open PySem L2 KV
open PyProof.Rows (IsTup seqObj)
abbrev cdB (B : Int) (c : Cell) : Int := TS.code B [c.1, c.2]
theorem cd_eq (B : Int) (c : Cell) : cdB B c = c.1 * B + c.2 := by
  show c.1 * B ^ 1 + (c.2 * B ^ 0 + 0) = _
  rw [Int.pow_one, Int.pow_zero, Int.mul_one, Int.add_zero]
def Cb (B : Int) (c : Cell) : Prop := 0 ≤ c.1 ∧ c.1 < B ∧ 0 ≤ c.2 ∧ c.2 < B
theorem Cb.bd {B : Int} {c : Cell} (h : Cb B c) : TS.Bd B [c.1, c.2] := fun m hm => by
  rcases List.mem_cons.mp hm with e | hm
  · rw [e]; exact ⟨h.1, h.2.1⟩
  · rw [List.mem_singleton.mp hm]; exact ⟨h.2.2.1, h.2.2.2⟩
/-- ascending -/
def LexL (p q : Cell) : Prop := p.1 < q.1 ∨ (p.1 = q.1 ∧ p.2 < q.2)
theorem lex_code {B : Int} {p q : Cell} (hp : Cb B p) (hq : Cb B q) (h : LexL p q) : cdB B p < cdB B q := by
  rw [cd_eq, cd_eq]
  obtain ⟨a1, a2, a3, a4⟩ := hp
  obtain ⟨b1, b2, b3, b4⟩ := hq
  rcases h with h | ⟨h1, h2⟩
  · have z : p.1 * B + B ≤ q.1 * B := by
      have y : (p.1 + 1) * B ≤ q.1 * B := Int.mul_le_mul_of_nonneg_right (by omega) (by omega)
      rw [Int.add_mul, Int.one_mul] at y
      exact y
    omega
  · rw [h1]; omega
theorem code_inj {B : Int} {p q : Cell} (hp : Cb B p) (hq : Cb B q) (h : cdB B p ≤ cdB B q) (h' : cdB B q ≤ cdB B p) : p = q := by
  rcases Int.lt_trichotomy p.1 q.1 with a | a | a
  · have := lex_code hp hq (.inl a); omega
  · rcases Int.lt_trichotomy p.2 q.2 with b | b | b
    · have := lex_code hp hq (.inr ⟨a, b⟩); omega
    · exact Prod.ext a b
    · have := lex_code hq hp (.inr ⟨a.symm, b⟩); omega
  · have := lex_code hq hp (.inl a); omega
/-- the ascending order of some cells is one -/
theorem sorted_one {B : Int} {xs cs : List Cell} (hb : ∀ c ∈ cs, Cb B c) (h : xs.Perm cs) (h1 : xs.Pairwise fun p q => cdB B p ≤ cdB B q) (h2 : cs.Pairwise LexL) : xs = cs :=
  List.Perm.eq_of_pairwise (le := fun p q => cdB B p ≤ cdB B q) (fun p q hp hq a b => code_inj (hb p (h.mem_iff.mp hp)) (hb q hq) a b) h1
    (h2.imp_of_mem fun hp hq a => Int.le_of_lt (lex_code (hb _ hp) (hb _ hq) a)) h
section
variable {X : Cx} {pins : List (Addr × Obj)} {σ : St} {H : Hp} {s : Shared}
/-! ### sorted(d), its keys cells -/
def rSortD (B : Int) : List V → Hp → VK → Prop := fun vs H Q => ∃ (d : Addr) (kvs : List (Cell × V)), vs = [.ref d] ∧ H d = some (.dT (kvs.map ent)) ∧ kvs.length < 64 ∧ (∀ e ∈ kvs, Cb B e.1) ∧
  ∀ (L : List (Addr × Cell)) (p : Addr), (L.map (·.2)).Perm (kvs.map (·.1)) → (L.map (·.2)).Pairwise (fun x y => cdB B x ≤ cdB B y) → (∀ x ∈ L, H x.1 = some (.tup ((kc x.2).map kV))) → H p = none → Q (.ref p) (upd H p (.lst (L.map fun x => V.ref x.1)))
def cellOf : List Int → Cell
  | [a, b] => (a, b)
  | _ => (0, 0)
theorem kt_keys {kvs : List (Cell × V)} : ∀ {xs : List (List Key × Addr × Value)}, KT H (kvs.map ent) xs → Paired (fun (e : Cell × V) (x : List Key × Addr × Value) => H x.2.1 = some (.tup ((kc e.1).map kV))) kvs xs := by
  induction kvs with
  | nil => intro xs h; cases h; exact .nil
  | cons e r ih =>
    intro xs h
    cases h with
    | cons h t => exact .cons h.2.1 (ih t)
theorem paired_mem {α β : Type} {G : α → β → Prop} : ∀ {l : List α} {m : List β}, Paired G l m → ∀ b ∈ m, ∃ a ∈ l, G a b
  | _, _, .nil, b, hb => by simp at hb
  | _, _, .cons h t, b, hb => by
    rcases List.mem_cons.mp hb with e | hb
    · subst e; exact ⟨_, List.mem_cons_self .., h⟩
    · obtain ⟨a, ha, g⟩ := paired_mem t b hb
      exact ⟨a, List.mem_cons_of_mem _ ha, g⟩
theorem call_sortD {B : Int} (hc : X.calm = true) : CallR X (.builtin "sorted") (rSortD B) := by
  intro pins s σ H vs us Q I r h
  obtain ⟨d, kvs, rfl, hd, h64, hb, q⟩ := h
  rw [Vals.ref1 r]
  obtain ⟨z, ns, ks, pr, o, es, ep, ho, hx, hdt, he, _, hn⟩ := dt_of I.hok hd
  have l1 : es.size = ks.length := by
    have q := congrArg List.length he
    rw [Array.length_toList, List.length_map] at q
    exact q
  have l2 : kvs.length = ks.length := by
    have q : (kvs.map ent).length = ks.length := Paired.length pr
    rw [List.length_map] at q
    exact q
  have pk := kt_keys pr
  refine Calls.call_function_entry PyProof.Rows.kind_sorted PyProof.Rows.plain_sorted PyProof.Rows.entry_sorted (PyProof.Rows.args_sorted1 _) ?_
  unfold Builtin.«sorted»
  refine wpAny_bind (m := checkCount "sorted" 1 1 _) (wpAny_pure ?_)
  refine wpAny_bind (PySem.W.kdu_collect (A := X.A.in1) (kdl_raw ns hx hdt) (I.ok.hd hc) ho (by rw [sizeLine_eq]; omega) fun h1 tk acc kp it => ?_)
  have hal : acc.toList = ks.map fun x => Value.ref x.2.1 := by
    apply List.ext_getElem?
    intro j
    rw [List.getElem?_map]
    by_cases hj : j < ks.length
    · have ha : j < acc.size := by rw [it.1]; omega
      have e1 : acc.toList[j]? = some acc[j] := by rw [Array.getElem?_toList]; exact Array.getElem?_eq_getElem ha
      obtain ⟨en, hi, hv⟩ := it.2 j acc[j] (Array.getElem?_eq_getElem ha)
      have e2 := PySem.entry_at he j
      rw [hi, List.getElem?_eq_getElem hj] at e2
      rw [e1, List.getElem?_eq_getElem hj, hv, Option.some.inj e2]
      rfl
    · have la : acc.toList.length = ks.length := by rw [Array.length_toList, it.1]; exact l1
      rw [List.getElem?_eq_none (by omega), List.getElem?_eq_none (by omega)]
      rfl
  have I1 : Inv X pins σ H { s with heap := h1, toks := tk } := I.kept kp
  have lal : acc.toList.length = kvs.length := by rw [hal, List.length_map]; omega
  -- what each collected value is
  have each : ∀ v ∈ acc.toList, ∃ (b : Addr) (c : Cell), v = .ref b ∧ H b = some (.tup ((kc c).map kV)) ∧ Cb B c ∧ TS.TupInts h1 v [c.1, c.2] := fun v hv => by
    rw [hal] at hv
    obtain ⟨x, hx, rfl⟩ := List.mem_map.mp hv
    obtain ⟨e, he, g⟩ := paired_mem pk x hx
    obtain ⟨its, rv, ht, _⟩ := I1.tuple (SqT.of (K := X.K) g)
    refine ⟨_, e.1, rfl, g, hb e he, x.2.1, its.toArray, rfl, ht, ?_⟩
    exact Vals.ints (ns := [e.1.1, e.1.2]) rv
  refine wpAny_bind (wpAny_newList ?_ (by rw [lal, sizeLine_eq]; omega))
  show wpAny _ _ _ _ _ { s with heap := h1.push (seqObj "list" acc.toList.toArray 0), toks := tk }
  have at1 : (h1.push (seqObj "list" acc.toList.toArray 0)).get? h1.objs.size = some (seqObj "list" acc.toList.toArray 0) := Heap.get?_push_size _ rfl
  have kp2 : ∀ b u, h1.get? b = some u → u.cls = .type "tuple" → (h1.push (seqObj "list" acc.toList.toArray 0)).get? b = some u := fun b u e _ => Heap.get?_push_of_some _ e
  have toks : TS.TupsOk (h1.push (seqObj "list" acc.toList.toArray 0)) 2 B acc.toList := fun v hv => by
    obtain ⟨b, c, _, _, cb, ti⟩ := each v hv
    exact ⟨_, ti.keeps kp2, rfl, cb.bd⟩
  refine wpAny_bind (wpAny_holding (wpAny_call_entry PyProof.Rows.slot_list_sort ⟨_, at1, rfl⟩ PyProof.Rows.entry_list_sort
    (TS.sort_tups (s := { s with heap := h1.push (seqObj "list" acc.toList.toArray 0), toks := tk }) at1 (by rw [lal]; exact h64) (by decide : 1 ≤ 2) toks (fun v => TS.code B (TS.intsOf h1 v)) (fun v hv ns t => ?_) fun out a1 a2 => ⟨_, rfl, ?_⟩) (PyProof.Rows.args_list_sort _)))
  · obtain ⟨b, c, _, _, cb, ti⟩ := each v hv
    show TS.code B (TS.intsOf h1 v) = _
    rw [ti.ints, ← (ti.keeps kp2).ints, t.ints]
  obtain ⟨ce, he'⟩ := PyProof.Rows.sortedHeap_at (vs := acc.toList) (out := out) at1
  have mem : ∀ v ∈ out.toList, v ∈ acc.toList := fun v hv => a1.mem_iff.mp hv
  -- the places and cells
  let g : Value → Addr × Cell := fun v => (match v with | .ref b => b | _ => 0, cellOf (TS.intsOf h1 v))
  have gv : ∀ v ∈ out.toList, v = .ref (g v).1 ∧ H (g v).1 = some (.tup ((kc (g v).2).map kV)) ∧ TS.intsOf h1 v = [(g v).2.1, (g v).2.2] := fun v hv => by
    obtain ⟨b, c, rfl, hc', cb, ti⟩ := each v (mem v hv)
    have e : g (.ref b) = (b, c) := by show (b, cellOf (TS.intsOf h1 (.ref b))) = _; rw [ti.ints]; rfl
    rw [e]
    exact ⟨rfl, hc', ti.ints⟩
  have hper : ((out.toList.map g).map (·.2)).Perm (kvs.map (·.1)) := by
    rw [List.map_map]
    have p1 := a1.map (fun v => (g v).2)
    refine p1.trans ?_
    have : acc.toList.map (fun v => (g v).2) = kvs.map (·.1) := by
      rw [hal, List.map_map]
      have gen : ∀ {kvs : List (Cell × V)} {ks : List (List Key × Addr × Value)}, Paired (fun (e : Cell × V) (x : List Key × Addr × Value) => H x.2.1 = some (.tup ((kc e.1).map kV))) kvs ks →
          ks.map ((fun v => (g v).2) ∘ fun x => Value.ref x.2.1) = kvs.map (·.1) := by
        intro kvs ks h
        induction h with
        | nil => rfl
        | @cons e x l m h _ ih =>
          rw [List.map_cons, List.map_cons, ih]
          congr 1
          obtain ⟨its, rv, ht, _⟩ := I1.tuple (SqT.of (K := X.K) h)
          have ti : TS.TupInts h1 (.ref x.2.1) [e.1.1, e.1.2] := ⟨x.2.1, its.toArray, rfl, ht, Vals.ints (ns := [e.1.1, e.1.2]) rv⟩
          show cellOf (TS.intsOf h1 (.ref x.2.1)) = e.1
          rw [ti.ints]
          rfl
      exact gen pk
    rw [this]
  have hpw : ((out.toList.map g).map (·.2)).Pairwise (fun x y => cdB B x ≤ cdB B y) := by
    rw [List.map_map, List.pairwise_map]
    refine a2.imp_of_mem fun {u v} hu hv h => ?_
    have h : TS.code B (TS.intsOf h1 u) ≤ TS.code B (TS.intsOf h1 v) := h
    rw [(gv u hu).2.2, (gv v hv).2.2] at h
    exact h
  have eL : (out.toList.map g).map (fun x => V.ref x.1) = out.toList.map (fun v => V.ref (g v).1) := by rw [List.map_map]; rfl
  have rv : Vals ((out.toList.map g).map fun x => V.ref x.1) out.toList := by
    rw [eL]
    have gen : ∀ l : List Value, (∀ v ∈ l, v = .ref (g v).1) → Vals (l.map fun v => V.ref (g v).1) l := by
      intro l
      induction l with
      | nil => intro _; exact .nil
      | cons v l ih => intro h; exact .cons (h v (List.mem_cons_self ..)) (ih fun u hu => h u (List.mem_cons_of_mem _ hu))
    exact gen _ fun v hv => (gv v hv).1
  have hlen : ((out.toList.map g).map fun x => V.ref x.1).length ≤ sizeLine := by
    rw [List.length_map, List.length_map, a1.length_eq, lal, sizeLine_eq]
    omega
  refine wpAny_pure ⟨_, rfl, .ref h1.objs.size, _, I1.laid (t' := tk) (o := .lst ((out.toList.map g).map fun x => V.ref x.1)) (fun b u e => ?_) (Nat.le_refl _) ⟨hlen, out.toList, ce, rv, by rw [Array.toArray_toList]; exact he'⟩, rfl,
    q _ _ hper hpw (fun x hx => ?_) (I1.hok.fresh (Nat.le_refl _))⟩
  · have lb : b < h1.objs.size := Heap.lt_size e
    rw [PyProof.Rows.sortedHeap_old (Nat.ne_of_lt lb) (by rw [PyProof.Rows.size_push']; exact Nat.lt_succ_of_lt lb)]
    exact Heap.get?_push_of_some _ e
  · obtain ⟨v, hv, rfl⟩ := List.mem_map.mp hx
    exact (gv v hv).2.1
end
end KR
/-! KVal4 -/
set_option Elab.async false
set_option linter.all false
set_option maxRecDepth 100000
set_option maxHeartbeats 4000000
namespace KR
open PySem L2 KV
/-- sum(t), t a tuple of ints -/
def rSumT (K : PySem.W.Frag) : List V → Hp → VK → Prop := fun vs H Q => ∃ (a : Addr) (ns : List Int), vs = [V.ref a] ∧ SqT K H a (ns.map V.int) ∧ Q (.int ns.sum) H
theorem preSum_take (ns : List Int) : ∀ k, k ≤ ns.length → preSum (fun i => ns.getD i 0) k = (ns.take k).sum
  | 0, _ => rfl
  | k + 1, h => by
    have e : ns[k]? = some ns[k] := List.getElem?_eq_getElem (by omega)
    show preSum (fun i => ns.getD i 0) k + ns.getD k 0 = _
    rw [preSum_take ns k (by omega), List.take_add_one, e, List.getD_eq_getElem?_getD, e, List.sum_append]
    simp
theorem call_sumT {X : Cx} (hc : X.calm = true) : CallR X (.builtin "sum") (rSumT X.K) := by
  intro pins s σ H vs us Q I r h
  obtain ⟨a, ns, rfl, hs, q⟩ := h
  rw [Vals.ref1 r]
  obtain ⟨its, rv, ht, _⟩ := I.tuple hs
  have iv := rv.ints
  have la : a < s.heap.objs.size := by obtain ⟨o, e, _⟩ := ht; exact Heap.lt_size e
  refine call_sum_walkG (wpAny_pyIter_tuple ht ?_)
  have ht2 : (s.heap.push { cls := .type "tuple_iterator", data := .fields #[.ref a, .int 0 0] }).IsTuple a its.toArray := ht.push _
  refine ⟨s.heap.objs.size, _, _, _, _, _, fun i => ns.getD i 0, rfl, Walks.tuple (A := X.A.in1) (I.ok.hd hc) _ a (Nat.ne_of_lt la) its.toArray, ⟨⟨_, Heap.get?_push_size _ rfl, rfl, rfl⟩, ht2⟩, fun b hb => ?_, fun i v hv => ?_, fun h' tk t' hk => ?_⟩
  · rw [Heap.size_push]
    rcases (show b = s.heap.objs.size ∨ b = a by simpa using hb) with z | z <;> rw [z]
    · exact Nat.lt_succ_self _
    · exact Nat.lt_succ_of_lt la
  · rw [List.getElem?_toArray] at hv
    obtain ⟨x, hx, rx⟩ := (show ∃ x, (ns.map V.int)[i]? = some x ∧ RelV x v from by
      have hi : i < (ns.map V.int).length := by
        have := (List.getElem?_eq_some_iff.mp hv).1
        rw [rv.length]
        exact this
      obtain ⟨u, e1, e2⟩ := rv.get (List.getElem?_eq_getElem hi)
      rw [hv] at e1
      cases e1
      exact ⟨_, List.getElem?_eq_getElem hi, e2⟩)
    rw [List.getElem?_map] at hx
    cases hn : ns[i]? with
    | none => rw [hn] at hx; cases hx
    | some k =>
      rw [hn] at hx
      cases hx
      obtain ⟨t, rfl⟩ := rx
      exact ⟨t, by show Value.int k t = Value.int (ns.getD i 0) t; rw [List.getD_eq_getElem?_getD, hn]; rfl⟩
  · have e : preSum (fun i => ns.getD i 0) its.toArray.size = ns.sum := by
      have hl : its.length = ns.length := by have := rv.length; rw [List.length_map] at this; exact this.symm
      rw [List.size_toArray, hl, preSum_take ns _ (Nat.le_refl _), List.take_length]
    rw [e]
    exact ⟨.int ns.sum, H, I.kept fun b u q => hk b u (fun z => Nat.lt_irrefl _ (by have := Heap.lt_size q; rw [List.mem_singleton.mp z] at this; exact this)) (Heap.get?_push_of_some _ q), ⟨_, rfl⟩, q⟩
theorem walk_enT {K : PySem.W.Frag} {a : Addr} {xs : List V} : Walk (ItU K a) xs.length (fun H => SqT K H a xs) (YPair (fun i => some (.int (i : Nat))) (fun i => xs[i]?)) := by
  refine ⟨fun i _ hi q => ⟨xs, xs[i], q, by simp [hi]⟩, fun _ q => ⟨xs, q, Nat.le_refl _⟩, fun i H v H' _ q y => ?_⟩
  obtain ⟨T, x, h1, h2, h3, h4⟩ := y
  exact ⟨T, .int (i : Nat), x, h1, h2, h3, rfl, h4 xs q⟩
end KR
namespace KV
open PySem L2 KR
variable {K : PySem.W.Frag} {Γ : List En} {ta tb te td ty : TE} {t u tt tt1 : TT}
theorem src_enT {tA : TA} {ds : List PyData} (h : Ar tA Γ [.dat (.tuple ds)]) : Src (iEnT K tA) Γ (enD ds) := fun σ H O l g R q =>
  h σ H O l g _ fun vs H1 s r => by
    cases r with | cons r1 r =>
    cases r
    cases r1 with | dat r1 =>
    obtain ⟨a, xs, rfl, e, r⟩ := rp_tuple r1
    refine ⟨a, xs, rfl, SqT.of (cut_same _ _ _ _ e), q _ _ s ?_⟩
    rw [enD_length, ← r.length]
    refine (walk_enT (K := K) (a := a) (xs := xs)).mono (fun H' s' => SqT.of (cut_same _ _ _ _ (s' _ _ e))) fun i H' x H'' hi _ y => yPair_rp y fun b c hb hc => ?_
    obtain ⟨d, e1, e2⟩ := r.getV hc
    rw [← Option.some.inj hb]
    exact ⟨_, d, enD_get e1, .int _, e2⟩
theorem e_sumT {ns : List Int} (ha : Ed ta Γ (.tuple (ns.map .int))) : Ed (tCB (rSumT K) (tCons ta tNil)) Γ (.int ns.sum) :=
  e_c1 ha fun x H O Q l hx q => by
    cases hx with | dat hx =>
    obtain ⟨a, xs, rfl, e, r⟩ := rp_tuple hx
    rw [r.toInts] at e
    exact ⟨a, ns, rfl, SqT.of (cut_same _ _ _ _ e), q _ _ _ rfl (Same.refl H) (.dat (.int _))⟩
/-! ### dict(pairs) -/
def mergeC (ps : List (Cell × V)) : List (Cell × V) := ps.foldl (fun acc e => putK acc e.1 e.2) []
theorem putK_fresh {kvs : List (Cell × V)} {c : Cell} {v : V} (h : c ∉ kvs.map (·.1)) : putK kvs c v = kvs ++ [(c, v)] := by
  unfold putK
  rw [if_neg]
  intro z
  obtain ⟨e, he, q⟩ := List.any_eq_true.mp z
  exact h (List.mem_map.mpr ⟨e, he, of_decide_eq_true q⟩)
theorem mergeC_nodup {ps : List (Cell × V)} (h : (ps.map (·.1)).Nodup) : mergeC ps = ps := by
  have gen : ∀ (ps acc : List (Cell × V)), ((acc ++ ps).map (·.1)).Nodup → ps.foldl (fun acc e => putK acc e.1 e.2) acc = acc ++ ps := by
    intro ps
    induction ps with
    | nil => intro acc _; simp
    | cons e ps ih =>
      intro acc h
      have h1 : e.1 ∉ acc.map (·.1) := by
        rw [List.map_append, List.map_cons, List.nodup_append] at h
        intro z
        exact h.2.2 _ z _ (List.mem_cons_self ..) rfl
      rw [List.foldl_cons, putK_fresh h1, ih]
      · simp
      · simpa using h
  exact gen ps [] (by simpa using h)
theorem mergeT_ent (L : List Pr) (ps : List (Cell × V)) (h : L.map (fun t => t.2.2) = ps.map ent) : mergeT L = (mergeC ps).map ent := by
  have gen : ∀ (L : List Pr) (ps : List (Cell × V)) (acc : List (Cell × V)), L.map (fun t => t.2.2) = ps.map ent →
      L.foldl (fun a t => putK a t.2.2.1 t.2.2.2) (acc.map ent) = (ps.foldl (fun a e => putK a e.1 e.2) acc).map ent := by
    intro L
    induction L with
    | nil =>
      intro ps acc h
      cases ps with
      | nil => rfl
      | cons => cases h
    | cons t L ih =>
      intro ps acc h
      cases ps with
      | nil => cases h
      | cons e ps =>
        rw [List.map_cons, List.map_cons] at h
        injection h with h1 h2
        rw [List.foldl_cons, List.foldl_cons, h1]
        show L.foldl _ (putK (acc.map ent) (kc e.1) e.2) = _
        rw [putK_ent]
        exact ih ps _ h2
  exact gen L ps [] h
/-- dict([(c, v), ..]) -/
theorem nd_dict {ps : List (Cell × V)} {g : V → PyData} (ha : Ed ta Γ (.list (ps.map fun e => .tuple [cellD e.1, g e.2]))) (hg : ∀ e ∈ ps, vD e.2 = some (g e.2)) : ND (tCB (rDictT K) (tCons ta tNil)) Γ (mergeC ps) := fun σ H O l env Q q =>
  ha σ H O l env _ fun x H1 _ z s1 r1 => by
    subst z
    cases r1 with | dat r1 =>
    obtain ⟨a, xs, rfl, e, r⟩ := rp_list r1
    have key : ∀ (ps : List (Cell × V)) (xs : List V), (∀ e ∈ ps, vD e.2 = some (g e.2)) → RpAll (cut O H1) xs (ps.map fun e => .tuple [cellD e.1, g e.2]) →
        ∃ L : List Pr, xs = L.map (fun t => V.ref t.1) ∧ (∀ t ∈ L, pairT K H1 t) ∧ L.map (fun t => t.2.2) = ps.map ent := by
      intro ps
      induction ps with
      | nil => intro xs _ r; cases r; exact ⟨[], rfl, fun t ht => by simp at ht, rfl⟩
      | cons e ps ih =>
        intro xs hg r
        rw [List.map_cons] at r
        cases r with | cons r1 r =>
        obtain ⟨L, h1, h2, h3⟩ := ih _ (fun e he => hg e (List.mem_cons_of_mem _ he)) r
        obtain ⟨p, ys, rfl, ep, ry⟩ := rp_tuple r1
        cases ry with | cons ra ry =>
        cases ry with | cons rb ry =>
        cases ry
        obtain ⟨b, rfl, hb⟩ := rp_cell ra.up
        have hv : ∀ v, Rp H1 v (g e.2) → v = e.2 := fun v hv => by
          have := hg e (List.mem_cons_self ..)
          cases he : e.2 with
          | int i =>
            rw [he] at this hv
            have e' : PyData.int i = g (V.int i) := Option.some.inj this
            rw [← e'] at hv
            exact hv.toInt
          | bl i =>
            rw [he] at this hv
            have e' : PyData.bool i = g (V.bl i) := Option.some.inj this
            rw [← e'] at hv
            exact hv.toBl
          | _ => rw [he] at this; cases this
        have ev := hv _ rb.up
        subst ev
        refine ⟨(p, b, kc e.1, e.2) :: L, by rw [h1]; rfl, fun t ht => ?_, by rw [List.map_cons, h3]; rfl⟩
        rcases List.mem_cons.mp ht with z | z
        · subst z
          exact ⟨SqT.of (cut_same _ _ _ _ ep), hb⟩
        · exact h2 t z
    obtain ⟨L, h1, h2, h3⟩ := key ps xs hg r
    refine ⟨a, L, rfl, ?_, h2, fun p hp => ?_⟩
    · rw [← h1]; exact SqL.of (cut_same _ _ _ _ e)
    · rw [mergeT_ent L ps h3]
      exact q p _ (s1.free hp) (s1.trans (same_upd hp)) upd_same
/-! ### list(d.values()) -/
def kvI (ks : List (Cell × Int)) : List (Cell × V) := ks.map fun e => (e.1, .int e.2)
theorem kvI_keys (ks : List (Cell × Int)) : (kvI ks).map (·.1) = ks.map (·.1) := by unfold kvI; rw [List.map_map]; rfl
theorem n_listV {ks : List (Cell × Int)} (h : E td Γ (.dic (kvI ks))) : NL (tCB rListV (tCons (tBM0 K "dict" rValsT td) tNil)) Γ (ks.map fun e => .int e.2) := fun σ H O l env Q q =>
  h σ H O l env _ fun x H1 _ z s1 r1 => by
    subst z
    cases r1 with | @dic a _ e =>
    have e1 := cut_same _ _ _ _ e
    refine ⟨.inr (.inr (.inl ⟨rfl, .inr ⟨_, e1⟩⟩)), a, _, rfl, rfl, e1, fun p hp => ?_⟩
    have na : a ≠ p := ne_of_none e1 hp
    refine ⟨p, a, _, rfl, upd_same, by rw [upd_ne na]; exact e1, fun p2 hp2 => ?_⟩
    have s3 := (s1.trans (same_upd hp)).trans (same_upd (o := .lst (((kvI ks).map ent).map (·.2))) hp2)
    refine q p2 _ _ ((s1.trans (same_upd hp)).free hp2) s3 upd_same ?_
    have ee : ((kvI ks).map ent).map (·.2) = (ks.map fun e => e.2).map V.int := by unfold kvI; simp [List.map_map, Function.comp_def]
    rw [ee, show (ks.map fun e => PyData.int e.2) = (ks.map fun e => e.2).map PyData.int by rw [List.map_map]; rfl]
    exact RpAll.ints _
/-! ### sorted -/
theorem rp_refs {G : Hp} : ∀ {L : List (Addr × Cell)}, (∀ x ∈ L, Rp G (.ref x.1) (cellD x.2)) → RpAll G (L.map fun x => V.ref x.1) ((L.map (·.2)).map cellD)
  | [], _ => .nil
  | x :: L, h => .cons (h x (List.mem_cons_self ..)) (rp_refs fun y hy => h y (List.mem_cons_of_mem _ hy))
theorem n_sortD {B : Int} {kvs : List (Cell × V)} {cs : List Cell} (h : E td Γ (.dic kvs)) (h64 : kvs.length < 64) (hb : ∀ e ∈ kvs, Cb B e.1) (hp : (kvs.map (·.1)).Perm cs) (hs : cs.Pairwise LexL) :
    NL (tCB (rSortD B) (tCons td tNil)) Γ (cs.map cellD) := fun σ H O l env Q q =>
  h σ H O l env _ fun x H1 _ z s1 r1 => by
    subst z
    cases r1 with | @dic a _ e =>
    refine ⟨a, kvs, rfl, cut_same _ _ _ _ e, h64, hb, fun L p g1 g2 g3 hn => ?_⟩
    have hbc : ∀ c ∈ cs, Cb B c := fun c hc => by
      obtain ⟨e, he, q⟩ := List.mem_map.mp (hp.mem_iff.mpr hc)
      rw [← q]; exact hb e he
    have ec := sorted_one hbc (g1.trans hp) g2 hs
    refine q p _ _ (s1.free hn) (s1.trans (same_upd hn)) upd_same ?_
    rw [← ec]
    refine rp_refs fun x hx => ?_
    have l1 := l.mono s1
    have t1 := g3 x hx
    refine cell_rp (cut_get (by rw [upd_ne (ne_of_none t1 hn)]; exact t1) ?_)
    simp only [List.mem_cons, not_or]
    exact ⟨ne_of_none t1 hn, l1.tup t1⟩
/-- sorted(dict) that is owned (found): from its own object -/
theorem n_sortO {B : Int} {kvs : List (Cell × V)} {cs : List Cell} {σ : St} {H : Hp} {O : List Addr} {a : Addr} (h : E td Γ (.ptr a)) (l : Live O H) (env : EnvOk (cut O H) σ Γ) (ea : H a = some (.dT (kvs.map ent))) (h64 : kvs.length < 64) (hb : ∀ e ∈ kvs, Cb B e.1) (hp : (kvs.map (·.1)).Perm cs) (hs : cs.Pairwise LexL)
    {Q : VK} (q : ∀ p H2, H p = none → Same H H2 → Rp H2 (.ref p) (.list (cs.map cellD)) → (∀ O', Live O' H → Rp (cut O' H2) (.ref p) (.list (cs.map cellD))) → Q (.ref p) H2) : tCB (rSortD B) (tCons td tNil) σ H Q :=
  h σ H O l env _ fun x H1 _ z s1 r1 => by
    subst z
    cases r1
    refine ⟨a, kvs, rfl, s1 _ _ ea, h64, hb, fun L p g1 g2 g3 hn => ?_⟩
    have hbc : ∀ c ∈ cs, Cb B c := fun c hc => by
      obtain ⟨e, he, q⟩ := List.mem_map.mp (hp.mem_iff.mpr hc)
      rw [← q]; exact hb e he
    have ec := sorted_one hbc (g1.trans hp) g2 hs
    have all : ∀ O', Live O' H → Rp (cut O' (upd H1 p (.lst (L.map fun x => V.ref x.1)))) (.ref p) (.list (cs.map cellD)) := fun O' l' => by
      have l1 := l'.mono s1
      refine .lst (cut_get upd_same (l1.no hn)) ?_
      rw [← ec]
      refine rp_refs fun x hx => ?_
      have t1 := g3 x hx
      exact cell_rp (cut_get (by rw [upd_ne (ne_of_none t1 hn)]; exact t1) (l1.tup t1))
    refine q p _ (s1.free hn) (s1.trans (same_upd hn)) ?_ all
    have z := all [] Live.nil
    rw [cut_nil] at z
    exact z
theorem n_sortSet {P : Program} {w : World} {B : Int} {cs0 cs : List Cell} (h : Ed ta Γ (.list (cs0.map cellD))) (h64 : cs0.length < 64) (hb : ∀ c ∈ cs0, Cb B c) (hm : ∀ c, c ∈ cs ↔ c ∈ cs0) (hs : cs.Pairwise LexL) :
    NL (tCB (rSortedT K P w) (tCons (tCB (rSetOfT K P w) (tCons ta tNil)) tNil)) Γ (cs.map cellD) := fun σ H O l env Q q =>
  h σ H O l env _ fun x H1 _ z s1 r1 => by
    subst z
    cases r1 with | dat r1 =>
    obtain ⟨a, xs, rfl, e, r⟩ := rp_list r1
    have key : ∀ (cs : List Cell) (xs : List V), RpAll (cut O H1) xs (cs.map cellD) → ∃ L : List (Addr × Cell), xs = L.map (fun x => V.ref x.1) ∧ L.map (·.2) = cs ∧ ∀ x ∈ L, H1 x.1 = some (.tup ((kc x.2).map kV)) := by
      intro cs
      induction cs with
      | nil => intro xs r; cases r; exact ⟨[], rfl, rfl, fun x hx => by simp at hx⟩
      | cons c cs ih =>
        intro xs r
        rw [List.map_cons] at r
        cases r with | cons r1 r =>
        obtain ⟨L, h1, h2, h3⟩ := ih _ r
        obtain ⟨b, rfl, hb⟩ := rp_cell r1.up
        refine ⟨(b, c) :: L, by rw [h1]; rfl, by rw [List.map_cons, h2], fun x hx => ?_⟩
        rcases List.mem_cons.mp hx with z | z
        · subst z; exact hb
        · exact h3 x z
    obtain ⟨L0, h1, h2, h3⟩ := key cs0 xs r
    -- the set's arguments: places and their ints
    let f : Addr × Cell → Addr × List Int := fun x => (x.1, [x.2.1, x.2.2])
    have e0 : (L0.map f).map (fun p => V.ref p.1) = xs := by rw [List.map_map, h1]; rfl
    have tk : ∀ p ∈ L0.map f, SqT K H1 p.1 (p.2.map V.int) := fun p hp => by
      obtain ⟨x, hx, rfl⟩ := List.mem_map.mp hp
      exact SqT.of (h3 x hx)
    refine ⟨a, L0.map f, rfl, by rw [e0]; exact SqL.of (cut_same _ _ _ _ e), tk, by rw [List.length_map]; have := congrArg List.length h2; rw [List.length_map] at this; omega, fun b L hb2 hL1 hL2 => ?_⟩
    have sb : Same H1 (upd H1 b (SetTO P w b L)) := same_upd hb2
    have inL0 : ∀ p ∈ L, ∃ x ∈ L0, p = f x := fun p hp => by
      obtain ⟨x, hx, e⟩ := List.mem_map.mp (hL1 p hp)
      exact ⟨x, hx, e.symm⟩
    have bc : ∀ x ∈ L0, Cb B x.2 := fun x hx => hb _ (by rw [← h2]; exact List.mem_map.mpr ⟨x, hx, rfl⟩)
    refine ⟨b, L, 2, B, rfl, upd_same, fun p hp => sameT sb (tk p (hL1 p hp)), by decide, fun p hp => ?_, fun L' p g1 g2 g3 g4 hn => ?_⟩
    · obtain ⟨x, hx, rfl⟩ := inL0 p hp
      exact ⟨rfl, (bc x hx).bd⟩
    -- the cells of the sorted ones
    have s2 : Same H1 (upd (upd H1 b (SetTO P w b L)) p (.lst (L'.map fun q => V.ref q.1))) := sb.trans (same_upd hn)
    have inL' : ∀ q ∈ L', ∃ x ∈ L0, q = f x := fun q hq => inL0 q (g1.mem_iff.mp hq)
    let c : Addr × List Int → Cell := fun q => cellOf q.2
    have fc : ∀ x, c (f x) = x.2 := fun x => rfl
    have nd : (L'.map c).Nodup := by
      have z : (L'.map (·.2)).Nodup := g2
      unfold List.Nodup at z ⊢
      rw [List.pairwise_map] at z ⊢
      refine z.imp_of_mem fun {q r} hq hr h e => h ?_
      obtain ⟨x, _, rfl⟩ := inL' q hq
      obtain ⟨y, _, rfl⟩ := inL' r hr
      have e : x.2 = y.2 := e
      show [x.2.1, x.2.2] = [y.2.1, y.2.2]
      rw [e]
    have mm : ∀ z, z ∈ L'.map c ↔ z ∈ cs := fun z => by
      rw [hm z, ← h2]
      constructor
      · intro hz
        obtain ⟨q, hq, rfl⟩ := List.mem_map.mp hz
        obtain ⟨x, hx, rfl⟩ := inL' q hq
        exact List.mem_map.mpr ⟨x, hx, rfl⟩
      · intro hz
        obtain ⟨x, hx, rfl⟩ := List.mem_map.mp hz
        obtain ⟨q, hq, e⟩ := List.mem_map.mp (hL2 (f x) (List.mem_map.mpr ⟨x, hx, rfl⟩))
        obtain ⟨y, hy, rfl⟩ := inL0 q hq
        refine List.mem_map.mpr ⟨f y, g1.mem_iff.mpr hq, ?_⟩
        show y.2 = x.2
        have e : [y.2.1, y.2.2] = [x.2.1, x.2.2] := e
        injection e with e1 e2
        injection e2 with e2 _
        exact Prod.ext e1 e2
    have csn : cs.Nodup := hs.imp fun {a b} h e => by
      subst e
      rcases h with h | ⟨_, h⟩ <;> omega
    have per : (L'.map c).Perm cs := (List.perm_ext_iff_of_nodup nd csn).mpr mm
    have pw : (L'.map c).Pairwise fun x y => cdB B x ≤ cdB B y := by
      rw [List.pairwise_map]
      refine g4.imp_of_mem fun {q r} hq hr h => ?_
      obtain ⟨x, _, rfl⟩ := inL' q hq
      obtain ⟨y, _, rfl⟩ := inL' r hr
      exact h
    have ec := sorted_one (fun z hz => hb _ ((hm z).mp hz)) per pw hs
    refine q p _ _ (s1.free (sb.free hn)) (s1.trans s2) upd_same ?_
    rw [← ec]
    have eL : (L'.map fun q => V.ref q.1) = (L'.map fun q => (q.1, c q)).map (fun x : Addr × Cell => V.ref x.1) := by rw [List.map_map]; rfl
    have eC : L'.map c = (L'.map fun q => (q.1, c q)).map (·.2) := by rw [List.map_map]; rfl
    have l3 := (l.mono s1).mono s2
    generalize upd (upd H1 b (SetTO P w b L)) p (.lst (L'.map fun q => V.ref q.1)) = H3 at s2 l3 ⊢
    rw [eL, eC]
    refine rp_refs fun x hx => ?_
    obtain ⟨q, hq, rfl⟩ := List.mem_map.mp hx
    obtain ⟨y, hy, rfl⟩ := inL' q hq
    have t1 := s2 _ _ (h3 y hy)
    refine cell_rp (cut_get t1 ?_)
    simp only [List.mem_cons, not_or]
    refine ⟨fun z => ?_, l3.tup t1⟩
    have z : y.1 = p := z
    have t2 := sb _ _ (h3 y hy)
    rw [z, hn] at t2
    cases t2
end KV
/-! KSpec -/
set_option Elab.async false
set_option linter.all false
set_option maxRecDepth 100000
set_option maxHeartbeats 4000000
namespace KS
open PySem KV KR KM
abbrev Sec := List (List Int)
def valAt (S : Sec) (p : KV.Cell) : Option Int := if 0 ≤ p.1 ∧ 0 ≤ p.2 then (S[p.1.toNat]?).bind (fun c => c[p.2.toNat]?) else none
def ht (S : Sec) : Nat := (S.headD []).length
structure Wf (S : Sec) : Prop where
  ne : S ≠ []
  same : ∀ c ∈ S, c.length = ht S
  pos : 1 ≤ ht S
  nn : ∀ c ∈ S, ∀ v ∈ c, 0 ≤ v
  wide : S.length ≤ 9
  tall : ht S ≤ 6
def gd (S : Sec) : Gd := ⟨(S.length : Int), (ht S : Int), fun p => valAt S p = some 0⟩
def colD (c : List Int) : PyData := .tuple (c.map .int)
def secD (S : Sec) : PyData := .tuple (S.map colD)
/-- the cells of a grid, ascending -/
def grid (W T : Nat) : List KV.Cell := (List.range W).flatMap fun (c : Nat) => (List.range T).map fun (h : Nat) => (((c : Int), (h : Int)) : KV.Cell)
def cells (S : Sec) : List KV.Cell := grid S.length (ht S)
def InG (S : Sec) (p : KV.Cell) : Prop := 0 ≤ p.1 ∧ p.1 < (S.length : Int) ∧ 0 ≤ p.2 ∧ p.2 < (ht S : Int)
theorem mem_grid {W T : Nat} {p : KV.Cell} : p ∈ grid W T ↔ 0 ≤ p.1 ∧ p.1 < (W : Int) ∧ 0 ≤ p.2 ∧ p.2 < (T : Int) := by
  unfold grid
  simp only [List.mem_flatMap, List.mem_map, List.mem_range]
  constructor
  · rintro ⟨c, hc, h, hh, rfl⟩
    refine ⟨?_, ?_, ?_, ?_⟩ <;> simp only <;> omega
  · rintro ⟨a, b, c, d⟩
    exact ⟨p.1.toNat, by omega, p.2.toNat, by omega, Prod.ext (by simp only; omega) (by simp only; omega)⟩
theorem mem_cells {S : Sec} {p : KV.Cell} : p ∈ cells S ↔ InG S p := mem_grid
theorem row_sorted (c : Int) : ∀ T : Nat, ((List.range T).map fun (h : Nat) => ((c, (h : Int)) : KV.Cell)).Pairwise LexL := fun T => by
  rw [List.pairwise_map]
  exact List.pairwise_lt_range.imp fun {a b} h => .inr ⟨rfl, by simp only; omega⟩
theorem grid_sorted (W T : Nat) : (grid W T).Pairwise LexL := by
  unfold grid
  rw [List.pairwise_flatMap]
  refine ⟨fun c _ => row_sorted (c : Int) T, ?_⟩
  refine List.pairwise_lt_range.imp ?_
  intro a b h x hx y hy
  obtain ⟨i, _, rfl⟩ := List.mem_map.mp hx
  obtain ⟨j, _, rfl⟩ := List.mem_map.mp hy
  exact .inl (by simp only; omega)
theorem lex_nodup {l : List KV.Cell} (h : l.Pairwise LexL) : l.Nodup := h.imp fun {a b} h e => by
  subst e
  rcases h with h | ⟨_, h⟩ <;> omega
theorem grid_length (W T : Nat) : (grid W T).length = W * T := by
  unfold grid
  rw [List.length_flatMap]
  simp only [List.length_map, List.length_range]
  induction W with
  | zero => simp
  | succ W ih => rw [List.range_succ, List.map_append, List.sum_append, ih, Nat.succ_mul]; simp
theorem cells_length {S : Sec} (wf : Wf S) : (cells S).length ≤ 54 := by
  unfold cells
  rw [grid_length]
  have a := wf.wide
  have b := wf.tall
  exact Nat.mul_le_mul a b
theorem InG.cb {S : Sec} (wf : Wf S) {p : KV.Cell} (h : InG S p) : Cb 64 p := by
  obtain ⟨a, b, c, d⟩ := h
  have := wf.wide
  have := wf.tall
  exact ⟨a, by omega, c, by omega⟩
theorem col_at {S : Sec} {i : Nat} (h : i < S.length) : ∃ c, S[i]? = some c ∧ c ∈ S := ⟨S[i], List.getElem?_eq_getElem h, List.getElem_mem h⟩
theorem valAt_in {S : Sec} (wf : Wf S) {p : KV.Cell} (h : InG S p) : ∃ v, valAt S p = some v ∧ 0 ≤ v := by
  obtain ⟨a, b, c, d⟩ := h
  obtain ⟨col, e, hm⟩ := col_at (S := S) (i := p.1.toNat) (by omega)
  have hl := wf.same col hm
  have hj : p.2.toNat < col.length := by omega
  refine ⟨col[p.2.toNat], ?_, wf.nn col hm _ (List.getElem_mem hj)⟩
  unfold valAt
  rw [if_pos ⟨a, c⟩, e]
  exact List.getElem?_eq_getElem hj
theorem in_valAt {S : Sec} (wf : Wf S) {p : KV.Cell} {v : Int} (h : valAt S p = some v) : InG S p := by
  unfold valAt at h
  split at h
  · rename_i hp
    obtain ⟨c, e1, e2⟩ := Option.bind_eq_some_iff.mp h
    have h1 := (List.getElem?_eq_some_iff.mp e1).1
    have hm : c ∈ S := List.mem_of_getElem? e1
    have h2 := (List.getElem?_eq_some_iff.mp e2).1
    rw [wf.same c hm] at h2
    exact ⟨hp.1, by omega, hp.2, by omega⟩
  · cases h
theorem gd_ok {S : Sec} (wf : Wf S) : (gd S).Ok := ⟨fun p h => in_valAt wf h⟩
theorem gd_in {S : Sec} {p : KV.Cell} : (gd S).In p ↔ InG S p := Iff.rfl
/-- the cells that have π -/
noncomputable def sel (S : Sec) (π : KV.Cell → Prop) : List KV.Cell := (cells S).filter fun c => @decide (π c) (Classical.propDecidable _)
theorem mem_sel {S : Sec} {π : KV.Cell → Prop} {c : KV.Cell} : c ∈ sel S π ↔ InG S c ∧ π c := by
  unfold sel
  rw [List.mem_filter, mem_cells]
  simp
theorem sel_sorted (S : Sec) (π : KV.Cell → Prop) : (sel S π).Pairwise LexL := (grid_sorted _ _).filter _
theorem sel_nodup (S : Sec) (π : KV.Cell → Prop) : (sel S π).Nodup := lex_nodup (sel_sorted S π)
theorem sel_length {S : Sec} (wf : Wf S) (π : KV.Cell → Prop) : (sel S π).length ≤ 54 := Nat.le_trans (List.length_filter_le _ _) (cells_length wf)
theorem sel_eq {S : Sec} {π ρ : KV.Cell → Prop} (h : ∀ c, InG S c → (π c ↔ ρ c)) : sel S π = sel S ρ := by
  unfold sel
  refine List.filter_congr fun c hc => ?_
  have := h c (mem_cells.mp hc)
  by_cases hp : π c
  · have := this.mp hp; simp [hp, this]
  · have q : ¬ ρ c := fun z => hp (this.mpr z); simp [hp, q]
/-- a list of the same cells, ascending -/
theorem sel_perm {S : Sec} {π : KV.Cell → Prop} {l : List KV.Cell} (hn : l.Nodup) (h : ∀ c, c ∈ l ↔ InG S c ∧ π c) : l.Perm (sel S π) :=
  (List.perm_ext_iff_of_nodup hn (sel_nodup S π)).mpr fun c => by rw [h, mem_sel]
end KS
/-! KCal -/
set_option Elab.async false
set_option linter.all false
set_option maxRecDepth 100000
set_option maxHeartbeats 4000000
namespace KC
open PySem L2 KV KR
/-- the names that the module leaves to the built-ins -/
structure Blt (mg : Str → Option Value) : Prop where
  abs : mg "abs" = none
  all : mg "all" = none
  any : mg "any" = none
  bool : mg "bool" = none
  dict : mg "dict" = none
  enumerate : mg "enumerate" = none
  int : mg "int" = none
  isinstance : mg "isinstance" = none
  len : mg "len" = none
  list : mg "list" = none
  max : mg "max" = none
  min : mg "min" = none
  range : mg "range" = none
  set : mg "set" = none
  sorted : mg "sorted" = none
  str : mg "str" = none
  sum : mg "sum" = none
  tuple : mg "tuple" = none
  zip : mg "zip" = none
  PAIR : ∃ t, mg "PAIR" = some (.int 2 t)
  AIR : ∃ t, mg "AIR" = some (.int 0 t)
theorem bt_abs : bootBuiltins "abs" = some (.builtin "abs") := by decide +kernel
theorem bt_all : bootBuiltins "all" = some (.builtin "all") := by decide +kernel
theorem bt_any : bootBuiltins "any" = some (.builtin "any") := by decide +kernel
theorem bt_bool : bootBuiltins "bool" = some (.type "bool") := by decide +kernel
theorem bt_dict : bootBuiltins "dict" = some (.type "dict") := by decide +kernel
theorem bt_int : bootBuiltins "int" = some (.type "int") := by decide +kernel
theorem bt_isinstance : bootBuiltins "isinstance" = some (.builtin "isinstance") := by decide +kernel
theorem bt_len : bootBuiltins "len" = some (.builtin "len") := by decide +kernel
theorem bt_list : bootBuiltins "list" = some (.type "list") := by decide +kernel
theorem bt_max : bootBuiltins "max" = some (.builtin "max") := by decide +kernel
theorem bt_min : bootBuiltins "min" = some (.builtin "min") := by decide +kernel
theorem bt_set : bootBuiltins "set" = some (.type "set") := by decide +kernel
theorem bt_sorted : bootBuiltins "sorted" = some (.builtin "sorted") := by decide +kernel
theorem bt_str : bootBuiltins "str" = some (.type "str") := by decide +kernel
theorem bt_sum : bootBuiltins "sum" = some (.builtin "sum") := by decide +kernel
theorem bt_tuple : bootBuiltins "tuple" = some (.type "tuple") := by decide +kernel
theorem kt_int_int : kitB "int" "int" = some true := by decide +kernel
theorem kt_int_bool : kitB "int" "bool" = some false := by decide +kernel
theorem kt_int_str : kitB "int" "str" = some false := by decide +kernel
theorem kt_int_list : kitB "int" "list" = some false := by decide +kernel
theorem kt_int_tuple : kitB "int" "tuple" = some false := by decide +kernel
theorem kt_tuple_tuple : kitB "tuple" "tuple" = some true := by decide +kernel
theorem kt_tuple_list : kitB "tuple" "list" = some false := by decide +kernel
theorem kt_list_list : kitB "list" "list" = some true := by decide +kernel
theorem kt_list_tuple : kitB "list" "tuple" = some false := by decide +kernel
theorem kt_NoneType_list : kitB "NoneType" "list" = some false := by decide +kernel
theorem kt_NoneType_tuple : kitB "NoneType" "tuple" = some false := by decide +kernel
theorem kt_NoneType_bool : kitB "NoneType" "bool" = some false := by decide +kernel
theorem kt_NoneType_str : kitB "NoneType" "str" = some false := by decide +kernel
theorem kt_bool_bool : kitB "bool" "bool" = some true := by decide +kernel
theorem kt_bool_list : kitB "bool" "list" = some false := by decide +kernel
theorem kt_bool_tuple : kitB "bool" "tuple" = some false := by decide +kernel
theorem op_mulX {X : Cx} : OpR X (binaryOp .Mult) (rI (fun i j => IntMulOk i j) fun i j => .int (i * j)) := opI fun _ _ _ _ _ _ _ hc q => PyProof.Rows.mul_int q hc
/-- a def as the top has left it -/
structure Df (K : PySem.W.Frag) (mg : Str → Option Value) (x : Str) (i : Nat) : Prop where
  ex : ∃ f fd, FunD K x x (defArgs (KH.top i)) (defBody (KH.top i)) (defScope (KH.top i)) [] [] f fd ∧ mg x = some (.ref f)
/-- a def that keeps its promise -/
structure Cal (P : Program) (w : World) (K : PySem.W.Frag) (mg : Str → Option Value) (base : Heap) (x : Str) (ps : List Str) (k : Nat) (sp : Sp) : Prop where
  ex : ∃ f fd, FnOk P w K mg base CX0 k f fd ps sp ∧ mg x = some (.ref f) ∧ PySem.W.keepIn K (.ref f) = true ∧ Binds K fd ps [] ∧ ∃ oc od osl, K.lookup f = some ⟨oc, od, .func fd, osl⟩
section
variable {X : Cx} {x : Str} {ps : List Str} {k k' : Nat} {sp : Sp} {p pos : Pos} {e : Expr} {es : List Expr} {t : TA}
theorem pe_cal (C : Cal X.prog X.w X.K X.mg X.base x ps k sp) (hr : Room k' X.A) (hg : Gl X x) (ha : PA X (e :: es) t) (hk : k ≤ k' := by first | decide | exact Nat.le_refl _ | omega) (hdb : (x == ("__debug__" : Str)) = false := by decide)
    (he : starEach (e :: es) X.env = (false, eval e X.env) :: starEach es X.env := by rfl) (hpl : (backTo pos (starEach es X.env)).any (·.1) = false := by rfl) : PE X (.Call (.Name x p) (e :: es) [] pos) (tCall sp [] E0 t) := by
  obtain ⟨f, fd, F, m, kp, b, _⟩ := C.ex
  exact pe_call F (hr.mono hk) hg m kp b .nil pass0 ha hdb he hpl
theorem pe_cal0 (C : Cal X.prog X.w X.K X.mg X.base x ps k sp) (hr : Room k' X.A) (hg : Gl X x) (hk : k ≤ k' := by first | decide | exact Nat.le_refl _ | omega) (hdb : (x == ("__debug__" : Str)) = false := by decide) : PE X (.Call (.Name x p) [] [] pos) (tCall sp [] E0 tNil) := by
  obtain ⟨f, fd, F, m, kp, b, _⟩ := C.ex
  exact pe_call0 F (hr.mono hk) hg m kp b .nil pass0 hdb
end
abbrev Xo (P : Program) (w : World) (K : PySem.W.Frag) (mg : Str → Option Value) (base : Heap) (N : List Str) (x : Str) (i : Nat) (f : Addr) (cdv : Value) (A : Around) (outer : List Env) (s : Shared) (H : Hp) : Cx :=
  (cxOf CX0 P w K mg base N x (defScope (KH.top i)) f cdv A outer s H E0).nox
section
variable {P : Program} {w : World} {K : PySem.W.Frag} {mg : Str → Option Value} {base : Heap} {x : Str} {i k : Nat} {N ps : List Str}
theorem cal_raw {sp : Sp} (D : Df K mg x i) (S : FnScope N ps (defScope (KH.top i)))
    (hb : ∀ (kV doc pm : Value) (an : Option Addr) (cdv ct : Value) (us : List Value), us.length = ps.length → bindArgs (PySem.W.fnOf x x (defArgs (KH.top i)) (defBody (KH.top i)) (defScope (KH.top i)) .none kV doc pm an cdv ct) ⟨us, []⟩ = pure (ps.zip us))
    (len : ∀ vs H Q E, sp vs H Q E → vs.length = ps.length)
    (body : ∀ (f : Addr) (cdv : Value) (A : Around) (outer : List Env) (s : Shared) (H : Hp) (vs : List V) (Q : VK) (E : XK), Room k (Xo P w K mg base N x i f cdv A outer s H).A → sp vs H Q E →
      ∃ t, PSs (Xo P w K mg base N x i f cdv A outer s H) (defBody (KH.top i)) t ∧ t { nx := fun _ H' => Q .non H', rt := Q } (start N vs) H) : Cal P w K mg base x ps (k + 1) sp := by
  obtain ⟨f, fd, F, m⟩ := D.ex
  have lk : ∃ oc od osl, K.lookup f = some ⟨oc, od, .func fd, osl⟩ := by
    obtain ⟨oc, od, dV, kV, doc, pm, an, cdv, ct, osl, _, lk, _⟩ := F.ex
    exact ⟨oc, od, osl, lk⟩
  refine ⟨f, fd, F.ok S len fun cdv A outer s H vs Q E hr h => ?_, m, F.kp, F.bindsN hb, lk⟩
  obtain ⟨t, h1, h2⟩ := body f cdv A outer s H vs Q E hr h
  exact ⟨t, PSs.nox h1, h2⟩
theorem env_start {G : Hp} {vs : List V} {es : List En} (h : ErAll G vs es) : ∀ n : Nat, EnvOk G (vs.map some ++ List.replicate n none) (es ++ List.replicate n .unk) := by
  intro n
  induction h with
  | nil =>
    induction n with
    | zero => exact .nil
    | succ n ih => exact .cons .unk ih
  | cons h _ ih => exact .cons (.some h) ih
theorem erAll_len {G : Hp} {vs : List V} {es : List En} (h : ErAll G vs es) : vs.length = es.length := by
  induction h with
  | nil => rfl
  | cons _ _ ih => exact congrArg Nat.succ ih
/-- the slots at the entry -/
abbrev ent0 (N : List Str) (es : List En) : List En := es ++ List.replicate (N.length - es.length) .unk
theorem cal_pure {R : List En → (En → Prop) → Prop} (D : Df K mg x i) (S : FnScope N ps (defScope (KH.top i)))
    (hb : ∀ (kV doc pm : Value) (an : Option Addr) (cdv ct : Value) (us : List Value), us.length = ps.length → bindArgs (PySem.W.fnOf x x (defArgs (KH.top i)) (defBody (KH.top i)) (defScope (KH.top i)) .none kV doc pm an cdv ct) ⟨us, []⟩ = pure (ps.zip us))
    (len : ∀ es Φ, R es Φ → es.length = ps.length)
    (body : ∀ (f : Addr) (cdv : Value) (A : Around) (outer : List Env) (s : Shared) (H : Hp) (es : List En) (Φ : En → Prop), Room k (Xo P w K mg base N x i f cdv A outer s H).A → R es Φ →
      ∃ t, PSs (Xo P w K mg base N x i f cdv A outer s H) (defBody (KH.top i)) t ∧ Bs t (ent0 N es) Φ) : Cal P w K mg base x ps (k + 1) (spE R) :=
  cal_raw D S hb (fun vs H Q E h => by
    obtain ⟨O, es, Φ, _, h2, h3, _⟩ := h
    rw [erAll_len h2]
    exact len es Φ h3) fun f cdv A outer s H vs Q E hr h => by
    obtain ⟨O, es, Φ, h1, h2, h3, h4⟩ := h
    obtain ⟨t, p, b⟩ := body f cdv A outer s H es Φ hr h3
    refine ⟨t, p, b _ H O _ h1 ?_ fun v H2 e z s r => h4 v H2 e z s r⟩
    unfold L2.start
    rw [erAll_len h2]
    exact env_start h2 _
end
/-- a promise by data alone: on data ds it gives d -/
abbrev rD (n : Nat) (P : List PyData → PyData → Prop) : List En → (En → Prop) → Prop := rF n P
theorem rD_len {n : Nat} {P : List PyData → PyData → Prop} : ∀ es Φ, rD n P es Φ → es.length = n := fun es Φ h => by
  obtain ⟨ds, d, hn, rfl, _, _⟩ := h
  rw [List.length_map, hn]
end KC
/-! KD -/
set_option Elab.async false
set_option linter.all false
set_option maxRecDepth 100000
set_option maxHeartbeats 4000000
namespace KD
open PySem L2 KV KR KS KC
/-- code that is never come to -/
def tNo : TE := fun _ _ _ => False
theorem pe_no {X : Cx} {e : Expr} : PE X e tNo := ⟨fun _ _ _ _ _ _ h => h.elim⟩
/-! ### data to tuples, to lists -/
def tupD : Nat → PyData → PyData
  | 0, d => d
  | n + 1, d => match seqOf d with
    | some ds => .tuple (ds.map (tupD n))
    | none => d
def lstF : Nat → PyData → PyData
  | 0, d => d
  | n + 1, d => match seqOf d with
    | some ds => .list (ds.map (lstF n))
    | none => d
def okD : Nat → PyData → Prop
  | 0, d => ∃ i, d = .int i
  | n + 1, d => (∃ i, d = .int i) ∨ ∃ ds, (d = .list ds ∨ d = .tuple ds) ∧ ds.length ≤ 1000 ∧ ∀ e ∈ ds, okD n e
theorem tupD_int (n : Nat) (i : Int) : tupD n (.int i) = .int i := by cases n <;> rfl
theorem lstF_int (n : Nat) (i : Int) : lstF n (.int i) = .int i := by cases n <;> rfl
theorem okD_int (n : Nat) (i : Int) : okD n (.int i) := by
  cases n with
  | zero => exact ⟨i, rfl⟩
  | succ n => exact .inl ⟨i, rfl⟩
def lstD (S : Sec) : PyData := .list (S.map fun c => .list (c.map .int))
theorem okD_col (c : List Int) (h : c.length ≤ 1000) : okD 1 (colD c) := .inr ⟨_, .inr rfl, by simpa using h, fun e he => by
  obtain ⟨i, _, rfl⟩ := List.mem_map.mp he
  exact ⟨i, rfl⟩⟩
theorem okD_lcol (c : List Int) (h : c.length ≤ 1000) : okD 1 (.list (c.map .int)) := .inr ⟨_, .inl rfl, by simpa using h, fun e he => by
  obtain ⟨i, _, rfl⟩ := List.mem_map.mp he
  exact ⟨i, rfl⟩⟩
theorem tupD_col (c : List Int) : tupD 1 (colD c) = colD c := by
  show PyData.tuple ((c.map PyData.int).map (tupD 0)) = .tuple (c.map .int)
  rw [List.map_map]; rfl
theorem tupD_lcol (c : List Int) : tupD 1 (.list (c.map .int)) = colD c := by
  show PyData.tuple ((c.map PyData.int).map (tupD 0)) = .tuple (c.map .int)
  rw [List.map_map]; rfl
theorem okD_sec {S : Sec} (wf : Wf S) : okD 2 (secD S) := .inr ⟨_, .inr rfl, by have := wf.wide; simp; omega, fun e he => by
  obtain ⟨c, hc, rfl⟩ := List.mem_map.mp he
  exact okD_col c (by rw [wf.same c hc]; have := wf.tall; omega)⟩
theorem okD_lsec {S : Sec} (wf : Wf S) : okD 2 (lstD S) := .inr ⟨_, .inl rfl, by have := wf.wide; simp; omega, fun e he => by
  obtain ⟨c, hc, rfl⟩ := List.mem_map.mp he
  exact okD_lcol c (by rw [wf.same c hc]; have := wf.tall; omega)⟩
theorem tupD_sec (S : Sec) : tupD 2 (secD S) = secD S := by
  show PyData.tuple ((S.map colD).map (tupD 1)) = .tuple (S.map colD)
  rw [List.map_map]
  congr 1
  exact List.map_congr_left fun c _ => tupD_col c
theorem tupD_lsec (S : Sec) : tupD 2 (lstD S) = secD S := by
  show PyData.tuple ((S.map fun c => PyData.list (c.map .int)).map (tupD 1)) = .tuple (S.map colD)
  rw [List.map_map]
  congr 1
  exact List.map_congr_left fun c _ => tupD_lcol c
theorem lstF_sec (S : Sec) : lstF 2 (secD S) = lstD S := by
  show PyData.list ((S.map colD).map (lstF 1)) = .list _
  rw [List.map_map]
  congr 1
  refine List.map_congr_left fun c _ => ?_
  show PyData.list ((c.map PyData.int).map (lstF 0)) = .list (c.map .int)
  rw [List.map_map]; rfl
theorem okD_cell (c : KV.Cell) : okD 1 (cellD c) := .inr ⟨_, .inr rfl, by show 2 ≤ 1000; decide, fun e he => by
  rcases List.mem_cons.mp he with h | h
  · exact ⟨_, h⟩
  · exact ⟨_, List.mem_singleton.mp h⟩⟩
theorem tupD_cell (c : KV.Cell) : tupD 1 (cellD c) = cellD c := rfl
theorem okD_mono : ∀ {n : Nat} {d : PyData}, okD n d → okD (n + 1) d
  | 0, _, ⟨i, e⟩ => .inl ⟨i, e⟩
  | n + 1, _, .inl h => .inl h
  | n + 1, _, .inr ⟨ds, e, hl, h⟩ => .inr ⟨ds, e, hl, fun x hx => okD_mono (h x hx)⟩
theorem tupD_mono : ∀ {n : Nat} {d : PyData}, okD n d → tupD (n + 1) d = tupD n d
  | 0, _, ⟨i, e⟩ => by subst e; rfl
  | n + 1, _, .inl ⟨i, e⟩ => by subst e; rfl
  | n + 1, _, .inr ⟨ds, e, hl, h⟩ => by
    rcases e with rfl | rfl
    · show PyData.tuple (ds.map (tupD (n + 1))) = .tuple (ds.map (tupD n))
      rw [List.map_congr_left fun x hx => tupD_mono (h x hx)]
    · show PyData.tuple (ds.map (tupD (n + 1))) = .tuple (ds.map (tupD n))
      rw [List.map_congr_left fun x hx => tupD_mono (h x hx)]
end KD
/-! KD2 -/
set_option Elab.async false
set_option linter.all false
set_option maxRecDepth 100000
set_option maxHeartbeats 4000000
namespace KV
open PySem L2
variable {K : PySem.W.Frag} {Γ : List En} {ta tb te td ty : TE} {t u tt tt1 : TT}
/-! ### comprehensions over things of any type -/
theorem take_fm {α : Type} {p : α → Bool} {f : α → PyData} {qs : List α} {i : Nat} {q : α} (h : qs[i]? = some q) :
    ((qs.take (i + 1)).filter p).map f = ((qs.take i).filter p).map f ++ (if p q then [f q] else []) := by
  rw [List.take_add_one, h, List.filter_append, List.map_append]
  congr 1
  show (List.filter p [q]).map f = _
  rw [List.filter_cons]
  by_cases hp : p q = true
  · rw [if_pos hp, if_pos hp]; rfl
  · rw [if_neg hp, if_neg hp]; rfl
theorem n_lcA {α : Type} (emb : α → PyData) {wi : TI} {g : TG} {vs js : List Nat} {qs : List α} (Γ' : α → List En) (p : α → Bool) (f : α → PyData) (hs : Src wi Γ (qs.map emb)) (hl : qs.length ≤ 100000)
    (hg : ∀ q ∈ qs, Tg g js (emb q) (wipeG Γ vs) (Γ' q)) (hj : ∀ j ∈ js, j ∈ vs) (ht : ∀ q ∈ qs, Tt tt (Γ' q) (p q)) (he : ∀ q ∈ qs, p q = true → Ed te (Γ' q) (f q)) :
    NL (tLc wi g tt te vs) Γ ((qs.filter p).map f) := fun σ H O l env Q k =>
  hs σ H O l env _ fun J H1 s1 W D hD => by
    rw [List.length_map] at W
    have l1 := l.mono s1
    refine lc_it W (fun i H' => Same H1 H' ∧ ∃ acc, H' D = some (.lst acc) ∧ RpAll (cut (D :: O) H') acc (((qs.take i).filter p).map f)) ⟨same_upd hD, [], upd_same, .nil⟩ (fun i H' _ h => cut_mono h.1) (fun i x H' H2 hi ⟨s2, acc, eD, ra⟩ y => ?_) fun H' ⟨s2, acc, eD, ra⟩ => ?_
    · obtain ⟨s3, d, ed, hr⟩ := y
      rw [List.getElem?_map] at ed
      obtain ⟨q, eq, rfl⟩ := Option.map_eq_some_iff.mp ed
      have hm : q ∈ qs := List.mem_of_getElem? eq
      have l2 : Live (D :: O) H' := (l1.mono s2).cons eD (fun _ z => nomatch z)
      have rx := hr (D :: O) l2 (cut_cons hD s2)
      have l3 := l2.mono s3
      have s13 := s2.trans s3
      have env3 : EnvOk (cut (D :: O) H2) (L2.wipe σ vs) (wipeG Γ vs) := (env.mono ((cut_mono s1).trans (cut_cons hD s13))).wipe vs
      refine hg q hm _ H2 (D :: O) x _ l3 env3 rx fun σ2 env4 hw => ⟨(hw vs hj).trans (wipe_idem σ vs), ?_⟩
      refine ht q hm σ2 H2 (D :: O) l3 env4 _ fun H3 s4 => ?_
      have hz : acc.length < sizeLine := by
        have h1 := ra.length
        rw [List.length_map] at h1
        have h2 := List.length_filter_le p (qs.take i)
        have h3 : (qs.take i).length ≤ qs.length := by rw [List.length_take]; omega
        exact Nat.lt_of_le_of_lt (by omega : acc.length ≤ 100000) (by decide)
      cases hp : p q with
      | true =>
        rw [if_pos rfl]
        refine he q hm hp σ2 H3 (D :: O) (l3.mono s4) (env4.mono (cut_mono s4)) _ fun y H4 _ z s5 r5 => ?_
        subst z
        cases r5 with | dat r5 =>
        have s25 := (s3.trans s4).trans s5
        refine ⟨acc, s25 _ _ eD, hz, fun a o e => ?_, acc ++ [y], upd_same, ?_⟩
        · rw [upd_ne (ne_of_none e hD)]
          exact (s2.trans s25) a o e
        · rw [take_fm eq, if_pos hp, cut_own (by simp)]
          exact (RpAll.mono (cut_mono s25) _ _ ra).append (.cons r5 .nil)
      | false =>
        rw [if_neg (by decide)]
        refine ⟨(s2.trans s3).trans s4, acc, (s3.trans s4) _ _ eD, ?_⟩
        rw [take_fm eq, hp, if_neg (by decide), List.append_nil]
        exact RpAll.mono (cut_mono (s3.trans s4)) _ _ ra
    · rw [List.take_length] at ra
      exact k D H' acc (s1.free hD) (s1.trans s2) eD ra
/-- without a test -/
theorem n_lcB {α : Type} (emb : α → PyData) {wi : TI} {g : TG} {vs js : List Nat} {qs : List α} (Γ' : α → List En) (f : α → PyData) (hs : Src wi Γ (qs.map emb)) (hl : qs.length ≤ 100000)
    (hg : ∀ q ∈ qs, Tg g js (emb q) (wipeG Γ vs) (Γ' q)) (hj : ∀ j ∈ js, j ∈ vs) (he : ∀ q ∈ qs, Ed te (Γ' q) (f q)) : NL (tLc wi g tYes te vs) Γ (qs.map f) := by
  have h := n_lcA (te := te) (tt := tYes) emb Γ' (fun _ => true) f hs hl hg hj (fun _ _ => t_yes) fun d hd _ => he d hd
  rw [List.filter_eq_self.mpr (fun _ _ => rfl)] at h
  exact h
theorem nl_to {ds es : List PyData} (h : NL te Γ ds) (e : ds = es) : NL te Γ es := e ▸ h
end KV
namespace KD
open PySem L2 KV KR KS KC
/-! ### a section by places -/
theorem atI_of {α : Type} {xs : List α} {z : Int} {j : Nat} {v : α} (e : z = (j : Int)) (h : xs[j]? = some v) : atI xs z = some v := by
  rw [e]
  exact atI_nat h
theorem atI_get' {α : Type} {xs : List α} {z : Int} {v : α} (h0 : 0 ≤ z) (h : xs[z.toNat]? = some v) : atI xs z = some v := atI_of (by omega : z = (z.toNat : Int)) h
theorem sec_at {S : Sec} {p : KV.Cell} {v : Int} (h : valAt S p = some v) : ∃ col : List Int, atI (S.map colD) p.1 = some (.tuple (col.map .int)) ∧ atI (col.map PyData.int) p.2 = some (.int v) := by
  unfold valAt at h
  split at h
  · rename_i hp
    obtain ⟨c, e1, e2⟩ := Option.bind_eq_some_iff.mp h
    refine ⟨c, atI_get' hp.1 ?_, atI_get' hp.2 ?_⟩
    · rw [List.getElem?_map, e1]; rfl
    · rw [List.getElem?_map, e2]; rfl
  · cases h
theorem sec_0 {S : Sec} (wf : Wf S) : ∃ col : List Int, atI (S.map colD) 0 = some (.tuple (col.map .int)) ∧ col.length = ht S := by
  obtain ⟨c, hc, hm⟩ := col_at (S := S) (i := 0) (List.length_pos_iff.mpr wf.ne)
  refine ⟨c, atI_of (j := 0) rfl ?_, wf.same c hm⟩
  rw [List.getElem?_map, hc]; rfl
theorem sec_col {S : Sec} {i : Nat} (h : i < S.length) : ∃ col : List Int, atI (S.map colD) (i : Int) = some (.tuple (col.map .int)) ∧ S[i]? = some col ∧ col ∈ S := by
  obtain ⟨c, hc, hm⟩ := col_at h
  refine ⟨c, atI_nat ?_, hc, hm⟩
  rw [List.getElem?_map, hc]; rfl
def inB (S : Sec) (p : KV.Cell) : Bool := (decide (0 ≤ p.1) && decide (p.1 < (S.length : Int))) && (decide (0 ≤ p.2) && decide (p.2 < (ht S : Int)))
theorem inB_iff {S : Sec} {p : KV.Cell} : inB S p = true ↔ InG S p := by
  unfold inB InG
  simp only [Bool.and_eq_true, decide_eq_true_eq, and_assoc]
/-- the cells beside one, as the program tells them -/
def nbs (S : Sec) (c : KV.Cell) : List KV.Cell := ([(c.1 - 1, c.2), (c.1, c.2 - 1), (c.1, c.2 + 1), (c.1 + 1, c.2)] : List KV.Cell).filter (inB S)
theorem mem_nbs {S : Sec} {c q : KV.Cell} : q ∈ nbs S c ↔ KM.Adj c q ∧ InG S q := by
  unfold nbs
  rw [List.mem_filter, inB_iff]
  refine and_congr_left fun _ => ?_
  unfold KM.Adj
  simp only [List.mem_cons, List.not_mem_nil, or_false]
  constructor
  · rintro (h | h | h | h) <;> subst h <;> simp <;> omega
  · intro h
    have e : q = (q.1, q.2) := rfl
    rw [e]
    simp only [Prod.mk.injEq]
    omega
theorem nbs_len (S : Sec) (c : KV.Cell) : (nbs S c).length ≤ 4 := List.length_filter_le _ _
end KD
/-! KX -/
set_option Elab.async false
set_option linter.all false
set_option maxRecDepth 100000
set_option maxHeartbeats 4000000
namespace KX
open PySem L2 KV KR KS KC KD
variable {X : Cx} {K : PySem.W.Frag}
theorem ix_seqK (h : X.K = K) : IxR X (rIx K) := h ▸ ix_seq
theorem ix_listK (h : X.K = K) : IxR X (rIxL K) := h ▸ ix_list
theorem call_len_seqK (h : X.K = K) : CallR X (.builtin "len") fun xs H Q => ∃ p ys, xs = [V.ref p] ∧ (SqL K H p ys ∨ SqT K H p ys) ∧ Q (.int ys.length) H := h ▸ call_len_seq
theorem call_isiK (h : X.K = K) : CallR X (.builtin "isinstance") (rIsi K) := h ▸ call_isi
theorem call_isiTK (h : X.K = K) : CallR X (.builtin "isinstance") (rIsiT K) := h ▸ call_isiT
theorem call_list_ofK (h : X.K = K) : CallR X (.type "list") fun xs H Q => ∃ p ys, xs = [V.ref p] ∧ (SqL K H p ys ∨ SqT K H p ys) ∧ ∀ l, H l = none → Q (.ref l) (upd H l (.lst ys)) := h ▸ call_list_of
theorem call_tuple_ofK (h : X.K = K) : CallR X (.type "tuple") fun xs H Q => ∃ p ys, xs = [V.ref p] ∧ ((SqL K H p ys ∧ ∀ l, H l = none → Q (.ref l) (upd H l (.tup ys))) ∨ SqT K H p ys ∧ Q (.ref p) H) := h ▸ call_tuple_of
theorem op_in_seqK (h : X.K = K) : OpR X (compareOp .In) (rIn K false) := h ▸ op_in_seq
theorem op_notIn_seqK (h : X.K = K) : OpR X (compareOp .NotIn) (rIn K true) := h ▸ op_notIn_seq
theorem sl_tupAK (h : X.K = K) : SlR X (rSlA K) := h ▸ sl_tupA
theorem sl_listK (h : X.K = K) : SlR X (rSlL K) := h ▸ sl_list
theorem op_catAK (h : X.K = K) : OpR X (binaryOp .Add) (rCatA K) := h ▸ op_catA
theorem mt_lcountK (h : X.K = K) : MtR X "list.count" (rCntI K) := h ▸ mt_lcount
theorem cr_anyK (h : X.K = K) (hc : X.calm = true) : CallR X (.builtin "any") (rAny K) := h ▸ cr_any hc
theorem cr_allK (h : X.K = K) (hc : X.calm = true) : CallR X (.builtin "all") (rAll K) := h ▸ cr_all hc
theorem cr_maxK (h : X.K = K) (hc : X.calm = true) : CallR X (.builtin "max") (rMax K) := h ▸ cr_max hc
theorem call_sumTK (h : X.K = K) (hc : X.calm = true) : CallR X (.builtin "sum") (rSumT K) := h ▸ call_sumT hc
theorem op_eqDK (h : X.K = K) (hc : X.A.units + 64 < cLine) : OpR X (compareOp .Eq) (rEqD K) := h ▸ op_eqD hc
theorem op_neDK (h : X.K = K) (hc : X.A.units + 64 < cLine) : OpR X (compareOp .NotEq) (rNeD K) := h ▸ op_neD hc
theorem call_dictTK (h : X.K = K) (hc : X.calm = true) (hu : X.A.units + 64 < cLine) : CallR X (.type "dict") (rDictT K) := h ▸ call_dictT hc hu
theorem pi_listK (h : X.K = K) {tg l : Expr} {tl : TE} (a : PE X l tl) : PI X tg l (iList K tl) := h ▸ pi_list a
theorem pi_tupK (h : X.K = K) {tg l : Expr} {tl : TE} (a : PE X l tl) : PI X tg l (iTup K tl) := h ▸ pi_tup a
section
variable {e e2 : Expr} {ta : TA} {p pos tpos : Pos} {elts : List Expr} {kk : Nat}
theorem pi_enumK (h : X.K = K) (g : Gl X "enumerate") (m : X.mg "enumerate" = none) (a : PA X [e] ta) (hs : starEach [e] X.env = [(false, eval e X.env)] := by rfl) : PI X (.Tuple elts kk tpos) (.Call (.Name "enumerate" p) [e] [] pos) (iEnum K ta) := h ▸ pi_enum g m a hs
theorem pi_enTK (h : X.K = K) (g : Gl X "enumerate") (m : X.mg "enumerate" = none) (a : PA X [e] ta) (hs : starEach [e] X.env = [(false, eval e X.env)] := by rfl) : PI X (.Tuple elts kk tpos) (.Call (.Name "enumerate" p) [e] [] pos) (iEnT K ta) := h ▸ pi_enT g m a hs
theorem pi_zipAK (h : X.K = K) (g : Gl X "zip") (m : X.mg "zip" = none) (a : PA X [e, e2] ta) (hs : starEach [e, e2] X.env = (false, eval e X.env) :: starEach [e2] X.env := by rfl) (hp : ((backTo pos (starEach [e2] X.env)).any fun x => x.fst) = false := by rfl) : PI X (.Tuple elts kk tpos) (.Call (.Name "zip" p) [e, e2] [] pos) (RZ.iZipA K ta) := h ▸ RZ.pi_zipA g m a hs hp
end
theorem pg_tupK (h : X.K = K) {pos : Pos} {es : List Expr} {k : Nat} {t : TGs} {n : Nat} (hc : X.calm = true) (a : PGs X es t) (hl : (assignEach es X.env).length = n := by rfl) (hf : List.findIdx? (fun x => x.fst) (assignEach es X.env) = none := by rfl) : PG X (.Tuple es k pos) (gTup K n t) := h ▸ pg_tup hc a hl hf
theorem pe_orTK (h : X.K = K) {a b : Expr} {ta tb : TE} {rest : List Expr} {pos : Pos} (x : PE X a ta) (y : PE X (.BoolOp .Or (b :: rest) pos) tb) : PE X (.BoolOp .Or (a :: b :: rest) pos) (tOrT K ta tb) := h ▸ pe_orT x y
section
variable {o e : Expr} {es : List Expr} {to : TE} {t : TA} {name : Str} {apos cpos : Pos} {T id : String} {r : V → List V → Hp → VK → Prop}
theorem pe_bmK (h : X.K = K) (pa : PlainAttrs T) (sl : Slot T name id) (ty : typeOf (.builtin id) = pure (.type "method_descriptor")) (m : MtR X id r) (po : PE X o to) (pp : PA X (e :: es) t)
    (h1 : attributeBase o name X.env (eval o X.env) = eval o X.env := by rfl)
    (h2 : (((backTo cpos (starEach (e :: es) X.env)).all fun x => !x.fst) && (backToKw cpos (keywordEach [] X.env)).all (fun x => x.fst.isSome) && decide (((e :: es).length + ([] : List Keyword).length + if ([] : List Keyword).isEmpty = true then 0 else 1) < 30)) = true := by rfl)
    (h3 : (apos.endLine == cpos.line) = true := by rfl) (h4 : starEach (e :: es) X.env = (false, eval e X.env) :: starEach es X.env := by rfl) (h5 : ((backTo cpos (starEach es X.env)).any fun x => x.fst) = false := by rfl) :
    PE X (.Call (.Attribute o name apos) (e :: es) [] cpos) (tBM K T r to t) := h ▸ pe_bm pa sl ty m po pp h1 h2 h3 h4 h5
theorem pe_bm0K (h : X.K = K) (pa : PlainAttrs T) (sl : Slot T name id) (ty : typeOf (.builtin id) = pure (.type "method_descriptor")) (m : MtR X id r) (po : PE X o to)
    (h1 : attributeBase o name X.env (eval o X.env) = eval o X.env := by rfl) (h3 : (apos.endLine == cpos.line) = true := by rfl) :
    PE X (.Call (.Attribute o name apos) [] [] cpos) (tBM0 K T r to) := h ▸ pe_bm0 pa sl ty m po h1 h3
end
/-- the two-argument methods of dicts -/
theorem m2_of {o : Expr} {m : Str} {apos : Pos} {e f : Expr} {cpos : Pos} (base : attributeBase o m X.env (eval o X.env) = eval o X.env := by rfl)
    (few : ((((backTo cpos (starEach [e, f] X.env)).all fun x => !x.fst) && (backToKw cpos (keywordEach [] X.env)).all fun x => x.fst.isSome) && decide (([e, f].length + ([] : List Keyword).length + if ([] : List Keyword).isEmpty = true then 0 else 1) < 30)) = true := by rfl)
    (line : (apos.endLine == cpos.line) = true := by rfl) (trees : backTo cpos (starEach [e, f] X.env) = [(false, eval e X.env), (false, eval f X.env)] := by rfl) : M2 X o m apos e f cpos := ⟨base, few, line, trees⟩
end KX
/-! KW -/
set_option Elab.async false
set_option linter.all false
set_option maxRecDepth 100000
set_option maxHeartbeats 4000000
namespace KV
open PySem L2
variable {K : PySem.W.Frag} {Γ : List En} {ta tb te td ty : TE} {t u tt tt1 : TT}
/-! ### a comprehension of two clauses -/
theorem loop2 {J : It} {n : Nat} {G : Hp → Prop} {Y : Nat → Hp → V → Hp → Prop} (wk : Walk J n G Y) {g1 : TG} {tt1 : TT} {te : TE} {ws : List Nat} {τ : St} {G0 : Hp} {D : Addr} {Fin : Hp → Prop} (Iv : Nat → Hp → Prop) (first : Iv 0 G0) (keep : ∀ i H, i ≤ n → Iv i H → G H)
    (turn : ∀ i x H H', i < n → Iv i H → Y i H x H' → g1 x (L2.wipe τ ws) H' fun τ2 H2 => L2.wipe τ2 ws = L2.wipe τ ws ∧ tt1 τ2 H2 fun b H3 =>
      if b = true then te τ2 H3 fun y H4 => ∃ acc, H4 D = some (.lst acc) ∧ acc.length < sizeLine ∧ Iv (i + 1) (upd H4 D (.lst (acc ++ [y]))) else Iv (i + 1) H3) (last : ∀ H, Iv n H → Fin H) :
    ∃ W1 : Nat → Nat → Hp → Prop, (∃ m, W1 0 m G0) ∧ ∀ j k H, W1 j k H →
      (J.stop j H ∧ Fin H) ∨ (J.go j H ∧ ∃ N1 : Hp → Prop, (∀ H', N1 H' → ∃ k', k' < k ∧ W1 (j + 1) k' H') ∧ ∀ x H', J.yld j H x H' → g1 x (L2.wipe τ ws) H' fun τ3 H5 => L2.wipe τ3 ws = L2.wipe τ ws ∧ tt1 τ3 H5 fun b H6 =>
        if b = true then te τ3 H6 fun y H7 => ∃ acc, H7 D = some (.lst acc) ∧ acc.length < sizeLine ∧ N1 (upd H7 D (.lst (acc ++ [y]))) else N1 H6) := by
  refine ⟨fun j k H => k + j = n ∧ Iv j H, ⟨n, by omega, first⟩, fun j k H ⟨e, iv⟩ => ?_⟩
  have gg := keep j H (by omega) iv
  cases k with
  | zero =>
    have e : j = n := by omega
    subst e
    exact .inl ⟨wk.stops H gg, last H iv⟩
  | succ k => exact .inr ⟨wk.goes j H (by omega) gg, Iv (j + 1), fun H' iv' => ⟨k, by omega, by omega, iv'⟩, fun x H' yy => turn j x H H' (by omega) iv (wk.yields j H x H' (by omega) gg yy)⟩
theorem tYes_if {σ : St} {H : Hp} {A B : Hp → Prop} (h : A H) : tYes σ H (fun b H3 => if b = true then A H3 else B H3) := by
  show (if true = true then A H else B H)
  rw [if_pos rfl]
  exact h
theorem n_lc2 {α β : Type} (emb : α → PyData) (emb1 : β → PyData) {wi wi1 : TI} {g g1 : TG} {vs vs1 js js1 : List Nat} {qs : List α} (rs : α → List β) (Γ1 : α → List En) (Γ2 : α → β → List En) (p : α → β → Bool) (f : α → β → PyData)
    (hs : Src wi Γ (qs.map emb)) (hg : ∀ q ∈ qs, Tg g js (emb q) (wipeG Γ vs) (Γ1 q)) (hj : ∀ j ∈ js, j ∈ vs) (hs1 : ∀ q ∈ qs, Src wi1 (Γ1 q) ((rs q).map emb1))
    (hg1 : ∀ q ∈ qs, ∀ r ∈ rs q, Tg g1 js1 (emb1 r) (wipeG (Γ1 q) vs1) (Γ2 q r)) (hj1 : ∀ j ∈ js1, j ∈ vs1) (hsz : ∀ i, (((qs.take i).flatMap rs).length ≤ 50000) ∧ ∀ q ∈ qs, (rs q).length ≤ 10000)
    (ht : ∀ q ∈ qs, ∀ r ∈ rs q, Tt tt1 (Γ2 q r) (p q r)) (he : ∀ q ∈ qs, ∀ r ∈ rs q, p q r = true → Ed te (Γ2 q r) (f q r)) :
    NL (tLc2 wi g tYes wi1 g1 tt1 te vs vs1) Γ (qs.flatMap fun q => ((rs q).filter (p q)).map (f q)) := fun σ H O l env Q k =>
  hs σ H O l env _ fun J H1 s1 W D hD => by
    rw [List.length_map] at W
    have l1 := l.mono s1
    let F : α → List PyData := fun q => ((rs q).filter (p q)).map (f q)
    have lenF : ∀ i, ((qs.take i).flatMap F).length ≤ 50000 := fun i => by
      refine Nat.le_trans ?_ (hsz i).1
      rw [List.length_flatMap, List.length_flatMap]
      generalize qs.take i = L
      induction L with
      | nil => simp
      | cons a L ih =>
        have : (F a).length ≤ (rs a).length := by show (((rs a).filter (p a)).map (f a)).length ≤ _; rw [List.length_map]; exact List.length_filter_le _ _
        simp only [List.map_cons, List.sum_cons]
        omega
    have sb := same_upd (o := .lst []) hD
    obtain ⟨W0, w0, ws⟩ : ∃ W : Nat → Nat → Hp → Prop, W = (fun i m H' => m + i = qs.length ∧ Same H1 H' ∧ ∃ acc, H' D = some (.lst acc) ∧ RpAll (cut (D :: O) H') acc ((qs.take i).flatMap F)) ∧ True := ⟨_, rfl, trivial⟩
    refine ⟨W0, ⟨qs.length, by rw [w0]; exact ⟨by omega, sb, [], upd_same, .nil⟩⟩, fun i m H' wW => ?_⟩
    rw [w0] at wW
    obtain ⟨em, s2, acc, eD, ra⟩ := wW
    cases m with
    | zero =>
      have ei : i = qs.length := by omega
      subst ei
      rw [List.take_length] at ra
      exact .inl ⟨W.stops H' (cut_mono s2), k D H' acc (s1.free hD) (s1.trans s2) eD ra⟩
    | succ m =>
      refine .inr ⟨W.goes i H' (by omega) (cut_mono s2), fun H'' => Same H1 H'' ∧ ∃ acc, H'' D = some (.lst acc) ∧ RpAll (cut (D :: O) H'') acc ((qs.take (i + 1)).flatMap F), fun H'' h => ⟨m, by omega, by rw [w0]; exact ⟨by omega, h⟩⟩, fun x H2 y => ?_⟩
      obtain ⟨s3, d, ed, hr⟩ := W.yields i H' x H2 (by omega) (cut_mono s2) y
      rw [List.getElem?_map] at ed
      obtain ⟨q, eq, rfl⟩ := Option.map_eq_some_iff.mp ed
      have hm : q ∈ qs := List.mem_of_getElem? eq
      have l2 : Live (D :: O) H' := (l1.mono s2).cons eD (fun _ z => nomatch z)
      have rx := hr (D :: O) l2 (cut_cons hD s2)
      have l3 := l2.mono s3
      have s13 := s2.trans s3
      have env3 : EnvOk (cut (D :: O) H2) (L2.wipe σ vs) (wipeG Γ vs) := (env.mono ((cut_mono s1).trans (cut_cons hD s13))).wipe vs
      have eTake : (qs.take (i + 1)).flatMap F = (qs.take i).flatMap F ++ F q := by rw [List.take_add_one, eq, List.flatMap_append]; simp
      refine hg q hm _ H2 (D :: O) x _ l3 env3 rx fun σ2 env4 hw => ⟨(hw vs hj).trans (wipe_idem σ vs), ?_⟩
      refine tYes_if ?_
      refine hs1 q hm σ2 H2 (D :: O) l3 env4 _ fun J1 H3 s4 W1 => ?_
      rw [List.length_map] at W1
      have s14 := s13.trans s4
      have back : ∀ {H' : Hp}, But D H3 H' → Same H1 H' := fun b a o e => b a o (ne_of_none e hD) (s14 a o e)
      refine loop2 W1 (fun j H' => But D H3 H' ∧ ∃ acc, H' D = some (.lst acc) ∧ RpAll (cut (D :: O) H') acc ((qs.take i).flatMap F ++ (((rs q).take j).filter (p q)).map (f q))) ⟨fun b o _ e => e, acc, (s3.trans s4) _ _ eD, by simpa using RpAll.mono (cut_mono (s3.trans s4)) _ _ ra⟩ (fun j H' _ h => h.1.cut (by simp)) (fun j x H5 H6 hj' ⟨s5, acc, eD, ra⟩ y => ?_) fun H' ⟨s5, acc, eD, ra⟩ => ⟨back s5, acc, eD, by rw [eTake]; rw [List.take_length] at ra; exact ra⟩
      obtain ⟨s6, d, ed, hr⟩ := y
      rw [List.getElem?_map] at ed
      obtain ⟨r, er, rfl⟩ := Option.map_eq_some_iff.mp ed
      have hmr : r ∈ rs q := List.mem_of_getElem? er
      have l5 : Live (D :: O) H5 := (l3.mono s4).but s5 ⟨_, eD, fun _ z => nomatch z⟩
      have rx := hr (D :: O) l5 (s5.cut (by simp))
      have l6 := l5.mono s6
      have b46 : But D H3 H6 := fun b o n e => s6 _ _ (s5 b o n e)
      have env6 : EnvOk (cut (D :: O) H6) (L2.wipe σ2 vs1) (wipeG (Γ1 q) vs1) := ((env4.mono (cut_mono s4)).mono (b46.cut (by simp))).wipe vs1
      refine hg1 q hm r hmr _ H6 (D :: O) x _ l6 env6 rx fun σ3 env7 hw1 => ⟨(hw1 vs1 hj1).trans (wipe_idem σ2 vs1), ?_⟩
      refine ht q hm r hmr σ3 H6 (D :: O) l6 env7 _ fun H7 s7 => ?_
      have hz : acc.length < sizeLine := by
        have h1 := ra.length
        rw [List.length_append, List.length_map] at h1
        have h2 := List.length_filter_le (p q) ((rs q).take j)
        have h3 : ((rs q).take j).length ≤ (rs q).length := by rw [List.length_take]; omega
        have h4 := lenF i
        have h5 := (hsz i).2 q hm
        exact Nat.lt_of_le_of_lt (by omega : acc.length ≤ 100000) (by decide)
      cases hp : p q r with
      | true =>
        rw [if_pos rfl]
        refine he q hm r hmr hp σ3 H7 (D :: O) (l6.mono s7) (env7.mono (cut_mono s7)) _ fun y H8 _ z s8 r8 => ?_
        subst z
        cases r8 with | dat r8 =>
        have s58 := (s6.trans s7).trans s8
        refine ⟨acc, s58 _ _ eD, hz, fun a o n e => ?_, acc ++ [y], upd_same, ?_⟩
        · rw [upd_ne n]
          exact s58 _ _ (s5 a o n e)
        · rw [take_fm er, if_pos hp, cut_own (by simp), ← List.append_assoc]
          exact (RpAll.mono (cut_mono s58) _ _ ra).append (.cons r8 .nil)
      | false =>
        rw [if_neg (by decide)]
        refine ⟨fun a o n e => s7 _ _ (s6 _ _ (s5 a o n e)), acc, (s6.trans s7) _ _ eD, ?_⟩
        rw [take_fm er, hp, if_neg (by decide), List.append_nil]
        exact RpAll.mono (cut_mono (s6.trans s7)) _ _ ra
end KV
/-! KStm -/
set_option Elab.async false
set_option linter.all false
set_option maxRecDepth 100000
set_option maxHeartbeats 4000000
namespace KV
open PySem L2 KR
variable {K : PySem.W.Frag} {Γ : List En} {ta tb te td ty tv to : TE} {t u tt tt1 : TT} {D : Ends} {σ : St} {H : Hp} {O : List Addr} {tz ts tr : TS}
/-! ### data of cells, compared with nothing -/
theorem depthAll_cells : ∀ cs : List Cell, PyData.depthAll (cs.map cellD) ≤ 2
  | [] => by simp [PyData.depthAll]
  | c :: r => by
    have := depthAll_cells r
    simp only [List.map_cons, PyData.depthAll, PyData.depth, cellD]
    omega
theorem canLay_cells : ∀ cs : List Cell, PyData.canLayAll0 (cs.map cellD) = true
  | [] => by simp [PyData.canLayAll0]
  | c :: r => by simp [PyData.canLayAll0, PyData.canLay0, cellD, canLay_cells r]
theorem shaped_cells (cs : List Cell) : SeqAt.shaped (.list (cs.map cellD)) = true := by
  have h1 := depthAll_cells cs
  show (PyData.canLay0 (.list (cs.map cellD)) && decide (PyData.depth (.list (cs.map cellD)) ≤ 64)) = true
  rw [Bool.and_eq_true]
  exact ⟨by simp only [PyData.canLay0]; exact canLay_cells cs, decide_eq_true (by simp only [PyData.depth]; omega)⟩
theorem eqv_nil (ds : List PyData) : PyData.eqv (.list ds) (.list []) = ds.isEmpty := by
  cases ds <;> simp [PyData.eqv, PyData.eqvAll]
theorem shaped_nil : SeqAt.shaped (.list []) = true := by simp [SeqAt.shaped, PyData.canLay0, PyData.canLayAll0, PyData.depth, PyData.depthAll]
/-- e != [] -/
theorem e_neNil {ds : List PyData} (h : Ed te Γ (.list ds)) (hs : SeqAt.shaped (.list ds) = true) : Ed (tOp (rNeD K) te (tLst tNil)) Γ (.bool (!ds.isEmpty)) := by
  have z := e_neD (K := K) h (n_lst (ds := []) a_nil).e hs shaped_nil
  rw [eqv_nil] at z
  exact z
/-- p != [], p owned -/
theorem t_neNil {i : Nat} {p : Addr} {xs : List V} {ds : List PyData} {Q : Bool → Hp → Prop} (env : EnvOk (cut O H) σ Γ) (hi : Γ[i]? = some (.ptr p)) (eP : H p = some (.lst xs)) (r : RpAll H xs ds) (hs : SeqAt.shaped (.list ds) = true) (q : ∀ H1, Same H H1 → Q (!ds.isEmpty) H1) :
    tTest (tOp (rNeD K) (tVar i) (tLst tNil)) σ H Q := by
  obtain ⟨v, e1, e2⟩ := env.get hi fun z => nomatch z
  cases e2
  refine ⟨_, e1, ⟨small (n := 0) (by decide), fun b hb => ?_⟩⟩
  have s := same_upd (o := .lst []) hb
  refine ⟨.list ds, .list [], (Rp.lst (s _ _ eP) (RpAll.mono s _ _ r)).dp, (Rp.lst upd_same .nil).dp, hs, shaped_nil, !ds.isEmpty, ?_, q _ s⟩
  rw [eqv_nil]
/-! ### what is known of a slot, given up -/
theorem EnvOk.blur {G : Hp} (env : EnvOk G σ Γ) : ∀ (i : Nat), EnvOk G σ (Γ.set i .unk) := by
  induction env with
  | nil => intro i; exact .nil
  | cons h t ih =>
    intro i
    cases i with
    | zero => exact .cons .unk t
    | succ i => exact .cons h (ih i)
/-- all but those of L stand -/
def Bu (L : List Addr) (H H' : Hp) : Prop := ∀ b o, b ∉ L → H b = some o → H' b = some o
theorem Bu.refl (L : List Addr) (H : Hp) : Bu L H H := fun _ _ _ e => e
theorem Bu.same {L : List Addr} {H H1 H2 : Hp} (b : Bu L H H1) (s : Same H1 H2) : Bu L H H2 := fun c o n e => s _ _ (b c o n e)
theorem Bu.but {L : List Addr} {H H1 H2 : Hp} {p : Addr} (b : Bu L H H1) (s : But p H1 H2) (hp : p ∈ L) : Bu L H H2 := fun c o n e => s _ _ (fun z => n (z ▸ hp)) (b c o n e)
theorem Bu.trans {L : List Addr} {H H1 H2 : Hp} (a : Bu L H H1) (b : Bu L H1 H2) : Bu L H H2 := fun c o n e => b c o n (a c o n e)
theorem Bu.of {L : List Addr} {H H1 : Hp} (s : Same H H1) : Bu L H H1 := fun c o _ e => s _ _ e
theorem Bu.sub {L M : List Addr} {H H1 : Hp} (b : Bu L H H1) (h : ∀ a ∈ L, a ∈ M) : Bu M H H1 := fun c o n e => b c o (fun z => n (h c z)) e
/-- one more, new at H -/
theorem Bu.drop {L : List Addr} {p : Addr} {H H1 : Hp} (b : Bu (p :: L) H H1) (h : H p = none) : Bu L H H1 := fun c o n e => b c o (by
  simp only [List.mem_cons, not_or]
  exact ⟨ne_of_none e h, n⟩) e
/-- one that came in between -/
theorem Bu.new {L : List Addr} {p : Addr} {H H1 H2 : Hp} (a : Bu L H H1) (h : H1 p = none) (b : Bu (p :: L) H1 H2) : Bu L H H2 := a.trans (b.drop h)
theorem Bu.nil {H H1 : Hp} (b : Bu [] H H1) : Same H H1 := fun c o e => b c o (by simp) e
theorem Bu.cut {L O : List Addr} {H H' : Hp} (b : Bu L H H') (h : ∀ a ∈ L, a ∈ O) : Same (KV.cut O H) (KV.cut O H') := fun a o e => by
  unfold KV.cut at e ⊢
  split at e
  · cases e
  · rename_i n
    rw [if_neg n]
    exact b a o (fun z => n (h a z)) e
/-- an owned dict, read where it stands -/
theorem EnvOk.openD {O' : List Addr} {i : Nat} {p : Addr} {kvs : List (Cell × V)} (g : EnvOk (cut O H) σ Γ) (hi : Γ[i]? = some (.ptr p)) (hs : ∀ a ∈ O', a ∈ O) (hp : p ∉ O') (e : H p = some (.dT (kvs.map ent))) : EnvOk (cut O' H) σ (Γ.set i (.dic kvs)) := by
  obtain ⟨v, e1, e2⟩ := g.get hi fun z => nomatch z
  cases e2
  exact (g.mono (cut_sub hs)).put e1 (.dic (cut_get e hp))
/-- an owned list, read where it stands -/
theorem EnvOk.openL {O' : List Addr} {i : Nat} {p : Addr} {xs : List V} {ds : List PyData} (g : EnvOk (cut O H) σ Γ) (hi : Γ[i]? = some (.ptr p)) (hs : ∀ a ∈ O', a ∈ O) (hp : p ∉ O') (e : H p = some (.lst xs)) (r : RpAll (cut O H) xs ds) : EnvOk (cut O' H) σ (Γ.set i (.dat (.list ds))) := by
  obtain ⟨v, e1, e2⟩ := g.get hi fun z => nomatch z
  cases e2
  exact (g.mono (cut_sub hs)).put e1 (.dat (.lst (cut_get e hp) (RpAll.mono (cut_sub hs) _ _ r)))
theorem Live.sub {O' : List Addr} (l : Live O H) (hs : ∀ a ∈ O', a ∈ O) : Live O' H := fun p hp => l p (hs p hp)
/-- d[c] = v, d owned -/
theorem s_dput {p : Addr} {kvs : List (Cell × V)} {c : Cell} {v : V} {d : PyData} (l : Live O H) (env : EnvOk (cut O H) σ Γ) (eP : H p = some (.dT (kvs.map ent))) (ho : E td Γ (.ptr p)) (hk : Ed ty Γ (cellD c)) (hv : Ed tv Γ d) (vd : vD v = some d) (hl : kvs.length ≤ 10000)
    (k : ∀ H1, But p H H1 → H1 p = some (.dT ((putK kvs c v).map ent)) → D.nx σ H1) : sDPut td ty tv D σ H :=
  hv σ H O l env _ fun v' H1 _ z s1 r1 => by
    subst z
    refine ho σ H1 O (l.mono s1) (env.mono (cut_mono s1)) _ fun x H2 _ z s2 r2 => ?_
    subst z
    cases r2
    refine hk σ H2 O (l.mono (s1.trans s2)) (env.mono (cut_mono (s1.trans s2))) _ fun y H3 _ z s3 r3 => ?_
    subst z
    cases r3 with | dat r3 =>
    cases r1 with | dat r1 =>
    have s := (s1.trans s2).trans s3
    obtain ⟨b, rfl, h2⟩ := rp_cell r3.up
    have e : v' = v := by
      cases v with
      | int i => cases vd; exact r1.toInt
      | bl i => cases vd; exact r1.toBl
      | _ => cases vd
    subst e
    refine ⟨p, _, rfl, DPut.t (s _ _ eP) h2 (by rw [List.length_map]; exact Nat.lt_of_le_of_lt hl (by decide)), k _ (But.of s) ?_⟩
    rw [putK_ent]
    exact upd_same
/-- x = p.pop(), p owned -/
theorem s_pop {i : Nat} {p : Addr} {xs : List V} {ds : List PyData} {d : PyData} (l : Live O H) (env : EnvOk (cut O H) σ Γ) (hp : p ∈ O) (eP : H p = some (.lst xs)) (r : RpAll (cut O H) xs (ds ++ [d])) (ho : E to Γ (.ptr p))
    (k : ∀ H1 v ys, But p H H1 → H1 p = some (.lst ys) → RpAll (cut O H1) ys ds → Live O H1 → EnvOk (cut O H1) (σ.set i (some v)) (Γ.set i (.dat d)) → tz D (σ.set i (some v)) H1) : tSeq (tAsg (tBM0 K "list" rPop to) (gName i)) tz D σ H :=
  ho σ H O l env _ fun x H1 _ z s1 r1 => by
    subst z
    cases r1
    have hl := r.length
    rw [List.length_append] at hl
    have hl : xs.length = ds.length + 1 := hl
    obtain ⟨v, e1, e2⟩ := r.get (i := xs.length - 1) (d := d) (by rw [hl, Nat.add_sub_cancel, List.getElem?_append_right (Nat.le_refl _), Nat.sub_self]; rfl)
    refine ⟨.inl ⟨rfl, xs, SqL.of (s1 _ _ eP)⟩, p, xs, v, rfl, rfl, s1 _ _ eP, e1, ?_⟩
    have hc : cut O (upd H1 p (.lst xs.dropLast)) = cut O H1 := cut_own hp
    refine k _ v xs.dropLast (But.of s1) upd_same ?_ ((l.mono s1).upd fun _ z => nomatch z) ?_
    · rw [hc]
      have rr := RpAll.mono (cut_mono s1) _ _ r
      refine RpAll.of_get (by rw [List.length_dropLast, hl]; omega) fun j w e h1 h2 => ?_
      have hj : j < ds.length := (List.getElem?_eq_some_iff.mp h2).1
      obtain ⟨w', h3, h4⟩ := rr.get (i := j) (d := e) (by rw [List.getElem?_append_left hj]; exact h2)
      rw [List.getElem?_dropLast, if_pos (by omega), h3] at h1
      rw [← Option.some.inj h1]
      exact h4
    · rw [hc]
      exact (env.mono (cut_mono s1)).set (.dat (Rp.mono (cut_mono s1) _ _ e2)) i
/-- x = e, data -/
theorem s_let {i : Nat} {e : En} (l : Live O H) (env : EnvOk (cut O H) σ Γ) (h : E te Γ e) (k : ∀ v H1, Same H H1 → Live O H1 → EnvOk (cut O H1) (σ.set i (some v)) (Γ.set i e) → tz D (σ.set i (some v)) H1) : tSeq (tAsg te (gName i)) tz D σ H :=
  s_asg l env h fun v H1 _ z s l1 g _ => by subst z; exact k v H1 s l1 g
/-- the same, last of its suite -/
theorem s_let1 {i : Nat} {e : En} (l : Live O H) (env : EnvOk (cut O H) σ Γ) (h : E te Γ e) (k : ∀ v H1, Same H H1 → Live O H1 → EnvOk (cut O H1) (σ.set i (some v)) (Γ.set i e) → D.nx (σ.set i (some v)) H1) : tAsg te (gName i) D σ H :=
  h σ H O l env _ fun v H1 _ z s r => by subst z; exact k v H1 s (l.mono s) ((env.mono (cut_mono s)).set r i)
/-- x, y = a new dict, data -/
theorem s_parD {i j : Nat} {kvs : List (Cell × V)} {e : En} (l : Live O H) (env : EnvOk (cut O H) σ Γ) (h1 : ND ta Γ kvs) (h2 : E tb Γ e)
    (k : ∀ p v H1, H p = none → Same H H1 → H1 p = some (.dT (kvs.map ent)) → Live (p :: O) H1 → EnvOk (cut (p :: O) H1) ((σ.set i (some (.ref p))).set j (some v)) ((Γ.set i (.ptr p)).set j e) → tz D ((σ.set i (some (.ref p))).set j (some v)) H1) : tSeq (tPar i j (tCons ta (tCons tb tNil))) tz D σ H :=
  h1 σ H O l env _ fun p H1 n s1 eP => by
    have l1 : Live (p :: O) H1 := (l.mono s1).cons eP fun _ z => nomatch z
    have env1 := env.mono (cut_cons n s1)
    refine h2 σ H1 (p :: O) l1 env1 _ fun v H2 _ z s2 r2 => ?_
    subst z
    exact ⟨_, _, rfl, k p v H2 n (s1.trans s2) (s2 _ _ eP) (l1.mono s2) (((env1.mono (cut_mono s2)).set .ptr i).set r2 j)⟩
/-- x, y = data, a new list -/
theorem s_parL {i j : Nat} {ds : List PyData} {e : En} (l : Live O H) (env : EnvOk (cut O H) σ Γ) (h1 : E ta Γ e) (h2 : NL tb Γ ds)
    (k : ∀ p v H1 xs, H p = none → Same H H1 → H1 p = some (.lst xs) → RpAll (cut (p :: O) H1) xs ds → Live (p :: O) H1 → EnvOk (cut (p :: O) H1) ((σ.set i (some v)).set j (some (.ref p))) ((Γ.set i e).set j (.ptr p)) → tz D ((σ.set i (some v)).set j (some (.ref p))) H1) : tSeq (tPar i j (tCons ta (tCons tb tNil))) tz D σ H :=
  h1 σ H O l env _ fun v H1 _ z s1 r1 => by
    subst z
    refine h2 σ H1 O (l.mono s1) (env.mono (cut_mono s1)) _ fun p H2 xs n s2 eP r2 => ?_
    have c := cut_cons (O := O) n s2
    exact ⟨_, _, rfl, k p v H2 xs (s1.free n) (s1.trans s2) eP r2 (((l.mono s1).mono s2).cons eP fun _ z => nomatch z) ((((env.mono (cut_mono s1)).mono c).set (r1.mono c) i).set .ptr j)⟩
/-- if c: t, else u; a test of data -/
theorem s_if {b : Bool} (l : Live O H) (env : EnvOk (cut O H) σ Γ) (h : Tt t Γ b) (k : ∀ H1, Same H H1 → Live O H1 → EnvOk (cut O H1) σ Γ → if b = true then ts D σ H1 else tr D σ H1) : tIfS t ts tr D σ H :=
  h σ H O l env _ fun H1 s => k H1 s (l.mono s) (env.mono (cut_mono s))
/-- return of an owned dict -/
theorem s_retD {i : Nat} {p : Addr} (env : EnvOk (cut O H) σ Γ) (hi : Γ[i]? = some (.ptr p)) (k : D.rt (.ref p) H) : tRet (tVar i) D σ H := by
  obtain ⟨v, e1, e2⟩ := env.get hi fun z => nomatch z
  cases e2
  exact ⟨_, e1, k⟩
end KV
/-! KD3 -/
set_option Elab.async false
set_option linter.all false
set_option maxRecDepth 100000
set_option maxHeartbeats 4000000
namespace KD
open PySem L2 KV KR KS KC
/-! ### numbered -/
def enumL {α : Type} (z : α) (l : List α) : List (Nat × α) := (List.range l.length).map fun (i : Nat) => (i, l.getD i z)
def numD {α : Type} (e : α → PyData) (q : Nat × α) : PyData := .tuple [.int (q.1 : Int), e q.2]
theorem enD_enumL {α : Type} (z : α) (e : α → PyData) (l : List α) : enD (l.map e) = (enumL z l).map (numD e) := by
  unfold enD enumL
  rw [List.map_map, List.length_map]
  refine List.map_congr_left fun i hi => ?_
  have hi := List.mem_range.mp hi
  show PyData.tuple [.int (i : Int), (l.map e).getD i .none] = numD e (i, l.getD i z)
  unfold numD
  rw [List.getD_eq_getElem?_getD, List.getD_eq_getElem?_getD, List.getElem?_map, List.getElem?_eq_getElem hi]
  rfl
theorem mem_enumL {α : Type} {z : α} {l : List α} {q : Nat × α} (h : q ∈ enumL z l) : l[q.1]? = some q.2 := by
  obtain ⟨i, hi, rfl⟩ := List.mem_map.mp h
  have hi := List.mem_range.mp hi
  show l[i]? = some (l.getD i z)
  rw [List.getD_eq_getElem?_getD, List.getElem?_eq_getElem hi]
  rfl
theorem enumL_length {α : Type} (z : α) (l : List α) : (enumL z l).length = l.length := by simp [enumL]
theorem src_to {wi : TI} {Γ : List En} {a b : List PyData} (h : Src wi Γ a) (e : a = b) : Src wi Γ b := e ▸ h
/-- the cells of a section by a test of value -/
theorem cells_by {S : Sec} (wf : Wf S) (p : Int → Bool) (π : KV.Cell → Prop) (h : ∀ c v, valAt S c = some v → (p v = true ↔ π c)) :
    ((enumL [] S).flatMap fun q => ((enumL 0 q.2).filter fun r => p r.2).map fun r => cellD ((q.1 : Int), (r.1 : Int))) = (sel S π).map cellD := by
  unfold sel cells grid enumL
  rw [List.filter_flatMap, List.map_flatMap, List.flatMap_map]
  rw [List.flatMap_def, List.flatMap_def]
  congr 1
  refine List.map_congr_left fun i hi => ?_
  have hi := List.mem_range.mp hi
  obtain ⟨col, hc, hm⟩ := col_at hi
  have e : S.getD i [] = col := by rw [List.getD_eq_getElem?_getD, hc]; rfl
  show List.map _ (List.filter _ (List.map _ (List.range (S.getD i []).length))) = _
  rw [e, wf.same col hm, List.filter_map, List.map_map, List.filter_map, List.map_map]
  have ef : ∀ j ∈ List.range (ht S), ((fun r : Nat × Int => p r.2) ∘ fun j => (j, col.getD j 0)) j = ((fun c => @decide (π c) (Classical.propDecidable _)) ∘ fun (h : Nat) => (((i : Int), (h : Int)) : KV.Cell)) j := fun j hj => by
    have hj := List.mem_range.mp hj
    have hl := wf.same col hm
    have ev : valAt S ((i : Int), (j : Int)) = some (col.getD j 0) := by
      unfold valAt
      rw [if_pos ⟨by show 0 ≤ (i : Int); omega, by show 0 ≤ (j : Int); omega⟩]
      show (S[((i : Int)).toNat]?).bind _ = _
      rw [Int.toNat_natCast, hc]
      show col[((j : Int)).toNat]? = _
      rw [Int.toNat_natCast, List.getD_eq_getElem?_getD, List.getElem?_eq_getElem (by omega)]
      rfl
    have := h _ _ ev
    show p (col.getD j 0) = @decide (π ((i : Int), (j : Int))) (Classical.propDecidable _)
    by_cases hp : p (col.getD j 0) = true
    · rw [hp, eq_comm]; exact @decide_eq_true _ (Classical.propDecidable _) (this.mp hp)
    · rw [Bool.eq_false_iff.mpr hp, eq_comm]; exact @decide_eq_false _ (Classical.propDecidable _) fun z => hp (this.mpr z)
  rw [List.filter_congr ef]
  rfl
theorem rows_short {S : Sec} (wf : Wf S) (i : Nat) : (((enumL [] S).take i).flatMap fun q => enumL (0 : Int) q.2).length ≤ 50000 ∧ ∀ q ∈ enumL [] S, (enumL (0 : Int) q.2).length ≤ 10000 := by
  have one : ∀ q ∈ enumL [] S, (enumL (0 : Int) q.2).length ≤ 6 := fun q hq => by
    rw [enumL_length, wf.same q.2 (List.mem_of_getElem? (mem_enumL hq))]
    exact wf.tall
  refine ⟨?_, fun q hq => Nat.le_trans (one q hq) (by decide)⟩
  have hl : ((enumL [] S).take i).length ≤ 9 := by
    rw [List.length_take, enumL_length]
    have := wf.wide
    omega
  have gen : ∀ L : List (Nat × List Int), (∀ q ∈ L, (enumL (0 : Int) q.2).length ≤ 6) → (L.flatMap fun q => enumL (0 : Int) q.2).length ≤ 6 * L.length := by
    intro L
    induction L with
    | nil => intro _; simp
    | cons a L ih =>
      intro h
      have h1 := h a (List.mem_cons_self ..)
      have h2 := ih fun q hq => h q (List.mem_cons_of_mem _ hq)
      rw [List.flatMap_cons, List.length_append, List.length_cons]
      omega
  have := gen ((enumL [] S).take i) fun q hq => one q (List.mem_of_mem_take hq)
  omega
/-- the value at a cell, as the program reads it -/
theorem e_at {K : PySem.W.Frag} {Γ : List En} {ta tb tc : TE} {S : Sec} {c : KV.Cell} {v : Int} (h : valAt S c = some v) (ha : Ed ta Γ (secD S)) (hb : Ed tb Γ (.int c.1)) (hc : Ed tc Γ (.int c.2)) : Ed (tOp (rIx K) (tOp (rIx K) ta tb) tc) Γ (.int v) := by
  obtain ⟨col, e1, e2⟩ := sec_at h
  exact e_ix (e_ix ha hb rfl e1) hc rfl e2
theorem e_c0 {K : PySem.W.Frag} {Γ : List En} {ta : TE} {c : KV.Cell} (h : Ed ta Γ (cellD c)) : Ed (tOp (rIx K) ta (tC (.int 0))) Γ (.int c.1) := e_ix h e_int rfl (atI_nat (j := 0) rfl)
theorem e_c1' {K : PySem.W.Frag} {Γ : List En} {ta : TE} {c : KV.Cell} (h : Ed ta Γ (cellD c)) : Ed (tOp (rIx K) ta (tC (.int 1))) Γ (.int c.2) := e_ix h e_int rfl (atI_nat (j := 1) rfl)
theorem e_eqI {Γ : List En} {ta tb : TE} {i j : Int} (h : Ed ta Γ (.int i)) (g : Ed tb Γ (.int j)) : Ed (tOp rEq ta tb) Γ (.bool (decide (i = j))) := by
  refine e_to (e_eq h g) ?_
  rw [dec_int, Bool.beq_eq_decide_eq]
theorem e_neI {Γ : List En} {ta tb : TE} {i j : Int} (h : Ed ta Γ (.int i)) (g : Ed tb Γ (.int j)) : Ed (tOp rNe ta tb) Γ (.bool (!decide (i = j))) := by
  refine e_to (e_ne h g) ?_
  rw [dec_int, Bool.beq_eq_decide_eq]
theorem air_iff {S : Sec} {c : KV.Cell} : (gd S).air c ↔ valAt S c = some 0 := Iff.rfl
theorem notair {S : Sec} {c : KV.Cell} {v : Int} (h : valAt S c = some v) : ¬ (gd S).air c ↔ v ≠ 0 := by
  rw [air_iff, h]
  constructor
  · intro a e; exact a (by rw [e])
  · intro a e; exact a (Option.some.inj e)
end KD
/-! KBfs -/
set_option Elab.async false
set_option linter.all false
set_option maxRecDepth 100000
set_option maxHeartbeats 4000000
namespace KD
open PySem L2 KV KR KS KC
/-! ### dicts of ints -/
def keysI (ks : List (KV.Cell × Int)) : List KV.Cell := ks.map (·.1)
theorem valV_int : ∀ {ks : List (KV.Cell × Int)} {c : KV.Cell} {n : Int}, (keysI ks).Nodup → (c, n) ∈ ks → valV (kvI ks) c = some (.int n)
  | e :: r, c, n, nd, h => by
    unfold keysI at nd
    rw [List.map_cons, List.nodup_cons] at nd
    unfold valV kvI
    rw [List.map_cons, List.find?_cons]
    rcases List.mem_cons.mp h with z | z
    · subst z
      simp
    · have ne : e.1 ≠ c := fun q => nd.1 (List.mem_map.mpr ⟨_, z, q.symm⟩)
      have ih := valV_int nd.2 z
      unfold valV kvI at ih
      rw [decide_eq_false (by exact ne)]
      exact ih
theorem valV_off {ks : List (KV.Cell × Int)} {c : KV.Cell} (h : c ∉ keysI ks) : valV (kvI ks) c = none := by
  induction ks with
  | nil => rfl
  | cons e r ih =>
    unfold keysI at h ih
    rw [List.map_cons, List.mem_cons, not_or] at h
    have := ih h.2
    unfold valV kvI at this ⊢
    rw [List.map_cons, List.find?_cons, decide_eq_false (by exact fun z => h.1 z.symm)]
    exact this
theorem keys_get {ks : List (KV.Cell × Int)} {c : KV.Cell} (h : c ∈ keysI ks) : ∃ n, (c, n) ∈ ks := by
  obtain ⟨e, he, rfl⟩ := List.mem_map.mp h
  exact ⟨e.2, he⟩
theorem mem_keys {ks : List (KV.Cell × Int)} {c : KV.Cell} {n : Int} (h : (c, n) ∈ ks) : c ∈ keysI ks := List.mem_map.mpr ⟨_, h, rfl⟩
theorem valV_isSome {ks : List (KV.Cell × Int)} {c : KV.Cell} (nd : (keysI ks).Nodup) : (valV (kvI ks) c).isSome = decide (c ∈ keysI ks) := by
  by_cases h : c ∈ keysI ks
  · obtain ⟨n, hn⟩ := keys_get h
    rw [valV_int nd hn, decide_eq_true h]; rfl
  · rw [valV_off h, decide_eq_false h]; rfl
theorem putK_new {ks : List (KV.Cell × Int)} {c : KV.Cell} {n : Int} (h : c ∉ keysI ks) : putK (kvI ks) c (.int n) = kvI (ks ++ [(c, n)]) := by
  rw [putK_fresh (by rw [kvI_keys]; exact h)]
  unfold kvI
  rw [List.map_append]
  rfl
theorem nd_dictI {K : PySem.W.Frag} {Γ : List En} {ta : TE} {ks : List (KV.Cell × Int)} (ha : Ed ta Γ (.list (ks.map fun e => .tuple [cellD e.1, .int e.2]))) (nd : (keysI ks).Nodup) : ND (tCB (rDictT K) (tCons ta tNil)) Γ (kvI ks) := by
  have h := nd_dict (K := K) (Γ := Γ) (ta := ta) (ps := kvI ks) (g := fun v => (vD v).getD .none) (by unfold kvI; rw [List.map_map]; exact ha) (fun e he => by
    unfold kvI at he
    obtain ⟨x, _, rfl⟩ := List.mem_map.mp he
    rfl)
  rw [mergeC_nodup (by rw [kvI_keys]; exact nd)] at h
  exact h
/-! ### the flood by steps -/
open KM in
structure Fr (g : Gd) (k : Nat) (ks : List (KV.Cell × Int)) (here : List KV.Cell) : Prop where
  nd : (keysI ks).Nodup
  mem : ∀ c n, (c, n) ∈ ks ↔ ∃ j : Nat, j ≤ k ∧ n = (j : Int) + 1 ∧ g.near (j + 1) c ∧ ¬ g.near j c
  fr : ∀ c, c ∈ here ↔ g.near (k + 1) c ∧ ¬ g.near k c
structure StepsOk (g : KM.Gd) (ks : List (KV.Cell × Int)) : Prop where
  nd : (keysI ks).Nodup
  mem : ∀ c n, (c, n) ∈ ks ↔ ∃ j : Nat, n = (j : Int) + 1 ∧ g.near (j + 1) c ∧ ¬ g.near j c
section
variable {g : KM.Gd} {k : Nat} {ks : List (KV.Cell × Int)} {here ah : List KV.Cell}
theorem Fr.keys (F : Fr g k ks here) {c : KV.Cell} : c ∈ keysI ks ↔ g.near (k + 1) c := by
  constructor
  · intro h
    obtain ⟨n, hn⟩ := keys_get h
    obtain ⟨j, hj, _, a, _⟩ := (F.mem c n).mp hn
    exact KM.near_mono a (by omega)
  · intro h
    obtain ⟨j, hj, a, b⟩ := KM.near_first h
    exact mem_keys ((F.mem c _).mpr ⟨j, by omega, rfl, a, b⟩)
theorem Fr.first {p : KV.Cell → Prop} (hp : ∀ c, p c ↔ g.air c ∧ g.sb c) {l : List KV.Cell} (nd : l.Nodup) (hl : ∀ c, c ∈ l ↔ p c) : Fr g 0 (l.map fun c => (c, 1)) l := by
  have one : ∀ c, c ∈ l ↔ g.near 1 c := fun c => by
    rw [hl, hp]
    constructor
    · rintro ⟨a, b⟩; exact ⟨a, .inl b⟩
    · rintro ⟨a, b⟩
      refine ⟨a, b.elim id ?_⟩
      rintro ⟨_, _, z⟩
      exact z.elim
  have ek : keysI (l.map fun c => (c, (1 : Int))) = l := by unfold keysI; rw [List.map_map]; exact List.map_id _
  refine ⟨by rw [ek]; exact nd, fun c n => ?_, fun c => ?_⟩
  · rw [List.mem_map]
    constructor
    · rintro ⟨d, hd, e⟩
      injection e with e1 e2
      subst e1 e2
      exact ⟨0, Nat.le_refl _, rfl, (one _).mp hd, fun z => z⟩
    · rintro ⟨j, hj, rfl, a, b⟩
      have : j = 0 := by omega
      subst this
      exact ⟨c, (one c).mpr a, rfl⟩
  · rw [one c]
    exact ⟨fun h => ⟨h, fun z => z⟩, fun h => h.1⟩
theorem Fr.done (F : Fr g k ks []) : StepsOk g ks := by
  have stop : ∀ c, g.near (k + 1) c → g.near k c := fun c h => Classical.byContradiction fun n => by
    have := (F.fr c).mpr ⟨h, n⟩
    simp at this
  have all : ∀ (d : Nat) c, g.near (k + d) c → g.near k c := by
    intro d
    induction d with
    | zero => intro c h; exact h
    | succ d ih =>
      intro c h
      have h : g.near ((k + d) + 1) c := h
      refine stop c ⟨h.1, h.2.imp id ?_⟩
      rintro ⟨q, ad, n⟩
      exact ⟨q, ad, ih q n⟩
  refine ⟨F.nd, fun c n => ?_⟩
  rw [F.mem]
  constructor
  · rintro ⟨j, _, h⟩; exact ⟨j, h⟩
  · rintro ⟨j, e, a, b⟩
    refine ⟨j, ?_, e, a, b⟩
    by_cases hj : j ≤ k
    · exact hj
    · have : g.near k c := all (j + 1 - k) c (by rw [show k + (j + 1 - k) = j + 1 by omega]; exact a)
      exact (b (KM.near_mono this (by omega))).elim
structure Gr (g : KM.Gd) (ks : List (KV.Cell × Int)) (here ah : List KV.Cell) : Prop where
  nd : ah.Nodup
  out : ∀ c ∈ ah, c ∉ keysI ks
  ok : ∀ c ∈ ah, g.air c ∧ ∃ h ∈ here, KM.Adj h c
theorem Gr.nil : Gr g ks here [] := ⟨List.nodup_nil, fun c h => by simp at h, fun c h => by simp at h⟩
theorem Gr.add (G : Gr g ks here ah) {h q : KV.Cell} (hh : h ∈ here) (ad : KM.Adj h q) (a : g.air q) (n : q ∉ keysI ks) (n2 : q ∉ ah) : Gr g ks here (ah ++ [q]) := by
  refine ⟨?_, ?_, ?_⟩
  · rw [List.nodup_append]
    refine ⟨G.nd, by simp, fun x hx y hy => ?_⟩
    rw [List.mem_singleton] at hy
    subst hy
    exact fun e => n2 (e ▸ hx)
  · intro c hc
    rcases List.mem_append.mp hc with z | z
    · exact G.out c z
    · rw [List.mem_singleton.mp z]; exact n
  · intro c hc
    rcases List.mem_append.mp hc with z | z
    · exact G.ok c z
    · rw [List.mem_singleton.mp z]; exact ⟨a, h, hh, ad⟩
def more (ks : List (KV.Cell × Int)) (ah : List KV.Cell) (n : Int) : List (KV.Cell × Int) := ks ++ ah.map fun c => (c, n)
theorem keys_more (n : Int) : keysI (more ks ah n) = keysI ks ++ ah := by
  unfold keysI more
  rw [List.map_append, List.map_map]
  congr 1
  exact List.map_id _
theorem more_add (n : Int) (q : KV.Cell) : more ks ah n ++ [(q, n)] = more ks (ah ++ [q]) n := by
  unfold more
  rw [List.map_append, List.append_assoc]
  rfl
theorem Gr.keys_nd (nd : (keysI ks).Nodup) (G : Gr g ks here ah) (n : Int) : (keysI (more ks ah n)).Nodup := by
  rw [keys_more, List.nodup_append]
  exact ⟨nd, G.nd, fun x hx y hy e => G.out y hy (e ▸ hx)⟩
theorem Gr.fin (F : Fr g k ks here) (G : Gr g ks here ah) (ok : g.Ok) (cov : ∀ h ∈ here, ∀ q, KM.Adj h q → g.In q → g.air q → q ∈ keysI ks ∨ q ∈ ah) : Fr g (k + 1) (more ks ah ((k : Int) + 1 + 1)) ah := by
  have frn : ∀ c, c ∈ ah ↔ g.near (k + 1 + 1) c ∧ ¬ g.near (k + 1) c := fun c => by
    constructor
    · intro h
      obtain ⟨a, d, hd, ad⟩ := G.ok c h
      exact ⟨⟨a, .inr ⟨d, ad.symm, ((F.fr d).mp hd).1⟩⟩, fun z => G.out c h (F.keys.mpr z)⟩
    · rintro ⟨⟨a, s⟩, n⟩
      rcases s with s | ⟨d, ad, nd⟩
      · exact (n ⟨a, .inl s⟩).elim
      · have hd : d ∈ here := (F.fr d).mpr ⟨nd, fun z => n ⟨a, .inr ⟨d, ad, z⟩⟩⟩
        exact (cov d hd c ad.symm (ok.ain c a) a).resolve_left fun z => n (F.keys.mp z)
  refine ⟨G.keys_nd F.nd _, fun c n => ?_, frn⟩
  unfold more
  rw [List.mem_append, F.mem, List.mem_map]
  constructor
  · rintro (⟨j, hj, h⟩ | ⟨d, hd, e⟩)
    · exact ⟨j, by omega, h⟩
    · injection e with e1 e2
      subst e1
      have := (frn d).mp hd
      exact ⟨k + 1, Nat.le_refl _, by omega, this.1, this.2⟩
  · rintro ⟨j, hj, e, a, b⟩
    by_cases h : j ≤ k
    · exact .inl ⟨j, h, e, a, b⟩
    · have : j = k + 1 := by omega
      subst this
      exact .inr ⟨c, (frn c).mpr ⟨a, b⟩, by rw [e]; congr 1⟩
theorem Fr.low (F : Fr g k ks here) (ok : g.Ok) (h : here ≠ []) : (k : Int) < g.T := by
  cases here with
  | nil => exact absurd rfl h
  | cons c r =>
    obtain ⟨a, b⟩ := (F.fr c).mp (List.mem_cons_self ..)
    have ac := KM.near_air a
    have i := ok.ain c ac
    have := KM.near_all ok ac
    have h2 : ¬ (c.2.toNat + 1 ≤ k) := fun z => b (KM.near_mono this z)
    have := i.2.2.2
    have := i.2.2.1
    omega
end
end KD
/-! KNeck -/
set_option Elab.async false
set_option linter.all false
set_option maxRecDepth 100000
set_option maxHeartbeats 4000000
namespace KD
open PySem L2 KV KR KS KC
/-! ### clearance -/
section
variable {g : KM.Gd}
open Classical in
noncomputable def clr (g : KM.Gd) (c : KV.Cell) : Nat := if h : ∃ j : Nat, g.near (j + 1) c ∧ ¬ g.near j c then choose h + 1 else 0
theorem clr_of {c : KV.Cell} {j : Nat} (a : g.near (j + 1) c) (b : ¬ g.near j c) : clr g c = j + 1 := by
  have h : ∃ j : Nat, g.near (j + 1) c ∧ ¬ g.near j c := ⟨j, a, b⟩
  unfold clr
  rw [dif_pos h]
  obtain ⟨x, y⟩ := Classical.choose_spec h
  generalize Classical.choose h = i at x y
  congr 1
  rcases Nat.lt_trichotomy i j with q | q | q
  · exact (b (KM.near_mono x q)).elim
  · exact q
  · exact (y (KM.near_mono a q)).elim
theorem clr_air (ok : g.Ok) {c : KV.Cell} (a : g.air c) : ∃ j : Nat, clr g c = j + 1 ∧ g.near (j + 1) c ∧ ¬ g.near j c := by
  obtain ⟨j, _, x, y⟩ := KM.near_first (KM.near_all ok a)
  exact ⟨j, clr_of x y, x, y⟩
theorem near_clr (ok : g.Ok) {c : KV.Cell} (a : g.air c) {t : Nat} : g.near t c ↔ clr g c ≤ t := by
  obtain ⟨j, e, x, y⟩ := clr_air ok a
  rw [e]
  constructor
  · intro h
    by_cases q : t ≤ j
    · exact (y (KM.near_mono h q)).elim
    · omega
  · intro h; exact KM.near_mono x h
theorem StepsOk.iff (ok : g.Ok) {ks : List (KV.Cell × Int)} (s : StepsOk g ks) {c : KV.Cell} {n : Int} : (c, n) ∈ ks ↔ g.air c ∧ n = (clr g c : Int) := by
  rw [s.mem]
  constructor
  · rintro ⟨j, e, a, b⟩
    exact ⟨KM.near_air a, by rw [clr_of a b, e]; rfl⟩
  · rintro ⟨a, e⟩
    obtain ⟨j, e1, x, y⟩ := clr_air ok a
    exact ⟨j, by rw [e, e1]; rfl, x, y⟩
theorem StepsOk.key (ok : g.Ok) {ks : List (KV.Cell × Int)} (s : StepsOk g ks) {c : KV.Cell} : c ∈ keysI ks ↔ g.air c := by
  constructor
  · intro h
    obtain ⟨n, hn⟩ := keys_get h
    exact ((s.iff ok).mp hn).1
  · intro h
    exact mem_keys ((s.iff ok).mpr ⟨h, rfl⟩)
end
/-! ### the flood by necks -/
def setF (f : KV.Cell → Nat) (c : KV.Cell) (t : Nat) : KV.Cell → Nat := fun x => if x = c then t else f x
def unf (l : List KV.Cell) (f : KV.Cell → Nat) : Nat := (l.filter fun c => f c == 0).length
theorem unf_set {l : List KV.Cell} {f : KV.Cell → Nat} {c : KV.Cell} {t : Nat} (nd : l.Nodup) (h : c ∈ l) (h0 : f c = 0) (ht : t ≠ 0) : unf l (setF f c t) + 1 = unf l f := by
  induction l with
  | nil => simp at h
  | cons a l ih =>
    rw [List.nodup_cons] at nd
    unfold unf at ih ⊢
    rw [List.filter_cons, List.filter_cons]
    by_cases e : a = c
    · subst e
      have e1 : setF f a t a = t := if_pos rfl
      rw [e1, h0, if_neg (by simpa using ht), if_pos (by rfl)]
      rw [List.length_cons]
      congr 2
      refine List.filter_congr fun x hx => ?_
      have : x ≠ a := fun z => nd.1 (z ▸ hx)
      show (setF f a t x == 0) = (f x == 0)
      unfold setF
      rw [if_neg this]
    · have e1 : setF f c t a = f a := if_neg e
      have := ih nd.2 ((List.mem_cons.mp h).resolve_left fun z => e z.symm)
      rw [e1]
      by_cases q : (f a == 0) = true
      · rw [if_pos q, if_pos q, List.length_cons, List.length_cons]; omega
      · rw [if_neg q, if_neg q]; exact this
theorem unf_le (l : List KV.Cell) (f : KV.Cell → Nat) : unf l f ≤ l.length := List.length_filter_le _ _
structure PN (g : KM.Gd) (l : List KV.Cell) (t : Nat) (f : KV.Cell → Nat) (here : List KV.Cell) (lt : Nat → List KV.Cell) (rem : List KV.Cell) : Prop where
  fset : ∀ c, f c ≠ 0 → g.air c ∧ t ≤ f c ∧ ∀ k, k + 1 ≤ f c ↔ g.O k c
  high : ∀ c, g.O t c → f c ≠ 0
  hin : ∀ c ∈ here, g.O (t - 1) c
  lin : ∀ s, 1 ≤ s → s < t → ∀ c ∈ lt s, g.O (s - 1) c
  pend : ∀ q, f q = 0 → g.air q → (q.2 = g.T - 1 ∨ ∃ c, KM.Adj c q ∧ f c ≠ 0) → (clr g q < t ∧ q ∈ lt (clr g q)) ∨ (t ≤ clr g q ∧ q ∈ here) ∨ q ∈ rem
  remO : ∀ q ∈ rem, ∀ s, 1 ≤ s → s ≤ t → g.air q → ¬ g.near (s - 1) q → g.O (s - 1) q
  lenH : here.length + 4 * unf l f + rem.length ≤ 270
  lenL : ∀ s, 1 ≤ s → s < t → (lt s).length + 4 * unf l f + rem.length ≤ 270
structure PB (g : KM.Gd) (l : List KV.Cell) (t : Nat) (f : KV.Cell → Nat) (lt : Nat → List KV.Cell) : Prop where
  fset : ∀ c, f c ≠ 0 → g.air c ∧ t < f c ∧ ∀ k, k + 1 ≤ f c ↔ g.O k c
  high : ∀ c, g.O t c → f c ≠ 0
  lin : ∀ s, 1 ≤ s → s ≤ t → ∀ c ∈ lt s, g.O (s - 1) c
  pend : ∀ q, f q = 0 → g.air q → (q.2 = g.T - 1 ∨ ∃ c, KM.Adj c q ∧ f c ≠ 0) → clr g q ≤ t ∧ q ∈ lt (clr g q)
  lenL : ∀ s, 1 ≤ s → s ≤ t → (lt s).length + 4 * unf l f ≤ 270
section
variable {g : KM.Gd} {l : List KV.Cell} {t : Nat} {f : KV.Cell → Nat} {here rem : List KV.Cell} {lt : Nat → List KV.Cell} {c q : KV.Cell}
theorem PB.start (B : PB g l t f lt) (ht : 1 ≤ t) : PN g l t f (lt t) lt [] where
  fset c h := by obtain ⟨a, b, k⟩ := B.fset c h; exact ⟨a, by omega, k⟩
  high := B.high
  hin := B.lin t ht (Nat.le_refl _)
  lin s h1 h2 := B.lin s h1 (by omega)
  pend q h0 a h := by
    obtain ⟨h1, h2⟩ := B.pend q h0 a h
    by_cases e : clr g q < t
    · exact .inl ⟨e, h2⟩
    · have e : clr g q = t := by omega
      rw [e] at h2
      exact .inr (.inl ⟨by omega, h2⟩)
  remO q h := by simp at h
  lenH := B.lenL t ht (Nat.le_refl _)
  lenL s h1 h2 := B.lenL s h1 (by omega)
theorem PN.done (ok : g.Ok) (N : PN g l (t + 1) f [] lt []) : PB g l t f lt where
  fset c h := by obtain ⟨a, b, k⟩ := N.fset c h; exact ⟨a, by omega, k⟩
  high c h := by
    induction h with
    | @top p a b c =>
      intro h0
      have hc : t + 1 ≤ clr g p := by
        rcases Nat.lt_or_ge t (clr g p) with z | z
        · exact z
        · exact (c ((near_clr ok a).mpr z)).elim
      rcases N.pend p h0 a (.inl b) with z | z | z
      · omega
      · simp at z
      · simp at z
    | @step p q a c ad o ih =>
      intro h0
      have hc : t + 1 ≤ clr g p := by
        rcases Nat.lt_or_ge t (clr g p) with z | z
        · exact z
        · exact (c ((near_clr ok a).mpr z)).elim
      rcases N.pend p h0 a (.inr ⟨q, ad.symm, ih⟩) with z | z | z
      · omega
      · simp at z
      · simp at z
  lin s h1 h2 := N.lin s h1 (by omega)
  pend q h0 a h := by
    rcases N.pend q h0 a h with z | z | z
    · exact ⟨by omega, z.2⟩
    · simp at z
    · simp at z
  lenL s h1 h2 := by have := N.lenL s h1 (by omega); simpa using this
theorem PN.skip (N : PN g l t f (here ++ [c]) lt []) (h : f c ≠ 0) : PN g l t f here lt [] where
  fset := N.fset
  high := N.high
  hin x hx := N.hin x (List.mem_append.mpr (.inl hx))
  lin := N.lin
  pend q h0 a hq := by
    rcases N.pend q h0 a hq with z | ⟨z1, z2⟩ | z
    · exact .inl z
    · rcases List.mem_append.mp z2 with y | y
      · exact .inr (.inl ⟨z1, y⟩)
      · rw [List.mem_singleton.mp y] at h0
        exact (h h0).elim
    · exact .inr (.inr z)
  remO q h := by simp at h
  lenH := by have := N.lenH; rw [List.length_append] at this; simp at this ⊢; omega
  lenL := N.lenL
theorem PN.set (ok : g.Ok) (N : PN g l t f (here ++ [c]) lt []) (h : f c = 0) (nd : l.Nodup) (hc : c ∈ l) (ht : 1 ≤ t) (hr : ∀ q, q ∈ rem ↔ KM.Adj c q ∧ g.In q) (hl : rem.length ≤ 4) : PN g l t (setF f c t) here lt rem where
  fset x hx := by
    by_cases e : x = c
    · subst e
      have o := N.hin x (List.mem_append.mpr (.inr (by simp)))
      have e1 : setF f x t x = t := if_pos rfl
      rw [e1]
      refine ⟨KM.O_air o, Nat.le_refl _, fun k => ⟨fun z => KM.O_mono o (by omega), fun z => ?_⟩⟩
      rcases Nat.lt_or_ge k t with y | y
      · exact y
      · exact (N.high x (KM.O_mono z y) h).elim
    · have e1 : setF f c t x = f x := if_neg e
      rw [e1] at hx ⊢
      exact N.fset x hx
  high x hx := by
    by_cases e : x = c
    · subst e
      have e1 : setF f x t x = t := if_pos rfl
      rw [e1]; omega
    · have e1 : setF f c t x = f x := if_neg e
      rw [e1]
      exact N.high x hx
  hin x hx := N.hin x (List.mem_append.mpr (.inl hx))
  lin := N.lin
  pend q h0 a hq := by
    have ne : q ≠ c := fun z => by
      subst z
      have e1 : setF f q t q = t := if_pos rfl
      rw [e1] at h0; omega
    have e1 : setF f c t q = f q := if_neg ne
    rw [e1] at h0
    have old : (q.2 = g.T - 1 ∨ ∃ c, KM.Adj c q ∧ f c ≠ 0) → (clr g q < t ∧ q ∈ lt (clr g q)) ∨ (t ≤ clr g q ∧ q ∈ here) ∨ q ∈ rem := fun z => by
      rcases N.pend q h0 a z with y | ⟨y1, y2⟩ | y
      · exact .inl y
      · rcases List.mem_append.mp y2 with w | w
        · exact .inr (.inl ⟨y1, w⟩)
        · exact (ne (List.mem_singleton.mp w)).elim
      · simp at y
    rcases hq with z | ⟨d, ad, hd⟩
    · exact old (.inl z)
    · by_cases e : d = c
      · subst e
        exact .inr (.inr ((hr q).mpr ⟨ad, ok.ain q a⟩))
      · have e2 : setF f c t d = f d := if_neg e
        rw [e2] at hd
        exact old (.inr ⟨d, ad, hd⟩)
  remO q hq s h1 h2 a n := .step a n ((hr q).mp hq).1.symm (KM.O_mono (N.hin c (List.mem_append.mpr (.inr (by simp)))) (by omega))
  lenH := by
    have h1 := N.lenH
    have h2 := unf_set (t := t) nd hc h (by omega)
    rw [List.length_append, List.length_singleton, List.length_nil] at h1
    omega
  lenL s h1 h2 := by
    have h3 := N.lenL s h1 h2
    have h4 := unf_set (t := t) nd hc h (by omega)
    rw [List.length_nil] at h3
    omega
theorem PN.pass (N : PN g l t f here lt (q :: rem)) (h : ¬ g.air q ∨ f q ≠ 0) : PN g l t f here lt rem where
  fset := N.fset
  high := N.high
  hin := N.hin
  lin := N.lin
  pend x h0 a hx := by
    rcases N.pend x h0 a hx with z | z | z
    · exact .inl z
    · exact .inr (.inl z)
    · rcases List.mem_cons.mp z with y | y
      · subst y
        rcases h with w | w
        · exact (w a).elim
        · exact (w h0).elim
      · exact .inr (.inr y)
  remO x hx := N.remO x (List.mem_cons_of_mem _ hx)
  lenH := by have := N.lenH; rw [List.length_cons] at this; omega
  lenL s h1 h2 := by have := N.lenL s h1 h2; rw [List.length_cons] at this; omega
theorem PN.now (ok : g.Ok) (N : PN g l t f here lt (q :: rem)) (a : g.air q) (ht : 1 ≤ t) (h : t ≤ clr g q) : PN g l t f (here ++ [q]) lt rem where
  fset := N.fset
  high := N.high
  hin x hx := by
    rcases List.mem_append.mp hx with z | z
    · exact N.hin x z
    · rw [List.mem_singleton.mp z]
      refine N.remO q (List.mem_cons_self ..) t ht (Nat.le_refl _) a fun n => ?_
      have := (near_clr ok a).mp n
      omega
  lin := N.lin
  pend x h0 ax hx := by
    rcases N.pend x h0 ax hx with z | ⟨z1, z2⟩ | z
    · exact .inl z
    · exact .inr (.inl ⟨z1, List.mem_append.mpr (.inl z2)⟩)
    · rcases List.mem_cons.mp z with y | y
      · subst y
        exact .inr (.inl ⟨h, List.mem_append.mpr (.inr (by simp))⟩)
      · exact .inr (.inr y)
  remO x hx := N.remO x (List.mem_cons_of_mem _ hx)
  lenH := by have := N.lenH; rw [List.length_cons] at this; rw [List.length_append]; simp; omega
  lenL s h1 h2 := by have := N.lenL s h1 h2; rw [List.length_cons] at this; omega
def addL (lt : Nat → List KV.Cell) (s : Nat) (q : KV.Cell) : Nat → List KV.Cell := fun x => if x = s then lt x ++ [q] else lt x
theorem mem_addL {s x : Nat} {y : KV.Cell} (h : y ∈ lt x) : y ∈ addL lt s q x := by
  unfold addL
  split
  · exact List.mem_append.mpr (.inl h)
  · exact h
theorem PN.later (ok : g.Ok) (N : PN g l t f here lt (q :: rem)) (a : g.air q) (h : clr g q < t) : PN g l t f here (addL lt (clr g q) q) rem where
  fset := N.fset
  high := N.high
  hin := N.hin
  lin s h1 h2 x hx := by
    unfold addL at hx
    split at hx
    · rename_i e
      rcases List.mem_append.mp hx with z | z
      · exact N.lin s h1 h2 x z
      · rw [List.mem_singleton.mp z]
        refine N.remO q (List.mem_cons_self ..) s h1 (by omega) a fun n => ?_
        have := (near_clr ok a).mp n
        omega
    · exact N.lin s h1 h2 x hx
  pend x h0 ax hx := by
    rcases N.pend x h0 ax hx with ⟨z1, z2⟩ | z | z
    · exact .inl ⟨z1, mem_addL z2⟩
    · exact .inr (.inl z)
    · rcases List.mem_cons.mp z with y | y
      · subst y
        refine .inl ⟨h, ?_⟩
        unfold addL
        rw [if_pos rfl]
        exact List.mem_append.mpr (.inr (by simp))
      · exact .inr (.inr y)
  remO x hx := N.remO x (List.mem_cons_of_mem _ hx)
  lenH := by have := N.lenH; rw [List.length_cons] at this; omega
  lenL s h1 h2 := by
    have := N.lenL s h1 h2
    rw [List.length_cons] at this
    unfold addL
    split
    · rw [List.length_append]; simp; omega
    · omega
theorem PB.first (ok : g.Ok) (hm : ∀ c, g.air c → clr g c ≤ t) (hl : ∀ s c, c ∈ lt s ↔ g.air c ∧ c.2 = g.T - 1 ∧ clr g c = s) (hn : ∀ s, (lt s).length ≤ 54) (h54 : l.length ≤ 54) : PB g l t (fun _ => 0) lt where
  fset c h := (h rfl).elim
  high c h := by
    have := (near_clr ok (KM.O_air h)).mpr (hm c (KM.O_air h))
    exact (KM.O_far h this).elim
  lin s h1 h2 c hc := by
    obtain ⟨a, b, e⟩ := (hl s c).mp hc
    refine .top a b fun n => ?_
    have := (near_clr ok a).mp n
    omega
  pend q _ a h := by
    rcases h with h | ⟨c, _, h⟩
    · exact ⟨hm q a, (hl _ q).mpr ⟨a, h, rfl⟩⟩
    · exact (h rfl).elim
  lenL s _ _ := by
    have := unf_le l fun _ => 0
    have := hn s
    omega
/-- at the end -/
theorem PB.fin (B : PB g l 0 f lt) (c : KV.Cell) (k : Nat) : k + 1 ≤ f c ↔ g.O k c := by
  by_cases h : f c = 0
  · constructor
    · intro z; omega
    · intro z; exact (B.high c (KM.O_mono z (Nat.zero_le _)) h).elim
  · exact (B.fset c h).2.2 k
end
end KD
/-! KNk -/
set_option Elab.async false
set_option linter.all false
set_option maxRecDepth 100000
set_option maxHeartbeats 4000000
namespace KD
open PySem L2 KV KR KS KC
/-! ### what is owned, growing -/
structure Gw (own : List Addr) (H : Hp) (own' : List Addr) (H' : Hp) : Prop where
  bu : Bu own H H'
  sub : ∀ a ∈ own, a ∈ own'
  new : ∀ a ∈ own', a ∈ own ∨ H a = none
section
variable {own own' own'' O : List Addr} {H H' H'' : Hp} {p : Addr}
theorem Gw.refl (own : List Addr) (H : Hp) : Gw own H own H := ⟨Bu.refl _ _, fun _ h => h, fun _ h => .inl h⟩
theorem Gw.of (s : Same H H') : Gw own H own H' := ⟨Bu.of s, fun _ h => h, fun _ h => .inl h⟩
theorem Gw.but (b : But p H H') (hp : p ∈ own) : Gw own H own H' := ⟨(Bu.refl own H).but b hp, fun _ h => h, fun _ h => .inl h⟩
theorem Gw.trans (a : Gw own H own' H') (b : Gw own' H' own'' H'') : Gw own H own'' H'' := by
  have key : ∀ x, x ∉ own → H x ≠ none → x ∉ own' := fun x h1 h2 h3 => (a.new x h3).elim h1 h2
  refine ⟨fun x o n e => b.bu x o (key x n (by rw [e]; exact fun z => nomatch z)) (a.bu x o n e), fun x h => b.sub x (a.sub x h), fun x h => ?_⟩
  by_cases hx : x ∈ own
  · exact .inl hx
  · refine .inr ?_
    cases e : H x with
    | none => rfl
    | some o =>
      exfalso
      have h' := a.bu x o hx e
      rcases b.new x h with y | y
      · exact key x hx (by rw [e]; exact fun z => nomatch z) y
      · rw [h'] at y; cases y
theorem Gw.same (a : Gw own H own' H') (s : Same H' H'') : Gw own H own' H'' := a.trans (Gw.of s)
theorem Gw.add (hp : H p = none) (s : Same H H') (sub : ∀ a ∈ own, a ∈ own') (new : ∀ a ∈ own', a ∈ own ∨ a = p) : Gw own H own' H' :=
  ⟨Bu.of s, sub, fun a h => (new a h).imp id fun e => by rw [e]; exact hp⟩
theorem Gw.cut (a : Gw own H own' H') : Same (KV.cut (own ++ O) H) (KV.cut (own' ++ O) H') := fun x o e => by
  unfold KV.cut at e ⊢
  split at e
  · cases e
  · rename_i n
    rw [List.mem_append, not_or] at n
    rw [if_neg]
    · exact a.bu x o n.1 e
    · rw [List.mem_append, not_or]
      refine ⟨fun z => ?_, n.2⟩
      rcases a.new x z with y | y
      · exact n.1 y
      · rw [y] at e; cases e
theorem Gw.cut0 (a : Gw own H own' H') : Same (KV.cut (own ++ O) H) (KV.cut (own ++ O) H') := a.bu.cut fun x h => List.mem_append.mpr (.inl h)
end
/-! ### a dict of lists -/
def atA (A : List (Int × Addr)) (s : Int) : Option Addr := (A.find? fun e => decide (e.1 = s)).map (·.2)
def cont (A : List (Int × Addr)) (M : Addr → List KV.Cell) (s : Int) : List KV.Cell := match atA A s with
  | some a => M a
  | none => []
def setM (M : Addr → List KV.Cell) (a : Addr) (l : List KV.Cell) : Addr → List KV.Cell := fun x => if x = a then l else M x
def kvA (A : List (Int × Addr)) : List (Key × V) := A.map fun e => (Sum.inl e.1, V.ref e.2)
theorem valV_kvA : ∀ (A : List (Int × Addr)) (s : Int), valV (kvA A) (Sum.inl s) = (atA A s).map V.ref
  | [], s => rfl
  | e :: r, s => by
    have ih := valV_kvA r s
    unfold valV kvA atA at ih ⊢
    rw [List.map_cons, List.find?_cons, List.find?_cons]
    by_cases h : e.1 = s
    · rw [decide_eq_true h, decide_eq_true (by show (Sum.inl e.1 : Key) = Sum.inl s; rw [h])]
      rfl
    · rw [decide_eq_false h, decide_eq_false (by intro z; exact h (Sum.inl.inj z))]
      exact ih
theorem atA_mem {A : List (Int × Addr)} {s : Int} {a : Addr} (h : atA A s = some a) : (s, a) ∈ A := by
  unfold atA at h
  obtain ⟨e, h1, h2⟩ := Option.map_eq_some_iff.mp h
  have h3 := List.find?_some h1
  have h4 := List.mem_of_find?_eq_some h1
  have h3 : e.1 = s := of_decide_eq_true h3
  rw [← h2, ← h3]
  exact h4
theorem atA_app {A : List (Int × Addr)} {s k : Int} {a : Addr} : atA (A ++ [(k, a)]) s = (atA A s).or (if k = s then some a else none) := by
  unfold atA
  rw [List.find?_append]
  cases A.find? fun e => decide (e.1 = s) with
  | some e => rfl
  | none =>
    rw [Option.none_or, List.find?_cons]
    by_cases h : k = s
    · rw [decide_eq_true (by exact h), if_pos h]; rfl
    · rw [decide_eq_false (by exact h), if_neg h]; rfl
theorem putK_kvA {A : List (Int × Addr)} {k : Int} {a : Addr} (h : atA A k = none) : putK (kvA A) (Sum.inl k) (V.ref a) = kvA (A ++ [(k, a)]) := by
  have hv := valV_kvA A k
  rw [h] at hv
  unfold putK
  rw [if_neg]
  · unfold kvA; rw [List.map_append]; rfl
  · intro z
    obtain ⟨e, he, q⟩ := List.any_eq_true.mp z
    unfold valV at hv
    have hv : ((kvA A).find? fun e => decide (e.1 = Sum.inl k)).map (·.2) = none := hv
    rw [Option.map_eq_none_iff, List.find?_eq_none] at hv
    exact hv e he q
/-- the heap at the lots -/
structure Nh (O : List Addr) (F L : Addr) (ls : List Addr) (A : List (Int × Addr)) (M : Addr → List KV.Cell) (fs : List (KV.Cell × Int)) (H : Hp) : Prop where
  live : Live (F :: L :: ls ++ O) H
  eF : H F = some (.dT ((kvI fs).map ent))
  eL : H L = some (.dK (kvA A))
  lst : ∀ a ∈ ls, ∃ xs, H a = some (.lst xs) ∧ RpAll (cut (F :: L :: ls ++ O) H) xs ((M a).map cellD)
  mem : ∀ e ∈ A, e.2 ∈ ls
  inj : ∀ s t a, atA A s = some a → atA A t = some a → s = t
section
variable {K : PySem.W.Frag} {Γ : List En} {O : List Addr} {F L : Addr} {ls : List Addr} {A : List (Int × Addr)} {M : Addr → List KV.Cell} {fs : List (KV.Cell × Int)} {H H' : Hp}
theorem Nh.same (N : Nh O F L ls A M fs H) (s : Same H H') : Nh O F L ls A M fs H' :=
  ⟨N.live.mono s, s _ _ N.eF, s _ _ N.eL, fun a h => by obtain ⟨xs, e, r⟩ := N.lst a h; exact ⟨xs, s _ _ e, RpAll.mono (cut_mono s) _ _ r⟩, N.mem, N.inj⟩
theorem Nh.neF (N : Nh O F L ls A M fs H) {a : Addr} (h : a ∈ ls) : F ≠ a := fun e => by
  obtain ⟨xs, e1, _⟩ := N.lst a h
  rw [← e, N.eF] at e1
  cases e1
theorem Nh.neL (N : Nh O F L ls A M fs H) {a : Addr} (h : a ∈ ls) : L ≠ a := fun e => by
  obtain ⟨xs, e1, _⟩ := N.lst a h
  rw [← e, N.eL] at e1
  cases e1
theorem Nh.neFL (N : Nh O F L ls A M fs H) : F ≠ L := fun e => by
  have e1 := N.eF
  rw [e, N.eL] at e1
  cases e1
theorem Nh.put (N : Nh O F L ls A M fs H) {fs' : List (KV.Cell × Int)} (b : But F H H') (e : H' F = some (.dT ((kvI fs').map ent))) : Nh O F L ls A M fs' H' :=
  ⟨N.live.but b ⟨_, e, fun _ z => nomatch z⟩, e, b _ _ (fun z => N.neFL z.symm) N.eL, fun a h => by obtain ⟨xs, e1, r⟩ := N.lst a h; exact ⟨xs, b _ _ (fun z => N.neF h z.symm) e1, RpAll.mono (b.cut (by simp)) _ _ r⟩, N.mem, N.inj⟩
theorem Nh.list (N : Nh O F L ls A M fs H) {a : Addr} (ha : a ∈ ls) (b : But a H H') {ys : List V} {cs : List KV.Cell} (e : H' a = some (.lst ys)) (r : RpAll (cut (F :: L :: ls ++ O) H') ys (cs.map cellD)) : Nh O F L ls A (setM M a cs) fs H' := by
  have ho : a ∈ F :: L :: ls ++ O := by simp [ha]
  refine ⟨N.live.but b ⟨_, e, fun _ z => nomatch z⟩, b _ _ (N.neF ha) N.eF, b _ _ (N.neL ha) N.eL, fun c h => ?_, N.mem, N.inj⟩
  by_cases q : c = a
  · subst q
    exact ⟨ys, e, by unfold setM; rw [if_pos rfl]; exact r⟩
  · obtain ⟨xs, e1, r1⟩ := N.lst c h
    exact ⟨xs, b _ _ q e1, by unfold setM; rw [if_neg q]; exact RpAll.mono (b.cut ho) _ _ r1⟩
theorem Nh.newList (N : Nh O F L ls A M fs H) {p : Addr} (hp : H p = none) (s : Same H H') (e : H' p = some (.lst [])) : Nh O F L (p :: ls) A (setM M p []) fs H' ∧ Gw (F :: L :: ls) H (F :: L :: p :: ls) H' := by
  have g : Gw (F :: L :: ls) H (F :: L :: p :: ls) H' := Gw.add hp s (fun a h => by
    simp only [List.mem_cons] at h ⊢
    rcases h with h | h | h
    · exact .inl h
    · exact .inr (.inl h)
    · exact .inr (.inr (.inr h))) fun a h => by
    simp only [List.mem_cons] at h ⊢
    rcases h with h | h | h | h
    · exact .inl (.inl h)
    · exact .inl (.inr (.inl h))
    · exact .inr h
    · exact .inl (.inr (.inr h))
  refine ⟨⟨fun a h => ?_, s _ _ N.eF, s _ _ N.eL, fun a h => ?_, fun e h => List.mem_cons_of_mem _ (N.mem e h), N.inj⟩, g⟩
  · by_cases q : a = p
    · subst q; exact ⟨_, e, fun _ z => nomatch z⟩
    · refine N.live.mono s a ?_
      simp only [List.cons_append, List.mem_cons, List.mem_append] at h ⊢
      rcases h with h | h | h | h | h
      · exact .inl h
      · exact .inr (.inl h)
      · exact (q h).elim
      · exact .inr (.inr (.inl h))
      · exact .inr (.inr (.inr h))
  · by_cases q : a = p
    · subst q
      exact ⟨[], e, by unfold setM; rw [if_pos rfl]; exact .nil⟩
    · obtain ⟨xs, e1, r1⟩ := N.lst a ((List.mem_cons.mp h).resolve_left q)
      exact ⟨xs, s _ _ e1, by unfold setM; rw [if_neg q]; exact RpAll.mono g.cut _ _ r1⟩
theorem Nh.key (N : Nh O F L ls A M fs H) {k : Int} {p : Addr} (b : But L H H') (e : H' L = some (.dK (kvA (A ++ [(k, p)])))) (hp : p ∈ ls) (hA : ∀ s, atA A s ≠ some p) (hk : atA A k = none) : Nh O F L ls (A ++ [(k, p)]) M fs H' := by
  refine ⟨N.live.but b ⟨_, e, fun _ z => nomatch z⟩, b _ _ N.neFL N.eF, e, fun a h => ?_, fun x h => ?_, fun s t a h1 h2 => ?_⟩
  · obtain ⟨xs, e1, r1⟩ := N.lst a h
    exact ⟨xs, b _ _ (fun z => N.neL h z.symm) e1, RpAll.mono (b.cut (by simp)) _ _ r1⟩
  · rcases List.mem_append.mp h with y | y
    · exact N.mem x y
    · rw [List.mem_singleton.mp y]; exact hp
  · rw [atA_app] at h1 h2
    cases a1 : atA A s with
    | some x =>
      rw [a1] at h1
      have h1 : x = a := Option.some.inj h1
      subst h1
      cases a2 : atA A t with
      | some y =>
        rw [a2] at h2
        have h2 : y = x := Option.some.inj h2
        subst h2
        exact N.inj s t _ a1 a2
      | none =>
        rw [a2] at h2
        have h2 : (if k = t then some p else none) = some x := h2
        split at h2
        · exact (hA s (by rw [a1, ← h2])).elim
        · cases h2
    | none =>
      rw [a1] at h1
      have h1 : (if k = s then some p else none) = some a := h1
      split at h1
      · rename_i q
        cases h1
        cases a2 : atA A t with
        | some y =>
          rw [a2] at h2
          have h2 : y = p := Option.some.inj h2
          exact (hA t (by rw [a2, h2])).elim
        | none =>
          rw [a2] at h2
          have h2 : (if k = t then some p else none) = some p := h2
          split at h2
          · omega
          · cases h2
      · cases h1
/-- the steps of a walk keep the slots -/
theorem env_gw {σ : St} {ls' : List Addr} (g : EnvOk (cut (F :: L :: ls ++ O) H) σ Γ) (w : Gw (F :: L :: ls) H (F :: L :: ls') H') : EnvOk (cut (F :: L :: ls' ++ O) H') σ Γ := g.mono w.cut
/-- lots.setdefault(s, []).append(q) -/
theorem s_lots {td ty te : TE} {σ : St} {D : Ends} {s : Int} {q : KV.Cell} (N : Nh O F L ls A M fs H) (env : EnvOk (cut (F :: L :: ls ++ O) H) σ Γ) (ho : E td Γ (.ptr L)) (hs : Ed ty Γ (.int s)) (hq : Ed te Γ (cellD q)) (hA : A.length ≤ 10000) (hM : (cont A M s).length ≤ 10000)
    (k : ∀ ls' A' M' H', Nh O F L ls' A' M' fs H' → Gw (F :: L :: ls) H (F :: L :: ls') H' → (∀ a ∈ ls, a ∈ ls') → A'.length ≤ A.length + 1 → (∀ e ∈ A', e ∈ A ∨ e.1 = s) → (∀ t, cont A' M' t = if t = s then cont A M t ++ [q] else cont A M t) → (∀ a ∈ ls, atA A s ≠ some a → M' a = M a) → (∀ t a, a ∈ ls → atA A' t = some a → atA A t = some a) →
      EnvOk (cut (F :: L :: ls' ++ O) H') σ Γ → D.nx σ H') : tDrop (tBM K "list" rAppend (tDSetd td ty (tLst tNil)) (tCons te tNil)) D σ H :=
  ho σ H _ N.live env _ fun x H1 _ z s1 r1 => by
    subst z
    cases r1
    refine ⟨L, rfl, .inl ⟨_, .inl (s1 _ _ N.eL)⟩, ?_⟩
    refine hs σ H1 _ (N.live.mono s1) (env.mono (cut_mono s1)) _ fun y H2 _ z s2 r2 => ?_
    subst z
    cases r2 with | dat r2 =>
    have s12 := s1.trans s2
    refine ⟨small (n := 0) (by decide), fun p hp => ?_⟩
    have sp := same_upd (o := .lst []) hp
    have N3 := (N.same s12).newList hp sp upd_same
    have e3L := N3.1.eL
    refine ⟨kvA A, Sum.inl s, e3L, r2.toInt, by unfold kvA; rw [List.length_map]; exact Nat.lt_of_le_of_lt hA (by decide), fun v hv => ?_, fun hv => ?_⟩
    · rw [valV_kvA] at hv
      obtain ⟨a, ea, rfl⟩ := Option.map_eq_some_iff.mp hv
      have s3 := s12.trans sp
      have N4 := N.same s3
      have ha : a ∈ ls := N.mem _ (atA_mem ea)
      obtain ⟨xs, e4, r4⟩ := N4.lst a ha
      have env4 := env.mono (cut_mono (O := F :: L :: ls ++ O) s3)
      refine ⟨.inl ⟨rfl, xs, SqL.of e4⟩, ?_⟩
      refine hq σ _ _ N4.live env4 _ fun v5 H5 _ z s5 r5 => ?_
      subst z
      cases r5 with | dat r5 =>
      have ml : (M a).length ≤ 10000 := by have := hM; unfold cont at this; rw [ea] at this; exact this
      have hl : xs.length < sizeLine := by rw [r4.length, List.length_map]; exact Nat.lt_of_le_of_lt ml (by decide)
      refine ⟨a, xs, v5, rfl, rfl, s5 _ _ e4, hl, ?_⟩
      have N5 := N4.same s5
      have b6 : But a H5 (upd H5 a (.lst (xs ++ [v5]))) := But.of (Same.refl _)
      have ho : a ∈ F :: L :: ls ++ O := by simp [ha]
      have r6 : RpAll (cut (F :: L :: ls ++ O) (upd H5 a (.lst (xs ++ [v5])))) (xs ++ [v5]) ((M a ++ [q]).map cellD) := by
        rw [cut_own ho, List.map_append]
        exact (RpAll.mono (cut_mono s5) _ _ r4).append (.cons r5 .nil)
      have N6 := N5.list ha b6 upd_same r6
      have w : Gw (F :: L :: ls) H (F :: L :: ls) (upd H5 a (.lst (xs ++ [v5]))) := (Gw.of (s3.trans s5)).trans (Gw.but b6 (by simp [ha]))
      refine k ls A _ _ N6 w (fun _ h => h) (by omega) (fun e h => .inl h) (fun t => ?_) (fun c hc n => ?_) (fun t c _ h => h) (env_gw env w)
      · unfold cont
        by_cases h : t = s
        · subst h
          rw [if_pos rfl, ea]
          show setM M a (M a ++ [q]) a = _
          unfold setM
          rw [if_pos rfl]
        · rw [if_neg h]
          cases et : atA A t with
          | none => rfl
          | some b =>
            show setM M a _ b = M b
            unfold setM
            rw [if_neg]
            intro z
            subst z
            exact h (N.inj _ _ _ et ea)
      · unfold setM
        rw [if_neg]
        intro z
        subst z
        exact n ea
    · rw [valV_kvA, Option.map_eq_none_iff] at hv
      rw [putK_kvA hv]
      have pA : ∀ t, atA A t ≠ some p := fun t z => by
        have := N.mem _ (atA_mem z)
        obtain ⟨xs, e, _⟩ := N.lst p this
        rw [s12 _ _ e] at hp
        cases hp
      have bL : But L (upd H2 p (.lst [])) (upd (upd H2 p (.lst [])) L (.dK (kvA (A ++ [(s, p)])))) := But.of (Same.refl _)
      have N4 := N3.1.key (k := s) (p := p) bL upd_same (by simp) pA hv
      have w4 : Gw (F :: L :: ls) H (F :: L :: p :: ls) (upd (upd H2 p (.lst [])) L (.dK (kvA (A ++ [(s, p)])))) := ((Gw.of s12).trans N3.2).trans (Gw.but bL (by simp))
      generalize upd (upd H2 p (.lst [])) L (.dK (kvA (A ++ [(s, p)]))) = H4 at N4 w4
      obtain ⟨xs, e4, r4⟩ := N4.lst p (by simp)
      have pM : setM M p [] p = [] := by unfold setM; rw [if_pos rfl]
      rw [pM] at r4
      cases r4
      refine ⟨.inl ⟨rfl, [], SqL.of e4⟩, ?_⟩
      refine hq σ _ _ N4.live (env_gw env w4) _ fun v5 H5 _ z s5 r5 => ?_
      subst z
      cases r5 with | dat r5 =>
      refine ⟨p, [], v5, rfl, rfl, s5 _ _ e4, by decide, ?_⟩
      have N5 := N4.same s5
      have b6 : But p H5 (upd H5 p (.lst ([] ++ [v5]))) := But.of (Same.refl _)
      have ho : p ∈ F :: L :: (p :: ls) ++ O := by simp
      have N6 := N5.list (a := p) (by simp) b6 upd_same (cs := [q]) (by rw [cut_own ho]; exact .cons r5 .nil)
      have w : Gw (F :: L :: ls) H (F :: L :: p :: ls) (upd H5 p (.lst ([] ++ [v5]))) := (w4.same s5).trans (Gw.but b6 (by simp))
      have pls : p ∉ ls := fun z => by
        obtain ⟨xs, e, _⟩ := N.lst p z
        rw [s12 _ _ e] at hp
        cases hp
      refine k (p :: ls) _ _ _ N6 w (fun _ h => List.mem_cons_of_mem _ h) (by rw [List.length_append]; simp) (fun e h => ?_) (fun t => ?_) (fun c hc n => ?_) (fun t c hc h => ?_) (env_gw env w)
      · rcases List.mem_append.mp h with y | y
        · exact .inl y
        · rw [List.mem_singleton.mp y]; exact .inr rfl
      · unfold cont
        rw [atA_app]
        by_cases h : t = s
        · subst h
          rw [if_pos rfl, hv, if_pos rfl]
          show setM (setM M p []) p [q] p = [] ++ [q]
          unfold setM
          rw [if_pos rfl]; rfl
        · rw [if_neg h, if_neg (fun z => h z.symm)]
          cases et : atA A t with
          | none => rfl
          | some b =>
            show setM (setM M p []) p _ b = M b
            have nb : b ≠ p := fun z => pA t (by rw [et, z])
            unfold setM
            rw [if_neg nb, if_neg nb]
      · have nb : c ≠ p := fun z => pls (z ▸ hc)
        unfold setM
        rw [if_neg nb, if_neg nb]
      · rw [atA_app] at h
        cases et : atA A t with
        | some b => rw [et] at h; exact h
        | none =>
          rw [et] at h
          have h : (if s = t then some p else none) = some c := h
          split at h
          · cases h; exact (pls hc).elim
          · cases h
end
end KD
/-! KStm2 -/
set_option Elab.async false
set_option linter.all false
set_option maxRecDepth 100000
set_option maxHeartbeats 4000000
namespace KV
open PySem L2 KR
variable {K : PySem.W.Frag} {Γ : List En} {ta tb te td ty tv to : TE} {D : Ends} {σ : St} {H : Hp} {O : List Addr} {tz ts tr : TS}
/-- m, m - 1, .. -/
def dnD (m : Int) (n : Nat) : List PyData := (List.range n).map fun (i : Nat) => PyData.int (m - (i : Int))
theorem src_dn {tA : TA} {m : Int} (h : Ar tA Γ [.dat (.int m), .dat (.int 0), .dat (.int (-1))]) (h1 : -100000 ≤ m ∧ m ≤ 100000) : Src (iRng3 tA) Γ (dnD m m.toNat) := fun σ H O l g R q =>
  h σ H O l g _ fun vs H1 s r => by
    cases r with | cons r1 r =>
    cases r with | cons r2 r =>
    cases r with | cons r3 r =>
    cases r
    cases r1 with | dat r1 => cases r2 with | dat r2 => cases r3 with | dat r3 =>
    rw [r1.toInt, r2.toInt, r3.toInt]
    have rg : RgC m 0 (-1) (m - 0).toNat := RgC.neg (by omega) (by omega) (by omega) (by omega)
    rw [show m - 0 = m by omega] at rg
    refine ⟨m, 0, -1, m.toNat, rfl, rg, q _ _ s ?_⟩
    rw [show (dnD m m.toNat).length = m.toNat by simp [dnD]]
    refine (walk_rangeC (lo := m) (c := -1) (n := m.toNat)).mono (fun _ _ => trivial) fun i H' x H'' hi _ y => ?_
    obtain ⟨rfl, rfl⟩ := y
    refine ⟨Same.refl _, .int (m - (i : Int)), ?_, fun _ _ _ => ?_⟩
    · unfold dnD
      rw [List.getElem?_map, List.getElem?_range hi]
      rfl
    · have e : m + (i : Int) * (-1 : Int) = m - (i : Int) := by omega
      show Rp _ (.int (m + (i : Int) * (-1 : Int))) _
      rw [e]
      exact .int _
theorem exists_max : ∀ (ns : List Int), ns ≠ [] → ∃ m ∈ ns, ∀ y ∈ ns, y ≤ m
  | [], h => absurd rfl h
  | [n], _ => ⟨n, by simp, fun y hy => by rw [List.mem_singleton.mp hy]; exact Int.le_refl _⟩
  | n :: k :: r, _ => by
    obtain ⟨m, hm, hl⟩ := exists_max (k :: r) (fun z => nomatch z)
    by_cases h : n ≤ m
    · refine ⟨m, List.mem_cons_of_mem _ hm, fun y hy => ?_⟩
      rcases List.mem_cons.mp hy with z | z
      · rw [z]; exact h
      · exact hl y z
    · refine ⟨n, List.mem_cons_self .., fun y hy => ?_⟩
      rcases List.mem_cons.mp hy with z | z
      · rw [z]; exact Int.le_refl _
      · have := hl y z; omega
/-! ### behind a lock -/
def unl : En → En
  | .dfz k => .dif k
  | .scr _ _ => .unk
  | e => e
theorem env_unlock {G : Hp} {a : Addr} {od : Obj} {kvs : List (Cell × V)} (ha : G a = some (.frz od (.dT (kvs.map ent)))) (env : EnvOk G σ Γ) : EnvOk (upd G a (.dT (kvs.map ent))) σ (Γ.map unl) := by
  have ne : ∀ b o, G b = some o → (∀ od u, o ≠ .frz od u) → (upd G a (.dT (kvs.map ent))) b = some o := fun b o e n => by
    rw [upd_ne fun z => n od (.dT (kvs.map ent)) (by rw [z, ha] at e; exact (Option.some.inj e).symm)]
    exact e
  have rd : ∀ (b : Addr) (ks : List (Cell × V)), Rd G b (.dT (ks.map ent)) → Rd (upd G a (.dT (kvs.map ent))) b (.dT (ks.map ent)) := fun b ks h => by
    by_cases hb : b = a
    · subst hb
      rcases h with h | ⟨o, h⟩
      · rw [ha] at h; cases h
      · rw [ha] at h
        injection h with h
        injection h with _ h
        exact .inl (by rw [upd_same, h])
    · rcases h with h | ⟨o, h⟩
      · exact .inl (by rw [upd_ne hb]; exact h)
      · exact .inr ⟨o, by rw [upd_ne hb]; exact h⟩
  induction env with
  | nil => exact .nil
  | cons h _ ih =>
    refine .cons ?_ ih
    cases h with
    | unk => exact .unk
    | some h =>
      refine .some ?_
      cases h with
      | unk => exact .unk
      | dat h => exact .dat (Rp.lt (fun b xs e => ne b _ e fun _ _ z => nomatch z) (fun b xs e => ne b _ e fun _ _ z => nomatch z) h)
      | dic h => exact .dic (ne _ _ h fun _ _ z => nomatch z)
      | dif h => exact .dif (rd _ _ h)
      | dfz h => exact .dif (rd _ _ (.inr ⟨_, h⟩))
      | scr h => exact .unk
      | ptr => exact .ptr
theorem lock_at {i : Nat} {kvs : List (Cell × V)} (l : Live O H) (env : EnvOk (cut O H) σ Γ) (hi : Γ[i]? = some (.dic kvs)) :
    ∃ a, σ[i]? = some (some (.ref a)) ∧ H a = some (.dT (kvs.map ent)) ∧ a ∉ O ∧ ∀ od, Live O (upd H a (.frz od (.dT (kvs.map ent)))) ∧ EnvOk (cut O (upd H a (.frz od (.dT (kvs.map ent))))) σ (lockG Γ i kvs) := by
  obtain ⟨v, e1, e2⟩ := env.get hi fun z => nomatch z
  cases e2 with | @dic a _ e2 =>
  have out : a ∉ O := fun z => by unfold cut at e2; rw [if_pos z] at e2; cases e2
  have e3 := cut_same _ _ _ _ e2
  exact ⟨a, e1, e3, out, fun od => ⟨l.upd (fun _ z => nomatch z), by rw [cut_upd out]; exact (env_lock e2 env).put e1 (.dfz upd_same)⟩⟩
/-- x, y, z = a new dict, a new dict by plain keys, data -/
theorem s_par3 {i j n : Nat} {kvs : List (Cell × V)} {e : En} (l : Live O H) (env : EnvOk (cut O H) σ Γ) (h1 : ND ta Γ kvs) (h2 : E tb Γ e)
    (k : ∀ p q v H1, H p = none → H q = none → Same H H1 → H1 p = some (.dT (kvs.map ent)) → H1 q = some (.dK []) → Live (p :: q :: O) H1 → EnvOk (cut (p :: q :: O) H1) (((σ.set i (some (.ref p))).set j (some (.ref q))).set n (some v)) (((Γ.set i (.ptr p)).set j (.ptr q)).set n e) →
      tz D (((σ.set i (some (.ref p))).set j (some (.ref q))).set n (some v)) H1) : tSeq (tPar3 i j n (tCons ta (tCons tDNewK (tCons tb tNil)))) tz D σ H :=
  h1 σ H O l env _ fun p H1 np s1 eP => fun q nq => by
    have sq := same_upd (o := .dK []) nq
    have l2 : Live (q :: O) (upd H1 q (.dK [])) := ((l.mono s1).mono sq).cons upd_same fun _ z => nomatch z
    have l1 : Live (p :: q :: O) (upd H1 q (.dK [])) := l2.cons (sq _ _ eP) fun _ z => nomatch z
    have s2 := s1.trans sq
    have pq : p ≠ q := ne_of_none eP nq
    have c : Same (cut O H) (cut (p :: q :: O) (upd H1 q (.dK []))) := fun a o e => by
      unfold cut at e ⊢
      split at e
      · cases e
      · rename_i hn
        have a1 : a ≠ p := ne_of_none e np
        have a2 : a ≠ q := ne_of_none (s1 _ _ e) nq
        rw [if_neg (by simp only [List.mem_cons, not_or]; exact ⟨a1, a2, hn⟩)]
        exact s2 a o e
    have env1 := env.mono c
    refine h2 σ _ _ l1 env1 _ fun v H2 _ z s3 r3 => ?_
    subst z
    exact ⟨_, _, _, rfl, k p q v H2 np (s1.free nq) (s2.trans s3) (s3 _ _ (sq _ _ eP)) (s3 _ _ upd_same) (l1.mono s3) ((((env1.mono (cut_mono s3)).set .ptr i).set .ptr j).set r3 n)⟩
end KV
namespace KD
open PySem L2 KV KR KS KC
theorem Gw.unlock {own own' : List Addr} {H H' : Hp} {a : Addr} {od : Obj} {u : HO} (ha : H a = some u) (w : Gw own (upd H a (.frz od u)) own' H') : Gw own H own' (upd H' a u) := by
  refine ⟨fun b o n e => ?_, w.sub, fun b h => (w.new b h).imp id fun e => ?_⟩
  · by_cases hb : b = a
    · subst hb
      rw [upd_same, ← ha, e]
    · rw [upd_ne hb]
      exact w.bu b o n (by rw [upd_ne hb]; exact e)
  · by_cases hb : b = a
    · subst hb
      rw [upd_same] at e; cases e
    · rw [upd_ne hb] at e
      exact e
theorem Nh.unlock {O : List Addr} {F L : Addr} {ls : List Addr} {A : List (Int × Addr)} {M : Addr → List KV.Cell} {fs : List (KV.Cell × Int)} {H : Hp} {a : Addr} {od : Obj} {u : HO} (N : Nh O F L ls A M fs H) (ha : H a = some (.frz od u)) (hu : ∀ xs, u ≠ .tup xs) : Nh O F L ls A M fs (upd H a u) := by
  refine ⟨N.live.upd hu, ?_, ?_, fun c h => ?_, N.mem, N.inj⟩
  · rw [upd_ne fun z => by have := N.eF; rw [z, ha] at this; cases this]; exact N.eF
  · rw [upd_ne fun z => by have := N.eL; rw [z, ha] at this; cases this]; exact N.eL
  · obtain ⟨xs, e, r⟩ := N.lst c h
    exact ⟨xs, by rw [upd_ne fun z => by rw [z, ha] at e; cases e]; exact e, lock_rpAll ha r⟩
/-- here = lots.get(s, []) -/
theorem s_get {Γ : List En} {td ty : TE} {tz : TS} {D : Ends} {σ : St} {i : Nat} {O : List Addr} {F L : Addr} {ls : List Addr} {A : List (Int × Addr)} {M : Addr → List KV.Cell} {fs : List (KV.Cell × Int)} {H : Hp} {s : Int}
    (N : Nh O F L ls A M fs H) (env : EnvOk (cut (F :: L :: ls ++ O) H) σ Γ) (ho : E td Γ (.ptr L)) (hs : Ed ty Γ (.int s))
    (k : ∀ p h H', Nh O F L (p :: ls) A (setM M p []) fs H' → Gw (F :: L :: ls) H (F :: L :: p :: ls) H' → (atA A s = some h ∨ (atA A s = none ∧ h = p)) → (∀ t, atA A t ≠ some p) → EnvOk (cut (F :: L :: (p :: ls) ++ O) H') (σ.set i (some (.ref h))) (Γ.set i (.ptr h)) → tz D (σ.set i (some (.ref h))) H') : tSeq (tAsg (tDGet2 td ty (tLst tNil)) (gName i)) tz D σ H :=
  ho σ H _ N.live env _ fun x H1 _ z s1 r1 => by
    subst z
    cases r1
    refine ⟨L, rfl, .inl ⟨_, .inl (s1 _ _ N.eL)⟩, ?_⟩
    refine hs σ H1 _ (N.live.mono s1) (env.mono (cut_mono s1)) _ fun y H2 _ z s2 r2 => ?_
    subst z
    cases r2 with | dat r2 =>
    have s12 := s1.trans s2
    refine ⟨small (n := 0) (by decide), fun p hp => ?_⟩
    have sp := same_upd (o := .lst []) hp
    have N3 := (N.same s12).newList hp sp upd_same
    have pA : ∀ t, atA A t ≠ some p := fun t z => by
      obtain ⟨xs, e, _⟩ := N.lst p (N.mem _ (atA_mem z))
      rw [s12 _ _ e] at hp
      cases hp
    have w : Gw (F :: L :: ls) H (F :: L :: p :: ls) (upd H2 p (.lst [])) := (Gw.of s12).trans N3.2
    refine ⟨valV (kvA A) (Sum.inl s), ?_, ?_⟩
    · rw [r2.toInt]
      exact DGet.k (k := Sum.inl s) N3.1.eL
    · rw [valV_kvA]
      cases e : atA A s with
      | some h => exact k p h _ N3.1 w (.inl e) pA ((env_gw env w).set .ptr i)
      | none => exact k p p _ N3.1 w (.inr ⟨e, rfl⟩) pA ((env_gw env w).set .ptr i)
theorem cont_of {A : List (Int × Addr)} {M : Addr → List KV.Cell} {s : Int} {a : Addr} (h : atA A s = some a) : cont A M s = M a := by unfold cont; rw [h]
theorem cont_no {A : List (Int × Addr)} {M : Addr → List KV.Cell} {s : Int} (h : atA A s = none) : cont A M s = [] := by unfold cont; rw [h]
theorem cont_set {A : List (Int × Addr)} {M : Addr → List KV.Cell} {s : Int} {a : Addr} {l : List KV.Cell} (h : atA A s ≠ some a) : cont A (setM M a l) s = cont A M s := by
  unfold cont
  cases e : atA A s with
  | none => rfl
  | some b =>
    show (if b = a then l else M b) = M b
    rw [if_neg fun z => h (by rw [e, z])]
theorem setM_at {M : Addr → List KV.Cell} {a : Addr} {l : List KV.Cell} : setM M a l a = l := if_pos rfl
/-! ### the dict of necks -/
def fsOf (ks : List (KV.Cell × Int)) (f : KV.Cell → Nat) : List (KV.Cell × Int) := ks.map fun e => (e.1, (f e.1 : Int))
theorem keys_fsOf (ks : List (KV.Cell × Int)) (f : KV.Cell → Nat) : keysI (fsOf ks f) = keysI ks := by unfold keysI fsOf; rw [List.map_map]; rfl
theorem valV_fsOf {ks : List (KV.Cell × Int)} {f : KV.Cell → Nat} {c : KV.Cell} (nd : (keysI ks).Nodup) (h : c ∈ keysI ks) : valV (kvI (fsOf ks f)) c = some (.int (f c)) := by
  refine valV_int (by rw [keys_fsOf]; exact nd) ?_
  obtain ⟨n, hn⟩ := keys_get h
  exact List.mem_map.mpr ⟨_, hn, rfl⟩
theorem putK_fsOf {ks : List (KV.Cell × Int)} {f : KV.Cell → Nat} {c : KV.Cell} {t : Nat} (h : c ∈ keysI ks) : putK (kvI (fsOf ks f)) c (.int t) = kvI (fsOf ks (setF f c t)) := by
  unfold putK
  rw [if_pos]
  · unfold kvI fsOf
    rw [List.map_map, List.map_map, List.map_map]
    refine List.map_congr_left fun e _ => ?_
    show (if e.1 = c then (e.1, V.int (t : Int)) else (e.1, V.int ((f e.1 : Nat) : Int))) = (e.1, V.int ((setF f c t e.1 : Nat) : Int))
    unfold setF
    by_cases q : e.1 = c
    · rw [if_pos q, if_pos q]
    · rw [if_neg q, if_neg q]
  · obtain ⟨n, hn⟩ := keys_get h
    refine List.any_eq_true.mpr ⟨(c, .int (f c)), ?_, decide_eq_true rfl⟩
    unfold kvI fsOf
    rw [List.map_map]
    exact List.mem_map.mpr ⟨_, hn, rfl⟩
theorem PN.congr {g : KM.Gd} (ok : g.Ok) {l : List KV.Cell} {t : Nat} {f : KV.Cell → Nat} {here rem : List KV.Cell} {lt lt' : Nat → List KV.Cell} (N : PN g l t f here lt rem) (h : ∀ s, 1 ≤ s → s < t → lt s = lt' s) : PN g l t f here lt' rem where
  fset := N.fset
  high := N.high
  hin := N.hin
  lin s h1 h2 := by rw [← h s h1 h2]; exact N.lin s h1 h2
  pend q h0 a hq := by
    rcases N.pend q h0 a hq with ⟨y1, y2⟩ | y
    · obtain ⟨j, e, _⟩ := clr_air ok a
      exact .inl ⟨y1, by rw [← h _ (by omega) y1]; exact y2⟩
    · exact .inr y
  remO := N.remO
  lenH := N.lenH
  lenL s h1 h2 := by rw [← h s h1 h2]; exact N.lenL s h1 h2
end KD
/-! KCnt -/
set_option Elab.async false
set_option linter.all false
set_option maxRecDepth 100000
set_option maxHeartbeats 4000000
namespace KD
open PySem L2 KV KR KS KC
/-! ### rounds as a dict -/
structure RoundsOk (g : KM.Gd) (ks : List (KV.Cell × Int)) : Prop where
  nd : (keysI ks).Nodup
  mem : ∀ c n, (c, n) ∈ ks ↔ ∃ k : Nat, n = (k : Int) + 1 ∧ g.L k c
theorem RoundsOk.key {g : KM.Gd} {ks : List (KV.Cell × Int)} (r : RoundsOk g ks) {c : KV.Cell} : c ∈ keysI ks ↔ ∃ k, g.L k c := by
  constructor
  · intro h
    obtain ⟨n, hn⟩ := keys_get h
    obtain ⟨k, _, l⟩ := (r.mem c n).mp hn
    exact ⟨k, l⟩
  · rintro ⟨k, l⟩
    exact mem_keys ((r.mem c _).mpr ⟨k, rfl, l⟩)
theorem L_air {g : KM.Gd} {k : Nat} {c : KV.Cell} (h : g.L k c) : g.air c := KM.O_air h.2
theorem rounds_from {g : KM.Gd} (ok : g.Ok) {ks : List (KV.Cell × Int)} (so : StepsOk g ks) {f : KV.Cell → Nat} (hf : ∀ c k, k + 1 ≤ f c ↔ g.O k c) :
    RoundsOk g (((keysI ks).filter fun c => decide ((f c : Int) = (clr g c : Int))).map fun c => (c, (clr g c : Int))) := by
  have ek : keysI (((keysI ks).filter fun c => decide ((f c : Int) = (clr g c : Int))).map fun c => (c, (clr g c : Int))) = (keysI ks).filter fun c => decide ((f c : Int) = (clr g c : Int)) := by
    generalize (keysI ks).filter _ = l
    unfold keysI
    rw [List.map_map]
    exact List.map_id _
  refine ⟨by rw [ek]; exact so.nd.filter _, fun c n => ?_⟩
  rw [List.mem_map]
  constructor
  · rintro ⟨d, hd, e⟩
    injection e with e1 e2
    subst e1
    obtain ⟨h1, h2⟩ := List.mem_filter.mp hd
    have a := (so.key ok).mp h1
    have h2 := of_decide_eq_true h2
    obtain ⟨j, ej, x, y⟩ := clr_air ok a
    exact ⟨j, by rw [← e2, ej]; rfl, x, (hf d j).mp (by omega)⟩
  · rintro ⟨k, rfl, l⟩
    have a := KM.O_air l.2
    have e := clr_of l.1 (KM.O_far l.2)
    refine ⟨c, List.mem_filter.mpr ⟨(so.key ok).mpr a, decide_eq_true ?_⟩, by rw [e]; rfl⟩
    have h1 := (hf c k).mpr l.2
    have h2 : ¬ (k + 1 + 1 ≤ f c) := fun z => KM.O_far ((hf c (k + 1)).mp z) l.1
    omega
/-- how many are laid in round k + 1 -/
noncomputable def lenL (S : Sec) (k : Nat) : Nat := (sel S ((gd S).L k)).length
/-- the last round that lays -/
structure IsLast (S : Sec) (n : Nat) : Prop where
  has : n = 0 ∨ ∃ k c, n = k + 1 ∧ (gd S).L k c
  top : ∀ k c, (gd S).L k c → k + 1 ≤ n
theorem IsLast.uniq {S : Sec} {n m : Nat} (a : IsLast S n) (b : IsLast S m) : n = m := by
  have one : ∀ {n m : Nat}, IsLast S n → IsLast S m → n ≤ m := fun {n m} a b => by
    rcases a.has with z | ⟨k, c, e, l⟩
    · omega
    · have := b.top k c l; omega
  have := one a b
  have := one b a
  omega
noncomputable def cntD (S : Sec) (n : Nat) : PyData := .tuple ((List.range n).map fun i => .int (lenL S i : Int))
theorem sel_filter {S : Sec} {π ρ : KV.Cell → Prop} {p : KV.Cell → Bool} (h : ∀ c, InG S c → (ρ c ↔ π c ∧ p c = true)) : (sel S π).filter p = sel S ρ := by
  unfold sel
  rw [List.filter_filter]
  refine List.filter_congr fun c hc => ?_
  have := h c (mem_cells.mp hc)
  by_cases a : π c
  · by_cases b : p c = true
    · have r := this.mpr ⟨a, b⟩
      simp [a, b, r]
    · have r : ¬ ρ c := fun z => b (this.mp z).2
      simp [a, b, r]
  · have r : ¬ ρ c := fun z => a (this.mp z).1
    simp [a, r]
theorem sel_len {S : Sec} {π : KV.Cell → Prop} {l : List KV.Cell} (hn : l.Nodup) (h : ∀ c, c ∈ l ↔ InG S c ∧ π c) : l.length = (sel S π).length := (sel_perm hn h).length_eq
theorem rounds_short {S : Sec} (wf : Wf S) {ks : List (KV.Cell × Int)} (r : RoundsOk (gd S) ks) : ks.length ≤ 54 := by
  have ok := gd_ok wf
  have : (keysI ks).length = (sel S fun c => ∃ k, (gd S).L k c).length := sel_len r.nd fun c => by
    rw [r.key]
    exact ⟨fun h => ⟨ok.ain c (by obtain ⟨k, l⟩ := h; exact L_air l), h⟩, fun h => h.2⟩
  have h2 := sel_length wf fun c => ∃ k, (gd S).L k c
  unfold keysI at this
  rw [List.length_map] at this
  omega
theorem rounds_max {S : Sec} {ks : List (KV.Cell × Int)} (r : RoundsOk (gd S) ks) {n : Nat} (il : IsLast S n) : (n : Int) ∈ ks.map (·.2) ++ [0] ∧ ∀ y ∈ ks.map (·.2) ++ [0], y ≤ (n : Int) := by
  constructor
  · rcases il.has with z | ⟨k, c, e, l⟩
    · subst z; simp
    · refine List.mem_append.mpr (.inl (List.mem_map.mpr ⟨(c, (n : Int)), (r.mem _ _).mpr ⟨k, by omega, l⟩, rfl⟩))
  · intro y hy
    rcases List.mem_append.mp hy with z | z
    · obtain ⟨e, he, rfl⟩ := List.mem_map.mp z
      obtain ⟨k, e2, l⟩ := (r.mem e.1 e.2).mp he
      have := il.top k _ l
      omega
    · rw [List.mem_singleton.mp z]; omega
theorem rounds_count {S : Sec} (wf : Wf S) {ks : List (KV.Cell × Int)} (r : RoundsOk (gd S) ks) (i : Nat) : (ks.map (·.2)).count ((i : Int) + 1) = lenL S i := by
  have ok := gd_ok wf
  rw [List.count_eq_countP, List.countP_map, List.countP_eq_length_filter]
  unfold lenL
  rw [← sel_len (l := (ks.filter fun e => e.2 == (i : Int) + 1).map (·.1)) (π := (gd S).L i)]
  · rw [List.length_map]; rfl
  · exact (List.Sublist.map _ List.filter_sublist).nodup r.nd
  · intro c
    rw [List.mem_map]
    constructor
    · rintro ⟨e, he, rfl⟩
      obtain ⟨h1, h2⟩ := List.mem_filter.mp he
      obtain ⟨k, e2, l⟩ := (r.mem e.1 e.2).mp h1
      have h2 : e.2 = (i : Int) + 1 := by simpa using h2
      have : k = i := by omega
      subst this
      exact ⟨ok.ain _ (L_air l), l⟩
    · rintro ⟨_, l⟩
      exact ⟨(c, (i : Int) + 1), List.mem_filter.mpr ⟨(r.mem _ _).mpr ⟨i, rfl, l⟩, by simp⟩, rfl⟩
theorem last_exists {S : Sec} (wf : Wf S) : ∃ n, IsLast S n := by
  have ok := gd_ok wf
  have low : ∀ k c, (gd S).L k c → k + 1 ≤ 7 := fun k c l => by
    have a := L_air l
    have e := clr_of l.1 (KM.O_far l.2)
    have := (near_clr ok a).mp (KM.near_all ok a)
    have i := ok.ain c a
    have h1 := i.2.2.1
    have h2 : c.2 < (ht S : Int) := i.2.2.2
    have := wf.tall
    omega
  have gen : ∀ m : Nat, (∀ k c, (gd S).L k c → k + 1 ≤ m) → ∃ n, IsLast S n := by
    intro m
    induction m with
    | zero => intro h; exact ⟨0, .inl rfl, h⟩
    | succ m ih =>
      intro h
      by_cases z : ∃ c, (gd S).L m c
      · obtain ⟨c, l⟩ := z
        exact ⟨m + 1, .inr ⟨m, c, rfl, l⟩, h⟩
      · refine ih fun k c l => ?_
        have := h k c l
        by_cases e : k = m
        · subst e; exact (z ⟨c, l⟩).elim
        · omega
  exact gen 7 low
theorem IsLast.le {S : Sec} (wf : Wf S) {n : Nat} (il : IsLast S n) : n ≤ 7 := by
  rcases il.has with z | ⟨k, c, e, l⟩
  · omega
  · have ok := gd_ok wf
    have a := L_air l
    have e2 := clr_of l.1 (KM.O_far l.2)
    have := (near_clr ok a).mp (KM.near_all ok a)
    have i := ok.ain c a
    have h1 := i.2.2.1
    have h2 : c.2 < (ht S : Int) := i.2.2.2
    have := wf.tall
    omega
/-- laid within r rounds -/
noncomputable def tot (S : Sec) (r : Nat) : Nat := ((List.range r).map (lenL S)).sum
theorem tot_succ (S : Sec) (r : Nat) : tot S (r + 1) = tot S r + lenL S r := by
  unfold tot
  rw [List.range_succ, List.map_append, List.sum_append]
  simp
end KD
namespace KV
open PySem L2 KR
variable {K : PySem.W.Frag} {Γ : List En} {ta tb te td ty tv to : TE}
/-- list(d.values()) of some dict -/
theorem es_listV {Φ : En → Prop} {Ψ : List (Cell × Int) → Prop} (h : Es td Γ Φ) (hΦ : ∀ e, Φ e → ∃ ks, e = .dic (kvI ks) ∧ Ψ ks) : Es (tCB rListV (tCons (tBM0 K "dict" rValsT td) tNil)) Γ fun e => ∃ ks, Ψ ks ∧ e = .dat (.list (ks.map fun x => .int x.2)) := fun σ H O l env Q q =>
  h σ H O l env _ fun x H1 e z s1 r1 => by
    obtain ⟨ks, rfl, hψ⟩ := hΦ e z
    have t := (n_listV (K := K) (Γ := [.dic (kvI ks)]) (td := tVar 0) (e_var rfl)).e [some x] H1 O (l.mono s1) (.cons (.some r1) .nil) Q fun v H2 e z s r => q v H2 e ⟨ks, hψ, z⟩ (s1.trans s) r
    obtain ⟨v, hv, t⟩ := t
    cases hv
    exact t
/-- x += e, ints -/
theorem s_augI {D : Ends} {σ : St} {H : Hp} {O : List Addr} {tz : TS} {f : Int → Int → Int} {i : Nat} {x y z : Int} (l : Live O H) (env : EnvOk (cut O H) σ Γ) (hi : Γ[i]? = some (.dat (.int x))) (h : Ed te Γ (.int y)) (hz : f x y = z)
    (k : ∀ H1, Same H H1 → Live O H1 → EnvOk (cut O H1) (σ.set i (some (.int z))) (Γ.set i (.dat (.int z))) → tz D (σ.set i (some (.int z))) H1) : tSeq (tAug i te (ipI f)) tz D σ H := by
  subst hz
  obtain ⟨v, e1, e2⟩ := env.get hi fun z => nomatch z
  cases e2 with | dat e2 =>
  refine ⟨v, e1, h σ H O l env _ fun w H1 _ z s r => ?_⟩
  subst z
  cases r with | dat r =>
  exact ⟨x, y, e2.toInt, r.toInt, k H1 s (l.mono s) ((env.mono (cut_mono s)).set (.dat (.int _)) i)⟩
/-- l.count(k), ints -/
theorem e_count {ns : List Int} {k : Int} (h : Ed to Γ (.list (ns.map .int))) (hk : Ed te Γ (.int k)) : Ed (tBM K "list" (rCntI K) to (tCons te tNil)) Γ (.int (ns.count k : Nat)) := fun σ H O l g Q q =>
  h σ H O l g _ fun x H1 _ z s1 r1 => by
    subst z
    cases r1 with | dat r1 =>
    obtain ⟨a, xs, rfl, e, r⟩ := rp_list r1
    rw [r.toInts] at e
    have e1 := cut_same _ _ _ _ e
    refine ⟨.inl ⟨rfl, _, SqL.of e1⟩, ?_⟩
    refine hk σ H1 O (l.mono s1) (g.mono (cut_mono s1)) _ fun y H2 _ z s2 r2 => ?_
    subst z
    cases r2 with | dat r2 =>
    exact ⟨a, ns, k, rfl, by rw [r2.toInt], SqL.of (s2 _ _ e1), q _ _ _ rfl (s1.trans s2) (.dat (.int _))⟩
end KV
/-! KGrow -/
set_option Elab.async false
set_option linter.all false
set_option maxRecDepth 100000
set_option maxHeartbeats 4000000
namespace KD
open PySem L2 KV KR KS KC
/-! ### dicts that are sets -/
def kvB (cs : List KV.Cell) : List (KV.Cell × V) := cs.map fun c => (c, .bl true)
theorem kvB_keys (cs : List KV.Cell) : (kvB cs).map (·.1) = cs := by unfold kvB; rw [List.map_map]; exact List.map_id _
theorem valB : ∀ (cs : List KV.Cell) (c : KV.Cell), (valV (kvB cs) c).isSome = decide (c ∈ cs)
  | [], c => rfl
  | d :: cs, c => by
    have ih := valB cs c
    unfold valV kvB at ih ⊢
    rw [List.map_cons, List.find?_cons]
    by_cases h : d = c
    · rw [decide_eq_true (by exact h), decide_eq_true (by rw [h]; simp)]; rfl
    · rw [decide_eq_false (by exact h)]
      show (Option.map _ (List.find? _ _)).isSome = _
      rw [show decide (c ∈ d :: cs) = decide (c ∈ cs) by
        by_cases hc : c ∈ cs
        · rw [decide_eq_true hc, decide_eq_true (List.mem_cons_of_mem _ hc)]
        · rw [decide_eq_false hc, decide_eq_false (fun z => (List.mem_cons.mp z).elim (fun e => h e.symm) hc)]]
      exact ih
theorem putB {cs : List KV.Cell} {c : KV.Cell} (h : c ∉ cs) : putK (kvB cs) c (.bl true) = kvB (cs ++ [c]) := by
  rw [putK_fresh (by rw [kvB_keys]; exact h)]
  unfold kvB
  rw [List.map_append]
  rfl
theorem nd_dictB {K : PySem.W.Frag} {Γ : List En} {ta : TE} {cs : List KV.Cell} (ha : Ed ta Γ (.list (cs.map fun c => .tuple [cellD c, .bool true]))) (nd : cs.Nodup) : ND (tCB (rDictT K) (tCons ta tNil)) Γ (kvB cs) := by
  have h := nd_dict (K := K) (Γ := Γ) (ta := ta) (ps := kvB cs) (g := fun v => (vD v).getD .none) (by unfold kvB; rw [List.map_map]; exact ha) (fun e he => by
    unfold kvB at he
    obtain ⟨x, _, rfl⟩ := List.mem_map.mp he
    rfl)
  rw [mergeC_nodup (by rw [kvB_keys]; exact nd)] at h
  exact h
/-! ### growth from seeds -/
inductive Rch (κ sd : KV.Cell → Prop) : KV.Cell → Prop
  | base {c} : sd c → κ c → Rch κ sd c
  | step {c q} : κ c → KM.Adj q c → Rch κ sd q → Rch κ sd c
theorem Rch.kind {κ sd : KV.Cell → Prop} {c : KV.Cell} (h : Rch κ sd c) : κ c := by cases h <;> assumption
def kind (S : Sec) (air : Bool) (c : KV.Cell) : Prop := ∃ v, valAt S c = some v ∧ decide (v = 0) = air
theorem kind_in {S : Sec} (wf : Wf S) {air : Bool} {c : KV.Cell} (h : kind S air c) : InG S c := by
  obtain ⟨v, e, _⟩ := h
  exact in_valAt wf e
theorem kind_air {S : Sec} {c : KV.Cell} : kind S true c ↔ (gd S).air c := by
  rw [air_iff]
  constructor
  · rintro ⟨v, e, h⟩
    rw [e, of_decide_eq_true h]
  · intro e
    exact ⟨0, e, rfl⟩
theorem kind_stuff {S : Sec} (wf : Wf S) {c : KV.Cell} : kind S false c ↔ InG S c ∧ ¬ (gd S).air c := by
  constructor
  · rintro ⟨v, e, h⟩
    exact ⟨in_valAt wf e, (notair e).mpr (of_decide_eq_false h)⟩
  · rintro ⟨i, n⟩
    obtain ⟨v, e, _⟩ := valAt_in wf i
    exact ⟨v, e, decide_eq_false ((notair e).mp n)⟩
theorem rch_open {S : Sec} {seeds : List KV.Cell} (hs : ∀ c, c ∈ seeds ↔ 0 ≤ c.1 ∧ c.1 < (S.length : Int) ∧ c.2 = (ht S : Int) - 1) (wf : Wf S) (c : KV.Cell) : Rch (kind S true) (· ∈ seeds) c ↔ (gd S).O 0 c := by
  constructor
  · intro h
    induction h with
    | base a b => exact .top (kind_air.mp b) ((hs _).mp a).2.2 (fun z => z)
    | step a b _ ih => exact .step (kind_air.mp a) (fun z => z) b.symm ih
  · intro h
    induction h with
    | @top p a b _ =>
      have i := (gd_ok wf).ain p a
      exact .base ((hs p).mpr ⟨i.1, i.2.1, b⟩) (kind_air.mpr a)
    | step a _ b _ ih => exact .step (kind_air.mpr a) b.symm ih
theorem rch_held {S : Sec} {seeds : List KV.Cell} (hs : ∀ c, c ∈ seeds ↔ 0 ≤ c.1 ∧ c.1 < (S.length : Int) ∧ c.2 = 0) (wf : Wf S) (c : KV.Cell) : Rch (kind S false) (· ∈ seeds) c ↔ (gd S).Held c := by
  constructor
  · intro h
    induction h with
    | base a b =>
      have k := (kind_stuff wf).mp b
      exact .low k.1 k.2 ((hs _).mp a).2.2
    | step a b _ ih =>
      have k := (kind_stuff wf).mp a
      exact .step k.1 k.2 b.symm ih
  · intro h
    induction h with
    | @low p i n z => exact .base ((hs p).mpr ⟨i.1, i.2.1, z⟩) ((kind_stuff wf).mpr ⟨i, n⟩)
    | step i n b _ ih => exact .step ((kind_stuff wf).mpr ⟨i, n⟩) b.symm ih
/-- the four around, in any order -/
def round4 (c : KV.Cell) : List KV.Cell := [(c.1 - 1, c.2), (c.1 + 1, c.2), (c.1, c.2 - 1), (c.1, c.2 + 1)]
theorem mem_round4 {c q : KV.Cell} : q ∈ round4 c ↔ KM.Adj c q := by
  unfold round4 KM.Adj
  have e : q = (q.1, q.2) := rfl
  rw [e]
  simp only [List.mem_cons, List.not_mem_nil, or_false, Prod.mk.injEq]
  omega
structure GI (κ : KV.Cell → Prop) (seeds fl nw rem : List KV.Cell) (own : KV.Cell) : Prop where
  nd : fl.Nodup
  nn : nw.Nodup
  fr : ∀ c ∈ fl, Rch κ (· ∈ seeds) c
  sub : ∀ c ∈ nw, c ∈ fl
  sd : ∀ c ∈ seeds, κ c → c ∈ fl
  mine : own ∈ fl ∧ own ∉ nw ∧ ∀ q ∈ rem, KM.Adj own q
  clo : ∀ c ∈ fl, c ∉ nw → ∀ q, KM.Adj c q → κ q → q ∈ fl ∨ (c = own ∧ q ∈ rem)
structure GW (κ : KV.Cell → Prop) (seeds fl nw : List KV.Cell) : Prop where
  nd : fl.Nodup
  nn : nw.Nodup
  fr : ∀ c ∈ fl, Rch κ (· ∈ seeds) c
  sub : ∀ c ∈ nw, c ∈ fl
  sd : ∀ c ∈ seeds, κ c → c ∈ fl
  clo : ∀ c ∈ fl, c ∉ nw → ∀ q, KM.Adj c q → κ q → q ∈ fl
section
variable {κ : KV.Cell → Prop} {seeds fl nw rem : List KV.Cell} {own q : KV.Cell}
theorem GW.first (nd : seeds.Nodup) {p : KV.Cell → Bool} (hp : ∀ c ∈ seeds, (p c = true ↔ κ c)) : GW κ seeds (seeds.filter p) (seeds.filter p) where
  nd := nd.filter _
  nn := nd.filter _
  fr c h := .base (List.mem_filter.mp h).1 ((hp c (List.mem_filter.mp h).1).mp (List.mem_filter.mp h).2)
  sub c h := h
  sd c h k := List.mem_filter.mpr ⟨h, (hp c h).mpr k⟩
  clo c h n := (n h).elim
theorem GW.pop (G : GW κ seeds fl (nw ++ [own])) : GI κ seeds fl nw (round4 own) own := by
  have nn := List.nodup_append.mp G.nn
  have no : own ∉ nw := fun h => nn.2.2 own h own (by simp) rfl
  refine ⟨G.nd, nn.1, G.fr, fun c h => G.sub c (List.mem_append.mpr (.inl h)), G.sd, ⟨G.sub own (by simp), no, fun q h => mem_round4.mp h⟩, fun c h n q ad k => ?_⟩
  by_cases e : c = own
  · subst e; exact .inr ⟨rfl, mem_round4.mpr ad⟩
  · refine .inl (G.clo c h (fun z => ?_) q ad k)
    rcases List.mem_append.mp z with y | y
    · exact n y
    · exact e (List.mem_singleton.mp y)
theorem GI.fin (G : GI κ seeds fl nw [] own) : GW κ seeds fl nw :=
  ⟨G.nd, G.nn, G.fr, G.sub, G.sd, fun c h n q ad k => (G.clo c h n q ad k).elim id fun z => by simp at z⟩
theorem GI.skip (G : GI κ seeds fl nw (q :: rem) own) (h : q ∈ fl ∨ ¬ κ q) : GI κ seeds fl nw rem own :=
  ⟨G.nd, G.nn, G.fr, G.sub, G.sd, ⟨G.mine.1, G.mine.2.1, fun x hx => G.mine.2.2 x (List.mem_cons_of_mem _ hx)⟩, fun c hc n x ad k => by
    rcases G.clo c hc n x ad k with z | ⟨z, y⟩
    · exact .inl z
    · rcases List.mem_cons.mp y with y | y
      · subst y; exact h.elim .inl fun w => (w k).elim
      · exact .inr ⟨z, y⟩⟩
theorem GI.add (G : GI κ seeds fl nw (q :: rem) own) (h : q ∉ fl) (k : κ q) : GI κ seeds (fl ++ [q]) (nw ++ [q]) rem own := by
  have nq : q ∉ nw := fun z => h (G.sub q z)
  have up : ∀ c, c ∈ fl → c ∈ fl ++ [q] := fun c hc => List.mem_append.mpr (.inl hc)
  refine ⟨?_, ?_, fun c hc => ?_, fun c hc => ?_, fun c hc kc => up c (G.sd c hc kc), ⟨up _ G.mine.1, fun z => ?_, fun x hx => G.mine.2.2 x (List.mem_cons_of_mem _ hx)⟩, fun c hc n x ad kx => ?_⟩
  · rw [List.nodup_append]
    exact ⟨G.nd, by simp, fun x hx y hy e => h (by rw [List.mem_singleton] at hy; rw [← hy, ← e]; exact hx)⟩
  · rw [List.nodup_append]
    exact ⟨G.nn, by simp, fun x hx y hy e => nq (by rw [List.mem_singleton] at hy; rw [← hy, ← e]; exact hx)⟩
  · rcases List.mem_append.mp hc with z | z
    · exact G.fr c z
    · rw [List.mem_singleton.mp z]
      exact .step k (G.mine.2.2 q (List.mem_cons_self ..)) (G.fr own G.mine.1)
  · rcases List.mem_append.mp hc with z | z
    · exact up c (G.sub c z)
    · exact List.mem_append.mpr (.inr z)
  · rcases List.mem_append.mp z with y | y
    · exact G.mine.2.1 y
    · rw [List.mem_singleton] at y
      exact h (y ▸ G.mine.1)
  · have hc' : c ∈ fl := by
      rcases List.mem_append.mp hc with z | z
      · exact z
      · exact (n (List.mem_append.mpr (.inr z))).elim
    rcases G.clo c hc' (fun z => n (List.mem_append.mpr (.inl z))) x ad kx with z | ⟨z, y⟩
    · exact .inl (up x z)
    · rcases List.mem_cons.mp y with y | y
      · subst y; exact .inl (List.mem_append.mpr (.inr (by simp)))
      · exact .inr ⟨z, y⟩
theorem GW.done (G : GW κ seeds fl []) (c : KV.Cell) : c ∈ fl ↔ Rch κ (· ∈ seeds) c := by
  constructor
  · exact G.fr c
  · intro h
    induction h with
    | base a b => exact G.sd _ a b
    | @step c q a ad _ ih => exact G.clo q ih (by simp) c ad a
theorem rch_len {S : Sec} (wf : Wf S) {air : Bool} (nd : fl.Nodup) (h : ∀ c ∈ fl, Rch (kind S air) (· ∈ seeds) c) : fl.length ≤ 54 := by
  rw [sel_len (S := S) (π := (· ∈ fl)) nd fun c => ⟨fun hc => ⟨kind_in wf (h c hc).kind, hc⟩, fun hc => hc.2⟩]
  exact sel_length wf _
end
/-! ### sections of equal cells -/
theorem lex_total {a b : KV.Cell} : LexL a b ∨ a = b ∨ LexL b a := by
  have e : ∀ {x y : Int}, x < y ∨ x = y ∨ y < x := fun {x y} => by omega
  rcases e (x := a.1) (y := b.1) with h | h | h
  · exact .inl (.inl h)
  · rcases e (x := a.2) (y := b.2) with g | g | g
    · exact .inl (.inr ⟨h, g⟩)
    · exact .inr (.inl (Prod.ext h g))
    · exact .inr (.inr (.inr ⟨h.symm, g⟩))
  · exact .inr (.inr (.inl h))
theorem lex_irr {a b : KV.Cell} (h : LexL a b) (g : LexL b a) : False := by
  rcases h with h | ⟨h1, h2⟩ <;> rcases g with g | ⟨g1, g2⟩ <;> omega
theorem lex_eq : ∀ {l m : List KV.Cell}, l.Pairwise LexL → m.Pairwise LexL → (∀ c, c ∈ l ↔ c ∈ m) → l = m
  | [], [], _, _, _ => rfl
  | [], b :: m, _, _, h => by have := (h b).mpr (List.mem_cons_self ..); simp at this
  | a :: l, [], _, _, h => by have := (h a).mp (List.mem_cons_self ..); simp at this
  | a :: l, b :: m, hl, hm, h => by
    rw [List.pairwise_cons] at hl hm
    have irr : ∀ x, ¬ LexL x x := fun x z => lex_irr z z
    have ab : a = b := by
      rcases lex_total (a := a) (b := b) with z | z | z
      · rcases List.mem_cons.mp ((h a).mp (List.mem_cons_self ..)) with y | y
        · exact y
        · exact (lex_irr z (hm.1 a y)).elim
      · exact z
      · rcases List.mem_cons.mp ((h b).mpr (List.mem_cons_self ..)) with y | y
        · exact y.symm
        · exact (lex_irr z (hl.1 b y)).elim
    subst ab
    rw [lex_eq hl.2 hm.2 fun c => ?_]
    constructor
    · intro hc
      rcases List.mem_cons.mp ((h c).mp (List.mem_cons_of_mem _ hc)) with y | y
      · subst y; exact (irr _ (hl.1 _ hc)).elim
      · exact y
    · intro hc
      rcases List.mem_cons.mp ((h c).mpr (List.mem_cons_of_mem _ hc)) with y | y
      · subst y; exact (irr _ (hm.1 _ hc)).elim
      · exact y
end KD
/-! KRows -/
set_option Elab.async false
set_option linter.all false
set_option maxRecDepth 100000
set_option maxHeartbeats 4000000
namespace KD
open PySem L2 KV KR KS KC
/-! ### a section with another value at a place -/
def setAt (S : Sec) (p : KV.Cell) (v : Int) : Sec := S.set p.1.toNat ((S.getD p.1.toNat []).set p.2.toNat v)
theorem set_len {S : Sec} {p : KV.Cell} {v : Int} : (setAt S p v).length = S.length := by unfold setAt; rw [List.length_set]
theorem col_len {S : Sec} (wf : Wf S) {i : Nat} (h : i < S.length) : (S.getD i []).length = ht S := by
  rw [List.getD_eq_getElem?_getD, List.getElem?_eq_getElem h]
  exact wf.same _ (List.getElem_mem h)
theorem set_same {S : Sec} (wf : Wf S) {p : KV.Cell} {v : Int} : ∀ c ∈ setAt S p v, c.length = ht S := fun c hc => by
  unfold setAt at hc
  by_cases h : p.1.toNat < S.length
  · rcases List.mem_or_eq_of_mem_set hc with z | z
    · exact wf.same c z
    · rw [z, List.length_set, col_len wf h]
  · rw [List.set_eq_of_length_le (by omega)] at hc
    exact wf.same c hc
theorem set_ht {S : Sec} (wf : Wf S) {p : KV.Cell} {v : Int} : ht (setAt S p v) = ht S := by
  have hl : 0 < (setAt S p v).length := by rw [set_len]; exact List.length_pos_iff.mpr wf.ne
  have h := set_same (p := p) (v := v) wf
  generalize setAt S p v = T at hl h
  cases T with
  | nil => simp at hl
  | cons c r => exact h c (List.mem_cons_self ..)
theorem set_wf {S : Sec} (wf : Wf S) {p : KV.Cell} {v : Int} (hv : 0 ≤ v) : Wf (setAt S p v) where
  ne e := by
    have hl := set_len (S := S) (p := p) (v := v)
    rw [e] at hl
    exact wf.ne (List.eq_nil_of_length_eq_zero hl.symm)
  same c hc := by rw [set_ht wf]; exact set_same wf c hc
  pos := by rw [set_ht wf]; exact wf.pos
  nn c hc x hx := by
    unfold setAt at hc
    by_cases h : p.1.toNat < S.length
    · rcases List.mem_or_eq_of_mem_set hc with z | z
      · exact wf.nn c z x hx
      · rw [z] at hx
        rcases List.mem_or_eq_of_mem_set hx with y | y
        · rw [List.getD_eq_getElem?_getD, List.getElem?_eq_getElem h] at y
          exact wf.nn _ (List.getElem_mem h) x y
        · rw [y]; exact hv
    · rw [List.set_eq_of_length_le (by omega)] at hc
      exact wf.nn c hc x hx
  wide := by rw [set_len]; exact wf.wide
  tall := by rw [set_ht wf]; exact wf.tall
theorem set_in {S : Sec} (wf : Wf S) {p q : KV.Cell} {v : Int} : InG (setAt S p v) q ↔ InG S q := by
  unfold InG
  rw [set_len, set_ht wf]
theorem set_get {S : Sec} (wf : Wf S) {p q : KV.Cell} {v : Int} (hp : InG S p) : valAt (setAt S p v) q = if q = p then some v else valAt S q := by
  obtain ⟨a, b, c, d⟩ := hp
  have hi : p.1.toNat < S.length := by omega
  have hl := col_len wf hi
  by_cases hq : 0 ≤ q.1 ∧ 0 ≤ q.2
  · unfold valAt
    rw [if_pos hq, if_pos hq]
    unfold setAt
    rw [List.getElem?_set]
    by_cases h1 : p.1.toNat = q.1.toNat
    · rw [if_pos h1, if_pos hi]
      show ((S.getD p.1.toNat []).set p.2.toNat v)[q.2.toNat]? = _
      rw [List.getElem?_set]
      by_cases h2 : p.2.toNat = q.2.toNat
      · rw [if_pos h2, if_pos (by omega), if_pos (Prod.ext (by omega) (by omega))]
      · rw [if_neg h2, if_neg (fun z => h2 (by rw [z])), ← h1, List.getD_eq_getElem?_getD, List.getElem?_eq_getElem hi]
        rfl
    · rw [if_neg h1, if_neg (fun z => h1 (by rw [z]))]
  · unfold valAt
    rw [if_neg hq, if_neg hq, if_neg (fun z => hq (by rw [z]; exact ⟨a, c⟩))]
def putS (S : Sec) (spots : List KV.Cell) (v : Int) : Sec := spots.foldl (fun T p => setAt T p v) S
theorem put_snoc (S : Sec) (spots : List KV.Cell) (v : Int) (p : KV.Cell) : putS S (spots ++ [p]) v = setAt (putS S spots v) p v := by
  unfold putS; rw [List.foldl_append]; rfl
structure PutOk (S : Sec) (spots : List KV.Cell) (v : Int) (T : Sec) : Prop where
  wf : Wf T
  len : T.length = S.length
  ht : ht T = ht S
  get : ∀ q, valAt T q = if q ∈ spots then some v else valAt S q
theorem put_ok {v : Int} (hv : 0 ≤ v) : ∀ (spots : List KV.Cell) {S : Sec}, Wf S → (∀ c ∈ spots, InG S c) → PutOk S spots v (putS S spots v) := by
  intro spots
  induction spots with
  | nil => intro S wf _; exact ⟨wf, rfl, rfl, fun q => by rw [if_neg (by simp)]; rfl⟩
  | cons p r ih =>
    intro S wf h
    have hp := h p (List.mem_cons_self ..)
    have Q := ih (S := setAt S p v) (set_wf wf hv) fun c hc => (set_in wf).mpr (h c (List.mem_cons_of_mem _ hc))
    refine ⟨Q.wf, Q.len.trans set_len, Q.ht.trans (set_ht wf), fun q => ?_⟩
    have e := Q.get q
    rw [set_get wf hp] at e
    show valAt (putS (setAt S p v) r v) q = _
    rw [e]
    by_cases h1 : q ∈ r
    · rw [if_pos h1, if_pos (List.mem_cons_of_mem _ h1)]
    · rw [if_neg h1]
      by_cases h2 : q = p
      · rw [if_pos h2, if_pos (by rw [h2]; exact List.mem_cons_self ..)]
      · rw [if_neg h2, if_neg (by simp only [List.mem_cons, not_or]; exact ⟨h2, h1⟩)]
theorem PutOk.inG {S T : Sec} {spots : List KV.Cell} {v : Int} (h : PutOk S spots v T) {q : KV.Cell} : InG T q ↔ InG S q := by unfold InG; rw [h.len, h.ht]
/-! ### rows that are owned -/
structure Rw (O : List Addr) (R : Addr) (rs : List Addr) (S : Sec) (H : Hp) : Prop where
  live : Live (R :: (rs ++ O)) H
  eR : H R = some (.lst (rs.map V.ref))
  len : rs.length = S.length
  row : ∀ (i : Nat) (a : Addr) (c : List Int), rs[i]? = some a → S[i]? = some c → H a = some (.lst (c.map V.int))
  nd : rs.Nodup
  nR : R ∉ rs
  out : ∀ a ∈ R :: rs, a ∉ O
section
variable {O rs : List Addr} {R : Addr} {S : Sec} {H H' : Hp}
theorem Rw.same (w : Rw O R rs S H) (s : Same H H') : Rw O R rs S H' := ⟨w.live.mono s, s _ _ w.eR, w.len, fun i a c h1 h2 => s _ _ (w.row i a c h1 h2), w.nd, w.nR, w.out⟩
theorem Rw.bu {L : List Addr} (w : Rw O R rs S H) (b : Bu L H H') (h : ∀ a ∈ L, a ∈ O) (l : Live O H') : Rw O R rs S H' := by
  have k : ∀ a ∈ R :: rs, ∀ o, H a = some o → H' a = some o := fun a ha o e => b a o (fun z => w.out a ha (h a z)) e
  have row : ∀ (i : Nat) (a : Addr) (c : List Int), rs[i]? = some a → S[i]? = some c → H' a = some (.lst (c.map V.int)) := fun i a c h1 h2 => k a (List.mem_cons_of_mem _ (List.mem_of_getElem? h1)) _ (w.row i a c h1 h2)
  refine ⟨fun p hp => ?_, k R (List.mem_cons_self ..) _ w.eR, w.len, row, w.nd, w.nR, w.out⟩
  rcases List.mem_cons.mp hp with z | z
  · rw [z]; exact ⟨_, k R (List.mem_cons_self ..) _ w.eR, fun _ y => nomatch y⟩
  · rcases List.mem_append.mp z with y | y
    · obtain ⟨i, hi, e⟩ := List.getElem_of_mem y
      have hs : i < S.length := by rw [← w.len]; exact hi
      exact ⟨_, row i p S[i] (by rw [← e]; exact List.getElem?_eq_getElem hi) (List.getElem?_eq_getElem hs), fun _ y => nomatch y⟩
    · exact l p y
theorem Rw.set {i : Nat} {a : Addr} {c : List Int} (w : Rw O R rs S H) (hi : rs[i]? = some a) (b : But a H H') (e : H' a = some (.lst (c.map V.int))) : Rw O R rs (S.set i c) H' := by
  have ha := List.mem_of_getElem? hi
  refine ⟨w.live.but b ⟨_, e, fun _ z => nomatch z⟩, b R _ (fun z => w.nR (z ▸ ha)) w.eR, by rw [List.length_set]; exact w.len, fun j x d h1 h2 => ?_, w.nd, w.nR, w.out⟩
  rw [List.getElem?_set] at h2
  by_cases hj : i = j
  · subst hj
    rw [h1] at hi
    rw [Option.some.inj hi, e]
    rw [if_pos rfl] at h2
    split at h2
    · rw [Option.some.inj h2]
    · cases h2
  · rw [if_neg hj] at h2
    refine b x _ (fun z => hj ?_) (w.row j x d h1 h2)
    subst z
    exact (List.getElem?_inj (List.getElem?_eq_some_iff.mp hi).1 w.nd).mp (by rw [hi, h1])
theorem Rw.get (w : Rw O R rs S H) {i : Nat} {c : List Int} (h : S[i]? = some c) : ∃ a, rs[i]? = some a ∧ a ∈ rs ∧ H a = some (.lst (c.map V.int)) := by
  have hi : i < rs.length := by rw [w.len]; exact (List.getElem?_eq_some_iff.mp h).1
  exact ⟨rs[i], List.getElem?_eq_getElem hi, List.getElem_mem hi, w.row i _ c (List.getElem?_eq_getElem hi) h⟩
theorem Rw.data (w : Rw O R rs S H) : Rp (cut O H) (.ref R) (lstD S) := by
  refine .lst (cut_get w.eR (w.out R (List.mem_cons_self ..))) (RpAll.of_get (by rw [List.length_map, List.length_map]; exact w.len) fun i v d h1 h2 => ?_)
  rw [List.getElem?_map] at h1 h2
  obtain ⟨a, ea, rfl⟩ := Option.map_eq_some_iff.mp h1
  obtain ⟨c, ec, rfl⟩ := Option.map_eq_some_iff.mp h2
  exact .lst (cut_get (w.row i a c ea ec) (w.out a (List.mem_cons_of_mem _ (List.mem_of_getElem? ea)))) (RpAll.ints c)
theorem Rw.snoc {H4 : Hp} {p : Addr} {c : List Int} (w : Rw O R rs S H) (s : Same H H4) (n : H p = none) (e : H4 p = some (.lst (c.map V.int))) : Rw O R (rs ++ [p]) (S ++ [c]) (upd H4 R (.lst ((rs ++ [p]).map V.ref))) := by
  have hR : R ≠ p := ne_of_none w.eR n
  have hrs : p ∉ rs := fun z => by
    obtain ⟨o, e, _⟩ := w.live p (List.mem_cons_of_mem _ (List.mem_append.mpr (.inl z)))
    rw [n] at e; cases e
  have hO : p ∉ O := fun z => by
    obtain ⟨o, e, _⟩ := w.live p (List.mem_cons_of_mem _ (List.mem_append.mpr (.inr z)))
    rw [n] at e; cases e
  refine ⟨fun q hq => ?_, upd_same, by rw [List.length_append, List.length_append, w.len]; rfl, fun i a d h1 h2 => ?_, ?_, ?_, ?_⟩
  · by_cases z : q = R
    · subst z; exact ⟨_, upd_same, fun _ y => nomatch y⟩
    · rw [upd_ne z]
      by_cases y : q = p
      · subst y; exact ⟨_, e, fun _ y => nomatch y⟩
      · refine (w.live.mono s) q ?_
        simp only [List.mem_cons, List.mem_append, List.not_mem_nil, or_false] at hq ⊢
        rcases hq with z | (z | z) | z
        · exact .inl z
        · exact .inr (.inl z)
        · exact (y z).elim
        · exact .inr (.inr z)
  · by_cases hi : i < rs.length
    · rw [List.getElem?_append_left hi] at h1
      rw [List.getElem?_append_left (by rw [← w.len]; exact hi)] at h2
      have hm := List.mem_of_getElem? h1
      rw [upd_ne (show a ≠ R from fun z => w.nR (by rw [← z]; exact hm))]
      exact s _ _ (w.row i a d h1 h2)
    · have l1 := (List.getElem?_eq_some_iff.mp h1).1
      rw [List.length_append, List.length_singleton] at l1
      have ei : i = rs.length := by omega
      subst ei
      rw [List.getElem?_append_right (Nat.le_refl _), Nat.sub_self] at h1
      rw [w.len, List.getElem?_append_right (Nat.le_refl _), Nat.sub_self] at h2
      have h1 : p = a := Option.some.inj h1
      have h2 : c = d := Option.some.inj h2
      subst h1 h2
      rw [upd_ne fun z => hR z.symm]
      exact e
  · rw [List.nodup_append]
    exact ⟨w.nd, by simp, fun x hx y hy z => hrs (by rw [List.mem_singleton] at hy; rw [← hy, ← z]; exact hx)⟩
  · intro z
    rcases List.mem_append.mp z with y | y
    · exact w.nR y
    · exact hR (List.mem_singleton.mp y)
  · intro a ha
    rcases List.mem_cons.mp ha with z | z
    · exact w.out a (by rw [z]; exact List.mem_cons_self ..)
    · rcases List.mem_append.mp z with y | y
      · exact w.out a (List.mem_cons_of_mem _ y)
      · rw [List.mem_singleton.mp y]; exact hO
end
/-- rows[c][h] = v -/
theorem s_setRow {K : PySem.W.Frag} {Γ : List En} {te tr tc th : TE} {D : Ends} {σ : St} {H : Hp} {O rs : List Addr} {R : Addr} {S : Sec} {p : KV.Cell} {v : Int} (wf : Wf S) (w : Rw O R rs S H) (env : EnvOk (cut (R :: (rs ++ O)) H) σ Γ)
    (he : Ed te Γ (.int v)) (hr : E tr Γ (.ptr R)) (hc : Ed tc Γ (.int p.1)) (hh : Ed th Γ (.int p.2)) (hp : InG S p)
    (k : ∀ H1, Bu rs H H1 → Rw O R rs (setAt S p v) H1 → EnvOk (cut (R :: (rs ++ O)) H1) σ Γ → D.nx σ H1) : tAsg te (gSub (tOp (rIx K) tr tc) th rSetL) D σ H :=
  he σ H _ w.live env _ fun x H1 _ z s1 r1 => by
    subst z
    have w1 := w.same s1
    have env1 := env.mono (cut_mono s1)
    refine hr σ H1 _ w1.live env1 _ fun y H2 _ z s2 r2 => ?_
    subst z
    cases r2
    have w2 := w1.same s2
    have env2 := env1.mono (cut_mono s2)
    refine hc σ H2 _ w2.live env2 _ fun y H3 _ z s3 r3 => ?_
    subst z
    cases r3 with | dat r3 =>
    have w3 := w2.same s3
    have env3 := env2.mono (cut_mono s3)
    obtain ⟨a0, b0, c0, d0⟩ := hp
    obtain ⟨col, ec, hm⟩ := col_at (S := S) (i := p.1.toNat) (by omega)
    obtain ⟨a, ea, ha, eA⟩ := w3.get ec
    refine .inl ⟨R, rs.map V.ref, p.1, .ref a, rfl, r3.toInt, SqL.of w3.eR, atI_get' a0 (by rw [List.getElem?_map, ea]; rfl), ?_⟩
    refine hh σ H3 _ w3.live env3 _ fun y H4 _ z s4 r4 => ?_
    subst z
    cases r4 with | dat r4 => cases r1 with | dat r1 =>
    have w4 := w3.same s4
    have hl := wf.same col hm
    refine ⟨a, col.map V.int, p.2, p.2.toNat, rfl, r4.toInt, s4 _ _ eA, by unfold ixN; rw [if_pos c0, if_pos (by rw [List.length_map]; omega)], ?_⟩
    have s14 := ((s1.trans s2).trans s3).trans s4
    have b : But a H4 (upd H4 a (.lst ((col.map V.int).set p.2.toNat x))) := But.of (Same.refl _)
    have e5 : (upd H4 a (.lst ((col.map V.int).set p.2.toNat x))) a = some (.lst ((col.set p.2.toNat v).map V.int)) := by
      rw [upd_same, r1.toInt, List.map_set]
    refine k _ ((Bu.of s14).but b ha) ?_ ((env3.mono (cut_mono s4)).mono (b.cut (by simp [ha])))
    have w5 := w4.set (c := col.set p.2.toNat v) ea b e5
    have eS : setAt S p v = S.set p.1.toNat (col.set p.2.toNat v) := by
      unfold setAt
      rw [List.getD_eq_getElem?_getD, ec]
      rfl
    rw [eS]
    exact w5
/-- [a new list for own in ..] -/
theorem n_rows {α : Type} (emb : α → PyData) {wi : TI} {g : TG} {te : TE} {Γ : List En} {vs js : List Nat} {qs : List α} (Γ' : α → List En) (f : α → List Int) {σ : St} {H : Hp} {O : List Addr} (l : Live O H) (env : EnvOk (cut O H) σ Γ) (hs : Src wi Γ (qs.map emb)) (hl : qs.length ≤ 100000)
    (hg : ∀ q ∈ qs, Tg g js (emb q) (wipeG Γ vs) (Γ' q)) (hj : ∀ j ∈ js, j ∈ vs) (he : ∀ q ∈ qs, NL te (Γ' q) ((f q).map .int))
    {Q : VK} (k : ∀ R rs H1, H R = none → (∀ a ∈ rs, H a = none) → Same H H1 → Rw O R rs (qs.map f) H1 → EnvOk (cut (R :: (rs ++ O)) H1) σ Γ → Q (.ref R) H1) : tLc wi g tYes te vs σ H Q :=
  hs σ H O l env _ fun J H1 s1 W D hD => by
    rw [List.length_map] at W
    have l1 := l.mono s1
    -- what is new is not in the way
    have cutN : ∀ {rs : List Addr} {H' : Hp}, Same H1 H' → (∀ a ∈ rs, H1 a = none) → Same (cut O H1) (cut (D :: (rs ++ O)) H') := fun {rs H'} s n a o e => by
      unfold cut at e ⊢
      split at e
      · cases e
      · rename_i h
        rw [if_neg]
        · exact s a o e
        · simp only [List.mem_cons, List.mem_append, not_or]
          exact ⟨ne_of_none e hD, fun z => (by rw [n a z] at e; cases e), h⟩
    refine lc_it W (fun i H' => Same H1 H' ∧ ∃ rs, (∀ a ∈ rs, H1 a = none) ∧ Rw O D rs ((qs.take i).map f) H') ⟨same_upd hD, [], (by simp), ⟨?_, upd_same, rfl, (by simp), (by simp), (by simp), fun a ha => by
      rw [List.mem_singleton.mp ha]; exact l1.no hD⟩⟩ (fun i H' _ h => cut_mono h.1) (fun i x H' H2 hi ⟨s2, rs, nrs, w⟩ y => ?_) fun H' ⟨s2, rs, nrs, w⟩ => ?_
    · exact (l1.mono (same_upd hD)).cons upd_same fun _ z => nomatch z
    · obtain ⟨s3, d, ed, hr⟩ := y
      rw [List.getElem?_map] at ed
      obtain ⟨q, eq, rfl⟩ := Option.map_eq_some_iff.mp ed
      have hm : q ∈ qs := List.mem_of_getElem? eq
      have rx := hr (D :: (rs ++ O)) w.live (cutN s2 nrs)
      have w3 := w.same s3
      have s13 := s2.trans s3
      have env3 : EnvOk (cut (D :: (rs ++ O)) H2) (L2.wipe σ vs) (wipeG Γ vs) := (env.mono ((cut_mono s1).trans (cutN s13 nrs))).wipe vs
      refine hg q hm _ H2 _ x _ w3.live env3 rx fun σ2 env4 hw => ⟨(hw vs hj).trans (wipe_idem σ vs), ?_⟩
      refine tYes_if ?_
      refine he q hm σ2 H2 _ w3.live env4 _ fun p H4 xs np s4 ep rp => ?_
      rw [rp.toInts] at ep
      have hz : rs.length < sizeLine := by
        have h1 := w.len
        rw [List.length_map, List.length_take] at h1
        exact Nat.lt_of_le_of_lt (by omega : rs.length ≤ 100000) (by decide)
      have s14 := s13.trans s4
      refine ⟨rs.map V.ref, s4 _ _ w3.eR, by rw [List.length_map]; exact hz, fun a o e => ?_, rs ++ [p], fun a ha => ?_, ?_⟩
      · rw [upd_ne (ne_of_none e hD)]
        exact s14 a o e
      · rcases List.mem_append.mp ha with z | z
        · exact nrs a z
        · rw [List.mem_singleton.mp z]; exact s13.free np
      · have z := w3.snoc s4 np ep
        rw [List.map_append] at z
        rw [List.take_add_one, eq, List.map_append]
        exact z
    · rw [List.take_length] at w
      exact k D rs H' (s1.free hD) (fun a ha => s1.free (nrs a ha)) (s1.trans s2) w (env.mono ((cut_mono s1).trans (cutN s2 nrs)))
end KD
/-! KLay -/
set_option Elab.async false
set_option linter.all false
set_option maxRecDepth 100000
set_option maxHeartbeats 4000000
namespace KV
open PySem L2 KR
variable {K : PySem.W.Frag} {Γ : List En} {ta tb te td ty tv to : TE} {D : Ends} {σ : St} {H : Hp} {O : List Addr} {tz ts tr : TS}
/-! ### more of the value layer -/
theorem depthAll_ints : ∀ ns : List Int, PyData.depthAll (ns.map .int) ≤ 2
  | [] => by simp [PyData.depthAll]
  | c :: r => by
    have := depthAll_ints r
    simp only [List.map_cons, PyData.depthAll, PyData.depth]
    omega
theorem canLay_ints : ∀ ns : List Int, PyData.canLayAll0 (ns.map .int) = true
  | [] => by simp [PyData.canLayAll0]
  | c :: r => by simp [PyData.canLayAll0, PyData.canLay0, canLay_ints r]
theorem shaped_ints (ns : List Int) : SeqAt.shaped (.list (ns.map .int)) = true := by
  have h1 := depthAll_ints ns
  show (PyData.canLay0 (.list (ns.map .int)) && decide (PyData.depth (.list (ns.map .int)) ≤ 64)) = true
  rw [Bool.and_eq_true]
  exact ⟨by simp only [PyData.canLay0]; exact canLay_ints ns, decide_eq_true (by simp only [PyData.depth]; omega)⟩
/-- a pair, of which the second is one of some -/
theorem es_pair {d1 : PyData} {Φ : En → Prop} {Ψ : PyData → Prop} (ha : Ed ta Γ d1) (hb : Es tb Γ Φ) (hΦ : ∀ e, Φ e → ∃ d, e = .dat d ∧ Ψ d) : Es (tTup (tCons ta (tCons tb tNil))) Γ fun e => ∃ d2, Ψ d2 ∧ e = .dat (.tuple [d1, d2]) := fun σ H O l g Q q =>
  ha σ H O l g _ fun x H1 _ z s1 r1 => by
    subst z
    refine hb σ H1 O (l.mono s1) (g.mono (cut_mono s1)) _ fun y H2 e z s2 r2 => ?_
    obtain ⟨d2, rfl, hψ⟩ := hΦ e z
    cases r1 with | dat r1 => cases r2 with | dat r2 =>
    have s := s1.trans s2
    refine ⟨small (n := 2) (by decide), fun p hp => q _ _ _ ⟨d2, hψ, rfl⟩ (s.trans (same_upd hp)) ?_⟩
    have l2 := l.mono s
    exact .dat (.tup (cut_get upd_same (l2.no hp)) (.cons (Rp.mono ((cut_mono s2).trans (cut_mono (same_upd hp))) _ _ r1) (.cons (Rp.mono (cut_mono (same_upd hp)) _ _ r2) .nil)))
theorem b_pairs {i j : Nat} {d1 : PyData} {Ψ : PyData → Prop} {Φ : En → Prop} (h : Es te Γ fun e => ∃ d2, Ψ d2 ∧ e = .dat (.tuple [d1, d2])) (k : ∀ d2, Ψ d2 → Bs tr ((Γ.set i (.dat d1)).set j (.dat d2)) Φ) : Bs (tSeq (tAsg te (gTup K 2 (gCons (gName i) (gCons (gName j) gNil)))) tr) Γ Φ := fun σ H O D l g q =>
  h σ H O l g _ fun v H1 e z s1 r1 => by
    obtain ⟨d2, hψ, rfl⟩ := z
    cases r1 with | dat r1 =>
    obtain ⟨a, xs, rfl, ea, r⟩ := rp_tuple r1
    have hl := r.length
    cases r with | cons r1 r =>
    cases r with | cons r2 r =>
    cases r
    exact ⟨a, _, rfl, SqT.of (cut_same _ _ _ _ ea), rfl, _, _, rfl, _, _, rfl, rfl, k d2 hψ _ H1 O D (l.mono s1) (((g.mono (cut_mono s1)).set (.dat r1) i).set (.dat r2) j) fun w H2 e z s2 r2 => q w H2 e z (s1.trans s2) r2⟩
/-- x, y, z = data, data, a new list -/
theorem s_par3L {i j n : Nat} {e1 e2 : En} {ds : List PyData} (l : Live O H) (env : EnvOk (cut O H) σ Γ) (h1 : E ta Γ e1) (h2 : E tb Γ e2) (h3 : NL td Γ ds)
    (k : ∀ v w p H1 xs, H p = none → Same H H1 → H1 p = some (.lst xs) → RpAll (cut (p :: O) H1) xs ds → Live (p :: O) H1 → EnvOk (cut (p :: O) H1) (((σ.set i (some v)).set j (some w)).set n (some (.ref p))) (((Γ.set i e1).set j e2).set n (.ptr p)) →
      tz D (((σ.set i (some v)).set j (some w)).set n (some (.ref p))) H1) : tSeq (tPar3 i j n (tCons ta (tCons tb (tCons td tNil)))) tz D σ H :=
  h1 σ H O l env _ fun v H1 _ z s1 r1 => by
    subst z
    refine h2 σ H1 O (l.mono s1) (env.mono (cut_mono s1)) _ fun w H2 _ z s2 r2 => ?_
    subst z
    have s12 := s1.trans s2
    refine h3 σ H2 O (l.mono s12) (env.mono (cut_mono s12)) _ fun p H3 xs np s3 eP rp => ?_
    have c := cut_cons (O := O) np s3
    exact ⟨_, _, _, rfl, k v w p H3 xs (s12.free np) (s12.trans s3) eP rp ((l.mono (s12.trans s3)).cons eP fun _ z => nomatch z) ((((env.mono (cut_mono s12)).mono c).set ((r1.mono (cut_mono s2)).mono c) i).set (r2.mono c) j |>.set .ptr n)⟩
end KV
namespace KD
open PySem L2 KV KR KS KC
theorem _root_.KV.EnvOk.openR {σ : St} {Γ : List En} {O rs : List Addr} {R : Addr} {S : Sec} {H : Hp} {i : Nat} (g : EnvOk (cut (R :: (rs ++ O)) H) σ Γ) (hi : Γ[i]? = some (.ptr R)) (w : Rw O R rs S H) : EnvOk (cut O H) σ (Γ.set i (.dat (lstD S))) := by
  obtain ⟨v, e1, e2⟩ := g.get hi fun z => nomatch z
  cases e2
  exact (g.mono (cut_sub fun a h => List.mem_cons_of_mem _ (List.mem_append.mpr (.inr h)))).put e1 (.dat w.data)
theorem Rw.outer {O rs : List Addr} {R : Addr} {S : Sec} {H : Hp} (w : Rw O R rs S H) : Live O H := w.live.sub fun a h => List.mem_cons_of_mem _ (List.mem_append.mpr (.inr h))
/-- x = [a new list for own in ..] -/
theorem s_rows {α : Type} (emb : α → PyData) {wi : TI} {g : TG} {te : TE} {tz : TS} {D : Ends} {Γ : List En} {vs js : List Nat} {qs : List α} (Γ' : α → List En) (f : α → List Int) {i : Nat} {σ : St} {H : Hp} {O : List Addr} (l : Live O H) (env : EnvOk (cut O H) σ Γ) (hs : Src wi Γ (qs.map emb)) (hl : qs.length ≤ 100000)
    (hg : ∀ q ∈ qs, Tg g js (emb q) (wipeG Γ vs) (Γ' q)) (hj : ∀ j ∈ js, j ∈ vs) (he : ∀ q ∈ qs, NL te (Γ' q) ((f q).map .int))
    (k : ∀ R rs H1, H R = none → (∀ a ∈ rs, H a = none) → Same H H1 → Rw O R rs (qs.map f) H1 → EnvOk (cut (R :: (rs ++ O)) H1) (σ.set i (some (.ref R))) (Γ.set i (.ptr R)) → tz D (σ.set i (some (.ref R))) H1) : tSeq (tAsg (tLc wi g tYes te vs) (gName i)) tz D σ H :=
  show tLc wi g tYes te vs σ H (fun x H1 => gName i x σ H1 (tz D)) from n_rows emb Γ' f l env hs hl hg hj he fun R rs H1 n1 n2 s w e => k R rs H1 n1 n2 s w (e.set .ptr i)
/-! ### a round of lays, by own rules -/
noncomputable def washS (S : Sec) : Sec := putS S (sel S fun c => ¬ (gd S).Held c) 0
noncomputable def layS (S : Sec) : Sec := putS S (sel S fun c => (gd S).O 0 c ∧ (gd S).sb c) 4
noncomputable def doneS (S : Sec) : Sec := washS (layS S)
theorem lay_ok {S : Sec} (wf : Wf S) : PutOk S (sel S fun c => (gd S).O 0 c ∧ (gd S).sb c) 4 (layS S) := put_ok (by decide) _ wf fun c hc => (mem_sel.mp hc).1
theorem wash_ok {S : Sec} (wf : Wf S) : PutOk S (sel S fun c => ¬ (gd S).Held c) 0 (washS S) := put_ok (by decide) _ wf fun c hc => (mem_sel.mp hc).1
/-- all stuff is held -/
def AllHeld (S : Sec) : Prop := ∀ c, InG S c → ¬ (gd S).air c → (gd S).Held c
theorem wash_get {S : Sec} (wf : Wf S) (h : AllHeld S) (q : KV.Cell) : valAt (washS S) q = valAt S q := by
  rw [(wash_ok wf).get q]
  by_cases hq : q ∈ sel S fun c => ¬ (gd S).Held c
  · rw [if_pos hq]
    obtain ⟨i, nh⟩ := mem_sel.mp hq
    have : (gd S).air q := Classical.byContradiction fun z => nh (h q i z)
    exact (air_iff.mp this).symm
  · rw [if_neg hq]
theorem gd_eq {S T : Sec} (hl : T.length = S.length) (hh : ht T = ht S) {a : KV.Cell → Prop} (h : ∀ q, valAt T q = some 0 ↔ a q) : gd T = { W := (gd S).W, T := (gd S).T, air := a } := by
  unfold gd
  rw [hl, hh]
  congr 1
  funext q
  exact propext (h q)
theorem wash_held {S : Sec} (wf : Wf S) : AllHeld (washS S) := fun c hc n => by
  have W := wash_ok wf
  -- what is held stays held
  have key : ∀ q, (gd S).Held q → valAt (washS S) q = valAt S q := fun q h => by
    rw [W.get q, if_neg (show ¬ (q ∈ sel S fun c => ¬ (gd S).Held c) from fun z => (mem_sel (π := fun c => ¬ (gd S).Held c) |>.mp z).2 h)]
  have hc' := W.inG.mp hc
  have hh : (gd S).Held c := Classical.byContradiction fun z => n (by
    rw [air_iff, W.get c, if_pos (mem_sel.mpr ⟨hc', z⟩)])
  have up : ∀ {q : KV.Cell}, (gd S).Held q → (gd (washS S)).Held q := by
    intro q h
    induction h with
    | @low p a b h0 =>
      have hd : (gd S).Held p := .low a b h0
      exact .low (W.inG.mpr a) (fun z => b (by rw [air_iff] at z ⊢; rw [← key p hd]; exact z)) h0
    | @step p q a b ad h ih =>
      have hd : (gd S).Held p := .step a b ad h
      exact .step (W.inG.mpr a) (fun z => b (by rw [air_iff] at z ⊢; rw [← key p hd]; exact z)) ad ih
  exact up hh
/-- the section behind t rounds -/
structure Behind (S : Sec) (t : Nat) (T : Sec) : Prop where
  wf : Wf T
  len : T.length = S.length
  ht : ht T = ht S
  get : ∀ q, valAt T q = some 0 ∨ (gd S).laid t q ∨ valAt T q = valAt S q
  air : ∀ q, valAt T q = some 0 ↔ (gd S).air q ∧ ¬ (gd S).laid t q
  same : ∀ q, ¬ (gd S).laid t q → valAt T q = valAt S q
  four : ∀ q, (gd S).laid t q → valAt T q = some 4
theorem Behind.gd {S T : Sec} {t : Nat} (B : Behind S t T) : gd T = (gd S).aft t := gd_eq B.len B.ht B.air
theorem behind0 {S : Sec} (wf : Wf S) : Behind S 0 S := by
  have no : ∀ q, ¬ (KS.gd S).laid 0 q := fun q ⟨k, h, _⟩ => by omega
  exact ⟨wf, rfl, rfl, fun q => .inr (.inr rfl), fun q => ⟨fun h => ⟨h, no q⟩, fun h => h.1⟩, fun q _ => rfl, fun q h => (no q h).elim⟩
theorem Behind.held {S T : Sec} {t : Nat} (wf : Wf S) (ah : AllHeld S) (B : Behind S t T) : AllHeld T := fun c hc n => by
  rw [B.gd] at n ⊢
  refine KM.aft_held (gd_ok wf) (fun p i a => ah p i a) t c ?_ n
  have := hc
  unfold InG at this
  rw [B.len, B.ht] at this
  exact this
open Classical in
theorem Behind.next {S T : Sec} {t : Nat} (wf : Wf S) (ah : AllHeld S) (B : Behind S t T) : Behind S (t + 1) (doneS T) := by
  have L := lay_ok B.wf
  have ok := gd_ok wf
  have spot : ∀ q, q ∈ sel T (fun c => (KS.gd T).O 0 c ∧ (KS.gd T).sb c) ↔ (KS.gd S).L t q := fun q => by
    rw [mem_sel]
    rw [B.gd, KM.round_lays ok]
    refine ⟨fun h => h.2, fun h => ⟨?_, h⟩⟩
    have i := ok.ain q (L_air h)
    unfold InG
    rw [B.len, B.ht]
    exact i
  have g1 : ∀ q, valAt (layS T) q = if (KS.gd S).L t q then some 4 else valAt T q := fun q => by
    rw [L.get q]
    by_cases h : (KS.gd S).L t q
    · rw [if_pos ((spot q).mpr h), if_pos h]
    · rw [if_neg fun z => h ((spot q).mp z), if_neg h]
  have b1 : Behind S (t + 1) (layS T) := by
    have same : ∀ q, ¬ (KS.gd S).laid (t + 1) q → valAt (layS T) q = valAt S q := fun q h => by
      rw [KM.laid_succ, not_or] at h
      rw [g1 q, if_neg h.2, B.same q h.1]
    have four : ∀ q, (KS.gd S).laid (t + 1) q → valAt (layS T) q = some 4 := fun q h => by
      rw [g1 q]
      by_cases hl : (KS.gd S).L t q
      · rw [if_pos hl]
      · rw [if_neg hl]
        exact B.four q ((KM.laid_succ.mp h).resolve_right hl)
    refine ⟨L.wf, L.len.trans B.len, L.ht.trans B.ht, fun q => ?_, fun q => ?_, same, four⟩
    · by_cases h : (KS.gd S).laid (t + 1) q
      · exact .inr (.inl h)
      · exact .inr (.inr (same q h))
    · by_cases h : (KS.gd S).laid (t + 1) q
      · rw [four q h]
        exact ⟨fun z => (nomatch z), fun z => (z.2 h).elim⟩
      · rw [same q h]
        exact ⟨fun z => ⟨z, h⟩, fun z => z.1⟩
  have ah1 := b1.held wf ah
  have W := wash_ok L.wf
  have wg : ∀ q, valAt (doneS T) q = valAt (layS T) q := wash_get L.wf ah1
  exact ⟨W.wf, W.len.trans b1.len, W.ht.trans b1.ht, fun q => by rw [wg q]; exact b1.get q, fun q => by rw [wg q]; exact b1.air q, fun q h => by rw [wg q]; exact b1.same q h, fun q h => by rw [wg q]; exact b1.four q h⟩
end KD
/-! KTin -/
set_option Elab.async false
set_option linter.all false
set_option maxRecDepth 100000
set_option maxHeartbeats 4000000
namespace KV
open PySem L2 KR
/-! ### the source of draws: a list of three that is changed -/
structure Tin (p : Addr) (T : Nat) (H : Hp) : Prop where
  ex : ∃ a b t : Int, H p = some (.lst [.int a, .int b, .int t]) ∧ 0 ≤ a ∧ 0 ≤ b ∧ b ≤ 4611686018427387904 ∧ 0 ≤ t ∧ t ≤ (T : Int)
variable {K : PySem.W.Frag} {Γ Γ' : List En} {ta tb te td ty tv to : TE} {D : Ends} {σ : St} {H H1 : Hp} {O O' : List Addr} {tz ts tr : TS} {p : Addr} {T T1 T2 : Nat} {Φ : En → Prop} {t : TT}
theorem Tin.same (h : Tin p T H) (s : Same H H1) : Tin p T H1 := by
  obtain ⟨a, b, t, e, r⟩ := h.ex
  exact ⟨a, b, t, s _ _ e, r⟩
theorem Tin.bu {L : List Addr} (h : Tin p T H) (s : Bu L H H1) (n : p ∉ L) : Tin p T H1 := by
  obtain ⟨a, b, t, e, r⟩ := h.ex
  exact ⟨a, b, t, s _ _ n e, r⟩
theorem Tin.le (h : Tin p T H) (hT : T ≤ T1) : Tin p T1 H := by
  obtain ⟨a, b, t, e, r1, r2, r3, r4, r5⟩ := h.ex
  exact ⟨a, b, t, e, r1, r2, r3, r4, by omega⟩
theorem Tin.obj (h : Tin p T H) : ∃ o, H p = some o ∧ ∀ xs, o ≠ .tup xs := by
  obtain ⟨a, b, t, e, r⟩ := h.ex
  exact ⟨_, e, fun _ z => nomatch z⟩
theorem But.refl (p : Addr) (H : Hp) : But p H H := fun _ _ _ e => e
theorem But.after {H2 : Hp} (a : But p H H1) (s : Same H1 H2) : But p H H2 := fun b o n e => s _ _ (a b o n e)
theorem But.mk' {H2 : Hp} (s : Same H H2) : But p H H2 := fun b o _ e => s _ _ e
/-- an expression that draws -/
def Et (te : TE) (Γ : List En) (p : Addr) (T T1 : Nat) (Φ : En → Prop) : Prop := ∀ (σ : St) (H : Hp) (O : List Addr), p ∈ O → Live O H → EnvOk (cut O H) σ Γ → Tin p T H → ∀ Q : VK, (∀ v H2 e, Φ e → But p H H2 → Tin p T1 H2 → Er (cut O H2) v e → Q v H2) → te σ H Q
def Art (ta : TA) (Γ : List En) (p : Addr) (T T1 : Nat) (Φ : List En → Prop) : Prop := ∀ (σ : St) (H : Hp) (O : List Addr), p ∈ O → Live O H → EnvOk (cut O H) σ Γ → Tin p T H → ∀ Q : List V → Hp → Prop, (∀ vs H2 es, Φ es → But p H H2 → Tin p T1 H2 → ErAll (cut O H2) vs es → Q vs H2) → ta σ H Q
abbrev isI (φ : Int → Prop) : En → Prop := fun e => ∃ i : Int, e = .dat (.int i) ∧ φ i
theorem et_of (h : Es te Γ Φ) : Et te Γ p T T Φ := fun σ H O hp l g tin Q q => h σ H O l g Q fun v H2 e z s r => q v H2 e z (But.mk' s) (tin.same s) r
theorem et_int {i : Int} {φ : Int → Prop} (h : Ed te Γ (.int i)) (hi : φ i) : Et te Γ p T T (isI φ) := et_of fun σ H O l g Q q => h σ H O l g Q fun v H2 e z s r => q v H2 e ⟨i, z, hi⟩ s r
theorem et_mono {Ψ : En → Prop} (h : Et te Γ p T T1 Φ) (k : ∀ e, Φ e → Ψ e) : Et te Γ p T T1 Ψ := fun σ H O hp l g tin Q q => h σ H O hp l g tin Q fun v H2 e z b t r => q v H2 e (k e z) b t r
theorem et_I0 {f : Int → Int → Int} {φ ψ χ : Int → Prop} (ha : Et ta Γ p T T1 (isI φ)) (hb : Et tb Γ p T1 T2 (isI ψ)) (h : ∀ i j, φ i → ψ j → χ (f i j)) : Et (tOp (rI0 fun i j => .int (f i j)) ta tb) Γ p T T2 (isI χ) := fun σ H O hp l g tin Q q =>
  ha σ H O hp l g tin _ fun x H1 e ⟨i, z, hi⟩ b1 t1 r1 => by
    subst z
    have c1 := b1.cut hp
    refine hb σ H1 O hp (l.but b1 t1.obj) (g.mono c1) t1 _ fun y H2 e ⟨j, z, hj⟩ b2 t2 r2 => ?_
    subst z
    cases r1 with | dat r1 => cases r2 with | dat r2 =>
    exact ⟨i, j, r1.toInt, r2.toInt, q _ _ _ ⟨_, rfl, h i j hi hj⟩ (b1.trans b2) t2 (.dat (.int _))⟩
theorem et_min2 {φ ψ χ : Int → Prop} (ha : Et ta Γ p T T1 (isI φ)) (hb : Et tb Γ p T1 T2 (isI ψ)) (h : ∀ i j, φ i → ψ j → χ (min i j)) : Et (tCB (fun xs H Q => ∃ i j, xs = [.int i, .int j] ∧ Q (.int (if j < i then j else i)) H) (tCons ta (tCons tb tNil))) Γ p T T2 (isI χ) := fun σ H O hp l g tin Q q =>
  ha σ H O hp l g tin _ fun x H1 e ⟨i, z, hi⟩ b1 t1 r1 => by
    subst z
    have c1 := b1.cut hp
    refine hb σ H1 O hp (l.but b1 t1.obj) (g.mono c1) t1 _ fun y H2 e ⟨j, z, hj⟩ b2 t2 r2 => ?_
    subst z
    cases r1 with | dat r1 => cases r2 with | dat r2 =>
    refine ⟨i, j, by rw [r1.toInt, r2.toInt], ?_⟩
    have e : (if j < i then j else i) = min i j := by
      rw [Int.min_def]; split <;> split <;> omega
    rw [e]
    exact q _ _ _ ⟨_, rfl, h i j hi hj⟩ (b1.trans b2) t2 (.dat (.int _))
theorem at_nil : Art tNil Γ p T T (· = []) := fun σ H O hp l g tin Q q => q _ _ _ rfl (But.refl p H) tin .nil
theorem at_cons {tr : TA} {Ψ : List En → Prop} (ha : Et ta Γ p T T1 Φ) (hb : Art tr Γ p T1 T2 Ψ) : Art (tCons ta tr) Γ p T T2 fun es => ∃ e r, es = e :: r ∧ Φ e ∧ Ψ r := fun σ H O hp l g tin Q q =>
  ha σ H O hp l g tin _ fun x H1 e z b1 t1 r1 => by
    have c1 := b1.cut hp
    exact hb σ H1 O hp (l.but b1 t1.obj) (g.mono c1) t1 _ fun vs H2 es y b2 t2 r2 => q _ _ _ ⟨e, es, rfl, z, y⟩ (b1.trans b2) t2 (.cons (r1.mono (b2.cut hp)) r2)
/-- what draws, as a promise -/
def spT (R : Addr → Nat → List En → Nat → (En → Prop) → Prop) : Sp := fun vs H Q _ => ∃ (O : List Addr) (p : Addr) (T : Nat) (es : List En) (T' : Nat) (Φ : En → Prop), p ∈ O ∧ Live O H ∧ ErAll (cut O H) vs es ∧ Tin p T H ∧ R p T es T' Φ ∧ ∀ v H2 e, Φ e → But p H H2 → Tin p T' H2 → Er (cut O H2) v e → Q v H2
theorem et_call {R : Addr → Nat → List En → Nat → (En → Prop) → Prop} {E0 : XK} {tA : TA} {es : List En} (ha : Ar tA Γ es) (h : R p T es T1 Φ) : Et (tCall (spT R) [] E0 tA) Γ p T T1 Φ := fun σ H O hp l g tin Q q =>
  ha σ H O l g _ fun vs H1 s1 r1 => by
    rw [List.append_nil]
    exact ⟨O, p, T, es, T1, Φ, hp, l.mono s1, r1, tin.same s1, h, fun v H2 e z b t r => q v H2 e z (But.same s1 b) t r⟩
theorem et_callT {R : Addr → Nat → List En → Nat → (En → Prop) → Prop} {E0 : XK} {tA : TA} {Ψ : List En → Prop} (ha : Art tA Γ p T T1 Ψ) (h : ∀ es, Ψ es → R p T1 es T2 Φ) : Et (tCall (spT R) [] E0 tA) Γ p T T2 Φ := fun σ H O hp l g tin Q q =>
  ha σ H O hp l g tin _ fun vs H1 es z b1 t1 r1 => by
    rw [List.append_nil]
    exact ⟨O, p, T1, es, T2, Φ, hp, l.but b1 t1.obj, r1, t1, h es z, fun v H2 e z b t r => q v H2 e z (b1.trans b) t r⟩
/-- a body that draws -/
def Bt (ts : TS) (Γ : List En) (p : Addr) (T T1 : Nat) (Φ : En → Prop) : Prop := ∀ (σ : St) (H : Hp) (O : List Addr) (D : Ends), p ∈ O → Live O H → EnvOk (cut O H) σ Γ → Tin p T H → (∀ v H2 e, Φ e → But p H H2 → Tin p T1 H2 → Er (cut O H2) v e → D.rt v H2) → ts D σ H
theorem bt_ret (h : Et te Γ p T T1 Φ) : Bt (tRet te) Γ p T T1 Φ := fun σ H O D hp l g tin q => h σ H O hp l g tin D.rt q
/-- x = e, that draws -/
theorem s_letT {i : Nat} (hp : p ∈ O) (l : Live O H) (env : EnvOk (cut O H) σ Γ) (tin : Tin p T H) (h : Et te Γ p T T1 Φ) (k : ∀ v H1 e, Φ e → But p H H1 → Tin p T1 H1 → Live O H1 → EnvOk (cut O H1) (σ.set i (some v)) (Γ.set i e) → tz D (σ.set i (some v)) H1) : tSeq (tAsg te (gName i)) tz D σ H :=
  h σ H O hp l env tin _ fun v H1 e z b t r => k v H1 e z b t (l.but b t.obj) ((env.mono (b.cut hp)).set r i)
/-- x, y = e, f, that draw -/
theorem s_parT {i j : Nat} {Ψ : En → Prop} (hp : p ∈ O) (l : Live O H) (env : EnvOk (cut O H) σ Γ) (tin : Tin p T H) (ha : Et ta Γ p T T1 Φ) (hb : Et tb Γ p T1 T2 Ψ)
    (k : ∀ v w H1 e f, Φ e → Ψ f → But p H H1 → Tin p T2 H1 → Live O H1 → EnvOk (cut O H1) ((σ.set i (some v)).set j (some w)) ((Γ.set i e).set j f) → tz D ((σ.set i (some v)).set j (some w)) H1) : tSeq (tPar i j (tCons ta (tCons tb tNil))) tz D σ H :=
  ha σ H O hp l env tin _ fun v H1 e z b1 t1 r1 => by
    have c1 := b1.cut hp
    refine hb σ H1 O hp (l.but b1 t1.obj) (env.mono c1) t1 _ fun w H2 f y b2 t2 r2 => ?_
    have b := b1.trans b2
    exact ⟨_, _, rfl, k v w H2 e f z y b t2 (l.but b t2.obj) (((env.mono (b.cut hp)).set (r1.mono (b2.cut hp)) i).set r2 j)⟩
/-- x = an int, seen from another side -/
theorem s_letI {i : Nat} {x : Int} (l : Live O H) (env : EnvOk (cut O H) σ Γ) (l' : Live O' H) (env' : EnvOk (cut O' H) σ Γ') (h : Ed te Γ' (.int x))
    (k : ∀ H1, Same H H1 → Live O H1 → EnvOk (cut O H1) (σ.set i (some (.int x))) (Γ.set i (.dat (.int x))) → tz D (σ.set i (some (.int x))) H1) : tSeq (tAsg te (gName i)) tz D σ H :=
  h σ H O' l' env' _ fun v H1 _ z s r => by
    subst z
    cases r with | dat r =>
    rw [r.toInt]
    exact k H1 s (l.mono s) ((env.mono (cut_mono s)).set (.dat (.int _)) i)
/-- p[c] = an int, p owned -/
theorem s_setP {tp tc : TE} {x : Int} {c : Nat} {xs : List V} (hp : p ∈ O) (l : Live O H) (env : EnvOk (cut O H) σ Γ) (l' : Live O' H) (env' : EnvOk (cut O' H) σ Γ') (h : Ed te Γ' (.int x)) (eP : H p = some (.lst xs)) (ho : E tp Γ (.ptr p)) (hc : Ed tc Γ (.int (c : Int))) (hl : c < xs.length)
    (k : ∀ H1, But p H H1 → H1 p = some (.lst (xs.set c (.int x))) → Live O H1 → EnvOk (cut O H1) σ Γ → D.nx σ H1) : tAsg te (gSub tp tc rSetL) D σ H :=
  h σ H O' l' env' _ fun v H1 _ z s1 r => by
    subst z
    cases r with | dat r =>
    have l1 := l.mono s1
    have env1 := env.mono (cut_mono s1)
    refine ho σ H1 O l1 env1 _ fun y H2 _ z s2 r2 => ?_
    subst z
    cases r2
    refine hc σ H2 O (l1.mono s2) (env1.mono (cut_mono s2)) _ fun y H3 _ z s3 r3 => ?_
    subst z
    cases r3 with | dat r3 =>
    have s := (s1.trans s2).trans s3
    have b : But p H (upd H3 p (.lst (xs.set c v))) := But.of s
    rw [r.toInt] at b ⊢
    have e1 : (upd H3 p (.lst (xs.set c (.int x)))) p = some (.lst (xs.set c (.int x))) := upd_same
    exact ⟨p, xs, c, c, rfl, r3.toInt, s _ _ eP, by unfold ixN; rw [if_pos (by omega), if_pos (by omega), Int.toNat_natCast], k _ b e1 (l.but b ⟨_, e1, fun _ z => nomatch z⟩) (env.mono (b.cut hp))⟩
end KV
namespace KC
open PySem L2 KV KR
variable {P : Program} {w : World} {K : PySem.W.Frag} {mg : Str → Option Value} {base : Heap} {x : Str} {i k : Nat} {N ps : List Str}
theorem cal_T {R : Addr → Nat → List En → Nat → (En → Prop) → Prop} (D : Df K mg x i) (S : FnScope N ps (defScope (KH.top i)))
    (hb : ∀ (kV doc pm : Value) (an : Option Addr) (cdv ct : Value) (us : List Value), us.length = ps.length → bindArgs (PySem.W.fnOf x x (defArgs (KH.top i)) (defBody (KH.top i)) (defScope (KH.top i)) .none kV doc pm an cdv ct) ⟨us, []⟩ = pure (ps.zip us))
    (len : ∀ p T es T' Φ, R p T es T' Φ → es.length = ps.length)
    (body : ∀ (f : Addr) (cdv : Value) (A : Around) (outer : List Env) (s : Shared) (H : Hp) (p : Addr) (T : Nat) (es : List En) (T' : Nat) (Φ : En → Prop), Room k (Xo P w K mg base N x i f cdv A outer s H).A → R p T es T' Φ →
      ∃ t, PSs (Xo P w K mg base N x i f cdv A outer s H) (defBody (KH.top i)) t ∧ Bt t (ent0 N es) p T T' Φ) : Cal P w K mg base x ps (k + 1) (spT R) :=
  cal_raw D S hb (fun vs H Q E h => by
    obtain ⟨O, p, T, es, T', Φ, _, _, h2, _, h3, _⟩ := h
    rw [erAll_len h2]
    exact len p T es T' Φ h3) fun f cdv A outer s H vs Q E hr h => by
    obtain ⟨O, p, T, es, T', Φ, hp, h1, h2, tin, h3, h4⟩ := h
    obtain ⟨t, pp, b⟩ := body f cdv A outer s H p T es T' Φ hr h3
    refine ⟨t, pp, b _ H O _ hp h1 ?_ tin fun v H2 e z s t r => h4 v H2 e z s t r⟩
    unfold L2.start
    rw [erAll_len h2]
    exact env_start h2 _
end KC
/-! KRoof -/
set_option Elab.async false
set_option linter.all false
set_option maxRecDepth 100000
set_option maxHeartbeats 4000000
namespace KV
open PySem L2 KR
variable {K : PySem.W.Frag} {Γ Γ' : List En} {ta tb te td ty tv to tr tc th : TE} {D : Ends} {σ : St} {H H1 : Hp} {O O' : List Addr} {tz ts : TS} {p : Addr} {T T1 T2 : Nat} {Φ : En → Prop}
/-- x, y = two ints, by another side -/
theorem s_parI {i j : Nat} {x y : Int} (l : Live O H) (env : EnvOk (cut O H) σ Γ) (l' : Live O' H) (env' : EnvOk (cut O' H) σ Γ') (h1 : Ed ta Γ' (.int x)) (h2 : Ed tb Γ' (.int y))
    (k : ∀ H1, Same H H1 → Live O H1 → EnvOk (cut O H1) ((σ.set i (some (.int x))).set j (some (.int y))) ((Γ.set i (.dat (.int x))).set j (.dat (.int y))) → tz D ((σ.set i (some (.int x))).set j (some (.int y))) H1) : tSeq (tPar i j (tCons ta (tCons tb tNil))) tz D σ H :=
  h1 σ H O' l' env' _ fun v H1 _ z s1 r1 => by
    subst z
    refine h2 σ H1 O' (l'.mono s1) (env'.mono (cut_mono s1)) _ fun w H2 _ z s2 r2 => ?_
    subst z
    cases r1 with | dat r1 => cases r2 with | dat r2 =>
    rw [r1.toInt, r2.toInt]
    have s := s1.trans s2
    exact ⟨_, _, rfl, k H2 s (l.mono s) (((env.mono (cut_mono s)).set (.dat (.int _)) i).set (.dat (.int _)) j)⟩
/-- [b] * drawn -/
theorem et_rep {b : Int} {m : Nat} (ha : NL ta Γ [.int b]) (hb : Et tb Γ p T T1 (isI fun r => 0 ≤ r ∧ r < (m : Int))) (hm : m ≤ 1000) : Et (tOp rRep ta tb) Γ p T T1 fun e => ∃ ns : List Int, e = .dat (.list (ns.map .int)) ∧ (∀ n ∈ ns, n = b) ∧ ns.length < m := fun σ H O hp l g tin Q q =>
  ha σ H O l g _ fun a H1 xs na s1 ea ra => by
    have ex := ra.toInts (ns := [b])
    subst ex
    have l1 := l.mono s1
    refine hb σ H1 O hp l1 (g.mono (cut_mono s1)) (tin.same s1) _ fun y H2 e ⟨r, z, r0, r1⟩ b2 t2 r2 => ?_
    subst z
    cases r2 with | dat r2 =>
    have ap : a ≠ p := fun z => l.no na (z ▸ hp)
    have ea2 := b2 a _ ap ea
    have ef : (List.replicate r.toNat [V.int b]).flatten = (List.replicate r.toNat b).map V.int := by
      rw [List.map_replicate]
      generalize r.toNat = k
      induction k with
      | zero => rfl
      | succ k ih => rw [List.replicate_succ, List.flatten_cons, ih, List.replicate_succ]; rfl
    refine ⟨a, r, [V.int b], rfl, r2.toInt, ea2, by omega, by omega, by show 1 * r.toNat ≤ sizeLine; exact Nat.le_trans (by omega : 1 * r.toNat ≤ 100000) (by decide), fun p' hp' => ?_⟩
    have l2 : Live O H2 := l1.but b2 t2.obj
    refine q _ _ _ ⟨List.replicate r.toNat b, rfl, fun n hn => List.eq_of_mem_replicate hn, by rw [List.length_replicate]; omega⟩ ((But.same s1 b2).after (same_upd hp')) (t2.same (same_upd hp')) (.dat (.lst (cut_get upd_same (l2.no hp')) ?_))
    rw [ef]
    exact RpAll.ints _
theorem et_cat {ns0 : List Int} {ψ : List Int → Prop} {m : Nat} (ha : Ed ta Γ (.list (ns0.map .int))) (hb : Et tb Γ p T T1 fun e => ∃ ns : List Int, e = .dat (.list (ns.map .int)) ∧ ψ ns ∧ ns.length < m) (hm : ns0.length + m ≤ 1000) : Et (tOp rCat ta tb) Γ p T T1 fun e => ∃ ns : List Int, e = .dat (.list (ns.map .int)) ∧ ∃ ms, ns = ns0 ++ ms ∧ ψ ms ∧ ms.length < m := fun σ H O hp l g tin Q q =>
  ha σ H O l g _ fun x H1 _ z s1 r1 => by
    subst z
    refine hb σ H1 O hp (l.mono s1) (g.mono (cut_mono s1)) (tin.same s1) _ fun y H2 e ⟨ms, z, hψ, hl⟩ b2 t2 r2 => ?_
    subst z
    cases r2 with | dat r2 => cases r1 with | dat r1 =>
    obtain ⟨a, xs, rfl, ea, ra⟩ := rp_list (Rp.mono (b2.cut hp) _ _ r1)
    obtain ⟨b, ys, rfl, eb, rb⟩ := rp_list r2
    rw [ra.toInts] at ea
    rw [rb.toInts] at eb
    refine ⟨a, b, _, _, rfl, rfl, cut_same _ _ _ _ ea, cut_same _ _ _ _ eb, by rw [List.length_map, List.length_map]; exact Nat.le_trans (by omega : ns0.length + ms.length ≤ 100000) (by decide), fun p' hp' => ?_⟩
    have l2 : Live O H2 := (l.mono s1).but b2 t2.obj
    refine q _ _ _ ⟨ns0 ++ ms, rfl, ms, rfl, hψ, hl⟩ ((But.same s1 b2).after (same_upd hp')) (t2.same (same_upd hp')) (.dat (.lst (cut_get upd_same (l2.no hp')) ?_))
    rw [← List.map_append]
    exact RpAll.ints _
/-- for over a drawn list of ints -/
theorem for_lstT {g : TG} {tb : TS} {ψ : List Int → Prop} (hp : p ∈ O) (l : Live O H) (env : EnvOk (cut O H) σ Γ) (tin : Tin p T H) (h : Et te Γ p T T1 fun e => ∃ ns : List Int, e = .dat (.list (ns.map .int)) ∧ ψ ns)
    (k : ∀ ns H1, ψ ns → But p H H1 → Tin p T1 H1 → ∃ Pv : Nat → St → Hp → Prop, Pv 0 σ H1 ∧ (∀ i σ' H', i ≤ ns.length → Pv i σ' H' → Same (cut O H1) (cut O H')) ∧ (∀ (i : Nat) (n : Int) σ' H', ns[i]? = some n → Pv i σ' H' → g (.int n) σ' H' fun σ2 H2 => tb { D with nx := Pv (i + 1), ct := Pv (i + 1), bk := D.nx } σ2 H2) ∧ (∀ σ' H', Pv ns.length σ' H' → D.nx σ' H')) : tFor (iList K te) g tb D σ H :=
  h σ H O hp l env tin _ fun v H1 _ z b t r => by
    obtain ⟨ns, rfl, hψ⟩ := z
    cases r with | dat r =>
    obtain ⟨a, xs, rfl, ea, ra⟩ := rp_list r
    rw [ra.toInts] at ea
    obtain ⟨Pv, p0, pk, pt, pd⟩ := k ns H1 hψ b t
    have hl : (ns.map V.int).length = ns.length := List.length_map ..
    refine ⟨a, rfl, ⟨_, SqL.of (cut_same _ _ _ _ ea)⟩, for_it (walk_list (K := K) (a := a) (xs := ns.map V.int)) Pv p0 (fun i σ' H' hi pv => ?_) (fun i x σ' H' H'' hi pv y => ?_) (by rw [hl]; exact pd)⟩
    · exact SqL.of (cut_same _ _ _ _ (pk i σ' H' (by omega) pv _ _ ea))
    · obtain ⟨rfl, y⟩ := y
      rw [List.getElem?_map] at y
      obtain ⟨n, en, rfl⟩ := Option.map_eq_some_iff.mp y
      exact pt i n σ' H'' en pv
end KV
namespace KD
open PySem L2 KV KR KS KC
theorem sec_lat {S : Sec} {p : KV.Cell} {v : Int} (h : valAt S p = some v) : ∃ col : List Int, atI (S.map fun c => PyData.list (c.map .int)) p.1 = some (.list (col.map .int)) ∧ atI (col.map PyData.int) p.2 = some (.int v) := by
  unfold valAt at h
  split at h
  · rename_i hp
    obtain ⟨c, e1, e2⟩ := Option.bind_eq_some_iff.mp h
    refine ⟨c, atI_get' hp.1 ?_, atI_get' hp.2 ?_⟩
    · rw [List.getElem?_map, e1]; rfl
    · rw [List.getElem?_map, e2]; rfl
  · cases h
theorem e_lat {K : PySem.W.Frag} {Γ : List En} {ta tb tc : TE} {S : Sec} {c : KV.Cell} {v : Int} (h : valAt S c = some v) (ha : Ed ta Γ (lstD S)) (hb : Ed tb Γ (.int c.1)) (hc : Ed tc Γ (.int c.2)) : Ed (tOp (rIx K) (tOp (rIx K) ta tb) tc) Γ (.int v) := by
  obtain ⟨col, e1, e2⟩ := sec_lat h
  exact e_ix (e_ix ha hb rfl e1) hc rfl e2
/-- rows[c][h] = a drawn int -/
theorem s_setRowT {K : PySem.W.Frag} {Γ : List En} {te tr tc th : TE} {D : Ends} {σ : St} {H : Hp} {O rs : List Addr} {R p : Addr} {T1 : Nat} {S : Sec} {q : KV.Cell} (wf : Wf S) (hp : p ∈ O) (w : Rw O R rs S H) (env : EnvOk (cut (R :: (rs ++ O)) H) σ Γ)
    (he : ∀ Q : VK, (∀ (v : Int) H1, 0 ≤ v → But p H H1 → Tin p T1 H1 → Q (.int v) H1) → te σ H Q) (hr : E tr Γ (.ptr R)) (hc : Ed tc Γ (.int q.1)) (hh : Ed th Γ (.int q.2)) (hq : InG S q)
    (k : ∀ v H1, 0 ≤ v → Bu (p :: rs) H H1 → Tin p T1 H1 → Rw O R rs (setAt S q v) H1 → EnvOk (cut (R :: (rs ++ O)) H1) σ Γ → D.nx σ H1) : tAsg te (gSub (tOp (rIx K) tr tc) th rSetL) D σ H :=
  he _ fun v H1 v0 b t => by
    have bu1 : Bu [p] H H1 := (Bu.refl [p] H).but b (by simp)
    have w1 := w.bu bu1 (by simp [hp]) (w.outer.but b t.obj)
    have hpf : p ∈ R :: (rs ++ O) := List.mem_cons_of_mem _ (List.mem_append.mpr (.inr hp))
    have nprs : p ∉ rs := fun z => w.out p (List.mem_cons_of_mem _ z) hp
    exact s_setRow (te := tC (.int v)) (D := D) wf w1 (env.mono (b.cut hpf)) e_int hr hc hh hq fun H2 b2 w2 env2 =>
      k v H2 v0 ((bu1.sub (by simp)).trans (b2.sub fun a h => List.mem_cons_of_mem _ h)) (t.bu b2 nprs) w2 env2
end KD
/-! KPile -/
set_option Elab.async false
set_option linter.all false
set_option maxRecDepth 100000
set_option maxHeartbeats 4000000
namespace KV
open PySem L2 KR
variable {K : PySem.W.Frag} {Γ Γ' : List En} {ta tb te td ty tv to tr tc th : TE} {D : Ends} {σ : St} {H H1 : Hp} {O O' : List Addr} {tz ts : TS} {p : Addr} {T T1 T2 : Nat} {Φ : En → Prop}
/-- a new list of drawn ints -/
def NLt (te : TE) (Γ : List En) (p : Addr) (T T1 : Nat) (ψ : List Int → Prop) : Prop := ∀ (σ : St) (H : Hp) (O : List Addr), p ∈ O → Live O H → EnvOk (cut O H) σ Γ → Tin p T H → ∀ Q : VK, (∀ q H1 H2 ns, ψ ns → But p H H1 → Tin p T1 H1 → H1 q = none → Same H1 H2 → H2 q = some (.lst (ns.map V.int)) → Q (.ref q) H2) → te σ H Q
theorem nlt_cat {ψ χ ω : List Int → Prop} (ha : Et ta Γ p T T1 fun e => ∃ ns : List Int, e = .dat (.list (ns.map .int)) ∧ ψ ns) (hb : Et tb Γ p T1 T2 fun e => ∃ ns : List Int, e = .dat (.list (ns.map .int)) ∧ χ ns) (h : ∀ ns ms, ψ ns → χ ms → ω (ns ++ ms) ∧ ns.length + ms.length ≤ 1000) : NLt (tOp rCat ta tb) Γ p T T2 ω := fun σ H O hp l g tin Q q =>
  ha σ H O hp l g tin _ fun x H1 e ⟨ns, z, hn⟩ b1 t1 r1 => by
    subst z
    have c1 := b1.cut hp
    have l1 := l.but b1 t1.obj
    refine hb σ H1 O hp l1 (g.mono c1) t1 _ fun y H2 e ⟨ms, z, hm⟩ b2 t2 r2 => ?_
    subst z
    cases r2 with | dat r2 => cases r1 with | dat r1 =>
    obtain ⟨a, xs, rfl, ea, ra⟩ := rp_list (Rp.mono (b2.cut hp) _ _ r1)
    obtain ⟨b, ys, rfl, eb, rb⟩ := rp_list r2
    rw [ra.toInts] at ea
    rw [rb.toInts] at eb
    obtain ⟨h1, h2⟩ := h ns ms hn hm
    refine ⟨a, b, _, _, rfl, rfl, cut_same _ _ _ _ ea, cut_same _ _ _ _ eb, by rw [List.length_map, List.length_map]; exact Nat.le_trans (by omega : ns.length + ms.length ≤ 100000) (by decide), fun p' hp' => ?_⟩
    refine q p' H2 _ (ns ++ ms) h1 (b1.trans b2) t2 hp' (same_upd hp') ?_
    rw [upd_same, List.map_append]
theorem e_repI {b n : Int} (ha : NL ta Γ [.int b]) (hb : Ed tb Γ (.int n)) (h0 : 0 ≤ n) (h1 : n ≤ 1000) : Ed (tOp rRep ta tb) Γ (.list ((List.replicate n.toNat b).map .int)) := fun σ H O l g Q q =>
  ha σ H O l g _ fun a H1 xs na s1 ea ra => by
    have ex := ra.toInts (ns := [b])
    subst ex
    have l1 := l.mono s1
    refine hb σ H1 O l1 (g.mono (cut_mono s1)) _ fun y H2 _ z s2 r2 => ?_
    subst z
    cases r2 with | dat r2 =>
    have ef : (List.replicate n.toNat [V.int b]).flatten = (List.replicate n.toNat b).map V.int := by
      rw [List.map_replicate]
      generalize n.toNat = k
      induction k with
      | zero => rfl
      | succ k ih => rw [List.replicate_succ, List.flatten_cons, ih, List.replicate_succ]; rfl
    refine ⟨a, n, [V.int b], rfl, r2.toInt, s2 _ _ ea, by omega, by omega, by show 1 * n.toNat ≤ sizeLine; exact Nat.le_trans (by omega : 1 * n.toNat ≤ 100000) (by decide), fun p' hp' => ?_⟩
    have l2 : Live O H2 := l1.mono s2
    refine q _ _ _ rfl ((s1.trans s2).trans (same_upd hp')) (.dat (.lst (cut_get upd_same (l2.no hp')) ?_))
    rw [ef]
    exact RpAll.ints _
/-- a comprehension over a range, its items drawn -/
theorem et_lcR {te0 : TE} {n : Int} {vs : List Nat} {j : Nat} {φ : Int → Prop} (hn : Ed te0 Γ (.int n)) (h1 : n ≤ 1000) (h0 : 0 ≤ n) (hj : j ∈ vs) (he : ∀ i : Nat, i < n.toNat → Et te ((wipeG Γ vs).set j (.dat (.int (i : Int)))) p (T + i) (T + (i + 1)) (isI φ)) :
    Et (tLc (iRng1 (tCons te0 tNil)) (gName j) tYes te vs) Γ p T (T + n.toNat) fun e => ∃ ns : List Int, e = .dat (.list (ns.map .int)) ∧ ns.length = n.toNat ∧ ∀ v ∈ ns, φ v := fun σ H O hp l env tin Q q =>
  hn σ H O l env _ fun v H1 _ z s1 r1 => by
    subst z
    cases r1 with | dat r1 =>
    rw [r1.toInt]
    refine ⟨n, rfl, by omega, by omega, fun D hD => ?_⟩
    have l1 := l.mono s1
    have nDO : D ∉ O := l1.no hD
    have Dp : D ≠ p := fun z => nDO (z ▸ hp)
    have tin1 := tin.same s1
    have out : ∀ {H' : Hp}, Bu [D, p] H1 H' → But p H H' := fun {H'} b a o n e => b a o (by
      simp only [List.mem_cons, List.not_mem_nil, or_false, not_or]
      exact ⟨ne_of_none e (s1.free hD), n⟩) (s1 _ _ e)
    refine lc_it (walk_range (lo := 0) (n := n.toNat)) (fun i H' => Bu [D, p] H1 H' ∧ Tin p (T + i) H' ∧ ∃ ns : List Int, H' D = some (.lst (ns.map V.int)) ∧ ns.length = i ∧ ∀ v ∈ ns, φ v) ⟨Bu.of (same_upd hD), tin1.same (same_upd hD), [], upd_same, rfl, by simp⟩ (fun _ _ _ _ => trivial) (fun i x H' H2 hi ⟨b, t, ns, eD, hl, hv⟩ y => ?_) fun H' ⟨b, t, ns, eD, hl, hv⟩ => ?_
    · obtain ⟨rfl, rfl⟩ := y
      rw [show (fun i : Nat => V.int (0 + (i : Int))) i = V.int (i : Int) from congrArg V.int (Int.zero_add _)]
      refine ⟨(wipe_set hj).trans (wipe_idem σ vs), tYes_if ?_⟩
      have lO : Live O H2 := fun q hq => by
        by_cases e : q = p
        · rw [e]; exact t.obj
        · obtain ⟨o, e1, n⟩ := l1 q hq
          exact ⟨o, b q o (by simp only [List.mem_cons, List.not_mem_nil, or_false, not_or]; exact ⟨fun z => nDO (z ▸ hq), e⟩) e1, n⟩
      have l2 : Live (D :: O) H2 := lO.cons eD fun _ z => nomatch z
      have c : Same (cut O H) (cut (D :: O) H2) := fun a o e => by
        unfold cut at e ⊢
        split at e
        · cases e
        · rename_i h
          have aD : a ≠ D := ne_of_none e (s1.free hD)
          rw [if_neg (by simp only [List.mem_cons, not_or]; exact ⟨aD, h⟩)]
          exact out b a o (fun z => h (z ▸ hp)) e
      refine he i hi _ H2 (D :: O) (List.mem_cons_of_mem _ hp) l2 (((env.mono c).wipe vs).set (.dat (.int _)) j) t _ fun y H4 e ⟨r, z, hr⟩ b4 t4 r4 => ?_
      subst z
      cases r4 with | dat r4 =>
      rw [r4.toInt]
      have eD4 := b4 D _ Dp eD
      have b5 : But D H4 (upd H4 D (.lst (ns.map V.int ++ [.int r]))) := But.of (Same.refl _)
      refine ⟨ns.map V.int, eD4, by rw [List.length_map]; exact Nat.lt_of_le_of_lt (by omega : ns.length ≤ 100000) (by decide), (b.but b4 (by simp)).but b5 (by simp), t4.bu ((Bu.refl [D] H4).but b5 (by simp)) (by simp only [List.mem_cons, List.not_mem_nil, or_false]; exact fun z => Dp z.symm), ns ++ [r], by rw [upd_same, List.map_append]; rfl, by rw [List.length_append, hl]; rfl, fun v h => ?_⟩
      rcases List.mem_append.mp h with z | z
      · exact hv v z
      · rw [List.mem_singleton.mp z]; exact hr
    · exact q _ _ _ ⟨ns, rfl, hl, hv⟩ (out b) t (.dat (.lst (cut_get eD nDO) (RpAll.ints ns)))
end KV
/-! KLain -/
set_option Elab.async false
set_option linter.all false
set_option maxRecDepth 100000
set_option maxHeartbeats 4000000
namespace KV
open PySem L2 KR
variable {K : PySem.W.Frag} {Γ Γ' : List En} {ta tb te td ty tv to tr tc th : TE} {D : Ends} {σ : St} {H H1 : Hp} {O O' : List Addr} {tz ts : TS} {p : Addr} {T T1 T2 : Nat} {Φ : En → Prop}
/-- p[-1], p owned: the value itself -/
theorem ix_last {i : Nat} {F : Addr} {xs : List V} {v : V} {Q : VK} (l : Live O H) (env : EnvOk (cut O H) σ Γ) (hi : Γ[i]? = some (.ptr F)) (eF : H F = some (.lst (xs ++ [v]))) (q : ∀ H1, Same H H1 → Q v H1) : tOp (rIx K) (tVar i) (tUn (rU fun i => .int (-i)) (tC (.int 1))) σ H Q := by
  obtain ⟨w, e1, e2⟩ := env.get hi fun z => nomatch z
  cases e2
  refine ⟨_, e1, (e_un (f := fun i => -i) e_int) σ H O l env _ fun y H1 _ z s r => ?_⟩
  subst z
  cases r with | dat r =>
  exact .inl ⟨F, xs ++ [v], -1, v, rfl, r.toInt, SqL.of (s _ _ eF), atI_last xs v, q H1 s⟩
theorem atI_last2 {α : Type} (xs : List α) (v u : α) : atI (xs ++ [v, u]) (-2) = some v := by
  unfold atI ixN
  have hl : (xs ++ [v, u]).length = xs.length + 2 := by simp
  rw [hl, if_neg (by decide), if_pos (by omega)]
  show (xs ++ [v, u])[((-2 : Int) + ((xs.length + 2 : Nat) : Int)).toNat]? = some v
  rw [show ((-2 : Int) + ((xs.length + 2 : Nat) : Int)).toNat = xs.length by omega]
  simp
theorem RpAll.split {G : Hp} : ∀ {ds es : List PyData} {vs : List V}, RpAll G vs (ds ++ es) → ∃ xs ys, vs = xs ++ ys ∧ RpAll G xs ds ∧ RpAll G ys es
  | [], _, vs, h => ⟨[], vs, rfl, .nil, h⟩
  | _ :: ds, es, _, .cons h t => by
    obtain ⟨xs, ys, rfl, a, b⟩ := RpAll.split (ds := ds) t
    exact ⟨_ :: xs, ys, rfl, .cons h a, b⟩
/-- x, y = a new list, a new dict -/
theorem s_parLD {i j : Nat} {ds : List PyData} (l : Live O H) (env : EnvOk (cut O H) σ Γ) (h1 : NL ta Γ ds)
    (k : ∀ a b H1 xs, H a = none → H b = none → a ≠ b → Same H H1 → H1 a = some (.lst xs) → H1 b = some (.dT []) → RpAll (cut (b :: a :: O) H1) xs ds → Live (b :: a :: O) H1 →
      EnvOk (cut (b :: a :: O) H1) ((σ.set i (some (.ref a))).set j (some (.ref b))) ((Γ.set i (.ptr a)).set j (.ptr b)) → tz D ((σ.set i (some (.ref a))).set j (some (.ref b))) H1) : tSeq (tPar i j (tCons ta (tCons tDNewT tNil))) tz D σ H :=
  h1 σ H O l env _ fun a H1 xs na s1 ea ra => fun b nb => by
    have l1 : Live (a :: O) H1 := (l.mono s1).cons ea fun _ z => nomatch z
    have sb := same_upd (o := .dT []) nb
    have c := cut_cons (O := a :: O) nb sb
    exact ⟨_, _, rfl, k a b _ xs na (s1.free nb) (ne_of_none ea nb) (s1.trans sb) (sb _ _ ea) upd_same (RpAll.mono c _ _ ra) ((l1.mono sb).cons upd_same fun _ z => nomatch z) ((((env.mono (cut_cons na s1)).mono c).set .ptr i).set .ptr j)⟩
end KV
namespace KD
open PySem L2 KV KR KS KC
/-- the section behind t rounds -/
noncomputable def itS (S : Sec) : Nat → Sec
  | 0 => S
  | t + 1 => doneS (itS S t)
theorem itS_ok {S : Sec} (wf : Wf S) (ah : AllHeld S) : ∀ t, Behind S t (itS S t)
  | 0 => behind0 wf
  | t + 1 => (itS_ok wf ah t).next wf ah
/-- a round changes just what it lays -/
theorem it_diff {S : Sec} (wf : Wf S) (ah : AllHeld S) (t : Nat) (c : KV.Cell) : valAt (itS S (t + 1)) c ≠ valAt (itS S t) c ↔ (gd S).L t c := by
  have B := itS_ok wf ah t
  have C := itS_ok wf ah (t + 1)
  constructor
  · intro h
    refine Classical.byContradiction fun n => h ?_
    by_cases hl : (gd S).laid t c
    · rw [C.four c (KM.laid_succ.mpr (.inl hl)), B.four c hl]
    · rw [C.same c fun z => (KM.laid_succ.mp z).elim hl n, B.same c hl]
  · intro l
    have hn : ¬ (gd S).laid t c := fun ⟨k, hk, lk⟩ => by have := KM.L_inj lk l; omega
    rw [C.four c (KM.laid_succ.mpr (.inr l)), B.same c hn, air_iff.mp (L_air l)]
    intro z
    injection z with z
    cases z
theorem L_low {S : Sec} (wf : Wf S) {k : Nat} {c : KV.Cell} (l : (gd S).L k c) : k + 1 ≤ ht S := by
  have ok := gd_ok wf
  have a := L_air l
  have e2 := clr_of l.1 (KM.O_far l.2)
  have := (near_clr ok a).mp (KM.near_all ok a)
  have i := ok.ain c a
  have h1 := i.2.2.1
  have h2 : c.2 < (ht S : Int) := i.2.2.2
  omega
/-- what is found of the first m rounds -/
structure Lain (S : Sec) (m : Nat) (ks : List (KV.Cell × Int)) : Prop where
  nd : (keysI ks).Nodup
  mem : ∀ c n, (c, n) ∈ ks ↔ ∃ k : Nat, k < m ∧ n = (k : Int) + 1 ∧ (gd S).L k c
theorem Lain.ok {S : Sec} (wf : Wf S) {m : Nat} {ks : List (KV.Cell × Int)} (h : Lain S m ks) (hm : ht S ≤ m) : RoundsOk (gd S) ks :=
  ⟨h.nd, fun c n => by
    rw [h.mem]
    exact ⟨fun ⟨k, _, e, l⟩ => ⟨k, e, l⟩, fun ⟨k, e, l⟩ => ⟨k, by have := L_low wf l; omega, e, l⟩⟩⟩
/-- within a round -/
structure Lying (S : Sec) (m : Nat) (done : List KV.Cell) (ks : List (KV.Cell × Int)) : Prop where
  nd : (keysI ks).Nodup
  mem : ∀ c n, (c, n) ∈ ks ↔ (∃ k : Nat, k < m ∧ n = (k : Int) + 1 ∧ (gd S).L k c) ∨ (n = (m : Int) + 1 ∧ (gd S).L m c ∧ c ∈ done)
section
variable {S : Sec} {m : Nat} {ks : List (KV.Cell × Int)} {done : List KV.Cell} {c : KV.Cell}
theorem Lain.first (S : Sec) : Lain S 0 [] := ⟨by simp [keysI], fun c n => ⟨fun h => by simp at h, fun ⟨k, h, _⟩ => by omega⟩⟩
theorem Lain.begin (h : Lain S m ks) : Lying S m [] ks := ⟨h.nd, fun c n => by rw [h.mem]; simp⟩
theorem Lying.fin (wf : Wf S) (h : Lying S m (cells S) ks) : Lain S (m + 1) ks := ⟨h.nd, fun c n => by
  rw [h.mem]
  constructor
  · rintro (⟨k, hk, e, l⟩ | ⟨e, l, _⟩)
    · exact ⟨k, by omega, e, l⟩
    · exact ⟨m, by omega, e, l⟩
  · rintro ⟨k, hk, e, l⟩
    by_cases z : k = m
    · subst z
      exact .inr ⟨e, l, mem_cells.mpr ((gd_ok wf).ain c (L_air l))⟩
    · exact .inl ⟨k, by omega, e, l⟩⟩
theorem Lying.skip (h : Lying S m done ks) (n : ¬ (gd S).L m c) : Lying S m (done ++ [c]) ks := ⟨h.nd, fun d k => by
  rw [h.mem]
  refine or_congr_right ?_
  constructor
  · rintro ⟨e, l, i⟩; exact ⟨e, l, List.mem_append.mpr (.inl i)⟩
  · rintro ⟨e, l, i⟩
    rcases List.mem_append.mp i with z | z
    · exact ⟨e, l, z⟩
    · rw [List.mem_singleton.mp z] at l; exact (n l).elim⟩
theorem Lying.new (h : Lying S m done ks) (l : (gd S).L m c) (hc : c ∉ done) : c ∉ keysI ks := fun z => by
  obtain ⟨n, hn⟩ := keys_get z
  rcases (h.mem c n).mp hn with ⟨k, hk, _, l'⟩ | ⟨_, _, i⟩
  · have := KM.L_inj l' l; omega
  · exact hc i
theorem Lying.add (h : Lying S m done ks) (l : (gd S).L m c) (hc : c ∉ done) : Lying S m (done ++ [c]) (ks ++ [(c, (m : Int) + 1)]) := by
  have nk := h.new l hc
  refine ⟨?_, fun d n => ?_⟩
  · unfold keysI at nk ⊢
    rw [List.map_append, List.nodup_append]
    refine ⟨h.nd, by simp, fun x hx y hy e => ?_⟩
    rw [List.map_cons, List.map_nil, List.mem_singleton] at hy
    rw [e, hy] at hx
    exact nk hx
  · rw [List.mem_append, h.mem]
    constructor
    · rintro ((z | ⟨e, l, i⟩) | z)
      · exact .inl z
      · exact .inr ⟨e, l, List.mem_append.mpr (.inl i)⟩
      · have z := List.mem_singleton.mp z
        injection z with z1 z2
        subst z1
        exact .inr ⟨z2, l, List.mem_append.mpr (.inr (by simp))⟩
    · rintro (z | ⟨e, l', i⟩)
      · exact .inl (.inl z)
      · rcases List.mem_append.mp i with z | z
        · exact .inl (.inr ⟨e, l', z⟩)
        · rw [List.mem_singleton.mp z, e]; exact .inr (by simp)
theorem Lying.short (wf : Wf S) (h : Lying S m done ks) : ks.length ≤ 54 := by
  have ok := gd_ok wf
  have e : (keysI ks).length = (sel S fun c => c ∈ keysI ks).length := sel_len h.nd fun c => ⟨fun z => ⟨by
    obtain ⟨n, hn⟩ := keys_get z
    rcases (h.mem c n).mp hn with ⟨k, _, _, l⟩ | ⟨_, l, _⟩
    · exact ok.ain c (L_air l)
    · exact ok.ain c (L_air l), z⟩, fun z => z.2⟩
  have := sel_length wf fun c => c ∈ keysI ks
  unfold keysI at e this
  rw [List.length_map] at e
  omega
end
end KD
/-! KFin -/
set_option Elab.async false
set_option linter.all false
set_option maxRecDepth 100000
set_option maxHeartbeats 4000000
namespace KV
open PySem L2 KR
variable {K : PySem.W.Frag} {Γ Γ' : List En} {ta tb te td ty tv to tr tc th tj : TE} {D : Ends} {σ : St} {H H1 : Hp} {O O' : List Addr} {tz ts : TS} {p : Addr} {T T1 T2 : Nat} {Φ : En → Prop} {t : TT}
theorem nlt_e {ψ : List Int → Prop} (h : NLt te Γ p T T1 ψ) : Et te Γ p T T1 fun e => ∃ ns : List Int, e = .dat (.list (ns.map .int)) ∧ ψ ns := fun σ H O hp l g tin Q q =>
  h σ H O hp l g tin Q fun a H1 H2 ns hψ b t n s e => q _ _ _ ⟨ns, rfl, hψ⟩ (b.after s) (t.same s) (.dat (.lst (cut_get e ((l.but b t.obj).no n)) (RpAll.ints ns)))
/-- a call that draws, what it gives told by its arguments -/
theorem et_callW {R : Addr → Nat → List En → Nat → (En → Prop) → Prop} {E0 : XK} {tA : TA} {Ψ : List En → Prop} (ha : Art tA Γ p T T1 Ψ) (h : ∀ es, Ψ es → ∃ Φ', R p T1 es T2 Φ' ∧ ∀ e, Φ' e → Φ e) : Et (tCall (spT R) [] E0 tA) Γ p T T2 Φ := fun σ H O hp l g tin Q q =>
  ha σ H O hp l g tin _ fun vs H1 es z b1 t1 r1 => by
    rw [List.append_nil]
    obtain ⟨Φ', h1, h2⟩ := h es z
    exact ⟨O, p, T1, es, T2, Φ', hp, l.but b1 t1.obj, r1, t1, h1, fun v H2 e z b t r => q v H2 e (h2 e z) (b1.trans b) t r⟩
/-- list(range(n)) -/
theorem e_listRg {n : Int} (ha : Ed ta Γ (.int n)) (h0 : 0 ≤ n) (h1 : n ≤ 1000) : Ed (tLstRg (tRg1 ta)) Γ (.list (((List.range n.toNat).map fun i : Nat => (i : Int)).map .int)) := fun σ H O l g Q q =>
  ha σ H O l g _ fun x H1 _ z s1 r1 => by
    subst z
    cases r1 with | dat r1 =>
    refine ⟨n, r1.toInt, RgOk.of_le (by omega) (by omega) (by omega) h0, fun a na => ?_⟩
    refine q _ _ _ rfl (s1.trans (same_upd na)) (.dat (.lst (cut_get upd_same ((l.mono s1).no na)) ?_))
    have e : rgV 0 n = ((List.range n.toNat).map fun i : Nat => (i : Int)).map V.int := by
      unfold rgV
      rw [List.map_map, Int.sub_zero]
      refine List.map_congr_left fun i _ => ?_
      show V.int (0 + (i : Int)) = V.int (i : Int)
      rw [Int.zero_add]
    rw [e]
    exact RpAll.ints _
/-- t[:j], a tuple of ints -/
theorem e_slA {ns : List Int} {j : Nat} (h : Ed te Γ (.tuple (ns.map .int))) (hj : Ed tj Γ (.int (j : Int))) : Ed (tSl (rSlA K) te tNoPart (tPart tj)) Γ (.tuple ((ns.take j).map .int)) := fun σ H O l g Q q =>
  h σ H O l g _ fun x H1 _ z s1 r1 => by
    subst z
    cases r1 with | dat r1 =>
    obtain ⟨a, xs, rfl, ea, r⟩ := rp_tuple r1
    rw [r.toInts] at ea
    refine hj σ H1 O (l.mono s1) (g.mono (cut_mono s1)) _ fun y H2 _ z s2 r2 => ?_
    subst z
    cases r2 with | dat r2 =>
    have s := s1.trans s2
    have ec : cutV (ns.map V.int) none (some (j : Int)) = (ns.take j).map V.int := by
      unfold cutV
      rw [HT.sIx_nat, HT.sIx_none, List.drop_zero, Nat.sub_zero, List.map_take]
      by_cases hj : j ≤ (ns.map V.int).length
      · rw [Nat.min_eq_left hj]
      · rw [Nat.min_eq_right (by omega), List.take_length, List.take_of_length_le (by omega)]
    refine ⟨(j : Int), r2.toInt, a, _, rfl, SqT.of (s2 _ _ (cut_same _ _ _ _ ea)), fun hw => ?_, fun hw b nb => ?_⟩
    · have hw := hw.2
      rw [HT.sIx_nat, List.length_map] at hw
      refine q _ _ _ rfl s (.dat ?_)
      rw [List.take_of_length_le (by omega)]
      exact Rp.mono (cut_mono s2) _ _ r1
    · refine q _ _ _ rfl (s.trans (same_upd nb)) (.dat (.tup (cut_get upd_same ((l.mono s).no nb)) ?_))
      rw [ec]
      exact RpAll.ints _
/-- x, y = a pair -/
theorem s_pair {i j : Nat} {d1 d2 : PyData} (l : Live O H) (g : EnvOk (cut O H) σ Γ) (h : Ed te Γ (.tuple [d1, d2])) (k : ∀ v w H1, Same H H1 → Live O H1 → EnvOk (cut O H1) ((σ.set i (some v)).set j (some w)) ((Γ.set i (.dat d1)).set j (.dat d2)) → tz D ((σ.set i (some v)).set j (some w)) H1) :
    tSeq (tAsg te (gTup K 2 (gCons (gName i) (gCons (gName j) gNil)))) tz D σ H :=
  h σ H O l g _ fun v H1 e z s1 r1 => by
    subst z
    cases r1 with | dat r1 =>
    obtain ⟨a, xs, rfl, ea, r⟩ := rp_tuple r1
    cases r with | cons r1 r =>
    cases r with | cons r2 r =>
    cases r
    exact ⟨a, _, rfl, SqT.of (cut_same _ _ _ _ ea), rfl, _, _, rfl, _, _, rfl, rfl, k _ _ H1 s1 (l.mono s1) (((g.mono (cut_mono s1)).set (.dat r1) i).set (.dat r2) j)⟩
/-- a test that says no -/
theorem s_no (l : Live O H) (env : EnvOk (cut O H) σ Γ) (h : Tt t Γ false) (k : ∀ H1, Same H H1 → Live O H1 → EnvOk (cut O H1) σ Γ → tz D σ H1) : tSeq (tIfS t ts tNext) tz D σ H :=
  h σ H O l env _ fun H1 s => by
    show (if false = true then _ else _)
    rw [if_neg (by decide)]
    exact k H1 s (l.mono s) (env.mono (cut_mono s))
end KV
namespace KD
open PySem L2 KV KR KS KC
/-! ### looking up -/
def vK (ks : List (KV.Cell × Int)) (c : KV.Cell) : Int := ((ks.find? fun e => decide (e.1 = c)).map (·.2)).getD 0
section
variable {S : Sec} {ks : List (KV.Cell × Int)} {n : Nat}
theorem vK_get (nd : (keysI ks).Nodup) {c : KV.Cell} {n : Int} (h : (c, n) ∈ ks) : vK ks c = n ∧ valV (kvI ks) c = some (.int n) := by
  have z := valV_int nd h
  refine ⟨?_, z⟩
  unfold vK
  unfold valV kvI at z
  rw [List.find?_map] at z
  cases e : ks.find? fun e => decide (e.1 = c) with
  | none =>
    have e' : List.find? ((fun e : KV.Cell × V => decide (e.1 = c)) ∘ fun e : KV.Cell × Int => (e.1, V.int e.2)) ks = none := e
    rw [e'] at z
    cases z
  | some y =>
    have e' : List.find? ((fun e : KV.Cell × V => decide (e.1 = c)) ∘ fun e : KV.Cell × Int => (e.1, V.int e.2)) ks = some y := e
    rw [e'] at z
    have z : some (V.int y.2) = some (V.int n) := z
    injection z with z
    injection z
theorem vK_val (nd : (keysI ks).Nodup) {c : KV.Cell} (hc : c ∈ keysI ks) : valV (kvI ks) c = some (.int (vK ks c)) := by
  obtain ⟨n, hn⟩ := keys_get hc
  rw [(vK_get nd hn).1]
  exact (vK_get nd hn).2
theorem rounds_lenK (wf : Wf S) (r : RoundsOk (gd S) ks) (i : Nat) : ((keysI ks).filter fun c => decide (vK ks c = 1 + (i : Int))).length = lenL S i := by
  have ok := gd_ok wf
  refine sel_len (π := (gd S).L i) (r.nd.filter _) fun c => ?_
  rw [List.mem_filter, decide_eq_true_eq]
  constructor
  · rintro ⟨hc, e⟩
    obtain ⟨n, hn⟩ := keys_get hc
    rw [(vK_get r.nd hn).1] at e
    obtain ⟨k, e2, l⟩ := (r.mem c n).mp hn
    have : k = i := by omega
    subst this
    exact ⟨ok.ain c (L_air l), l⟩
  · rintro ⟨_, l⟩
    have m := (r.mem c ((i : Int) + 1)).mpr ⟨i, rfl, l⟩
    exact ⟨mem_keys m, by rw [(vK_get r.nd m).1]; omega⟩
theorem rounds_maxK (r : RoundsOk (gd S) ks) (il : IsLast S n) : (n : Int) ∈ [0] ++ (keysI ks).map (vK ks) ∧ ∀ y ∈ [0] ++ (keysI ks).map (vK ks), y ≤ (n : Int) := by
  have e : (keysI ks).map (vK ks) = ks.map (·.2) := by
    unfold keysI
    rw [List.map_map]
    refine List.map_congr_left fun e he => ?_
    exact (vK_get r.nd (c := e.1) (n := e.2) he).1
  obtain ⟨h1, h2⟩ := rounds_max r il
  rw [e]
  refine ⟨?_, fun y hy => h2 y ?_⟩
  · rcases List.mem_append.mp h1 with z | z
    · exact List.mem_append.mpr (.inr z)
    · exact List.mem_append.mpr (.inl z)
  · rcases List.mem_append.mp hy with z | z
    · exact List.mem_append.mpr (.inr z)
    · exact List.mem_append.mpr (.inl z)
/-! ### the least number of rounds -/
noncomputable def enB (S : Sec) (n : Nat) (m : Int) : List Nat := (List.range (n + 1)).filter fun r => decide (m ≤ (tot S r : Int))
def lsD : List Nat → PyData
  | [] => .none
  | r :: _ => .int (r : Int)
theorem least_en (S : Sec) (n : Nat) (m : Int) : (∃ r : Nat, r ≤ n ∧ m ≤ (tot S r : Int) ∧ (∀ s, s < r → (tot S s : Int) < m) ∧ lsD (enB S n m) = .int r) ∨ ((∀ r, r ≤ n → (tot S r : Int) < m) ∧ lsD (enB S n m) = .none) := by
  have mem : ∀ r, r ∈ enB S n m ↔ r < n + 1 ∧ m ≤ (tot S r : Int) := fun r => by
    unfold enB
    rw [List.mem_filter, List.mem_range, decide_eq_true_eq]
  have pw : (enB S n m).Pairwise (· < ·) := List.pairwise_lt_range.filter _
  cases e : enB S n m with
  | nil =>
    refine .inr ⟨fun r hr => ?_, rfl⟩
    refine Int.not_le.mp fun z => ?_
    have := (mem r).mpr ⟨by omega, z⟩
    rw [e] at this
    simp at this
  | cons r l =>
    have h := (mem r).mp (by rw [e]; exact List.mem_cons_self ..)
    refine .inl ⟨r, by omega, h.2, fun s hs => ?_, rfl⟩
    refine Int.not_le.mp fun z => ?_
    have hm := (mem s).mpr ⟨by omega, z⟩
    rw [e] at hm pw
    rcases List.mem_cons.mp hm with y | y
    · omega
    · have := (List.pairwise_cons.mp pw).1 s y
      omega
theorem sum_cast (f : Nat → Nat) : ∀ l : List Nat, (l.map fun i => (f i : Int)).sum = ((l.map f).sum : Int)
  | [] => rfl
  | a :: l => by
    rw [List.map_cons, List.map_cons, List.sum_cons, List.sum_cons, sum_cast f l, Int.natCast_add]
theorem tot_take (S : Sec) {n r : Nat} (h : r ≤ n) : (((List.range n).map fun i => (lenL S i : Int)).take r).sum = (tot S r : Int) := by
  rw [← List.map_take, List.take_range, Nat.min_eq_left h]
  exact sum_cast (lenL S) _
/-! ### one more row of air -/
def highS (S : Sec) : Sec := S.map (· ++ [0])
theorem high_len (S : Sec) : (highS S).length = S.length := List.length_map ..
theorem high_ht (wf : Wf S) : ht (highS S) = ht S + 1 := by
  cases S with
  | nil => exact (wf.ne rfl).elim
  | cons c r =>
    show (c ++ [0]).length = c.length + 1
    rw [List.length_append]
    rfl
theorem high_wf (wf : Wf S) (h : ht S ≤ 5) : Wf (highS S) := by
  have mem : ∀ d ∈ highS S, ∃ c ∈ S, d = c ++ [0] := fun d hd => by
    obtain ⟨c, hc, e⟩ := List.mem_map.mp hd
    exact ⟨c, hc, e.symm⟩
  refine ⟨fun z => wf.ne (List.map_eq_nil_iff.mp z), fun d hd => ?_, by rw [high_ht wf]; omega, fun d hd v hv => ?_, by rw [high_len]; exact wf.wide, by rw [high_ht wf]; omega⟩
  · obtain ⟨c, hc, rfl⟩ := mem d hd
    rw [high_ht wf, List.length_append, wf.same c hc]
    rfl
  · obtain ⟨c, hc, rfl⟩ := mem d hd
    rcases List.mem_append.mp hv with z | z
    · exact wf.nn c hc v z
    · rw [List.mem_singleton.mp z]; exact Int.le_refl 0
theorem high_at (wf : Wf S) (p : KV.Cell) : valAt (highS S) p = some 0 ↔ (valAt S p = some 0 ∨ (p.2 = (ht S : Int) ∧ 0 ≤ p.1 ∧ p.1 < (S.length : Int))) := by
  unfold valAt
  by_cases hp : 0 ≤ p.1 ∧ 0 ≤ p.2
  · rw [if_pos hp, if_pos hp]
    unfold highS
    rw [List.getElem?_map]
    cases e : S[p.1.toNat]? with
    | none =>
      have hl := List.getElem?_eq_none_iff.mp e
      constructor
      · intro z; cases z
      · rintro (z | z)
        · cases z
        · omega
    | some c =>
      have hl := (List.getElem?_eq_some_iff.mp e).1
      have hc := wf.same c (List.mem_of_getElem? e)
      show (c ++ [0])[p.2.toNat]? = some 0 ↔ (c[p.2.toNat]? = some 0 ∨ _)
      rcases Nat.lt_trichotomy p.2.toNat c.length with z | z | z
      · rw [List.getElem?_append_left z]
        exact ⟨.inl, fun y => y.elim id fun y => by omega⟩
      · rw [List.getElem?_append_right (by omega), z, Nat.sub_self]
        exact ⟨fun _ => .inr ⟨by omega, hp.1, by omega⟩, fun _ => rfl⟩
      · rw [List.getElem?_eq_none (by rw [List.length_append]; show c.length + 1 ≤ _; omega), List.getElem?_eq_none (by omega)]
        constructor
        · intro y; cases y
        · rintro (y | y)
          · cases y
          · omega
  · rw [if_neg hp, if_neg hp]
    constructor
    · intro z; cases z
    · rintro (z | z)
      · cases z
      · exact (hp ⟨z.2.1, by omega⟩).elim
theorem high_gd (wf : Wf S) : gd (highS S) = (gd S).high := by
  have ext : ∀ {W W' T T' : Int} {a a' : KM.Cell → Prop}, W = W' → T = T' → (∀ p, a p ↔ a' p) → KM.Gd.mk W T a = KM.Gd.mk W' T' a' := fun {W W' T T' a a'} h1 h2 h3 => by
    have : a = a' := funext fun p => propext (h3 p)
    rw [h1, h2, this]
  refine ext (by rw [high_len]; rfl) (by rw [high_ht wf]; rfl) fun p => high_at wf p
theorem high_laid (wf : Wf S) (n : Int) : ((sel (highS S) fun c => ∃ k : Nat, (k : Int) + 1 ≤ n ∧ (gd (highS S)).L k c).filter fun c => decide (c.2 < (ht S : Int))) = sel S fun c => ∃ k : Nat, (k : Int) + 1 ≤ n ∧ (gd S).L k c := by
  have ok := gd_ok wf
  have hT : 1 ≤ (gd S).T := by have := wf.pos; show 1 ≤ (ht S : Int); omega
  refine lex_eq ((sel_sorted _ _).filter _) (sel_sorted _ _) fun c => ?_
  rw [List.mem_filter, mem_sel, mem_sel, decide_eq_true_eq, high_gd wf]
  constructor
  · rintro ⟨⟨_, k, hk, l⟩, hc⟩
    have l' := (KM.L_high ok hT (p := c) hc).mp l
    exact ⟨ok.ain c (L_air l'), k, hk, l'⟩
  · rintro ⟨i, k, hk, l⟩
    have hc : c.2 < (ht S : Int) := i.2.2.2
    have l' := (KM.L_high ok hT (p := c) hc).mpr l
    refine ⟨⟨?_, k, hk, l'⟩, hc⟩
    obtain ⟨a, b, d, e⟩ := i
    exact ⟨a, by rw [high_len]; exact b, d, by rw [high_ht wf]; omega⟩
end
end KD
/-! KCert -/
set_option Elab.async false
set_option linter.all false
set_option maxRecDepth 100000
set_option maxHeartbeats 4000000
namespace KD
open PySem L2 KV KR KS KC
/-! ### sections told by tables -/
abbrev Tab := List (List Nat)
def tb (t : Tab) (c : KV.Cell) : Nat := (t.getD c.1.toNat []).getD c.2.toNat 0
def airB (S : Sec) (c : KV.Cell) : Bool := decide (valAt S c = some 0)
def sbB (S : Sec) (c : KV.Cell) : Bool := decide (c.2 = 0) || (round4 c).any fun q => inB S q && !airB S q
/-- the clearances d, the necks e, an order r of the flood -/
def certB (S : Sec) (d e r : Tab) : Bool := (cells S).all fun c =>
  !airB S c || (decide (1 ≤ tb d c) && ((!sbB S c || decide (tb d c ≤ 1)) && ((round4 c).all (fun q => !airB S q || decide (tb d c ≤ tb d q + 1)) && ((!decide (tb d c ≤ 1) || sbB S c) && ((decide (tb d c ≤ 1) || (round4 c).any fun q => airB S q && decide (tb d q + 1 ≤ tb d c)) &&
    (decide (tb e c ≤ tb d c) && ((!decide (c.2 = (ht S : Int) - 1) || decide (tb d c ≤ tb e c)) && ((round4 c).all (fun q => !airB S q || decide (min (tb e q) (tb d c) ≤ tb e c)) &&
      (decide (tb e c = 0) || (decide (c.2 = (ht S : Int) - 1) || (round4 c).any fun q => airB S q && (decide (tb e c ≤ tb e q) && decide (tb r q < tb r c))))))))))))
section
variable {S : Sec} {d e r : Tab} {c q : KV.Cell} {k : Nat}
theorem airB_iff : airB S c = true ↔ (gd S).air c := by unfold airB; rw [decide_eq_true_eq, air_iff]
theorem sbB_iff : sbB S c = true ↔ (gd S).sb c := by
  unfold sbB
  rw [Bool.or_eq_true, decide_eq_true_eq, List.any_eq_true]
  refine or_congr_right ?_
  constructor
  · rintro ⟨q, hq, h⟩
    rw [Bool.and_eq_true, inB_iff, Bool.not_eq_true'] at h
    exact ⟨q, mem_round4.mp hq, h.1, fun z => by rw [airB_iff.mpr z] at h; cases h.2⟩
  · rintro ⟨q, ad, i, na⟩
    refine ⟨q, mem_round4.mpr ad, ?_⟩
    rw [Bool.and_eq_true, inB_iff, Bool.not_eq_true']
    exact ⟨i, Bool.eq_false_iff.mpr fun z => na (airB_iff.mp z)⟩
structure Cert (S : Sec) (d e r : Tab) (c : KV.Cell) : Prop where
  d1 : 1 ≤ tb d c
  ds : (gd S).sb c → tb d c ≤ 1
  dn : ∀ q, KM.Adj c q → (gd S).air q → tb d c ≤ tb d q + 1
  ds' : tb d c ≤ 1 → (gd S).sb c
  dn' : 1 < tb d c → ∃ q, KM.Adj c q ∧ (gd S).air q ∧ tb d q + 1 ≤ tb d c
  ed : tb e c ≤ tb d c
  et : c.2 = (ht S : Int) - 1 → tb d c ≤ tb e c
  en : ∀ q, KM.Adj c q → (gd S).air q → min (tb e q) (tb d c) ≤ tb e c
  en' : tb e c ≠ 0 → c.2 ≠ (ht S : Int) - 1 → ∃ q, KM.Adj c q ∧ (gd S).air q ∧ tb e c ≤ tb e q ∧ tb r q < tb r c
theorem cert_at (wf : Wf S) (h : certB S d e r = true) (a : (gd S).air c) : Cert S d e r c := by
  have ic := (gd_ok wf).ain c a
  have h := List.all_eq_true.mp h c (mem_cells.mpr ic)
  rw [airB_iff.mpr a] at h
  simp only [Bool.not_true, Bool.false_or, Bool.and_eq_true, Bool.or_eq_true, decide_eq_true_eq, List.all_eq_true, List.any_eq_true, Bool.not_eq_true'] at h
  obtain ⟨h1, h2, h3, h4, h5, h6, h7, h8, h9⟩ := h
  refine ⟨h1, fun s => h2.resolve_left fun z => ?_, fun q ad aq => (h3 q (mem_round4.mpr ad)).resolve_left fun z => ?_, fun z => ?_, fun z => ?_, h6, fun z => ?_, fun q ad aq => (h8 q (mem_round4.mpr ad)).resolve_left fun z => ?_, fun z1 z2 => ?_⟩
  · rw [sbB_iff.mpr s] at z; cases z
  · rw [airB_iff.mpr aq] at z; cases z
  · rcases h4 with y | y
    · exact (of_decide_eq_false y z).elim
    · exact sbB_iff.mp y
  · rcases h5 with y | ⟨q, hq, a, b⟩
    · omega
    · exact ⟨q, mem_round4.mp hq, airB_iff.mp a, b⟩
  · rcases h7 with y | y
    · exact (of_decide_eq_false y z).elim
    · exact y
  · rw [airB_iff.mpr aq] at z; cases z
  · rcases h9 with y | y | ⟨q, hq, a, b, c⟩
    · exact (z1 y).elim
    · exact (z2 y).elim
    · exact ⟨q, mem_round4.mp hq, airB_iff.mp a, b, c⟩
theorem near_cert (wf : Wf S) (h : certB S d e r = true) : ∀ {k : Nat} {c : KV.Cell}, (gd S).near k c ↔ (gd S).air c ∧ tb d c ≤ k
  | 0, c => ⟨fun z => z.elim, fun ⟨a, z⟩ => by have := (cert_at wf h a).d1; omega⟩
  | k + 1, c => by
    show ((gd S).air c ∧ ((gd S).sb c ∨ ∃ q, KM.Adj c q ∧ (gd S).near k q)) ↔ _
    refine and_congr_right fun a => ?_
    have C := cert_at wf h a
    constructor
    · rintro (s | ⟨q, ad, n⟩)
      · have := C.ds s; omega
      · obtain ⟨aq, dq⟩ := (near_cert wf h).mp n
        have := C.dn q ad aq; omega
    · intro z
      by_cases y : tb d c ≤ 1
      · exact .inl (C.ds' y)
      · obtain ⟨q, ad, aq, dq⟩ := C.dn' (by omega)
        exact .inr ⟨q, ad, (near_cert wf h).mpr ⟨aq, by omega⟩⟩
theorem O_cert (wf : Wf S) (h : certB S d e r = true) : (gd S).O k c ↔ (gd S).air c ∧ k + 1 ≤ tb e c := by
  have far : ∀ {p : KV.Cell}, (gd S).air p → ¬ (gd S).near k p → k + 1 ≤ tb d p := fun a n => Classical.byContradiction fun z => n ((near_cert wf h).mpr ⟨a, by omega⟩)
  constructor
  · intro o
    induction o with
    | @top p a t n =>
      have := (cert_at wf h a).et t
      have := far a n
      exact ⟨a, by omega⟩
    | @step p q a n ad o ih =>
      have := (cert_at wf h a).en q ad ih.1
      have := far a n
      exact ⟨a, by omega⟩
  · rintro ⟨a, z⟩
    have gen : ∀ m (p : KV.Cell), tb r p ≤ m → (gd S).air p → k + 1 ≤ tb e p → (gd S).O k p := by
      intro m
      induction m with
      | zero =>
        intro p hr a z
        have C := cert_at wf h a
        have nn : ¬ (gd S).near k p := fun n => by have := ((near_cert wf h).mp n).2; have := C.ed; omega
        by_cases t : p.2 = (ht S : Int) - 1
        · exact .top a t nn
        · obtain ⟨q, _, _, _, lt⟩ := C.en' (by omega) t
          omega
      | succ m ih =>
        intro p hr a z
        have C := cert_at wf h a
        have nn : ¬ (gd S).near k p := fun n => by have := ((near_cert wf h).mp n).2; have := C.ed; omega
        by_cases t : p.2 = (ht S : Int) - 1
        · exact .top a t nn
        · obtain ⟨q, ad, aq, le, lt⟩ := C.en' (by omega) t
          exact .step a nn ad (ih q (by omega) aq (by omega))
    exact gen _ c (Nat.le_refl _) a z
/-- laid in round k + 1, by the tables -/
def lB (S : Sec) (d e : Tab) (k : Nat) (c : KV.Cell) : Bool := airB S c && (decide (tb d c ≤ k + 1) && decide (k + 1 ≤ tb e c))
theorem lB_iff (wf : Wf S) (h : certB S d e r = true) : lB S d e k c = true ↔ (gd S).L k c := by
  unfold lB
  rw [Bool.and_eq_true, Bool.and_eq_true, decide_eq_true_eq, decide_eq_true_eq, airB_iff]
  show _ ↔ (gd S).near (k + 1) c ∧ (gd S).O k c
  rw [near_cert wf h, O_cert wf h]
  exact ⟨fun ⟨a, b, c⟩ => ⟨⟨a, b⟩, a, c⟩, fun ⟨⟨a, b⟩, _, c⟩ => ⟨a, b, c⟩⟩
theorem sel_by {π : KV.Cell → Prop} {p : KV.Cell → Bool} (h : ∀ c, p c = true ↔ π c) : sel S π = (cells S).filter p := by
  unfold sel
  refine List.filter_congr fun c _ => ?_
  by_cases z : π c
  · rw [(h c).mpr z]; simp [z]
  · rw [Bool.eq_false_iff.mpr fun y => z ((h c).mp y)]; simp [z]
theorem lenL_by (wf : Wf S) (h : certB S d e r = true) (k : Nat) : lenL S k = ((cells S).filter (lB S d e k)).length := by
  unfold lenL
  rw [sel_by fun c => lB_iff wf h]
theorem last_by (wf : Wf S) (h : certB S d e r = true) {n : Nat} (h1 : n = 0 ∨ ∃ c, lB S d e (n - 1) c = true) (h2 : ((cells S).all fun c => decide (tb e c ≤ n)) = true) : IsLast S n := by
  refine ⟨?_, fun k c l => ?_⟩
  · by_cases z : n = 0
    · exact .inl z
    · obtain ⟨c, hc⟩ := h1.resolve_left z
      exact .inr ⟨n - 1, c, by omega, (lB_iff wf h).mp hc⟩
  · have l' := (lB_iff wf h).mpr l
    unfold lB at l'
    rw [Bool.and_eq_true, Bool.and_eq_true, decide_eq_true_eq, decide_eq_true_eq] at l'
    have := of_decide_eq_true (List.all_eq_true.mp h2 c (mem_cells.mpr ((gd_ok wf).ain c (L_air l))))
    omega
def nevB (S : Sec) (d e : Tab) (c : KV.Cell) : Bool := airB S c && !decide (tb d c ≤ tb e c)
theorem nevB_iff (wf : Wf S) (h : certB S d e r = true) : nevB S d e c = true ↔ ((gd S).air c ∧ ∀ k, ¬ (gd S).L k c) := by
  unfold nevB
  rw [Bool.and_eq_true, airB_iff, Bool.not_eq_true', decide_eq_false_iff_not]
  refine and_congr_right fun a => ?_
  have C := cert_at wf h a
  constructor
  · intro z k l
    have l' := (lB_iff wf h).mpr l
    unfold lB at l'
    rw [Bool.and_eq_true, Bool.and_eq_true, decide_eq_true_eq, decide_eq_true_eq] at l'
    omega
  · intro z y
    refine z (tb d c - 1) ((lB_iff wf h).mp ?_)
    unfold lB
    rw [airB_iff.mpr a, decide_eq_true (by have := C.d1; omega), decide_eq_true (by have := C.d1; omega)]
    rfl
theorem wf_by {S : Sec} (h : (decide (S ≠ []) && (S.all (fun c => decide (c.length = ht S)) && (decide (1 ≤ ht S) && (S.all (fun c => c.all fun v => decide (0 ≤ v)) && (decide (S.length ≤ 9) && decide (ht S ≤ 6)))))) = true) : Wf S := by
  simp only [Bool.and_eq_true, decide_eq_true_eq, List.all_eq_true] at h
  obtain ⟨h1, h2, h3, h4, h5, h6⟩ := h
  exact ⟨h1, h2, h3, h4, h5, h6⟩
end
/-! ### the sections by hand -/
def vaultS : Sec := [[1, 1, 1, 0, 0, 0], [0, 0, 1, 0, 0, 0], [0, 0, 0, 0, 0, 0], [0, 0, 1, 0, 0, 0], [1, 1, 1, 0, 0, 0]]
def vaultd : Tab := [[0, 0, 0, 1, 2, 3], [1, 1, 0, 1, 2, 3], [1, 2, 1, 2, 3, 4], [1, 1, 0, 1, 2, 3], [0, 0, 0, 1, 2, 3]]
def vaulte : Tab := [[0, 0, 0, 1, 2, 3], [1, 1, 0, 1, 2, 3], [1, 1, 1, 2, 3, 4], [1, 1, 0, 1, 2, 3], [0, 0, 0, 1, 2, 3]]
def vaultr : Tab := [[0, 0, 0, 2, 1, 0], [6, 5, 0, 2, 1, 0], [5, 4, 3, 2, 1, 0], [6, 5, 0, 2, 1, 0], [0, 0, 0, 2, 1, 0]]
theorem vaultw : Wf vaultS := wf_by (by decide +kernel)
theorem vaultc : certB vaultS vaultd vaulte vaultr = true := by decide +kernel
def shutS : Sec := [[1, 1], [0, 1], [1, 1]]
def shutd : Tab := [[0, 0], [1, 0], [0, 0]]
def shute : Tab := [[0, 0], [0, 0], [0, 0]]
theorem shutw : Wf shutS := wf_by (by decide +kernel)
theorem shutc : certB shutS shutd shute shute = true := by decide +kernel
def ridgeS : Sec := [[1, 0], [1, 0], [1, 0]]
def ridged : Tab := [[0, 1], [0, 1], [0, 1]]
theorem ridgew : Wf ridgeS := wf_by (by decide +kernel)
theorem ridgec : certB ridgeS ridged ridged shute = true := by decide +kernel
def caveS : Sec := [[1, 1, 1, 1, 0], [0, 0, 0, 1, 0], [0, 0, 0, 1, 0], [0, 0, 0, 1, 0], [1, 0, 1, 1, 0], [0, 0, 0, 1, 0], [0, 0, 0, 1, 0], [0, 0, 0, 0, 0], [0, 0, 0, 0, 0]]
def caved : Tab := [[0, 0, 0, 0, 1], [1, 1, 1, 0, 1], [1, 2, 1, 0, 1], [1, 2, 1, 0, 1], [0, 1, 0, 0, 1], [1, 2, 1, 0, 1], [1, 2, 1, 0, 1], [1, 2, 2, 1, 2], [1, 2, 3, 2, 3]]
def cavee : Tab := [[0, 0, 0, 0, 1], [1, 1, 1, 0, 1], [1, 1, 1, 0, 1], [1, 1, 1, 0, 1], [0, 1, 0, 0, 1], [1, 2, 1, 0, 1], [1, 2, 1, 0, 1], [1, 2, 2, 1, 2], [1, 2, 2, 2, 3]]
def caver : Tab := [[0, 0, 0, 0, 0], [11, 10, 11, 0, 0], [10, 9, 10, 0, 0], [9, 8, 9, 0, 0], [0, 7, 0, 0, 0], [7, 6, 5, 0, 0], [6, 5, 4, 0, 0], [5, 4, 3, 1, 0], [4, 3, 2, 1, 0]]
theorem cavew : Wf caveS := wf_by (by decide +kernel)
theorem cavec : certB caveS caved cavee caver = true := by decide +kernel
theorem vault_len : lenL vaultS 0 = 10 ∧ lenL vaultS 1 = 5 ∧ lenL vaultS 2 = 5 ∧ lenL vaultS 3 = 1 := by
  simp only [lenL_by vaultw vaultc]
  decide +kernel
theorem vault_last : IsLast vaultS 4 := last_by vaultw vaultc (.inr ⟨(2, 5), by decide +kernel⟩) (by decide +kernel)
theorem vault_tot : tot vaultS 0 = 0 ∧ tot vaultS 1 = 10 ∧ tot vaultS 2 = 15 ∧ tot vaultS 3 = 20 ∧ tot vaultS 4 = 21 := by
  obtain ⟨h0, h1, h2, h3⟩ := vault_len
  have t0 : tot vaultS 0 = 0 := rfl
  have t1 : tot vaultS 1 = tot vaultS 0 + lenL vaultS 0 := tot_succ vaultS 0
  have t2 : tot vaultS 2 = tot vaultS 1 + lenL vaultS 1 := tot_succ vaultS 1
  have t3 : tot vaultS 3 = tot vaultS 2 + lenL vaultS 2 := tot_succ vaultS 2
  have t4 : tot vaultS 4 = tot vaultS 3 + lenL vaultS 3 := tot_succ vaultS 3
  omega
theorem vault_never : (sel vaultS fun c => (gd vaultS).air c ∧ ∀ k, ¬ (gd vaultS).L k c) = [(2, 1)] := by
  rw [sel_by fun c => nevB_iff vaultw vaultc]
  decide +kernel
theorem shut_last : IsLast shutS 0 := last_by shutw shutc (.inl rfl) (by decide +kernel)
theorem ridge_len : lenL ridgeS 0 = 3 := by
  rw [lenL_by ridgew ridgec]
  decide +kernel
theorem ridge_last : IsLast ridgeS 1 := last_by ridgew ridgec (.inr ⟨(0, 1), by decide +kernel⟩) (by decide +kernel)
theorem cave_never : (sel caveS fun c => (gd caveS).air c ∧ ∀ k, ¬ (gd caveS).L k c).length = 3 := by
  rw [sel_by fun c => nevB_iff cavew cavec]
  decide +kernel
end KD
/-! P2 -/
set_option Elab.async false
set_option linter.all false
set_option maxRecDepth 100000
set_option maxHeartbeats 4000000
namespace KP
open PySem L2 KV KR KS KC KD KX
variable {P : Program} {w : World} {K : PySem.W.Frag} {mg : Str → Option Value} {base : Heap}
/-! ### tupled -/
abbrev spTupled (n : Nat) : Sp := spE (rD 1 fun ds d => ∃ d0, ds = [d0] ∧ okD n d0 ∧ d = tupD n d0)
abbrev NNtupled : List Str := ["value", "own"]
theorem sctupled : FnScope NNtupled ["value"] (defScope (KH.top 6)) := ⟨rfl, rfl, rfl, by decide +kernel, rfl, by decide +kernel, by decide +kernel⟩
theorem cal_tupled0 (B : Blt mg) (D : Df K mg "tupled" 6) : Cal P w K mg base "tupled" ["value"] 1 (spTupled 0) :=
  cal_pure D sctupled (fun _ _ _ _ _ _ us hl => match us, hl with | [_], _ => rfl) (rD_len) fun f cdv A outer s H es Φ hr h => by
    obtain ⟨ds, d, hn, rfl, ⟨d0, rfl, ⟨i, rfl⟩, rfl⟩, rfl⟩ := h
    refine ⟨_, (pss_one (ps_ret (pe_ifExp (pt_val (pe_callB call_isiT (by rfl) B.isinstance bt_isinstance (pa_cons (pv 0) (pa_cons (pe_tup (pa_cons (pe_bltn (v := .ty "list") (by rfl) B.list bt_list rfl) (pa_cons (pe_bltn (v := .ty "tuple") (by rfl) B.tuple bt_tuple rfl) pa_nil))) pa_nil)))) pe_no (pv 0)))), ?_⟩
    exact b_ret (es_if (t_B (e_isi2 (e_var rfl) kt_int_list kt_int_tuple)) (fun z => nomatch z) fun _ => e_var rfl)
theorem cal_tupled1 (B : Blt mg) (D : Df K mg "tupled" 6) {n : Nat} (Ctupled : Cal P w K mg base "tupled" ["value"] (n + 1) (spTupled n)) : Cal P w K mg base "tupled" ["value"] (n + 1 + 1) (spTupled (n + 1)) :=
  cal_pure D sctupled (fun _ _ _ _ _ _ us hl => match us, hl with | [_], _ => rfl) (rD_len) fun f cdv A outer s H es Φ hr h => by
    obtain ⟨ds, d, hn, rfl, ⟨d0, rfl, h, rfl⟩, rfl⟩ := h
    have hk : n + 1 ≤ n + 1 := Nat.le_refl _
    rcases h with ⟨i, rfl⟩ | ⟨ds, rfl | rfl, hl, h⟩
    · refine ⟨_, (pss_one (ps_ret (pe_ifExp (pt_val (pe_callB call_isiT (by rfl) B.isinstance bt_isinstance (pa_cons (pv 0) (pa_cons (pe_tup (pa_cons (pe_bltn (v := .ty "list") (by rfl) B.list bt_list rfl) (pa_cons (pe_bltn (v := .ty "tuple") (by rfl) B.tuple bt_tuple rfl) pa_nil))) pa_nil)))) pe_no (pv 0)))), ?_⟩
      exact b_ret (es_if (t_B (e_isi2 (e_var rfl) kt_int_list kt_int_tuple)) (fun z => nomatch z) fun _ => e_var rfl)
    · refine ⟨_, (pss_one (ps_ret (pe_ifExp (pt_val (pe_callB (call_isiTK (K := K) rfl) (by rfl) B.isinstance bt_isinstance (pa_cons (pv 0) (pa_cons (pe_tup (pa_cons (pe_bltn (v := .ty "list") (by rfl) B.list bt_list rfl) (pa_cons (pe_bltn (v := .ty "tuple") (by rfl) B.tuple bt_tuple rfl) pa_nil))) pa_nil)))) (pe_callTy (call_tuple_ofK (K := K) rfl) (by rfl) B.tuple bt_tuple (pa_cons (pe_lc (own := [("own", 1)]) rfl sctupled.nd (pi_listK (K := K) rfl (pv 0)) (blkOk_by (sc := defScope (KH.top 6)) (own := [("own", 1)]) (N := NNtupled) (by decide +kernel)) (fun _ _ _ _ _ => (pg_name (i := 1) sctupled.nd rfl (Or.inl rfl))) (fun _ _ _ _ _ => pts_nil) (fun _ _ _ _ _ => (pe_cal Ctupled hr (by rfl) (pa_cons (pv 1) pa_nil)))) pa_nil)) (pv 0)))), ?_⟩
      refine b_ret (es_if (t_B (e_isi2 (e_var rfl) kt_list_list kt_list_tuple)) (fun _ => e_tuple (n_lcm (fun d => (wipeG (ent0 NNtupled [.dat (.list ds)]) [1]).set 1 (.dat d)) (tupD n) (src_list (e_var rfl)) (by omega) (fun d _ => tg_name 1) (by simp) (fun d hd => ?_)).e rfl) fun z => nomatch z)
      exact e_call (ds := [d]) (a_cons (e_var rfl) a_nil) ⟨d, rfl, h d hd, rfl⟩
    · refine ⟨_, (pss_one (ps_ret (pe_ifExp (pt_val (pe_callB (call_isiTK (K := K) rfl) (by rfl) B.isinstance bt_isinstance (pa_cons (pv 0) (pa_cons (pe_tup (pa_cons (pe_bltn (v := .ty "list") (by rfl) B.list bt_list rfl) (pa_cons (pe_bltn (v := .ty "tuple") (by rfl) B.tuple bt_tuple rfl) pa_nil))) pa_nil)))) (pe_callTy (call_tuple_ofK (K := K) rfl) (by rfl) B.tuple bt_tuple (pa_cons (pe_lc (own := [("own", 1)]) rfl sctupled.nd (pi_tupK (K := K) rfl (pv 0)) (blkOk_by (sc := defScope (KH.top 6)) (own := [("own", 1)]) (N := NNtupled) (by decide +kernel)) (fun _ _ _ _ _ => (pg_name (i := 1) sctupled.nd rfl (Or.inl rfl))) (fun _ _ _ _ _ => pts_nil) (fun _ _ _ _ _ => (pe_cal Ctupled hr (by rfl) (pa_cons (pv 1) pa_nil)))) pa_nil)) (pv 0)))), ?_⟩
      refine b_ret (es_if (t_B (e_isi2 (e_var rfl) kt_tuple_list kt_tuple_tuple)) (fun _ => e_tuple (n_lcm (fun d => (wipeG (ent0 NNtupled [.dat (.tuple ds)]) [1]).set 1 (.dat d)) (tupD n) (src_tup (e_var rfl)) (by omega) (fun d _ => tg_name 1) (by simp) (fun d hd => ?_)).e rfl) fun z => nomatch z)
      exact e_call (ds := [d]) (a_cons (e_var rfl) a_nil) ⟨d, rfl, h d hd, rfl⟩
theorem cal_tupled (B : Blt mg) (D : Df K mg "tupled" 6) : Cal P w K mg base "tupled" ["value"] 3 (spTupled 2) := cal_tupled1 B D (cal_tupled1 B D (cal_tupled0 B D))
/-! ### set_of -/
abbrev spSetOf : Sp := spE (rD 1 fun ds d => ∃ (cs0 cs : List KV.Cell), ds = [.list (cs0.map cellD)] ∧ cs0.length < 64 ∧ (∀ c ∈ cs0, Cb 64 c) ∧ (∀ c, c ∈ cs ↔ c ∈ cs0) ∧ cs.Pairwise LexL ∧ d = .tuple (cs.map cellD))
abbrev NNset_of : List Str := ["row"]
theorem scset_of : FnScope NNset_of ["row"] (defScope (KH.top 7)) := ⟨rfl, rfl, rfl, by decide +kernel, rfl, by decide +kernel, by decide +kernel⟩
theorem cal_set_of (B : Blt mg) (D : Df K mg "set_of" 7) : Cal P w K mg base "set_of" ["row"] 1 spSetOf :=
  cal_pure D scset_of (fun _ _ _ _ _ _ us hl => match us, hl with | [_], _ => rfl) (rD_len) fun f cdv A outer s H es Φ hr h => by
    obtain ⟨ds, d, hn, rfl, ⟨cs0, cs, rfl, h1, h2, h3, h4, rfl⟩, rfl⟩ := h
    refine ⟨_, (pss_one (ps_ret (pe_callTy (call_tuple_ofK (K := K) rfl) (by rfl) B.tuple bt_tuple (pa_cons (pe_callB (cr_sortedT rfl) (by rfl) B.sorted bt_sorted (pa_cons (pe_callTy (cr_setOfT rfl hr.units) (by rfl) B.set bt_set (pa_cons (pv 0) pa_nil)) pa_nil)) pa_nil)))), ?_⟩
    exact b_ret (e_tuple (n_sortSet (e_var rfl) h1 h2 h3 h4).e rfl)
/-! ### is_cell, some_cell -/
abbrev spIsCell : Sp := spE (rD 2 fun ds d => ∃ S c, ds = [secD S, cellD c] ∧ Wf S ∧ InG S c ∧ d = .bool true)
abbrev NNis_cell : List Str := ["heap", "thing"]
theorem scis_cell : FnScope NNis_cell ["heap", "thing"] (defScope (KH.top 10)) := ⟨rfl, rfl, rfl, by decide +kernel, rfl, by decide +kernel, by decide +kernel⟩
theorem cal_is_cell (B : Blt mg) (D : Df K mg "is_cell" 10) (Cis_row : Cal P w K mg base "is_row" ["thing", "length"] 1 (spE (rD 2 fun ds d => ∃ es n, ds = [.tuple es, .int n] ∧ d = .bool (decide ((es.length : Int) = n)))))
    (Cis_from : Cal P w K mg base "is_from" ["thing", "least"] 2 (spE (rD 2 fun ds d => ∃ i j, ds = [.int i, .int j] ∧ d = .bool (decide (j ≤ i))))) : Cal P w K mg base "is_cell" ["heap", "thing"] 3 spIsCell :=
  cal_pure D scis_cell (fun _ _ _ _ _ _ us hl => match us, hl with | [_, _], _ => rfl) (rD_len) fun f cdv A outer s H es Φ hr h => by
    obtain ⟨ds, d, hn, rfl, ⟨S, c, rfl, wf, hc, rfl⟩, rfl⟩ := h
    obtain ⟨tp, hPAIR⟩ := B.PAIR
    refine ⟨_, (pss_cons (ps_if (PW.pt (pw_or (pt_not (pt_val (pe_cal Cis_row hr (by rfl) (pa_cons (pv 1) (pa_cons (pe_glob (v := .int 2) (by rfl) hPAIR ⟨_, rfl⟩) pa_nil))))) (pw_or (pt_not (pt_val (pe_cal Cis_from hr (by rfl) (pa_cons (pe_ix (ix_seqK (K := K) rfl) (pv 1) pe_int (fun _ _ => rfl)) (pa_cons pe_int pa_nil))))) (pw_or1 (pt_not (pt_val (pe_cal Cis_from hr (by rfl) (pa_cons (pe_ix (ix_seqK (K := K) rfl) (pv 1) pe_int (fun _ _ => rfl)) (pa_cons pe_int pa_nil))))))))) (pss_one (ps_ret pe_bl)) pss_nil)
      (pss_one (ps_ret (pe_and (pe_cmpR op_lt (pe_ix (ix_seqK (K := K) rfl) (pv 1) pe_int (fun _ _ => rfl)) (pe_callB (call_len_seqK (K := K) rfl) (by rfl) B.len bt_len (pa_cons (pv 0) pa_nil)) (nomark _)) (pe_one (pe_cmpR op_lt (pe_ix (ix_seqK (K := K) rfl) (pv 1) pe_int (fun _ _ => rfl)) (pe_callB (call_len_seqK (K := K) rfl) (by rfl) B.len bt_len (pa_cons (pe_ix (ix_seqK (K := K) rfl) (pv 0) pe_int (fun _ _ => rfl)) pa_nil)) (nomark _))))))), ?_⟩
    obtain ⟨c1, c2, c3, c4⟩ := hc
    obtain ⟨col, s0, sl⟩ := sec_0 wf
    have i0 : Ed (tOp (rIx K) (tVar 1) (tC (.int 0))) (ent0 NNis_cell (List.map En.dat [secD S, cellD c])) (.int c.1) := e_ix (e_var rfl) e_int rfl (atI_nat (j := 0) rfl)
    have i1 : Ed (tOp (rIx K) (tVar 1) (tC (.int 1))) (ent0 NNis_cell (List.map En.dat [secD S, cellD c])) (.int c.2) := e_ix (e_var rfl) e_int rfl (atI_nat (j := 1) rfl)
    refine b_if (b := false) (t_to (t_or (t_not (t_B (e_call (ds := [cellD c, .int 2]) (a_cons (e_var rfl) (a_cons e_int a_nil)) ⟨_, _, rfl, rfl⟩))) (fun _ => t_or (t_not (t_B (e_call (ds := [.int c.1, .int 0]) (a_cons i0 (a_cons e_int a_nil)) ⟨_, _, rfl, rfl⟩))) (fun _ => t_not (t_B (e_call (ds := [.int c.2, .int 0]) (a_cons i1 (a_cons e_int a_nil)) ⟨_, _, rfl, rfl⟩))))) ?_) (fun z => nomatch z) fun _ => ?_
    · rw [decide_eq_true c1, decide_eq_true c3]; rfl
    · refine b_ret (e_andV (a := true) (e_to (e_B0 i0 (e_len (e_var rfl) rfl)) ?_) (fun _ => e_to (e_B0 i1 (e_len (e_ix (e_var rfl) e_int rfl s0) rfl)) ?_) fun z => nomatch z)
      · rw [decide_eq_true (by simpa using c2)]
      · rw [decide_eq_true (by simp only [List.length_map]; omega)]
abbrev spSomeCell : Sp := spE (rD 2 fun ds d => ∃ S c, ds = [secD S, cellD c] ∧ Wf S ∧ InG S c ∧ d = cellD c)
abbrev NNsome_cell : List Str := ["heap", "cell", "here"]
theorem scsome_cell : FnScope NNsome_cell ["heap", "cell"] (defScope (KH.top 11)) := ⟨rfl, rfl, rfl, by decide +kernel, rfl, by decide +kernel, by decide +kernel⟩
theorem cal_some_cell (B : Blt mg) (D : Df K mg "some_cell" 11) (Ctupled : Cal P w K mg base "tupled" ["value"] 3 (spTupled 2)) (Cis_cell : Cal P w K mg base "is_cell" ["heap", "thing"] 3 spIsCell) : Cal P w K mg base "some_cell" ["heap", "cell"] 4 spSomeCell :=
  cal_pure D scsome_cell (fun _ _ _ _ _ _ us hl => match us, hl with | [_, _], _ => rfl) (rD_len) fun f cdv A outer s H es Φ hr h => by
    obtain ⟨ds, d, hn, rfl, ⟨S, c, rfl, wf, hc, rfl⟩, rfl⟩ := h
    refine ⟨_, (pss_cons (ps_set (i := 2) scsome_cell.nd rfl (Or.inl rfl) (pe_cal Ctupled hr (by rfl) (pa_cons (pv 1) pa_nil)))
      (pss_cons (ps_if (pt_not (pt_val (pe_cal Cis_cell hr (by rfl) (pa_cons (pv 0) (pa_cons (pv 2) pa_nil))))) (pss_one ps_never) pss_nil)
      (pss_one (ps_ret (pv 2))))), ?_⟩
    refine b_asg (e_call (ds := [cellD c]) (d := cellD c) (a_cons (e_var rfl) a_nil) ⟨_, rfl, okD_mono (okD_cell c), rfl⟩) ?_
    refine b_if (b := false) (t_to (t_not (t_B (e_call (ds := [secD S, cellD c]) (a_cons (e_var rfl) (a_cons (e_var rfl) a_nil)) ⟨S, c, rfl, wf, hc, rfl⟩))) rfl) (fun z => nomatch z) fun _ => ?_
    exact b_ret (e_var rfl)
/-! ### near_cells, beside -/
abbrev spNear : Sp := spE (rD 2 fun ds d => ∃ S c, ds = [secD S, cellD c] ∧ Wf S ∧ d = .list ((nbs S c).map cellD))
abbrev NNnear_cells : List Str := ["heap", "cell", "column", "height", "around", "own"]
theorem scnear_cells : FnScope NNnear_cells ["heap", "cell"] (defScope (KH.top 12)) := ⟨rfl, rfl, rfl, by decide +kernel, rfl, by decide +kernel, by decide +kernel⟩
theorem cal_near_cells (B : Blt mg) (D : Df K mg "near_cells" 12) : Cal P w K mg base "near_cells" ["heap", "cell"] 1 spNear :=
  cal_pure D scnear_cells (fun _ _ _ _ _ _ us hl => match us, hl with | [_, _], _ => rfl) (rD_len) fun f cdv A outer s H es Φ hr h => by
    obtain ⟨ds, d, hn, rfl, ⟨S, c, rfl, wf, rfl⟩, rfl⟩ := h
    refine ⟨_, (pss_cons (ps_asg (pv 1) (pg_tupK (K := K) rfl (n := 2) rfl (pgs_cons (pg_name (i := 2) scnear_cells.nd rfl (Or.inl rfl)) (pgs_cons (pg_name (i := 3) scnear_cells.nd rfl (Or.inl rfl)) pgs_nil))))
      (pss_cons (ps_set (i := 4) scnear_cells.nd rfl (Or.inl rfl) (pe_lst (pa_cons (pe_tup (pa_cons (pe_op op_sub (pv 2) pe_int) (pa_cons (pv 3) pa_nil))) (pa_cons (pe_tup (pa_cons (pv 2) (pa_cons (pe_op op_sub (pv 3) pe_int) pa_nil))) (pa_cons (pe_tup (pa_cons (pv 2) (pa_cons (pe_op op_add (pv 3) pe_int) pa_nil))) (pa_cons (pe_tup (pa_cons (pe_op op_add (pv 2) pe_int) (pa_cons (pv 3) pa_nil))) pa_nil))))))
      (pss_one (ps_ret (pe_lc (own := [("own", 5)]) rfl scnear_cells.nd (pi_listK (K := K) rfl (pv 4)) (blkOk_by (sc := defScope (KH.top 12)) (own := [("own", 5)]) (N := NNnear_cells) (by decide +kernel)) (fun _ _ _ _ _ => (pg_name (i := 5) scnear_cells.nd rfl (Or.inl rfl))) (fun _ _ _ _ _ => (pts_one (PW.pt (pw_and (pt_chain op_le op_lt pe_int (pe_ix (ix_seqK (K := K) rfl) (pv 5) pe_int (fun _ _ => rfl)) (pe_callB (call_len_seqK (K := K) rfl) (by rfl) B.len bt_len (pa_cons (pv 0) pa_nil))) (pw_and1 (pt_chain op_le op_lt pe_int (pe_ix (ix_seqK (K := K) rfl) (pv 5) pe_int (fun _ _ => rfl)) (pe_callB (call_len_seqK (K := K) rfl) (by rfl) B.len bt_len (pa_cons (pe_ix (ix_seqK (K := K) rfl) (pv 0) pe_int (fun _ _ => rfl)) pa_nil)))))))) (fun _ _ _ _ _ => (pv 5))))))), ?_⟩
    obtain ⟨col, s0, sl⟩ := sec_0 wf
    refine b_pair (d1 := .int c.1) (d2 := .int c.2) (e_var rfl) ?_
    refine b_asg (e := .dat (.list (([(c.1 - 1, c.2), (c.1, c.2 - 1), (c.1, c.2 + 1), (c.1 + 1, c.2)] : List KV.Cell).map cellD))) (n_lst (a_cons (e_tup (a_cons (e_I0 (e_var rfl) e_int) (a_cons (e_var rfl) a_nil))) (a_cons (e_tup (a_cons (e_var rfl) (a_cons (e_I0 (e_var rfl) e_int) a_nil))) (a_cons (e_tup (a_cons (e_var rfl) (a_cons (e_I0 (e_var rfl) e_int) a_nil))) (a_cons (e_tup (a_cons (e_I0 (e_var rfl) e_int) (a_cons (e_var rfl) a_nil))) a_nil))))).e ?_
    refine b_ret (NL.e (nl_to (n_lcA (emb := cellD) (Γ := _) (fun q => (wipeG _ [5]).set 5 (.dat (cellD q))) (inB S) cellD (src_list (e_var rfl)) (Nat.le_of_ble_eq_true rfl) (fun q _ => tg_name 5) (by simp) (fun q _ => ?_) (fun q _ _ => e_var rfl)) rfl))
    have i0 : ∀ Γ : List En, Γ[5]? = some (.dat (cellD q)) → Ed (tOp (rIx K) (tVar 5) (tC (.int 0))) Γ (.int q.1) := fun Γ h => e_ix (e_var h) e_int rfl (atI_nat (j := 0) rfl)
    have i1 : ∀ Γ : List En, Γ[5]? = some (.dat (cellD q)) → Ed (tOp (rIx K) (tVar 5) (tC (.int 1))) Γ (.int q.2) := fun Γ h => e_ix (e_var h) e_int rfl (atI_nat (j := 1) rfl)
    refine t_to (t_and (t_tst (e_chain e_int (i0 _ rfl) fun _ => e_len (e_var rfl) rfl)) fun _ => t_tst (e_chain e_int (i1 _ rfl) fun _ => e_len (e_ix (e_var rfl) e_int rfl s0) rfl)) ?_
    unfold inB
    simp only [List.length_map, sl]
abbrev spBeside : Sp := spE (rD 2 fun ds d => ∃ S c, ds = [secD S, cellD c] ∧ Wf S ∧ InG S c ∧ d = .tuple ((nbs S c).map cellD))
abbrev NNbeside : List Str := ["heap", "cell"]
theorem scbeside : FnScope NNbeside ["heap", "cell"] (defScope (KH.top 13)) := ⟨rfl, rfl, rfl, by decide +kernel, rfl, by decide +kernel, by decide +kernel⟩
theorem cal_beside (B : Blt mg) (D : Df K mg "beside" 13) (Csome_cell : Cal P w K mg base "some_cell" ["heap", "cell"] 4 spSomeCell) (Cnear_cells : Cal P w K mg base "near_cells" ["heap", "cell"] 1 spNear) : Cal P w K mg base "beside" ["heap", "cell"] 5 spBeside :=
  cal_pure D scbeside (fun _ _ _ _ _ _ us hl => match us, hl with | [_, _], _ => rfl) (rD_len) fun f cdv A outer s H es Φ hr h => by
    obtain ⟨ds, d, hn, rfl, ⟨S, c, rfl, wf, hc, rfl⟩, rfl⟩ := h
    refine ⟨_, (pss_one (ps_ret (pe_callTy (call_tuple_ofK (K := K) rfl) (by rfl) B.tuple bt_tuple (pa_cons (pe_cal Cnear_cells hr (by rfl) (pa_cons (pv 0) (pa_cons (pe_cal Csome_cell hr (by rfl) (pa_cons (pv 0) (pa_cons (pv 1) pa_nil))) pa_nil))) pa_nil)))), ?_⟩
    exact b_ret (e_tuple (e_call (ds := [secD S, cellD c]) (a_cons (e_var rfl) (a_cons (e_call (ds := [secD S, cellD c]) (d := cellD c) (a_cons (e_var rfl) (a_cons (e_var rfl) a_nil)) ⟨S, c, rfl, wf, hc, rfl⟩) a_nil)) ⟨S, c, rfl, wf, rfl⟩) rfl)
abbrev spHeights : Sp := spE (rD 1 fun ds d => ∃ S, ds = [secD S] ∧ Wf S ∧ d = .int (ht S))
abbrev NNheights_of : List Str := ["section"]
theorem scheights_of : FnScope NNheights_of ["section"] (defScope (KH.top 16)) := ⟨rfl, rfl, rfl, by decide +kernel, rfl, by decide +kernel, by decide +kernel⟩
theorem cal_heights_of (B : Blt mg) (D : Df K mg "heights_of" 16) : Cal P w K mg base "heights_of" ["section"] 1 spHeights :=
  cal_pure D scheights_of (fun _ _ _ _ _ _ us hl => match us, hl with | [_], _ => rfl) (rD_len) fun f cdv A outer s H es Φ hr h => by
    obtain ⟨ds, d, hn, rfl, ⟨S, rfl, wf, rfl⟩, rfl⟩ := h
    refine ⟨_, (pss_one (ps_ret (pe_callB (call_len_seqK (K := K) rfl) (by rfl) B.len bt_len (pa_cons (pe_ix (ix_seqK (K := K) rfl) (pv 0) pe_int (fun _ _ => rfl)) pa_nil)))), ?_⟩
    obtain ⟨col, s0, sl⟩ := sec_0 wf
    refine b_ret (e_to (e_len (e_ix (e_var rfl) e_int rfl s0) rfl) ?_)
    rw [List.length_map, sl]
end KP
/-! P3 -/
set_option Elab.async false
set_option linter.all false
set_option maxRecDepth 100000
set_option maxHeartbeats 4000000
namespace KP
open PySem L2 KV KR KS KC KD KX
variable {P : Program} {w : World} {K : PySem.W.Frag} {mg : Str → Option Value} {base : Heap}
/-! ### air_cells -/
abbrev spAir : Sp := spE (rD 1 fun ds d => ∃ S, ds = [secD S] ∧ Wf S ∧ d = .list ((sel S (gd S).air).map cellD))
abbrev NNair_cells : List Str := ["section", "place", "column", "height", "own"]
theorem scair_cells : FnScope NNair_cells ["section"] (defScope (KH.top 17)) := ⟨rfl, rfl, rfl, by decide +kernel, rfl, by decide +kernel, by decide +kernel⟩
theorem cal_air_cells (B : Blt mg) (D : Df K mg "air_cells" 17) : Cal P w K mg base "air_cells" ["section"] 1 spAir :=
  cal_pure D scair_cells (fun _ _ _ _ _ _ us hl => match us, hl with | [_], _ => rfl) (rD_len) fun f cdv A outer s H es Φ hr h => by
    obtain ⟨ds, d, hn, rfl, ⟨S, rfl, wf, rfl⟩, rfl⟩ := h
    obtain ⟨ta, hAIR⟩ := B.AIR
    refine ⟨_, (pss_one (ps_ret (pe_lc2 (own := [("place", 1), ("column", 2), ("height", 3), ("own", 4)]) (vs1 := [3, 4]) rfl scair_cells.nd (pi_enTK (K := K) rfl (by rfl) B.enumerate (pa_cons (pv 0) pa_nil)) (blkOk_by (sc := defScope (KH.top 17)) (own := [("place", 1), ("column", 2), ("height", 3), ("own", 4)]) (N := NNair_cells) (by decide +kernel)) (by decide) (fun _ _ _ _ _ => (pg_tupK (K := K) rfl (n := 2) rfl (pgs_cons (pg_name (i := 1) scair_cells.nd rfl (Or.inl rfl)) (pgs_cons (pg_name (i := 2) scair_cells.nd rfl (Or.inl rfl)) pgs_nil)))) (fun _ _ _ _ _ => pts_nil) (fun _ _ _ _ _ => (pi_enTK (K := K) rfl (by rfl) B.enumerate (pa_cons (pv 2) pa_nil))) (fun _ _ _ _ _ => (pg_tupK (K := K) rfl (n := 2) rfl (pgs_cons (pg_name (i := 3) scair_cells.nd rfl (Or.inl rfl)) (pgs_cons (pg_name (i := 4) scair_cells.nd rfl (Or.inl rfl)) pgs_nil)))) (fun _ _ _ _ _ => (pts_one (pt_cmpR op_eq (pv 4) (pe_glob (v := .int 0) (by rfl) hAIR ⟨_, rfl⟩) (nomark _)))) (fun _ _ _ _ _ => (pe_tup (pa_cons (pv 1) (pa_cons (pv 3) pa_nil))))))), ?_⟩
    refine b_ret (NL.e (nl_to (n_lc2 (emb := numD colD) (emb1 := numD .int) (qs := enumL [] S) (fun q => enumL 0 q.2) (fun q => ((wipeG (ent0 NNair_cells [.dat (secD S)]) [1, 2, 3, 4]).set 1 (.dat (.int (q.1 : Int)))).set 2 (.dat (colD q.2)))
      (fun q r => ((wipeG (((wipeG (ent0 NNair_cells [.dat (secD S)]) [1, 2, 3, 4]).set 1 (.dat (.int (q.1 : Int)))).set 2 (.dat (colD q.2))) [3, 4]).set 3 (.dat (.int (r.1 : Int)))).set 4 (.dat (.int r.2)))
      (fun _ r => decide (r.2 = 0)) (fun q r => cellD ((q.1 : Int), (r.1 : Int))) (src_to (src_enT (a_cons (e_var rfl) a_nil)) (enD_enumL [] colD S)) (fun q _ => tg_pair 1 2) (by simp) (fun q _ => src_to (src_enT (a_cons (e_var rfl) a_nil)) (enD_enumL 0 .int q.2)) (fun q _ r _ => tg_pair 3 4) (by simp)
      (rows_short wf) (fun q _ r _ => t_tst (e_eqI (e_var rfl) e_int)) (fun q _ r _ _ => e_tup (a_cons (e_var rfl) (a_cons (e_var rfl) a_nil)))) ?_))
    refine cells_by wf (fun v => decide (v = 0)) (gd S).air fun c v h => ?_
    rw [air_iff, h, decide_eq_true_eq, Option.some.injEq]
/-! ### near_stuff -/
abbrev spNearStuff : Sp := spE (rD 2 fun ds d => ∃ S c b, ds = [secD S, cellD c] ∧ Wf S ∧ InG S c ∧ (b = true ↔ (gd S).sb c) ∧ d = .bool b)
abbrev NNnear_stuff : List Str := ["section", "cell", "place", "height"]
theorem scnear_stuff : FnScope NNnear_stuff ["section", "cell"] (defScope (KH.top 18)) := ⟨rfl, rfl, rfl, by decide +kernel, rfl, by decide +kernel, by decide +kernel⟩
theorem cal_near_stuff (B : Blt mg) (D : Df K mg "near_stuff" 18) (Cbeside : Cal P w K mg base "beside" ["heap", "cell"] 5 spBeside) : Cal P w K mg base "near_stuff" ["section", "cell"] 6 spNearStuff :=
  cal_pure D scnear_stuff (fun _ _ _ _ _ _ us hl => match us, hl with | [_, _], _ => rfl) (rD_len) fun f cdv A outer s H es Φ hr h => by
    obtain ⟨ds, d, hn, rfl, ⟨S, c, b, rfl, wf, hc, hb, rfl⟩, rfl⟩ := h
    obtain ⟨ta, hAIR⟩ := B.AIR
    refine ⟨_, (pss_one (ps_ret (pe_or (pe_cmpR op_eq (pe_ix (ix_seqK (K := K) rfl) (pv 1) pe_int (fun _ _ => rfl)) pe_int (nomark _)) (pe_one (pe_callB (cr_anyK (K := K) rfl rfl) (by rfl) B.any bt_any (pa_cons (pe_lc (own := [("place", 2), ("height", 3)]) rfl scnear_stuff.nd (pi_tupK (K := K) rfl (pe_cal Cbeside hr (by rfl) (pa_cons (pv 0) (pa_cons (pv 1) pa_nil)))) (blkOk_by (sc := defScope (KH.top 18)) (own := [("place", 2), ("height", 3)]) (N := NNnear_stuff) (by decide +kernel)) (fun _ _ _ _ _ => (pg_tupK (K := K) rfl (n := 2) rfl (pgs_cons (pg_name (i := 2) scnear_stuff.nd rfl (Or.inl rfl)) (pgs_cons (pg_name (i := 3) scnear_stuff.nd rfl (Or.inl rfl)) pgs_nil)))) (fun _ _ _ _ _ => pts_nil) (fun _ _ _ _ _ => (pe_cmpR op_ne (pe_ix (ix_seqK (K := K) rfl) (pe_ix (ix_seqK (K := K) rfl) (pv 0) (pv 2) (fun _ _ => rfl)) (pv 3) (fun _ _ => rfl)) (pe_glob (v := .int 0) (by rfl) hAIR ⟨_, rfl⟩) (nomark _)))) pa_nil)))))), ?_⟩
    let vv : KV.Cell → Int := fun q => (valAt S q).getD 0
    have hv : ∀ q ∈ nbs S c, valAt S q = some (vv q) := fun q hq => by
      obtain ⟨v, e, _⟩ := valAt_in wf (mem_nbs.mp hq).2
      show _ = some ((valAt S q).getD 0)
      rw [e]; rfl
    refine b_ret (e_orV (a := decide (c.2 = 0)) (e_eqI (e_c1' (e_var rfl)) e_int) (fun z => ?_) (fun z => ?_))
    · refine e_to (e_any (bs := (nbs S c).map fun q => !decide (vv q = 0)) (NL.e (nl_to (n_lcB (emb := cellD) (qs := nbs S c) (fun q => ((wipeG (ent0 NNnear_stuff [.dat (secD S), .dat (cellD c)]) [2, 3]).set 2 (.dat (.int q.1))).set 3 (.dat (.int q.2))) (fun q => .bool (!decide (vv q = 0)))
        (src_tup (e_call (ds := [secD S, cellD c]) (a_cons (e_var rfl) (a_cons (e_var rfl) a_nil)) ⟨S, c, rfl, wf, hc, rfl⟩)) (Nat.le_trans (nbs_len S c) (by decide)) (fun q _ => tg_pair 2 3) (by simp) (fun q hq => e_neI (e_at (hv q hq) (e_var rfl) (e_var rfl) (e_var rfl)) e_int)) ?_))) ?_
      · rw [List.map_map]; rfl
      · congr 2
        rw [Bool.eq_iff_iff, hb, List.any_map, List.any_eq_true]
        have z := of_decide_eq_false z
        constructor
        · rintro ⟨q, hq, h⟩
          have h : (!decide (vv q = 0)) = true := h
          refine .inr ⟨q, (mem_nbs.mp hq).1, (mem_nbs.mp hq).2, (notair (hv q hq)).mpr ?_⟩
          simpa using h
        · rintro (h | ⟨q, ad, i, na⟩)
          · exact (z h).elim
          · have hq := mem_nbs.mpr ⟨ad, i⟩
            refine ⟨q, hq, ?_⟩
            have := (notair (hv q hq)).mp na
            show (!decide (vv q = 0)) = true
            simpa using this
    · congr 1
      rw [hb]
      exact .inl (of_decide_eq_true z)
end KP
/-! P4 -/
set_option Elab.async false
set_option linter.all false
set_option maxRecDepth 100000
set_option maxHeartbeats 4000000
namespace KP
open PySem L2 KV KR KS KC KD KX
variable {P : Program} {w : World} {K : PySem.W.Frag} {mg : Str → Option Value} {base : Heap}
/-! ### steps_of -/
abbrev rSteps : List En → (En → Prop) → Prop := fun es Φ => ∃ S, es = [.dat (secD S)] ∧ Wf S ∧ Φ = fun e => ∃ ks, e = .dic (kvI ks) ∧ StepsOk (gd S) ks
abbrev gSteps (S : Sec) (here : List KV.Cell) (F : Addr) (k : Nat) : List En := [.dat (secD S), .dat (.list (here.map cellD)), .ptr F, .dat (.int ((k : Int) + 1)), .unk, .unk, .unk]
abbrev gSteps2 (S : Sec) (here : List KV.Cell) (F A : Addr) (k : Nat) (e : En) : List En := [.dat (secD S), .dat (.list (here.map cellD)), .ptr F, .dat (.int ((k : Int) + 1 + 1)), .ptr A, e, .unk]
abbrev NNsteps_of : List Str := ["section", "here", "found", "many", "ahead", "cell", "other"]
theorem scsteps_of : FnScope NNsteps_of ["section"] (defScope (KH.top 19)) := ⟨rfl, rfl, rfl, by decide +kernel, rfl, by decide +kernel, by decide +kernel⟩
theorem cal_steps_of (B : Blt mg) (D : Df K mg "steps_of" 19) (Cair_cells : Cal P w K mg base "air_cells" ["section"] 1 spAir) (Cnear_stuff : Cal P w K mg base "near_stuff" ["section", "cell"] 6 spNearStuff) (Cbeside : Cal P w K mg base "beside" ["heap", "cell"] 5 spBeside) :
    Cal P w K mg base "steps_of" ["section"] 7 (spE rSteps) :=
  cal_pure D scsteps_of (fun _ _ _ _ _ _ us hl => match us, hl with | [_], _ => rfl) (fun es Φ h => by obtain ⟨S, rfl, _⟩ := h; rfl) fun f cdv A outer s H es Φ hr h => by
    obtain ⟨S, rfl, wf, rfl⟩ := h
    obtain ⟨ta, hAIR⟩ := B.AIR
    have hu := hu_of hr
    refine ⟨_, (pss_cons (ps_setLc (i := 1) (own := [("cell", 5)]) rfl scsteps_of.nd rfl rfl (sw_true rfl rfl rfl (by decide +kernel)) (pi_listK (K := K) rfl (pe_cal Cair_cells hr (by rfl) (pa_cons (pv 0) pa_nil))) (blkOk_by (sc := defScope (KH.top 19)) (own := [("cell", 5)]) (N := NNsteps_of) (by decide +kernel)) (fun _ _ _ _ _ => (pg_name (i := 5) scsteps_of.nd rfl (Or.inl rfl))) (fun _ _ _ _ _ => (pts_one (pt_val (pe_cal Cnear_stuff hr (by rfl) (pa_cons (pv 0) (pa_cons (pv 5) pa_nil)))))) (fun _ _ _ _ _ => (pv 5)))
      (pss_cons (ps_par (i := 2) (j := 3) rfl scsteps_of.nd rfl rfl (by decide) rfl rfl (pa_cons (pe_callTy (call_dictTK (K := K) rfl rfl hr.units) (by rfl) B.dict bt_dict (pa_cons (pe_lc (own := [("cell", 5)]) rfl scsteps_of.nd (pi_listK (K := K) rfl (pv 1)) (blkOk_by (sc := defScope (KH.top 19)) (own := [("cell", 5)]) (N := NNsteps_of) (by decide +kernel)) (fun _ _ _ _ _ => (pg_name (i := 5) scsteps_of.nd rfl (Or.inl rfl))) (fun _ _ _ _ _ => pts_nil) (fun _ _ _ _ _ => (pe_tup (pa_cons (pv 5) (pa_cons pe_int pa_nil))))) pa_nil)) (pa_cons pe_int pa_nil)) (by rfl))
      (pss_cons (ps_while PassesOwn.never (pt_cmpR (op_neDK (K := K) rfl hr.units) (pv 1) (pe_lst pa_nil) (nomark _))
      (pss_cons (ps_par (i := 3) (j := 4) rfl scsteps_of.nd rfl rfl (by decide) rfl rfl (pa_cons (pe_op op_add (pv 3) pe_int) (pa_cons (pe_lst pa_nil) pa_nil)) (by rfl))
      (pss_cons (ps_for PassesOwn.never rfl (pi_listK (K := K) rfl (pv 1)) (pg_name (i := 5) scsteps_of.nd rfl (Or.inl rfl))
      (pss_one (ps_for PassesOwn.never rfl (pi_tupK (K := K) rfl (pe_cal Cbeside hr (by rfl) (pa_cons (pv 0) (pa_cons (pv 5) pa_nil)))) (pg_name (i := 6) scsteps_of.nd rfl (Or.inl rfl))
      (pss_one (ps_if (PW.pt (pw_and (pt_cmpR op_eq (pe_ix (ix_seqK (K := K) rfl) (pe_ix (ix_seqK (K := K) rfl) (pv 0) (pe_ix (ix_seqK (K := K) rfl) (pv 6) pe_int (fun _ _ => rfl)) (fun _ _ => rfl)) (pe_ix (ix_seqK (K := K) rfl) (pv 6) pe_int (fun _ _ => rfl)) (fun _ _ => rfl)) (pe_glob (v := .int 0) (by rfl) hAIR ⟨_, rfl⟩) (nomark _)) (pw_and1 (pt_cmp (pc_dnotin hu (pv 6) (pv 2)))))) (pss_cons (ps_dput hu (pv 2) (pv 6) (pv 3) rfl)
      (pss_one (ps_expr (pe_bmK (K := K) rfl PySem.F.plainAttrs_list PySem.F.slot_list_append PySem.F.type_list_append mt_append (pv 4) (pa_cons (pv 6) pa_nil))))) pss_nil)))))
      (pss_one (ps_set (i := 1) scsteps_of.nd rfl (Or.inl rfl) (pv 4))))))
      (pss_one (ps_ret (pv 2)))))), ?_⟩
    clear hr hu
    have ok := gd_ok wf
    let p : KV.Cell → Bool := fun c => @decide ((gd S).sb c) (Classical.propDecidable _)
    have hp : ∀ c, p c = true ↔ (gd S).sb c := fun c => by simp [p]
    obtain ⟨here0, h0e⟩ : ∃ l, l = (sel S (gd S).air).filter p := ⟨_, rfl⟩
    have h0m : ∀ c, c ∈ here0 ↔ (gd S).air c ∧ (gd S).sb c := fun c => by
      rw [h0e, List.mem_filter, mem_sel, hp]
      exact ⟨fun h => ⟨h.1.2, h.2⟩, fun h => ⟨⟨ok.ain c h.1, h.1⟩, h.2⟩⟩
    have h0n : here0.Nodup := by rw [h0e]; exact (sel_nodup S _).filter _
    have h0l : here0.length ≤ 54 := by rw [h0e]; exact Nat.le_trans (List.length_filter_le _ _) (sel_length wf _)
    intro σ H O D l g q
    refine s_let (e := .dat (.list (here0.map cellD))) l g (NL.e (nl_to (n_lcA (emb := cellD) (qs := sel S (gd S).air) (fun c => (wipeG (ent0 NNsteps_of [.dat (secD S)]) [5]).set 5 (.dat (cellD c))) p cellD (src_list (e_call (ds := [secD S]) (a_cons (e_var rfl) a_nil) ⟨S, rfl, wf, rfl⟩))
      (Nat.le_trans (sel_length wf _) (by decide)) (fun c _ => tg_name 5) (by simp) (fun c hc => t_B (e_call (ds := [secD S, cellD c]) (a_cons (e_var rfl) (a_cons (e_var rfl) a_nil)) ⟨S, c, p c, rfl, wf, (mem_sel.mp hc).1, hp c, rfl⟩)) (fun c _ _ => e_var rfl)) (by rw [h0e]))) fun v1 H1 s1 l1 g1 => ?_
    refine s_parD l1 g1 (nd_dictI (ks := here0.map fun c => (c, 1)) (NL.e (nl_to (n_lcB (emb := cellD) (qs := here0) (fun c => (wipeG _ [5]).set 5 (.dat (cellD c))) (fun c => .tuple [cellD c, .int 1]) (src_list (e_var rfl)) (by omega) (fun c _ => tg_name 5) (by simp) (fun c _ => e_tup (a_cons (e_var rfl) (a_cons e_int a_nil)))) (by rw [List.map_map]; rfl)))
      (Fr.first (g := gd S) (p := fun c => (gd S).air c ∧ (gd S).sb c) (fun _ => Iff.rfl) h0n h0m).nd) e_int fun F v2 H2 nF s2 eF l2 g2 => ?_
    have wstart : ∃ (here : List KV.Cell) (k : Nat) (ks : List (KV.Cell × Int)), 100 + k = 100 ∧ Fr (gd S) k ks here ∧ Bu [F] H1 H2 ∧ H2 F = some (.dT ((kvI ks).map ent)) ∧ Live (F :: O) H2 ∧ EnvOk (cut (F :: O) H2) _ (gSteps S here F k) :=
      ⟨here0, 0, _, rfl, Fr.first (g := gd S) (p := fun c => (gd S).air c ∧ (gd S).sb c) (fun _ => Iff.rfl) h0n h0m, Bu.of s2, eF, l2, g2⟩
    refine ⟨fun m σ' H' => ∃ (here : List KV.Cell) (k : Nat) (ks : List (KV.Cell × Int)), m + k = 100 ∧ Fr (gd S) k ks here ∧ Bu [F] H1 H' ∧ H' F = some (.dT ((kvI ks).map ent)) ∧ Live (F :: O) H' ∧ EnvOk (cut (F :: O) H') σ' (gSteps S here F k), ⟨100, wstart⟩, ?_⟩
    have nFO := l1.no nF
    clear wstart g2 g1 g l1 l2 eF
    intro m σ' H' ⟨here, k, ks, em, fr, bu, eF, l', g'⟩
    refine t_tst (e_neNil (e_var rfl) (shaped_cells here)) σ' H' (F :: O) l' g' _ fun H3 s3 => ?_
    have l3 := l'.mono s3
    have g3 := g'.mono (cut_mono s3)
    have eF3 := s3 _ _ eF
    have bu3 := bu.same s3
    by_cases hne : here = []
    · subst hne
      rw [if_neg (by simp)]
      refine s_retD g3 rfl ?_
      exact q _ H3 _ ⟨ks, rfl, fr.done⟩ (s1.trans (bu3.drop nF).nil) (.dic (cut_get eF3 nFO))
    · rw [if_pos (by cases here with | nil => exact absurd rfl hne | cons => rfl)]
      have hk := fr.low ok hne
      have hT : (gd S).T = (ht S : Int) := rfl
      have := wf.tall
      refine ⟨_, fun σ' H' n => n, ?_⟩
      refine s_parL (e := .dat (.int ((k : Int) + 1 + 1))) (ds := []) l3 g3 (e_I0 (e_var rfl) e_int) (n_lst a_nil) fun A v4 H4 xs nA s4 eA rA l4 g4 => ?_
      have eF4 := s4 _ _ eF3
      have bu4 := bu3.same s4
      have nFA : F ≠ A := ne_of_none eF3 nA
      have hkk : keysI ks = keysI (more ks [] ((k : Int) + 1 + 1)) := by rw [keys_more, List.append_nil]
      refine for_src (src_list (e_var rfl)) l4 g4 fun H5 s5 => ⟨fun i σ' H' => ∃ (ah : List KV.Cell) (ys : List V), Bu [A, F] H5 H' ∧ Gr (gd S) ks here ah ∧ (∀ d ∈ here.take i, ∀ r ∈ nbs S d, (gd S).air r → r ∈ keysI ks ∨ r ∈ ah) ∧
        H' F = some (.dT ((kvI (more ks ah ((k : Int) + 1 + 1))).map ent)) ∧ H' A = some (.lst ys) ∧ RpAll (cut (A :: F :: O) H') ys (ah.map cellD) ∧ Live (A :: F :: O) H' ∧ EnvOk (cut (A :: F :: O) H') σ' (gSteps2 S here F A k .unk), ?_, ?_, ?_, ?_⟩
      · refine ⟨[], xs, Bu.refl _ _, Gr.nil, fun d hd => by simp at hd, ?_, s5 _ _ eA, RpAll.mono (cut_mono s5) _ _ rA, l4.mono s5, g4.mono (cut_mono s5)⟩
        rw [s5 _ _ eF4]
        congr 3
        unfold more
        simp
      · rintro i σ' H' _ ⟨ah, ys, b5, _⟩
        exact b5.cut (by simp)
      · intro i d x σ' H' H6 ed ⟨ah, ys, b5, gr, cov, e5F, e5A, r5, l5, g5⟩ s6 hx
        rw [List.getElem?_map] at ed
        obtain ⟨h, eh, rfl⟩ := Option.map_eq_some_iff.mp ed
        have hh : h ∈ here := List.mem_of_getElem? eh
        have ih : InG S h := ok.ain h (KM.near_air ((fr.fr h).mp hh).1)
        have l6 := l5.mono s6
        have g6 := (g5.mono (cut_mono s6)).set (.dat (hx (A :: F :: O) l5 (b5.cut (by simp)))) 5
        refine for_src (src_tup (e_call (ds := [secD S, cellD h]) (a_cons (e_var rfl) (a_cons (e_var rfl) a_nil)) ⟨S, h, rfl, wf, ih, rfl⟩)) l6 g6 fun H7 s7 => ⟨fun j σ' H' => ∃ (ah : List KV.Cell) (ys : List V), Bu [A, F] H7 H' ∧ Gr (gd S) ks here ah ∧ (∀ d ∈ here.take i, ∀ r ∈ nbs S d, (gd S).air r → r ∈ keysI ks ∨ r ∈ ah) ∧ (∀ r ∈ (nbs S h).take j, (gd S).air r → r ∈ keysI ks ∨ r ∈ ah) ∧
          H' F = some (.dT ((kvI (more ks ah ((k : Int) + 1 + 1))).map ent)) ∧ H' A = some (.lst ys) ∧ RpAll (cut (A :: F :: O) H') ys (ah.map cellD) ∧ Live (A :: F :: O) H' ∧ EnvOk (cut (A :: F :: O) H') σ' (gSteps2 S here F A k (.dat (cellD h))), ?_, ?_, ?_, ?_⟩
        · have s67 := s6.trans s7
          exact ⟨ah, ys, Bu.refl _ _, gr, cov, fun r hr => by simp at hr, s67 _ _ e5F, s67 _ _ e5A, RpAll.mono (cut_mono s67) _ _ r5, l6.mono s7, g6.mono (cut_mono s7)⟩
        · rintro j σ' H' _ ⟨ah, ys, b7, _⟩
          exact b7.cut (by simp)
        · intro j d x σ' H' H8 ed ⟨ah, ys, b7, gr, cov, cov2, e7F, e7A, r7, l7, g7⟩ s8 hx
          rw [List.getElem?_map] at ed
          obtain ⟨r, er, rfl⟩ := Option.map_eq_some_iff.mp ed
          have hrn : r ∈ nbs S h := List.mem_of_getElem? er
          obtain ⟨ad, ir⟩ := mem_nbs.mp hrn
          obtain ⟨vr, evr, _⟩ := valAt_in wf ir
          have l8 := l7.mono s8
          have g8 := (g7.mono (cut_mono s8)).set (.dat (hx (A :: F :: O) l7 (b7.cut (by simp)))) 6
          have e8F := s8 _ _ e7F
          have e8A := s8 _ _ e7A
          have r8 := RpAll.mono (cut_mono s8) _ _ r7
          have b8 := b7.same s8
          have nd := gr.keys_nd fr.nd ((k : Int) + 1 + 1)
          have tk : ∀ z, z ∈ (nbs S h).take (j + 1) → z ∈ (nbs S h).take j ∨ z = r := fun z hz => by
            rw [List.take_add_one, er] at hz
            rcases List.mem_append.mp hz with y | y
            · exact .inl y
            · exact .inr (by simpa using y)
          have hlen : ah.length ≤ 54 := by
            have : (sel S fun c => c ∈ ah).length = ah.length := (sel_perm (π := fun c => c ∈ ah) gr.nd fun c => ⟨fun h => ⟨ok.ain c (gr.ok c h).1, h⟩, fun h => h.2⟩).length_eq.symm
            rw [← this]
            exact sel_length wf _
          have klen : (keysI ks).length ≤ 54 := by
            have : (sel S fun c => c ∈ keysI ks).length = (keysI ks).length := (sel_perm (π := fun c => c ∈ keysI ks) fr.nd fun c => ⟨fun h => ⟨ok.ain c (KM.near_air (fr.keys.mp h)), h⟩, fun h => h.2⟩).length_eq.symm
            rw [← this]
            exact sel_length wf _
          have hs : ∀ a ∈ A :: O, a ∈ A :: F :: O := fun a ha => by
            rcases List.mem_cons.mp ha with y | y
            · rw [y]; simp
            · exact List.mem_cons_of_mem _ (List.mem_cons_of_mem _ y)
          have hF' : F ∉ A :: O := by
            simp only [List.mem_cons, not_or]
            exact ⟨nFA, nFO⟩
          refine (t_and (t_tst (e_eqI (e_at evr (e_var rfl) (e_c0 (e_var rfl)) (e_c1' (e_var rfl))) e_int)) (fun _ => t_tst (e_dnotin (e_var rfl) (e_var rfl) .c))) _ H8 (A :: O) (l8.sub hs) (g8.openD (i := 2) rfl hs hF' e8F) _ fun H9 s9 => ?_
          have l9 := l8.mono s9
          have g9 := g8.mono (cut_mono s9)
          have e9F := s9 _ _ e8F
          have e9A := s9 _ _ e8A
          have r9 := RpAll.mono (cut_mono s9) _ _ r8
          have b9 := b8.same s9
          rw [valV_isSome nd]
          by_cases hb : vr = 0 ∧ r ∉ keysI (more ks ah ((k : Int) + 1 + 1))
          · obtain ⟨hv0, hnk⟩ := hb
            rw [if_pos (by rw [decide_eq_true hv0, decide_eq_false hnk]; rfl)]
            have hnk2 := hnk
            rw [keys_more, List.mem_append, not_or] at hnk2
            have ar : (gd S).air r := by rw [air_iff, evr, hv0]
            refine s_dput (v := .int ((k : Int) + 1 + 1)) l9 g9 e9F (e_var rfl) (e_var rfl) (e_var rfl) rfl ?_ fun H10 b10 e10F => ?_
            · rw [show (kvI (more ks ah ((k : Int) + 1 + 1))).length = (keysI (more ks ah ((k : Int) + 1 + 1))).length by unfold kvI keysI; simp]
              rw [keys_more, List.length_append]
              omega
            rw [putK_new hnk, more_add] at e10F
            have c10 := b10.cut (O := A :: F :: O) (by simp)
            have l10 : Live (A :: F :: O) H10 := l9.but b10 ⟨_, e10F, fun _ z => nomatch z⟩
            have e10A := b10 A _ (fun z => nFA z.symm) e9A
            refine s_app l10 (g9.mono c10) (by simp) e10A (RpAll.mono c10 _ _ r9) (e_var rfl) (e_var (e := .dat (cellD r)) rfl) (by rw [List.length_map]; omega) fun H11 v11 b11 e11A r11 => ?_
            have c11 := b11.cut (O := A :: F :: O) (by simp)
            refine ⟨ah ++ [r], ys ++ [v11], (b9.but b10 (by simp)).but b11 (by simp), gr.add hh ad ar hnk2.1 hnk2.2, fun d hd z hz a => (cov d hd z hz a).imp id fun y => List.mem_append.mpr (.inl y), fun z hz a => ?_, b11 F _ nFA e10F, e11A, by rw [List.map_append]; exact r11, l10.but b11 ⟨_, e11A, fun _ z => nomatch z⟩, ((g9.mono c10).mono c11).blur 6⟩
            rcases tk z hz with y | y
            · exact (cov2 z y a).imp id fun y => List.mem_append.mpr (.inl y)
            · rw [y]; exact .inr (List.mem_append.mpr (.inr (by simp)))
          · rw [if_neg (by
              intro z
              rw [Bool.and_eq_true, decide_eq_true_eq, Bool.not_eq_true', decide_eq_false_iff_not] at z
              exact hb z)]
            refine ⟨ah, ys, b9, gr, cov, fun z hz a => ?_, e9F, e9A, r9, l9, g9.blur 6⟩
            rcases tk z hz with y | y
            · exact cov2 z y a
            · rw [y] at a ⊢
              have hv0 : vr = 0 := by rw [air_iff, evr] at a; exact Option.some.inj a
              have := Classical.byContradiction fun n => hb ⟨hv0, n⟩
              rw [keys_more] at this
              exact List.mem_append.mp this
        · rintro σ' H' ⟨ah, ys, b7, gr, cov, cov2, e7F, e7A, r7, l7, g7⟩
          refine ⟨ah, ys, ((b5.same (s6.trans s7)).trans b7), gr, fun d hd r hr a => ?_, e7F, e7A, r7, l7, (g7.blur 5).blur 6⟩
          rw [List.take_add_one, eh] at hd
          rcases List.mem_append.mp hd with y | y
          · exact cov d y r hr a
          · have : d = h := by simpa using y
            subst this
            rw [List.length_map, List.take_length] at cov2
            exact cov2 r hr a
      · rintro σ' H' ⟨ah, ys, b5, gr, cov, e5F, e5A, r5, l5, g5⟩
        rw [List.length_map, List.take_length] at cov
        have hs : ∀ a ∈ F :: O, a ∈ A :: F :: O := fun a ha => List.mem_cons_of_mem _ ha
        have hA' : A ∉ F :: O := by
          simp only [List.mem_cons, not_or]
          exact ⟨fun z => nFA z.symm, (l3.sub fun a ha => List.mem_cons_of_mem _ ha).no nA⟩
        have g5' := g5.openL (i := 4) rfl hs hA' e5A r5
        refine s_let1 (te := tVar 4) (i := 1) (e := .dat (.list (ah.map cellD))) (l5.sub hs) g5' (e_var rfl) fun v6 H6 s6 l6 g6 => ?_
        have b46 : Bu [A, F] H3 H6 := ((Bu.of (s4.trans s5)).trans b5).same s6
        refine ⟨m - 1, by omega, ah, k + 1, more ks ah ((k : Int) + 1 + 1), by omega, gr.fin fr ok fun h hh r ad ir a => cov h hh r (mem_nbs.mpr ⟨ad, ir⟩) a, ?_, s6 _ _ e5F, l6, ?_⟩
        · exact bu3.new nA b46
        · exact g6.blur 4
end KP
/-! P5 -/
set_option Elab.async false
set_option linter.all false
set_option maxRecDepth 100000
set_option maxHeartbeats 4000000
namespace KP
open PySem L2 KV KR KS KC KD KX
variable {P : Program} {w : World} {K : PySem.W.Frag} {mg : Str → Option Value} {base : Heap}
/-! ### necks_of -/
abbrev rNecks : List En → (En → Prop) → Prop := fun es Φ => ∃ S ks, es = [.dat (secD S), .dic (kvI ks)] ∧ Wf S ∧ StepsOk (gd S) ks ∧ Φ = fun e => ∃ f : KV.Cell → Nat, e = .dic (kvI (fsOf ks f)) ∧ ∀ c k, k + 1 ≤ f c ↔ (gd S).O k c
abbrev gNk (S : Sec) (e1 : En) (F L : Addr) (e5 e6 e7 e8 : En) : List En := [.dat (secD S), e1, .ptr F, .ptr L, .dat (.int ((ht S : Int) - 1)), e5, e6, e7, e8, .unk]
abbrev NNnecks_of : List Str := ["section", "steps", "found", "lots", "top", "cell", "many", "here", "other", "least"]
theorem scnecks_of : FnScope NNnecks_of ["section", "steps"] (defScope (KH.top 20)) := ⟨rfl, rfl, rfl, by decide +kernel, rfl, by decide +kernel, by decide +kernel⟩
theorem cal_necks_of (B : Blt mg) (D : Df K mg "necks_of" 20) (Cheights_of : Cal P w K mg base "heights_of" ["section"] 1 spHeights) (Cbeside : Cal P w K mg base "beside" ["heap", "cell"] 5 spBeside) :
    Cal P w K mg base "necks_of" ["section", "steps"] 6 (spE rNecks) :=
  cal_pure D scnecks_of (fun _ _ _ _ _ _ us hl => match us, hl with | [_, _], _ => rfl) (fun es Φ h => by obtain ⟨S, ks, rfl, _⟩ := h; rfl) fun f cdv A outer s H es Φ hr h => by
    obtain ⟨S, ks, rfl, wf, so, rfl⟩ := h
    have hu := hu_of hr
    refine ⟨_, (pss_cons (ps_par3 (i := 2) (j := 3) (l := 4) rfl scnecks_of.nd rfl rfl rfl (by decide) (by decide) (by decide) rfl rfl rfl (pa_cons (pe_callTy (call_dictTK (K := K) rfl rfl hr.units) (by rfl) B.dict bt_dict (pa_cons (pe_lock (pe_lc (own := [("cell", 5)]) rfl scnecks_of.nd (pi_keys (pv 1)) (blkOk_by (sc := defScope (KH.top 20)) (own := [("cell", 5)]) (N := NNnecks_of) (by decide +kernel)) (fun _ _ _ _ _ => (pg_name (i := 5) scnecks_of.nd rfl (Or.inl rfl))) (fun _ _ _ _ _ => pts_nil) (fun _ _ _ _ _ => (pe_tup (pa_cons (pv 5) (pa_cons pe_int pa_nil)))))) pa_nil)) (pa_cons pe_dnewK (pa_cons (pe_op op_sub (pe_cal Cheights_of hr (by rfl) (pa_cons (pv 0) pa_nil)) pe_int) pa_nil))) (by rfl))
      (pss_cons (ps_lock (ps_for PassesOwn.never rfl (pi_keys (pv 1)) (pg_name (i := 5) scnecks_of.nd rfl (Or.inl rfl))
      (pss_one (ps_if (pt_cmpR op_eq (pe_ix (ix_seqK (K := K) rfl) (pv 5) pe_int (fun _ _ => rfl)) (pv 4) (nomark _)) (pss_one (ps_expr (pe_bmK (K := K) rfl PySem.F.plainAttrs_list PySem.F.slot_list_append PySem.F.type_list_append mt_append (pe_dsetd (pv 3) (pe_dget hu (pv 1) (pv 5) (fun _ _ => rfl)) (pe_lst pa_nil) m2_of) (pa_cons (pv 5) pa_nil)))) pss_nil))))
      (pss_cons (ps_for PassesOwn.never rfl (pi_range3 (by rfl) B.range (pa_cons (pe_callB (cr_maxK (K := K) rfl rfl) (by rfl) B.max bt_max (pa_cons (pe_op op_cat (pe_callTy (call_listV rfl) (by rfl) B.list bt_list (pa_cons (pe_bm0K (K := K) rfl PySem.F.plainAttrs_dict PySem.F.slot_dict_values PySem.F.type_dict_values mt_valsT (pv 1)) pa_nil)) (pe_lst (pa_cons pe_int pa_nil))) pa_nil)) (pa_cons pe_int (pa_cons (pe_un un_neg pe_int) pa_nil)))) (pg_name (i := 6) scnecks_of.nd rfl (Or.inl rfl))
      (pss_cons (ps_set (i := 7) scnecks_of.nd rfl (Or.inl rfl) (pe_dget2 hu (pv 3) (pv 6) (pe_lst pa_nil) m2_of))
      (pss_one (ps_while PassesOwn.never (pt_cmpR (op_neDK (K := K) rfl hr.units) (pv 7) (pe_lst pa_nil) (nomark _))
      (pss_cons (ps_set (i := 5) scnecks_of.nd rfl (Or.inl rfl) (pe_bm0K (K := K) rfl PySem.F.plainAttrs_list PySem.F.slot_list_pop PySem.F.type_list_pop mt_pop (pv 7)))
      (pss_one (ps_if (pt_cmpR op_eq (pe_dget hu (pv 2) (pv 5) (fun _ _ => rfl)) pe_int (nomark _)) (pss_cons (ps_dput hu (pv 2) (pv 5) (pv 6) rfl)
      (pss_one (ps_for PassesOwn.never rfl (pi_tupK (K := K) rfl (pe_cal Cbeside hr (by rfl) (pa_cons (pv 0) (pa_cons (pv 5) pa_nil)))) (pg_name (i := 8) scnecks_of.nd rfl (Or.inl rfl))
      (pss_one (ps_if (PW.pt (pw_and (pt_cmp (pc_din hu (pv 8) (pv 1))) (pw_and1 (pt_cmpR op_eq (pe_dget hu (pv 2) (pv 8) (fun _ _ => rfl)) pe_int (nomark _))))) (pss_cons (ps_set (i := 9) scnecks_of.nd rfl (Or.inl rfl) (pe_callB (call_min2 rfl) (by rfl) B.min bt_min (pa_cons (pv 6) (pa_cons (pe_dget hu (pv 1) (pv 8) (fun _ _ => rfl)) pa_nil))))
      (pss_one (ps_expr (pe_bmK (K := K) rfl PySem.F.plainAttrs_list PySem.F.slot_list_append PySem.F.type_list_append mt_append (pe_ifExp (pt_cmpR op_eq (pv 9) (pv 6) (nomark _)) (pv 7) (pe_dsetd (pv 3) (pv 9) (pe_lst pa_nil) m2_of)) (pa_cons (pv 8) pa_nil))))) pss_nil))))) pss_nil)))))))
      (pss_one (ps_ret (pv 2)))))), ?_⟩
    clear hr hu
    have ok := gd_ok wf
    have nd := so.nd
    have key := fun c => so.key ok (c := c)
    have hT : (gd S).T = (ht S : Int) := rfl
    have klen : (keysI ks).length ≤ 54 := by
      have : (sel S (gd S).air).length = (keysI ks).length := (sel_perm (π := (gd S).air) nd fun c => ⟨fun h => ⟨ok.ain c ((key c).mp h), (key c).mp h⟩, fun h => (key c).mpr h.2⟩).length_eq.symm
      rw [← this]
      exact sel_length wf _
    intro σ H O D l g q
    refine s_par3 l g (nd_dictI (ks := fsOf ks fun _ => 0) (NL.e (nl_to (n_lock (i := 1) (n_lcB (emb := cellD) (qs := keysI ks) (fun c => (wipeG (lockG _ 1 (kvI ks)) [5]).set 5 (.dat (cellD c))) (fun c => .tuple [cellD c, .int 0])
      (src_to (src_keys (e_var rfl)) (by unfold kvI keysI; rw [List.map_map, List.map_map]; rfl)) (by omega) (fun c _ => tg_name 5) (by simp) (fun c _ => e_tup (a_cons (e_var rfl) (a_cons e_int a_nil))))) (by unfold fsOf keysI; rw [List.map_map, List.map_map]; rfl))) (by rw [keys_fsOf]; exact nd))
      (e_I0 (e_call (ds := [secD S]) (a_cons (e_var rfl) a_nil) ⟨S, rfl, wf, rfl⟩) e_int) fun F L v1 H1 nF nL s1 eF eL l1 g1 => ?_
    have nFO : F ∉ O := l.no nF
    have nLO : L ∉ O := l.no nL
    -- the cells of the top
    obtain ⟨a, aσ, ha, na, kk⟩ := lock_at l1 g1 (i := 1) rfl
    refine ⟨a, _, ha, trivial, fun od => ?_⟩
    obtain ⟨l2, g2⟩ := kk od
    clear kk
    have e2F : upd H1 a (.frz od (.dT ((kvI ks).map ent))) F = _ := (upd_ne fun z => na (by rw [← z]; simp)).trans eF
    have e2L : upd H1 a (.frz od (.dT ((kvI ks).map ent))) L = _ := (upd_ne fun z => na (by rw [← z]; simp)).trans eL
    refine for_src (src_to (src_keys (e_var rfl)) (show (kvI ks).map (fun e => cellD e.1) = (keysI ks).map cellD by unfold kvI keysI; rw [List.map_map, List.map_map]; rfl)) l2 g2 fun H3 s3 => ⟨fun i σ' H' => ∃ ls A M, Nh O F L ls A M (fsOf ks fun _ => 0) H' ∧ Gw [F, L] H3 (F :: L :: ls) H' ∧
      (∀ s : Nat, cont A M s = ((keysI ks).take i).filter (fun c => decide (c.2 = (gd S).T - 1 ∧ clr (gd S) c = s))) ∧ A.length ≤ i ∧ σ'[1]? = some (some (.ref a)) ∧ EnvOk (cut (F :: L :: ls ++ O) H') σ' (gNk S (.dfz (kvI ks)) F L .unk .unk .unk .unk), ?_, ?_, ?_, ?_⟩
    · exact ⟨[], [], fun _ => [], ⟨l2.mono s3, s3 _ _ e2F, s3 _ _ e2L, fun a h => by simp at h, fun e h => by simp at h, fun s t a h => by cases h⟩, Gw.refl _ _, fun s => rfl, Nat.le_refl _, aσ, g2.mono (cut_mono s3)⟩
    · rintro i σ' H' _ ⟨ls, A, M, N, w, _⟩
      exact w.cut0 (O := O)
    · intro i d x σ' H' H4 ed ⟨ls, A, M, N, w, hc, hA, hσ, g3⟩ s4 hx
      rw [List.getElem?_map] at ed
      obtain ⟨c, ec, rfl⟩ := Option.map_eq_some_iff.mp ed
      have hcm : c ∈ keysI ks := List.mem_of_getElem? ec
      have hi : i < (keysI ks).length := (List.getElem?_eq_some_iff.mp ec).1
      have ca := (key c).mp hcm
      have N4 := N.same s4
      have w4 := w.same s4
      have g4 := (g3.mono (cut_mono s4)).set (.dat (hx (F :: L :: ls ++ O) N.live (w.cut (O := O)))) 5
      refine t_tst (e_eqI (e_c1' (c := c) (e_var rfl)) (e_var rfl)) _ H4 _ N4.live g4 _ fun H5 s5 => ?_
      have N5 := N4.same s5
      have w5 := w4.same s5
      have g5 := g4.mono (cut_mono s5)
      have hσ' : (σ'.set 5 (some x))[1]? = some (some (.ref a)) := by rw [List.getElem?_set_ne (by decide)]; exact hσ
      have tk : ∀ p : KV.Cell → Bool, ((keysI ks).take (i + 1)).filter p = ((keysI ks).take i).filter p ++ (if p c then [c] else []) := fun p => by
        rw [List.take_add_one, ec, List.filter_append]
        congr 1
        show List.filter p [c] = _
        rw [List.filter_cons]
        rfl
      by_cases top : c.2 = (ht S : Int) - 1
      · rw [decide_eq_true top, if_pos rfl]
        refine s_lots (s := (clr (gd S) c : Int)) N5 g5 (e_var rfl) (e_dget (e_var rfl) .z (e_var rfl) (valV_int nd ((so.iff ok).mpr ⟨ca, rfl⟩)) rfl) (e_var rfl) (by omega) (by
          rw [hc]
          have := List.length_filter_le (fun x : KV.Cell => decide (x.2 = (gd S).T - 1 ∧ clr (gd S) x = clr (gd S) c)) ((keysI ks).take i)
          rw [List.length_take] at this
          omega) fun ls' A' M' H6 N6 w6 sub hA' hk hcont hM' hat g6 => ?_
        refine ⟨ls', A', M', N6, w5.trans w6, fun s => ?_, by omega, hσ', g6.blur 5⟩
        rw [hcont, tk, hc]
        by_cases e : (s : Int) = (clr (gd S) c : Int)
        · have e : s = clr (gd S) c := by omega
          subst e
          rw [if_pos rfl, if_pos (decide_eq_true ⟨top, rfl⟩)]
        · rw [if_neg e, if_neg (by simp only [decide_eq_true_eq]; rintro ⟨_, z⟩; omega), List.append_nil]
      · rw [decide_eq_false top, if_neg (by decide)]
        refine ⟨ls, A, M, N5, w5, fun s => ?_, by omega, hσ', g5.blur 5⟩
        rw [tk, hc, if_neg (by simp only [decide_eq_true_eq]; rintro ⟨z, _⟩; exact top z), List.append_nil]
    · rintro σ' H' ⟨ls, A, M, N, w, hc, hA, hσ, g3⟩
      have e3 : H3 a = some (.frz od (.dT ((kvI ks).map ent))) := s3 _ _ upd_same
      have ha' : H' a = some (.frz od (.dT ((kvI ks).map ent))) := w.bu a _ (fun z => na (by simp only [List.mem_cons, List.not_mem_nil, or_false] at z ⊢; rcases z with z | z <;> simp [z])) e3
      have na' : a ∉ F :: L :: ls ++ O := fun z => by
        rcases List.mem_append.mp z with y | y
        · rcases w.new a y with x | x
          · exact na (by simp only [List.mem_cons, List.not_mem_nil, or_false] at x ⊢; rcases x with x | x <;> simp [x])
          · rw [e3] at x; cases x
        · exact na (by simp [y])
      refine ⟨ha', ?_⟩
      have N1 := N.unlock ha' (fun _ z => nomatch z)
      have w1 : KD.Gw [F, L] H1 (F :: L :: ls) (upd H' a (.dT ((kvI ks).map ent))) := ((Gw.of s3).trans w).unlock ha
      have g4 : EnvOk (cut (F :: L :: ls ++ O) (upd H' a (.dT ((kvI ks).map ent)))) σ' (gNk S (.dic (kvI ks)) F L .unk .unk .unk .unk) := by
        have z := env_unlock (cut_get ha' na') g3
        rw [← cut_upd na'] at z
        exact z.put hσ (.dic (cut_get upd_same na'))
      clear g3 ha' e3 hσ g2 l2 N w
      generalize upd H' a (.dT ((kvI ks).map ent)) = H2 at N1 w1 g4
      rw [List.length_map, List.take_length] at hc
      rw [List.length_map] at hA
      -- the levels
      obtain ⟨mm, hm1, hm2⟩ := exists_max ((ks.map (·.2)) ++ [0]) (by simp)
      have m0 : 0 ≤ mm := hm2 0 (by simp)
      have clow : ∀ c, (gd S).air c → clr (gd S) c ≤ ht S := fun c a => by
        have := (near_clr ok a).mp (KM.near_all ok a)
        have i := ok.ain c a
        have := i.2.2.1
        have := i.2.2.2
        omega
      have m6 : mm ≤ 6 := by
        rcases List.mem_append.mp hm1 with z | z
        · obtain ⟨e, he, rfl⟩ := List.mem_map.mp z
          obtain ⟨a1, a2⟩ := (so.iff ok (c := e.1) (n := e.2)).mp he
          have := clow _ a1
          have := wf.tall
          rw [a2]; omega
        · have := List.mem_singleton.mp z
          omega
      have cm : ∀ c, (gd S).air c → clr (gd S) c ≤ mm.toNat := fun c a => by
        have := hm2 (clr (gd S) c : Int) (List.mem_append.mpr (.inl (List.mem_map.mpr ⟨_, (so.iff ok).mpr ⟨a, rfl⟩, rfl⟩)))
        omega
      have u54 : ∀ f, unf (keysI ks) f ≤ 54 := fun f => Nat.le_trans (unf_le _ _) klen
      have kl : ks.length ≤ 54 := by have := klen; unfold keysI at this; rwa [List.length_map] at this
      refine for_src (src_dn (m := mm) (a_cons (e_max (ns := ks.map (·.2) ++ [0]) (NL.e (nl_to (n_cat (n_listV (e_var (i := 1) rfl)).e (n_lst (ds := [.int 0]) (a_cons e_int a_nil)).e (by rw [List.length_map]; show _ + 1 ≤ _; omega)) (by rw [List.map_append, List.map_map]; rfl))) hm1 hm2) (a_cons e_int (a_cons (e_un e_int) a_nil))) ⟨by omega, by omega⟩) N1.live g4 fun H4 s4 => ⟨fun i σ' H' => ∃ ls' A M f,
        Nh O F L ls' A M (fsOf ks f) H' ∧ Gw (F :: L :: ls) H4 (F :: L :: ls') H' ∧ PB (gd S) (keysI ks) (mm.toNat - i) f (fun s => cont A M (s : Int)) ∧ A.length + 4 * unf (keysI ks) f ≤ 270 ∧ EnvOk (cut (F :: L :: ls' ++ O) H') σ' (gNk S (.dic (kvI ks)) F L .unk .unk .unk .unk), ?_, ?_, ?_, ?_⟩
      · refine ⟨ls, A, M, fun _ => 0, N1.same s4, Gw.refl _ _, PB.first ok cm (fun s c => ?_) (fun s => ?_) klen, ?_, g4.mono (cut_mono s4)⟩
        · rw [hc, List.mem_filter, key, decide_eq_true_eq]
        · rw [hc]; exact Nat.le_trans (List.length_filter_le _ _) klen
        · have := u54 fun _ => 0
          omega
      · rintro i σ' H' _ ⟨ls', A, M, f, N, w, _⟩
        exact w.cut0 (O := O)
      · intro i d x σ' H' H5 ed ⟨ls', A, M, f, N, w, pb, hA, g5⟩ s5 hx
        unfold dnD at ed
        rw [List.getElem?_map] at ed
        obtain ⟨i', ei, rfl⟩ := Option.map_eq_some_iff.mp ed
        have hi : i < mm.toNat := by
          have := (List.getElem?_eq_some_iff.mp ei).1
          rwa [List.length_range] at this
        rw [List.getElem?_range hi] at ei
        have ei := Option.some.inj ei
        subst ei
        obtain ⟨t, ht⟩ : ∃ t : Nat, t + 1 = mm.toNat - i := ⟨mm.toNat - i - 1, by omega⟩
        rw [← ht] at pb
        have et : mm - (i : Int) = ((t + 1 : Nat) : Int) := by omega
        rw [et] at hx
        have N5 := N.same s5
        have g6 := (g5.mono (cut_mono s5)).set (.dat (hx (F :: L :: ls' ++ O) N.live (w.cut (O := O)))) 6
        refine s_get (s := ((t + 1 : Nat) : Int)) N5 g6 (e_var rfl) (e_var rfl) fun p h H6 N6 w6 hh pA g7 => ?_
        have h6 : h ∈ p :: ls' := by
          rcases hh with z | ⟨_, z⟩
          · exact List.mem_cons_of_mem _ (N.mem _ (atA_mem z))
          · rw [z]; simp
        have off6 : ∀ s : Nat, s < t + 1 → atA A s ≠ some h := fun s hs z => by
          rcases hh with y | ⟨_, y⟩
          · have := N.inj _ _ _ z y
            omega
          · rw [y] at z; exact pA _ z
        have c6 : ∀ s : Nat, cont A (setM M p []) s = cont A M s := fun s => cont_set (pA _)
        have m6' : setM M p [] h = cont A M ((t + 1 : Nat) : Int) := by
          rcases hh with y | ⟨y, z⟩
          · rw [← c6 (t + 1), cont_of y]
          · rw [z, setM_at, cont_no y]
        have pn : PN (gd S) (keysI ks) (t + 1) f (setM M p [] h) (fun s => cont A (setM M p []) (s : Int)) [] := by
          have z := pb.start (by omega)
          rw [m6']
          exact z.congr ok fun s _ _ => (c6 s).symm
        refine ⟨fun μ σ' H' => ∃ ls A M f, Nh O F L ls A M (fsOf ks f) H' ∧ Gw (F :: L :: p :: ls') H6 (F :: L :: ls) H' ∧ h ∈ ls ∧ (∀ s : Nat, s < t + 1 → atA A s ≠ some h) ∧ PN (gd S) (keysI ks) (t + 1) f (M h) (fun s => cont A M (s : Int)) [] ∧ A.length + 4 * unf (keysI ks) f ≤ 270 ∧
          EnvOk (cut (F :: L :: ls ++ O) H') σ' (gNk S (.dic (kvI ks)) F L .unk (.dat (.int ((t + 1 : Nat) : Int))) (.ptr h) .unk) ∧ μ = 5 * unf (keysI ks) f + (M h).length, ⟨_, p :: ls', A, setM M p [], f, N6, Gw.refl _ _, h6, off6, pn, hA, g7, rfl⟩, ?_⟩
        have w06 : KD.Gw (F :: L :: ls) H4 (F :: L :: p :: ls') H6 := (w.same s5).trans w6
        clear w6 c6 m6' pn g7 off6 h6 hh pA N6 hA pb g6 g5 hx N N5 w
        intro μ σ' H' ⟨ls1, A, M, f, N, w, hin, off, pn, hA, g, hμ⟩
        obtain ⟨xs, eH, rH⟩ := N.lst h hin
        refine t_neNil (i := 7) (p := h) g rfl eH (RpAll.mono (cut_same _ _) _ _ rH) (shaped_cells (M h)) fun H7 s7 => ?_
        have N7 := N.same s7
        have w7 := w.same s7
        have g7 := g.mono (cut_mono s7)
        have e7 := s7 _ _ eH
        have r7 := RpAll.mono (cut_mono s7) _ _ rH
        by_cases hne : M h = []
        · rw [hne, if_neg (by simp)]
          rw [hne] at pn
          refine ⟨ls1, A, M, f, N7, w06.trans w7, ?_, hA, (g7.blur 6).blur 7⟩
          rw [show mm.toNat - (i + 1) = t by omega]
          exact pn.done ok
        · rw [if_pos (by cases e : M h with | nil => exact absurd e hne | cons => rfl)]
          refine ⟨_, fun σ' H' n => n, ?_⟩
          obtain ⟨cs, c, ecs⟩ : ∃ cs c, M h = cs ++ [c] := ⟨_, _, (List.dropLast_concat_getLast hne).symm⟩
          rw [ecs] at r7 pn hμ
          rw [List.map_append] at r7
          have hin' : h ∈ F :: L :: ls1 ++ O := by simp [hin]
          refine s_pop N7.live g7 hin' e7 r7 (e_var rfl) fun H8 v8 ys b8 e8 r8 l8 g8 => ?_
          have N8 := N7.list hin b8 e8 r8
          have w8 := w7.trans (Gw.but b8 (by simp [hin]))
          have oc := pn.hin c (by simp)
          have ca := KM.O_air oc
          have ck := (key c).mpr ca
          have m8 : setM M h cs h = cs := setM_at
          have nFr : F ∉ L :: ls1 ++ O := by
            simp only [List.cons_append, List.mem_cons, List.mem_append, not_or]
            exact ⟨N.neFL, fun z => N.neF z rfl, nFO⟩
          have sub8 : ∀ a ∈ L :: ls1 ++ O, a ∈ F :: L :: ls1 ++ O := fun a h => List.mem_cons_of_mem _ h
          refine t_tst (e_eqI (e_dget (kvs := kvI (fsOf ks f)) (e_var rfl) .c (e_var rfl) (valV_fsOf nd ck) rfl) e_int) _ H8 _ (N8.live.sub sub8) (g8.openD (i := 2) rfl sub8 nFr N8.eF) _ fun H9 s9 => ?_
          have N9 := N8.same s9
          have w9 := w8.same s9
          have g9 := g8.mono (cut_mono s9)
          have off8 : ∀ s : Nat, s < t + 1 → cont A (setM M h cs) s = cont A M s := fun s hs => cont_set (off s hs)
          have pn8 : PN (gd S) (keysI ks) (t + 1) f (cs ++ [c]) (fun s => cont A (setM M h cs) (s : Int)) [] := pn.congr ok fun s _ hs => (off8 s hs).symm
          by_cases f0 : f c = 0
          · rw [decide_eq_true (by omega), if_pos rfl]
            refine s_dput (v := .int ((t + 1 : Nat) : Int)) N9.live g9 N9.eF (e_var rfl) (e_var rfl) (e_var rfl) rfl (by unfold kvI fsOf; rw [List.length_map, List.length_map]; omega) fun H10 b10 e10 => ?_
            rw [putK_fsOf ck] at e10
            have N10 := N9.put b10 e10
            have w10 := w9.trans (Gw.but b10 (by simp))
            have g10 := env_gw g9 (Gw.but b10 (by simp))
            have ic := ok.ain c ca
            have pn10 : PN (gd S) (keysI ks) (t + 1) (setF f c (t + 1)) cs (fun s => cont A (setM M h cs) (s : Int)) (nbs S c) := pn8.set ok f0 nd ck (by omega) (fun q => mem_nbs) (nbs_len S c)
            have u10 := unf_set (t := t + 1) nd ck f0 (by omega)
            have nl := nbs_len S c
            rw [List.length_append] at hμ
            have hμ : μ = 5 * unf (keysI ks) f + (cs.length + 1) := hμ
            refine for_src (src_tup (e_call (ds := [secD S, cellD c]) (a_cons (e_var rfl) (a_cons (e_var rfl) a_nil)) ⟨S, c, rfl, wf, ic, rfl⟩)) N10.live g10 fun H11 s11 => ⟨fun j σ' H' => ∃ ls A M, Nh O F L ls A M (fsOf ks (setF f c (t + 1))) H' ∧ Gw (F :: L :: ls1) H11 (F :: L :: ls) H' ∧ h ∈ ls ∧ (∀ s : Nat, s < t + 1 → atA A s ≠ some h) ∧
              PN (gd S) (keysI ks) (t + 1) (setF f c (t + 1)) (M h) (fun s => cont A M (s : Int)) ((nbs S c).drop j) ∧ A.length + 4 * unf (keysI ks) (setF f c (t + 1)) + ((nbs S c).drop j).length ≤ 270 ∧ 5 * unf (keysI ks) (setF f c (t + 1)) + (M h).length + ((nbs S c).drop j).length < μ ∧
              EnvOk (cut (F :: L :: ls ++ O) H') σ' (gNk S (.dic (kvI ks)) F L (.dat (cellD c)) (.dat (.int ((t + 1 : Nat) : Int))) (.ptr h) .unk), ?_, ?_, ?_, ?_⟩
            · refine ⟨ls1, A, setM M h cs, N10.same s11, Gw.refl _ _, hin, off, by rw [m8]; exact pn10, by rw [List.drop_zero]; omega, by rw [m8, List.drop_zero]; omega, g10.mono (cut_mono s11)⟩
            · rintro j σ' H' _ ⟨ls, A, M, N, w, _⟩
              exact w.cut0 (O := O)
            · intro j d x σ' H' H12 ed ⟨ls2, A, M, N, w, hin, off, pn, hA, hm, g⟩ s12 hx
              rw [List.getElem?_map] at ed
              obtain ⟨q, eq, rfl⟩ := Option.map_eq_some_iff.mp ed
              have hqn : q ∈ nbs S c := List.mem_of_getElem? eq
              have hj : j < (nbs S c).length := (List.getElem?_eq_some_iff.mp eq).1
              have dj : (nbs S c).drop j = q :: (nbs S c).drop (j + 1) := by
                rw [List.drop_eq_getElem_cons hj]
                congr 1
                exact (List.getElem?_eq_some_iff.mp eq).2
              rw [dj] at pn hA hm
              rw [List.length_cons] at hA hm
              have N12 := N.same s12
              have w12 := w.same s12
              have g12 := (g.mono (cut_mono s12)).set (.dat (hx (F :: L :: ls2 ++ O) N.live (w.cut (O := O)))) 8
              have nFr : F ∉ L :: ls2 ++ O := by
                simp only [List.cons_append, List.mem_cons, List.mem_append, not_or]
                exact ⟨N.neFL, fun z => N.neF z rfl, nFO⟩
              have sub12 : ∀ a ∈ L :: ls2 ++ O, a ∈ F :: L :: ls2 ++ O := fun a h => List.mem_cons_of_mem _ h
              refine (t_and (t_tst (e_to (e_din (c := q) (kvs := kvI ks) (e_var rfl) (e_var rfl) .c) (by rw [valV_isSome nd]))) (fun hq => t_tst (e_eqI (e_dget (kvs := kvI (fsOf ks (setF f c (t + 1)))) (e_var rfl) .c (e_var rfl) (valV_fsOf nd (of_decide_eq_true hq)) rfl) e_int))) _ H12 _ (N12.live.sub sub12) (g12.openD (i := 2) rfl sub12 nFr N12.eF) _ fun H13 s13 => ?_
              have N13 := N12.same s13
              have w13 := w12.same s13
              have g13 := g12.mono (cut_mono s13)
              by_cases hb : q ∈ keysI ks ∧ setF f c (t + 1) q = 0
              · obtain ⟨qk, q0⟩ := hb
                have qa := (key q).mp qk
                rw [decide_eq_true qk, decide_eq_true (by omega), if_pos (show (true && true) = true from rfl)]
                refine s_let (e := .dat (.int (min ((t + 1 : Nat) : Int) (clr (gd S) q : Int)))) N13.live g13 (e_min2 (e_var rfl) (e_dget (kvs := kvI ks) (e_var rfl) .c (e_var rfl) (valV_int nd ((so.iff ok).mpr ⟨qa, rfl⟩)) rfl)) fun v14 H14 s14 l14 g14 => ?_
                have N14 := N13.same s14
                have w14 := w13.same s14
                refine t_tst (e_eqI (e_var rfl) (e_var rfl)) _ H14 _ l14 g14 _ fun H15 s15 => ?_
                have N15 := N14.same s15
                have w15 := w14.same s15
                have g15 := g14.mono (cut_mono s15)
                by_cases hc : t + 1 ≤ clr (gd S) q
                · rw [decide_eq_true (by omega), if_pos rfl]
                  obtain ⟨xs, e15, r15⟩ := N15.lst h hin
                  have hin' : h ∈ F :: L :: ls2 ++ O := by simp [hin]
                  have hlen := pn.lenH
                  show tDrop (tBM K "list" rAppend (tVar 7) (tCons (tVar 8) tNil)) _ _ _
                  refine s_app N15.live g15 hin' e15 r15 (e_var rfl) (e_var (e := .dat (cellD q)) rfl) (by rw [List.length_map]; omega) fun H16 v16 b16 e16 r16 => ?_
                  have N16 := N15.list (cs := M h ++ [q]) hin b16 e16 (by rw [List.map_append]; exact r16)
                  have wb := Gw.but (own := F :: L :: ls2) b16 (by simp [hin])
                  refine ⟨ls2, A, setM M h (M h ++ [q]), N16, w15.trans wb, hin, off, ?_, by omega, ?_, ((env_gw g15 wb).blur 8).blur 9⟩
                  · rw [setM_at]
                    exact (pn.now ok qa (by omega) hc).congr ok fun s _ hs => (cont_set (off s hs)).symm
                  · rw [setM_at, List.length_append]; show _ + (_ + 1) + _ < _; omega
                · rw [decide_eq_false (by omega), if_neg (by decide)]
                  show tDrop (tBM K "list" rAppend (tDSetd (tVar 3) (tVar 9) (tLst tNil)) (tCons (tVar 8) tNil)) _ _ _
                  have hl : (cont A M (clr (gd S) q : Int)).length ≤ 10000 := by
                    obtain ⟨j, e, _⟩ := clr_air ok qa
                    have := pn.lenL (clr (gd S) q) (by omega) (by omega)
                    omega
                  refine s_lots (s := (clr (gd S) q : Int)) N15 g15 (e_var rfl) (e_to (e := .dat (.int (min ((t + 1 : Nat) : Int) (clr (gd S) q : Int)))) (e_var rfl) (congrArg (fun z => En.dat (.int z)) (by omega))) (e_var rfl) (by omega) hl fun ls3 A' M' H16 N16 w16 sub hA' hk hcont hM' hat g16 => ?_
                  refine ⟨ls3, A', M', N16, w15.trans w16, sub _ hin, fun s hs z => off s hs (hat s h hin z), ?_, by omega, ?_, (g16.blur 8).blur 9⟩
                  · rw [hM' h hin (off _ (by omega))]
                    refine (pn.later ok qa (by omega)).congr ok fun s _ hs => ?_
                    rw [hcont]
                    unfold addL
                    by_cases e : s = clr (gd S) q
                    · rw [if_pos e, if_pos (by omega)]
                    · rw [if_neg e, if_neg (by omega)]
                  · rw [hM' h hin (off _ (by omega))]; omega
              · rw [if_neg (by
                  intro z
                  rw [Bool.and_eq_true, decide_eq_true_eq, decide_eq_true_eq] at z
                  exact hb ⟨z.1, by omega⟩)]
                refine ⟨ls2, A, M, N13, w13, hin, off, pn.pass ?_, by omega, by omega, g13.blur 8⟩
                by_cases qa : (gd S).air q
                · exact .inr fun z => hb ⟨(key q).mpr qa, z⟩
                · exact .inl qa
            · rintro σ' H' ⟨ls2, A, M, N, w, hin, off, pn, hA, hm, g⟩
              rw [show (nbs S c).drop (((nbs S c).map cellD).length) = [] by rw [List.length_map]; exact List.drop_length] at pn hA hm
              exact ⟨_, by simpa using hm, ls2, A, M, setF f c (t + 1), N, (w10.same s11).trans w, hin, off, pn, by simpa using hA, g.blur 5, rfl⟩
          · rw [decide_eq_false (by omega), if_neg (by decide)]
            refine ⟨μ - 1, by rw [List.length_append] at hμ; have hμ : μ = _ + (_ + 1) := hμ; omega, ls1, A, setM M h cs, f, N9, w9, hin, off, ?_, hA, g9.blur 5, ?_⟩
            · rw [m8]; exact pn8.skip f0
            · rw [m8]
              rw [List.length_append] at hμ
              have hμ : μ = _ + (_ + 1) := hμ
              omega
      · rintro σ' H' ⟨ls', A, M, f, N, w, pb, hA, g5⟩
        rw [show mm.toNat - (dnD mm mm.toNat).length = 0 by simp [dnD]] at pb
        refine s_retD g5 rfl ?_
        refine q _ H' _ ⟨f, rfl, fun c k => pb.fin c k⟩ ?_ (.dic (cut_get N.eF nFO))
        have wa : Gw [F, L] H1 (F :: L :: ls') H' := (w1.same s4).trans w
        exact fun b o e => wa.bu b o (by simp only [List.mem_cons, List.not_mem_nil, or_false, not_or]; exact ⟨ne_of_none e nF, ne_of_none e nL⟩) (s1 _ _ e)
end KP
/-! P6 -/
set_option Elab.async false
set_option linter.all false
set_option maxRecDepth 100000
set_option maxHeartbeats 4000000
namespace KP
open PySem L2 KV KR KS KC KD KX
variable {P : Program} {w : World} {K : PySem.W.Frag} {mg : Str → Option Value} {base : Heap}
def isSec (S : Sec) (d : PyData) : Prop := d = secD S ∨ d = lstD S
theorem e_tupled {Γ : List En} {ta : TE} {S : Sec} {d : PyData} (wf : Wf S) (h : isSec S d) (ha : Ed ta Γ d) : Ed (tCall (spTupled 2) [] E0 (tCons ta tNil)) Γ (secD S) := by
  rcases h with rfl | rfl
  · exact e_to (e_call (ds := [secD S]) (a_cons ha a_nil) ⟨_, rfl, okD_sec wf, rfl⟩) (congrArg En.dat (tupD_sec S))
  · exact e_to (e_call (ds := [lstD S]) (a_cons ha a_nil) ⟨_, rfl, okD_lsec wf, rfl⟩) (congrArg En.dat (tupD_lsec S))
/-! ### rounds_of -/
abbrev rRounds : List En → (En → Prop) → Prop := fun es Φ => ∃ S, es = [.dat (secD S)] ∧ Wf S ∧ Φ = fun e => ∃ ks, e = .dic (kvI ks) ∧ RoundsOk (gd S) ks
abbrev NNrounds_of : List Str := ["section", "steps", "necks", "cell"]
theorem scrounds_of : FnScope NNrounds_of ["section"] (defScope (KH.top 21)) := ⟨rfl, rfl, rfl, by decide +kernel, rfl, by decide +kernel, by decide +kernel⟩
theorem cal_rounds_of (B : Blt mg) (D : Df K mg "rounds_of" 21) (Csteps_of : Cal P w K mg base "steps_of" ["section"] 7 (spE rSteps)) (Cnecks_of : Cal P w K mg base "necks_of" ["section", "steps"] 6 (spE rNecks)) :
    Cal P w K mg base "rounds_of" ["section"] 8 (spE rRounds) :=
  cal_pure D scrounds_of (fun _ _ _ _ _ _ us hl => match us, hl with | [_], _ => rfl) (fun es Φ h => by obtain ⟨S, rfl, _⟩ := h; rfl) fun f cdv A outer s H es Φ hr h => by
    obtain ⟨S, rfl, wf, rfl⟩ := h
    have hu := hu_of hr
    refine ⟨_, (pss_cons (ps_set (i := 1) scrounds_of.nd rfl (Or.inr rfl) (pe_cal Csteps_of hr (by rfl) (pa_cons (pv 0) pa_nil)))
      (pss_cons (ps_set (i := 2) scrounds_of.nd rfl (Or.inr rfl) (pe_cal Cnecks_of hr (by rfl) (pa_cons (pv 0) (pa_cons (pv 1) pa_nil))))
      (pss_one (ps_ret (pe_callTy (call_dictTK (K := K) rfl rfl hr.units) (by rfl) B.dict bt_dict (pa_cons (pe_lock (pe_lc (own := [("cell", 3)]) rfl scrounds_of.nd (pi_keys (pv 1)) (blkOk_by (sc := defScope (KH.top 21)) (own := [("cell", 3)]) (N := NNrounds_of) (by decide +kernel)) (fun _ _ _ _ _ => (pg_name (i := 3) scrounds_of.nd rfl (Or.inl rfl))) (fun _ _ _ _ _ => (pts_one (pt_cmpR op_eq (pe_dget hu (pv 2) (pv 3) (fun _ _ => rfl)) (pe_dget hu (pv 1) (pv 3) (fun _ _ => rfl)) (nomark _)))) (fun _ _ _ _ _ => (pe_tup (pa_cons (pv 3) (pa_cons (pe_dget hu (pv 1) (pv 3) (fun _ _ => rfl)) pa_nil)))))) pa_nil)))))), ?_⟩
    clear hr hu
    have ok := gd_ok wf
    refine b_asgs (es_call (es := [.dat (secD S)]) (a_cons (e_var rfl) a_nil) ⟨S, rfl, wf, rfl⟩) ?_
    rintro _ ⟨ks, rfl, so⟩
    refine b_asgs (es_call (es := [.dat (secD S), .dic (kvI ks)]) (a_cons (e_var rfl) (a_cons (e_var rfl) a_nil)) ⟨S, ks, rfl, wf, so, rfl⟩) ?_
    rintro _ ⟨ff, rfl, hf⟩
    have kl : (keysI ks).length ≤ 54 := by
      rw [sel_len (π := (gd S).air) so.nd fun c => ⟨fun h => ⟨ok.ain c ((so.key ok).mp h), (so.key ok).mp h⟩, fun h => (so.key ok).mpr h.2⟩]
      exact sel_length wf _
    have rk := rounds_from ok so hf
    have vs : ∀ c ∈ keysI ks, valV (kvI ks) c = some (.int (clr (gd S) c : Int)) := fun c hc => valV_int so.nd ((so.iff ok).mpr ⟨(so.key ok).mp hc, rfl⟩)
    refine b_ret (es_mono (ND.e (nd_dictI (ks := ((keysI ks).filter fun c => decide ((ff c : Int) = (clr (gd S) c : Int))).map fun c => (c, (clr (gd S) c : Int))) (NL.e (nl_to (n_lock (i := 1) (n_lcA (emb := cellD) (qs := keysI ks) (fun c => (wipeG (lockG _ 1 (kvI ks)) [3]).set 3 (.dat (cellD c))) (fun c => decide ((ff c : Int) = (clr (gd S) c : Int))) (fun c => .tuple [cellD c, .int (clr (gd S) c : Int)])
      (src_to (src_keys (e_var rfl)) (by unfold kvI keysI; rw [List.map_map, List.map_map]; rfl)) (by omega) (fun c _ => tg_name 3) (by simp)
      (fun c hc => t_tst (e_eqI (e_dget (kvs := kvI (fsOf ks ff)) (e_var rfl) .f (e_var rfl) (valV_fsOf so.nd hc) rfl) (e_dget (kvs := kvI ks) (e_var rfl) .z (e_var rfl) (vs c hc) rfl)))
      (fun c hc _ => e_tup (a_cons (e_var rfl) (a_cons (e_dget (kvs := kvI ks) (e_var rfl) .z (e_var rfl) (vs c hc) rfl) a_nil))))) (by rw [List.map_map]; rfl))) rk.nd)) ?_)
    rintro _ rfl
    exact ⟨_, rfl, rk⟩
/-! ### never_laid -/
abbrev spNever : Sp := spE (rD 1 fun ds d => ∃ S d0, ds = [d0] ∧ Wf S ∧ isSec S d0 ∧ d = .tuple ((sel S fun c => (gd S).air c ∧ ∀ k, ¬ (gd S).L k c).map cellD))
abbrev NNnever_laid : List Str := ["section", "own", "ever", "cell"]
theorem scnever_laid : FnScope NNnever_laid ["section"] (defScope (KH.top 22)) := ⟨rfl, rfl, rfl, by decide +kernel, rfl, by decide +kernel, by decide +kernel⟩
theorem cal_never_laid (B : Blt mg) (D : Df K mg "never_laid" 22) (Ctupled : Cal P w K mg base "tupled" ["value"] 3 (spTupled 2)) (Crounds_of : Cal P w K mg base "rounds_of" ["section"] 8 (spE rRounds)) (Cair_cells : Cal P w K mg base "air_cells" ["section"] 1 spAir) :
    Cal P w K mg base "never_laid" ["section"] 9 spNever :=
  cal_pure D scnever_laid (fun _ _ _ _ _ _ us hl => match us, hl with | [_], _ => rfl) (rD_len) fun f cdv A outer s H es Φ hr h => by
    obtain ⟨ds, d, hn, rfl, ⟨S, d0, rfl, wf, hd, rfl⟩, rfl⟩ := h
    have hu := hu_of hr
    refine ⟨_, (pss_cons (ps_set (i := 1) scnever_laid.nd rfl (Or.inl rfl) (pe_cal Ctupled hr (by rfl) (pa_cons (pv 0) pa_nil)))
      (pss_cons (ps_set (i := 2) scnever_laid.nd rfl (Or.inr rfl) (pe_cal Crounds_of hr (by rfl) (pa_cons (pv 1) pa_nil)))
      (pss_one (ps_ret (pe_callTy (call_tuple_ofK (K := K) rfl) (by rfl) B.tuple bt_tuple (pa_cons (pe_lc (own := [("cell", 3)]) rfl scnever_laid.nd (pi_listK (K := K) rfl (pe_cal Cair_cells hr (by rfl) (pa_cons (pv 1) pa_nil))) (blkOk_by (sc := defScope (KH.top 22)) (own := [("cell", 3)]) (N := NNnever_laid) (by decide +kernel)) (fun _ _ _ _ _ => (pg_name (i := 3) scnever_laid.nd rfl (Or.inl rfl))) (fun _ _ _ _ _ => (pts_one (pt_cmp (pc_dnotin hu (pv 3) (pv 2))))) (fun _ _ _ _ _ => (pv 3))) pa_nil)))))), ?_⟩
    clear hr hu
    refine b_asg (e_tupled wf hd (e_var rfl)) ?_
    refine b_asgs (es_call (es := [.dat (secD S)]) (a_cons (e_var rfl) a_nil) ⟨S, rfl, wf, rfl⟩) ?_
    rintro _ ⟨ks, rfl, rk⟩
    refine b_ret (e_tuple (NL.e (nl_to (n_lcA (emb := cellD) (qs := sel S (gd S).air) (fun c => (wipeG _ [3]).set 3 (.dat (cellD c))) (fun c => !decide (c ∈ keysI ks)) cellD (src_list (e_call (ds := [secD S]) (a_cons (e_var rfl) a_nil) ⟨S, rfl, wf, rfl⟩))
      (Nat.le_trans (sel_length wf _) (by decide)) (fun c _ => tg_name 3) (by simp) (fun c hc => t_to (t_tst (e_dnotin (c := c) (kvs := kvI ks) (e_var rfl) (e_var rfl) .c)) (by rw [valV_isSome rk.nd])) (fun c _ _ => e_var rfl)) ?_)) rfl)
    congr 1
    refine sel_filter fun c _ => ?_
    rw [Bool.not_eq_true', decide_eq_false_iff_not, rk.key, not_exists]
/-! ### laid_by -/
abbrev spLaidBy : Sp := spE (rD 2 fun ds d => ∃ S d0 n, ds = [d0, .int n] ∧ Wf S ∧ isSec S d0 ∧ d = .tuple ((sel S fun c => ∃ k : Nat, (k : Int) + 1 ≤ n ∧ (gd S).L k c).map cellD))
abbrev NNlaid_by : List Str := ["section", "rounds", "found", "cell"]
theorem sclaid_by : FnScope NNlaid_by ["section", "rounds"] (defScope (KH.top 23)) := ⟨rfl, rfl, rfl, by decide +kernel, rfl, by decide +kernel, by decide +kernel⟩
theorem cal_laid_by (B : Blt mg) (D : Df K mg "laid_by" 23) (Ctupled : Cal P w K mg base "tupled" ["value"] 3 (spTupled 2)) (Crounds_of : Cal P w K mg base "rounds_of" ["section"] 8 (spE rRounds)) (Cset_of : Cal P w K mg base "set_of" ["row"] 1 spSetOf) :
    Cal P w K mg base "laid_by" ["section", "rounds"] 9 spLaidBy :=
  cal_pure D sclaid_by (fun _ _ _ _ _ _ us hl => match us, hl with | [_, _], _ => rfl) (rD_len) fun f cdv A outer s H es Φ hr h => by
    obtain ⟨ds, d, hn, rfl, ⟨S, d0, n, rfl, wf, hd, rfl⟩, rfl⟩ := h
    have hu := hu_of hr
    refine ⟨_, (pss_cons (ps_set (i := 2) sclaid_by.nd rfl (Or.inr rfl) (pe_cal Crounds_of hr (by rfl) (pa_cons (pe_cal Ctupled hr (by rfl) (pa_cons (pv 0) pa_nil)) pa_nil)))
      (pss_one (ps_ret (pe_cal Cset_of hr (by rfl) (pa_cons (pe_lock (pe_lc (own := [("cell", 3)]) rfl sclaid_by.nd (pi_keys (pv 2)) (blkOk_by (sc := defScope (KH.top 23)) (own := [("cell", 3)]) (N := NNlaid_by) (by decide +kernel)) (fun _ _ _ _ _ => (pg_name (i := 3) sclaid_by.nd rfl (Or.inl rfl))) (fun _ _ _ _ _ => (pts_one (pt_cmpR op_le (pe_dget hu (pv 2) (pv 3) (fun _ _ => rfl)) (pv 1) (nomark _)))) (fun _ _ _ _ _ => (pv 3)))) pa_nil))))), ?_⟩
    clear hr hu
    have ok := gd_ok wf
    refine b_asgs (es_call (es := [.dat (secD S)]) (a_cons (e_tupled wf hd (e_var rfl)) a_nil) ⟨S, rfl, wf, rfl⟩) ?_
    rintro _ ⟨ks, rfl, rk⟩
    have kl : (keysI ks).length ≤ 54 := by
      have := rounds_short wf rk
      unfold keysI
      rw [List.length_map]; exact this
    let v : KV.Cell → Int := fun c => ((ks.find? fun e => decide (e.1 = c)).map (·.2)).getD 0
    have hv : ∀ c n, (c, n) ∈ ks → v c = n ∧ valV (kvI ks) c = some (.int n) := fun c n h => by
      have z := valV_int rk.nd h
      refine ⟨?_, z⟩
      show ((ks.find? fun e => decide (e.1 = c)).map (·.2)).getD 0 = n
      unfold valV kvI at z
      rw [List.find?_map] at z
      cases e : ks.find? fun e => decide (e.1 = c) with
      | none =>
        have e' : List.find? ((fun e : KV.Cell × V => decide (e.1 = c)) ∘ fun e : KV.Cell × Int => (e.1, V.int e.2)) ks = none := e
        rw [e'] at z
        cases z
      | some y =>
        have e' : List.find? ((fun e : KV.Cell × V => decide (e.1 = c)) ∘ fun e : KV.Cell × Int => (e.1, V.int e.2)) ks = some y := e
        rw [e'] at z
        have z : some (V.int y.2) = some (V.int n) := z
        injection z with z
        injection z
    have hg : ∀ c ∈ keysI ks, valV (kvI ks) c = some (.int (v c)) := fun c hc => by
      obtain ⟨n, hn⟩ := keys_get hc
      rw [(hv c n hn).1]; exact (hv c n hn).2
    refine b_ret (e_call (ds := [.list (((keysI ks).filter fun c => decide (v c ≤ n)).map cellD)]) (a_cons (NL.e (n_lock (i := 2) (n_lcA (emb := cellD) (qs := keysI ks) (fun c => (wipeG (lockG _ 2 (kvI ks)) [3]).set 3 (.dat (cellD c))) (fun c => decide (v c ≤ n)) cellD
      (src_to (src_keys (e_var rfl)) (by unfold kvI keysI; rw [List.map_map, List.map_map]; rfl)) (by omega) (fun c _ => tg_name 3) (by simp)
      (fun c hc => t_tst (e_B0 (e_dget (kvs := kvI ks) (e_var rfl) .z (e_var rfl) (hg c hc) rfl) (e_var rfl)))
      (fun c hc _ => e_var rfl)))) a_nil) ⟨_, _, rfl, ?_, fun c hc => ?_, fun c => ?_, sel_sorted S _, rfl⟩)
    · exact Nat.lt_of_le_of_lt (List.length_filter_le _ _) (by omega)
    · obtain ⟨k, l⟩ := rk.key.mp (List.mem_filter.mp hc).1
      exact InG.cb wf (ok.ain c (L_air l))
    · rw [mem_sel, List.mem_filter, decide_eq_true_eq]
      constructor
      · rintro ⟨_, k, hk, l⟩
        have m := (rk.mem c ((k : Int) + 1)).mpr ⟨k, rfl, l⟩
        exact ⟨mem_keys m, by rw [(hv c _ m).1]; exact hk⟩
      · rintro ⟨h1, h2⟩
        obtain ⟨y, hy⟩ := keys_get h1
        obtain ⟨k, e, l⟩ := (rk.mem c y).mp hy
        rw [(hv c y hy).1] at h2
        exact ⟨ok.ain c (L_air l), k, by omega, l⟩
/-! ### laid_counts -/
abbrev spCounts : Sp := spE (rD 1 fun ds d => ∃ S d0 n, ds = [d0] ∧ Wf S ∧ isSec S d0 ∧ IsLast S n ∧ d = cntD S n)
abbrev NNlaid_counts : List Str := ["section", "found", "many"]
theorem sclaid_counts : FnScope NNlaid_counts ["section"] (defScope (KH.top 24)) := ⟨rfl, rfl, rfl, by decide +kernel, rfl, by decide +kernel, by decide +kernel⟩
theorem cal_laid_counts (B : Blt mg) (D : Df K mg "laid_counts" 24) (Ctupled : Cal P w K mg base "tupled" ["value"] 3 (spTupled 2)) (Crounds_of : Cal P w K mg base "rounds_of" ["section"] 8 (spE rRounds)) :
    Cal P w K mg base "laid_counts" ["section"] 9 spCounts :=
  cal_pure D sclaid_counts (fun _ _ _ _ _ _ us hl => match us, hl with | [_], _ => rfl) (rD_len) fun f cdv A outer s H es Φ hr h => by
    obtain ⟨ds, d, hn, rfl, ⟨S, d0, n, rfl, wf, hd, il, rfl⟩, rfl⟩ := h
    refine ⟨_, (pss_cons (ps_set (i := 1) sclaid_counts.nd rfl (Or.inr rfl) (pe_callTy (call_listV rfl) (by rfl) B.list bt_list (pa_cons (pe_bm0K (K := K) rfl PySem.F.plainAttrs_dict PySem.F.slot_dict_values PySem.F.type_dict_values mt_valsT (pe_cal Crounds_of hr (by rfl) (pa_cons (pe_cal Ctupled hr (by rfl) (pa_cons (pv 0) pa_nil)) pa_nil))) pa_nil)))
      (pss_one (ps_ret (pe_callTy (call_tuple_ofK (K := K) rfl) (by rfl) B.tuple bt_tuple (pa_cons (pe_lc (own := [("many", 2)]) rfl sclaid_counts.nd (pi_range1 (by rfl) B.range (pa_cons (pe_callB (cr_maxK (K := K) rfl rfl) (by rfl) B.max bt_max (pa_cons (pe_op op_cat (pv 1) (pe_lst (pa_cons pe_int pa_nil))) pa_nil)) pa_nil)) (blkOk_by (sc := defScope (KH.top 24)) (own := [("many", 2)]) (N := NNlaid_counts) (by decide +kernel)) (fun _ _ _ _ _ => (pg_name (i := 2) sclaid_counts.nd rfl (Or.inl rfl))) (fun _ _ _ _ _ => pts_nil) (fun _ _ _ _ _ => (pe_bmK (K := K) rfl PySem.F.plainAttrs_list PySem.F.slot_list_count PySem.F.type_list_count (mt_lcountK (K := K) rfl) (pv 1) (pa_cons (pe_op op_add (pv 2) pe_int) pa_nil)))) pa_nil))))), ?_⟩
    clear hr
    refine b_asgs (es_listV (Ψ := RoundsOk (gd S)) (es_call (es := [.dat (secD S)]) (a_cons (e_tupled wf hd (e_var rfl)) a_nil) ⟨S, rfl, wf, rfl⟩) (fun e h => h)) ?_
    rintro _ ⟨ks, rk, rfl⟩
    obtain ⟨m1, m2⟩ := rounds_max rk il
    have n7 := il.le wf
    have kl := rounds_short wf rk
    have es : (ks.map fun x => PyData.int x.2) = (ks.map (·.2)).map .int := by rw [List.map_map]; rfl
    refine b_ret (e_tuple (NL.e (n_lcB (emb := fun i : Nat => .int (0 + (i : Int))) (qs := List.range n) (fun i => (wipeG _ [2]).set 2 (.dat (.int (0 + (i : Int))))) (fun i => .int (lenL S i : Int))
      (src_to (src_rng1 (a_cons (e_max (ns := ks.map (·.2) ++ [0]) (NL.e (nl_to (n_cat (e_var rfl) (n_lst (ds := [.int 0]) (a_cons e_int a_nil)).e (by rw [List.length_map]; show _ + 1 ≤ _; omega)) (by rw [es, List.map_append]; rfl))) m1 m2) a_nil) (by omega) (by omega)) (by rw [Int.toNat_natCast]; rfl))
      (by rw [List.length_range]; omega) (fun i _ => tg_name 2) (by simp) (fun i _ => ?_))) rfl)
    refine e_to (e_count (ns := ks.map (·.2)) (k := (i : Int) + 1) (e_to (e_var rfl) (by rw [es])) (e_to (e_I0 (e_var rfl) e_int) (by rw [Int.zero_add]))) ?_
    rw [rounds_count wf rk]
/-! ### least_rounds -/
abbrev spLeast : Sp := spE (rD 2 fun ds d => ∃ S d0 n m, ds = [d0, .int m] ∧ Wf S ∧ isSec S d0 ∧ IsLast S n ∧ ((∃ r : Nat, r ≤ n ∧ m ≤ (tot S r : Int) ∧ (∀ s, s < r → (tot S s : Int) < m) ∧ d = .int r) ∨ ((∀ r, r ≤ n → (tot S r : Int) < m) ∧ d = .none)))
abbrev NNleast_rounds : List Str := ["section", "many", "total", "counts", "rounds"]
theorem scleast_rounds : FnScope NNleast_rounds ["section", "many"] (defScope (KH.top 25)) := ⟨rfl, rfl, rfl, by decide +kernel, rfl, by decide +kernel, by decide +kernel⟩
theorem cal_least_rounds (B : Blt mg) (D : Df K mg "least_rounds" 25) (Claid_counts : Cal P w K mg base "laid_counts" ["section"] 9 spCounts) :
    Cal P w K mg base "least_rounds" ["section", "many"] 10 spLeast :=
  cal_pure D scleast_rounds (fun _ _ _ _ _ _ us hl => match us, hl with | [_, _], _ => rfl) (rD_len) fun f cdv A outer s H es Φ hr h => by
    obtain ⟨ds, d, hn, rfl, ⟨S, d0, n, m, rfl, wf, hd, il, hc⟩, rfl⟩ := h
    refine ⟨_, (pss_cons (ps_par (i := 2) (j := 3) rfl scleast_rounds.nd rfl rfl (by decide) rfl rfl (pa_cons pe_int (pa_cons (pe_cal Claid_counts hr (by rfl) (pa_cons (pv 0) pa_nil)) pa_nil)) (by rfl))
      (pss_cons (ps_for PassesOwn.never rfl (pi_range1 (by rfl) B.range (pa_cons (pe_op op_add (pe_callB (call_len_seqK (K := K) rfl) (by rfl) B.len bt_len (pa_cons (pv 3) pa_nil)) pe_int) pa_nil)) (pg_name (i := 4) scleast_rounds.nd rfl (Or.inl rfl))
      (pss_cons (ps_aug (i := 2) scleast_rounds.nd rfl (Or.inl rfl) (pe_ifExp (pt_cmpR op_gt (pv 4) pe_int (nomark _)) (pe_ix (ix_seqK (K := K) rfl) (pv 3) (pe_op op_sub (pv 4) pe_int) (fun _ _ => rfl)) pe_int) ip_add)
      (pss_one (ps_if (pt_cmpR op_ge (pv 2) (pv 1) (nomark _)) (pss_one (ps_ret (pv 4))) pss_nil))))
      (pss_one (ps_ret pe_non)))), ?_⟩
    clear hr
    have n7 := il.le wf
    refine b_par (e1 := .dat (.int 0)) (e2 := .dat (cntD S n)) (a_cons e_int (a_cons (e_call (ds := [d0]) (a_cons (e_var rfl) a_nil) ⟨S, d0, n, rfl, wf, hd, il, rfl⟩) a_nil)) ?_
    intro σ H O D l g q
    have cl : ((List.range n).map fun i => PyData.int (lenL S i : Int)).length = n := by simp
    refine for_src (src_to (src_rng1 (n := (n : Int) + 1) (a_cons (e_I0 (e_len (ds := (List.range n).map fun i => .int (lenL S i : Int)) (e_var rfl) rfl) e_int) a_nil |> fun z => by rw [cl] at z; exact z) (by omega) (by omega)) rfl) l g fun H1 s1 => ⟨fun i σ' H' => Same H1 H' ∧ (∀ r, r < i → (tot S r : Int) < m) ∧ Live O H' ∧ EnvOk (cut O H') σ' [.dat d0, .dat (.int m), .dat (.int (tot S (i - 1) : Int)), .dat (cntD S n), .unk], ?_, ?_, ?_, ?_⟩
    · exact ⟨Same.refl _, fun r hr => by omega, l.mono s1, g.mono (cut_mono s1)⟩
    · rintro i σ' H' _ ⟨s2, _⟩
      exact cut_mono s2
    · intro i d x σ' H' H2 ed ⟨s2, hlt, l2, g2⟩ s3 hx
      have hi : i < n + 1 := by
        have := (List.getElem?_eq_some_iff.mp ed).1
        rw [rgD_length] at this
        omega
      rw [rgD_get (by omega)] at ed
      have ed := Option.some.inj ed
      subst ed
      have g3 := (g2.mono (cut_mono s3)).set (.dat (hx O l2 (cut_mono s2))) 4
      have l3 := l2.mono s3
      have hy : Ed (tIf (tTest (tOp (rI0 fun i j => .bl (decide (i > j))) (tVar 4) (tC (.int 0)))) (tOp (rIx K) (tVar 3) (tOp (rI0 fun i j => .int (i - j)) (tVar 4) (tC (.int 1)))) (tC (.int 0))) _ (.int ((if i = 0 then 0 else lenL S (i - 1) : Nat) : Int)) := es_if (t_tst (e_B0 (e_var (i := 4) (Γ := [.dat d0, .dat (.int m), .dat (.int (tot S (i - 1) : Int)), .dat (cntD S n), .dat (.int (0 + (i : Int)))]) rfl) e_int)) (fun z => by
          have z := of_decide_eq_true z
          have i0 : i ≠ 0 := by omega
          rw [if_neg i0]
          refine e_ix (e_var rfl) (e_to (e_I0 (e_var rfl) e_int) (e' := .dat (.int ((i - 1 : Nat) : Int))) (by congr 2; omega)) rfl (atI_nat ?_)
          rw [List.getElem?_map, List.getElem?_range (by omega)]
          rfl) (fun z => by
          have z := of_decide_eq_false z
          have i0 : i = 0 := by omega
          rw [if_pos i0]
          exact e_int)
      have tt : (tot S (i - 1) : Int) + ((if i = 0 then 0 else lenL S (i - 1) : Nat) : Int) = (tot S i : Int) := by
        by_cases i0 : i = 0
        · subst i0; rfl
        · rw [if_neg i0]
          obtain ⟨j, rfl⟩ : ∃ j, i = j + 1 := ⟨i - 1, by omega⟩
          rw [tot_succ]
          rfl
      refine s_augI (z := (tot S i : Int)) l3 g3 rfl hy tt fun H3 s4 l4 g4 => ?_
      refine t_tst (e_B0 (e_var rfl) (e_var rfl)) _ H3 O l4 g4 _ fun H4 s5 => ?_
      have s6 := (s2.trans (s3.trans s4)).trans s5
      by_cases hm : m ≤ (tot S i : Int)
      · rw [if_pos (decide_eq_true hm)]
        refine (e_var (i := 4) (e := .dat (.int (0 + (i : Int)))) rfl) _ H4 O (l4.mono s5) (g4.mono (cut_mono s5)) _ fun v H5 e z s7 r7 => ?_
        refine q v H5 _ ?_ ((s1.trans s6).trans s7) r7
        rw [z]
        rcases hc with ⟨r, h1, h2, h3, rfl⟩ | ⟨h, _⟩
        · have : r = i := by
            rcases Nat.lt_trichotomy r i with y | y | y
            · have := hlt r y; omega
            · exact y
            · have := h3 i y; omega
          subst this
          rw [Int.zero_add]
        · have := h i (by omega); omega
      · rw [if_neg (by rw [decide_eq_true_eq]; exact hm)]
        refine ⟨s6, fun r hr => ?_, l4.mono s5, (g4.mono (cut_mono s5)).blur 4⟩
        by_cases e : r = i
        · subst e; omega
        · exact hlt r (by omega)
    · rintro σ' H' ⟨s2, hlt, l2, g2⟩
      refine e_non σ' H' O l2 g2 _ fun v H5 e z s7 r7 => ?_
      refine q v H5 _ ?_ ((s1.trans s2).trans s7) r7
      rw [z]
      rcases hc with ⟨r, h1, h2, h3, rfl⟩ | ⟨h, rfl⟩
      · have := hlt r (by rw [rgD_length]; omega); omega
      · rfl
end KP
/-! Q1 -/
set_option Elab.async false
set_option linter.all false
set_option maxRecDepth 100000
set_option maxHeartbeats 4000000
namespace KQ
open PySem L2 KV KR KS KC KD KX KP
variable {P : Program} {w : World} {K : PySem.W.Frag} {mg : Str → Option Value} {base : Heap}
/-! ### _law_at -/
def atD (S : Sec) (c : KV.Cell) : PyData := if (0 ≤ c.1 ∧ c.1 < (S.length : Int)) ∧ c.2 < (ht S : Int) then (if c.2 < 0 then .int (-1) else .int ((valAt S c).getD 0)) else .none
abbrev spAt : Sp := spE (rD 3 fun ds d => ∃ S c, ds = [secD S, .int c.1, .int c.2] ∧ Wf S ∧ d = atD S c)
abbrev NN_law_at : List Str := ["_law_pile_so", "_law_c", "_law_h"]
theorem sc_law_at : FnScope NN_law_at ["_law_pile_so", "_law_c", "_law_h"] (defScope (KH.top 37)) := ⟨rfl, rfl, rfl, by decide +kernel, rfl, by decide +kernel, by decide +kernel⟩
theorem cal_law_at (B : Blt mg) (D : Df K mg "_law_at" 37) : Cal P w K mg base "_law_at" ["_law_pile_so", "_law_c", "_law_h"] 1 spAt :=
  cal_pure D sc_law_at (fun _ _ _ _ _ _ us hl => match us, hl with | [_, _, _], _ => rfl) (rD_len) fun f cdv A outer s H es Φ hr h => by
    obtain ⟨ds, d, hn, rfl, ⟨S, c, rfl, wf, rfl⟩, rfl⟩ := h
    refine ⟨_, (pss_cons (ps_if (PW.pt (pw_or (pt_not (pt_chain op_le op_lt pe_int (pv 1) (pe_callB (call_len_seqK (K := K) rfl) (by rfl) B.len bt_len (pa_cons (pv 0) pa_nil)))) (pw_or1 (pt_cmpR op_ge (pv 2) (pe_callB (call_len_seqK (K := K) rfl) (by rfl) B.len bt_len (pa_cons (pe_ix (ix_seqK (K := K) rfl) (pv 0) pe_int (fun _ _ => rfl)) pa_nil)) (nomark _))))) (pss_one (ps_ret pe_non)) pss_nil)
      (pss_one (ps_ret (pe_ifExp (pt_cmpR op_lt (pv 2) pe_int (nomark _)) (pe_un un_neg pe_int) (pe_ix (ix_seqK (K := K) rfl) (pe_ix (ix_seqK (K := K) rfl) (pv 0) (pv 1) (fun _ _ => rfl)) (pv 2) (fun _ _ => rfl)))))), ?_⟩
    clear hr
    obtain ⟨col, s0, sl⟩ := sec_0 wf
    refine b_if (b := !decide ((0 ≤ c.1 ∧ c.1 < (S.length : Int)) ∧ c.2 < (ht S : Int))) (t_to (t_or (t_not (t_tst (e_chain e_int (e_var rfl) fun _ => e_len (e_var rfl) rfl))) fun _ => t_tst (e_B0 (e_var rfl) (e_len (e_ix (e_var rfl) e_int rfl s0) rfl))) ?_) (fun z => ?_) (fun z => ?_)
    · simp only [List.length_map, sl]
      rw [Bool.eq_iff_iff]
      simp only [Bool.or_eq_true, Bool.not_eq_true', Bool.and_eq_false_iff, decide_eq_false_iff_not, decide_eq_true_eq]
      constructor
      · intro h q; omega
      · intro h
        by_cases a : 0 ≤ c.1 ∧ c.1 < (S.length : Int)
        · right; exact Int.not_lt.mp fun z => h ⟨a, z⟩
        · left
          by_cases b : 0 ≤ c.1
          · right; exact fun z => a ⟨b, z⟩
          · left; exact b
    · refine b_ret (e_to e_non ?_)
      unfold atD
      rw [if_neg (by rw [Bool.not_eq_true', decide_eq_false_iff_not] at z; exact z)]
    · have z : (0 ≤ c.1 ∧ c.1 < (S.length : Int)) ∧ c.2 < (ht S : Int) := by rw [Bool.not_eq_false', decide_eq_true_eq] at z; exact z
      refine b_ret (es_if (b := decide (c.2 < 0)) (t_tst (e_B0 (e_var rfl) e_int)) (fun y => e_to (e_un (f := fun i => -i) e_int) ?_) fun y => ?_)
      · unfold atD
        rw [if_pos z, if_pos (of_decide_eq_true y)]
      · have y := of_decide_eq_false y
        obtain ⟨v, ev, _⟩ := valAt_in wf (p := c) ⟨z.1.1, z.1.2, by omega, z.2⟩
        refine e_to (e_at ev (e_var rfl) (e_var rfl) (e_var rfl)) ?_
        unfold atD
        rw [if_pos z, if_neg y, ev]
        rfl
/-! ### _law_round_about -/
def around (c : KV.Cell) : List KV.Cell := [(c.1 - 1, c.2), (c.1 + 1, c.2), (c.1, c.2 - 1), (c.1, c.2 + 1)]
abbrev spAround : Sp := spE (rD 1 fun ds d => ∃ c, ds = [cellD c] ∧ d = .list ((around c).map cellD))
abbrev NN_law_round_about : List Str := ["_law_spot_so", "_law_c", "_law_h"]
theorem sc_law_round_about : FnScope NN_law_round_about ["_law_spot_so"] (defScope (KH.top 38)) := ⟨rfl, rfl, rfl, by decide +kernel, rfl, by decide +kernel, by decide +kernel⟩
theorem cal_law_round_about (B : Blt mg) (D : Df K mg "_law_round_about" 38) : Cal P w K mg base "_law_round_about" ["_law_spot_so"] 1 spAround :=
  cal_pure D sc_law_round_about (fun _ _ _ _ _ _ us hl => match us, hl with | [_], _ => rfl) (rD_len) fun f cdv A outer s H es Φ hr h => by
    obtain ⟨ds, d, hn, rfl, ⟨c, rfl, rfl⟩, rfl⟩ := h
    refine ⟨_, (pss_cons (ps_asg (pv 0) (pg_tupK (K := K) rfl (n := 2) rfl (pgs_cons (pg_name (i := 1) sc_law_round_about.nd rfl (Or.inl rfl)) (pgs_cons (pg_name (i := 2) sc_law_round_about.nd rfl (Or.inl rfl)) pgs_nil))))
      (pss_one (ps_ret (pe_lst (pa_cons (pe_tup (pa_cons (pe_op op_sub (pv 1) pe_int) (pa_cons (pv 2) pa_nil))) (pa_cons (pe_tup (pa_cons (pe_op op_add (pv 1) pe_int) (pa_cons (pv 2) pa_nil))) (pa_cons (pe_tup (pa_cons (pv 1) (pa_cons (pe_op op_sub (pv 2) pe_int) pa_nil))) (pa_cons (pe_tup (pa_cons (pv 1) (pa_cons (pe_op op_add (pv 2) pe_int) pa_nil))) pa_nil)))))))), ?_⟩
    clear hr
    refine b_pair (d1 := .int c.1) (d2 := .int c.2) (e_var rfl) ?_
    exact b_ret (n_lst (ds := (around c).map cellD) (a_cons (e_tup (a_cons (e_I0 (e_var rfl) e_int) (a_cons (e_var rfl) a_nil))) (a_cons (e_tup (a_cons (e_I0 (e_var rfl) e_int) (a_cons (e_var rfl) a_nil))) (a_cons (e_tup (a_cons (e_var rfl) (a_cons (e_I0 (e_var rfl) e_int) a_nil))) (a_cons (e_tup (a_cons (e_var rfl) (a_cons (e_I0 (e_var rfl) e_int) a_nil))) a_nil))))).e
/-! ### _law_all_spots -/
abbrev spSpots : Sp := spE (rD 1 fun ds d => ∃ S, ds = [secD S] ∧ Wf S ∧ d = .list ((cells S).map cellD))
abbrev NN_law_all_spots : List Str := ["_law_pile_so", "_law_found", "_law_c", "_law_h"]
theorem sc_law_all_spots : FnScope NN_law_all_spots ["_law_pile_so"] (defScope (KH.top 39)) := ⟨rfl, rfl, rfl, by decide +kernel, rfl, by decide +kernel, by decide +kernel⟩
theorem cal_law_all_spots (B : Blt mg) (D : Df K mg "_law_all_spots" 39) : Cal P w K mg base "_law_all_spots" ["_law_pile_so"] 1 spSpots :=
  cal_pure D sc_law_all_spots (fun _ _ _ _ _ _ us hl => match us, hl with | [_], _ => rfl) (rD_len) fun f cdv A outer s H es Φ hr h => by
    obtain ⟨ds, d, hn, rfl, ⟨S, rfl, wf, rfl⟩, rfl⟩ := h
    refine ⟨_, (pss_cons (ps_set (i := 1) sc_law_all_spots.nd rfl (Or.inl rfl) (pe_lst pa_nil))
      (pss_cons (ps_for PassesOwn.never rfl (pi_range1 (by rfl) B.range (pa_cons (pe_callB (call_len_seqK (K := K) rfl) (by rfl) B.len bt_len (pa_cons (pv 0) pa_nil)) pa_nil)) (pg_name (i := 2) sc_law_all_spots.nd rfl (Or.inr rfl))
      (pss_one (ps_set (i := 1) sc_law_all_spots.nd rfl (Or.inl rfl) (pe_op op_cat (pv 1) (pe_lc (own := [("_law_h", 3)]) rfl sc_law_all_spots.nd (pi_range1 (by rfl) B.range (pa_cons (pe_callB (call_len_seqK (K := K) rfl) (by rfl) B.len bt_len (pa_cons (pe_ix (ix_seqK (K := K) rfl) (pv 0) pe_int (fun _ _ => rfl)) pa_nil)) pa_nil)) (blkOk_by (sc := defScope (KH.top 39)) (own := [("_law_h", 3)]) (N := NN_law_all_spots) (by decide +kernel)) (fun _ _ _ _ _ => (pg_name (i := 3) sc_law_all_spots.nd rfl (Or.inl rfl))) (fun _ _ _ _ _ => pts_nil) (fun _ _ _ _ _ => (pe_tup (pa_cons (pv 2) (pa_cons (pv 3) pa_nil)))))))))
      (pss_one (ps_ret (pv 1))))), ?_⟩
    clear hr
    obtain ⟨col, s0, sl⟩ := sec_0 wf
    have wide := wf.wide
    have tall := wf.tall
    refine b_asg (e := .dat (.list [])) (n_lst (ds := []) a_nil).e ?_
    intro σ H O D l g q
    refine for_src (src_to (src_rng1 (n := (S.length : Int)) (a_cons (e_to (e_len (ds := S.map colD) (e_var rfl) rfl) (by rw [List.length_map])) a_nil) (by omega) (by omega)) rfl) l g fun H1 s1 => ⟨fun i σ' H' => Same H1 H' ∧ Live O H' ∧ EnvOk (cut O H') σ' [.dat (secD S), .dat (.list ((grid i (ht S)).map cellD)), .unk, .unk], ?_, ?_, ?_, ?_⟩
    · exact ⟨Same.refl _, l.mono s1, g.mono (cut_mono s1)⟩
    · rintro i σ' H' _ ⟨s2, _⟩
      exact cut_mono s2
    · intro i d x σ' H' H2 ed ⟨s2, l2, g2⟩ s3 hx
      have hi : i < S.length := by
        have := (List.getElem?_eq_some_iff.mp ed).1
        rw [rgD_length] at this
        omega
      rw [rgD_get (by omega)] at ed
      have ed := Option.some.inj ed
      subst ed
      have g3 := (g2.mono (cut_mono s3)).set (.dat (hx O l2 (cut_mono s2))) 2
      have l3 := l2.mono s3
      have gl : (grid i (ht S)).length ≤ 54 := by rw [grid_length]; exact Nat.mul_le_mul (by omega : i ≤ 9) tall
      refine s_let1 (te := tOp rCat _ _) (i := 1) (e := .dat (.list ((grid (i + 1) (ht S)).map cellD))) l3 g3 (NL.e (nl_to (n_cat (ds := (grid i (ht S)).map cellD) (es := (List.range (ht S)).map fun (h : Nat) => cellD ((i : Int), (h : Int))) (e_var rfl) (NL.e (n_lcB (emb := fun h : Nat => .int (0 + (h : Int))) (qs := List.range (ht S)) (fun h => (wipeG _ [3]).set 3 (.dat (.int (0 + (h : Int))))) (fun h => cellD ((i : Int), (h : Int)))
        (src_to (src_rng1 (n := (ht S : Int)) (a_cons (e_to (e_len (e_ix (e_var rfl) e_int rfl s0) rfl) (by rw [List.length_map, sl])) a_nil) (by omega) (by omega)) rfl) (by rw [List.length_range]; omega) (fun h _ => tg_name 3) (by simp)
        (fun h _ => e_tup (a_cons (e_to (e_var rfl) (show En.dat (.int (0 + (i : Int))) = .dat (.int (i : Int)) by rw [Int.zero_add])) (a_cons (e_to (e_var rfl) (show En.dat (.int (0 + (h : Int))) = .dat (.int (h : Int)) by rw [Int.zero_add])) a_nil))))) (by
          rw [List.length_map, List.length_map, List.length_range]; omega)) ?_)) fun v4 H4 s4 l4 g4 => ⟨s2.trans (s3.trans s4), l4, g4.blur 2⟩
      unfold grid
      rw [List.range_succ, List.flatMap_append, List.map_append]
      congr 1
      simp [List.map_map]
    · rintro σ' H' ⟨s2, l2, g2⟩
      refine (e_var (i := 1) (e := .dat (.list ((cells S).map cellD))) ?_) σ' H' O l2 g2 _ fun v H5 e z s7 r7 => q v H5 e z ((s1.trans s2).trans s7) r7
      rw [rgD_length, Int.toNat_natCast]
      rfl
/-! ### _law_airs -/
abbrev spAirs : Sp := spE (rD 1 fun ds d => ∃ S, ds = [secD S] ∧ Wf S ∧ d = .list ((sel S (gd S).air).map cellD))
abbrev NN_law_airs : List Str := ["_law_pile_so", "_law_own"]
theorem sc_law_airs : FnScope NN_law_airs ["_law_pile_so"] (defScope (KH.top 57)) := ⟨rfl, rfl, rfl, by decide +kernel, rfl, by decide +kernel, by decide +kernel⟩
theorem cal_law_airs (B : Blt mg) (D : Df K mg "_law_airs" 57) (C_law_all_spots : Cal P w K mg base "_law_all_spots" ["_law_pile_so"] 1 spSpots) : Cal P w K mg base "_law_airs" ["_law_pile_so"] 2 spAirs :=
  cal_pure D sc_law_airs (fun _ _ _ _ _ _ us hl => match us, hl with | [_], _ => rfl) (rD_len) fun f cdv A outer s H es Φ hr h => by
    obtain ⟨ds, d, hn, rfl, ⟨S, rfl, wf, rfl⟩, rfl⟩ := h
    refine ⟨_, (pss_one (ps_ret (pe_lc (own := [("_law_own", 1)]) rfl sc_law_airs.nd (pi_listK (K := K) rfl (pe_cal C_law_all_spots hr (by rfl) (pa_cons (pv 0) pa_nil))) (blkOk_by (sc := defScope (KH.top 57)) (own := [("_law_own", 1)]) (N := NN_law_airs) (by decide +kernel)) (fun _ _ _ _ _ => (pg_name (i := 1) sc_law_airs.nd rfl (Or.inl rfl))) (fun _ _ _ _ _ => (pts_one (pt_cmpR op_eq (pe_ix (ix_seqK (K := K) rfl) (pe_ix (ix_seqK (K := K) rfl) (pv 0) (pe_ix (ix_seqK (K := K) rfl) (pv 1) pe_int (fun _ _ => rfl)) (fun _ _ => rfl)) (pe_ix (ix_seqK (K := K) rfl) (pv 1) pe_int (fun _ _ => rfl)) (fun _ _ => rfl)) pe_int (nomark _)))) (fun _ _ _ _ _ => (pv 1))))), ?_⟩
    clear hr
    let v : KV.Cell → Int := fun c => (valAt S c).getD 0
    have hv : ∀ c ∈ cells S, valAt S c = some (v c) := fun c hc => by
      obtain ⟨v, e, _⟩ := valAt_in wf (mem_cells.mp hc)
      show _ = some ((valAt S c).getD 0)
      rw [e]; rfl
    refine b_ret (NL.e (nl_to (n_lcA (emb := cellD) (qs := cells S) (fun c => (wipeG _ [1]).set 1 (.dat (cellD c))) (fun c => decide (v c = 0)) cellD (src_list (e_call (ds := [secD S]) (a_cons (e_var rfl) a_nil) ⟨S, rfl, wf, rfl⟩)) (Nat.le_trans (cells_length wf) (by decide)) (fun c _ => tg_name 1) (by simp)
      (fun c hc => t_tst (e_eqI (e_at (hv c hc) (e_var rfl) (e_c0 (e_var rfl)) (e_c1' (e_var rfl))) e_int)) (fun c _ _ => e_var rfl)) ?_))
    congr 1
    unfold sel
    refine List.filter_congr fun c hc => ?_
    have e := hv c hc
    by_cases z : v c = 0
    · have : (gd S).air c := by rw [air_iff, e, z]
      simp [z, this]
    · have : ¬ (gd S).air c := by rw [notair e]; exact z
      simp [z, this]
/-! ### _law_lists -/
abbrev spLists (n : Nat) : Sp := spE (rD 1 fun ds d => ∃ d0, ds = [d0] ∧ okD n d0 ∧ d = lstF n d0)
abbrev NN_law_lists : List Str := ["_law_matter", "_law_bit"]
theorem sc_law_lists : FnScope NN_law_lists ["_law_matter"] (defScope (KH.top 32)) := ⟨rfl, rfl, rfl, by decide +kernel, rfl, by decide +kernel, by decide +kernel⟩
theorem cal_law_lists0 (B : Blt mg) (D : Df K mg "_law_lists" 32) : Cal P w K mg base "_law_lists" ["_law_matter"] 1 (spLists 0) :=
  cal_pure D sc_law_lists (fun _ _ _ _ _ _ us hl => match us, hl with | [_], _ => rfl) (rD_len) fun f cdv A outer s H es Φ hr h => by
    obtain ⟨ds, d, hn, rfl, ⟨d0, rfl, ⟨i, rfl⟩, rfl⟩, rfl⟩ := h
    refine ⟨_, (pss_one (ps_ret (pe_ifExp (pt_val (pe_callB (call_isiTK (K := K) rfl) (by rfl) B.isinstance bt_isinstance (pa_cons (pv 0) (pa_cons (pe_tup (pa_cons (pe_bltn (v := .ty "list") (by rfl) B.list bt_list rfl) (pa_cons (pe_bltn (v := .ty "tuple") (by rfl) B.tuple bt_tuple rfl) pa_nil))) pa_nil)))) pe_no (pv 0)))), ?_⟩
    exact b_ret (es_if (t_B (e_isi2 (e_var rfl) kt_int_list kt_int_tuple)) (fun z => nomatch z) fun _ => e_var rfl)
theorem cal_law_lists1 (B : Blt mg) (D : Df K mg "_law_lists" 32) {n : Nat} (C_law_lists : Cal P w K mg base "_law_lists" ["_law_matter"] (n + 1) (spLists n)) : Cal P w K mg base "_law_lists" ["_law_matter"] (n + 1 + 1) (spLists (n + 1)) :=
  cal_pure D sc_law_lists (fun _ _ _ _ _ _ us hl => match us, hl with | [_], _ => rfl) (rD_len) fun f cdv A outer s H es Φ hr h => by
    obtain ⟨ds, d, hn, rfl, ⟨d0, rfl, h, rfl⟩, rfl⟩ := h
    rcases h with ⟨i, rfl⟩ | ⟨ds, rfl | rfl, hl, h⟩
    · refine ⟨_, (pss_one (ps_ret (pe_ifExp (pt_val (pe_callB (call_isiTK (K := K) rfl) (by rfl) B.isinstance bt_isinstance (pa_cons (pv 0) (pa_cons (pe_tup (pa_cons (pe_bltn (v := .ty "list") (by rfl) B.list bt_list rfl) (pa_cons (pe_bltn (v := .ty "tuple") (by rfl) B.tuple bt_tuple rfl) pa_nil))) pa_nil)))) pe_no (pv 0)))), ?_⟩
      exact b_ret (es_if (t_B (e_isi2 (e_var rfl) kt_int_list kt_int_tuple)) (fun z => nomatch z) fun _ => e_var rfl)
    · refine ⟨_, (pss_one (ps_ret (pe_ifExp (pt_val (pe_callB (call_isiTK (K := K) rfl) (by rfl) B.isinstance bt_isinstance (pa_cons (pv 0) (pa_cons (pe_tup (pa_cons (pe_bltn (v := .ty "list") (by rfl) B.list bt_list rfl) (pa_cons (pe_bltn (v := .ty "tuple") (by rfl) B.tuple bt_tuple rfl) pa_nil))) pa_nil)))) (pe_lc (own := [("_law_bit", 1)]) rfl sc_law_lists.nd (pi_listK (K := K) rfl (pv 0)) (blkOk_by (sc := defScope (KH.top 32)) (own := [("_law_bit", 1)]) (N := NN_law_lists) (by decide +kernel)) (fun _ _ _ _ _ => (pg_name (i := 1) sc_law_lists.nd rfl (Or.inl rfl))) (fun _ _ _ _ _ => pts_nil) (fun _ _ _ _ _ => (pe_cal C_law_lists hr (by rfl) (pa_cons (pv 1) pa_nil)))) (pv 0)))), ?_⟩
      refine b_ret (es_if (t_B (e_isi2 (e_var rfl) kt_list_list kt_list_tuple)) (fun _ => (n_lcm (fun d => (wipeG (ent0 NN_law_lists [.dat (.list ds)]) [1]).set 1 (.dat d)) (lstF n) (src_list (e_var rfl)) (by omega) (fun d _ => tg_name 1) (by simp) (fun d hd => ?_)).e) fun z => nomatch z)
      exact e_call (ds := [d]) (a_cons (e_var rfl) a_nil) ⟨d, rfl, h d hd, rfl⟩
    · refine ⟨_, (pss_one (ps_ret (pe_ifExp (pt_val (pe_callB (call_isiTK (K := K) rfl) (by rfl) B.isinstance bt_isinstance (pa_cons (pv 0) (pa_cons (pe_tup (pa_cons (pe_bltn (v := .ty "list") (by rfl) B.list bt_list rfl) (pa_cons (pe_bltn (v := .ty "tuple") (by rfl) B.tuple bt_tuple rfl) pa_nil))) pa_nil)))) (pe_lc (own := [("_law_bit", 1)]) rfl sc_law_lists.nd (pi_tupK (K := K) rfl (pv 0)) (blkOk_by (sc := defScope (KH.top 32)) (own := [("_law_bit", 1)]) (N := NN_law_lists) (by decide +kernel)) (fun _ _ _ _ _ => (pg_name (i := 1) sc_law_lists.nd rfl (Or.inl rfl))) (fun _ _ _ _ _ => pts_nil) (fun _ _ _ _ _ => (pe_cal C_law_lists hr (by rfl) (pa_cons (pv 1) pa_nil)))) (pv 0)))), ?_⟩
      refine b_ret (es_if (t_B (e_isi2 (e_var rfl) kt_tuple_list kt_tuple_tuple)) (fun _ => (n_lcm (fun d => (wipeG (ent0 NN_law_lists [.dat (.tuple ds)]) [1]).set 1 (.dat d)) (lstF n) (src_tup (e_var rfl)) (by omega) (fun d _ => tg_name 1) (by simp) (fun d hd => ?_)).e) fun z => nomatch z)
      exact e_call (ds := [d]) (a_cons (e_var rfl) a_nil) ⟨d, rfl, h d hd, rfl⟩
theorem cal_law_lists (B : Blt mg) (D : Df K mg "_law_lists" 32) : Cal P w K mg base "_law_lists" ["_law_matter"] 3 (spLists 2) := cal_law_lists1 B D (cal_law_lists1 B D (cal_law_lists0 B D))
/-! ### _law_same -/
def okS : Nat → PyData → Prop
  | 0, d => d = .none ∨ ∃ i, d = .int i
  | n + 1, d => (d = .none ∨ ∃ i, d = .int i) ∨ ∃ ds, (d = .list ds ∨ d = .tuple ds) ∧ ds.length ≤ 1000 ∧ ∀ e ∈ ds, okS n e
abbrev spSame (n : Nat) : Sp := spE (rD 2 fun ds d => ∃ d0, ds = [d0, d0] ∧ okS n d0 ∧ d = .bool true)
abbrev NN_law_same : List Str := ["_law_got", "_law_due", "_law_mine", "_law_its"]
theorem sc_law_same : FnScope NN_law_same ["_law_got", "_law_due"] (defScope (KH.top 33)) := ⟨rfl, rfl, rfl, by decide +kernel, rfl, by decide +kernel, by decide +kernel⟩
theorem zip_self (ds : List PyData) : zpD ds ds = ds.map fun d => .tuple [d, d] := by
  unfold zpD
  induction ds with
  | nil => rfl
  | cons d ds ih => rw [List.zip_cons_cons, List.map_cons, ih]; rfl
theorem cal_law_same0 (B : Blt mg) (D : Df K mg "_law_same" 33) : Cal P w K mg base "_law_same" ["_law_got", "_law_due"] 1 (spSame 0) :=
  cal_pure D sc_law_same (fun _ _ _ _ _ _ us hl => match us, hl with | [_, _], _ => rfl) (rD_len) fun f cdv A outer s H es Φ hr h => by
    obtain ⟨ds, d, hn, rfl, ⟨d0, rfl, h, rfl⟩, rfl⟩ := h
    refine ⟨_, (pss_cons (ps_if (pt_val (pe_callB (call_isiTK (K := K) rfl) (by rfl) B.isinstance bt_isinstance (pa_cons (pv 1) (pa_cons (pe_tup (pa_cons (pe_bltn (v := .ty "list") (by rfl) B.list bt_list rfl) (pa_cons (pe_bltn (v := .ty "tuple") (by rfl) B.tuple bt_tuple rfl) pa_nil))) pa_nil)))) (pss_cons (ps_if (PW.pt (pw_or (pt_cmpR op_ne (pe_callB (call_isiK (K := K) rfl) (by rfl) B.isinstance bt_isinstance (pa_cons (pv 0) (pa_cons (pe_bltn (v := .ty "list") (by rfl) B.list bt_list rfl) pa_nil))) (pe_callB (call_isiK (K := K) rfl) (by rfl) B.isinstance bt_isinstance (pa_cons (pv 1) (pa_cons (pe_bltn (v := .ty "list") (by rfl) B.list bt_list rfl) pa_nil))) (nomark _)) (pw_or1 (pt_cmpR op_ne (pe_callB (call_isiK (K := K) rfl) (by rfl) B.isinstance bt_isinstance (pa_cons (pv 0) (pa_cons (pe_bltn (v := .ty "tuple") (by rfl) B.tuple bt_tuple rfl) pa_nil))) (pe_callB (call_isiK (K := K) rfl) (by rfl) B.isinstance bt_isinstance (pa_cons (pv 1) (pa_cons (pe_bltn (v := .ty "tuple") (by rfl) B.tuple bt_tuple rfl) pa_nil))) (nomark _))))) (pss_one (ps_ret pe_bl)) pss_nil)
      (pss_one (ps_ret (pe_and (pe_cmpR op_eq (pe_callB (call_len_seqK (K := K) rfl) (by rfl) B.len bt_len (pa_cons (pv 0) pa_nil)) (pe_callB (call_len_seqK (K := K) rfl) (by rfl) B.len bt_len (pa_cons (pv 1) pa_nil)) (nomark _)) (pe_one (pe_callB (cr_allK (K := K) rfl rfl) (by rfl) B.all bt_all (pa_cons (pe_lc (own := [("_law_mine", 2), ("_law_its", 3)]) rfl sc_law_same.nd (pi_zipAK (K := K) rfl (by rfl) B.zip (pa_cons (pv 0) (pa_cons (pv 1) pa_nil))) (blkOk_by (sc := defScope (KH.top 33)) (own := [("_law_mine", 2), ("_law_its", 3)]) (N := NN_law_same) (by decide +kernel)) (fun _ _ _ _ _ => (pg_tupK (K := K) rfl (n := 2) rfl (pgs_cons (pg_name (i := 2) sc_law_same.nd rfl (Or.inl rfl)) (pgs_cons (pg_name (i := 3) sc_law_same.nd rfl (Or.inl rfl)) pgs_nil)))) (fun _ _ _ _ _ => pts_nil) (fun _ _ _ _ _ => pe_no)) pa_nil))))))) pss_nil)
      (pss_cons (ps_if (PW.pt (pw_or (pt_cmpR op_isN (pv 1) pe_non (nomark _)) (pw_or1 (pt_val (pe_callB (call_isiTK (K := K) rfl) (by rfl) B.isinstance bt_isinstance (pa_cons (pv 1) (pa_cons (pe_tup (pa_cons (pe_bltn (v := .ty "bool") (by rfl) B.bool bt_bool rfl) (pa_cons (pe_bltn (v := .ty "str") (by rfl) B.str bt_str rfl) pa_nil))) pa_nil))))))) (pss_one (ps_ret (pe_and (pe_cmpR op_eq (pv 0) (pv 1) (nomark _)) (pe_and (pe_cmpR op_eq (pe_callB (call_isiK (K := K) rfl) (by rfl) B.isinstance bt_isinstance (pa_cons (pv 0) (pa_cons (pe_bltn (v := .ty "bool") (by rfl) B.bool bt_bool rfl) pa_nil))) (pe_callB (call_isiK (K := K) rfl) (by rfl) B.isinstance bt_isinstance (pa_cons (pv 1) (pa_cons (pe_bltn (v := .ty "bool") (by rfl) B.bool bt_bool rfl) pa_nil))) (nomark _)) (pe_one (pe_cmpR op_eq (pe_cmpR op_isN (pv 0) pe_non (nomark _)) (pe_cmpR op_isN (pv 1) pe_non (nomark _)) (nomark _))))))) pss_nil)
      (pss_one (ps_ret (pe_and (pe_callB (call_isiK (K := K) rfl) (by rfl) B.isinstance bt_isinstance (pa_cons (pv 0) (pa_cons (pe_bltn (v := .ty "int") (by rfl) B.int bt_int rfl) pa_nil))) (pe_and (pe_not (pe_callB (call_isiK (K := K) rfl) (by rfl) B.isinstance bt_isinstance (pa_cons (pv 0) (pa_cons (pe_bltn (v := .ty "bool") (by rfl) B.bool bt_bool rfl) pa_nil)))) (pe_one (pe_cmpR op_eq (pv 0) (pv 1) (nomark _))))))))), ?_⟩
    clear hr
    rcases h with rfl | ⟨i, rfl⟩
    · refine b_if (b := false) (t_B (e_isi2 (d := .none) (e_var rfl) kt_NoneType_list kt_NoneType_tuple)) (fun z => nomatch z) fun _ => ?_
      refine b_if (b := true) (t_to (t_or (b := false) (t_tst (e_isN (d := .none) (x := .non) (b := true) (e_var rfl) e_non fun H v h => by cases h; rfl)) (fun z => nomatch z)) rfl) (fun _ => ?_) (fun z => nomatch z)
      refine b_ret (e_andV (a := true) (e_to (e_eq (d1 := .none) (d2 := .none) (e_var rfl) (e_var rfl)) rfl) (fun _ => e_andV (a := true) (e_to (e_eq (d1 := .bool false) (d2 := .bool false) (e_isi (d := .none) (e_var rfl) kt_NoneType_bool) (e_isi (d := .none) (e_var rfl) kt_NoneType_bool)) rfl) (fun _ => e_to (e_eq (d1 := .bool true) (d2 := .bool true) (e_isN (d := .none) (x := .non) (b := true) (e_var rfl) e_non fun H v h => by cases h; rfl) (e_isN (d := .none) (x := .non) (b := true) (e_var rfl) e_non fun H v h => by cases h; rfl)) rfl) (fun z => nomatch z)) (fun z => nomatch z))
    · refine b_if (b := false) (t_B (e_isi2 (d := .int i) (e_var rfl) kt_int_list kt_int_tuple)) (fun z => nomatch z) fun _ => ?_
      refine b_if (b := false) (t_to (t_or (t_tst (e_isN (d := .int i) (x := .non) (b := false) (e_var rfl) e_non fun H v h => by cases h; rfl)) (fun _ => t_B (e_isi2 (d := .int i) (e_var rfl) kt_int_bool kt_int_str))) rfl) (fun z => nomatch z) fun _ => ?_
      refine b_ret (e_andV (a := true) (e_isi (d := .int i) (e_var rfl) kt_int_int) (fun _ => e_andV (a := true) (e_to (e_notV (e_isi (d := .int i) (e_var rfl) kt_int_bool)) rfl) (fun _ => e_to (e_eqI (e_var rfl) (e_var rfl)) (by rw [decide_eq_true rfl])) (fun z => nomatch z)) (fun z => nomatch z))
theorem cal_law_same1 (B : Blt mg) (D : Df K mg "_law_same" 33) {n k : Nat} (C_law_same : Cal P w K mg base "_law_same" ["_law_got", "_law_due"] k (spSame n)) :
    Cal P w K mg base "_law_same" ["_law_got", "_law_due"] (k + 1) (spSame (n + 1)) :=
  cal_pure D sc_law_same (fun _ _ _ _ _ _ us hl => match us, hl with | [_, _], _ => rfl) (rD_len) fun f cdv A outer s H es Φ hr h => by
    obtain ⟨ds, d, hn, rfl, ⟨d0, rfl, h, rfl⟩, rfl⟩ := h
    refine ⟨_, (pss_cons (ps_if (pt_val (pe_callB (call_isiTK (K := K) rfl) (by rfl) B.isinstance bt_isinstance (pa_cons (pv 1) (pa_cons (pe_tup (pa_cons (pe_bltn (v := .ty "list") (by rfl) B.list bt_list rfl) (pa_cons (pe_bltn (v := .ty "tuple") (by rfl) B.tuple bt_tuple rfl) pa_nil))) pa_nil)))) (pss_cons (ps_if (PW.pt (pw_or (pt_cmpR op_ne (pe_callB (call_isiK (K := K) rfl) (by rfl) B.isinstance bt_isinstance (pa_cons (pv 0) (pa_cons (pe_bltn (v := .ty "list") (by rfl) B.list bt_list rfl) pa_nil))) (pe_callB (call_isiK (K := K) rfl) (by rfl) B.isinstance bt_isinstance (pa_cons (pv 1) (pa_cons (pe_bltn (v := .ty "list") (by rfl) B.list bt_list rfl) pa_nil))) (nomark _)) (pw_or1 (pt_cmpR op_ne (pe_callB (call_isiK (K := K) rfl) (by rfl) B.isinstance bt_isinstance (pa_cons (pv 0) (pa_cons (pe_bltn (v := .ty "tuple") (by rfl) B.tuple bt_tuple rfl) pa_nil))) (pe_callB (call_isiK (K := K) rfl) (by rfl) B.isinstance bt_isinstance (pa_cons (pv 1) (pa_cons (pe_bltn (v := .ty "tuple") (by rfl) B.tuple bt_tuple rfl) pa_nil))) (nomark _))))) (pss_one (ps_ret pe_bl)) pss_nil)
      (pss_one (ps_ret (pe_and (pe_cmpR op_eq (pe_callB (call_len_seqK (K := K) rfl) (by rfl) B.len bt_len (pa_cons (pv 0) pa_nil)) (pe_callB (call_len_seqK (K := K) rfl) (by rfl) B.len bt_len (pa_cons (pv 1) pa_nil)) (nomark _)) (pe_one (pe_callB (cr_allK (K := K) rfl rfl) (by rfl) B.all bt_all (pa_cons (pe_lc (own := [("_law_mine", 2), ("_law_its", 3)]) rfl sc_law_same.nd (pi_zipAK (K := K) rfl (by rfl) B.zip (pa_cons (pv 0) (pa_cons (pv 1) pa_nil))) (blkOk_by (sc := defScope (KH.top 33)) (own := [("_law_mine", 2), ("_law_its", 3)]) (N := NN_law_same) (by decide +kernel)) (fun _ _ _ _ _ => (pg_tupK (K := K) rfl (n := 2) rfl (pgs_cons (pg_name (i := 2) sc_law_same.nd rfl (Or.inl rfl)) (pgs_cons (pg_name (i := 3) sc_law_same.nd rfl (Or.inl rfl)) pgs_nil)))) (fun _ _ _ _ _ => pts_nil) (fun _ _ _ _ _ => (pe_cal C_law_same hr (by rfl) (pa_cons (pv 2) (pa_cons (pv 3) pa_nil))))) pa_nil))))))) pss_nil)
      (pss_cons (ps_if (PW.pt (pw_or (pt_cmpR op_isN (pv 1) pe_non (nomark _)) (pw_or1 (pt_val (pe_callB (call_isiTK (K := K) rfl) (by rfl) B.isinstance bt_isinstance (pa_cons (pv 1) (pa_cons (pe_tup (pa_cons (pe_bltn (v := .ty "bool") (by rfl) B.bool bt_bool rfl) (pa_cons (pe_bltn (v := .ty "str") (by rfl) B.str bt_str rfl) pa_nil))) pa_nil))))))) (pss_one (ps_ret (pe_and (pe_cmpR op_eq (pv 0) (pv 1) (nomark _)) (pe_and (pe_cmpR op_eq (pe_callB (call_isiK (K := K) rfl) (by rfl) B.isinstance bt_isinstance (pa_cons (pv 0) (pa_cons (pe_bltn (v := .ty "bool") (by rfl) B.bool bt_bool rfl) pa_nil))) (pe_callB (call_isiK (K := K) rfl) (by rfl) B.isinstance bt_isinstance (pa_cons (pv 1) (pa_cons (pe_bltn (v := .ty "bool") (by rfl) B.bool bt_bool rfl) pa_nil))) (nomark _)) (pe_one (pe_cmpR op_eq (pe_cmpR op_isN (pv 0) pe_non (nomark _)) (pe_cmpR op_isN (pv 1) pe_non (nomark _)) (nomark _))))))) pss_nil)
      (pss_one (ps_ret (pe_and (pe_callB (call_isiK (K := K) rfl) (by rfl) B.isinstance bt_isinstance (pa_cons (pv 0) (pa_cons (pe_bltn (v := .ty "int") (by rfl) B.int bt_int rfl) pa_nil))) (pe_and (pe_not (pe_callB (call_isiK (K := K) rfl) (by rfl) B.isinstance bt_isinstance (pa_cons (pv 0) (pa_cons (pe_bltn (v := .ty "bool") (by rfl) B.bool bt_bool rfl) pa_nil)))) (pe_one (pe_cmpR op_eq (pv 0) (pv 1) (nomark _))))))))), ?_⟩
    clear hr
    rcases h with (rfl | ⟨i, rfl⟩) | ⟨ds, rfl | rfl, hl, h⟩
    · refine b_if (b := false) (t_B (e_isi2 (d := .none) (e_var rfl) kt_NoneType_list kt_NoneType_tuple)) (fun z => nomatch z) fun _ => ?_
      refine b_if (b := true) (t_to (t_or (b := false) (t_tst (e_isN (d := .none) (x := .non) (b := true) (e_var rfl) e_non fun H v h => by cases h; rfl)) (fun z => nomatch z)) rfl) (fun _ => ?_) (fun z => nomatch z)
      refine b_ret (e_andV (a := true) (e_to (e_eq (d1 := .none) (d2 := .none) (e_var rfl) (e_var rfl)) rfl) (fun _ => e_andV (a := true) (e_to (e_eq (d1 := .bool false) (d2 := .bool false) (e_isi (d := .none) (e_var rfl) kt_NoneType_bool) (e_isi (d := .none) (e_var rfl) kt_NoneType_bool)) rfl) (fun _ => e_to (e_eq (d1 := .bool true) (d2 := .bool true) (e_isN (d := .none) (x := .non) (b := true) (e_var rfl) e_non fun H v h => by cases h; rfl) (e_isN (d := .none) (x := .non) (b := true) (e_var rfl) e_non fun H v h => by cases h; rfl)) rfl) (fun z => nomatch z)) (fun z => nomatch z))
    · refine b_if (b := false) (t_B (e_isi2 (d := .int i) (e_var rfl) kt_int_list kt_int_tuple)) (fun z => nomatch z) fun _ => ?_
      refine b_if (b := false) (t_to (t_or (t_tst (e_isN (d := .int i) (x := .non) (b := false) (e_var rfl) e_non fun H v h => by cases h; rfl)) (fun _ => t_B (e_isi2 (d := .int i) (e_var rfl) kt_int_bool kt_int_str))) rfl) (fun z => nomatch z) fun _ => ?_
      refine b_ret (e_andV (a := true) (e_isi (d := .int i) (e_var rfl) kt_int_int) (fun _ => e_andV (a := true) (e_to (e_notV (e_isi (d := .int i) (e_var rfl) kt_int_bool)) rfl) (fun _ => e_to (e_eqI (e_var rfl) (e_var rfl)) (by rw [decide_eq_true rfl])) (fun z => nomatch z)) (fun z => nomatch z))
    · refine b_if (b := true) (t_B (e_isi2 (d := .list ds) (e_var rfl) kt_list_list kt_list_tuple)) (fun _ => ?_) (fun z => nomatch z)
      refine b_if (b := false) (t_to (t_or (t_tst (e_ne (d1 := .bool true) (d2 := .bool true) (e_isi (d := .list ds) (e_var rfl) kt_list_list) (e_isi (d := .list ds) (e_var rfl) kt_list_list))) (fun _ => t_tst (e_ne (d1 := .bool false) (d2 := .bool false) (e_isi (d := .list ds) (e_var rfl) kt_list_tuple) (e_isi (d := .list ds) (e_var rfl) kt_list_tuple)))) rfl) (fun z => nomatch z) fun _ => ?_
      refine b_ret (e_andV (a := true) (e_to (e_eqI (e_len (ds := ds) (e_var rfl) rfl) (e_len (ds := ds) (e_var rfl) rfl)) (by rw [decide_eq_true rfl])) (fun _ => e_to (e_all (bs := ds.map fun _ => true) (NL.e (nl_to (n_lcB (emb := fun d => .tuple [d, d]) (qs := ds) (fun d => ((wipeG _ [2, 3]).set 2 (.dat d)).set 3 (.dat d)) (fun _ => .bool true) (src_to (src_zipL (ds := ds) (es := ds) (a_cons (e_var rfl) (a_cons (e_var rfl) a_nil))) (zip_self ds)) (by omega) (fun d _ => tg_pair 2 3) (by simp) (fun d hd => e_call (ds := [d, d]) (a_cons (e_var rfl) (a_cons (e_var rfl) a_nil)) ⟨d, rfl, h d hd, rfl⟩)) (by rw [List.map_map]; rfl)))) (by rw [List.all_map]; congr 2; simp)) (fun z => nomatch z))
    · refine b_if (b := true) (t_B (e_isi2 (d := .tuple ds) (e_var rfl) kt_tuple_list kt_tuple_tuple)) (fun _ => ?_) (fun z => nomatch z)
      refine b_if (b := false) (t_to (t_or (t_tst (e_ne (d1 := .bool false) (d2 := .bool false) (e_isi (d := .tuple ds) (e_var rfl) kt_tuple_list) (e_isi (d := .tuple ds) (e_var rfl) kt_tuple_list))) (fun _ => t_tst (e_ne (d1 := .bool true) (d2 := .bool true) (e_isi (d := .tuple ds) (e_var rfl) kt_tuple_tuple) (e_isi (d := .tuple ds) (e_var rfl) kt_tuple_tuple)))) rfl) (fun z => nomatch z) fun _ => ?_
      refine b_ret (e_andV (a := true) (e_to (e_eqI (e_len (ds := ds) (e_var rfl) rfl) (e_len (ds := ds) (e_var rfl) rfl)) (by rw [decide_eq_true rfl])) (fun _ => e_to (e_all (bs := ds.map fun _ => true) (NL.e (nl_to (n_lcB (emb := fun d => .tuple [d, d]) (qs := ds) (fun d => ((wipeG _ [2, 3]).set 2 (.dat d)).set 3 (.dat d)) (fun _ => .bool true) (src_to (src_zipT (ds := ds) (es := ds) (a_cons (e_var rfl) (a_cons (e_var rfl) a_nil))) (zip_self ds)) (by omega) (fun d _ => tg_pair 2 3) (by simp) (fun d hd => e_call (ds := [d, d]) (a_cons (e_var rfl) (a_cons (e_var rfl) a_nil)) ⟨d, rfl, h d hd, rfl⟩)) (by rw [List.map_map]; rfl)))) (by rw [List.all_map]; congr 2; simp)) (fun z => nomatch z))
theorem cal_law_same (B : Blt mg) (D : Df K mg "_law_same" 33) : Cal P w K mg base "_law_same" ["_law_got", "_law_due"] 4 (spSame 3) := cal_law_same1 B D (cal_law_same1 B D (cal_law_same1 B D (cal_law_same0 B D)))
end KQ
/-! Q2 -/
set_option Elab.async false
set_option linter.all false
set_option maxRecDepth 100000
set_option maxHeartbeats 4000000
namespace KQ
open PySem L2 KV KR KS KC KD KX KP
variable {P : Program} {w : World} {K : PySem.W.Frag} {mg : Str → Option Value} {base : Heap}
/-! ### _law_grown -/
theorem e_eqB {Γ : List En} {ta tb : TE} {a b : Bool} (h : Ed ta Γ (.bool a)) (g : Ed tb Γ (.bool b)) : Ed (tOp rEq ta tb) Γ (.bool (decide (a = b))) := by
  refine e_to (e_eq (d1 := .bool a) (d2 := .bool b) h g) ?_
  cases a <;> cases b <;> rfl
theorem atD_in {S : Sec} (wf : Wf S) {c : KV.Cell} {v : Int} (h : valAt S c = some v) : atD S c = .int v := by
  obtain ⟨a, b, x, y⟩ := in_valAt wf h
  unfold atD
  rw [if_pos ⟨⟨a, b⟩, y⟩, if_neg (by omega), h]
  rfl
/-- the test of the growth -/
theorem t_grow {Γ : List En} {S : Sec} (wf : Wf S) {q : KV.Cell} {fl : List KV.Cell} {air : Bool} {th tn : TE} (hn : Ed (tDNotIn th tn) Γ (.bool (!decide (q ∈ fl)))) (h7 : Γ[7]? = some (.dat (atD S q))) (h2 : Γ[2]? = some (.dat (.bool air))) :
    ∃ b, (b = true ↔ q ∉ fl ∧ kind S air q) ∧ Tt (tAnd (tTest (tDNotIn th tn)) (tAnd (tTest (tOp (fun x y H Q => y = .non ∧ Q (.bl (!decide (x = .non))) H) (tVar 7) (tC .non))) (tAnd (tTest (tOp (rI0 fun i j => .bl (decide (i ≥ j))) (tVar 7) (tC (.int 0)))) (tTest (tOp rEq (tOp rEq (tVar 7) (tC (.int 0))) (tVar 2)))))) Γ b := by
  by_cases ig : InG S q
  · obtain ⟨v, ev, v0⟩ := valAt_in wf ig
    rw [atD_in wf ev] at h7
    have hv : Ed (tVar 7) Γ (.int v) := e_var h7
    refine ⟨!decide (q ∈ fl) && (true && (true && decide (decide (v = 0) = air))), ?_, t_and (t_tst hn) fun _ => t_and (t_tst (e_notN (d := .int v) (x := .non) (b := false) hv e_non fun H v h => by cases h; rfl)) fun _ => t_and (t_to (t_tst (e_B0 hv e_int)) (decide_eq_true v0)) fun _ => t_tst (e_eqB (e_eqI hv e_int) (e_var h2))⟩
    simp only [Bool.true_and, Bool.and_eq_true, Bool.not_eq_true', decide_eq_false_iff_not, decide_eq_true_eq]
    refine and_congr_right fun _ => ⟨fun h => ⟨v, ev, h⟩, fun ⟨u, eu, h⟩ => ?_⟩
    rw [ev] at eu
    rw [Option.some.inj eu]; exact h
  · have no : ¬ kind S air q := fun h => ig (kind_in wf h)
    by_cases h1 : (0 ≤ q.1 ∧ q.1 < (S.length : Int)) ∧ q.2 < (ht S : Int)
    · have h2' : q.2 < 0 := Int.not_le.mp fun z => ig ⟨h1.1.1, h1.1.2, z, h1.2⟩
      have ea : atD S q = .int (-1) := by unfold atD; rw [if_pos h1, if_pos h2']
      rw [ea] at h7
      have hv : Ed (tVar 7) Γ (.int (-1)) := e_var h7
      refine ⟨!decide (q ∈ fl) && (true && (false && false)), ?_, t_and (t_tst hn) fun _ => t_and (t_tst (e_notN (d := .int (-1)) (x := .non) (b := false) hv e_non fun H v h => by cases h; rfl)) fun _ => t_and (t_to (t_tst (e_B0 hv e_int)) (by decide)) fun z => nomatch z⟩
      simp only [Bool.and_false, Bool.false_eq_true, false_iff, not_and]
      exact fun _ => no
    · have ea : atD S q = .none := by unfold atD; rw [if_neg h1]
      rw [ea] at h7
      refine ⟨!decide (q ∈ fl) && (false && false), ?_, t_and (t_tst hn) fun _ => t_and (t_tst (e_notN (d := .none) (x := .non) (b := true) (e_var h7) e_non fun H v h => by cases h; rfl)) fun z => nomatch z⟩
      simp only [Bool.and_false, Bool.false_eq_true, false_iff, not_and]
      exact fun _ => no
abbrev spGrown : Sp := spE (rD 3 fun ds d => ∃ (S : Sec) (seeds : List KV.Cell) (air : Bool), ds = [secD S, .list (seeds.map cellD), .bool air] ∧ Wf S ∧ seeds.Nodup ∧ (∀ c ∈ seeds, InG S c) ∧ d = .list ((sel S (Rch (kind S air) (· ∈ seeds))).map cellD))
abbrev gGr (S : Sec) (seeds : List KV.Cell) (air : Bool) (N F : Addr) (e5 : En) : List En := [.dat (secD S), .dat (.list (seeds.map cellD)), .dat (.bool air), .ptr N, .ptr F, e5, .unk, .unk]
abbrev NN_law_grown : List Str := ["_law_pile_so", "_law_seeds_so", "_law_air", "_law_now_so", "_law_found", "_law_own", "_law_its", "_law_holds_so"]
theorem sc_law_grown : FnScope NN_law_grown ["_law_pile_so", "_law_seeds_so", "_law_air"] (defScope (KH.top 40)) := ⟨rfl, rfl, rfl, by decide +kernel, rfl, by decide +kernel, by decide +kernel⟩
theorem cal_law_grown (B : Blt mg) (D : Df K mg "_law_grown" 40) (C_law_at : Cal P w K mg base "_law_at" ["_law_pile_so", "_law_c", "_law_h"] 1 spAt) (C_law_round_about : Cal P w K mg base "_law_round_about" ["_law_spot_so"] 1 spAround) :
    Cal P w K mg base "_law_grown" ["_law_pile_so", "_law_seeds_so", "_law_air"] 2 spGrown :=
  cal_pure D sc_law_grown (fun _ _ _ _ _ _ us hl => match us, hl with | [_, _, _], _ => rfl) (rD_len) fun f cdv A outer s H es Φ hr h => by
    obtain ⟨ds, d, hn, rfl, ⟨S, seeds, air, rfl, wf, snd, sin, rfl⟩, rfl⟩ := h
    have hu := hu_of hr
    refine ⟨_, (pss_cons (ps_setLc (i := 3) (own := [("_law_own", 5)]) rfl sc_law_grown.nd rfl rfl (sw_true rfl rfl rfl (by decide +kernel)) (pi_listK (K := K) rfl (pv 1)) (blkOk_by (sc := defScope (KH.top 40)) (own := [("_law_own", 5)]) (N := NN_law_grown) (by decide +kernel)) (fun _ _ _ _ _ => (pg_name (i := 5) sc_law_grown.nd rfl (Or.inl rfl))) (fun _ _ _ _ _ => (pts_one (pt_cmpR op_eq (pe_cmpR op_eq (pe_cal C_law_at hr (by rfl) (pa_cons (pv 0) (pa_cons (pe_ix (ix_seqK (K := K) rfl) (pv 5) pe_int (fun _ _ => rfl)) (pa_cons (pe_ix (ix_seqK (K := K) rfl) (pv 5) pe_int (fun _ _ => rfl)) pa_nil)))) pe_int (nomark _)) (pv 2) (nomark _)))) (fun _ _ _ _ _ => (pv 5)))
      (pss_cons (ps_set (i := 4) sc_law_grown.nd rfl (Or.inl rfl) (pe_callTy (call_dictTK (K := K) rfl rfl hr.units) (by rfl) B.dict bt_dict (pa_cons (pe_lc (own := [("_law_own", 5)]) rfl sc_law_grown.nd (pi_listK (K := K) rfl (pv 3)) (blkOk_by (sc := defScope (KH.top 40)) (own := [("_law_own", 5)]) (N := NN_law_grown) (by decide +kernel)) (fun _ _ _ _ _ => (pg_name (i := 5) sc_law_grown.nd rfl (Or.inl rfl))) (fun _ _ _ _ _ => pts_nil) (fun _ _ _ _ _ => (pe_tup (pa_cons (pv 5) (pa_cons pe_bl pa_nil))))) pa_nil)))
      (pss_cons (ps_while PassesOwn.never (pt_cmpR (op_neDK (K := K) rfl hr.units) (pv 3) (pe_lst pa_nil) (nomark _))
      (pss_cons (ps_set (i := 5) sc_law_grown.nd rfl (Or.inl rfl) (pe_bm0K (K := K) rfl PySem.F.plainAttrs_list PySem.F.slot_list_pop PySem.F.type_list_pop mt_pop (pv 3)))
      (pss_one (ps_for PassesOwn.never rfl (pi_listK (K := K) rfl (pe_cal C_law_round_about hr (by rfl) (pa_cons (pv 5) pa_nil))) (pg_name (i := 6) sc_law_grown.nd rfl (Or.inl rfl))
      (pss_cons (ps_set (i := 7) sc_law_grown.nd rfl (Or.inl rfl) (pe_cal C_law_at hr (by rfl) (pa_cons (pv 0) (pa_cons (pe_ix (ix_seqK (K := K) rfl) (pv 6) pe_int (fun _ _ => rfl)) (pa_cons (pe_ix (ix_seqK (K := K) rfl) (pv 6) pe_int (fun _ _ => rfl)) pa_nil)))))
      (pss_one (ps_if (PW.pt (pw_and (pt_cmp (pc_dnotin hu (pv 6) (pv 4))) (pw_and (pt_cmpR op_notN (pv 7) pe_non (nomark _)) (pw_and (pt_cmpR op_ge (pv 7) pe_int (nomark _)) (pw_and1 (pt_cmpR op_eq (pe_cmpR op_eq (pv 7) pe_int (nomark _)) (pv 2) (nomark _))))))) (pss_cons (ps_dput hu (pv 4) (pv 6) pe_bl rfl)
      (pss_one (ps_expr (pe_bmK (K := K) rfl PySem.F.plainAttrs_list PySem.F.slot_list_append PySem.F.type_list_append mt_append (pv 3) (pa_cons (pv 6) pa_nil))))) pss_nil)))))))
      (pss_one (ps_ret (pe_callB (call_sortD (B := 64) rfl) (by rfl) B.sorted bt_sorted (pa_cons (pv 4) pa_nil))))))), ?_⟩
    clear hr hu
    have slen : seeds.length ≤ 54 := by
      rw [sel_len (S := S) (π := (· ∈ seeds)) snd fun c => ⟨fun h => ⟨sin c h, h⟩, fun h => h.2⟩]
      exact sel_length wf _
    let v : KV.Cell → Int := fun c => (valAt S c).getD 0
    have hv : ∀ c ∈ seeds, valAt S c = some (v c) := fun c hc => by
      obtain ⟨v, e, _⟩ := valAt_in wf (sin c hc)
      show _ = some ((valAt S c).getD 0)
      rw [e]; rfl
    let p : KV.Cell → Bool := fun c => decide (decide (v c = 0) = air)
    have hp : ∀ c ∈ seeds, (p c = true ↔ kind S air c) := fun c hc => by
      show decide (decide (v c = 0) = air) = true ↔ _
      rw [decide_eq_true_eq]
      constructor
      · intro h; exact ⟨v c, hv c hc, h⟩
      · rintro ⟨u, eu, h⟩
        rw [hv c hc] at eu
        rw [Option.some.inj eu]; exact h
    intro σ H O D l g q
    refine s_new (ds := (seeds.filter p).map cellD) l g (n_lcA (emb := cellD) (qs := seeds) (fun c => (wipeG _ [5]).set 5 (.dat (cellD c))) p cellD (src_list (e_var rfl)) (by omega) (fun c _ => tg_name 5) (by simp)
      (fun c hc => t_tst (e_eqB (e_eqI (e_to (e_call (ds := [secD S, .int c.1, .int c.2]) (a_cons (e_var rfl) (a_cons (e_c0 (e_var rfl)) (a_cons (e_c1' (e_var rfl)) a_nil))) ⟨S, c, rfl, wf, rfl⟩) (by rw [atD_in wf (hv c hc)])) e_int) (e_var rfl))) (fun c _ _ => e_var rfl)) fun N H1 xs nN s1 eN rN l1 g1 => ?_
    have nNO : N ∉ O := l.no nN
    have G0 : GW (kind S air) seeds (seeds.filter p) (seeds.filter p) := GW.first snd hp
    have g1' := g1.openL (O' := O) (i := 3) rfl (fun a h => List.mem_cons_of_mem _ h) nNO eN rN
    have l1' : Live O H1 := l1.sub fun a h => List.mem_cons_of_mem _ h
    refine nd_dictB (cs := seeds.filter p) (NL.e (nl_to (n_lcB (emb := cellD) (qs := seeds.filter p) (fun c => (wipeG _ [5]).set 5 (.dat (cellD c))) (fun c => .tuple [cellD c, .bool true]) (src_list (e_var rfl)) (Nat.le_trans (List.length_filter_le _ _) (by omega)) (fun c _ => tg_name 5) (by simp) (fun c _ => e_tup (a_cons (e_var rfl) (a_cons e_bl a_nil)))) rfl)) G0.nd _ H1 O l1' g1' _ fun F H2 nF s2 eF => ?_
    have l2 : Live (F :: N :: O) H2 := (l1.mono s2).cons eF fun _ z => nomatch z
    have g2 := (g1.mono (cut_cons nF s2)).set .ptr (i := 4) (v := .ref F)
    have nFO : F ∉ O := l1'.no nF
    have nFN : F ≠ N := fun z => by rw [z, eN] at nF; cases nF
    have fresh : ∀ H', Bu [F, N] H2 H' → Same H H' := fun H' b x o e => b x o (by
      simp only [List.mem_cons, List.not_mem_nil, or_false, not_or]
      exact ⟨ne_of_none e (s1.free nF), ne_of_none e nN⟩) (s2 _ _ (s1 _ _ e))
    refine ⟨fun m σ' H' => ∃ fl nw xs, m = 2 * (54 - fl.length) + nw.length ∧ GW (kind S air) seeds fl nw ∧ Bu [F, N] H2 H' ∧ H' F = some (.dT ((kvB fl).map ent)) ∧ H' N = some (.lst xs) ∧ RpAll (cut (F :: N :: O) H') xs (nw.map cellD) ∧ Live (F :: N :: O) H' ∧ EnvOk (cut (F :: N :: O) H') σ' (gGr S seeds air N F .unk),
      ⟨_, seeds.filter p, seeds.filter p, xs, rfl, G0, Bu.refl _ _, eF, s2 _ _ eN, RpAll.mono (cut_cons nF s2) _ _ rN, l2, g2⟩, ?_⟩
    clear g2 l2 eF g1' l1' rN eN g1 l1 hp
    intro m σ' H' ⟨fl, nw, xs, em, G, bu, eF, eN, rN, l', g'⟩
    have flen := rch_len wf G.nd G.fr
    refine t_neNil (i := 3) (p := N) g' rfl eN (RpAll.mono (cut_same _ _) _ _ rN) (shaped_cells nw) fun H3 s3 => ?_
    have l3 := l'.mono s3
    have g3 := g'.mono (cut_mono s3)
    have e3F := s3 _ _ eF
    have e3N := s3 _ _ eN
    have r3 := RpAll.mono (cut_mono s3) _ _ rN
    have bu3 := bu.same s3
    by_cases hne : nw = []
    · subst hne
      rw [if_neg (by simp)]
      refine n_sortO (B := 64) (cs := sel S (Rch (kind S air) (· ∈ seeds))) (e_var (i := 4) rfl) l3 g3 e3F (by unfold kvB; rw [List.length_map]; omega) (fun e he => ?_) ?_ (sel_sorted S _) fun p H4 np s4 _ r4 => ?_
      · have : e.1 ∈ (kvB fl).map (·.1) := List.mem_map.mpr ⟨e, he, rfl⟩
        rw [kvB_keys] at this
        exact InG.cb wf (kind_in wf (G.fr _ this).kind)
      · rw [kvB_keys]
        exact sel_perm G.nd fun c => by
          rw [G.done c]
          exact ⟨fun h => ⟨kind_in wf h.kind, h⟩, fun h => h.2⟩
      · exact q _ H4 _ rfl ((fresh H3 bu3).trans s4) (.dat (r4 O (l3.sub fun a h => List.mem_cons_of_mem _ (List.mem_cons_of_mem _ h))))
    · rw [if_pos (by cases nw with | nil => exact absurd rfl hne | cons => rfl)]
      refine ⟨_, fun σ' H' n => n, ?_⟩
      obtain ⟨cs, c, ecs⟩ : ∃ cs c, nw = cs ++ [c] := ⟨_, _, (List.dropLast_concat_getLast hne).symm⟩
      subst ecs
      rw [List.map_append] at r3
      refine s_pop l3 g3 (by simp) e3N r3 (e_var rfl) fun H4 v4 ys b4 e4N r4 l4 g4 => ?_
      have e4F := b4 F _ nFN e3F
      have bu4 := bu3.but b4 (by simp)
      have G4 := G.pop
      refine for_src (src_list (e_call (ds := [cellD c]) (a_cons (e_var rfl) a_nil) ⟨c, rfl, rfl⟩)) l4 g4 fun H5 s5 => ⟨fun j σ' H' => ∃ fl nw xs, 2 * (54 - fl.length) + nw.length < m ∧ GI (kind S air) seeds fl nw ((round4 c).drop j) c ∧ Bu [F, N] H5 H' ∧ H' F = some (.dT ((kvB fl).map ent)) ∧ H' N = some (.lst xs) ∧ RpAll (cut (F :: N :: O) H') xs (nw.map cellD) ∧ Live (F :: N :: O) H' ∧
        EnvOk (cut (F :: N :: O) H') σ' (gGr S seeds air N F (.dat (cellD c))), ?_, ?_, ?_, ?_⟩
      · exact ⟨fl, cs, ys, by rw [em, List.length_append]; show _ < _ + (_ + 1); omega, G4, Bu.refl _ _, s5 _ _ e4F, s5 _ _ e4N, RpAll.mono (cut_mono s5) _ _ r4, l4.mono s5, g4.mono (cut_mono s5)⟩
      · rintro j σ' H' _ ⟨fl, nw, xs, _, _, b, _⟩
        exact b.cut (by simp)
      · intro j d x σ' H' H6 ed ⟨fl, nw, xs, hm, G, bu, eF, eN, rN, l5, g5⟩ s6 hx
        rw [List.getElem?_map] at ed
        obtain ⟨q, eq, rfl⟩ := Option.map_eq_some_iff.mp ed
        have hj : j < (round4 c).length := (List.getElem?_eq_some_iff.mp eq).1
        have dj : (round4 c).drop j = q :: (round4 c).drop (j + 1) := by
          rw [List.drop_eq_getElem_cons hj]
          congr 1
          exact (List.getElem?_eq_some_iff.mp eq).2
        rw [dj] at G
        have l6 := l5.mono s6
        have g6 := (g5.mono (cut_mono s6)).set (.dat (hx (F :: N :: O) l5 (bu.cut (by simp)))) 6
        refine s_let (e := .dat (atD S q)) l6 g6 (e_call (ds := [secD S, .int q.1, .int q.2]) (a_cons (e_var rfl) (a_cons (e_c0 (e_var rfl)) (a_cons (e_c1' (e_var rfl)) a_nil))) ⟨S, q, rfl, wf, rfl⟩) fun v7 H7 s7 l7 g7 => ?_
        have s67 := s6.trans s7
        have hs : ∀ a ∈ N :: O, a ∈ F :: N :: O := fun a ha => List.mem_cons_of_mem _ ha
        have hF' : F ∉ N :: O := by
          simp only [List.mem_cons, not_or]
          exact ⟨nFN, nFO⟩
        obtain ⟨b, hb, tb⟩ := t_grow (S := S) wf (q := q) (fl := fl) (air := air) (Γ := [.dat (secD S), .dat (.list (seeds.map cellD)), .dat (.bool air), .ptr N, .dic (kvB fl), .dat (cellD c), .dat (cellD q), .dat (atD S q)]) (th := tVar 6) (tn := tVar 4) (e_to (e_dnotin (c := q) (kvs := kvB fl) (e_var rfl) (e_var rfl) .c) (by rw [valB])) rfl rfl
        refine tb _ H7 (N :: O) (l7.sub hs) (g7.openD (i := 4) rfl hs hF' (s67 _ _ eF)) _ fun H8 s8 => ?_
        have s68 := s67.trans s8
        have l8 := l7.mono s8
        have g8 := g7.mono (cut_mono s8)
        have bu8 := bu.same s68
        have e8F := s68 _ _ eF
        have e8N := s68 _ _ eN
        have r8 := RpAll.mono (cut_mono s68) _ _ rN
        cases b with
        | true =>
          rw [if_pos rfl]
          obtain ⟨hq, hk⟩ := hb.mp rfl
          have fl54 := rch_len wf G.nd G.fr
          have G9 := G.add hq hk
          have fl55 := rch_len wf G9.nd G9.fr
          rw [List.length_append] at fl55
          have fl55 : fl.length + 1 ≤ 54 := fl55
          have nlen : nw.length ≤ 54 := by
            rw [sel_len (S := S) (π := (· ∈ nw)) G.nn fun x => ⟨fun h => ⟨kind_in wf (G.fr x (G.sub x h)).kind, h⟩, fun h => h.2⟩]
            exact sel_length wf _
          refine s_dput (v := .bl true) l8 g8 e8F (e_var rfl) (e_var rfl) e_bl rfl (by unfold kvB; rw [List.length_map]; omega) fun H9 b9 e9F => ?_
          rw [putB hq] at e9F
          have c9 := b9.cut (O := F :: N :: O) (by simp)
          have e9N := b9 N _ (fun z => nFN z.symm) e8N
          have l9 : Live (F :: N :: O) H9 := l8.but b9 ⟨_, e9F, fun _ z => nomatch z⟩
          refine s_app l9 (g8.mono c9) (by simp) e9N (RpAll.mono c9 _ _ r8) (e_var rfl) (e_var (e := .dat (cellD q)) rfl) (by rw [List.length_map]; omega) fun H10 v10 b10 e10N r10 => ?_
          have c10 := b10.cut (O := F :: N :: O) (by simp)
          refine ⟨fl ++ [q], nw ++ [q], xs ++ [v10], ?_, G9, (bu8.but b9 (by simp)).but b10 (by simp), b10 F _ nFN e9F, e10N, by rw [List.map_append]; exact r10, l9.but b10 ⟨_, e10N, fun _ z => nomatch z⟩, (((g8.mono c9).mono c10).blur 6).blur 7⟩
          rw [List.length_append, List.length_append]
          show 2 * (54 - (fl.length + 1)) + (nw.length + 1) < m
          omega
        | false =>
          rw [if_neg (by decide)]
          refine ⟨fl, nw, xs, hm, G.skip ?_, bu8, e8F, e8N, r8, l8, (g8.blur 6).blur 7⟩
          by_cases hq : q ∈ fl
          · exact .inl hq
          · exact .inr fun hk => by have := hb.mpr ⟨hq, hk⟩; cases this
      · rintro σ' H' ⟨fl, nw, xs, hm, G, b, eF, eN, rN, l5, g5⟩
        rw [show (round4 c).drop (((around c).map cellD).length) = [] from rfl] at G
        exact ⟨_, hm, fl, nw, xs, rfl, G.fin, (bu4.same s5).trans b, eF, eN, rN, l5, g5.blur 5⟩
/-! ### _law_opened, _law_held -/
abbrev spOpened : Sp := spE (rD 1 fun ds d => ∃ S, ds = [secD S] ∧ Wf S ∧ d = .list ((sel S ((gd S).O 0)).map cellD))
abbrev NN_law_opened : List Str := ["_law_pile_so", "_law_top_so", "_law_c"]
theorem sc_law_opened : FnScope NN_law_opened ["_law_pile_so"] (defScope (KH.top 41)) := ⟨rfl, rfl, rfl, by decide +kernel, rfl, by decide +kernel, by decide +kernel⟩
theorem cal_law_opened (B : Blt mg) (D : Df K mg "_law_opened" 41) (C_law_grown : Cal P w K mg base "_law_grown" ["_law_pile_so", "_law_seeds_so", "_law_air"] 2 spGrown) : Cal P w K mg base "_law_opened" ["_law_pile_so"] 3 spOpened :=
  cal_pure D sc_law_opened (fun _ _ _ _ _ _ us hl => match us, hl with | [_], _ => rfl) (rD_len) fun f cdv A outer s H es Φ hr h => by
    obtain ⟨ds, d, hn, rfl, ⟨S, rfl, wf, rfl⟩, rfl⟩ := h
    refine ⟨_, (pss_cons (ps_set (i := 1) sc_law_opened.nd rfl (Or.inr rfl) (pe_op op_sub (pe_callB (call_len_seqK (K := K) rfl) (by rfl) B.len bt_len (pa_cons (pe_ix (ix_seqK (K := K) rfl) (pv 0) pe_int (fun _ _ => rfl)) pa_nil)) pe_int))
      (pss_one (ps_ret (pe_cal C_law_grown hr (by rfl) (pa_cons (pv 0) (pa_cons (pe_lc (own := [("_law_c", 2)]) rfl sc_law_opened.nd (pi_range1 (by rfl) B.range (pa_cons (pe_callB (call_len_seqK (K := K) rfl) (by rfl) B.len bt_len (pa_cons (pv 0) pa_nil)) pa_nil)) (blkOk_by (sc := defScope (KH.top 41)) (own := [("_law_c", 2)]) (N := NN_law_opened) (by decide +kernel)) (fun _ _ _ _ _ => (pg_name (i := 2) sc_law_opened.nd rfl (Or.inl rfl))) (fun _ _ _ _ _ => pts_nil) (fun _ _ _ _ _ => (pe_tup (pa_cons (pv 2) (pa_cons (pv 1) pa_nil))))) (pa_cons pe_bl pa_nil))))))), ?_⟩
    clear hr
    obtain ⟨col, s0, sl⟩ := sec_0 wf
    have wide := wf.wide
    have pos := wf.pos
    refine b_asg (e := .dat (.int ((ht S : Int) - 1))) (e_to (e_I0 (e_len (e_ix (e_var rfl) e_int rfl s0) rfl) e_int) (by rw [List.length_map, sl])) ?_
    let seeds : List KV.Cell := (List.range S.length).map fun (i : Nat) => ((i : Int), (ht S : Int) - 1)
    have hs : ∀ c, c ∈ seeds ↔ 0 ≤ c.1 ∧ c.1 < (S.length : Int) ∧ c.2 = (ht S : Int) - 1 := fun c => by
      show c ∈ (List.range S.length).map (fun (i : Nat) => (((i : Int), (ht S : Int) - 1) : KV.Cell)) ↔ _
      rw [List.mem_map]
      constructor
      · rintro ⟨i, hi, rfl⟩
        have := List.mem_range.mp hi
        exact ⟨by show 0 ≤ (i : Int); omega, by show (i : Int) < _; omega, rfl⟩
      · rintro ⟨a, b, e⟩
        exact ⟨c.1.toNat, List.mem_range.mpr (by omega), Prod.ext (by show ((c.1.toNat : Nat) : Int) = c.1; omega) e.symm⟩
    refine b_ret (e_to (e_call (ds := [secD S, .list (seeds.map cellD), .bool true]) (d := .list ((sel S (Rch (kind S true) (· ∈ seeds))).map cellD)) (a_cons (e_var rfl) (a_cons (NL.e (nl_to (n_lcB (emb := fun i : Nat => .int (0 + (i : Int))) (qs := List.range S.length) (fun i => (wipeG _ [2]).set 2 (.dat (.int (0 + (i : Int))))) (fun i => cellD ((i : Int), (ht S : Int) - 1))
      (src_to (src_rng1 (n := (S.length : Int)) (a_cons (e_to (e_len (ds := S.map colD) (e_var rfl) rfl) (by rw [List.length_map])) a_nil) (by omega) (by omega)) rfl) (by rw [List.length_range]; omega) (fun i _ => tg_name 2) (by simp) (fun i _ => e_tup (a_cons (e_to (e_var rfl) (show En.dat (.int (0 + (i : Int))) = .dat (.int (i : Int)) by rw [Int.zero_add])) (a_cons (e_var rfl) a_nil)))) (by rw [List.map_map]; rfl))) (a_cons e_bl a_nil)))
      ⟨S, seeds, true, rfl, wf, ?_, fun c hc => ?_, rfl⟩) ?_)
    · exact (List.nodup_range.imp fun {a b} h e => h (by injection e with e _; omega)) |> fun z => List.pairwise_map.mpr z
    · obtain ⟨a, b, e⟩ := (hs c).mp hc
      exact ⟨a, b, by omega, by omega⟩
    · rw [sel_eq fun c _ => rch_open hs wf c]
abbrev spHeld : Sp := spE (rD 1 fun ds d => ∃ S, ds = [secD S] ∧ Wf S ∧ d = .list ((sel S (gd S).Held).map cellD))
abbrev NN_law_held : List Str := ["_law_pile_so", "_law_c"]
theorem sc_law_held : FnScope NN_law_held ["_law_pile_so"] (defScope (KH.top 42)) := ⟨rfl, rfl, rfl, by decide +kernel, rfl, by decide +kernel, by decide +kernel⟩
theorem cal_law_held (B : Blt mg) (D : Df K mg "_law_held" 42) (C_law_grown : Cal P w K mg base "_law_grown" ["_law_pile_so", "_law_seeds_so", "_law_air"] 2 spGrown) : Cal P w K mg base "_law_held" ["_law_pile_so"] 3 spHeld :=
  cal_pure D sc_law_held (fun _ _ _ _ _ _ us hl => match us, hl with | [_], _ => rfl) (rD_len) fun f cdv A outer s H es Φ hr h => by
    obtain ⟨ds, d, hn, rfl, ⟨S, rfl, wf, rfl⟩, rfl⟩ := h
    refine ⟨_, (pss_one (ps_ret (pe_cal C_law_grown hr (by rfl) (pa_cons (pv 0) (pa_cons (pe_lc (own := [("_law_c", 1)]) rfl sc_law_held.nd (pi_range1 (by rfl) B.range (pa_cons (pe_callB (call_len_seqK (K := K) rfl) (by rfl) B.len bt_len (pa_cons (pv 0) pa_nil)) pa_nil)) (blkOk_by (sc := defScope (KH.top 42)) (own := [("_law_c", 1)]) (N := NN_law_held) (by decide +kernel)) (fun _ _ _ _ _ => (pg_name (i := 1) sc_law_held.nd rfl (Or.inl rfl))) (fun _ _ _ _ _ => pts_nil) (fun _ _ _ _ _ => (pe_tup (pa_cons (pv 1) (pa_cons pe_int pa_nil))))) (pa_cons pe_bl pa_nil)))))), ?_⟩
    clear hr
    have wide := wf.wide
    have pos := wf.pos
    let seeds : List KV.Cell := (List.range S.length).map fun (i : Nat) => ((i : Int), 0)
    have hs : ∀ c, c ∈ seeds ↔ 0 ≤ c.1 ∧ c.1 < (S.length : Int) ∧ c.2 = 0 := fun c => by
      show c ∈ (List.range S.length).map (fun (i : Nat) => (((i : Int), 0) : KV.Cell)) ↔ _
      rw [List.mem_map]
      constructor
      · rintro ⟨i, hi, rfl⟩
        have := List.mem_range.mp hi
        exact ⟨by show 0 ≤ (i : Int); omega, by show (i : Int) < _; omega, rfl⟩
      · rintro ⟨a, b, e⟩
        exact ⟨c.1.toNat, List.mem_range.mpr (by omega), Prod.ext (by show ((c.1.toNat : Nat) : Int) = c.1; omega) e.symm⟩
    refine b_ret (e_to (e_call (ds := [secD S, .list (seeds.map cellD), .bool false]) (d := .list ((sel S (Rch (kind S false) (· ∈ seeds))).map cellD)) (a_cons (e_var rfl) (a_cons (NL.e (nl_to (n_lcB (emb := fun i : Nat => .int (0 + (i : Int))) (qs := List.range S.length) (fun i => (wipeG _ [1]).set 1 (.dat (.int (0 + (i : Int))))) (fun i => cellD ((i : Int), 0))
      (src_to (src_rng1 (n := (S.length : Int)) (a_cons (e_to (e_len (ds := S.map colD) (e_var rfl) rfl) (by rw [List.length_map])) a_nil) (by omega) (by omega)) rfl) (by rw [List.length_range]; omega) (fun i _ => tg_name 1) (by simp) (fun i _ => e_tup (a_cons (e_to (e_var rfl) (show En.dat (.int (0 + (i : Int))) = .dat (.int (i : Int)) by rw [Int.zero_add])) (a_cons e_int a_nil)))) (by rw [List.map_map]; rfl))) (a_cons e_bl a_nil)))
      ⟨S, seeds, false, rfl, wf, ?_, fun c hc => ?_, rfl⟩) ?_)
    · exact (List.nodup_range.imp fun {a b} h e => h (by injection e with e _; omega)) |> fun z => List.pairwise_map.mpr z
    · obtain ⟨a, b, e⟩ := (hs c).mp hc
      exact ⟨a, b, by omega, by omega⟩
    · rw [sel_eq fun c _ => rch_held hs wf c]
end KQ
/-! Q3 -/
set_option Elab.async false
set_option linter.all false
set_option maxRecDepth 100000
set_option maxHeartbeats 4000000
namespace KQ
open PySem L2 KV KR KS KC KD KX KP
variable {P : Program} {w : World} {K : PySem.W.Frag} {mg : Str → Option Value} {base : Heap}
/-! ### _law_put -/
abbrev spPut : Sp := spE (rD 3 fun ds d => ∃ S spots v, ds = [secD S, .list (spots.map cellD), .int v] ∧ Wf S ∧ (∀ c ∈ spots, InG S c) ∧ 0 ≤ v ∧ d = secD (putS S spots v))
abbrev gPut (S : Sec) (spots : List KV.Cell) (v : Int) (e3 : En) : List En := [.dat (secD S), .dat (.list (spots.map cellD)), .dat (.int v), e3, .unk, .unk, .unk]
abbrev NN_law_put : List Str := ["_law_pile_so", "_law_spots_so", "_law_holds_so", "_law_rows_so", "_law_c", "_law_h", "_law_own"]
theorem sc_law_put : FnScope NN_law_put ["_law_pile_so", "_law_spots_so", "_law_holds_so"] (defScope (KH.top 43)) := ⟨rfl, rfl, rfl, by decide +kernel, rfl, by decide +kernel, by decide +kernel⟩
theorem cal_law_put (B : Blt mg) (D : Df K mg "_law_put" 43) : Cal P w K mg base "_law_put" ["_law_pile_so", "_law_spots_so", "_law_holds_so"] 1 spPut :=
  cal_pure D sc_law_put (fun _ _ _ _ _ _ us hl => match us, hl with | [_, _, _], _ => rfl) (rD_len) fun f cdv A outer s H es Φ hr h => by
    obtain ⟨ds, d, hn, rfl, ⟨S, spots, v, rfl, wf, sin, hv, rfl⟩, rfl⟩ := h
    refine ⟨_, (pss_cons (ps_setLc (i := 3) (own := [("_law_own", 6)]) rfl sc_law_put.nd rfl rfl (sw_true rfl rfl rfl (by decide +kernel)) (pi_tupK (K := K) rfl (pv 0)) (blkOk_by (sc := defScope (KH.top 43)) (own := [("_law_own", 6)]) (N := NN_law_put) (by decide +kernel)) (fun _ _ _ _ _ => (pg_name (i := 6) sc_law_put.nd rfl (Or.inl rfl))) (fun _ _ _ _ _ => pts_nil) (fun _ _ _ _ _ => (pe_callTy (call_list_ofK (K := K) rfl) (by rfl) B.list bt_list (pa_cons (pv 6) pa_nil))))
      (pss_cons (ps_for PassesOwn.never rfl (pi_listK (K := K) rfl (pv 1)) (pg_tupK (K := K) rfl (n := 2) rfl (pgs_cons (pg_name (i := 4) sc_law_put.nd rfl (Or.inl rfl)) (pgs_cons (pg_name (i := 5) sc_law_put.nd rfl (Or.inl rfl)) pgs_nil)))
      (pss_one (ps_asg (pv 2) (pg_sub (pe_ix (ix_seqK (K := K) rfl) (pv 3) (pv 4) (fun _ _ => rfl)) (pv 5) set_list))))
      (pss_one (ps_ret (pe_callTy (call_tuple_ofK (K := K) rfl) (by rfl) B.tuple bt_tuple (pa_cons (pe_lc (own := [("_law_own", 6)]) rfl sc_law_put.nd (pi_listK (K := K) rfl (pv 3)) (blkOk_by (sc := defScope (KH.top 43)) (own := [("_law_own", 6)]) (N := NN_law_put) (by decide +kernel)) (fun _ _ _ _ _ => (pg_name (i := 6) sc_law_put.nd rfl (Or.inl rfl))) (fun _ _ _ _ _ => pts_nil) (fun _ _ _ _ _ => (pe_callTy (call_tuple_ofK (K := K) rfl) (by rfl) B.tuple bt_tuple (pa_cons (pv 6) pa_nil)))) pa_nil)))))), ?_⟩
    clear hr
    have wide := wf.wide
    intro σ H O D l g q
    refine s_rows (emb := colD) (qs := S) (fun c => (wipeG _ [6]).set 6 (.dat (colD c))) (fun c => c) l g (src_tup (e_var (i := 0) rfl)) (by omega) (fun c _ => tg_name 6) (by simp) (fun c _ => n_list (d := colD c) (e_var (i := 6) rfl) rfl) fun R rs H1 nR nrs s1 w1 g1 => ?_
    rw [List.map_id'] at w1
    refine for_src (O := R :: (rs ++ O)) (src_list (e_var rfl)) w1.live g1 fun H2 s2 => ⟨fun i σ' H' => Bu rs H2 H' ∧ Rw O R rs (putS S (spots.take i) v) H' ∧ EnvOk (cut (R :: (rs ++ O)) H') σ' (gPut S spots v (.ptr R)), ?_, ?_, ?_, ?_⟩
    · exact ⟨Bu.refl _ _, w1.same s2, g1.mono (cut_mono s2)⟩
    · rintro i σ' H' _ ⟨b, _⟩
      exact b.cut fun a ha => List.mem_cons_of_mem _ (List.mem_append.mpr (.inl ha))
    · intro i d x σ' H' H3 ed ⟨b, w2, g3⟩ s3 hx
      rw [List.getElem?_map] at ed
      obtain ⟨c, ec, rfl⟩ := Option.map_eq_some_iff.mp ed
      have hc := sin c (List.mem_of_getElem? ec)
      have Q := put_ok hv (spots.take i) wf fun c hc => sin c (List.mem_of_mem_take hc)
      have w3 := w2.same s3
      refine tg_pair (K := K) 4 5 (d1 := .int c.1) (d2 := .int c.2) σ' H3 _ x _ w3.live (g3.mono (cut_mono s3)) (hx _ w2.live (b.cut fun a ha => List.mem_cons_of_mem _ (List.mem_append.mpr (.inl ha)))) fun σ4 g4 _ => ?_
      refine s_setRow (p := c) Q.wf w3 g4 (e_var rfl) (e_var rfl) (e_var rfl) (e_var rfl) (Q.inG.mpr hc) fun H4 b4 w4 g5 => ⟨(b.same s3).trans b4, ?_, (g5.blur 4).blur 5⟩
      rw [List.take_add_one, ec]
      show Rw O R rs (putS S (spots.take i ++ [c]) v) H4
      rw [put_snoc]
      exact w4
    · rintro σ' H' ⟨b, w2, g3⟩
      rw [List.length_map, List.take_length] at w2
      have g4 := g3.openR (i := 3) rfl w2
      have fresh : Same H H' := fun a o e => b a o (fun z => by rw [nrs a z] at e; cases e) (s2 _ _ (s1 _ _ e))
      have Q := put_ok hv spots wf sin
      refine (e_to (e_tuple (NL.e (n_lcB (emb := fun c : List Int => .list (c.map .int)) (qs := putS S spots v) (fun c => (wipeG _ [6]).set 6 (.dat (.list (c.map .int)))) colD (src_list (e_var rfl)) (by rw [Q.len]; omega) (fun c _ => tg_name 6) (by simp) (fun c _ => e_tuple (d := .list (c.map .int)) (e_var rfl) rfl))) rfl) rfl) σ' H' O w2.outer g4 _ fun v H5 e z s5 r5 => q v H5 e z (fresh.trans s5) r5
/-! ### _law_washed -/
abbrev spWashed : Sp := spE (rD 1 fun ds d => ∃ S, ds = [secD S] ∧ Wf S ∧ d = secD (washS S))
abbrev NN_law_washed : List Str := ["_law_pile_so", "_law_kept_so", "_law_own"]
theorem sc_law_washed : FnScope NN_law_washed ["_law_pile_so"] (defScope (KH.top 44)) := ⟨rfl, rfl, rfl, by decide +kernel, rfl, by decide +kernel, by decide +kernel⟩
theorem cal_law_washed (B : Blt mg) (D : Df K mg "_law_washed" 44) (C_law_held : Cal P w K mg base "_law_held" ["_law_pile_so"] 3 spHeld) (C_law_put : Cal P w K mg base "_law_put" ["_law_pile_so", "_law_spots_so", "_law_holds_so"] 1 spPut)
    (C_law_all_spots : Cal P w K mg base "_law_all_spots" ["_law_pile_so"] 1 spSpots) : Cal P w K mg base "_law_washed" ["_law_pile_so"] 4 spWashed :=
  cal_pure D sc_law_washed (fun _ _ _ _ _ _ us hl => match us, hl with | [_], _ => rfl) (rD_len) fun f cdv A outer s H es Φ hr h => by
    obtain ⟨ds, d, hn, rfl, ⟨S, rfl, wf, rfl⟩, rfl⟩ := h
    have hu := hu_of hr
    refine ⟨_, (pss_cons (ps_set (i := 1) sc_law_washed.nd rfl (Or.inr rfl) (pe_callTy (call_dictTK (K := K) rfl rfl hr.units) (by rfl) B.dict bt_dict (pa_cons (pe_lc (own := [("_law_own", 2)]) rfl sc_law_washed.nd (pi_listK (K := K) rfl (pe_cal C_law_held hr (by rfl) (pa_cons (pv 0) pa_nil))) (blkOk_by (sc := defScope (KH.top 44)) (own := [("_law_own", 2)]) (N := NN_law_washed) (by decide +kernel)) (fun _ _ _ _ _ => (pg_name (i := 2) sc_law_washed.nd rfl (Or.inl rfl))) (fun _ _ _ _ _ => pts_nil) (fun _ _ _ _ _ => (pe_tup (pa_cons (pv 2) (pa_cons pe_bl pa_nil))))) pa_nil)))
      (pss_one (ps_ret (pe_cal C_law_put hr (by rfl) (pa_cons (pv 0) (pa_cons (pe_lc (own := [("_law_own", 2)]) rfl sc_law_washed.nd (pi_listK (K := K) rfl (pe_cal C_law_all_spots hr (by rfl) (pa_cons (pv 0) pa_nil))) (blkOk_by (sc := defScope (KH.top 44)) (own := [("_law_own", 2)]) (N := NN_law_washed) (by decide +kernel)) (fun _ _ _ _ _ => (pg_name (i := 2) sc_law_washed.nd rfl (Or.inl rfl))) (fun _ _ _ _ _ => (pts_one (pt_cmp (pc_dnotin hu (pv 2) (pv 1))))) (fun _ _ _ _ _ => (pv 2))) (pa_cons pe_int pa_nil))))))), ?_⟩
    clear hr hu
    have hl := sel_length wf (gd S).Held
    refine b_asg (e := .dic (kvB (sel S (gd S).Held))) (nd_dictB (NL.e (nl_to (n_lcB (emb := cellD) (qs := sel S (gd S).Held) (fun c => (wipeG _ [2]).set 2 (.dat (cellD c))) (fun c => .tuple [cellD c, .bool true]) (src_list (e_call (ds := [secD S]) (a_cons (e_var rfl) a_nil) ⟨S, rfl, wf, rfl⟩)) (by omega) (fun c _ => tg_name 2) (by simp) (fun c _ => e_tup (a_cons (e_var rfl) (a_cons e_bl a_nil)))) rfl)) (sel_nodup _ _)).e ?_
    refine b_ret (e_call (ds := [secD S, .list ((sel S fun c => ¬ (gd S).Held c).map cellD), .int 0]) (a_cons (e_var rfl) (a_cons (NL.e (nl_to (n_lcA (emb := cellD) (qs := cells S) (fun c => (wipeG _ [2]).set 2 (.dat (cellD c))) (fun c => !(valV (kvB (sel S (gd S).Held)) c).isSome) cellD
      (src_list (e_call (ds := [secD S]) (a_cons (e_var rfl) a_nil) ⟨S, rfl, wf, rfl⟩)) (Nat.le_trans (cells_length wf) (by decide)) (fun c _ => tg_name 2) (by simp) (fun c _ => t_tst (e_dnotin (e_var rfl) (e_var rfl) .c)) (fun c _ _ => e_var rfl)) ?_)) (a_cons e_int a_nil))) ⟨S, _, 0, rfl, wf, fun c hc => (mem_sel.mp hc).1, by decide, rfl⟩)
    congr 1
    unfold sel
    refine List.filter_congr fun c hc => ?_
    rw [valB]
    have : c ∈ sel S (gd S).Held ↔ (gd S).Held c := ⟨fun h => (mem_sel.mp h).2, fun h => mem_sel.mpr ⟨mem_cells.mp hc, h⟩⟩
    unfold sel at this
    by_cases z : (gd S).Held c
    · have y := this.mpr z
      rw [decide_eq_true y, @decide_eq_false _ (Classical.propDecidable _) (fun h => h z)]; rfl
    · have y := fun h => z (this.mp h)
      rw [decide_eq_false y, @decide_eq_true _ (Classical.propDecidable _) z]; rfl
/-! ### _law_tops -/
abbrev rTops : List En → (En → Prop) → Prop := fun es Φ => ∃ S, es = [.dat (secD S)] ∧ Wf S ∧ Φ = fun e => ∃ ns : List Int, e = .dat (.list (ns.map .int))
abbrev gTops (S : Sec) (e1 : En) : List En := [.dat (secD S), e1, .unk, .unk]
abbrev NN_law_tops : List Str := ["_law_pile_so", "_law_found", "_law_own", "_law_h"]
theorem sc_law_tops : FnScope NN_law_tops ["_law_pile_so"] (defScope (KH.top 45)) := ⟨rfl, rfl, rfl, by decide +kernel, rfl, by decide +kernel, by decide +kernel⟩
theorem cal_law_tops (B : Blt mg) (D : Df K mg "_law_tops" 45) : Cal P w K mg base "_law_tops" ["_law_pile_so"] 1 (spE rTops) :=
  cal_pure D sc_law_tops (fun _ _ _ _ _ _ us hl => match us, hl with | [_], _ => rfl) (fun es Φ h => by obtain ⟨S, rfl, _⟩ := h; rfl) fun f cdv A outer s H es Φ hr h => by
    obtain ⟨S, rfl, wf, rfl⟩ := h
    refine ⟨_, (pss_cons (ps_set (i := 1) sc_law_tops.nd rfl (Or.inl rfl) (pe_lst pa_nil))
      (pss_cons (ps_for PassesOwn.never rfl (pi_tupK (K := K) rfl (pv 0)) (pg_name (i := 2) sc_law_tops.nd rfl (Or.inr rfl))
      (pss_one (ps_expr (pe_bmK (K := K) rfl PySem.F.plainAttrs_list PySem.F.slot_list_append PySem.F.type_list_append mt_append (pv 1) (pa_cons (pe_callB (cr_maxK (K := K) rfl rfl) (by rfl) B.max bt_max (pa_cons (pe_op op_cat (pe_lst (pa_cons (pe_un un_neg pe_int) pa_nil)) (pe_lc (own := [("_law_h", 3)]) rfl sc_law_tops.nd (pi_range1 (by rfl) B.range (pa_cons (pe_callB (call_len_seqK (K := K) rfl) (by rfl) B.len bt_len (pa_cons (pv 2) pa_nil)) pa_nil)) (blkOk_by (sc := defScope (KH.top 45)) (own := [("_law_h", 3)]) (N := NN_law_tops) (by decide +kernel)) (fun _ _ _ _ _ => (pg_name (i := 3) sc_law_tops.nd rfl (Or.inl rfl))) (fun _ _ _ _ _ => (pts_one (pt_cmpR op_gt (pe_ix (ix_seqK (K := K) rfl) (pv 2) (pv 3) (fun _ _ => rfl)) pe_int (nomark _)))) (fun _ _ _ _ _ => (pv 3)))) pa_nil)) pa_nil)))))
      (pss_one (ps_ret (pv 1))))), ?_⟩
    clear hr
    have wide := wf.wide
    have tall := wf.tall
    intro σ H O D l g q
    refine s_new (ds := []) l g (n_lst (ds := []) a_nil) fun F H1 xs nF s1 eF rF l1 g1 => ?_
    refine for_src (O := F :: O) (items := S.map colD) (src_tup (e_var rfl)) l1 g1 fun H2 s2 => ⟨fun i σ' H' => But F H2 H' ∧ (∃ (ns : List Int) (xs : List V), ns.length = i ∧ H' F = some (.lst xs) ∧ RpAll (cut (F :: O) H') xs (ns.map .int)) ∧ Live (F :: O) H' ∧ EnvOk (cut (F :: O) H') σ' (gTops S (.ptr F)), ?_, ?_, ?_, ?_⟩
    · exact ⟨fun b o _ e => e, ⟨[], xs, rfl, s2 _ _ eF, RpAll.mono (cut_mono s2) _ _ rF⟩, l1.mono s2, g1.mono (cut_mono s2)⟩
    · rintro i σ' H' _ ⟨b, _⟩
      exact b.cut (by simp)
    · intro i d x σ' H' H3 ed ⟨b, ⟨ns, xs, hl, eF, rF⟩, l2, g2⟩ s3 hx
      rw [List.getElem?_map] at ed
      obtain ⟨col, ec, rfl⟩ := Option.map_eq_some_iff.mp ed
      have hi := (List.getElem?_eq_some_iff.mp ec).1
      have hc := wf.same col (List.mem_of_getElem? ec)
      have l3 := l2.mono s3
      have g3 := (g2.mono (cut_mono s3)).set (.dat (hx _ l2 (b.cut (by simp)))) 2
      let p : Nat → Bool := fun h => decide (col.getD h 0 > 0)
      let hs : List Int := ((List.range col.length).filter p).map fun (h : Nat) => (h : Int)
      obtain ⟨m, hm, hle⟩ := exists_max ([-1] ++ hs) (fun z => nomatch z)
      refine s_app (to := tVar 1) (d := .int m) l3 g3 (by simp) (s3 _ _ eF) (RpAll.mono (cut_mono s3) _ _ rF) (e_var rfl) (e_max (ns := [-1] ++ hs) (NL.e (nl_to (n_cat (ds := [.int (-1)]) (es := hs.map .int) (n_lst (ds := [.int (-1)]) (a_cons (e_un (f := fun i => -i) e_int) a_nil)).e (NL.e (nl_to (n_lcA (emb := fun h : Nat => .int (0 + (h : Int))) (qs := List.range col.length) (fun h => (wipeG _ [3]).set 3 (.dat (.int (0 + (h : Int))))) p (fun h => .int (h : Int))
        (src_to (src_rng1 (n := (col.length : Int)) (a_cons (e_to (e_len (ds := col.map .int) (e_var rfl) rfl) (by rw [List.length_map])) a_nil) (by omega) (by omega)) rfl) (by rw [List.length_range]; omega) (fun h _ => tg_name 3) (by simp) (fun h hh => t_tst (e_to (e_B0 (e_ix (d' := .int (col.getD h 0)) (e_var rfl) (e_var rfl) rfl ?_) e_int) rfl)) (fun h _ _ => e_to (e_var rfl) (show En.dat (.int (0 + (h : Int))) = .dat (.int (h : Int)) by rw [Int.zero_add]))) (by rw [List.map_map]; rfl))) ?_) (by rw [List.map_append]; rfl))) hm hle) (by rw [List.length_map]; omega) fun H4 v b4 e4 r4 => ?_
      · have hh := List.mem_range.mp hh
        refine atI_of (j := h) (by omega) ?_
        rw [List.getElem?_map, List.getD_eq_getElem?_getD, List.getElem?_eq_getElem hh]
        rfl
      · show 1 + (hs.map PyData.int).length ≤ 100000
        rw [List.length_map, List.length_map]
        have := List.length_filter_le p (List.range col.length)
        rw [List.length_range] at this
        omega
      · refine ⟨(fun c o n e => b4 c o n (s3 _ _ (b c o n e))), ⟨ns ++ [m], xs ++ [v], by rw [List.length_append, hl]; rfl, e4, by rw [List.map_append]; exact r4⟩, l3.but b4 ⟨_, e4, fun _ z => nomatch z⟩, ((g3.mono (b4.cut (by simp))).blur 2)⟩
    · rintro σ' H' ⟨b, ⟨ns, xs, hl, eF, rF⟩, l2, g2⟩
      have nFO : F ∉ O := l.no nF
      have g3 := g2.openL (O' := O) (i := 1) rfl (fun a h => List.mem_cons_of_mem _ h) nFO eF rF
      have fresh : Same H H' := fun a o e => b a o (ne_of_none e nF) (s2 _ _ (s1 _ _ e))
      exact (e_var (i := 1) rfl) σ' H' O (l2.sub fun a h => List.mem_cons_of_mem _ h) g3 _ fun v H5 e z s5 r5 => q v H5 e ⟨ns, z⟩ (fresh.trans s5) r5
end KQ
/-! Q4 -/
set_option Elab.async false
set_option linter.all false
set_option maxRecDepth 100000
set_option maxHeartbeats 4000000
namespace KQ
open PySem L2 KV KR KS KC KD KX KP
variable {P : Program} {w : World} {K : PySem.W.Frag} {mg : Str → Option Value} {base : Heap}
/-! ### _law_growth -/
abbrev actD : PyData := .tuple [.str "lay", .int 4, .int 1]
theorem atD_cases (S : Sec) (c : KV.Cell) : atD S c = .none ∨ ∃ v, atD S c = .int v := by
  unfold atD
  split
  · split
    · exact .inr ⟨_, rfl⟩
    · exact .inr ⟨_, rfl⟩
  · exact .inl rfl
/-- stuff or ground stands there -/
def hard (S : Sec) (c : KV.Cell) : Bool := match atD S c with
  | .int v => !decide (v = 0)
  | _ => false
theorem hard_iff {S : Sec} (wf : Wf S) {c : KV.Cell} (h1 : 0 ≤ c.1) (h2 : c.1 < (S.length : Int)) : hard S c = true ↔ c.2 < 0 ∨ InG S c ∧ ¬ (gd S).air c := by
  by_cases i : InG S c
  · obtain ⟨v, e, v0⟩ := valAt_in wf i
    unfold hard
    rw [atD_in wf e]
    show (!decide (v = 0)) = true ↔ _
    rw [Bool.not_eq_true', decide_eq_false_iff_not, show (¬ v = 0) ↔ ¬ (gd S).air c from (notair e).symm]
    constructor
    · intro h; exact .inr ⟨i, h⟩
    · rintro (h | h)
      · have := i.2.2.1; omega
      · exact h.2
  · by_cases h3 : c.2 < (ht S : Int)
    · have h4 : c.2 < 0 := Int.not_le.mp fun z => i ⟨h1, h2, z, h3⟩
      have e : atD S c = .int (-1) := by unfold atD; rw [if_pos ⟨⟨h1, h2⟩, h3⟩, if_pos h4]
      unfold hard
      rw [e]
      exact ⟨fun _ => .inl h4, fun _ => rfl⟩
    · have e : atD S c = .none := by unfold atD; rw [if_neg fun z => h3 z.2]
      unfold hard
      rw [e]
      constructor
      · intro h; cases h
      · rintro (h | h)
        · omega
        · exact (i h.1).elim
theorem hard_off {S : Sec} {c : KV.Cell} (h : ¬ (0 ≤ c.1 ∧ c.1 < (S.length : Int))) : hard S c = false := by
  have e : atD S c = .none := by unfold atD; rw [if_neg fun z => h z.1]
  unfold hard
  rw [e]
theorem around_sb {S : Sec} (wf : Wf S) {c : KV.Cell} (i : InG S c) : (∃ q ∈ around c, hard S q = true) ↔ (gd S).sb c := by
  constructor
  · rintro ⟨q, hq, h⟩
    have hc : 0 ≤ q.1 ∧ q.1 < (S.length : Int) := Classical.byContradiction fun z => by rw [hard_off z] at h; cases h
    have ad : KM.Adj c q := mem_round4.mp hq
    rcases (hard_iff wf hc.1 hc.2).mp h with z | ⟨z1, z2⟩
    · have a := i.2.2.1
      unfold KM.Adj at ad
      exact .inl (by omega)
    · exact .inr ⟨q, ad, z1, z2⟩
  · rintro (h | ⟨q, ad, iq, na⟩)
    · refine ⟨(c.1, c.2 - 1), by unfold around; simp, (hard_iff (c := (c.1, c.2 - 1)) wf i.1 i.2.1).mpr (.inl (by show c.2 - 1 < 0; omega))⟩
    · exact ⟨q, mem_round4.mpr ad, (hard_iff wf iq.1 iq.2.1).mpr (.inr ⟨iq, na⟩)⟩
/-- not in (None, 0) -/
theorem e_hard {Γ : List En} {te : TE} {S : Sec} {c : KV.Cell} (h : Ed te Γ (atD S c)) : Ed (tOp (rIn K true) te (tTup (tCons (tC .non) (tCons (tC (.int 0)) tNil)))) Γ (.bool (hard S c)) := by
  have tup : Ed (tTup (tCons (tC .non) (tCons (tC (.int 0)) tNil))) Γ (.tuple [.none, .int 0]) := e_tup (ds := [.none, .int 0]) (a_cons e_non (a_cons e_int a_nil))
  unfold hard
  rcases atD_cases S c with e | ⟨v, e⟩
  · rw [e] at h ⊢
    exact e_to (e_inT (x := .non) (xs := [.non, .int 0]) h tup rfl rfl rfl rfl) rfl
  · rw [e] at h ⊢
    refine e_to (e_inT (x := .int v) (xs := [.non, .int 0]) h tup rfl rfl rfl rfl) ?_
    show En.dat (.bool (!inV (.int v) [.non, .int 0])) = En.dat (.bool (!decide (v = 0)))
    congr 3
    by_cases z : v = 0
    · subst z; rfl
    · have z' : ¬ (0 : Int) = v := fun y => z y.symm
      simp [inV, eqV, z, z']
abbrev spGrowth : Sp := spE (rD 2 fun ds d => ∃ S, ds = [secD S, actD] ∧ Wf S ∧ d = .list ((sel S fun c => (gd S).O 0 c ∧ (gd S).sb c).map cellD))
abbrev gGrw (S : Sec) (e3 : En) : List En := [.dat (secD S), .dat actD, .unk, e3, .unk, .unk, .unk, .unk, .unk]
theorem act0 {Γ : List En} {i : Nat} (h : Γ[i]? = some (.dat actD)) : Ed (tOp (rIx K) (tVar i) (tC (.int 0))) Γ (.str "lay") := e_ix (e_var h) e_int rfl (atI_nat (j := 0) rfl)
theorem act1 {Γ : List En} {i : Nat} (h : Γ[i]? = some (.dat actD)) : Ed (tOp (rIx K) (tVar i) (tC (.int 1))) Γ (.int 4) := e_ix (e_var h) e_int rfl (atI_nat (j := 1) rfl)
theorem ne_rain : decide (V.str "lay" = V.str "rain") = false := by decide +kernel
theorem ne_seed : decide (V.str "lay" = V.str "seed") = false := by decide +kernel
theorem ne_fill : decide (V.str "lay" = V.str "fill") = false := by decide +kernel
theorem eq_lay : decide (V.str "lay" = V.str "lay") = true := by decide +kernel
abbrev NN_law_growth : List Str := ["_law_pile_so", "_law_act_so", "_law_tops_so", "_law_found", "_law_c", "_law_h", "_law_about_so", "_law_its", "_law_own"]
theorem sc_law_growth : FnScope NN_law_growth ["_law_pile_so", "_law_act_so"] (defScope (KH.top 47)) := ⟨rfl, rfl, rfl, by decide +kernel, rfl, by decide +kernel, by decide +kernel⟩
theorem cal_law_growth (B : Blt mg) (D : Df K mg "_law_growth" 47) (C_law_tops : Cal P w K mg base "_law_tops" ["_law_pile_so"] 1 (spE rTops)) (C_law_opened : Cal P w K mg base "_law_opened" ["_law_pile_so"] 3 spOpened)
    (C_law_round_about : Cal P w K mg base "_law_round_about" ["_law_spot_so"] 1 spAround) (C_law_at : Cal P w K mg base "_law_at" ["_law_pile_so", "_law_c", "_law_h"] 1 spAt) : Cal P w K mg base "_law_growth" ["_law_pile_so", "_law_act_so"] 4 spGrowth :=
  cal_pure D sc_law_growth (fun _ _ _ _ _ _ us hl => match us, hl with | [_, _], _ => rfl) (rD_len) fun f cdv A outer s H es Φ hr h => by
    obtain ⟨ds, d, hn, rfl, ⟨S, rfl, wf, rfl⟩, rfl⟩ := h
    refine ⟨_, (pss_cons (ps_if (pt_cmpR op_eq (pe_ix (ix_seqK (K := K) rfl) (pv 1) pe_int (fun _ _ => rfl)) pe_str (nomark _)) (pss_cons (ps_set (i := 2) sc_law_growth.nd rfl (Or.inr rfl) (pe_cal C_law_tops hr (by rfl) (pa_cons (pv 0) pa_nil)))
      (pss_one (ps_ret (pe_lc (own := [("_law_c", 4)]) rfl sc_law_growth.nd (pi_range1 (by rfl) B.range (pa_cons (pe_callB (call_len_seqK (K := K) rfl) (by rfl) B.len bt_len (pa_cons (pv 0) pa_nil)) pa_nil)) (blkOk_by (sc := defScope (KH.top 47)) (own := [("_law_c", 4)]) (N := NN_law_growth) (by decide +kernel)) (fun _ _ _ _ _ => (pg_name (i := 4) sc_law_growth.nd rfl (Or.inl rfl))) (fun _ _ _ _ _ => (pts_one (pt_cmpR op_lt (pe_op op_add (pe_ix (ix_seqK (K := K) rfl) (pv 2) (pv 4) (fun _ _ => rfl)) pe_int) (pe_callB (call_len_seqK (K := K) rfl) (by rfl) B.len bt_len (pa_cons (pe_ix (ix_seqK (K := K) rfl) (pv 0) pe_int (fun _ _ => rfl)) pa_nil)) (nomark _)))) (fun _ _ _ _ _ => (pe_tup (pa_cons (pv 4) (pa_cons (pe_op op_add (pe_ix (ix_seqK (K := K) rfl) (pv 2) (pv 4) (fun _ _ => rfl)) pe_int) pa_nil)))))))) pss_nil)
      (pss_cons (ps_set (i := 3) sc_law_growth.nd rfl (Or.inl rfl) (pe_lst pa_nil))
      (pss_cons (ps_for PassesOwn.never rfl (pi_listK (K := K) rfl (pe_cal C_law_opened hr (by rfl) (pa_cons (pv 0) pa_nil))) (pg_tupK (K := K) rfl (n := 2) rfl (pgs_cons (pg_name (i := 4) sc_law_growth.nd rfl (Or.inl rfl)) (pgs_cons (pg_name (i := 5) sc_law_growth.nd rfl (Or.inl rfl)) pgs_nil)))
      (pss_cons (ps_setLc (i := 6) (own := [("_law_its", 7)]) rfl sc_law_growth.nd rfl rfl (sw_true rfl rfl rfl (by decide +kernel)) (pi_listK (K := K) rfl (pe_cal C_law_round_about hr (by rfl) (pa_cons (pe_tup (pa_cons (pv 4) (pa_cons (pv 5) pa_nil))) pa_nil))) (blkOk_by (sc := defScope (KH.top 47)) (own := [("_law_its", 7)]) (N := NN_law_growth) (by decide +kernel)) (fun _ _ _ _ _ => (pg_name (i := 7) sc_law_growth.nd rfl (Or.inl rfl))) (fun _ _ _ _ _ => pts_nil) (fun _ _ _ _ _ => (pe_cal C_law_at hr (by rfl) (pa_cons (pv 0) (pa_cons (pe_ix (ix_seqK (K := K) rfl) (pv 7) pe_int (fun _ _ => rfl)) (pa_cons (pe_ix (ix_seqK (K := K) rfl) (pv 7) pe_int (fun _ _ => rfl)) pa_nil))))))
      (pss_cons (ps_if (PW.pt (pw_and (pt_cmpR op_eq (pe_ix (ix_seqK (K := K) rfl) (pv 1) pe_int (fun _ _ => rfl)) pe_str (nomark _)) (pw_and1 (pt_cmpR (op_neDK (K := K) rfl hr.units) (pe_lc (own := [("_law_own", 8)]) rfl sc_law_growth.nd (pi_listK (K := K) rfl (pv 6)) (blkOk_by (sc := defScope (KH.top 47)) (own := [("_law_own", 8)]) (N := NN_law_growth) (by decide +kernel)) (fun _ _ _ _ _ => (pg_name (i := 8) sc_law_growth.nd rfl (Or.inl rfl))) (fun _ _ _ _ _ => (pts_one (pt_cmpR (op_notIn_seqK (K := K) rfl) (pv 8) (pe_tup (pa_cons pe_non (pa_cons pe_int pa_nil))) (by rfl)))) (fun _ _ _ _ _ => pe_int)) (pe_lst pa_nil) (nomark _))))) (pss_one (ps_expr (pe_bmK (K := K) rfl PySem.F.plainAttrs_list PySem.F.slot_list_append PySem.F.type_list_append mt_append (pv 3) (pa_cons (pe_tup (pa_cons (pv 4) (pa_cons (pv 5) pa_nil))) pa_nil)))) pss_nil)
      (pss_cons (ps_if (PW.pt (pw_and (pt_cmpR op_eq (pe_ix (ix_seqK (K := K) rfl) (pv 1) pe_int (fun _ _ => rfl)) pe_str (nomark _)) (pw_and1 (pt_cmpR (op_neDK (K := K) rfl hr.units) (pe_lc (own := [("_law_own", 8)]) rfl sc_law_growth.nd (pi_listK (K := K) rfl (pv 6)) (blkOk_by (sc := defScope (KH.top 47)) (own := [("_law_own", 8)]) (N := NN_law_growth) (by decide +kernel)) (fun _ _ _ _ _ => (pg_name (i := 8) sc_law_growth.nd rfl (Or.inl rfl))) (fun _ _ _ _ _ => (pts_one (pt_cmpR (op_in_seqK (K := K) rfl) (pv 8) (pe_ix (ix_seqK (K := K) rfl) (pv 1) pe_int (fun _ _ => rfl)) (by rfl)))) (fun _ _ _ _ _ => pe_int)) (pe_lst pa_nil) (nomark _))))) (pss_one (ps_expr (pe_bmK (K := K) rfl PySem.F.plainAttrs_list PySem.F.slot_list_append PySem.F.type_list_append mt_append (pv 3) (pa_cons (pe_tup (pa_cons (pv 4) (pa_cons (pv 5) pa_nil))) pa_nil)))) pss_nil)
      (pss_one (ps_if (PW.pt (pw_and (pt_cmpR op_eq (pe_ix (ix_seqK (K := K) rfl) (pv 1) pe_int (fun _ _ => rfl)) pe_str (nomark _)) (pw_and1 (pt_cmpR op_lt (pv 5) (pe_ix (ix_seqK (K := K) rfl) (pv 1) pe_int (fun _ _ => rfl)) (nomark _))))) (pss_one (ps_expr (pe_bmK (K := K) rfl PySem.F.plainAttrs_list PySem.F.slot_list_append PySem.F.type_list_append mt_append (pv 3) (pa_cons (pe_tup (pa_cons (pv 4) (pa_cons (pv 5) pa_nil))) pa_nil)))) pss_nil))))))
      (pss_one (ps_ret (pv 3)))))), ?_⟩
    clear hr
    refine b_if (b := false) (t_tst (e_to (e_eq (act0 rfl) e_str) (by rw [ne_rain]))) (fun z => nomatch z) fun _ => ?_
    let op := sel S ((gd S).O 0)
    have oplen : op.length ≤ 54 := sel_length wf _
    have opin : ∀ c ∈ op, InG S c := fun c hc => (mem_sel.mp hc).1
    let p : KV.Cell → Bool := fun c => !(((around c).filter (hard S)).map fun _ => (1 : Int)).isEmpty
    have hp : ∀ c, InG S c → (p c = true ↔ (gd S).sb c) := fun c i => by
      rw [← around_sb wf i]
      show (!(((around c).filter (hard S)).map fun _ => (1 : Int)).isEmpty) = true ↔ _
      rw [Bool.not_eq_true', List.isEmpty_eq_false_iff]
      constructor
      · intro h
        obtain ⟨q, hq⟩ := List.exists_mem_of_ne_nil ((around c).filter (hard S)) fun z => h (by rw [z]; rfl)
        exact ⟨q, (List.mem_filter.mp hq).1, (List.mem_filter.mp hq).2⟩
      · rintro ⟨q, h1, h2⟩ z
        have z := List.map_eq_nil_iff.mp z
        have := List.mem_filter.mpr ⟨h1, h2⟩
        rw [z] at this
        simp at this
    intro σ H O D l g q
    refine s_new (ds := []) l g (n_lst (ds := []) a_nil) fun F H1 xs nF s1 eF rF l1 g1 => ?_
    refine for_src (O := F :: O) (items := op.map cellD) (src_list (e_call (ds := [secD S]) (a_cons (e_var rfl) a_nil) ⟨S, rfl, wf, rfl⟩)) l1 g1 fun H2 s2 => ⟨fun i σ' H' => But F H2 H' ∧ (∃ (xs : List V), H' F = some (.lst xs) ∧ RpAll (cut (F :: O) H') xs (((op.take i).filter p).map cellD)) ∧ Live (F :: O) H' ∧ EnvOk (cut (F :: O) H') σ' (gGrw S (.ptr F)), ?_, ?_, ?_, ?_⟩
    · exact ⟨fun b o _ e => e, ⟨xs, s2 _ _ eF, RpAll.mono (cut_mono s2) _ _ rF⟩, l1.mono s2, g1.mono (cut_mono s2)⟩
    · rintro i σ' H' _ ⟨b, _⟩
      exact b.cut (by simp)
    · intro i d x σ' H' H3 ed ⟨b, ⟨xs, eF, rF⟩, l2, g2⟩ s3 hx
      rw [List.getElem?_map] at ed
      obtain ⟨c, ec, rfl⟩ := Option.map_eq_some_iff.mp ed
      have ic := opin c (List.mem_of_getElem? ec)
      have l3 := l2.mono s3
      have rF3 := RpAll.mono (cut_mono s3) _ _ rF
      have eF3 := s3 _ _ eF
      have eT : ((op.take (i + 1)).filter p).map cellD = ((op.take i).filter p).map cellD ++ (if p c then [cellD c] else []) := take_fm (f := cellD) ec
      have short : (((op.take i).filter p).map cellD).length < 100000 := by
        rw [List.length_map]
        have h1 := List.length_filter_le p (op.take i)
        have h2 : (op.take i).length ≤ op.length := by rw [List.length_take]; omega
        omega
      refine tg_pair (K := K) 4 5 (d1 := .int c.1) (d2 := .int c.2) σ' H3 _ x _ l3 (g2.mono (cut_mono s3)) (hx _ l2 (b.cut (by simp))) fun σ4 g4 _ => ?_
      refine s_let (e := .dat (.list ((around c).map (atD S)))) l3 g4 (NL.e (n_lcB (emb := cellD) (qs := around c) (fun q => (wipeG _ [7]).set 7 (.dat (cellD q))) (atD S) (src_list (e_call (ds := [cellD c]) (a_cons (e_tup (ds := [.int c.1, .int c.2]) (a_cons (e_var rfl) (a_cons (e_var rfl) a_nil))) a_nil) ⟨c, rfl, rfl⟩)) (by unfold around; simp) (fun q _ => tg_name 7) (by simp)
        (fun q _ => e_call (ds := [secD S, .int q.1, .int q.2]) (a_cons (e_var rfl) (a_cons (e_c0 (e_var rfl)) (a_cons (e_c1' (e_var rfl)) a_nil))) ⟨S, q, rfl, wf, rfl⟩))) fun v5 H5 s5 l5 g5 => ?_
      refine s_if (b := p c) l5 g5 (t_to (t_and (b := p c) (t_tst (e_to (e_eq (act0 rfl) e_str) (by rw [eq_lay]))) fun _ => t_tst (e_to (e_neNil (ds := (((around c).filter (hard S)).map fun _ => (1 : Int)).map .int) (NL.e (nl_to (n_lcA (emb := atD S) (qs := around c) (fun q => (wipeG _ [8]).set 8 (.dat (atD S q))) (hard S) (fun _ => .int 1) (src_list (e_var rfl)) (by unfold around; simp) (fun q _ => tg_name 8) (by simp) (fun q _ => t_tst (e_hard (e_var rfl))) (fun q _ _ => e_int)) (by rw [List.map_map]; rfl))) (shaped_ints _)) (by rw [List.isEmpty_map]))) (by rw [Bool.true_and])) fun H6 s6 l6 g6 => ?_
      -- the rest of the turn
      have rest : ∀ (H7 : Hp) (b7 : But F H2 H7), (∃ xs, H7 F = some (.lst xs) ∧ RpAll (cut (F :: O) H7) xs (((op.take (i + 1)).filter p).map cellD)) → Live (F :: O) H7 → EnvOk (cut (F :: O) H7) (σ4.set 6 (some v5)) (((gGrw S (.ptr F)).set 4 (.dat (.int c.1))).set 5 (.dat (.int c.2)) |>.set 6 (.dat (.list ((around c).map (atD S))))) →
          ∀ (u1 u2 : TS) (t1 t2 : TT) (D2 : Ends), Tt t1 (((gGrw S (.ptr F)).set 4 (.dat (.int c.1))).set 5 (.dat (.int c.2)) |>.set 6 (.dat (.list ((around c).map (atD S))))) false → Tt t2 (((gGrw S (.ptr F)).set 4 (.dat (.int c.1))).set 5 (.dat (.int c.2)) |>.set 6 (.dat (.list ((around c).map (atD S))))) false → D2.nx = (fun σ' H' => But F H2 H' ∧ (∃ (xs : List V), H' F = some (.lst xs) ∧ RpAll (cut (F :: O) H') xs (((op.take (i + 1)).filter p).map cellD)) ∧ Live (F :: O) H' ∧ EnvOk (cut (F :: O) H') σ' (gGrw S (.ptr F))) →
          tSeq (tIfS t1 u1 tNext) (tIfS t2 u2 tNext) D2 (σ4.set 6 (some v5)) H7 := by
        intro H7 b7 ⟨xs, e7, r7⟩ l7 g7 u1 u2 t1 t2 D2 h1 h2 hD
        refine s_if (b := false) l7 g7 h1 fun H8 s8 l8 g8 => ?_
        rw [if_neg (by decide)]
        refine s_if (b := false) l8 g8 h2 fun H9 s9 l9 g9 => ?_
        rw [if_neg (by decide)]
        show D2.nx _ _
        rw [hD]
        have s := s8.trans s9
        exact ⟨fun a o n e => s _ _ (b7 a o n e), ⟨xs, s _ _ e7, RpAll.mono (cut_mono s) _ _ r7⟩, l9, (((g9.blur 4).blur 5).blur 6)⟩
      have sd : ∀ {t : TT}, Tt (tAnd (tTest (tOp rEq (tOp (rIx K) (tVar 1) (tC (.int 0))) (tC (.str "seed")))) t) (((gGrw S (.ptr F)).set 4 (.dat (.int c.1))).set 5 (.dat (.int c.2)) |>.set 6 (.dat (.list ((around c).map (atD S))))) false := fun {t} => t_and (a := false) (b := false) (t_tst (e_to (e_eq (act0 rfl) e_str) (by rw [ne_seed]))) (fun z => nomatch z)
      have fd : ∀ {t : TT}, Tt (tAnd (tTest (tOp rEq (tOp (rIx K) (tVar 1) (tC (.int 0))) (tC (.str "fill")))) t) (((gGrw S (.ptr F)).set 4 (.dat (.int c.1))).set 5 (.dat (.int c.2)) |>.set 6 (.dat (.list ((around c).map (atD S))))) false := fun {t} => t_and (a := false) (b := false) (t_tst (e_to (e_eq (act0 rfl) e_str) (by rw [ne_fill]))) (fun z => nomatch z)
      have s36 := s5.trans s6
      have b6 : But F H2 H6 := fun a o n e => s36 _ _ (s3 _ _ (b a o n e))
      have e6 := s36 _ _ eF3
      have r6 := RpAll.mono (cut_mono s36) _ _ rF3
      cases hpc : p c with
      | true =>
        rw [if_pos rfl]
        refine s_app (to := tVar 3) (d := cellD c) l6 g6 (by simp) e6 r6 (e_var rfl) (e_tup (ds := [.int c.1, .int c.2]) (a_cons (e_var rfl) (a_cons (e_var rfl) a_nil))) short fun H7 v7 b7 e7 r7 => ?_
        exact rest H7 (b6.trans b7) ⟨_, e7, by rw [eT, hpc, if_pos rfl]; exact r7⟩ (l6.but b7 ⟨_, e7, fun _ z => nomatch z⟩) (g6.mono (b7.cut (by simp))) _ _ _ _ _ sd fd rfl
      | false =>
        rw [if_neg (by decide)]
        exact rest H6 b6 ⟨_, e6, by rw [eT, hpc, if_neg (by decide), List.append_nil]; exact r6⟩ l6 g6 _ _ _ _ _ sd fd rfl
    · rintro σ' H' ⟨b, ⟨xs, eF, rF⟩, l2, g2⟩
      rw [List.length_map, List.take_length] at rF
      have nFO : F ∉ O := l.no nF
      have g3 := g2.openL (O' := O) (i := 3) rfl (fun a h => List.mem_cons_of_mem _ h) nFO eF rF
      have fresh : Same H H' := fun a o e => b a o (ne_of_none e nF) (s2 _ _ (s1 _ _ e))
      refine (e_var (i := 3) rfl) σ' H' O (l2.sub fun a h => List.mem_cons_of_mem _ h) g3 _ fun v H5 e z s5 r5 => q v H5 e (z.trans ?_) (fresh.trans s5) r5
      congr 3
      exact sel_filter (π := (gd S).O 0) (ρ := fun c => (gd S).O 0 c ∧ (gd S).sb c) fun c i => and_congr_right fun _ => (hp c i).symm
end KQ
/-! Q5 -/
set_option Elab.async false
set_option linter.all false
set_option maxRecDepth 100000
set_option maxHeartbeats 4000000
namespace KQ
open PySem L2 KV KR KS KC KD KX KP
variable {P : Program} {w : World} {K : PySem.W.Frag} {mg : Str → Option Value} {base : Heap}
/-! ### _law_first_half -/
abbrev spHalf : Sp := spE (rD 4 fun ds d => ∃ S, ds = [secD S, actD, .tuple [], .list []] ∧ Wf S ∧ d = secD (layS S))
abbrev NN_law_first_half : List Str := ["_law_pile_so", "_law_act_so", "_law_films_so", "_law_turned_so", "_law_word_so", "_law_tops_so", "_law_spots_so", "_law_found", "_law_own", "_law_bit_so", "_law_k", "_law_tall_so", "_law_c"]
theorem sc_law_first_half : FnScope NN_law_first_half ["_law_pile_so", "_law_act_so", "_law_films_so", "_law_turned_so"] (defScope (KH.top 49)) := ⟨rfl, rfl, rfl, by decide +kernel, rfl, by decide +kernel, by decide +kernel⟩
theorem cal_law_first_half (B : Blt mg) (D : Df K mg "_law_first_half" 49) (C_law_tops : Cal P w K mg base "_law_tops" ["_law_pile_so"] 1 (spE rTops)) (C_law_growth : Cal P w K mg base "_law_growth" ["_law_pile_so", "_law_act_so"] 4 spGrowth)
    (C_law_put : Cal P w K mg base "_law_put" ["_law_pile_so", "_law_spots_so", "_law_holds_so"] 1 spPut) : Cal P w K mg base "_law_first_half" ["_law_pile_so", "_law_act_so", "_law_films_so", "_law_turned_so"] 5 spHalf :=
  cal_pure D sc_law_first_half (fun _ _ _ _ _ _ us hl => match us, hl with | [_, _, _, _], _ => rfl) (rD_len) fun f cdv A outer s H es Φ hr h => by
    obtain ⟨ds, d, hn, rfl, ⟨S, rfl, wf, rfl⟩, rfl⟩ := h
    refine ⟨_, (pss_cons (ps_asg (pe_tup (pa_cons (pe_ix (ix_seqK (K := K) rfl) (pv 1) pe_int (fun _ _ => rfl)) (pa_cons (pe_cal C_law_tops hr (by rfl) (pa_cons (pv 0) pa_nil)) pa_nil))) (pg_tupK (K := K) rfl (n := 2) rfl (pgs_cons (pg_name (i := 4) sc_law_first_half.nd rfl (Or.inl rfl)) (pgs_cons (pg_name (i := 5) sc_law_first_half.nd rfl (Or.inr rfl)) pgs_nil))))
      (pss_cons (ps_if (pt_cmpR (op_in_seqK (K := K) rfl) (pv 4) (pe_tup (pa_cons pe_str (pa_cons pe_str (pa_cons pe_str (pa_cons pe_str pa_nil))))) (by rfl)) (pss_one (ps_ret (pe_cal C_law_put hr (by rfl) (pa_cons (pv 0) (pa_cons (pe_cal C_law_growth hr (by rfl) (pa_cons (pv 0) (pa_cons (pv 1) pa_nil))) (pa_cons (pe_ix (ix_seqK (K := K) rfl) (pv 1) pe_int (fun _ _ => rfl)) pa_nil)))))) pss_nil)
      pss_never)), ?_⟩
    clear hr
    refine b_pairs (d1 := .str "lay") (Ψ := fun _ => True) (es_pair (act0 rfl) (es_call (es := [.dat (secD S)]) (a_cons (e_var rfl) a_nil) ⟨S, rfl, wf, rfl⟩) fun e ⟨ns, h⟩ => ⟨_, h, trivial⟩) fun d2 _ => ?_
    refine b_if (b := true) (t_tst (e_to (e_inT (d := .str "lay") (ds := [.str "lay", .str "seed", .str "fill", .str "rain"]) (x := .str "lay") (xs := [.str "lay", .str "seed", .str "fill", .str "rain"]) (neg := false) (e_var rfl) (e_tup (a_cons e_str (a_cons e_str (a_cons e_str (a_cons e_str a_nil))))) rfl rfl rfl rfl) ?_)) (fun _ => ?_) (fun z => nomatch z)
    · show En.dat (.bool (inV _ _)) = _
      congr 2
    · exact b_ret (e_call (ds := [secD S, .list ((sel S fun c => (gd S).O 0 c ∧ (gd S).sb c).map cellD), .int 4]) (a_cons (e_var rfl) (a_cons (e_call (ds := [secD S, actD]) (a_cons (e_var rfl) (a_cons (e_var rfl) a_nil)) ⟨S, rfl, wf, rfl⟩) (a_cons (act1 rfl) a_nil))) ⟨S, _, 4, rfl, wf, fun c hc => (mem_sel.mp hc).1, by decide, rfl⟩)
/-! ### _law_many -/
abbrev spMany : Sp := spE (rD 1 fun ds d => ds = [actD] ∧ d = .int 1)
abbrev NN_law_many : List Str := ["_law_act_so"]
theorem sc_law_many : FnScope NN_law_many ["_law_act_so"] (defScope (KH.top 50)) := ⟨rfl, rfl, rfl, by decide +kernel, rfl, by decide +kernel, by decide +kernel⟩
theorem cal_law_many (B : Blt mg) (D : Df K mg "_law_many" 50) : Cal P w K mg base "_law_many" ["_law_act_so"] 1 spMany :=
  cal_pure D sc_law_many (fun _ _ _ _ _ _ us hl => match us, hl with | [_], _ => rfl) (rD_len) fun f cdv A outer s H es Φ hr h => by
    obtain ⟨ds, d, hn, rfl, ⟨rfl, rfl⟩, rfl⟩ := h
    refine ⟨_, (pss_one (ps_ret (pe_ifExp (pt_cmpR (op_in_seqK (K := K) rfl) (pe_ix (ix_seqK (K := K) rfl) (pv 0) pe_int (fun _ _ => rfl)) (pe_tup (pa_cons pe_str (pa_cons pe_str (pa_cons pe_str (pa_cons pe_str (pa_cons pe_str (pa_cons pe_str pa_nil))))))) (by rfl)) (pe_ix (ix_seqK (K := K) rfl) (pv 0) (pe_un un_neg pe_int) (fun _ _ => rfl)) pe_int))), ?_⟩
    clear hr
    refine b_ret (es_if (b := true) (t_tst (e_to (e_inT (d := .str "lay") (ds := [.str "lay", .str "seed", .str "eat", .str "rain", .str "shoot", .str "turn"]) (x := .str "lay") (xs := [.str "lay", .str "seed", .str "eat", .str "rain", .str "shoot", .str "turn"]) (neg := false) (act0 rfl) (e_tup (a_cons e_str (a_cons e_str (a_cons e_str (a_cons e_str (a_cons e_str (a_cons e_str a_nil))))))) rfl rfl rfl rfl) ?_)) (fun _ => ?_) (fun z => nomatch z))
    · show En.dat (.bool (inV _ _)) = _
      congr 2
    · exact e_ix (d := actD) (e_var rfl) (e_un (f := fun i => -i) e_int) rfl (atI_last [PyData.str "lay", PyData.int 4] (PyData.int 1))
/-! ### _law_rounds -/
abbrev spRnds : Sp := spE (rD 3 fun ds d => ∃ S, ds = [secD S, actD, .tuple []] ∧ Wf S ∧ d = .list [.tuple [secD (layS S), secD (doneS S)]])
abbrev gRnd (S T : Sec) (e5 : En) : List En := [.dat (secD S), .dat actD, .dat (.tuple []), .dat (secD T), .dat (.list []), e5, .unk, .unk]
abbrev NN_law_rounds : List Str := ["_law_pile_so", "_law_act_so", "_law_films_so", "_law_now_so", "_law_turned_so", "_law_found", "_law_lap", "_law_half_so"]
theorem sc_law_rounds : FnScope NN_law_rounds ["_law_pile_so", "_law_act_so", "_law_films_so"] (defScope (KH.top 51)) := ⟨rfl, rfl, rfl, by decide +kernel, rfl, by decide +kernel, by decide +kernel⟩
theorem cal_law_rounds (B : Blt mg) (D : Df K mg "_law_rounds" 51) (C_law_many : Cal P w K mg base "_law_many" ["_law_act_so"] 1 spMany) (C_law_first_half : Cal P w K mg base "_law_first_half" ["_law_pile_so", "_law_act_so", "_law_films_so", "_law_turned_so"] 5 spHalf)
    (C_law_washed : Cal P w K mg base "_law_washed" ["_law_pile_so"] 4 spWashed) : Cal P w K mg base "_law_rounds" ["_law_pile_so", "_law_act_so", "_law_films_so"] 6 spRnds :=
  cal_pure D sc_law_rounds (fun _ _ _ _ _ _ us hl => match us, hl with | [_, _, _], _ => rfl) (rD_len) fun f cdv A outer s H es Φ hr h => by
    obtain ⟨ds, d, hn, rfl, ⟨S, rfl, wf, rfl⟩, rfl⟩ := h
    refine ⟨_, (pss_cons (ps_par3 (i := 3) (j := 4) (l := 5) rfl sc_law_rounds.nd rfl rfl rfl (by decide) (by decide) (by decide) rfl rfl rfl (pa_cons (pv 0) (pa_cons (pe_lst pa_nil) (pa_cons (pe_lst pa_nil) pa_nil))) (by rfl))
      (pss_cons (ps_for PassesOwn.never rfl (pi_range1 (by rfl) B.range (pa_cons (pe_cal C_law_many hr (by rfl) (pa_cons (pv 1) pa_nil)) pa_nil)) (pg_name (i := 6) sc_law_rounds.nd rfl (Or.inl rfl))
      (pss_cons (ps_set (i := 7) sc_law_rounds.nd rfl (Or.inl rfl) (pe_cal C_law_first_half hr (by rfl) (pa_cons (pv 3) (pa_cons (pv 1) (pa_cons (pv 2) (pa_cons (pv 4) pa_nil))))))
      (pss_cons (ps_set (i := 3) sc_law_rounds.nd rfl (Or.inl rfl) (pe_cal C_law_washed hr (by rfl) (pa_cons (pv 7) pa_nil)))
      (pss_one (ps_expr (pe_bmK (K := K) rfl PySem.F.plainAttrs_list PySem.F.slot_list_append PySem.F.type_list_append mt_append (pv 5) (pa_cons (pe_tup (pa_cons (pv 7) (pa_cons (pv 3) pa_nil))) pa_nil)))))))
      (pss_one (ps_ret (pv 5))))), ?_⟩
    clear hr
    intro σ H O D l g q
    refine s_par3L (e1 := .dat (secD S)) (e2 := .dat (.list [])) (ds := []) l g (e_var rfl) (n_lst (ds := []) a_nil).e (n_lst (ds := []) a_nil) fun v0 w0 F H1 xs nF s1 eF rF l1 g1 => ?_
    let done : Nat → List PyData := fun i => if i = 0 then [] else [.tuple [secD (layS S), secD (doneS S)]]
    let now : Nat → Sec := fun i => if i = 0 then S else doneS S
    refine for_src (O := F :: O) (items := rgD 0 1) (src_to (src_rng1 (n := 1) (a_cons (e_call (ds := [actD]) (a_cons (e_var rfl) a_nil) ⟨rfl, rfl⟩) a_nil) (by decide) (by decide)) rfl) l1 g1 fun H2 s2 => ⟨fun i σ' H' => But F H2 H' ∧ (∃ (xs : List V), H' F = some (.lst xs) ∧ RpAll (cut (F :: O) H') xs (done i)) ∧ Live (F :: O) H' ∧ EnvOk (cut (F :: O) H') σ' (gRnd S (now i) (.ptr F)), ?_, ?_, ?_, ?_⟩
    · exact ⟨fun b o _ e => e, ⟨xs, s2 _ _ eF, RpAll.mono (cut_mono s2) _ _ rF⟩, l1.mono s2, g1.mono (cut_mono s2)⟩
    · rintro i σ' H' _ ⟨b, _⟩
      exact b.cut (by simp)
    · intro i d x σ' H' H3 ed ⟨b, ⟨xs, eF, rF⟩, l2, g2⟩ s3 hx
      have hi := (List.getElem?_eq_some_iff.mp ed).1
      rw [rgD_length] at hi
      have hi : i = 0 := by omega
      subst hi
      have l3 := l2.mono s3
      have g3 := (g2.mono (cut_mono s3)).set (.dat (hx _ l2 (b.cut (by simp)))) 6
      refine s_let (e := .dat (secD (layS S))) l3 g3 (e_call (ds := [secD S, actD, .tuple [], .list []]) (a_cons (e_var rfl) (a_cons (e_var rfl) (a_cons (e_var rfl) (a_cons (e_var rfl) a_nil)))) ⟨S, rfl, wf, rfl⟩) fun v4 H4 s4 l4 g4 => ?_
      refine s_let (e := .dat (secD (doneS S))) l4 g4 (e_call (ds := [secD (layS S)]) (a_cons (e_var rfl) a_nil) ⟨layS S, rfl, (lay_ok wf).wf, rfl⟩) fun v5 H5 s5 l5 g5 => ?_
      have s35 := (s3.trans s4).trans s5
      refine s_app (to := tVar 5) (d := .tuple [secD (layS S), secD (doneS S)]) l5 g5 (by simp) (s35 _ _ eF) (RpAll.mono (cut_mono s35) _ _ rF) (e_var rfl) (e_tup (ds := [secD (layS S), secD (doneS S)]) (a_cons (e_var rfl) (a_cons (e_var rfl) a_nil))) (by show 0 < 100000; decide) fun H6 v6 b6 e6 r6 => ?_
      exact ⟨(fun c o n e => b6 c o n (s35 _ _ (b c o n e))), ⟨_, e6, r6⟩, l5.but b6 ⟨_, e6, fun _ z => nomatch z⟩, (((g5.mono (b6.cut (by simp))).blur 6).blur 7)⟩
    · rintro σ' H' ⟨b, ⟨xs, eF, rF⟩, l2, g2⟩
      have nFO : F ∉ O := l.no nF
      have g3 := g2.openL (O' := O) (i := 5) rfl (fun a h => List.mem_cons_of_mem _ h) nFO eF rF
      have fresh : Same H H' := fun a o e => b a o (ne_of_none e nF) (s2 _ _ (s1 _ _ e))
      exact (e_var (i := 5) rfl) σ' H' O (l2.sub fun a h => List.mem_cons_of_mem _ h) g3 _ fun v H5 e z s5 r5 => q v H5 e z (fresh.trans s5) r5
/-! ### _law_done -/
abbrev spDone : Sp := spE (rD 3 fun ds d => ∃ S, ds = [secD S, actD, .tuple []] ∧ Wf S ∧ d = secD (doneS S))
abbrev NN_law_done : List Str := ["_law_pile_so", "_law_act_so", "_law_films_so", "_law_own"]
theorem sc_law_done : FnScope NN_law_done ["_law_pile_so", "_law_act_so", "_law_films_so"] (defScope (KH.top 52)) := ⟨rfl, rfl, rfl, by decide +kernel, rfl, by decide +kernel, by decide +kernel⟩
theorem cal_law_done (B : Blt mg) (D : Df K mg "_law_done" 52) (C_law_rounds : Cal P w K mg base "_law_rounds" ["_law_pile_so", "_law_act_so", "_law_films_so"] 6 spRnds) : Cal P w K mg base "_law_done" ["_law_pile_so", "_law_act_so", "_law_films_so"] 7 spDone :=
  cal_pure D sc_law_done (fun _ _ _ _ _ _ us hl => match us, hl with | [_, _, _], _ => rfl) (rD_len) fun f cdv A outer s H es Φ hr h => by
    obtain ⟨ds, d, hn, rfl, ⟨S, rfl, wf, rfl⟩, rfl⟩ := h
    refine ⟨_, (pss_one (ps_ret (pe_ix (ix_seqK (K := K) rfl) (pe_op op_cat (pe_lst (pa_cons (pv 0) pa_nil)) (pe_lc (own := [("_law_own", 3)]) rfl sc_law_done.nd (pi_listK (K := K) rfl (pe_cal C_law_rounds hr (by rfl) (pa_cons (pv 0) (pa_cons (pv 1) (pa_cons (pv 2) pa_nil))))) (blkOk_by (sc := defScope (KH.top 52)) (own := [("_law_own", 3)]) (N := NN_law_done) (by decide +kernel)) (fun _ _ _ _ _ => (pg_name (i := 3) sc_law_done.nd rfl (Or.inl rfl))) (fun _ _ _ _ _ => pts_nil) (fun _ _ _ _ _ => (pe_ix (ix_seqK (K := K) rfl) (pv 3) pe_int (fun _ _ => rfl))))) (pe_un un_neg pe_int) (fun _ _ => rfl)))), ?_⟩
    clear hr
    refine b_ret (e_ix (ds := [secD S, secD (doneS S)]) (NL.e (nl_to (n_cat (ds := [secD S]) (es := [secD (doneS S)]) (n_lst (ds := [secD S]) (a_cons (e_var rfl) a_nil)).e (NL.e (nl_to (n_lcB (emb := fun _ : Unit => .tuple [secD (layS S), secD (doneS S)]) (qs := [()]) (fun _ => (wipeG _ [3]).set 3 (.dat (.tuple [secD (layS S), secD (doneS S)]))) (fun _ => secD (doneS S))
      (src_list (e_call (ds := [secD S, actD, .tuple []]) (a_cons (e_var rfl) (a_cons (e_var rfl) (a_cons (e_var rfl) a_nil))) ⟨S, rfl, wf, rfl⟩)) (by show 1 ≤ 100000; decide) (fun _ _ => tg_name 3) (by simp) (fun _ _ => e_ix (e_var rfl) e_int rfl (atI_nat (j := 1) rfl))) rfl)) (by show 1 + 1 ≤ 100000; decide)) rfl)) (e_un (f := fun i => -i) e_int) rfl (atI_last [secD S] (secD (doneS S))))
end KQ
/-! Q6 -/
set_option Elab.async false
set_option linter.all false
set_option maxRecDepth 100000
set_option maxHeartbeats 4000000
namespace KV
open PySem L2 KR
section
variable {K : PySem.W.Frag} {Γ Γ' : List En} {ta tb te td ty tv to : TE} {D : Ends} {σ : St} {H H1 : Hp} {O O' : List Addr} {tz ts tr : TS} {p : Addr} {T T1 T2 : Nat} {Φ : En → Prop}
/-- p[c] = an int, ahead of more -/
theorem s_setPs {tp tc : TE} {x : Int} {c : Nat} {xs : List V} (hp : p ∈ O) (l : Live O H) (env : EnvOk (cut O H) σ Γ) (l' : Live O' H) (env' : EnvOk (cut O' H) σ Γ') (h : Ed te Γ' (.int x)) (eP : H p = some (.lst xs)) (ho : E tp Γ (.ptr p)) (hc : Ed tc Γ (.int (c : Int))) (hl : c < xs.length)
    (k : ∀ H1, But p H H1 → H1 p = some (.lst (xs.set c (.int x))) → Live O H1 → EnvOk (cut O H1) σ Γ → tz D σ H1) : tSeq (tAsg te (gSub tp tc rSetL)) tz D σ H :=
  show tAsg te (gSub tp tc rSetL) { D with nx := tz D } σ H from s_setP hp l env l' env' h eP ho hc hl k
theorem n_orT {ds es : List PyData} (ha : NL ta Γ ds) (hb : NL tb Γ es) : NL (tOrT K ta tb) Γ (if ds.isEmpty then es else ds) := fun σ H O l env Q q =>
  ha σ H O l env _ fun p H1 xs n s e r => by
    have hl := r.length
    refine ⟨!xs.isEmpty, .inl ⟨xs, SqL.of e, rfl⟩, ?_⟩
    cases ds with
    | nil =>
      have : xs = [] := List.eq_nil_of_length_eq_zero hl
      subst this
      rw [if_neg (by decide)]
      exact hb σ H1 O (l.mono s) (env.mono (cut_mono s)) Q fun p2 H2 ys n2 s2 e2 r2 => q p2 H2 ys (s.free n2) (s.trans s2) e2 r2
    | cons d ds =>
      cases xs with
      | nil => simp at hl
      | cons x xs => rw [if_pos (by rfl)]; exact q p H1 _ n s e r
/-- ints, cut -/
theorem cutV_ints (ns : List Int) (lo hi : Option Int) : ∃ ms : List Int, cutV (ns.map V.int) lo hi = ms.map V.int ∧ ms.length ≤ ns.length := by
  refine ⟨(ns.drop (HT.sIx ns.length 0 lo)).take (HT.sIx ns.length ns.length hi - HT.sIx ns.length 0 lo), ?_, ?_⟩
  · unfold cutV
    rw [List.length_map, ← List.map_drop, ← List.map_take]
  · rw [List.length_take, List.length_drop]; omega
theorem n_slice {ns ms : List Int} {lo hi : Option Int} {tl th : TO} (h : Ed te Γ (.list (ns.map .int))) (hlo : ∀ σ H O, Live O H → EnvOk (cut O H) σ Γ → ∀ Q : Option Int → Hp → Prop, (∀ H2, Same H H2 → Q lo H2) → tl σ H Q) (hhi : ∀ σ H O, Live O H → EnvOk (cut O H) σ Γ → ∀ Q : Option Int → Hp → Prop, (∀ H2, Same H H2 → Q hi H2) → th σ H Q)
    (e : cutV (ns.map V.int) lo hi = ms.map V.int) : NL (tSl (rSlL K) te tl th) Γ (ms.map .int) := fun σ H O l env Q q =>
  h σ H O l env _ fun x H1 _ z s1 r1 => by
    subst z
    cases r1 with | dat r1 =>
    obtain ⟨a, xs, rfl, ea, r⟩ := rp_list r1
    rw [r.toInts] at ea
    refine hlo σ H1 O (l.mono s1) (env.mono (cut_mono s1)) _ fun H2 s2 => ?_
    have s12 := s1.trans s2
    refine hhi σ H2 O (l.mono s12) (env.mono (cut_mono s12)) _ fun H3 s3 => ?_
    refine ⟨a, _, rfl, SqL.of (s3 _ _ (s2 _ _ (cut_same _ _ _ _ ea))), fun p hp => ?_⟩
    have s := s12.trans s3
    refine q p _ _ (s.free hp) (s.trans (same_upd hp)) upd_same ?_
    rw [e]
    exact RpAll.ints ms
/-- the same of the script -/
theorem n_sliceS {ns ms : List Int} {lo hi : Option Int} {tl th : TO} (h : E te Γ (.scr K ns)) (hlo : ∀ σ H O, Live O H → EnvOk (cut O H) σ Γ → ∀ Q : Option Int → Hp → Prop, (∀ H2, Same H H2 → Q lo H2) → tl σ H Q) (hhi : ∀ σ H O, Live O H → EnvOk (cut O H) σ Γ → ∀ Q : Option Int → Hp → Prop, (∀ H2, Same H H2 → Q hi H2) → th σ H Q)
    (e : cutV (ns.map V.int) lo hi = ms.map V.int) : NL (tSl (rSlL K) te tl th) Γ (ms.map .int) := fun σ H O l env Q q =>
  h σ H O l env _ fun x H1 _ z s1 r1 => by
    subst z
    refine hlo σ H1 O (l.mono s1) (env.mono (cut_mono s1)) _ fun H2 s2 => ?_
    have s12 := s1.trans s2
    refine hhi σ H2 O (l.mono s12) (env.mono (cut_mono s12)) _ fun H3 s3 => ?_
    have r3 := r1.mono ((cut_mono s2).trans (cut_mono s3))
    cases r3 with | @scr _ a _ sq =>
    refine ⟨a, _, rfl, sq.elim (fun h => .inl (h.elim (fun z => .inl (cut_same _ _ _ _ z)) fun ⟨o, z⟩ => .inr ⟨o, cut_same _ _ _ _ z⟩)) .inr, fun p hp => ?_⟩
    have s := s12.trans s3
    refine q p _ _ (s.free hp) (s.trans (same_upd hp)) upd_same ?_
    rw [e]
    exact RpAll.ints ms
theorem part_no {Γ : List En} : ∀ σ H O, Live O H → EnvOk (cut O H) σ Γ → ∀ Q : Option Int → Hp → Prop, (∀ H2, Same H H2 → Q none H2) → tNoPart σ H Q := fun σ H O _ _ Q q => q H (Same.refl H)
theorem part_of {i : Int} (h : Ed te Γ (.int i)) : ∀ σ H O, Live O H → EnvOk (cut O H) σ Γ → ∀ Q : Option Int → Hp → Prop, (∀ H2, Same H H2 → Q (some i) H2) → tPart te σ H Q := fun σ H O l g Q q => h σ H O l g _ fun v H2 _ z s r => by
  subst z
  cases r with | dat r => exact ⟨i, r.toInt, q H2 s⟩
/-- an item by a drawn place -/
theorem et_ixL {ns : List Int} (ha : Ed ta Γ (.list (ns.map .int))) (hb : Et tb Γ p T T1 (isI fun r => 0 ≤ r ∧ r < ns.length)) : Et (tOp (rIx K) ta tb) Γ p T T1 (isI (· ∈ ns)) := fun σ H O hp l g tin Q q =>
  ha σ H O l g _ fun x H1 _ z s1 r1 => by
    subst z
    refine hb σ H1 O hp (l.mono s1) (g.mono (cut_mono s1)) (tin.same s1) _ fun y H2 e ⟨j, z, h0, h1⟩ b2 t2 r2 => ?_
    subst z
    cases r2 with | dat r2 => cases r1 with | dat r1 =>
    obtain ⟨a, xs, rfl, ea, r⟩ := rp_list (Rp.mono (b2.cut hp) _ _ r1)
    rw [r.toInts] at ea
    have hj : j.toNat < ns.length := by omega
    refine .inl ⟨a, ns.map V.int, j, .int ns[j.toNat], rfl, r2.toInt, SqL.of (cut_same _ _ _ _ ea), ?_, q _ _ _ ⟨_, rfl, List.getElem_mem hj⟩ (But.same s1 b2) t2 (.dat (.int _))⟩
    refine KD.atI_get' h0 ?_
    rw [List.getElem?_map, List.getElem?_eq_getElem hj]
    rfl
end
end KV
namespace KQ
open PySem L2 KV KR KS KC KD KX KP
variable {P : Program} {w : World} {K : PySem.W.Frag} {mg : Str → Option Value} {base : Heap}
/-! ### _law_take -/
abbrev rTake : Addr → Nat → List En → Nat → (En → Prop) → Prop := fun p T es T' Φ => ∃ n : Int, es = [.ptr p, .dat (.int n)] ∧ 1 ≤ n ∧ n ≤ 1000 ∧ T ≤ 1000000 ∧ T' = T + 1 ∧ Φ = isI fun r => 0 ≤ r ∧ r < n
theorem fmod_lt {a n : Int} (h : 1 ≤ n) : 0 ≤ a.fmod n ∧ a.fmod n < n := ⟨Int.fmod_nonneg_of_pos a (by omega), Int.fmod_lt_of_pos a (by omega)⟩
abbrev NN_law_take : List Str := ["_law_tin", "_law_below_so", "_law_drawn", "_law_once_so", "_law_wide_so", "_law_twice_so"]
theorem sc_law_take : FnScope NN_law_take ["_law_tin", "_law_below_so"] (defScope (KH.top 28)) := ⟨rfl, rfl, rfl, by decide +kernel, rfl, by decide +kernel, by decide +kernel⟩
theorem cal_law_take (B : Blt mg) (D : Df K mg "_law_take" 28) : Cal P w K mg base "_law_take" ["_law_tin", "_law_below_so"] 1 (spT rTake) :=
  cal_T D sc_law_take (fun _ _ _ _ _ _ us hl => match us, hl with | [_, _], _ => rfl) (fun p T es T' Φ h => by obtain ⟨n, rfl, _⟩ := h; rfl) fun f cdv A outer s H p T es T' Φ hr h => by
    obtain ⟨n, rfl, n1, n2, hT, rfl, rfl⟩ := h
    refine ⟨_, (pss_cons (ps_if (pt_cmpR op_gt (pe_ix (ix_seqK (K := K) rfl) (pv 0) pe_int (fun _ _ => rfl)) pe_int (nomark _)) (pss_cons (ps_set (i := 2) sc_law_take.nd rfl (Or.inl rfl) (pe_op op_modN (pe_callTy call_int1 (by rfl) B.int bt_int (pa_cons (pe_ix (ix_seqK (K := K) rfl) (pv 0) pe_int (fun _ _ => rfl)) pa_nil)) (pv 1)))
      (pss_cons (ps_asg (pe_op op_fdivN (pe_ix (ix_seqK (K := K) rfl) (pv 0) pe_int (fun _ _ => rfl)) (pv 1)) (pg_sub (pv 0) pe_int set_list))
      (pss_one (ps_ret (pv 2))))) pss_nil)
      (pss_cons (ps_asg (pe_op op_add (pe_ix (ix_seqK (K := K) rfl) (pv 0) pe_int (fun _ _ => rfl)) pe_int) (pg_sub (pv 0) pe_int set_list))
      (pss_cons (ps_set (i := 3) sc_law_take.nd rfl (Or.inl rfl) (pe_op op_modN (pe_callTy call_int1 (by rfl) B.int bt_int (pa_cons (pe_op op_mul (pe_op op_add (pe_ix (ix_seqK (K := K) rfl) (pv 0) pe_int (fun _ _ => rfl)) (pe_op op_mul pe_int (pe_ix (ix_seqK (K := K) rfl) (pv 0) pe_int (fun _ _ => rfl)))) (pe_op op_add pe_int (pe_ix (ix_seqK (K := K) rfl) (pv 0) pe_int (fun _ _ => rfl)))) pa_nil)) pe_int))
      (pss_cons (ps_set (i := 4) sc_law_take.nd rfl (Or.inl rfl) (pe_op op_add (pe_op op_modN (pe_callTy call_int1 (by rfl) B.int bt_int (pa_cons (pv 3) pa_nil)) pe_int) pe_int))
      (pss_cons (ps_set (i := 5) sc_law_take.nd rfl (Or.inl rfl) (pe_op op_modN (pe_callTy call_int1 (by rfl) B.int bt_int (pa_cons (pe_op op_mul (pe_op op_add (pe_op op_add (pv 3) (pe_ix (ix_seqK (K := K) rfl) (pv 0) pe_int (fun _ _ => rfl))) (pe_op op_fdivN (pe_ix (ix_seqK (K := K) rfl) (pv 0) pe_int (fun _ _ => rfl)) pe_int)) (pv 4)) pa_nil)) pe_int))
      (pss_one (ps_ret (pe_op op_modN (pe_callTy call_int1 (by rfl) B.int bt_int (pa_cons (pe_op op_fdivN (pe_op op_modN (pe_callTy call_int1 (by rfl) B.int bt_int (pa_cons (pe_op op_add (pe_op op_mul (pv 5) pe_int) (pv 3)) pa_nil)) pe_int) pe_int) pa_nil)) (pv 1))))))))), ?_⟩
    clear hr
    intro σ H O D hp l g tin q
    obtain ⟨a, b, t, e0, a0, b0, b1, t0, t1⟩ := tin.ex
    have op : ∀ {H' : Hp} {σ' : St} {Γ1 : List En} {x y z : Int}, EnvOk (cut O H') σ' Γ1 → Γ1[0]? = some (.ptr p) → H' p = some (.lst [.int x, .int y, .int z]) → EnvOk (cut [] H') σ' (Γ1.set 0 (.dat (.list [.int x, .int y, .int z]))) := fun g h e => g.openL h (by simp) (by simp) e (.cons (.int _) (.cons (.int _) (.cons (.int _) .nil)))
    have i0 : ∀ {Γ1 : List En} {x y z : Int}, Γ1[0]? = some (.dat (.list [.int x, .int y, .int z])) → Ed (tOp (rIx K) (tVar 0) (tC (.int 0))) Γ1 (.int x) := fun h => e_ix (e_var h) e_int rfl (atI_nat (j := 0) rfl)
    have i1 : ∀ {Γ1 : List En} {x y z : Int}, Γ1[0]? = some (.dat (.list [.int x, .int y, .int z])) → Ed (tOp (rIx K) (tVar 0) (tC (.int 1))) Γ1 (.int y) := fun h => e_ix (e_var h) e_int rfl (atI_nat (j := 1) rfl)
    have i2 : ∀ {Γ1 : List En} {x y z : Int}, Γ1[0]? = some (.dat (.list [.int x, .int y, .int z])) → Ed (tOp (rIx K) (tVar 0) (tC (.int 2))) Γ1 (.int z) := fun h => e_ix (e_var h) e_int rfl (atI_nat (j := 2) rfl)
    refine (t_tst (e_B0 (i := a) (j := 0) (i0 rfl) e_int)) σ H [] Live.nil (op g rfl e0) _ fun H1 s1 => ?_
    have l1 := l.mono s1
    have g1 := g.mono (cut_mono s1)
    have e1 := s1 _ _ e0
    by_cases ha : a > 0
    · rw [if_pos (decide_eq_true ha)]
      refine s_letI (x := a.fmod n) l1 g1 Live.nil (op g1 rfl e1) (e_I (e_intI (i0 rfl)) (e_var rfl) (by omega)) fun H2 s2 l2 g2 => ?_
      have e2 := s2 _ _ e1
      refine s_setPs (c := 0) (x := a.fdiv n) hp l2 g2 Live.nil (op g2 rfl e2) (e_I (i0 rfl) (e_var rfl) ⟨by omega, by omega⟩) e2 (e_var rfl) e_int (by show 0 < 3; decide) fun H3 b3 e3 l3 g3 => ?_
      refine (e_var (i := 2) (e := .dat (.int (a.fmod n))) rfl) _ H3 O l3 g3 _ fun v H4 e z s4 r4 => ?_
      exact q v H4 e ⟨_, z, fmod_lt n1⟩ ((But.same (s1.trans s2) b3).after s4) ⟨a.fdiv n, b, t, s4 _ _ e3, Int.fdiv_nonneg (by omega) (by omega), b0, b1, t0, by omega⟩ r4
    · rw [if_neg (by rw [decide_eq_false ha]; decide)]
      refine s_setPs (c := 2) (x := t + 1) hp l1 g1 Live.nil (op g1 rfl e1) (e_I0 (i2 rfl) e_int) e1 (e_var rfl) e_int (by show 2 < 3; decide) fun H2 b2 e2 l2 g2 => ?_
      have e2 : H2 p = some (.lst [.int a, .int b, .int (t + 1)]) := e2
      refine s_letI (x := ((b + 48271 * (t + 1)) * (39373 + (t + 1))).fmod 2147483647) l2 g2 Live.nil (op g2 rfl e2) (e_I (e_intI (e_I (e_I0 (i1 rfl) (e_I e_int (i2 rfl) (.inl ⟨by decide, by decide⟩))) (e_I0 e_int (i2 rfl)) (.inr ⟨by omega, by omega⟩))) e_int (by decide)) fun H3 s3 l3 g3 => ?_
      have e3 := s3 _ _ e2
      generalize ((b + 48271 * (t + 1)) * (39373 + (t + 1))).fmod 2147483647 = once at g3
      refine s_letI (x := once.fmod 40009 + 7) l3 g3 Live.nil (op g3 rfl e3) (e_I0 (e_I (e_intI (e_var rfl)) e_int (by decide)) e_int) fun H4 s4 l4 g4 => ?_
      have e4 := s4 _ _ e3
      have w0 := fmod_lt (a := once) (n := 40009) (by decide)
      have w1 : 7 ≤ once.fmod 40009 + 7 ∧ once.fmod 40009 + 7 < 40016 := by omega
      generalize once.fmod 40009 + 7 = wide at g4 w1
      refine s_letI (x := ((once + (t + 1) + b.fdiv 1000003) * wide).fmod 2147483629) l4 g4 Live.nil (op g4 rfl e4) (e_I (e_intI (e_I (e_I0 (e_I0 (e_var rfl) (i2 rfl)) (e_I (i1 rfl) e_int ⟨by decide, by decide⟩)) (e_var rfl) (.inr ⟨by omega, by omega⟩))) e_int (by decide)) fun H5 s5 l5 g5 => ?_
      have e5 := s5 _ _ e4
      generalize ((once + (t + 1) + b.fdiv 1000003) * wide).fmod 2147483629 = twice at g5
      refine (e_I (f := fun i j => i.fmod j) (i := (((twice * 48271 + once).fmod 2147483587).fdiv 64)) (j := n) (e_intI (e_I (e_I (e_intI (e_I0 (e_I (e_var rfl) e_int (.inr ⟨by decide, by decide⟩)) (e_var rfl))) e_int (by decide)) e_int ⟨by decide, by decide⟩)) (e_var rfl) (by omega)) _ H5 O l5 g5 _ fun v H6 e z s6 r6 => ?_
      have s36 := ((s3.trans s4).trans s5).trans s6
      exact q v H6 e ⟨_, z, fmod_lt n1⟩ ((But.same s1 b2).after s36) ⟨a, b, t + 1, s36 _ _ e2, a0, b0, b1, by omega, by omega⟩ r6
/-! ### _law_of -/
abbrev rOf : Addr → Nat → List En → Nat → (En → Prop) → Prop := fun p T es T' Φ => ∃ ns : List Int, es = [.ptr p, .dat (.list (ns.map .int))] ∧ 1 ≤ ns.length ∧ ns.length ≤ 1000 ∧ T ≤ 1000000 ∧ T' = T + 1 ∧ Φ = isI (· ∈ ns)
abbrev NN_law_of : List Str := ["_law_tin", "_law_goods_so"]
theorem sc_law_of : FnScope NN_law_of ["_law_tin", "_law_goods_so"] (defScope (KH.top 30)) := ⟨rfl, rfl, rfl, by decide +kernel, rfl, by decide +kernel, by decide +kernel⟩
theorem cal_law_of (B : Blt mg) (D : Df K mg "_law_of" 30) (C_law_take : Cal P w K mg base "_law_take" ["_law_tin", "_law_below_so"] 1 (spT rTake)) : Cal P w K mg base "_law_of" ["_law_tin", "_law_goods_so"] 2 (spT rOf) :=
  cal_T D sc_law_of (fun _ _ _ _ _ _ us hl => match us, hl with | [_, _], _ => rfl) (fun p T es T' Φ h => by obtain ⟨n, rfl, _⟩ := h; rfl) fun f cdv A outer s H p T es T' Φ hr h => by
    obtain ⟨ns, rfl, n1, n2, hT, rfl, rfl⟩ := h
    refine ⟨_, (pss_one (ps_ret (pe_ix (ix_seqK (K := K) rfl) (pv 1) (pe_cal C_law_take hr (by rfl) (pa_cons (pv 0) (pa_cons (pe_callB (call_len_seqK (K := K) rfl) (by rfl) B.len bt_len (pa_cons (pv 1) pa_nil)) pa_nil))) (fun _ _ => rfl)))), ?_⟩
    clear hr
    refine bt_ret (et_ixL (ns := ns) (e_var rfl) (et_call (es := [.ptr p, .dat (.int (ns.length : Int))]) (a_cons (e_var rfl) (a_cons (e_to (e_len (ds := ns.map .int) (e_var rfl) rfl) (by rw [List.length_map])) a_nil)) ⟨_, rfl, by omega, by omega, hT, rfl, rfl⟩))
/-! ### _law_cells -/
abbrev rCells (K : PySem.W.Frag) : List En → (En → Prop) → Prop := fun es Φ => ∃ ns : List Int, es = [.scr K ns, .dat (.int 1)] ∧ ns.length ≤ 63 ∧ Φ = fun e => ∃ c : Int, e = .dat (.list [.int c])
abbrev gCel (K : PySem.W.Frag) (ns : List Int) (e2 : En) : List En := [.scr K ns, .dat (.int 1), e2, .unk, .unk, .unk]
theorem cut_first (ns : List Int) : ∃ ms : List Int, cutV (ns.map V.int) none (some 1) = ms.map V.int ∧ ms.length ≤ 1 := by
  refine ⟨ns.take 1, ?_, by rw [List.length_take]; omega⟩
  unfold cutV
  rw [List.map_take]
  cases ns with
  | nil => rfl
  | cons n ns =>
    show ((List.map V.int (n :: ns)).drop 0).take (HT.sIx _ _ (some ((1 : Nat) : Int)) - 0) = _
    rw [HT.sIx_nat, List.drop_zero, Nat.sub_zero]
    congr 1
abbrev NN_law_cells : List Str := ["_law_script", "_law_most_so", "_law_cells_so", "_law_k", "_law_bit_so", "_law_at_so"]
theorem sc_law_cells : FnScope NN_law_cells ["_law_script", "_law_most_so"] (defScope (KH.top 29)) := ⟨rfl, rfl, rfl, by decide +kernel, rfl, by decide +kernel, by decide +kernel⟩
theorem cal_law_cells (B : Blt mg) (D : Df K mg "_law_cells" 29) : Cal P w K mg base "_law_cells" ["_law_script", "_law_most_so"] 1 (spE (rCells K)) :=
  cal_pure D sc_law_cells (fun _ _ _ _ _ _ us hl => match us, hl with | [_, _], _ => rfl) (fun es Φ h => by obtain ⟨S, rfl, _⟩ := h; rfl) fun f cdv A outer s H es Φ hr h => by
    obtain ⟨ns, rfl, hn, rfl⟩ := h
    refine ⟨_, (pss_cons (ps_set (i := 2) sc_law_cells.nd rfl (Or.inl rfl) (pe_orTK (K := K) rfl (pe_callTy (call_list_ofK (K := K) rfl) (by rfl) B.list bt_list (pa_cons (pe_slice (sl_listK (K := K) rfl) (pv 0) po_none (po_some (pv 1))) pa_nil)) (pe_one (pe_lst (pa_cons pe_int pa_nil)))))
      (pss_cons (ps_for PassesOwn.never rfl (pi_enumK (K := K) rfl (by rfl) B.enumerate (pa_cons (pe_slice (sl_listK (K := K) rfl) (pv 0) (po_some (pv 1)) (po_some pe_int)) pa_nil)) (pg_tupK (K := K) rfl (n := 2) rfl (pgs_cons (pg_name (i := 3) sc_law_cells.nd rfl (Or.inl rfl)) (pgs_cons (pg_name (i := 4) sc_law_cells.nd rfl (Or.inl rfl)) pgs_nil)))
      (pss_cons (ps_set (i := 5) sc_law_cells.nd rfl (Or.inl rfl) (pe_op op_modN (pe_callTy call_int1 (by rfl) B.int bt_int (pa_cons (pv 3) pa_nil)) (pv 1)))
      (pss_one (ps_asg (pe_op op_add (pe_ix (ix_seqK (K := K) rfl) (pv 2) (pv 5) (fun _ _ => rfl)) (pe_op op_mulX (pv 4) (pe_op op_add (pv 3) pe_int))) (pg_sub (pv 2) (pv 5) set_list)))))
      (pss_one (ps_ret (pv 2))))), ?_⟩
    clear hr
    obtain ⟨ms, em, ml⟩ := cut_first ns
    obtain ⟨ks, ek, kl⟩ := cutV_ints ns (some 1) (some 63)
    intro σ H O D l g q
    have hc : ∃ c : Int, (if (ms.map PyData.int).isEmpty then [PyData.int 0] else ms.map PyData.int) = [.int c] := by
      cases ms with
      | nil => exact ⟨0, rfl⟩
      | cons m r =>
        cases r with
        | nil => exact ⟨m, rfl⟩
        | cons _ _ => simp at ml
    obtain ⟨c0, ec⟩ := hc
    have h0 := n_orT (K := K) (n_list (K := K) (ds := ms.map .int) (n_sliceS (K := K) (Γ := gCel K ns .unk) (te := tVar 0) (ns := ns) (e_var rfl) part_no (part_of (i := 1) (te := tVar 1) (e_var rfl)) em).e rfl) (n_lst (ds := [.int 0]) (a_cons e_int a_nil))
    rw [ec] at h0
    refine s_new (ds := [.int c0]) l g h0 fun F H1 xs nF s1 eF rF l1 g1 => ?_
    refine for_src (O := F :: O) (src_enum (K := K) (ds := ks.map .int) (a_cons (n_sliceS (ns := ns) (e_var rfl) (part_of (i := 1) (e_var rfl)) (part_of (i := 63) e_int) ek).e a_nil)) l1 g1 fun H2 s2 => ⟨fun i σ' H' => But F H2 H' ∧ (∃ c : Int, H' F = some (.lst [.int c])) ∧ Live (F :: O) H' ∧ EnvOk (cut (F :: O) H') σ' (gCel K ns (.ptr F)), ?_, ?_, ?_, ?_⟩
    · have ex := rF.toInts (ns := [c0])
      subst ex
      exact ⟨But.refl _ _, ⟨c0, s2 _ _ eF⟩, l1.mono s2, g1.mono (cut_mono s2)⟩
    · rintro i σ' H' _ ⟨b, _⟩
      exact b.cut (by simp)
    · intro i d x σ' H' H3 ed ⟨b, ⟨c, eF⟩, l2, g2⟩ s3 hx
      have hi := (List.getElem?_eq_some_iff.mp ed).1
      rw [enD_length, List.length_map] at hi
      have ek : (ks.map PyData.int)[i]? = some (.int ks[i]) := by rw [List.getElem?_map, List.getElem?_eq_getElem hi]; rfl
      rw [enD_get ek] at ed
      have ed := Option.some.inj ed
      subst ed
      have l3 := l2.mono s3
      refine tg_pair (K := K) 3 4 (d1 := .int (i : Int)) (d2 := .int ks[i]) σ' H3 _ x _ l3 (g2.mono (cut_mono s3)) (hx _ l2 (b.cut (by simp))) fun σ4 g4 _ => ?_
      have f0 : ((i : Int)).fmod 1 = ((0 : Nat) : Int) := by have := fmod_lt (a := (i : Int)) (n := 1) (by decide); omega
      refine s_letI (x := ((0 : Nat) : Int)) l3 g4 l3 g4 (e_to (e_I (e_intI (e_var rfl)) (e_var rfl) (by decide)) (by rw [f0])) fun H5 s5 l5 g5 => ?_
      have e5 := s5 _ _ (s3 _ _ eF)
      have nFO : F ∉ O := l.no nF
      refine s_setP (c := 0) (x := c + ks[i] * ((i : Int) + 2)) (xs := [.int c]) (by simp) l5 g5 (l5.sub fun a h => List.mem_cons_of_mem _ h) (g5.openL (O' := O) (i := 2) (ds := [.int c]) rfl (fun a h => List.mem_cons_of_mem _ h) nFO e5 (.cons (.int _) .nil)) (e_I0 (e_ix (ds := [.int c]) (i := 0) (e_var rfl) (e_var rfl) rfl (atI_nat (j := 0) rfl)) (e_I (e_var rfl) (e_I0 (e_var rfl) e_int) (IntMulOk.of_right (intBits_le_64 (by omega) (by omega))))) e5 (e_var rfl) (e_var rfl) (by show 0 < 1; decide) fun H6 b6 e6 l6 g6 => ?_
      exact ⟨(fun c o n e => b6 c o n (s5 _ _ (s3 _ _ (b c o n e)))), ⟨_, e6⟩, l6, ((g6.blur 3).blur 4).blur 5⟩
    · rintro σ' H' ⟨b, ⟨c, eF⟩, l2, g2⟩
      have nFO : F ∉ O := l.no nF
      have g3 := g2.openL (O' := O) (i := 2) (ds := [.int c]) rfl (fun a h => List.mem_cons_of_mem _ h) nFO eF (.cons (.int _) .nil)
      have fresh : Same H H' := fun a o e => b a o (ne_of_none e nF) (s2 _ _ (s1 _ _ e))
      exact (e_var (i := 2) rfl) σ' H' O (l2.sub fun a h => List.mem_cons_of_mem _ h) g3 _ fun v H5 e z s5 r5 => q v H5 e ⟨c, z⟩ (fresh.trans s5) r5
/-! ### _law_box -/
theorem bit01 (k : Bool) : 0 ≤ (if k = true then (1 : Int) else 0) ∧ -(2 ^ 64) < (if k = true then (1 : Int) else 0) ∧ (if k = true then (1 : Int) else 0) < 2 ^ 64 := by
  cases k
  · exact ⟨by decide, by decide, by decide⟩
  · exact ⟨by decide, by decide, by decide⟩
def spBox : Sp := fun vs H Q _ => ∃ (O : List Addr) (c : Int), Live O H ∧ ErAll (cut O H) vs [.dat (.list [.int c]), .dat (.int 0)] ∧ ∀ q H2 a b, H q = none → Same H H2 → H2 q = some (.lst [.int a, .int b, .int 0]) → 0 ≤ a → 0 ≤ b → b ≤ 4611686018427387904 → Q (.ref q) H2
abbrev NN_law_box : List Str := ["_law_script", "_law_k", "_law_bit_so"]
theorem sc_law_box : FnScope NN_law_box ["_law_script", "_law_k"] (defScope (KH.top 27)) := ⟨rfl, rfl, rfl, by decide +kernel, rfl, by decide +kernel, by decide +kernel⟩
theorem cal_law_box (B : Blt mg) (D : Df K mg "_law_box" 27) : Cal P w K mg base "_law_box" ["_law_script", "_law_k"] 1 spBox :=
  cal_raw D sc_law_box (fun _ _ _ _ _ _ us hl => match us, hl with | [_, _], _ => rfl) (fun vs H Q E h => by
    obtain ⟨O, c, _, h2, _⟩ := h
    rw [erAll_len h2]; rfl) fun f cdv A outer s H vs Q E hr h => by
    obtain ⟨O, c, l, h2, q⟩ := h
    refine ⟨_, (pss_cons (ps_set (i := 2) sc_law_box.nd rfl (Or.inl rfl) (pe_ifExp (pt_cmpR op_lt (pv 1) (pe_callB (call_len_seqK (K := K) rfl) (by rfl) B.len bt_len (pa_cons (pv 0) pa_nil)) (nomark _)) (pe_ix (ix_seqK (K := K) rfl) (pv 0) (pv 1) (fun _ _ => rfl)) pe_int))
      (pss_one (ps_ret (pe_lst (pa_cons (pe_op op_mulX (pe_callB call_abs (by rfl) B.abs bt_abs (pa_cons (pv 2) pa_nil)) (pe_callTy call_int1 (by rfl) B.int bt_int (pa_cons (pe_cmpR op_ge (pe_callB call_abs (by rfl) B.abs bt_abs (pa_cons (pv 2) pa_nil)) (pe_op op_pow pe_int pe_int) (nomark _)) pa_nil))) (pa_cons (pe_op op_add (pe_op op_add (pe_op op_modN (pe_callTy call_int1 (by rfl) B.int bt_int (pa_cons (pv 2) pa_nil)) pe_int) (pe_op op_mulX pe_int (pv 1))) pe_int) (pa_cons pe_int pa_nil))))))), ?_⟩
    clear hr
    have g : EnvOk (cut O H) (start NN_law_box vs) (ent0 NN_law_box [.dat (.list [.int c]), .dat (.int 0)]) := by
      unfold L2.start
      rw [erAll_len h2]
      exact env_start h2 _
    refine s_let (e := .dat (.int c)) l g (es_if (b := true) (t_to (t_tst (e_B0 (i := 0) (j := 1) (e_var rfl) (e_len (ds := [.int c]) (e_var rfl) rfl))) rfl) (fun _ => e_ix (ds := [.int c]) (e_var rfl) (e_var rfl) rfl (atI_nat (j := 0) rfl)) (fun z => nomatch z)) fun v1 H1 s1 l1 g1 => ?_
    have ab : 0 ≤ (if c < 0 then -c else c) := by split <;> omega
    have fm := fmod_lt (a := c) (n := 2305843009213693951) (by decide)
    have m0 : 0 ≤ (if c < 0 then -c else c) * (if decide ((if c < 0 then -c else c) ≥ 10 ^ (18 : Int).toNat) = true then 1 else 0) := Int.mul_nonneg ab (bit01 _).1
    refine (n_lst (ds := [.int ((if c < 0 then -c else c) * (if decide ((if c < 0 then -c else c) ≥ 10 ^ (18 : Int).toNat) = true then 1 else 0)), .int (c.fmod 2305843009213693951 + 39373 * 0 + 3165005), .int 0]) (a_cons (e_I (e_abs (e_var rfl)) (e_intB (e_B0 (e_abs (e_var rfl)) (e_I e_int e_int ⟨by decide, by decide, by decide⟩))) (IntMulOk.of_right (intBits_le_64 (bit01 _).2.1 (bit01 _).2.2))) (a_cons (e_I0 (e_I0 (e_I (e_intI (e_var rfl)) e_int (by decide)) (e_I e_int (e_var rfl) (IntMulOk.of_left (intBits_le_64 (by decide) (by decide))))) e_int) (a_cons e_int a_nil)))) _ H1 O l1 g1 _ fun q' H2 xs nq s2 eq r => ?_
    have ex := r.toInts (ns := [_, _, 0])
    rw [ex] at eq
    exact q q' H2 _ _ (s1.free nq) (s1.trans s2) eq m0 (by omega) (by omega)
end KQ
/-! Q7 -/
set_option Elab.async false
set_option linter.all false
set_option maxRecDepth 100000
set_option maxHeartbeats 4000000
namespace KV
open PySem L2 KR
variable {K : PySem.W.Frag} {Γ Γ' : List En} {ta tb te td ty tv to : TE} {D : Ends} {σ : St} {H H1 : Hp} {O O' : List Addr} {tz ts tr : TS} {p : Addr} {T T1 T2 : Nat} {Φ : En → Prop}
/-- x, y = two new lists -/
theorem s_par2L {i j : Nat} {ds es : List PyData} (l : Live O H) (env : EnvOk (cut O H) σ Γ) (h1 : NL ta Γ ds) (h2 : NL tb Γ es)
    (k : ∀ a b H1 xs ys, H a = none → H b = none → a ≠ b → Same H H1 → H1 a = some (.lst xs) → H1 b = some (.lst ys) → RpAll (cut (b :: a :: O) H1) xs ds → RpAll (cut (b :: a :: O) H1) ys es → Live (b :: a :: O) H1 →
      EnvOk (cut (b :: a :: O) H1) ((σ.set i (some (.ref a))).set j (some (.ref b))) ((Γ.set i (.ptr a)).set j (.ptr b)) → tz D ((σ.set i (some (.ref a))).set j (some (.ref b))) H1) : tSeq (tPar i j (tCons ta (tCons tb tNil))) tz D σ H :=
  h1 σ H O l env _ fun a H1 xs na s1 ea ra => by
    have l1 : Live (a :: O) H1 := (l.mono s1).cons ea fun _ z => nomatch z
    refine h2 σ H1 (a :: O) l1 (env.mono (cut_cons na s1)) _ fun b H2 ys nb s2 eb rb => ?_
    have c := cut_cons (O := a :: O) nb s2
    exact ⟨_, _, rfl, k a b H2 xs ys na (s1.free nb) (ne_of_none ea nb) (s1.trans s2) (s2 _ _ ea) eb (RpAll.mono c _ _ ra) rb ((l1.mono s2).cons eb fun _ z => nomatch z) ((((env.mono (cut_cons na s1)).mono c).set .ptr i).set .ptr j)⟩
/-- for i in range(n): an int by any side -/
theorem for_rng {Γ' : List En} {O' : List Addr} {n : Int} {g : TG} {tb : TS} (l' : Live O' H) (env' : EnvOk (cut O' H) σ Γ') (h : Ed te Γ' (.int n)) (h0 : -100000 ≤ n) (h1 : n ≤ 100000)
    (k : ∀ H1, Same H H1 → ∃ Pv : Nat → St → Hp → Prop, Pv 0 σ H1 ∧ (∀ (i : Nat) σ' H', i < n.toNat → Pv i σ' H' → g (.int (i : Int)) σ' H' fun σ2 H2 => tb { D with nx := Pv (i + 1), ct := Pv (i + 1), bk := D.nx } σ2 H2) ∧ (∀ σ' H', Pv n.toNat σ' H' → D.nx σ' H')) : tFor (iRng1 (tCons te tNil)) g tb D σ H :=
  h σ H O' l' env' _ fun v H1 _ z s r => by
    subst z
    cases r with | dat r =>
    rw [r.toInt]
    obtain ⟨Pv, p0, pt, pd⟩ := k H1 s
    refine ⟨n, rfl, by omega, by omega, for_it (walk_range (lo := 0) (n := n.toNat)) Pv p0 (fun _ _ _ _ _ => trivial) (fun i x σ' H' H'' hi pv y => ?_) pd⟩
    obtain ⟨rfl, rfl⟩ := y
    rw [show (fun i : Nat => V.int (0 + (i : Int))) i = V.int (i : Int) from congrArg V.int (Int.zero_add _)]
    exact pt i σ' H'' hi pv
/-- the same, drawn -/
theorem for_rngT {φ : Int → Prop} {g : TG} {tb : TS} (hp : p ∈ O) (l : Live O H) (env : EnvOk (cut O H) σ Γ) (tin : Tin p T H) (h : Et te Γ p T T1 (isI φ)) (hb : ∀ n, φ n → -100000 ≤ n ∧ n ≤ 100000)
    (k : ∀ n H1, φ n → But p H H1 → Tin p T1 H1 → ∃ Pv : Nat → St → Hp → Prop, Pv 0 σ H1 ∧ (∀ (i : Nat) σ' H', i < n.toNat → Pv i σ' H' → g (.int (i : Int)) σ' H' fun σ2 H2 => tb { D with nx := Pv (i + 1), ct := Pv (i + 1), bk := D.nx } σ2 H2) ∧ (∀ σ' H', Pv n.toNat σ' H' → D.nx σ' H')) : tFor (iRng1 (tCons te tNil)) g tb D σ H :=
  h σ H O hp l env tin _ fun v H1 _ z b t r => by
    obtain ⟨n, rfl, hn⟩ := z
    cases r with | dat r =>
    rw [r.toInt]
    obtain ⟨Pv, p0, pt, pd⟩ := k n H1 hn b t
    have hb := hb n hn
    refine ⟨n, rfl, by omega, by omega, for_it (walk_range (lo := 0) (n := n.toNat)) Pv p0 (fun _ _ _ _ _ => trivial) (fun i x σ' H' H'' hi pv y => ?_) pd⟩
    obtain ⟨rfl, rfl⟩ := y
    rw [show (fun i : Nat => V.int (0 + (i : Int))) i = V.int (i : Int) from congrArg V.int (Int.zero_add _)]
    exact pt i σ' H'' hi pv
theorem erase_map {α β : Type} (f : α → β) : ∀ (l : List α) (k : Nat), (l.map f).eraseIdx k = (l.eraseIdx k).map f
  | [], _ => rfl
  | _ :: _, 0 => rfl
  | a :: l, k + 1 => congrArg (f a :: ·) (erase_map f l k)
theorem seq_ix {r : Int} {n : Nat} (h0 : 0 ≤ r) (h1 : r < n) : seqIndex? r n = some r.toNat := (ixN_seq (by unfold ixN; rw [if_pos h0, if_pos h1])).1
end KV
namespace KQ
open PySem L2 KV KR KS KC KD KX KP
variable {P : Program} {w : World} {K : PySem.W.Frag} {mg : Str → Option Value} {base : Heap}
/-! ### _law_pick -/
abbrev rPick : Addr → Nat → List En → Nat → (En → Prop) → Prop := fun p T es T' Φ => ∃ (ns : List Int) (n : Int), es = [.ptr p, .dat (.list (ns.map .int)), .dat (.int n)] ∧ 0 ≤ n ∧ n ≤ 100 ∧ ns.length ≤ 1000 ∧ T ≤ 100000 ∧ T' = T + n.toNat ∧ Φ = fun e => ∃ ms : List Int, e = .dat (.list (ms.map .int)) ∧ (∀ m ∈ ms, m ∈ ns) ∧ ms.length ≤ n.toNat
abbrev gPic (ns : List Int) (n : Int) (p A F : Addr) : List En := [.ptr p, .dat (.list (ns.map .int)), .dat (.int n), .ptr A, .ptr F, .unk]
abbrev NN_law_pick : List Str := ["_law_tin", "_law_goods_so", "_law_count_so", "_law_pool_so", "_law_found", "_law_lap"]
theorem sc_law_pick : FnScope NN_law_pick ["_law_tin", "_law_goods_so", "_law_count_so"] (defScope (KH.top 31)) := ⟨rfl, rfl, rfl, by decide +kernel, rfl, by decide +kernel, by decide +kernel⟩
theorem cal_law_pick (B : Blt mg) (D : Df K mg "_law_pick" 31) (C_law_take : Cal P w K mg base "_law_take" ["_law_tin", "_law_below_so"] 1 (spT rTake)) : Cal P w K mg base "_law_pick" ["_law_tin", "_law_goods_so", "_law_count_so"] 2 (spT rPick) :=
  cal_T D sc_law_pick (fun _ _ _ _ _ _ us hl => match us, hl with | [_, _, _], _ => rfl) (fun p T es T' Φ h => by obtain ⟨ns, n, rfl, _⟩ := h; rfl) fun f cdv A outer s H p T es T' Φ hr h => by
    obtain ⟨ns, n, rfl, n0, n1, nl, hT, rfl, rfl⟩ := h
    refine ⟨_, (pss_cons (ps_par (i := 3) (j := 4) rfl sc_law_pick.nd rfl rfl (by decide) rfl rfl (pa_cons (pe_callTy (call_list_ofK (K := K) rfl) (by rfl) B.list bt_list (pa_cons (pv 1) pa_nil)) (pa_cons (pe_lst pa_nil) pa_nil)) (by rfl))
      (pss_cons (ps_for PassesOwn.never rfl (pi_range1 (by rfl) B.range (pa_cons (pe_callB (call_min2 rfl) (by rfl) B.min bt_min (pa_cons (pe_callTy call_int1 (by rfl) B.int bt_int (pa_cons (pv 2) pa_nil)) (pa_cons (pe_callB (call_len_seqK (K := K) rfl) (by rfl) B.len bt_len (pa_cons (pv 3) pa_nil)) pa_nil))) pa_nil)) (pg_name (i := 5) sc_law_pick.nd rfl (Or.inl rfl))
      (pss_one (ps_expr (pe_bmK (K := K) rfl PySem.F.plainAttrs_list PySem.F.slot_list_append PySem.F.type_list_append mt_append (pv 4) (pa_cons (pe_bmK (K := K) rfl PySem.F.plainAttrs_list PySem.F.slot_list_pop PySem.F.type_list_pop mt_popAt (pv 3) (pa_cons (pe_cal C_law_take hr (by rfl) (pa_cons (pv 0) (pa_cons (pe_callB (call_len_seqK (K := K) rfl) (by rfl) B.len bt_len (pa_cons (pv 3) pa_nil)) pa_nil))) pa_nil)) pa_nil)))))
      (pss_one (ps_ret (pv 4))))), ?_⟩
    clear hr
    intro σ H O D hp l g tin q
    refine s_par2L (ds := ns.map .int) (es := []) l g (n_list (e_var rfl) rfl) (n_lst (ds := []) a_nil) fun A F H1 xs ys nA nF nAF s1 eA eF rA rF l1 g1 => ?_
    have ex := rA.toInts
    subst ex
    have ey := rF.toInts (ns := [])
    subst ey
    have tin1 := tin.same s1
    have nAO : A ∉ O := l.no nA
    have nFO : F ∉ O := l.no nF
    have Ap : A ≠ p := fun z => nAO (z ▸ hp)
    have Fp : F ≠ p := fun z => nFO (z ▸ hp)
    have hsub : ∀ a ∈ O, a ∈ F :: A :: O := fun a h => List.mem_cons_of_mem _ (List.mem_cons_of_mem _ h)
    have hsub1 : ∀ a ∈ F :: O, a ∈ F :: A :: O := fun a h => by
      rcases List.mem_cons.mp h with z | z
      · rw [z]; exact List.mem_cons_self ..
      · exact hsub a z
    have nA1 : A ∉ F :: O := by
      simp only [List.mem_cons, not_or]
      exact ⟨nAF, nAO⟩
    have op := g1.openL (O' := F :: O) (i := 3) (ds := ns.map .int) rfl hsub1 nA1 eA rA
    refine for_rng (l1.sub hsub1) op (n := min n (ns.length : Int)) (e_min2 (e_intI (e_var rfl)) (e_to (e_len (ds := ns.map .int) (e_var rfl) rfl) (by rw [List.length_map]))) (by omega) (by omega) fun H2 s2 => ⟨fun i σ' H' => Bu [A, F, p] H2 H' ∧ Tin p (T + i) H' ∧ (∃ pl ms : List Int, H' A = some (.lst (pl.map V.int)) ∧ H' F = some (.lst (ms.map V.int)) ∧ pl.length + i = ns.length ∧ ms.length = i ∧ (∀ m ∈ pl, m ∈ ns) ∧ ∀ m ∈ ms, m ∈ ns) ∧ Live (F :: A :: O) H' ∧ EnvOk (cut (F :: A :: O) H') σ' (gPic ns n p A F), ?_, ?_, ?_⟩
    · exact ⟨Bu.refl _ _, tin1.same s2, ⟨ns, [], s2 _ _ eA, s2 _ _ eF, rfl, rfl, fun _ h => h, by simp⟩, l1.mono s2, g1.mono (cut_mono s2)⟩
    · intro i σ' H3 hi ⟨b, tin3, ⟨pl, ms, eA3, eF3, hl, hm, pin, min⟩, l3, g2⟩
      have pos : 1 ≤ pl.length := by omega
      have hin : i < n.toNat := by omega
      have g3 := g2.set (.dat (.int (i : Int))) 5
      have g3' := g3.openL (O' := F :: O) (i := 3) (ds := pl.map .int) rfl hsub1 nA1 eA3 (RpAll.ints pl)
      have l3' := l3.sub hsub1
      -- found.append(pool.pop(..))
      obtain ⟨vF, eσF, rF⟩ := g3.get (i := 4) (e := .ptr F) rfl fun z => nomatch z
      obtain ⟨vA, eσA, rA⟩ := g3.get (i := 3) (e := .ptr A) rfl fun z => nomatch z
      cases rF
      cases rA
      refine ⟨_, eσF, .inl ⟨rfl, _, SqL.of eF3⟩, _, eσA, .inl ⟨rfl, _, SqL.of eA3⟩, ?_⟩
      have tk := et_call (R := rTake) (E0 := E0) (p := p) (T := T + i) (T1 := T + i + 1) (es := [.ptr p, .dat (.int (pl.length : Int))]) (Φ := isI fun r => 0 ≤ r ∧ r < (pl.length : Int)) (a_cons (e_var (i := 0) rfl) (a_cons (e_to (e_len (K := K) (ds := pl.map .int) (e_var (Γ := ((gPic ns n p A F).set 5 (.dat (.int (i : Int)))).set 3 (.dat (.list (pl.map .int)))) (i := 3) rfl) rfl) (by rw [List.length_map])) a_nil)) ⟨_, rfl, by omega, by omega, by omega, rfl, rfl⟩
      refine tk _ H3 (F :: O) (List.mem_cons_of_mem _ hp) l3' g3' tin3 _ fun v5 H5 e ⟨r, z, r0, r1⟩ b5 t5 r5 => ?_
      subst z
      cases r5 with | dat r5 =>
      rw [r5.toInt]
      have eA5 := b5 A _ Ap eA3
      have eF5 := b5 F _ Fp eF3
      have hr : r.toNat < pl.length := by omega
      refine ⟨A, _, r, r.toNat, .int pl[r.toNat], rfl, rfl, eA5, by omega, by omega, by rw [List.length_map]; exact seq_ix r0 r1, by rw [List.getElem?_map, List.getElem?_eq_getElem hr]; rfl, ?_⟩
      have b6 : But A H5 (upd H5 A (.lst ((pl.map V.int).eraseIdx r.toNat))) := But.of (Same.refl _)
      have e6A : (upd H5 A (.lst ((pl.map V.int).eraseIdx r.toNat))) A = some (.lst ((pl.eraseIdx r.toNat).map V.int)) := by rw [upd_same, erase_map]
      generalize upd H5 A (.lst ((pl.map V.int).eraseIdx r.toNat)) = H6 at b6 e6A ⊢
      have e6F := b6 F _ (fun z => nAF z.symm) eF5
      refine ⟨F, _, .int pl[r.toNat], rfl, rfl, e6F, by rw [List.length_map]; exact Nat.lt_of_le_of_lt (by omega : ms.length ≤ 100) (by decide), ?_⟩
      have b7 : But F H6 (upd H6 F (.lst (ms.map V.int ++ [.int pl[r.toNat]]))) := But.of (Same.refl _)
      have e7F : (upd H6 F (.lst (ms.map V.int ++ [.int pl[r.toNat]]))) F = some (.lst ((ms ++ [pl[r.toNat]]).map V.int)) := by rw [upd_same, List.map_append]; rfl
      generalize upd H6 F (.lst (ms.map V.int ++ [.int pl[r.toNat]])) = H7 at b7 e7F ⊢
      have bu : Bu [A, F, p] H3 H7 := (((Bu.refl _ H3).but b5 (by simp)).but b6 (by simp)).but b7 (by simp)
      have c := bu.cut (O := F :: A :: O) (by simp [hp])
      have l5 : Live (F :: A :: O) H5 := l3.but b5 t5.obj
      have l6 : Live (F :: A :: O) H6 := l5.but b6 ⟨_, e6A, fun _ z => nomatch z⟩
      have l7 : Live (F :: A :: O) H7 := l6.but b7 ⟨_, e7F, fun _ z => nomatch z⟩
      refine ⟨b.trans bu, (t5.bu ((Bu.refl [A, F] H5).but b6 (by simp) |>.but b7 (by simp)) (by simp only [List.mem_cons, List.not_mem_nil, or_false, not_or]; exact ⟨fun z => Ap z.symm, fun z => Fp z.symm⟩)), ⟨pl.eraseIdx r.toNat, ms ++ [pl[r.toNat]], b7 A _ nAF e6A, e7F, ?_, by rw [List.length_append, hm]; rfl, fun m h => pin m (List.mem_of_mem_eraseIdx h), fun m h => ?_⟩, l7, (g3.mono c).blur 5⟩
      · rw [List.length_eraseIdx_of_lt hr]; omega
      · rcases List.mem_append.mp h with z | z
        · exact min m z
        · rw [List.mem_singleton.mp z]; exact pin _ (List.getElem_mem hr)
    · rintro σ' H' ⟨b, tin2, ⟨pl, ms, eA, eF, hl, hm, pin, min⟩, l2, g2⟩
      have g3 := g2.openL (O' := O) (i := 4) (ds := ms.map .int) rfl hsub nFO eF (RpAll.ints ms)
      have fresh : But p H H' := fun a o n e => b a o (by
        simp only [List.mem_cons, List.not_mem_nil, or_false, not_or]
        exact ⟨ne_of_none e nA, ne_of_none e nF, n⟩) (s2 _ _ (s1 _ _ e))
      exact (e_var (i := 4) rfl) σ' H' O (l2.sub hsub) g3 _ fun v H5 e z s5 r5 => q v H5 e ⟨ms, z, min, by omega⟩ (fresh.after s5) ((tin2.le (by omega)).same s5) r5
end KQ
/-! Q8 -/
set_option Elab.async false
set_option linter.all false
set_option maxRecDepth 100000
set_option maxHeartbeats 4000000
namespace KQ
open PySem L2 KV KR KS KC KD KX KP
variable {P : Program} {w : World} {K : PySem.W.Frag} {mg : Str → Option Value} {base : Heap}
/-! ### _law_roofs -/
def spRoofs : Sp := fun vs H Q _ => ∃ (O : List Addr) (p : Addr) (T : Nat) (R : Addr) (rs : List Addr) (S : Sec), vs = [.ref p, .ref R, .int 2] ∧ p ∈ O ∧ Tin p T H ∧ T ≤ 1000 ∧ Rw O R rs S H ∧ Wf S ∧ 4 ≤ ht S ∧
  ∀ H2 S', Wf S' → S'.length = S.length → ht S' = ht S → Bu (p :: rs) H H2 → Tin p (T + 100) H2 → Rw O R rs S' H2 → Q .non H2
/-- a section of the same size -/
structure Alike (S T : Sec) : Prop where
  wf : Wf T
  len : T.length = S.length
  ht : KS.ht T = KS.ht S
theorem Alike.set {S T : Sec} {q : KV.Cell} {v : Int} (a : Alike S T) (hv : 0 ≤ v) : Alike S (setAt T q v) := ⟨set_wf a.wf hv, set_len.trans a.len, (set_ht a.wf).trans a.ht⟩
theorem Alike.inG {S T : Sec} {q : KV.Cell} (a : Alike S T) (h : 0 ≤ q.1 ∧ q.1 < (S.length : Int) ∧ 0 ≤ q.2 ∧ q.2 < (KS.ht S : Int)) : InG T q := by
  unfold InG
  rw [a.len, a.ht]
  exact h
abbrev gRf (S : Sec) (p R : Addr) (e6 e7 e8 e9 e10 e11 : En) : List En := [.ptr p, .ptr R, .dat (.int 2), .dat (.int (S.length : Int)), .dat (.int (KS.ht S : Int)), .unk, e6, e7, e8, e9, e10, e11]
/-- what stands in the loops -/
def RInv (S : Sec) (O : List Addr) (p R : Addr) (rs : List Addr) (H0 : Hp) (T : Nat) (σ : St) (H : Hp) (Γ : List En) : Prop := ∃ S', Alike S S' ∧ Bu (p :: rs) H0 H ∧ Tin p T H ∧ Rw O R rs S' H ∧ EnvOk (cut (R :: (rs ++ O)) H) σ Γ
abbrev NN_law_roofs : List Str := ["_law_tin", "_law_rows_so", "_law_stuffs_so", "_law_wide_so", "_law_tall_so", "_law_lap", "_law_a", "_law_b", "_law_h", "_law_stuff_so", "_law_c", "_law_k"]
theorem sc_law_roofs : FnScope NN_law_roofs ["_law_tin", "_law_rows_so", "_law_stuffs_so"] (defScope (KH.top 53)) := ⟨rfl, rfl, rfl, by decide +kernel, rfl, by decide +kernel, by decide +kernel⟩
theorem cal_law_roofs (B : Blt mg) (D : Df K mg "_law_roofs" 53) (C_law_take : Cal P w K mg base "_law_take" ["_law_tin", "_law_below_so"] 1 (spT rTake)) : Cal P w K mg base "_law_roofs" ["_law_tin", "_law_rows_so", "_law_stuffs_so"] 2 spRoofs :=
  cal_raw D sc_law_roofs (fun _ _ _ _ _ _ us hl => match us, hl with | [_, _, _], _ => rfl) (fun vs H Q E h => by
    obtain ⟨O, p, T, R, rs, S, rfl, _⟩ := h
    rfl) fun f cdv A outer s H vs Q E hr h => by
    obtain ⟨O, p, T, R, rs, S, rfl, hp, tin, hT, rw0, wf, tall4, q⟩ := h
    refine ⟨_, (pss_cons (ps_par (i := 3) (j := 4) rfl sc_law_roofs.nd rfl rfl (by decide) rfl rfl (pa_cons (pe_callB (call_len_seqK (K := K) rfl) (by rfl) B.len bt_len (pa_cons (pv 1) pa_nil)) (pa_cons (pe_callB (call_len_seqK (K := K) rfl) (by rfl) B.len bt_len (pa_cons (pe_ix (ix_seqK (K := K) rfl) (pv 1) pe_int (fun _ _ => rfl)) pa_nil)) pa_nil)) (by rfl))
      (pss_one (ps_for PassesOwn.never rfl (pi_range1 (by rfl) B.range (pa_cons (pe_op op_add pe_int (pe_cal C_law_take hr (by rfl) (pa_cons (pv 0) (pa_cons pe_int pa_nil)))) pa_nil)) (pg_name (i := 5) sc_law_roofs.nd rfl (Or.inl rfl))
      (pss_cons (ps_set (i := 6) sc_law_roofs.nd rfl (Or.inl rfl) (pe_cal C_law_take hr (by rfl) (pa_cons (pv 0) (pa_cons (pv 3) pa_nil))))
      (pss_cons (ps_set (i := 7) sc_law_roofs.nd rfl (Or.inl rfl) (pe_callB (call_min2 rfl) (by rfl) B.min bt_min (pa_cons (pe_op op_sub (pv 3) pe_int) (pa_cons (pe_op op_add (pe_op op_add (pv 6) pe_int) (pe_cal C_law_take hr (by rfl) (pa_cons (pv 0) (pa_cons pe_int pa_nil)))) pa_nil))))
      (pss_cons (ps_par (i := 8) (j := 9) rfl sc_law_roofs.nd rfl rfl (by decide) rfl rfl (pa_cons (pe_op op_add pe_int (pe_cal C_law_take hr (by rfl) (pa_cons (pv 0) (pa_cons (pe_callB (call_max2 rfl) (by rfl) B.max bt_max (pa_cons pe_int (pa_cons (pe_op op_sub (pv 4) pe_int) pa_nil))) pa_nil)))) (pa_cons (pe_op op_add pe_int (pe_cal C_law_take hr (by rfl) (pa_cons (pv 0) (pa_cons (pv 2) pa_nil)))) pa_nil)) (by rfl))
      (pss_cons (ps_for PassesOwn.never rfl (pi_range2 (by rfl) B.range (pa_cons (pv 6) (pa_cons (pe_op op_add (pv 7) pe_int) pa_nil))) (pg_name (i := 10) sc_law_roofs.nd rfl (Or.inl rfl))
      (pss_one (ps_asg (pv 9) (pg_sub (pe_ix (ix_seqK (K := K) rfl) (pv 1) (pv 10) (fun _ _ => rfl)) (pv 8) set_list))))
      (pss_one (ps_for PassesOwn.never rfl (pi_listK (K := K) rfl (pe_op op_cat (pe_lst (pa_cons (pv 6) pa_nil)) (pe_op op_rep (pe_lst (pa_cons (pv 7) pa_nil)) (pe_cal C_law_take hr (by rfl) (pa_cons (pv 0) (pa_cons pe_int pa_nil)))))) (pg_name (i := 10) sc_law_roofs.nd rfl (Or.inl rfl))
      (pss_one (ps_for PassesOwn.never rfl (pi_range1 (by rfl) B.range (pa_cons (pv 8) pa_nil)) (pg_name (i := 11) sc_law_roofs.nd rfl (Or.inl rfl))
      (pss_one (ps_asg (pe_orTK (K := K) rfl (pe_ix (ix_seqK (K := K) rfl) (pe_ix (ix_seqK (K := K) rfl) (pv 1) (pv 10) (fun _ _ => rfl)) (pv 11) (fun _ _ => rfl)) (pe_one (pe_op op_add pe_int (pe_cal C_law_take hr (by rfl) (pa_cons (pv 0) (pa_cons (pv 2) pa_nil)))))) (pg_sub (pe_ix (ix_seqK (K := K) rfl) (pv 1) (pv 10) (fun _ _ => rfl)) (pv 11) set_list)))))))))))))), ?_⟩
    clear hr
    have wide := wf.wide
    have tall := wf.tall
    have wpos : 1 ≤ S.length := List.length_pos_iff.mpr wf.ne
    have l := rw0.live
    have hpf : p ∈ R :: (rs ++ O) := List.mem_cons_of_mem _ (List.mem_append.mpr (.inr hp))
    have g : EnvOk (cut (R :: (rs ++ O)) H) (start NN_law_roofs [.ref p, .ref R, .int 2]) (ent0 NN_law_roofs [.ptr p, .ptr R, .dat (.int 2)]) := by
      unfold L2.start
      exact env_start (.cons .ptr (.cons .ptr (.cons (.dat (.int 2)) .nil))) _
    obtain ⟨col, e0, cl⟩ : ∃ col : List Int, atI (S.map fun c => PyData.list (c.map .int)) 0 = some (.list (col.map .int)) ∧ col.length = KS.ht S := by
      obtain ⟨c, hc, hm⟩ := col_at (S := S) (i := 0) wpos
      refine ⟨c, atI_of (j := 0) rfl ?_, wf.same c hm⟩
      rw [List.getElem?_map, hc]; rfl
    have op := g.openR (i := 1) rfl rw0
    refine s_parI (x := (S.length : Int)) (y := (KS.ht S : Int)) l g rw0.outer op (e_to (e_len (ds := S.map fun c => .list (c.map .int)) (e_var rfl) rfl) (by rw [List.length_map])) (e_to (e_len (ds := col.map .int) (e_ix (e_var rfl) e_int rfl e0) rfl) (by rw [List.length_map, cl])) fun H1 s1 l1 g1 => ?_
    have tin1 := tin.same s1
    have w1 := rw0.same s1
    -- a draw below n
    have draw : ∀ {Γ : List En} {tn : TE} {n : Int} {T' : Nat}, Γ[0]? = some (.ptr p) → Ed tn Γ (.int n) → 1 ≤ n → n ≤ 1000 → T' ≤ 1000000 → Et (tCall (spT rTake) [] E0 (tCons (tVar 0) (tCons tn tNil))) Γ p T' (T' + 1) (isI fun r => 0 ≤ r ∧ r < n) := fun h hn n1 n2 hT => et_call (es := [.ptr p, .dat (.int _)]) (a_cons (e_var h) (a_cons hn a_nil)) ⟨_, rfl, n1, n2, hT, rfl, rfl⟩
    refine for_rngT (φ := fun n => 1 ≤ n ∧ n ≤ 2) hpf l1 g1 tin1 (et_I0 (φ := fun i => i = 1) (et_int e_int rfl) (draw (n := 2) rfl e_int (by decide) (by decide) (by omega)) fun i j hi hj => by omega) (fun n hn => by omega) fun n H2 hn b2 t2 => ⟨fun i σ' H' => ∃ S', Alike S S' ∧ Bu (p :: rs) H H' ∧ Tin p (T + 1 + 30 * i) H' ∧ Rw O R rs S' H' ∧ EnvOk (cut (R :: (rs ++ O)) H') σ' (gRf S p R .unk .unk .unk .unk .unk .unk), ?_, ?_, ?_⟩
    · have bu : Bu [p] H1 H2 := (Bu.refl [p] H1).but b2 (by simp)
      have w2 := w1.bu bu (by simp [hp]) (w1.outer.but b2 t2.obj)
      exact ⟨S, ⟨wf, rfl, rfl⟩, (Bu.of s1).trans (bu.sub (by simp)), t2, w2, g1.mono (b2.cut hpf)⟩
    · intro i σ3 H3 hi ⟨S3, al3, bu3, t3, w3, g3⟩
      have hi2 : i < 2 := by omega
      have g3' := g3.set (.dat (.int (i : Int))) 5 (v := .int (i : Int))
      refine s_letT hpf w3.live (g3'.blur 5) t3 (draw rfl (e_var rfl) (by omega) (by omega) (by omega)) fun v4 H4 e4 ⟨a, z, a0, a1⟩ b4 t4 l4 g4 => ?_
      subst z
      refine s_letT (Φ := isI fun b => 0 ≤ b ∧ b < (S.length : Int)) hpf l4 g4 t4 (et_min2 (φ := fun i => i = (S.length : Int) - 1) (ψ := fun i => 0 ≤ i) (et_int (e_I0 (e_var rfl) e_int) rfl) (et_I0 (φ := fun i => 0 ≤ i) (et_int (e_I0 (e_var rfl) e_int) (by omega)) (draw (n := 3) rfl e_int (by decide) (by decide) (by omega)) fun i j hi hj => by omega) fun i j hi hj => by omega) fun v5 H5 e5 ⟨bb, z, c0, c1⟩ b5 t5 l5 g5 => ?_
      subst z
      refine s_parT (Φ := isI fun h => 1 ≤ h ∧ h < (KS.ht S : Int)) (Ψ := isI fun st => 0 ≤ st) hpf l5 g5 t5 (et_I0 (φ := fun i => i = 1) (et_int e_int rfl) (draw (n := max 1 ((KS.ht S : Int) - 2)) rfl (e_max2 e_int (e_I0 (e_var rfl) e_int)) (by omega) (by omega) (by omega)) fun i j hi hj => by omega) (et_I0 (φ := fun i => i = 1) (et_int e_int rfl) (draw (n := 2) rfl (e_var rfl) (by decide) (by decide) (by omega)) fun i j hi hj => by omega) fun v6 w6 H6 e6 f6 ⟨h, z, h0, h1⟩ ⟨st, z', st0⟩ b6 t6 l6 g6 => ?_
      subst z z'
      have bp : Bu [p] H3 H6 := (((Bu.refl [p] H3).but b4 (by simp)).but b5 (by simp)).but b6 (by simp)
      have l6o : Live O H6 := l6.sub fun a h => List.mem_cons_of_mem _ (List.mem_append.mpr (.inr h))
      have w6 := w3.bu bp (by simp [hp]) l6o
      have bu6 := bu3.trans (bp.sub (M := p :: rs) (by simp))
      -- the roof
      refine for_src (O := R :: (rs ++ O)) (items := rgD a (bb + 1 - a).toNat) (src_rng2 (a_cons (e_var rfl) (a_cons (e_I0 (e_var rfl) e_int) a_nil)) (by omega)) w6.live g6 fun H7 s7 => ⟨fun j σ' H' => RInv S O p R rs H7 (T + 1 + 30 * i + 4) σ' H' (gRf S p R (.dat (.int a)) (.dat (.int bb)) (.dat (.int h)) (.dat (.int st)) .unk .unk), ?_, ?_, ?_, ?_⟩
      · exact ⟨S3, al3, Bu.refl _ _, t6.same s7, w6.same s7, g6.mono (cut_mono s7)⟩
      · rintro j σ' H' _ ⟨S', _, b, _⟩
        exact b.cut fun x hx => by
          rcases List.mem_cons.mp hx with z | z
          · rw [z]; exact hpf
          · exact List.mem_cons_of_mem _ (List.mem_append.mpr (.inl z))
      · intro j d x σ' H' H8 ed ⟨S', al, b, t, w', g'⟩ s8 hx
        have hj : j < (bb + 1 - a).toNat := by
          have := (List.getElem?_eq_some_iff.mp ed).1
          rw [rgD_length] at this
          exact this
        rw [rgD_get hj] at ed
        have ed := Option.some.inj ed
        subst ed
        have w8 := w'.same s8
        have g8 := (g'.mono (cut_mono s8)).set (.dat (hx _ w'.live (b.cut fun x hx => by
          rcases List.mem_cons.mp hx with z | z
          · rw [z]; exact hpf
          · exact List.mem_cons_of_mem _ (List.mem_append.mpr (.inl z))))) 10
        refine s_setRow (p := (a + (j : Int), h)) al.wf w8 g8 (e_var rfl) (e_var rfl) (e_var rfl) (e_var rfl) (al.inG ⟨by show 0 ≤ a + (j : Int); omega, by show a + (j : Int) < _; omega, by show 0 ≤ h; omega, h1⟩) fun H9 b9 w9 g9 => ⟨_, al.set st0, (b.same s8).trans (b9.sub fun a h => List.mem_cons_of_mem _ h), ((t.same s8).bu b9 fun z => w8.out p (List.mem_cons_of_mem _ z) hp), w9, g9.blur 10⟩
      -- its pillars
      · rintro σ7 H8 ⟨S8, al8, b8, t8, w8, g8⟩
        have bu8 := (bu6.same s7).trans b8
        refine for_lstT (ψ := fun ns => ∃ ms, ns = [a] ++ ms ∧ (∀ n ∈ ms, n = bb) ∧ ms.length < 2) hpf w8.live g8 t8 (et_cat (ns0 := [a]) (n_lst (ds := [.int a]) (a_cons (e_var rfl) a_nil)).e (et_rep (b := bb) (m := 2) (n_lst (ds := [.int bb]) (a_cons (e_var rfl) a_nil)) (draw (n := 2) rfl e_int (by decide) (by decide) (by omega)) (by decide)) (by show 1 + 2 ≤ 1000; decide)) fun ns H9 hψ b9 t9 => ⟨fun j σ' H' => RInv S O p R rs H9 (T + 1 + 30 * i + 5 + 10 * j) σ' H' (gRf S p R (.dat (.int a)) (.dat (.int bb)) (.dat (.int h)) (.dat (.int st)) .unk .unk), ?_, ?_, ?_, ?_⟩
        · have bp9 : Bu [p] H8 H9 := (Bu.refl [p] H8).but b9 (by simp)
          exact ⟨S8, al8, Bu.refl _ _, t9, w8.bu bp9 (by simp [hp]) (w8.outer.but b9 t9.obj), g8.mono (b9.cut hpf)⟩
        · rintro j σ' H' _ ⟨S', _, b, _⟩
          exact b.cut fun x hx => by
            rcases List.mem_cons.mp hx with z | z
            · rw [z]; exact hpf
            · exact List.mem_cons_of_mem _ (List.mem_append.mpr (.inl z))
        · intro j c σ' H' ec ⟨S', al, b, t, w', g'⟩
          obtain ⟨ms, rfl, hms, hl⟩ := hψ
          have hj : j < 2 := by
            have := (List.getElem?_eq_some_iff.mp ec).1
            rw [List.length_append, List.length_singleton] at this
            omega
          have hc : 0 ≤ c ∧ c < (S.length : Int) := by
            have := List.mem_of_getElem? ec
            rcases List.mem_append.mp this with z | z
            · rw [List.mem_singleton.mp z]; exact ⟨a0, a1⟩
            · rw [hms c z]; exact ⟨c0, c1⟩
          have g10 := g'.set (.dat (.int c)) 10 (v := .int c)
          refine for_rng w'.live g10 (n := h) (e_var rfl) (by omega) (by omega) fun H10 s10 => ⟨fun k σ' H' => RInv S O p R rs H9 (T + 1 + 30 * i + 5 + 10 * j + k) σ' H' (gRf S p R (.dat (.int a)) (.dat (.int bb)) (.dat (.int h)) (.dat (.int st)) (.dat (.int c)) .unk), ?_, ?_, ?_⟩
          · exact ⟨S', al, b.same s10, t.same s10, w'.same s10, g10.mono (cut_mono s10)⟩
          · intro k σ'' H11 hk ⟨S11, al11, b11, t11, w11, g11⟩
            have g12 := g11.set (.dat (.int (k : Int))) 11 (v := .int (k : Int))
            have iq : InG S11 (c, (k : Int)) := al11.inG ⟨hc.1, hc.2, by show 0 ≤ (k : Int); omega, by show (k : Int) < _; omega⟩
            obtain ⟨v0, ev, v00⟩ := valAt_in al11.wf iq
            have op12 := g12.openR (i := 1) rfl w11
            refine s_setRowT (T1 := T + 1 + 30 * i + 5 + 10 * j + (k + 1)) (q := (c, (k : Int))) al11.wf hp w11 g12 (fun Q kk => ?_) (e_var rfl) (e_var rfl) (e_var rfl) iq fun v H12 vn b12 t12 w12 g13 => ⟨_, al11.set vn, b11.trans b12, t12, w12, g13.blur 11⟩
            refine (e_lat (c := (c, (k : Int))) ev (e_var rfl) (e_var rfl) (e_var rfl)) _ H11 O w11.outer op12 _ fun v H12 e z s12 r12 => ?_
            subst z
            cases r12 with | dat r12 =>
            rw [r12.toInt]
            refine ⟨v0 != 0, rfl, ?_⟩
            by_cases hv : v0 = 0
            · subst hv
              rw [if_neg (by decide)]
              refine (et_I0 (φ := fun i => i = 1) (χ := fun i => 0 ≤ i) (et_int e_int rfl) (draw (n := 2) rfl (e_var rfl) (by decide) (by decide) (by omega)) fun i j hi hj => by omega) _ H12 (R :: (rs ++ O)) hpf (w11.live.mono s12) (g12.mono (cut_mono s12)) (t11.same s12) _ fun v H13 e ⟨y, z, y0⟩ b13 t13 r13 => ?_
              subst z
              cases r13 with | dat r13 =>
              rw [r13.toInt]
              exact kk y H13 y0 (But.same s12 b13) t13
            · rw [if_pos (by simpa using hv)]
              exact kk v0 H12 v00 (But.mk' s12) ((t11.same s12).le (by omega))
          · rintro σ' H' ⟨S', al, b, t, w', g'⟩
            exact ⟨S', al, b, t.le (by omega), w', g'.blur 10⟩
        · rintro σ' H' ⟨S', al, b, t, w', g'⟩
          obtain ⟨ms, rfl, hms, hl⟩ := hψ
          rw [List.length_append, List.length_singleton] at t
          exact ⟨S', al, (bu8.trans ((Bu.refl (p :: rs) H8).but b9 (by simp))).trans b, t.le (by omega), w', ((((g'.blur 6).blur 7).blur 8).blur 9)⟩
    · rintro σ' H' ⟨S', al, bu, t, w', g'⟩
      exact q H' S' al.wf al.len al.ht bu (t.le (by omega)) w'
end KQ
/-! Q9 -/
set_option Elab.async false
set_option linter.all false
set_option maxRecDepth 100000
set_option maxHeartbeats 4000000
namespace KQ
open PySem L2 KV KR KS KC KD KX KP
variable {P : Program} {w : World} {K : PySem.W.Frag} {mg : Str → Option Value} {base : Heap}
/-! ### _law_pile -/
abbrev rPile : Addr → Nat → List En → Nat → (En → Prop) → Prop := fun p T es T' Φ => ∃ (W G : Int), es = [.ptr p, .dat (.int W), .dat (.int G), .dat (.int 2)] ∧ (6 ≤ W ∧ W ≤ 9) ∧ (4 ≤ G ∧ G ≤ 5) ∧ T ≤ 500 ∧ T' = T + 300 ∧ Φ = fun e => ∃ S, e = .dat (secD S) ∧ Wf S ∧ AllHeld S ∧ (S.length : Int) = W ∧ (ht S : Int) = G
abbrev gPil (p : Addr) (W G : Int) (e4 e5 e6 : En) : List En := [.ptr p, .dat (.int W), .dat (.int G), .dat (.int 2), e4, e5, e6, .unk, .unk]
abbrev NN_law_pile : List Str := ["_law_tin", "_law_wide_so", "_law_tall_so", "_law_stuffs_so", "_law_rows_so", "_law_c", "_law_low_so", "_law_own", "_law_k"]
theorem sc_law_pile : FnScope NN_law_pile ["_law_tin", "_law_wide_so", "_law_tall_so", "_law_stuffs_so"] (defScope (KH.top 54)) := ⟨rfl, rfl, rfl, by decide +kernel, rfl, by decide +kernel, by decide +kernel⟩
theorem cal_law_pile (B : Blt mg) (D : Df K mg "_law_pile" 54) (C_law_take : Cal P w K mg base "_law_take" ["_law_tin", "_law_below_so"] 1 (spT rTake)) (C_law_of : Cal P w K mg base "_law_of" ["_law_tin", "_law_goods_so"] 2 (spT rOf))
    (C_law_roofs : Cal P w K mg base "_law_roofs" ["_law_tin", "_law_rows_so", "_law_stuffs_so"] 2 spRoofs) (C_law_washed : Cal P w K mg base "_law_washed" ["_law_pile_so"] 4 spWashed) : Cal P w K mg base "_law_pile" ["_law_tin", "_law_wide_so", "_law_tall_so", "_law_stuffs_so"] 5 (spT rPile) :=
  cal_T D sc_law_pile (fun _ _ _ _ _ _ us hl => match us, hl with | [_, _, _, _], _ => rfl) (fun p T es T' Φ h => by obtain ⟨W, G, rfl, _⟩ := h; rfl) fun f cdv A outer s H p T es T' Φ hr h => by
    obtain ⟨W, G, rfl, ⟨W0, W1⟩, ⟨G0, G1⟩, hT, rfl, rfl⟩ := h
    refine ⟨_, (pss_cons (ps_set (i := 4) sc_law_pile.nd rfl (Or.inl rfl) (pe_lst pa_nil))
      (pss_cons (ps_for PassesOwn.never rfl (pi_range1 (by rfl) B.range (pa_cons (pv 1) pa_nil)) (pg_name (i := 5) sc_law_pile.nd rfl (Or.inl rfl))
      (pss_cons (ps_set (i := 6) sc_law_pile.nd rfl (Or.inl rfl) (pe_cal C_law_of hr (by rfl) (pa_cons (pv 0) (pa_cons (pe_lst (pa_cons pe_int (pa_cons pe_int (pa_cons pe_int (pa_cons (pe_callB (call_min2 rfl) (by rfl) B.min bt_min (pa_cons pe_int (pa_cons (pe_op op_sub (pv 2) pe_int) pa_nil))) pa_nil))))) pa_nil))))
      (pss_one (ps_expr (pe_bmK (K := K) rfl PySem.F.plainAttrs_list PySem.F.slot_list_append PySem.F.type_list_append mt_append (pv 4) (pa_cons (pe_op op_cat (pe_lc (own := [("_law_k", 8)]) rfl sc_law_pile.nd (pi_range1 (by rfl) B.range (pa_cons (pv 6) pa_nil)) (blkOk_by (sc := defScope (KH.top 54)) (own := [("_law_k", 8)]) (N := NN_law_pile) (by decide +kernel)) (fun _ _ _ _ _ => (pg_name (i := 8) sc_law_pile.nd rfl (Or.inl rfl))) (fun _ _ _ _ _ => pts_nil) (fun _ _ _ _ _ => (pe_op op_add pe_int (pe_cal C_law_take hr (by rfl) (pa_cons (pv 0) (pa_cons (pv 3) pa_nil)))))) (pe_op op_rep (pe_lst (pa_cons pe_int pa_nil)) (pe_op op_sub (pv 2) (pv 6)))) pa_nil))))))
      (pss_cons (ps_expr (pe_cal C_law_roofs hr (by rfl) (pa_cons (pv 0) (pa_cons (pv 4) (pa_cons (pv 3) pa_nil)))))
      (pss_one (ps_ret (pe_cal C_law_washed hr (by rfl) (pa_cons (pe_callTy (call_tuple_ofK (K := K) rfl) (by rfl) B.tuple bt_tuple (pa_cons (pe_lc (own := [("_law_own", 7)]) rfl sc_law_pile.nd (pi_listK (K := K) rfl (pv 4)) (blkOk_by (sc := defScope (KH.top 54)) (own := [("_law_own", 7)]) (N := NN_law_pile) (by decide +kernel)) (fun _ _ _ _ _ => (pg_name (i := 7) sc_law_pile.nd rfl (Or.inl rfl))) (fun _ _ _ _ _ => pts_nil) (fun _ _ _ _ _ => (pe_callTy (call_tuple_ofK (K := K) rfl) (by rfl) B.tuple bt_tuple (pa_cons (pv 7) pa_nil)))) pa_nil)) pa_nil))))))), ?_⟩
    clear hr
    intro σ H O D hp l g tin q
    have draw : ∀ {Γ : List En} {tn : TE} {n : Int} {T' : Nat}, Γ[0]? = some (.ptr p) → Ed tn Γ (.int n) → 1 ≤ n → n ≤ 1000 → T' ≤ 1000000 → Et (tCall (spT rTake) [] E0 (tCons (tVar 0) (tCons tn tNil))) Γ p T' (T' + 1) (isI fun r => 0 ≤ r ∧ r < n) := fun h hn n1 n2 hT => et_call (es := [.ptr p, .dat (.int _)]) (a_cons (e_var h) (a_cons hn a_nil)) ⟨_, rfl, n1, n2, hT, rfl, rfl⟩
    refine s_new (ds := []) l g (n_lst (ds := []) a_nil) fun R H1 xs nR s1 eR rR l1 g1 => ?_
    have ex := rR.toInts (ns := [])
    subst ex
    have nRO : R ∉ O := l.no nR
    refine for_rng l1 g1 (n := W) (e_var rfl) (by omega) (by omega) fun H2 s2 => ⟨fun i σ' H' => ∃ rs S, S.length = i ∧ (∀ c ∈ S, (c.length : Int) = G ∧ ∀ v ∈ c, 0 ≤ v) ∧ Rw O R rs S H' ∧ (∀ a ∈ rs, H a = none) ∧ But p H H' ∧ Tin p (T + 3 * i) H' ∧ EnvOk (cut (R :: (rs ++ O)) H') σ' (gPil p W G (.ptr R) .unk .unk), ?_, ?_, ?_⟩
    · exact ⟨[], [], rfl, (by simp), ⟨l1.mono s2, s2 _ _ eR, rfl, (by simp), (by simp), (by simp), fun a ha => by rw [List.mem_singleton.mp ha]; exact nRO⟩, (by simp), But.mk' (s1.trans s2), tin.same (s1.trans s2), g1.mono (cut_mono s2)⟩
    · intro i σ3 H3 hi ⟨rs, S, hl, hS, w3, frs, b3, t3, g3⟩
      have hpf : p ∈ R :: (rs ++ O) := List.mem_cons_of_mem _ (List.mem_append.mpr (.inr hp))
      have g3' := (g3.set (.dat (.int (i : Int))) 5 (v := .int (i : Int))).blur 5
      refine s_letT hpf w3.live g3' t3 (et_call (R := rOf) (es := [.ptr p, .dat (.list (([0, 0, 1, min 2 (G - 1)] : List Int).map .int))]) (T1 := T + 3 * i + 1) (Φ := isI (· ∈ ([0, 0, 1, min 2 (G - 1)] : List Int))) (a_cons (e_var rfl) (a_cons (n_lst (ds := [.int 0, .int 0, .int 1, .int (min 2 (G - 1))]) (a_cons e_int (a_cons e_int (a_cons e_int (a_cons (e_min2 e_int (e_I0 (e_var rfl) e_int)) a_nil))))).e a_nil)) ⟨_, rfl, by show 1 ≤ 4; decide, by show 4 ≤ 1000; decide, by omega, rfl, rfl⟩) fun v4 H4 e4 ⟨low, z, hlow⟩ b4 t4 l4 g4 => ?_
      subst z
      have low0 : 0 ≤ low ∧ low ≤ 2 := by
        simp only [List.mem_cons, List.not_mem_nil, or_false] at hlow
        omega
      have w4 := w3.bu ((Bu.refl [p] H3).but b4 (by simp)) (by simp [hp]) (w3.outer.but b4 t4.obj)
      obtain ⟨vR, eσR, rR⟩ := g4.get (i := 4) (e := .ptr R) rfl fun z => nomatch z
      cases rR
      refine ⟨_, eσR, .inl ⟨rfl, _, SqL.of w4.eR⟩, ?_⟩
      refine (nlt_cat (ψ := fun ns => ns.length = low.toNat ∧ ∀ v ∈ ns, 0 ≤ v) (χ := fun ms => ms.length = (G - low).toNat ∧ ∀ v ∈ ms, 0 ≤ v) (ω := fun ns => (ns.length : Int) = G ∧ ∀ v ∈ ns, 0 ≤ v) (et_lcR (n := low) (φ := fun i => 0 ≤ i) (e_var rfl) (by omega) low0.1 (by simp) fun k hk => et_I0 (φ := fun i => i = 1) (et_int e_int rfl) (draw (n := 2) rfl (e_var rfl) (by decide) (by decide) (by omega)) fun i j hi hj => by omega) (et_of (es_mono (e_repI (b := 0) (n := G - low) (n_lst (ds := [.int 0]) (a_cons e_int a_nil)) (e_I0 (e_var rfl) (e_var rfl)) (by omega) (by omega)) fun e z => ⟨_, z, by rw [List.length_replicate], fun v h => by rw [List.eq_of_mem_replicate h]; decide⟩)) (fun ns ms ⟨x1, x2⟩ ⟨y1, y2⟩ => ⟨⟨by rw [List.length_append]; omega, fun v h => (List.mem_append.mp h).elim (x2 v) (y2 v)⟩, by omega⟩)) _ H4 _ hpf l4 g4 t4 _ fun c5 H5 H6 ns hns b5 t5 n5 s6 e6 => ?_
      have w5 := w4.bu ((Bu.refl [p] H4).but b5 (by simp)) (by simp [hp]) (w4.outer.but b5 t5.obj)
      refine ⟨R, rs.map V.ref, .ref c5, rfl, rfl, s6 _ _ w5.eR, by rw [List.length_map, w5.len]; exact Nat.lt_of_le_of_lt (by omega : S.length ≤ 100000) (by decide), ?_⟩
      have w7 := w5.snoc s6 n5 e6
      have eU : (V.ref c5) = V.ref c5 := rfl
      rw [show rs.map V.ref ++ [V.ref c5] = (rs ++ [c5]).map V.ref by rw [List.map_append]; rfl]
      have b7 : But R H6 (upd H6 R (.lst ((rs ++ [c5]).map V.ref))) := But.of (Same.refl _)
      generalize upd H6 R (.lst ((rs ++ [c5]).map V.ref)) = H7 at w7 b7 ⊢
      have Rp : R ≠ p := fun z => nRO (z ▸ hp)
      have bb : But p H H7 := fun a o n e => b7 a o (ne_of_none e nR) (s6 _ _ (b5 a o n (b4 a o n (b3 a o n e))))
      have t7 : Tin p (T + 3 * (i + 1)) H7 := ((t5.same s6).bu ((Bu.refl [R] H6).but b7 (by simp)) (by simp only [List.mem_cons, List.not_mem_nil, or_false]; exact fun z => Rp z.symm)).le (by omega)
      have c : Same (cut (R :: (rs ++ O)) H4) (cut (R :: ((rs ++ [c5]) ++ O)) H7) := fun a o e => by
        unfold cut at e ⊢
        split at e
        · cases e
        · rename_i h
          have ap : a ≠ p := fun z => h (z ▸ hpf)
          have e5 := b5 a o ap e
          have a5 : a ≠ c5 := ne_of_none e5 n5
          simp only [List.mem_cons, List.mem_append, not_or] at h
          rw [if_neg (by simp only [List.mem_cons, List.mem_append, List.not_mem_nil, or_false, not_or]; exact ⟨h.1, ⟨h.2.1, a5⟩, h.2.2⟩)]
          exact b7 a o h.1 (s6 _ _ e5)
      refine ⟨rs ++ [c5], S ++ [ns], by rw [List.length_append, hl]; rfl, fun d hd => ?_, w7, fun a ha => ?_, bb, t7, (g4.mono c).blur 6⟩
      rcases List.mem_append.mp hd with z | z
      · exact hS d z
      · rw [List.mem_singleton.mp z]; exact hns
      · rcases List.mem_append.mp ha with z | z
        · exact frs a z
        · rw [List.mem_singleton.mp z]
          cases e : H c5 with
          | none => rfl
          | some o =>
            exfalso
            obtain ⟨o', e', _⟩ := t5.obj
            have := b5 c5 o (fun z => by rw [z, e'] at n5; cases n5) (b4 c5 o (fun z => by rw [z, e'] at n5; cases n5) (b3 c5 o (fun z => by rw [z, e'] at n5; cases n5) e))
            rw [n5] at this
            cases this
    · rintro σ3 H3 ⟨rs, S, hl, hS, w3, frs, b3, t3, g3⟩
      have hpf : p ∈ R :: (rs ++ O) := List.mem_cons_of_mem _ (List.mem_append.mpr (.inr hp))
      have hS' : ∀ c ∈ S, (c.length : Int) = G := fun c hc => (hS c hc).1
      have hht : (ht S : Int) = G := by
        cases S with
        | nil => exfalso; simp at hl; omega
        | cons c r => exact hS' c (List.mem_cons_self ..)
      have wf : Wf S := ⟨fun z => by rw [z] at hl; simp at hl; omega, fun c hc => by have := hS' c hc; omega, by omega, fun c hc => (hS c hc).2, by omega, by omega⟩
      obtain ⟨vp, eσp, rp⟩ := g3.get (i := 0) (e := .ptr p) rfl fun z => nomatch z
      cases rp
      obtain ⟨vR, eσR, rR⟩ := g3.get (i := 4) (e := .ptr R) rfl fun z => nomatch z
      cases rR
      obtain ⟨v2, eσ2, r2⟩ := g3.get (i := 3) (e := .dat (.int 2)) rfl fun z => nomatch z
      cases r2 with | dat r2 =>
      have r2 := r2.toInt
      subst r2
      refine ⟨_, eσp, _, eσR, _, eσ2, ?_⟩
      refine ⟨O, p, _, R, rs, S, rfl, hp, t3, by omega, w3, wf, by omega, fun H4 S' wf' sl sh b4 t4 w4 => ?_⟩
      have c : Same (cut (R :: (rs ++ O)) H3) (cut (R :: (rs ++ O)) H4) := b4.cut fun a ha => by
        rcases List.mem_cons.mp ha with z | z
        · rw [z]; exact hpf
        · exact List.mem_cons_of_mem _ (List.mem_append.mpr (.inl z))
      have g4 := (g3.mono c).openR (i := 4) rfl w4
      have bb : But p H H4 := fun a o n e => b4 a o (fun z => by
        rcases List.mem_cons.mp z with y | y
        · exact n y
        · rw [frs a y] at e; cases e) (b3 a o n e)
      have W := wash_ok wf'
      refine (e_call (ds := [secD S']) (a_cons (e_tuple (d := .list (S'.map colD)) (NL.e (n_lcB (emb := fun c : List Int => .list (c.map .int)) (qs := S') (fun c => (wipeG _ [7]).set 7 (.dat (.list (c.map .int)))) colD (src_list (e_var rfl)) (by omega) (fun c _ => tg_name 7) (by simp) (fun c _ => e_tuple (d := .list (c.map .int)) (e_var rfl) rfl))) rfl) a_nil) ⟨S', rfl, wf', rfl⟩) σ3 H4 O w4.outer g4 _ fun v H5 e z s5 r5 => q v H5 e ⟨washS S', z, W.wf, wash_held wf', by rw [W.len]; omega, by rw [W.ht]; omega⟩ (bb.after s5) ((t4.le (by omega)).same s5) r5
end KQ
/-! Q10 -/
set_option Elab.async false
set_option linter.all false
set_option maxRecDepth 100000
set_option maxHeartbeats 4000000
namespace KQ
open PySem L2 KV KR KS KC KD KX KP
variable {P : Program} {w : World} {K : PySem.W.Frag} {mg : Str → Option Value} {base : Heap}
/-! ### _law_lain -/
def spLain : Sp := fun vs H Q _ => ∃ (O : List Addr) (S : Sec) (m : Nat), Live O H ∧ ErAll (cut O H) vs [.dat (secD S), .dat (.int (m : Int))] ∧ Wf S ∧ AllHeld S ∧ m ≤ 100 ∧
  ∀ t a b H2 ks, H t = none → H b = none → Same H H2 → H2 t = some (.tup [.ref a, .ref b]) → H2 b = some (.dT ((kvI ks).map ent)) → Lain S m ks → Q (.ref t) H2
abbrev gLn (S : Sec) (m : Nat) (F G : Addr) (e4 e5 : En) : List En := [.dat (secD S), .dat (.int (m : Int)), .ptr F, .ptr G, e4, e5]
noncomputable def rowsD (S : Sec) (i : Nat) : List PyData := (List.range (i + 1)).map fun t => secD (itS S t)
theorem rows_succ (S : Sec) (i : Nat) : rowsD S (i + 1) = rowsD S i ++ [secD (itS S (i + 1))] := by
  unfold rowsD
  rw [List.range_succ, List.map_append]
  rfl
theorem rows_last (S : Sec) (i : Nat) : rowsD S i = ((List.range i).map fun t => secD (itS S t)) ++ [secD (itS S i)] := by
  unfold rowsD
  rw [List.range_succ, List.map_append]
  rfl
abbrev NN_law_lain : List Str := ["_law_pile_so", "_law_most_so", "_law_rows_so", "_law_found", "_law_lap", "_law_own"]
theorem sc_law_lain : FnScope NN_law_lain ["_law_pile_so", "_law_most_so"] (defScope (KH.top 56)) := ⟨rfl, rfl, rfl, by decide +kernel, rfl, by decide +kernel, by decide +kernel⟩
theorem cal_law_lain (B : Blt mg) (D : Df K mg "_law_lain" 56) (C_law_done : Cal P w K mg base "_law_done" ["_law_pile_so", "_law_act_so", "_law_films_so"] 7 spDone) (C_law_all_spots : Cal P w K mg base "_law_all_spots" ["_law_pile_so"] 1 spSpots) :
    Cal P w K mg base "_law_lain" ["_law_pile_so", "_law_most_so"] 8 spLain :=
  cal_raw D sc_law_lain (fun _ _ _ _ _ _ us hl => match us, hl with | [_, _], _ => rfl) (fun vs H Q E h => by
    obtain ⟨O, S, m, _, h2, _⟩ := h
    rw [erAll_len h2]; rfl) fun f cdv A outer s H vs Q E hr h => by
    obtain ⟨O, S, m, l, h2, wf, ah, hm, q⟩ := h
    have hu := hu_of hr
    refine ⟨_, (pss_cons (ps_par (i := 2) (j := 3) rfl sc_law_lain.nd rfl rfl (by decide) rfl rfl (pa_cons (pe_lst (pa_cons (pv 0) pa_nil)) (pa_cons pe_dnewT pa_nil)) (by rfl))
      (pss_cons (ps_for PassesOwn.never rfl (pi_range1 (by rfl) B.range (pa_cons (pv 1) pa_nil)) (pg_name (i := 4) sc_law_lain.nd rfl (Or.inl rfl))
      (pss_cons (ps_expr (pe_bmK (K := K) rfl PySem.F.plainAttrs_list PySem.F.slot_list_append PySem.F.type_list_append mt_append (pv 2) (pa_cons (pe_cal C_law_done hr (by rfl) (pa_cons (pe_ix (ix_seqK (K := K) rfl) (pv 2) (pe_un un_neg pe_int) (fun _ _ => rfl)) (pa_cons (pe_tup (pa_cons pe_str (pa_cons pe_int (pa_cons pe_int pa_nil)))) (pa_cons (pe_tup pa_nil) pa_nil)))) pa_nil)))
      (pss_one (ps_for PassesOwn.never rfl (pi_listK (K := K) rfl (pe_cal C_law_all_spots hr (by rfl) (pa_cons (pv 0) pa_nil))) (pg_name (i := 5) sc_law_lain.nd rfl (Or.inl rfl))
      (pss_one (ps_if (pt_cmpR op_ne (pe_ix (ix_seqK (K := K) rfl) (pe_ix (ix_seqK (K := K) rfl) (pe_ix (ix_seqK (K := K) rfl) (pv 2) (pe_un un_neg pe_int) (fun _ _ => rfl)) (pe_ix (ix_seqK (K := K) rfl) (pv 5) pe_int (fun _ _ => rfl)) (fun _ _ => rfl)) (pe_ix (ix_seqK (K := K) rfl) (pv 5) pe_int (fun _ _ => rfl)) (fun _ _ => rfl)) (pe_ix (ix_seqK (K := K) rfl) (pe_ix (ix_seqK (K := K) rfl) (pe_ix (ix_seqK (K := K) rfl) (pv 2) (pe_un un_neg pe_int) (fun _ _ => rfl)) (pe_ix (ix_seqK (K := K) rfl) (pv 5) pe_int (fun _ _ => rfl)) (fun _ _ => rfl)) (pe_ix (ix_seqK (K := K) rfl) (pv 5) pe_int (fun _ _ => rfl)) (fun _ _ => rfl)) (nomark _)) (pss_one (ps_dput hu (pv 3) (pv 5) (pe_op op_add (pv 4) pe_int) rfl)) pss_nil))))))
      (pss_one (ps_ret (pe_tup (pa_cons (pv 2) (pa_cons (pv 3) pa_nil))))))), ?_⟩
    clear hr hu
    have g : EnvOk (cut O H) (start NN_law_lain vs) (ent0 NN_law_lain [.dat (secD S), .dat (.int (m : Int))]) := by
      unfold L2.start
      rw [erAll_len h2]
      exact env_start h2 _
    refine s_parLD (ds := [secD S]) l g (n_lst (ds := [secD S]) (a_cons (e_var rfl) a_nil)) fun F G H1 xs nF nG nFG s1 eF eG rF l1 g1 => ?_
    have nFO : F ∉ O := l.no nF
    have nGO : G ∉ O := l.no nG
    have hsub : ∀ a ∈ O, a ∈ G :: F :: O := fun a h => List.mem_cons_of_mem _ (List.mem_cons_of_mem _ h)
    refine for_rng l1 g1 (n := (m : Int)) (e_var rfl) (by omega) (by omega) fun H2 s2 => ⟨fun i σ' H' => Bu [F, G] H2 H' ∧ (∃ xs ks, H' F = some (.lst xs) ∧ RpAll (cut (G :: F :: O) H') xs (rowsD S i) ∧ H' G = some (.dT ((kvI ks).map ent)) ∧ Lain S i ks) ∧ Live (G :: F :: O) H' ∧ EnvOk (cut (G :: F :: O) H') σ' (gLn S m F G .unk .unk), ?_, ?_, ?_⟩
    · exact ⟨Bu.refl _ _, ⟨xs, [], s2 _ _ eF, RpAll.mono (cut_mono s2) _ _ rF, s2 _ _ eG, Lain.first S⟩, l1.mono s2, g1.mono (cut_mono s2)⟩
    · intro i σ3 H3 hi ⟨b3, ⟨xs, ks, eF, rF, eG, ln⟩, l3, g3'⟩
      have g3 := g3'.set (.dat (.int (i : Int))) 4 (v := .int (i : Int))
      have rF' := rF
      rw [rows_last] at rF
      obtain ⟨ys, zs, rfl, ry, rz⟩ := RpAll.split rF
      cases rz with | cons rv rz =>
      cases rz
      rename_i v
      have B := itS_ok wf ah i
      obtain ⟨vF, eσF, rF1⟩ := g3.get (i := 2) (e := .ptr F) rfl fun z => nomatch z
      cases rF1
      refine ⟨_, eσF, .inl ⟨rfl, _, SqL.of eF⟩, _, eσF, ?_⟩
      refine (e_un (f := fun i => -i) (i := 1) e_int) _ H3 _ l3 g3 _ fun y H4 _ z s4 r4 => ?_
      subst z
      cases r4 with | dat r4 =>
      refine .inl ⟨F, ys ++ [v], -1, v, rfl, r4.toInt, SqL.of (s4 _ _ eF), atI_last ys v, ?_⟩
      have l4 := l3.mono s4
      have g4 := g3.mono (cut_mono s4)
      refine (a_cons (e := .dat actD) (e_tup (ds := [.str "lay", .int 4, .int 1]) (a_cons e_str (a_cons e_int (a_cons e_int a_nil)))) (a_cons (e := .dat (.tuple [])) (e_tup (ds := []) a_nil) a_nil)) _ H4 _ l4 g4 _ fun us H5 s5 r5 => ?_
      have s45 := s4.trans s5
      show spDone ((v :: us) ++ []) H5 _ _
      rw [List.append_nil]
      refine ⟨G :: F :: O, _, _, l4.mono s5, .cons (.dat (Rp.mono (cut_mono s45) _ _ rv)) r5, ⟨[secD (itS S i), actD, .tuple []], secD (itS S (i + 1)), rfl, rfl, ⟨itS S i, rfl, B.wf, rfl⟩, rfl⟩, fun v6 H6 e z s6 r6 => ?_⟩
      subst z
      cases r6 with | dat r6 =>
      have s36 := s45.trans s6
      have eF6 := s36 _ _ eF
      refine ⟨F, ys ++ [v], v6, rfl, rfl, eF6, ?_, ?_⟩
      · have := rF'.length
        rw [this]
        unfold rowsD
        rw [List.length_map, List.length_range]
        exact Nat.lt_of_le_of_lt (by omega : i + 1 ≤ 100000) (by decide)
      have b7 : But F H6 (upd H6 F (.lst (ys ++ [v] ++ [v6]))) := But.of (Same.refl _)
      have e7F : (upd H6 F (.lst (ys ++ [v] ++ [v6]))) F = some (.lst (ys ++ [v] ++ [v6])) := upd_same
      generalize upd H6 F (.lst (ys ++ [v] ++ [v6])) = H7 at b7 e7F ⊢
      have c7 := b7.cut (O := G :: F :: O) (by simp)
      have r7 : RpAll (cut (G :: F :: O) H7) (ys ++ [v] ++ [v6]) (rowsD S (i + 1)) := by
        rw [rows_succ]
        exact (RpAll.mono ((cut_mono s36).trans c7) _ _ rF').append (.cons (Rp.mono c7 _ _ r6) .nil)
      have e7G := b7 G _ (fun z => nFG z.symm) (s36 _ _ eG)
      have l7 : Live (G :: F :: O) H7 := (l3.mono s36).but b7 ⟨_, e7F, fun _ z => nomatch z⟩
      have g7 := (g3.mono (cut_mono s36)).mono c7
      have bu7 : Bu [F, G] H2 H7 := (b3.same s36).but b7 (by simp)
      refine for_src (src_list (e_call (ds := [secD S]) (a_cons (e_var rfl) a_nil) ⟨S, rfl, wf, rfl⟩)) l7 g7 fun H8 s8 => ⟨fun j σ' H' => Bu [G] H8 H' ∧ (∃ ks, H' G = some (.dT ((kvI ks).map ent)) ∧ Lying S i ((cells S).take j) ks) ∧ Live (G :: F :: O) H' ∧ EnvOk (cut (G :: F :: O) H') σ' (gLn S m F G (.dat (.int (i : Int))) .unk), ?_, ?_, ?_, ?_⟩
      · exact ⟨Bu.refl _ _, ⟨ks, s8 _ _ e7G, ln.begin⟩, l7.mono s8, g7.mono (cut_mono s8)⟩
      · rintro j σ' H' _ ⟨b, _⟩
        exact b.cut (by simp)
      · intro j d x σ' H' H9 ed ⟨b9, ⟨ks, eG9, ly⟩, l9', g9'⟩ s9 hx
        rw [List.getElem?_map] at ed
        obtain ⟨c, ec, rfl⟩ := Option.map_eq_some_iff.mp ed
        have l9 := l9'.mono s9
        have g9 := (g9'.mono (cut_mono s9)).set (.dat (hx _ l9' (b9.cut (by simp)))) 5
        have ic : InG S c := mem_cells.mp (List.mem_of_getElem? ec)
        have C := itS_ok wf ah (i + 1)
        obtain ⟨v1, ev1, _⟩ := valAt_in C.wf (p := c) (by unfold InG; rw [C.len, C.ht]; exact ic)
        obtain ⟨v0, ev0, _⟩ := valAt_in B.wf (p := c) (by unfold InG; rw [B.len, B.ht]; exact ic)
        have hL := it_diff wf ah i c
        rw [ev1, ev0] at hL
        have b79 : Bu [G] H7 H9 := (((Bu.refl [G] H7).same s8).trans b9).same s9
        have e9F := b79 F _ (by simp only [List.mem_cons, List.not_mem_nil, or_false]; exact nFG) e7F
        have r9 := RpAll.mono (b79.cut (O := G :: F :: O) (by simp)) _ _ r7
        have op := g9.openL (O' := O) (i := 2) rfl hsub nFO e9F r9
        have nd : (cells S).Nodup := lex_nodup (grid_sorted _ _)
        have hc : c ∉ (cells S).take j := fun z => by
          obtain ⟨k, hk, ek⟩ := List.getElem_of_mem z
          rw [List.length_take] at hk
          rw [List.getElem_take] at ek
          have e2 : (cells S)[k]? = some c := by rw [List.getElem?_eq_getElem (by omega), ek]
          have := (List.getElem?_inj (by omega : k < (cells S).length) nd).mp (e2.trans ec.symm)
          omega
        refine (t_tst (e_neI (i := v1) (j := v0) (e_at ev1 (e_ix (ds := rowsD S (i + 1)) (e_var rfl) (e_un (f := fun i => -i) e_int) rfl (by rw [rows_succ]; exact atI_last _ _)) (e_c0 (e_var rfl)) (e_c1' (e_var rfl))) (e_at ev0 (e_ix (ds := rowsD S (i + 1)) (e_var rfl) (e_un (f := fun i => -i) e_int) rfl (by rw [rows_succ, rows_last, List.append_assoc]; exact atI_last2 _ _ _)) (e_c0 (e_var rfl)) (e_c1' (e_var rfl))))) _ H9 O (l9.sub hsub) op _ fun H10 s10 => ?_
        have l10 := l9.mono s10
        have g10 := g9.mono (cut_mono s10)
        have e10G := s10 _ _ (s9 _ _ eG9)
        have eT : (cells S).take (j + 1) = (cells S).take j ++ [c] := by rw [List.take_add_one, ec]; rfl
        by_cases hv : v1 = v0
        · rw [decide_eq_true hv, if_neg (by decide)]
          exact ⟨((b9.same s9).same s10), ⟨ks, e10G, by rw [eT]; exact ly.skip fun z => (hL.mpr z) (by rw [hv])⟩, l10, g10.blur 5⟩
        · rw [decide_eq_false hv, if_pos (by decide)]
          have lc : (gd S).L i c := hL.mp fun z => hv (by injection z)
          refine s_dput (c := c) (v := .int ((i : Int) + 1)) l10 g10 e10G (e_var rfl) (e_var rfl) (e_I0 (e_var rfl) e_int) rfl (by unfold kvI; rw [List.length_map]; have := ly.short wf; omega) fun H11 b11 e11 => ?_
          rw [putK_new (ly.new lc hc)] at e11
          exact ⟨(((b9.same s9).same s10).but b11 (by simp)), ⟨_, e11, by rw [eT]; exact ly.add lc hc⟩, l10.but b11 ⟨_, e11, fun _ z => nomatch z⟩, (g10.mono (b11.cut (by simp))).blur 5⟩
      · rintro σ' H' ⟨b, ⟨ks, eG, ly⟩, l', g'⟩
        rw [List.length_map, List.take_length] at ly
        have b78 : Bu [G] H7 H' := ((Bu.refl [G] H7).same s8).trans b
        exact ⟨bu7.trans (b78.sub (by simp)), ⟨_, ks, b78 F _ (by simp only [List.mem_cons, List.not_mem_nil, or_false]; exact nFG) e7F, RpAll.mono (b78.cut (O := G :: F :: O) (by simp)) _ _ r7, eG, ly.fin wf⟩, l', g'.blur 4⟩
    · rintro σ3 H3 ⟨b3, ⟨xs, ks, eF, rF, eG, ln⟩, l3, g3⟩
      obtain ⟨vF, eσF, rF1⟩ := g3.get (i := 2) (e := .ptr F) rfl fun z => nomatch z
      cases rF1
      obtain ⟨vG, eσG, rG1⟩ := g3.get (i := 3) (e := .ptr G) rfl fun z => nomatch z
      cases rG1
      have s13 : Same H H3 := fun a o e => b3 a o (by
        simp only [List.mem_cons, List.not_mem_nil, or_false, not_or]
        exact ⟨ne_of_none e nF, ne_of_none e nG⟩) (s2 _ _ (s1 _ _ e))
      exact ⟨_, eσF, _, eσG, small (n := 2) (by decide), fun t ht => q t F G _ ks (s13.free ht) nG (s13.trans (same_upd ht)) upd_same ((same_upd ht) _ _ eG) ln⟩
end KQ
/-! Q11 -/
set_option Elab.async false
set_option linter.all false
set_option maxRecDepth 100000
set_option maxHeartbeats 4000000
namespace KQ
open PySem L2 KV KR KS KC KD KX KP
variable {P : Program} {w : World} {K : PySem.W.Frag} {mg : Str → Option Value} {base : Heap}
abbrev spConst (S : Sec) : Sp := spE (rD 0 fun ds d => ds = [] ∧ d = secD S)
/-! ### the sections by hand -/
abbrev NN_law_vault : List Str := []
theorem sc_law_vault : FnScope NN_law_vault [] (defScope (KH.top 34)) := ⟨rfl, rfl, rfl, by decide +kernel, rfl, by decide +kernel, by decide +kernel⟩
theorem cal_law_vault (B : Blt mg) (D : Df K mg "_law_vault" 34) :
    Cal P w K mg base "_law_vault" [] 1 (spConst vaultS) :=
  cal_pure D sc_law_vault (fun _ _ _ _ _ _ us hl => match us, hl with | [], _ => rfl) rD_len fun f cdv A outer s H es Φ hr h => by
    obtain ⟨ds, d, hn, rfl, ⟨rfl, rfl⟩, rfl⟩ := h
    refine ⟨_, (pss_one (ps_ret (pe_tup (pa_cons (pe_tup (pa_cons pe_int (pa_cons pe_int (pa_cons pe_int (pa_cons pe_int (pa_cons pe_int (pa_cons pe_int pa_nil))))))) (pa_cons (pe_tup (pa_cons pe_int (pa_cons pe_int (pa_cons pe_int (pa_cons pe_int (pa_cons pe_int (pa_cons pe_int pa_nil))))))) (pa_cons (pe_tup (pa_cons pe_int (pa_cons pe_int (pa_cons pe_int (pa_cons pe_int (pa_cons pe_int (pa_cons pe_int pa_nil))))))) (pa_cons (pe_tup (pa_cons pe_int (pa_cons pe_int (pa_cons pe_int (pa_cons pe_int (pa_cons pe_int (pa_cons pe_int pa_nil))))))) (pa_cons (pe_tup (pa_cons pe_int (pa_cons pe_int (pa_cons pe_int (pa_cons pe_int (pa_cons pe_int (pa_cons pe_int pa_nil))))))) pa_nil)))))))), ?_⟩
    clear hr
    have c6 : ∀ {Γ : List En} {a b c d e f : Int}, Ed (tTup (tCons (tC (.int a)) (tCons (tC (.int b)) (tCons (tC (.int c)) (tCons (tC (.int d)) (tCons (tC (.int e)) (tCons (tC (.int f)) tNil))))))) Γ (colD [a, b, c, d, e, f]) := 
      e_tup (ds := [.int _, .int _, .int _, .int _, .int _, .int _]) (a_cons e_int (a_cons e_int (a_cons e_int (a_cons e_int (a_cons e_int (a_cons e_int a_nil))))))
    exact b_ret (e_tup (ds := vaultS.map colD) (a_cons c6 (a_cons c6 (a_cons c6 (a_cons c6 (a_cons c6 a_nil))))))
abbrev NN_law_shut : List Str := []
theorem sc_law_shut : FnScope NN_law_shut [] (defScope (KH.top 35)) := ⟨rfl, rfl, rfl, by decide +kernel, rfl, by decide +kernel, by decide +kernel⟩
theorem cal_law_shut (B : Blt mg) (D : Df K mg "_law_shut" 35) :
    Cal P w K mg base "_law_shut" [] 1 (spConst shutS) :=
  cal_pure D sc_law_shut (fun _ _ _ _ _ _ us hl => match us, hl with | [], _ => rfl) rD_len fun f cdv A outer s H es Φ hr h => by
    obtain ⟨ds, d, hn, rfl, ⟨rfl, rfl⟩, rfl⟩ := h
    refine ⟨_, (pss_one (ps_ret (pe_tup (pa_cons (pe_tup (pa_cons pe_int (pa_cons pe_int pa_nil))) (pa_cons (pe_tup (pa_cons pe_int (pa_cons pe_int pa_nil))) (pa_cons (pe_tup (pa_cons pe_int (pa_cons pe_int pa_nil))) pa_nil)))))), ?_⟩
    clear hr
    have c2 : ∀ {Γ : List En} {a b : Int}, Ed (tTup (tCons (tC (.int a)) (tCons (tC (.int b)) tNil))) Γ (colD [a, b]) := e_tup (ds := [.int _, .int _]) (a_cons e_int (a_cons e_int a_nil))
    exact b_ret (e_tup (ds := shutS.map colD) (a_cons c2 (a_cons c2 (a_cons c2 a_nil))))
abbrev NN_law_ridge : List Str := []
theorem sc_law_ridge : FnScope NN_law_ridge [] (defScope (KH.top 36)) := ⟨rfl, rfl, rfl, by decide +kernel, rfl, by decide +kernel, by decide +kernel⟩
theorem cal_law_ridge (B : Blt mg) (D : Df K mg "_law_ridge" 36) :
    Cal P w K mg base "_law_ridge" [] 1 (spConst ridgeS) :=
  cal_pure D sc_law_ridge (fun _ _ _ _ _ _ us hl => match us, hl with | [], _ => rfl) rD_len fun f cdv A outer s H es Φ hr h => by
    obtain ⟨ds, d, hn, rfl, ⟨rfl, rfl⟩, rfl⟩ := h
    refine ⟨_, (pss_one (ps_ret (pe_tup (pa_cons (pe_tup (pa_cons pe_int (pa_cons pe_int pa_nil))) (pa_cons (pe_tup (pa_cons pe_int (pa_cons pe_int pa_nil))) (pa_cons (pe_tup (pa_cons pe_int (pa_cons pe_int pa_nil))) pa_nil)))))), ?_⟩
    clear hr
    have c2 : ∀ {Γ : List En} {a b : Int}, Ed (tTup (tCons (tC (.int a)) (tCons (tC (.int b)) tNil))) Γ (colD [a, b]) := e_tup (ds := [.int _, .int _]) (a_cons e_int (a_cons e_int a_nil))
    exact b_ret (e_tup (ds := ridgeS.map colD) (a_cons c2 (a_cons c2 (a_cons c2 a_nil))))
abbrev NN_law_cave : List Str := ["_law_back_so", "_law_room_so"]
theorem sc_law_cave : FnScope NN_law_cave [] (defScope (KH.top 55)) := ⟨rfl, rfl, rfl, by decide +kernel, rfl, by decide +kernel, by decide +kernel⟩
theorem cal_law_cave (B : Blt mg) (D : Df K mg "_law_cave" 55) :
    Cal P w K mg base "_law_cave" [] 1 (spConst caveS) :=
  cal_pure D sc_law_cave (fun _ _ _ _ _ _ us hl => match us, hl with | [], _ => rfl) rD_len fun f cdv A outer s H es Φ hr h => by
    obtain ⟨ds, d, hn, rfl, ⟨rfl, rfl⟩, rfl⟩ := h
    refine ⟨_, (pss_cons (ps_asg (pe_tup (pa_cons (pe_tup (pa_cons pe_int (pa_cons pe_int (pa_cons pe_int (pa_cons pe_int (pa_cons pe_int pa_nil)))))) (pa_cons (pe_tup (pa_cons pe_int (pa_cons pe_int (pa_cons pe_int (pa_cons pe_int (pa_cons pe_int pa_nil)))))) pa_nil))) (pg_tupK (K := K) rfl (n := 2) rfl (pgs_cons (pg_name (i := 0) sc_law_cave.nd rfl (Or.inl rfl)) (pgs_cons (pg_name (i := 1) sc_law_cave.nd rfl (Or.inl rfl)) pgs_nil))))
      (pss_one (ps_ret (pe_tup (pa_cons (pv 0) (pa_cons (pv 1) (pa_cons (pv 1) (pa_cons (pv 1) (pa_cons (pe_tup (pa_cons pe_int (pa_cons pe_int (pa_cons pe_int (pa_cons pe_int (pa_cons pe_int pa_nil)))))) (pa_cons (pv 1) (pa_cons (pv 1) (pa_cons (pe_tup (pa_cons pe_int (pa_cons pe_int (pa_cons pe_int (pa_cons pe_int (pa_cons pe_int pa_nil)))))) (pa_cons (pe_tup (pa_cons pe_int (pa_cons pe_int (pa_cons pe_int (pa_cons pe_int (pa_cons pe_int pa_nil)))))) pa_nil))))))))))))), ?_⟩
    clear hr
    have c5 : ∀ {Γ : List En} {a b c d e : Int}, Ed (tTup (tCons (tC (.int a)) (tCons (tC (.int b)) (tCons (tC (.int c)) (tCons (tC (.int d)) (tCons (tC (.int e)) tNil)))))) Γ (colD [a, b, c, d, e]) := 
      e_tup (ds := [.int _, .int _, .int _, .int _, .int _]) (a_cons e_int (a_cons e_int (a_cons e_int (a_cons e_int (a_cons e_int a_nil)))))
    refine b_pair (d1 := colD [1, 1, 1, 1, 0]) (d2 := colD [0, 0, 0, 1, 0]) (e_tup (ds := [_, _]) (a_cons c5 (a_cons c5 a_nil))) ?_
    exact b_ret (e_tup (ds := caveS.map colD) (a_cons (e_var rfl) (a_cons (e_var rfl) (a_cons (e_var rfl) (a_cons (e_var rfl) (a_cons c5 (a_cons (e_var rfl) (a_cons (e_var rfl) (a_cons c5 (a_cons c5 a_nil))))))))))
/-! ### _law_by_hand_right -/
theorem vault_cnt : cntD vaultS 4 = .tuple [.int 10, .int 5, .int 5, .int 1] := by
  obtain ⟨h0, h1, h2, h3⟩ := vault_len
  show PyData.tuple [.int (lenL vaultS 0 : Int), .int (lenL vaultS 1 : Int), .int (lenL vaultS 2 : Int), .int (lenL vaultS 3 : Int)] = _
  rw [h0, h1, h2, h3]
  rfl
theorem ridge_cnt : cntD ridgeS 1 = .tuple [.int 3] := by
  show PyData.tuple [.int (lenL ridgeS 0 : Int)] = _
  rw [ridge_len]
  rfl
def vaultF (k : Int) : PyData := if k ≤ 0 then .int 0 else if k ≤ 10 then .int 1 else if k ≤ 15 then .int 2 else if k ≤ 20 then .int 3 else if k ≤ 21 then .int 4 else .none
theorem vault_least (m : Int) : (∃ r : Nat, r ≤ 4 ∧ m ≤ (tot vaultS r : Int) ∧ (∀ s, s < r → (tot vaultS s : Int) < m) ∧ vaultF m = .int r) ∨ ((∀ r, r ≤ 4 → (tot vaultS r : Int) < m) ∧ vaultF m = .none) := by
  obtain ⟨t0, t1, t2, t3, t4⟩ := vault_tot
  unfold vaultF
  by_cases h0 : m ≤ 0
  · rw [if_pos h0]
    exact .inl ⟨0, by omega, by omega, fun s hs => by omega, rfl⟩
  rw [if_neg h0]
  by_cases h1 : m ≤ 10
  · rw [if_pos h1]
    exact .inl ⟨1, by omega, by omega, fun s hs => by
      have : s = 0 := by omega
      subst this; omega, rfl⟩
  rw [if_neg h1]
  by_cases h2 : m ≤ 15
  · rw [if_pos h2]
    exact .inl ⟨2, by omega, by omega, fun s hs => by
      have : s = 0 ∨ s = 1 := by omega
      rcases this with e | e <;> subst e <;> omega, rfl⟩
  rw [if_neg h2]
  by_cases h3 : m ≤ 20
  · rw [if_pos h3]
    exact .inl ⟨3, by omega, by omega, fun s hs => by
      have : s = 0 ∨ s = 1 ∨ s = 2 := by omega
      rcases this with e | e | e <;> subst e <;> omega, rfl⟩
  rw [if_neg h3]
  by_cases h4 : m ≤ 21
  · rw [if_pos h4]
    exact .inl ⟨4, by omega, by omega, fun s hs => by
      have : s = 0 ∨ s = 1 ∨ s = 2 ∨ s = 3 := by omega
      rcases this with e | e | e | e <;> subst e <;> omega, rfl⟩
  rw [if_neg h4]
  refine .inr ⟨fun s hs => ?_, rfl⟩
  have : s = 0 ∨ s = 1 ∨ s = 2 ∨ s = 3 ∨ s = 4 := by omega
  rcases this with e | e | e | e | e <;> subst e <;> omega
abbrev spRight : Sp := spE (rD 0 fun ds d => ds = [] ∧ d = .bool true)
def rightD : List PyData := [.tuple [.int 10, .int 5, .int 5, .int 1], .list [.int 0, .int 1, .int 2, .int 3, .int 4, .none], .tuple [.tuple [.int 2, .int 1]], .tuple []]
def rightE : List PyData := [.int 3, .tuple [.int 3], .int 1]
theorem right_ok : okS 3 (.list (rightD ++ rightE)) := by
  have i0 : ∀ n i, okS n (.int i) := fun n i => by
    cases n with
    | zero => exact .inr ⟨i, rfl⟩
    | succ n => exact .inl (.inr ⟨i, rfl⟩)
  refine .inr ⟨_, .inl rfl, by decide, fun d hd => ?_⟩
  simp only [rightD, rightE, List.cons_append, List.nil_append, List.mem_cons, List.not_mem_nil, or_false] at hd
  rcases hd with rfl | rfl | rfl | rfl | rfl | rfl | rfl
  · refine .inr ⟨_, .inr rfl, by decide, fun d hd => ?_⟩
    simp only [List.mem_cons, List.not_mem_nil, or_false] at hd
    rcases hd with rfl | rfl | rfl | rfl <;> exact i0 _ _
  · refine .inr ⟨_, .inl rfl, by decide, fun d hd => ?_⟩
    simp only [List.mem_cons, List.not_mem_nil, or_false] at hd
    rcases hd with rfl | rfl | rfl | rfl | rfl | rfl
    · exact i0 _ _
    · exact i0 _ _
    · exact i0 _ _
    · exact i0 _ _
    · exact i0 _ _
    · exact .inl (.inl rfl)
  · refine .inr ⟨_, .inr rfl, by decide, fun d hd => ?_⟩
    simp only [List.mem_cons, List.not_mem_nil, or_false] at hd
    subst hd
    refine .inr ⟨_, .inr rfl, by decide, fun d hd => ?_⟩
    simp only [List.mem_cons, List.not_mem_nil, or_false] at hd
    rcases hd with rfl | rfl <;> exact i0 _ _
  · exact .inr ⟨_, .inr rfl, by decide, fun d hd => by simp at hd⟩
  · exact i0 _ _
  · refine .inr ⟨_, .inr rfl, by decide, fun d hd => ?_⟩
    simp only [List.mem_cons, List.not_mem_nil, or_false] at hd
    subst hd
    exact i0 _ _
  · exact i0 _ _
abbrev NN_law_by_hand_right : List Str := ["_law_vault_here", "_law_cave_so", "_law_got", "_law_due", "_law_k"]
theorem sc_law_by_hand_right : FnScope NN_law_by_hand_right [] (defScope (KH.top 58)) := ⟨rfl, rfl, rfl, by decide +kernel, rfl, by decide +kernel, by decide +kernel⟩
theorem cal_law_by_hand_right (B : Blt mg) (D : Df K mg "_law_by_hand_right" 58) (C_law_vault : Cal P w K mg base "_law_vault" [] 1 (spConst vaultS)) (C_law_shut : Cal P w K mg base "_law_shut" [] 1 (spConst shutS)) (C_law_ridge : Cal P w K mg base "_law_ridge" [] 1 (spConst ridgeS)) (C_law_cave : Cal P w K mg base "_law_cave" [] 1 (spConst caveS))
    (Claid_counts : Cal P w K mg base "laid_counts" ["section"] 9 spCounts) (Cleast_rounds : Cal P w K mg base "least_rounds" ["section", "many"] 10 spLeast) (Cnever_laid : Cal P w K mg base "never_laid" ["section"] 9 spNever) (C_law_same : Cal P w K mg base "_law_same" ["_law_got", "_law_due"] 4 (spSame 3)) :
    Cal P w K mg base "_law_by_hand_right" [] 11 spRight :=
  cal_pure D sc_law_by_hand_right (fun _ _ _ _ _ _ us hl => match us, hl with | [], _ => rfl) rD_len fun f cdv A outer s H es Φ hr h => by
    obtain ⟨ds, d, hn, rfl, ⟨rfl, rfl⟩, rfl⟩ := h
    refine ⟨_, (pss_cons (ps_asg (pe_tup (pa_cons (pe_cal0 C_law_vault hr (by rfl)) (pa_cons (pe_cal0 C_law_cave hr (by rfl)) pa_nil))) (pg_tupK (K := K) rfl (n := 2) rfl (pgs_cons (pg_name (i := 0) sc_law_by_hand_right.nd rfl (Or.inr rfl)) (pgs_cons (pg_name (i := 1) sc_law_by_hand_right.nd rfl (Or.inl rfl)) pgs_nil))))
      (pss_cons (ps_set (i := 2) sc_law_by_hand_right.nd rfl (Or.inl rfl) (pe_lst (pa_cons (pe_cal Claid_counts hr (by rfl) (pa_cons (pv 0) pa_nil)) (pa_cons (pe_lc (own := [("_law_k", 4)]) rfl sc_law_by_hand_right.nd (pi_tupK (K := K) rfl (pe_tup (pa_cons pe_int (pa_cons pe_int (pa_cons pe_int (pa_cons pe_int (pa_cons pe_int (pa_cons pe_int pa_nil)))))))) (blkOk_by (sc := defScope (KH.top 58)) (own := [("_law_k", 4)]) (N := NN_law_by_hand_right) (by decide +kernel)) (fun _ _ _ _ _ => (pg_name (i := 4) sc_law_by_hand_right.nd rfl (Or.inl rfl))) (fun _ _ _ _ _ => pts_nil) (fun _ _ _ _ _ => (pe_cal Cleast_rounds hr (by rfl) (pa_cons (pv 0) (pa_cons (pv 4) pa_nil))))) (pa_cons (pe_cal Cnever_laid hr (by rfl) (pa_cons (pv 0) pa_nil)) (pa_cons (pe_cal Claid_counts hr (by rfl) (pa_cons (pe_cal0 C_law_shut hr (by rfl)) pa_nil)) pa_nil))))))
      (pss_cons (ps_set (i := 3) sc_law_by_hand_right.nd rfl (Or.inl rfl) (pe_lst (pa_cons (pe_tup (pa_cons pe_int (pa_cons pe_int (pa_cons pe_int (pa_cons pe_int pa_nil))))) (pa_cons (pe_lst (pa_cons pe_int (pa_cons pe_int (pa_cons pe_int (pa_cons pe_int (pa_cons pe_int (pa_cons pe_non pa_nil))))))) (pa_cons (pe_tup (pa_cons (pe_tup (pa_cons pe_int (pa_cons pe_int pa_nil))) pa_nil)) (pa_cons (pe_tup pa_nil) pa_nil))))))
      (pss_cons (ps_set (i := 2) sc_law_by_hand_right.nd rfl (Or.inl rfl) (pe_op op_cat (pv 2) (pe_lst (pa_cons (pe_callB (call_len_seqK (K := K) rfl) (by rfl) B.len bt_len (pa_cons (pe_cal Cnever_laid hr (by rfl) (pa_cons (pv 1) pa_nil)) pa_nil)) (pa_cons (pe_cal Claid_counts hr (by rfl) (pa_cons (pe_cal0 C_law_ridge hr (by rfl)) pa_nil)) (pa_cons (pe_cal Cleast_rounds hr (by rfl) (pa_cons (pe_cal0 C_law_ridge hr (by rfl)) (pa_cons pe_int pa_nil))) pa_nil))))))
      (pss_one (ps_ret (pe_cal C_law_same hr (by rfl) (pa_cons (pv 2) (pa_cons (pe_op op_cat (pv 3) (pe_lst (pa_cons pe_int (pa_cons (pe_tup (pa_cons pe_int pa_nil)) (pa_cons pe_int pa_nil))))) pa_nil))))))))), ?_⟩
    clear hr
    have cst : ∀ {Γ : List En} {S : Sec}, Ed (tCall (spConst S) [] E0 tNil) Γ (secD S) := fun {Γ S} => e_call (ds := []) a_nil ⟨rfl, rfl⟩
    refine b_pair (d1 := secD vaultS) (d2 := secD caveS) (e_tup (ds := [_, _]) (a_cons cst (a_cons cst a_nil))) ?_
    refine b_asg (e := .dat (.list rightD)) (NL.e (n_lst (ds := rightD)
      (a_cons (e_to (e_call (ds := [secD vaultS]) (a_cons (e_var rfl) a_nil) ⟨vaultS, _, 4, rfl, vaultw, .inl rfl, vault_last, rfl⟩) (by rw [vault_cnt]))
      (a_cons (NL.e (n_lcB (emb := .int) (qs := [0, 10, 11, 16, 21, 22]) (fun k => (wipeG _ [4]).set 4 (.dat (.int k))) vaultF
        (src_tup (e_tup (ds := [.int 0, .int 10, .int 11, .int 16, .int 21, .int 22]) (a_cons e_int (a_cons e_int (a_cons e_int (a_cons e_int (a_cons e_int (a_cons e_int a_nil))))))))
        (by decide) (fun k _ => tg_name 4) (by simp) (fun k _ => e_call (ds := [secD vaultS, .int k]) (a_cons (e_var rfl) (a_cons (e_var rfl) a_nil)) ⟨vaultS, _, 4, k, rfl, vaultw, .inl rfl, vault_last, vault_least k⟩)))
      (a_cons (e_to (e_call (ds := [secD vaultS]) (a_cons (e_var rfl) a_nil) ⟨vaultS, _, rfl, vaultw, .inl rfl, rfl⟩) (by rw [vault_never]; rfl))
      (a_cons (e_call (ds := [secD shutS]) (a_cons cst a_nil) ⟨shutS, _, 0, rfl, shutw, .inl rfl, shut_last, rfl⟩) a_nil)))))) ?_
    refine b_asg (e := .dat (.list rightD)) (NL.e (n_lst (ds := rightD)
      (a_cons (e_tup (ds := [.int 10, .int 5, .int 5, .int 1]) (a_cons e_int (a_cons e_int (a_cons e_int (a_cons e_int a_nil)))))
      (a_cons (NL.e (n_lst (ds := [.int 0, .int 1, .int 2, .int 3, .int 4, .none]) (a_cons e_int (a_cons e_int (a_cons e_int (a_cons e_int (a_cons e_int (a_cons e_non a_nil)))))))) 
      (a_cons (e_tup (ds := [.tuple [.int 2, .int 1]]) (a_cons (e_tup (ds := [.int 2, .int 1]) (a_cons e_int (a_cons e_int a_nil))) a_nil))
      (a_cons (e_tup (ds := []) a_nil) a_nil)))))) ?_
    have l1 := vault_least 3
    refine b_asg (e := .dat (.list (rightD ++ rightE))) (NL.e (n_cat (e_var rfl) (NL.e (n_lst (ds := rightE)
      (a_cons (e_to (e_len (e_call (ds := [secD caveS]) (a_cons (e_var rfl) a_nil) ⟨caveS, _, rfl, cavew, .inl rfl, rfl⟩) rfl) (by rw [List.length_map, cave_never]; rfl))
      (a_cons (e_to (e_call (ds := [secD ridgeS]) (a_cons cst a_nil) ⟨ridgeS, _, 1, rfl, ridgew, .inl rfl, ridge_last, rfl⟩) (by rw [ridge_cnt]))
      (a_cons (e_call (ds := [secD ridgeS, .int 3]) (a_cons cst (a_cons e_int a_nil)) ⟨ridgeS, _, 1, 3, rfl, ridgew, .inl rfl, ridge_last, .inl ⟨1, Nat.le_refl _, ?_, fun s hs => ?_, rfl⟩⟩) a_nil))))) (by decide))) ?_
    · have t1 : tot ridgeS 1 = tot ridgeS 0 + lenL ridgeS 0 := tot_succ ridgeS 0
      rw [ridge_len] at t1
      omega
    · have e : s = 0 := by omega
      subst e
      show ((0 : Nat) : Int) < 3
      decide
    refine b_ret (e_call (ds := [.list (rightD ++ rightE), .list (rightD ++ rightE)]) (a_cons (e_var rfl) (a_cons (NL.e (n_cat (e_var rfl) (NL.e (n_lst (ds := rightE) (a_cons e_int (a_cons (e_tup (ds := [.int 3]) (a_cons e_int a_nil)) (a_cons e_int a_nil))))) (by decide))) a_nil)) ⟨_, rfl, right_ok, rfl⟩)
end KQ
/-! Q12 -/
set_option Elab.async false
set_option linter.all false
set_option maxRecDepth 100000
set_option maxHeartbeats 4000000
namespace KQ
open PySem L2 KV KR KS KC KD KX KP
variable {P : Program} {w : World} {K : PySem.W.Frag} {mg : Str → Option Value} {base : Heap}
theorem ok_int (n : Nat) (i : Int) : okS n (.int i) := by
  cases n with
  | zero => exact .inr ⟨i, rfl⟩
  | succ n => exact .inl (.inr ⟨i, rfl⟩)
theorem ok_cell (n : Nat) (c : KV.Cell) : okS (n + 1) (cellD c) := .inr ⟨[.int c.1, .int c.2], .inr rfl, by show 2 ≤ 1000; decide, fun d hd => by
  simp only [List.mem_cons, List.not_mem_nil, or_false] at hd
  rcases hd with rfl | rfl <;> exact ok_int _ _⟩
theorem ok_cells (n : Nat) (cs : List KV.Cell) (h : cs.length ≤ 1000) : okS (n + 2) (.tuple (cs.map cellD)) := .inr ⟨_, .inr rfl, by rw [List.length_map]; exact h, fun d hd => by
  obtain ⟨c, _, rfl⟩ := List.mem_map.mp hd
  exact ok_cell n c⟩
theorem ok_ls (n : Nat) (l : List Nat) : okS (n + 1) (lsD l) := by
  cases l with
  | nil => exact .inl (.inl rfl)
  | cons r l => exact ok_int _ _
theorem ok_cnt (m : Nat) (S : Sec) (n : Nat) (h : n ≤ 7) : okS (m + 1) (cntD S n) := .inr ⟨_, .inr rfl, by rw [List.length_map, List.length_range]; omega, fun d hd => by
  obtain ⟨i, _, rfl⟩ := List.mem_map.mp hd
  exact ok_int _ _⟩
theorem raw2 {σ : St} {H : Hp} {Q : VK} {sp : Sp} {E : XK} {ta tb : TE} (h : ta σ H fun x H1 => tb σ H1 fun y H2 => sp [x, y] H2 Q E) : tCall sp [] E (tCons ta (tCons tb tNil)) σ H Q := h
/-- the rounds, of what _law_lain gives -/
theorem es_lain {Γ : List En} {ta tb : TE} {S : Sec} {m : Nat} (ha : Ed ta Γ (secD S)) (hb : Ed tb Γ (.int (m : Int))) (wf : Wf S) (ah : AllHeld S) (hm : m ≤ 100) :
    Es (tOp (rIx K) (tCall spLain [] E0 (tCons ta (tCons tb tNil))) (tC (.int 1))) Γ fun e => ∃ ks, Lain S m ks ∧ e = .dic (kvI ks) := fun σ H O l g Q q =>
  raw2 (ha σ H O l g _ fun x H1 _ z s1 r1 => by
    subst z
    refine hb σ H1 O (l.mono s1) (g.mono (cut_mono s1)) _ fun y H2 _ z s2 r2 => ?_
    subst z
    have s := s1.trans s2
    refine ⟨O, S, m, l.mono s, .cons (r1.mono (cut_mono s2)) (.cons r2 .nil), wf, ah, hm, fun t a b H3 ks nt nb s3 et eb ln => ?_⟩
    exact .inr (.inl ⟨t, [.ref a, .ref b], 1, .ref b, rfl, rfl, SqT.of et, rfl, q _ _ _ ⟨ks, ln, rfl⟩ (s.trans s3) (.dic (cut_get eb ((l.mono s).no nb)))⟩))
noncomputable def nevD (S : Sec) : PyData := .tuple ((sel S fun c => (gd S).air c ∧ ∀ k, ¬ (gd S).L k c).map cellD)
noncomputable def lbyC (S : Sec) (n : Int) : List KV.Cell := sel S fun c => ∃ k : Nat, (k : Int) + 1 ≤ n ∧ (gd S).L k c
noncomputable def lbyD (S : Sec) (n : Int) : PyData := .tuple ((lbyC S n).map cellD)
def goodsI (ks : List (KV.Cell × Int)) : List Int := (List.range ((ks.length : Int) + 2).toNat).map fun i : Nat => (i : Int)
/-! ### law -/
abbrev spLaw (K : PySem.W.Frag) : Sp := spE fun es Φ => ∃ ns : List Int, es = [.scr K ns] ∧ ns.length ≤ 63 ∧ Φ = (· = .dat (.bool true))
noncomputable abbrev gLw (K : PySem.W.Frag) (ns : List Int) (p : Addr) (S : Sec) (ks : List (KV.Cell × Int)) (n : Nat) (e9 e10 e11 e12 e13 e14 e15 : En) : List En :=
  [.scr K ns, .ptr p, .dat (secD S), .dat (lstD S), .dat (.int (ht S : Int)), .dic (kvI ks), .dat (.int (n : Int)), .dat (cntD S n), .dat (nevD S), e9, e10, e11, e12, e13, e14, e15, .unk, .unk, .unk]
abbrev NNlaw : List Str := ["_law_script", "_law_tin", "_law_pile_so", "_law_soft_so", "_law_tall_so", "_law_laid_so", "_law_last_so", "_law_counts_so", "_law_never_so", "_law_goods_so", "_law_got", "_law_due", "_law_many_so", "_law_enough_so", "_law_high_so", "_law_n", "_law_told_so", "_law_more_so", "_law_own"]
theorem sclaw : FnScope NNlaw ["_law_script"] (defScope (KH.top 59)) := ⟨rfl, rfl, rfl, by decide +kernel, rfl, by decide +kernel, by decide +kernel⟩
theorem cal_law (B : Blt mg) (D : Df K mg "law" 59) (C_law_by_hand_right : Cal P w K mg base "_law_by_hand_right" [] 11 spRight) (C_law_cells : Cal P w K mg base "_law_cells" ["_law_script", "_law_most_so"] 1 (spE (rCells K))) (C_law_box : Cal P w K mg base "_law_box" ["_law_script", "_law_k"] 1 spBox)
    (C_law_take : Cal P w K mg base "_law_take" ["_law_tin", "_law_below_so"] 1 (spT rTake)) (C_law_pile : Cal P w K mg base "_law_pile" ["_law_tin", "_law_wide_so", "_law_tall_so", "_law_stuffs_so"] 5 (spT rPile)) (C_law_lists : Cal P w K mg base "_law_lists" ["_law_matter"] 3 (spLists 2)) (C_law_lain : Cal P w K mg base "_law_lain" ["_law_pile_so", "_law_most_so"] 8 spLain)
    (C_law_airs : Cal P w K mg base "_law_airs" ["_law_pile_so"] 2 spAirs) (C_law_same : Cal P w K mg base "_law_same" ["_law_got", "_law_due"] 4 (spSame 3)) (C_law_pick : Cal P w K mg base "_law_pick" ["_law_tin", "_law_goods_so", "_law_count_so"] 2 (spT rPick)) (Claid_counts : Cal P w K mg base "laid_counts" ["section"] 9 spCounts)
    (Cleast_rounds : Cal P w K mg base "least_rounds" ["section", "many"] 10 spLeast) (Cnever_laid : Cal P w K mg base "never_laid" ["section"] 9 spNever) (Claid_by : Cal P w K mg base "laid_by" ["section", "rounds"] 9 spLaidBy) :
    Cal P w K mg base "law" ["_law_script"] 12 (spLaw K) :=
  cal_pure D sclaw (fun _ _ _ _ _ _ us hl => match us, hl with | [_], _ => rfl) (fun es Φ h => by obtain ⟨ns, rfl, _⟩ := h; rfl) fun f cdv A outer s H es Φ hr h => by
    obtain ⟨ns, rfl, hl, rfl⟩ := h
    have hu := hu_of hr
    refine ⟨_, (pss_cons (ps_if (pt_not (pt_val (pe_cal0 C_law_by_hand_right hr (by rfl)))) (pss_one (ps_ret pe_bl)) pss_nil)
      (pss_cons (ps_set (i := 1) sclaw.nd rfl (Or.inl rfl) (pe_cal C_law_box hr (by rfl) (pa_cons (pe_cal C_law_cells hr (by rfl) (pa_cons (pv 0) (pa_cons pe_int pa_nil))) (pa_cons pe_int pa_nil))))
      (pss_cons (ps_set (i := 2) sclaw.nd rfl (Or.inl rfl) (pe_cal C_law_pile hr (by rfl) (pa_cons (pv 1) (pa_cons (pe_op op_add pe_int (pe_cal C_law_take hr (by rfl) (pa_cons (pv 1) (pa_cons pe_int pa_nil)))) (pa_cons (pe_op op_add pe_int (pe_cal C_law_take hr (by rfl) (pa_cons (pv 1) (pa_cons pe_int pa_nil)))) (pa_cons pe_int pa_nil))))))
      (pss_cons (ps_asg (pe_tup (pa_cons (pe_cal C_law_lists hr (by rfl) (pa_cons (pv 2) pa_nil)) (pa_cons (pe_callB (call_len_seqK (K := K) rfl) (by rfl) B.len bt_len (pa_cons (pe_ix (ix_seqK (K := K) rfl) (pv 2) pe_int (fun _ _ => rfl)) pa_nil)) pa_nil))) (pg_tupK (K := K) rfl (n := 2) rfl (pgs_cons (pg_name (i := 3) sclaw.nd rfl (Or.inl rfl)) (pgs_cons (pg_name (i := 4) sclaw.nd rfl (Or.inr rfl)) pgs_nil))))
      (pss_cons (ps_set (i := 5) sclaw.nd rfl (Or.inr rfl) (pe_ix (ix_seqK (K := K) rfl) (pe_cal C_law_lain hr (by rfl) (pa_cons (pv 2) (pa_cons (pe_op op_add (pv 4) pe_int) pa_nil))) pe_int (fun _ _ => rfl)))
      (pss_cons (ps_set (i := 6) sclaw.nd rfl (Or.inl rfl) (pe_callB (cr_maxK (K := K) rfl rfl) (by rfl) B.max bt_max (pa_cons (pe_op op_cat (pe_lst (pa_cons pe_int pa_nil)) (pe_lock (pe_lc (own := [("_law_own", 18)]) rfl sclaw.nd (pi_keys (pv 5)) (blkOk_by (sc := defScope (KH.top 59)) (own := [("_law_own", 18)]) (N := NNlaw) (by decide +kernel)) (fun _ _ _ _ _ => (pg_name (i := 18) sclaw.nd rfl (Or.inl rfl))) (fun _ _ _ _ _ => pts_nil) (fun _ _ _ _ _ => (pe_dget hu (pv 5) (pv 18) (fun _ _ => rfl)))))) pa_nil)))
      (pss_cons (ps_set (i := 7) sclaw.nd rfl (Or.inr rfl) (pe_callTy (call_tuple_ofK (K := K) rfl) (by rfl) B.tuple bt_tuple (pa_cons (pe_lc (own := [("_law_n", 15)]) rfl sclaw.nd (pi_range2 (by rfl) B.range (pa_cons pe_int (pa_cons (pe_op op_add (pv 6) pe_int) pa_nil))) (blkOk_by (sc := defScope (KH.top 59)) (own := [("_law_n", 15)]) (N := NNlaw) (by decide +kernel)) (fun _ _ _ _ _ => (pg_name (i := 15) sclaw.nd rfl (Or.inr rfl))) (fun _ _ _ _ _ => pts_nil) (fun _ _ _ _ _ => (pe_callB (call_len_seqK (K := K) rfl) (by rfl) B.len bt_len (pa_cons (pe_lock (pe_lc (own := [("_law_own", 18)]) rfl sclaw.nd (pi_keys (pv 5)) (blkOk_by (own := [("_law_own", 18)]) (N := NNlaw) (by rfl)) (fun _ _ _ _ _ => (pg_name (i := 18) sclaw.nd rfl (Or.inl rfl))) (fun _ _ _ _ _ => (pts_one (pt_cmpR op_eq (pe_dget hu (pv 5) (pv 18) (fun _ _ => rfl)) (pv 15) (nomark _)))) (fun _ _ _ _ _ => pe_int))) pa_nil)))) pa_nil)))
      (pss_cons (ps_set (i := 8) sclaw.nd rfl (Or.inl rfl) (pe_callTy (call_tuple_ofK (K := K) rfl) (by rfl) B.tuple bt_tuple (pa_cons (pe_lc (own := [("_law_own", 18)]) rfl sclaw.nd (pi_listK (K := K) rfl (pe_cal C_law_airs hr (by rfl) (pa_cons (pv 2) pa_nil))) (blkOk_by (sc := defScope (KH.top 59)) (own := [("_law_own", 18)]) (N := NNlaw) (by decide +kernel)) (fun _ _ _ _ _ => (pg_name (i := 18) sclaw.nd rfl (Or.inl rfl))) (fun _ _ _ _ _ => (pts_one (pt_cmp (pc_dnotin hu (pv 18) (pv 5))))) (fun _ _ _ _ _ => (pv 18))) pa_nil)))
      (pss_cons (ps_if (pt_not (pt_val (pe_cal C_law_same hr (by rfl) (pa_cons (pe_lst (pa_cons (pe_cal Claid_counts hr (by rfl) (pa_cons (pv 2) pa_nil)) (pa_cons (pe_cal Claid_counts hr (by rfl) (pa_cons (pv 3) pa_nil)) (pa_cons (pe_cal Cnever_laid hr (by rfl) (pa_cons (pv 3) pa_nil)) pa_nil)))) (pa_cons (pe_lst (pa_cons (pv 7) (pa_cons (pv 7) (pa_cons (pv 8) pa_nil)))) pa_nil))))) (pss_one (ps_ret pe_bl)) pss_nil)
      (pss_cons (ps_set (i := 9) sclaw.nd rfl (Or.inl rfl) (pe_listRg rfl (by rfl) B.list (prg_1 (by rfl) B.range (pe_op op_add (pe_callB call_len_dT (by rfl) B.len bt_len (pa_cons (pv 5) pa_nil)) pe_int))))
      (pss_cons (ps_par (i := 10) (j := 11) rfl sclaw.nd rfl rfl (by decide) rfl rfl (pa_cons (pe_lst pa_nil) (pa_cons (pe_lst pa_nil) pa_nil)) (by rfl))
      (pss_cons (ps_for PassesOwn.never rfl (pi_listK (K := K) rfl (pe_op op_cat (pe_cal C_law_pick hr (by rfl) (pa_cons (pv 1) (pa_cons (pv 9) (pa_cons pe_int pa_nil)))) (pe_lst (pa_cons pe_int (pa_cons (pe_callB call_len_dT (by rfl) B.len bt_len (pa_cons (pv 5) pa_nil)) (pa_cons (pe_op op_add (pe_callB call_len_dT (by rfl) B.len bt_len (pa_cons (pv 5) pa_nil)) pe_int) pa_nil)))))) (pg_name (i := 12) sclaw.nd rfl (Or.inr rfl))
      (pss_cons (ps_setLc (i := 13) (own := [("_law_n", 15)]) rfl sclaw.nd rfl rfl (sw_true rfl rfl rfl (by decide +kernel)) (pi_range1 (by rfl) B.range (pa_cons (pe_op op_add (pv 6) pe_int) pa_nil)) (blkOk_by (sc := defScope (KH.top 59)) (own := [("_law_n", 15)]) (N := NNlaw) (by decide +kernel)) (fun _ _ _ _ _ => (pg_name (i := 15) sclaw.nd rfl (Or.inl rfl))) (fun _ _ _ _ _ => (pts_one (pt_cmpR op_ge (pe_callB (call_sumTK (K := K) rfl rfl) (by rfl) B.sum bt_sum (pa_cons (pe_slice (sl_tupAK (K := K) rfl) (pv 7) po_none (po_some (pv 15))) pa_nil)) (pv 12) (nomark _)))) (fun _ _ _ _ _ => (pv 15)))
      (pss_cons (ps_expr (pe_bmK (K := K) rfl PySem.F.plainAttrs_list PySem.F.slot_list_append PySem.F.type_list_append mt_append (pv 10) (pa_cons (pe_cal Cleast_rounds hr (by rfl) (pa_cons (pv 3) (pa_cons (pv 12) pa_nil))) pa_nil)))
      (pss_one (ps_expr (pe_bmK (K := K) rfl PySem.F.plainAttrs_list PySem.F.slot_list_append PySem.F.type_list_append mt_append (pv 11) (pa_cons (pe_ifExp (pt_cmpR (op_neDK (K := K) rfl hr.units) (pv 13) (pe_lst pa_nil) (nomark _)) (pe_ix (ix_seqK (K := K) rfl) (pv 13) pe_int (fun _ _ => rfl)) pe_non) pa_nil)))))))
      (pss_cons (ps_if (pt_not (pt_val (pe_cal C_law_same hr (by rfl) (pa_cons (pv 10) (pa_cons (pv 11) pa_nil))))) (pss_one (ps_ret pe_bl)) pss_nil)
      (pss_cons (ps_set (i := 14) sclaw.nd rfl (Or.inl rfl) (pe_callTy (call_tuple_ofK (K := K) rfl) (by rfl) B.tuple bt_tuple (pa_cons (pe_lc (own := [("_law_own", 18)]) rfl sclaw.nd (pi_tupK (K := K) rfl (pv 2)) (blkOk_by (sc := defScope (KH.top 59)) (own := [("_law_own", 18)]) (N := NNlaw) (by decide +kernel)) (fun _ _ _ _ _ => (pg_name (i := 18) sclaw.nd rfl (Or.inl rfl))) (fun _ _ _ _ _ => pts_nil) (fun _ _ _ _ _ => (pe_op (op_catAK (K := K) rfl) (pv 18) (pe_tup (pa_cons pe_int pa_nil))))) pa_nil)))
      (pss_cons (ps_set (i := 15) sclaw.nd rfl (Or.inl rfl) (pe_op op_add pe_int (pe_cal C_law_take hr (by rfl) (pa_cons (pv 1) (pa_cons pe_int pa_nil)))))
      (pss_cons (ps_par (i := 16) (j := 17) rfl sclaw.nd rfl rfl (by decide) rfl rfl (pa_cons (pe_cal Claid_by hr (by rfl) (pa_cons (pv 2) (pa_cons (pv 15) pa_nil))) (pa_cons (pe_cal Claid_by hr (by rfl) (pa_cons (pv 14) (pa_cons (pv 15) pa_nil))) pa_nil)) (by rfl))
      (pss_one (ps_ret (pe_cal C_law_same hr (by rfl) (pa_cons (pe_callTy (call_tuple_ofK (K := K) rfl) (by rfl) B.tuple bt_tuple (pa_cons (pe_lc (own := [("_law_own", 18)]) rfl sclaw.nd (pi_tupK (K := K) rfl (pv 17)) (blkOk_by (sc := defScope (KH.top 59)) (own := [("_law_own", 18)]) (N := NNlaw) (by decide +kernel)) (fun _ _ _ _ _ => (pg_name (i := 18) sclaw.nd rfl (Or.inl rfl))) (fun _ _ _ _ _ => (pts_one (pt_cmpR op_lt (pe_ix (ix_seqK (K := K) rfl) (pv 18) pe_int (fun _ _ => rfl)) (pv 4) (nomark _)))) (fun _ _ _ _ _ => (pv 18))) pa_nil)) (pa_cons (pv 16) pa_nil))))))))))))))))))))), ?_⟩
    clear hr hu
    refine b_if (b := false) (t_to (t_not (t_B (e_call (ds := []) a_nil ⟨rfl, rfl⟩))) rfl) (fun z => nomatch z) fun _ => ?_
    intro σ H O D l g q
    have c0 : Es (tCall (spE (rCells K)) [] E0 (tCons (tVar 0) (tCons (tC (.int 1)) tNil))) (ent0 NNlaw [.scr K ns]) fun e => ∃ c : Int, e = .dat (.list [.int c]) := es_call (es := [.scr K ns, .dat (.int 1)]) (a_cons (e_var rfl) (a_cons e_int a_nil)) ⟨ns, rfl, hl, rfl⟩
    refine raw2 (c0 σ H O l g _ fun v1 H1 e ⟨c, z⟩ s1 r1 => ?_)
    subst z
    refine ⟨O, c, l.mono s1, .cons r1 (.cons (.dat (.int 0)) .nil), fun p H2 a b np s2 ep a0 b0 b1 => ?_⟩
    have l2 : Live (p :: O) H2 := ((l.mono s1).mono s2).cons ep fun _ z => nomatch z
    have g2 : EnvOk (cut (p :: O) H2) (σ.set 1 (some (.ref p))) ((ent0 NNlaw [.scr K ns]).set 1 (.ptr p)) := ((g.mono (cut_mono s1)).mono (cut_cons np s2)).set .ptr 1
    have tin2 : Tin p 0 H2 := ⟨a, b, 0, ep, a0, b0, b1, Int.le_refl _, Int.le_refl _⟩
    have hp : p ∈ p :: O := List.mem_cons_self ..
    have draw : ∀ {Γ : List En} {tn : TE} {n : Int} {T' : Nat}, Γ[1]? = some (.ptr p) → Ed tn Γ (.int n) → 1 ≤ n → n ≤ 1000 → T' ≤ 1000000 → Et (tCall (spT rTake) [] E0 (tCons (tVar 1) (tCons tn tNil))) Γ p T' (T' + 1) (isI fun r => 0 ≤ r ∧ r < n) := fun h hn n1 n2 hT => et_call (es := [.ptr p, .dat (.int _)]) (a_cons (e_var h) (a_cons hn a_nil)) ⟨_, rfl, n1, n2, hT, rfl, rfl⟩
    refine s_letT hp l2 g2 tin2 (et_callW (R := rPile) (T1 := 2) (T2 := 302) (Φ := fun e => ∃ S, e = .dat (secD S) ∧ Wf S ∧ AllHeld S ∧ ht S ≤ 5)
      (at_cons (et_of (e_var (e := .ptr p) rfl)) (at_cons (et_I0 (φ := (· = 6)) (χ := fun i => 6 ≤ i ∧ i ≤ 9) (et_int e_int rfl) (draw (n := 4) rfl e_int (by decide) (by decide) (by decide)) fun i j hi hj => ⟨by omega, by omega⟩)
      (at_cons (et_I0 (φ := (· = 4)) (χ := fun i => 4 ≤ i ∧ i ≤ 5) (et_int e_int rfl) (draw (n := 2) rfl e_int (by decide) (by decide) (by decide)) fun i j hi hj => ⟨by omega, by omega⟩) (at_cons (et_int (φ := (· = 2)) e_int rfl) at_nil)))) fun es hΨ => ?_) fun v3 H3 e ⟨S, z, wf, ah, h5⟩ b3 t3 l3 g3 => ?_
    · obtain ⟨_, _, rfl, rfl, _, _, rfl, ⟨i, rfl, hi⟩, _, _, rfl, ⟨j, rfl, hj⟩, _, _, rfl, ⟨k, rfl, rfl⟩, rfl⟩ := hΨ
      exact ⟨_, ⟨i, j, rfl, hi, hj, by decide, rfl, rfl⟩, fun e ⟨S, z, wf, ah, _, hG⟩ => ⟨S, z, wf, ah, by omega⟩⟩
    subst z
    obtain ⟨nL, il⟩ := last_exists wf
    have n7 := il.le wf
    have wide := wf.wide
    have tall := wf.tall
    obtain ⟨col, e0, sl⟩ := sec_0 wf
    refine s_pair (d1 := lstD S) (d2 := .int (ht S : Int)) l3 g3 (e_tup (ds := [_, _]) (a_cons (e_to (e_call (ds := [secD S]) (a_cons (e_var rfl) a_nil) ⟨secD S, rfl, okD_sec wf, rfl⟩) (by rw [lstF_sec])) (a_cons (e_to (e_len (e_ix (e_var rfl) e_int rfl e0) rfl) (by rw [List.length_map, sl])) a_nil))) fun v4 w4 H4 s4 l4 g4 => ?_
    refine s_asg l4 g4 (es_lain (m := ht S + 2) (e_var rfl) (e_to (e_I0 (i := (ht S : Int)) (j := 2) (e_var rfl) e_int) (congrArg (fun i => En.dat (.int i)) (by omega))) wf ah (by omega)) fun v5 H5 e ⟨ks, ln, z⟩ s5 l5 g5 _ => ?_
    subst z
    have rk := ln.ok wf (by omega)
    have kl := rounds_short wf rk
    have klk : (keysI ks).length ≤ 54 := by unfold keysI; rw [List.length_map]; exact kl
    obtain ⟨m1, m2⟩ := rounds_maxK rk il
    have srck : ∀ {Γ : List En}, Γ[5]? = some (.dfz (kvI ks)) → Src (iKeys (tVar 5)) Γ ((keysI ks).map cellD) := fun h => src_to (src_keys (e_var h)) (by unfold kvI keysI; rw [List.map_map, List.map_map]; rfl)
    have own : ∀ {Γ : List En} {c : KV.Cell}, Γ[5]? = some (.dfz (kvI ks)) → Γ[18]? = some (.dat (cellD c)) → c ∈ keysI ks → Ed (tDGet (tVar 5) (tVar 18)) Γ (.int (vK ks c)) := fun h1 h2 hc => e_dget (e_var h1) .z (e_var h2) (vK_val rk.nd hc) rfl
    refine s_let (e := .dat (.int (nL : Int))) l5 g5 (e_max (ns := [0] ++ (keysI ks).map (vK ks)) (NL.e (nl_to (n_cat (n_lst (ds := [.int 0]) (a_cons e_int a_nil)).e (NL.e (n_lock (i := 5) (n_lcB (emb := cellD) (qs := keysI ks) (fun c => (wipeG (lockG _ 5 (kvI ks)) [18]).set 18 (.dat (cellD c))) (fun c => .int (vK ks c)) (srck rfl) (by omega) (fun c _ => tg_name 18) (by simp) (fun c hc => own rfl rfl hc)))) (by rw [List.length_map]; show 1 + _ ≤ _; omega)) (by rw [List.map_append, List.map_map]; rfl))) m1 m2) fun v6 H6 s6 l6 g6 => ?_
    refine s_let (e := .dat (cntD S nL)) l6 g6 (e_tuple (NL.e (n_lcB (emb := fun i : Nat => .int (1 + (i : Int))) (qs := List.range nL) (fun i => (wipeG _ [15]).set 15 (.dat (.int (1 + (i : Int))))) (fun i => .int (lenL S i : Int))
      (src_to (src_rng2 (m := 1) (n := (nL : Int) + 1) (a_cons e_int (a_cons (e_I0 (e_var rfl) e_int) a_nil)) (by omega)) (by rw [show ((nL : Int) + 1 - 1).toNat = nL by omega]; rfl))
      (by rw [List.length_range]; omega) (fun i _ => tg_name 15) (by simp) (fun i _ => e_to (e_len (NL.e (n_lock (i := 5) (n_lcA (emb := cellD) (qs := keysI ks) (fun c => (wipeG (lockG _ 5 (kvI ks)) [18]).set 18 (.dat (cellD c))) (fun c => decide (vK ks c = 1 + (i : Int))) (fun _ => .int 1) (srck rfl) (by omega) (fun c _ => tg_name 18) (by simp) (fun c hc => t_tst (e_eqI (own rfl rfl hc) (e_var rfl))) (fun c _ _ => e_int)))) rfl) (by rw [List.length_map, rounds_lenK wf rk])))) rfl) fun v7 H7 s7 l7 g7 => ?_
    refine s_let (e := .dat (nevD S)) l7 g7 (e_tuple (NL.e (nl_to (n_lcA (emb := cellD) (qs := sel S (gd S).air) (fun c => (wipeG _ [18]).set 18 (.dat (cellD c))) (fun c => !decide (c ∈ keysI ks)) cellD (src_list (e_call (ds := [secD S]) (a_cons (e_var rfl) a_nil) ⟨S, rfl, wf, rfl⟩))
      (Nat.le_trans (sel_length wf _) (by decide)) (fun c _ => tg_name 18) (by simp) (fun c hc => t_to (t_tst (e_dnotin (c := c) (kvs := kvI ks) (e_var rfl) (e_var rfl) .c)) (by rw [valV_isSome rk.nd])) (fun c _ _ => e_var rfl)) ?_)) rfl) fun v8 H8 s8 l8 g8 => ?_
    · congr 1
      refine sel_filter fun c _ => ?_
      rw [Bool.not_eq_true', decide_eq_false_iff_not, rk.key, not_exists]
    have chk : okS 3 (.list [cntD S nL, cntD S nL, nevD S]) := .inr ⟨_, .inl rfl, by show 3 ≤ 1000; decide, fun d hd => by
      simp only [List.mem_cons, List.not_mem_nil, or_false] at hd
      rcases hd with rfl | rfl | rfl
      · exact ok_cnt 1 S nL n7
      · exact ok_cnt 1 S nL n7
      · exact ok_cells 0 _ (Nat.le_trans (sel_length wf _) (by decide))⟩
    refine s_no l8 g8 (t_to (t_not (t_B (e_call (ds := [.list [cntD S nL, cntD S nL, nevD S], .list [cntD S nL, cntD S nL, nevD S]]) (a_cons (NL.e (n_lst (ds := [cntD S nL, cntD S nL, nevD S]) (a_cons (e_call (ds := [secD S]) (a_cons (e_var rfl) a_nil) ⟨S, _, nL, rfl, wf, .inl rfl, il, rfl⟩) (a_cons (e_call (ds := [lstD S]) (a_cons (e_var rfl) a_nil) ⟨S, _, nL, rfl, wf, .inr rfl, il, rfl⟩) (a_cons (e_call (ds := [lstD S]) (a_cons (e_var rfl) a_nil) ⟨S, _, rfl, wf, .inr rfl, rfl⟩) a_nil)))))
      (a_cons (NL.e (n_lst (ds := [cntD S nL, cntD S nL, nevD S]) (a_cons (e_var rfl) (a_cons (e_var rfl) (a_cons (e_var rfl) a_nil))))) a_nil)) ⟨_, rfl, chk, rfl⟩))) rfl) fun H9 s9 l9 g9 => ?_
    have lenk : ∀ {Γ : List En}, Γ[5]? = some (.dic (kvI ks)) → Ed (tCB rLenT (tCons (tVar 5) tNil)) Γ (.int (ks.length : Int)) := fun h => e_to (e_lenD (kvs := kvI ks) (e_var h)) (by unfold kvI; rw [List.length_map])
    refine s_let (e := .dat (.list ((goodsI ks).map .int))) l9 g9 (e_listRg (n := (ks.length : Int) + 2) (e_I0 (lenk rfl) e_int) (by omega) (by omega)) fun v10 H10 s10 l10 g10 => ?_
    have s310 : Same H3 H10 := (((((s4.trans s5).trans s6).trans s7).trans s8).trans s9).trans s10
    have t10 : Tin p 302 H10 := t3.same s310
    have b10 : But p H2 H10 := b3.after s310
    have gl : (goodsI ks).length ≤ 1000 := by
      unfold goodsI
      rw [List.length_map, List.length_range]
      omega
    refine s_par2L (ds := []) (es := []) l10 g10 (n_lst (ds := []) a_nil) (n_lst (ds := []) a_nil) fun F G H11 xs ys nF nG nFG s11 eF eG rF rG l11 g11 => ?_
    have g11 : EnvOk (cut (G :: F :: p :: O) H11) _ (gLw K ns p S ks nL (.dat (.list ((goodsI ks).map .int))) (.ptr F) (.ptr G) .unk .unk .unk .unk) := g11
    have t11 := t10.same s11
    have nFO : F ∉ p :: O := l10.no nF
    have nGO : G ∉ p :: O := l10.no nG
    have Fp : F ≠ p := fun z => nFO (by rw [z]; exact hp)
    have Gp : G ≠ p := fun z => nGO (by rw [z]; exact hp)
    have hp1 : p ∈ G :: F :: p :: O := by simp
    refine for_lstT (ψ := fun ms => ms.length ≤ 6) (T1 := 305) hp1 l11 g11 t11 (nlt_e (nlt_cat (ψ := fun ms => ms.length ≤ 3) (χ := fun ms => ms.length = 3) (et_mono (et_call (R := rPick) (es := [.ptr p, .dat (.list ((goodsI ks).map .int)), .dat (.int 3)]) (a_cons (e_var rfl) (a_cons (e_var rfl) (a_cons e_int a_nil))) ⟨goodsI ks, 3, rfl, by decide, by decide, gl, by decide, rfl, rfl⟩) fun e ⟨ms, z, _, hl⟩ => ⟨ms, z, hl⟩)
      (et_of (es_mono (NL.e (n_lst (ds := ([0, (ks.length : Int), (ks.length : Int) + 1] : List Int).map .int) (a_cons e_int (a_cons (lenk rfl) (a_cons (e_I0 (lenk rfl) e_int) a_nil))))) fun e z => ⟨[0, (ks.length : Int), (ks.length : Int) + 1], z, rfl⟩)) fun ms1 ms2 h1 h2 => ⟨by rw [List.length_append]; omega, by omega⟩)) fun ms H12 hm b12 t12 => ⟨fun i σ' H' => Bu [F, G] H12 H' ∧ Tin p 305 H' ∧ (∃ xs ys ds, H' F = some (.lst xs) ∧ H' G = some (.lst ys) ∧ RpAll (cut (G :: F :: p :: O) H') xs ds ∧ RpAll (cut (G :: F :: p :: O) H') ys ds ∧ ds.length = i ∧ ∀ d ∈ ds, okS 2 d) ∧ Live (G :: F :: p :: O) H' ∧
        EnvOk (cut (G :: F :: p :: O) H') σ' (gLw K ns p S ks nL (.dat (.list ((goodsI ks).map .int))) (.ptr F) (.ptr G) .unk .unk .unk .unk), ?_, ?_, ?_, ?_⟩
    · have c := b12.cut hp1
      exact ⟨Bu.refl _ _, t12, ⟨xs, ys, [], b12 F _ Fp eF, b12 G _ Gp eG, RpAll.mono c _ _ rF, RpAll.mono c _ _ rG, rfl, by simp⟩, l11.but b12 t12.obj, g11.mono c⟩
    · rintro i σ' H' _ ⟨b, _⟩
      exact b.cut (by simp)
    · intro i m σ' H' em ⟨b, t, ⟨xs, ys, ds, eF, eG, rF, rG, hd, ok⟩, l', g'⟩
      have hi := (List.getElem?_eq_some_iff.mp em).1
      have g1 := g'.set (.dat (.int m)) 12 (v := .int m)
      refine s_let (e := .dat (.list ((enB S nL m).map fun r : Nat => PyData.int (r : Int)))) l' g1 (NL.e (n_lcA (emb := fun i : Nat => .int (0 + (i : Int))) (qs := List.range (nL + 1)) (fun i => (wipeG _ [15]).set 15 (.dat (.int (0 + (i : Int))))) (fun r => decide (m ≤ (tot S r : Int))) (fun r : Nat => PyData.int (r : Int))
        (src_to (src_rng1 (n := (nL : Int) + 1) (a_cons (e_I0 (e_var rfl) e_int) a_nil) (by omega) (by omega)) (by rw [show ((nL : Int) + 1).toNat = nL + 1 by omega]; rfl)) (by rw [List.length_range]; omega) (fun r _ => tg_name 15) (by simp) (fun r hr => ?_) (fun r _ _ => e_to (e_var (i := 15) (e := .dat (.int (0 + (r : Int)))) rfl) (by rw [Int.zero_add])))) fun v13 H13 s13 l13 g13 => ?_
      · exact t_tst (e_B0 (f := fun i j => decide (i ≥ j)) (i := (tot S r : Int)) (j := m) (e_to (e_sumT (ns := ((List.range nL).map fun i => (lenL S i : Int)).take r) (e_slA (j := r) (e_to (e_var (i := 7) rfl) (by unfold cntD; rw [List.map_map]; rfl)) (e_to (e_var (i := 15) (e := .dat (.int (0 + (r : Int)))) rfl) (by rw [Int.zero_add])))) (by rw [tot_take S (by have := List.mem_range.mp hr; omega)])) (e_var rfl))
      have short : ds.length < 100000 := by omega
      refine s_app (to := tVar 10) (d := lsD (enB S nL m)) l13 g13 (by simp) (s13 _ _ eF) (RpAll.mono (cut_mono s13) _ _ rF) (e_var rfl) (e_call (ds := [lstD S, .int m]) (a_cons (e_var rfl) (a_cons (e_var rfl) a_nil)) ⟨S, lstD S, nL, m, rfl, wf, .inr rfl, il, least_en S nL m⟩) short fun H14 v14 b14 eF14 rF14 => ?_
      have c14 := b14.cut (O := G :: F :: p :: O) (by simp)
      have l14 := l13.but b14 ⟨_, eF14, fun _ z => nomatch z⟩
      have g14 := g13.mono c14
      have eG14 := b14 G _ (fun z => nFG z.symm) (s13 _ _ eG)
      refine s_app (to := tVar 11) (d := lsD (enB S nL m)) l14 g14 (by simp) eG14 (RpAll.mono c14 _ _ (RpAll.mono (cut_mono s13) _ _ rG)) (e_var rfl) (es_if (b := !((enB S nL m).map fun r : Nat => PyData.int (r : Int)).isEmpty) (t_tst (e_neNil (e_var rfl) (by
          have := shaped_ints ((enB S nL m).map fun r : Nat => (r : Int))
          rw [List.map_map] at this
          exact this))) (fun z => ?_) (fun z => ?_)) short fun H15 v15 b15 eG15 rG15 => ?_
      · cases e : enB S nL m with
        | nil => rw [e] at z; cases z
        | cons r rs => exact e_ix (ds := .int (r : Int) :: rs.map fun r : Nat => PyData.int (r : Int)) (d := .list (.int (r : Int) :: rs.map fun r : Nat => PyData.int (r : Int))) (e_var (i := 13) rfl) e_int rfl (atI_nat (j := 0) rfl)
      · cases e : enB S nL m with
        | nil => exact e_non
        | cons r rs => rw [e] at z; cases z
      have c15 := b15.cut (O := G :: F :: p :: O) (by simp)
      have l15 := l14.but b15 ⟨_, eG15, fun _ z => nomatch z⟩
      have bu : Bu [F, G] H' H15 := (((Bu.refl [F, G] H').same s13).but b14 (by simp)).but b15 (by simp)
      refine ⟨b.trans bu, t.bu bu (by simp only [List.mem_cons, List.not_mem_nil, or_false, not_or]; exact ⟨fun z => Fp z.symm, fun z => Gp z.symm⟩), ⟨_, _, ds ++ [lsD (enB S nL m)], b15 F _ nFG eF14, eG15, RpAll.mono c15 _ _ rF14, rG15, by rw [List.length_append, hd]; rfl, fun d h => ?_⟩, l15, ((g14.mono c15).blur 12).blur 13⟩
      rcases List.mem_append.mp h with z | z
      · exact ok d z
      · rw [List.mem_singleton.mp z]; exact ok_ls 1 _
    · rintro σ' H' ⟨b, t, ⟨xs, ys, ds, eF, eG, rF, rG, hd, ok⟩, l', g'⟩
      have hsub : ∀ a ∈ p :: O, a ∈ G :: F :: p :: O := fun a h => List.mem_cons_of_mem _ (List.mem_cons_of_mem _ h)
      have g1 := g'.openL (O' := p :: O) (i := 10) rfl hsub nFO eF rF
      have g2 := g1.openL (O' := p :: O) (i := 11) rfl (fun _ h => h) nGO eG (RpAll.mono (cut_sub hsub) _ _ rG)
      have l2 := l'.sub hsub
      refine s_no l2 g2 (t_to (t_not (t_B (e_call (ds := [.list ds, .list ds]) (a_cons (e_var rfl) (a_cons (e_var rfl) a_nil)) ⟨_, rfl, .inr ⟨ds, .inl rfl, by omega, ok⟩, rfl⟩))) rfl) fun H17 s17 l17 g17 => ?_
      refine s_let (e := .dat (secD (highS S))) l17 g17 (e_to (e_tuple (NL.e (n_lcB (emb := colD) (qs := S) (fun c => (wipeG _ [18]).set 18 (.dat (colD c))) (fun c => colD (c ++ [0])) (src_tup (e_var rfl)) (by omega) (fun c _ => tg_name 18) (by simp) (fun c hc => e_to (e_catT (ds := c.map .int) (es := [.int 0]) (e_var rfl) (e_tup (ds := [.int 0]) (a_cons e_int a_nil)) (by rw [List.length_map, wf.same c hc]; show _ + 1 ≤ _; omega)) (by
          show En.dat (.tuple (c.map .int ++ [.int 0])) = .dat (.tuple ((c ++ [0]).map .int))
          rw [List.map_append]
          rfl)))) rfl) (by
          show En.dat (.tuple (S.map fun c => colD (c ++ [0]))) = .dat (.tuple ((S.map (· ++ [0])).map colD))
          rw [List.map_map]
          rfl)) fun v18 H18 s18 l18 g18 => ?_
      have t18 := t.same (s17.trans s18)
      refine s_letT hp l18 g18 t18 (et_I0 (φ := (· = 1)) (ψ := fun r => 0 ≤ r ∧ r < 3) (χ := fun _ => True) (et_int e_int rfl) (draw (n := 3) rfl e_int (by decide) (by decide) (by decide)) fun _ _ _ _ => trivial) fun v19 H19 e ⟨k, z, _⟩ b19 t19 l19 g19 => ?_
      subst z
      have hw := high_wf wf h5
      have ok2 : okS 3 (lbyD S k) := ok_cells 1 _ (Nat.le_trans (sel_length wf _) (by decide))
      refine (b_par (Φ := (· = .dat (.bool true))) (e1 := .dat (lbyD S k)) (e2 := .dat (lbyD (highS S) k)) (a_cons (e_call (ds := [secD S, .int k]) (a_cons (e_var rfl) (a_cons (e_var rfl) a_nil)) ⟨S, _, k, rfl, wf, .inl rfl, rfl⟩) (a_cons (e_call (ds := [secD (highS S), .int k]) (a_cons (e_var rfl) (a_cons (e_var rfl) a_nil)) ⟨highS S, _, k, rfl, hw, .inl rfl, rfl⟩) a_nil))
        (b_ret (e_call (ds := [lbyD S k, lbyD S k]) (a_cons (e_tuple (NL.e (nl_to (n_lcA (emb := cellD) (qs := lbyC (highS S) k) (fun c => (wipeG _ [18]).set 18 (.dat (cellD c))) (fun c => decide (c.2 < (ht S : Int))) cellD (src_tup (e_var (i := 17) rfl)) (Nat.le_trans (sel_length hw _) (by decide)) (fun c _ => tg_name 18) (by simp) (fun c hc => t_tst (e_B0 (e_c1' (e_var rfl)) (e_var rfl))) (fun c _ _ => e_var rfl)) (by
          unfold lbyC
          rw [high_laid wf k]))) rfl) (a_cons (e_var rfl) a_nil)) ⟨_, rfl, ok2, rfl⟩))) _ H19 _ _ l19 g19 fun v20 H20 e z s20 r20 => ?_
      refine q v20 H20 e z (fun x o ex => ?_) (r20.mono (cut_sub fun a h => List.mem_cons_of_mem _ h))
      have xp : x ≠ p := ne_of_none ex (s1.free np)
      have x10 := b10 x o xp (s2 _ _ (s1 _ _ ex))
      have x12 := b12 x o xp (s11 _ _ x10)
      have x13 := b x o (by
        simp only [List.mem_cons, List.not_mem_nil, or_false, not_or]
        exact ⟨ne_of_none x10 nF, ne_of_none x10 nG⟩) x12
      exact s20 _ _ (b19 x o xp (s18 _ _ (s17 _ _ x13)))
end KQ
/-! P1 -/
set_option Elab.async false
set_option linter.all false
set_option maxRecDepth 100000
set_option maxHeartbeats 4000000
namespace KP
open PySem L2 KV KR KS KC KX
variable {P : Program} {w : World} {K : PySem.W.Frag} {mg : Str → Option Value} {base : Heap}
/-! ### is_number, is_from, is_row -/
abbrev NNis_number : List Str := ["thing"]
theorem scis_number : FnScope NNis_number ["thing"] (defScope (KH.top 3)) := ⟨rfl, rfl, rfl, by decide +kernel, rfl, by decide +kernel, by decide +kernel⟩
theorem cal_is_number (B : Blt mg) (D : Df K mg "is_number" 3) : Cal P w K mg base "is_number" ["thing"] 1 (spE (rD 1 fun ds d => ∃ i, ds = [.int i] ∧ d = .bool true)) :=
  cal_pure D scis_number (fun _ _ _ _ _ _ us hl => match us, hl with | [_], _ => rfl) (rD_len) fun f cdv A outer s H es Φ hr h => by
    obtain ⟨ds, d, hn, rfl, ⟨i, rfl, rfl⟩, rfl⟩ := h
    refine ⟨_, (pss_one (ps_ret (pe_and (pe_callB (call_isiK (K := K) rfl) (by rfl) B.isinstance bt_isinstance (pa_cons (pv 0) (pa_cons (pe_bltn (v := .ty "int") (by rfl) B.int bt_int rfl) pa_nil))) (pe_one (pe_not (pe_callB (call_isiK (K := K) rfl) (by rfl) B.isinstance bt_isinstance (pa_cons (pv 0) (pa_cons (pe_bltn (v := .ty "bool") (by rfl) B.bool bt_bool rfl) pa_nil)))))))), ?_⟩
    exact b_ret (e_andV (e_isi (e_var rfl) kt_int_int) (fun _ => e_to (e_notV (e_isi (e_var rfl) kt_int_bool)) rfl) (fun z => nomatch z))
abbrev NNis_from : List Str := ["thing", "least"]
theorem scis_from : FnScope NNis_from ["thing", "least"] (defScope (KH.top 4)) := ⟨rfl, rfl, rfl, by decide +kernel, rfl, by decide +kernel, by decide +kernel⟩
theorem cal_is_from (B : Blt mg) (D : Df K mg "is_from" 4) {k : Nat} (Cis_number : Cal P w K mg base "is_number" ["thing"] 1 (spE (rD 1 fun ds d => ∃ i, ds = [.int i] ∧ d = .bool true))) :
    Cal P w K mg base "is_from" ["thing", "least"] 2 (spE (rD 2 fun ds d => ∃ i j, ds = [.int i, .int j] ∧ d = .bool (decide (j ≤ i)))) :=
  cal_pure D scis_from (fun _ _ _ _ _ _ us hl => match us, hl with | [_, _], _ => rfl) (rD_len) fun f cdv A outer s H es Φ hr h => by
    obtain ⟨ds, d, hn, rfl, ⟨i, j, rfl, rfl⟩, rfl⟩ := h
    refine ⟨_, (pss_one (ps_ret (pe_and (pe_cal Cis_number hr (by rfl) (pa_cons (pv 0) pa_nil)) (pe_one (pe_cmpR op_ge (pv 0) (pv 1) (nomark _)))))), ?_⟩
    exact b_ret (e_andV (e_call (a_cons (e_var rfl) a_nil) ⟨i, rfl, rfl⟩) (fun _ => e_B0 (e_var rfl) (e_var rfl)) (fun z => nomatch z))
abbrev NNis_row : List Str := ["thing", "length"]
theorem scis_row : FnScope NNis_row ["thing", "length"] (defScope (KH.top 5)) := ⟨rfl, rfl, rfl, by decide +kernel, rfl, by decide +kernel, by decide +kernel⟩
theorem cal_is_row (B : Blt mg) (D : Df K mg "is_row" 5) : Cal P w K mg base "is_row" ["thing", "length"] 1 (spE (rD 2 fun ds d => ∃ es n, ds = [.tuple es, .int n] ∧ d = .bool (decide ((es.length : Int) = n)))) :=
  cal_pure D scis_row (fun _ _ _ _ _ _ us hl => match us, hl with | [_, _], _ => rfl) (rD_len) fun f cdv A outer s H es Φ hr h => by
    obtain ⟨ds, d, hn, rfl, ⟨es, n, rfl, rfl⟩, rfl⟩ := h
    refine ⟨_, (pss_one (ps_ret (pe_and (pe_callB (call_isiK (K := K) rfl) (by rfl) B.isinstance bt_isinstance (pa_cons (pv 0) (pa_cons (pe_bltn (v := .ty "tuple") (by rfl) B.tuple bt_tuple rfl) pa_nil))) (pe_one (pe_cmpR op_eq (pe_callB (call_len_seqK (K := K) rfl) (by rfl) B.len bt_len (pa_cons (pv 0) pa_nil)) (pv 1) (nomark _)))))), ?_⟩
    refine b_ret (e_andV (e_isi (e_var rfl) kt_tuple_tuple) (fun _ => ?_) (fun z => nomatch z))
    refine e_to (e_eq (e_len (e_var rfl) rfl) (e_var rfl)) ?_
    rw [dec_int, Bool.beq_eq_decide_eq]
end KP
/-! Q13 -/
set_option Elab.async false
set_option linter.all false
set_option maxRecDepth 100000
set_option maxHeartbeats 4000000
namespace KZ
open PySem L2 KV KR KS KC KD KX KP KQ
variable {P : Program} {w : World} {K : PySem.W.Frag} {mg : Str → Option Value} {base h : Heap}
/-- a def of the top, by its place there and in the list -/
theorem df (X : K.In h) (G : h.Ns mainGlobals mg) (c : He.SaysD KH.fa KH.fn K) (x : Str) (i j : Nat) (h1 : KH.fn[j]? = some (KH.dd x i)) (h2 : KH.fa[j]? = some (.glo x)) : Df K mg x i := by
  obtain ⟨fd, F⟩ := c.def_ j h1
  exact ⟨_, fd, F, He.glo_ok X G (c.fact j h2)⟩
theorem blt (X : K.In h) (G : h.Ns mainGlobals mg) (c : He.SaysD KH.fa KH.fn K) : Blt mg where
  abs := He.free_ok X G (c.fact 50 rfl)
  all := He.free_ok X G (c.fact 51 rfl)
  any := He.free_ok X G (c.fact 52 rfl)
  bool := He.free_ok X G (c.fact 53 rfl)
  dict := He.free_ok X G (c.fact 54 rfl)
  enumerate := He.free_ok X G (c.fact 55 rfl)
  int := He.free_ok X G (c.fact 56 rfl)
  isinstance := He.free_ok X G (c.fact 57 rfl)
  len := He.free_ok X G (c.fact 58 rfl)
  list := He.free_ok X G (c.fact 59 rfl)
  max := He.free_ok X G (c.fact 60 rfl)
  min := He.free_ok X G (c.fact 61 rfl)
  range := He.free_ok X G (c.fact 62 rfl)
  set := He.free_ok X G (c.fact 63 rfl)
  sorted := He.free_ok X G (c.fact 64 rfl)
  str := He.free_ok X G (c.fact 65 rfl)
  sum := He.free_ok X G (c.fact 66 rfl)
  tuple := He.free_ok X G (c.fact 67 rfl)
  zip := He.free_ok X G (c.fact 68 rfl)
  PAIR := He.int_ok X G (c.fact 69 rfl)
  AIR := He.int_ok X G (c.fact 70 rfl)
theorem all (X : K.In h) (G : h.Ns mainGlobals mg) (c : He.SaysD KH.fa KH.fn K) : Cal P w K mg base "law" ["_law_script"] 12 (spLaw K) := by
  have B := blt X G c
  have C_law_vault := cal_law_vault (P := P) (w := w) (base := base) B (df X G c "_law_vault" 34 26 rfl rfl)
  have C_law_shut := cal_law_shut (P := P) (w := w) (base := base) B (df X G c "_law_shut" 35 27 rfl rfl)
  have C_law_ridge := cal_law_ridge (P := P) (w := w) (base := base) B (df X G c "_law_ridge" 36 28 rfl rfl)
  have C_law_cave := cal_law_cave (P := P) (w := w) (base := base) B (df X G c "_law_cave" 55 45 rfl rfl)
  have Ctupled := cal_tupled (P := P) (w := w) (base := base) B (df X G c "tupled" 6 3 rfl rfl)
  have Cair_cells := cal_air_cells (P := P) (w := w) (base := base) B (df X G c "air_cells" 17 10 rfl rfl)
  have Cis_row := cal_is_row (P := P) (w := w) (base := base) B (df X G c "is_row" 5 2 rfl rfl)
  have Cis_number := cal_is_number (P := P) (w := w) (base := base) B (df X G c "is_number" 3 0 rfl rfl)
  have Cis_from := cal_is_from (P := P) (w := w) (base := base) (k := 0) B (df X G c "is_from" 4 1 rfl rfl) Cis_number
  have Cis_cell := cal_is_cell (P := P) (w := w) (base := base) B (df X G c "is_cell" 10 5 rfl rfl) Cis_row Cis_from
  have Csome_cell := cal_some_cell (P := P) (w := w) (base := base) B (df X G c "some_cell" 11 6 rfl rfl) Ctupled Cis_cell
  have Cnear_cells := cal_near_cells (P := P) (w := w) (base := base) B (df X G c "near_cells" 12 7 rfl rfl)
  have Cbeside := cal_beside (P := P) (w := w) (base := base) B (df X G c "beside" 13 8 rfl rfl) Csome_cell Cnear_cells
  have Cnear_stuff := cal_near_stuff (P := P) (w := w) (base := base) B (df X G c "near_stuff" 18 11 rfl rfl) Cbeside
  have Csteps_of := cal_steps_of (P := P) (w := w) (base := base) B (df X G c "steps_of" 19 12 rfl rfl) Cair_cells Cnear_stuff Cbeside
  have Cheights_of := cal_heights_of (P := P) (w := w) (base := base) B (df X G c "heights_of" 16 9 rfl rfl)
  have Cnecks_of := cal_necks_of (P := P) (w := w) (base := base) B (df X G c "necks_of" 20 13 rfl rfl) Cheights_of Cbeside
  have Crounds_of := cal_rounds_of (P := P) (w := w) (base := base) B (df X G c "rounds_of" 21 14 rfl rfl) Csteps_of Cnecks_of
  have Claid_counts := cal_laid_counts (P := P) (w := w) (base := base) B (df X G c "laid_counts" 24 17 rfl rfl) Ctupled Crounds_of
  have Cleast_rounds := cal_least_rounds (P := P) (w := w) (base := base) B (df X G c "least_rounds" 25 18 rfl rfl) Claid_counts
  have Cnever_laid := cal_never_laid (P := P) (w := w) (base := base) B (df X G c "never_laid" 22 15 rfl rfl) Ctupled Crounds_of Cair_cells
  have C_law_same := cal_law_same (P := P) (w := w) (base := base) B (df X G c "_law_same" 33 25 rfl rfl)
  have C_law_by_hand_right := cal_law_by_hand_right (P := P) (w := w) (base := base) B (df X G c "_law_by_hand_right" 58 48 rfl rfl) C_law_vault C_law_shut C_law_ridge C_law_cave Claid_counts Cleast_rounds Cnever_laid C_law_same
  have C_law_cells := cal_law_cells (P := P) (w := w) (base := base) B (df X G c "_law_cells" 29 21 rfl rfl)
  have C_law_box := cal_law_box (P := P) (w := w) (base := base) B (df X G c "_law_box" 27 19 rfl rfl)
  have C_law_take := cal_law_take (P := P) (w := w) (base := base) B (df X G c "_law_take" 28 20 rfl rfl)
  have C_law_of := cal_law_of (P := P) (w := w) (base := base) B (df X G c "_law_of" 30 22 rfl rfl) C_law_take
  have C_law_roofs := cal_law_roofs (P := P) (w := w) (base := base) B (df X G c "_law_roofs" 53 43 rfl rfl) C_law_take
  have C_law_at := cal_law_at (P := P) (w := w) (base := base) B (df X G c "_law_at" 37 29 rfl rfl)
  have C_law_round_about := cal_law_round_about (P := P) (w := w) (base := base) B (df X G c "_law_round_about" 38 30 rfl rfl)
  have C_law_grown := cal_law_grown (P := P) (w := w) (base := base) B (df X G c "_law_grown" 40 32 rfl rfl) C_law_at C_law_round_about
  have C_law_held := cal_law_held (P := P) (w := w) (base := base) B (df X G c "_law_held" 42 34 rfl rfl) C_law_grown
  have C_law_put := cal_law_put (P := P) (w := w) (base := base) B (df X G c "_law_put" 43 35 rfl rfl)
  have C_law_all_spots := cal_law_all_spots (P := P) (w := w) (base := base) B (df X G c "_law_all_spots" 39 31 rfl rfl)
  have C_law_washed := cal_law_washed (P := P) (w := w) (base := base) B (df X G c "_law_washed" 44 36 rfl rfl) C_law_held C_law_put C_law_all_spots
  have C_law_pile := cal_law_pile (P := P) (w := w) (base := base) B (df X G c "_law_pile" 54 44 rfl rfl) C_law_take C_law_of C_law_roofs C_law_washed
  have C_law_lists := cal_law_lists (P := P) (w := w) (base := base) B (df X G c "_law_lists" 32 24 rfl rfl)
  have C_law_many := cal_law_many (P := P) (w := w) (base := base) B (df X G c "_law_many" 50 40 rfl rfl)
  have C_law_tops := cal_law_tops (P := P) (w := w) (base := base) B (df X G c "_law_tops" 45 37 rfl rfl)
  have C_law_opened := cal_law_opened (P := P) (w := w) (base := base) B (df X G c "_law_opened" 41 33 rfl rfl) C_law_grown
  have C_law_growth := cal_law_growth (P := P) (w := w) (base := base) B (df X G c "_law_growth" 47 38 rfl rfl) C_law_tops C_law_opened C_law_round_about C_law_at
  have C_law_first_half := cal_law_first_half (P := P) (w := w) (base := base) B (df X G c "_law_first_half" 49 39 rfl rfl) C_law_tops C_law_growth C_law_put
  have C_law_rounds := cal_law_rounds (P := P) (w := w) (base := base) B (df X G c "_law_rounds" 51 41 rfl rfl) C_law_many C_law_first_half C_law_washed
  have C_law_done := cal_law_done (P := P) (w := w) (base := base) B (df X G c "_law_done" 52 42 rfl rfl) C_law_rounds
  have C_law_lain := cal_law_lain (P := P) (w := w) (base := base) B (df X G c "_law_lain" 56 46 rfl rfl) C_law_done C_law_all_spots
  have C_law_airs := cal_law_airs (P := P) (w := w) (base := base) B (df X G c "_law_airs" 57 47 rfl rfl) C_law_all_spots
  have C_law_pick := cal_law_pick (P := P) (w := w) (base := base) B (df X G c "_law_pick" 31 23 rfl rfl) C_law_take
  have Cset_of := cal_set_of (P := P) (w := w) (base := base) B (df X G c "set_of" 7 4 rfl rfl)
  have Claid_by := cal_laid_by (P := P) (w := w) (base := base) B (df X G c "laid_by" 23 16 rfl rfl) Ctupled Crounds_of Cset_of
  have Claw := cal_law (P := P) (w := w) (base := base) B (df X G c "law" 59 49 rfl rfl) C_law_by_hand_right C_law_cells C_law_box C_law_take C_law_pile C_law_lists C_law_lain C_law_airs C_law_same C_law_pick Claid_counts Cleast_rounds Cnever_laid Claid_by
  exact Claw
theorem says (H : Hp) (a : Addr) (ns : List Int) (hl : ns.length ≤ 63) (hS : SqL K H a (ns.map V.int)) : spLaw K [.ref a] H (fun v _ => v = .bl true) fun _ _ _ => False := by
  refine ⟨[], [.scr K ns], (· = .dat (.bool true)), (fun p hp => by cases hp), .cons (.scr ?_) .nil, ⟨ns, rfl, hl, rfl⟩, fun v H2 e z _ r => ?_⟩
  · have e : cut [] H = H := funext fun a => by
      unfold cut
      rw [if_neg (by simp)]
    rw [e]
    exact hS
  · subst z
    cases r with | dat r =>
    cases r with | bl => rfl
theorem facts {fa : Addr} (X : K.In h) (G : h.Ns mainGlobals mg) (hfa : mg ("law" : Str) = some (.ref fa)) (c : He.SaysD KH.fa KH.fn K) :
    ∃ fd : FuncData, (∀ (s : Shared) (v : Value), BindsTo s fd ⟨[v], []⟩ [("_law_script", v)]) ∧ ∀ base : Heap, K.In base → base.Ns mainGlobals mg → FnOk P w K mg base CX0 12 fa fd ["_law_script"] (spLaw K) := by
  obtain ⟨fd, F⟩ := c.def_ 49 (d := KH.dd "law" 59) rfl
  have e := hfa.symm.trans (He.glo_ok X G (c.fact 49 (f := .glo "law") rfl))
  cases e
  have b := FunD.bindsA (ps := ["_law_script"]) F fun _ _ _ _ _ _ us hl => match us, hl with | [_], _ => rfl
  refine ⟨fd, fun s v => b s [v] rfl, fun base _ _ => ?_⟩
  obtain ⟨f', fd', ok, m', _, _, oc', od', osl', lk'⟩ := (all X G c : Cal P w K mg base "law" ["_law_script"] 12 (spLaw K)).ex
  obtain ⟨oc, od, dV, kV, doc, pm, an, cdv, ct, osl, _, lk, _⟩ := F.ex
  have e := hfa.symm.trans m'
  cases e
  have e := lk.symm.trans lk'
  cases e
  exact ok
end KZ
open PySem PySem.W PySem.Calls PyProof.Rows
theorem PySem.Challenge.cw_laidandeaten_k05_whole_how_many_are_laid_holds : PySem.Challenge.rw_laidandeaten_k05_whole_how_many_are_laid.Holds := by
  w_on; o_law
  refine HandSHeadRun.head_any (r := OpenLaw.row PySem.Challenge.rw_laidandeaten_k05_whole_how_many_are_laid) (q := view (OpenLaw.row PySem.Challenge.rw_laidandeaten_k05_whole_how_many_are_laid).prog [59]) (H := KH.hk) (ob := KH.ob) (M := 4000) (loose := KH.loose) (d := HandSHeadRun.topDef (OpenLaw.row PySem.Challenge.rw_laidandeaten_k05_whole_how_many_are_laid).prog 59) (kwd := []) KH.ob_eq
    (by kernel_rfl) (fun s => by kernel_rfl) KH.run (by kernel_rfl) (by kernel_rfl) (by kernel_rfl) (by rfl) (by first | assumption | decide +kernel) (by decide +kernel) ⟨rfl, rfl, rfl, rfl, rfl, by decide +kernel⟩ ?hw ?hc
  case hw => w_witness2
  case hc =>
    refine L2.walk_ofE (l := PySem.Challenge.rw_laidandeaten_k05_whole_how_many_are_laid) (n := 63) (k := 12) (x := "_law_script") (CX := L2.CX0) rfl (by decide) (by kernel_rfl) ⟨rfl, by decide, by decide⟩ ?F (fun _ _ _ _ z => z)
    intro w mg fa h Y G hmg0
    obtain ⟨K, KX, c⟩ := Y
    have hmg : mg ("law" : PySem.Str) = some (.ref fa) := by
      have e : (HandSHeadRun.topDef (OpenLaw.row PySem.Challenge.rw_laidandeaten_k05_whole_how_many_are_laid).prog 59).name = ("law" : PySem.Str) := by kernel_rfl
      rw [← e]
      exact hmg0
    obtain ⟨fd, hb, hF⟩ := KZ.facts (P := (PySem.Challenge.rw_laidandeaten_k05_whole_how_many_are_laid).prog) (w := w) KX G hmg c
    exact ⟨K, fd, KQ.spLaw K, KX, hb, fun H a ns hl _ hS => KZ.says H a ns hl hS, hF⟩
