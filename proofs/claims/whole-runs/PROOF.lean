import PyProof.Rows.All
import Wide.All
import OpenK.AllK
import Wide.FinOn
import HandS.ForMost
import HandS.Defaults
import HandS.HeadHook2
import PySem.Challenge.RW_barredcrossings_k63_whole_runs
import HandS.Deep
import HandS.Style
import HandS.SetFor
import HandS.TupAny
import HandS.Zip
import PyProof.P3In
import HandS.Conv
import KE.SortData
import KE.KDictSum
import KE.DataFind
import KE.DataMinMax
import KE.KRevSl
import KE.GoesMore
import KE.GoesEnum
import HandS.DictComp
import HandS.Codes
import HandS.IsInst
import HandS.TupLe
import HandS.TupLen
import HandS.Flow
import HandS.Walk
import KE.KStateDown
import Lean
import HandS.Head0
import HandS.Head1
import HandS.Head2
import HandS.HeadEnd
import HandS.HeadHook1
set_option Elab.async false
set_option linter.all false
set_option maxRecDepth 100000
set_option maxHeartbeats 0
/-! The text by places. -/
namespace BC
open PySem PySem.Spec PyProof.Rows L2
def top (i : Nat) : Stmt := PySem.Challenge.pw_barredcrossings_k63_whole_runs.main.body.getD i (.Pass ⟨0, 0, 0, 0⟩)
abbrev FnP (K : PySem.W.Frag) (x : Str) (st : Stmt) (f : Addr) (fd : FuncData) : Prop := FunD K x x (defArgs st) (defBody st) (defScope st) [] [] f fd
abbrev s_is_number : Stmt := top 3
abbrev s_tupled : Stmt := top 4
abbrev s_is_end : Stmt := top 8
abbrev s_houses_of : Stmt := top 9
abbrev s_next_ends : Stmt := top 10
abbrev s_behind_all : Stmt := top 11
abbrev s_is_run : Stmt := top 12
abbrev s_ends_in : Stmt := top 13
abbrev s_letters_in : Stmt := top 14
abbrev s_check_letters : Stmt := top 15
abbrev s_house_of : Stmt := top 16
abbrev s_ahead : Stmt := top 17
abbrev s_ends_between : Stmt := top 18
abbrev s_least_row : Stmt := top 19
abbrev s_fits_row : Stmt := top 20
abbrev s_time_row : Stmt := top 21
abbrev s_is_time_row : Stmt := top 22
abbrev s_overtaken : Stmt := top 23
abbrev s_is_causal : Stmt := top 24
abbrev s_links_of : Stmt := top 25
abbrev s_letter_row : Stmt := top 26
abbrev s_is_letter_row : Stmt := top 27
abbrev s_is_one_by_one : Stmt := top 28
abbrev s_kind_of : Stmt := top 29
abbrev s_steps_to : Stmt := top 30
abbrev s_crown : Stmt := top 31
abbrev s_is_crown : Stmt := top 32
abbrev s_w_box : Stmt := top 34
abbrev s_w_take : Stmt := top 35
abbrev s_w_cells : Stmt := top 36
abbrev s_w_of : Stmt := top 37
abbrev s_w_same : Stmt := top 38
abbrev s_w_mixed : Stmt := top 39
abbrev s_w_run_of : Stmt := top 40
abbrev s_w_ends : Stmt := top 41
abbrev s_w_mail : Stmt := top 42
abbrev s_w_mails_by_hand : Stmt := top 43
abbrev s_w_turned : Stmt := top 44
abbrev s_w_less : Stmt := top 45
abbrev s_w_played : Stmt := top 46
abbrev s_w_fits : Stmt := top 47
abbrev s_w_by_hand_right : Stmt := top 48
abbrev s_w_right : Stmt := top 49
abbrev s_law : Stmt := top 50
end BC
namespace BC
abbrev En := Int × Bool
abbrev Run := List (List En)

def flip (e : En) : En := (e.1, !e.2)
theorem flip_flip (e : En) : flip (flip e) = e := by
  obtain ⟨l, b⟩ := e; simp [flip]
def ends (R : Run) : List En := R.flatten
theorem mem_ends {R : Run} {e : En} : e ∈ ends R ↔ ∃ row ∈ R, e ∈ row := by
  unfold ends; exact List.mem_flatten

/-- x right ahead of y in a row -/
def Nb (row : List En) (x y : En) : Prop := ∃ p q, row = p ++ x :: y :: q
def Edge (R : Run) (x y : En) : Prop := (∃ row ∈ R, Nb row x y) ∨ (x ∈ ends R ∧ x.2 = true ∧ y = (x.1, false))
inductive Reach (R : Run) : En → En → Prop
  | one {x y : En} : Edge R x y → Reach R x y
  | cons {x y z : En} : Edge R x y → Reach R y z → Reach R x z
theorem Reach.trans {R : Run} {x y z : En} (a : Reach R x y) (b : Reach R y z) : Reach R x z := by
  induction a with
  | one e => exact .cons e b
  | cons e _ ih => exact .cons e (ih b)
theorem Reach.first {R : Run} {x z : En} (a : Reach R x z) : ∃ y, Edge R x y ∧ (y = z ∨ Reach R y z) := by
  cases a with
  | one e => exact ⟨z, e, .inl rfl⟩
  | cons e r => exact ⟨_, e, .inr r⟩
theorem Reach.last {R : Run} {x z : En} (a : Reach R x z) : ∃ y, Edge R y z ∧ (x = y ∨ Reach R x y) := by
  induction a with
  | one e => exact ⟨_, e, .inl rfl⟩
  | cons e r ih =>
    obtain ⟨y, e1, h⟩ := ih
    refine ⟨y, e1, .inr ?_⟩
    rcases h with h | h
    · subst h; exact .one e
    · exact .cons e h

structure Ok (R : Run) : Prop where
  nd : (ends R).Nodup
  both : ∀ e ∈ ends R, flip e ∈ ends R
  apart : ∀ row ∈ R, ∀ e ∈ row, flip e ∉ row
  nn : ∀ e ∈ ends R, 0 ≤ e.1
  time : ∃ t : En → Nat, (∀ row ∈ R, row.Pairwise fun a b => t a < t b) ∧ ∀ l, (l, true) ∈ ends R → t (l, true) < t (l, false)

theorem Nb.mem {row : List En} {x y : En} (h : Nb row x y) : x ∈ row ∧ y ∈ row := by
  obtain ⟨p, q, rfl⟩ := h
  simp
theorem Edge.mem {R : Run} (hb : ∀ e ∈ ends R, flip e ∈ ends R) {x y : En} (h : Edge R x y) : x ∈ ends R ∧ y ∈ ends R := by
  rcases h with ⟨row, hr, h⟩ | ⟨h1, h2, h3⟩
  · exact ⟨mem_ends.mpr ⟨row, hr, h.mem.1⟩, mem_ends.mpr ⟨row, hr, h.mem.2⟩⟩
  · refine ⟨h1, ?_⟩
    have := hb x h1
    subst h3
    unfold flip at this
    rw [h2] at this
    exact this
theorem Reach.mem {R : Run} (hb : ∀ e ∈ ends R, flip e ∈ ends R) {x y : En} (h : Reach R x y) : x ∈ ends R ∧ y ∈ ends R := by
  induction h with
  | one e => exact e.mem hb
  | cons e _ ih => exact ⟨(e.mem hb).1, ih.2⟩
theorem Edge.time {R : Run} {t : En → Nat} (h1 : ∀ row ∈ R, row.Pairwise fun a b => t a < t b) (h2 : ∀ l, (l, true) ∈ ends R → t (l, true) < t (l, false)) {x y : En} (h : Edge R x y) : t x < t y := by
  rcases h with ⟨row, hr, p, q, rfl⟩ | ⟨hx, hs, rfl⟩
  · have := h1 _ hr
    rw [List.pairwise_append] at this
    have h := this.2.1
    rw [List.pairwise_cons] at h
    exact h.1 y (by simp)
  · have e : x = (x.1, true) := by rw [← hs]
    rw [e] at hx ⊢
    exact h2 _ hx
theorem Reach.time {R : Run} {t : En → Nat} (h1 : ∀ row ∈ R, row.Pairwise fun a b => t a < t b) (h2 : ∀ l, (l, true) ∈ ends R → t (l, true) < t (l, false)) {x y : En} (h : Reach R x y) : t x < t y := by
  induction h with
  | one e => exact e.time h1 h2
  | cons e _ ih => exact Nat.lt_trans (e.time h1 h2) ih
theorem Ok.irr {R : Run} (o : Ok R) {x : En} (h : Reach R x x) : False := by
  obtain ⟨t, h1, h2⟩ := o.time
  exact Nat.lt_irrefl _ (h.time h1 h2)
theorem Ok.asym {R : Run} (o : Ok R) {x y : En} (h : Reach R x y) (h' : Reach R y x) : False := o.irr (h.trans h')

theorem pw_append_right {R : Run} : ∀ (row p : List En), (p ++ row) ∈ R → row.Pairwise (Reach R)
  | [], _, _ => .nil
  | [x], _, _ => by simp
  | x :: y :: r, p, h => by
    have ih := pw_append_right (y :: r) (p ++ [x]) (by simpa using h)
    have e : Edge R x y := .inl ⟨_, h, p, r, rfl⟩
    refine List.pairwise_cons.mpr ⟨fun z hz => ?_, ih⟩
    rcases List.mem_cons.mp hz with rfl | hz
    · exact .one e
    · exact .cons e ((List.pairwise_cons.mp ih).1 z hz)
theorem row_reach {R : Run} {row : List En} (h : row ∈ R) : row.Pairwise (Reach R) := pw_append_right row [] (by simpa using h)
theorem sr_reach {R : Run} {l : Int} (h : (l, true) ∈ ends R) : Reach R (l, true) (l, false) := .one (.inr ⟨h, rfl, rfl⟩)
/-- (x, s) is ahead of what any END of x is ahead of, or it -/
theorem from_s {R : Run} (o : Ok R) {l : Int} {b : Bool} {z : En} (h : Reach R (l, b) z) : Reach R (l, true) z := by
  cases b with
  | true => exact h
  | false =>
    have : (l, true) ∈ ends R := o.both _ (h.mem o.both).1
    exact (sr_reach this).trans h
theorem to_r {R : Run} (o : Ok R) {l : Int} {b : Bool} {z : En} (h : Reach R z (l, b)) : Reach R z (l, false) := by
  cases b with
  | false => exact h
  | true => exact h.trans (sr_reach (h.mem o.both).2)

/-! ### turned about -/
def turned (R : Run) : Run := R.map fun row => row.reverse.map flip
theorem mem_turned {R : Run} {e : En} : e ∈ ends (turned R) ↔ flip e ∈ ends R := by
  rw [mem_ends, mem_ends]
  constructor
  · rintro ⟨row, h, he⟩
    unfold turned at h
    obtain ⟨row0, h0, rfl⟩ := List.mem_map.mp h
    obtain ⟨f, hf, rfl⟩ := List.mem_map.mp he
    exact ⟨row0, h0, by rw [flip_flip]; exact List.mem_reverse.mp hf⟩
  · rintro ⟨row, h, he⟩
    exact ⟨_, List.mem_map_of_mem h, List.mem_map.mpr ⟨flip e, List.mem_reverse.mpr he, flip_flip e⟩⟩
theorem Nb.turn {row : List En} {x y : En} (h : Nb row x y) : Nb (row.reverse.map flip) (flip y) (flip x) := by
  obtain ⟨p, q, rfl⟩ := h
  refine ⟨(q.reverse.map flip), (p.reverse.map flip), ?_⟩
  simp
theorem Edge.turn {R : Run} {x y : En} (hb : ∀ e ∈ ends R, flip e ∈ ends R) (h : Edge R x y) : Edge (turned R) (flip y) (flip x) := by
  rcases h with ⟨row, hr, h⟩ | ⟨hx, hs, rfl⟩
  · exact .inl ⟨_, List.mem_map_of_mem hr, h.turn⟩
  · refine .inr ⟨mem_turned.mpr ?_, by simp [flip], by simp [flip, hs]⟩
    rw [flip_flip]
    have := hb x hx
    unfold flip at this
    rw [hs] at this
    exact this
theorem Reach.turn {R : Run} {x y : En} (hb : ∀ e ∈ ends R, flip e ∈ ends R) (h : Reach R x y) : Reach (turned R) (flip y) (flip x) := by
  induction h with
  | one e => exact .one (e.turn hb)
  | cons e _ ih => exact ih.trans (.one (e.turn hb))
theorem turned_turned (R : Run) : turned (turned R) = R := by
  unfold turned
  rw [List.map_map]
  conv => rhs; rw [← List.map_id R]
  refine List.map_congr_left fun row _ => ?_
  show ((row.reverse.map flip).reverse.map flip) = row
  rw [← List.map_reverse, List.reverse_reverse, List.map_map]
  conv => rhs; rw [← List.map_id row]
  exact List.map_congr_left fun e _ => flip_flip e
theorem both_turned {R : Run} (hb : ∀ e ∈ ends R, flip e ∈ ends R) : ∀ e ∈ ends (turned R), flip e ∈ ends (turned R) := fun e he =>
  mem_turned.mpr (hb _ (mem_turned.mp he))
theorem reach_turned {R : Run} (hb : ∀ e ∈ ends R, flip e ∈ ends R) {x y : En} : Reach (turned R) x y ↔ Reach R (flip y) (flip x) := by
  constructor
  · intro h
    have := h.turn (both_turned hb)
    rwa [turned_turned] at this
  · intro h
    have := h.turn hb
    rwa [flip_flip, flip_flip] at this
theorem nodup_map_flip {l : List En} (h : l.Nodup) : (l.map flip).Nodup := by
  unfold List.Nodup at *
  rw [List.pairwise_map]
  refine h.imp fun {a b} hab z => hab ?_
  have := congrArg flip z
  rwa [flip_flip, flip_flip] at this
theorem ends_turned_perm (R : Run) : (ends (turned R)).Perm ((ends R).map flip) := by
  unfold ends turned
  induction R with
  | nil => exact .nil
  | cons row r ih =>
    simp only [List.map_cons, List.flatten_cons, List.map_append]
    exact ((List.reverse_perm row).map flip).append ih
theorem bound_t (t : En → Nat) : ∀ l : List En, ∃ N, ∀ e ∈ l, t e ≤ N
  | [] => ⟨0, fun _ h => nomatch h⟩
  | e :: l => by
    obtain ⟨N, h⟩ := bound_t t l
    refine ⟨max (t e) N, fun f hf => ?_⟩
    rcases List.mem_cons.mp hf with rfl | hf
    · omega
    · have := h f hf; omega
theorem Ok.turned {R : Run} (o : Ok R) : Ok (turned R) where
  nd := (ends_turned_perm R).nodup_iff.mpr (nodup_map_flip o.nd)
  both := both_turned o.both
  apart := by
    intro row hr e he hf
    obtain ⟨row0, h0, rfl⟩ := List.mem_map.mp hr
    obtain ⟨a, ha, rfl⟩ := List.mem_map.mp he
    obtain ⟨b, hb, hb'⟩ := List.mem_map.mp hf
    have e1 : b = flip a := by
      have := congrArg flip hb'
      rwa [flip_flip, flip_flip] at this
    subst e1
    exact o.apart row0 h0 a (List.mem_reverse.mp ha) (List.mem_reverse.mp hb)
  nn := fun e he => o.nn (flip e) (mem_turned.mp he)
  time := by
    obtain ⟨t, h1, h2⟩ := o.time
    obtain ⟨N, hN⟩ := bound_t t (ends R)
    refine ⟨fun e => N - t (flip e), fun row hr => ?_, fun l hl => ?_⟩
    · obtain ⟨row0, h0, rfl⟩ := List.mem_map.mp hr
      rw [List.pairwise_map, List.pairwise_reverse]
      have hm : ∀ e ∈ row0, t e ≤ N := fun e he => hN e (mem_ends.mpr ⟨row0, h0, he⟩)
      refine (List.Pairwise.and_mem.mp (h1 row0 h0)).imp fun {a b} h => ?_
      have := hm a h.1
      have := hm b h.2.1
      have := h.2.2
      simp only [flip_flip]
      omega
    · have hm := mem_turned.mp hl
      have hr : (l, true) ∈ ends R := o.both _ hm
      have := h2 l hr
      have h3 := hN _ hr
      have h4 := hN _ hm
      show N - t (l, false) < N - t (l, true)
      have h4 : t (l, false) ≤ N := h4
      omega

/-! ### without a letter -/
def less (R : Run) (l : Int) : Run := R.map fun row => row.filter fun e => decide (e.1 ≠ l)
theorem mem_less {R : Run} {l : Int} {e : En} : e ∈ ends (less R l) ↔ e ∈ ends R ∧ e.1 ≠ l := by
  rw [mem_ends, mem_ends]
  constructor
  · rintro ⟨row, h, he⟩
    obtain ⟨row0, h0, rfl⟩ := List.mem_map.mp h
    have := List.mem_filter.mp he
    exact ⟨⟨row0, h0, this.1⟩, of_decide_eq_true this.2⟩
  · rintro ⟨⟨row, h, he⟩, hl⟩
    exact ⟨_, List.mem_map_of_mem h, List.mem_filter.mpr ⟨he, decide_eq_true hl⟩⟩
theorem pw_filter_nb {P : En → En → Prop} {row : List En} (h : row.Pairwise P) {x y : En} (n : Nb row x y) : P x y := by
  obtain ⟨p, q, rfl⟩ := n
  rw [List.pairwise_append] at h
  exact (List.pairwise_cons.mp h.2.1).1 y (by simp)
theorem Reach.of_less {R : Run} {l : Int} {x y : En} (h : Reach (less R l) x y) : Reach R x y := by
  have edge : ∀ {x y}, Edge (less R l) x y → Reach R x y := by
    intro x y e
    rcases e with ⟨row, hr, n⟩ | ⟨hx, hs, rfl⟩
    · obtain ⟨row0, h0, rfl⟩ := List.mem_map.mp hr
      exact pw_filter_nb ((row_reach h0).filter _) n
    · have := (mem_less.mp hx).1
      exact .one (.inr ⟨this, hs, rfl⟩)
  induction h with
  | one e => exact edge e
  | cons e _ ih => exact (edge e).trans ih
theorem ends_less (R : Run) (l : Int) : ends (less R l) = (ends R).filter fun e => decide (e.1 ≠ l) := by
  unfold ends less
  induction R with
  | nil => rfl
  | cons row r ih => simp only [List.map_cons, List.flatten_cons, List.filter_append, ih]
theorem Ok.less {R : Run} (o : Ok R) (l : Int) : Ok (less R l) where
  nd := by rw [ends_less]; exact o.nd.filter _
  both := fun e he => by
    have := mem_less.mp he
    exact mem_less.mpr ⟨o.both e this.1, this.2⟩
  apart := by
    intro row hr e he hf
    obtain ⟨row0, h0, rfl⟩ := List.mem_map.mp hr
    exact o.apart row0 h0 e (List.mem_filter.mp he).1 (List.mem_filter.mp hf).1
  nn := fun e he => o.nn e (mem_less.mp he).1
  time := by
    obtain ⟨t, h1, h2⟩ := o.time
    refine ⟨t, fun row hr => ?_, fun k hk => h2 k (mem_less.mp hk).1⟩
    obtain ⟨row0, h0, rfl⟩ := List.mem_map.mp hr
    exact (h1 row0 h0).filter _

/-! ### causal -/
def sameRow (R : Run) (x y : En) : Prop := ∃ row ∈ R, x ∈ row ∧ y ∈ row
def Over (R : Run) (one two : Int) : Prop := sameRow R (one, false) (two, false) ∧ Reach R (one, true) (two, true) ∧ Reach R (two, false) (one, false)
def Causal (R : Run) : Prop := ∀ one two, ¬ Over R one two
def Between (R : Run) : Prop := ∃ l e, Reach R (l, true) e ∧ Reach R e (l, false)
theorem Over.between {R : Run} {one two : Int} (h : Over R one two) (o : Ok R) : Between R :=
  ⟨one, (two, true), h.2.1, (sr_reach (h.2.1.mem o.both).2).trans h.2.2⟩
theorem pw_pair {α : Type} {P : α → α → Prop} : ∀ {l : List α}, l.Pairwise P → ∀ {x y : α}, x ∈ l → y ∈ l → x = y ∨ P x y ∨ P y x
  | [], _, _, _, h, _ => nomatch h
  | a :: r, hp, x, y, hx, hy => by
    have ⟨h1, h2⟩ := List.pairwise_cons.mp hp
    rcases List.mem_cons.mp hx with ex | hx
    · rcases List.mem_cons.mp hy with ey | hy
      · exact .inl (ex.trans ey.symm)
      · exact .inr (.inl (by rw [ex]; exact h1 y hy))
    · rcases List.mem_cons.mp hy with ey | hy
      · exact .inr (.inr (by rw [ey]; exact h1 x hx))
      · exact pw_pair h2 hx hy
theorem over_of_row {R : Run} (o : Ok R) {l : Int} {row : List En} (hr : row ∈ R) (hl : (l, false) ∈ row) {t : En → Nat} (h1 : ∀ row ∈ R, row.Pairwise fun a b => t a < t b) (h2 : ∀ l, (l, true) ∈ ends R → t (l, true) < t (l, false)) :
    ∀ (n : Nat) (z : En), t z < n → z ∈ row → Reach R (l, true) z → Reach R z (l, false) → ∃ y, Over R l y
  | 0, _, hn, _, _, _ => by omega
  | n + 1, z, hn, hz, ha, hb => by
    obtain ⟨w, e, hw⟩ := ha.last
    have tw : t w < t z := e.time h1 h2
    rcases id e with ⟨row', hr', nb⟩ | ⟨hx, hs, rfl⟩
    · have hwz := nb.mem
      have same : row' = row := by
        by_cases he : row' = row
        · exact he
        · exfalso
          have hnd := o.nd
          unfold ends List.Nodup at hnd
          have hd := (List.pairwise_flatten.mp hnd).2
          rcases pw_pair hd hr' hr with z1 | z1 | z1
          · exact he z1
          · exact z1 _ hwz.2 _ hz rfl
          · exact z1 _ hz _ hwz.2 rfl
      subst same
      rcases hw with rfl | hw
      · exact absurd hl (o.apart row' hr _ hwz.1)
      · exact over_of_row o hr hl h1 h2 n w (by omega) hwz.1 hw ((Reach.one e).trans hb)
    · obtain ⟨y, b⟩ := w
      cases hs
      rcases hw with q | hw
      · cases q; exact (o.irr hb).elim
      · exact ⟨y, ⟨row, hr, hl, hz⟩, hw, hb⟩
theorem Between.over {R : Run} (o : Ok R) (h : Between R) : ∃ one two, Over R one two := by
  obtain ⟨l, e, ha, hb⟩ := h
  obtain ⟨t, h1, h2⟩ := o.time
  obtain ⟨w, ed, hw⟩ := hb.last
  have lw : Reach R (l, true) w := by
    rcases hw with rfl | hw
    · exact ha
    · exact ha.trans hw
  rcases id ed with ⟨row, hr, nb⟩ | ⟨hx, hs, q⟩
  · obtain ⟨y, hy⟩ := over_of_row o hr nb.mem.2 h1 h2 (t w + 1) w (by omega) nb.mem.1 lw (.one ed)
    exact ⟨l, y, hy⟩
  · obtain ⟨y, b⟩ := w
    cases hs
    cases q
    exact (o.irr lw).elim
theorem causal_iff {R : Run} (o : Ok R) : Causal R ↔ ¬ Between R :=
  ⟨fun c b => let ⟨x, y, h⟩ := b.over o; c x y h, fun b x y h => b (h.between o)⟩
theorem between_turned {R : Run} (o : Ok R) : Between (turned R) ↔ Between R := by
  have go : ∀ {R : Run}, Ok R → Between (turned R) → Between R := by
    rintro R o ⟨l, e, h1, h2⟩
    exact ⟨l, flip e, (reach_turned o.both).mp h2, (reach_turned o.both).mp h1⟩
  refine ⟨go o, fun h => ?_⟩
  have := go o.turned
  rw [turned_turned] at this
  exact this h
theorem causal_turned {R : Run} (o : Ok R) : Causal (turned R) ↔ Causal R := by
  rw [causal_iff o.turned, causal_iff o, between_turned o]
theorem sameRow_less {R : Run} {l : Int} {x y : En} (h : sameRow (less R l) x y) : sameRow R x y := by
  obtain ⟨row, hr, h1, h2⟩ := h
  obtain ⟨row0, h0, rfl⟩ := List.mem_map.mp hr
  exact ⟨row0, h0, (List.mem_filter.mp h1).1, (List.mem_filter.mp h2).1⟩
theorem causal_less {R : Run} {l : Int} (c : Causal R) : Causal (less R l) := fun x y h =>
  c x y ⟨sameRow_less h.1, h.2.1.of_less, h.2.2.of_less⟩

/-! ### links, rings of letters -/
def Link (R : Run) (a b : Int) : Prop := a ≠ b ∧ Reach R (a, true) (b, false)
inductive Tc {α : Type} (r : α → α → Prop) : α → α → Prop
  | one {x y : α} : r x y → Tc r x y
  | cons {x y z : α} : r x y → Tc r y z → Tc r x z
theorem Tc.trans {α : Type} {r : α → α → Prop} {x y z : α} (a : Tc r x y) (b : Tc r y z) : Tc r x z := by
  induction a with
  | one e => exact .cons e b
  | cons e _ ih => exact .cons e (ih b)
theorem Tc.mono {α : Type} {r s : α → α → Prop} (h : ∀ x y, r x y → s x y) {x y : α} (a : Tc r x y) : Tc s x y := by
  induction a with
  | one e => exact .one (h _ _ e)
  | cons e _ ih => exact .cons (h _ _ e) ih
theorem Tc.swap {α : Type} {r s : α → α → Prop} (h : ∀ x y, r x y → s y x) {x y : α} (a : Tc r x y) : Tc s y x := by
  induction a with
  | one e => exact .one (h _ _ e)
  | cons e _ ih => exact ih.trans (.one (h _ _ e))
def Cyc (R : Run) : Prop := ∃ x, Tc (Link R) x x
theorem link_turned {R : Run} (o : Ok R) {a b : Int} : Link (turned R) a b ↔ Link R b a := by
  unfold Link
  rw [reach_turned o.both]
  exact ⟨fun ⟨h1, h2⟩ => ⟨h1.symm, h2⟩, fun ⟨h1, h2⟩ => ⟨h1.symm, h2⟩⟩
theorem cyc_turned {R : Run} (o : Ok R) : Cyc (turned R) ↔ Cyc R :=
  ⟨fun ⟨x, h⟩ => ⟨x, h.swap fun _ _ => (link_turned o).mp⟩, fun ⟨x, h⟩ => ⟨x, h.swap fun _ _ => (link_turned o).mpr⟩⟩
theorem cyc_less {R : Run} {l : Int} (h : Cyc (less R l)) : Cyc R := by
  obtain ⟨x, h⟩ := h
  exact ⟨x, h.mono fun _ _ h => ⟨h.1, h.2.of_less⟩⟩
theorem Over.ne {R : Run} (o : Ok R) {x y : Int} (h : Over R x y) : x ≠ y := fun e => by
  subst e; exact o.irr h.2.1
theorem Over.link {R : Run} (o : Ok R) {x y : Int} (h : Over R x y) : Link R x y ∧ Link R y x := by
  have hm := h.2.1.mem o.both
  refine ⟨⟨h.ne o, h.2.1.trans (sr_reach hm.2)⟩, fun e => h.ne o e.symm, (sr_reach hm.2).trans h.2.2⟩
theorem causal_of_not_cyc {R : Run} (o : Ok R) (h : ¬ Cyc R) : Causal R := fun x y ov =>
  h ⟨x, .cons (ov.link o).1 (.one (ov.link o).2)⟩
theorem link_mem {R : Run} (o : Ok R) {a b : Int} (h : Link R a b) : (a, true) ∈ ends R ∧ (b, true) ∈ ends R := by
  have := h.2.mem o.both
  exact ⟨this.1, o.both _ this.2⟩
/-- the number of a kind -/
noncomputable def kindNo (R : Run) : Nat := by
  classical
  exact if Cyc R then (if Causal R then 1 else 2) else 0
theorem kind_turned {R : Run} (o : Ok R) : kindNo (turned R) = kindNo R := by
  unfold kindNo
  by_cases h1 : Cyc R
  · rw [if_pos h1, if_pos ((cyc_turned o).mpr h1)]
    by_cases h2 : Causal R
    · rw [if_pos h2, if_pos ((causal_turned o).mpr h2)]
    · rw [if_neg h2, if_neg fun h => h2 ((causal_turned o).mp h)]
  · rw [if_neg h1, if_neg fun h => h1 ((cyc_turned o).mp h)]
theorem kind_less {R : Run} (l : Int) : kindNo (less R l) ≤ kindNo R := by
  unfold kindNo
  by_cases h1 : Cyc R
  · rw [if_pos h1]
    by_cases h2 : Causal R
    · rw [if_pos h2]
      split
      · rw [if_pos (causal_less h2)]; exact Nat.le_refl _
      · exact Nat.zero_le _
    · rw [if_neg h2]
      split
      · split <;> omega
      · omega
  · rw [if_neg h1, if_neg fun h => h1 (cyc_less h)]
    exact Nat.le_refl _

/-! ### rows out of what may stand first -/
/-- a finite set with a strict order that is no ring has one that nothing of it is ahead of -/
theorem minimal {α : Type} {r : α → α → Prop} (hr : ∀ x, ¬ Tc r x x) : ∀ l : List α, l ≠ [] → ∃ m ∈ l, ∀ s ∈ l, ¬ Tc r s m
  | [], h => absurd rfl h
  | [a], _ => ⟨a, by simp, fun s hs => by
      have : s = a := by simpa using hs
      subst this; exact hr s⟩
  | a :: b :: l, _ => by
    obtain ⟨m, hm, h⟩ := minimal hr (b :: l) (by simp)
    by_cases q : Tc r a m
    · refine ⟨a, by simp, fun s hs z => ?_⟩
      rcases List.mem_cons.mp hs with rfl | hs
      · exact hr _ z
      · exact h s hs (z.trans q)
    · refine ⟨m, List.mem_cons_of_mem _ hm, fun s hs z => ?_⟩
      rcases List.mem_cons.mp hs with rfl | hs
      · exact q z
      · exact h s hs z
/-- nothing can stand first: a ring -/
theorem stuck_cyc {α : Type} {r : α → α → Prop} {S : List α} (hS : S ≠ []) (h : ∀ own ∈ S, ∃ far ∈ S, r far own) : ∃ x, Tc r x x := by
  by_cases q : ∃ x, Tc r x x
  · exact q
  · obtain ⟨m, hm, hn⟩ := minimal (fun x z => q ⟨x, z⟩) S hS
    obtain ⟨far, hf, e⟩ := h m hm
    exact absurd (.one e) (hn far hf)
theorem stuck_reach {R : Run} (o : Ok R) {S : List En} (hS : S ≠ []) (h : ∀ own ∈ S, ∃ far ∈ S, Reach R far own) : False := by
  obtain ⟨x, hx⟩ := stuck_cyc hS h
  have : ∀ {a b}, Tc (Reach R) a b → Reach R a b := by
    intro a b h
    induction h with
    | one e => exact e
    | cons e _ ih => exact e.trans ih
  exact o.irr (this hx)
theorem idxOf_ne {α : Type} [DecidableEq α] {a x : α} {t : List α} (h : a ≠ x) : (a :: t).idxOf x = t.idxOf x + 1 := by
  rw [List.idxOf_cons]
  have : (a == x) = false := by simpa using h
  rw [this]; rfl
/-- a row in which nothing stands ahead of what it is behind: no ring among its things -/
theorem row_order {α : Type} [DecidableEq α] {r : α → α → Prop} (hi : ∀ x, ¬ r x x) : ∀ {l : List α}, l.Pairwise (fun a b => ¬ r b a) → ∀ {x y : α}, x ∈ l → y ∈ l → r x y → l.idxOf x < l.idxOf y
  | [], _, _, _, h, _, _ => nomatch h
  | a :: t, hp, x, y, hx, hy, h => by
    have ⟨h1, h2⟩ := List.pairwise_cons.mp hp
    have hxy : x ≠ y := fun e => hi y (e ▸ h)
    by_cases ex : a = x
    · subst ex
      rw [List.idxOf_cons_self, idxOf_ne hxy]
      exact Nat.succ_pos _
    · have hx' : x ∈ t := by
        rcases List.mem_cons.mp hx with q | q
        · exact absurd q.symm ex
        · exact q
      by_cases ey : a = y
      · subst ey; exact absurd h (h1 x hx')
      · have hy' : y ∈ t := by
          rcases List.mem_cons.mp hy with q | q
          · exact absurd q.symm ey
          · exact q
        rw [idxOf_ne ex, idxOf_ne ey]
        exact Nat.succ_lt_succ (row_order hi h2 hx' hy' h)
theorem row_no_cyc {α : Type} [DecidableEq α] {r : α → α → Prop} (hi : ∀ x, ¬ r x x) {l : List α} (hp : l.Pairwise fun a b => ¬ r b a) (hm : ∀ x y, r x y → x ∈ l ∧ y ∈ l) : ¬ ∃ x, Tc r x x := by
  rintro ⟨x, hx⟩
  have : ∀ {a b}, Tc r a b → l.idxOf a < l.idxOf b := by
    intro a b h
    induction h with
    | one e => exact row_order hi hp (hm _ _ e).1 (hm _ _ e).2 e
    | cons e _ ih => exact Nat.lt_trans (row_order hi hp (hm _ _ e).1 (hm _ _ e).2 e) ih
  exact Nat.lt_irrefl _ (this hx)
theorem not_cyc_of_row {R : Run} (o : Ok R) {l : List Int} (hm : ∀ a, (a, true) ∈ ends R → a ∈ l) (hp : l.Pairwise fun a b => ¬ Link R b a) : ¬ Cyc R :=
  row_no_cyc (fun _ h => h.1 rfl) hp fun _ _ h => ⟨hm _ (link_mem o h).1, hm _ (link_mem o h).2⟩
end BC
/-! Rules that the layer lacks: a dict walked where it is made; a tuple from behind; a set out of a tuple; in a tuple. -/
namespace BX
open PySem PySem.Spec PyProof.Rows L2
section
variable {X : Cx}

/-! ### for k in e, e gives a dict: it is locked from then on -/
def iKeysC (td : TE) : TI := fun σ H R => td σ H fun x H1 => ∃ d, x = .ref d ∧
  ((∃ kvs, H1 d = some (.dK kvs) ∧ ∀ o, R (Itk d o kvs) (upd H1 d (.frz o (.dK kvs)))) ∨ ∃ kvs, H1 d = some (.dT kvs) ∧ ∀ o, R (Itkt d o kvs) (upd H1 d (.frz o (.dT kvs))))
theorem pi_keysC {tg e : Expr} {td : TE} (he : PE X e td) : PI X tg e (iKeysC td) := by
  refine ⟨fun pins s σ H R I h => ?_⟩
  refine thn (he.run pins s σ H _ I h) ?_
  rintro u s1 ⟨x, H1, I1, rx, d, rfl, q⟩
  cases rx
  rcases q with ⟨kvs, hd, q⟩ | ⟨kvs, hd, q⟩
  · obtain ⟨o, I2⟩ := I1.lock hd trivial
    obtain ⟨a1, a2, a3, es, ep, vs, a4, a5, _, _⟩ := I2.frzK (o := o) (kvs := kvs) upd_same
    exact iter_keys a1 a2 a3 a4 (pi_one (tk := s1.toks) I2 _ (turn_keys _ a4) ⟨_, Heap.get?_push_size _ rfl, rfl, by rw [a5] <;> rfl⟩ (q o))
  · obtain ⟨o, I2⟩ := I1.lock hd trivial
    obtain ⟨a1, a2, a3, es, ep, a4, a5, _⟩ := I2.frzT (o := o) (kvs := kvs) upd_same
    exact iter_keys a1 a2 a3 a4 (pi_one (tk := s1.toks) I2 _ (turn_keysT _ a4) ⟨_, Heap.get?_push_size _ rfl, rfl, by rw [a5] <;> rfl⟩ (q o))

/-! ### x in t, t a tuple of data -/
def rInTD (K : PySem.W.Frag) : R2 := fun x y H Q => ∃ d ds, Dp K H x d ∧ Dp K H y (.tuple ds) ∧ SeqAt.shaped d = true ∧ SeqAt.shaped (.tuple ds) = true ∧ Q (.bl (ds.any fun z => PyData.eqv z d)) H
theorem op_inTD (hu : X.A.units + 65 < cLine) : OpR X (compareOp .In) (rInTD X.K) := by
  rintro pins s σ H x y v u Q I rx ry ⟨d, ds, a, b, c, e, q⟩
  obtain ⟨l1, r1⟩ := Dp.reads I d x v a rx
  obtain ⟨l2, r2⟩ := Dp.reads I (.tuple ds) y u b ry
  exact SeqAt.in_tuple_reads r2 r1 (SeqAt.canLay_of_shaped e) (SeqAt.canLay_of_shaped c) (room_in_shaped c hu) ⟨.bl _, H, I, rfl, q⟩

/-! ### len(set(t)), t a tuple of ints -/
/-- how many unlike ones -/
def tLenSetT (K : PySem.W.Frag) (ta : TE) : TE := fun σ H Q => ta σ H fun x H1 => ∃ (l : Addr) (ns : List Int), x = .ref l ∧ SqT K H1 l (ns.map V.int) ∧ ns.Nodup ∧ ns.length ≤ 1000 ∧ Q (.int (ns.length : Nat)) H1
theorem pe_lenSetT {a : Expr} {ta : TE} {p p2 q pos : Pos} (hg : Gl X "len") (hm : X.mg "len" = none) (hg2 : Gl X "set") (hm2 : X.mg "set" = none) (ha : PE X a ta) (hc : X.calm = true := by rfl)
    (na : starEach [a] X.env = (false, eval a X.env) :: starEach [] X.env := by rfl) : PE X (.Call (.Name "len" p) [.Call (.Name "set" p2) [a] [] q] [] pos) (tLenSetT X.K ta) := by
  refine ⟨fun pins s σ H Q I h => Call_ (ld_blt I hg hm boot_len ?_)⟩
  refine PyProof.Rows.callWith_builtin1 (PyProof.Rows.args_cons (Call_ (ld_blt I hg2 hm2 boot_set ?_)) rfl) rfl rfl
  refine PyProof.Rows.callWith_type1 (PyProof.Rows.args_cons (thn (ha.run pins s σ H _ I h) ?_) na) na rfl
  rintro v s1 ⟨x, H1, I1, r1, l, ns, rfl, hq, nd, hl, k⟩
  refine PyProof.Rows.args_nil ?_
  cases r1
  obtain ⟨its, rv, pt, hz⟩ := I1.tuple hq
  have hi : IntsAre its.toArray.toList ns := ints_of_vals rv
  refine call_set_tupI ns (I1.ok.hd hc) (show s1.heap.IsTuple l its.toArray from pt) hi (by unfold scanBound; omega) fun h' tk c R1 hcn kp => PyProof.Rows.args_nil ?_
  obtain ⟨o, es, ep, t, ho, hex, hdt, g, ndk, hm2, hb, hf, hn, hr, hl2⟩ := R1
  have hcn2 : es.size = ns.length := by
    have p1 : (es.toList.map keyOf).Perm ns := by
      refine (List.perm_ext_iff_of_nodup ndk nd).mpr fun j => ?_
      have z := hm2 j
      rw [← z, decide_eq_true_eq]
    have p2 := p1.length_eq
    rwa [List.length_map, Array.length_toList] at p2
  have I2 : Inv X pins σ H1 { s1 with heap := h', toks := tk } := I1.kept kp
  exact call_len_set ho hex hdt hf (by rw [hcn2]; omega) ⟨.int ns.length, H1, I2.tok _, ⟨_, by rw [hcn2]⟩, k⟩
end
end BX
/-! Rules that the layer lacks: sorted of data out of a list, a tuple, a dict; remove of data; min of data. -/
namespace BX
open PySem PySem.Spec PyProof.Rows L2

section
variable {prog : Program} {w : World} {A : Around} {E : Value → Shared → Prop} {s : Shared}
/-- what a tuple holds, as a list -/
theorem collect_tup {l : Addr} {vs : List Value} {Q : List Value → Shared → Prop} (hl : s.heap.IsTuple l vs.toArray) (hsz : vs.length ≤ sizeLine)
    (h : ∀ h' : Heap, (∀ b o, s.heap.get? b = some o → h'.get? b = some o) → Q vs { s with heap := h' }) : wpAny (model prog w) A (collect (.ref l)) Q E s := by
  obtain ⟨o, ho, hc, n, hd⟩ := id hl
  have hnew : (s.heap.push (seqObj "list" #[] 0)).get? s.heap.objs.size = some (seqObj "list" #[] 0) := Heap.get?_push_size _ rfl
  have hold : (s.heap.push (seqObj "list" #[] 0)).get? l = some o := Heap.get?_push_of_some _ ho
  unfold collect
  refine wpAny_bind (wpAny_runValue (codeAny_builtin entry_proto_collect' ?_))
  show wpAny _ _ (do again (.builtin "list.__iadd__" ⟨[← newList [], .ref l], []⟩)) _ _ s
  refine wpAny_bind (wpAny_newList (wpAny_pure ⟨Code.quiet_builtin _ (by decide +kernel), codeAny_builtin entry_list_iadd' ?_⟩))
  show wpAny _ _ (Builtin.List.listExtendWith (.ref s.heap.objs.size) (.ref l) (.ref s.heap.objs.size)) _ _ { s with heap := s.heap.push (seqObj "list" #[] 0) }
  unfold Builtin.List.listExtendWith
  refine wpAny_bind (wpAny_typeOf (T := "tuple") ⟨o, hold, hc⟩ ?_)
  have e1 : (Value.type "tuple" == Value.type "tuple") = true := by rfl
  rw [if_pos (by rw [e1]; simp)]
  refine wpAny_bind (listItems_at hold hd (wpAny_bind (listItems_at (xs := #[]) (n := 0) hnew rfl ?_)))
  rw [if_neg (by simp)]
  refine wpAny_bind (listUpdate_at (xs := #[]) (n := 0) hnew rfl ?_ (Nat.zero_le _) (by show (#[] ++ vs.toArray).size ≤ sizeLine + 1; simp only [Array.size_append, List.size_toArray, List.length_nil]; omega))
  refine wpAny_pure ?_
  show wpAny (model prog w) A (load s.heap.objs.size >>= fun o => match o.data with
      | .seq xs _ => pure xs.toList
      | _ => unsupported "internal:collect") Q E { s with heap := (s.heap.push (seqObj "list" #[] 0)).update s.heap.objs.size (Obj.mapSeq (· ++ vs.toArray)) }
  refine wpAny_bind (wpAny_load (get?_update_seq hnew _) ?_)
  show wpAny _ _ (pure ((#[] : Array Value) ++ vs.toArray).toList) Q E _
  rw [show ((#[] : Array Value) ++ vs.toArray).toList = vs by simp]
  refine wpAny_pure (h _ fun b ob e => ?_)
  exact (Heap.get?_update_ne _ _ _ _ (Nat.ne_of_lt (Heap.lt_size e))).trans (Heap.get?_push_of_some _ e)
end

section
variable {X : Cx} {β : Type}
/-- what is asked of the items zs, each with what it stands for, and what is given: the same ones in order, in a new list -/
def kSort (K : PySem.W.Frag) (enc : β → PyData) (zs : List (V × β)) (H : Hp) (Q : VK) : Prop :=
  (∀ z ∈ zs, Dp K H z.1 (enc z.2)) ∧ PySem.W.AllAlike (zs.map fun z => enc z.2) ∧ PySem.W.Sortable (zs.map fun z => enc z.2) ∧ zs.length ≤ 1000 ∧ (∀ z ∈ zs, (enc z.2).depth ≤ 40) ∧
    ∀ (ys : List (V × β)) (p : Addr), ys.Perm zs → ys.Pairwise (fun a b => PySem.W.dataLe false enc a.2 b.2 = true) → H p = none → Q (.ref p) (upd H p (.lst (ys.map (·.1))))
theorem vals_each {R : Value → V × β → Prop} : ∀ {zs : List (V × β)} {us : List Value}, Vals (zs.map (·.1)) us → (∀ z ∈ zs, ∀ u, RelV z.1 u → R u z) → PySem.W.EachIs R us zs
  | [], _, .nil, _ => .nil
  | z :: zs, _, .cons r t, h => .cons (h z (by simp) _ r) (vals_each t fun z' hz u q => h z' (List.mem_cons_of_mem _ hz) u q)
theorem each_vals : ∀ {ys : List (V × β)} {us : List Value}, PySem.W.EachIs (fun u z => RelV z.1 u) us ys → Vals (ys.map (·.1)) us
  | _, _, .nil => .nil
  | _, _, .cons r t => .cons r (each_vals t)
theorem sorted_gen {pins : List (Addr × Obj)} {s : Shared} {σ : L2.St} {H : Hp} {Q : VK} {a : Addr} {enc : β → PyData} {zs : List (V × β)} (I : Inv X pins σ H s) (hu : X.A.units + 64 < cLine) (k : kSort X.K enc zs H Q)
    (hcol : ∀ {Q' E' : _}, (∀ (h' : Heap) (tk : Nat) (us : List Value), (∀ b o, s.heap.get? b = some o → h'.get? b = some o) → Vals (zs.map (·.1)) us → Q' us { s with heap := h', toks := tk }) → wpAny (model X.prog X.w) X.A.in1 (collect (.ref a)) Q' E' s) :
    wpAny (model X.prog X.w) X.A (call (.builtin "sorted") [.ref a]) (EP X pins σ Q) X.xe s := by
  obtain ⟨hd, hal, hk, hlen, hdep, hq⟩ := k
  refine Calls.call_function_entry PyProof.Rows.kind_sorted PyProof.Rows.plain_sorted PyProof.Rows.entry_sorted (PyProof.Rows.args_sorted1 _) ?_
  unfold Builtin.«sorted»
  refine wpAny_bind (m := checkCount "sorted" 1 1 _) (wpAny_pure (wpAny_bind (hcol fun h' tk us kp rv => ?_)))
  have I1 : Inv X pins σ H { s with heap := h', toks := tk } := I.kept kp
  have hl : us.length = zs.length := by rw [← rv.length, List.length_map]
  have hs16 := sizeLine_eq
  refine wpAny_bind (wpAny_newList ?_ (by omega))
  have hoL : (h'.push (seqObj "list" us.toArray 0)).get? h'.objs.size = some (seqObj "list" us.toArray 0) := Heap.get?_push_size _ rfl
  show wpAny _ _ _ _ _ { s with heap := h'.push (seqObj "list" us.toArray 0), toks := tk }
  have er : PySem.W.EachIs (fun v (b : V × β) => ∃ as, Reads (h'.push (seqObj "list" us.toArray 0)) v (enc b.2) as ∧ h'.objs.size ∉ as) us zs := vals_each rv fun z hz u q => by
    obtain ⟨as, r⟩ := Dp.reads I1 (enc z.2) z.1 u (hd z hz) q
    refine ⟨as, PyProof.Rows.Reads.keeps (h := h') (h' := h'.push (seqObj "list" us.toArray 0)) (fun b o e => Heap.get?_push_of_some _ e) r, fun hm => ?_⟩
    obtain ⟨o, e⟩ := PyProof.On.reads_mem_get r _ hm
    exact absurd (Heap.lt_size e) (Nat.lt_irrefl _)
  refine wpAny_bind (wpAny_holding (PySem.W.list_sort_data (s := { s with heap := h'.push (seqObj "list" us.toArray 0), toks := tk }) (R := fun u z => RelV z.1 u) (enc := fun z : V × β => enc z.2) (bs := zs)
    hoL (vals_each rv fun z _ u q => q) er hal hk (by omega) (fun b hb => ?_) fun out hlo eo => ?_))
  · have := hdep b hb
    show X.A.units + 1 + 1 + (enc b.2).depth < cLine
    omega
  · obtain ⟨e', he'⟩ := PyProof.Rows.sortedHeap_at (vs := us) (out := List.toArray out) hoL
    have pm : (zs.mergeSort (PySem.W.dataLe false fun z : V × β => enc z.2)).Perm zs := List.mergeSort_perm _ _
    have pw := PySem.W.sort_pairwise (PySem.W.sortLe_total (PyProof.Rows.listOrd PyProof.Rows.itemOrd) false fun z : V × β => PySem.W.keyToks (enc z.2)) zs
    have rv2 := each_vals eo
    have hlen2 : ((zs.mergeSort (PySem.W.dataLe false fun z : V × β => enc z.2)).map (·.1)).length ≤ sizeLine := by
      rw [List.length_map, pm.length_eq]
      omega
    refine wpAny_pure ⟨_, rfl, .ref h'.objs.size, _, I1.laid (t' := tk) (o := .lst ((zs.mergeSort (PySem.W.dataLe false fun z : V × β => enc z.2)).map (·.1))) (fun b u e => ?_) (Nat.le_refl _) ⟨hlen2, out, e', rv2, he'⟩, rfl, hq _ _ pm pw (I1.hok.fresh (Nat.le_refl _))⟩
    have hb : b < h'.objs.size := Heap.lt_size e
    rw [PyProof.Rows.sortedHeap_old (Nat.ne_of_lt hb) (by rw [size_push']; exact Nat.lt_succ_of_lt hb)]
    exact Heap.get?_push_of_some _ e
/-- sorted(x), x a list or a tuple -/
theorem cr_sortSq (enc : β → PyData) (hu : X.A.units + 64 < cLine) : CallR X (.builtin "sorted") (fun xs H Q => ∃ (a : Addr) (zs : List (V × β)), xs = [.ref a] ∧ (SqL X.K H a (zs.map (·.1)) ∨ SqT X.K H a (zs.map (·.1))) ∧ kSort X.K enc zs H Q) := by
  intro pins s σ H xs us Q I r q
  obtain ⟨a, zs, rfl, hs, k⟩ := q
  obtain ⟨u, rfl, rx⟩ := r.one
  cases rx
  refine sorted_gen I hu k fun {Q' E'} hQ => ?_
  rcases hs with hs | hs
  · obtain ⟨its, rv, p, hz⟩ := I.list hs
    have hl := rv.length
    refine collect_list p.isList (hQ _ s.toks its (fun b o e => ?_) rv) (by omega)
    exact (Heap.get?_update_ne _ _ _ _ (Nat.ne_of_lt (Heap.lt_size e))).trans (Heap.get?_push_of_some _ e)
  · obtain ⟨its, rv, p, hz⟩ := I.tuple hs
    have hl := rv.length
    exact collect_tup (show s.heap.IsTuple a its.toArray from p) (by omega) fun h' kp => hQ h' s.toks its kp rv
/-- sorted(d), d a dict with tuple keys: bs the key tuples -/
theorem cr_sortDT (enc : β → PyData) (hc : X.calm = true) (hu : X.A.units + 64 < cLine) : CallR X (.builtin "sorted") (fun xs H Q => ∃ (a : Addr) (kvs : List (List Key × V)), xs = [.ref a] ∧ Rd H a (.dT kvs) ∧
    ∀ bs, IsKeys H kvs bs → ∃ zs : List (V × β), zs.map (·.1) = bs.map V.ref ∧ kSort X.K enc zs H Q) := by
  intro pins s σ H xs us Q I r q
  obtain ⟨a, kvs, rfl, hs, k⟩ := q
  obtain ⟨u, rfl, rx⟩ := r.one
  cases rx
  obtain ⟨z, hms, ks, pr, o, es, ep, ho, hx, hdt, he, hn⟩ := (show ObjOk X.prog X.w H s.heap a (.dT kvs) from hs.ok I.hok)
  obtain ⟨zs, ez, kz⟩ := k _ (isKeys_of pr)
  have l1 : es.size = ks.length := size_of_entries he
  have l2 : kvs.length = ks.length := Paired.length pr
  refine sorted_gen I hu kz fun {Q' E'} hQ => ?_
  refine PySem.W.kdu_collect (A := X.A.in1) (kdl_raw hms hx hdt) (I.ok.hd hc) ho (by omega) fun h' tk acc kp it => hQ h' tk acc.toList kp ?_
  have ea : acc.toList = (ks.map fun x => x.2.1).map Value.ref := by
    apply List.ext_getElem?
    intro j
    rw [List.map_map, List.getElem?_map]
    have hl : acc.toList.length = ks.length := by rw [Array.length_toList, it.1]; exact l1
    cases hj : acc.toList[j]? with
    | none =>
      have h1 := List.getElem?_eq_none_iff.mp hj
      rw [List.getElem?_eq_none (by omega)] <;> rfl
    | some v =>
      obtain ⟨en, hen, hv⟩ := it.2 j v (by rw [← Array.getElem?_toList]; exact hj)
      have qe := entry_at he j
      rw [hen] at qe
      cases hb : ks[j]? with
      | none => rw [hb] at qe; exact nomatch (show some en = none from qe)
      | some b =>
        rw [hb] at qe
        have e2 : en = entryOfKey (tupleKind (mixKind X.prog X.w)) b := Option.some.inj qe
        rw [hv, e2] <;> rfl
  rw [ez, ea]
  exact vals_refs _

/-! ### l.remove(x), x there -/
def rRemD (K : PySem.W.Frag) : V → List V → Hp → VK → Prop := fun x xs H Q => ∃ (a : Addr) (y : V) (d : PyData) (ys : List V) (ds : List PyData) (j : Nat), x = .ref a ∧ xs = [y] ∧ H a = some (.lst ys) ∧ DpAll K H ys ds ∧ Dp K H y d ∧
  PyData.plainAll ds = true ∧ d.plain = true ∧ d.depth ≤ 40 ∧ PySem.SeqAt.dataPlace ds d = some j ∧ Q .non (upd H a (.lst (ys.eraseIdx j)))
theorem mt_remD (hu : X.A.units + 64 < cLine) : MtM X "list.remove" (rRemD X.K) := by
  intro pins s σ H x xs v us Q I rx rxs h
  obtain ⟨a, y, d, ys, ds, j, rfl, rfl, hH, hds, hd, hp, hpd, hdep, hj, q⟩ := h
  cases rx
  obtain ⟨u, rfl, ru⟩ := rxs.one
  obtain ⟨z, its, n, r, hl, e⟩ := I.lstM hH
  obtain ⟨l1, r1⟩ := Dp.readsAll I ds ys its hds r
  obtain ⟨l2, r2⟩ := Dp.reads I d y u hd ru
  refine PySem.SeqAt.remove_list_data (j := j) (vs := its.toArray) (xs := ds) (d := d) ⟨_, e, rfl, n, rfl⟩ (by simpa using r1) r2 hp hpd (by omega) hj (by rw [List.size_toArray]; omega) ?_
  refine ⟨.non, _, I.lset (its' := its.eraseIdx j) (t' := s.toks) hH e ?_ (r.eraseIdx j) ?_, rfl, q⟩
  · show its.toArray.eraseIdxIfInBounds j = (its.eraseIdx j).toArray
    rw [List.eraseIdxIfInBounds_toArray]
  · have := List.length_eraseIdx_le ys j
    omega

/-! ### min(l): one of its items -/
def rMinD (K : PySem.W.Frag) : List V → Hp → VK → Prop := fun xs H Q => ∃ (a : Addr) (ys : List V) (d : PyData) (ds : List PyData), xs = [.ref a] ∧ SqL K H a ys ∧ DpAll K H ys (d :: ds) ∧ PySem.W.AlikeAll (d :: ds) ∧ PyData.depthAll (d :: ds) ≤ 40 ∧
  ∀ v, v ∈ ys → Q v H
theorem cr_minD (hc : X.calm = true) (hu : X.A.units + 64 < cLine) : CallR X (.builtin "min") (rMinD X.K) := by
  intro pins s σ H xs us Q I r q
  obtain ⟨a, ys, d, ds, rfl, hs, hds, hal, hdep, k⟩ := q
  obtain ⟨u, rfl, rx⟩ := r.one
  cases rx
  obtain ⟨its, rv, p, hz⟩ := I.list hs
  obtain ⟨l1, r1⟩ := Dp.readsAll I (d :: ds) ys its hds rv
  refine PySem.W.min_list_data (I.ok.hd hc) p.isList (by simpa using r1) hal (by omega) fun i v h' tk bs hv _ kp => ?_
  have I1 : Inv X pins σ H { s with heap := h', toks := tk } := I.kept kp
  have hv2 : its[i]? = some v := by simpa using hv
  have hi : i < ys.length := by
    have := (List.getElem?_eq_some_iff.mp hv2).1
    have := rv.length
    omega
  obtain ⟨u2, e2, ru⟩ := rv.get (List.getElem?_eq_getElem hi)
  rw [hv2] at e2
  cases e2
  exact ⟨_, H, I1, ru, k _ (List.getElem_mem hi)⟩

/-! ### t[::-1], t a tuple -/
end
section
variable {prog : Program} {w : World} {A : Around} {E : Value → Shared → Prop} {s : Shared}
theorem rev_places (n : Nat) : Builtin.Slice.slicePlaces ((n : Int) - 1) (-1) (-1) = n := by
  unfold Builtin.Slice.slicePlaces
  have h1 : ¬ ((-1 : Int) > 0) := by decide
  rw [if_neg h1]
  by_cases h : (n : Int) - 1 > -1
  · rw [if_pos h]
    have e : ((n : Int) - 1 - -1 - 1) / (- -1) + 1 = (n : Int) := by
      rw [show (- -1 : Int) = 1 by decide, Int.ediv_one]
      omega
    rw [e]
    omega
  · rw [if_neg h]
    omega
theorem fm_congr {α β : Type} {f g : α → Option β} : ∀ {l : List α}, (∀ x ∈ l, f x = g x) → l.filterMap f = l.filterMap g
  | [], _ => rfl
  | x :: r, h => by
    rw [List.filterMap_cons, List.filterMap_cons, h x (by simp), fm_congr fun y hy => h y (List.mem_cons_of_mem _ hy)]
theorem rev_pick (xs : List Value) : ((List.range xs.length).filterMap fun (k : Nat) => xs.toArray[(((xs.length : Int) - 1) + (k : Int) * (-1)).toNat]?) = xs.reverse := by
  apply List.ext_getElem?
  intro j
  have hf : ((List.range xs.length).filterMap fun (k : Nat) => xs.toArray[(((xs.length : Int) - 1) + (k : Int) * (-1)).toNat]?) = (List.range xs.length).filterMap fun k => xs.reverse[k]? := by
    refine fm_congr fun k hk => ?_
    have hk2 := List.mem_range.mp hk
    rw [List.getElem?_reverse hk2]
    have : (((xs.length : Int) - 1) + (k : Int) * (-1)).toNat = xs.length - 1 - k := by omega
    rw [this]
    simp
  rw [hf]
  have : (List.range xs.length).filterMap (fun k => xs.reverse[k]?) = xs.reverse := by
    have h := PySem.W.krv_all xs.reverse.toArray
    simpa using h
  rw [this]
theorem getItem_tup_rev {t sl : Addr} {its : List Value} {vs : Value} {Q : Value → Shared → Prop} (ht : IsTup s.heap t its.toArray) (hs : s.heap.IsSliceOf sl .none .none vs) (ps : IsPart vs (some (-1))) (hsz : its.length ≤ sizeLine)
    (h : Q (.ref s.heap.objs.size) { s with heap := s.heap.push { cls := .type "tuple", data := .seq its.reverse.toArray } }) : wpAny (model prog w) A (getItem (.ref t) (.ref sl)) Q E s := by
  obtain ⟨os, hos, hcs, hds⟩ := id hs
  have hTs : s.TypeIs (.ref sl) "slice" := ⟨os, hos, hcs⟩
  have hfit : sizeOk (.seq its.reverse.toArray) := by
    show its.reverse.toArray.size ≤ sizeLine
    rw [List.size_toArray, List.length_reverse]
    exact hsz
  unfold getItem
  try with_reducible refine wpAny_holding ?_
  first | refine wpAny_bind (wpAny_pure ?_) | skip
  refine wpAny_bind (wpAny_sequenceKey ht.typeIs (by decide) (wpAny_bind (wpAny_callSpecial?_slot (name := Str.ofString "__getitem__") ht.typeIs PyProof.Rows.slot_tuple_getitem
    (wpAny_call_entry PyProof.Rows.slot_tuple_getitem ht.typeIs entry_tuple_getitem ?_ (args_tuple_getitem _ _)))))
  show wpAny _ _ (Builtin.Tuple.tupleItemsOf (.ref t) >>= _) _ _ s
  refine wpAny_bind (tupleItemsOf_ ht (wpAny_bind (wpAny_typeOf hTs ?_)))
  rw [if_pos (by decide)]
  have part : ∀ {Q : Int × Int × Nat → Shared → Prop}, Q ((its.length : Int) - 1, -1, its.length) s → wpAny (model prog w) A.in1 (Builtin.Slice.sliceApplied (.ref sl) (pure ((its.toArray.size : Nat) : Int))) Q E s := by
    intro Q hQ
    unfold Builtin.Slice.sliceApplied Builtin.Slice.sliceFields
    refine wpAny_bind (wpAny_bind (wpAny_field hos hds (x := .none) rfl (wpAny_bind (wpAny_field hos hds (x := .none) rfl (wpAny_bind (wpAny_field hos hds (x := vs) rfl (wpAny_pure ?_)))))))
    refine wpAny_bind (HT.slicePart_ ps ?_)
    show wpAny _ _ (if ((-1 : Int) == 0) = true then _ else _) _ _ s
    rw [if_neg (by decide)]
    refine wpAny_bind (HT.slicePart_ .none (wpAny_bind (HT.slicePart_ .none (wpAny_bind (wpAny_pure ?_)))))
    show wpAny _ _ (pure (((its.toArray.size : Nat) : Int) - 1, (-1 : Int), Builtin.Slice.slicePlaces (((its.toArray.size : Nat) : Int) - 1) (-1) (-1))) _ _ s
    rw [rev_places, List.size_toArray]
    exact wpAny_pure hQ
  refine wpAny_bind (part ?_)
  show wpAny _ _ (if (((its.length : Int) - 1) == 0 && (-1 : Int) == 1 && its.length == its.toArray.size) = true then _ else _) _ _ s
  rw [if_neg (by rw [show ((-1 : Int) == 1) = false by decide, Bool.and_false, Bool.false_and]; decide), rev_pick]
  first
    | exact wpAny_bind (m := Builtin.Tuple.tupleExact _) (wpAny_newObj_type (wpAny_pure ⟨_, rfl, wpAny_pure h⟩) hfit)
    | exact wpAny_bind (wpAny_bind (m := Builtin.Tuple.tupleExact _) (wpAny_newObj_type (wpAny_pure ⟨_, rfl, wpAny_pure h⟩) hfit))
end
section
variable {X : Cx}
def tRevT (K : PySem.W.Frag) (te : TE) : TE := fun σ H Q => te σ H fun x H1 => ∃ a xs, x = .ref a ∧ SqT K H1 a xs ∧ ∀ p, H1 p = none → Q (.ref p) (upd H1 p (.tup xs.reverse))
theorem pe_revT {e : Expr} {te : TE} {k : Nat} {p1 p2 p3 pos : Pos} (he : PE X e te) : PE X (.Subscript e (.Slice none none (some (.UnaryOp .USub (.Constant (.int 1) k p1) p2)) p3) pos) (tRevT X.K te) := by
  refine ⟨fun pins s σ H Q I h => Subscript_ (thn (he.run pins s σ H _ I h) ?_)⟩
  rintro v s1 ⟨x, H1, I1, r1, a, xs, rfl, hx, q⟩
  cases r1
  have minus : PO X (some (.UnaryOp .USub (.Constant (.int 1) k p1) p2)) (tPart (tUn (rU fun i => .int (-i)) (tC (.int 1)))) := po_some (pe_un un_neg pe_int)
  refine wpAny_Slice (thn (po_none.run pins s1 σ H1 (fun o H2 => o = none ∧ H2 = H1) I1 ⟨rfl, rfl⟩) ?_)
  rintro vl s2 ⟨l, H2, I2, pl, rfl, rfl⟩
  refine thn (po_none.run pins s2 σ _ (fun o H3 => o = none ∧ H3 = _) I2 ⟨rfl, rfl⟩) ?_
  rintro vu s3 ⟨u, H3, I3, pu, rfl, rfl⟩
  refine thn (minus.run pins s3 σ _ (fun o H4 => o = some (-1) ∧ H4 = _) I3 ⟨1, rfl, -1, rfl, rfl, rfl⟩) ?_
  rintro vs s4 ⟨o, H4, I4, ps, rfl, rfl⟩
  cases pl
  cases pu
  have I5 := I4.kept (h' := s4.heap.push { cls := .type "slice", data := .fields #[.none, .none, vs] }) (t' := s4.toks) fun b ob z => Heap.get?_push_of_some _ z
  obtain ⟨its, r, ht, hz⟩ := I5.tuple hx
  have hlen := r.length
  show wpAny (model X.prog X.w) X.A (subscriptTail e (.Slice none none (some (.UnaryOp .USub (.Constant (.int 1) k p1) p2)) p3) (.ref a) (.ref s4.heap.objs.size)) (EP X pins σ Q) X.xe { s4 with heap := s4.heap.push { cls := .type "slice", data := .fields #[.none, .none, vs] } }
  refine tail_any (ops := [.ref a, .ref s4.heap.objs.size]) ht.typeIs PyProof.Rows.slot_tuple_getitem.lookup ?_ (by with_unfolding_all rfl)
  refine getItem_tup_rev ht (Heap.IsSliceOf.new _ .none .none vs) ps (by omega) ?_
  exact ⟨.ref _, _, I5.laid (t' := s4.toks) (o := .tup xs.reverse) (fun b ob z => Heap.get?_push_of_some _ z) (Nat.le_refl _) ⟨by rw [List.length_reverse]; exact hz, _, r.reverse, IsTup.new _ _⟩, rfl, q _ (I5.hok.fresh (Nat.le_refl _))⟩
end
end BX
/-! Rules that the layer lacks: enumerate(tuple); zip of two tuples of unlike lengths, as a loop. -/
namespace BX
open PySem PySem.Spec PyProof.Rows L2

theorem enum_newB {v : Value} {o : Obj} {F0 : Heap → Prop} (B : Begins v o F0) :
    Meets (Builtin.«enumerate.__new__» ⟨[.type "enumerate", v], []⟩) (fun _ R s => F0 s.heap ∧
      R (.ok (.ret (.ref (s.heap.push o).objs.size))) { s with heap := (s.heap.push o).push { cls := .type "enumerate", data := .fields #[.none, .bool false, .ref s.heap.objs.size, rawInt 0, .none, .none] } }) :=
  .of_wp fun prog w A R s h => by
    obtain ⟨hp, g, d, tk, os⟩ := s
    obtain ⟨h1, h2⟩ := h
    have sub := sub_enumerate
    have begins : ∀ {A' : Around} {E Q : Value → Shared → Prop}, Q (.ref hp.objs.size) ⟨hp.push o, g, d, tk, os⟩ → wpAny (model prog w) A' (pyIter v) Q E ⟨hp, g, d, tk, os⟩ :=
      fun q => B.iter prog w _ _ ⟨hp, g, d, tk, os⟩ _ h1 q
    wp_walk using begins
    refine wpAny_stack_any fun st => wpAny_pure ?_
    split
    · rename_i c _ _ _ _ _
      cases (c == Value.type "enumerate") <;> (wp_walk using begins; exact ⟨_, rfl, h2⟩)
    · wp_walk using begins
      exact ⟨_, rfl, h2⟩
section
variable {prog : Program} {w : World} {A : Around} {E : Value → Shared → Prop} {s : Shared}
theorem enum_one {v : Value} {o : Obj} {F0 : Heap → Prop} {Q : Value → Shared → Prop} (B : Begins v o F0) (h1 : F0 s.heap)
    (h : ∀ h', IsEnum h' (s.heap.objs.size + 1) s.heap.objs.size 0 .none → h'.get? s.heap.objs.size = some o → (∀ b u, s.heap.get? b = some u → h'.get? b = some u) → Q (.ref (s.heap.objs.size + 1)) { s with heap := h' }) :
    wpAny (model prog w) A (call (.type "enumerate") [v]) Q E s := by
  refine callType_new F.called_enumerate (by decide) (F.typeCall_enumerate_1 _) (F.newCall_enumerate_1 _) (fun obj => F.args_object_init_2 obj _) F.entry_enumerate_new (enum_newB B) ⟨h1, ?_⟩
  have z1 : (s.heap.push o).objs.size = s.heap.objs.size + 1 := Heap.size_push ..
  show _ ∧ _
  rw [z1]
  have it : IsEnum ((s.heap.push o).push { cls := .type "enumerate", data := .fields #[.none, .bool false, .ref s.heap.objs.size, rawInt 0, .none, .none] }) (s.heap.objs.size + 1) s.heap.objs.size 0 .none := by
    have q := Heap.get?_push_size (s.heap.push o) (o := { cls := .type "enumerate", data := .fields #[.none, .bool false, .ref s.heap.objs.size, rawInt 0, .none, .none] }) rfl
    rw [z1] at q
    exact q
  exact ⟨⟨_, it, rfl⟩, h _ it (Heap.get?_push_of_some _ (Heap.get?_push_size _ B.free)) fun b u x => Heap.get?_push_of_some _ (Heap.get?_push_of_some _ x)⟩
end

/-- the tuple at a, each item in a new pair with its place -/
def IteT (K : PySem.W.Frag) (a : Addr) : It :=
  ⟨fun i H => ∃ (xs : List V) (x : V), SqT K H a xs ∧ xs[i]? = some x,
   fun i H v H' => ∃ T x, v = .ref T ∧ H T = none ∧ H' = upd H T (.tup [.int (i : Nat), x]) ∧ ∀ xs, SqT K H a xs → xs[i]? = some x,
   fun i H => ∃ xs : List V, SqT K H a xs ∧ xs.length = i⟩
theorem turn_enumT {P : Program} {w : World} {K : PySem.W.Frag} {elts : List Expr} {kk : Nat} {tpos : Pos} (a e it : Addr) (hat : a ≠ it) :
    Turn P w K (.Tuple elts kk tpos) (IteT K a) [e, it] e (fun i h => (∃ old, IsEnum h e it ((i : Nat) : Int) old) ∧ h.IsTupleIter it a i ∧ e ≠ it ∧ a ≠ e) where
  mem := by simp
  obj := fun i h st b hb => by
    obtain ⟨⟨old, he⟩, ⟨o, ho, hc, hd⟩, _⟩ := st
    rcases (by simpa using hb : b = e ∨ b = it) with rfl | rfl
    · exact ⟨_, he, fun v q => nomatch q⟩
    · exact ⟨o, ho, fun v q => by rw [hd] at q; cases q⟩
  keep := fun i h h' st k => ⟨⟨st.1.choose, k e (by simp) _ st.1.choose_spec⟩, st.2.1.at fun o q => k it (by simp) o q, st.2.2⟩
  item := by
    intro X hP hw hK hc i pins s σ H E I hf st hg
    subst hP hw hK
    obtain ⟨⟨old, he⟩, hit, hne, hae⟩ := st
    obtain ⟨xs, x, hq, hx⟩ := hg
    obtain ⟨its, rv, p, hz⟩ := I.tuple hq
    obtain ⟨u, hu, ru⟩ := rv.get hx
    have hlt : i < its.toArray.size := by
      have := (List.getElem?_eq_some_iff.mp hu).1
      simpa using this
    have le : e < s.heap.objs.size := Heap.lt_size he
    have li : it < s.heap.objs.size := let ⟨_, q, _⟩ := hit; Heap.lt_size q
    refine wpAny_pyNext_enum_itemD (Draws.tuple (A := X.A.in1) (I.ok.hd hc) it a hat its.toArray) he ⟨hit, show s.heap.IsTuple a its.toArray from p⟩ hlt hne (by simp only [List.mem_cons, List.not_mem_nil, or_false, not_or]; exact ⟨hne, fun z => hae z.symm⟩) fun y h' tk hy ho hst hT hsz hk => ?_
    have ey : y = u := by
      have z : its.toArray[i]? = some y := hy
      rw [List.getElem?_toArray, hu] at z
      exact (Option.some.inj z).symm
    subst ey
    refine ⟨_, rfl, wpAny_letOwnedTupleGo_enum (s := { s with heap := h', toks := tk + 1 }) ho fun h'' he' sb => ?_⟩
    have hT2 : h''.get? s.heap.objs.size = some { cls := .type "tuple", data := .seq #[.int i tk, y] } := (sb.2 _ (Nat.ne_of_gt le)).trans hT
    have new : ObjOk X.prog X.w (upd H s.heap.objs.size (.tup [.int (i : Nat), x])) h'' s.heap.objs.size (.tup [.int (i : Nat), x]) :=
      ⟨by show 2 ≤ sizeLine; decide, [.int i tk, y], .cons ⟨_, rfl⟩ (.cons ru .nil), ⟨_, hT2, rfl, _, rfl⟩⟩
    have I1 := I.turnedNew (ch := [e, it]) (t' := tk + 1) (fun b ob hb q => (sb.2 b (fun z => hb (by simp [z]))).trans (hk b ob (fun z => hb (by simp [z])) (fun z => hb (by simp [z])) q)) hf (Nat.le_refl _) new
    refine ⟨.ref s.heap.objs.size, _, I1, rfl, ⟨_, x, rfl, I.hok.fresh (Nat.le_refl _), rfl, fun ys hy => by rw [I.tuple_inj hy hq]; exact hx⟩, ⟨⟨y, ?_⟩, hst.1.at fun o q => (sb.2 it (Ne.symm hne)).trans q, hne, hae⟩, fun b hb => ?_⟩
    · have e1 : ((i + 1 : Nat) : Int) = (i : Int) + 1 := by omega
      rw [e1]; exact he'
    · have hb' : b < s.heap.objs.size := by
        rcases (by simpa using hb : b = e ∨ b = it) with rfl | rfl
        · exact le
        · exact li
      exact (upd_ne (Nat.ne_of_lt hb')).trans (hf b hb).1
  done := by
    intro X hP hw hK hc i pins s σ H E I hf st hg
    subst hP hw hK
    obtain ⟨⟨old, he⟩, hit, hne, hae⟩ := st
    obtain ⟨xs, hq, hx⟩ := hg
    obtain ⟨its, rv, p, hz⟩ := I.tuple hq
    obtain ⟨f0, f1, f2, f3, f4, f5⟩ := hf it (by simp)
    have hl : its.toArray.size = i := by rw [List.size_toArray, ← rv.length, hx]
    refine wpAny_pyNext_enum_endD (Draws.tuple (A := X.A.in1) (I.ok.hd hc) it a hat its.toArray) he ⟨by rw [hl]; exact hit, show s.heap.IsTuple a its.toArray from p⟩ fun h' eb => ⟨rfl, I.turned (t' := s.toks) (fun b o hb q => eb b o hb q) f0 f1 f3 f4 f5⟩
  self := fun A i s Q E st h => wpAny_pyIter_enum st.1.choose_spec h

section
variable {X : Cx}
def iEnumT (K : PySem.W.Frag) (ta : TA) : TI := fun σ H R => ta σ H fun vs H1 => ∃ a xs, vs = [.ref a] ∧ SqT K H1 a xs ∧ R (IteT K a) H1
theorem pi_enumT {e : Expr} {ta : TA} {p pos tpos : Pos} {elts : List Expr} {kk : Nat} (hg : Gl X "enumerate") (hm : X.mg "enumerate" = none) (ha : PA X [e] ta) (hs : starEach [e] X.env = [(false, eval e X.env)] := by rfl) :
    PI X (.Tuple elts kk tpos) (.Call (.Name "enumerate" p) [e] [] pos) (iEnumT X.K ta) := by
  refine ⟨fun pins s σ H R I h => Call_ (ld_blt I hg hm boot_enumerate (PyProof.Rows.callWith_type1 (thn (ha.run pos pins s σ H _ I h) ?_) hs rfl))⟩
  rintro us s1 ⟨vs, H1, I1, r1, a, xs, rfl, hq, q⟩
  obtain ⟨u, rfl, r⟩ := r1.one
  cases r
  obtain ⟨its, rv, p', hz⟩ := I1.tuple hq
  have la : a < s1.heap.objs.size := p'.lt
  refine enum_one (begins_tuple a its.toArray) (show s1.heap.IsTuple a its.toArray from p') fun h' he hit hk => wpAny_pyIter_enum he ?_
  have I2 : Inv X pins σ H1 { s1 with heap := h' } := I1.kept (t' := s1.toks) hk
  refine ⟨s1.heap.objs.size + 1, [s1.heap.objs.size + 1, s1.heap.objs.size], _, _, H1, rfl, I2, turn_enumT a (s1.heap.objs.size + 1) s1.heap.objs.size (Nat.ne_of_lt la), ⟨⟨.none, he⟩, ⟨_, hit, rfl, rfl⟩, Nat.succ_ne_self _, Nat.ne_of_lt (Nat.lt_succ_of_lt la)⟩, fun b hb => ?_, q⟩
  have hle : s1.heap.objs.size ≤ b := by
    rcases (by simpa using hb : b = s1.heap.objs.size + 1 ∨ b = s1.heap.objs.size) with rfl | rfl
    · exact Nat.le_succ _
    · exact Nat.le_refl _
  exact I1.fpOk hle (I1.hok.fresh hle)
end
end BX
/-! Rules that the layer lacks: dict comprehensions whose keys are tuples, with one clause or two. -/
namespace BX
open PySem PySem.Spec PyProof.Rows L2

/-! ### what one turn of the second clause does, of a dict comprehension with two -/
section
variable (kx vx t0 i0 t1 i1 : Expr) (scope : Scope) (pos : Pos) (it : Value) (D : Addr) (env : Env)
/-- the comprehension itself -/
abbrev dc2 : Expr := .DictComp kx vx [⟨t0, i0, [], 0⟩, ⟨t1, i1, [], 0⟩] scope pos
theorem turn_outer : compTurn (dc2 kx vx t0 i0 t1 i1 scope pos) 0 it (.ref D) env = (standAt i0.pos >>= fun _ => pyNext it >>= fun
    | none => pure (.done .next)
    | some v => letOwnedTupleGo t0 it v >>= fun _ => assign t0 env v >>= fun _ => eval i1 env >>= fun x => standAt i1.pos >>= fun _ => foldedSetIterable i1 env x >>= fun x =>
        holding [x] (pyIter x) >>= fun it1 => runOwn (.compStart (dc2 kx vx t0 i0 t1 i1 scope pos) 1 it1 (.ref D) env) env >>= fun _ =>
          again (.compLoop (dc2 kx vx t0 i0 t1 i1 scope pos) 0 it (.ref D) env)) := by rfl
theorem turn_inner : compTurn (dc2 kx vx t0 i0 t1 i1 scope pos) 1 it (.ref D) env = (standAt i1.pos >>= fun _ => pyNext it >>= fun
    | none => pure (.done .next)
    | some v => letOwnedTupleGo t1 it v >>= fun _ => assign t1 env v >>= fun _ => (do
          let kv ← eval kx env
          let vv ← holding [kv] (eval vx env)
          standAt { kx.pos with endLine := vx.pos.endLine, endCol := vx.pos.endCol }
          holding [kv, vv] (dictSet D kv vv)) >>= fun _ => again (.compLoop (dc2 kx vx t0 i0 t1 i1 scope pos) 1 it (.ref D) env)) := by rfl
end
section
variable {prog : Program} {w : World} {A : Around} {R : Result → Shared → Prop} {s : Shared} {kx vx t0 i0 t1 i1 : Expr} {scope : Scope} {pos : Pos} {it : Value} {D : Addr} {env : Env}
abbrev raised (prog : Program) (w : World) (A : Around) (env : Env) (R : Result → Shared → Prop) : Value → Shared → Prop := notedBy (model prog w) A env fun e s' => R (.error e) s'
theorem loop_outer (hs : ∀ x, foldedSetIterable i1 env x = pure x) (J : Nat → Shared → Prop)
    (turn : ∀ n s, J n s → wpAny (model prog w) A (pyNext it) (fun
      | none, s1 => R (.ok .next) s1
      | some v, s1 => wpAny (model prog w) A (letOwnedTupleGo t0 it v) (fun _ s2 => wpAny (model prog w) A (assign t0 env v) (fun _ s3 => wpAny (model prog w) A (eval i1 env) (fun x s4 => wpAny (model prog w) A (pyIter x) (fun it1 s5 =>
          codeAny (model prog w) A (.compStart (dc2 kx vx t0 i0 t1 i1 scope pos) 1 it1 (.ref D) env) (fun r s6 => (∃ f, r = .ok f) ∧ ∃ m, m < n ∧ J m s6) s5)
          (raised prog w A env R) s4) (raised prog w A env R) s3) (raised prog w A env R) s2) (raised prog w A env R) s1) (raised prog w A env R) s)
    (n : Nat) (h : J n s) : codeAny (model prog w) A (.compLoop (dc2 kx vx t0 i0 t1 i1 scope pos) 0 it (.ref D) env) R s := by
  refine codeAny_loop rfl J (fun n s hJ => ?_) n h
  show wpAny _ A ((compTurn (dc2 kx vx t0 i0 t1 i1 scope pos) 0 it (.ref D) env).onRaise (fun x => do noteFrame x env; theTreesLotGoes x)) _ _ s
  refine wpAny_noted ?_
  rw [turn_outer]
  refine wpAny_bind (wpAny_standAt (wpAny_bind (wpAny_mono (turn n s hJ) (fun r s1 h1 => ?_) fun _ _ z => z)))
  cases r with
  | none => exact wpAny_pure h1
  | some v =>
    refine wpAny_bind (wpAny_mono h1 (fun _ s2 h2 => wpAny_bind (wpAny_mono h2 (fun _ s3 h3 => wpAny_bind (wpAny_mono h3 (fun x s4 h4 => ?_) fun _ _ z => z)) fun _ _ z => z)) fun _ _ z => z)
    refine wpAny_bind (wpAny_standAt (wpAny_bind (wpAny_of_eq (hs x) (wpAny_bind (wpAny_holding (wpAny_mono h4 (fun it1 s5 h5 => ?_) fun _ _ z => z))))))
    refine wpAny_bind (wpAny_runOwn ?_)
    rw [Around.mark_none]
    refine codeAny_mono h5 fun r s6 hr => ?_
    obtain ⟨⟨f, rfl⟩, hm⟩ := hr
    first
      | exact wpAny_pure ⟨rfl, hm⟩
      | exact wpAny_bind (wpAny_pure (wpAny_pure ⟨rfl, hm⟩))
theorem loop_inner (J : Nat → Shared → Prop)
    (turn : ∀ n s, J n s → wpAny (model prog w) A (pyNext it) (fun
      | none, s1 => R (.ok .next) s1
      | some v, s1 => wpAny (model prog w) A (letOwnedTupleGo t1 it v) (fun _ s2 => wpAny (model prog w) A (assign t1 env v) (fun _ s3 => wpAny (model prog w) A (eval kx env) (fun kv s4 => wpAny (model prog w) A (eval vx env) (fun vv s5 =>
          wpAny (model prog w) A (dictSet D kv vv) (fun _ s6 => ∃ m, m < n ∧ J m s6) (raised prog w A env R) s5) (raised prog w A env R) s4) (raised prog w A env R) s3) (raised prog w A env R) s2) (raised prog w A env R) s1) (raised prog w A env R) s)
    (n : Nat) (h : J n s) : codeAny (model prog w) A (.compLoop (dc2 kx vx t0 i0 t1 i1 scope pos) 1 it (.ref D) env) R s := by
  refine codeAny_loop rfl J (fun n s hJ => ?_) n h
  show wpAny _ A ((compTurn (dc2 kx vx t0 i0 t1 i1 scope pos) 1 it (.ref D) env).onRaise (fun x => do noteFrame x env; theTreesLotGoes x)) _ _ s
  refine wpAny_noted ?_
  rw [turn_inner]
  refine wpAny_bind (wpAny_standAt (wpAny_bind (wpAny_mono (turn n s hJ) (fun r s1 h1 => ?_) fun _ _ z => z)))
  cases r with
  | none => exact wpAny_pure h1
  | some v =>
    refine wpAny_bind (wpAny_mono h1 (fun _ s2 h2 => wpAny_bind (wpAny_mono h2 (fun _ s3 h3 => wpAny_bind (wpAny_bind (wpAny_mono h3 (fun kv s4 h4 => ?_) fun _ _ z => z))) fun _ _ z => z)) fun _ _ z => z)
    refine wpAny_bind (wpAny_holding (wpAny_mono h4 (fun vv s5 h5 => wpAny_bind (wpAny_standAt (wpAny_holding (wpAny_mono h5 (fun _ s6 h6 => ?_) fun _ _ z => z)))) fun _ _ z => z))
    exact wpAny_pure ⟨rfl, h6⟩
theorem start_inner (h0 : codeAny (model prog w) A (.compLoop (dc2 kx vx t0 i0 t1 i1 scope pos) 1 it (.ref D) env) R s)
    (h : wpAny (model prog w) A (pyIter it) (fun it' s' => codeAny (model prog w) A (.compLoop (dc2 kx vx t0 i0 t1 i1 scope pos) 1 it' (.ref D) env) R s') (raised prog w A env R) s) :
    codeAny (model prog w) A (.compStart (dc2 kx vx t0 i0 t1 i1 scope pos) 1 it (.ref D) env) R s := by
  refine codeAny_of_tree ?_
  show wpAny _ _ ((compStart (dc2 kx vx t0 i0 t1 i1 scope pos) 1 it (.ref D) env).onRaise (fun x => do noteFrame x env; standAt theWindowsPlace)) _ _ s
  refine wpAny_notedAt ?_
  unfold compStart
  show wpAny _ _ (ask >>= _) _ _ s
  refine wpAny_bind (wpAny_askSetting (wpAny_ite ?_))
  split
  · first
      | exact wpAny_bind (wpAny_pure (wpAny_pure (And.intro rfl h0)))
      | exact wpAny_pure (And.intro rfl h0)
  · refine wpAny_bind (wpAny_rule ?_)
    first
      | exact wpAny_bind (wpAny_standAt (wpAny_bind (wpAny_mono h (fun _ _ z => wpAny_pure (And.intro rfl z)) fun _ _ x => x)))
      | (show wpAny _ _ (standAt i1.pos >>= _) _ _ s; exact wpAny_bind (wpAny_standAt (wpAny_bind (wpAny_mono h (fun _ _ z => wpAny_pure (And.intro rfl z)) fun _ _ x => x))))
end

/-- d[k] = v as a comprehension does it, k a tuple -/
theorem put_tup {X : Cx} {pins : List (Addr × Obj)} {σ : L2.St} {H : Hp} {s : Shared} {E : Value → Shared → Prop} {D b : Addr} {kvs : List (List Key × V)} {k : List Key} {v : V} {u r : Value} {Q : Unit → Shared → Prop} (hu : X.A.units + 1 < cLine) (I : Inv X pins σ H s)
    (hD : H D = some (.dT kvs)) (hb : H b = some (.tup (k.map kV))) (hz : kvs.length < sizeLine) (ry : RelV (.ref b) u) (rv : RelV v r) (h : ∀ s', Inv X pins σ (upd H D (.dT (putK kvs k v))) s' → Q () s') :
    wpAny (model X.prog X.w) X.A (dictSet D u r) Q E s := by
  cases ry
  obtain ⟨z, lo, xs, rel, dd⟩ := dt_of I.hok hD
  have l1 : xs.length ≤ sizeLine := by rw [← Paired.length rel]; exact z
  have l2 := length_putK kvs k v
  refine wpAny_dictSet_heap (hsz := l1) (by show X.A.units < cLine; omega) (key_of I.hok hb) dd fun h' dd' hs => h _ ?_
  obtain ⟨q, es, ep, hq, h2, h3, h4, _, h5⟩ := dd'
  refine d_write I (by rw [hD]; trivial) hs ⟨q, hq⟩ ⟨by omega, lo, _, (rel.put k hb rv).keeps fun c ys ec => ?_, q, es, ep, hq, h2, h3, h4, h5⟩
  exact (upd_ne (ne_of ec hD fun z => nomatch z)).trans ec

section
variable {X : Cx}
/-- {k: v for tg in iter}, the keys tuples: J what is walked, D the new dict, W what holds ahead of each turn -/
def bDcT (g : TG) (tk tv : TE) (vs : List Nat) (σ : L2.St) (Q : VK) : It → Addr → (Nat → Nat → Hp → Prop) → Prop := fun J D W =>
  ∀ i m H, W i m H → (J.stop i H ∧ Q (.ref D) H) ∨ (J.go i H ∧ ∃ Nx : Hp → Prop, (∀ H', Nx H' → ∃ m', m' < m ∧ W (i + 1) m' H') ∧
    ∀ x H', J.yld i H x H' → g x (wipe σ vs) H' fun σ2 H2 => wipe σ2 vs = wipe σ vs ∧ tk σ2 H2 fun y H3 => tv σ2 H3 fun z H4 =>
      ∃ kvs k b, y = .ref b ∧ H4 b = some (.tup (k.map kV)) ∧ H4 D = some (.dT kvs) ∧ kvs.length < sizeLine ∧ Nx (upd H4 D (.dT (putK kvs k z))))
def tDcT (wi : TI) (g : TG) (tk tv : TE) (vs : List Nat) : TE := fun σ H Q => wi σ H fun J H1 => ∀ D, H1 D = none → ∃ W : Nat → Nat → Hp → Prop, (∃ m, W 0 m (upd H1 D (.dT []))) ∧ bDcT g tk tv vs σ Q J D W
/-- {k: v for tg in iter for tg1 in iter1}; vs1: the second target's own slots -/
def bDcT2 (g : TG) (wi1 : TI) (g1 : TG) (tk tv : TE) (vs vs1 : List Nat) (σ : L2.St) (Q : VK) : It → Addr → (Nat → Nat → Hp → Prop) → Prop := fun J D W =>
  ∀ i m H, W i m H → (J.stop i H ∧ Q (.ref D) H) ∨ (J.go i H ∧ ∃ Nx : Hp → Prop, (∀ H', Nx H' → ∃ m', m' < m ∧ W (i + 1) m' H') ∧
    ∀ x H', J.yld i H x H' → g x (wipe σ vs) H' fun σ2 H2 => wipe σ2 vs = wipe σ vs ∧ wi1 σ2 H2 fun J1 H3 => ∃ W1 : Nat → Nat → Hp → Prop, (∃ m, W1 0 m H3) ∧
      ∀ j k H, W1 j k H → (J1.stop j H ∧ Nx H) ∨ (J1.go j H ∧ ∃ Nx1 : Hp → Prop, (∀ H', Nx1 H' → ∃ k', k' < k ∧ W1 (j + 1) k' H') ∧
        ∀ x1 H', J1.yld j H x1 H' → g1 x1 (wipe σ2 vs1) H' fun σ3 H5 => wipe σ3 vs1 = wipe σ2 vs1 ∧ tk σ3 H5 fun y H6 => tv σ3 H6 fun z H7 =>
          ∃ kvs kk b, y = .ref b ∧ H7 b = some (.tup (kk.map kV)) ∧ H7 D = some (.dT kvs) ∧ kvs.length < sizeLine ∧ Nx1 (upd H7 D (.dT (putK kvs kk z)))))
def tDcT2 (wi : TI) (g : TG) (wi1 : TI) (g1 : TG) (tk tv : TE) (vs vs1 : List Nat) : TE := fun σ H Q => wi σ H fun J H1 => ∀ D, H1 D = none → ∃ W : Nat → Nat → Hp → Prop, (∃ m, W 0 m (upd H1 D (.dT []))) ∧ bDcT2 g wi1 g1 tk tv vs vs1 σ Q J D W
/-- the block's context, whatever stands at its start -/
abbrev AllBlk (X : Cx) (scope : Scope) (F : Cx → Prop) : Prop := ∀ (s : Shared) (H : Hp) (C : Addr) (cl : List (Str × Addr)) (fp : List Addr), F (X.blk s H scope (compEnvC scope cl C X.env) fp)

/-- the iterator's cells as the block's context sees them -/
theorem fp_blk {X : Cx} {s : Shared} {H : Hp} {scope : Scope} {ce : Env} {fp : List Addr} {σ' : L2.St} {H' : Hp} {s' : Shared} (I : Inv (X.blk s H scope ce fp) [] σ' H' s') (hn : ∀ b ∈ fp, H' b = none) : ∀ b ∈ fp, FpOk (X.blk s H scope ce fp) [] H' b :=
  fun b hb => ⟨hn b hb, (I.ok.exf b hb).1, I.ok.exfs b hb, .inl hb, fun x c e => (I.ok.exf b hb).2 x c e, fun p hp => by simp at hp⟩
/-- what a pinned iterator's cells are behind a turn -/
theorem pinned_at {X : Cx} {pins : List (Addr × Obj)} {σ : L2.St} {H : Hp} {s : Shared} {fp : List Addr} {h : Heap} (I : Inv X (pins ++ pinsAt fp h) σ H s) : ∀ b ∈ fp, ∀ o, h.get? b = some o → s.heap.get? b = some o ∧ H b = none := fun b hb o e =>
  ⟨(I.pin (b, o) (List.mem_append_right _ (List.mem_append_right _ (mem_pinsAt hb e)))).1, (I.pin (b, o) (List.mem_append_right _ (List.mem_append_right _ (mem_pinsAt hb e)))).2.1⟩

/-- the frame of every dict comprehension with tuple keys: what its loop is to show -/
theorem dcT_core {use : Option (Value → Sem Unit)} {Qf : Value → Shared → Prop} {pos' : Pos} {pins : List (Addr × Obj)} {s : Shared} {σ : L2.St} {H : Hp} {Q : VK} {kx vx tg iter : Expr} {more : List Comprehension} {scope : Scope} {own : List (Str × Nat)} {pos : Pos} {wi : TI}
    {body : It → Addr → (Nat → Nat → Hp → Prop) → Prop} (hN : X.N.Nodup) (hc : X.calm = true) (I : Inv X pins σ H s) (hi : PI X tg iter wi) (ok : BlkOk X.N X.env.scope scope own) (hs : ∀ x, foldedSetIterable iter X.env x = pure x)
    (h : wi σ H fun J H1 => ∀ D, H1 D = none → ∃ W : Nat → Nat → Hp → Prop, (∃ m, W 0 m (upd H1 D (.dT []))) ∧ body J D W)
    (loop : ∀ (s3 : Shared) (H3 : Hp) (ce : Env) (cl : List (Str × Addr)) (C : Addr) (fp : List Addr) (it D : Addr) (J : It) (tn : Nat → Heap → Prop) (W : Nat → Nat → Hp → Prop) (m0 : Nat) (s4 : Shared) (R : Result → Shared → Prop),
      ce = compEnvC scope cl C X.env → Turn X.prog X.w X.K tg J fp it tn → body J D W → W 0 m0 H3 → Inv (X.blk s3 H3 scope ce fp) [] (wipe σ (own.map (·.2))) H3 s4 → tn 0 s4.heap → (∀ b ∈ fp, H3 b = none) →
      (∀ H5 s6, Inv (X.blk s3 H3 scope ce fp) [] (wipe σ (own.map (·.2))) H5 s6 → Q (.ref D) H5 → R (.ok .next) s6) →
      codeAny (model X.prog X.w) X.A (.compLoop (.DictComp kx vx (⟨tg, iter, [], 0⟩ :: more) scope pos) 0 (.ref it) (.ref D) ce) R s4)
    (hRR : ∀ D C s' m H', Inv X pins σ H' s' → Q (.ref D) H' → s'.heap.Ns C m → FpOk X pins H' C → compPost (model X.prog X.w) X.A X.xe use Qf (.ref D) C (.ok .next) s') :
    wpAny (model X.prog X.w) X.A (comprehension (.DictComp kx vx (⟨tg, iter, [], 0⟩ :: more) scope pos) scope X.env pos' newDict false (eval iter X.env) use) Qf X.xe s := by
  have hfree : ∀ y ∈ scope.names, y.2 = .free → ∃ c, X.env.cells.lookup y.1 = some c := fun y hy e => (ok.free y hy e).elim (fun k => I.ok.has _ (.inl k)) fun k => I.ok.has _ (.inr k)
  refine wpAny_comprehension_free (use := use) rfl hs (closure_ok hfree) ok.kind (fun y hy e => by rw [ok.uniq y hy, e]) (thn (hi.run pins s σ H _ I h) fun xv s1 hx => thn hx ?_)
  rintro itv s2 ⟨it, fp, tn, J, H2, rfl, I2, T, st2, f2, q⟩
  refine wpAny_newObj_type (newEnv_comp ?_)
  obtain ⟨W, ⟨m0, w0⟩, hbody⟩ := q s2.heap.objs.size (I2.hok.fresh (Nat.le_refl _))
  have I3 : Inv X pins σ (upd H2 s2.heap.objs.size (.dT [])) { s2 with heap := s2.heap.push { cls := .type "dict", data := .dict #[] } } :=
    I2.laid (t' := s2.toks) (fun b o e => Heap.get?_push_of_some _ e) (Nat.le_refl _) (dt_empty s2.heap I2.big)
  have f3 : ∀ b ∈ fp, FpOk X pins (upd H2 s2.heap.objs.size (.dT [])) b ∧ b < (s2.heap.push { cls := .type "dict", data := .dict #[] }).objs.size := fun b hb => by
    obtain ⟨o, e, _⟩ := T.obj _ _ st2 b hb
    have hlt := Heap.lt_size e
    exact ⟨⟨(upd_ne (Nat.ne_of_lt hlt)).trans (f2 b hb).1, (f2 b hb).2⟩, by rw [Heap.size_push]; exact Nat.lt_succ_of_lt hlt⟩
  have st3 : tn 0 (s2.heap.push { cls := .type "dict", data := .dict #[] }) := T.keep _ _ _ st2 fun b _ o e => Heap.get?_push_of_some _ e
  generalize hs3 : ({ s2 with heap := s2.heap.push { cls := .type "dict", data := .dict #[] } } : Shared) = s3 at I3
  have h3 : s3.heap = s2.heap.push { cls := .type "dict", data := .dict #[] } := by rw [← hs3]
  have I4 := block_start (s := s3) I3 ok hN (fp := fp) (fun b hb => by rw [h3]; exact f3 b hb)
  have st4 : tn 0 (pushCells (s3.heap.push { cls := .type "dict", data := .dict #[] }) scope.names) := T.keep _ _ _ (show tn 0 s3.heap by rw [h3]; exact st3) fun b _ o e => pushCells_keeps _ _ _ _ (Heap.get?_push_of_some _ e)
  have go := fun R hR => loop s3 (upd H2 s2.heap.objs.size (.dT [])) _ (cellsFrom (s3.heap.objs.size + 1) scope.names (cloFrom X.env.cells scope.names [])) s3.heap.objs.size fp it s2.heap.objs.size J tn W m0 _ R rfl T hbody w0 I4 st4 (fun b hb => (f3 b hb).1.1) hR
  have done : codeAny (model X.prog X.w) X.A (.compLoop (.DictComp kx vx (⟨tg, iter, [], 0⟩ :: more) scope pos) 0 (.ref it) (.ref s2.heap.objs.size) (compEnvC scope (cellsFrom (s3.heap.objs.size + 1) scope.names (cloFrom X.env.cells scope.names [])) s3.heap.objs.size X.env))
      (compPost (model X.prog X.w) X.A X.xe use Qf (.ref s2.heap.objs.size) s3.heap.objs.size) { s3 with heap := pushCells (s3.heap.push { cls := .type "dict", data := .dict #[] }) scope.names } := by
    refine go _ fun H5 s6 I6 qq => ?_
    have I7 : Inv X pins σ H5 s6 := I3.call' (ch := fp) I6.os I6.base I6.hok I6.bare fun b hb => ⟨(f3 b hb).1.2.2.2.1, (f3 b hb).1.2.1, (f3 b hb).1.2.2.2.2.1, (f3 b hb).1.2.2.2.2.2⟩
    obtain ⟨m, hn, _⟩ := I6.loc
    have nC : H5 s3.heap.objs.size = none := I6.free
    exact hRR _ _ s6 m H5 I7 qq hn (I3.fpOk (Nat.le_refl _) nC)
  exact codeAny_compStart_dict done (T.self X.A 0 _ _ _ st4 done)
theorem dcT_frame {pins : List (Addr × Obj)} {s : Shared} {σ : L2.St} {H : Hp} {Q : VK} {kx vx tg iter : Expr} {more : List Comprehension} {scope : Scope} {own : List (Str × Nat)} {pos : Pos} {wi : TI}
    {body : It → Addr → (Nat → Nat → Hp → Prop) → Prop} (hN : X.N.Nodup) (hc : X.calm = true) (I : Inv X pins σ H s) (hi : PI X tg iter wi) (ok : BlkOk X.N X.env.scope scope own) (hs : ∀ x, foldedSetIterable iter X.env x = pure x)
    (h : wi σ H fun J H1 => ∀ D, H1 D = none → ∃ W : Nat → Nat → Hp → Prop, (∃ m, W 0 m (upd H1 D (.dT []))) ∧ body J D W)
    (loop : ∀ (s3 : Shared) (H3 : Hp) (ce : Env) (cl : List (Str × Addr)) (C : Addr) (fp : List Addr) (it D : Addr) (J : It) (tn : Nat → Heap → Prop) (W : Nat → Nat → Hp → Prop) (m0 : Nat) (s4 : Shared) (R : Result → Shared → Prop),
      ce = compEnvC scope cl C X.env → Turn X.prog X.w X.K tg J fp it tn → body J D W → W 0 m0 H3 → Inv (X.blk s3 H3 scope ce fp) [] (wipe σ (own.map (·.2))) H3 s4 → tn 0 s4.heap → (∀ b ∈ fp, H3 b = none) →
      (∀ H5 s6, Inv (X.blk s3 H3 scope ce fp) [] (wipe σ (own.map (·.2))) H5 s6 → Q (.ref D) H5 → R (.ok .next) s6) →
      codeAny (model X.prog X.w) X.A (.compLoop (.DictComp kx vx (⟨tg, iter, [], 0⟩ :: more) scope pos) 0 (.ref it) (.ref D) ce) R s4) :
    wpAny (model X.prog X.w) X.A (eval (.DictComp kx vx (⟨tg, iter, [], 0⟩ :: more) scope pos) X.env) (EP X pins σ Q) X.xe s := by
  rw [arm_eval_DictComp]
  refine dcT_core hN hc I hi ok hs h loop fun D C s' m H' I' q hn f => ⟨m, hn, fun h'' sb => ?_⟩
  obtain ⟨f0, f1, _, f3, f4, f5⟩ := f
  exact ⟨.ref D, H', I'.turned (t' := s'.toks) (fun b o hb e => (sb.2 b hb).trans e) f0 f1 f3 f4 f5, rfl, q⟩
theorem pe_dcT {kx vx tg iter : Expr} {scope : Scope} {own : List (Str × Nat)} {pos : Pos} {wi : TI} {g : TG} {tk tv : TE} (hc : X.calm = true) (hN : X.N.Nodup) (hu : X.A.units + 1 < cLine) (hi : PI X tg iter wi) (ok : BlkOk X.N X.env.scope scope own)
    (hg : AllBlk X scope fun Y => PG Y tg g) (hk : AllBlk X scope fun Y => PE Y kx tk) (he : AllBlk X scope fun Y => PE Y vx tv) (hs : ∀ x, foldedSetIterable iter X.env x = pure x := by intro _; rfl) :
    PE X (.DictComp kx vx [⟨tg, iter, [], 0⟩] scope pos) (tDcT wi g tk tv (own.map (·.2))) := by
  refine ⟨fun pins s σ H Q I h => ?_⟩
  refine dcT_frame (own := own) (wi := wi) (body := bDcT g tk tv (own.map fun p : Str × Nat => p.2) σ Q) hN hc I hi ok hs h ?_
  intro s3 H3 ce cl C fp it D J tn W m0 s4 R hce T turn w0 I4 st4 n4 hR
  have pg := hce ▸ hg s3 H3 C cl fp
  have pk := hce ▸ hk s3 H3 C cl fp
  have pe := hce ▸ he s3 H3 C cl fp
  clear hce
  refine compLoop_anyD (fun n s' => ∃ i H', Inv (X.blk s3 H3 scope ce fp) [] (wipe σ (own.map (·.2))) H' s' ∧ tn i s'.heap ∧ (∀ b ∈ fp, H' b = none) ∧ W i n H') ?_ m0 ⟨0, H3, I4, st4, n4, w0⟩
  rintro n s5 ⟨i, H5, I5, st5, n5, w5⟩
  rcases turn i n H5 w5 with ⟨stop, qq⟩ | ⟨go, Nx, hNx, step⟩
  · refine thnF (T.done (X.blk s3 H3 scope ce fp) rfl rfl rfl hc i [] s5 _ H5 (fun _ _ => False) I5 (fp_blk I5 n5) st5 stop) ?_
    rintro r s6 ⟨rfl, I6⟩
    exact hR H5 s6 I6 qq
  · refine thnF (T.item (X.blk s3 H3 scope ce fp) rfl rfl rfl hc i [] s5 _ H5 (fun _ _ => False) I5 (fp_blk I5 n5) st5 go) ?_
    rintro r s6 ⟨u, rfl, h6⟩
    refine thnF h6 ?_
    rintro _ s7 ⟨x, H7, I7, r7, y7, st7, n7⟩
    refine thnF (pg.run _ s7 _ H7 x u _ (I7.pinned (fp_blk I7 n7) (T.obj _ _ st7)) r7 (step x H7 y7)) ?_
    rintro _ s8 ⟨σ8, H8, I8, hw8, q8⟩
    refine thnF (wpAny_tests_nil (Q := fun b s9 => b = true ∧ L2.Inv (X.blk s3 H3 scope ce fp) ([] ++ pinsAt fp s7.heap) σ8 H8 s9) ⟨rfl, I8⟩) ?_
    rintro b s9 ⟨rfl, I9⟩
    rw [if_pos rfl]
    refine thnF (pk.run _ s9 σ8 H8 _ I9 q8) ?_
    rintro z s10 ⟨yk, H10, I10, r10, q10⟩
    refine thnF (pe.run _ s10 σ8 H10 _ I10 q10) ?_
    rintro z2 s11 ⟨yv, H11, I11, r11, kvs, k, b, rfl, hb11, hD11, hz11, nx⟩
    refine put_tup (X := X.blk s3 H3 scope ce fp) hu I11 hD11 hb11 hz11 r10 r11 fun s12 I12 => ?_
    obtain ⟨m', hm, w'⟩ := hNx _ nx
    have pn := pinned_at I12
    refine ⟨m', hm, i + 1, _, (I12.unpinned (pins := [])).weak (by rw [← hw8, wipe_length]) (fun j v e => by rw [← hw8] at e; exact (wipe_some e).1), T.keep _ _ _ st7 fun b hb o e => (pn b hb o e).1, fun b hb => ?_, w'⟩
    obtain ⟨o, e, _⟩ := T.obj _ _ st7 b hb
    exact (pn b hb o e).2
theorem sw_trueD {kx vx : Expr} {gs : List Comprehension} {scope : Scope} {pos py : Pos} {y : Str} {l : Nat} {env : Env} (hk : env.scope.kind = .function) (hy : env.scope.names.lookup y = some .local) (hl : (py.line == pos.line) = true)
    (ha : (scope.names.any fun (n, k) => n == y && (k == .local || k == .cell)) = false) : swapsWith (.DictComp kx vx gs scope pos) (some (.Name y py)) l env = pure true := by
  have ky : env.kindOf y = some .local := hy
  have hb : env.blockKind = .function := by unfold Env.blockKind; rw [hk]; rfl
  unfold swapsWith
  simp only [hb, ky, ha, Expr.pos, hl]
  rfl
/-- name = {k: v for ..}, the keys tuples -/
theorem ps_setDcT {i : Nat} {y : Str} {py : Pos} {kx vx tg iter : Expr} {scope : Scope} {own : List (Str × Nat)} {pos spos : Pos} {wi : TI} {g : TG} {tk tv : TE} (hc : X.calm = true) (hN : X.N.Nodup) (hu : X.A.units + 1 < cLine) (hy : X.N[i]? = some y) (hyl : X.env.scope.names.lookup y = some .local)
    (hsw : swapsWith (.DictComp kx vx [⟨tg, iter, [], 0⟩] scope pos) (some (.Name y py)) spos.line X.env = pure true) (hi : PI X tg iter wi) (ok : BlkOk X.N X.env.scope scope own)
    (hg : AllBlk X scope fun Y => PG Y tg g) (hk : AllBlk X scope fun Y => PE Y kx tk) (he : AllBlk X scope fun Y => PE Y vx tv) (hs : ∀ x, foldedSetIterable iter X.env x = pure x := by intro _; rfl) :
    PS X (.Assign [.Name y py] (.DictComp kx vx [⟨tg, iter, [], 0⟩] scope pos) spos) (tAsg (tDcT wi g tk tv (own.map (·.2))) (gName i)) := by
  refine ⟨fun pins s σ H D I h => ?_⟩
  rw [exec_Assign_Name_used _ _ _ _ hsw]
  refine wpAny_bind (wpAny_standAt (wpAny_bind ?_))
  show wpAny _ X.A (do let _ ← comprehension (.DictComp kx vx [⟨tg, iter, [], 0⟩] scope pos) scope X.env (firstIterPos [⟨tg, iter, [], 0⟩] pos) newDict false (eval iter X.env) (some (assign (.Name y py) X.env))) _ _ s
  have h : tDcT wi g tk tv (own.map (·.2)) σ H (fun x H1 => gName i x σ H1 D.nx) := h
  refine wpAny_bind (thn (dcT_core (Q := fun x H1 => gName i x σ H1 D.nx) (Qf := fun _ s' => SP X pins D .next s') (own := own) (wi := wi) (body := bDcT g tk tv (own.map fun p : Str × Nat => p.2) σ _) hN hc I hi ok hs h ?_ fun L C s' m H' I' q hn f => ?_) fun _ s' hq => wpAny_pure (wpAny_pure hq))
  · intro s3 H3 ce cl C fp it D J tn W m0 s4 R hce T turn w0 I4 st4 n4 hR
    have pg := hce ▸ hg s3 H3 C cl fp
    have pk := hce ▸ hk s3 H3 C cl fp
    have pe := hce ▸ he s3 H3 C cl fp
    clear hce
    refine compLoop_anyD (fun n s' => ∃ i H', Inv (X.blk s3 H3 scope ce fp) [] (wipe σ (own.map (·.2))) H' s' ∧ tn i s'.heap ∧ (∀ b ∈ fp, H' b = none) ∧ W i n H') ?_ m0 ⟨0, H3, I4, st4, n4, w0⟩
    rintro n s5 ⟨i, H5, I5, st5, n5, w5⟩
    rcases turn i n H5 w5 with ⟨stop, qq⟩ | ⟨go, Nx, hNx, step⟩
    · refine thnF (T.done (X.blk s3 H3 scope ce fp) rfl rfl rfl hc i [] s5 _ H5 (fun _ _ => False) I5 (fp_blk I5 n5) st5 stop) ?_
      rintro r s6 ⟨rfl, I6⟩
      exact hR H5 s6 I6 qq
    · refine thnF (T.item (X.blk s3 H3 scope ce fp) rfl rfl rfl hc i [] s5 _ H5 (fun _ _ => False) I5 (fp_blk I5 n5) st5 go) ?_
      rintro r s6 ⟨u, rfl, h6⟩
      refine thnF h6 ?_
      rintro _ s7 ⟨x, H7, I7, r7, y7, st7, n7⟩
      refine thnF (pg.run _ s7 _ H7 x u _ (I7.pinned (fp_blk I7 n7) (T.obj _ _ st7)) r7 (step x H7 y7)) ?_
      rintro _ s8 ⟨σ8, H8, I8, hw8, q8⟩
      refine thnF (wpAny_tests_nil (Q := fun b s9 => b = true ∧ L2.Inv (X.blk s3 H3 scope ce fp) ([] ++ pinsAt fp s7.heap) σ8 H8 s9) ⟨rfl, I8⟩) ?_
      rintro b s9 ⟨rfl, I9⟩
      rw [if_pos rfl]
      refine thnF (pk.run _ s9 σ8 H8 _ I9 q8) ?_
      rintro z s10 ⟨yk, H10, I10, r10, q10⟩
      refine thnF (pe.run _ s10 σ8 H10 _ I10 q10) ?_
      rintro z2 s11 ⟨yv, H11, I11, r11, kvs, k, b, rfl, hb11, hD11, hz11, nx⟩
      refine put_tup (X := X.blk s3 H3 scope ce fp) hu I11 hD11 hb11 hz11 r10 r11 fun s12 I12 => ?_
      obtain ⟨m', hm, w'⟩ := hNx _ nx
      have pn := pinned_at I12
      refine ⟨m', hm, i + 1, _, (I12.unpinned (pins := [])).weak (by rw [← hw8, wipe_length]) (fun j v e => by rw [← hw8] at e; exact (wipe_some e).1), T.keep _ _ _ st7 fun b hb o e => (pn b hb o e).1, fun b hb => ?_, w'⟩
      obtain ⟨o, e, _⟩ := T.obj _ _ st7 b hb
      exact (pn b hb o e).2
  · show wpAny _ _ (assign (.Name y py) X.env (.ref L)) _ _ _
    refine wpAny_assign_Name (store_ok2 (v := V.ref L) I' hN hy (.inl hyl) rfl (fun s2 I2 ⟨a, sb, ha⟩ => ?_) (.inr hyl))
    obtain ⟨f0, f1, f2, f3, f4, f5⟩ := f
    have haC : C ≠ a := by
      rcases ha with z | z
      · rw [z]; exact f1
      · exact fun e => f4 y a z e.symm
    refine ⟨m, hn.sameBut sb haC, fun h3 sb3 => ?_⟩
    exact ⟨_, H', I2.turned (t' := s2.toks) (fun b o hb e => (sb3.2 b hb).trans e) f0 f1 f3 f4 f5, q⟩
theorem pe_dcT2 {kx vx tg iter tg1 iter1 : Expr} {scope : Scope} {own : List (Str × Nat)} {vs1 : List Nat} {pos : Pos} {wi wi1 : TI} {g g1 : TG} {tk tv : TE} (hc : X.calm = true) (hN : X.N.Nodup) (hu : X.A.units + 1 < cLine) (hi : PI X tg iter wi) (ok : BlkOk X.N X.env.scope scope own)
    (hv : ∀ i ∈ vs1, i ∈ own.map (·.2)) (hg : AllBlk X scope fun Y => PG Y tg g) (hi1 : AllBlk X scope fun Y => PI Y tg1 iter1 wi1) (hg1 : AllBlk X scope fun Y => PG Y tg1 g1) (hk : AllBlk X scope fun Y => PE Y kx tk) (he : AllBlk X scope fun Y => PE Y vx tv)
    (hs : ∀ x, foldedSetIterable iter X.env x = pure x := by intro _; rfl) (hs1 : ∀ env x, foldedSetIterable iter1 env x = pure x := by intro _ _; rfl) :
    PE X (.DictComp kx vx [⟨tg, iter, [], 0⟩, ⟨tg1, iter1, [], 0⟩] scope pos) (tDcT2 wi g wi1 g1 tk tv (own.map (·.2)) vs1) := by
  refine ⟨fun pins s σ H Q I h => ?_⟩
  refine dcT_frame (own := own) (wi := wi) (body := bDcT2 g wi1 g1 tk tv (own.map fun p : Str × Nat => p.2) vs1 σ Q) hN hc I hi ok hs h ?_
  intro s3 H3 ce cl C fp it D J tn W m0 s4 R hce T turn w0 I4 st4 n4 hR
  have pg := hce ▸ hg s3 H3 C cl fp
  have pi1 := hce ▸ hi1 s3 H3 C cl fp
  have pg1 := hce ▸ hg1 s3 H3 C cl fp
  have pk := hce ▸ hk s3 H3 C cl fp
  have pe := hce ▸ he s3 H3 C cl fp
  clear hce
  refine loop_outer (hs1 ce) (fun n s' => ∃ i H', Inv (X.blk s3 H3 scope ce fp) [] (wipe σ (own.map (·.2))) H' s' ∧ tn i s'.heap ∧ (∀ b ∈ fp, H' b = none) ∧ W i n H') ?_ m0 ⟨0, H3, I4, st4, n4, w0⟩
  rintro n s5 ⟨i, H5, I5, st5, n5, w5⟩
  rcases turn i n H5 w5 with ⟨stop, qq⟩ | ⟨go, Nx, hNx, step⟩
  · refine thnF (T.done (X.blk s3 H3 scope ce fp) rfl rfl rfl hc i [] s5 _ H5 (fun _ _ => False) I5 (fp_blk I5 n5) st5 stop) ?_
    rintro r s6 ⟨rfl, I6⟩
    exact hR H5 s6 I6 qq
  refine thnF (T.item (X.blk s3 H3 scope ce fp) rfl rfl rfl hc i [] s5 _ H5 (fun _ _ => False) I5 (fp_blk I5 n5) st5 go) ?_
  rintro r s6 ⟨u, rfl, h6⟩
  refine thnF h6 ?_
  rintro _ s7 ⟨x, H7, I7, r7, y7, st7, n7⟩
  refine thnF (pg.run _ s7 _ H7 x u _ (I7.pinned (fp_blk I7 n7) (T.obj _ _ st7)) r7 (step x H7 y7)) ?_
  rintro _ s8 ⟨σ8, H8, I8, hw8, q8⟩
  refine thnF (pi1.run _ s8 σ8 H8 _ I8 q8) fun xv s10 hx => thnF hx ?_
  rintro itv s11 ⟨it1, fp1, tn1, J1, H11, rfl, I11, T1, st11, f11, W1, ⟨m1, w1⟩, turn1⟩
  -- the way back to the outer loop
  have back : ∀ {s' : Shared} {H' : Hp}, Inv (X.blk s3 H3 scope ce fp) ([] ++ pinsAt fp s7.heap) (wipe σ8 vs1) H' s' → Nx H' → ∃ m, m < n ∧ ∃ i H', Inv (X.blk s3 H3 scope ce fp) [] (wipe σ (own.map (·.2))) H' s' ∧ tn i s'.heap ∧ (∀ b ∈ fp, H' b = none) ∧ W i m H' := fun {s' H'} I' nx => by
    obtain ⟨m', hm, w'⟩ := hNx H' nx
    have pn := pinned_at I'
    refine ⟨m', hm, i + 1, H', (I'.unpinned (pins := [])).weak (by rw [← hw8, wipe_length, wipe_length]) (fun j v e => ?_), T.keep _ _ _ st7 fun b hb o e => (pn b hb o e).1, fun b hb => ?_, w'⟩
    · rw [← hw8] at e
      obtain ⟨e1, e2⟩ := wipe_some e
      exact (wipe_out fun z => e2 (hv j z)).trans e1
    · obtain ⟨o, e, _⟩ := T.obj _ _ st7 b hb
      exact (pn b hb o e).2
  have far : ∀ {H' : Hp}, (∀ b ∈ fp1, H' b = none) → ∀ b ∈ fp1, FpOk (X.blk s3 H3 scope ce fp) ([] ++ pinsAt fp s7.heap) H' b := fun hn b hb => ⟨hn b hb, (f11 b hb).2⟩
  have inner : codeAny (model X.prog X.w) X.A (.compLoop (dc2 kx vx tg iter tg1 iter1 scope pos) 1 (.ref it1) (.ref D) ce)
      (fun r s' => (∃ f, r = .ok f) ∧ ∃ m, m < n ∧ ∃ i H', Inv (X.blk s3 H3 scope ce fp) [] (wipe σ (own.map (·.2))) H' s' ∧ tn i s'.heap ∧ (∀ b ∈ fp, H' b = none) ∧ W i m H') s11 := by
    refine loop_inner (fun k s' => ∃ j H', Inv (X.blk s3 H3 scope ce fp) ([] ++ pinsAt fp s7.heap) (wipe σ8 vs1) H' s' ∧ tn1 j s'.heap ∧ (∀ b ∈ fp1, H' b = none) ∧ W1 j k H') ?_ m1 ⟨0, H11, I11.weak (wipe_length _ _) (fun j v e => (wipe_some e).1), st11, fun b hb => (f11 b hb).1, w1⟩
    rintro k s12 ⟨j, H12, I12, st12, n12, w12⟩
    rcases turn1 j k H12 w12 with ⟨stop1, nx1⟩ | ⟨go1, Nx1, hNx1, step1⟩
    · refine thnF (T1.done (X.blk s3 H3 scope ce fp) rfl rfl rfl hc j _ s12 (wipe σ8 vs1) H12 (fun _ _ => False) I12 (far n12) st12 stop1) ?_
      rintro r s13 ⟨rfl, I13⟩
      exact ⟨⟨_, rfl⟩, back I13 nx1⟩
    refine thnF (T1.item (X.blk s3 H3 scope ce fp) rfl rfl rfl hc j _ s12 (wipe σ8 vs1) H12 (fun _ _ => False) I12 (far n12) st12 go1) ?_
    rintro r s13 ⟨u1, rfl, h13⟩
    refine thnF h13 ?_
    rintro _ s14 ⟨x1, H14, I14, r14, y14, st14, n14⟩
    refine thnF (pg1.run _ s14 (wipe σ8 vs1) H14 x1 u1 _ (I14.pinned (far n14) (T1.obj _ _ st14)) r14 (step1 x1 H14 y14)) ?_
    rintro _ s15 ⟨σ15, H15, I15, hw15, q15⟩
    refine thnF (pk.run _ s15 σ15 H15 _ I15 q15) ?_
    rintro z s16 ⟨yk, H16, I16, r16, q16⟩
    refine thnF (pe.run _ s16 σ15 H16 _ I16 q16) ?_
    rintro z2 s17 ⟨yv, H17, I17, r17, kvs, kk, b, rfl, hb17, hD17, hz17, nx⟩
    refine put_tup (X := X.blk s3 H3 scope ce fp) hu I17 hD17 hb17 hz17 r16 r17 fun s18 I18 => ?_
    obtain ⟨m', hm, w'⟩ := hNx1 _ nx
    have pn := pinned_at I18
    refine ⟨m', hm, j + 1, _, I18.unpinned.weak (by rw [← hw15, wipe_length]) (fun j v e => by rw [← hw15] at e; exact (wipe_some e).1), T1.keep _ _ _ st14 fun b hb o e => (pn b hb o e).1, fun b hb => ?_, w'⟩
    obtain ⟨o, e, _⟩ := T1.obj _ _ st14 b hb
    exact (pn b hb o e).2
  exact start_inner inner (T1.self X.A 0 _ _ _ st11 inner)
end
end BX
/-! sorted of a dict, its keys plain or tuples. -/
namespace BX
open PySem PySem.Spec PyProof.Rows L2
section
variable {X : Cx} {β : Type}
theorem cr_sortD (enc : β → PyData) (hc : X.calm = true) (hu : X.A.units + 64 < cLine) : CallR X (.builtin "sorted") (fun xs H Q => ∃ a : Addr, xs = [.ref a] ∧
    ((∃ kvs : List (List Key × V), Rd H a (.dT kvs) ∧ ∀ bs, IsKeys H kvs bs → ∃ zs : List (V × β), zs.map (·.1) = bs.map V.ref ∧ kSort X.K enc zs H Q) ∨
     ∃ kvs : List (Key × V), Rd H a (.dK kvs) ∧ ∃ zs : List (V × β), zs.map (·.1) = kvs.map (fun kv => kV kv.1) ∧ kSort X.K enc zs H Q)) := by
  intro pins s σ H xs us Q I r q
  obtain ⟨a, rfl, q | ⟨kvs, hs, zs, ez, kz⟩⟩ := q
  · obtain ⟨kvs, hs, k⟩ := q
    exact cr_sortDT enc hc hu pins s σ H _ us Q I r ⟨a, kvs, rfl, hs, k⟩
  · obtain ⟨u, rfl, rx⟩ := r.one
    cases rx
    obtain ⟨z, lo, vs, rk, hd⟩ := (show ObjOk X.prog X.w H s.heap a (.dK kvs) from hs.ok I.hok)
    obtain ⟨ep, hat⟩ := hd.dictAt
    have hl : kvs.length = vs.length := Paired.length rk
    refine sorted_gen I hu kz fun {Q' E'} hQ => ?_
    refine PySem.W.kdu_collect (A := X.A.in1) (PySem.W.kdl_dict (knd := mixKind X.prog X.w) (kvs := vs) (ep := ep) lo) (I.ok.hd hc) hat (by rw [← hl]; exact z) fun h' tk acc' kp hacc => hQ h' tk acc'.toList kp ?_
    rw [ez]
    have el : acc'.toList.length = acc'.size := by simp
    refine vals_of_at (by rw [List.length_map, el, hacc.1, hl]) fun j x w h1 h2 => ?_
    obtain ⟨k, y, hky, hi⟩ := hacc.2 j w (by rw [← Array.getElem?_toList]; exact h2)
    have e1 : (kvs.map (·.1))[j]? = some k := by
      rw [KV.keys rk, List.getElem?_map, hky] <;> rfl
    have e2 : (kvs.map fun kv => kV kv.1)[j]? = some (kV k) := by
      have e3 : (kvs.map fun kv => kV kv.1) = (kvs.map (·.1)).map kV := by rw [List.map_map] <;> rfl
      rw [e3, List.getElem?_map, e1] <;> rfl
    rw [e2] at h1
    cases h1
    exact keyIs_rel hi
end
end BX
/-! The facts of the top that the walks use; how a def is told; what stands in the heap for a run. -/
namespace BC
open PySem PySem.Spec PyProof.Rows L2 BX

/-! ### the built-in names that are not hidden, two constants -/
structure Txt (K : PySem.W.Frag) (mg : Str → Option Value) : Prop where
  n_len : mg "len" = none
  n_isinstance : mg "isinstance" = none
  n_int : mg "int" = none
  n_bool : mg "bool" = none
  n_tuple : mg "tuple" = none
  n_list : mg "list" = none
  n_all : mg "all" = none
  n_any : mg "any" = none
  n_enumerate : mg "enumerate" = none
  n_zip : mg "zip" = none
  n_sorted : mg "sorted" = none
  n_set : mg "set" = none
  n_min : mg "min" = none
  n_range : mg "range" = none
  n_abs : mg "abs" = none
  n_str : mg "str" = none
  pair : ∃ u, mg "PAIR" = some u ∧ RelV (.int 2) u
  ends : ∃ u, mg "ENDS" = some u ∧ RelV (.ref (He.ga K "ENDS")) u
  endsT : ∀ H : Hp, SqT K H (He.ga K "ENDS") [.str "r", .str "s"]

section
variable {P : Program} {w : World} {K : PySem.W.Frag} {mg : Str → Option Value} {base : Heap}
/-- a def that may be called by its name, told by its body: no defaults -/
theorem cal_of {x : Str} {st : Stmt} {f : Addr} {fd : FuncData} {N ps : List Str} {k : Nat} {sp : Sp} (F : FnP K x st f fd) (hm : mg x = some (.ref f)) (S : FnScope N ps (defScope st))
    (hb : ∀ (kV doc pm : Value) (an : Option Addr) (cdv ct : Value) (us : List Value), us.length = ps.length → bindArgs (PySem.W.fnOf x x (defArgs st) (defBody st) (defScope st) .none kV doc pm an cdv ct) ⟨us, []⟩ = pure (ps.zip us))
    (len : ∀ vs H Q E, sp vs H Q E → vs.length = ps.length)
    (hbody : ∀ (cdv : Value) (A : Around) (outer : List Env) (s : Shared) (H : Hp) (vs : List V) (Q : VK) (E : XK), Room k (A.deeper (envOfC x (defScope st) s.heap.objs.size f cdv)) → sp vs H Q E →
      ∃ t, PSs (cxOf CX0 P w K mg base N x (defScope st) f cdv A outer s H E).nox (defBody st) t ∧ t { nx := fun _ H' => Q .non H', rt := Q } (start N vs) H) : C8.Cal P w K mg base (k + 1) x sp [] := by
  refine ⟨f, fd, ps, [], F.ok S len fun cdv A outer s H vs Q E hr h => ?_, hm, F.kp, F.bindsN hb, .nil⟩
  obtain ⟨t, h1, h2⟩ := hbody cdv A outer s H vs Q E hr h
  exact ⟨t, h1.nox, h2⟩
end
theorem pe_c0 {X : Cx} {k j : Nat} {x : Str} {sp : Sp} {p pos : Pos} (c : C8.Cal X.prog X.w X.K X.mg X.base k x sp []) (hr : Room j X.A) (hk : k ≤ j) (hg : Gl X x)
    (hdb : (x == ("__debug__" : Str)) = false := by decide) : PE X (.Call (.Name x p) [] [] pos) (tCall sp [] E0 tNil) := by
  obtain ⟨f, fd, ps, ds, F, hm, kp, b, d⟩ := c.ex
  cases d
  exact pe_call0 F (hr.mono hk) hg hm kp b .nil pass0 hdb

/-! ### the heap grows; tuples stay -/
def TSame (H H' : Hp) : Prop := ∀ b xs, H b = some (.tup xs) → H' b = some (.tup xs)
theorem Same.ts {H H' : Hp} (h : Same H H') : TSame H H' := fun b xs e => h b _ e
theorem TSame.refl (H : Hp) : TSame H H := fun _ _ e => e
theorem TSame.trans {H H1 H2 : Hp} (a : TSame H H1) (b : TSame H1 H2) : TSame H H2 := fun c xs e => b c xs (a c xs e)
theorem TSame.updOf {H : Hp} {p : Addr} {o : HO} (h : ∀ xs, H p ≠ some (.tup xs)) : TSame H (L2.upd H p o) := fun b xs e => by
  rw [upd_ne]
  · exact e
  · rintro rfl; exact h xs e
theorem TSame.new {H : Hp} {p : Addr} {o : HO} (h : H p = none) : TSame H (L2.upd H p o) := .updOf fun xs e => by rw [h] at e; cases e
theorem TSame.lst {H : Hp} {p : Addr} {o : HO} {ys : List V} (h : H p = some (.lst ys)) : TSame H (L2.upd H p o) := .updOf fun xs e => by rw [h] at e; cases e
theorem TSame.dT {H : Hp} {p : Addr} {o : HO} {ys : List (List Key × V)} (h : H p = some (.dT ys)) : TSame H (L2.upd H p o) := .updOf fun xs e => by rw [h] at e; cases e
theorem TSame.dK {H : Hp} {p : Addr} {o : HO} {ys : List (Key × V)} (h : H p = some (.dK ys)) : TSame H (L2.upd H p o) := .updOf fun xs e => by rw [h] at e; cases e
theorem Same.new {H : Hp} {p : Addr} {o : HO} (h : H p = none) : Same H (L2.upd H p o) := fun b u e => by rw [upd_ne (ne_of_none e h)]; exact e
theorem Same.put {H0 H : Hp} {p : Addr} {o : HO} (h : Same H0 H) (hp : H0 p = none) : Same H0 (L2.upd H p o) := fun b u e => by rw [upd_ne (ne_of_none e hp)]; exact h b u e
theorem same_none {H0 H : Hp} {p : Addr} (h : Same H0 H) (hp : H p = none) : H0 p = none := h.free hp

/-! ### what stands for ends, rows, runs -/
def sr : Bool → Str
  | true => "s"
  | false => "r"
theorem sr_inj {a b : Bool} (h : sr a = sr b) : a = b := by
  cases a <;> cases b <;> first | rfl | exact absurd h (by decide)
def eK (e : En) : List Key := [.inl e.1, .inr (sr e.2)]
def eV (e : En) : List V := [.int e.1, .str (sr e.2)]
theorem eK_map (e : En) : (eK e).map kV = eV e := rfl
theorem eK_inj {a b : En} (h : eK a = eK b) : a = b := by
  obtain ⟨l, x⟩ := a
  obtain ⟨m, y⟩ := b
  injection h with h1 h2
  injection h2 with h3 _
  cases h1
  cases sr_inj (Sum.inr.inj h3)
  rfl
def endD (e : En) : PyData := .tuple [.int e.1, .str (sr e.2)]
/-- a tuple at v of things that P tells -/
def TupOf {α : Type} (P : V → α → Prop) (H : Hp) (v : V) (xs : List α) : Prop := ∃ a vs, v = .ref a ∧ H a = some (.tup vs) ∧ Paired P vs xs
def LstOf {α : Type} (P : V → α → Prop) (H : Hp) (a : Addr) (xs : List α) : Prop := ∃ vs, H a = some (.lst vs) ∧ Paired P vs xs
def EndAt (H : Hp) (v : V) (e : En) : Prop := ∃ a, v = .ref a ∧ H a = some (.tup (eV e))
def RowAt (H : Hp) : V → List En → Prop := TupOf (EndAt H) H
def RunAt (H : Hp) : V → Run → Prop := TupOf (RowAt H) H
theorem Paired.imp {α β : Type} {F G : α → β → Prop} (h : ∀ a b, F a b → G a b) : ∀ {l : List α} {m : List β}, Paired F l m → Paired G l m
  | _, _, .nil => .nil
  | _, _, .cons a t => .cons (h _ _ a) (Paired.imp h t)
theorem Paired.app {α β : Type} {F : α → β → Prop} : ∀ {l l' : List α} {m m' : List β}, Paired F l m → Paired F l' m' → Paired F (l ++ l') (m ++ m')
  | _, _, _, _, .nil, h => h
  | _, _, _, _, .cons a t, h => .cons a (Paired.app t h)
theorem Paired.len {α β : Type} {F : α → β → Prop} : ∀ {l : List α} {m : List β}, Paired F l m → l.length = m.length
  | _, _, .nil => rfl
  | _, _, .cons _ t => by rw [List.length_cons, List.length_cons, Paired.len t]
theorem Paired.at {α β : Type} {F : α → β → Prop} : ∀ {l : List α} {m : List β}, Paired F l m → ∀ {i : Nat} {a : α}, l[i]? = some a → ∃ b, m[i]? = some b ∧ F a b
  | _, _, .nil, i, _, h => by simp at h
  | _, _, .cons a t, 0, x, h => by
    simp at h
    subst h
    exact ⟨_, rfl, a⟩
  | _, _, .cons a t, i + 1, x, h => by
    obtain ⟨b, h1, h2⟩ := Paired.at t (i := i) (a := x) (by simpa using h)
    exact ⟨b, by simpa using h1, h2⟩
theorem Paired.at' {α β : Type} {F : α → β → Prop} : ∀ {l : List α} {m : List β}, Paired F l m → ∀ {i : Nat} {b : β}, m[i]? = some b → ∃ a, l[i]? = some a ∧ F a b
  | _, _, .nil, i, _, h => by simp at h
  | _, _, .cons a t, 0, x, h => by
    simp at h
    subst h
    exact ⟨_, rfl, a⟩
  | _, _, .cons a t, i + 1, x, h => by
    obtain ⟨b, h1, h2⟩ := Paired.at' t (i := i) (b := x) (by simpa using h)
    exact ⟨b, by simpa using h1, h2⟩
theorem Paired.mem {α β : Type} {F : α → β → Prop} {l : List α} {m : List β} (h : Paired F l m) {a : α} (ha : a ∈ l) : ∃ b ∈ m, F a b := by
  obtain ⟨i, hi, e⟩ := List.mem_iff_getElem.mp ha
  obtain ⟨b, h1, h2⟩ := Paired.at h (i := i) (a := a) (by rw [List.getElem?_eq_getElem hi, e])
  exact ⟨b, List.mem_of_getElem? h1, h2⟩
theorem Paired.mem' {α β : Type} {F : α → β → Prop} {l : List α} {m : List β} (h : Paired F l m) {b : β} (hb : b ∈ m) : ∃ a ∈ l, F a b := by
  obtain ⟨i, hi, e⟩ := List.mem_iff_getElem.mp hb
  obtain ⟨a, h1, h2⟩ := Paired.at' h (i := i) (b := b) (by rw [List.getElem?_eq_getElem hi, e])
  exact ⟨a, List.mem_of_getElem? h1, h2⟩
theorem Paired.drop {α β : Type} {F : α → β → Prop} : ∀ (n : Nat) {l : List α} {m : List β}, Paired F l m → Paired F (l.drop n) (m.drop n)
  | 0, _, _, h => h
  | _ + 1, _, _, .nil => .nil
  | n + 1, _, _, .cons _ t => Paired.drop n t
theorem Paired.take {α β : Type} {F : α → β → Prop} : ∀ (n : Nat) {l : List α} {m : List β}, Paired F l m → Paired F (l.take n) (m.take n)
  | 0, _, _, h => .nil
  | _ + 1, _, _, .nil => .nil
  | n + 1, _, _, .cons a t => .cons a (Paired.take n t)
theorem Paired.rev {α β : Type} {F : α → β → Prop} : ∀ {l : List α} {m : List β}, Paired F l m → Paired F l.reverse m.reverse
  | _, _, .nil => .nil
  | _, _, .cons a t => by
    rw [List.reverse_cons, List.reverse_cons]
    exact Paired.app (Paired.rev t) (.cons a .nil)
theorem Paired.eraseIx {α β : Type} {F : α → β → Prop} : ∀ (n : Nat) {l : List α} {m : List β}, Paired F l m → Paired F (l.eraseIdx n) (m.eraseIdx n)
  | _, _, _, .nil => .nil
  | 0, _, _, .cons _ t => t
  | n + 1, _, _, .cons a t => .cons a (Paired.eraseIx n t)
theorem Paired.dropLast {α β : Type} {F : α → β → Prop} {l : List α} {m : List β} (h : Paired F l m) : Paired F l.dropLast m.dropLast := by
  rw [List.dropLast_eq_take, List.dropLast_eq_take, Paired.len h]
  exact Paired.take _ h
theorem Paired.ofMap {α β γ : Type} {F : α → β → Prop} {f : γ → α} {g : γ → β} : ∀ (l : List γ), (∀ x ∈ l, F (f x) (g x)) → Paired F (l.map f) (l.map g)
  | [], _ => .nil
  | x :: r, h => .cons (h x (by simp)) (Paired.ofMap r fun y hy => h y (List.mem_cons_of_mem _ hy))
theorem Paired.ints {vs : List V} {ns : List Int} : Paired (fun (v : V) (n : Int) => v = .int n) vs ns ↔ vs = ns.map V.int := by
  constructor
  · intro h
    induction h with
    | nil => rfl
    | cons a _ ih => rw [a, ih]; rfl
  · rintro rfl
    induction ns with
    | nil => exact .nil
    | cons a r ih => exact .cons rfl ih

section
variable {H H' : Hp}
theorem EndAt.mono (h : TSame H H') {v : V} {e : En} (x : EndAt H v e) : EndAt H' v e := let ⟨a, h1, h2⟩ := x; ⟨a, h1, h _ _ h2⟩
theorem TupOf.mono {α : Type} {P Q : V → α → Prop} (h : TSame H H') (hp : ∀ v x, P v x → Q v x) {v : V} {xs : List α} (x : TupOf P H v xs) : TupOf Q H' v xs :=
  let ⟨a, vs, h1, h2, h3⟩ := x; ⟨a, vs, h1, h _ _ h2, Paired.imp hp h3⟩
theorem RowAt.mono (h : TSame H H') {v : V} {r : List En} (x : RowAt H v r) : RowAt H' v r := TupOf.mono h (fun _ _ => EndAt.mono h) x
theorem RunAt.mono (h : TSame H H') {v : V} {R : Run} (x : RunAt H v R) : RunAt H' v R := TupOf.mono h (fun _ _ => RowAt.mono h) x
theorem ends_mono (h : TSame H H') {vs : List V} {es : List En} (x : Paired (EndAt H) vs es) : Paired (EndAt H') vs es := Paired.imp (fun _ _ => EndAt.mono h) x
end

/-! ### as data -/
section
variable {K : PySem.W.Frag} {H : Hp}
theorem endD_dp {v : V} {e : En} (h : EndAt H v e) : Dp K H v (endD e) := by
  obtain ⟨a, rfl, h⟩ := h
  exact .tup (SqT.of h) (.cons (.int _) (.cons (.str _) .nil))
theorem dps {α : Type} {P : V → α → Prop} {enc : α → PyData} (h : ∀ v x, P v x → Dp K H v (enc x)) : ∀ {vs : List V} {xs : List α}, Paired P vs xs → DpAll K H vs (xs.map enc)
  | _, _, .nil => .nil
  | _, _, .cons a t => .cons (h _ _ a) (dps h t)
def rowD (r : List En) : PyData := .tuple (r.map endD)
def runD (R : Run) : PyData := .tuple (R.map rowD)
theorem rowD_dp {v : V} {r : List En} (h : RowAt H v r) : Dp K H v (rowD r) := by
  obtain ⟨a, vs, rfl, h1, h2⟩ := h
  exact .tup (SqT.of h1) (dps (enc := endD) (fun _ _ h => endD_dp h) h2)
theorem runD_dp {v : V} {R : Run} (h : RunAt H v R) : Dp K H v (runD R) := by
  obtain ⟨a, vs, rfl, h1, h2⟩ := h
  exact .tup (SqT.of h1) (dps (enc := rowD) (fun _ _ h => rowD_dp h) h2)
theorem ints_dp : ∀ ns : List Int, DpAll K H (ns.map V.int) (ns.map PyData.int)
  | [] => .nil
  | n :: r => .cons (.int n) (ints_dp r)
theorem endD_eqv (a b : En) : PyData.eqv (endD a) (endD b) = decide (a = b) := by
  obtain ⟨l, x⟩ := a
  obtain ⟨m, y⟩ := b
  have e : PyData.eqv (endD (l, x)) (endD (m, y)) = ((l == m) && ((sr x == sr y) && true)) := by simp only [endD, PyData.eqv, PyData.eqvAll]
  rw [e]
  by_cases h : ((l, x) : En) = (m, y)
  · cases h; simp
  · rw [decide_eq_false h]
    by_cases h1 : l = m
    · have h2 : sr x ≠ sr y := fun z => h (by rw [h1, sr_inj z])
      rw [beq_eq_false_iff_ne.mpr h2, Bool.false_and, Bool.and_false]
    · rw [beq_eq_false_iff_ne.mpr h1, Bool.false_and]
theorem lays {α : Type} {enc : α → PyData} (h : ∀ x, (enc x).canLay0 = true) : ∀ xs : List α, PyData.canLayAll0 (xs.map enc) = true
  | [] => by simp [PyData.canLayAll0]
  | x :: r => by simp [PyData.canLayAll0, h x, lays h r]
theorem depths {α : Type} {enc : α → PyData} {n : Nat} (h : ∀ x, (enc x).depth ≤ n) : ∀ xs : List α, PyData.depthAll (xs.map enc) ≤ n
  | [] => by simp [PyData.depthAll]
  | x :: r => by
    have h1 := depths h r
    have h2 := h x
    simp only [List.map_cons, PyData.depthAll]
    omega
theorem endD_lay (e : En) : (endD e).canLay0 = true := by
  obtain ⟨l, x⟩ := e
  cases x <;> simp [endD, sr, PyData.canLay0, PyData.canLayAll0, PyData.strOk] <;> decide
theorem endD_depth (e : En) : (endD e).depth ≤ 1 := by simp [endD, PyData.depth, PyData.depthAll]
theorem rowD_lay (r : List En) : (rowD r).canLay0 = true := by
  simp only [rowD, PyData.canLay0]
  exact lays endD_lay r
theorem rowD_depth (r : List En) : (rowD r).depth ≤ 2 := by
  have := depths endD_depth r
  simp only [rowD, PyData.depth]
  omega
theorem runD_lay (R : Run) : (runD R).canLay0 = true := by
  simp only [runD, PyData.canLay0]
  exact lays rowD_lay R
theorem runD_depth (R : Run) : (runD R).depth ≤ 3 := by
  have := depths rowD_depth R
  simp only [runD, PyData.depth]
  omega
theorem shaped_of {d : PyData} (h : d.canLay0 = true) (n : d.depth ≤ 60) : SeqAt.shaped d = true := by
  show (d.canLay0 && decide (d.depth ≤ 64)) = true
  rw [Bool.and_eq_true]
  exact ⟨h, decide_eq_true (by omega)⟩
theorem shaped_list {α : Type} {enc : α → PyData} {n : Nat} (h : ∀ x, (enc x).canLay0 = true) (hd : ∀ x, (enc x).depth ≤ n) (hn : n ≤ 50) (xs : List α) : SeqAt.shaped (.list (xs.map enc)) = true := by
  refine shaped_of (by simp only [PyData.canLay0]; exact lays h xs) ?_
  have := depths hd xs
  simp only [PyData.depth]
  omega
theorem shaped_tup {α : Type} {enc : α → PyData} {n : Nat} (h : ∀ x, (enc x).canLay0 = true) (hd : ∀ x, (enc x).depth ≤ n) (hn : n ≤ 50) (xs : List α) : SeqAt.shaped (.tuple (xs.map enc)) = true := by
  refine shaped_of (by simp only [PyData.canLay0]; exact lays h xs) ?_
  have := depths hd xs
  simp only [PyData.depth]
  omega
end
end BC
/-! Rules with the constants told from outside: inside a comprehension the reading may not name the block's context. -/
namespace BX
open PySem PySem.Spec PyProof.Rows L2
section
variable {X : Cx} {K : PySem.W.Frag}
theorem op_in_seqK (hK : X.K = K) : OpR X (compareOp .In) (rIn K false) := by subst hK; exact op_in_seq
theorem op_notIn_seqK (hK : X.K = K) : OpR X (compareOp .NotIn) (rIn K true) := by subst hK; exact op_notIn_seq
theorem op_inDK (hK : X.K = K) (hu : X.A.units + 65 < cLine) : OpR X (compareOp .In) (rInD K) := by subst hK; exact op_inD hu
theorem op_notInDK (hK : X.K = K) (hu : X.A.units + 65 < cLine) : OpR X (compareOp .NotIn) (rNotInD K) := by subst hK; exact op_notInD hu
theorem op_inTDK (hK : X.K = K) (hu : X.A.units + 65 < cLine) : OpR X (compareOp .In) (rInTD K) := by subst hK; exact op_inTD hu
theorem op_eqDK (hK : X.K = K) (hu : X.A.units + 64 < cLine) : OpR X (compareOp .Eq) (rEqD K) := by subst hK; exact op_eqD hu
theorem op_neDK (hK : X.K = K) (hu : X.A.units + 64 < cLine) : OpR X (compareOp .NotEq) (rNeD K) := by subst hK; exact op_neD hu
theorem ix_tupK (hK : X.K = K) : IxR X (rIxT K) := by subst hK; exact ix_tup
theorem ix_listK (hK : X.K = K) : IxR X (rIxL K) := by subst hK; exact ix_list
theorem call_isiK (hK : X.K = K) : CallR X (.builtin "isinstance") (rIsi K) := by subst hK; exact call_isi
theorem sl_tupAK (hK : X.K = K) : SlR X (rSlA K) := by subst hK; exact sl_tupA
theorem pi_tupK {tg l : Expr} {tl : TE} (hK : X.K = K) (h : PE X l tl) : PI X tg l (iTup K tl) := by subst hK; exact pi_tup h
theorem pi_listK {tg l : Expr} {tl : TE} (hK : X.K = K) (h : PE X l tl) : PI X tg l (iList K tl) := by subst hK; exact pi_list h
theorem pe_revTK {e : Expr} {te : TE} {k : Nat} {p1 p2 p3 pos : Pos} (hK : X.K = K) (he : PE X e te) : PE X (.Subscript e (.Slice none none (some (.UnaryOp .USub (.Constant (.int 1) k p1) p2)) p3) pos) (tRevT K te) := by subst hK; exact pe_revT he
theorem cr_anyK (hK : X.K = K) (hc : X.calm = true) : CallR X (.builtin "any") (rAny K) := by subst hK; exact cr_any hc
theorem cr_allK (hK : X.K = K) (hc : X.calm = true) : CallR X (.builtin "all") (rAll K) := by subst hK; exact cr_all hc
def rLenOf (K : PySem.W.Frag) : List V → Hp → VK → Prop := fun xs H Q => ∃ p ys, xs = [V.ref p] ∧ (SqL K H p ys ∨ SqT K H p ys) ∧ Q (V.int ↑ys.length) H
theorem call_len_seqK (hK : X.K = K) : CallR X (.builtin "len") (rLenOf K) := by subst hK; exact call_len_seq
def rTupOf (K : PySem.W.Frag) : List V → Hp → VK → Prop := fun xs H Q => ∃ p ys, xs = [V.ref p] ∧ ((SqL K H p ys ∧ ∀ (l : Addr), H l = none → Q (V.ref l) (upd H l (HO.tup ys))) ∨ SqT K H p ys ∧ Q (V.ref p) H)
theorem call_tuple_ofK (hK : X.K = K) : CallR X (.type "tuple") (rTupOf K) := by subst hK; exact call_tuple_of
end
end BX
namespace BC
structure Fine (R : Run) : Prop where
  ok : Ok R
  rows : R.length ≤ 20
  many : (ends R).length ≤ 40
theorem row_le {R : Run} {row : List En} (h : row ∈ R) : row.length ≤ (ends R).length := by
  unfold ends
  induction R with
  | nil => cases h
  | cons a r ih =>
    rw [List.flatten_cons, List.length_append]
    rcases List.mem_cons.mp h with rfl | h
    · omega
    · have := ih h; omega
theorem Fine.row {R : Run} (f : Fine R) {row : List En} (h : row ∈ R) : row.length ≤ 40 := Nat.le_trans (row_le h) f.many
/-- each end with the place of its row -/
def houseFrom : Nat → Run → List (En × Nat)
  | _, [] => []
  | k, row :: R => row.map (fun e => (e, k)) ++ houseFrom (k + 1) R
def houseL (R : Run) : List (En × Nat) := houseFrom 0 R
theorem house_fst : ∀ (k : Nat) (R : Run), (houseFrom k R).map (·.1) = R.flatten
  | _, [] => rfl
  | k, row :: R => by
    rw [houseFrom, List.map_append, house_fst (k + 1) R, List.flatten_cons, List.map_map]
    congr 1
    exact List.map_id' _
theorem house_take : ∀ (k : Nat) (R : Run) (i : Nat) (row : List En), R[i]? = some row → houseFrom k (R.take (i + 1)) = houseFrom k (R.take i) ++ row.map (fun e => (e, k + i))
  | _, [], _, _, h => by simp at h
  | k, r0 :: R, 0, row, h => by
    simp at h
    subst h
    simp [houseFrom]
  | k, r0 :: R, i + 1, row, h => by
    have := house_take (k + 1) R i row (by simpa using h)
    rw [List.take_succ_cons, List.take_succ_cons, houseFrom, houseFrom, this, List.append_assoc]
    have e : k + 1 + i = k + (i + 1) := by omega
    rw [e]
theorem house_mem : ∀ (k : Nat) (R : Run) {e : En} {h : Nat}, (e, h) ∈ houseFrom k R ↔ ∃ i row, h = k + i ∧ R[i]? = some row ∧ e ∈ row
  | k, [], e, h => by simp [houseFrom]
  | k, row :: R, e, h => by
    rw [houseFrom, List.mem_append, house_mem (k + 1) R]
    constructor
    · rintro (h1 | ⟨i, row', h1, h2, h3⟩)
      · obtain ⟨e', h2, h3⟩ := List.mem_map.mp h1
        cases h3
        exact ⟨0, row, rfl, rfl, h2⟩
      · exact ⟨i + 1, row', by omega, by simpa using h2, h3⟩
    · rintro ⟨i, row', h1, h2, h3⟩
      cases i with
      | zero =>
        simp at h2
        subst h2
        refine .inl (List.mem_map.mpr ⟨e, h3, by rw [h1]; rfl⟩)
      | succ i => exact .inr ⟨i, row', by omega, by simpa using h2, h3⟩
theorem mem_pre {α : Type} {l p q : List α} {x : α} (h : l.Nodup) (e : l = p ++ x :: q) : x ∉ p := by
  subst e
  intro hx
  exact (List.nodup_append.mp h).2.2 x hx x (by simp) rfl
theorem cut_at {α : Type} {l : List α} {i : Nat} {x : α} (h : l[i]? = some x) : l = l.take i ++ x :: l.drop (i + 1) := by
  have hi : i < l.length := by
    have := List.getElem?_eq_some_iff.mp h
    exact this.1
  have e : l[i] = x := (List.getElem?_eq_some_iff.mp h).2
  rw [← e, ← List.drop_eq_getElem_cons hi, List.take_append_drop]
theorem cut_row {R : Run} {i : Nat} {row : List En} (h : R[i]? = some row) : ends R = (R.take i).flatten ++ (row ++ (R.drop (i + 1)).flatten) := by
  have e := cut_at h
  show R.flatten = _
  conv => lhs; rw [e]
  rw [List.flatten_append, List.flatten_cons]
/-- one row holds an end -/
theorem one_row {R : Run} (hn : (ends R).Nodup) {i j : Nat} {a b : List En} (ha : R[i]? = some a) (hb : R[j]? = some b) {e : En} (h1 : e ∈ a) (h2 : e ∈ b) : i = j := by
  rcases Nat.lt_trichotomy i j with h | h | h
  · exfalso
    rw [cut_row hb] at hn
    refine (List.nodup_append.mp hn).2.2 e ?_ e (List.mem_append.mpr (.inl h2)) rfl
    refine List.mem_flatten.mpr ⟨a, List.mem_of_getElem? (i := i) ?_, h1⟩
    rw [List.getElem?_take, if_pos h, ha]
  · exact h
  · exfalso
    rw [cut_row ha] at hn
    refine (List.nodup_append.mp hn).2.2 e ?_ e (List.mem_append.mpr (.inl h1)) rfl
    refine List.mem_flatten.mpr ⟨b, List.mem_of_getElem? (i := j) ?_, h2⟩
    rw [List.getElem?_take, if_pos h, hb]
theorem house_row {R : Run} (hn : (ends R).Nodup) {x y : En} {h k : Nat} (hx : (x, h) ∈ houseL R) (hy : (y, k) ∈ houseL R) : h = k ↔ sameRow R x y := by
  obtain ⟨i, a, h1, h2, h3⟩ := (house_mem 0 R).mp hx
  obtain ⟨j, b, k1, k2, k3⟩ := (house_mem 0 R).mp hy
  constructor
  · intro e
    have e2 : i = j := by omega
    subst e2
    rw [h2] at k2
    cases k2
    exact ⟨a, List.mem_of_getElem? h2, h3, k3⟩
  · rintro ⟨row, hr, m1, m2⟩
    obtain ⟨l, hl⟩ := List.getElem?_of_mem hr
    have := one_row hn h2 hl h3 m1
    have := one_row hn k2 hl k3 m2
    omega
end BC
/-! Loops: walks that only add to the heap; comprehensions whose items are told one by one. -/
namespace BC
open PySem PySem.Spec PyProof.Rows L2 BX
abbrev WP (J : It) (n : Nat) (G : Hp → Prop) (PI : Nat → V → Hp → Prop) : Prop := Walk J n G (fun i H x H' => Same H H' ∧ PI i x H')
theorem Same.rf (H : Hp) : Same H H := fun _ _ e => e
section
variable {K : PySem.W.Frag} {a b d : Addr} {xs ys : List V} {o : Obj}
theorem wp_tup : WP (Itt K a) xs.length (fun H => SqT K H a xs) (fun i x _ => xs[i]? = some x) :=
  walk_tup.mono (fun _ h => h) fun i H x H' _ _ y => by obtain ⟨rfl, e⟩ := y; exact ⟨Same.rf _, e⟩
theorem wp_list : WP (Itl K a) xs.length (fun H => SqL K H a xs) (fun i x _ => xs[i]? = some x) :=
  walk_list.mono (fun _ h => h) fun i H x H' _ _ y => by obtain ⟨rfl, e⟩ := y; exact ⟨Same.rf _, e⟩
theorem wp_range {n : Nat} : WP (Itr 0 n) n (fun _ => True) (fun i x _ => x = .int (i : Nat)) :=
  walk_range.mono (fun _ h => h) fun i H x H' _ _ y => by obtain ⟨rfl, e⟩ := y; exact ⟨Same.rf _, by rw [e]; simp⟩
theorem wp_keys {kvs : List (Key × V)} : WP (Itk d o kvs) kvs.length (fun H => H d = some (.frz o (.dK kvs))) (fun i x _ => ∃ k v, kvs[i]? = some (k, v) ∧ x = kV k) :=
  walk_keys.mono (fun _ h => h) fun i H x H' _ _ y => by obtain ⟨rfl, e⟩ := y; exact ⟨Same.rf _, e⟩
theorem wp_keysT {kvs : List (List Key × V)} : WP (Itkt d o kvs) kvs.length (fun H => H d = some (.frz o (.dT kvs))) (fun i x H => ∃ (k : List Key) (v : V) (q : Addr), kvs[i]? = some (k, v) ∧ x = .ref q ∧ H q = some (.tup (k.map kV))) :=
  walk_keysT.mono (fun _ h => h) fun i H x H' _ _ y => by obtain ⟨rfl, e⟩ := y; exact ⟨Same.rf _, e⟩
theorem wp_enum : WP (Ite K a) xs.length (fun H => SqL K H a xs) (fun i v H => ∃ T x, v = .ref T ∧ H T = some (.tup [.int (i : Nat), x]) ∧ xs[i]? = some x) :=
  walk_enum.mono (fun _ h => h) fun i H x H' _ _ y => by
    obtain ⟨T, x, z, rfl, h1, rfl, h2, h3⟩ := y
    cases h2
    exact ⟨Same.new h1, T, z, rfl, upd_same, h3⟩
theorem wp_enumT : WP (IteT K a) xs.length (fun H => SqT K H a xs) (fun i v H => ∃ T x, v = .ref T ∧ H T = some (.tup [.int (i : Nat), x]) ∧ xs[i]? = some x) := by
  refine ⟨fun i _ hi q => ⟨xs, xs[i], q, by simp [hi]⟩, fun _ q => ⟨xs, q, rfl⟩, fun i H v H' _ q y => ?_⟩
  obtain ⟨T, x, rfl, h1, rfl, h3⟩ := y
  exact ⟨Same.new h1, T, x, rfl, upd_same, h3 xs q⟩
theorem wp_zipT {n : Nat} (hn : n = min xs.length ys.length) : WP (RZ.ItzT K a b) n (fun H => SqT K H a xs ∧ SqT K H b ys) (fun i v H => ∃ T x y, v = .ref T ∧ H T = some (.tup [x, y]) ∧ xs[i]? = some x ∧ ys[i]? = some y) := by
  subst hn
  refine ⟨fun i _ hi q => ?_, fun _ q => ⟨xs, ys, q.1, q.2, by omega⟩, fun i H v H' _ q y => ?_⟩
  · have h1 : i < xs.length := by omega
    have h2 : i < ys.length := by omega
    exact ⟨xs, ys, xs[i], ys[i], q.1, q.2, by simp [h1], by simp [h2]⟩
  · obtain ⟨T, x, z, rfl, h2, rfl, h4, h5⟩ := y
    exact ⟨Same.new h2, T, x, z, rfl, upd_same, h4 xs q.1, h5 ys q.2⟩
end

theorem Paired.snoc {α β : Type} {F : α → β → Prop} {l : List α} {m : List β} (h : Paired F l m) {a : α} {b : β} (q : F a b) : Paired F (l ++ [a]) (m ++ [b]) := Paired.app h (.cons q .nil)
theorem fm_take {α β : Type} (fm : α → Option β) (xs : List α) {i : Nat} {x : α} (h : xs[i]? = some x) : (xs.take (i + 1)).filterMap fm = (xs.take i).filterMap fm ++ (fm x).toList := by
  rw [List.take_add_one, h, List.filterMap_append]
  simp only [Option.toList, List.filterMap_cons, List.filterMap_nil]
  cases fm x <;> rfl
theorem ts_lst {H : Hp} {p : Addr} {ys : List V} {o : HO} (h : H p = some (.lst ys)) : TSame H (L2.upd H p o) := .lst h

section
variable {J : It} {n : Nat} {G : Hp → Prop} {PI : Nat → V → Hp → Prop}
/-- a comprehension: item by item, kept or left out; what is made is told by P, which only tuples carry -/
theorem lc_fm {α β : Type} (w : WP J n G PI) (xs : List α) (fm : α → Option β) (P : Hp → V → β → Prop) (hP : ∀ H H' v y, TSame H H' → P H v y → P H' v y) (hn : n = xs.length) (hl : n ≤ 100000)
    {g : TG} {tt : TT} {te : TE} {vs : List Nat} {σ : L2.St} {H1 : Hp} {D : Addr} {Qd : Hp → Prop} (hD : H1 D = none) (hG : ∀ H, Same H1 H → G H)
    (hs : ∀ i x0 x H (K1 : VK) (K0 : Hp → Prop), xs[i]? = some x0 → Same H1 H → PI i x H → (∀ y H4 y0, Same H H4 → fm x0 = some y0 → P H4 y y0 → K1 y H4) → (fm x0 = none → ∀ H3, Same H H3 → K0 H3) →
      g x (wipe σ vs) H fun σ2 H2 => wipe σ2 vs = wipe σ vs ∧ tt σ2 H2 fun b H3 => if b = true then te σ2 H3 fun y H4 => K1 y H4 else K0 H3)
    (hd : ∀ H acc, Same H1 H → H D = some (.lst acc) → Paired (P H) acc (xs.filterMap fm) → Qd H) :
    ∃ W : Nat → Nat → Hp → Prop, (∃ m, W 0 m (upd H1 D (.lst []))) ∧ ∀ i m H, W i m H →
      (J.stop i H ∧ Qd H) ∨ (J.go i H ∧ ∃ Nx : Hp → Prop, (∀ H', Nx H' → ∃ m', m' < m ∧ W (i + 1) m' H') ∧ ∀ x H', J.yld i H x H' → g x (wipe σ vs) H' fun σ2 H2 => wipe σ2 vs = wipe σ vs ∧ tt σ2 H2 fun b H3 =>
        if b = true then te σ2 H3 fun y H4 => ∃ acc, H4 D = some (.lst acc) ∧ acc.length < sizeLine ∧ Nx (upd H4 D (.lst (acc ++ [y]))) else Nx H3) := by
  subst hn
  refine L2.lc_it w (fun i H => Same H1 H ∧ ∃ acc, H D = some (.lst acc) ∧ acc.length ≤ i ∧ Paired (P H) acc ((xs.take i).filterMap fm)) ⟨Same.new hD, [], upd_same, Nat.zero_le _, .nil⟩ (fun i H _ h => hG H h.1) (fun i x H H' hi h y => ?_) fun H h => ?_
  · obtain ⟨s1, acc, ha, hlen, hp⟩ := h
    obtain ⟨s2, pi⟩ := y
    refine hs i xs[i] x H' _ _ (List.getElem?_eq_getElem hi) (Same.trans s1 s2) pi (fun y H4 y0 s3 e py => ⟨acc, s3 _ _ (s2 _ _ ha), Nat.lt_of_le_of_lt hlen (Nat.lt_of_lt_of_le hi (Nat.le_trans hl (by decide))), ?_⟩) (fun e H3 s3 => ?_)
    · have t1 : TSame H4 (upd H4 D (.lst (acc ++ [y]))) := .lst (s3 _ _ (s2 _ _ ha))
      refine ⟨Same.put (Same.trans (Same.trans s1 s2) s3) hD, acc ++ [y], upd_same, by rw [List.length_append]; simp; omega, ?_⟩
      rw [fm_take fm xs (List.getElem?_eq_getElem hi), e]
      exact Paired.snoc (Paired.imp (fun v z => hP _ _ v z (TSame.trans (Same.ts (Same.trans s2 s3)) t1)) hp) (hP _ _ _ _ t1 py)
    · refine ⟨Same.trans (Same.trans s1 s2) s3, acc, s3 _ _ (s2 _ _ ha), by omega, ?_⟩
      rw [fm_take fm xs (List.getElem?_eq_getElem hi), e]
      simp only [Option.toList, List.append_nil]
      exact Paired.imp (fun v z => hP _ _ v z (Same.ts (Same.trans s2 s3))) hp
  · obtain ⟨s1, acc, ha, _, hp⟩ := h
    rw [List.take_length] at hp
    exact hd H acc s1 ha hp
/-- every item gives one -/
theorem lc_map {α β : Type} (w : WP J n G PI) (xs : List α) (f : α → β) (P : Hp → V → β → Prop) (hP : ∀ H H' v y, TSame H H' → P H v y → P H' v y) (hn : n = xs.length) (hl : n ≤ 100000)
    {g : TG} {te : TE} {vs : List Nat} {σ : L2.St} {H1 : Hp} {D : Addr} {Qd : Hp → Prop} (hD : H1 D = none) (hG : ∀ H, Same H1 H → G H)
    (hs : ∀ i x0 x H (K1 : VK), xs[i]? = some x0 → Same H1 H → PI i x H → (∀ y H4, Same H H4 → P H4 y (f x0) → K1 y H4) →
      g x (wipe σ vs) H fun σ2 H2 => wipe σ2 vs = wipe σ vs ∧ te σ2 H2 fun y H4 => K1 y H4)
    (hd : ∀ H acc, Same H1 H → H D = some (.lst acc) → Paired (P H) acc (xs.map f) → Qd H) :
    ∃ W : Nat → Nat → Hp → Prop, (∃ m, W 0 m (upd H1 D (.lst []))) ∧ ∀ i m H, W i m H →
      (J.stop i H ∧ Qd H) ∨ (J.go i H ∧ ∃ Nx : Hp → Prop, (∀ H', Nx H' → ∃ m', m' < m ∧ W (i + 1) m' H') ∧ ∀ x H', J.yld i H x H' → g x (wipe σ vs) H' fun σ2 H2 => wipe σ2 vs = wipe σ vs ∧ tYes σ2 H2 fun b H3 =>
        if b = true then te σ2 H3 fun y H4 => ∃ acc, H4 D = some (.lst acc) ∧ acc.length < sizeLine ∧ Nx (upd H4 D (.lst (acc ++ [y]))) else Nx H3) := by
  refine lc_fm w xs (fun x => some (f x)) P hP hn hl hD hG (fun i x0 x H K1 K0 hx s1 pi q1 q0 => ?_) fun H acc s1 ha hp => hd H acc s1 ha ?_
  · show g x (wipe σ vs) H fun σ2 H2 => wipe σ2 vs = wipe σ vs ∧ (if true = true then te σ2 H2 fun y H4 => K1 y H4 else K0 H2)
    exact hs i x0 x H K1 hx s1 pi fun y H4 s2 py => q1 y H4 (f x0) s2 rfl py
  · have e : xs.filterMap (fun x => some (f x)) = xs.map f := by
      rw [← List.filterMap_eq_map]; rfl
    rw [e] at hp
    exact hp
/-- two clauses, the first without a test -/
theorem lc2_fm {α γ β : Type} (w : WP J n G PI) (xs : List α) (ins : α → List γ) (fm : α → γ → Option β) (P : Hp → V → β → Prop) (hP : ∀ H H' v y, TSame H H' → P H v y → P H' v y) (hn : n = xs.length)
    (hl : ∀ i, ((xs.take i).map fun x => (ins x).length).sum ≤ 100000)
    {g : TG} {wi1 : TI} {g1 : TG} {tt1 : TT} {te : TE} {vs vs1 : List Nat} {σ : L2.St} {H1 : Hp} {D : Addr} {Qd : Hp → Prop} (hD : H1 D = none) (hG : ∀ H, Same H1 H → G H)
    (hs : ∀ i x0 x H (R : L2.St → It → Hp → Prop), xs[i]? = some x0 → Same H1 H → PI i x H →
      (∀ J1 n1 G1 PI1 σ2 H4, Same H H4 → n1 = (ins x0).length → WP J1 n1 G1 PI1 → (∀ H', Same H1 H' → TSame H4 H' → G1 H') →
        (∀ j z0 z H5 (K1 : VK) (K0 : Hp → Prop), (ins x0)[j]? = some z0 → Same H1 H5 → TSame H4 H5 → PI1 j z H5 → (∀ y H6 y0, Same H5 H6 → fm x0 z0 = some y0 → P H6 y y0 → K1 y H6) → (fm x0 z0 = none → ∀ H6, Same H5 H6 → K0 H6) →
          g1 z (wipe σ2 vs1) H5 fun σ3 H5 => wipe σ3 vs1 = wipe σ2 vs1 ∧ tt1 σ3 H5 fun b H6 => if b = true then te σ3 H6 fun y H7 => K1 y H7 else K0 H6) → R σ2 J1 H4) →
      g x (wipe σ vs) H fun σ2 H2 => wipe σ2 vs = wipe σ vs ∧ wi1 σ2 H2 fun J1 H4 => R σ2 J1 H4)
    (hd : ∀ H acc, Same H1 H → H D = some (.lst acc) → Paired (P H) acc (xs.flatMap fun x => (ins x).filterMap (fm x)) → Qd H) :
    ∃ W : Nat → Nat → Hp → Prop, (∃ m, W 0 m (upd H1 D (.lst []))) ∧ ∀ i m H, W i m H →
      (J.stop i H ∧ Qd H) ∨ (J.go i H ∧ ∃ Nx : Hp → Prop, (∀ H', Nx H' → ∃ m', m' < m ∧ W (i + 1) m' H') ∧ ∀ x H', J.yld i H x H' → g x (wipe σ vs) H' fun σ2 H2 => wipe σ2 vs = wipe σ vs ∧ tYes σ2 H2 fun b H3 =>
    if b = true then wi1 σ2 H3 fun J1 H4 => ∃ W1 : Nat → Nat → Hp → Prop, (∃ m, W1 0 m H4) ∧ ∀ j k H, W1 j k H →
      (J1.stop j H ∧ Nx H) ∨ (J1.go j H ∧ ∃ Nx1 : Hp → Prop, (∀ H', Nx1 H' → ∃ k', k' < k ∧ W1 (j + 1) k' H') ∧ ∀ x H', J1.yld j H x H' → g1 x (wipe σ2 vs1) H' fun σ3 H5 => wipe σ3 vs1 = wipe σ2 vs1 ∧ tt1 σ3 H5 fun b H6 =>
        if b = true then te σ3 H6 fun y H7 => ∃ acc, H7 D = some (.lst acc) ∧ acc.length < sizeLine ∧ Nx1 (upd H7 D (.lst (acc ++ [y]))) else Nx1 H6)
    else Nx H3) := by
  subst hn
  let out := fun i => (xs.take i).flatMap fun x => (ins x).filterMap (fm x)
  let lens := fun i => ((xs.take i).map fun x => (ins x).length).sum
  refine ⟨fun i m H => m = xs.length - i ∧ i ≤ xs.length ∧ Same H1 H ∧ ∃ acc, H D = some (.lst acc) ∧ acc.length ≤ lens i ∧ Paired (P H) acc (out i), ⟨xs.length, by simp, Nat.zero_le _, Same.new hD, [], upd_same, Nat.zero_le _, .nil⟩, ?_⟩
  rintro i m H ⟨rfl, hi, s1, acc, ha, hlen, hp⟩
  by_cases hlt : ¬ i < xs.length
  · have e : i = xs.length := by omega
    subst e
    refine .inl ⟨w.stops H (hG H s1), hd H acc s1 ha ?_⟩
    have e2 : out xs.length = xs.flatMap fun x => (ins x).filterMap (fm x) := by
      show ((xs.take xs.length).flatMap fun x => (ins x).filterMap (fm x)) = _
      rw [List.take_length]
    rw [e2] at hp
    exact hp
  replace hlt : i < xs.length := by omega
  refine .inr ⟨w.goes i H hlt (hG H s1), fun H => Same H1 H ∧ ∃ acc, H D = some (.lst acc) ∧ acc.length ≤ lens (i + 1) ∧ Paired (P H) acc (out (i + 1)), fun H' p' => ⟨xs.length - (i + 1), by omega, rfl, hlt, p'⟩, fun x H' y => ?_⟩
  obtain ⟨s2, pi⟩ := w.yields i H x H' hlt (hG H s1) y
  have ex : xs[i]? = some xs[i] := List.getElem?_eq_getElem hlt
  have eo : out (i + 1) = out i ++ (ins xs[i]).filterMap (fm xs[i]) := by
    show ((xs.take (i + 1)).flatMap _) = _
    rw [List.take_add_one, ex, List.flatMap_append]
    simp only [Option.toList, List.flatMap_cons, List.flatMap_nil, List.append_nil]
    rfl
  have el : lens (i + 1) = lens i + (ins xs[i]).length := by
    show ((xs.take (i + 1)).map _).sum = _
    rw [List.take_add_one, ex, List.map_append, List.sum_append]
    simp only [Option.toList, List.map_cons, List.map_nil, List.sum_cons, List.sum_nil, Nat.add_zero]
    rfl
  refine hs i xs[i] x H' _ ex (Same.trans s1 s2) pi ?_
  rintro J1 n1 G1 PI1 σ2 H4 s3 rfl w1 hG1 hs1
  have hb : lens (i + 1) ≤ 100000 := hl _
  have s14 : Same H1 H4 := Same.trans s1 (Same.trans s2 s3)
  have ha4 : H4 D = some (.lst acc) := s3 _ _ (s2 _ _ ha)
  refine ⟨fun j k H0 => k = (ins xs[i]).length - j ∧ j ≤ (ins xs[i]).length ∧ Same H1 H0 ∧ TSame H4 H0 ∧ ∃ acc, H0 D = some (.lst acc) ∧ acc.length ≤ lens i + j ∧ Paired (P H0) acc (out i ++ ((ins xs[i]).take j).filterMap (fm xs[i])), ⟨_, rfl, Nat.zero_le _, s14, TSame.refl _, acc, ha4, by omega, by
    simp only [List.take_zero, List.filterMap_nil, List.append_nil]
    exact Paired.imp (fun v z => hP _ _ v z (Same.ts (Same.trans s2 s3))) hp⟩, ?_⟩
  rintro j k H0 ⟨rfl, hj, s5, t5, acc, ha, hlen, hp⟩
  have g0 := hG1 H0 s5 t5
  by_cases hjl : ¬ j < (ins xs[i]).length
  · have e : j = (ins xs[i]).length := by omega
    refine .inl ⟨e ▸ w1.stops H0 g0, s5, acc, ha, by omega, ?_⟩
    rw [eo]
    rw [e, List.take_length] at hp
    exact hp
  replace hjl : j < (ins xs[i]).length := by omega
  refine .inr ⟨w1.goes j H0 hjl g0, fun H0 => Same H1 H0 ∧ TSame H4 H0 ∧ ∃ acc, H0 D = some (.lst acc) ∧ acc.length ≤ lens i + (j + 1) ∧ Paired (P H0) acc (out i ++ ((ins xs[i]).take (j + 1)).filterMap (fm xs[i])), fun H' p' => ⟨_, by omega, rfl, hjl, p'⟩, fun z H5 y => ?_⟩
  obtain ⟨s6, pi1⟩ := w1.yields j H0 z H5 hjl g0 y
  have ez : (ins xs[i])[j]? = some (ins xs[i])[j] := List.getElem?_eq_getElem hjl
  refine hs1 j (ins xs[i])[j] z H5 _ _ ez (Same.trans s5 s6) (TSame.trans t5 (Same.ts s6)) pi1 (fun y H6 y0 s7 e py => ⟨acc, s7 _ _ (s6 _ _ ha), Nat.lt_of_le_of_lt (show acc.length ≤ 100000 by omega) (by decide), ?_⟩) (fun e H6 s7 => ?_)
  · have t1 : TSame H6 (upd H6 D (.lst (acc ++ [y]))) := .lst (s7 _ _ (s6 _ _ ha))
    have t2 : TSame H0 H6 := Same.ts (Same.trans s6 s7)
    refine ⟨Same.put (Same.trans s5 (Same.trans s6 s7)) hD, TSame.trans t5 (TSame.trans t2 t1), acc ++ [y], upd_same, by rw [List.length_append]; simp; omega, ?_⟩
    rw [fm_take (fm xs[i]) _ ez, e, ← List.append_assoc]
    exact Paired.snoc (Paired.imp (fun v z => hP _ _ v z (TSame.trans t2 t1)) hp) (hP _ _ _ _ t1 py)
  · refine ⟨Same.trans s5 (Same.trans s6 s7), TSame.trans t5 (Same.ts (Same.trans s6 s7)), acc, s7 _ _ (s6 _ _ ha), by omega, ?_⟩
    rw [fm_take (fm xs[i]) _ ez, e]
    simp only [Option.toList, List.append_nil]
    exact Paired.imp (fun v z => hP _ _ v z (Same.ts (Same.trans s6 s7))) hp
end
end BC
/-! Dicts whose keys are ends. -/
namespace BC
open PySem PySem.Spec PyProof.Rows L2 BX
section
variable {κ : Type} [DecidableEq κ]
theorem valV_none {k : κ} : ∀ {kvs : List (κ × V)}, (∀ p ∈ kvs, p.1 ≠ k) → valV kvs k = none
  | [], _ => rfl
  | p :: r, h => by
    rw [valV_neg (h p (by simp))]
    exact valV_none fun q hq => h q (List.mem_cons_of_mem _ hq)
theorem valV_some {k : κ} {v : V} : ∀ {kvs : List (κ × V)}, (kvs.map (·.1)).Nodup → (k, v) ∈ kvs → valV kvs k = some v
  | p :: r, hn, h => by
    rw [List.map_cons, List.nodup_cons] at hn
    rcases List.mem_cons.mp h with rfl | h
    · exact valV_pos rfl
    · rw [valV_neg fun e => hn.1 (e ▸ List.mem_map.mpr ⟨(k, v), h, rfl⟩)]
      exact valV_some hn.2 h
end
theorem putK_app {κ : Type} [DecidableEq κ] {kvs : List (κ × V)} {k : κ} {v : V} (h : ∀ p ∈ kvs, p.1 ≠ k) : putK kvs k v = kvs ++ [(k, v)] := putK_new v (valV_none h)
theorem keys_of {H : Hp} : ∀ {kvs : List (List Key × V)} {bs : List Addr} {es : List En}, IsKeys H kvs bs → kvs.map (·.1) = es.map eK → Paired (EndAt H) (bs.map V.ref) es
  | [], [], [], .nil, _ => .nil
  | p :: r, b :: bs, e :: es, .cons h t, hk => by
    rw [List.map_cons, List.map_cons] at hk
    injection hk with h1 h2
    refine .cons ⟨b, rfl, ?_⟩ (keys_of t h2)
    rw [h, h1]
    rfl
  | [], [], _ :: _, .nil, hk => by simp at hk
  | _ :: _, _ :: _, [], .cons _ _, hk => by simp at hk
theorem nodup_eK {es : List En} (h : es.Nodup) : (es.map eK).Nodup := by
  induction es with
  | nil => exact .nil
  | cons e r ih =>
    rw [List.nodup_cons] at h
    rw [List.map_cons, List.nodup_cons]
    refine ⟨fun hm => ?_, ih h.2⟩
    obtain ⟨x, hx, ex⟩ := List.mem_map.mp hm
    exact h.1 (eK_inj ex ▸ hx)
def houseK (R : Run) : List (List Key × V) := (houseL R).map fun p => (eK p.1, V.int (p.2 : Nat))
theorem houseK_fst (R : Run) : (houseK R).map (·.1) = (ends R).map eK := by
  unfold houseK
  rw [List.map_map]
  have : ((fun p : List Key × V => p.1) ∘ fun p : En × Nat => (eK p.1, V.int (p.2 : Nat))) = eK ∘ (fun p : En × Nat => p.1) := rfl
  rw [this, ← List.map_map]
  rw [show houseL R = houseFrom 0 R from rfl, house_fst]
  rfl
theorem houseK_val {R : Run} (hn : (ends R).Nodup) {e : En} {h : Nat} (he : (e, h) ∈ houseL R) : valV (houseK R) (eK e) = some (.int (h : Nat)) :=
  valV_some (by rw [houseK_fst]; exact nodup_eK hn) (List.mem_map.mpr ⟨(e, h), he, rfl⟩)
end BC
namespace BC
open PySem PySem.Spec PyProof.Rows L2 BX
section
variable {K : PySem.W.Frag} {H : Hp} {x : V} {Q : VK}
theorem isi {t c : String} {r : Bool} (ht : TyX K H x (.type t)) (h : kitB t c = some r) (q : Q (.bl r) H) : rIsi K [x, .ty c] H Q := ⟨x, .ty c, _, _, r, rfl, .ty c, ht, kit_ty h, q⟩
theorem tx_int {n : Int} : TyX K H (.int n) (.type "int") := .base (.int n)
theorem tx_str {n : Str} : TyX K H (.str n) (.type "str") := .base (.str n)
theorem tx_tup {a : Addr} {xs : List V} (h : H a = some (.tup xs)) : TyX K H (.ref a) (.type "tuple") := .base (.tup h)
end
section
variable {P : Program} {w : World} {K : PySem.W.Frag} {mg : Str → Option Value} {base : Heap} {f : Addr} {fd : FuncData}
theorem sc_is_number : FnScope ["thing"] ["thing"] (defScope s_is_number) := ⟨rfl, rfl, rfl, by decide +kernel, rfl, by decide +kernel, by decide +kernel⟩
-- slots: 0:thing
def spNum : Sp := fun vs H Q _ => ∃ n : Int, vs = [.int n] ∧ Q (.bl true) H
theorem cal_is_number (F : FnP K "is_number" s_is_number f fd) (hm : mg "is_number" = some (.ref f)) (T : Txt K mg) {k : Nat} : C8.Cal P w K mg base (k + 1) "is_number" spNum [] := by
  refine cal_of F hm sc_is_number (fun kV doc pm an cdv ct us hl => match us, hl with | [_], _ => rfl) (fun vs H Q E h => ?_) (fun cdv A outer s H vs Q E hr h => ?_)
  · obtain ⟨n, rfl, _⟩ := h; rfl
  obtain ⟨n, rfl, q⟩ := h
  have nd := sc_is_number.nd
  refine ⟨_, (pss_one (ps_ret (pe_and (pe_callB call_isi (by rfl) T.n_isinstance (by decide +kernel) (pa_cons (pv 0) (pa_cons (pe_bltn (v := .ty "int") (by rfl) T.n_int (by decide +kernel) rfl) pa_nil))) (pe_one (pe_not (pe_callB call_isi (by rfl) T.n_isinstance (by decide +kernel) (pa_cons (pv 0) (pa_cons (pe_bltn (v := .ty "bool") (by rfl) T.n_bool (by decide +kernel) rfl) pa_nil)))))))), ?_⟩
  exact ⟨.int n, rfl, _, _, _, _, true, rfl, .ty _, tx_int, kit_ty (by decide +kernel), ⟨true, rfl, .int n, rfl, _, _, _, _, false, rfl, .ty _, tx_int, kit_ty (by decide +kernel), ⟨false, rfl, q⟩⟩⟩
theorem sc_tupled : FnScope ["thing", "own"] ["thing"] (defScope s_tupled) := ⟨rfl, rfl, rfl, by decide +kernel, rfl, by decide +kernel, by decide +kernel⟩
-- slots: 0:thing 1:own
def spT {α : Type} (R : Hp → V → α → Prop) : Sp := fun vs H Q _ => ∃ v x, vs = [v] ∧ R H v x ∧ ∀ v' H', Same H H' → R H' v' x → Q v' H'
theorem cal_tupled0 (F : FnP K "tupled" s_tupled f fd) (hm : mg "tupled" = some (.ref f)) (T : Txt K mg) {k : Nat} (c_tupled : C8.Cal P w K mg base k "tupled" (fun _ _ _ _ => False) []) : C8.Cal P w K mg base (k + 1) "tupled" (spT fun H v (x : Key) => v = kV x) [] := by
  refine cal_of F hm sc_tupled (fun kV doc pm an cdv ct us hl => match us, hl with | [_], _ => rfl) (fun vs H Q E h => ?_) (fun cdv A outer s H vs Q E hr h => ?_)
  · obtain ⟨_, _, rfl, _⟩ := h; rfl
  obtain ⟨v, xs, rfl, rfl, q⟩ := h
  have nd := sc_tupled.nd
  refine ⟨_, (pss_one (ps_ret (pe_ifExp (pt_val (pe_callB call_isiT (by rfl) T.n_isinstance (by decide +kernel) (pa_cons (pv 0) (pa_cons (pe_tup (pa_cons (pe_bltn (v := .ty "list") (by rfl) T.n_list (by decide +kernel) rfl) (pa_cons (pe_bltn (v := .ty "tuple") (by rfl) T.n_tuple (by decide +kernel) rfl) pa_nil))) pa_nil)))) (pe_callTy call_tuple_of (by rfl) T.n_tuple (by decide +kernel) (pa_cons (pe_lc (own := [("own", 1)]) (g := (gName 1)) (tt := tYes) rfl nd (pi_tup (pv 0)) (blkOk_by (by rfl)) (fun _ _ _ _ _ => (pg_name (i := 1) nd rfl (Or.inl rfl))) (fun _ _ _ _ _ => pts_nil) (fun _ _ _ _ _ => (C8.pe_c c_tupled hr (by omega) (by rfl) (pa_cons (pv 1) pa_nil)))) pa_nil)) (pv 0)))), ?_⟩
  refine ⟨_, rfl, by decide, fun p np => ?_⟩
  cases xs with
  | inl n => exact ⟨_, p, _, _, _, false, rfl, upd_same, .cons (.ty "list") (.cons (.ty "tuple") .nil), tx_int, kitAny_cons (b := false) (kit_ty (by decide +kernel)) (fun _ => kitAny_cons (b := false) (kit_ty (by decide +kernel)) (fun _ => kitAny_nil) (fun h => h)) (fun h => h), false, rfl, .int n, rfl, q _ _ (Same.new np) rfl⟩
  | inr n => exact ⟨_, p, _, _, _, false, rfl, upd_same, .cons (.ty "list") (.cons (.ty "tuple") .nil), tx_str, kitAny_cons (b := false) (kit_ty (by decide +kernel)) (fun _ => kitAny_cons (b := false) (kit_ty (by decide +kernel)) (fun _ => kitAny_nil) (fun h => h)) (fun h => h), false, rfl, .str n, rfl, q _ _ (Same.new np) rfl⟩
theorem cal_tupled {α : Type} {R : Hp → V → α → Prop} (mono : ∀ H H' v x, TSame H H' → R H v x → R H' v x) (F : FnP K "tupled" s_tupled f fd) (hm : mg "tupled" = some (.ref f)) (T : Txt K mg) {k : Nat} (c_tupled : C8.Cal P w K mg base k "tupled" (spT R) []) :
    C8.Cal P w K mg base (k + 1) "tupled" (spT fun H v (xs : List α) => xs.length ≤ 1000 ∧ TupOf (R H) H v xs) [] := by
  refine cal_of F hm sc_tupled (fun kV doc pm an cdv ct us hl => match us, hl with | [_], _ => rfl) (fun vs H Q E h => ?_) (fun cdv A outer s H vs Q E hr h => ?_)
  · obtain ⟨_, _, rfl, _⟩ := h; rfl
  obtain ⟨v, xs, rfl, ⟨hlen, a, us, rfl, ha, hp⟩, q⟩ := h
  have nd := sc_tupled.nd
  refine ⟨_, (pss_one (ps_ret (pe_ifExp (pt_val (pe_callB call_isiT (by rfl) T.n_isinstance (by decide +kernel) (pa_cons (pv 0) (pa_cons (pe_tup (pa_cons (pe_bltn (v := .ty "list") (by rfl) T.n_list (by decide +kernel) rfl) (pa_cons (pe_bltn (v := .ty "tuple") (by rfl) T.n_tuple (by decide +kernel) rfl) pa_nil))) pa_nil)))) (pe_callTy call_tuple_of (by rfl) T.n_tuple (by decide +kernel) (pa_cons (pe_lc (own := [("own", 1)]) (g := (gName 1)) (tt := tYes) rfl nd (pi_tup (pv 0)) (blkOk_by (by rfl)) (fun _ _ _ _ _ => (pg_name (i := 1) nd rfl (Or.inl rfl))) (fun _ _ _ _ _ => pts_nil) (fun _ _ _ _ _ => (C8.pe_c c_tupled hr (by omega) (by rfl) (pa_cons (pv 1) pa_nil)))) pa_nil)) (pv 0)))), ?_⟩
  refine ⟨_, rfl, by decide, fun p np => ⟨_, p, _, _, _, true, rfl, upd_same, .cons (.ty "list") (.cons (.ty "tuple") .nil), tx_tup ((Same.new np) _ _ ha), kitAny_cons (b := false) (kit_ty (by decide +kernel)) (fun _ => kitAny_cons (b := true) (kit_ty (by decide +kernel)) (fun h => by cases h) (fun _ => rfl)) (fun h => by cases h), true, rfl, ?_⟩⟩
  have s1 : Same H (upd H p (.tup [.ty "list", .ty "tuple"])) := Same.new np
  generalize upd H p (.tup [.ty "list", .ty "tuple"]) = H1 at s1 ⊢
  refine ⟨.ref a, rfl, a, rfl, ⟨us, SqT.of (s1 _ _ ha)⟩, fun D hD => ?_⟩
  refine lc_map wp_tup xs (fun x => x) R mono (Paired.len hp) (Paired.len hp ▸ Nat.le_trans hlen (by decide)) hD (fun H' s => SqT.of (s _ _ (s1 _ _ ha))) (fun i x0 x H' K1 hx s2 hi q1 => ?_) (fun H' acc s2 hacc hpa => ?_)
  · refine ⟨rfl, x, rfl, x, x0, rfl, ?_, fun v' H'' s3 r => q1 v' H'' s3 r⟩
    obtain ⟨y0, e, r⟩ := Paired.at hp hi
    rw [hx] at e
    cases e
    exact mono _ _ _ _ (Same.ts (Same.trans s1 s2)) r
  · refine ⟨D, acc, rfl, .inl ⟨.inl (.inl hacc), fun l hl => q _ _ (Same.trans (Same.trans s1 s2) (Same.new hl)) ⟨hlen, l, acc, rfl, upd_same, ?_⟩⟩⟩
    rw [List.map_id'] at hpa
    exact Paired.imp (fun v y => mono _ _ v y (TSame.new hl)) hpa
theorem sc_is_end : FnScope ["thing"] ["thing"] (defScope s_is_end) := ⟨rfl, rfl, rfl, by decide +kernel, rfl, by decide +kernel, by decide +kernel⟩
-- slots: 0:thing
def spIsEnd : Sp := fun vs H Q _ => ∃ v e, vs = [v] ∧ EndAt H v e ∧ 0 ≤ e.1 ∧ Q (.bl true) H
theorem cal_is_end (F : FnP K "is_end" s_is_end f fd) (hm : mg "is_end" = some (.ref f)) (T : Txt K mg) {k : Nat} (c_is_number : C8.Cal P w K mg base k "is_number" spNum []) : C8.Cal P w K mg base (k + 1) "is_end" spIsEnd [] := by
  refine cal_of F hm sc_is_end (fun kV doc pm an cdv ct us hl => match us, hl with | [_], _ => rfl) (fun vs H Q E h => ?_) (fun cdv A outer s H vs Q E hr h => ?_)
  · obtain ⟨_, _, rfl, _⟩ := h; rfl
  obtain ⟨v, e, rfl, ⟨a, rfl, ha⟩, h0, q⟩ := h
  have nd := sc_is_end.nd
  refine ⟨_, (pss_cons (ps_if (PW.pt (pw_or (pt_not (pt_val (pe_callB call_isi (by rfl) T.n_isinstance (by decide +kernel) (pa_cons (pv 0) (pa_cons (pe_bltn (v := .ty "tuple") (by rfl) T.n_tuple (by decide +kernel) rfl) pa_nil))))) (pw_or (pt_cmpR op_ne (pe_callB call_len_seq (by rfl) T.n_len (by decide +kernel) (pa_cons (pv 0) pa_nil)) (C8.pe_gc (by rfl) T.pair) (nomark _)) (pw_or (pt_not (pt_val (C8.pe_c c_is_number hr (by omega) (by rfl) (pa_cons (pe_ix ix_tup (pv 0) pe_int (fun _ _ => rfl)) pa_nil)))) (pw_or1 (pt_cmpR op_lt (pe_ix ix_tup (pv 0) pe_int (fun _ _ => rfl)) pe_int (nomark _))))))) (pss_one (ps_ret pe_bl)) pss_nil)
    (pss_one (ps_ret (pe_and (pe_callB call_isi (by rfl) T.n_isinstance (by decide +kernel) (pa_cons (pe_ix ix_tup (pv 0) pe_int (fun _ _ => rfl)) (pa_cons (pe_bltn (v := .ty "str") (by rfl) T.n_str (by decide +kernel) rfl) pa_nil))) (pe_one (pe_cmpR op_in_seq (pe_ix ix_tup (pv 0) pe_int (fun _ _ => rfl)) (C8.pe_gc (by rfl) T.ends) (by rfl))))))), ?_⟩
  have i0 : atI (eV e) 0 = some (.int e.1) := atI_nat (j := 0) rfl
  have i1 : atI (eV e) 1 = some (.str (sr e.2)) := atI_nat (j := 1) rfl
  have n0 : ¬ e.1 < 0 := by omega
  refine ⟨.ref a, rfl, _, _, _, _, true, rfl, .ty _, (tx_tup ha), kit_ty (by decide +kernel), ⟨true, rfl, .ref a, rfl, a, eV e, rfl, .inr (SqT.of ha), rfl, _, rfl, .ref a, rfl, a, eV e, 0, _, rfl, rfl, SqT.of ha, i0, e.1, rfl, true, rfl, ?_⟩⟩
  refine ⟨.ref a, rfl, a, eV e, 0, _, rfl, rfl, SqT.of ha, i0, e.1, 0, rfl, rfl, false, congrArg V.bl (decide_eq_false n0), ?_⟩
  refine ⟨.ref a, rfl, a, eV e, 1, _, rfl, rfl, SqT.of ha, i1, _, _, _, _, true, rfl, .ty _, tx_str, kit_ty (by decide +kernel), ⟨true, rfl, .ref a, rfl, a, eV e, 1, _, rfl, rfl, SqT.of ha, i1, _, [.str "r", .str "s"], rfl, .inr (T.endsT H), rfl, rfl, ?_⟩⟩
  obtain ⟨l, b⟩ := e
  cases b <;> exact q
end
end BC
namespace BC
open PySem PySem.Spec PyProof.Rows L2 BX
section
variable {P : Program} {w : World} {K : PySem.W.Frag} {mg : Str → Option Value} {base : Heap} {f : Addr} {fd : FuncData}
theorem room65 {k : Nat} {A : Around} (r : Room k A) : A.units + 65 < cLine := by have := r.un; omega
theorem cal_imp {k : Nat} {x : Str} {sp sp' : Sp} {ds : List V} (c : C8.Cal P w K mg base k x sp ds) (h : ∀ vs H Q E, sp' vs H Q E → sp vs H Q E) : C8.Cal P w K mg base k x sp' ds := by
  obtain ⟨f, fd, ps, dvs, F, hm, kp, b, d⟩ := c.ex
  exact ⟨f, fd, ps, dvs, F.imp h, hm, kp, b, d⟩
abbrev KeyAt : Hp → V → Key → Prop := fun _ v x => v = kV x
def EndT (H : Hp) (v : V) (e : En) : Prop := EndAt H v e
def RowT (H : Hp) (v : V) (r : List En) : Prop := r.length ≤ 1000 ∧ RowAt H v r
def RunT (H : Hp) (v : V) (R : Run) : Prop := R.length ≤ 1000 ∧ (∀ r ∈ R, r.length ≤ 1000) ∧ RunAt H v R
theorem keys_at : ∀ {us : List V} {xs : List Key}, us = xs.map kV → Paired (fun v x => v = kV x) us xs
  | _, [], rfl => .nil
  | _, x :: xs, rfl => .cons rfl (keys_at rfl)
theorem at_keys : ∀ {us : List V} {xs : List Key}, Paired (fun v x => v = kV x) us xs → us = xs.map kV
  | _, _, .nil => rfl
  | _, _, .cons h t => by rw [h, at_keys t]; rfl
theorem pair_and {α : Type} {P : V → α → Prop} {C : α → Prop} : ∀ {us : List V} {xs : List α}, (∀ x ∈ xs, C x) → Paired P us xs → Paired (fun v x => C x ∧ P v x) us xs
  | _, _, _, .nil => .nil
  | _, _, h, .cons a t => .cons ⟨h _ (by simp), a⟩ (pair_and (fun x hx => h x (List.mem_cons_of_mem _ hx)) t)
theorem cal_tupE (F : FnP K "tupled" s_tupled f fd) (hm : mg "tupled" = some (.ref f)) (T : Txt K mg) {k : Nat} (c_tupled : C8.Cal P w K mg base k "tupled" (fun _ _ _ _ => False) []) : C8.Cal P w K mg base (k + 2) "tupled" (spT EndAt) [] :=
  cal_imp (cal_tupled (R := fun H v (x : Key) => v = kV x) (fun _ _ _ _ _ h => h) F hm T (cal_tupled0 F hm T c_tupled)) fun vs H Q E ⟨v, e, e1, ⟨a, e2, ha⟩, q⟩ =>
    ⟨v, eK e, e1, ⟨(by decide : 2 ≤ 1000), a, eV e, e2, ha, keys_at rfl⟩, fun v' H' s h => q v' H' s (by
      obtain ⟨_, b, us, h1, h2, h3⟩ := h
      exact ⟨b, h1, by rw [h2, at_keys h3]; rfl⟩)⟩
theorem cal_tupRow (F : FnP K "tupled" s_tupled f fd) (hm : mg "tupled" = some (.ref f)) (T : Txt K mg) {k : Nat} (c_tupled : C8.Cal P w K mg base k "tupled" (fun _ _ _ _ => False) []) : C8.Cal P w K mg base (k + 3) "tupled" (spT RowT) [] :=
  cal_tupled (R := EndAt) (fun _ _ _ _ t h => EndAt.mono t h) F hm T (cal_tupE F hm T c_tupled)
theorem cal_tupR (F : FnP K "tupled" s_tupled f fd) (hm : mg "tupled" = some (.ref f)) (T : Txt K mg) {k : Nat} (c_tupled : C8.Cal P w K mg base k "tupled" (fun _ _ _ _ => False) []) : C8.Cal P w K mg base (k + 4) "tupled" (spT RunT) [] :=
  cal_imp (cal_tupled (R := RowT) (fun _ _ _ _ t h => ⟨h.1, RowAt.mono t h.2⟩) F hm T (cal_tupRow F hm T c_tupled)) fun vs H Q E ⟨v, R, e1, ⟨h1, h2, h3⟩, q⟩ =>
    ⟨v, R, e1, ⟨h1, by
      obtain ⟨a, us, e2, e3, e4⟩ := h3
      exact ⟨a, us, e2, e3, pair_and h2 e4⟩⟩, fun v' H' s h => q v' H' s ⟨h1, h2, by
      obtain ⟨_, a, us, e2, e3, e4⟩ := h
      exact ⟨a, us, e2, e3, Paired.imp (fun _ _ h => h.2) e4⟩⟩⟩
theorem Fine.runT {R : Run} (fn : Fine R) {H : Hp} {v : V} (h : RunAt H v R) : RunT H v R := ⟨Nat.le_trans fn.rows (by decide), fun r hr => Nat.le_trans (fn.row hr) (by decide), h⟩
abbrev cTupR (P : Program) (w : World) (K : PySem.W.Frag) (mg : Str → Option Value) (base : Heap) : Prop := C8.Cal P w K mg base 4 "tupled" (spT RunT) []
abbrev cTupE (P : Program) (w : World) (K : PySem.W.Frag) (mg : Str → Option Value) (base : Heap) : Prop := C8.Cal P w K mg base 2 "tupled" (spT EndAt) []
theorem sc_houses_of : FnScope ["run", "end", "house", "row"] ["run"] (defScope s_houses_of) := ⟨rfl, rfl, rfl, by decide +kernel, rfl, by decide +kernel, by decide +kernel⟩
-- slots: 0:run 1:end 2:house 3:row
def spHouses : Sp := fun vs H Q _ => ∃ v R, vs = [v] ∧ RunAt H v R ∧ Fine R ∧ ∀ d H', Same H H' → H d = none → H' d = some (.dT (houseK R)) → Q (.ref d) H'
theorem cal_houses_of (F : FnP K "houses_of" s_houses_of f fd) (hm : mg "houses_of" = some (.ref f)) (T : Txt K mg) (c_tupled : cTupR P w K mg base) : C8.Cal P w K mg base 5 "houses_of" spHouses [] := by
  refine cal_of F hm sc_houses_of (fun kV doc pm an cdv ct us hl => match us, hl with | [_], _ => rfl) (fun vs H Q E h => ?_) (fun cdv A outer s H vs Q E hr h => ?_)
  · obtain ⟨_, _, rfl, _⟩ := h; rfl
  obtain ⟨v, R, rfl, hR, fn, q⟩ := h
  have nd := sc_houses_of.nd
  have hu1 := Nat.lt_of_le_of_lt (Nat.add_le_add_left (show 1 ≤ 64 by decide) _) hr.units
  have hu64 := hr.units
  have hu65 := room65 hr
  refine ⟨_, (pss_one (ps_ret (pe_dcT2 (own := [("house", 2), ("row", 3), ("end", 1)]) (vs1 := [1]) (wi1 := iTup K (tVar 3)) (g := (gTup K 2 (gCons (gName 2) (gCons (gName 3) gNil)))) (g1 := (gName 1)) rfl nd hu1 (pi_enumT (by rfl) T.n_enumerate (pa_cons (C8.pe_c c_tupled hr (by omega) (by rfl) (pa_cons (pv 0) pa_nil)) pa_nil)) (blkOk_by (by rfl)) (by decide) (fun _ _ _ _ _ => (pg_tup rfl (pgs_cons (pg_name (i := 2) nd rfl (Or.inl rfl)) (pgs_cons (pg_name (i := 3) nd rfl (Or.inl rfl)) pgs_nil)))) (fun _ _ _ _ _ => (pi_tup (pv 3))) (fun _ _ _ _ _ => (pg_name (i := 1) nd rfl (Or.inl rfl))) (fun _ _ _ _ _ => (pv 1)) (fun _ _ _ _ _ => (pv 2))))), ?_⟩
  refine ⟨v, rfl, v, R, rfl, fn.runT hR, ?_⟩
  rintro v' H1 s1 ⟨_, _, a, us, rfl, ha, hp⟩
  refine ⟨a, us, rfl, SqT.of ha, fun D hD => ?_⟩
  let enc : List (En × Nat) → List (List Key × V) := fun l => l.map fun p => (eK p.1, V.int (p.2 : Nat))
  have hlen : us.length = R.length := Paired.len hp
  have eapp : ∀ a b, enc (a ++ b) = enc a ++ enc b := fun a b => List.map_append
  have W1 := wp_enumT (K := K) (a := a) (xs := us)
  refine ⟨fun i m H' => m = us.length - i ∧ i ≤ us.length ∧ Same H1 H' ∧ H' D = some (.dT (enc (houseFrom 0 (R.take i)))), ⟨_, rfl, Nat.zero_le _, Same.new hD, upd_same⟩, ?_⟩
  rintro i m H2 ⟨rfl, hi, s2, hd⟩
  have hA : SqT K H2 a us := SqT.of (s2 _ _ ha)
  by_cases hlt : ¬ i < us.length
  · have e : i = us.length := by omega
    subst e
    refine .inl ⟨W1.stops H2 hA, q D H2 (Same.trans s1 s2) (same_none s1 hD) ?_⟩
    rw [hd, hlen, List.take_length]
    rfl
  replace hlt : i < us.length := by omega
  refine .inr ⟨W1.goes i H2 hlt hA, fun H' => Same H1 H' ∧ H' D = some (.dT (enc (houseFrom 0 (R.take (i + 1))))), fun H' p' => ⟨_, by omega, rfl, hlt, p'⟩, fun x H3 y => ?_⟩
  obtain ⟨s3, Tp, x, rfl, hT, hx⟩ := W1.yields i H2 _ H3 hlt hA y
  obtain ⟨row, hrow, ra, rs, rfl, hra, hrp⟩ := Paired.at hp hx
  refine ⟨Tp, _, rfl, SqT.of hT, rfl, _, _, rfl, _, _, rfl, rfl, rfl, .ref ra, rfl, ra, rfl, ?_⟩
  have hra3 : H3 ra = some (.tup rs) := s3 _ _ (s2 _ _ hra)
  refine ⟨⟨rs, SqT.of hra3⟩, ?_⟩
  have W2 := wp_tup (K := K) (a := ra) (xs := rs)
  have hrl : rs.length = row.length := Paired.len hrp
  have eo := house_take 0 R i row hrow
  rw [Nat.zero_add] at eo
  refine ⟨fun j k H' => k = rs.length - j ∧ j ≤ rs.length ∧ Same H1 H' ∧ TSame H3 H' ∧ H' D = some (.dT (enc (houseFrom 0 (R.take i) ++ (row.take j).map (fun e => (e, i))))), ⟨_, rfl, Nat.zero_le _, Same.trans s2 s3, TSame.refl _, ?_⟩, ?_⟩
  · rw [s3 _ _ hd]
    simp
  rintro j k H4 ⟨rfl, hj, s4, t4, hd4⟩
  have hB : SqT K H4 ra rs := SqT.of (t4 _ _ hra3)
  by_cases hjl : ¬ j < rs.length
  · have e : j = rs.length := by omega
    refine .inl ⟨e ▸ W2.stops H4 hB, s4, ?_⟩
    rw [hd4, eo, e, hrl, List.take_length]
  replace hjl : j < rs.length := by omega
  refine .inr ⟨W2.goes j H4 hjl hB, fun H' => Same H1 H' ∧ TSame H3 H' ∧ H' D = some (.dT (enc (houseFrom 0 (R.take i) ++ (row.take (j + 1)).map (fun e => (e, i))))), fun H' p' => ⟨_, by omega, rfl, hjl, p'⟩, fun x H5 y => ?_⟩
  obtain ⟨s5, hx5⟩ := W2.yields j H4 x H5 hjl hB y
  obtain ⟨e, he, eb, rfl, heb⟩ := Paired.at hrp hx5
  have he5 : H5 eb = some (.tup ((eK e).map kV)) := s5 _ _ (t4 _ _ (s3 _ _ (s2 _ _ heb)))
  refine ⟨rfl, .ref eb, rfl, .int (i : Nat), rfl, _, eK e, eb, rfl, he5, s5 _ _ hd4, ?_, ?_⟩
  · refine small1000 ?_
    show (List.map _ _).length ≤ 1000
    rw [List.length_map]
    have h1 : (houseFrom 0 (R.take i) ++ (row.take j).map (fun e => (e, i))).length ≤ ((R.take i).flatten ++ (row ++ (R.drop (i + 1)).flatten)).length := by
      rw [List.length_append, List.length_append, List.length_append, List.length_map, ← house_fst 0 (R.take i), List.length_map, List.length_take]
      omega
    rw [← cut_row hrow] at h1
    have := fn.many
    omega
  · have hnew : ∀ p ∈ enc (houseFrom 0 (R.take i) ++ (row.take j).map (fun e => (e, i))), p.1 ≠ eK e := by
      intro p hp' ep
      obtain ⟨z, hz, rfl⟩ := List.mem_map.mp hp'
      have ez : z.1 = e := eK_inj ep
      have hn := fn.ok.nd
      rw [cut_row hrow] at hn
      refine mem_pre hn (p := (R.take i).flatten ++ row.take j) (x := e) (q := row.drop (j + 1) ++ (R.drop (i + 1)).flatten) ?_ ?_
      · conv => lhs; rw [cut_at he]
        simp
      · rw [← ez]
        rcases List.mem_append.mp hz with hz | hz
        · refine List.mem_append.mpr (.inl ?_)
          rw [← house_fst 0]
          exact List.mem_map.mpr ⟨z, hz, rfl⟩
        · obtain ⟨z', hz', rfl⟩ := List.mem_map.mp hz
          exact List.mem_append.mpr (.inr hz')
    refine ⟨Same.put (Same.trans s4 s5) hD, TSame.trans t4 (TSame.trans (Same.ts s5) (TSame.dT (s5 _ _ hd4))), ?_⟩
    rw [upd_same, putK_app hnew, List.take_add_one, he]
    simp only [Option.toList, List.map_append, List.map_cons, List.map_nil, ← List.append_assoc]
    rw [eapp _ [(e, i)]]
    rfl
end
end BC
namespace BC
def pairsOf (row : List En) : List (En × En) := row.zip (row.drop 1)
theorem pairs_nb {row : List En} {x y : En} : (x, y) ∈ pairsOf row ↔ Nb row x y := by
  unfold pairsOf
  induction row with
  | nil => simp [Nb]
  | cons a r ih =>
    cases r with
    | nil =>
      simp [Nb]
      intro p q h
      cases p with
      | nil => simp at h
      | cons b p => simp at h
    | cons b r =>
      rw [show (a :: b :: r).drop 1 = b :: r from rfl, List.zip_cons_cons, List.mem_cons]
      rw [show (b :: r).drop 1 = r from rfl] at ih
      rw [ih]
      constructor
      · rintro (h | ⟨p, q, h⟩)
        · cases h
          exact ⟨[], r, rfl⟩
        · exact ⟨a :: p, q, by rw [h]; rfl⟩
      · rintro ⟨p, q, h⟩
        cases p with
        | nil =>
          simp at h
          obtain ⟨rfl, rfl, _⟩ := h
          exact .inl rfl
        | cons c p =>
          simp at h
          exact .inr ⟨p, q, h.2⟩
theorem pairs_get {row : List En} {j : Nat} {x y : En} (hx : row[j]? = some x) (hy : row[j + 1]? = some y) : (pairsOf row)[j]? = some (x, y) := by
  unfold pairsOf
  rw [List.getElem?_zip_eq_some]
  exact ⟨hx, by rw [List.getElem?_drop, Nat.add_comm]; exact hy⟩
theorem pairs_len (row : List En) : (pairsOf row).length = row.length - 1 := by
  unfold pairsOf
  rw [List.length_zip, List.length_drop]
  omega
def allPairs (R : Run) : List (En × En) := R.flatMap pairsOf
theorem allPairs_len : ∀ R : Run, (allPairs R).length ≤ (ends R).length
  | [] => Nat.le_refl _
  | row :: R => by
    have ih := allPairs_len R
    unfold allPairs ends at *
    rw [List.flatMap_cons, List.length_append, List.flatten_cons, List.length_append, pairs_len]
    omega
def nx (prs : List (En × En)) (e : En) : List En := prs.filterMap fun p => if p.1 = e then some p.2 else none
theorem nx_len (prs : List (En × En)) (e : En) : (nx prs e).length ≤ prs.length := List.length_filterMap_le _ _
theorem mem_nx {prs : List (En × En)} {e y : En} : y ∈ nx prs e ↔ (e, y) ∈ prs := by
  unfold nx
  rw [List.mem_filterMap]
  constructor
  · rintro ⟨⟨a, b⟩, h, h2⟩
    by_cases he : a = e
    · simp [he] at h2
      rw [← he, ← h2]
      exact h
    · simp [he] at h2
  · intro h
    exact ⟨(e, y), h, by simp⟩
theorem nx_app (a b : List (En × En)) (e : En) : nx (a ++ b) e = nx a e ++ nx b e := List.filterMap_append
theorem nx_one (p : En × En) (e : En) : nx [p] e = if e = p.1 then [p.2] else [] := by
  unfold nx
  by_cases h : p.1 = e
  · simp [h]
  · simp [h, Ne.symm h]
def nextF (R : Run) (e : En) : List En := nx (allPairs R) e ++ if e.2 = true then [(e.1, false)] else []
theorem nextF_mem {R : Run} {e y : En} (he : e ∈ ends R) : y ∈ nextF R e ↔ Edge R e y := by
  unfold nextF
  rw [List.mem_append, mem_nx]
  unfold allPairs
  rw [List.mem_flatMap]
  constructor
  · rintro (⟨row, hr, h⟩ | h)
    · exact .inl ⟨row, hr, pairs_nb.mp h⟩
    · by_cases h2 : e.2 = true
      · rw [if_pos h2, List.mem_singleton] at h
        exact .inr ⟨he, h2, h⟩
      · rw [if_neg h2] at h
        cases h
  · rintro (⟨row, hr, h⟩ | ⟨_, h2, h⟩)
    · exact .inl ⟨row, hr, pairs_nb.mpr h⟩
    · right
      rw [if_pos h2, h]
      exact List.mem_singleton.mpr rfl
theorem nextF_len {R : Run} (e : En) : (nextF R e).length ≤ (ends R).length + 1 := by
  unfold nextF
  rw [List.length_append]
  have := nx_len (allPairs R) e
  have := allPairs_len R
  split <;> simp <;> omega
end BC
/-! A dict from ends to lists of ends. -/
namespace BC
open PySem PySem.Spec PyProof.Rows L2 BX
structure NL (H : Hp) (es : List En) (la : En → Addr) (f : En → List En) : Prop where
  inj : ∀ x ∈ es, ∀ y ∈ es, la x = la y → x = y
  at_ : ∀ e ∈ es, ∃ vs, H (la e) = some (.lst vs) ∧ Paired (EndAt H) vs (f e)
def dictOf (es : List En) (la : En → Addr) : List (List Key × V) := es.map fun e => (eK e, V.ref (la e))
theorem dictOf_fst (es : List En) (la : En → Addr) : (dictOf es la).map (·.1) = es.map eK := by
  unfold dictOf
  rw [List.map_map]
  rfl
theorem dictOf_val {es : List En} {la : En → Addr} (hn : es.Nodup) {e : En} (he : e ∈ es) : valV (dictOf es la) (eK e) = some (.ref (la e)) :=
  valV_some (by rw [dictOf_fst]; exact nodup_eK hn) (List.mem_map.mpr ⟨e, he, rfl⟩)
theorem NL.same {H H' : Hp} {es : List En} {la : En → Addr} {f : En → List En} (n : NL H es la f) (s : Same H H') : NL H' es la f :=
  ⟨n.inj, fun e he => let ⟨vs, h1, h2⟩ := n.at_ e he; ⟨vs, s _ _ h1, ends_mono (Same.ts s) h2⟩⟩
theorem NL.congr {H : Hp} {es : List En} {la : En → Addr} {f g : En → List En} (n : NL H es la f) (h : ∀ e ∈ es, f e = g e) : NL H es la g :=
  ⟨n.inj, fun e he => h e he ▸ n.at_ e he⟩
theorem NL.off {H : Hp} {es : List En} {la : En → Addr} {f : En → List En} (n : NL H es la f) {d : Addr} {o : HO} (hd : ∀ e ∈ es, la e ≠ d) (ht : TSame H (L2.upd H d o)) : NL (L2.upd H d o) es la f :=
  ⟨n.inj, fun e he => let ⟨vs, h1, h2⟩ := n.at_ e he; ⟨vs, by rw [upd_ne (hd e he)]; exact h1, ends_mono ht h2⟩⟩
theorem NL.app {H : Hp} {es : List En} {la : En → Addr} {f : En → List En} (n : NL H es la f) {e y : En} {v : V} {vs : List V} (he : e ∈ es) (hv : EndAt H v y) (hl : H (la e) = some (.lst vs)) (hp : Paired (EndAt H) vs (f e)) :
    NL (L2.upd H (la e) (.lst (vs ++ [v]))) es la (fun x => if x = e then f e ++ [y] else f x) := by
  have t : TSame H (L2.upd H (la e) (.lst (vs ++ [v]))) := .lst hl
  refine ⟨n.inj, fun x hx => ?_⟩
  by_cases h : x = e
  · subst h
    rw [if_pos rfl]
    exact ⟨vs ++ [v], upd_same, Paired.snoc (ends_mono t hp) (EndAt.mono t hv)⟩
  · rw [if_neg h]
    obtain ⟨ws, h1, h2⟩ := n.at_ x hx
    exact ⟨ws, by rw [upd_ne fun e' => h (n.inj x hx e he e')]; exact h1, ends_mono t h2⟩
theorem dgetR {H : Hp} {d b : Addr} {es : List En} {la : En → Addr} {e : En} (hn : es.Nodup) (he : e ∈ es) (hd : Rd H d (.dT (dictOf es la))) (hb : H b = some (.tup (eV e))) : DGet H d (.ref b) (some (.ref (la e))) :=
  .inr ⟨_, eK e, b, hd, rfl, hb, (dictOf_val hn he).symm⟩
theorem dictOf_app {es : List En} {la : En → Addr} {e : En} {p : Addr} (he : e ∉ es) : dictOf (es ++ [e]) (fun x => if x = e then p else la x) = dictOf es la ++ [(eK e, V.ref p)] := by
  unfold dictOf
  rw [List.map_append]
  congr 1
  · refine List.map_congr_left fun x hx => ?_
    simp only [if_neg fun h : x = e => he (h ▸ hx)]
  · simp
theorem NL.grow {H : Hp} {es : List En} {la : En → Addr} {f : En → List En} (n : NL H es la f) {e : En} {p : Addr} (he : e ∉ es) (hp : H p = none) {vs : List V} (hv : Paired (EndAt H) vs (f e)) :
    NL (L2.upd H p (.lst vs)) (es ++ [e]) (fun x => if x = e then p else la x) f := by
  have t : TSame H (L2.upd H p (.lst vs)) := .new hp
  have ne : ∀ x ∈ es, x ≠ e := fun x hx h => he (h ▸ hx)
  have np : ∀ x ∈ es, la x ≠ p := fun x hx h => by
    obtain ⟨ws, h1, _⟩ := n.at_ x hx
    rw [h, hp] at h1
    cases h1
  refine ⟨fun x hx y hy h => ?_, fun x hx => ?_⟩
  · rcases List.mem_append.mp hx with hx | hx <;> rcases List.mem_append.mp hy with hy | hy
    · simp only [if_neg (ne x hx), if_neg (ne y hy)] at h
      exact n.inj x hx y hy h
    · simp only [if_neg (ne x hx), if_pos (List.mem_singleton.mp hy)] at h
      exact absurd h (np x hx)
    · simp only [if_neg (ne y hy), if_pos (List.mem_singleton.mp hx)] at h
      exact absurd h.symm (np y hy)
    · rw [List.mem_singleton.mp hx, List.mem_singleton.mp hy]
  · rcases List.mem_append.mp hx with hx | hx
    · obtain ⟨ws, h1, h2⟩ := n.at_ x hx
      exact ⟨ws, by simp only [if_neg (ne x hx)]; rw [upd_ne (np x hx)]; exact h1, ends_mono t h2⟩
    · rw [List.mem_singleton.mp hx]
      exact ⟨vs, by simp only [if_pos]; exact upd_same, ends_mono t hv⟩
theorem NL.add {H : Hp} {es : List En} {la : En → Addr} {f g : En → List En} (n : NL H es la f) {e : En} {p : Addr} (he : e ∉ es) (np : ∀ x ∈ es, la x ≠ p) {vs : List V} (hp : H p = some (.lst vs)) (hv : Paired (EndAt H) vs (g e)) (hg : ∀ x ∈ es, g x = f x) :
    NL H (es ++ [e]) (fun x => if x = e then p else la x) g := by
  have ne : ∀ x ∈ es, x ≠ e := fun x hx h => he (h ▸ hx)
  refine ⟨fun x hx y hy h => ?_, fun x hx => ?_⟩
  · rcases List.mem_append.mp hx with hx | hx <;> rcases List.mem_append.mp hy with hy | hy
    · simp only [if_neg (ne x hx), if_neg (ne y hy)] at h
      exact n.inj x hx y hy h
    · simp only [if_neg (ne x hx), if_pos (List.mem_singleton.mp hy)] at h
      exact absurd h (np x hx)
    · simp only [if_neg (ne y hy), if_pos (List.mem_singleton.mp hx)] at h
      exact absurd h.symm (np y hy)
    · rw [List.mem_singleton.mp hx, List.mem_singleton.mp hy]
  · rcases List.mem_append.mp hx with hx | hx
    · obtain ⟨ws, h1, h2⟩ := n.at_ x hx
      exact ⟨ws, by simp only [if_neg (ne x hx)]; exact h1, by rw [hg x hx]; exact h2⟩
    · rw [List.mem_singleton.mp hx]
      exact ⟨vs, by simp only [if_pos]; exact hp, hv⟩
theorem any_end (S : List En) (h : En) : ((S.map endD).any fun z => PyData.eqv z (endD h)) = decide (h ∈ S) := by
  induction S with
  | nil => rfl
  | cons a r ih =>
    rw [List.map_cons, List.any_cons, ih, endD_eqv]
    by_cases h1 : a = h
    · simp [h1]
    · simp [h1, Ne.symm h1]
theorem NL.ne_of {H : Hp} {es : List En} {la : En → Addr} {f : En → List En} (n : NL H es la f) {d : Addr} (hd : ∀ ys, H d ≠ some (.lst ys)) : ∀ e ∈ es, la e ≠ d := fun e he h => by
  obtain ⟨vs, h1, _⟩ := n.at_ e he
  exact hd vs (h ▸ h1)
section
variable {K : PySem.W.Frag} {H : Hp} {a : Addr} {us : List V} {Q : VK}
theorem cutV_from (xs : List V) (k : Nat) : cutV xs (some (k : Int)) none = xs.drop k := by
  unfold cutV
  rw [show HT.sIx xs.length 0 (some (k : Int)) = min k xs.length from HT.sIx_nat xs.length 0 k, HT.sIx_none]
  rw [List.take_of_length_le]
  · by_cases h : k ≤ xs.length
    · rw [Nat.min_eq_left h]
    · rw [Nat.min_eq_right (by omega), List.drop_length, List.drop_of_length_le (by omega)]
  · rw [List.length_drop]
    omega
theorem cutV_to (xs : List V) (k : Nat) : cutV xs none (some (k : Int)) = xs.take k := by
  unfold cutV
  rw [show HT.sIx xs.length xs.length (some (k : Int)) = min k xs.length from HT.sIx_nat xs.length xs.length k, HT.sIx_none]
  simp
theorem slA_from {k : Nat} (ha : H a = some (.tup us)) (h : ∀ b H', Same H H' → H' b = some (.tup (us.drop k)) → Q (.ref b) H') : rSlA K (.ref a) (some (k : Int)) none H Q := by
  refine ⟨a, us, rfl, SqT.of ha, fun e => ?_, fun _ p hp => h p _ (Same.new hp) (by rw [upd_same, cutV_from])⟩
  have e1 := e.1
  rw [show HT.sIx us.length 0 (some (k : Int)) = min k us.length from HT.sIx_nat us.length 0 k] at e1
  refine h a H (Same.rf H) ?_
  rw [ha]
  by_cases hk : k = 0
  · rw [hk]; rfl
  · have : us = [] := List.length_eq_zero_iff.mp (by omega)
    rw [this]; simp
theorem slA_to {k : Nat} (ha : H a = some (.tup us)) (h : ∀ b H', Same H H' → H' b = some (.tup (us.take k)) → Q (.ref b) H') : rSlA K (.ref a) none (some (k : Int)) H Q := by
  refine ⟨a, us, rfl, SqT.of ha, fun e => ?_, fun _ p hp => h p _ (Same.new hp) (by rw [upd_same, cutV_to])⟩
  have e1 := e.2
  rw [show HT.sIx us.length us.length (some (k : Int)) = min k us.length from HT.sIx_nat us.length us.length k] at e1
  refine h a H (Same.rf H) ?_
  rw [ha, List.take_of_length_le (by omega)]
end
end BC
namespace BC
open PySem PySem.Spec PyProof.Rows L2 BX
section
variable {P : Program} {w : World} {K : PySem.W.Frag} {mg : Str → Option Value} {base : Heap} {f : Addr} {fd : FuncData}
theorem iteT {c : Bool} {A B : Prop} (h : c = true) (a : A) : if c = true then A else B := by rw [if_pos h]; exact a
theorem iteF {c : Bool} {A B : Prop} (h : c = false) (b : B) : if c = true then A else B := by rw [if_neg (by rw [h]; decide)]; exact b
theorem two_le : 2 ≤ sizeLine := by decide
theorem tyL {K : PySem.W.Frag} {H : Hp} {l : Addr} {xs : List V} (h : H l = some (.lst xs)) : tyV K "list" (.ref l) H := .inl ⟨rfl, _, .inl (.inl h)⟩
theorem sc_next_ends : FnScope ["run", "found", "row", "letter", "end", "one", "other"] ["run"] (defScope s_next_ends) := ⟨rfl, rfl, rfl, by decide +kernel, rfl, by decide +kernel, by decide +kernel⟩
-- slots: 0:run 1:found 2:row 3:letter 4:end 5:one 6:other
/-- a dict of lists: what follows each end -/
def DLs (H0 H : Hp) (d : Addr) (R : Run) (Rel : En → En → Prop) : Prop := Same H0 H ∧ H0 d = none ∧ ∃ la fn, H d = some (.dT (dictOf (ends R) la)) ∧ NL H (ends R) la fn ∧ (∀ e ∈ ends R, (fn e).length ≤ 50) ∧ ∀ e ∈ ends R, ∀ y, y ∈ fn e ↔ Rel e y
def spNext : Sp := fun vs H Q _ => ∃ v R, vs = [v] ∧ RunAt H v R ∧ Fine R ∧ ∀ d H', DLs H H' d R (Edge R) → Q (.ref d) H'
theorem cal_next_ends (F : FnP K "next_ends" s_next_ends f fd) (hm : mg "next_ends" = some (.ref f)) (T : Txt K mg) (c_tupled : cTupR P w K mg base) (c_houses_of : C8.Cal P w K mg base 5 "houses_of" spHouses []) : C8.Cal P w K mg base 6 "next_ends" spNext [] := by
  refine cal_of F hm sc_next_ends (fun kV doc pm an cdv ct us hl => match us, hl with | [_], _ => rfl) (fun vs H Q E h => ?_) (fun cdv A outer s H vs Q E hr h => ?_)
  · obtain ⟨_, _, rfl, _⟩ := h; rfl
  obtain ⟨v, R, rfl, hR, fn, q⟩ := h
  have nd := sc_next_ends.nd
  have hu1 := Nat.lt_of_le_of_lt (Nat.add_le_add_left (show 1 ≤ 64 by decide) _) hr.units
  have hu64 := hr.units
  have hu65 := room65 hr
  refine ⟨_, (pss_cons (ps_setDcT (i := 1) (own := [("end", 4)]) (g := (gName 4)) rfl nd hu1 rfl rfl (sw_trueD rfl rfl rfl (by decide +kernel)) (pi_keysC (C8.pe_c c_houses_of hr (by omega) (by rfl) (pa_cons (pv 0) pa_nil))) (blkOk_by (by rfl)) (fun _ _ _ _ _ => (pg_name (i := 4) nd rfl (Or.inl rfl))) (fun _ _ _ _ _ => (pv 4)) (fun _ _ _ _ _ => (pe_lst pa_nil)))
    (pss_cons (ps_for PassesOwn.never rfl (pi_tup (C8.pe_c c_tupled hr (by omega) (by rfl) (pa_cons (pv 0) pa_nil))) (pg_name (i := 2) nd rfl (Or.inl rfl)) (pss_one (ps_for PassesOwn.never rfl (RZ.pi_zipA (by rfl) T.n_zip (pa_cons (pv 2) (pa_cons (pe_slice sl_tupA (pv 2) (po_some pe_int) po_none) pa_nil))) (pg_tup rfl (pgs_cons (pg_name (i := 5) nd rfl (Or.inl rfl)) (pgs_cons (pg_name (i := 6) nd rfl (Or.inl rfl)) pgs_nil))) (pss_one (ps_expr (pe_bm PySem.F.plainAttrs_list PySem.F.slot_list_append PySem.F.type_list_append mt_append (pe_dget hu1 (pv 1) (pv 5) (fun _ _ => rfl)) (pa_cons (pv 6) pa_nil)))))))
    (pss_cons (ps_lock (ps_for PassesOwn.never rfl (pi_keys (pv 1)) (pg_tup rfl (pgs_cons (pg_name (i := 3) nd rfl (Or.inl rfl)) (pgs_cons (pg_name (i := 4) nd rfl (Or.inl rfl)) pgs_nil))) (pss_one (ps_if (pt_cmpR op_eq (pv 4) pe_str (nomark _)) (pss_one (ps_expr (pe_bm PySem.F.plainAttrs_list PySem.F.slot_list_append PySem.F.type_list_append mt_append (pe_dget hu1 (pv 1) (pe_tup (pa_cons (pv 3) (pa_cons (pv 4) pa_nil))) (fun _ _ => rfl)) (pa_cons (pe_tup (pa_cons (pv 3) (pa_cons pe_str pa_nil))) pa_nil)))) pss_nil))))
    (pss_one (ps_ret (pv 1)))))), ?_⟩
  have hnd := fn.ok.nd
  have hmany := fn.many
  -- the dict
  refine ⟨v, rfl, v, R, rfl, hR, fn, fun dh H1 s1 ndh hdh => ⟨dh, rfl, .inr ⟨houseK R, hdh, fun o D hD => ?_⟩⟩⟩
  have s2 : Same H (L2.upd H1 dh (.frz o (.dT (houseK R)))) := Same.put s1 ndh
  have hdh2 : (L2.upd H1 dh (.frz o (.dT (houseK R)))) dh = some (.frz o (.dT (houseK R))) := upd_same
  generalize (L2.upd H1 dh (.frz o (.dT (houseK R)))) = H2 at s2 hdh2 hD ⊢
  have hnl : (houseK R).length = (ends R).length := by
    rw [← List.length_map (f := (·.1)), houseK_fst, List.length_map]
  have Wk := wp_keysT (d := dh) (o := o) (kvs := houseK R)
  have nD : H D = none := same_none s2 hD
  refine ⟨fun i m H' => m = (houseK R).length - i ∧ i ≤ (houseK R).length ∧ Same H2 H' ∧ ∃ la, H' D = some (.dT (dictOf ((ends R).take i) la)) ∧ NL H' ((ends R).take i) la (nx []) ∧ ∀ e ∈ (ends R).take i, H2 (la e) = none,
    ⟨_, rfl, Nat.zero_le _, Same.new hD, fun _ => 0, upd_same, ⟨fun x hx => (by cases hx), fun x hx => (by cases hx)⟩, fun x hx => (by cases hx)⟩, ?_⟩
  rintro i m H3 ⟨rfl, hi, s3, la, hd3, nl, nla⟩
  have hG := s3 _ _ hdh2
  by_cases hlt : i < (houseK R).length
  · refine .inr ⟨Wk.goes i H3 hlt hG, fun H' => Same H2 H' ∧ ∃ la, H' D = some (.dT (dictOf ((ends R).take (i + 1)) la)) ∧ NL H' ((ends R).take (i + 1)) la (nx []) ∧ ∀ e ∈ (ends R).take (i + 1), H2 (la e) = none, fun H' p' => ⟨_, by omega, rfl, hlt, p'⟩, fun x H4 y => ?_⟩
    obtain ⟨s4, k, kv, qa, hk, rfl, hqa⟩ := Wk.yields i H3 x H4 hlt hG y
    have hil : i < (ends R).length := by omega
    have ek : k = eK (ends R)[i] := by
      have h1 : ((houseK R).map (·.1))[i]? = some k := by rw [List.getElem?_map, hk]; rfl
      rw [houseK_fst, List.getElem?_map, List.getElem?_eq_getElem hil] at h1
      exact (Option.some.inj h1).symm
    generalize hge : (ends R)[i] = e at ek
    have hget : (ends R)[i]? = some e := by rw [List.getElem?_eq_getElem hil, hge]
    have hnew : e ∉ (ends R).take i := mem_pre hnd (cut_at hget)
    have htake : (ends R).take (i + 1) = (ends R).take i ++ [e] := by rw [List.take_add_one, hget]; rfl
    refine ⟨rfl, .ref qa, rfl, Nat.zero_le _, fun p np => ⟨dictOf ((ends R).take i) la, k, qa, rfl, ?_, ?_, ?_, ?_⟩⟩
    · exact (Same.new np) _ _ hqa
    · exact (Same.new np) _ _ (s4 _ _ hd3)
    · refine small1000 ?_
      unfold dictOf
      rw [List.length_map, List.length_take]
      omega
    · have nl4 := (nl.same s4).grow hnew np (vs := []) .nil
      have hd5 : (L2.upd H4 p (.lst [])) D = some (.dT (dictOf ((ends R).take i) la)) := (Same.new np) _ _ (s4 _ _ hd3)
      rw [htake, ek, putK_app (fun z hz => by
        obtain ⟨x, hx, rfl⟩ := List.mem_map.mp hz
        exact fun h => hnew (eK_inj h ▸ hx)), ← dictOf_app hnew]
      refine ⟨Same.put (Same.trans s3 (Same.trans s4 (Same.new np))) hD, _, upd_same, nl4.off (nl4.ne_of fun ys h => by rw [hd5] at h; cases h) (.dT hd5), fun x hx => ?_⟩
      rcases List.mem_append.mp hx with hx | hx
      · simp only [if_neg fun h : x = e => hnew (h ▸ hx)]
        exact nla x hx
      · simp only [if_pos (List.mem_singleton.mp hx)]
        exact same_none (Same.trans s3 s4) np
  refine .inl ⟨?_, ?_⟩
  · have e : i = (houseK R).length := by omega
    exact e ▸ Wk.stops H3 hG
  have ei : (ends R).take i = ends R := List.take_of_length_le (by omega)
  rw [ei] at hd3 nl nla
  have nlaH : ∀ e ∈ ends R, H (la e) = none := fun e he => same_none s2 (nla e he)
  clear nla ei hlt hG
  have s3 : Same H H3 := Same.trans s2 s3
  clear Wk hdh2 s2 hD hi
  -- the rows
  refine ⟨v, rfl, v, R, rfl, fn.runT (RunAt.mono (Same.ts s3) hR), ?_⟩
  rintro v' H4 s4 ⟨_, _, a, us, rfl, ha, hp⟩
  have hlen : us.length = R.length := Paired.len hp
  refine ⟨a, rfl, ⟨us, SqT.of ha⟩, ?_⟩
  let I : List (En × En) → L2.St → Hp → Prop := fun prs σ H' => ∃ x2 x3 x4 x5 x6, σ = [some v, some (.ref D), x2, x3, x4, x5, x6] ∧ Same H H' ∧ TSame H4 H' ∧ H' D = some (.dT (dictOf (ends R) la)) ∧ NL H' (ends R) la (nx prs)
  refine L2.for_it (wp_tup (K := K) (a := a) (xs := us)) (fun i => I ((R.take i).flatMap pairsOf)) ⟨none, none, none, none, none, rfl, Same.trans s3 s4, TSame.refl _, s4 _ _ hd3, nl.same s4⟩ (fun i σ H' _ h => ?_) (fun i x σ H5 H5' hi h y => ?_) fun σ H5 h => ?_
  · obtain ⟨_, _, _, _, _, _, _, t, _⟩ := h
    exact SqT.of (t _ _ ha)
  · obtain ⟨x2, x3, x4, x5, x6, rfl, s5, t5, hd5, nl5⟩ := h
    obtain ⟨s6, hx⟩ := y
    have s5 := Same.trans s5 s6
    have t5 := TSame.trans t5 (Same.ts s6)
    have hd5 := s6 _ _ hd5
    have nl5 := nl5.same s6
    clear s6
    generalize H5' = H5 at *
    obtain ⟨row, hrow, ra, rs, rfl, hra, hrp⟩ := Paired.at hp hx
    have hrl : rs.length = row.length := Paired.len hrp
    have hra5 := t5 _ _ hra
    refine ⟨.ref ra, rfl, .ref ra, rfl, 1, rfl, ?_⟩
    delta tNoPart
    refine slA_from (k := 1) hra5 fun b H6 s6 hb => ?_
    refine ⟨ra, b, rs, rs.drop 1, rfl, .inr ⟨SqT.of (s6 _ _ hra5), SqT.of hb, ?_⟩⟩
    have hsub : ∀ {x}, x ∈ row → x ∈ ends R := fun hx => mem_ends.mpr ⟨row, List.mem_of_getElem? hrow, hx⟩
    have hpl : (pairsOf row).length = rs.length - 1 := by rw [pairs_len, hrl]
    have hal := allPairs_len R
    refine L2.for_it (wp_zipT (K := K) (a := ra) (b := b) (xs := rs) (ys := rs.drop 1) (n := rs.length - 1) (by rw [List.length_drop]; omega)) (fun j σ H' => I ((R.take i).flatMap pairsOf ++ (pairsOf row).take j) σ H' ∧ TSame H6 H') ⟨⟨_, _, _, _, _, rfl, Same.trans s5 s6, TSame.trans t5 (Same.ts s6), s6 _ _ hd5, by simpa using nl5.same s6⟩, TSame.refl _⟩ (fun j σ H' _ h => ?_) (fun j x σ H7 H7' hj h y => ?_) fun σ H7 h => ?_
    · exact ⟨SqT.of (h.2 _ _ (s6 _ _ hra5)), SqT.of (h.2 _ _ hb)⟩
    · obtain ⟨⟨y2, y3, y4, y5, y6, rfl, s7, t7, hd7, nl7⟩, t67⟩ := h
      obtain ⟨s8, Tz, v1, v2, rfl, hTz, h1, h2⟩ := y
      rw [List.getElem?_drop] at h2
      obtain ⟨one, ho1, b1, rfl, hb1⟩ := Paired.at hrp h1
      obtain ⟨two, ho2, b2, rfl, hb2⟩ := Paired.at hrp h2
      rw [Nat.add_comm 1 j] at ho2
      have hpg := pairs_get ho1 ho2
      have hone := hsub (List.mem_of_getElem? ho1)
      have nl8 := nl7.same s8
      have hd8 := s8 _ _ hd7
      have t8 := TSame.trans t7 (Same.ts s8)
      obtain ⟨vs, hl, hvs⟩ := nl8.at_ one hone
      have hvl : vs.length ≤ 1000 := by
        rw [Paired.len hvs]
        refine Nat.le_trans (nx_len _ _) ?_
        have h9 : ((R.take i).flatMap pairsOf ++ (pairsOf row).take j).length ≤ (ends R).length := by
          rw [cut_row hrow, List.length_append, List.length_append, List.length_append]
          have h10 := allPairs_len (R.take i)
          unfold allPairs ends at h10
          have h11 : ((pairsOf row).take j).length ≤ row.length := by rw [List.length_take, pairs_len]; omega
          omega
        omega
      refine ⟨Tz, _, rfl, SqT.of hTz, rfl, _, _, rfl, _, _, rfl, rfl, ?_⟩
      refine ⟨.ref D, rfl, .ref b1, rfl, D, _, rfl, dgetR hnd hone (.inl hd8) (t8 _ _ hb1), tyL hl, .ref b2, rfl, la one, vs, .ref b2, rfl, rfl, hl, small1000 hvl, ?_⟩
      refine ⟨⟨_, _, _, _, _, rfl, Same.put (Same.trans s7 s8) (nlaH one hone), TSame.trans t8 (.lst hl), ?_, ?_⟩, TSame.trans t67 (TSame.trans (Same.ts s8) (.lst hl))⟩
      · rw [upd_ne fun h => by rw [← h, hd8] at hl; cases hl]
        exact hd8
      · refine (nl8.app hone ⟨b2, rfl, t8 _ _ hb2⟩ hl hvs).congr fun e he => ?_
        rw [List.take_add_one, hpg, ← List.append_assoc, show (some (one, two)).toList = [(one, two)] from rfl, nx_app _ [(one, two)], nx_one]
        by_cases h : e = one
        · rw [if_pos h, if_pos h, h]
        · rw [if_neg h, if_neg h, List.append_nil]
    · obtain ⟨h, _⟩ := h
      rw [← hpl, List.take_length] at h
      have e : (R.take (i + 1)).flatMap pairsOf = (R.take i).flatMap pairsOf ++ pairsOf row := by
        rw [List.take_add_one, hrow, List.flatMap_append]
        simp
      show I ((R.take (i + 1)).flatMap pairsOf) σ H7
      rw [e]
      exact h
  -- the letters
  obtain ⟨x2, x3, x4, x5, x6, rfl, s5, t5, hd5, nl5⟩ := h
  rw [hlen, List.take_length] at nl5
  refine ⟨D, _, hd5, trivial, fun od => ?_⟩
  have dne := nl5.ne_of (d := D) fun ys h => by rw [hd5] at h; cases h
  refine ⟨.ref D, rfl, D, od, rfl, .inr ⟨_, upd_same, ?_⟩⟩
  let g : Nat → En → List En := fun i e => nx (allPairs R) e ++ if e ∈ (ends R).take i ∧ e.2 = true then [(e.1, false)] else []
  have hgl : ∀ i e, (g i e).length ≤ 41 := fun i e => by
    show (nx (allPairs R) e ++ _).length ≤ 41
    rw [List.length_append]
    have h1 := nx_len (allPairs R) e
    have h2 := allPairs_len R
    split <;> simp <;> omega
  have hdl : (dictOf (ends R) la).length = (ends R).length := by unfold dictOf; rw [List.length_map]
  refine L2.for_it (wp_keysT (d := D) (o := od) (kvs := dictOf (ends R) la)) (fun i σ H' => ∃ x2 x3 x4 x5 x6, σ = [some v, some (.ref D), x2, x3, x4, x5, x6] ∧ Same H H' ∧ H' D = some (.frz od (.dT (dictOf (ends R) la))) ∧ NL H' (ends R) la (g i))
    ⟨_, _, _, _, _, rfl, Same.put s5 nD, upd_same, (nl5.off dne (.dT hd5)).congr fun e he => ?_⟩ (fun i σ H' _ h => ?_) (fun i x σ H6 H6' hi h y => ?_) fun σ H6 h => ?_
  · show nx (allPairs R) e = nx (allPairs R) e ++ _
    simp
  · obtain ⟨_, _, _, _, _, _, _, h, _⟩ := h
    exact h
  · obtain ⟨y2, y3, y4, y5, y6, rfl, s6, hd6, nl6⟩ := h
    obtain ⟨s7, k, kv, qa, hk, rfl, hqa⟩ := y
    have hil : i < (ends R).length := by omega
    have ek : k = eK (ends R)[i] := by
      have h1 : ((dictOf (ends R) la).map (·.1))[i]? = some k := by rw [List.getElem?_map, hk]; rfl
      rw [dictOf_fst, List.getElem?_map, List.getElem?_eq_getElem hil] at h1
      exact (Option.some.inj h1).symm
    generalize hge : (ends R)[i] = e at ek
    have hget : (ends R)[i]? = some e := by rw [List.getElem?_eq_getElem hil, hge]
    have hmem := List.mem_of_getElem? hget
    have hnew : e ∉ (ends R).take i := mem_pre hnd (cut_at hget)
    have htake : (ends R).take (i + 1) = (ends R).take i ++ [e] := by rw [List.take_add_one, hget]; rfl
    have s6 := Same.trans s6 s7
    have hd6 := s7 _ _ hd6
    have nl6 := nl6.same s7
    have hg : ∀ x ∈ ends R, x ≠ e → g i x = g (i + 1) x := fun x hx hne => by
      show nx (allPairs R) x ++ _ = nx (allPairs R) x ++ _
      congr 1
      rw [htake]
      by_cases h1 : x ∈ (ends R).take i ∧ x.2 = true
      · rw [if_pos h1, if_pos ⟨List.mem_append.mpr (.inl h1.1), h1.2⟩]
      · rw [if_neg h1, if_neg]
        rintro ⟨h2, h3⟩
        rcases List.mem_append.mp h2 with h2 | h2
        · exact h1 ⟨h2, h3⟩
        · exact hne (List.mem_singleton.mp h2)
    refine ⟨qa, k.map kV, rfl, SqT.of hqa, by rw [ek]; rfl, .int e.1, [.str (sr e.2)], by rw [ek]; rfl, .str (sr e.2), [], rfl, rfl, ?_⟩
    refine ⟨.str (sr e.2), rfl, rfl, _, rfl, ?_⟩
    by_cases he2 : e.2 = true
    · have e1 : decide (V.str (sr e.2) = V.str (Str.ofString "s")) = true := by rw [he2]; exact decide_eq_true rfl
      refine iteT e1 ?_
      refine ⟨.ref D, rfl, .int e.1, rfl, .str (sr e.2), rfl, two_le, fun p np => ?_⟩
      have s8 : Same H6' (L2.upd H6' p (.tup [.int e.1, .str (sr e.2)])) := Same.new np
      have hp8 : (L2.upd H6' p (.tup [.int e.1, .str (sr e.2)])) p = some (.tup (eV e)) := upd_same
      generalize (L2.upd H6' p (.tup [.int e.1, .str (sr e.2)])) = H8 at s8 hp8 ⊢
      have nl8 := nl6.same s8
      obtain ⟨vs, hl, hvs⟩ := nl8.at_ e hmem
      refine ⟨D, _, rfl, dgetR hnd hmem (.inr ⟨od, s8 _ _ hd6⟩) hp8, tyL hl, .int e.1, rfl, two_le, fun p9 np9 => ?_⟩
      have s9 : Same H8 (L2.upd H8 p9 (.tup [.int e.1, .str (Str.ofString "r")])) := Same.new np9
      have hp9 : (L2.upd H8 p9 (.tup [.int e.1, .str (Str.ofString "r")])) p9 = some (.tup (eV (e.1, false))) := upd_same
      generalize (L2.upd H8 p9 (.tup [.int e.1, .str (Str.ofString "r")])) = H9 at s9 hp9 ⊢
      refine ⟨la e, vs, .ref p9, rfl, rfl, s9 _ _ hl, small1000 (by rw [Paired.len hvs]; have := hgl i e; omega), ?_⟩
      refine ⟨_, _, _, _, _, rfl, Same.put (Same.trans s6 (Same.trans s8 s9)) (nlaH e hmem), ?_, ?_⟩
      · have hd9 := s9 _ _ (s8 _ _ hd6)
        rw [upd_ne fun h => by rw [← h] at hl; rw [s8 _ _ hd6] at hl; cases hl]
        exact hd9
      · refine ((nl8.same s9).app hmem ⟨p9, rfl, hp9⟩ (s9 _ _ hl) (ends_mono (Same.ts s9) hvs)).congr fun x hx => ?_
        by_cases h : x = e
        · subst h
          rw [if_pos rfl]
          show (nx (allPairs R) x ++ _) ++ _ = nx (allPairs R) x ++ _
          rw [if_neg fun h => hnew h.1, List.append_nil, if_pos ⟨by rw [htake]; simp, he2⟩]
        · rw [if_neg h]
          exact hg x hx h
    · have e1 : decide (V.str (sr e.2) = V.str (Str.ofString "s")) = false := by
        have : e.2 = false := by simpa using he2
        rw [this]
        decide
      refine iteF e1 ?_
      refine ⟨_, _, _, _, _, rfl, s6, hd6, nl6.congr fun x hx => ?_⟩
      by_cases h : x = e
      · subst h
        show nx (allPairs R) x ++ _ = nx (allPairs R) x ++ _
        rw [if_neg fun h => he2 h.2, if_neg fun h => he2 h.2]
      · exact hg x hx h
  · obtain ⟨y2, y3, y4, y5, y6, rfl, s6, hd6, nl6⟩ := h
    rw [hdl] at nl6
    refine ⟨hd6, .ref D, rfl, ?_⟩
    have dne6 := nl6.ne_of (d := D) fun ys h => by rw [hd6] at h; cases h
    refine q D _ ⟨Same.put s6 nD, nD, la, g (ends R).length, upd_same, nl6.off dne6 (.updOf fun xs h => by rw [hd6] at h; cases h), fun e he => Nat.le_trans (hgl _ e) (by decide), fun e he y => ?_⟩
    rw [← nextF_mem he]
    show y ∈ nx (allPairs R) e ++ _ ↔ y ∈ nx (allPairs R) e ++ _
    rw [List.take_length]
    by_cases h : e.2 = true
    · rw [if_pos ⟨he, h⟩, if_pos h]
    · rw [if_neg fun z => h z.2, if_neg h]
end
end BC
namespace BC
theorem nodup_sub_len {α : Type} [DecidableEq α] : ∀ {l m : List α}, l.Nodup → (∀ x ∈ l, x ∈ m) → l.length ≤ m.length
  | [], _, _, _ => Nat.zero_le _
  | a :: r, m, hn, h => by
    rw [List.nodup_cons] at hn
    have ha := h a (by simp)
    have ih := nodup_sub_len (l := r) (m := m.erase a) hn.2 fun x hx => by
      rw [List.mem_erase_of_ne (fun e : x = a => hn.1 (by rw [← e]; exact hx))]
      exact h x (List.mem_cons_of_mem _ hx)
    rw [List.length_erase_of_mem ha] at ih
    have : 0 < m.length := List.length_pos_of_mem ha
    simp only [List.length_cons]
    omega
structure Dfs (R : Run) (one : En) (S T : List En) : Prop where
  nd : S.Nodup
  sub : ∀ x ∈ S, x ∈ ends R
  subT : ∀ x ∈ T, x ∈ ends R
  rS : ∀ x ∈ S, Reach R one x
  rT : ∀ x ∈ T, Reach R one x
  e1 : ∀ y, Edge R one y → y ∈ S ∨ y ∈ T
  eS : ∀ x ∈ S, ∀ y, Edge R x y → y ∈ S ∨ y ∈ T
  len : T.length ≤ 50 + 50 * S.length
theorem Dfs.start {R : Run} (o : Ok R) {one : En} {T : List En} (h : ∀ y, y ∈ T ↔ Edge R one y) (hl : T.length ≤ 50) : Dfs R one [] T where
  nd := .nil
  sub := fun _ h => by cases h
  subT := fun x hx => (((h x).mp hx).mem o.both).2
  rS := fun _ h => by cases h
  rT := fun x hx => .one ((h x).mp hx)
  e1 := fun y hy => .inr ((h y).mpr hy)
  eS := fun _ h => by cases h
  len := hl
theorem Dfs.pop {R : Run} {one h : En} {S T : List En} (d : Dfs R one S (T ++ [h])) (hh : h ∈ S) : Dfs R one S T where
  nd := d.nd
  sub := d.sub
  subT := fun x hx => d.subT x (by simp [hx])
  rS := d.rS
  rT := fun x hx => d.rT x (by simp [hx])
  e1 := fun y hy => (d.e1 y hy).elim .inl fun z => by
    rcases List.mem_append.mp z with z | z
    · exact .inr z
    · exact .inl (List.mem_singleton.mp z ▸ hh)
  eS := fun x hx y hy => (d.eS x hx y hy).elim .inl fun z => by
    rcases List.mem_append.mp z with z | z
    · exact .inr z
    · exact .inl (List.mem_singleton.mp z ▸ hh)
  len := by have := d.len; rw [List.length_append] at this; omega
theorem Dfs.push {R : Run} (o : Ok R) {one h : En} {S T ns : List En} (d : Dfs R one S (T ++ [h])) (hh : h ∉ S) (hn : ∀ y, y ∈ ns ↔ Edge R h y) (hl : ns.length ≤ 50) : Dfs R one (S ++ [h]) (T ++ ns) where
  nd := by
    rw [List.nodup_append]
    refine ⟨d.nd, by simp, fun a ha b hb e => hh ?_⟩
    rw [← List.mem_singleton.mp hb, ← e]
    exact ha
  sub := fun x hx => by
    rcases List.mem_append.mp hx with hx | hx
    · exact d.sub x hx
    · rw [List.mem_singleton.mp hx]; exact d.subT h (by simp)
  subT := fun x hx => by
    rcases List.mem_append.mp hx with hx | hx
    · exact d.subT x (by simp [hx])
    · exact (((hn x).mp hx).mem o.both).2
  rS := fun x hx => by
    rcases List.mem_append.mp hx with hx | hx
    · exact d.rS x hx
    · rw [List.mem_singleton.mp hx]; exact d.rT h (by simp)
  rT := fun x hx => by
    rcases List.mem_append.mp hx with hx | hx
    · exact d.rT x (by simp [hx])
    · exact (d.rT h (by simp)).trans (.one ((hn x).mp hx))
  e1 := fun y hy => by
    rcases d.e1 y hy with z | z
    · exact .inl (by simp [z])
    · rcases List.mem_append.mp z with z | z
      · exact .inr (by simp [z])
      · exact .inl (by simp [List.mem_singleton.mp z])
  eS := fun x hx y hy => by
    rcases List.mem_append.mp hx with hx | hx
    · rcases d.eS x hx y hy with z | z
      · exact .inl (by simp [z])
      · rcases List.mem_append.mp z with z | z
        · exact .inr (by simp [z])
        · exact .inl (by simp [List.mem_singleton.mp z])
    · rw [List.mem_singleton.mp hx] at hy
      exact .inr (by simp [(hn y).mpr hy])
  len := by
    have := d.len
    rw [List.length_append] at this
    rw [List.length_append, List.length_append]
    simp at this ⊢
    omega
theorem Dfs.done {R : Run} {one : En} {S : List En} (d : Dfs R one S []) (y : En) : y ∈ S ↔ Reach R one y := by
  have hS : ∀ x ∈ S, ∀ y, Edge R x y → y ∈ S := fun x hx y hy => (d.eS x hx y hy).elim id fun z => by cases z
  have key : ∀ {x y : En}, Reach R x y → (∀ z, Edge R x z → z ∈ S) → y ∈ S := by
    intro x y h
    induction h with
    | one e => exact fun hz => hz _ e
    | cons e _ ih => exact fun hz => ih fun z hz' => hS _ (hz _ e) z hz'
  exact ⟨d.rS y, fun h => key h fun z hz => (d.e1 z hz).elim id fun z => by cases z⟩
theorem Dfs.small {R : Run} {one : En} {S T : List En} (d : Dfs R one S T) : S.length ≤ (ends R).length := nodup_sub_len d.nd d.sub
theorem Dfs.less {R : Run} {one h : En} {S T : List En} (d : Dfs R one S (T ++ [h])) (hh : h ∉ S) : S.length < (ends R).length := by
  have := nodup_sub_len (l := S ++ [h]) (m := ends R) (by
    rw [List.nodup_append]
    refine ⟨d.nd, by simp, fun a ha b hb e => hh ?_⟩
    rw [← List.mem_singleton.mp hb, ← e]
    exact ha) (fun x hx => by
    rcases List.mem_append.mp hx with hx | hx
    · exact d.sub x hx
    · rw [List.mem_singleton.mp hx]; exact d.subT h (by simp))
  rw [List.length_append] at this
  simp at this
  omega
end BC
namespace BC
open PySem PySem.Spec PyProof.Rows L2 BX
section
variable {P : Program} {w : World} {K : PySem.W.Frag} {mg : Str → Option Value} {base : Heap} {f : Addr} {fd : FuncData}
theorem dpl_ends {K : PySem.W.Frag} {H : Hp} {a : Addr} {vs : List V} {es : List En} (h : H a = some (.lst vs)) (hp : Paired (EndAt H) vs es) : Dp K H (.ref a) (.list (es.map endD)) := .lst (.inl (.inl h)) (dps (enc := endD) (fun _ _ h => endD_dp h) hp)
theorem sh_end (e : En) : SeqAt.shaped (endD e) = true := shaped_of (endD_lay e) (Nat.le_trans (endD_depth e) (by decide))
theorem sh_ends (es : List En) : SeqAt.shaped (.list (es.map endD)) = true := shaped_list endD_lay endD_depth (by decide) es
theorem sc_behind_all : FnScope ["run", "one", "nexts", "found", "seen", "rest", "here"] ["run"] (defScope s_behind_all) := ⟨rfl, rfl, rfl, by decide +kernel, rfl, by decide +kernel, by decide +kernel⟩
-- slots: 0:run 1:one 2:nexts 3:found 4:seen 5:rest 6:here
def spBehind : Sp := fun vs H Q _ => ∃ v R, vs = [v] ∧ RunAt H v R ∧ Fine R ∧ ∀ d H', DLs H H' d R (Reach R) → Q (.ref d) H'
theorem cal_behind_all (F : FnP K "behind_all" s_behind_all f fd) (hm : mg "behind_all" = some (.ref f)) (T : Txt K mg) (c_next_ends : C8.Cal P w K mg base 6 "next_ends" spNext []) : C8.Cal P w K mg base 7 "behind_all" spBehind [] := by
  refine cal_of F hm sc_behind_all (fun kV doc pm an cdv ct us hl => match us, hl with | [_], _ => rfl) (fun vs H Q E h => ?_) (fun cdv A outer s H vs Q E hr h => ?_)
  · obtain ⟨_, _, rfl, _⟩ := h; rfl
  obtain ⟨v, R, rfl, hR, fn, q⟩ := h
  have nd := sc_behind_all.nd
  have hu1 := Nat.lt_of_le_of_lt (Nat.add_le_add_left (show 1 ≤ 64 by decide) _) hr.units
  have hu64 := hr.units
  have hu65 := room65 hr
  refine ⟨_, (pss_cons (ps_par (i := 2) (j := 3) rfl nd rfl rfl (by decide) rfl rfl (pa_cons (C8.pe_c c_next_ends hr (by omega) (by rfl) (pa_cons (pv 0) pa_nil)) (pa_cons pe_dnewT pa_nil)) (by rfl))
    (pss_cons (ps_for PassesOwn.never rfl (pi_keysC (pv 2)) (pg_name (i := 1) nd rfl (Or.inl rfl)) (pss_cons (ps_par (i := 4) (j := 5) rfl nd rfl rfl (by decide) rfl rfl (pa_cons (pe_lst pa_nil) (pa_cons (pe_callTy call_list_of (by rfl) T.n_list (by decide +kernel) (pa_cons (pe_dget hu1 (pv 2) (pv 1) (fun _ _ => rfl)) pa_nil)) pa_nil)) (by rfl))
    (pss_cons (ps_while PassesOwn.never (pt_cmpR op_gt (pe_callB call_len_seq (by rfl) T.n_len (by decide +kernel) (pa_cons (pv 5) pa_nil)) pe_int (nomark _)) (pss_cons (ps_set (i := 6) nd rfl (Or.inl rfl) (pe_bm0 PySem.F.plainAttrs_list PySem.F.slot_list_pop PySem.F.type_list_pop mt_pop (pv 5)))
    (pss_one (ps_if (pt_cmpR (op_notInD hu65) (pv 6) (pv 4) (by rfl)) (pss_cons (ps_expr (pe_bm PySem.F.plainAttrs_list PySem.F.slot_list_append PySem.F.type_list_append mt_append (pv 4) (pa_cons (pv 6) pa_nil)))
    (pss_one (ps_expr (pe_bm PySem.F.plainAttrs_list PySem.F.slot_list_extend PySem.F.type_list_extend mt_extend (pv 5) (pa_cons (pe_dget hu1 (pv 2) (pv 6) (fun _ _ => rfl)) pa_nil))))) pss_nil))))
    (pss_one (ps_dput hu1 (pv 3) (pv 1) (pv 4) rfl)))))
    (pss_one (ps_ret (pv 3))))), ?_⟩
  have hnd := fn.ok.nd
  have hmany := fn.many
  refine ⟨v, rfl, v, R, rfl, hR, fn, fun d1 H1 hdl D nD => ⟨.ref d1, .ref D, rfl, ?_⟩⟩
  obtain ⟨s1, nd1, la, fx, hd1, nl, hfl, hfe⟩ := hdl
  have dD : d1 ≠ D := fun h => by rw [h, nD] at hd1; cases hd1
  have hd1' : (L2.upd H1 D (.dT [])) d1 = some (.dT (dictOf (ends R) la)) := by rw [upd_ne dD]; exact hd1
  refine ⟨.ref d1, rfl, d1, rfl, .inr ⟨_, hd1', fun o => ?_⟩⟩
  -- the heap ahead of the new dict
  have e0 : L2.upd (L2.upd H1 D (.dT [])) d1 (.frz o (.dT (dictOf (ends R) la))) = L2.upd (L2.upd H1 d1 (.frz o (.dT (dictOf (ends R) la)))) D (.dT []) := by
    funext b
    unfold L2.upd
    by_cases h1 : b = d1
    · subst h1; simp [dD]
    · simp [h1]
  rw [e0]
  have sb : Same H (L2.upd H1 d1 (.frz o (.dT (dictOf (ends R) la)))) := Same.put s1 nd1
  have hdb : (L2.upd H1 d1 (.frz o (.dT (dictOf (ends R) la)))) d1 = some (.frz o (.dT (dictOf (ends R) la))) := upd_same
  have nlb : NL (L2.upd H1 d1 (.frz o (.dT (dictOf (ends R) la)))) (ends R) la fx := nl.off (nl.ne_of fun ys h => by rw [hd1] at h; cases h) (.dT hd1)
  have nDb : (L2.upd H1 d1 (.frz o (.dT (dictOf (ends R) la)))) D = none := by rw [upd_ne (Ne.symm dD)]; exact nD
  generalize (L2.upd H1 d1 (.frz o (.dT (dictOf (ends R) la)))) = Hb at sb hdb nlb nDb ⊢
  have hdl : (dictOf (ends R) la).length = (ends R).length := by unfold dictOf; rw [List.length_map]
  refine L2.for_it (wp_keysT (d := d1) (o := o) (kvs := dictOf (ends R) la)) (fun i σ H' => ∃ x1 x4 x5 x6, σ = [some v, x1, some (.ref d1), some (.ref D), x4, x5, x6] ∧ Same Hb H' ∧ ∃ lb g, H' D = some (.dT (dictOf ((ends R).take i) lb)) ∧ NL H' ((ends R).take i) lb g ∧ ∀ e ∈ (ends R).take i, (g e).length ≤ 50 ∧ ∀ y, y ∈ g e ↔ Reach R e y)
    ⟨_, _, _, _, rfl, Same.new nDb, fun _ => 0, fun _ => [], upd_same, ⟨fun x hx => (by cases hx), fun x hx => (by cases hx)⟩, fun x hx => (by cases hx)⟩ (fun i σ H' _ h => ?_) (fun i x σ H2 H2' hi h y => ?_) fun σ H2 h => ?_
  · obtain ⟨_, _, _, _, _, s, _⟩ := h
    exact s _ _ hdb
  · obtain ⟨x1, x4, x5, x6, rfl, s2, lb, g, hD, nlg, hgg⟩ := h
    obtain ⟨s3, k, kv, qa, hk, rfl, hqa⟩ := y
    have hil : i < (ends R).length := by omega
    have ek : k = eK (ends R)[i] := by
      have h1 : ((dictOf (ends R) la).map (·.1))[i]? = some k := by rw [List.getElem?_map, hk]; rfl
      rw [dictOf_fst, List.getElem?_map, List.getElem?_eq_getElem hil] at h1
      exact (Option.some.inj h1).symm
    generalize hge : (ends R)[i] = e at ek
    have hget : (ends R)[i]? = some e := by rw [List.getElem?_eq_getElem hil, hge]
    have hmem := List.mem_of_getElem? hget
    have hnew : e ∉ (ends R).take i := mem_pre hnd (cut_at hget)
    have htake : (ends R).take (i + 1) = (ends R).take i ++ [e] := by rw [List.take_add_one, hget]; rfl
    rw [ek] at hqa
    have s2 := Same.trans s2 s3
    have hD := s3 _ _ hD
    have nlg := nlg.same s3
    clear s3
    generalize H2' = Hc at *
    have sHc := Same.trans sb s2
    -- seen, rest
    refine ⟨Nat.zero_le _, fun sl nsl => ?_⟩
    have s3 : Same Hc (L2.upd Hc sl (.lst [])) := Same.new nsl
    have nlc := (nlb.same s2).same s3
    obtain ⟨vs0, hl0, hv0⟩ := nlc.at_ e hmem
    have hd3 := s3 _ _ (s2 _ _ hdb)
    refine ⟨.ref d1, rfl, .ref qa, rfl, d1, _, rfl, dgetR hnd hmem (.inr ⟨o, hd3⟩) (s3 _ _ hqa), la e, vs0, rfl, .inl (.inl (.inl hl0)), fun rl nrl => ⟨.ref sl, .ref rl, rfl, ?_⟩⟩
    have nrlc : Hc rl = none := same_none s3 nrl
    have hsr : sl ≠ rl := fun h => by rw [← h, upd_same] at nrl; cases nrl
    have s4 : Same Hc (L2.upd (L2.upd Hc sl (.lst [])) rl (.lst vs0)) := Same.trans s3 (Same.new nrl)
    have hsl4 : (L2.upd (L2.upd Hc sl (.lst [])) rl (.lst vs0)) sl = some (.lst []) := by rw [upd_ne hsr, upd_same]
    have hrl4 : (L2.upd (L2.upd Hc sl (.lst [])) rl (.lst vs0)) rl = some (.lst vs0) := upd_same
    have hv4 : Paired (EndAt (L2.upd (L2.upd Hc sl (.lst [])) rl (.lst vs0))) vs0 (fx e) := ends_mono (Same.ts (Same.new nrl)) hv0
    generalize (L2.upd (L2.upd Hc sl (.lst [])) rl (.lst vs0)) = H4 at s4 hsl4 hrl4 hv4 ⊢
    refine ⟨fun m σ H' => ∃ S T vs ts x6, σ = [some v, some (.ref qa), some (.ref d1), some (.ref D), some (.ref sl), some (.ref rl), x6] ∧ Same Hc H' ∧ H' sl = some (.lst vs) ∧ Paired (EndAt H') vs S ∧ H' rl = some (.lst ts) ∧ Paired (EndAt H') ts T ∧ Dfs R e S T ∧ m = 60 * ((ends R).length - S.length) + T.length,
      ⟨_, [], fx e, [], vs0, _, rfl, s4, hsl4, .nil, hrl4, hv4, Dfs.start fn.ok (hfe e hmem) (hfl e hmem), rfl⟩, ?_⟩
    rintro m σ H5 ⟨S, T, vs, ts, x6, rfl, s5, hsl, hS, hrl, hT, df, rfl⟩
    have htl : ts.length = T.length := Paired.len hT
    refine ⟨.ref rl, rfl, rl, ts, rfl, .inl (.inl (.inl hrl)), (ts.length : Nat), 0, rfl, rfl, _, rfl, ?_⟩
    by_cases hz : T = []
    · subst hz
      have ez : ts.length = 0 := by rw [htl]; rfl
      refine iteF (by rw [ez]; decide) ?_
      -- found[one] = seen
      have hD5 := s5 _ _ hD
      have hq5 := s5 _ _ hqa
      refine ⟨.ref sl, rfl, .ref D, rfl, .ref qa, rfl, D, _, rfl, .inr ⟨_, eK e, qa, hD5, rfl, hq5, small1000 ?_, rfl⟩, ?_⟩
      · unfold dictOf
        rw [List.length_map, List.length_take]
        omega
      rw [putK_app (fun z hz => by
        obtain ⟨x, hx, rfl⟩ := List.mem_map.mp hz
        exact fun h => hnew (eK_inj h ▸ hx)), htake, ← dictOf_app hnew]
      have nl5 : NL H5 ((ends R).take i ++ [e]) (fun x => if x = e then sl else lb x) (fun x => if x = e then S else g x) :=
        (nlg.same s5).add hnew (fun x hx h => by
          obtain ⟨_, h1, _⟩ := nlg.at_ x hx
          rw [h, nsl] at h1
          cases h1) hsl (by simp only [if_pos]; exact hS) fun x hx => if_neg fun h : x = e => hnew (h ▸ hx)
      refine ⟨_, _, _, _, rfl, Same.put (Same.trans s2 s5) nDb, _, _, upd_same, nl5.off (nl5.ne_of fun ys h => by rw [hD5] at h; cases h) (.dT hD5), fun x hx => ?_⟩
      by_cases h : x = e
      · show (if x = e then S else g x).length ≤ 50 ∧ ∀ y, y ∈ (if x = e then S else g x) ↔ _
        rw [if_pos h, h]
        exact ⟨by have := df.small; omega, df.done⟩
      · simp only [if_neg h]
        rcases List.mem_append.mp hx with hx | hx
        · exact hgg x hx
        · exact absurd (List.mem_singleton.mp hx) h
    · -- a turn of the walk
      obtain ⟨T', h, rfl⟩ : ∃ T' h, T = T' ++ [h] := ⟨T.dropLast, T.getLast hz, (List.dropLast_concat_getLast hz).symm⟩
      have hlen : (T' ++ [h]).length = T'.length + 1 := by rw [List.length_append]; rfl
      refine iteT (decide_eq_true (by omega)) ⟨_, fun _ _ h => h, ?_⟩
      have hget : (T' ++ [h])[ts.length - 1]? = some h := by
        rw [htl, hlen, Nat.add_sub_cancel, List.getElem?_append_right (Nat.le_refl _)]
        simp
      obtain ⟨hv, hhv, b, rfl, hb⟩ := Paired.at' hT hget
      have hT' := Paired.dropLast hT
      rw [List.dropLast_concat] at hT'
      refine ⟨.ref rl, rfl, tyL hrl, rl, ts, .ref b, rfl, rfl, hrl, hhv, ?_⟩
      have t6 : TSame H5 (L2.upd H5 rl (.lst ts.dropLast)) := .lst hrl
      have s6 : Same Hc (L2.upd H5 rl (.lst ts.dropLast)) := Same.put s5 nrlc
      have hsl6 : (L2.upd H5 rl (.lst ts.dropLast)) sl = some (.lst vs) := by rw [upd_ne hsr]; exact hsl
      have hrl6 : (L2.upd H5 rl (.lst ts.dropLast)) rl = some (.lst ts.dropLast) := upd_same
      have hS6 := ends_mono t6 hS
      have hT6 := ends_mono t6 hT'
      have hb6 := t6 _ _ hb
      generalize (L2.upd H5 rl (.lst ts.dropLast)) = H6 at s6 hsl6 hrl6 hS6 hT6 hb6 ⊢
      refine ⟨.ref b, rfl, .ref sl, rfl, endD h, S.map endD, endD_dp ⟨b, rfl, hb6⟩, dpl_ends hsl6 hS6, sh_end h, sh_ends S, _, rfl, ?_⟩
      rw [any_end]
      by_cases hh : h ∈ S
      · refine iteF (by rw [decide_eq_true hh]; rfl) ?_
        exact ⟨_, by rw [hlen]; omega, S, T', vs, ts.dropLast, _, rfl, s6, hsl6, hS6, hrl6, hT6, df.pop hh, rfl⟩
      · have hle := df.less hh
        have hvl : vs.length = S.length := Paired.len hS
        refine iteT (by rw [decide_eq_false hh]; rfl) ?_
        refine ⟨.ref sl, rfl, tyL hsl6, .ref b, rfl, sl, vs, .ref b, rfl, rfl, hsl6, small1000 (by omega), ?_⟩
        have t7 : TSame H6 (L2.upd H6 sl (.lst (vs ++ [.ref b]))) := .lst hsl6
        have s7 : Same Hc (L2.upd H6 sl (.lst (vs ++ [.ref b]))) := Same.put s6 nsl
        have hsl7 : (L2.upd H6 sl (.lst (vs ++ [.ref b]))) sl = some (.lst (vs ++ [.ref b])) := upd_same
        have hrl7 : (L2.upd H6 sl (.lst (vs ++ [.ref b]))) rl = some (.lst ts.dropLast) := by rw [upd_ne (Ne.symm hsr)]; exact hrl6
        have hS7 := Paired.snoc (ends_mono t7 hS6) (show EndAt (L2.upd H6 sl (.lst (vs ++ [.ref b]))) (.ref b) h from ⟨b, rfl, t7 _ _ hb6⟩)
        have hT7 := ends_mono t7 hT6
        have hb7 := t7 _ _ hb6
        generalize (L2.upd H6 sl (.lst (vs ++ [.ref b]))) = H7 at s7 hsl7 hrl7 hS7 hT7 hb7 ⊢
        have hhm : h ∈ ends R := df.subT h (by simp)
        have nl7 := (nlb.same s2).same s7
        obtain ⟨ws, hl7, hw7⟩ := nl7.at_ h hhm
        have hwl : ws.length ≤ 50 := by rw [Paired.len hw7]; exact hfl h hhm
        have htl6 : ts.dropLast.length = T'.length := Paired.len hT'
        have hdfl := df.len
        refine ⟨.ref rl, rfl, tyL hrl7, .ref d1, rfl, .ref b, rfl, d1, _, rfl, dgetR hnd hhm (.inr ⟨o, s7 _ _ (s2 _ _ hdb)⟩) hb7, rl, la h, ts.dropLast, ws, rfl, rfl, hrl7, hl7, ?_, ?_⟩
        · refine Nat.le_trans (show _ ≤ 100000 from ?_) (by decide)
          omega
        have t8 : TSame H7 (L2.upd H7 rl (.lst (ts.dropLast ++ ws))) := .lst hrl7
        refine ⟨_, ?_, S ++ [h], T' ++ fx h, vs ++ [.ref b], ts.dropLast ++ ws, _, rfl, Same.put s7 nrlc, by rw [upd_ne hsr]; exact hsl7, ends_mono t8 hS7, upd_same, ends_mono t8 (Paired.app hT7 hw7), df.push fn.ok hh (hfe h hhm) (hfl h hhm), rfl⟩
        rw [List.length_append, List.length_append, hlen]
        have := hfl h hhm
        simp only [List.length_singleton]
        omega
  · obtain ⟨x1, x4, x5, x6, rfl, s2, lb, g, hD, nlg, hgg⟩ := h
    rw [hdl, List.take_length] at hD nlg hgg
    exact ⟨.ref D, rfl, q D H2 ⟨Same.trans sb s2, same_none sb nDb, lb, g, hD, nlg, fun e he => (hgg e he).1, fun e he => (hgg e he).2⟩⟩
end
end BC
/-! Comprehensions of truth values; ends as values. -/
namespace BC
open PySem PySem.Spec PyProof.Rows L2 BX
theorem pair_bl {vs : List V} {bs : List Bool} (h : Paired (fun (v : V) (b : Bool) => v = .bl b) vs bs) : vs = bs.map V.bl := by
  induction h with
  | nil => rfl
  | cons a _ ih => rw [a, ih]; rfl
section
variable {J : It} {n : Nat} {G : Hp → Prop} {PI : Nat → V → Hp → Prop}
theorem lc_bool {α : Type} (w : WP J n G PI) (xs : List α) (f : α → Bool) (hn : n = xs.length) (hl : n ≤ 100000)
    {g : TG} {te : TE} {vs : List Nat} {σ : L2.St} {H1 : Hp} {D : Addr} {Qd : Hp → Prop} (hD : H1 D = none) (hG : ∀ H, Same H1 H → G H)
    (hs : ∀ i x0 x H (K1 : VK), xs[i]? = some x0 → Same H1 H → PI i x H → (∀ H4, Same H H4 → K1 (.bl (f x0)) H4) →
      g x (wipe σ vs) H fun σ2 H2 => wipe σ2 vs = wipe σ vs ∧ te σ2 H2 fun y H4 => K1 y H4)
    (hd : ∀ H, Same H1 H → H D = some (.lst ((xs.map f).map V.bl)) → Qd H) :
    ∃ W : Nat → Nat → Hp → Prop, (∃ m, W 0 m (L2.upd H1 D (.lst []))) ∧ ∀ i m H, W i m H →
      (J.stop i H ∧ Qd H) ∨ (J.go i H ∧ ∃ Nx : Hp → Prop, (∀ H', Nx H' → ∃ m', m' < m ∧ W (i + 1) m' H') ∧ ∀ x H', J.yld i H x H' → g x (wipe σ vs) H' fun σ2 H2 => wipe σ2 vs = wipe σ vs ∧ tYes σ2 H2 fun b H3 =>
        if b = true then te σ2 H3 fun y H4 => ∃ acc, H4 D = some (.lst acc) ∧ acc.length < sizeLine ∧ Nx (L2.upd H4 D (.lst (acc ++ [y]))) else Nx H3) :=
  lc_map w xs f (fun _ v b => v = .bl b) (fun _ _ _ _ _ h => h) hn hl hD hG (fun i x0 x H K1 hx s pi q => hs i x0 x H K1 hx s pi fun H4 s4 => q _ H4 s4 rfl)
    fun H acc s ha hp => hd H s (by rw [ha, pair_bl hp])
end
theorem all_map_true {α : Type} {f : α → Bool} {xs : List α} (h : ∀ x ∈ xs, f x = true) : (xs.map f).all id = true := by
  rw [List.all_eq_true]
  intro b hb
  obtain ⟨x, hx, rfl⟩ := List.mem_map.mp hb
  exact h x hx
theorem any_map_false {α : Type} {f : α → Bool} {xs : List α} (h : ∀ x ∈ xs, f x = false) : (xs.map f).any id = false := by
  rw [List.any_eq_false]
  intro b hb
  obtain ⟨x, hx, rfl⟩ := List.mem_map.mp hb
  rw [h x hx]
  decide
theorem both_of {R : Run} (o : Ok R) {l : Int} {a : Bool} (h : (l, a) ∈ ends R) (b : Bool) : (l, b) ∈ ends R := by
  by_cases e : b = a
  · rw [e]; exact h
  · have := o.both _ h
    have e2 : flip (l, a) = (l, b) := by cases a <;> cases b <;> simp_all [flip]
    rwa [e2] at this
theorem house_of_end {R : Run} {e : En} (he : e ∈ ends R) : ∃ h, (e, h) ∈ houseL R := by
  have : e ∈ (houseL R).map (·.1) := by rw [show houseL R = houseFrom 0 R from rfl, house_fst]; exact he
  obtain ⟨⟨x, h⟩, hm, rfl⟩ := List.mem_map.mp this
  exact ⟨h, hm⟩
theorem dgetH {H : Hp} {d b : Addr} {R : Run} {e : En} {h : Nat} (hn : (ends R).Nodup) (he : (e, h) ∈ houseL R) (hd : Rd H d (.dT (houseK R))) (hb : H b = some (.tup (eV e))) : DGet H d (.ref b) (some (.int (h : Nat))) :=
  .inr ⟨_, eK e, b, hd, rfl, hb, (houseK_val hn he).symm⟩
theorem houseK_len (R : Run) : (houseK R).length = (ends R).length := by
  rw [← List.length_map (f := (·.1)), houseK_fst, List.length_map]
theorem not_own_row {R : Run} (o : Ok R) {l : Int} {h k : Nat} (hs : ((l, true), h) ∈ houseL R) (hr : ((l, false), k) ∈ houseL R) : h ≠ k := fun e => by
  obtain ⟨row, h1, h2, h3⟩ := (house_row o.nd hs hr).mp e
  exact o.apart row h1 _ h2 h3
end BC
namespace BC
open PySem PySem.Spec PyProof.Rows L2 BX
section
variable {P : Program} {w : World} {K : PySem.W.Frag} {mg : Str → Option Value} {base : Heap} {f : Addr} {fd : FuncData}
theorem sc_is_run : FnScope ["thing", "ends", "houses", "behind", "row", "own", "letter", "some", "end"] ["thing"] (defScope s_is_run) := ⟨rfl, rfl, rfl, by decide +kernel, rfl, by decide +kernel, by decide +kernel⟩
-- slots: 0:thing 1:ends 2:houses 3:behind 4:row 5:own 6:letter 7:some 8:end
def spIsRun : Sp := fun vs H Q _ => ∃ v R, vs = [v] ∧ RunAt H v R ∧ Fine R ∧ ∀ H', Same H H' → Q (.bl true) H'
theorem cal_is_run (F : FnP K "is_run" s_is_run f fd) (hm : mg "is_run" = some (.ref f)) (T : Txt K mg) (c_is_end : C8.Cal P w K mg base 2 "is_end" spIsEnd []) (c_houses_of : C8.Cal P w K mg base 5 "houses_of" spHouses []) (c_behind_all : C8.Cal P w K mg base 7 "behind_all" spBehind []) : C8.Cal P w K mg base 8 "is_run" spIsRun [] := by
  refine cal_of F hm sc_is_run (fun kV doc pm an cdv ct us hl => match us, hl with | [_], _ => rfl) (fun vs H Q E h => ?_) (fun cdv A outer s H vs Q E hr h => ?_)
  · obtain ⟨_, _, rfl, _⟩ := h; rfl
  obtain ⟨v, R, rfl, hR, fn, q⟩ := h
  have nd := sc_is_run.nd
  have hu1 := Nat.lt_of_le_of_lt (Nat.add_le_add_left (show 1 ≤ 64 by decide) _) hr.units
  have hu64 := hr.units
  have hu65 := room65 hr
  refine ⟨_, (pss_cons (ps_if (PW.pt (pw_or (pt_not (pt_val (pe_callB call_isi (by rfl) T.n_isinstance (by decide +kernel) (pa_cons (pv 0) (pa_cons (pe_bltn (v := .ty "tuple") (by rfl) T.n_tuple (by decide +kernel) rfl) pa_nil))))) (pw_or1 (pt_not (pt_val (pe_callB (cr_all rfl) (by rfl) T.n_all (by decide +kernel) (pa_cons (pe_lc (own := [("row", 4)]) (g := (gName 4)) (tt := tYes) rfl nd (pi_tup (pv 0)) (blkOk_by (by rfl)) (fun _ _ _ _ _ => (pg_name (i := 4) nd rfl (Or.inl rfl))) (fun _ _ _ _ _ => pts_nil) (fun _ _ _ _ _ => (pe_callB (call_isiK (K := K) rfl) (by rfl) T.n_isinstance (by decide +kernel) (pa_cons (pv 4) (pa_cons (pe_bltn (v := .ty "tuple") (by rfl) T.n_tuple (by decide +kernel) rfl) pa_nil))))) pa_nil))))))) (pss_one (ps_ret pe_bl)) pss_nil)
    (pss_cons (ps_setLc2 (i := 1) (own := [("row", 4), ("own", 5)]) (vs1 := [5]) (g := (gName 4)) (tt := tYes) (g1 := (gName 5)) (tt1 := tYes) rfl nd rfl rfl (sw_true rfl rfl rfl (by decide +kernel)) (pi_tup (pv 0)) (blkOk_by (by rfl)) (by decide) (fun _ _ _ _ _ => (pg_name (i := 4) nd rfl (Or.inl rfl))) (fun _ _ _ _ _ => pts_nil) (fun _ _ _ _ _ => (pi_tupK (K := K) rfl (pv 4))) (fun _ _ _ _ _ => (pg_name (i := 5) nd rfl (Or.inl rfl))) (fun _ _ _ _ _ => pts_nil) (fun _ _ _ _ _ => (pv 5)))
    (pss_cons (ps_if (pt_not (pt_val (pe_callB (cr_all rfl) (by rfl) T.n_all (by decide +kernel) (pa_cons (pe_lc (own := [("own", 5)]) (g := (gName 5)) (tt := tYes) rfl nd (pi_list (pv 1)) (blkOk_by (by rfl)) (fun _ _ _ _ _ => (pg_name (i := 5) nd rfl (Or.inl rfl))) (fun _ _ _ _ _ => pts_nil) (fun _ _ _ _ _ => (C8.pe_c c_is_end hr (by omega) (by rfl) (pa_cons (pv 5) pa_nil)))) pa_nil)))) (pss_one (ps_ret pe_bl)) pss_nil)
    (pss_cons (ps_set (i := 2) nd rfl (Or.inr rfl) (C8.pe_c c_houses_of hr (by omega) (by rfl) (pa_cons (pv 0) pa_nil)))
    (pss_cons (ps_if (PW.pt (pw_or (pt_cmpR op_ne (pe_callB call_len_dT (by rfl) T.n_len (by decide +kernel) (pa_cons (pv 2) pa_nil)) (pe_callB call_len_seq (by rfl) T.n_len (by decide +kernel) (pa_cons (pv 1) pa_nil)) (nomark _)) (pw_or1 (pt_not (pt_val (pe_callB (cr_all rfl) (by rfl) T.n_all (by decide +kernel) (pa_cons (pe_lc2 (own := [("letter", 6), ("some", 7), ("end", 8)]) (vs1 := [8]) (g := (gTup K 2 (gCons (gName 6) (gCons (gName 7) gNil)))) (tt := tYes) (g1 := (gName 8)) (tt1 := tYes) rfl nd (pi_list (pv 1)) (blkOk_by (by rfl)) (by decide) (fun _ _ _ _ _ => (pg_tup rfl (pgs_cons (pg_name (i := 6) nd rfl (Or.inl rfl)) (pgs_cons (pg_name (i := 7) nd rfl (Or.inl rfl)) pgs_nil)))) (fun _ _ _ _ _ => pts_nil) (fun _ _ _ _ _ => (pi_tupK (K := K) rfl (C8.pe_gc (by rfl) T.ends))) (fun _ _ _ _ _ => (pg_name (i := 8) nd rfl (Or.inl rfl))) (fun _ _ _ _ _ => pts_nil) (fun _ _ _ _ _ => (pe_cmp (pc_din hu1 (pe_tup (pa_cons (pv 6) (pa_cons (pv 8) pa_nil))) (pv 2))))) pa_nil))))))) (pss_one (ps_ret pe_bl)) pss_nil)
    (pss_cons (ps_if (pt_val (pe_callB (cr_any rfl) (by rfl) T.n_any (by decide +kernel) (pa_cons (pe_lc (own := [("letter", 6), ("some", 7)]) (g := (gTup K 2 (gCons (gName 6) (gCons (gName 7) gNil)))) (tt := tYes) rfl nd (pi_list (pv 1)) (blkOk_by (by rfl)) (fun _ _ _ _ _ => (pg_tup rfl (pgs_cons (pg_name (i := 6) nd rfl (Or.inl rfl)) (pgs_cons (pg_name (i := 7) nd rfl (Or.inl rfl)) pgs_nil)))) (fun _ _ _ _ _ => pts_nil) (fun _ _ _ _ _ => (pe_cmpR op_eq (pe_dget hu1 (pv 2) (pe_tup (pa_cons (pv 6) (pa_cons pe_str pa_nil))) (fun _ _ => rfl)) (pe_dget hu1 (pv 2) (pe_tup (pa_cons (pv 6) (pa_cons pe_str pa_nil))) (fun _ _ => rfl)) (nomark _)))) pa_nil))) (pss_one (ps_ret pe_bl)) pss_nil)
    (pss_cons (ps_set (i := 3) nd rfl (Or.inr rfl) (C8.pe_c c_behind_all hr (by omega) (by rfl) (pa_cons (pv 0) pa_nil)))
    (pss_one (ps_ret (pe_not (pe_callB (cr_any rfl) (by rfl) T.n_any (by decide +kernel) (pa_cons (pe_lc (own := [("own", 5)]) (g := (gName 5)) (tt := tYes) rfl nd (pi_list (pv 1)) (blkOk_by (by rfl)) (fun _ _ _ _ _ => (pg_name (i := 5) nd rfl (Or.inl rfl))) (fun _ _ _ _ _ => pts_nil) (fun _ _ _ _ _ => (pe_cmpR (op_inDK (K := K) rfl hu65) (pv 5) (pe_dget hu1 (pv 3) (pv 5) (fun _ _ => rfl)) (by rfl)))) pa_nil)))))))))))), ?_⟩
  have hnd := fn.ok.nd
  have hmany := fn.many
  have hrows := fn.rows
  have hR0 := hR
  obtain ⟨a, us, rfl, ha, hp⟩ := hR
  have hul : us.length = R.length := Paired.len hp
  refine ⟨.ref a, rfl, _, _, _, _, true, rfl, .ty _, tx_tup ha, kit_ty (by decide +kernel), true, rfl, .ref a, rfl, a, rfl, ⟨us, SqT.of ha⟩, fun D1 nD1 => ?_⟩
  refine lc_bool wp_tup R (fun _ => true) hul (by omega) nD1 (fun H' s' => SqT.of (s' _ _ ha)) (fun i x0 x H' K1 hx s' hi q1 => ?_) fun H1 s1 hD1 => ?_
  · obtain ⟨row, hrow, b, rs, rfl, hb, hrs⟩ := Paired.at hp hi
    exact ⟨rfl, .ref b, rfl, _, _, _, _, true, rfl, .ty _, tx_tup (s' _ _ hb), kit_ty (by decide +kernel), q1 _ (Same.rf _)⟩
  refine ⟨D1, _, rfl, .inl (.inl hD1), ?_⟩
  rw [all_map_true (fun _ _ => rfl)]
  refine ⟨true, rfl, ?_⟩
  -- the ends
  have ha1 := s1 _ _ ha
  refine ⟨.ref a, rfl, a, rfl, ⟨us, SqT.of ha1⟩, fun D2 nD2 => ?_⟩
  refine lc2_fm wp_tup R (fun row => row) (fun _ e => some e) (fun H v e => EndAt H v e) (fun _ _ _ _ t h => EndAt.mono t h) hul (fun i => ?_) nD2 (fun H' s' => SqT.of (s' _ _ ha1)) (fun i row x H' Rr hrow s' hi q1 => ?_) fun H2 acc s2 hD2 hacc => ?_
  · have h1 : ((R.take i).map fun x => x.length).sum = (ends (R.take i)).length := by unfold ends; rw [List.length_flatten]
    rw [h1]
    have h2 : (ends (R.take i)).length ≤ (ends R).length := by
      unfold ends
      conv => rhs; rw [← List.take_append_drop i R]
      rw [List.flatten_append, List.length_append]
      omega
    omega
  · obtain ⟨row', hrow', b, rs, rfl, hb, hrs⟩ := Paired.at hp hi
    rw [hrow] at hrow'
    cases hrow'
    have hb' := s' _ _ (s1 _ _ hb)
    refine ⟨rfl, .ref b, rfl, b, rfl, ⟨rs, SqT.of hb'⟩, ?_⟩
    refine q1 _ _ _ _ _ H' (Same.rf _) (Paired.len hrs) wp_tup (fun H'' _ t => SqT.of (t _ _ hb')) fun j z0 z H5 K1 K0 hz s5 t5 hj q2 q3 => ?_
    obtain ⟨e, he, hze⟩ := Paired.at hrs hj
    rw [hz] at he
    cases he
    exact ⟨rfl, z, rfl, q2 z H5 z0 (Same.rf _) rfl (EndAt.mono (Same.ts (Same.trans s1 s5)) hze)⟩
  have hfm : (R.flatMap fun x => (x : List En).filterMap fun e => some e) = ends R := by
    unfold ends
    simp [List.flatMap]
  rw [hfm] at hacc
  have hal : acc.length = (ends R).length := Paired.len hacc
  have s02 := Same.trans s1 s2
  -- all of them ends
  refine ⟨.ref D2, rfl, D2, rfl, ⟨acc, .inl (.inl hD2)⟩, fun D3 nD3 => ?_⟩
  refine lc_bool wp_list (ends R) (fun _ => true) hal (by omega) nD3 (fun H' s' => .inl (.inl (s' _ _ hD2))) (fun i x0 x H' K1 hx s' hi q1 => ?_) fun H3 s3 hD3 => ?_
  · obtain ⟨e, he, hxe⟩ := Paired.at hacc hi
    exact ⟨rfl, x, rfl, x, e, rfl, EndAt.mono (Same.ts s') hxe, fn.ok.nn e (List.mem_of_getElem? he), q1 _ (Same.rf _)⟩
  refine ⟨D3, _, rfl, .inl (.inl hD3), ?_⟩
  rw [all_map_true (fun _ _ => rfl)]
  refine ⟨true, rfl, ?_⟩
  have s03 := Same.trans s02 s3
  refine ⟨.ref a, rfl, .ref a, R, rfl, RunAt.mono (Same.ts s03) hR0, fn, fun dh H4 s4 ndh hdh => ?_⟩
  have s04 := Same.trans s03 s4
  have hD4 := s4 _ _ (s3 _ _ hD2)
  have hacc4 := ends_mono (Same.ts (Same.trans s3 s4)) hacc
  refine ⟨.ref dh, rfl, dh, _, rfl, hdh, .ref D2, rfl, D2, acc, rfl, .inl (.inl (.inl hD4)), rfl, false, by rw [houseK_len, hal]; simp, ?_⟩
  refine ⟨.ref D2, rfl, D2, rfl, ⟨acc, .inl (.inl hD4)⟩, fun D5 nD5 => ?_⟩
  refine lc2_fm wp_list (ends R) (fun _ => [Str.ofString "r", Str.ofString "s"]) (fun _ _ => some true) (fun _ v b => v = .bl b) (fun _ _ _ _ _ h => h) hal (fun i => ?_) nD5 (fun H' s' => .inl (.inl (s' _ _ hD4))) (fun i e x H' Rr he s' hi q1 => ?_) fun H5 acc5 s5 hD5 hacc5 => ?_
  · have : ((ends R).take i).length ≤ 40 := by rw [List.length_take]; omega
    have h2 : (((ends R).take i).map fun _ => [Str.ofString "r", Str.ofString "s"].length).sum = 2 * ((ends R).take i).length := by
      generalize (ends R).take i = l
      induction l with
      | nil => rfl
      | cons x r ih =>
        rw [List.map_cons, List.sum_cons, ih]
        simp only [List.length_cons, List.length_nil]
        omega
    rw [h2]
    omega
  · obtain ⟨e', he', b, rfl, hb⟩ := Paired.at hacc4 hi
    rw [he] at he'
    cases he'
    have hb' := s' _ _ hb
    refine ⟨b, eV e, rfl, SqT.of hb', rfl, .int e.1, _, rfl, .str (sr e.2), [], rfl, rfl, rfl, _, rfl, ⟨_, T.endsT H'⟩, ?_⟩
    refine q1 _ _ _ _ _ H' (Same.rf _) (by rfl) wp_tup (fun H'' _ _ => T.endsT H'') fun j z0 z H6 K1 K0 hz s6 t6 hj q2 q3 => ?_
    have hz0 : z = .str z0 ∧ ∃ bb, z0 = sr bb := by
      match j, hz, hj with
      | 0, hz, hj => cases hz; cases hj; exact ⟨rfl, false, rfl⟩
      | 1, hz, hj => cases hz; cases hj; exact ⟨rfl, true, rfl⟩
      | j + 2, hz, hj => simp at hz
    obtain ⟨rfl, bb, rfl⟩ := hz0
    have hme := List.mem_of_getElem? he
    obtain ⟨h, hh⟩ := house_of_end (both_of fn.ok (l := e.1) (a := e.2) hme bb)
    exact ⟨rfl, .int e.1, rfl, .str (sr bb), rfl, two_le, fun p np => ⟨.ref dh, rfl, dh, _, rfl, dgetH hnd hh (.inl ((Same.new np) _ _ (s6 _ _ hdh))) upd_same, q2 _ _ true (Same.new np) rfl rfl⟩⟩
  refine ⟨D5, (ends R).flatMap fun _ => [true, true], rfl, .inl (.inl ?_), ?_⟩
  · rw [hD5, pair_bl hacc5]
    rfl
  have hall : ((ends R).flatMap fun _ => [true, true]).all id = true := by
    rw [List.all_eq_true]
    intro b hb
    obtain ⟨_, _, h⟩ := List.mem_flatMap.mp hb
    simp at h
    exact h
  rw [hall]
  refine ⟨true, rfl, ?_⟩
  -- no letter in one house
  have hD5' := s5 _ _ hD4
  have hacc5' := ends_mono (Same.ts s5) hacc4
  refine ⟨.ref D2, rfl, D2, rfl, ⟨acc, .inl (.inl hD5')⟩, fun D6 nD6 => ?_⟩
  refine lc_bool wp_list (ends R) (fun _ => false) hal (by omega) nD6 (fun H' s' => .inl (.inl (s' _ _ hD5'))) (fun i e x H' K1 he s' hi q1 => ?_) fun H6 s6 hD6 => ?_
  · obtain ⟨e', he', b, rfl, hb⟩ := Paired.at hacc5' hi
    rw [he] at he'
    cases he'
    have hme := List.mem_of_getElem? he
    obtain ⟨h1, hh1⟩ := house_of_end (both_of fn.ok (l := e.1) (a := e.2) hme true)
    obtain ⟨h2, hh2⟩ := house_of_end (both_of fn.ok (l := e.1) (a := e.2) hme false)
    have hdh' := s' _ _ (s5 _ _ hdh)
    refine ⟨b, eV e, rfl, SqT.of (s' _ _ hb), rfl, .int e.1, _, rfl, .str (sr e.2), [], rfl, rfl, rfl, .ref dh, rfl, .int e.1, rfl, two_le, fun p np => ⟨dh, _, rfl, dgetH hnd hh1 (.inl ((Same.new np) _ _ hdh')) upd_same, .ref dh, rfl, .int e.1, rfl, two_le, fun p2 np2 => ⟨dh, _, rfl, dgetH hnd hh2 (.inl ((Same.new np2) _ _ ((Same.new np) _ _ hdh'))) upd_same, rfl, ?_⟩⟩⟩
    have ne : decide (V.int (h1 : Nat) = V.int (h2 : Nat)) = false := decide_eq_false fun z => not_own_row fn.ok hh1 hh2 (by injection z with z; omega)
    rw [ne]
    exact q1 _ (Same.trans (Same.new np) (Same.new np2))
  refine ⟨D6, _, rfl, .inl (.inl hD6), ?_⟩
  rw [any_map_false (fun _ _ => rfl)]
  refine ⟨false, rfl, ?_⟩
  have s06 := Same.trans s04 (Same.trans s5 s6)
  refine ⟨.ref a, rfl, .ref a, R, rfl, RunAt.mono (Same.ts s06) hR0, fn, fun db H7 hdl => ?_⟩
  obtain ⟨s7, _, la, fb, hdb, nl, _, hfb⟩ := hdl
  have hD7 := s7 _ _ (s6 _ _ hD5')
  have hacc7 := ends_mono (Same.ts (Same.trans s6 s7)) hacc5'
  refine ⟨.ref D2, rfl, D2, rfl, ⟨acc, .inl (.inl hD7)⟩, fun D8 nD8 => ?_⟩
  refine lc_bool wp_list (ends R) (fun _ => false) hal (by omega) nD8 (fun H' s' => .inl (.inl (s' _ _ hD7))) (fun i e x H' K1 he s' hi q1 => ?_) fun H8 s8 hD8 => ?_
  · obtain ⟨e', he', b, rfl, hb⟩ := Paired.at hacc7 hi
    rw [he] at he'
    cases he'
    have hme := List.mem_of_getElem? he
    have hb' := s' _ _ hb
    obtain ⟨ws, hl, hw⟩ := (nl.same s').at_ e hme
    refine ⟨rfl, .ref b, rfl, .ref db, rfl, .ref b, rfl, db, _, rfl, dgetR hnd hme (.inl (s' _ _ hdb)) hb', endD e, _, endD_dp ⟨b, rfl, hb'⟩, dpl_ends hl hw, sh_end e, sh_ends _, ?_⟩
    rw [any_end, decide_eq_false fun h => fn.ok.irr ((hfb e hme e).mp h)]
    exact q1 _ (Same.rf _)
  refine ⟨D8, _, rfl, .inl (.inl hD8), false, ?_, ?_⟩
  · rw [any_map_false (fun _ _ => rfl)]
  exact q _ (Same.trans s06 (Same.trans s7 s8))
end
end BC
/-! sorted, remove, in: ends and whole numbers alike. -/
namespace BC
open PySem PySem.Spec PyProof.Rows L2 BX
theorem perm_sorted {α : Type} {le : α → α → Prop} (anti : ∀ a b, le a b → le b a → a = b) : ∀ {l m : List α}, l.Perm m → l.Pairwise le → m.Pairwise le → l = m
  | [], m, h, _, _ => by rw [List.nil_perm.mp h]
  | a :: r, [], h, _, _ => absurd h.length_eq (by simp)
  | a :: r, b :: t, h, hl, hm => by
    rw [List.pairwise_cons] at hl hm
    have e : a = b := by
      rcases List.mem_cons.mp (h.subset (List.mem_cons_self ..)) with e | e
      · exact e
      · rcases List.mem_cons.mp (h.symm.subset (List.mem_cons_self ..)) with e2 | e2
        · exact e2.symm
        · exact anti _ _ (hl.1 b e2) (hm.1 a e)
    subst e
    rw [perm_sorted anti (List.perm_cons a |>.mp h) hl.2 hm.2]
/-- a kind of items: what stands for one, what data it is -/
structure Knd (α : Type) [DecidableEq α] (K : PySem.W.Frag) where
  P : Hp → V → α → Prop
  enc : α → PyData
  mono : ∀ H H' v x, TSame H H' → P H v x → P H' v x
  dp : ∀ H v x, P H v x → Dp K H v (enc x)
  al : ∀ x y, PySem.W.alike (enc x) (enc y) = true
  so : ∀ xs : List α, PySem.W.Sortable (xs.map enc)
  de : ∀ x, (enc x).depth ≤ 40
  la : ∀ x, (enc x).canLay0 = true
  pl : ∀ x, (enc x).plain = true
  eqv : ∀ x y, PyData.eqv (enc x) (enc y) = decide (x = y)
  anti : ∀ x y, PySem.W.dataLe false enc x y = true → PySem.W.dataLe false enc y x = true → x = y
theorem zip_of {α : Type} {P : V → α → Prop} : ∀ {vs : List V} {xs : List α}, Paired P vs xs → ∃ zs : List (V × α), zs.map (·.1) = vs ∧ zs.map (·.2) = xs ∧ ∀ z ∈ zs, P z.1 z.2
  | _, _, .nil => ⟨[], rfl, rfl, fun _ h => by cases h⟩
  | _, _, .cons (a := v) (b := x) h t => by
    obtain ⟨zs, h1, h2, h3⟩ := zip_of t
    refine ⟨(v, x) :: zs, by rw [List.map_cons, h1], by rw [List.map_cons, h2], fun z hz => ?_⟩
    rcases List.mem_cons.mp hz with rfl | hz
    · exact h
    · exact h3 z hz
theorem of_zip {α : Type} {P : V → α → Prop} : ∀ {zs : List (V × α)}, (∀ z ∈ zs, P z.1 z.2) → Paired P (zs.map (·.1)) (zs.map (·.2))
  | [], _ => .nil
  | z :: r, h => .cons (h z (by simp)) (of_zip fun y hy => h y (List.mem_cons_of_mem _ hy))
section
variable {α : Type} [DecidableEq α] {K : PySem.W.Frag} (k : Knd α K)
theorem Knd.dps {H : Hp} {vs : List V} {xs : List α} (h : Paired (k.P H) vs xs) : DpAll K H vs (xs.map k.enc) := BC.dps (enc := k.enc) (fun v x => k.dp H v x) h
theorem Knd.sh1 (x : α) : SeqAt.shaped (k.enc x) = true := shaped_of (k.la x) (Nat.le_trans (k.de x) (by decide))
theorem Knd.shL (xs : List α) : SeqAt.shaped (.list (xs.map k.enc)) = true := shaped_list k.la k.de (by decide) xs
theorem Knd.any (S : List α) (h : α) : ((S.map k.enc).any fun z => PyData.eqv z (k.enc h)) = decide (h ∈ S) := by
  induction S with
  | nil => rfl
  | cons a r ih =>
    rw [List.map_cons, List.any_cons, ih, k.eqv]
    by_cases h1 : a = h
    · simp [h1]
    · simp [h1, Ne.symm h1]
theorem Knd.place {T : List α} {h : α} (hm : h ∈ T) : ∃ j, PySem.SeqAt.dataPlace (T.map k.enc) (k.enc h) = some j ∧ T.eraseIdx j = T.erase h := by
  induction T with
  | nil => cases hm
  | cons a r ih =>
    by_cases h1 : a = h
    · refine ⟨0, ?_, ?_⟩
      · unfold PySem.SeqAt.dataPlace
        rw [List.map_cons, List.findIdx?_cons, k.eqv, h1]
        simp
      · rw [h1]; simp
    · obtain ⟨j, h2, h3⟩ := ih ((List.mem_cons.mp hm).resolve_left (Ne.symm h1))
      refine ⟨j + 1, ?_, ?_⟩
      · unfold PySem.SeqAt.dataPlace at h2 ⊢
        rw [List.map_cons, List.findIdx?_cons, k.eqv, decide_eq_false h1, h2]
        rfl
      · rw [List.eraseIdx_cons_succ, h3, List.erase_cons_tail (by simpa using h1)]
theorem Knd.plA (xs : List α) : PyData.plainAll (xs.map k.enc) = true := by
  induction xs with
  | nil => rfl
  | cons a r ih =>
    rw [List.map_cons]
    simp only [PyData.plainAll, k.pl, ih, Bool.and_self]
theorem Knd.sort {H : Hp} {Q : VK} {vs : List V} {xs : List α} (hp : Paired (k.P H) vs xs) (hl : xs.length ≤ 1000)
    (q : ∀ vs' ys p, ys.Perm xs → ys.Pairwise (fun a b => PySem.W.dataLe false k.enc a b = true) → Paired (k.P H) vs' ys → H p = none → Q (.ref p) (L2.upd H p (.lst vs'))) :
    ∃ zs : List (V × α), zs.map (·.1) = vs ∧ kSort K k.enc zs H Q := by
  obtain ⟨zs, h1, h2, h3⟩ := zip_of hp
  have e : zs.map (fun z => k.enc z.2) = xs.map k.enc := by rw [← h2, List.map_map]; rfl
  refine ⟨zs, h1, fun z hz => k.dp H _ _ (h3 z hz), ?_, ?_, ?_, fun z _ => k.de _, fun ys p hpm hpw np => ?_⟩
  · rw [e]
    intro d hd d' hd'
    obtain ⟨x, _, rfl⟩ := List.mem_map.mp hd
    obtain ⟨y, _, rfl⟩ := List.mem_map.mp hd'
    exact k.al x y
  · rw [e]; exact k.so xs
  · have : zs.length = xs.length := by rw [← h2, List.length_map]
    omega
  · refine q _ (ys.map (·.2)) p (h2 ▸ hpm.map _) ?_ (of_zip fun z hz => h3 z (hpm.subset hz)) np
    rw [List.pairwise_map]
    exact hpw
theorem Knd.sortSq {H : Hp} {Q : VK} {a : Addr} {vs : List V} {xs : List α} (hs : SqL K H a vs ∨ SqT K H a vs) (hp : Paired (k.P H) vs xs) (hl : xs.length ≤ 1000)
    (q : ∀ vs' ys p, ys.Perm xs → ys.Pairwise (fun a b => PySem.W.dataLe false k.enc a b = true) → Paired (k.P H) vs' ys → H p = none → Q (.ref p) (L2.upd H p (.lst vs'))) :
    ∃ (a' : Addr) (zs : List (V × α)), [V.ref a] = [V.ref a'] ∧ (SqL K H a' (zs.map (·.1)) ∨ SqT K H a' (zs.map (·.1))) ∧ kSort K k.enc zs H Q := by
  obtain ⟨zs, e, ks⟩ := k.sort hp hl q
  exact ⟨a, zs, rfl, by rw [e]; exact hs, ks⟩
end
open PySem.W in
theorem endD_lt (a b : En) : PySem.W.dataLt (endD a) (endD b) = decide (a.1 < b.1 ∨ (a.1 = b.1 ∧ a.2 = false ∧ b.2 = true)) := by
  obtain ⟨l, x⟩ := a
  obtain ⟨m, y⟩ := b
  unfold endD
  rw [dataLt_pair (by simp [alike]) (by simp [alike]), dataLt_int, dataLt_str]
  have t0 : ∀ x y, decide ((sr x).cps.toList < (sr y).cps.toList) = (!x && y) := by
    intro x y
    cases x <;> cases y <;> decide +kernel
  rw [t0]
  simp only [PyData.eqv, beq_iff_eq]
  by_cases h1 : l = m
  · subst h1
    by_cases h2 : x = y
    · subst h2
      cases x <;> simp
    · rw [if_pos rfl, if_neg fun h => h2 (sr_inj h)]
      cases x <;> cases y <;> simp_all
  · simp [h1]
def kEnd (K : PySem.W.Frag) : Knd En K where
  P := EndAt
  enc := endD
  mono := fun _ _ _ _ t h => EndAt.mono t h
  dp := fun _ _ _ h => endD_dp h
  al := fun x y => by simp [endD, PySem.W.alike, PySem.W.alikeAll]
  so := fun xs => .inl fun d hd => by
    obtain ⟨x, _, rfl⟩ := List.mem_map.mp hd
    exact ⟨_, _, rfl⟩
  de := fun x => Nat.le_trans (endD_depth x) (by decide)
  la := endD_lay
  pl := fun x => by simp [endD, PyData.plain, PyData.plainAll]
  eqv := endD_eqv
  anti := fun x y h1 h2 => by
    rw [PySem.W.dataLe_eq] at h1 h2
    have h1 : (!PySem.W.dataLt (endD y) (endD x)) = true := h1
    have h2 : (!PySem.W.dataLt (endD x) (endD y)) = true := h2
    rw [endD_lt] at h1 h2
    obtain ⟨l, a⟩ := x
    obtain ⟨m, b⟩ := y
    simp at h1 h2
    have e : l = m := by omega
    subst e
    simp at h1 h2
    cases a <;> cases b <;> simp_all
def kInt (K : PySem.W.Frag) : Knd Int K where
  P := fun _ v n => v = .int n
  enc := .int
  mono := fun _ _ _ _ _ h => h
  dp := fun _ _ _ h => h ▸ .int _
  al := fun x y => by simp [PySem.W.alike]
  so := fun xs => .inr fun d hd => by
    obtain ⟨x, _, rfl⟩ := List.mem_map.mp hd
    exact ⟨nofun, nofun⟩
  de := fun x => by simp [PyData.depth]
  la := fun x => by simp [PyData.canLay0]
  pl := fun x => by simp [PyData.plain]
  eqv := fun x y => by
    simp only [PyData.eqv]
    by_cases h : x = y <;> simp [h]
  anti := fun x y h1 h2 => by
    have e : PySem.W.dataLe false (fun b : Int => PyData.int b) = fun a b => decide (a ≤ b) := PySem.W.dataLe_int (fun b => b)
    have h1 : PySem.W.dataLe false (fun b : Int => PyData.int b) x y = true := h1
    have h2 : PySem.W.dataLe false (fun b : Int => PyData.int b) y x = true := h2
    rw [e] at h1 h2
    simp at h1 h2
    omega
theorem inV_ints (n : Int) (ls : List Int) : inV (.int n) (ls.map V.int) = decide (n ∈ ls) := by
  induction ls with
  | nil => rfl
  | cons a r ih =>
    unfold inV at ih ⊢
    rw [List.map_cons, List.any_cons, ih]
    have e : eqV (.int a) (.int n) = decide (a = n) := by
      unfold eqV
      by_cases h : a = n <;> simp [h]
    rw [e]
    by_cases h : a = n
    · simp [h]
    · simp [h, Ne.symm h]
theorem flat_ints (ls : List Int) : (ls.map V.int).all flatV = true := by
  rw [List.all_eq_true]
  intro v hv
  obtain ⟨n, _, rfl⟩ := List.mem_map.mp hv
  rfl
end BC
namespace BC
open PySem PySem.Spec PyProof.Rows L2 BX
theorem two_letters {R : Run} (o : Ok R) {ls : List Int} (hn : ls.Nodup) (hm : ∀ l, l ∈ ls ↔ (l, true) ∈ ends R) : (ends R).length = 2 * ls.length := by
  have n1 : (ls.map (fun l => (l, true)) ++ ls.map (fun l => (l, false))).Nodup := by
    rw [List.nodup_append]
    refine ⟨?_, ?_, fun a ha b hb e => ?_⟩
    · induction ls with
      | nil => exact .nil
      | cons a r ih =>
        rw [List.nodup_cons] at hn
        rw [List.map_cons, List.nodup_cons]
        refine ⟨fun h => ?_, ?_⟩
        · obtain ⟨x, hx, ex⟩ := List.mem_map.mp h
          injection ex with ex _
          exact hn.1 (ex ▸ hx)
        · have : ∀ r : List Int, r.Nodup → (r.map (fun l => (l, true))).Nodup := by
            intro r hr
            induction r with
            | nil => exact .nil
            | cons a r ih =>
              rw [List.nodup_cons] at hr
              rw [List.map_cons, List.nodup_cons]
              refine ⟨fun h => ?_, ih hr.2⟩
              obtain ⟨x, hx, ex⟩ := List.mem_map.mp h
              injection ex with ex _
              exact hr.1 (ex ▸ hx)
          exact this r hn.2
    · have : ∀ r : List Int, r.Nodup → (r.map (fun l => (l, false))).Nodup := by
        intro r hr
        induction r with
        | nil => exact .nil
        | cons a r ih =>
          rw [List.nodup_cons] at hr
          rw [List.map_cons, List.nodup_cons]
          refine ⟨fun h => ?_, ih hr.2⟩
          obtain ⟨x, hx, ex⟩ := List.mem_map.mp h
          injection ex with ex _
          exact hr.1 (ex ▸ hx)
      exact this ls hn
    · obtain ⟨x, _, rfl⟩ := List.mem_map.mp ha
      obtain ⟨y, _, rfl⟩ := List.mem_map.mp hb
      injection e with _ e
      cases e
  have e : (ls.map (fun l => (l, true)) ++ ls.map (fun l => (l, false))).length = 2 * ls.length := by
    rw [List.length_append, List.length_map, List.length_map]; omega
  have h1 := nodup_sub_len (l := ends R) (m := ls.map (fun l => (l, true)) ++ ls.map (fun l => (l, false))) o.nd fun x hx => by
    obtain ⟨l, b⟩ := x
    have := (hm l).mpr (both_of o hx true)
    cases b
    · exact List.mem_append.mpr (.inr (List.mem_map.mpr ⟨l, this, rfl⟩))
    · exact List.mem_append.mpr (.inl (List.mem_map.mpr ⟨l, this, rfl⟩))
  have h2 := nodup_sub_len (m := ends R) n1 fun x hx => by
    rcases List.mem_append.mp hx with hx | hx
    · obtain ⟨l, hl, rfl⟩ := List.mem_map.mp hx
      exact (hm l).mp hl
    · obtain ⟨l, hl, rfl⟩ := List.mem_map.mp hx
      exact both_of o ((hm l).mp hl) false
  omega
/-- the letters of a run -/
structure IsLetters (R : Run) (ls : List Int) : Prop where
  nd : ls.Nodup
  mem : ∀ l, l ∈ ls ↔ (l, true) ∈ ends R
  len : ls.length ≤ 40
section
variable {P : Program} {w : World} {K : PySem.W.Frag} {mg : Str → Option Value} {base : Heap} {f : Addr} {fd : FuncData}
theorem sc_ends_in : FnScope ["run"] ["run"] (defScope s_ends_in) := ⟨rfl, rfl, rfl, by decide +kernel, rfl, by decide +kernel, by decide +kernel⟩
-- slots: 0:run
def spEndsIn : Sp := fun vs H Q _ => ∃ v R, vs = [v] ∧ RunAt H v R ∧ Fine R ∧ ∀ v' es H', Same H H' → es.Perm (ends R) → RowAt H' v' es → Q v' H'
theorem cal_ends_in (F : FnP K "ends_in" s_ends_in f fd) (hm : mg "ends_in" = some (.ref f)) (T : Txt K mg) (c_houses_of : C8.Cal P w K mg base 5 "houses_of" spHouses []) : C8.Cal P w K mg base 6 "ends_in" spEndsIn [] := by
  refine cal_of F hm sc_ends_in (fun kV doc pm an cdv ct us hl => match us, hl with | [_], _ => rfl) (fun vs H Q E h => ?_) (fun cdv A outer s H vs Q E hr h => ?_)
  · obtain ⟨_, _, rfl, _⟩ := h; rfl
  obtain ⟨v, R, rfl, hR, fn, q⟩ := h
  have nd := sc_ends_in.nd
  have hu1 := Nat.lt_of_le_of_lt (Nat.add_le_add_left (show 1 ≤ 64 by decide) _) hr.units
  have hu64 := hr.units
  have hu65 := room65 hr
  refine ⟨_, (pss_one (ps_ret (pe_callTy call_tuple_of (by rfl) T.n_tuple (by decide +kernel) (pa_cons (pe_callB (cr_sortDT endD rfl hu64) (by rfl) T.n_sorted (by decide +kernel) (pa_cons (C8.pe_c c_houses_of hr (by omega) (by rfl) (pa_cons (pv 0) pa_nil)) pa_nil)) pa_nil)))), ?_⟩
  refine ⟨v, rfl, v, R, rfl, hR, fn, fun dh H1 s1 _ hdh => ⟨dh, _, rfl, .inl hdh, fun bs hbs => ?_⟩⟩
  refine (kEnd K).sort (keys_of hbs (houseK_fst R)) (Nat.le_trans fn.many (by decide)) fun vs' ys p hpm _ hys np => ?_
  refine ⟨p, vs', rfl, .inl ⟨.inl (.inl upd_same), fun l nl => q _ ys _ (Same.trans s1 (Same.trans (Same.new np) (Same.new nl))) hpm ⟨l, vs', rfl, upd_same, ?_⟩⟩⟩
  exact ends_mono (Same.ts (Same.trans (Same.new np) (Same.new nl))) hys
theorem sc_letters_in : FnScope ["run", "letter", "end"] ["run"] (defScope s_letters_in) := ⟨rfl, rfl, rfl, by decide +kernel, rfl, by decide +kernel, by decide +kernel⟩
-- slots: 0:run 1:letter 2:end
def spLetters : Sp := fun vs H Q _ => ∃ v R, vs = [v] ∧ RunAt H v R ∧ Fine R ∧ ∀ a ls H', Same H H' → IsLetters R ls → H' a = some (.tup (ls.map V.int)) → Q (.ref a) H'
theorem cal_letters_in (F : FnP K "letters_in" s_letters_in f fd) (hm : mg "letters_in" = some (.ref f)) (T : Txt K mg) (c_ends_in : C8.Cal P w K mg base 6 "ends_in" spEndsIn []) : C8.Cal P w K mg base 7 "letters_in" spLetters [] := by
  refine cal_of F hm sc_letters_in (fun kV doc pm an cdv ct us hl => match us, hl with | [_], _ => rfl) (fun vs H Q E h => ?_) (fun cdv A outer s H vs Q E hr h => ?_)
  · obtain ⟨_, _, rfl, _⟩ := h; rfl
  obtain ⟨v, R, rfl, hR, fn, q⟩ := h
  have nd := sc_letters_in.nd
  have hu1 := Nat.lt_of_le_of_lt (Nat.add_le_add_left (show 1 ≤ 64 by decide) _) hr.units
  have hu64 := hr.units
  have hu65 := room65 hr
  refine ⟨_, (pss_one (ps_ret (pe_callTy call_tuple_of (by rfl) T.n_tuple (by decide +kernel) (pa_cons (pe_lc (own := [("letter", 1), ("end", 2)]) (g := (gTup K 2 (gCons (gName 1) (gCons (gName 2) gNil)))) (tt := _) rfl nd (pi_tup (C8.pe_c c_ends_in hr (by omega) (by rfl) (pa_cons (pv 0) pa_nil))) (blkOk_by (by rfl)) (fun _ _ _ _ _ => (pg_tup rfl (pgs_cons (pg_name (i := 1) nd rfl (Or.inl rfl)) (pgs_cons (pg_name (i := 2) nd rfl (Or.inl rfl)) pgs_nil)))) (fun _ _ _ _ _ => pts_one (pt_cmpR op_eq (pv 2) pe_str (nomark _))) (fun _ _ _ _ _ => (pv 1))) pa_nil)))), ?_⟩
  have hmany := fn.many
  refine ⟨v, rfl, v, R, rfl, hR, fn, ?_⟩
  rintro v' es H1 s1 hpm ⟨a, us, rfl, ha, hus⟩
  have hel : us.length = es.length := Paired.len hus
  have hlen : es.length ≤ 40 := by rw [hpm.length_eq]; exact fn.many
  refine ⟨a, rfl, ⟨us, SqT.of ha⟩, fun D nD => ?_⟩
  refine lc_fm wp_tup es (fun e => if e.2 = true then some e.1 else none) (fun _ v n => v = .int n) (fun _ _ _ _ _ h => h) hel (by omega) nD (fun H' s' => SqT.of (s' _ _ ha)) (fun i e x H' K1 K0 he s' hi q1 q0 => ?_) fun H2 acc s2 hD hacc => ?_
  · obtain ⟨e', he', b, rfl, hb⟩ := Paired.at hus hi
    rw [he] at he'
    cases he'
    refine ⟨b, eV e, rfl, SqT.of (s' _ _ hb), rfl, .int e.1, _, rfl, .str (sr e.2), [], rfl, rfl, rfl, .str (sr e.2), rfl, rfl, _, rfl, ?_⟩
    by_cases h : e.2 = true
    · refine iteT (by rw [h]; exact decide_eq_true rfl) ⟨.int e.1, rfl, q1 _ H' e.1 (Same.rf _) (if_pos h) rfl⟩
    · have h' : e.2 = false := by simpa using h
      exact iteF (by rw [h']; decide) (q0 (if_neg h) H' (Same.rf _))
  have eacc := Paired.ints.mp hacc
  refine ⟨D, acc, rfl, .inl ⟨.inl (.inl hD), fun l nl => q l (es.filterMap fun e => if e.2 = true then some e.1 else none) _ (Same.trans s1 (Same.trans s2 (Same.new nl))) ?_ (by rw [upd_same, eacc])⟩⟩
  have hmem : ∀ l, l ∈ (es.filterMap fun e => if e.2 = true then some e.1 else none) ↔ (l, true) ∈ ends R := by
    intro l
    rw [List.mem_filterMap]
    constructor
    · rintro ⟨⟨m, b⟩, h1, h2⟩
      cases b with
      | true => simp at h2; rw [← h2]; exact hpm.subset h1
      | false => simp at h2
    · intro h
      exact ⟨(l, true), hpm.symm.subset h, by simp⟩
  refine ⟨?_, hmem, Nat.le_trans (List.length_filterMap_le _ _) hlen⟩
  have hesn : es.Nodup := hpm.symm.nodup fn.ok.nd
  clear hmem eacc hacc hus ha q hpm
  clear hlen hel
  induction es with
  | nil => exact .nil
  | cons e r ih =>
    rw [List.nodup_cons] at hesn
    obtain ⟨m, b⟩ := e
    cases b with
    | false => rw [List.filterMap_cons_none (by simp)]; exact ih hesn.2
    | true =>
      rw [List.filterMap_cons_some (b := m) (by simp), List.nodup_cons]
      refine ⟨fun h => hesn.1 ?_, ih hesn.2⟩
      obtain ⟨⟨m', b'⟩, h1, h2⟩ := List.mem_filterMap.mp h
      cases b' with
      | true => simp at h2; rw [← h2]; exact h1
      | false => simp at h2
theorem sc_check_letters : FnScope ["run", "letters", "known", "letter"] ["run", "letters"] (defScope s_check_letters) := ⟨rfl, rfl, rfl, by decide +kernel, rfl, by decide +kernel, by decide +kernel⟩
-- slots: 0:run 1:letters 2:known 3:letter
def spCheck : Sp := fun vs H Q _ => ∃ (v : V) (R : Run) (a : Addr) (ns : List Int), vs = [v, .ref a] ∧ RunAt H v R ∧ Fine R ∧ H a = some (.tup (ns.map V.int)) ∧ (∀ n ∈ ns, (n, true) ∈ ends R) ∧ ∀ H', Same H H' → Q .non H'
theorem cal_check_letters (F : FnP K "check_letters" s_check_letters f fd) (hm : mg "check_letters" = some (.ref f)) (T : Txt K mg) (c_letters_in : C8.Cal P w K mg base 7 "letters_in" spLetters []) : C8.Cal P w K mg base 8 "check_letters" spCheck [] := by
  refine cal_of F hm sc_check_letters (fun kV doc pm an cdv ct us hl => match us, hl with | [_, _], _ => rfl) (fun vs H Q E h => ?_) (fun cdv A outer s H vs Q E hr h => ?_)
  · obtain ⟨_, _, _, _, rfl, _⟩ := h; rfl
  obtain ⟨v, R, a, ns, rfl, hR, fn, ha, hns, q⟩ := h
  have nd := sc_check_letters.nd
  have hu1 := Nat.lt_of_le_of_lt (Nat.add_le_add_left (show 1 ≤ 64 by decide) _) hr.units
  have hu64 := hr.units
  have hu65 := room65 hr
  refine ⟨_, (pss_cons (ps_set (i := 2) nd rfl (Or.inl rfl) (C8.pe_c c_letters_in hr (by omega) (by rfl) (pa_cons (pv 0) pa_nil)))
    (pss_one (ps_for PassesOwn.never rfl (pi_tup (pv 1)) (pg_name (i := 3) nd rfl (Or.inl rfl)) (pss_one (ps_if (pt_cmpR op_notIn_seq (pv 3) (pv 2) (by rfl)) (pss_one ps_never) pss_nil))))), ?_⟩
  refine ⟨v, rfl, v, R, rfl, hR, fn, fun b ls H1 s1 hls hb => ?_⟩
  have ha1 := s1 _ _ ha
  refine ⟨.ref a, rfl, a, rfl, ⟨_, SqT.of ha1⟩, ?_⟩
  refine L2.for_it (wp_tup (K := K) (a := a) (xs := ns.map V.int)) (fun i σ H' => ∃ x3, σ = [some v, some (.ref a), some (.ref b), x3] ∧ Same H1 H') ⟨_, rfl, Same.rf _⟩ (fun i σ H' _ h => ?_) (fun i x σ H2 H2' hi h y => ?_) fun σ H2 h => ?_
  · obtain ⟨_, _, s'⟩ := h
    exact SqT.of (s' _ _ ha1)
  · obtain ⟨x3, rfl, s'⟩ := h
    obtain ⟨s2, hx⟩ := y
    have s2 := Same.trans s' s2
    rw [List.getElem?_map] at hx
    obtain ⟨n, hn, rfl⟩ := Option.map_eq_some_iff.mp hx
    refine ⟨.int n, rfl, .ref b, rfl, b, _, rfl, .inr (SqT.of (s2 _ _ hb)), rfl, flat_ints ls, _, rfl, ?_⟩
    refine iteF ?_ ⟨_, rfl, ?_⟩
    · rw [inV_ints, decide_eq_true ((hls.mem n).mpr (hns n (List.mem_of_getElem? hn)))]
      rfl
    · exact s2
  · obtain ⟨_, rfl, s'⟩ := h
    exact q _ (Same.trans s1 s')
theorem sc_house_of : FnScope ["run", "letter", "end"] ["run", "letter", "end"] (defScope s_house_of) := ⟨rfl, rfl, rfl, by decide +kernel, rfl, by decide +kernel, by decide +kernel⟩
-- slots: 0:run 1:letter 2:end
def spHouseOf : Sp := fun vs H Q _ => ∃ v R e, vs = [v, .int e.1, .str (sr e.2)] ∧ RunAt H v R ∧ Fine R ∧ e ∈ ends R ∧ ∀ H' h, Same H H' → (e, h) ∈ houseL R → Q (.int (h : Nat)) H'
theorem cal_house_of (F : FnP K "house_of" s_house_of f fd) (hm : mg "house_of" = some (.ref f)) (T : Txt K mg) (c_houses_of : C8.Cal P w K mg base 5 "houses_of" spHouses []) (c_check_letters : C8.Cal P w K mg base 8 "check_letters" spCheck []) : C8.Cal P w K mg base 9 "house_of" spHouseOf [] := by
  refine cal_of F hm sc_house_of (fun kV doc pm an cdv ct us hl => match us, hl with | [_, _, _], _ => rfl) (fun vs H Q E h => ?_) (fun cdv A outer s H vs Q E hr h => ?_)
  · obtain ⟨_, _, _, rfl, _⟩ := h; rfl
  obtain ⟨v, R, e, rfl, hR, fn, he, q⟩ := h
  have nd := sc_house_of.nd
  have hu1 := Nat.lt_of_le_of_lt (Nat.add_le_add_left (show 1 ≤ 64 by decide) _) hr.units
  have hu64 := hr.units
  have hu65 := room65 hr
  refine ⟨_, (pss_cons (ps_expr (C8.pe_c c_check_letters hr (by omega) (by rfl) (pa_cons (pv 0) (pa_cons (pe_tup (pa_cons (pv 1) pa_nil)) pa_nil))))
    (pss_one (ps_ret (pe_dget hu1 (C8.pe_c c_houses_of hr (by omega) (by rfl) (pa_cons (pv 0) pa_nil)) (pe_tup (pa_cons (pv 1) (pa_cons (pv 2) pa_nil))) (fun _ _ => rfl))))), ?_⟩
  refine ⟨v, rfl, .int e.1, rfl, Nat.le_of_lt two_le, fun p np => ⟨v, R, p, [e.1], rfl, RunAt.mono (.new np) hR, fn, upd_same, fun n hn => ?_, fun H1 s1 => ?_⟩⟩
  · rw [List.mem_singleton.mp hn]
    exact both_of fn.ok (a := e.2) he true
  have s01 := Same.trans (Same.new np) s1
  refine ⟨v, rfl, v, R, rfl, RunAt.mono (Same.ts s01) hR, fn, fun dh H2 s2 _ hdh => ?_⟩
  obtain ⟨h, hh⟩ := house_of_end he
  exact ⟨.int e.1, rfl, .str (sr e.2), rfl, two_le, fun p2 np2 => ⟨dh, _, rfl, dgetH fn.ok.nd hh (.inl ((Same.new np2) _ _ hdh)) upd_same, q _ h (Same.trans s01 (Same.trans s2 (Same.new np2))) hh⟩⟩
theorem sc_ahead : FnScope ["run", "one", "other"] ["run", "one", "other"] (defScope s_ahead) := ⟨rfl, rfl, rfl, by decide +kernel, rfl, by decide +kernel, by decide +kernel⟩
-- slots: 0:run 1:one 2:other
def spAhead : Sp := fun vs H Q _ => ∃ v R v1 v2 e1 e2, vs = [v, v1, v2] ∧ RunAt H v R ∧ Fine R ∧ EndAt H v1 e1 ∧ EndAt H v2 e2 ∧ e1 ∈ ends R ∧ e2 ∈ ends R ∧ ∀ H' b, Same H H' → (b = true ↔ Reach R e1 e2) → Q (.bl b) H'
theorem cal_ahead (F : FnP K "ahead" s_ahead f fd) (hm : mg "ahead" = some (.ref f)) (T : Txt K mg) (c_tupE : cTupE P w K mg base) (c_behind_all : C8.Cal P w K mg base 7 "behind_all" spBehind []) (c_check_letters : C8.Cal P w K mg base 8 "check_letters" spCheck []) : C8.Cal P w K mg base 9 "ahead" spAhead [] := by
  refine cal_of F hm sc_ahead (fun kV doc pm an cdv ct us hl => match us, hl with | [_, _, _], _ => rfl) (fun vs H Q E h => ?_) (fun cdv A outer s H vs Q E hr h => ?_)
  · obtain ⟨_, _, _, _, _, _, rfl, _⟩ := h; rfl
  obtain ⟨v, R, v1, v2, e1, e2, rfl, hR, fn, h1, h2, m1, m2, q⟩ := h
  have nd := sc_ahead.nd
  have hu1 := Nat.lt_of_le_of_lt (Nat.add_le_add_left (show 1 ≤ 64 by decide) _) hr.units
  have hu64 := hr.units
  have hu65 := room65 hr
  refine ⟨_, (pss_cons (ps_expr (C8.pe_c c_check_letters hr (by omega) (by rfl) (pa_cons (pv 0) (pa_cons (pe_tup (pa_cons (pe_ix ix_tup (pv 1) pe_int (fun _ _ => rfl)) (pa_cons (pe_ix ix_tup (pv 2) pe_int (fun _ _ => rfl)) pa_nil))) pa_nil))))
    (pss_one (ps_ret (pe_cmpR (op_inD hu65) (C8.pe_c c_tupE hr (by omega) (by rfl) (pa_cons (pv 2) pa_nil)) (pe_dget hu1 (C8.pe_c c_behind_all hr (by omega) (by rfl) (pa_cons (pv 0) pa_nil)) (C8.pe_c c_tupE hr (by omega) (by rfl) (pa_cons (pv 1) pa_nil)) (fun _ _ => rfl)) (by rfl))))), ?_⟩
  have h1' := h1
  have h2' := h2
  obtain ⟨b1, rfl, hb1⟩ := h1
  obtain ⟨b2, rfl, hb2⟩ := h2
  refine ⟨v, rfl, .ref b1, rfl, b1, eV e1, 0, _, rfl, rfl, SqT.of hb1, atI_nat (j := 0) rfl, .ref b2, rfl, b2, eV e2, 0, _, rfl, rfl, SqT.of hb2, atI_nat (j := 0) rfl, two_le, fun p np => ⟨v, R, p, [e1.1, e2.1], rfl, RunAt.mono (.new np) hR, fn, upd_same, fun n hn => ?_, fun H1 s1 => ?_⟩⟩
  · rcases List.mem_cons.mp hn with rfl | hn
    · exact both_of fn.ok (a := e1.2) m1 true
    · rw [List.mem_singleton.mp hn]
      exact both_of fn.ok (a := e2.2) m2 true
  have s01 := Same.trans (Same.new np) s1
  refine ⟨.ref b2, rfl, .ref b2, e2, rfl, EndAt.mono (Same.ts s01) h2', fun v2' H2 s2 hv2 => ?_⟩
  have s02 := Same.trans s01 s2
  refine ⟨v, rfl, v, R, rfl, RunAt.mono (Same.ts s02) hR, fn, fun d H3 hdl => ?_⟩
  obtain ⟨s3, _, la, fb, hd, nl, _, hfb⟩ := hdl
  have s03 := Same.trans s02 s3
  refine ⟨.ref b1, rfl, .ref b1, e1, rfl, EndAt.mono (Same.ts s03) h1', ?_⟩
  rintro _ H4 s4 ⟨c1, rfl, hc1⟩
  obtain ⟨vs, hl, hvs⟩ := (nl.same s4).at_ e1 m1
  refine ⟨d, _, rfl, dgetR fn.ok.nd m1 (.inl (s4 _ _ hd)) hc1, endD e2, _, endD_dp (EndAt.mono (Same.ts (Same.trans s3 s4)) hv2), dpl_ends hl hvs, sh_end _, sh_ends _, ?_⟩
  rw [any_end]
  exact q _ _ (Same.trans s03 s4) (by rw [decide_eq_true_eq]; exact hfb e1 m1 e2)
theorem sc_ends_between : FnScope ["run", "letter", "behind", "own"] ["run", "letter"] (defScope s_ends_between) := ⟨rfl, rfl, rfl, by decide +kernel, rfl, by decide +kernel, by decide +kernel⟩
-- slots: 0:run 1:letter 2:behind 3:own
def spBetween : Sp := fun vs H Q _ => ∃ v R l, vs = [v, .int l] ∧ RunAt H v R ∧ Fine R ∧ (l, true) ∈ ends R ∧ ∀ v' es H', Same H H' → RowAt H' v' es → es.length ≤ 50 → (∀ e, e ∈ es ↔ Reach R (l, true) e ∧ Reach R e (l, false)) → Q v' H'
theorem cal_ends_between (F : FnP K "ends_between" s_ends_between f fd) (hm : mg "ends_between" = some (.ref f)) (T : Txt K mg) (c_behind_all : C8.Cal P w K mg base 7 "behind_all" spBehind []) (c_check_letters : C8.Cal P w K mg base 8 "check_letters" spCheck []) : C8.Cal P w K mg base 9 "ends_between" spBetween [] := by
  refine cal_of F hm sc_ends_between (fun kV doc pm an cdv ct us hl => match us, hl with | [_, _], _ => rfl) (fun vs H Q E h => ?_) (fun cdv A outer s H vs Q E hr h => ?_)
  · obtain ⟨_, _, _, rfl, _⟩ := h; rfl
  obtain ⟨v, R, l, rfl, hR, fn, hl, q⟩ := h
  have nd := sc_ends_between.nd
  have hu1 := Nat.lt_of_le_of_lt (Nat.add_le_add_left (show 1 ≤ 64 by decide) _) hr.units
  have hu64 := hr.units
  have hu65 := room65 hr
  refine ⟨_, (pss_cons (ps_expr (C8.pe_c c_check_letters hr (by omega) (by rfl) (pa_cons (pv 0) (pa_cons (pe_tup (pa_cons (pv 1) pa_nil)) pa_nil))))
    (pss_cons (ps_set (i := 2) nd rfl (Or.inr rfl) (C8.pe_c c_behind_all hr (by omega) (by rfl) (pa_cons (pv 0) pa_nil)))
    (pss_one (ps_ret (pe_callTy call_tuple_of (by rfl) T.n_tuple (by decide +kernel) (pa_cons (pe_callB (cr_sortSq endD hu64) (by rfl) T.n_sorted (by decide +kernel) (pa_cons (pe_lc (own := [("own", 3)]) (g := (gName 3)) (tt := _) rfl nd (pi_list (pe_dget hu1 (pv 2) (pe_tup (pa_cons (pv 1) (pa_cons pe_str pa_nil))) (fun _ _ => rfl))) (blkOk_by (by rfl)) (fun _ _ _ _ _ => (pg_name (i := 3) nd rfl (Or.inl rfl))) (fun _ _ _ _ _ => pts_one (pt_cmpR (op_inDK (K := K) rfl hu65) (pe_tup (pa_cons (pv 1) (pa_cons pe_str pa_nil))) (pe_dget hu1 (pv 2) (pv 3) (fun _ _ => rfl)) (by rfl))) (fun _ _ _ _ _ => (pv 3))) pa_nil)) pa_nil)))))), ?_⟩
  refine ⟨v, rfl, .int l, rfl, Nat.le_of_lt two_le, fun p np => ⟨v, R, p, [l], rfl, RunAt.mono (.new np) hR, fn, upd_same, fun n hn => by rw [List.mem_singleton.mp hn]; exact hl, fun H1 s1 => ?_⟩⟩
  have s01 := Same.trans (Same.new np) s1
  refine ⟨v, rfl, v, R, rfl, RunAt.mono (Same.ts s01) hR, fn, fun d H2 hdl => ?_⟩
  obtain ⟨s2, _, la, fb, hd, nl, hfl, hfb⟩ := hdl
  refine ⟨.ref d, rfl, .int l, rfl, two_le, fun p2 np2 => ?_⟩
  have s3 : Same H2 (L2.upd H2 p2 (.tup [.int l, .str (Str.ofString "s")])) := Same.new np2
  have hp2 : (L2.upd H2 p2 (.tup [.int l, .str (Str.ofString "s")])) p2 = some (.tup (eV (l, true))) := upd_same
  generalize (L2.upd H2 p2 (.tup [.int l, .str (Str.ofString "s")])) = H3 at s3 hp2 ⊢
  obtain ⟨vs, hvl, hvs⟩ := (nl.same s3).at_ _ hl
  have hvn : vs.length = (fb (l, true)).length := Paired.len hvs
  have hvm := hfl _ hl
  refine ⟨d, _, rfl, dgetR fn.ok.nd hl (.inl (s3 _ _ hd)) hp2, la (l, true), rfl, ⟨vs, .inl (.inl hvl)⟩, fun D nD => ?_⟩
  have hsub : ∀ e ∈ fb (l, true), e ∈ ends R := fun e he => (((hfb _ hl e).mp he).mem fn.ok.both).2
  refine lc_fm wp_list (fb (l, true)) (fun e => if (l, false) ∈ fb e then some e else none) (fun H v e => EndAt H v e) (fun _ _ _ _ t h => EndAt.mono t h) hvn (by omega) nD (fun H' s' => .inl (.inl (s' _ _ hvl))) (fun i e x H' K1 K0 he s' hi q1 q0 => ?_) fun H4 acc s4 hD hacc => ?_
  · obtain ⟨e', he', b, rfl, hb⟩ := Paired.at hvs hi
    rw [he] at he'
    cases he'
    have hme := hsub _ (List.mem_of_getElem? he)
    refine ⟨rfl, .int l, rfl, two_le, fun p5 np5 => ?_⟩
    have s5 : Same H' (L2.upd H' p5 (.tup [.int l, .str (Str.ofString "r")])) := Same.new np5
    have hp5 : (L2.upd H' p5 (.tup [.int l, .str (Str.ofString "r")])) p5 = some (.tup (eV (l, false))) := upd_same
    generalize (L2.upd H' p5 (.tup [.int l, .str (Str.ofString "r")])) = H5 at s5 hp5 ⊢
    have s35 := Same.trans s3 (Same.trans s' s5)
    obtain ⟨ws, hwl, hws⟩ := (nl.same s35).at_ e hme
    refine ⟨.ref d, rfl, .ref b, rfl, d, _, rfl, dgetR fn.ok.nd hme (.inl (s35 _ _ hd)) (s5 _ _ (s' _ _ hb)), endD (l, false), _, endD_dp ⟨p5, rfl, hp5⟩, dpl_ends hwl hws, sh_end _, sh_ends _, _, rfl, ?_⟩
    by_cases h : (l, false) ∈ fb e
    · exact iteT (by rw [any_end]; exact decide_eq_true h) ⟨.ref b, rfl, q1 _ _ e s5 (if_pos h) ⟨b, rfl, s5 _ _ (s' _ _ hb)⟩⟩
    · exact iteF (by rw [any_end]; exact decide_eq_false h) (q0 (if_neg h) _ s5)
  refine (kEnd K).sortSq (.inl (.inl (.inl hD))) hacc (Nat.le_trans (List.length_filterMap_le _ _) (by omega)) fun vs' ys p hpm _ hys np => ?_
  refine ⟨p, vs', rfl, .inl ⟨.inl (.inl upd_same), fun l2 nl2 => ?_⟩⟩
  have s6 := Same.trans (Same.new np) (Same.new (o := .tup vs') nl2)
  refine q _ ys _ (Same.trans s01 (Same.trans s2 (Same.trans s3 (Same.trans s4 s6)))) ⟨l2, vs', rfl, upd_same, ends_mono (Same.ts s6) hys⟩ ?_ fun e => ?_
  · rw [hpm.length_eq]
    exact Nat.le_trans (List.length_filterMap_le _ _) hvm
  · rw [hpm.mem_iff, List.mem_filterMap]
    constructor
    · rintro ⟨x, hx, h⟩
      by_cases h2 : (l, false) ∈ fb x
      · rw [if_pos h2] at h
        cases h
        exact ⟨(hfb _ hl _).mp hx, (hfb _ (hsub _ hx) _).mp h2⟩
      · rw [if_neg h2] at h
        cases h
    · rintro ⟨h1, h2⟩
      have hx := (hfb _ hl _).mpr h1
      exact ⟨e, hx, if_pos ((hfb _ (hsub _ hx) _).mpr h2)⟩
end
end BC
namespace BC
open PySem PySem.Spec PyProof.Rows L2 BX
section
variable {α : Type} [DecidableEq α] {K : PySem.W.Frag}
/-- a dict of lists at d, whatever it is keyed by -/
structure Bh (k : Knd α K) (H : Hp) (d : Addr) (xs : List α) (Rel : α → α → Prop) : Prop where
  get : ∀ H', Same H H' → ∀ v x, k.P H' v x → x ∈ xs → ∃ l vs ys, DGet H' d v (some (.ref l)) ∧ H' l = some (.lst vs) ∧ Paired (k.P H') vs ys ∧ ∀ y, y ∈ ys ↔ Rel x y
  srt : ∀ H' (Q : VK), Same H H' → (∀ vs' ys p, ys.Perm xs → Paired (k.P H') vs' ys → H' p = none → Q (.ref p) (L2.upd H' p (.lst vs'))) →
    (∃ kvs : List (List Key × V), Rd H' d (.dT kvs) ∧ ∀ bs, IsKeys H' kvs bs → ∃ zs : List (V × α), zs.map (·.1) = bs.map V.ref ∧ kSort K k.enc zs H' Q) ∨
     ∃ kvs : List (Key × V), Rd H' d (.dK kvs) ∧ ∃ zs : List (V × α), zs.map (·.1) = kvs.map (fun kv => kV kv.1) ∧ kSort K k.enc zs H' Q
theorem Knd.dpl (k : Knd α K) {H : Hp} {a : Addr} {vs : List V} {xs : List α} (h : H a = some (.lst vs)) (hp : Paired (k.P H) vs xs) : Dp K H (.ref a) (.list (xs.map k.enc)) := .lst (.inl (.inl h)) (k.dps hp)
theorem Knd.mv (k : Knd α K) {H H' : Hp} (t : TSame H H') {vs : List V} {xs : List α} (h : Paired (k.P H) vs xs) : Paired (k.P H') vs xs := Paired.imp (fun v x => k.mono _ _ v x t) h
def Bad (Rel : α → α → Prop) (xs : List α) : Prop := ∃ S : List α, S ≠ [] ∧ (∀ x ∈ S, x ∈ xs) ∧ ∀ own ∈ S, ∃ far ∈ S, Rel far own
end
section
variable {P : Program} {w : World} {K : PySem.W.Frag} {mg : Str → Option Value} {base : Heap} {f : Addr} {fd : FuncData}
theorem sc_least_row : FnScope ["some", "behind", "found", "rest", "free", "own", "far"] ["some", "behind"] (defScope s_least_row) := ⟨rfl, rfl, rfl, by decide +kernel, rfl, by decide +kernel, by decide +kernel⟩
-- slots: 0:some 1:behind 2:found 3:rest 4:free 5:own 6:far
def spLeast {α : Type} [DecidableEq α] {K : PySem.W.Frag} (k : Knd α K) : Sp := fun vs H Q _ => ∃ d xs Rel, vs = [.ref d, .ref d] ∧ Bh k H d xs Rel ∧ xs.length ≤ 100 ∧
  (∀ H', Same H H' → Bad Rel xs → Q .non H') ∧ ∀ v' ys H', Same H H' → ys.Perm xs → ys.Pairwise (fun a b => ¬ Rel b a) → TupOf (k.P H') H' v' ys → Q v' H'
open Classical in
theorem cal_least_row {α : Type} [DecidableEq α] (k : Knd α K) (F : FnP K "least_row" s_least_row f fd) (hm : mg "least_row" = some (.ref f)) (T : Txt K mg) {kk : Nat} : C8.Cal P w K mg base (kk + 1) "least_row" (spLeast k) [] := by
  refine cal_of F hm sc_least_row (fun kV doc pm an cdv ct us hl => match us, hl with | [_, _], _ => rfl) (fun vs H Q E h => ?_) (fun cdv A outer s H vs Q E hr h => ?_)
  · obtain ⟨_, _, _, rfl, _⟩ := h; rfl
  obtain ⟨d, xs, Rel, rfl, bh, hxl, qn, qt⟩ := h
  have nd := sc_least_row.nd
  have hu1 := Nat.lt_of_le_of_lt (Nat.add_le_add_left (show 1 ≤ 64 by decide) _) hr.units
  have hu64 := hr.units
  have hu65 := room65 hr
  refine ⟨_, (pss_cons (ps_asg (pe_tup (pa_cons (pe_lst pa_nil) (pa_cons (pe_callB (cr_sortD k.enc rfl hu64) (by rfl) T.n_sorted (by decide +kernel) (pa_cons (pv 0) pa_nil)) pa_nil))) (pg_tup rfl (pgs_cons (pg_name (i := 2) nd rfl (Or.inl rfl)) (pgs_cons (pg_name (i := 3) nd rfl (Or.inr rfl)) pgs_nil))))
    (pss_cons (ps_while PassesOwn.never (pt_cmpR op_gt (pe_callB call_len_seq (by rfl) T.n_len (by decide +kernel) (pa_cons (pv 3) pa_nil)) pe_int (nomark _)) (pss_cons (ps_setLc (i := 4) (own := [("own", 5)]) (g := (gName 5)) (tt := _) rfl nd rfl rfl (sw_true rfl rfl rfl (by decide +kernel)) (pi_list (pv 3)) (blkOk_by (by rfl)) (fun _ _ _ _ _ => (pg_name (i := 5) nd rfl (Or.inr rfl))) (fun _ _ _ _ _ => pts_one (pt_not (pt_val (pe_callB (cr_anyK (K := K) rfl rfl) (by rfl) T.n_any (by decide +kernel) (pa_cons (pe_lc (own := [("far", 6)]) (g := (gName 6)) (tt := tYes) rfl nd (pi_listK (K := K) rfl (pv 3)) (blkOk_by (by rfl)) (fun _ _ _ _ _ => (pg_name (i := 6) nd rfl (Or.inl rfl))) (fun _ _ _ _ _ => pts_nil) (fun _ _ _ _ _ => (pe_cmpR (op_inDK (K := K) rfl hu65) (pv 5) (pe_dget hu1 (pv 1) (pv 6) (fun _ _ => rfl)) (by rfl)))) pa_nil))))) (fun _ _ _ _ _ => (pv 5)))
    (pss_cons (ps_if (pt_cmpR op_eq (pe_callB call_len_seq (by rfl) T.n_len (by decide +kernel) (pa_cons (pv 4) pa_nil)) pe_int (nomark _)) (pss_one (ps_ret pe_non)) pss_nil)
    (pss_cons (ps_expr (pe_bm PySem.F.plainAttrs_list PySem.F.slot_list_append PySem.F.type_list_append mt_append (pv 2) (pa_cons (pe_ix ix_list (pv 4) pe_int (fun _ _ => rfl)) pa_nil)))
    (pss_one (ps_expr (pe_bm PySem.F.plainAttrs_list PySem.F.slot_list_remove PySem.F.type_list_remove (mt_remD hu64) (pv 3) (pa_cons (pe_ix ix_list (pv 4) pe_int (fun _ _ => rfl)) pa_nil))))))))
    (pss_one (ps_ret (pe_callTy call_tuple_of (by rfl) T.n_tuple (by decide +kernel) (pa_cons (pv 2) pa_nil)))))), ?_⟩
  refine ⟨Nat.zero_le _, fun fa nfa => ⟨.ref d, rfl, d, rfl, bh.srt _ _ (Same.new nfa) fun rs ys0 ra hpm0 hrs nra => ⟨two_le, fun p np => ?_⟩⟩⟩
  have s1 : Same H (L2.upd H fa (.lst [])) := Same.new nfa
  have s2 : Same H (L2.upd (L2.upd H fa (.lst [])) ra (.lst rs)) := Same.trans s1 (Same.new nra)
  have s3 : Same H (L2.upd (L2.upd (L2.upd H fa (.lst [])) ra (.lst rs)) p (.tup [.ref fa, .ref ra])) := Same.trans s2 (Same.new np)
  have nraH : H ra = none := same_none s1 nra
  have hfr : fa ≠ ra := fun h => by rw [← h, upd_same] at nra; cases nra
  refine ⟨p, _, rfl, SqT.of upd_same, rfl, .ref fa, [.ref ra], rfl, .ref ra, [], rfl, rfl, ?_⟩
  have hfa3 : (L2.upd (L2.upd (L2.upd H fa (.lst [])) ra (.lst rs)) p (.tup [.ref fa, .ref ra])) fa = some (.lst []) := (Same.new np) _ _ ((Same.new nra) _ _ upd_same)
  have hra3 : (L2.upd (L2.upd (L2.upd H fa (.lst [])) ra (.lst rs)) p (.tup [.ref fa, .ref ra])) ra = some (.lst rs) := (Same.new np) _ _ upd_same
  have hrs3 := k.mv (Same.ts (Same.trans (Same.new (o := .lst rs) nra) (Same.new (o := .tup [.ref fa, .ref ra]) np))) hrs
  generalize (L2.upd (L2.upd (L2.upd H fa (.lst [])) ra (.lst rs)) p (.tup [.ref fa, .ref ra])) = H3 at s3 hfa3 hra3 hrs3 ⊢
  clear hrs s2 s1 nra np
  refine ⟨fun m σ H' => ∃ FF RR fs rs x4 x5 x6, σ = [some (.ref d), some (.ref d), some (.ref fa), some (.ref ra), x4, x5, x6] ∧ Same H H' ∧ H' fa = some (.lst fs) ∧ H' ra = some (.lst rs) ∧ Paired (k.P H') fs FF ∧ Paired (k.P H') rs RR ∧ (FF ++ RR).Perm xs ∧ FF.Pairwise (fun a b => ¬ Rel b a) ∧ (∀ a ∈ FF, ∀ b ∈ RR, ¬ Rel b a) ∧ m = RR.length,
    ⟨_, [], ys0, [], rs, _, _, _, rfl, s3, hfa3, hra3, .nil, hrs3, hpm0, .nil, (fun _ h => by cases h), rfl⟩, ?_⟩
  rintro m σ H4 ⟨FF, RR, fs, rs, x4, x5, x6, rfl, s4, hfa, hra, hfs, hrs, hpm, hpw, hcr, rfl⟩
  have hrl : rs.length = RR.length := Paired.len hrs
  have hfl : fs.length = FF.length := Paired.len hfs
  have htot : FF.length + RR.length = xs.length := by rw [← List.length_append, hpm.length_eq]
  refine ⟨.ref ra, rfl, ra, rs, rfl, .inl (.inl (.inl hra)), (rs.length : Nat), 0, rfl, rfl, _, rfl, ?_⟩
  by_cases hz : RR = []
  · subst hz
    have ez : rs.length = 0 := by rw [hrl]; rfl
    refine iteF (by rw [ez]; decide) ⟨.ref fa, rfl, fa, fs, rfl, .inl ⟨.inl (.inl hfa), fun l nl => qt _ FF _ (Same.trans s4 (Same.new nl)) (by simpa using hpm) hpw ⟨l, fs, rfl, upd_same, k.mv (Same.ts (Same.new nl)) hfs⟩⟩⟩
  have hpos : 0 < RR.length := List.length_pos_iff.mpr hz
  refine iteT (decide_eq_true (by omega)) ⟨_, fun _ _ h => h, ?_⟩
  have hxs : ∀ x ∈ RR, x ∈ xs := fun x hx => hpm.subset (List.mem_append.mpr (.inr hx))
  -- the free ones
  refine ⟨.ref ra, rfl, ra, rfl, ⟨rs, .inl (.inl hra)⟩, fun fr nfr => ?_⟩
  refine lc_fm wp_list RR (fun own => if (∀ far ∈ RR, ¬ Rel far own) then some own else none) k.P k.mono hrl (by omega) nfr (fun H' s' => .inl (.inl (s' _ _ hra))) (fun i own x H' K1 K0 hown s' hi q1 q0 => ?_) fun H5 acc s5 hfree hacc => ?_
  · obtain ⟨own', ho', hx⟩ := Paired.at hrs hi
    rw [hown] at ho'
    cases ho'
    have hra' := s' _ _ hra
    refine ⟨rfl, .ref ra, rfl, ra, rfl, ⟨rs, .inl (.inl hra')⟩, fun D2 nD2 => ?_⟩
    refine lc_bool wp_list RR (fun far => decide (Rel far own)) hrl (by omega) nD2 (fun H'' s'' => .inl (.inl (s'' _ _ hra'))) (fun j far y H'' K2 hfar s'' hj q2 => ?_) fun H6 s6 hD2 => ?_
    · obtain ⟨far', hf', hy⟩ := Paired.at hrs hj
      rw [hfar] at hf'
      cases hf'
      have sx := Same.trans s4 (Same.trans s' s'')
      have t2 := Same.ts (Same.trans s' s'')
      obtain ⟨l, vs, ys, hg, hl, hv, hys⟩ := bh.get _ sx y far (k.mono _ _ _ _ t2 hy) (hxs far (List.mem_of_getElem? hfar))
      refine ⟨rfl, x, rfl, .ref d, rfl, y, rfl, d, _, rfl, hg, k.enc own, _, k.dp _ _ _ (k.mono _ _ _ _ t2 hx), k.dpl hl hv, k.sh1 own, k.shL ys, ?_⟩
      have e : ((ys.map k.enc).any fun z => PyData.eqv z (k.enc own)) = decide (Rel far own) := by
        rw [k.any]
        exact decide_eq_decide.mpr (hys own)
      rw [e]
      exact q2 _ (Same.rf _)
    refine ⟨D2, _, rfl, .inl (.inl hD2), _, rfl, ?_⟩
    by_cases hfree : ∀ far ∈ RR, ¬ Rel far own
    · have e : (RR.map (fun far => decide (Rel far own))).any id = false := any_map_false fun far hf => decide_eq_false (hfree far hf)
      exact iteT (by rw [e]; rfl) ⟨x, rfl, q1 x H6 own s6 (if_pos hfree) (k.mono _ _ _ _ (Same.ts (Same.trans s' s6)) hx)⟩
    · have e : (RR.map (fun far => decide (Rel far own))).any id = true := by
        rw [List.any_eq_true]
        obtain ⟨far, h⟩ := Classical.not_forall.mp hfree
        obtain ⟨hf, h⟩ := Classical.not_imp.mp h
        exact ⟨true, List.mem_map.mpr ⟨far, hf, decide_eq_true (Classical.not_not.mp h)⟩, rfl⟩
      exact iteF (by rw [e]; rfl) (q0 (if_neg hfree) H6 s6)
  have hal : acc.length = (RR.filterMap (fun own => if (∀ far ∈ RR, ¬ Rel far own) then some own else none)).length := Paired.len hacc
  refine ⟨.ref fr, rfl, fr, acc, rfl, .inl (.inl (.inl hfree)), rfl, _, rfl, ?_⟩
  cases hfm : RR.filterMap (fun own => if (∀ far ∈ RR, ¬ Rel far own) then some own else none) with
  | nil =>
    rw [hfm] at hal
    refine iteT (by rw [hal]; exact decide_eq_true rfl) ?_
    refine qn _ (Same.trans s4 s5) ⟨RR, hz, hxs, fun own ho => ?_⟩
    have := List.filterMap_eq_nil_iff.mp hfm own ho
    by_cases h : ∀ far ∈ RR, ¬ Rel far own
    · rw [if_pos h] at this; cases this
    · obtain ⟨far, h⟩ := Classical.not_forall.mp h
      obtain ⟨hf, h⟩ := Classical.not_imp.mp h
      exact ⟨far, hf, Classical.not_not.mp h⟩
  | cons own more =>
    rw [hfm] at hal hacc
    refine iteF (by rw [hal]; refine decide_eq_false fun h => ?_; injection h with h; simp at h; omega) ?_
    have hom : own ∈ RR.filterMap (fun own => if (∀ far ∈ RR, ¬ Rel far own) then some own else none) := by rw [hfm]; simp
    obtain ⟨own', ho1, ho2⟩ := List.mem_filterMap.mp hom
    have hself : own' = own ∧ ∀ far ∈ RR, ¬ Rel far own' := by
      by_cases hf : ∀ far ∈ RR, ¬ Rel far own'
      · rw [if_pos hf] at ho2
        exact ⟨Option.some.inj ho2, hf⟩
      · rw [if_neg hf] at ho2
        cases ho2
    obtain ⟨rfl, hfr'⟩ := hself
    have hacc0 := hacc
    cases hacc with
    | cons hv0 htl =>
    rename_i v0 vtl
    have hfa5 := s5 _ _ hfa
    have hra5 := s5 _ _ hra
    have s45 := Same.trans s4 s5
    have hfs5 := k.mv (Same.ts s5) hfs
    have hrs5 := k.mv (Same.ts s5) hrs
    have nfrH : H fr = none := same_none s4 nfr
    have hfaf : fa ≠ fr := fun h => by rw [← h, hfa] at nfr; cases nfr
    have hraf : ra ≠ fr := fun h => by rw [← h, hra] at nfr; cases nfr
    refine ⟨.ref fa, rfl, tyL hfa5, .ref fr, rfl, fr, _, 0, v0, rfl, rfl, .inl (.inl hfree), atI_nat (j := 0) rfl, fa, fs, v0, rfl, rfl, hfa5, small1000 (by omega), ?_⟩
    have t6 : TSame H5 (L2.upd H5 fa (.lst (fs ++ [v0]))) := .lst hfa5
    have s6 : Same H (L2.upd H5 fa (.lst (fs ++ [v0]))) := Same.put s45 nfa
    have hfa6 : (L2.upd H5 fa (.lst (fs ++ [v0]))) fa = some (.lst (fs ++ [v0])) := upd_same
    have hra6 : (L2.upd H5 fa (.lst (fs ++ [v0]))) ra = some (.lst rs) := by rw [upd_ne (Ne.symm hfr)]; exact hra5
    have hfree6 : (L2.upd H5 fa (.lst (fs ++ [v0]))) fr = some (.lst (v0 :: vtl)) := by rw [upd_ne (Ne.symm hfaf)]; exact hfree
    generalize (L2.upd H5 fa (.lst (fs ++ [v0]))) = H6 at t6 s6 hfa6 hra6 hfree6 ⊢
    have hv6 := k.mono _ _ _ _ t6 hv0
    have hfs6 := Paired.snoc (k.mv t6 hfs5) hv6
    have hrs6 := k.mv t6 hrs5
    obtain ⟨j, hj1, hj2⟩ := k.place ho1
    refine ⟨.ref ra, rfl, tyL hra6, .ref fr, rfl, fr, _, 0, v0, rfl, rfl, .inl (.inl hfree6), atI_nat (j := 0) rfl, ra, v0, k.enc own', rs, RR.map k.enc, j, rfl, rfl, hra6, k.dps hrs6, k.dp _ _ _ hv6, k.plA RR, k.pl own', k.de own', hj1, ?_⟩
    have t7 : TSame H6 (L2.upd H6 ra (.lst (rs.eraseIdx j))) := .lst hra6
    have hlen : (RR.erase own').length = RR.length - 1 := List.length_erase_of_mem ho1
    refine ⟨_, ?_, FF ++ [own'], RR.erase own', fs ++ [v0], rs.eraseIdx j, _, _, _, rfl, Same.put s6 nraH, by rw [upd_ne hfr]; exact hfa6, upd_same, k.mv t7 hfs6, hj2 ▸ k.mv t7 (Paired.eraseIx j hrs6), ?_, ?_, ?_, rfl⟩
    · omega
    · refine List.Perm.trans ?_ hpm
      rw [List.append_assoc]
      exact List.Perm.append_left FF (List.perm_cons_erase ho1).symm
    · rw [List.pairwise_append]
      refine ⟨hpw, List.pairwise_singleton _ _, fun a ha b hb => ?_⟩
      rw [List.mem_singleton.mp hb]
      exact hcr a ha own' ho1
    · intro a ha b hb
      have hb' := List.mem_of_mem_erase hb
      rcases List.mem_append.mp ha with ha | ha
      · exact hcr a ha b hb'
      · rw [List.mem_singleton.mp ha]
        exact hfr' b hb'
end
end BC
namespace BC
open PySem PySem.Spec PyProof.Rows L2 BX
theorem DLs.bh {K : PySem.W.Frag} {H0 H : Hp} {d : Addr} {R : Run} {Rel : En → En → Prop} (h : DLs H0 H d R Rel) (hn : (ends R).Nodup) (hl : (ends R).length ≤ 1000) : Bh (kEnd K) H d (ends R) Rel := by
  obtain ⟨s, _, la, fx, hd, nl, hlen, hf⟩ := h
  refine ⟨fun H' s' v x hv hx => ?_, fun H' Q s' q => .inl ⟨_, .inl (s' _ _ hd), fun bs hbs => ?_⟩⟩
  · obtain ⟨vs, h1, h2⟩ := (nl.same s').at_ x hx
    obtain ⟨b, rfl, hb⟩ := hv
    exact ⟨la x, vs, fx x, dgetR hn hx (.inl (s' _ _ hd)) hb, h1, h2, hf x hx⟩
  · refine (kEnd K).sort (keys_of hbs (dictOf_fst _ _)) hl fun vs' ys p hpm _ hys np => q vs' ys p hpm hys np
theorem pw_drop {α : Type} {P : α → α → Prop} {l : List α} (h : l.Pairwise P) {i : Nat} {x b : α} (hx : l[i]? = some x) (hb : b ∈ l.drop (i + 1)) : P x b := by
  rw [cut_at hx, List.pairwise_append] at h
  exact (List.pairwise_cons.mp h.2.1).1 b hb
theorem sum_le {α : Type} (f : α → Nat) (b : Nat) (h : ∀ x, f x ≤ b) : ∀ l : List α, (l.map f).sum ≤ l.length * b
  | [] => by simp
  | x :: r => by
    have := sum_le f b h r
    have := h x
    rw [List.map_cons, List.sum_cons, List.length_cons, Nat.succ_mul]
    omega
theorem Knd.eqA {α : Type} [DecidableEq α] {K : PySem.W.Frag} (k : Knd α K) : ∀ xs : List α, PyData.eqvAll (xs.map k.enc) (xs.map k.enc) = true
  | [] => by simp [PyData.eqvAll]
  | x :: r => by
    rw [List.map_cons]
    simp only [PyData.eqvAll, k.eqA r, k.eqv, Bool.and_true]
    simp
theorem Knd.eqL {α : Type} [DecidableEq α] {K : PySem.W.Frag} (k : Knd α K) (xs : List α) : PyData.eqv (.list (xs.map k.enc)) (.list (xs.map k.enc)) = true := by
  simp only [PyData.eqv]
  exact k.eqA xs
theorem slA_from' {K : PySem.W.Frag} {H : Hp} {a : Addr} {us : List V} {Q : VK} {k : Int} {n : Nat} (hk : k = (n : Nat)) (ha : H a = some (.tup us)) (h : ∀ b H', Same H H' → H' b = some (.tup (us.drop n)) → Q (.ref b) H') : rSlA K (.ref a) (some k) none H Q := by
  subst hk
  exact slA_from ha h
section
variable {P : Program} {w : World} {K : PySem.W.Frag} {mg : Str → Option Value} {base : Heap} {f : Addr} {fd : FuncData}
theorem sc_fits_row : FnScope ["some", "behind", "thing", "far", "place", "own"] ["some", "behind", "thing"] (defScope s_fits_row) := ⟨rfl, rfl, rfl, by decide +kernel, rfl, by decide +kernel, by decide +kernel⟩
-- slots: 0:some 1:behind 2:thing 3:far 4:place 5:own
def spFits {α : Type} [DecidableEq α] {K : PySem.W.Frag} (k : Knd α K) : Sp := fun vs H Q _ => ∃ v1 d v2 some thing xs Rel, vs = [v1, .ref d, v2] ∧ TupOf (k.P H) H v1 some ∧ TupOf (k.P H) H v2 thing ∧ Bh k H d xs Rel ∧ thing.Perm some ∧ (∀ x ∈ thing, x ∈ xs) ∧ thing.length ≤ 100 ∧ thing.Pairwise (fun a b => ¬ Rel b a) ∧
  ∀ H', Same H H' → Q (.bl true) H'
theorem cal_fits_row {α : Type} [DecidableEq α] (k : Knd α K) (F : FnP K "fits_row" s_fits_row f fd) (hm : mg "fits_row" = some (.ref f)) (T : Txt K mg) {kk : Nat} : C8.Cal P w K mg base (kk + 1) "fits_row" (spFits k) [] := by
  refine cal_of F hm sc_fits_row (fun kV doc pm an cdv ct us hl => match us, hl with | [_, _, _], _ => rfl) (fun vs H Q E h => ?_) (fun cdv A outer s H vs Q E hr h => ?_)
  · obtain ⟨_, _, _, _, _, _, _, rfl, _⟩ := h; rfl
  obtain ⟨_, d, _, so, th, xs, Rel, rfl, ⟨sa, ss, rfl, hsa, hss⟩, ⟨ta, ts, rfl, hta, hts⟩, bh, hpm, hsub, hlen, hpw, q⟩ := h
  have nd := sc_fits_row.nd
  have hu1 := Nat.lt_of_le_of_lt (Nat.add_le_add_left (show 1 ≤ 64 by decide) _) hr.units
  have hu64 := hr.units
  have hu65 := room65 hr
  refine ⟨_, (pss_cons (ps_if (pt_cmpR (op_neD hu64) (pe_callB (cr_sortSq k.enc hu64) (by rfl) T.n_sorted (by decide +kernel) (pa_cons (pv 2) pa_nil)) (pe_callB (cr_sortSq k.enc hu64) (by rfl) T.n_sorted (by decide +kernel) (pa_cons (pv 0) pa_nil)) (nomark _)) (pss_one (ps_ret pe_bl)) pss_nil)
    (pss_one (ps_ret (pe_not (pe_callB (cr_any rfl) (by rfl) T.n_any (by decide +kernel) (pa_cons (pe_lc2 (own := [("place", 4), ("own", 5), ("far", 3)]) (vs1 := [3]) (g := (gTup K 2 (gCons (gName 4) (gCons (gName 5) gNil)))) (tt := tYes) (g1 := (gName 3)) (tt1 := tYes) rfl nd (pi_enumT (by rfl) T.n_enumerate (pa_cons (pv 2) pa_nil)) (blkOk_by (by rfl)) (by decide) (fun _ _ _ _ _ => (pg_tup rfl (pgs_cons (pg_name (i := 4) nd rfl (Or.inl rfl)) (pgs_cons (pg_name (i := 5) nd rfl (Or.inl rfl)) pgs_nil)))) (fun _ _ _ _ _ => pts_nil) (fun _ _ _ _ _ => (pi_tupK (K := K) rfl (pe_slice (sl_tupAK (K := K) rfl) (pv 2) (po_some (pe_op op_add (pv 4) pe_int)) po_none))) (fun _ _ _ _ _ => (pg_name (i := 3) nd rfl (Or.inl rfl))) (fun _ _ _ _ _ => pts_nil) (fun _ _ _ _ _ => (pe_cmpR (op_inDK (K := K) rfl hu65) (pv 5) (pe_dget hu1 (pv 1) (pv 3) (fun _ _ => rfl)) (by rfl)))) pa_nil)))))), ?_⟩
  have htl : ts.length = th.length := Paired.len hts
  refine ⟨.ref ta, rfl, k.sortSq (.inr (SqT.of hta)) hts (by omega) fun vs1 ys1 p1 hpm1 hpw1 hys1 np1 => ?_⟩
  have s1 : Same H (L2.upd H p1 (.lst vs1)) := Same.new np1
  have hp1 : (L2.upd H p1 (.lst vs1)) p1 = some (.lst vs1) := upd_same
  generalize (L2.upd H p1 (.lst vs1)) = H1 at s1 hp1 ⊢
  have hys1 := k.mv (Same.ts s1) hys1
  refine ⟨.ref sa, rfl, k.sortSq (.inr (SqT.of (s1 _ _ hsa))) (k.mv (Same.ts s1) hss) (by rw [← hpm.length_eq]; omega) fun vs2 ys2 p2 hpm2 hpw2 hys2 np2 => ?_⟩
  have s2 : Same H1 (L2.upd H1 p2 (.lst vs2)) := Same.new np2
  have hp2 : (L2.upd H1 p2 (.lst vs2)) p2 = some (.lst vs2) := upd_same
  generalize (L2.upd H1 p2 (.lst vs2)) = H2 at s2 hp2 ⊢
  have hys2 := k.mv (Same.ts s2) hys2
  have ey : ys1 = ys2 := perm_sorted (fun a b h1 h2 => k.anti a b h1 h2) (hpm1.trans (hpm.trans hpm2.symm)) hpw1 hpw2
  subst ey
  have s02 := Same.trans s1 s2
  have heq := k.eqL ys1
  refine ⟨_, _, k.dpl (s2 _ _ hp1) (k.mv (Same.ts s2) hys1), k.dpl hp2 hys2, k.shL _, k.shL _, _, rfl, ?_⟩
  refine iteF (by rw [heq]; rfl) ?_
  -- the pairs
  have hta2 := s02 _ _ hta
  have hts2 := k.mv (Same.ts s02) hts
  refine ⟨.ref ta, rfl, ta, ts, rfl, SqT.of hta2, fun D nD => ?_⟩
  have hzl : th.zipIdx.length = th.length := List.length_zipIdx
  refine lc2_fm wp_enumT th.zipIdx (fun p => th.drop (p.2 + 1)) (fun p far => some false) (fun _ v b => v = .bl b) (fun _ _ _ _ _ h => h) (by rw [hzl, htl]) (fun i => ?_) nD (fun H' s' => SqT.of (s' _ _ hta2)) (fun i e x H' Rr he s' hi q1 => ?_) fun H3 acc s3 hD hacc => ?_
  · have h1 := sum_le (fun p : α × Nat => (th.drop (p.2 + 1)).length) 100 (fun p => by rw [List.length_drop]; omega) (th.zipIdx.take i)
    have h2 : (th.zipIdx.take i).length ≤ 100 := by rw [List.length_take]; omega
    have h3 : (th.zipIdx.take i).length * 100 ≤ 100 * 100 := Nat.mul_le_mul_right _ h2
    omega
  · obtain ⟨Tz, v1, rfl, hT, hv1⟩ := hi
    rw [List.getElem?_zipIdx] at he
    obtain ⟨x0, hx0, rfl⟩ := Option.map_eq_some_iff.mp he
    obtain ⟨x1, hx1, hv⟩ := Paired.at hts2 hv1
    rw [hx0] at hx1
    cases hx1
    refine ⟨Tz, _, rfl, SqT.of hT, rfl, _, _, rfl, _, _, rfl, rfl, rfl, .ref ta, rfl, .int (i : Nat), rfl, (i : Nat), 1, rfl, rfl, _, rfl, ?_⟩
    delta tNoPart
    refine slA_from' (n := i + 1) (by omega) (s' _ _ hta2) fun b H4 s4 hb => ?_
    refine ⟨b, rfl, ⟨_, SqT.of hb⟩, ?_⟩
    refine q1 _ _ _ _ _ H4 s4 (by rw [List.length_drop, List.length_drop, htl]; show _ = th.length - (0 + i + 1); omega) wp_tup (fun H'' _ t => SqT.of (t _ _ hb)) fun j far y H5 K1 K0 hfar s5 t5 hj q2 q3 => ?_
    rw [List.getElem?_drop] at hj
    obtain ⟨far', hf', hy⟩ := Paired.at hts2 hj
    have hfar' : (th.drop (0 + i + 1))[j]? = some far := hfar
    rw [List.getElem?_drop, Nat.zero_add, hf'] at hfar'
    cases hfar'
    have hfm : far ∈ th.drop (i + 1) := by
      have := List.mem_of_getElem? hfar
      rwa [Nat.zero_add] at this
    have s25 := Same.trans s02 s5
    have hy5 := k.mono _ _ _ _ (Same.ts s5) hy
    have hv5 := k.mono _ _ _ _ (Same.ts s5) hv
    obtain ⟨l, vs, ys, hg, hl, hvs, hys⟩ := bh.get _ s25 y far hy5 (hsub far (List.mem_of_mem_drop hfm))
    refine ⟨rfl, v1, rfl, .ref d, rfl, y, rfl, d, _, rfl, hg, k.enc x0, _, k.dp _ _ _ hv5, k.dpl hl hvs, k.sh1 _, k.shL _, ?_⟩
    rw [k.any, decide_eq_false fun h => pw_drop hpw hx0 hfm ((hys x0).mp h)]
    exact q2 _ _ false (Same.rf _) rfl rfl
  refine ⟨D, _, rfl, .inl (.inl (by rw [hD, pair_bl hacc])), _, rfl, ?_⟩
  have e : (th.zipIdx.flatMap fun x => (th.drop (x.2 + 1)).filterMap fun far => some false).any id = false := by
    rw [List.any_eq_false]
    intro b hb
    obtain ⟨p, _, h⟩ := List.mem_flatMap.mp hb
    obtain ⟨_, _, h⟩ := List.mem_filterMap.mp h
    cases h
    decide
  rw [e]
  exact q _ (Same.trans s02 s3)
theorem sc_time_row : FnScope ["run", "behind"] ["run"] (defScope s_time_row) := ⟨rfl, rfl, rfl, by decide +kernel, rfl, by decide +kernel, by decide +kernel⟩
-- slots: 0:run 1:behind
def spTimeRow : Sp := fun vs H Q _ => ∃ v R, vs = [v] ∧ RunAt H v R ∧ Fine R ∧ ∀ v' es H', Same H H' → es.Perm (ends R) → es.Pairwise (fun a b => ¬ Reach R b a) → RowAt H' v' es → Q v' H'
theorem cal_time_row (F : FnP K "time_row" s_time_row f fd) (hm : mg "time_row" = some (.ref f)) (T : Txt K mg) (c_behind_all : C8.Cal P w K mg base 7 "behind_all" spBehind []) (c_least_row : C8.Cal P w K mg base 1 "least_row" (spLeast (kEnd K)) []) : C8.Cal P w K mg base 8 "time_row" spTimeRow [] := by
  refine cal_of F hm sc_time_row (fun kV doc pm an cdv ct us hl => match us, hl with | [_], _ => rfl) (fun vs H Q E h => ?_) (fun cdv A outer s H vs Q E hr h => ?_)
  · obtain ⟨_, _, rfl, _⟩ := h; rfl
  obtain ⟨v, R, rfl, hR, fn, q⟩ := h
  have nd := sc_time_row.nd
  have hu1 := Nat.lt_of_le_of_lt (Nat.add_le_add_left (show 1 ≤ 64 by decide) _) hr.units
  have hu64 := hr.units
  have hu65 := room65 hr
  refine ⟨_, (pss_cons (ps_set (i := 1) nd rfl (Or.inl rfl) (C8.pe_c c_behind_all hr (by omega) (by rfl) (pa_cons (pv 0) pa_nil)))
    (pss_one (ps_ret (C8.pe_c c_least_row hr (by omega) (by rfl) (pa_cons (pv 1) (pa_cons (pv 1) pa_nil)))))), ?_⟩
  have hmany := fn.many
  refine ⟨v, rfl, v, R, rfl, hR, fn, fun d H1 hdl => ⟨.ref d, rfl, .ref d, rfl, d, ends R, Reach R, rfl, hdl.bh fn.ok.nd (by omega), by omega, fun H' _ hb => ?_, fun v' ys H' s' hpm hpw hT => q v' ys H' (Same.trans hdl.1 s') hpm hpw hT⟩⟩
  obtain ⟨S, h1, _, h3⟩ := hb
  exact (stuck_reach fn.ok h1 h3).elim
theorem sc_is_time_row : FnScope ["run", "thing", "own"] ["run", "thing"] (defScope s_is_time_row) := ⟨rfl, rfl, rfl, by decide +kernel, rfl, by decide +kernel, by decide +kernel⟩
-- slots: 0:run 1:thing 2:own
def spIsTimeRow : Sp := fun vs H Q _ => ∃ v R v2 es, vs = [v, v2] ∧ RunAt H v R ∧ Fine R ∧ RowAt H v2 es ∧ es.Perm (ends R) ∧ es.Pairwise (fun a b => ¬ Reach R b a) ∧ ∀ H', Same H H' → Q (.bl true) H'
theorem cal_is_time_row (F : FnP K "is_time_row" s_is_time_row f fd) (hm : mg "is_time_row" = some (.ref f)) (T : Txt K mg) (c_is_end : C8.Cal P w K mg base 2 "is_end" spIsEnd []) (c_ends_in : C8.Cal P w K mg base 6 "ends_in" spEndsIn []) (c_behind_all : C8.Cal P w K mg base 7 "behind_all" spBehind []) (c_fits_row : C8.Cal P w K mg base 1 "fits_row" (spFits (kEnd K)) []) : C8.Cal P w K mg base 8 "is_time_row" spIsTimeRow [] := by
  refine cal_of F hm sc_is_time_row (fun kV doc pm an cdv ct us hl => match us, hl with | [_, _], _ => rfl) (fun vs H Q E h => ?_) (fun cdv A outer s H vs Q E hr h => ?_)
  · obtain ⟨_, _, _, _, rfl, _⟩ := h; rfl
  obtain ⟨v, R, v2, es, rfl, hR, fn, hE, hpm, hpw, q⟩ := h
  have nd := sc_is_time_row.nd
  have hu1 := Nat.lt_of_le_of_lt (Nat.add_le_add_left (show 1 ≤ 64 by decide) _) hr.units
  have hu64 := hr.units
  have hu65 := room65 hr
  refine ⟨_, (pss_cons (ps_if (PW.pt (pw_or (pt_not (pt_val (pe_callB call_isi (by rfl) T.n_isinstance (by decide +kernel) (pa_cons (pv 1) (pa_cons (pe_bltn (v := .ty "tuple") (by rfl) T.n_tuple (by decide +kernel) rfl) pa_nil))))) (pw_or1 (pt_not (pt_val (pe_callB (cr_all rfl) (by rfl) T.n_all (by decide +kernel) (pa_cons (pe_lc (own := [("own", 2)]) (g := (gName 2)) (tt := tYes) rfl nd (pi_tup (pv 1)) (blkOk_by (by rfl)) (fun _ _ _ _ _ => (pg_name (i := 2) nd rfl (Or.inl rfl))) (fun _ _ _ _ _ => pts_nil) (fun _ _ _ _ _ => (C8.pe_c c_is_end hr (by omega) (by rfl) (pa_cons (pv 2) pa_nil)))) pa_nil))))))) (pss_one (ps_ret pe_bl)) pss_nil)
    (pss_one (ps_ret (C8.pe_c c_fits_row hr (by omega) (by rfl) (pa_cons (C8.pe_c c_ends_in hr (by omega) (by rfl) (pa_cons (pv 0) pa_nil)) (pa_cons (C8.pe_c c_behind_all hr (by omega) (by rfl) (pa_cons (pv 0) pa_nil)) (pa_cons (pv 1) pa_nil))))))), ?_⟩
  have hmany := fn.many
  have hE0 := hE
  obtain ⟨a, us, rfl, ha, hus⟩ := hE
  have hul : us.length = es.length := Paired.len hus
  have hel : es.length = (ends R).length := hpm.length_eq
  refine ⟨.ref a, rfl, _, _, _, _, true, rfl, .ty _, tx_tup ha, kit_ty (by decide +kernel), true, rfl, .ref a, rfl, a, rfl, ⟨us, SqT.of ha⟩, fun D1 nD1 => ?_⟩
  refine lc_bool wp_tup es (fun _ => true) hul (by omega) nD1 (fun H' s' => SqT.of (s' _ _ ha)) (fun i x0 x H' K1 hx s' hi q1 => ?_) fun H1 s1 hD1 => ?_
  · obtain ⟨e, he, hxe⟩ := Paired.at hus hi
    exact ⟨rfl, x, rfl, x, e, rfl, EndAt.mono (Same.ts s') hxe, fn.ok.nn e (hpm.subset (List.mem_of_getElem? he)), q1 _ (Same.rf _)⟩
  refine ⟨D1, _, rfl, .inl (.inl hD1), ?_⟩
  rw [all_map_true (fun _ _ => rfl)]
  refine ⟨true, rfl, ?_⟩
  refine ⟨v, rfl, v, R, rfl, RunAt.mono (Same.ts s1) hR, fn, fun v' es' H2 s2 hpm2 hrow => ?_⟩
  have s02 := Same.trans s1 s2
  refine ⟨v, rfl, v, R, rfl, RunAt.mono (Same.ts s02) hR, fn, fun d H3 hdl => ?_⟩
  have s3 := hdl.1
  refine ⟨.ref a, rfl, v', d, .ref a, es', es, ends R, Reach R, rfl, RowAt.mono (Same.ts s3) hrow, RowAt.mono (Same.ts (Same.trans s02 s3)) hE0, hdl.bh fn.ok.nd (by omega), hpm.trans hpm2.symm, fun x hx => hpm.subset hx, by omega, hpw, fun H' s' => q H' (Same.trans (Same.trans s02 s3) s')⟩
end
end BC
namespace BC
open PySem PySem.Spec PyProof.Rows L2 BX
theorem perm_mem {α : Type} [DecidableEq α] : ∀ {l m : List α}, l.Nodup → m.Nodup → (∀ x, x ∈ l ↔ x ∈ m) → l.Perm m
  | [], m, _, _, h => by
    cases m with
    | nil => exact .nil
    | cons a r => exact absurd ((h a).mpr (by simp)) (by simp)
  | a :: r, m, h1, h2, h => by
    rw [List.nodup_cons] at h1
    have ha : a ∈ m := (h a).mp (by simp)
    have ih := perm_mem (l := r) (m := m.erase a) h1.2 (h2.erase a) fun x => by
      constructor
      · intro hx
        rw [List.mem_erase_of_ne (fun e : x = a => h1.1 (by rw [← e]; exact hx))]
        exact (h x).mp (List.mem_cons_of_mem _ hx)
      · intro hx
        have hxa : x ≠ a := fun e => by
          rw [e] at hx
          exact (List.Nodup.not_mem_erase h2) hx
        rcases List.mem_cons.mp ((h x).mpr (List.mem_of_mem_erase hx)) with e | e
        · exact absurd e hxa
        · exact e
    exact (List.Perm.cons a ih).trans (List.perm_cons_erase ha).symm
theorem IsLetters.perm {R : Run} {l m : List Int} (h1 : IsLetters R l) (h2 : IsLetters R m) : l.Perm m := perm_mem h1.nd h2.nd fun x => (h1.mem x).trans (h2.mem x).symm
/-- a dict of lists of whole numbers -/
def dictI (ls : List Int) (la : Int → Addr) : List (Key × V) := ls.map fun n => (.inl n, V.ref (la n))
theorem dictI_fst (ls : List Int) (la : Int → Addr) : (dictI ls la).map (·.1) = ls.map (Sum.inl : Int → Key) := by
  unfold dictI
  rw [List.map_map]
  rfl
theorem nodup_inl {ls : List Int} (h : ls.Nodup) : (ls.map (Sum.inl : Int → Key)).Nodup := by
  induction ls with
  | nil => exact .nil
  | cons e r ih =>
    rw [List.nodup_cons] at h
    rw [List.map_cons, List.nodup_cons]
    refine ⟨fun hm => ?_, ih h.2⟩
    obtain ⟨x, hx, ex⟩ := List.mem_map.mp hm
    exact h.1 (Sum.inl.inj ex ▸ hx)
theorem dictI_val {ls : List Int} {la : Int → Addr} (hn : ls.Nodup) {n : Int} (h : n ∈ ls) : valV (dictI ls la) (.inl n) = some (.ref (la n)) :=
  valV_some (by rw [dictI_fst]; exact nodup_inl hn) (List.mem_map.mpr ⟨n, h, rfl⟩)
theorem dictI_app {ls : List Int} {la : Int → Addr} {n : Int} {p : Addr} (h : n ∉ ls) : dictI (ls ++ [n]) (fun x => if x = n then p else la x) = dictI ls la ++ [(.inl n, V.ref p)] := by
  unfold dictI
  rw [List.map_append]
  congr 1
  · refine List.map_congr_left fun x hx => ?_
    simp only [if_neg fun e : x = n => h (e ▸ hx)]
  · simp
/-- the lists in it -/
def LsI (H : Hp) (ls : List Int) (la : Int → Addr) (fn : Int → List Int) (Rel : Int → Int → Prop) : Prop := ∀ n ∈ ls, H (la n) = some (.lst ((fn n).map V.int)) ∧ (fn n).length ≤ 40 ∧ ∀ m, m ∈ fn n ↔ Rel n m
theorem LsI.same {H H' : Hp} {ls : List Int} {la : Int → Addr} {fn : Int → List Int} {Rel : Int → Int → Prop} (h : LsI H ls la fn Rel) (s : Same H H') : LsI H' ls la fn Rel := fun n hn => ⟨s _ _ (h n hn).1, (h n hn).2⟩
theorem dgetI {H : Hp} {d : Addr} {ls : List Int} {la : Int → Addr} {n : Int} (hn : ls.Nodup) (h : n ∈ ls) (hd : Rd H d (.dK (dictI ls la))) : DGet H d (.int n) (some (.ref (la n))) :=
  .inl ⟨_, .inl n, hd, rfl, (dictI_val hn h).symm⟩
def DIs (H0 H : Hp) (d : Addr) (ls : List Int) (Rel : Int → Int → Prop) : Prop := Same H0 H ∧ H0 d = none ∧ ∃ la fn, H d = some (.dK (dictI ls la)) ∧ LsI H ls la fn Rel
theorem pair_ints {ns : List Int} : Paired (fun (v : V) (n : Int) => v = .int n) (ns.map V.int) ns := Paired.ints.mpr rfl
theorem DIs.bh {K : PySem.W.Frag} {H0 H : Hp} {d : Addr} {ls : List Int} {Rel : Int → Int → Prop} (h : DIs H0 H d ls Rel) (hn : ls.Nodup) (hl : ls.length ≤ 1000) : Bh (kInt K) H d ls Rel := by
  obtain ⟨s, _, la, fn, hd, hf⟩ := h
  refine ⟨fun H' s' v x hv hx => ?_, fun H' Q s' q => .inr ⟨_, .inl (s' _ _ hd), ?_⟩⟩
  · have hv : v = .int x := hv
    subst hv
    obtain ⟨h1, _, h3⟩ := hf x hx
    exact ⟨la x, _, fn x, dgetI hn hx (.inl (s' _ _ hd)), s' _ _ h1, pair_ints, h3⟩
  · have e : (dictI ls la).map (fun kv => kV kv.1) = ls.map V.int := by
      unfold dictI
      rw [List.map_map]
      rfl
    rw [e]
    exact (kInt K).sort (H := H') pair_ints hl fun vs' ys p hpm _ hys np => q vs' ys p hpm hys np
def PairAt (H : Hp) (v : V) (p : Int × Int) : Prop := ∃ a, v = .ref a ∧ H a = some (.tup [.int p.1, .int p.2])
theorem PairAt.mono {H H' : Hp} {v : V} {p : Int × Int} (t : TSame H H') (h : PairAt H v p) : PairAt H' v p := let ⟨a, h1, h2⟩ := h; ⟨a, h1, t _ _ h2⟩
section
variable {P : Program} {w : World} {K : PySem.W.Frag} {mg : Str → Option Value} {base : Heap} {f : Addr} {fd : FuncData}
theorem sc_overtaken : FnScope ["run", "pairs", "houses", "behind", "letters", "one", "two"] ["run"] (defScope s_overtaken) := ⟨rfl, rfl, rfl, by decide +kernel, rfl, by decide +kernel, by decide +kernel⟩
-- slots: 0:run 1:pairs 2:houses 3:behind 4:letters 5:one 6:two
def spOver : Sp := fun vs H Q _ => ∃ v R, vs = [v] ∧ RunAt H v R ∧ Fine R ∧ ∀ l ps prs H', Same H H' → H l = none → H' l = some (.lst ps) → Paired (PairAt H') ps prs → prs.length ≤ 1600 → (∀ p, p ∈ prs ↔ Over R p.1 p.2) → Q (.ref l) H'
open Classical in
theorem cal_overtaken (F : FnP K "overtaken" s_overtaken f fd) (hm : mg "overtaken" = some (.ref f)) (T : Txt K mg) (c_houses_of : C8.Cal P w K mg base 5 "houses_of" spHouses []) (c_behind_all : C8.Cal P w K mg base 7 "behind_all" spBehind []) (c_letters_in : C8.Cal P w K mg base 7 "letters_in" spLetters []) : C8.Cal P w K mg base 8 "overtaken" spOver [] := by
  refine cal_of F hm sc_overtaken (fun kV doc pm an cdv ct us hl => match us, hl with | [_], _ => rfl) (fun vs H Q E h => ?_) (fun cdv A outer s H vs Q E hr h => ?_)
  · obtain ⟨_, _, rfl, _⟩ := h; rfl
  obtain ⟨v, R, rfl, hR, fn, q⟩ := h
  have nd := sc_overtaken.nd
  have hu1 := Nat.lt_of_le_of_lt (Nat.add_le_add_left (show 1 ≤ 64 by decide) _) hr.units
  have hu64 := hr.units
  have hu65 := room65 hr
  refine ⟨_, (pss_cons (ps_asg (pe_tup (pa_cons (C8.pe_c c_houses_of hr (by omega) (by rfl) (pa_cons (pv 0) pa_nil)) (pa_cons (C8.pe_c c_behind_all hr (by omega) (by rfl) (pa_cons (pv 0) pa_nil)) (pa_cons (C8.pe_c c_letters_in hr (by omega) (by rfl) (pa_cons (pv 0) pa_nil)) pa_nil)))) (pg_tup rfl (pgs_cons (pg_name (i := 2) nd rfl (Or.inr rfl)) (pgs_cons (pg_name (i := 3) nd rfl (Or.inr rfl)) (pgs_cons (pg_name (i := 4) nd rfl (Or.inr rfl)) pgs_nil)))))
    (pss_cons (ps_setLc2 (i := 1) (own := [("one", 5), ("two", 6)]) (vs1 := [6]) (g := (gName 5)) (tt := tYes) (g1 := (gName 6)) (tt1 := _) rfl nd rfl rfl (sw_true rfl rfl rfl (by decide +kernel)) (pi_tup (pv 4)) (blkOk_by (by rfl)) (by decide) (fun _ _ _ _ _ => (pg_name (i := 5) nd rfl (Or.inl rfl))) (fun _ _ _ _ _ => pts_nil) (fun _ _ _ _ _ => (pi_tupK (K := K) rfl (pv 4))) (fun _ _ _ _ _ => (pg_name (i := 6) nd rfl (Or.inl rfl))) (fun _ _ _ _ _ => pts_one (pt_cmpR op_eq (pe_dget hu1 (pv 2) (pe_tup (pa_cons (pv 5) (pa_cons pe_str pa_nil))) (fun _ _ => rfl)) (pe_dget hu1 (pv 2) (pe_tup (pa_cons (pv 6) (pa_cons pe_str pa_nil))) (fun _ _ => rfl)) (nomark _))) (fun _ _ _ _ _ => (pe_tup (pa_cons (pv 5) (pa_cons (pv 6) pa_nil)))))
    (pss_one (ps_ret (pe_lc (own := [("one", 5), ("two", 6)]) (g := (gTup K 2 (gCons (gName 5) (gCons (gName 6) gNil)))) (tt := _) rfl nd (pi_list (pv 1)) (blkOk_by (by rfl)) (fun _ _ _ _ _ => (pg_tup rfl (pgs_cons (pg_name (i := 5) nd rfl (Or.inl rfl)) (pgs_cons (pg_name (i := 6) nd rfl (Or.inl rfl)) pgs_nil)))) (fun _ _ _ _ _ => pts_one (PW.pt (pw_and (pt_cmpR (op_inDK (K := K) rfl hu65) (pe_tup (pa_cons (pv 6) (pa_cons pe_str pa_nil))) (pe_dget hu1 (pv 3) (pe_tup (pa_cons (pv 5) (pa_cons pe_str pa_nil))) (fun _ _ => rfl)) (by rfl)) (pw_and1 (pt_cmpR (op_inDK (K := K) rfl hu65) (pe_tup (pa_cons (pv 5) (pa_cons pe_str pa_nil))) (pe_dget hu1 (pv 3) (pe_tup (pa_cons (pv 6) (pa_cons pe_str pa_nil))) (fun _ _ => rfl)) (by rfl)))))) (fun _ _ _ _ _ => (pe_tup (pa_cons (pv 5) (pa_cons (pv 6) pa_nil))))))))), ?_⟩
  have hnd := fn.ok.nd
  refine ⟨v, rfl, v, R, rfl, hR, fn, fun dh H1 s1 _ hdh => ?_⟩
  refine ⟨v, rfl, v, R, rfl, RunAt.mono (Same.ts s1) hR, fn, fun d H2 hdl => ?_⟩
  obtain ⟨s2, _, la, fb, hd, nl, _, hfb⟩ := hdl
  have s02 := Same.trans s1 s2
  refine ⟨v, rfl, v, R, rfl, RunAt.mono (Same.ts s02) hR, fn, fun a ls H3 s3 hls ha => ?_⟩
  refine ⟨(show 3 ≤ sizeLine by decide), fun p np => ?_⟩
  have s4 : Same H3 (L2.upd H3 p (.tup [.ref dh, .ref d, .ref a])) := Same.new np
  have hp4 : (L2.upd H3 p (.tup [.ref dh, .ref d, .ref a])) p = some (.tup [.ref dh, .ref d, .ref a]) := upd_same
  generalize (L2.upd H3 p (.tup [.ref dh, .ref d, .ref a])) = H4 at s4 hp4 ⊢
  refine ⟨p, _, rfl, SqT.of hp4, rfl, .ref dh, [.ref d, .ref a], rfl, .ref d, [.ref a], rfl, .ref a, [], rfl, rfl, ?_⟩
  have s24 := Same.trans s3 s4
  have hdh4 := s24 _ _ (s2 _ _ hdh)
  have hd4 := s24 _ _ hd
  have nl4 := nl.same s24
  have ha4 := s4 _ _ ha
  have s04 := Same.trans s02 s24
  have hll := hls.len
  have hsE : ∀ {n}, n ∈ ls → (n, true) ∈ ends R := fun h => (hls.mem _).mp h
  have hrE : ∀ {n}, n ∈ ls → (n, false) ∈ ends R := fun h => both_of fn.ok (hsE h) false
  -- pairs of one house
  refine ⟨.ref a, rfl, a, rfl, ⟨_, SqT.of ha4⟩, fun D nD => ?_⟩
  refine lc2_fm wp_tup ls (fun _ => ls) (fun one two => if sameRow R (one, false) (two, false) then some (one, two) else none) PairAt (fun _ _ _ _ t h => h.mono t) (by rw [List.length_map]) (fun i => ?_) nD (fun H' s' => SqT.of (s' _ _ ha4)) (fun i one x H' Rr hone s' hi q1 => ?_) fun H5 acc s5 hD hacc => ?_
  · have h1 := sum_le (fun _ : Int => ls.length) 40 (fun _ => hll) (ls.take i)
    have h2 : (ls.take i).length ≤ 40 := by rw [List.length_take]; omega
    have h3 : (ls.take i).length * 40 ≤ 40 * 40 := Nat.mul_le_mul_right _ h2
    omega
  · rw [List.getElem?_map, hone] at hi
    cases hi
    refine ⟨rfl, .ref a, rfl, a, rfl, ⟨_, SqT.of (s' _ _ ha4)⟩, ?_⟩
    refine q1 _ _ _ _ _ H' (Same.rf _) (by rw [List.length_map]) wp_tup (fun H'' _ t => SqT.of (t _ _ (s' _ _ ha4))) fun j two y H6 K1 K0 htwo s6 t6 hj q2 q3 => ?_
    rw [List.getElem?_map, htwo] at hj
    cases hj
    have m1 := List.mem_of_getElem? hone
    have m2 := List.mem_of_getElem? htwo
    obtain ⟨h1, hh1⟩ := house_of_end (hrE m1)
    obtain ⟨h2, hh2⟩ := house_of_end (hrE m2)
    refine ⟨rfl, .ref dh, rfl, .int one, rfl, two_le, fun p7 np7 => ⟨dh, _, rfl, dgetH hnd hh1 (.inl ((Same.new np7) _ _ (s6 _ _ hdh4))) upd_same, ?_⟩⟩
    have s7 : Same H6 (L2.upd H6 p7 (.tup [.int one, .str (Str.ofString "r")])) := Same.new np7
    generalize (L2.upd H6 p7 (.tup [.int one, .str (Str.ofString "r")])) = H7 at s7 ⊢
    refine ⟨.ref dh, rfl, .int two, rfl, two_le, fun p8 np8 => ⟨dh, _, rfl, dgetH hnd hh2 (.inl ((Same.new np8) _ _ (s7 _ _ (s6 _ _ hdh4)))) upd_same, rfl, _, rfl, ?_⟩⟩
    have s8 : Same H7 (L2.upd H7 p8 (.tup [.int two, .str (Str.ofString "r")])) := Same.new np8
    generalize (L2.upd H7 p8 (.tup [.int two, .str (Str.ofString "r")])) = H8 at s8 ⊢
    by_cases hs : sameRow R (one, false) (two, false)
    · have e := (house_row hnd hh1 hh2).mpr hs
      refine iteT (decide_eq_true (by rw [e])) ⟨.int one, rfl, .int two, rfl, two_le, fun p9 np9 => q2 _ _ (one, two) (Same.trans s7 (Same.trans s8 (Same.new np9))) (if_pos hs) ⟨p9, rfl, upd_same⟩⟩
    · have e : h1 ≠ h2 := fun z => hs ((house_row hnd hh1 hh2).mp z)
      exact iteF (decide_eq_false fun z => e (by injection z with z; omega)) (q3 (if_neg hs) _ (Same.trans s7 s8))
  -- those that overtake
  have s45 := s5
  have hdh5 := s5 _ _ hdh4
  have hd5 := s5 _ _ hd4
  have nl5 := nl4.same s5
  have hal : acc.length = (ls.flatMap fun x => ls.filterMap fun two => if sameRow R (x, false) (two, false) then some (x, two) else none).length := Paired.len hacc
  have hal2 : (ls.flatMap fun x => ls.filterMap fun two => if sameRow R (x, false) (two, false) then some (x, two) else none).length ≤ 1600 := by
    rw [List.length_flatMap]
    have h1 := sum_le (fun x : Int => (ls.filterMap fun two => if sameRow R (x, false) (two, false) then some (x, two) else none).length) 40 (fun x => Nat.le_trans (List.length_filterMap_le _ _) hll) ls
    have h3 : ls.length * 40 ≤ 40 * 40 := Nat.mul_le_mul_right _ hll
    omega
  have hmemP : ∀ p, p ∈ (ls.flatMap fun x => ls.filterMap fun two => if sameRow R (x, false) (two, false) then some (x, two) else none) ↔ p.1 ∈ ls ∧ p.2 ∈ ls ∧ sameRow R (p.1, false) (p.2, false) := by
    intro p
    rw [List.mem_flatMap]
    constructor
    · rintro ⟨x, hx, h⟩
      obtain ⟨y, hy, h⟩ := List.mem_filterMap.mp h
      by_cases hs : sameRow R (x, false) (y, false)
      · rw [if_pos hs] at h
        cases h
        exact ⟨hx, hy, hs⟩
      · rw [if_neg hs] at h
        cases h
    · rintro ⟨h1, h2, h3⟩
      exact ⟨p.1, h1, List.mem_filterMap.mpr ⟨p.2, h2, if_pos h3⟩⟩
  generalize (ls.flatMap fun x => ls.filterMap fun two => if sameRow R (x, false) (two, false) then some (x, two) else none) = prs at hacc hal hal2 hmemP
  refine ⟨.ref D, rfl, D, rfl, ⟨acc, .inl (.inl hD)⟩, fun D2 nD2 => ?_⟩
  refine lc_fm wp_list prs (fun p => if Reach R (p.1, true) (p.2, true) ∧ Reach R (p.2, false) (p.1, false) then some p else none) PairAt (fun _ _ _ _ t h => h.mono t) hal (by omega) nD2 (fun H' s' => .inl (.inl (s' _ _ hD))) (fun i p x H' K1 K0 hp s' hi q1 q0 => ?_) fun H6 acc6 s6 hD2 hacc6 => ?_
  · obtain ⟨p', hp', b, rfl, hb⟩ := Paired.at hacc hi
    rw [hp] at hp'
    cases hp'
    obtain ⟨m1, m2, _⟩ := (hmemP p).mp (List.mem_of_getElem? hp)
    refine ⟨b, _, rfl, SqT.of (s' _ _ hb), rfl, .int p.1, [.int p.2], rfl, .int p.2, [], rfl, rfl, rfl, .int p.2, rfl, two_le, fun p7 np7 => ?_⟩
    have s7 : Same H' (L2.upd H' p7 (.tup [.int p.2, .str (Str.ofString "s")])) := Same.new np7
    have hp7 : (L2.upd H' p7 (.tup [.int p.2, .str (Str.ofString "s")])) p7 = some (.tup (eV (p.2, true))) := upd_same
    generalize (L2.upd H' p7 (.tup [.int p.2, .str (Str.ofString "s")])) = H7 at s7 hp7 ⊢
    refine ⟨.ref d, rfl, .int p.1, rfl, two_le, fun p8 np8 => ?_⟩
    have s8 : Same H7 (L2.upd H7 p8 (.tup [.int p.1, .str (Str.ofString "s")])) := Same.new np8
    have hp8 : (L2.upd H7 p8 (.tup [.int p.1, .str (Str.ofString "s")])) p8 = some (.tup (eV (p.1, true))) := upd_same
    generalize (L2.upd H7 p8 (.tup [.int p.1, .str (Str.ofString "s")])) = H8 at s8 hp8 ⊢
    have s58 := Same.trans s' (Same.trans s7 s8)
    obtain ⟨vs1, hl1, hv1⟩ := (nl5.same s58).at_ _ (hsE m1)
    refine ⟨d, _, rfl, dgetR hnd (hsE m1) (.inl (s58 _ _ hd5)) hp8, endD (p.2, true), _, endD_dp ⟨p7, rfl, s8 _ _ hp7⟩, dpl_ends hl1 hv1, sh_end _, sh_ends _, _, rfl, ?_⟩
    rw [any_end]
    by_cases hc1 : Reach R (p.1, true) (p.2, true)
    · refine iteT (decide_eq_true ((hfb _ (hsE m1) _).mpr hc1)) ?_
      refine ⟨.int p.1, rfl, two_le, fun p9 np9 => ?_⟩
      have s9 : Same H8 (L2.upd H8 p9 (.tup [.int p.1, .str (Str.ofString "r")])) := Same.new np9
      have hp9 : (L2.upd H8 p9 (.tup [.int p.1, .str (Str.ofString "r")])) p9 = some (.tup (eV (p.1, false))) := upd_same
      generalize (L2.upd H8 p9 (.tup [.int p.1, .str (Str.ofString "r")])) = H9 at s9 hp9 ⊢
      refine ⟨.ref d, rfl, .int p.2, rfl, two_le, fun p10 np10 => ?_⟩
      have s10 : Same H9 (L2.upd H9 p10 (.tup [.int p.2, .str (Str.ofString "r")])) := Same.new np10
      have hp10 : (L2.upd H9 p10 (.tup [.int p.2, .str (Str.ofString "r")])) p10 = some (.tup (eV (p.2, false))) := upd_same
      generalize (L2.upd H9 p10 (.tup [.int p.2, .str (Str.ofString "r")])) = H10 at s10 hp10 ⊢
      have s5a := Same.trans s58 (Same.trans s9 s10)
      obtain ⟨vs2, hl2, hv2⟩ := (nl5.same s5a).at_ _ (hrE m2)
      refine ⟨d, _, rfl, dgetR hnd (hrE m2) (.inl (s5a _ _ hd5)) hp10, endD (p.1, false), _, endD_dp ⟨p9, rfl, s10 _ _ hp9⟩, dpl_ends hl2 hv2, sh_end _, sh_ends _, _, rfl, ?_⟩
      rw [any_end]
      by_cases hc2 : Reach R (p.2, false) (p.1, false)
      · refine iteT (decide_eq_true ((hfb _ (hrE m2) _).mpr hc2)) ⟨.int p.1, rfl, .int p.2, rfl, two_le, fun p11 np11 => q1 _ _ p (Same.trans s7 (Same.trans s8 (Same.trans s9 (Same.trans s10 (Same.new np11))))) (if_pos ⟨hc1, hc2⟩) ⟨p11, rfl, upd_same⟩⟩
      · exact iteF (decide_eq_false fun z => hc2 ((hfb _ (hrE m2) _).mp z)) (q0 (if_neg fun z => hc2 z.2) _ (Same.trans s7 (Same.trans s8 (Same.trans s9 s10))))
    · refine iteF (decide_eq_false fun z => hc1 ((hfb _ (hsE m1) _).mp z)) (iteF rfl (q0 (if_neg fun z => hc1 z.1) _ (Same.trans s7 s8)))
  refine q D2 acc6 _ H6 (Same.trans s04 (Same.trans s5 s6)) (same_none (Same.trans s04 s5) nD2) hD2 hacc6 (Nat.le_trans (List.length_filterMap_le _ _) hal2) fun p => ?_
  rw [List.mem_filterMap]
  constructor
  · rintro ⟨x, hx, h⟩
    by_cases hc : Reach R (x.1, true) (x.2, true) ∧ Reach R (x.2, false) (x.1, false)
    · rw [if_pos hc] at h
      cases h
      exact ⟨((hmemP _).mp hx).2.2, hc.1, hc.2⟩
    · rw [if_neg hc] at h
      cases h
  · rintro ⟨h1, h2, h3⟩
    have hm := h2.mem fn.ok.both
    exact ⟨p, (hmemP p).mpr ⟨(hls.mem _).mpr hm.1, (hls.mem _).mpr hm.2, h1⟩, if_pos ⟨h2, h3⟩⟩
theorem sc_is_causal : FnScope ["run"] ["run"] (defScope s_is_causal) := ⟨rfl, rfl, rfl, by decide +kernel, rfl, by decide +kernel, by decide +kernel⟩
-- slots: 0:run
def spCausal : Sp := fun vs H Q _ => ∃ v R, vs = [v] ∧ RunAt H v R ∧ Fine R ∧ ∀ b H', Same H H' → (b = true ↔ Causal R) → Q (.bl b) H'
theorem cal_is_causal (F : FnP K "is_causal" s_is_causal f fd) (hm : mg "is_causal" = some (.ref f)) (T : Txt K mg) (c_overtaken : C8.Cal P w K mg base 8 "overtaken" spOver []) : C8.Cal P w K mg base 9 "is_causal" spCausal [] := by
  refine cal_of F hm sc_is_causal (fun kV doc pm an cdv ct us hl => match us, hl with | [_], _ => rfl) (fun vs H Q E h => ?_) (fun cdv A outer s H vs Q E hr h => ?_)
  · obtain ⟨_, _, rfl, _⟩ := h; rfl
  obtain ⟨v, R, rfl, hR, fn, q⟩ := h
  have nd := sc_is_causal.nd
  have hu1 := Nat.lt_of_le_of_lt (Nat.add_le_add_left (show 1 ≤ 64 by decide) _) hr.units
  have hu64 := hr.units
  have hu65 := room65 hr
  refine ⟨_, (pss_one (ps_ret (pe_cmpR op_eq (pe_callB call_len_seq (by rfl) T.n_len (by decide +kernel) (pa_cons (C8.pe_c c_overtaken hr (by omega) (by rfl) (pa_cons (pv 0) pa_nil)) pa_nil)) pe_int (nomark _)))), ?_⟩
  refine ⟨v, rfl, v, R, rfl, hR, fn, fun l ps prs H1 s1 _ hl hps hln hmem => ⟨l, ps, rfl, .inl (.inl (.inl hl)), rfl, q _ _ s1 ?_⟩⟩
  rw [decide_eq_true_eq, Paired.len hps]
  constructor
  · intro h one two ov
    injection h with h
    have : prs = [] := List.length_eq_zero_iff.mp (by omega)
    have hm := (hmem (one, two)).mpr ov
    rw [this] at hm
    cases hm
  · intro h
    cases hp : prs with
    | nil => rfl
    | cons p r => exact absurd ((hmem p).mp (by rw [hp]; simp)) (h _ _)
theorem sc_links_of : FnScope ["run", "behind", "letters", "one", "two"] ["run"] (defScope s_links_of) := ⟨rfl, rfl, rfl, by decide +kernel, rfl, by decide +kernel, by decide +kernel⟩
-- slots: 0:run 1:behind 2:letters 3:one 4:two
def spLinks : Sp := fun vs H Q _ => ∃ v R, vs = [v] ∧ RunAt H v R ∧ Fine R ∧ ∀ d ls H', DIs H H' d ls (Link R) → IsLetters R ls → Q (.ref d) H'
open Classical in
theorem cal_links_of (F : FnP K "links_of" s_links_of f fd) (hm : mg "links_of" = some (.ref f)) (T : Txt K mg) (c_behind_all : C8.Cal P w K mg base 7 "behind_all" spBehind []) (c_letters_in : C8.Cal P w K mg base 7 "letters_in" spLetters []) : C8.Cal P w K mg base 8 "links_of" spLinks [] := by
  refine cal_of F hm sc_links_of (fun kV doc pm an cdv ct us hl => match us, hl with | [_], _ => rfl) (fun vs H Q E h => ?_) (fun cdv A outer s H vs Q E hr h => ?_)
  · obtain ⟨_, _, rfl, _⟩ := h; rfl
  obtain ⟨v, R, rfl, hR, fn, q⟩ := h
  have nd := sc_links_of.nd
  have hu1 := Nat.lt_of_le_of_lt (Nat.add_le_add_left (show 1 ≤ 64 by decide) _) hr.units
  have hu64 := hr.units
  have hu65 := room65 hr
  refine ⟨_, (pss_cons (ps_asg (pe_tup (pa_cons (C8.pe_c c_behind_all hr (by omega) (by rfl) (pa_cons (pv 0) pa_nil)) (pa_cons (C8.pe_c c_letters_in hr (by omega) (by rfl) (pa_cons (pv 0) pa_nil)) pa_nil))) (pg_tup rfl (pgs_cons (pg_name (i := 1) nd rfl (Or.inr rfl)) (pgs_cons (pg_name (i := 2) nd rfl (Or.inr rfl)) pgs_nil))))
    (pss_one (ps_ret (pe_dc (own := [("one", 3)]) (g := (gName 3)) (tt := tYes) rfl nd (pi_tup (pv 2)) (blkOk_by (by rfl)) (fun _ _ _ _ _ => (pg_name (i := 3) nd rfl (Or.inr rfl))) (fun _ _ _ _ _ => pts_nil) (fun _ _ _ _ _ => (pv 3)) (fun _ _ _ _ _ => (pe_lc (own := [("two", 4)]) (g := (gName 4)) (tt := _) rfl nd (pi_tupK (K := K) rfl (pv 2)) (blkOk_by (by rfl)) (fun _ _ _ _ _ => (pg_name (i := 4) nd rfl (Or.inl rfl))) (fun _ _ _ _ _ => pts_one (PW.pt (pw_and (pt_cmpR op_ne (pv 4) (pv 3) (nomark _)) (pw_and1 (pt_cmpR (op_inDK (K := K) rfl hu65) (pe_tup (pa_cons (pv 4) (pa_cons pe_str pa_nil))) (pe_dget hu1 (pv 1) (pe_tup (pa_cons (pv 3) (pa_cons pe_str pa_nil))) (fun _ _ => rfl)) (by rfl)))))) (fun _ _ _ _ _ => (pv 4)))))))), ?_⟩
  have hnd := fn.ok.nd
  refine ⟨v, rfl, v, R, rfl, hR, fn, fun d H2 hdl => ?_⟩
  obtain ⟨s2, _, la, fb, hd, nl, _, hfb⟩ := hdl
  refine ⟨v, rfl, v, R, rfl, RunAt.mono (Same.ts s2) hR, fn, fun a ls H3 s3 hls ha => ?_⟩
  refine ⟨two_le, fun p np => ?_⟩
  have s4 : Same H3 (L2.upd H3 p (.tup [.ref d, .ref a])) := Same.new np
  have hp4 : (L2.upd H3 p (.tup [.ref d, .ref a])) p = some (.tup [.ref d, .ref a]) := upd_same
  generalize (L2.upd H3 p (.tup [.ref d, .ref a])) = H4 at s4 hp4 ⊢
  refine ⟨p, _, rfl, SqT.of hp4, rfl, .ref d, [.ref a], rfl, .ref a, [], rfl, rfl, ?_⟩
  have s24 := Same.trans s3 s4
  have hd4 := s24 _ _ hd
  have nl4 := nl.same s24
  have ha4 := s4 _ _ ha
  have s04 := Same.trans s2 s24
  have hll := hls.len
  have hsE : ∀ {n}, n ∈ ls → (n, true) ∈ ends R := fun h => (hls.mem _).mp h
  have hrE : ∀ {n}, n ∈ ls → (n, false) ∈ ends R := fun h => both_of fn.ok (hsE h) false
  refine ⟨.ref a, rfl, a, rfl, ⟨_, SqT.of ha4⟩, fun D nD => ?_⟩
  refine dc_tup (xs := ls.map V.int) (fun i H' => Same H4 H' ∧ ∃ lb fl, H' D = some (.dK (dictI (ls.take i) lb)) ∧ LsI H' (ls.take i) lb fl (Link R) ∧ ∀ n ∈ ls.take i, lb n ≠ D) ⟨Same.new nD, fun _ => 0, fun _ => [], upd_same, fun n hn => (by cases hn), fun n hn => (by cases hn)⟩ (fun i H' _ h => SqT.of (h.1 _ _ ha4)) (fun i x H' hi h => ?_) fun H' h => ?_
  · obtain ⟨s', lb, fl, hD, hli, hne⟩ := h
    rw [List.getElem?_map] at hi
    obtain ⟨n, hn, rfl⟩ := Option.map_eq_some_iff.mp hi
    have hmem := List.mem_of_getElem? hn
    have hil : i < ls.length := (List.getElem?_eq_some_iff.mp hn).1
    have hnew : n ∉ ls.take i := mem_pre hls.nd (cut_at hn)
    have htake : ls.take (i + 1) = ls.take i ++ [n] := by rw [List.take_add_one, hn]; rfl
    refine ⟨rfl, ?_⟩
    delta tYes
    refine iteT rfl ⟨.int n, rfl, .ref a, rfl, a, rfl, ⟨_, SqT.of (s' _ _ ha4)⟩, fun D2 nD2 => ?_⟩
    refine lc_fm wp_tup ls (fun two => if Link R n two then some two else none) (fun _ v m => v = .int m) (fun _ _ _ _ _ h => h) (by rw [List.length_map]) (by rw [List.length_map]; omega) nD2 (fun H'' s'' => SqT.of (s'' _ _ (s' _ _ ha4))) (fun j two y H'' K1 K0 htwo s'' hj q1 q0 => ?_) fun H5 acc s5 hD2 hacc => ?_
    · rw [List.getElem?_map, htwo] at hj
      cases hj
      have m2 := List.mem_of_getElem? htwo
      refine ⟨rfl, .int two, rfl, .int n, rfl, rfl, _, rfl, ?_⟩
      by_cases he : two = n
      · exact iteF (by rw [he, decide_eq_true rfl]; rfl) (iteF rfl (q0 (if_neg fun z => z.1 he.symm) _ (Same.rf _)))
      · refine iteT (by rw [decide_eq_false fun z => he (by injection z)]; rfl) ?_
        refine ⟨.int two, rfl, two_le, fun p7 np7 => ?_⟩
        have s7 : Same H'' (L2.upd H'' p7 (.tup [.int two, .str (Str.ofString "r")])) := Same.new np7
        have hp7 : (L2.upd H'' p7 (.tup [.int two, .str (Str.ofString "r")])) p7 = some (.tup (eV (two, false))) := upd_same
        generalize (L2.upd H'' p7 (.tup [.int two, .str (Str.ofString "r")])) = H7 at s7 hp7 ⊢
        refine ⟨.ref d, rfl, .int n, rfl, two_le, fun p8 np8 => ?_⟩
        have s8 : Same H7 (L2.upd H7 p8 (.tup [.int n, .str (Str.ofString "s")])) := Same.new np8
        have hp8 : (L2.upd H7 p8 (.tup [.int n, .str (Str.ofString "s")])) p8 = some (.tup (eV (n, true))) := upd_same
        generalize (L2.upd H7 p8 (.tup [.int n, .str (Str.ofString "s")])) = H8 at s8 hp8 ⊢
        have s48 := Same.trans s' (Same.trans s'' (Same.trans s7 s8))
        obtain ⟨vs1, hl1, hv1⟩ := (nl4.same s48).at_ _ (hsE hmem)
        refine ⟨d, _, rfl, dgetR hnd (hsE hmem) (.inl (s48 _ _ hd4)) hp8, endD (two, false), _, endD_dp ⟨p7, rfl, s8 _ _ hp7⟩, dpl_ends hl1 hv1, sh_end _, sh_ends _, _, rfl, ?_⟩
        rw [any_end]
        by_cases hc : Reach R (n, true) (two, false)
        · exact iteT (decide_eq_true ((hfb _ (hsE hmem) _).mpr hc)) ⟨.int two, rfl, q1 _ _ two (Same.trans s7 s8) (if_pos ⟨Ne.symm he, hc⟩) rfl⟩
        · exact iteF (decide_eq_false fun z => hc ((hfb _ (hsE hmem) _).mp z)) (q0 (if_neg fun z => hc z.2) _ (Same.trans s7 s8))
    have eacc := Paired.ints.mp hacc
    have hD5 := s5 _ _ hD
    have hdd : D2 ≠ D := fun h => by rw [h, hD] at nD2; cases nD2
    refine ⟨_, .inl n, rfl, hD5, small1000 (by unfold dictI; rw [List.length_map, List.length_take]; omega), ?_⟩
    rw [putK_app (fun z hz => by
      obtain ⟨x, hx, rfl⟩ := List.mem_map.mp hz
      exact fun h => hnew (Sum.inl.inj h ▸ hx)), htake, ← dictI_app hnew]
    refine ⟨Same.put (Same.trans s' s5) nD, _, fun x => if x = n then ls.filterMap (fun two => if Link R n two then some two else none) else fl x, upd_same, fun x hx => ?_, fun x hx => ?_⟩
    · by_cases h : x = n
      · show (L2.upd H5 D _) (if x = n then D2 else lb x) = some (.lst ((if x = n then _ else fl x).map V.int)) ∧ (if x = n then _ else fl x).length ≤ 40 ∧ ∀ m, m ∈ (if x = n then _ else fl x) ↔ _
        rw [if_pos h, if_pos h, upd_ne hdd]
        refine ⟨by rw [hD2, eacc], Nat.le_trans (List.length_filterMap_le _ _) hll, fun m => ?_⟩
        rw [List.mem_filterMap, h]
        constructor
        · rintro ⟨y, hy, e⟩
          by_cases hc : Link R n y
          · rw [if_pos hc] at e; cases e; exact hc
          · rw [if_neg hc] at e; cases e
        · intro hc
          exact ⟨m, (hls.mem m).mpr (link_mem fn.ok hc).2, if_pos hc⟩
      · show (L2.upd H5 D _) (if x = n then D2 else lb x) = some (.lst ((if x = n then _ else fl x).map V.int)) ∧ (if x = n then _ else fl x).length ≤ 40 ∧ ∀ m, m ∈ (if x = n then _ else fl x) ↔ _
        rw [if_neg h, if_neg h]
        rcases List.mem_append.mp hx with hx | hx
        · rw [upd_ne (hne x hx)]
          exact hli.same s5 x hx
        · exact absurd (List.mem_singleton.mp hx) h
    · by_cases h : x = n
      · show (if x = n then D2 else lb x) ≠ D
        rw [if_pos h]
        exact hdd
      · show (if x = n then D2 else lb x) ≠ D
        rw [if_neg h]
        rcases List.mem_append.mp hx with hx | hx
        · exact hne x hx
        · exact absurd (List.mem_singleton.mp hx) h
  · obtain ⟨s', lb, fl, hD, hli, hne⟩ := h
    rw [List.length_map, List.take_length] at hD hli
    exact q D ls H' ⟨Same.trans s04 s', same_none s04 nD, lb, fl, hD, hli⟩ hls
theorem sc_letter_row : FnScope ["run", "links"] ["run"] (defScope s_letter_row) := ⟨rfl, rfl, rfl, by decide +kernel, rfl, by decide +kernel, by decide +kernel⟩
-- slots: 0:run 1:links
def spLetterRow : Sp := fun vs H Q _ => ∃ v R, vs = [v] ∧ RunAt H v R ∧ Fine R ∧ (∀ H', Same H H' → Cyc R → Q .non H') ∧ ∀ a ns H', Same H H' → IsLetters R ns → ns.Pairwise (fun a b => ¬ Link R b a) → H' a = some (.tup (ns.map V.int)) → Q (.ref a) H'
theorem IsLetters.of_perm {R : Run} {l m : List Int} (h : IsLetters R l) (p : m.Perm l) : IsLetters R m := ⟨p.symm.nodup h.nd, fun x => p.mem_iff.trans (h.mem x), by rw [p.length_eq]; exact h.len⟩
theorem cal_letter_row (F : FnP K "letter_row" s_letter_row f fd) (hm : mg "letter_row" = some (.ref f)) (T : Txt K mg) (c_links_of : C8.Cal P w K mg base 8 "links_of" spLinks []) (c_least_row : C8.Cal P w K mg base 1 "least_row" (spLeast (kInt K)) []) : C8.Cal P w K mg base 9 "letter_row" spLetterRow [] := by
  refine cal_of F hm sc_letter_row (fun kV doc pm an cdv ct us hl => match us, hl with | [_], _ => rfl) (fun vs H Q E h => ?_) (fun cdv A outer s H vs Q E hr h => ?_)
  · obtain ⟨_, _, rfl, _⟩ := h; rfl
  obtain ⟨v, R, rfl, hR, fn, q1, q2⟩ := h
  have nd := sc_letter_row.nd
  have hu1 := Nat.lt_of_le_of_lt (Nat.add_le_add_left (show 1 ≤ 64 by decide) _) hr.units
  have hu64 := hr.units
  have hu65 := room65 hr
  refine ⟨_, (pss_cons (ps_set (i := 1) nd rfl (Or.inl rfl) (C8.pe_c c_links_of hr (by omega) (by rfl) (pa_cons (pv 0) pa_nil)))
    (pss_one (ps_ret (C8.pe_c c_least_row hr (by omega) (by rfl) (pa_cons (pv 1) (pa_cons (pv 1) pa_nil)))))), ?_⟩
  refine ⟨v, rfl, v, R, rfl, hR, fn, fun d ls H1 hdi hls => ?_⟩
  have hll := hls.len
  refine ⟨.ref d, rfl, .ref d, rfl, d, ls, Link R, rfl, hdi.bh hls.nd (by omega), by omega, fun H' s' hb => q1 H' (Same.trans hdi.1 s') ?_, fun v' ys H' s' hpm hpw hT => ?_⟩
  · obtain ⟨S, h1, _, h3⟩ := hb
    exact stuck_cyc h1 h3
  · obtain ⟨a, us, rfl, ha, hus⟩ := hT
    exact q2 a ys H' (Same.trans hdi.1 s') (hls.of_perm hpm) hpw (by rw [ha, Paired.ints.mp hus])
theorem sc_is_letter_row : FnScope ["run", "thing", "own"] ["run", "thing"] (defScope s_is_letter_row) := ⟨rfl, rfl, rfl, by decide +kernel, rfl, by decide +kernel, by decide +kernel⟩
-- slots: 0:run 1:thing 2:own
def spIsLetterRow : Sp := fun vs H Q _ => ∃ v R a ns, vs = [v, .ref a] ∧ RunAt H v R ∧ Fine R ∧ H a = some (.tup (ns.map V.int)) ∧ IsLetters R ns ∧ ns.Pairwise (fun a b => ¬ Link R b a) ∧ ∀ H', Same H H' → Q (.bl true) H'
theorem cal_is_letter_row (F : FnP K "is_letter_row" s_is_letter_row f fd) (hm : mg "is_letter_row" = some (.ref f)) (T : Txt K mg) (c_is_number : C8.Cal P w K mg base 1 "is_number" spNum []) (c_letters_in : C8.Cal P w K mg base 7 "letters_in" spLetters []) (c_links_of : C8.Cal P w K mg base 8 "links_of" spLinks []) (c_fits_row : C8.Cal P w K mg base 1 "fits_row" (spFits (kInt K)) []) : C8.Cal P w K mg base 9 "is_letter_row" spIsLetterRow [] := by
  refine cal_of F hm sc_is_letter_row (fun kV doc pm an cdv ct us hl => match us, hl with | [_, _], _ => rfl) (fun vs H Q E h => ?_) (fun cdv A outer s H vs Q E hr h => ?_)
  · obtain ⟨_, _, _, _, rfl, _⟩ := h; rfl
  obtain ⟨v, R, a, ns, rfl, hR, fn, ha, hns, hpw, q⟩ := h
  have nd := sc_is_letter_row.nd
  have hu1 := Nat.lt_of_le_of_lt (Nat.add_le_add_left (show 1 ≤ 64 by decide) _) hr.units
  have hu64 := hr.units
  have hu65 := room65 hr
  refine ⟨_, (pss_cons (ps_if (PW.pt (pw_or (pt_not (pt_val (pe_callB call_isi (by rfl) T.n_isinstance (by decide +kernel) (pa_cons (pv 1) (pa_cons (pe_bltn (v := .ty "tuple") (by rfl) T.n_tuple (by decide +kernel) rfl) pa_nil))))) (pw_or1 (pt_not (pt_val (pe_callB (cr_all rfl) (by rfl) T.n_all (by decide +kernel) (pa_cons (pe_lc (own := [("own", 2)]) (g := (gName 2)) (tt := tYes) rfl nd (pi_tup (pv 1)) (blkOk_by (by rfl)) (fun _ _ _ _ _ => (pg_name (i := 2) nd rfl (Or.inl rfl))) (fun _ _ _ _ _ => pts_nil) (fun _ _ _ _ _ => (C8.pe_c c_is_number hr (by omega) (by rfl) (pa_cons (pv 2) pa_nil)))) pa_nil))))))) (pss_one (ps_ret pe_bl)) pss_nil)
    (pss_one (ps_ret (C8.pe_c c_fits_row hr (by omega) (by rfl) (pa_cons (C8.pe_c c_letters_in hr (by omega) (by rfl) (pa_cons (pv 0) pa_nil)) (pa_cons (C8.pe_c c_links_of hr (by omega) (by rfl) (pa_cons (pv 0) pa_nil)) (pa_cons (pv 1) pa_nil))))))), ?_⟩
  have hnl := hns.len
  refine ⟨.ref a, rfl, _, _, _, _, true, rfl, .ty _, tx_tup ha, kit_ty (by decide +kernel), true, rfl, .ref a, rfl, a, rfl, ⟨_, SqT.of ha⟩, fun D1 nD1 => ?_⟩
  refine lc_bool wp_tup ns (fun _ => true) (by rw [List.length_map]) (by rw [List.length_map]; omega) nD1 (fun H' s' => SqT.of (s' _ _ ha)) (fun i n x H' K1 hn s' hi q1 => ?_) fun H1 s1 hD1 => ?_
  · rw [List.getElem?_map, hn] at hi
    cases hi
    exact ⟨rfl, .int n, rfl, n, rfl, q1 _ (Same.rf _)⟩
  refine ⟨D1, _, rfl, .inl (.inl hD1), ?_⟩
  rw [all_map_true (fun _ _ => rfl)]
  refine ⟨true, rfl, ?_⟩
  refine ⟨v, rfl, v, R, rfl, RunAt.mono (Same.ts s1) hR, fn, fun b ls H2 s2 hls hb => ?_⟩
  have s02 := Same.trans s1 s2
  refine ⟨v, rfl, v, R, rfl, RunAt.mono (Same.ts s02) hR, fn, fun d ls3 H3 hdi hls3 => ?_⟩
  have s3 := hdi.1
  have hll := hls3.len
  refine ⟨.ref a, rfl, .ref b, d, .ref a, ls, ns, ls3, Link R, rfl, ⟨b, _, rfl, s3 _ _ hb, pair_ints⟩, ⟨a, _, rfl, (Same.trans s02 s3) _ _ ha, pair_ints⟩, hdi.bh hls3.nd (by omega), hns.perm hls, fun x hx => (hns.perm hls3).subset hx, by omega, hpw, fun H' s' => q H' (Same.trans (Same.trans s02 s3) s')⟩
theorem sc_is_one_by_one : FnScope ["run"] ["run"] (defScope s_is_one_by_one) := ⟨rfl, rfl, rfl, by decide +kernel, rfl, by decide +kernel, by decide +kernel⟩
-- slots: 0:run
def spOneByOne : Sp := fun vs H Q _ => ∃ v R, vs = [v] ∧ RunAt H v R ∧ Fine R ∧ ∀ b H', Same H H' → (b = true ↔ ¬ Cyc R) → Q (.bl b) H'
theorem cal_is_one_by_one (F : FnP K "is_one_by_one" s_is_one_by_one f fd) (hm : mg "is_one_by_one" = some (.ref f)) (T : Txt K mg) (c_letter_row : C8.Cal P w K mg base 9 "letter_row" spLetterRow []) : C8.Cal P w K mg base 10 "is_one_by_one" spOneByOne [] := by
  refine cal_of F hm sc_is_one_by_one (fun kV doc pm an cdv ct us hl => match us, hl with | [_], _ => rfl) (fun vs H Q E h => ?_) (fun cdv A outer s H vs Q E hr h => ?_)
  · obtain ⟨_, _, rfl, _⟩ := h; rfl
  obtain ⟨v, R, rfl, hR, fn, q⟩ := h
  have nd := sc_is_one_by_one.nd
  have hu1 := Nat.lt_of_le_of_lt (Nat.add_le_add_left (show 1 ≤ 64 by decide) _) hr.units
  have hu64 := hr.units
  have hu65 := room65 hr
  refine ⟨_, (pss_one (ps_ret (pe_cmp (pc_notN (C8.pe_c c_letter_row hr (by omega) (by rfl) (pa_cons (pv 0) pa_nil)))))), ?_⟩
  refine ⟨v, rfl, v, R, rfl, hR, fn, fun H1 s1 hc => q _ H1 s1 ⟨fun h => by simp at h, fun h => absurd hc h⟩, fun a ns H1 s1 hls hpw ha => q _ H1 s1 ⟨fun _ => not_cyc_of_row fn.ok (fun a ha => (hls.mem a).mpr ha) hpw, fun _ => by simp⟩⟩
theorem sc_kind_of : FnScope ["run"] ["run"] (defScope s_kind_of) := ⟨rfl, rfl, rfl, by decide +kernel, rfl, by decide +kernel, by decide +kernel⟩
-- slots: 0:run
def kindT (n : Nat) : Str := if n = 0 then Str.ofString "one by one" else if n = 1 then Str.ofString "causal" else Str.ofString "any"
def spKind : Sp := fun vs H Q _ => ∃ v R, vs = [v] ∧ RunAt H v R ∧ Fine R ∧ ∀ H', Same H H' → Q (.str (kindT (kindNo R))) H'
theorem cal_kind_of (F : FnP K "kind_of" s_kind_of f fd) (hm : mg "kind_of" = some (.ref f)) (T : Txt K mg) (c_is_one_by_one : C8.Cal P w K mg base 10 "is_one_by_one" spOneByOne []) (c_is_causal : C8.Cal P w K mg base 9 "is_causal" spCausal []) : C8.Cal P w K mg base 11 "kind_of" spKind [] := by
  refine cal_of F hm sc_kind_of (fun kV doc pm an cdv ct us hl => match us, hl with | [_], _ => rfl) (fun vs H Q E h => ?_) (fun cdv A outer s H vs Q E hr h => ?_)
  · obtain ⟨_, _, rfl, _⟩ := h; rfl
  obtain ⟨v, R, rfl, hR, fn, q⟩ := h
  have nd := sc_kind_of.nd
  have hu1 := Nat.lt_of_le_of_lt (Nat.add_le_add_left (show 1 ≤ 64 by decide) _) hr.units
  have hu64 := hr.units
  have hu65 := room65 hr
  refine ⟨_, (pss_cons (ps_if (pt_val (C8.pe_c c_is_one_by_one hr (by omega) (by rfl) (pa_cons (pv 0) pa_nil))) (pss_one (ps_ret pe_str)) pss_nil)
    (pss_one (ps_ret (pe_ifExp (pt_val (C8.pe_c c_is_causal hr (by omega) (by rfl) (pa_cons (pv 0) pa_nil))) pe_str pe_str)))), ?_⟩
  refine ⟨v, rfl, v, R, rfl, hR, fn, fun b H1 s1 hb => ⟨b, rfl, ?_⟩⟩
  have q1 := fun H' s' => q H' (Same.trans s1 s')
  unfold kindNo at q1
  cases b with
  | true =>
    have hc := hb.mp rfl
    rw [if_neg hc] at q1
    exact iteT rfl (q1 _ (Same.rf _))
  | false =>
    have hc : Cyc R := Classical.not_not.mp fun h => by cases hb.mpr h
    rw [if_pos hc] at q1
    refine iteF rfl ⟨v, rfl, v, R, rfl, RunAt.mono (Same.ts s1) hR, fn, fun c H2 s2 hcc => ⟨c, rfl, ?_⟩⟩
    cases c with
    | true =>
      rw [if_pos (hcc.mp rfl)] at q1
      exact iteT rfl (q1 _ s2)
    | false =>
      rw [if_neg fun h => by cases hcc.mpr h] at q1
      exact iteF rfl (q1 _ s2)
end
end BC
namespace BC
/-! steps back from a goal -/
def lk (F : List (Int × Nat)) (n : Int) : Nat := ((F.find? fun p => decide (p.1 = n)).map (·.2)).getD 0
theorem lk_of : ∀ {F : List (Int × Nat)}, (F.map (·.1)).Nodup → ∀ {n : Int} {k : Nat}, (n, k) ∈ F → lk F n = k
  | p :: r, hn, n, k, h => by
    rw [List.map_cons, List.nodup_cons] at hn
    unfold lk
    rw [List.find?_cons]
    rcases List.mem_cons.mp h with h | h
    · rw [← h]; simp
    · have e : p.1 ≠ n := fun e => hn.1 (e ▸ List.mem_map.mpr ⟨(n, k), h, rfl⟩)
      rw [decide_eq_false e]
      exact lk_of hn.2 h
theorem mem_lk {F : List (Int × Nat)} (hn : (F.map (·.1)).Nodup) {n : Int} (h : n ∈ F.map (·.1)) : (n, lk F n) ∈ F := by
  obtain ⟨⟨m, k⟩, hp, e⟩ := List.mem_map.mp h
  have e : m = n := e
  subst e
  rw [lk_of hn hp]
  exact hp
abbrev BSt := List (Int × Nat) × List Int
def bs1 (fn : Int → List Int) (here : Int) (s : BSt) (own : Int) : BSt := if own ∉ s.1.map (·.1) ∧ here ∈ fn own then (s.1 ++ [(own, lk s.1 here + 1)], s.2 ++ [own]) else s
def bstep (ls : List Int) (fn : Int → List Int) (s : BSt) : BSt := match s.2 with
  | [] => s
  | here :: r => ls.foldl (bs1 fn here) (s.1, r)
def biter (ls : List Int) (fn : Int → List Int) : Nat → BSt → BSt
  | 0, s => s
  | n + 1, s => bstep ls fn (biter ls fn n s)
theorem biter_add (ls : List Int) (fn : Int → List Int) (a : Nat) : ∀ (b : Nat) (s : BSt), biter ls fn (a + b) s = biter ls fn b (biter ls fn a s)
  | 0, _ => rfl
  | b + 1, s => by
    show bstep ls fn (biter ls fn (a + b) s) = bstep ls fn (biter ls fn b (biter ls fn a s))
    rw [biter_add ls fn a b s]
theorem biter_end (ls : List Int) (fn : Int → List Int) (F : List (Int × Nat)) : ∀ n, biter ls fn n (F, []) = (F, [])
  | 0 => rfl
  | n + 1 => by
    show bstep ls fn (biter ls fn n (F, [])) = _
    rw [biter_end ls fn F n]
    rfl
def Runs (ls : List Int) (fn : Int → List Int) (g : Int) (F : List (Int × Nat)) : Prop := ∃ n, biter ls fn n ([(g, 0)], [g]) = (F, [])
theorem Runs.unique {ls : List Int} {fn : Int → List Int} {g : Int} {F G : List (Int × Nat)} (h1 : Runs ls fn g F) (h2 : Runs ls fn g G) : F = G := by
  obtain ⟨n, h1⟩ := h1
  obtain ⟨m, h2⟩ := h2
  have key : ∀ {n m : Nat} {F G : List (Int × Nat)}, n ≤ m → biter ls fn n ([(g, 0)], [g]) = (F, []) → biter ls fn m ([(g, 0)], [g]) = (G, []) → F = G := by
    intro n m F G h h1 h2
    obtain ⟨k, rfl⟩ : ∃ k, m = n + k := ⟨m - n, by omega⟩
    rw [biter_add, h1, biter_end] at h2
    exact congrArg Prod.fst h2
  rcases Nat.le_total n m with h | h
  · exact key h h1 h2
  · exact (key h h2 h1).symm
structure Bfs (ls : List Int) (Rel : Int → Int → Prop) (g : Int) (E : List Int) (F : List (Int × Nat)) (T : List Int) : Prop where
  ndk : (F.map (·.1)).Nodup
  sub : ∀ x ∈ F.map (·.1), x ∈ ls
  subT : ∀ x ∈ T, x ∈ F.map (·.1)
  gz : (g, 0) ∈ F
  pre : ∀ x n, (x, n) ∈ F → x = g ∨ ∃ y m, (y, m) ∈ F ∧ Rel x y ∧ n = m + 1
  clo : ∀ y ∈ F.map (·.1), y ∈ T ∨ y ∈ E ∨ ∀ x ∈ ls, Rel x y → x ∈ F.map (·.1)
  len : T.length ≤ F.length
theorem Bfs.start {ls : List Int} {Rel : Int → Int → Prop} {g : Int} (hg : g ∈ ls) : Bfs ls Rel g [] [(g, 0)] [g] where
  ndk := by simp
  sub := fun x hx => by simp at hx; rw [hx]; exact hg
  subT := fun x hx => by simpa using hx
  gz := by simp
  pre := fun x n h => by simp at h; exact .inl h.1
  clo := fun y hy => .inl (by simpa using hy)
  len := by simp
theorem Bfs.small {ls : List Int} {Rel : Int → Int → Prop} {g : Int} {E : List Int} {F : List (Int × Nat)} {T : List Int} (b : Bfs ls Rel g E F T) : F.length ≤ ls.length := by
  have := nodup_sub_len b.ndk b.sub
  rwa [List.length_map] at this
theorem Bfs.head {ls : List Int} {Rel : Int → Int → Prop} {g here : Int} {F : List (Int × Nat)} {T : List Int} (b : Bfs ls Rel g [] F (here :: T)) : Bfs ls Rel g [here] F T where
  ndk := b.ndk
  sub := b.sub
  subT := fun x hx => b.subT x (List.mem_cons_of_mem _ hx)
  gz := b.gz
  pre := b.pre
  clo := fun y hy => by
    rcases b.clo y hy with h | h | h
    · rcases List.mem_cons.mp h with h | h
      · exact .inr (.inl (by simp [h]))
      · exact .inl h
    · cases h
    · exact .inr (.inr h)
  len := by have := b.len; rw [List.length_cons] at this; omega
theorem Bfs.push {ls : List Int} {Rel : Int → Int → Prop} {g here own : Int} {F : List (Int × Nat)} {T : List Int} (b : Bfs ls Rel g [here] F T) (hh : here ∈ F.map (·.1)) (ho : own ∈ ls) (hn : own ∉ F.map (·.1)) (hr : Rel own here) :
    Bfs ls Rel g [here] (F ++ [(own, lk F here + 1)]) (T ++ [own]) where
  ndk := by
    rw [List.map_append, List.nodup_append]
    refine ⟨b.ndk, by simp, fun a ha c hc e => hn ?_⟩
    simp at hc
    rw [← hc, ← e]
    exact ha
  sub := fun x hx => by
    rw [List.map_append] at hx
    rcases List.mem_append.mp hx with hx | hx
    · exact b.sub x hx
    · simp at hx; rw [hx]; exact ho
  subT := fun x hx => by
    rw [List.map_append]
    rcases List.mem_append.mp hx with hx | hx
    · exact List.mem_append.mpr (.inl (b.subT x hx))
    · exact List.mem_append.mpr (.inr (by simpa using hx))
  gz := List.mem_append.mpr (.inl b.gz)
  pre := fun x n h => by
    rcases List.mem_append.mp h with h | h
    · rcases b.pre x n h with e | ⟨y, m, h1, h2⟩
      · exact .inl e
      · exact .inr ⟨y, m, List.mem_append.mpr (.inl h1), h2⟩
    · simp at h
      obtain ⟨rfl, rfl⟩ := h
      exact .inr ⟨here, lk F here, List.mem_append.mpr (.inl (mem_lk b.ndk hh)), hr, rfl⟩
  clo := fun y hy => by
    rw [List.map_append] at hy
    rcases List.mem_append.mp hy with hy | hy
    · rcases b.clo y hy with h | h | h
      · exact .inl (List.mem_append.mpr (.inl h))
      · exact .inr (.inl h)
      · exact .inr (.inr fun x hx hr => by rw [List.map_append]; exact List.mem_append.mpr (.inl (h x hx hr)))
    · exact .inl (List.mem_append.mpr (.inr (by simpa using hy)))
  len := by have := b.len; rw [List.length_append, List.length_append]; simp only [List.length_singleton]; omega
theorem Bfs.close {ls : List Int} {Rel : Int → Int → Prop} {g here : Int} {F : List (Int × Nat)} {T : List Int} (b : Bfs ls Rel g [here] F T) (h : ∀ x ∈ ls, Rel x here → x ∈ F.map (·.1)) : Bfs ls Rel g [] F T where
  ndk := b.ndk
  sub := b.sub
  subT := b.subT
  gz := b.gz
  pre := b.pre
  clo := fun y hy => by
    rcases b.clo y hy with h1 | h1 | h1
    · exact .inl h1
    · simp at h1; rw [h1]; exact .inr (.inr h)
    · exact .inr (.inr h1)
  len := b.len
/-- what is known of the finished dict of steps -/
structure Steps (ls : List Int) (Rel : Int → Int → Prop) (g : Int) (F : List (Int × Nat)) : Prop where
  ndk : (F.map (·.1)).Nodup
  sub : ∀ x ∈ F.map (·.1), x ∈ ls
  gz : (g, 0) ∈ F
  pre : ∀ x n, (x, n) ∈ F → x = g ∨ ∃ y m, (y, m) ∈ F ∧ Rel x y ∧ n = m + 1
  clo : ∀ y ∈ F.map (·.1), ∀ x ∈ ls, Rel x y → x ∈ F.map (·.1)
theorem Bfs.done {ls : List Int} {Rel : Int → Int → Prop} {g : Int} {F : List (Int × Nat)} (b : Bfs ls Rel g [] F []) : Steps ls Rel g F where
  ndk := b.ndk
  sub := b.sub
  gz := b.gz
  pre := b.pre
  clo := fun y hy => by
    rcases b.clo y hy with h | h | h
    · cases h
    · cases h
    · exact h
theorem Steps.all {ls : List Int} {Rel : Int → Int → Prop} {g : Int} {F : List (Int × Nat)} (s : Steps ls Rel g F) (hm : ∀ x y, Rel x y → x ∈ ls) {x : Int} (h : Tc Rel x g) : x ∈ F.map (·.1) := by
  have key : ∀ {x z}, Tc Rel x z → z = g → x ∈ F.map (·.1) := by
    intro x z h
    induction h with
    | one e =>
      intro ez
      subst ez
      exact s.clo _ (List.mem_map.mpr ⟨_, s.gz, rfl⟩) _ (hm _ _ e) e
    | cons e _ ih => exact fun ez => s.clo _ (ih ez) _ (hm _ _ e) e
  exact key h rfl
/-- a ring of links -/
structure IsCrown (R : Run) (ns : List Int) : Prop where
  two : 2 ≤ ns.length
  len : ns.length ≤ 100
  nd : ns.Nodup
  mem : ∀ n ∈ ns, (n, true) ∈ ends R
  ring : ∀ p ∈ ns.zip (ns.drop 1 ++ ns.take 1), Link R p.1 p.2
theorem ring_nb {R : Run} {ns : List Int} (h : ∀ p ∈ ns.zip (ns.drop 1 ++ ns.take 1), Link R p.1 p.2) (h2 : 2 ≤ ns.length) : Cyc R := by
  -- each stands in reach of the next
  have hlen : (ns.drop 1 ++ ns.take 1).length = ns.length := by
    rw [List.length_append, List.length_drop, List.length_take]; omega
  refine stuck_cyc (S := ns) (fun e => by rw [e] at h2; simp at h2) fun own ho => ?_
  obtain ⟨i, hi, e⟩ := List.mem_iff_getElem.mp ho
  -- the one ahead of place i
  by_cases h0 : i = 0
  · have hl : ns.length - 1 < ns.length := by omega
    have hp : (ns.zip (ns.drop 1 ++ ns.take 1))[ns.length - 1]? = some (ns[ns.length - 1], own) := by
      rw [List.getElem?_zip_eq_some]
      refine ⟨List.getElem?_eq_getElem hl, ?_⟩
      rw [List.getElem?_append_right (by rw [List.length_drop]; exact Nat.le_refl _), List.length_drop, Nat.sub_self, List.getElem?_take, if_pos (by decide)]
      subst h0
      rw [List.getElem?_eq_getElem hi, e]
    exact ⟨_, List.getElem_mem hl, h _ (List.mem_of_getElem? hp)⟩
  · have hl : i - 1 < ns.length := by omega
    have hp : (ns.zip (ns.drop 1 ++ ns.take 1))[i - 1]? = some (ns[i - 1], own) := by
      rw [List.getElem?_zip_eq_some]
      refine ⟨List.getElem?_eq_getElem hl, ?_⟩
      rw [List.getElem?_append_left (by rw [List.length_drop]; omega), List.getElem?_drop]
      have e1 : 1 + (i - 1) = i := by omega
      rw [e1, List.getElem?_eq_getElem hi, e]
    exact ⟨_, List.getElem_mem hl, h _ (List.mem_of_getElem? hp)⟩
theorem IsCrown.cyc {R : Run} {ns : List Int} (h : IsCrown R ns) : Cyc R := ring_nb h.ring h.two
theorem Over.crown {R : Run} (o : Ok R) {x y : Int} (h : Over R x y) : IsCrown R [x, y] := by
  obtain ⟨l1, l2⟩ := h.link o
  have hne := h.ne o
  refine ⟨by simp, by simp, by simp [hne], fun n hn => ?_, fun p hp => ?_⟩
  · simp at hn
    rcases hn with rfl | rfl
    · exact (link_mem o l1).1
    · exact (link_mem o l1).2
  · simp at hp
    rcases hp with rfl | rfl
    · exact l1
    · exact l2
/-- the ring so far: from the first, each linked on, the steps left falling -/
structure Ring (R : Run) (st : Int → Nat) (first : Int) (many : Nat) (ns : List Int) : Prop where
  hd : ns.head? = some first
  lnk : ∀ p ∈ ns.zip (ns.drop 1), Link R p.1 p.2
  st : ∀ i x, 1 ≤ i → ns[i]? = some x → st x + i = many
  mem : ∀ n ∈ ns, (n, true) ∈ ends R
  le : ns.length ≤ many
theorem Ring.app {R : Run} {st : Int → Nat} {first : Int} {many : Nat} {ns : List Int} {l far : Int} (r : Ring R st first many ns) (hl : ns.getLast? = some l) (h : Link R l far) (hs : st far + ns.length = many) (hlt : ns.length < many) (hm : (far, true) ∈ ends R) : Ring R st first many (ns ++ [far]) where
  hd := by
    rw [List.head?_append, r.hd]; rfl
  lnk := fun p hp => by
    have hpos : 0 < ns.length := by
      cases ns with
      | nil => simp at hl
      | cons a b => simp
    obtain ⟨i, hi⟩ := List.getElem?_of_mem hp
    rw [List.getElem?_zip_eq_some] at hi
    obtain ⟨h1, h2⟩ := hi
    rw [List.getElem?_drop] at h2
    have hil : 1 + i < (ns ++ [far]).length := (List.getElem?_eq_some_iff.mp h2).1
    rw [List.length_append] at hil
    simp at hil
    rw [List.getElem?_append_left (by omega)] at h1
    by_cases hb : 1 + i < ns.length
    · rw [List.getElem?_append_left hb] at h2
      exact r.lnk p (List.mem_of_getElem? (i := i) (by rw [List.getElem?_zip_eq_some, List.getElem?_drop]; exact ⟨h1, h2⟩))
    · have e : i = ns.length - 1 := by omega
      rw [List.getElem?_append_right (by omega)] at h2
      have e2 : 1 + i - ns.length = 0 := by omega
      rw [e2] at h2
      simp at h2
      rw [List.getLast?_eq_getElem?, ← e, h1] at hl
      rw [Option.some.inj hl, ← h2]
      exact h
  st := fun i x hi hx => by
    by_cases hb : i < ns.length
    · rw [List.getElem?_append_left hb] at hx
      exact r.st i x hi hx
    · have hil : i < (ns ++ [far]).length := (List.getElem?_eq_some_iff.mp hx).1
      rw [List.length_append] at hil
      simp at hil
      have e : i = ns.length := by omega
      rw [List.getElem?_append_right (by omega), e, Nat.sub_self] at hx
      simp at hx
      rw [← hx, e]
      exact hs
  mem := fun n hn => by
    rcases List.mem_append.mp hn with hn | hn
    · exact r.mem n hn
    · simp at hn; rw [hn]; exact hm
  le := by rw [List.length_append]; simp; omega
theorem Ring.crown {R : Run} {st : Int → Nat} {first : Int} {many : Nat} {ns : List Int} (r : Ring R st first many ns) (hm : ns.length = many) (h2 : 2 ≤ many) (hb : many ≤ 100) (hf : st first = 0) {l : Int} (hl : ns.getLast? = some l) (hc : Link R l first) : IsCrown R ns where
  two := by omega
  len := by omega
  nd := by
    rw [List.nodup_iff_pairwise_ne, List.pairwise_iff_getElem]
    intro i j hi hj hij e
    have hj' := r.st j ns[j] (by omega) (List.getElem?_eq_getElem hj)
    by_cases h0 : i = 0
    · have := r.hd
      rw [List.head?_eq_getElem?, ← h0, List.getElem?_eq_getElem hi] at this
      rw [← e, Option.some.inj this, hf] at hj'
      omega
    · have hi' := r.st i ns[i] (by omega) (List.getElem?_eq_getElem hi)
      rw [e] at hi'
      omega
  mem := r.mem
  ring := fun p hp => by
    obtain ⟨i, hi⟩ := List.getElem?_of_mem hp
    rw [List.getElem?_zip_eq_some] at hi
    obtain ⟨h1, h3⟩ := hi
    have hil : i < ns.length := (List.getElem?_eq_some_iff.mp h1).1
    by_cases hb : i < ns.length - 1
    · rw [List.getElem?_append_left (by rw [List.length_drop]; exact hb)] at h3
      exact r.lnk p (List.mem_of_getElem? (i := i) (by rw [List.getElem?_zip_eq_some]; exact ⟨h1, h3⟩))
    · have e : i = ns.length - 1 := by omega
      rw [List.getElem?_append_right (by rw [List.length_drop]; omega), List.length_drop, e, Nat.sub_self, List.getElem?_take, if_pos (by decide), ← List.head?_eq_getElem?, r.hd] at h3
      rw [List.getLast?_eq_getElem?, ← e, h1] at hl
      rw [Option.some.inj hl, ← Option.some.inj h3]
      exact hc
end BC
namespace BC
theorem Steps.back {ls : List Int} {Rel : Int → Int → Prop} {g : Int} {F : List (Int × Nat)} (s : Steps ls Rel g F) : ∀ (n : Nat) (x : Int), (x, n) ∈ F → ∀ k, k ≤ n → ∃ y, (y, k) ∈ F
  | 0, x, h, k, hk => by
    have e : k = 0 := by omega
    exact ⟨x, by rw [e]; exact h⟩
  | n + 1, x, h, k, hk => by
    by_cases e : k = n + 1
    · exact ⟨x, by rw [e]; exact h⟩
    · rcases s.pre x _ h with rfl | ⟨y, m, h1, _, h2⟩
      · have h3 := lk_of s.ndk h
        rw [lk_of s.ndk s.gz] at h3
        omega
      · have e2 : m = n := by omega
        subst e2
        exact s.back m y h1 k (by omega)
theorem Steps.bound {ls : List Int} {Rel : Int → Int → Prop} {g : Int} {F : List (Int × Nat)} (s : Steps ls Rel g F) {x : Int} {n : Nat} (h : (x, n) ∈ F) : n < F.length := by
  have h1 := nodup_sub_len (l := List.range (n + 1)) (m := F.map (·.2)) List.nodup_range fun k hk => by
    obtain ⟨y, hy⟩ := s.back n x h k (by have := List.mem_range.mp hk; omega)
    exact List.mem_map.mpr ⟨_, hy, rfl⟩
  rw [List.length_range, List.length_map] at h1
  omega
theorem Steps.small {ls : List Int} {Rel : Int → Int → Prop} {g : Int} {F : List (Int × Nat)} (s : Steps ls Rel g F) : F.length ≤ ls.length := by
  have := nodup_sub_len s.ndk s.sub
  rwa [List.length_map] at this
theorem Steps.zero {ls : List Int} {Rel : Int → Int → Prop} {g : Int} {F : List (Int × Nat)} (s : Steps ls Rel g F) {x : Int} (h : (x, 0) ∈ F) : x = g := by
  rcases s.pre x 0 h with e | ⟨_, _, _, _, h2⟩
  · exact e
  · omega
/-- one step nearer -/
theorem Steps.next {ls : List Int} {Rel : Int → Int → Prop} {g : Int} {F : List (Int × Nat)} (s : Steps ls Rel g F) {x : Int} (h : x ∈ F.map (·.1)) (hp : 0 < lk F x) : ∃ y, y ∈ F.map (·.1) ∧ Rel x y ∧ lk F x = lk F y + 1 := by
  rcases s.pre x _ (mem_lk s.ndk h) with e | ⟨y, m, h1, h2, h3⟩
  · rw [e, lk_of s.ndk s.gz] at hp
    omega
  · exact ⟨y, List.mem_map.mpr ⟨_, h1, rfl⟩, h2, by rw [lk_of s.ndk h1]; exact h3⟩
end BC
namespace BC
open PySem PySem.Spec PyProof.Rows L2 BX
def dictN (F : List (Int × Nat)) : List (Key × V) := F.map fun p => (.inl p.1, V.int (p.2 : Nat))
theorem dictN_none {F : List (Int × Nat)} {n : Int} (h : n ∉ F.map (·.1)) : valV (dictN F) (.inl n) = none := valV_none fun p hp e => by
  obtain ⟨q, hq, rfl⟩ := List.mem_map.mp hp
  exact h (List.mem_map.mpr ⟨q, hq, Sum.inl.inj e⟩)
theorem dictN_some {F : List (Int × Nat)} (hn : (F.map (·.1)).Nodup) {n : Int} {k : Nat} (h : (n, k) ∈ F) : valV (dictN F) (.inl n) = some (.int (k : Nat)) :=
  valV_some (by
    have e : (dictN F).map (·.1) = (F.map (·.1)).map (Sum.inl : Int → Key) := by
      unfold dictN
      rw [List.map_map, List.map_map]
      rfl
    rw [e]
    exact nodup_inl hn) (List.mem_map.mpr ⟨_, h, rfl⟩)
theorem dgetN {H : Hp} {d : Addr} {F : List (Int × Nat)} {n : Int} (hd : H d = some (.dK (dictN F))) : DGet H d (.int n) (valV (dictN F) (.inl n)) := .inl ⟨_, .inl n, .inl hd, rfl, rfl⟩
section
variable {P : Program} {w : World} {K : PySem.W.Frag} {mg : Str → Option Value} {base : Heap} {f : Addr} {fd : FuncData}
theorem sc_steps_to : FnScope ["links", "goal", "found", "rest", "here", "own"] ["links", "goal"] (defScope s_steps_to) := ⟨rfl, rfl, rfl, by decide +kernel, rfl, by decide +kernel, by decide +kernel⟩
-- slots: 0:links 1:goal 2:found 3:rest 4:here 5:own
def spSteps : Sp := fun vs H Q _ => ∃ d o g ls la fn Rel, vs = [.ref d, .int g] ∧ H d = some (.frz o (.dK (dictI ls la))) ∧ LsI H ls la fn Rel ∧ ls.Nodup ∧ ls.length ≤ 40 ∧ g ∈ ls ∧
  ∀ D F H', Same H H' → H D = none → H' D = some (.dK (dictN F)) → Steps ls Rel g F → Runs ls fn g F → Q (.ref D) H'
theorem cal_steps_to (F : FnP K "steps_to" s_steps_to f fd) (hm : mg "steps_to" = some (.ref f)) (T : Txt K mg) {kk : Nat} : C8.Cal P w K mg base (kk + 1) "steps_to" spSteps [] := by
  refine cal_of F hm sc_steps_to (fun kV doc pm an cdv ct us hl => match us, hl with | [_, _], _ => rfl) (fun vs H Q E h => ?_) (fun cdv A outer s H vs Q E hr h => ?_)
  · obtain ⟨_, _, _, _, _, _, _, rfl, _⟩ := h; rfl
  obtain ⟨d, o, g, ls, la, fn, Rel, rfl, hd, hli, hnd, hll, hg, q⟩ := h
  have nd := sc_steps_to.nd
  have hu1 := Nat.lt_of_le_of_lt (Nat.add_le_add_left (show 1 ≤ 64 by decide) _) hr.units
  have hu64 := hr.units
  have hu65 := room65 hr
  refine ⟨_, (pss_cons (ps_par (i := 2) (j := 3) rfl nd rfl rfl (by decide) rfl rfl (pa_cons (pe_disp (pps_cons (pv 1) pe_int pps_nil) (by rfl) (by rfl) (fun z => by cases z) (by decide)) (pa_cons (pe_lst (pa_cons (pv 1) pa_nil)) pa_nil)) (by rfl))
    (pss_cons (ps_while PassesOwn.never (pt_cmpR op_gt (pe_callB call_len_seq (by rfl) T.n_len (by decide +kernel) (pa_cons (pv 3) pa_nil)) pe_int (nomark _)) (pss_cons (ps_set (i := 4) nd rfl (Or.inl rfl) (pe_bm PySem.F.plainAttrs_list PySem.F.slot_list_pop PySem.F.type_list_pop mt_popAt (pv 3) (pa_cons pe_int pa_nil)))
    (pss_one (ps_for PassesOwn.never rfl (pi_keys (pv 0)) (pg_name (i := 5) nd rfl (Or.inl rfl)) (pss_one (ps_if (PW.pt (pw_and (pt_cmp (pc_dnotin hu1 (pv 5) (pv 2))) (pw_and1 (pt_cmpR op_in_seq (pv 4) (pe_dget hu1 (pv 0) (pv 5) (fun _ _ => rfl)) (by rfl))))) (pss_cons (ps_dput hu1 (pv 2) (pv 5) (pe_op op_add (pe_dget hu1 (pv 2) (pv 4) (fun _ _ => rfl)) pe_int) rfl)
    (pss_one (ps_expr (pe_bm PySem.F.plainAttrs_list PySem.F.slot_list_append PySem.F.type_list_append mt_append (pv 3) (pa_cons (pv 5) pa_nil))))) pss_nil))))))
    (pss_one (ps_ret (pv 2))))), ?_⟩
  intro D nD
  refine ⟨.int g, rfl, upd_same, [(.inl g, .int 0)], rfl, (show 1 ≤ 15 by decide), .int g, rfl, Nat.le_of_lt two_le, fun rl nrl => ⟨.ref D, .ref rl, rfl, ?_⟩⟩
  have e0 : L2.upd (L2.upd H D (.dK [])) D (.dK (mergeK [] [(.inl g, .int 0)])) = L2.upd H D (.dK (dictN [(g, 0)])) := by
    funext b
    unfold L2.upd
    by_cases h1 : b = D
    · simp [h1]; rfl
    · simp [h1]
  rw [e0] at nrl ⊢
  have s1 : Same H (L2.upd H D (.dK (dictN [(g, 0)]))) := Same.new nD
  have nrlH := same_none s1 nrl
  have hDr : D ≠ rl := fun h => by rw [← h, upd_same] at nrl; cases nrl
  have s2 : Same H (L2.upd (L2.upd H D (.dK (dictN [(g, 0)]))) rl (.lst [.int g])) := Same.trans s1 (Same.new nrl)
  have hD2 : (L2.upd (L2.upd H D (.dK (dictN [(g, 0)]))) rl (.lst [.int g])) D = some (.dK (dictN [(g, 0)])) := by rw [upd_ne hDr, upd_same]
  have hr2 : (L2.upd (L2.upd H D (.dK (dictN [(g, 0)]))) rl (.lst [.int g])) rl = some (.lst ([g].map V.int)) := upd_same
  generalize (L2.upd (L2.upd H D (.dK (dictN [(g, 0)]))) rl (.lst [.int g])) = H2 at s2 hD2 hr2 ⊢
  clear e0 s1 nrl
  refine ⟨fun m σ H' => ∃ F T x4 x5, σ = [some (.ref d), some (.int g), some (.ref D), some (.ref rl), x4, x5] ∧ Same H H' ∧ H' D = some (.dK (dictN F)) ∧ H' rl = some (.lst (T.map V.int)) ∧ Bfs ls Rel g [] F T ∧ (∃ n, biter ls fn n ([(g, 0)], [g]) = (F, T)) ∧ m = 2 * (ls.length - F.length) + T.length,
    ⟨_, [(g, 0)], [g], _, _, rfl, s2, hD2, hr2, Bfs.start hg, ⟨0, rfl⟩, rfl⟩, ?_⟩
  rintro m σ H3 ⟨F0, T, x4, x5, rfl, s3, hD3, hr3, bf, ⟨n0, hn0⟩, rfl⟩
  refine ⟨.ref rl, rfl, rl, _, rfl, .inl (.inl (.inl hr3)), ((T.map V.int).length : Nat), 0, rfl, rfl, _, rfl, ?_⟩
  cases T with
  | nil => exact iteF rfl ⟨.ref D, rfl, q D F0 H3 s3 nD hD3 bf.done ⟨n0, hn0⟩⟩
  | cons here T0 =>
  refine iteT (decide_eq_true (by rw [List.length_map, List.length_cons]; omega)) ⟨_, fun _ _ h => h, ?_⟩
  refine ⟨.ref rl, rfl, tyL hr3, rl, _, 0, 0, .int here, rfl, rfl, hr3, by decide, by decide, ?_, rfl, ?_⟩
  · rw [List.length_map, List.length_cons]
    unfold seqIndex?
    simp
  have hh : here ∈ F0.map (·.1) := bf.subT here (by simp)
  have bi := bf.head
  have s4 : Same H (L2.upd H3 rl (.lst ((List.map V.int (here :: T0)).eraseIdx 0))) := Same.put s3 nrlH
  have hD4 : (L2.upd H3 rl (.lst ((List.map V.int (here :: T0)).eraseIdx 0))) D = some (.dK (dictN F0)) := by rw [upd_ne hDr]; exact hD3
  have hr4 : (L2.upd H3 rl (.lst ((List.map V.int (here :: T0)).eraseIdx 0))) rl = some (.lst (T0.map V.int)) := upd_same
  generalize (L2.upd H3 rl (.lst ((List.map V.int (here :: T0)).eraseIdx 0))) = H4 at s4 hD4 hr4 ⊢
  refine ⟨.ref d, rfl, d, o, rfl, .inl ⟨_, s4 _ _ hd, ?_⟩⟩
  have hdl : (dictI ls la).length = ls.length := by unfold dictI; rw [List.length_map]
  refine L2.for_it (wp_keys (d := d) (o := o) (kvs := dictI ls la)) (fun i σ H' => ∃ x5, ∃ s : BSt, σ = [some (.ref d), some (.int g), some (.ref D), some (.ref rl), some (.int here), x5] ∧ Same H H' ∧ (ls.take i).foldl (bs1 fn here) (F0, T0) = s ∧ H' D = some (.dK (dictN s.1)) ∧ H' rl = some (.lst (s.2.map V.int)) ∧
      Bfs ls Rel g [here] s.1 s.2 ∧ here ∈ s.1.map (·.1) ∧ (∀ x ∈ ls.take i, Rel x here → x ∈ s.1.map (·.1)) ∧ F0.length ≤ s.1.length ∧ s.2.length + F0.length = T0.length + s.1.length)
    ⟨_, (F0, T0), rfl, s4, rfl, hD4, hr4, bi, hh, fun x hx => (by cases hx), Nat.le_refl _, rfl⟩ (fun i σ H' _ h => ?_) (fun i x σ H5 H5' hi h y => ?_) fun σ H5 h => ?_
  · obtain ⟨_, _, _, s', _⟩ := h
    exact s' _ _ hd
  · obtain ⟨x5, ⟨F1, T1⟩, rfl, s5, hfold, hD5, hr5, b5, hh5, hcl, hf0, hft⟩ := h
    obtain ⟨s6, k, kv, hk, rfl⟩ := y
    have hil : i < ls.length := by omega
    have hget : ls[i]? = some ls[i] := List.getElem?_eq_getElem hil
    generalize ls[i] = own at hget
    have ek : k = .inl own := by
      have h1 : ((dictI ls la).map (·.1))[i]? = some k := by rw [List.getElem?_map, hk]; rfl
      rw [dictI_fst, List.getElem?_map, hget] at h1
      exact (Option.some.inj h1).symm
    subst ek
    have hmem := List.mem_of_getElem? hget
    have htake : ls.take (i + 1) = ls.take i ++ [own] := by rw [List.take_add_one, hget]; rfl
    have s5 := Same.trans s5 s6
    have hD5 := s6 _ _ hD5
    have hr5 := s6 _ _ hr5
    obtain ⟨hl1, hl2, hl3⟩ := hli own hmem
    have hstep : (ls.take (i + 1)).foldl (bs1 fn here) (F0, T0) = bs1 fn here (F1, T1) own := by
      rw [htake, List.foldl_append, hfold]
      rfl
    have hFl : F1.length ≤ ls.length := b5.small
    refine ⟨.int own, rfl, .ref D, rfl, D, _, rfl, dgetN hD5, _, rfl, ?_⟩
    by_cases hin : own ∈ F1.map (·.1)
    · refine iteF (by rw [dictN_some b5.ndk (mem_lk b5.ndk hin)]; rfl) (iteF rfl ⟨_, (F1, T1), rfl, s5, ?_, hD5, hr5, b5, hh5, fun x hx hr => ?_, hf0, hft⟩)
      · rw [hstep]
        unfold bs1
        rw [if_neg fun h => h.1 hin]
      · rw [htake] at hx
        rcases List.mem_append.mp hx with hx | hx
        · exact hcl x hx hr
        · rw [List.mem_singleton.mp hx]; exact hin
    · refine iteT (by rw [dictN_none hin]; rfl) ?_
      refine ⟨.int here, rfl, .ref d, rfl, .int own, rfl, d, _, rfl, dgetI hnd hmem (.inr ⟨o, s5 _ _ hd⟩), la own, _, rfl, .inl (.inl (.inl (s5 _ _ hl1))), rfl, flat_ints _, _, rfl, ?_⟩
      by_cases hc : here ∈ fn own
      · refine iteT (by rw [inV_ints, decide_eq_true hc]; rfl) ?_
        have hrel := (hl3 here).mp hc
        refine ⟨.ref D, rfl, .int here, rfl, D, _, rfl, (dictN_some b5.ndk (mem_lk b5.ndk hh5)) ▸ dgetN hD5, (lk F1 here : Nat), 1, rfl, rfl, .ref D, rfl, .int own, rfl, D, _, rfl, .inl ⟨_, .inl own, hD5, rfl, small1000 (by unfold dictN; rw [List.length_map]; show F1.length ≤ 1000; omega), rfl⟩, ?_⟩
        rw [putK_app (fun z hz e => by
          obtain ⟨p, hp, rfl⟩ := List.mem_map.mp hz
          exact hin (List.mem_map.mpr ⟨p, hp, Sum.inl.inj e⟩))]
        have edn : dictN F1 ++ [(.inl own, V.int ((lk F1 here : Nat) + 1))] = dictN (F1 ++ [(own, lk F1 here + 1)]) := by
          unfold dictN
          rw [List.map_append]
          rfl
        rw [edn]
        have hr6 : (L2.upd H5' D (.dK (dictN (F1 ++ [(own, lk F1 here + 1)])))) rl = some (.lst (T1.map V.int)) := by rw [upd_ne (Ne.symm hDr)]; exact hr5
        have hD6 : (L2.upd H5' D (.dK (dictN (F1 ++ [(own, lk F1 here + 1)])))) D = some (.dK (dictN (F1 ++ [(own, lk F1 here + 1)]))) := upd_same
        have s6' : Same H (L2.upd H5' D (.dK (dictN (F1 ++ [(own, lk F1 here + 1)])))) := Same.put s5 nD
        generalize (L2.upd H5' D (.dK (dictN (F1 ++ [(own, lk F1 here + 1)])))) = H6 at hr6 hD6 s6' ⊢
        have hT0 : T0.length ≤ 1000 := by
          have h1 := bi.len
          have h2 := bi.small
          omega
        refine ⟨.ref rl, rfl, tyL hr6, .int own, rfl, rl, _, .int own, rfl, rfl, hr6, small1000 ?_, ?_⟩
        · rw [List.length_map]
          have hTF : T1.length ≤ F1.length := b5.len
          show T1.length ≤ 1000
          omega
        refine ⟨_, (F1 ++ [(own, lk F1 here + 1)], T1 ++ [own]), rfl, Same.put s6' nrlH, ?_, by rw [upd_ne hDr]; exact hD6, ?_, b5.push hh5 hmem hin hrel, ?_, fun x hx hr => ?_, ?_, ?_⟩
        · rw [hstep]
          unfold bs1
          rw [if_pos ⟨hin, hc⟩]
        · rw [upd_same, List.map_append]
          rfl
        · rw [List.map_append]
          exact List.mem_append.mpr (.inl hh5)
        · rw [List.map_append]
          rw [htake] at hx
          rcases List.mem_append.mp hx with hx | hx
          · exact List.mem_append.mpr (.inl (hcl x hx hr))
          · exact List.mem_append.mpr (.inr (by simpa using hx))
        · rw [List.length_append]
          have hf0 : F0.length ≤ F1.length := hf0
          omega
        · rw [List.length_append, List.length_append]
          have hft : T1.length + F0.length = T0.length + F1.length := hft
          simp only [List.length_singleton]
          omega
      · refine iteF (by rw [inV_ints, decide_eq_false hc]; rfl) ⟨_, (F1, T1), rfl, s5, ?_, hD5, hr5, b5, hh5, fun x hx hr => ?_, hf0, hft⟩
        · rw [hstep]
          unfold bs1
          rw [if_neg fun h => hc h.2]
        · rw [htake] at hx
          rcases List.mem_append.mp hx with hx | hx
          · exact hcl x hx hr
          · rw [List.mem_singleton.mp hx] at hr
            exact absurd ((hl3 here).mpr hr) hc
  · obtain ⟨x5, ⟨F1, T1⟩, rfl, s5, hfold, hD5, hr5, b5, hh5, hcl, hf0, hft⟩ := h
    rw [hdl, List.take_length] at hcl hfold
    have hFl : F1.length ≤ ls.length := b5.small
    refine ⟨_, ?_, F1, T1, _, _, rfl, s5, hD5, hr5, b5.close hcl, ⟨n0 + 1, ?_⟩, rfl⟩
    · have hft : T1.length + F0.length = T0.length + F1.length := hft
      have hf0 : F0.length ≤ F1.length := hf0
      have hFl : F1.length ≤ ls.length := hFl
      rw [List.length_cons]
      omega
    · show bstep ls fn (biter ls fn n0 ([(g, 0)], [g])) = _
      rw [hn0]
      exact hfold
end
end BC
namespace BC
open PySem PySem.Spec PyProof.Rows L2 BX
theorem pair_dp {K : PySem.W.Frag} {H : Hp} {v : V} {p : Int × Int} (h : PairAt H v p) : Dp K H v (.tuple [.int p.1, .int p.2]) := by
  obtain ⟨a, rfl, h⟩ := h
  exact .tup (SqT.of h) (.cons (.int _) (.cons (.int _) .nil))
section
variable {P : Program} {w : World} {K : PySem.W.Frag} {mg : Str → Option Value} {base : Heap} {f : Addr} {fd : FuncData}
theorem sc_crown : FnScope ["run", "own", "links", "sizes", "steps", "many", "first", "found", "far"] ["run"] (defScope s_crown) := ⟨rfl, rfl, rfl, by decide +kernel, rfl, by decide +kernel, by decide +kernel⟩
-- slots: 0:run 1:own 2:links 3:sizes 4:steps 5:many 6:first 7:found 8:far
def spCrown : Sp := fun vs H Q _ => ∃ v R, vs = [v] ∧ RunAt H v R ∧ Fine R ∧ (∀ H', Same H H' → ¬ Cyc R → Q .non H') ∧ ∀ a ns H', Same H H' → IsCrown R ns → H' a = some (.tup (ns.map V.int)) → Q (.ref a) H'
theorem cal_crown (F : FnP K "crown" s_crown f fd) (hm : mg "crown" = some (.ref f)) (T : Txt K mg) (c_links_of : C8.Cal P w K mg base 8 "links_of" spLinks []) (c_steps_to : C8.Cal P w K mg base 1 "steps_to" spSteps []) : C8.Cal P w K mg base 9 "crown" spCrown [] := by
  refine cal_of F hm sc_crown (fun kV doc pm an cdv ct us hl => match us, hl with | [_], _ => rfl) (fun vs H Q E h => ?_) (fun cdv A outer s H vs Q E hr h => ?_)
  · obtain ⟨_, _, rfl, _⟩ := h; rfl
  obtain ⟨v, R, rfl, hR, fn, q1, q2⟩ := h
  have nd := sc_crown.nd
  have hu1 := Nat.lt_of_le_of_lt (Nat.add_le_add_left (show 1 ≤ 64 by decide) _) hr.units
  have hu64 := hr.units
  have hu65 := room65 hr
  refine ⟨_, (pss_cons (ps_par (i := 2) (j := 3) rfl nd rfl rfl (by decide) rfl rfl (pa_cons (C8.pe_c c_links_of hr (by omega) (by rfl) (pa_cons (pv 0) pa_nil)) (pa_cons (pe_lst pa_nil) pa_nil)) (by rfl))
    (pss_cons (ps_for PassesOwn.never rfl (pi_keysC (pv 2)) (pg_name (i := 1) nd rfl (Or.inr rfl)) (pss_cons (ps_set (i := 4) nd rfl (Or.inr rfl) (C8.pe_c c_steps_to hr (by omega) (by rfl) (pa_cons (pv 2) (pa_cons (pv 1) pa_nil))))
    (pss_one (ps_expr (pe_bm PySem.F.plainAttrs_list PySem.F.slot_list_extend PySem.F.type_list_extend mt_extend (pv 3) (pa_cons (pe_lc (own := [("far", 8)]) (g := (gName 8)) (tt := _) rfl nd (pi_list (pe_dget hu1 (pv 2) (pv 1) (fun _ _ => rfl))) (blkOk_by (by rfl)) (fun _ _ _ _ _ => (pg_name (i := 8) nd rfl (Or.inl rfl))) (fun _ _ _ _ _ => pts_one (pt_cmp (pc_din hu1 (pv 8) (pv 4)))) (fun _ _ _ _ _ => (pe_tup (pa_cons (pe_op op_add pe_int (pe_dget hu1 (pv 4) (pv 8) (fun _ _ => rfl))) (pa_cons (pv 1) pa_nil))))) pa_nil))))))
    (pss_cons (ps_if (pt_cmpR op_eq (pe_callB call_len_seq (by rfl) T.n_len (by decide +kernel) (pa_cons (pv 3) pa_nil)) pe_int (nomark _)) (pss_one (ps_ret pe_non)) pss_nil)
    (pss_cons (ps_asg (pe_callB (cr_minD rfl hu64) (by rfl) T.n_min (by decide +kernel) (pa_cons (pv 3) pa_nil)) (pg_tup rfl (pgs_cons (pg_name (i := 5) nd rfl (Or.inr rfl)) (pgs_cons (pg_name (i := 6) nd rfl (Or.inl rfl)) pgs_nil))))
    (pss_cons (ps_asg (pe_tup (pa_cons (C8.pe_c c_steps_to hr (by omega) (by rfl) (pa_cons (pv 2) (pa_cons (pv 6) pa_nil))) (pa_cons (pe_lst (pa_cons (pv 6) pa_nil)) pa_nil))) (pg_tup rfl (pgs_cons (pg_name (i := 4) nd rfl (Or.inr rfl)) (pgs_cons (pg_name (i := 7) nd rfl (Or.inr rfl)) pgs_nil))))
    (pss_cons (ps_while PassesOwn.never (pt_cmpR op_lt (pe_callB call_len_seq (by rfl) T.n_len (by decide +kernel) (pa_cons (pv 7) pa_nil)) (pv 5) (nomark _)) (pss_one (ps_expr (pe_bm PySem.F.plainAttrs_list PySem.F.slot_list_append PySem.F.type_list_append mt_append (pv 7) (pa_cons (pe_callB (cr_minD rfl hu64) (by rfl) T.n_min (by decide +kernel) (pa_cons (pe_lc (own := [("far", 8)]) (g := (gName 8)) (tt := _) rfl nd (pi_list (pe_dget hu1 (pv 2) (pe_ix ix_list (pv 7) (pe_un un_neg pe_int) (fun _ _ => rfl)) (fun _ _ => rfl))) (blkOk_by (by rfl)) (fun _ _ _ _ _ => (pg_name (i := 8) nd rfl (Or.inl rfl))) (fun _ _ _ _ _ => pts_one (pt_cmpR op_eq (pe_dget1 hu1 (pv 4) (pv 8) ⟨by rfl, by rfl, by rfl, by rfl⟩) (pe_op op_sub (pv 5) (pe_callB (call_len_seqK (K := K) rfl) (by rfl) T.n_len (by decide +kernel) (pa_cons (pv 7) pa_nil))) (nomark _))) (fun _ _ _ _ _ => (pv 8))) pa_nil)) pa_nil)))))
    (pss_one (ps_ret (pe_callTy call_tuple_of (by rfl) T.n_tuple (by decide +kernel) (pa_cons (pv 7) pa_nil)))))))))), ?_⟩
  refine ⟨v, rfl, v, R, rfl, hR, fn, fun d ls H1 hdi hls => ⟨Nat.zero_le _, fun sz nsz => ⟨.ref d, .ref sz, rfl, ?_⟩⟩⟩
  obtain ⟨s1, nd1, la, fl, hd1, hli1⟩ := hdi
  have hll := hls.len
  have dsz : d ≠ sz := fun h => by rw [h, nsz] at hd1; cases hd1
  have hd1' : (L2.upd H1 sz (.lst [])) d = some (.dK (dictI ls la)) := by rw [upd_ne dsz]; exact hd1
  refine ⟨.ref d, rfl, d, rfl, .inl ⟨_, hd1', fun o => ?_⟩⟩
  have e0 : L2.upd (L2.upd H1 sz (.lst [])) d (.frz o (.dK (dictI ls la))) = L2.upd (L2.upd H1 d (.frz o (.dK (dictI ls la)))) sz (.lst []) := by
    funext b
    unfold L2.upd
    by_cases h1 : b = d
    · subst h1; simp [dsz]
    · simp [h1]
  rw [e0]
  have sb : Same H (L2.upd H1 d (.frz o (.dK (dictI ls la)))) := Same.put s1 nd1
  have hdb : (L2.upd H1 d (.frz o (.dK (dictI ls la)))) d = some (.frz o (.dK (dictI ls la))) := upd_same
  have hlib : LsI (L2.upd H1 d (.frz o (.dK (dictI ls la)))) ls la fl (Link R) := fun n hn => ⟨by
    rw [upd_ne fun h => by have := (hli1 n hn).1; rw [h, hd1] at this; cases this]
    exact (hli1 n hn).1, (hli1 n hn).2⟩
  have nszb : (L2.upd H1 d (.frz o (.dK (dictI ls la)))) sz = none := by rw [upd_ne (Ne.symm dsz)]; exact nsz
  generalize (L2.upd H1 d (.frz o (.dK (dictI ls la)))) = Hb at sb hdb hlib nszb ⊢
  have hdl : (dictI ls la).length = ls.length := by unfold dictI; rw [List.length_map]
  clear e0 hd1 hd1' nsz hli1
  have hmemR : ∀ x y, Link R x y → x ∈ ls := fun x y h => (hls.mem x).mpr (link_mem fn.ok h).1
  refine L2.for_it (wp_keys (d := d) (o := o) (kvs := dictI ls la)) (fun i σ H' => ∃ x1 x4 x5 x6 x7 x8, σ = [some v, x1, some (.ref d), some (.ref sz), x4, x5, x6, x7, x8] ∧ Same Hb H' ∧ ∃ prs vs, H' sz = some (.lst vs) ∧ Paired (PairAt H') vs prs ∧ prs.length ≤ 40 * i ∧
      (∀ p ∈ prs, ∃ far F, Runs ls fl p.2 F ∧ Steps ls (Link R) p.2 F ∧ p.2 ∈ ls ∧ Link R p.2 far ∧ far ∈ F.map (·.1) ∧ p.1 = ((1 + lk F far : Nat) : Int)) ∧ ∀ own ∈ ls.take i, ∀ far, Link R own far → Tc (Link R) far own → prs ≠ [])
    ⟨_, _, _, _, _, _, rfl, Same.new nszb, [], [], upd_same, .nil, Nat.zero_le _, fun p hp => (by cases hp), fun x hx => (by cases hx)⟩ (fun i σ H' _ h => ?_) (fun i x σ H2 H2' hi h y => ?_) fun σ H2 h => ?_
  · obtain ⟨_, _, _, _, _, _, _, s', _⟩ := h
    exact s' _ _ hdb
  · obtain ⟨x1, x4, x5, x6, x7, x8, rfl, s2, prs, vs, hsz, hvs, hpl, hpr, hcyc⟩ := h
    obtain ⟨s3, k, kv, hk, rfl⟩ := y
    have hil : i < ls.length := by omega
    have hget : ls[i]? = some ls[i] := List.getElem?_eq_getElem hil
    generalize ls[i] = own at hget
    have ek : k = .inl own := by
      have h1 : ((dictI ls la).map (·.1))[i]? = some k := by rw [List.getElem?_map, hk]; rfl
      rw [dictI_fst, List.getElem?_map, hget] at h1
      exact (Option.some.inj h1).symm
    subst ek
    have hmem := List.mem_of_getElem? hget
    have htake : ls.take (i + 1) = ls.take i ++ [own] := by rw [List.take_add_one, hget]; rfl
    have s2 := Same.trans s2 s3
    have hsz := s3 _ _ hsz
    have hvs := Paired.imp (fun _ _ h => PairAt.mono (Same.ts s3) h) hvs
    refine ⟨.ref d, rfl, .int own, rfl, d, o, own, ls, la, fl, Link R, rfl, s2 _ _ hdb, hlib.same s2, hls.nd, hll, hmem, fun D F H3 s4 nD hD hst hrun => ?_⟩
    have s24 := Same.trans s2 s4
    have hsz3 := s4 _ _ hsz
    have hvs3 := Paired.imp (fun _ _ h => PairAt.mono (Same.ts s4) h) hvs
    obtain ⟨hl1, hl2, hl3⟩ := hlib.same s24 own hmem
    refine ⟨.ref sz, rfl, tyL hsz3, .ref d, rfl, .int own, rfl, d, _, rfl, dgetI hls.nd hmem (.inr ⟨o, s24 _ _ hdb⟩), la own, rfl, ⟨_, .inl (.inl hl1)⟩, fun D2 nD2 => ?_⟩
    refine lc_fm wp_list (fl own) (fun far => if far ∈ F.map (·.1) then some (((1 + lk F far : Nat) : Int), own) else none) PairAt (fun _ _ _ _ t h => h.mono t) (by rw [List.length_map]) (by rw [List.length_map]; omega) nD2 (fun H' s' => .inl (.inl (s' _ _ hl1))) (fun j far x H' K1 K0 hfar s' hj qa qb => ?_) fun H4 acc s5 hD2 hacc => ?_
    · rw [List.getElem?_map, hfar] at hj
      cases hj
      have hD' := s' _ _ hD
      refine ⟨rfl, .int far, rfl, .ref D, rfl, D, _, rfl, dgetN hD', _, rfl, ?_⟩
      by_cases hin : far ∈ F.map (·.1)
      · have ev := dictN_some hst.ndk (mem_lk hst.ndk hin)
        refine iteT (by rw [ev]; rfl) ⟨.ref D, rfl, .int far, rfl, D, _, rfl, ev ▸ dgetN hD', 1, (lk F far : Nat), rfl, rfl, .int own, rfl, two_le, fun p np => qa _ _ _ (Same.new np) (if_pos hin) ⟨p, rfl, ?_⟩⟩
        rw [upd_same]
        have e1 : ((1 + lk F far : Nat) : Int) = 1 + (lk F far : Nat) := by omega
        rw [e1]
      · exact iteF (by rw [dictN_none hin]; rfl) (qb (if_neg hin) _ (Same.rf _))
    have s25 := Same.trans s24 s5
    have hsz4 := s5 _ _ hsz3
    have hvs4 := Paired.imp (fun _ _ h => PairAt.mono (Same.ts s5) h) hvs3
    have hal := Paired.len hacc
    have hvl := Paired.len hvs4
    have hfl := List.length_filterMap_le (fun far => if far ∈ F.map (·.1) then some (((1 + lk F far : Nat) : Int), own) else none) (fl own)
    refine ⟨sz, D2, vs, acc, rfl, rfl, hsz4, hD2, Nat.le_trans (show vs.length + acc.length ≤ 2000 by omega) (by decide), ?_⟩
    have t6 : TSame H4 (L2.upd H4 sz (.lst (vs ++ acc))) := .lst hsz4
    refine ⟨_, _, _, _, _, _, rfl, Same.put s25 nszb, prs ++ _, _, upd_same, Paired.app (Paired.imp (fun _ _ h => PairAt.mono t6 h) hvs4) (Paired.imp (fun _ _ h => PairAt.mono t6 h) hacc), ?_, fun p hp => ?_, fun own' ho far hL hT => ?_⟩
    · rw [List.length_append]
      omega
    · rcases List.mem_append.mp hp with hp | hp
      · exact hpr p hp
      · obtain ⟨far, hf, e⟩ := List.mem_filterMap.mp hp
        by_cases hin : far ∈ F.map (·.1)
        · rw [if_pos hin] at e
          cases e
          exact ⟨far, F, hrun, hst, hmem, (hl3 far).mp hf, hin, rfl⟩
        · rw [if_neg hin] at e
          cases e
    · rw [htake] at ho
      rcases List.mem_append.mp ho with ho | ho
      · intro e
        exact hcyc own' ho far hL hT (List.append_eq_nil_iff.mp e).1
      · have e := List.mem_singleton.mp ho
        subst e
        have hin := hst.all hmemR hT
        intro e
        have := (List.append_eq_nil_iff.mp e).2
        have h2 := List.filterMap_eq_nil_iff.mp this far ((hl3 far).mpr hL)
        rw [if_pos hin] at h2
        cases h2
  -- is there any
  obtain ⟨x1, x4, x5, x6, x7, x8, rfl, s2, prs, vs, hsz, hvs, hpl, hpr, hcyc⟩ := h
  rw [hdl] at hpl
  rw [hdl, List.take_length] at hcyc
  have hvl := Paired.len hvs
  refine ⟨.ref sz, rfl, sz, vs, rfl, .inl (.inl (.inl hsz)), rfl, _, rfl, ?_⟩
  cases hp0 : prs with
  | nil =>
    rw [hp0] at hvl hcyc
    refine iteT (by rw [hvl]; exact decide_eq_true rfl) (q1 _ (Same.trans sb s2) ?_)
    rintro ⟨x, hx⟩
    have : ∃ y, Link R x y ∧ Tc (Link R) y x := by
      cases hx with
      | one e => exact absurd rfl e.1
      | cons e t => exact ⟨_, e, t⟩
    obtain ⟨y, h1, h2⟩ := this
    exact hcyc x (hmemR _ _ h1) y h1 h2 rfl
  | cons p0 prs0 =>
  refine iteF (by rw [hvl, hp0]; refine decide_eq_false fun h => ?_; injection h with h; simp at h; omega) ?_
  have hdps : DpAll K H2 vs (prs.map fun p => .tuple [.int p.1, .int p.2]) := dps (enc := fun p : Int × Int => .tuple [.int p.1, .int p.2]) (fun _ _ h => pair_dp h) hvs
  rw [hp0, List.map_cons] at hdps
  refine ⟨.ref sz, rfl, sz, vs, _, _, rfl, .inl (.inl hsz), hdps, ⟨fun x hx y hy => ?_, fun x hx => ?_⟩, ?_, fun vm hvm => ?_⟩
  · rw [← List.map_cons (f := fun p : Int × Int => PyData.tuple [.int p.1, .int p.2])] at hx hy
    obtain ⟨a, _, rfl⟩ := List.mem_map.mp hx
    obtain ⟨b, _, rfl⟩ := List.mem_map.mp hy
    simp [PySem.W.alike, PySem.W.alikeAll]
  · rw [← List.map_cons (f := fun p : Int × Int => PyData.tuple [.int p.1, .int p.2])] at hx
    obtain ⟨a, _, rfl⟩ := List.mem_map.mp hx
    nofun
  · rw [← List.map_cons (f := fun p : Int × Int => PyData.tuple [.int p.1, .int p.2])]
    refine Nat.le_trans (depths (n := 1) (fun p => ?_) _) (by decide)
    simp [PyData.depth, PyData.depthAll]
  obtain ⟨⟨many, first⟩, hpm, b, rfl, hb⟩ := Paired.mem hvs hvm
  obtain ⟨far0, F, hrun, hst, hfirst, hL0, hfar0, hmany⟩ := hpr _ hpm
  have hmany : many = ((1 + lk F far0 : Nat) : Int) := hmany
  have hfirst : first ∈ ls := hfirst
  have hL0 : Link R first far0 := hL0
  clear hvm hdps hpr hcyc hp0 hpl
  refine ⟨b, _, rfl, SqT.of hb, rfl, .int many, [.int first], rfl, .int first, [], rfl, rfl, ?_⟩
  refine ⟨.ref d, rfl, .int first, rfl, d, o, first, ls, la, fl, Link R, rfl, s2 _ _ hdb, hlib.same s2, hls.nd, hll, hfirst, fun D F' H3 s3 nD hD hst' hrun' => ?_⟩
  have eF : F = F' := hrun.unique hrun'
  subst eF
  clear hst' hrun'
  refine ⟨.int first, rfl, Nat.le_of_lt two_le, fun fo nfo => ⟨two_le, fun p np => ?_⟩⟩
  have s23 := Same.trans s2 s3
  have s4 : Same H3 (L2.upd (L2.upd H3 fo (.lst [.int first])) p (.tup [.ref D, .ref fo])) := Same.trans (Same.new nfo) (Same.new np)
  have hp4 : (L2.upd (L2.upd H3 fo (.lst [.int first])) p (.tup [.ref D, .ref fo])) p = some (.tup [.ref D, .ref fo]) := upd_same
  have hfo4 : (L2.upd (L2.upd H3 fo (.lst [.int first])) p (.tup [.ref D, .ref fo])) fo = some (.lst ([first].map V.int)) := (Same.new np) _ _ upd_same
  generalize (L2.upd (L2.upd H3 fo (.lst [.int first])) p (.tup [.ref D, .ref fo])) = H4 at s4 hp4 hfo4 ⊢
  refine ⟨p, _, rfl, SqT.of hp4, rfl, .ref D, [.ref fo], rfl, .ref fo, [], rfl, rfl, ?_⟩
  have hst0 : lk F first = 0 := lk_of hst.ndk hst.gz
  have hfar1 : 1 ≤ lk F far0 := by
    rcases Nat.eq_zero_or_pos (lk F far0) with h | h
    · have h1 := mem_lk hst.ndk hfar0
      rw [h] at h1
      exact absurd (hst.zero h1).symm hL0.1
    · exact h
  have hbnd : 1 + lk F far0 ≤ 40 := by
    have h1 := hst.bound (mem_lk hst.ndk hfar0)
    have h2 := hst.small
    omega
  have hlsE : ∀ n, n ∈ ls → (n, true) ∈ ends R := fun n h => (hls.mem n).mp h
  generalize hM : 1 + lk F far0 = M at hmany hbnd
  subst hmany
  have sF3 : Same H3 H4 := s4
  refine ⟨fun m σ H' => ∃ ns x8, σ = [some v, x1, some (.ref d), some (.ref sz), some (.ref D), some (.int (M : Nat)), some (.int first), some (.ref fo), x8] ∧ Same H3 H' ∧ H' fo = some (.lst (ns.map V.int)) ∧ Ring R (lk F) first M ns ∧ (∀ n ∈ ns, n ∈ F.map (·.1)) ∧ m = M - ns.length,
    ⟨_, [first], _, rfl, s4, hfo4, ⟨rfl, fun p hp => (by simp at hp), fun i x hi hx => (by
      rw [List.getElem?_eq_none (by simp; omega)] at hx
      cases hx), fun n hn => (by rw [List.mem_singleton.mp hn]; exact hlsE _ hfirst), (by simp; omega)⟩, fun n hn => (by rw [List.mem_singleton.mp hn]; exact List.mem_map.mpr ⟨_, hst.gz, rfl⟩), rfl⟩, ?_⟩
  rintro m σ H5 ⟨ns, x8, rfl, s5, hfo, ring, hkeys, rfl⟩
  have hle := ring.le
  have s25 := Same.trans s23 s5
  have hne : ns ≠ [] := fun h => by have := ring.hd; rw [h] at this; cases this
  obtain ⟨init, last, rfl⟩ : ∃ init last, ns = init ++ [last] := ⟨ns.dropLast, ns.getLast hne, (List.dropLast_concat_getLast hne).symm⟩
  have hgl : (init ++ [last]).getLast? = some last := by simp
  have hlk : last ∈ F.map (·.1) := hkeys last (by simp)
  have hll2 : last ∈ ls := hst.sub last hlk
  have hstl : init.length = 0 ∨ lk F last + init.length = M := by
    rcases Nat.eq_zero_or_pos init.length with h | h
    · exact .inl h
    · exact .inr (ring.st init.length last (by omega) (by simp))
  have hnl : (init ++ [last]).length = init.length + 1 := by rw [List.length_append]; rfl
  rw [hnl] at hle
  refine ⟨.ref fo, rfl, fo, _, rfl, .inl (.inl (.inl hfo)), .int (M : Nat), rfl, _, (M : Nat), rfl, rfl, _, rfl, ?_⟩
  by_cases hlt : init.length + 1 < M
  · refine iteT (decide_eq_true (by rw [List.length_map, hnl]; omega)) ⟨_, fun _ _ h => h, ?_⟩
    obtain ⟨hl1, hl2, hl3⟩ := hlib.same s25 last hll2
    have hD5 := s5 _ _ hD
    refine ⟨.ref fo, rfl, tyL hfo, .ref d, rfl, .ref fo, rfl, 1, rfl, fo, _, -1, .int last, rfl, rfl, .inl (.inl hfo), by rw [List.map_append]; exact atI_last _ _, d, _, rfl, dgetI hls.nd hll2 (.inr ⟨o, s25 _ _ hdb⟩), la last, rfl, ⟨_, .inl (.inl hl1)⟩, fun D2 nD2 => ?_⟩
    refine lc_fm wp_list (fl last) (fun far => if far ∈ F.map (·.1) ∧ lk F far + (init.length + 1) = M then some far else none) (fun _ v n => v = .int n) (fun _ _ _ _ _ h => h) (by rw [List.length_map]) (by rw [List.length_map]; omega) nD2 (fun H' s' => .inl (.inl (s' _ _ hl1))) (fun j far x H' K1 K0 hfar s' hj qa qb => ?_) fun H6 acc s6 hD2 hacc => ?_
    · rw [List.getElem?_map, hfar] at hj
      cases hj
      have hD' := s' _ _ hD5
      refine ⟨rfl, .ref D, rfl, D, rfl, .inl ⟨_, .inl hD'⟩, .int far, rfl, _, dgetN hD', .int (M : Nat), rfl, .ref fo, rfl, fo, _, rfl, .inl (.inl (.inl (s' _ _ hfo))), (M : Nat), _, rfl, rfl, ?_⟩
      by_cases hin : far ∈ F.map (·.1)
      · have ev := dictN_some hst.ndk (mem_lk hst.ndk hin)
        rw [ev]
        refine ⟨rfl, _, rfl, ?_⟩
        by_cases hs : lk F far + (init.length + 1) = M
        · refine iteT (decide_eq_true ?_) ⟨.int far, rfl, qa _ _ far (Same.rf _) (if_pos ⟨hin, hs⟩) rfl⟩
          rw [List.length_map, hnl]
          show V.int _ = V.int _
          congr 1
          omega
        · refine iteF (decide_eq_false fun h => hs ?_) (qb (if_neg fun z => hs z.2) _ (Same.rf _))
          rw [List.length_map, hnl] at h
          injection h with h
          omega
      · rw [dictN_none hin]
        exact ⟨rfl, _, rfl, iteF (decide_eq_false fun h => by cases h) (qb (if_neg fun z => hin z.1) _ (Same.rf _))⟩
    have eacc := Paired.ints.mp hacc
    -- there is one
    have hex : ∃ y, y ∈ (fl last).filterMap (fun far => if far ∈ F.map (·.1) ∧ lk F far + (init.length + 1) = M then some far else none) := by
      rcases hstl with h | h
      · have hi : init = [] := List.length_eq_zero_iff.mp h
        subst hi
        have e := ring.hd
        simp at e
        subst e
        refine ⟨far0, List.mem_filterMap.mpr ⟨far0, (hl3 far0).mpr hL0, if_pos ⟨hfar0, ?_⟩⟩⟩
        rw [← hM]
        simp
        omega
      · obtain ⟨y, hy1, hy2, hy3⟩ := hst.next hlk (by omega)
        exact ⟨y, List.mem_filterMap.mpr ⟨y, (hl3 y).mpr hy2, if_pos ⟨hy1, by omega⟩⟩⟩
    generalize hfm : (fl last).filterMap (fun far => if far ∈ F.map (·.1) ∧ lk F far + (init.length + 1) = M then some far else none) = fs at eacc hex hacc
    have hfs : ∀ y ∈ fs, Link R last y ∧ y ∈ F.map (·.1) ∧ lk F y + (init.length + 1) = M := by
      intro y hy
      rw [← hfm] at hy
      obtain ⟨z, hz, e⟩ := List.mem_filterMap.mp hy
      by_cases hc : z ∈ F.map (·.1) ∧ lk F z + (init.length + 1) = M
      · rw [if_pos hc] at e
        cases e
        exact ⟨(hl3 _).mp hz, hc.1, hc.2⟩
      · rw [if_neg hc] at e
        cases e
    cases fs with
    | nil => obtain ⟨y, hy⟩ := hex; cases hy
    | cons f0 fr =>
    subst eacc
    have hdp6 : DpAll K H6 ((f0 :: fr).map V.int) (.int f0 :: fr.map PyData.int) := ints_dp (f0 :: fr)
    refine ⟨D2, _, _, _, rfl, .inl (.inl hD2), hdp6, ⟨fun x hx y hy => ?_, fun x hx => ?_⟩, ?_, fun vm hvm => ?_⟩
    · rw [← List.map_cons (f := PyData.int)] at hx hy
      obtain ⟨a, _, rfl⟩ := List.mem_map.mp hx
      obtain ⟨b, _, rfl⟩ := List.mem_map.mp hy
      simp [PySem.W.alike]
    · rw [← List.map_cons (f := PyData.int)] at hx
      obtain ⟨a, _, rfl⟩ := List.mem_map.mp hx
      nofun
    · rw [← List.map_cons (f := PyData.int)]
      refine Nat.le_trans (depths (n := 1) (fun p => ?_) _) (by decide)
      simp [PyData.depth]
    obtain ⟨y, hy, rfl⟩ := List.mem_map.mp hvm
    obtain ⟨hy1, hy2, hy3⟩ := hfs y hy
    have hfo6 := s6 _ _ hfo
    refine ⟨fo, _, .int y, rfl, rfl, hfo6, small1000 (by rw [List.length_map, hnl]; omega), ?_⟩
    refine ⟨_, ?_, (init ++ [last]) ++ [y], _, rfl, Same.put (Same.trans s5 s6) nfo, by rw [upd_same, List.map_append (l₁ := init ++ [last])]; rfl, ring.app hgl hy1 (by rw [hnl]; exact hy3) (by rw [hnl]; exact hlt) (hlsE _ (hst.sub y hy2)), fun n hn => ?_, rfl⟩
    · rw [List.length_append, hnl]
      simp only [List.length_singleton]
      omega
    · rcases List.mem_append.mp hn with hn | hn
      · exact hkeys n hn
      · rw [List.mem_singleton.mp hn]; exact hy2
  · have hnm : init.length + 1 = M := by omega
    refine iteF (decide_eq_false (by rw [List.length_map, hnl]; omega)) ?_
    refine ⟨.ref fo, rfl, fo, _, rfl, .inl ⟨.inl (.inl hfo), fun l nl => q2 l (init ++ [last]) _ (Same.trans sb (Same.trans s25 (Same.new nl))) ?_ upd_same⟩⟩
    have hst1 : lk F last = 1 := by
      rcases hstl with h | h
      · omega
      · omega
    obtain ⟨y, hy1, hy2, hy3⟩ := hst.next hlk (by omega)
    have hy0 : lk F y = 0 := by omega
    have hym := mem_lk hst.ndk hy1
    rw [hy0] at hym
    rw [hst.zero hym] at hy2
    exact ring.crown (by rw [hnl]; exact hnm) (by omega) (by omega) hst0 hgl hy2
theorem sc_is_crown : FnScope ["run", "thing", "links", "own", "far"] ["run", "thing"] (defScope s_is_crown) := ⟨rfl, rfl, rfl, by decide +kernel, rfl, by decide +kernel, by decide +kernel⟩
-- slots: 0:run 1:thing 2:links 3:own 4:far
def spIsCrown : Sp := fun vs H Q _ => ∃ v R a ns, vs = [v, .ref a] ∧ RunAt H v R ∧ Fine R ∧ H a = some (.tup (ns.map V.int)) ∧ IsCrown R ns ∧ ∀ H', Same H H' → Q (.bl true) H'
theorem cal_is_crown (F : FnP K "is_crown" s_is_crown f fd) (hm : mg "is_crown" = some (.ref f)) (T : Txt K mg) (c_is_number : C8.Cal P w K mg base 1 "is_number" spNum []) (c_links_of : C8.Cal P w K mg base 8 "links_of" spLinks []) : C8.Cal P w K mg base 9 "is_crown" spIsCrown [] := by
  refine cal_of F hm sc_is_crown (fun kV doc pm an cdv ct us hl => match us, hl with | [_, _], _ => rfl) (fun vs H Q E h => ?_) (fun cdv A outer s H vs Q E hr h => ?_)
  · obtain ⟨_, _, _, _, rfl, _⟩ := h; rfl
  obtain ⟨v, R, a, ns, rfl, hR, fn, ha, hc, q⟩ := h
  have nd := sc_is_crown.nd
  have hu1 := Nat.lt_of_le_of_lt (Nat.add_le_add_left (show 1 ≤ 64 by decide) _) hr.units
  have hu64 := hr.units
  have hu65 := room65 hr
  refine ⟨_, (pss_cons (ps_set (i := 2) nd rfl (Or.inr rfl) (C8.pe_c c_links_of hr (by omega) (by rfl) (pa_cons (pv 0) pa_nil)))
    (pss_cons (ps_if (PW.pt (pw_or (pt_not (pt_val (pe_callB call_isi (by rfl) T.n_isinstance (by decide +kernel) (pa_cons (pv 1) (pa_cons (pe_bltn (v := .ty "tuple") (by rfl) T.n_tuple (by decide +kernel) rfl) pa_nil))))) (pw_or (pt_cmpR op_lt (pe_callB call_len_seq (by rfl) T.n_len (by decide +kernel) (pa_cons (pv 1) pa_nil)) (C8.pe_gc (by rfl) T.pair) (nomark _)) (pw_or1 (pt_not (pt_val (pe_callB (cr_all rfl) (by rfl) T.n_all (by decide +kernel) (pa_cons (pe_lc (own := [("own", 3)]) (g := (gName 3)) (tt := tYes) rfl nd (pi_tup (pv 1)) (blkOk_by (by rfl)) (fun _ _ _ _ _ => (pg_name (i := 3) nd rfl (Or.inl rfl))) (fun _ _ _ _ _ => pts_nil) (fun _ _ _ _ _ => (C8.pe_c c_is_number hr (by omega) (by rfl) (pa_cons (pv 3) pa_nil)))) pa_nil)))))))) (pss_one (ps_ret pe_bl)) pss_nil)
    (pss_cons (ps_if (PW.pt (pw_or (pt_cmpR op_ne (pe_lenSetT (by rfl) T.n_len (by rfl) T.n_set (pv 1)) (pe_callB call_len_seq (by rfl) T.n_len (by decide +kernel) (pa_cons (pv 1) pa_nil)) (nomark _)) (pw_or1 (pt_not (pt_val (pe_callB (cr_all rfl) (by rfl) T.n_all (by decide +kernel) (pa_cons (pe_lc (own := [("own", 3)]) (g := (gName 3)) (tt := tYes) rfl nd (pi_tup (pv 1)) (blkOk_by (by rfl)) (fun _ _ _ _ _ => (pg_name (i := 3) nd rfl (Or.inl rfl))) (fun _ _ _ _ _ => pts_nil) (fun _ _ _ _ _ => (pe_cmp (pc_din hu1 (pv 3) (pv 2))))) pa_nil))))))) (pss_one (ps_ret pe_bl)) pss_nil)
    (pss_one (ps_ret (pe_callB (cr_all rfl) (by rfl) T.n_all (by decide +kernel) (pa_cons (pe_lc (own := [("own", 3), ("far", 4)]) (g := (gTup K 2 (gCons (gName 3) (gCons (gName 4) gNil)))) (tt := tYes) rfl nd (RZ.pi_zipA (by rfl) T.n_zip (pa_cons (pv 1) (pa_cons (pe_op op_catA (pe_slice sl_tupA (pv 1) (po_some pe_int) po_none) (pe_slice sl_tupA (pv 1) po_none (po_some pe_int))) pa_nil))) (blkOk_by (by rfl)) (fun _ _ _ _ _ => (pg_tup rfl (pgs_cons (pg_name (i := 3) nd rfl (Or.inl rfl)) (pgs_cons (pg_name (i := 4) nd rfl (Or.inl rfl)) pgs_nil)))) (fun _ _ _ _ _ => pts_nil) (fun _ _ _ _ _ => (pe_cmpR (op_in_seqK (K := K) rfl) (pv 4) (pe_dget hu1 (pv 2) (pv 3) (fun _ _ => rfl)) (by rfl)))) pa_nil))))))), ?_⟩
  have h2 := hc.two
  have hlen := hc.len
  refine ⟨v, rfl, v, R, rfl, hR, fn, fun d ls H1 hdi hls => ?_⟩
  obtain ⟨s1, _, la, fl, hd1, hli1⟩ := hdi
  have ha1 := s1 _ _ ha
  have hin : ∀ n ∈ ns, n ∈ ls := fun n hn => (hls.mem n).mpr (hc.mem n hn)
  refine ⟨.ref a, rfl, _, _, _, _, true, rfl, .ty _, tx_tup ha1, kit_ty (by decide +kernel), true, rfl, .ref a, rfl, a, _, rfl, .inr (SqT.of ha1), _, 2, rfl, rfl, false, congrArg V.bl (decide_eq_false (by rw [List.length_map]; omega)), ?_⟩
  refine ⟨.ref a, rfl, a, rfl, ⟨_, SqT.of ha1⟩, fun D1 nD1 => ?_⟩
  refine lc_bool wp_tup ns (fun _ => true) (by rw [List.length_map]) (by rw [List.length_map]; omega) nD1 (fun H' s' => SqT.of (s' _ _ ha1)) (fun i n x H' K1 hn s' hi qa => ?_) fun H2 s2 hD1 => ?_
  · rw [List.getElem?_map, hn] at hi
    cases hi
    exact ⟨rfl, .int n, rfl, n, rfl, qa _ (Same.rf _)⟩
  refine ⟨D1, _, rfl, .inl (.inl hD1), ?_⟩
  rw [all_map_true (fun _ _ => rfl)]
  refine ⟨true, rfl, ?_⟩
  have ha2 := s2 _ _ ha1
  refine ⟨.ref a, rfl, a, ns, rfl, SqT.of ha2, hc.nd, by omega, .ref a, rfl, a, _, rfl, .inr (SqT.of ha2), rfl, false, by rw [List.length_map, decide_eq_true rfl]; rfl, ?_⟩
  refine ⟨.ref a, rfl, a, rfl, ⟨_, SqT.of ha2⟩, fun D3 nD3 => ?_⟩
  refine lc_bool wp_tup ns (fun _ => true) (by rw [List.length_map]) (by rw [List.length_map]; omega) nD3 (fun H' s' => SqT.of (s' _ _ ha2)) (fun i n x H' K1 hn s' hi qa => ?_) fun H3 s3 hD3 => ?_
  · rw [List.getElem?_map, hn] at hi
    cases hi
    exact ⟨rfl, .int n, rfl, .ref d, rfl, d, _, rfl, dgetI hls.nd (hin n (List.mem_of_getElem? hn)) (.inl (s' _ _ (s2 _ _ hd1))), qa _ (Same.rf _)⟩
  refine ⟨D3, _, rfl, .inl (.inl hD3), ?_⟩
  rw [all_map_true (fun _ _ => rfl)]
  refine ⟨true, rfl, ?_⟩
  have s13 := Same.trans s2 s3
  have ha3 := s3 _ _ ha2
  refine ⟨.ref a, rfl, .ref a, rfl, 1, rfl, ?_⟩
  delta tNoPart
  refine slA_from' (n := 1) rfl ha3 fun b1 H4 s4 hb1 => ?_
  refine ⟨.ref a, rfl, 1, rfl, slA_to (k := 1) (s4 _ _ ha3) fun b2 H5 s5 hb2 => ?_⟩
  have hd1l : (ns.map V.int).drop 1 ≠ [] := fun h => by
    have := congrArg List.length h
    rw [List.length_drop, List.length_map, List.length_nil] at this
    omega
  have ht1l : (ns.map V.int).take 1 ≠ [] := fun h => by
    have := congrArg List.length h
    rw [List.length_take, List.length_map, List.length_nil] at this
    omega
  refine ⟨b1, b2, _, _, rfl, rfl, SqT.of (s5 _ _ hb1), SqT.of hb2, ?_, fun h => absurd h hd1l, fun _ h => absurd h ht1l, fun _ _ b3 nb3 => ?_⟩
  · rw [List.length_drop, List.length_take, List.length_map]
    exact Nat.le_trans (show _ ≤ 1000 by omega) (by decide)
  have s6 : Same H5 (L2.upd H5 b3 (.tup ((ns.map V.int).drop 1 ++ (ns.map V.int).take 1))) := Same.new nb3
  have hb3 : (L2.upd H5 b3 (.tup ((ns.map V.int).drop 1 ++ (ns.map V.int).take 1))) b3 = some (.tup ((ns.drop 1 ++ ns.take 1).map V.int)) := by
    rw [upd_same, List.map_append, List.map_drop, List.map_take]
  generalize (L2.upd H5 b3 (.tup ((ns.map V.int).drop 1 ++ (ns.map V.int).take 1))) = H6 at s6 hb3 ⊢
  have s36 := Same.trans s4 (Same.trans s5 s6)
  have ha6 := s36 _ _ ha3
  refine ⟨a, b3, _, _, rfl, .inr ⟨SqT.of ha6, SqT.of hb3, fun D7 nD7 => ?_⟩⟩
  have hrl : (ns.drop 1 ++ ns.take 1).length = ns.length := by rw [List.length_append, List.length_drop, List.length_take]; omega
  refine lc_bool (wp_zipT (n := ns.length) (by rw [List.length_map, List.length_map, hrl, Nat.min_self])) (ns.zip (ns.drop 1 ++ ns.take 1)) (fun _ => true) (by rw [List.length_zip, hrl, Nat.min_self]) (by omega) nD7 (fun H' s' => ⟨SqT.of (s' _ _ ha6), SqT.of (s' _ _ hb3)⟩) (fun i p x H' K1 hp s' hi qa => ?_) fun H7 s7 hD7 => ?_
  · obtain ⟨Tz, v1, v2, rfl, hT, h1, h3⟩ := hi
    have hp' := List.getElem?_zip_eq_some.mp hp
    rw [List.getElem?_map, hp'.1] at h1
    rw [List.getElem?_map, hp'.2] at h3
    cases h1
    cases h3
    have hpm := List.mem_of_getElem? hp
    have hlk := hc.ring p hpm
    have hm1 := hin p.1 (List.mem_of_getElem? hp'.1)
    have s' := Same.trans (Same.trans s13 s36) s'
    obtain ⟨hl1, hl2, hl3⟩ := hli1.same s' p.1 hm1
    refine ⟨Tz, _, rfl, SqT.of hT, rfl, .int p.1, [.int p.2], rfl, .int p.2, [], rfl, rfl, rfl, .int p.2, rfl, .ref d, rfl, .int p.1, rfl, d, _, rfl, dgetI hls.nd hm1 (.inl (s' _ _ hd1)), la p.1, _, rfl, .inl (.inl (.inl hl1)), rfl, flat_ints _, ?_⟩
    have e : inV (.int p.2) ((fl p.1).map V.int) = true := by rw [inV_ints, decide_eq_true ((hl3 p.2).mpr hlk)]
    show K1 (.bl (inV (.int p.2) ((fl p.1).map V.int))) _
    rw [e]
    exact qa _ (Same.rf _)
  refine ⟨D7, _, rfl, .inl (.inl hD7), ?_⟩
  rw [all_map_true (fun _ _ => rfl)]
  exact q _ (Same.trans s1 (Same.trans s13 (Same.trans s36 s7)))
end
end BC
namespace BC
open PySem PySem.Spec PyProof.Rows L2 BX
/-- the heap but for b -/
def SameX (b : Addr) (H H' : Hp) : Prop := ∀ a o, a ≠ b → H a = some o → H' a = some o
theorem SameX.rf (b : Addr) (H : Hp) : SameX b H H := fun _ _ _ e => e
theorem SameX.trans {b : Addr} {H H1 H2 : Hp} (x : SameX b H H1) (y : SameX b H1 H2) : SameX b H H2 := fun a o h e => y a o h (x a o h e)
theorem Same.x {b : Addr} {H H' : Hp} (s : Same H H') : SameX b H H' := fun a o _ e => s a o e
theorem SameX.put {b p : Addr} {o : HO} {H H' : Hp} (s : SameX b H H') (hp : H p = none) : SameX b H (L2.upd H' p o) := fun a u h e => by
  rw [upd_ne (ne_of_none e hp)]
  exact s a u h e
theorem SameX.upd {b : Addr} {o : HO} {H : Hp} : SameX b H (L2.upd H b o) := fun a u h e => by rw [upd_ne h]; exact e
theorem SameX.none {b p : Addr} {H H' : Hp} (s : SameX b H H') (hb : p ≠ b) (hp : H' p = none) : H p = none := by
  cases e : H p with
  | none => rfl
  | some o => rw [s p o hb e] at hp; cases hp
/-- the box: the number to draw from, the seed, the count; n draws more -/
def Bx (H : Hp) (b : Addr) (n : Nat) : Prop := ∃ x s c : Int, H b = some (.lst [.int x, .int s, .int c]) ∧ 0 ≤ s ∧ s < 2 ^ 63 ∧ 0 ≤ c ∧ c + n ≤ 2 ^ 60
theorem Bx.same {H H' : Hp} {b : Addr} {n : Nat} (h : Bx H b n) (s : Same H H') : Bx H' b n := let ⟨x, t, c, h1, h2⟩ := h; ⟨x, t, c, s _ _ h1, h2⟩
theorem Bx.le {H : Hp} {b : Addr} {n m : Nat} (h : Bx H b n) (l : m ≤ n) : Bx H b m := let ⟨x, t, c, h1, h2, h3, h4, h5⟩ := h; ⟨x, t, c, h1, h2, h3, h4, by omega⟩
theorem Bx.ne {H : Hp} {b p : Addr} {n : Nat} (h : Bx H b n) (hp : H p = none) : p ≠ b := fun e => by
  obtain ⟨x, t, c, h1, _⟩ := h
  rw [← e, hp] at h1
  cases h1
theorem Bx.ts {H H' : Hp} {b : Addr} {n : Nat} (h : Bx H b n) (s : SameX b H H') : TSame H H' := fun a xs e => s a _ (fun e2 => by
  obtain ⟨x, t, c, h1, _⟩ := h
  rw [e2, h1] at e
  cases e) e
theorem Bx.off {H : Hp} {b p : Addr} {n : Nat} {o : HO} (h : Bx H b n) (hp : p ≠ b) : Bx (L2.upd H p o) b n := let ⟨x, t, c, h1, h2⟩ := h; ⟨x, t, c, by rw [upd_ne (Ne.symm hp)]; exact h1, h2⟩
theorem FnP.fal {P : Program} {w : World} {K : PySem.W.Frag} {mg : Str → Option Value} {base : Heap} {x : Str} {st : Stmt} {f : Addr} {fd : FuncData} (F : FnP K x st f fd) (hm : mg x = some (.ref f)) {ps : List Str} {k : Nat}
    (hb : ∀ (kV doc pm : Value) (an : Option Addr) (cdv ct : Value) (us : List Value), us.length = ps.length → bindArgs (PySem.W.fnOf x x (defArgs st) (defBody st) (defScope st) .none kV doc pm an cdv ct) ⟨us, []⟩ = pure (ps.zip us)) :
    C8.Cal P w K mg base k x (fun _ _ _ _ => False) [] :=
  ⟨f, fd, ps, [], ⟨fun _ _ _ _ h => h.elim, fun _ _ _ _ _ _ _ _ _ _ _ _ _ h => h.elim⟩, hm, F.kp, F.bindsN hb, .nil⟩
theorem bnd01 : ∀ c : Bool, -(2 ^ 64 : Int) < (if c = true then 1 else 0) ∧ (if c = true then (1 : Int) else 0) < 2 ^ 64 := by decide
section
variable {P : Program} {w : World} {K : PySem.W.Frag} {mg : Str → Option Value} {base : Heap} {f : Addr} {fd : FuncData}
theorem sc_w_box : FnScope ["_law_script", "_law_k", "_law_cell"] ["_law_script", "_law_k"] (defScope s_w_box) := ⟨rfl, rfl, rfl, by decide +kernel, rfl, by decide +kernel, by decide +kernel⟩
-- slots: 0:_law_script 1:_law_k 2:_law_cell
def spBox : Sp := fun vs H Q _ => ∃ (a : Addr) (ns : List Int) (k : Nat), vs = [.ref a, .int (k : Nat)] ∧ H a = some (.lst (ns.map V.int)) ∧ k < ns.length ∧ ns.length ≤ 100 ∧ ∀ p H', Same H H' → H p = none → Bx H' p 10000 → Q (.ref p) H'
theorem cal_w_box (F : FnP K "_law_box" s_w_box f fd) (hm : mg "_law_box" = some (.ref f)) (T : Txt K mg) {kk : Nat} : C8.Cal P w K mg base (kk + 1) "_law_box" spBox [] := by
  refine cal_of F hm sc_w_box (fun kV doc pm an cdv ct us hl => match us, hl with | [_, _], _ => rfl) (fun vs H Q E h => ?_) (fun cdv A outer s H vs Q E hr h => ?_)
  · obtain ⟨_, _, _, rfl, _⟩ := h; rfl
  obtain ⟨a, ns, k, rfl, ha, hk, hl, q⟩ := h
  have nd := sc_w_box.nd
  have hu1 := Nat.lt_of_le_of_lt (Nat.add_le_add_left (show 1 ≤ 64 by decide) _) hr.units
  have hu64 := hr.units
  have hu65 := room65 hr
  refine ⟨_, (pss_cons (ps_set (i := 2) nd rfl (Or.inl rfl) (pe_ifExp (pt_cmpR op_lt (pv 1) (pe_callB call_len_seq (by rfl) T.n_len (by decide +kernel) (pa_cons (pv 0) pa_nil)) (nomark _)) (pe_ix ix_list (pv 0) (pv 1) (fun _ _ => rfl)) pe_int))
    (pss_one (ps_ret (pe_lst (pa_cons (pe_op op_mul (pe_callB call_abs (by rfl) T.n_abs (by decide +kernel) (pa_cons (pv 2) pa_nil)) (pe_callTy call_int1 (by rfl) T.n_int (by decide +kernel) (pa_cons (pe_cmpR op_ge (pe_callB call_abs (by rfl) T.n_abs (by decide +kernel) (pa_cons (pv 2) pa_nil)) (pe_op op_pow pe_int pe_int) (nomark _)) pa_nil))) (pa_cons (pe_op op_add (pe_op op_add (pe_op op_mod (pe_callTy call_int1 (by rfl) T.n_int (by decide +kernel) (pa_cons (pv 2) pa_nil)) pe_int) (pe_op op_mul pe_int (pv 1))) pe_int) (pa_cons pe_int pa_nil))))))), ?_⟩
  refine ⟨.int (k : Nat), rfl, .ref a, rfl, a, _, rfl, .inl (.inl (.inl ha)), (k : Nat), _, rfl, rfl, true, congrArg V.bl (decide_eq_true (by rw [List.length_map]; omega)), iteT rfl ?_⟩
  obtain ⟨n, hn⟩ : ∃ n, ns[k]? = some n := ⟨_, List.getElem?_eq_getElem hk⟩
  refine ⟨.ref a, rfl, .int (k : Nat), rfl, a, _, (k : Nat), .int n, rfl, rfl, .inl (.inl ha), atI_nat (by rw [List.getElem?_map, hn]; rfl), ?_⟩
  refine ⟨.int n, rfl, n, rfl, .int n, rfl, n, rfl, 10, 18, rfl, rfl, ⟨by decide, by decide, by decide⟩, _, _, rfl, rfl, .inr ⟨_, rfl, _, _, rfl, rfl, .inr (bnd01 _), .int n, rfl, .inl ⟨n, rfl, n, 2305843009213693951, rfl, rfl, (show (0 : Int) < 2305843009213693951 by decide), .int (k : Nat), rfl, 39373, (k : Nat), rfl, rfl, .inl (by decide), _, _, rfl, rfl, _, 74343, rfl, rfl, (show 3 ≤ sizeLine by decide), fun p np => ?_⟩⟩⟩
  · have h1 := Int.emod_nonneg n (show (2305843009213693951 : Int) ≠ 0 by decide)
    have h2 := Int.emod_lt_of_pos n (show (0 : Int) < 2305843009213693951 by decide)
    refine q p _ (Same.new np) np ⟨_, _, _, upd_same, ?_, ?_, by decide, by decide⟩
    · omega
    · omega
theorem sc_w_take : FnScope ["_law_box_here", "_law_below_so", "_law_once", "_law_far_so", "_law_twice_so", "_law_drawn_so"] ["_law_box_here", "_law_below_so"] (defScope s_w_take) := ⟨rfl, rfl, rfl, by decide +kernel, rfl, by decide +kernel, by decide +kernel⟩
-- slots: 0:_law_box_here 1:_law_below_so 2:_law_once 3:_law_far_so 4:_law_twice_so 5:_law_drawn_so
def spTake : Sp := fun vs H Q _ => ∃ (b : Addr) (m : Int) (n : Nat), vs = [.ref b, .int m] ∧ Bx H b (n + 1) ∧ 0 < m ∧ m < 1000 ∧ ∀ (k : Nat) H', SameX b H H' → Bx H' b n → (k : Int) < m → Q (.int (k : Nat)) H'
theorem cal_w_take (F : FnP K "_law_take" s_w_take f fd) (hm : mg "_law_take" = some (.ref f)) (T : Txt K mg) {kk : Nat} : C8.Cal P w K mg base (kk + 1) "_law_take" spTake [] := by
  refine cal_of F hm sc_w_take (fun kV doc pm an cdv ct us hl => match us, hl with | [_, _], _ => rfl) (fun vs H Q E h => ?_) (fun cdv A outer s H vs Q E hr h => ?_)
  · obtain ⟨_, _, _, rfl, _⟩ := h; rfl
  obtain ⟨b, m, n, rfl, ⟨x, t, c, hb, t0, t1, c0, c1⟩, m0, m1, q⟩ := h
  have nd := sc_w_take.nd
  have hu1 := Nat.lt_of_le_of_lt (Nat.add_le_add_left (show 1 ≤ 64 by decide) _) hr.units
  have hu64 := hr.units
  have hu65 := room65 hr
  refine ⟨_, (pss_cons (ps_if (pt_cmpR op_gt (pe_ix ix_list (pv 0) pe_int (fun _ _ => rfl)) pe_int (nomark _)) (pss_cons (ps_set (i := 5) nd rfl (Or.inl rfl) (pe_op op_mod (pe_callTy call_int1 (by rfl) T.n_int (by decide +kernel) (pa_cons (pe_ix ix_list (pv 0) pe_int (fun _ _ => rfl)) pa_nil)) (pv 1)))
    (pss_cons (ps_asg (pe_op op_fdiv (pe_ix ix_list (pv 0) pe_int (fun _ _ => rfl)) (pv 1)) (pg_sub (pv 0) pe_int set_list))
    (pss_one (ps_ret (pv 5))))) pss_nil)
    (pss_cons (ps_asg (pe_op op_add (pe_ix ix_list (pv 0) pe_int (fun _ _ => rfl)) pe_int) (pg_sub (pv 0) pe_int set_list))
    (pss_cons (ps_set (i := 2) nd rfl (Or.inl rfl) (pe_op op_mod (pe_callTy call_int1 (by rfl) T.n_int (by decide +kernel) (pa_cons (pe_op op_mul (pe_op op_add (pe_ix ix_list (pv 0) pe_int (fun _ _ => rfl)) (pe_op op_mul pe_int (pe_ix ix_list (pv 0) pe_int (fun _ _ => rfl)))) (pe_op op_add pe_int (pe_ix ix_list (pv 0) pe_int (fun _ _ => rfl)))) pa_nil)) pe_int))
    (pss_cons (ps_set (i := 3) nd rfl (Or.inl rfl) (pe_op op_add (pe_op op_mod (pe_callTy call_int1 (by rfl) T.n_int (by decide +kernel) (pa_cons (pv 2) pa_nil)) pe_int) pe_int))
    (pss_cons (ps_set (i := 4) nd rfl (Or.inl rfl) (pe_op op_mod (pe_callTy call_int1 (by rfl) T.n_int (by decide +kernel) (pa_cons (pe_op op_mul (pe_op op_add (pe_op op_add (pv 2) (pe_ix ix_list (pv 0) pe_int (fun _ _ => rfl))) (pe_op op_fdiv (pe_ix ix_list (pv 0) pe_int (fun _ _ => rfl)) pe_int)) (pv 3)) pa_nil)) pe_int))
    (pss_one (ps_ret (pe_op op_mod (pe_callTy call_int1 (by rfl) T.n_int (by decide +kernel) (pa_cons (pe_op op_fdiv (pe_op op_mod (pe_callTy call_int1 (by rfl) T.n_int (by decide +kernel) (pa_cons (pe_op op_add (pe_op op_mul (pv 4) pe_int) (pv 2)) pa_nil)) pe_int) pe_int) pa_nil)) (pv 1))))))))), ?_⟩
  have g0 : ∀ (x t c : Int), atI [V.int x, .int t, .int c] 0 = some (.int x) := fun _ _ _ => atI_nat (j := 0) rfl
  have g1 : ∀ (x t c : Int), atI [V.int x, .int t, .int c] 1 = some (.int t) := fun _ _ _ => atI_nat (j := 1) rfl
  have g2 : ∀ (x t c : Int), atI [V.int x, .int t, .int c] 2 = some (.int c) := fun _ _ _ => atI_nat (j := 2) rfl
  have qq : ∀ (z : Int) H', SameX b H H' → Bx H' b n → Q (.int (z % m)) H' := fun z H' s h => by
    have h1 := Int.emod_nonneg z (show m ≠ 0 by omega)
    have h2 := Int.emod_lt_of_pos z m0
    have e : z % m = ((z % m).toNat : Nat) := (Int.toNat_of_nonneg h1).symm
    rw [e]
    exact q _ H' s h (by omega)
  refine ⟨.ref b, rfl, b, _, 0, _, rfl, rfl, .inl (.inl hb), g0 x t c, x, 0, rfl, rfl, _, rfl, ?_⟩
  by_cases hx : 0 < x
  · refine iteT (decide_eq_true hx) ?_
    refine ⟨.ref b, rfl, b, _, 0, _, rfl, rfl, .inl (.inl hb), g0 x t c, .inl ⟨x, rfl, .int m, rfl, x, m, rfl, rfl, m0, ?_⟩⟩
    refine ⟨.ref b, rfl, b, _, 0, _, rfl, rfl, .inl (.inl hb), g0 x t c, .int m, rfl, x, m, rfl, rfl, ⟨m0, by omega⟩, .ref b, rfl, b, _, 0, 0, rfl, rfl, hb, rfl, _, rfl, ?_⟩
    exact qq x _ SameX.upd ⟨_, _, _, upd_same, t0, t1, c0, by omega⟩
  · refine iteF (decide_eq_false hx) ?_
    refine ⟨.ref b, rfl, b, _, 2, _, rfl, rfl, .inl (.inl hb), g2 x t c, c, 1, rfl, rfl, .ref b, rfl, b, _, 2, 2, rfl, rfl, hb, rfl, ?_⟩
    have s1 : SameX b H (L2.upd H b (.lst ([V.int x, .int t, .int c].set 2 (.int (c + 1))))) := SameX.upd
    have hb1 : (L2.upd H b (.lst ([V.int x, .int t, .int c].set 2 (.int (c + 1))))) b = some (.lst [.int x, .int t, .int (c + 1)]) := upd_same
    generalize (L2.upd H b (.lst ([V.int x, .int t, .int c].set 2 (.int (c + 1))))) = H1 at s1 hb1 ⊢
    have bx : Bx H1 b n := ⟨x, t, c + 1, hb1, t0, t1, by omega, by omega⟩
    generalize hc : c + 1 = c' at hb1
    have hcs : 0 ≤ c' ∧ c' ≤ 2 ^ 60 := ⟨by omega, by omega⟩
    have L : ∀ {i : Int} {y : Int}, atI [V.int x, .int t, .int c'] i = some (.int y) → True := fun _ => trivial
    refine ⟨.ref b, rfl, b, _, 1, _, rfl, rfl, .inl (.inl hb1), g1 x t c', .ref b, rfl, b, _, 2, _, rfl, rfl, .inl (.inl hb1), g2 x t c', 48271, c', rfl, rfl, .inl (by decide), t, _, rfl, rfl, .ref b, rfl, b, _, 2, _, rfl, rfl, .inl (.inl hb1), g2 x t c', 39373, c', rfl, rfl, _, _, rfl, rfl, .inr ⟨by omega, by omega⟩, .inl ⟨_, rfl, _, 2147483647, rfl, rfl, (show (0 : Int) < 2147483647 by decide), ?_⟩⟩
    obtain ⟨once, ho⟩ : ∃ z, z = ((t + 48271 * c') * (39373 + c')) % 2147483647 := ⟨_, rfl⟩
    refine ⟨.int once, by rw [ho]; rfl, .inl ⟨once, rfl, once, 40009, rfl, rfl, (show (0 : Int) < 40009 by decide), _, 7, rfl, rfl, ?_⟩⟩
    have f1 := Int.emod_nonneg once (show (40009 : Int) ≠ 0 by decide)
    have f2 := Int.emod_lt_of_pos once (show (0 : Int) < 40009 by decide)
    obtain ⟨far, hfar⟩ : ∃ z, z = once % 40009 + 7 := ⟨_, rfl⟩
    refine ⟨.int once, by rw [ho]; rfl, .ref b, rfl, b, _, 2, _, rfl, rfl, .inl (.inl hb1), g2 x t c', once, c', rfl, rfl, .ref b, rfl, b, _, 1, _, rfl, rfl, .inl (.inl hb1), g1 x t c', t, 1000003, rfl, rfl, ⟨by decide, by decide⟩, _, _, rfl, rfl, .int far, by rw [hfar]; rfl, _, far, rfl, rfl, .inr ⟨by omega, by omega⟩, .inl ⟨_, rfl, _, 2147483629, rfl, rfl, (show (0 : Int) < 2147483629 by decide), ?_⟩⟩
    obtain ⟨twice, ht⟩ : ∃ z, z = ((once + c' + t / 1000003) * far) % 2147483629 := ⟨_, rfl⟩
    refine ⟨.int twice, by rw [ht]; rfl, twice, 48271, rfl, rfl, .inr (by decide), .int once, by rw [ho]; rfl, _, once, rfl, rfl, .inl ⟨_, rfl, _, 2147483587, rfl, rfl, (show (0 : Int) < 2147483587 by decide), _, 64, rfl, rfl, ⟨by decide, by decide⟩, .inl ⟨_, rfl, .int m, rfl, _, m, rfl, rfl, m0, ?_⟩⟩⟩
    exact qq _ _ s1 bx
theorem sc_w_of : FnScope ["_law_box_here", "_law_pool_so"] ["_law_box_here", "_law_pool_so"] (defScope s_w_of) := ⟨rfl, rfl, rfl, by decide +kernel, rfl, by decide +kernel, by decide +kernel⟩
-- slots: 0:_law_box_here 1:_law_pool_so
def spOf : Sp := fun vs H Q _ => ∃ (b a : Addr) (us : List V) (n : Nat), vs = [.ref b, .ref a] ∧ Bx H b (n + 1) ∧ H a = some (.lst us) ∧ us ≠ [] ∧ us.length < 1000 ∧ a ≠ b ∧ ∀ v H', SameX b H H' → Bx H' b n → v ∈ us → Q v H'
theorem cal_w_of (F : FnP K "_law_of" s_w_of f fd) (hm : mg "_law_of" = some (.ref f)) (T : Txt K mg) {kk : Nat} (c_w_take : C8.Cal P w K mg base 1 "_law_take" spTake []) : C8.Cal P w K mg base 2 "_law_of" spOf [] := by
  refine cal_of F hm sc_w_of (fun kV doc pm an cdv ct us hl => match us, hl with | [_, _], _ => rfl) (fun vs H Q E h => ?_) (fun cdv A outer s H vs Q E hr h => ?_)
  · obtain ⟨_, _, _, _, rfl, _⟩ := h; rfl
  obtain ⟨b, a, us, n, rfl, bx, ha, hne, hl, hab, q⟩ := h
  have nd := sc_w_of.nd
  have hu1 := Nat.lt_of_le_of_lt (Nat.add_le_add_left (show 1 ≤ 64 by decide) _) hr.units
  have hu64 := hr.units
  have hu65 := room65 hr
  refine ⟨_, (pss_one (ps_ret (pe_ix ix_list (pv 1) (C8.pe_c c_w_take hr (by omega) (by rfl) (pa_cons (pv 0) (pa_cons (pe_callB call_len_seq (by rfl) T.n_len (by decide +kernel) (pa_cons (pv 1) pa_nil)) pa_nil))) (fun _ _ => rfl)))), ?_⟩
  have hpos : 0 < us.length := List.length_pos_iff.mpr hne
  refine ⟨.ref a, rfl, .ref b, rfl, .ref a, rfl, a, us, rfl, .inl (.inl (.inl ha)), b, (us.length : Nat), n, rfl, bx, by omega, by omega, fun k H1 s1 bx1 hk => ?_⟩
  have hk' : k < us.length := by omega
  exact ⟨a, us, (k : Nat), us[k], rfl, rfl, .inl (.inl (s1 _ _ hab ha)), atI_nat (List.getElem?_eq_getElem hk'), q _ H1 s1 bx1 (List.getElem_mem hk')⟩
theorem sc_w_same : FnScope ["_law_got", "_law_due_so", "_law_own", "_law_far"] ["_law_got", "_law_due_so"] (defScope s_w_same) := ⟨rfl, rfl, rfl, by decide +kernel, rfl, by decide +kernel, by decide +kernel⟩
-- slots: 0:_law_got 1:_law_due_so 2:_law_own 3:_law_far
def spSame : Sp := fun vs H Q _ => ∃ x : Bool, vs = [.bl x, .bl x] ∧ ∀ H', Same H H' → Q (.bl true) H'
theorem tx_bl {K : PySem.W.Frag} {H : Hp} {x : Bool} : TyX K H (.bl x) (.type "bool") := .base (.bl x)
theorem cal_w_same (F : FnP K "_law_same" s_w_same f fd) (hm : mg "_law_same" = some (.ref f)) (T : Txt K mg) {k : Nat} (c_w_same : C8.Cal P w K mg base k "_law_same" (fun _ _ _ _ => False) []) : C8.Cal P w K mg base (k + 1) "_law_same" spSame [] := by
  refine cal_of F hm sc_w_same (fun kV doc pm an cdv ct us hl => match us, hl with | [_, _], _ => rfl) (fun vs H Q E h => ?_) (fun cdv A outer s H vs Q E hr h => ?_)
  · obtain ⟨_, rfl, _⟩ := h; rfl
  obtain ⟨x, rfl, q⟩ := h
  have nd := sc_w_same.nd
  have hu1 := Nat.lt_of_le_of_lt (Nat.add_le_add_left (show 1 ≤ 64 by decide) _) hr.units
  have hu64 := hr.units
  have hu65 := room65 hr
  refine ⟨_, (pss_cons (ps_if (pt_val (pe_callB call_isiT (by rfl) T.n_isinstance (by decide +kernel) (pa_cons (pv 1) (pa_cons (pe_tup (pa_cons (pe_bltn (v := .ty "list") (by rfl) T.n_list (by decide +kernel) rfl) (pa_cons (pe_bltn (v := .ty "tuple") (by rfl) T.n_tuple (by decide +kernel) rfl) pa_nil))) pa_nil)))) (pss_cons (ps_if (PW.pt (pw_or (pt_cmpR op_ne (pe_callB call_isi (by rfl) T.n_isinstance (by decide +kernel) (pa_cons (pv 0) (pa_cons (pe_bltn (v := .ty "list") (by rfl) T.n_list (by decide +kernel) rfl) pa_nil))) (pe_callB call_isi (by rfl) T.n_isinstance (by decide +kernel) (pa_cons (pv 1) (pa_cons (pe_bltn (v := .ty "list") (by rfl) T.n_list (by decide +kernel) rfl) pa_nil))) (nomark _)) (pw_or1 (pt_cmpR op_ne (pe_callB call_isi (by rfl) T.n_isinstance (by decide +kernel) (pa_cons (pv 0) (pa_cons (pe_bltn (v := .ty "tuple") (by rfl) T.n_tuple (by decide +kernel) rfl) pa_nil))) (pe_callB call_isi (by rfl) T.n_isinstance (by decide +kernel) (pa_cons (pv 1) (pa_cons (pe_bltn (v := .ty "tuple") (by rfl) T.n_tuple (by decide +kernel) rfl) pa_nil))) (nomark _))))) (pss_one (ps_ret pe_bl)) pss_nil)
    (pss_one (ps_ret (pe_and (pe_cmpR op_eq (pe_callB call_len_seq (by rfl) T.n_len (by decide +kernel) (pa_cons (pv 0) pa_nil)) (pe_callB call_len_seq (by rfl) T.n_len (by decide +kernel) (pa_cons (pv 1) pa_nil)) (nomark _)) (pe_one (pe_callB (cr_all rfl) (by rfl) T.n_all (by decide +kernel) (pa_cons (pe_lc (own := [("_law_own", 2), ("_law_far", 3)]) (g := (gTup K 2 (gCons (gName 2) (gCons (gName 3) gNil)))) (tt := tYes) rfl nd (RZ.pi_zipA (by rfl) T.n_zip (pa_cons (pv 0) (pa_cons (pv 1) pa_nil))) (blkOk_by (by rfl)) (fun _ _ _ _ _ => (pg_tup rfl (pgs_cons (pg_name (i := 2) nd rfl (Or.inl rfl)) (pgs_cons (pg_name (i := 3) nd rfl (Or.inl rfl)) pgs_nil)))) (fun _ _ _ _ _ => pts_nil) (fun _ _ _ _ _ => (C8.pe_c c_w_same hr (by omega) (by rfl) (pa_cons (pv 2) (pa_cons (pv 3) pa_nil))))) pa_nil))))))) pss_nil)
    (pss_cons (ps_if (PW.pt (pw_or (pt_cmp (pc_isN (pv 1))) (pw_or1 (pt_val (pe_callB call_isiT (by rfl) T.n_isinstance (by decide +kernel) (pa_cons (pv 1) (pa_cons (pe_tup (pa_cons (pe_bltn (v := .ty "bool") (by rfl) T.n_bool (by decide +kernel) rfl) (pa_cons (pe_bltn (v := .ty "str") (by rfl) T.n_str (by decide +kernel) rfl) pa_nil))) pa_nil))))))) (pss_one (ps_ret (pe_and (pe_cmpR op_eq (pv 0) (pv 1) (nomark _)) (pe_and (pe_cmpR op_eq (pe_callB call_isi (by rfl) T.n_isinstance (by decide +kernel) (pa_cons (pv 0) (pa_cons (pe_bltn (v := .ty "bool") (by rfl) T.n_bool (by decide +kernel) rfl) pa_nil))) (pe_callB call_isi (by rfl) T.n_isinstance (by decide +kernel) (pa_cons (pv 1) (pa_cons (pe_bltn (v := .ty "bool") (by rfl) T.n_bool (by decide +kernel) rfl) pa_nil))) (nomark _)) (pe_one (pe_cmpR op_eq (pe_cmp (pc_isN (pv 0))) (pe_cmp (pc_isN (pv 1))) (nomark _))))))) pss_nil)
    (pss_one (ps_ret (pe_and (pe_callB call_isi (by rfl) T.n_isinstance (by decide +kernel) (pa_cons (pv 0) (pa_cons (pe_bltn (v := .ty "int") (by rfl) T.n_int (by decide +kernel) rfl) pa_nil))) (pe_and (pe_not (pe_callB call_isi (by rfl) T.n_isinstance (by decide +kernel) (pa_cons (pv 0) (pa_cons (pe_bltn (v := .ty "bool") (by rfl) T.n_bool (by decide +kernel) rfl) pa_nil)))) (pe_one (pe_cmpR op_eq (pv 0) (pv 1) (nomark _))))))))), ?_⟩
  refine ⟨.bl x, rfl, two_le, fun p np => ⟨_, p, _, _, _, false, rfl, upd_same, .cons (.ty "list") (.cons (.ty "tuple") .nil), tx_bl, kitAny_cons (b := false) (kit_ty (by decide +kernel)) (fun _ => kitAny_cons (b := false) (kit_ty (by decide +kernel)) (fun _ => kitAny_nil) (fun h => h)) (fun h => h), false, rfl, ?_⟩⟩
  refine ⟨.bl x, rfl, false, rfl, ?_⟩
  refine ⟨.bl x, rfl, two_le, fun p2 np2 => ⟨_, p2, _, _, _, true, rfl, upd_same, .cons (.ty "bool") (.cons (.ty "str") .nil), tx_bl, kitAny_cons (b := true) (kit_ty (by decide +kernel)) (fun h => by cases h) (fun _ => rfl), true, rfl, ?_⟩⟩
  have s2 := Same.trans (Same.new (o := .tup [.ty "list", .ty "tuple"]) np) (Same.new (o := .tup [.ty "bool", .ty "str"]) np2)
  refine ⟨.bl x, rfl, .bl x, rfl, rfl, true, congrArg V.bl (decide_eq_true rfl), ?_⟩
  refine ⟨.bl x, rfl, _, _, _, _, true, rfl, .ty _, tx_bl, kit_ty (by decide +kernel), .bl x, rfl, _, _, _, _, true, rfl, .ty _, tx_bl, kit_ty (by decide +kernel), rfl, true, rfl, ?_⟩
  exact ⟨.bl x, rfl, .bl x, rfl, rfl, q _ s2⟩
theorem sc_w_ends : FnScope ["_law_run_so", "_law_found", "_law_row_so"] ["_law_run_so"] (defScope s_w_ends) := ⟨rfl, rfl, rfl, by decide +kernel, rfl, by decide +kernel, by decide +kernel⟩
-- slots: 0:_law_run_so 1:_law_found 2:_law_row_so
def spLawEnds : Sp := fun vs H Q _ => ∃ v R, vs = [v] ∧ RunAt H v R ∧ Fine R ∧ ∀ p us H', Same H H' → H p = none → H' p = some (.lst us) → Paired (EndAt H') us (ends R) → Q (.ref p) H'
theorem cal_w_ends (F : FnP K "_law_ends" s_w_ends f fd) (hm : mg "_law_ends" = some (.ref f)) (T : Txt K mg) {kk : Nat} : C8.Cal P w K mg base (kk + 1) "_law_ends" spLawEnds [] := by
  refine cal_of F hm sc_w_ends (fun kV doc pm an cdv ct us hl => match us, hl with | [_], _ => rfl) (fun vs H Q E h => ?_) (fun cdv A outer s H vs Q E hr h => ?_)
  · obtain ⟨_, _, rfl, _⟩ := h; rfl
  obtain ⟨v, R, rfl, ⟨a, us, rfl, ha, hp⟩, fn, q⟩ := h
  have nd := sc_w_ends.nd
  have hu1 := Nat.lt_of_le_of_lt (Nat.add_le_add_left (show 1 ≤ 64 by decide) _) hr.units
  have hu64 := hr.units
  have hu65 := room65 hr
  refine ⟨_, (pss_cons (ps_set (i := 1) nd rfl (Or.inl rfl) (pe_lst pa_nil))
    (pss_cons (ps_for PassesOwn.never rfl (pi_tup (pv 0)) (pg_name (i := 2) nd rfl (Or.inl rfl)) (pss_one (ps_set (i := 1) nd rfl (Or.inl rfl) (pe_op op_cat (pv 1) (pe_callTy call_list_of (by rfl) T.n_list (by decide +kernel) (pa_cons (pv 2) pa_nil))))))
    (pss_one (ps_ret (pv 1))))), ?_⟩
  have hul : us.length = R.length := Paired.len hp
  refine ⟨Nat.zero_le _, fun p0 np0 => ⟨.ref a, rfl, a, rfl, ⟨us, SqT.of ((Same.new np0) _ _ ha)⟩, ?_⟩⟩
  refine L2.for_it (wp_tup (K := K) (a := a) (xs := us)) (fun i σ H' => ∃ p ws x2, σ = [some (.ref a), some (.ref p), x2] ∧ Same H H' ∧ H p = none ∧ H' p = some (.lst ws) ∧ Paired (EndAt H') ws (ends (R.take i))) ⟨p0, [], _, rfl, Same.new np0, np0, upd_same, .nil⟩ (fun i σ H' _ h => ?_) (fun i x σ H1 H1' hi h y => ?_) fun σ H1 h => ?_
  · obtain ⟨_, _, _, _, s', _⟩ := h
    exact SqT.of (s' _ _ ha)
  · obtain ⟨p, ws, x2, rfl, s1, np, hpw, hws⟩ := h
    obtain ⟨s2, hx⟩ := y
    obtain ⟨row, hrow, b, rs, rfl, hb, hrs⟩ := Paired.at hp hx
    have s12 := Same.trans s1 s2
    have hb1 := s12 _ _ hb
    have hpw' := s2 _ _ hpw
    have hws := ends_mono (Same.ts s2) hws
    have hrs1 := ends_mono (Same.ts s12) hrs
    have hrl : rs.length = row.length := Paired.len hrs
    have e : ends (R.take (i + 1)) = ends (R.take i) ++ row := by
      unfold ends
      rw [List.take_add_one, hrow, List.flatten_append]
      simp
    have hwl : ws.length + rs.length ≤ 40 := by
      rw [Paired.len hws, hrl, ← List.length_append, ← e]
      refine Nat.le_trans ?_ fn.many
      unfold ends
      conv => rhs; rw [← List.take_append_drop (i + 1) R]
      rw [List.flatten_append, List.length_append]
      omega
    refine ⟨.ref p, rfl, .ref b, rfl, b, rs, rfl, .inr (SqT.of hb1), fun l nl => ⟨p, l, ws, rs, rfl, rfl, (Same.new nl) _ _ hpw', upd_same, Nat.le_trans (show _ ≤ 1000 by omega) (by decide), fun p2 np2 => ?_⟩⟩
    have s3 : Same H1' (L2.upd (L2.upd H1' l (.lst rs)) p2 (.lst (ws ++ rs))) := Same.trans (Same.new nl) (Same.new np2)
    refine ⟨p2, ws ++ rs, _, rfl, Same.trans s12 s3, same_none (Same.trans s12 (Same.new nl)) np2, upd_same, ?_⟩
    rw [e]
    exact Paired.app (ends_mono (Same.ts s3) hws) (ends_mono (Same.ts s3) hrs1)
  · obtain ⟨p, ws, x2, rfl, s1, np, hpw, hws⟩ := h
    rw [hul, List.take_length] at hws
    exact ⟨.ref p, rfl, q p ws H1 s1 np hpw hws⟩
theorem sc_w_turned : FnScope ["_law_run_so", "_law_row_so", "_law_own"] ["_law_run_so"] (defScope s_w_turned) := ⟨rfl, rfl, rfl, by decide +kernel, rfl, by decide +kernel, by decide +kernel⟩
-- slots: 0:_law_run_so 1:_law_row_so 2:_law_own
def spTurned : Sp := fun vs H Q _ => ∃ v R, vs = [v] ∧ RunAt H v R ∧ Fine R ∧ ∀ v' H', Same H H' → RunAt H' v' (turned R) → Q v' H'
theorem cal_w_turned (F : FnP K "_law_turned" s_w_turned f fd) (hm : mg "_law_turned" = some (.ref f)) (T : Txt K mg) {kk : Nat} : C8.Cal P w K mg base (kk + 1) "_law_turned" spTurned [] := by
  refine cal_of F hm sc_w_turned (fun kV doc pm an cdv ct us hl => match us, hl with | [_], _ => rfl) (fun vs H Q E h => ?_) (fun cdv A outer s H vs Q E hr h => ?_)
  · obtain ⟨_, _, rfl, _⟩ := h; rfl
  obtain ⟨v, R, rfl, ⟨a, us, rfl, ha, hp⟩, fn, q⟩ := h
  have nd := sc_w_turned.nd
  have hu1 := Nat.lt_of_le_of_lt (Nat.add_le_add_left (show 1 ≤ 64 by decide) _) hr.units
  have hu64 := hr.units
  have hu65 := room65 hr
  refine ⟨_, (pss_one (ps_ret (pe_callTy call_tuple_of (by rfl) T.n_tuple (by decide +kernel) (pa_cons (pe_lc (own := [("_law_row_so", 1)]) (g := (gName 1)) (tt := tYes) rfl nd (pi_tup (pv 0)) (blkOk_by (by rfl)) (fun _ _ _ _ _ => (pg_name (i := 1) nd rfl (Or.inl rfl))) (fun _ _ _ _ _ => pts_nil) (fun _ _ _ _ _ => (pe_callTy (call_tuple_ofK (K := K) rfl) (by rfl) T.n_tuple (by decide +kernel) (pa_cons (pe_lc (own := [("_law_own", 2)]) (g := (gName 2)) (tt := tYes) rfl nd (pi_tupK (K := K) rfl (pe_revTK (K := K) rfl (pv 1))) (blkOk_by (by rfl)) (fun _ _ _ _ _ => (pg_name (i := 2) nd rfl (Or.inl rfl))) (fun _ _ _ _ _ => pts_nil) (fun _ _ _ _ _ => (pe_tup (pa_cons (pe_ix (ix_tupK (K := K) rfl) (pv 2) pe_int (fun _ _ => rfl)) (pa_cons (pe_ix ix_str pe_str (pe_callTy call_int1 (by rfl) T.n_int (by decide +kernel) (pa_cons (pe_cmpR op_eq (pe_ix (ix_tupK (K := K) rfl) (pv 2) pe_int (fun _ _ => rfl)) pe_str (nomark _)) pa_nil)) (fun _ _ => rfl)) pa_nil))))) pa_nil)))) pa_nil)))), ?_⟩
  have hul : us.length = R.length := Paired.len hp
  have hrows := fn.rows
  refine ⟨.ref a, rfl, a, rfl, ⟨us, SqT.of ha⟩, fun D nD => ?_⟩
  refine lc_map wp_tup R (fun row => row.reverse.map flip) RowAt (fun _ _ _ _ t h => RowAt.mono t h) hul (by omega) nD (fun H' s' => SqT.of (s' _ _ ha)) (fun i row x H1 K1 hrow s1 hi q1 => ?_) fun H1 acc s1 hD hacc => ?_
  · obtain ⟨row', hrow', b, rs, rfl, hb, hrs⟩ := Paired.at hp hi
    rw [hrow] at hrow'
    cases hrow'
    have hrl : rs.length = row.length := Paired.len hrs
    have hr40 := fn.row (List.mem_of_getElem? hrow)
    have hb1 := s1 _ _ hb
    refine ⟨rfl, .ref b, rfl, b, rs, rfl, SqT.of hb1, fun c nc => ⟨c, rfl, ⟨_, SqT.of upd_same⟩, fun D2 nD2 => ?_⟩⟩
    have s2 : Same H1 (L2.upd H1 c (.tup rs.reverse)) := Same.new nc
    have hc2 : (L2.upd H1 c (.tup rs.reverse)) c = some (.tup rs.reverse) := upd_same
    generalize (L2.upd H1 c (.tup rs.reverse)) = H2 at s2 hc2 nD2 ⊢
    have hrr := Paired.rev (ends_mono (Same.ts (Same.trans s1 s2)) hrs)
    refine lc_map wp_tup row.reverse flip (fun H v e => EndAt H v e) (fun _ _ _ _ t h => EndAt.mono t h) (by rw [List.length_reverse, List.length_reverse, hrl]) (by rw [List.length_reverse]; omega) nD2 (fun H' s' => SqT.of (s' _ _ hc2)) (fun j e x H3 K2 he s3 hj q2 => ?_) fun H3 acc2 s3 hD2 hacc2 => ?_
    · obtain ⟨e', he', z, rfl, hz⟩ := Paired.at hrr hj
      rw [he] at he'
      cases he'
      have hz3 := s3 _ _ hz
      refine ⟨rfl, .ref z, rfl, z, eV e, 0, _, rfl, rfl, SqT.of hz3, atI_nat (j := 0) rfl, .ref z, rfl, z, eV e, 1, _, rfl, rfl, SqT.of hz3, atI_nat (j := 1) rfl, rfl, .inr ⟨_, rfl, Str.ofString "sr", _, if e.2 = true then 114 else 115, rfl, rfl, (show 2 ≤ sizeLine from two_le), ?_, two_le, fun p np => q2 _ _ (Same.new np) ⟨p, rfl, ?_⟩⟩⟩
      · obtain ⟨l, bb⟩ := e
        cases bb
        · exact atI_nat (j := 0) (show (Str.ofString "sr").cps.toList[0]? = some 115 by decide +kernel)
        · exact atI_nat (j := 1) (show (Str.ofString "sr").cps.toList[1]? = some 114 by decide +kernel)
      · rw [upd_same]
        obtain ⟨l, bb⟩ := e
        cases bb <;> rfl
    refine ⟨D2, acc2, rfl, .inl ⟨.inl (.inl hD2), fun l nl => q1 _ _ (Same.trans s2 (Same.trans s3 (Same.new nl))) ⟨l, acc2, rfl, upd_same, ends_mono (Same.ts (Same.new nl)) hacc2⟩⟩⟩
  refine ⟨D, acc, rfl, .inl ⟨.inl (.inl hD), fun l nl => q _ _ (Same.trans s1 (Same.new nl)) ⟨l, acc, rfl, upd_same, Paired.imp (fun _ _ h => RowAt.mono (Same.ts (Same.new nl)) h) hacc⟩⟩⟩
theorem sc_w_less : FnScope ["_law_run_so", "_law_letter_so", "_law_row_so", "_law_own"] ["_law_run_so", "_law_letter_so"] (defScope s_w_less) := ⟨rfl, rfl, rfl, by decide +kernel, rfl, by decide +kernel, by decide +kernel⟩
-- slots: 0:_law_run_so 1:_law_letter_so 2:_law_row_so 3:_law_own
def spLess : Sp := fun vs H Q _ => ∃ v R l, vs = [v, .int l] ∧ RunAt H v R ∧ Fine R ∧ ∀ v' H', Same H H' → RunAt H' v' (less R l) → Q v' H'
theorem cal_w_less (F : FnP K "_law_less" s_w_less f fd) (hm : mg "_law_less" = some (.ref f)) (T : Txt K mg) {kk : Nat} : C8.Cal P w K mg base (kk + 1) "_law_less" spLess [] := by
  refine cal_of F hm sc_w_less (fun kV doc pm an cdv ct us hl => match us, hl with | [_, _], _ => rfl) (fun vs H Q E h => ?_) (fun cdv A outer s H vs Q E hr h => ?_)
  · obtain ⟨_, _, _, rfl, _⟩ := h; rfl
  obtain ⟨v, R, l, rfl, ⟨a, us, rfl, ha, hp⟩, fn, q⟩ := h
  have nd := sc_w_less.nd
  have hu1 := Nat.lt_of_le_of_lt (Nat.add_le_add_left (show 1 ≤ 64 by decide) _) hr.units
  have hu64 := hr.units
  have hu65 := room65 hr
  refine ⟨_, (pss_one (ps_ret (pe_callTy call_tuple_of (by rfl) T.n_tuple (by decide +kernel) (pa_cons (pe_lc (own := [("_law_row_so", 2)]) (g := (gName 2)) (tt := tYes) rfl nd (pi_tup (pv 0)) (blkOk_by (by rfl)) (fun _ _ _ _ _ => (pg_name (i := 2) nd rfl (Or.inl rfl))) (fun _ _ _ _ _ => pts_nil) (fun _ _ _ _ _ => (pe_callTy (call_tuple_ofK (K := K) rfl) (by rfl) T.n_tuple (by decide +kernel) (pa_cons (pe_lc (own := [("_law_own", 3)]) (g := (gName 3)) (tt := _) rfl nd (pi_tupK (K := K) rfl (pv 2)) (blkOk_by (by rfl)) (fun _ _ _ _ _ => (pg_name (i := 3) nd rfl (Or.inl rfl))) (fun _ _ _ _ _ => pts_one (pt_cmpR op_ne (pe_ix (ix_tupK (K := K) rfl) (pv 3) pe_int (fun _ _ => rfl)) (pv 1) (nomark _))) (fun _ _ _ _ _ => (pv 3))) pa_nil)))) pa_nil)))), ?_⟩
  have hul : us.length = R.length := Paired.len hp
  have hrows := fn.rows
  refine ⟨.ref a, rfl, a, rfl, ⟨us, SqT.of ha⟩, fun D nD => ?_⟩
  refine lc_map wp_tup R (fun row => row.filter fun e => decide (e.1 ≠ l)) RowAt (fun _ _ _ _ t h => RowAt.mono t h) hul (by omega) nD (fun H' s' => SqT.of (s' _ _ ha)) (fun i row x H1 K1 hrow s1 hi q1 => ?_) fun H1 acc s1 hD hacc => ?_
  · obtain ⟨row', hrow', b, rs, rfl, hb, hrs⟩ := Paired.at hp hi
    rw [hrow] at hrow'
    cases hrow'
    have hrl : rs.length = row.length := Paired.len hrs
    have hr40 := fn.row (List.mem_of_getElem? hrow)
    have hb1 := s1 _ _ hb
    refine ⟨rfl, .ref b, rfl, b, rfl, ⟨_, SqT.of hb1⟩, fun D2 nD2 => ?_⟩
    have hrr := ends_mono (Same.ts s1) hrs
    refine lc_fm wp_tup row (fun e => if e.1 ≠ l then some e else none) (fun H v e => EndAt H v e) (fun _ _ _ _ t h => EndAt.mono t h) hrl (by omega) nD2 (fun H' s' => SqT.of (s' _ _ hb1)) (fun j e x H3 K2 K0 he s3 hj q2 q0 => ?_) fun H3 acc2 s3 hD2 hacc2 => ?_
    · obtain ⟨e', he', z, rfl, hz⟩ := Paired.at hrr hj
      rw [he] at he'
      cases he'
      have hz3 := s3 _ _ hz
      refine ⟨rfl, .ref z, rfl, z, eV e, 0, _, rfl, rfl, SqT.of hz3, atI_nat (j := 0) rfl, .int l, rfl, rfl, _, rfl, ?_⟩
      by_cases hc : e.1 = l
      · exact iteF (by rw [hc, decide_eq_true rfl]; rfl) (q0 (if_neg fun h => h hc) _ (Same.rf _))
      · exact iteT (by rw [decide_eq_false fun h => hc (by injection h)]; rfl) ⟨.ref z, rfl, q2 _ _ e (Same.rf _) (if_pos hc) ⟨z, rfl, hz3⟩⟩
    have ef : row.filterMap (fun e => if e.1 ≠ l then some e else none) = row.filter fun e => decide (e.1 ≠ l) := by
      rw [← List.filterMap_eq_filter]
      congr 1
      funext e
      by_cases hc : e.1 ≠ l
      · rw [if_pos hc, Option.guard]
        simp [hc]
      · rw [if_neg hc, Option.guard]
        simp [hc]
    rw [ef] at hacc2
    refine ⟨D2, acc2, rfl, .inl ⟨.inl (.inl hD2), fun l nl => q1 _ _ (Same.trans s3 (Same.new nl)) ⟨l, acc2, rfl, upd_same, ends_mono (Same.ts (Same.new nl)) hacc2⟩⟩⟩
  refine ⟨D, acc, rfl, .inl ⟨.inl (.inl hD), fun l nl => q _ _ (Same.trans s1 (Same.new nl)) ⟨l, acc, rfl, upd_same, Paired.imp (fun _ _ h => RowAt.mono (Same.ts (Same.new nl)) h) hacc⟩⟩⟩
theorem sc_w_mixed : FnScope ["_law_box_here", "_law_rows_so", "_law_turn", "_law_rest_so", "_law_found", "_law_at_so"] ["_law_box_here", "_law_rows_so"] (defScope s_w_mixed) := ⟨rfl, rfl, rfl, by decide +kernel, rfl, by decide +kernel, by decide +kernel⟩
-- slots: 0:_law_box_here 1:_law_rows_so 2:_law_turn 3:_law_rest_so 4:_law_found 5:_law_at_so
def spMixed : Sp := fun vs H Q _ => ∃ (b a : Addr) (us : List V) (n : Nat), vs = [.ref b, .ref a] ∧ Bx H b (n + us.length) ∧ H a = some (.lst us) ∧ us.length ≤ 100 ∧ a ≠ b ∧ ∀ p ws H', SameX b H H' → Bx H' b n → H p = none → H' p = some (.lst ws) → ws.Perm us → Q (.ref p) H'
theorem cal_w_mixed (F : FnP K "_law_mixed" s_w_mixed f fd) (hm : mg "_law_mixed" = some (.ref f)) (T : Txt K mg) {kk : Nat} (c_w_take : C8.Cal P w K mg base 1 "_law_take" spTake []) : C8.Cal P w K mg base 2 "_law_mixed" spMixed [] := by
  refine cal_of F hm sc_w_mixed (fun kV doc pm an cdv ct us hl => match us, hl with | [_, _], _ => rfl) (fun vs H Q E h => ?_) (fun cdv A outer s H vs Q E hr h => ?_)
  · obtain ⟨_, _, _, _, rfl, _⟩ := h; rfl
  obtain ⟨b, a, us, n, rfl, bx, ha, hl, hab, q⟩ := h
  have nd := sc_w_mixed.nd
  have hu1 := Nat.lt_of_le_of_lt (Nat.add_le_add_left (show 1 ≤ 64 by decide) _) hr.units
  have hu64 := hr.units
  have hu65 := room65 hr
  refine ⟨_, (pss_cons (ps_par (i := 3) (j := 4) rfl nd rfl rfl (by decide) rfl rfl (pa_cons (pe_callTy call_list_of (by rfl) T.n_list (by decide +kernel) (pa_cons (pv 1) pa_nil)) (pa_cons (pe_lst pa_nil) pa_nil)) (by rfl))
    (pss_cons (ps_for PassesOwn.never rfl (pi_range1 (by rfl) T.n_range (pa_cons (pe_callB call_len_seq (by rfl) T.n_len (by decide +kernel) (pa_cons (pv 1) pa_nil)) pa_nil)) (pg_name (i := 2) nd rfl (Or.inl rfl)) (pss_cons (ps_set (i := 5) nd rfl (Or.inl rfl) (C8.pe_c c_w_take hr (by omega) (by rfl) (pa_cons (pv 0) (pa_cons (pe_callB call_len_seq (by rfl) T.n_len (by decide +kernel) (pa_cons (pv 3) pa_nil)) pa_nil))))
    (pss_cons (ps_expr (pe_bm PySem.F.plainAttrs_list PySem.F.slot_list_append PySem.F.type_list_append mt_append (pv 4) (pa_cons (pe_ix ix_list (pv 3) (pv 5) (fun _ _ => rfl)) pa_nil)))
    (pss_one (ps_set (i := 3) nd rfl (Or.inl rfl) (pe_op op_cat (pe_slice sl_list (pv 3) po_none (po_some (pv 5))) (pe_slice sl_list (pv 3) (po_some (pe_op op_add (pv 5) pe_int)) po_none)))))))
    (pss_one (ps_ret (pv 4))))), ?_⟩
  refine ⟨.ref a, rfl, a, us, rfl, .inl (.inl (.inl ha)), fun r nr => ⟨Nat.zero_le _, fun p np => ⟨.ref r, .ref p, rfl, ?_⟩⟩⟩
  have s1 : Same H (L2.upd H r (.lst us)) := Same.new nr
  have s2 : Same H (L2.upd (L2.upd H r (.lst us)) p (.lst [])) := Same.trans s1 (Same.new np)
  have hr2 : (L2.upd (L2.upd H r (.lst us)) p (.lst [])) r = some (.lst us) := (Same.new np) _ _ upd_same
  have hp2 : (L2.upd (L2.upd H r (.lst us)) p (.lst [])) p = some (.lst []) := upd_same
  have npH := same_none s1 np
  have hrp : r ≠ p := fun h => by rw [← h, upd_same] at np; cases np
  generalize (L2.upd (L2.upd H r (.lst us)) p (.lst [])) = H2 at s2 hr2 hp2 ⊢
  have hpb := bx.ne npH
  refine ⟨.ref a, rfl, a, us, rfl, .inl (.inl (.inl (s2 _ _ ha))), (us.length : Nat), rfl, by omega, by omega, ?_⟩
  refine L2.for_it (wp_range (n := ((us.length : Nat) : Int).toNat)) (fun i σ H' => ∃ x2 x5 rr ws rs, σ = [some (.ref b), some (.ref a), x2, some (.ref rr), some (.ref p), x5] ∧ SameX b H H' ∧ rr ≠ b ∧ rr ≠ p ∧ H' rr = some (.lst rs) ∧ H' p = some (.lst ws) ∧ (ws ++ rs).Perm us ∧ ws.length = i ∧ Bx H' b (n + rs.length)) ⟨_, _, r, [], us, rfl, Same.x s2, bx.ne nr, hrp, hr2, hp2, .refl _, rfl, bx.same s2⟩ (fun _ _ _ _ _ => trivial) (fun i x σ H3 H3' hi h y => ?_) fun σ H3 h => ?_
  · obtain ⟨x2, x5, rr, ws, rs, rfl, s3, hrb, hrp, hrr, hpw, hpm, hwl, bx3⟩ := h
    obtain ⟨s4, rfl⟩ := y
    have hrr := s4 _ _ hrr
    have hpw := s4 _ _ hpw
    have bx3 := bx3.same s4
    have s3 := SameX.trans s3 (Same.x s4)
    have htot : ws.length + rs.length = us.length := by rw [← List.length_append, hpm.length_eq]
    have hrs1 : 0 < rs.length := by
      have : i < us.length := by omega
      omega
    obtain ⟨m, hm'⟩ : ∃ m, rs.length = m + 1 := ⟨rs.length - 1, by omega⟩
    refine ⟨.ref b, rfl, .ref rr, rfl, rr, rs, rfl, .inl (.inl (.inl hrr)), b, (rs.length : Nat), n + m, rfl, bx3.le (by omega), by omega, by omega, fun k H4 s4' bx4 hk => ?_⟩
    have hk' : k < rs.length := by omega
    have hrr4 := s4' _ _ hrb hrr
    have hpw4 := s4' _ _ hpb hpw
    refine ⟨.ref p, rfl, tyL hpw4, .ref rr, rfl, .int (k : Nat), rfl, rr, rs, (k : Nat), rs[k], rfl, rfl, .inl (.inl hrr4), atI_nat (List.getElem?_eq_getElem hk'), p, ws, rs[k], rfl, rfl, hpw4, small1000 (by omega), ?_⟩
    have hrr5 : (L2.upd H4 p (.lst (ws ++ [rs[k]]))) rr = some (.lst rs) := by rw [upd_ne hrp]; exact hrr4
    have hpw5 : (L2.upd H4 p (.lst (ws ++ [rs[k]]))) p = some (.lst (ws ++ [rs[k]])) := upd_same
    have s5 : SameX b H (L2.upd H4 p (.lst (ws ++ [rs[k]]))) := SameX.put (SameX.trans s3 s4') npH
    have bx5 := bx4.off (o := .lst (ws ++ [rs[k]])) hpb
    generalize (L2.upd H4 p (.lst (ws ++ [rs[k]]))) = H5 at hrr5 hpw5 s5 bx5 ⊢
    have ek : ((k : Nat) : Int) + 1 = ((k + 1 : Nat) : Int) := rfl
    refine ⟨.ref rr, rfl, .int (k : Nat), rfl, (k : Nat), rfl, rr, rs, rfl, .inl (.inl hrr5), fun p6 np6 => ⟨.ref rr, rfl, .int (k : Nat), rfl, (k : Nat), 1, rfl, rfl, _, rfl, rr, rs, rfl, .inl (.inl ((Same.new np6) _ _ hrr5)), fun p7 np7 => ?_⟩⟩
    have e1 : cutV rs none (some (k : Nat)) = rs.take k := cutV_to rs k
    have e2 : cutV rs (some ((k : Nat) + 1)) none = rs.drop (k + 1) := cutV_from rs (k + 1)
    have s6 := Same.new (o := .lst (cutV rs none (some (k : Nat)))) np6
    have s7 := Same.new (o := .lst (cutV rs (some ((k : Nat) + 1)) none)) np7
    have ecut : rs = rs.take k ++ rs[k] :: rs.drop (k + 1) := cut_at (List.getElem?_eq_getElem hk')
    have elen : (rs.take k).length + (rs.drop (k + 1)).length + 1 = rs.length := by
      rw [List.length_take, List.length_drop]
      omega
    refine ⟨p6, p7, _, _, rfl, rfl, s7 _ _ upd_same, upd_same, by rw [e1, e2]; exact Nat.le_trans (show _ ≤ 1000 by omega) (by decide), fun p8 np8 => ?_⟩
    have s8 := Same.trans (Same.trans s6 s7) (Same.new (o := .lst (cutV rs none (some (k : Nat)) ++ cutV rs (some ((k : Nat) + 1)) none)) np8)
    have np8H := SameX.none (SameX.trans s5 (Same.x (Same.trans s6 s7))) (bx5.ne (same_none (Same.trans s6 s7) np8)) np8
    have np8p : p8 ≠ p := fun h => by
      rw [h, (Same.trans s6 s7) _ _ hpw5] at np8
      cases np8
    refine ⟨_, _, p8, ws ++ [rs[k]], rs.take k ++ rs.drop (k + 1), rfl, SameX.trans s5 (Same.x s8), bx5.ne (same_none (Same.trans s6 s7) np8), np8p, by rw [upd_same, e1, e2], s8 _ _ hpw5, ?_, ?_, (bx5.same s8).le ?_⟩
    · refine List.Perm.trans ?_ hpm
      rw [List.append_assoc]
      refine List.Perm.append_left ws ?_
      conv => rhs; rw [ecut]
      exact (List.perm_middle (a := rs[k]) (l₁ := rs.take k) (l₂ := rs.drop (k + 1))).symm
    · rw [List.length_append, hwl]
      rfl
    · rw [List.length_append]
      omega
  · obtain ⟨x2, x5, rr, ws, rs, rfl, s3, hrb, hrp, hrr, hpw, hpm, hwl, bx3⟩ := h
    have htot : ws.length + rs.length = us.length := by rw [← List.length_append, hpm.length_eq]
    have hr0 : rs = [] := List.length_eq_zero_iff.mp (by omega)
    subst hr0
    rw [List.append_nil] at hpm
    exact ⟨.ref p, rfl, q p ws H3 s3 bx3 npH hpw hpm⟩
end
end BC
namespace BC
/-! drawing a run -/
def addTo (R : Run) (h : Nat) (e : En) : Run := R.set h (R.getD h [] ++ [e])
theorem addTo_of {R : Run} {h : Nat} {row : List En} (e : En) (hr : R[h]? = some row) : addTo R h e = R.set h (row ++ [e]) := by
  unfold addTo
  rw [List.getD_eq_getElem?_getD, hr]
  rfl
theorem addTo_len (R : Run) (h : Nat) (e : En) : (addTo R h e).length = R.length := List.length_set
theorem addTo_ends : ∀ (R : Run) (h : Nat) (e : En), h < R.length → (ends (addTo R h e)).Perm (e :: ends R)
  | [], _, _, h => by simp at h
  | r :: R, 0, e, _ => by
    show (((r :: R).set 0 _).flatten).Perm (e :: (r :: R).flatten)
    rw [List.set_cons_zero, List.flatten_cons, List.flatten_cons]
    show ((r ++ [e]) ++ R.flatten).Perm (e :: (r ++ R.flatten))
    rw [List.append_assoc]
    exact List.perm_middle
  | r :: R, h + 1, e, hl => by
    have ih := addTo_ends R h e (by simpa using hl)
    show (((r :: R).set (h + 1) _).flatten).Perm (e :: (r :: R).flatten)
    rw [List.set_cons_succ, List.flatten_cons, List.flatten_cons]
    exact (List.Perm.append_left r ih).trans List.perm_middle
theorem addTo_get {R : Run} {h : Nat} {e : En} {row : List En} (hr : R[h]? = some row) (i : Nat) : (addTo R h e)[i]? = if i = h then some (row ++ [e]) else R[i]? := by
  rw [addTo_of e hr, List.getElem?_set]
  have hl := (List.getElem?_eq_some_iff.mp hr).1
  by_cases c : h = i
  · subst c; simp [hl]
  · rw [if_neg c, if_neg (Ne.symm c)]
theorem addTo_rows {R : Run} {h : Nat} {e : En} {row x : List En} (hr : R[h]? = some row) (hx : x ∈ addTo R h e) : x ∈ R ∨ x = row ++ [e] := by
  obtain ⟨i, hi⟩ := List.getElem?_of_mem hx
  rw [addTo_get hr] at hi
  by_cases c : i = h
  · rw [if_pos c] at hi; exact .inr (Option.some.inj hi).symm
  · rw [if_neg c] at hi; exact .inl (List.mem_of_getElem? hi)
abbrev Way := List (Int × Nat)
structure Gen (R : Run) (W : Way) (N : Int) : Prop where
  n0 : 0 ≤ N
  nd : (ends R).Nodup
  si : ∀ l, (l, true) ∈ ends R ↔ 0 ≤ l ∧ l < N
  ri : ∀ l, (l, false) ∈ ends R ↔ (0 ≤ l ∧ l < N) ∧ l ∉ W.map (·.1)
  wn : (W.map (·.1)).Nodup
  wl : ∀ p ∈ W, 0 ≤ p.1 ∧ p.1 < N ∧ p.2 < R.length
  wa : ∀ p ∈ W, ∀ row, R[p.2]? = some row → (p.1, true) ∉ row
  ap : ∀ row ∈ R, ∀ e ∈ row, flip e ∉ row
  tm : ∃ (t : En → Nat) (B : Nat), (∀ e ∈ ends R, t e < B) ∧ (∀ row ∈ R, row.Pairwise fun a b => t a < t b) ∧ ∀ l, (l, false) ∈ ends R → t (l, true) < t (l, false)
  ln : ((ends R).length + W.length : Int) = 2 * N
theorem Gen.start (k : Nat) : Gen (List.replicate k []) [] 0 := by
  have e : ends (List.replicate k ([] : List En)) = [] := by
    unfold ends
    induction k with
    | zero => rfl
    | succ k ih => rw [List.replicate_succ, List.flatten_cons, ih]; rfl
  refine ⟨Int.le_refl _, by rw [e]; exact .nil, fun l => ?_, fun l => ?_, by simp, fun p h => (by cases h), fun p h => (by cases h), fun row hr x hx => ?_, ⟨fun _ => 0, 0, by rw [e]; exact fun _ h => (by cases h), fun row hr => ?_, by rw [e]; exact fun _ h => (by cases h)⟩, by rw [e]; rfl⟩
  · rw [e]
    exact ⟨fun h => (by cases h), fun h => (by omega)⟩
  · rw [e]
    exact ⟨fun h => (by cases h), fun h => (by have := h.1; omega)⟩
  · rw [(List.mem_replicate.mp hr).2] at hx
    cases hx
  · rw [(List.mem_replicate.mp hr).2]
    exact .nil
theorem Gen.time {R : Run} {t : En → Nat} {B : Nat} {h : Nat} {e : En} {row : List En} (hr : R[h]? = some row) (hn : e ∉ ends R) (hB : ∀ e ∈ ends R, t e < B) (hp : ∀ row ∈ R, row.Pairwise fun a b => t a < t b) :
    (∀ x ∈ ends (addTo R h e), (if x = e then B else t x) < B + 1) ∧ ∀ row ∈ addTo R h e, row.Pairwise fun a b => (if a = e then B else t a) < (if b = e then B else t b) := by
  have hl := (List.getElem?_eq_some_iff.mp hr).1
  have hm := List.mem_of_getElem? hr
  constructor
  · intro x hx
    by_cases c : x = e
    · rw [if_pos c]; omega
    · rw [if_neg c]
      have := ((addTo_ends R h e hl).mem_iff).mp hx
      rcases List.mem_cons.mp this with z | z
      · exact absurd z c
      · have := hB x z; omega
  · have old : ∀ row' ∈ R, row'.Pairwise fun a b => (if a = e then B else t a) < (if b = e then B else t b) := fun row' hr' => by
      refine (hp row' hr').imp_of_mem fun ha hb h => ?_
      have ha' := mem_ends.mpr ⟨row', hr', ha⟩
      have hb' := mem_ends.mpr ⟨row', hr', hb⟩
      rw [if_neg (fun z => hn (by rw [← z]; exact ha')), if_neg (fun z => hn (by rw [← z]; exact hb'))]
      exact h
    intro row' hr'
    rcases addTo_rows hr hr' with z | z
    · exact old _ z
    · rw [z, List.pairwise_append]
      refine ⟨old _ hm, List.pairwise_singleton _ _, fun a ha b hb => ?_⟩
      rw [List.mem_singleton.mp hb, if_pos rfl]
      have ha' := mem_ends.mpr ⟨row, hm, ha⟩
      rw [if_neg (fun z => hn (by rw [← z]; exact ha'))]
      exact hB a ha'
theorem Gen.send {R : Run} {W : Way} {N : Int} (g : Gen R W N) {h1 h2 : Nat} {row : List En} (hr : R[h1]? = some row) (h2l : h2 < R.length) (hne : h1 ≠ h2) : Gen (addTo R h1 (N, true)) (W ++ [(N, h2)]) (N + 1) := by
  have hl := (List.getElem?_eq_some_iff.mp hr).1
  have hm := List.mem_of_getElem? hr
  have pm := addTo_ends R h1 (N, true) hl
  have n1 : (N, true) ∉ ends R := fun h => by have := (g.si N).mp h; omega
  have n2 : (N, false) ∉ ends R := fun h => by have := ((g.ri N).mp h).1; omega
  have nW : N ∉ W.map (·.1) := fun h => by
    obtain ⟨p, hp, e⟩ := List.mem_map.mp h
    have := g.wl p hp
    omega
  have hn0 := g.n0
  have notin : ∀ row' ∈ R, ∀ b, (N, b) ∉ row' := fun row' hr' b h => by
    cases b
    · exact n2 (mem_ends.mpr ⟨row', hr', h⟩)
    · exact n1 (mem_ends.mpr ⟨row', hr', h⟩)
  refine ⟨by omega, pm.symm.nodup (List.nodup_cons.mpr ⟨n1, g.nd⟩), fun l => ?_, fun l => ?_, ?_, fun p hp => ?_, fun p hp row' hr' => ?_, fun row' hr' e he => ?_, ?_, ?_⟩
  · rw [pm.mem_iff, List.mem_cons, g.si]
    constructor
    · rintro (h | h)
      · injection h with h _; omega
      · omega
    · intro h
      by_cases c : l = N
      · exact .inl (by rw [c])
      · exact .inr (by omega)
  · rw [pm.mem_iff, List.mem_cons, g.ri, List.map_append]
    constructor
    · rintro (h | h)
      · injection h with _ h; cases h
      · refine ⟨by omega, fun z => ?_⟩
        rcases List.mem_append.mp z with z | z
        · exact h.2 z
        · simp at z; omega
    · rintro ⟨h1', h2'⟩
      have h3 : l ≠ N := fun z => h2' (List.mem_append.mpr (.inr (by simp [z])))
      exact .inr ⟨by omega, fun z => h2' (List.mem_append.mpr (.inl z))⟩
  · rw [List.map_append, List.nodup_append]
    refine ⟨g.wn, by simp, fun a ha b hb e => ?_⟩
    simp at hb
    rw [e, hb] at ha
    exact nW ha
  · rw [addTo_len]
    rcases List.mem_append.mp hp with hp | hp
    · have := g.wl p hp
      omega
    · simp at hp
      rw [hp]
      exact ⟨hn0, by show N < N + 1; omega, h2l⟩
  · rw [addTo_get hr] at hr'
    rcases List.mem_append.mp hp with hp | hp
    · by_cases c : p.2 = h1
      · rw [if_pos c] at hr'
        rw [← Option.some.inj hr']
        intro z
        rcases List.mem_append.mp z with z | z
        · exact g.wa p hp row (by rw [c]; exact hr) z
        · simp at z
          have := g.wl p hp
          omega
      · rw [if_neg c] at hr'
        exact g.wa p hp row' hr'
    · simp at hp
      rw [hp] at hr' ⊢
      have c : h2 ≠ h1 := Ne.symm hne
      simp only [if_neg c] at hr'
      exact notin row' (List.mem_of_getElem? hr') true
  · rcases addTo_rows hr hr' with z | z
    · exact g.ap row' z e he
    · rw [z] at he ⊢
      intro hf
      rcases List.mem_append.mp he with he | he <;> rcases List.mem_append.mp hf with hf | hf
      · exact g.ap row hm e he hf
      · simp at hf
        have : e = (N, false) := by rw [← flip_flip e, hf]; rfl
        rw [this] at he
        exact notin row hm _ he
      · simp at he
        rw [he] at hf
        exact notin row hm _ hf
      · simp at he hf
        rw [he] at hf
        injection hf with _ h
        cases h
  · obtain ⟨t, B, hB, hp, ht⟩ := g.tm
    obtain ⟨q1, q2⟩ := Gen.time hr n1 hB hp
    refine ⟨_, B + 1, q1, q2, fun l hl' => ?_⟩
    rw [pm.mem_iff, List.mem_cons] at hl'
    rcases hl' with z | z
    · injection z with _ z; cases z
    · have h3 := ((g.ri l).mp z).1
      rw [if_neg (fun z => (by injection z with z _; omega)), if_neg (fun z => (by injection z with _ z; cases z))]
      exact ht l z
  · have := pm.length_eq
    have := g.ln
    rw [List.length_append]
    simp only [List.length_cons, List.length_nil] at *
    omega
theorem Gen.recv {R : Run} {W1 W2 : Way} {l : Int} {h : Nat} {N : Int} (g : Gen R (W1 ++ (l, h) :: W2) N) {row : List En} (hr : R[h]? = some row) : Gen (addTo R h (l, false)) (W1 ++ W2) N := by
  have hl := (List.getElem?_eq_some_iff.mp hr).1
  have hm := List.mem_of_getElem? hr
  have pm := addTo_ends R h (l, false) hl
  have hw : (l, h) ∈ W1 ++ (l, h) :: W2 := by simp
  have hlN := g.wl _ hw
  have hlN : 0 ≤ l ∧ l < N ∧ h < R.length := hlN
  have n1 : (l, false) ∉ ends R := fun z => ((g.ri l).mp z).2 (by simp)
  have n2 : (l, true) ∉ row := g.wa _ hw row hr
  have wpm : (W1 ++ (l, h) :: W2).Perm ((l, h) :: (W1 ++ W2)) := List.perm_middle
  have wn := (wpm.map (·.1)).nodup g.wn
  rw [List.map_cons, List.nodup_cons] at wn
  have sub : ∀ p, p ∈ W1 ++ W2 → p ∈ W1 ++ (l, h) :: W2 := fun p hp => wpm.symm.subset (List.mem_cons_of_mem _ hp)
  refine ⟨g.n0, pm.symm.nodup (List.nodup_cons.mpr ⟨n1, g.nd⟩), fun m => ?_, fun m => ?_, wn.2, fun p hp => ?_, fun p hp row' hr' => ?_, fun row' hr' e he => ?_, ?_, ?_⟩
  · rw [pm.mem_iff, List.mem_cons, g.si]
    exact ⟨fun z => z.elim (fun z => (by injection z with _ z; cases z)) id, .inr⟩
  · rw [pm.mem_iff, List.mem_cons, g.ri]
    have e : m ∈ (W1 ++ (l, h) :: W2).map (·.1) ↔ m = l ∨ m ∈ (W1 ++ W2).map (·.1) := by
      rw [(wpm.map (·.1)).mem_iff, List.map_cons, List.mem_cons]
    rw [e]
    constructor
    · rintro (z | z)
      · injection z with z _
        subst z
        exact ⟨⟨hlN.1, hlN.2.1⟩, wn.1⟩
      · exact ⟨z.1, fun y => z.2 (.inr y)⟩
    · rintro ⟨z1, z2⟩
      by_cases c : m = l
      · exact .inl (by rw [c])
      · exact .inr ⟨z1, fun y => y.elim c z2⟩
  · rw [addTo_len]
    exact g.wl p (sub p hp)
  · rw [addTo_get hr] at hr'
    by_cases c : p.2 = h
    · rw [if_pos c] at hr'
      rw [← Option.some.inj hr']
      intro z
      rcases List.mem_append.mp z with z | z
      · exact g.wa p (sub p hp) row (by rw [c]; exact hr) z
      · simp at z
    · rw [if_neg c] at hr'
      exact g.wa p (sub p hp) row' hr'
  · rcases addTo_rows hr hr' with z | z
    · exact g.ap row' z e he
    · rw [z] at he ⊢
      intro hf
      rcases List.mem_append.mp he with he | he <;> rcases List.mem_append.mp hf with hf | hf
      · exact g.ap row hm e he hf
      · simp at hf
        have : e = (l, true) := by rw [← flip_flip e, hf]; rfl
        rw [this] at he
        exact n2 he
      · simp at he
        rw [he] at hf
        exact n2 hf
      · simp at he hf
        rw [he] at hf
        injection hf with _ h
        cases h
  · obtain ⟨t, B, hB, hp, ht⟩ := g.tm
    obtain ⟨q1, q2⟩ := Gen.time hr n1 hB hp
    refine ⟨_, B + 1, q1, q2, fun m hm' => ?_⟩
    rw [pm.mem_iff, List.mem_cons] at hm'
    have h5 : ((m, true) : En) ≠ (l, false) := fun z => by injection z with _ z; cases z
    rw [if_neg h5]
    by_cases c : m = l
    · rw [if_pos (by rw [c])]
      have hs : (m, true) ∈ ends R := (g.si m).mpr (by omega)
      exact hB _ hs
    · have c2 : ((m, false) : En) ≠ (l, false) := fun z => c (by injection z)
      rw [if_neg c2]
      exact ht m (hm'.resolve_left c2)
  · have h1 := pm.length_eq
    have h2 := g.ln
    have h3 := wpm.length_eq
    simp only [List.length_cons] at h1 h3
    omega
theorem Gen.done {R : Run} {N : Int} (g : Gen R [] N) : Ok R where
  nd := g.nd
  both := fun e he => by
    obtain ⟨l, b⟩ := e
    cases b
    · exact (g.si l).mpr ((g.ri l).mp he).1
    · exact (g.ri l).mpr ⟨(g.si l).mp he, by simp⟩
  apart := g.ap
  nn := fun e he => by
    obtain ⟨l, b⟩ := e
    cases b
    · exact ((g.ri l).mp he).1.1
    · exact ((g.si l).mp he).1
  time := by
    obtain ⟨t, B, _, hp, ht⟩ := g.tm
    exact ⟨t, hp, fun l hl => ht l ((g.ri l).mpr ⟨(g.si l).mp hl, by simp⟩)⟩
theorem Gen.ends {R : Run} {N : Int} (g : Gen R [] N) (h : 1 ≤ N) : ends R ≠ [] := fun e => by
  have := (g.si 0).mpr ⟨Int.le_refl _, by omega⟩
  rw [e] at this
  cases this
/-! other names for the letters -/
def renamed (f : Int → Int) (R : Run) : Run := R.map fun row => row.map fun e => (f e.1, e.2)
theorem ends_renamed (f : Int → Int) (R : Run) : BC.ends (renamed f R) = (BC.ends R).map fun e => (f e.1, e.2) := by
  unfold BC.ends renamed
  rw [List.map_flatten]
theorem Ok.renamed {R : Run} (o : Ok R) {f : Int → Int} (hi : ∀ a b, (a, true) ∈ BC.ends R → (b, true) ∈ BC.ends R → f a = f b → a = b) (h0 : ∀ a, (a, true) ∈ BC.ends R → 0 ≤ f a) : Ok (renamed f R) := by
  have inj : ∀ x ∈ BC.ends R, ∀ y ∈ BC.ends R, ((f x.1, x.2) : En) = (f y.1, y.2) → x = y := fun x hx y hy e => by
    obtain ⟨l, b⟩ := x
    obtain ⟨m, c⟩ := y
    injection e with e1 e2
    have e2 : b = c := e2
    subst e2
    have sx : (l, true) ∈ BC.ends R := by
      cases b
      · exact o.both _ hx
      · exact hx
    have sy : (m, true) ∈ BC.ends R := by
      cases b
      · exact o.both _ hy
      · exact hy
    rw [hi l m sx sy e1]
  have trueOf : ∀ x ∈ BC.ends R, (x.1, true) ∈ BC.ends R := fun x hx => by
    obtain ⟨l, b⟩ := x
    cases b
    · exact o.both _ hx
    · exact hx
  refine ⟨?_, fun e he => ?_, fun row hr e he hf => ?_, fun e he => ?_, ?_⟩
  · rw [ends_renamed, List.nodup_iff_pairwise_ne, List.pairwise_map]
    have := List.nodup_iff_pairwise_ne.mp o.nd
    exact this.imp_of_mem fun ha hb h e => h (inj _ ha _ hb e)
  · rw [ends_renamed] at he ⊢
    obtain ⟨x, hx, rfl⟩ := List.mem_map.mp he
    exact List.mem_map.mpr ⟨flip x, o.both x hx, rfl⟩
  · obtain ⟨row0, hr0, rfl⟩ := List.mem_map.mp hr
    obtain ⟨x, hx, rfl⟩ := List.mem_map.mp he
    obtain ⟨y, hy, ey⟩ := List.mem_map.mp hf
    have hxe := mem_ends.mpr ⟨row0, hr0, hx⟩
    have hye := mem_ends.mpr ⟨row0, hr0, hy⟩
    have : y = flip x := inj y hye (flip x) (o.both x hxe) ey
    exact o.apart row0 hr0 x hx (this ▸ hy)
  · rw [ends_renamed] at he
    obtain ⟨x, hx, rfl⟩ := List.mem_map.mp he
    exact h0 _ (trueOf x hx)
  · obtain ⟨t, h1, h2⟩ := o.time
    -- the time of the end that bears the name
    classical
    let t' : En → Nat := fun e => if h : ∃ x, x ∈ BC.ends R ∧ ((f x.1, x.2) : En) = e then t h.choose else 0
    have ht : ∀ x, x ∈ BC.ends R → t' (f x.1, x.2) = t x := fun x hx => by
      have hex : ∃ y, y ∈ BC.ends R ∧ ((f y.1, y.2) : En) = (f x.1, x.2) := ⟨x, hx, rfl⟩
      show (if h : ∃ y, y ∈ BC.ends R ∧ ((f y.1, y.2) : En) = (f x.1, x.2) then t h.choose else 0) = t x
      rw [dif_pos hex]
      rw [inj _ hex.choose_spec.1 x hx hex.choose_spec.2]
    refine ⟨t', fun row hr => ?_, fun l hl => ?_⟩
    · obtain ⟨row0, hr0, rfl⟩ := List.mem_map.mp hr
      rw [List.pairwise_map]
      refine (h1 row0 hr0).imp_of_mem fun ha hb h => ?_
      rw [ht _ (mem_ends.mpr ⟨row0, hr0, ha⟩), ht _ (mem_ends.mpr ⟨row0, hr0, hb⟩)]
      exact h
    · rw [ends_renamed] at hl
      obtain ⟨⟨m, b⟩, hx, e⟩ := List.mem_map.mp hl
      injection e with e1 e2
      have e2 : b = true := e2
      subst e2
      have e1 : f m = l := e1
      rw [← e1]
      have h3 : t' (f m, true) = t (m, true) := ht (m, true) hx
      have h4 : t' (f m, false) = t (m, false) := ht (m, false) (o.both _ hx)
      rw [h3, h4]
      exact h2 m hx
theorem renamed_len (f : Int → Int) (R : Run) : (renamed f R).length = R.length := List.length_map _
end BC
namespace BC
open PySem PySem.Spec PyProof.Rows L2 BX
theorem ifS_cut {c : TT} {t u : TS} {D : Ends} {σ : L2.St} {H : Hp} (M : Bool → Hp → Prop) (h1 : ∀ F : Bool → Hp → Prop, (∀ b H', M b H' → F b H') → c σ H F) (h2 : ∀ H', M true H' → t D σ H') (h3 : ∀ H', M false H' → u D σ H') : tIfS c t u D σ H :=
  h1 _ fun b H' m => by
    cases b
    · exact iteF rfl (h3 H' m)
    · exact iteT rfl (h2 H' m)
/-- a list of lists of ends -/
structure RowsAt (H : Hp) (rl : Addr) (rs : List Addr) (R : Run) : Prop where
  lst : H rl = some (.lst (rs.map V.ref))
  nd : rs.Nodup
  ne : ∀ a ∈ rs, a ≠ rl
  len : rs.length = R.length
  row : ∀ (i : Nat) (a : Addr) (row : List En), rs[i]? = some a → R[i]? = some row → ∃ vs, H a = some (.lst vs) ∧ Paired (EndAt H) vs row
theorem RowsAt.keep {H H' : Hp} {rl : Addr} {rs : List Addr} {R : Run} (r : RowsAt H rl rs R) (h : ∀ a, a = rl ∨ a ∈ rs → H' a = H a) (t : TSame H H') : RowsAt H' rl rs R where
  lst := by rw [h rl (.inl rfl)]; exact r.lst
  nd := r.nd
  ne := r.ne
  len := r.len
  row := fun i a row h1 h2 => by
    obtain ⟨vs, h3, h4⟩ := r.row i a row h1 h2
    exact ⟨vs, by rw [h a (.inr (List.mem_of_getElem? h1))]; exact h3, ends_mono t h4⟩
theorem RowsAt.isL {H : Hp} {rl : Addr} {rs : List Addr} {R : Run} (r : RowsAt H rl rs R) {a : Addr} (ha : a = rl ∨ a ∈ rs) : ∃ xs, H a = some (.lst xs) := by
  rcases ha with rfl | ha
  · exact ⟨_, r.lst⟩
  · obtain ⟨i, hi⟩ := List.getElem?_of_mem ha
    have hl : i < R.length := by rw [← r.len]; exact (List.getElem?_eq_some_iff.mp hi).1
    obtain ⟨vs, h1, _⟩ := r.row i a _ hi (List.getElem?_eq_getElem hl)
    exact ⟨vs, h1⟩
theorem RowsAt.same {H H' : Hp} {rl : Addr} {rs : List Addr} {R : Run} (r : RowsAt H rl rs R) (s : Same H H') : RowsAt H' rl rs R :=
  r.keep (fun a ha => by obtain ⟨xs, h⟩ := r.isL ha; rw [h, s _ _ h]) (Same.ts s)
theorem RowsAt.mx {H H' : Hp} {b rl : Addr} {rs : List Addr} {R : Run} (r : RowsAt H rl rs R) (s : SameX b H H') (t : TSame H H') (hb : ∀ a, a = rl ∨ a ∈ rs → a ≠ b) : RowsAt H' rl rs R :=
  r.keep (fun a ha => by obtain ⟨xs, h⟩ := r.isL ha; rw [h, s _ _ (hb a ha) h]) t
theorem RowsAt.off {H : Hp} {p rl : Addr} {o : HO} {rs : List Addr} {R : Run} (r : RowsAt H rl rs R) (hp : ∀ a, a = rl ∨ a ∈ rs → a ≠ p) (t : TSame H (L2.upd H p o)) : RowsAt (L2.upd H p o) rl rs R :=
  r.keep (fun a ha => upd_ne (hp a ha)) t
theorem RowsAt.app {H : Hp} {rl a : Addr} {rs : List Addr} {R : Run} {i : Nat} {row : List En} {vs : List V} {v : V} {e : En} (r : RowsAt H rl rs R) (hi : rs[i]? = some a) (hr : R[i]? = some row) (hl : H a = some (.lst vs)) (hp : Paired (EndAt H) vs row) (hv : EndAt H v e) :
    RowsAt (L2.upd H a (.lst (vs ++ [v]))) rl rs (addTo R i e) := by
  have t : TSame H (L2.upd H a (.lst (vs ++ [v]))) := .lst hl
  refine ⟨by rw [upd_ne (Ne.symm (r.ne a (List.mem_of_getElem? hi)))]; exact r.lst, r.nd, r.ne, by rw [addTo_len]; exact r.len, fun j c row' h1 h2 => ?_⟩
  rw [addTo_get hr] at h2
  by_cases hj : j = i
  · subst hj
    rw [if_pos rfl] at h2
    rw [hi] at h1
    cases h1
    cases h2
    exact ⟨_, upd_same, Paired.snoc (ends_mono t hp) (EndAt.mono t hv)⟩
  · rw [if_neg hj] at h2
    obtain ⟨ws, h3, h4⟩ := r.row j c row' h1 h2
    have hca : c ≠ a := fun e => by
      have hi1 := (List.getElem?_eq_some_iff.mp hi)
      have hj1 := (List.getElem?_eq_some_iff.mp h1)
      obtain ⟨l1, e1⟩ := hi1
      obtain ⟨l2, e2⟩ := hj1
      exact hj ((List.getElem_inj r.nd).mp (by rw [e2, e1, e]))
    exact ⟨ws, by rw [upd_ne hca]; exact h3, ends_mono t h4⟩
/-- [[] for ..] -/
theorem lc_rows {J : It} {n : Nat} {G : Hp → Prop} {PI : Nat → V → Hp → Prop} (w : WP J n G PI) (hn : n ≤ 100) {k : Nat} {vs : List Nat} {σ : L2.St} {H1 : Hp} {D : Addr} {Qd : Hp → Prop} (hD : H1 D = none) (hG : ∀ H, Same H1 H → G H)
    (hw : ∀ x, wipe ((wipe σ vs).set k (some x)) vs = wipe σ vs)
    (hd : ∀ H rs, Same H1 H → RowsAt H D rs (List.replicate n []) → (∀ a ∈ rs, H1 a = none) → Qd H) :
    ∃ W : Nat → Nat → Hp → Prop, (∃ m, W 0 m (L2.upd H1 D (.lst []))) ∧ ∀ i m H, W i m H →
      (J.stop i H ∧ Qd H) ∨ (J.go i H ∧ ∃ Nx : Hp → Prop, (∀ H', Nx H' → ∃ m', m' < m ∧ W (i + 1) m' H') ∧ ∀ x H', J.yld i H x H' → gName k x (wipe σ vs) H' fun σ2 H2 => wipe σ2 vs = wipe σ vs ∧ tYes σ2 H2 fun b H3 =>
        if b = true then tLst tNil σ2 H3 fun y H4 => ∃ acc, H4 D = some (.lst acc) ∧ acc.length < sizeLine ∧ Nx (L2.upd H4 D (.lst (acc ++ [y]))) else Nx H3) := by
  refine L2.lc_it w (fun i H => Same H1 H ∧ ∃ rs, RowsAt H D rs (List.replicate i []) ∧ ∀ a ∈ rs, H1 a = none) ⟨Same.new hD, [], ⟨upd_same, .nil, fun a ha => (by cases ha), rfl, fun i a row h => (by simp at h)⟩, fun a ha => (by cases ha)⟩ (fun i H _ h => hG H h.1) (fun i x H H' hi h y => ?_) fun H h => ?_
  · obtain ⟨s1, rs, ra, hf⟩ := h
    obtain ⟨s2, _⟩ := y
    have ra := ra.same s2
    refine ⟨hw x, ?_⟩
    delta tYes
    refine iteT (c := true) rfl ?_
    refine ⟨Nat.zero_le _, fun p np => ?_⟩
    have s3 := Same.new (o := .lst []) np
    have ra3 := ra.same s3
    have npa : ∀ a, a = D ∨ a ∈ rs → a ≠ p := fun a ha e => by
      obtain ⟨xs, h⟩ := ra.isL ha
      rw [e, np] at h
      cases h
    refine ⟨_, ra3.lst, small1000 ?_, Same.put (Same.trans s1 (Same.trans s2 s3)) hD, rs ++ [p], ?_, fun a ha => ?_⟩
    · rw [List.length_map, ra.len, List.length_replicate]
      omega
    · have t4 : TSame (L2.upd H' p (.lst [])) (L2.upd (L2.upd H' p (.lst [])) D (.lst (rs.map V.ref ++ [.ref p]))) := .lst ra3.lst
      refine ⟨by rw [upd_same, List.map_append]; rfl, ?_, fun a ha => ?_, by rw [List.length_append, List.length_replicate, ra.len, List.length_replicate]; rfl, fun j a row h1 h2 => ?_⟩
      · rw [List.nodup_append]
        refine ⟨ra.nd, by simp, fun a ha c hc e => npa a (.inr ha) ?_⟩
        rw [e, List.mem_singleton.mp hc]
      · rcases List.mem_append.mp ha with ha | ha
        · exact ra.ne a ha
        · rw [List.mem_singleton.mp ha]
          exact fun e => npa D (.inl rfl) e.symm
      · have hrow : row = [] := by
          have := List.mem_of_getElem? h2
          exact (List.mem_replicate.mp this).2
        subst hrow
        by_cases hj : j < rs.length
        · rw [List.getElem?_append_left hj] at h1
          have hj2 : j < i := by
            have := ra.len
            rw [List.length_replicate] at this
            omega
          obtain ⟨ws, h3, h4⟩ := ra3.row j a [] h1 (by rw [List.getElem?_replicate, if_pos hj2])
          exact ⟨ws, by rw [upd_ne (ra.ne a (List.mem_of_getElem? h1))]; exact h3, ends_mono t4 h4⟩
        · rw [List.getElem?_append_right (by omega)] at h1
          have hm := List.mem_of_getElem? h1
          rw [List.mem_singleton.mp hm]
          exact ⟨[], by rw [upd_ne fun e => npa D (.inl rfl) e.symm]; exact upd_same, .nil⟩
    · rcases List.mem_append.mp ha with ha | ha
      · exact hf a ha
      · rw [List.mem_singleton.mp ha]
        exact same_none (Same.trans s1 s2) np
  · obtain ⟨s1, rs, ra, hf⟩ := h
    exact hd H rs s1 ra hf
def WayAt (H : Hp) (v : V) (p : Int × Nat) : Prop := PairAt H v (p.1, (p.2 : Nat))
theorem WayAt.mono {H H' : Hp} {v : V} {p : Int × Nat} (t : TSame H H') (h : WayAt H v p) : WayAt H' v p := PairAt.mono t h
def wayD (p : Int × Nat) : PyData := .tuple [.int p.1, .int (p.2 : Nat)]
theorem way_dpl {K : PySem.W.Frag} {H : Hp} {a : Addr} {vs : List V} {W : Way} (h : H a = some (.lst vs)) (hp : Paired (WayAt H) vs W) : Dp K H (.ref a) (.list (W.map wayD)) := .lst (.inl (.inl h)) (dps (enc := wayD) (fun _ _ h => pair_dp h) hp)
theorem sh_way (W : Way) : SeqAt.shaped (.list (W.map wayD)) = true := shaped_list (n := 1) (fun p => by simp [wayD, PyData.canLay0, PyData.canLayAll0]) (fun p => by simp [wayD, PyData.depth, PyData.depthAll]) (by decide) W
theorem two_of {h : Nat} (hh : 2 ≤ h) {ws : List V} (p : ws.Perm ((List.range h).map fun k => V.int (k : Nat))) : ∃ (k1 k2 : Nat) (rest : List V), ws = .int (k1 : Nat) :: .int (k2 : Nat) :: rest ∧ k1 < h ∧ k2 < h ∧ k1 ≠ k2 := by
  have hl : ws.length = h := by rw [p.length_eq, List.length_map, List.length_range]
  have hn : ws.Nodup := by
    refine p.symm.nodup ?_
    rw [List.nodup_iff_pairwise_ne, List.pairwise_map]
    exact (List.nodup_iff_pairwise_ne.mp List.nodup_range).imp fun h e => h (by injection e with e; omega)
  match ws, hl with
  | v1 :: v2 :: rest, _ =>
    obtain ⟨k1, m1, rfl⟩ := List.mem_map.mp (p.subset (show v1 ∈ v1 :: v2 :: rest by simp))
    obtain ⟨k2, m2, rfl⟩ := List.mem_map.mp (p.subset (show v2 ∈ V.int (k1 : Nat) :: v2 :: rest by simp))
    refine ⟨k1, k2, rest, rfl, List.mem_range.mp m1, List.mem_range.mp m2, fun e => ?_⟩
    rw [e, List.nodup_cons] at hn
    exact hn.1 (by simp)
  | [_], hl => simp at hl; omega
  | [], hl => simp at hl; omega
theorem rgV_range (h : Nat) : rgV 0 (h : Nat) = (List.range h).map fun k => V.int (k : Nat) := by
  unfold rgV
  simp
theorem eqv_nil (ds : List PyData) : PyData.eqv (.list ds) (.list []) = ds.isEmpty := by
  cases ds <;> simp [PyData.eqv, PyData.eqvAll]
theorem dp_nil {K : PySem.W.Frag} {H : Hp} {a : Addr} (h : H a = some (.lst [])) : Dp K H (.ref a) (.list []) := .lst (.inl (.inl h)) .nil
theorem sh_nil : SeqAt.shaped (.list []) = true := shaped_of (by simp [PyData.canLay0, PyData.canLayAll0]) (by simp [PyData.depth, PyData.depthAll])
section
variable {P : Program} {w : World} {K : PySem.W.Frag} {mg : Str → Option Value} {base : Heap} {f : Addr} {fd : FuncData}
theorem sc_w_run_of : FnScope ["_law_box_here", "_law_houses_so", "_law_letters_so", "_law_turn", "_law_rows_so", "_law_way_so", "_law_next_so", "_law_letter_so", "_law_house_so", "_law_own", "_law_spot_so"] ["_law_box_here", "_law_houses_so", "_law_letters_so"] (defScope s_w_run_of) := ⟨rfl, rfl, rfl, by decide +kernel, rfl, by decide +kernel, by decide +kernel⟩
-- slots: 0:_law_box_here 1:_law_houses_so 2:_law_letters_so 3:_law_turn 4:_law_rows_so 5:_law_way_so 6:_law_next_so 7:_law_letter_so 8:_law_house_so 9:_law_own 10:_law_spot_so
def spRunOf : Sp := fun vs H Q _ => ∃ (b : Addr) (h l : Nat) (n : Nat), vs = [.ref b, .int (h : Nat), .int (l : Nat)] ∧ Bx H b (n + 400) ∧ 2 ≤ h ∧ h ≤ 4 ∧ 1 ≤ l ∧ l ≤ 6 ∧
  ∀ v R H', SameX b H H' → Bx H' b n → RunAt H' v R → Ok R → R.length = h → (ends R).length ≤ 12 → ends R ≠ [] → (∀ m, (m, true) ∈ ends R → 0 ≤ m ∧ m < 6) → Q v H'
theorem cal_w_run_of (F : FnP K "_law_run_of" s_w_run_of f fd) (hm : mg "_law_run_of" = some (.ref f)) (T : Txt K mg) (c_w_take : C8.Cal P w K mg base 1 "_law_take" spTake []) (c_w_mixed : C8.Cal P w K mg base 2 "_law_mixed" spMixed []) : C8.Cal P w K mg base 3 "_law_run_of" spRunOf [] := by
  refine cal_of F hm sc_w_run_of (fun kV doc pm an cdv ct us hl => match us, hl with | [_, _, _], _ => rfl) (fun vs H Q E h => ?_) (fun cdv A outer s H vs Q E hr h => ?_)
  · obtain ⟨_, _, _, _, rfl, _⟩ := h; rfl
  obtain ⟨b, h, l, n, rfl, bx, h2, h4, l1, l6, q⟩ := h
  have nd := sc_w_run_of.nd
  have hu1 := Nat.lt_of_le_of_lt (Nat.add_le_add_left (show 1 ≤ 64 by decide) _) hr.units
  have hu64 := hr.units
  have hu65 := room65 hr
  refine ⟨_, (pss_cons (ps_par3 (i := 4) (j := 5) (l := 6) rfl nd rfl rfl rfl (by decide) (by decide) (by decide) rfl rfl rfl (pa_cons (pe_lc (own := [("_law_turn", 3)]) (g := (gName 3)) (tt := tYes) rfl nd (pi_range1 (by rfl) T.n_range (pa_cons (pv 1) pa_nil)) (blkOk_by (by rfl)) (fun _ _ _ _ _ => (pg_name (i := 3) nd rfl (Or.inl rfl))) (fun _ _ _ _ _ => pts_nil) (fun _ _ _ _ _ => (pe_lst pa_nil))) (pa_cons (pe_lst pa_nil) (pa_cons pe_int pa_nil))) (by rfl))
    (pss_cons (ps_for PassesOwn.never rfl (pi_range1 (by rfl) T.n_range (pa_cons (pe_op op_mul pe_int (pv 2)) pa_nil)) (pg_name (i := 3) nd rfl (Or.inl rfl)) (pss_one (ps_if (PW.pt (pw_and (pt_cmpR op_lt (pv 6) (pv 2) (nomark _)) (pw_and1 (PW.pt (pw_or (pt_cmpR (op_eqD hu64) (pv 5) (pe_lst pa_nil) (nomark _)) (pw_or1 (pt_cmpR op_eq (C8.pe_c c_w_take hr (by omega) (by rfl) (pa_cons (pv 0) (pa_cons pe_int pa_nil))) pe_int (nomark _)))))))) (pss_cons (ps_set (i := 9) nd rfl (Or.inl rfl) (pe_slice sl_list (C8.pe_c c_w_mixed hr (by omega) (by rfl) (pa_cons (pv 0) (pa_cons (pe_listRg rfl (by rfl) T.n_list (prg_1 (by rfl) T.n_range (pv 1))) pa_nil))) po_none (po_some pe_int)))
    (pss_cons (ps_expr (pe_bm PySem.F.plainAttrs_list PySem.F.slot_list_append PySem.F.type_list_append mt_append (pe_ix ix_list (pv 4) (pe_ix ix_list (pv 9) pe_int (fun _ _ => rfl)) (fun _ _ => rfl)) (pa_cons (pe_tup (pa_cons (pv 6) (pa_cons pe_str pa_nil))) pa_nil)))
    (pss_cons (ps_expr (pe_bm PySem.F.plainAttrs_list PySem.F.slot_list_append PySem.F.type_list_append mt_append (pv 5) (pa_cons (pe_tup (pa_cons (pv 6) (pa_cons (pe_ix ix_list (pv 9) pe_int (fun _ _ => rfl)) pa_nil))) pa_nil)))
    (pss_one (ps_set (i := 6) nd rfl (Or.inl rfl) (pe_op op_add (pv 6) pe_int)))))) (pss_one (ps_if (pt_cmpR (op_neD hu64) (pv 5) (pe_lst pa_nil) (nomark _)) (pss_cons (ps_set (i := 10) nd rfl (Or.inl rfl) (C8.pe_c c_w_take hr (by omega) (by rfl) (pa_cons (pv 0) (pa_cons (pe_callB call_len_seq (by rfl) T.n_len (by decide +kernel) (pa_cons (pv 5) pa_nil)) pa_nil))))
    (pss_cons (ps_expr (pe_bm PySem.F.plainAttrs_list PySem.F.slot_list_append PySem.F.type_list_append mt_append (pe_ix ix_list (pv 4) (pe_ix ix_tup (pe_ix ix_list (pv 5) (pv 10) (fun _ _ => rfl)) pe_int (fun _ _ => rfl)) (fun _ _ => rfl)) (pa_cons (pe_tup (pa_cons (pe_ix ix_tup (pe_ix ix_list (pv 5) (pv 10) (fun _ _ => rfl)) pe_int (fun _ _ => rfl)) (pa_cons pe_str pa_nil))) pa_nil)))
    (pss_one (ps_set (i := 5) nd rfl (Or.inl rfl) (pe_op op_cat (pe_slice sl_list (pv 5) po_none (po_some (pv 10))) (pe_slice sl_list (pv 5) (po_some (pe_op op_add (pv 10) pe_int)) po_none)))))) pss_nil)))))
    (pss_cons (ps_for PassesOwn.never rfl (pi_list (pv 5)) (pg_tup rfl (pgs_cons (pg_name (i := 7) nd rfl (Or.inl rfl)) (pgs_cons (pg_name (i := 8) nd rfl (Or.inl rfl)) pgs_nil))) (pss_one (ps_expr (pe_bm PySem.F.plainAttrs_list PySem.F.slot_list_append PySem.F.type_list_append mt_append (pe_ix ix_list (pv 4) (pv 8) (fun _ _ => rfl)) (pa_cons (pe_tup (pa_cons (pv 7) (pa_cons pe_str pa_nil))) pa_nil)))))
    (pss_one (ps_ret (pe_callTy call_tuple_of (by rfl) T.n_tuple (by decide +kernel) (pa_cons (pe_lc (own := [("_law_own", 9)]) (g := (gName 9)) (tt := tYes) rfl nd (pi_list (pv 4)) (blkOk_by (by rfl)) (fun _ _ _ _ _ => (pg_name (i := 9) nd rfl (Or.inl rfl))) (fun _ _ _ _ _ => pts_nil) (fun _ _ _ _ _ => (pe_callTy (call_tuple_ofK (K := K) rfl) (by rfl) T.n_tuple (by decide +kernel) (pa_cons (pv 9) pa_nil)))) pa_nil))))))), ?_⟩
  refine ⟨.int (h : Nat), rfl, (h : Nat), rfl, by omega, by omega, fun rl nrl => ?_⟩
  refine lc_rows (wp_range (n := ((h : Nat) : Int).toNat)) (by omega) nrl (fun _ _ => trivial) (fun x => rfl) fun H1 rs s1 ra0 hrs => ?_
  rw [show ((h : Nat) : Int).toNat = h from Int.toNat_natCast h] at ra0
  refine ⟨Nat.zero_le _, fun wl nwl => ⟨.ref rl, .ref wl, .int 0, rfl, ?_⟩⟩
  have s2 : Same H (L2.upd H1 wl (.lst [])) := Same.trans s1 (Same.new nwl)
  have hwl2 : (L2.upd H1 wl (.lst [])) wl = some (.lst []) := upd_same
  have ra2 := ra0.same (Same.new (o := .lst []) nwl)
  have nwlH := same_none s1 nwl
  have hwr : ∀ a, a = rl ∨ a ∈ rs → a ≠ wl := fun a ha e => by
    obtain ⟨xs, hx⟩ := ra0.isL ha
    rw [e, nwl] at hx
    cases hx
  generalize (L2.upd H1 wl (.lst [])) = H2 at s2 hwl2 ra2 ⊢
  clear ra0 s1 nwl
  have hfr : ∀ a, a = rl ∨ a ∈ rs → H a = none := fun a ha => by
    rcases ha with rfl | ha
    · exact nrl
    · exact hrs a ha
  have hab : ∀ a, a = rl ∨ a ∈ rs → a ≠ b := fun a ha => bx.ne (hfr a ha)
  -- the turns
  refine ⟨.int (l : Nat), rfl, 9, (l : Nat), rfl, rfl, .inl (by decide), _, rfl, by omega, by omega, ?_⟩
  have eT : ((9 : Int) * ((l : Nat) : Int)).toNat = 9 * l := by omega
  rw [eT]
  let I : Nat → L2.St → Hp → Prop := fun i σ H' => ∃ x3 x7 x8 x9 x10, ∃ (wl : Addr) (N : Nat) (R : Run) (W : Way) (ws : List V), σ = [some (.ref b), some (.int (h : Nat)), some (.int (l : Nat)), x3, some (.ref rl), some (.ref wl), some (.int (N : Nat)), x7, x8, x9, x10] ∧ SameX b H H' ∧ RowsAt H' rl rs R ∧ R.length = h ∧
    H' wl = some (.lst ws) ∧ Paired (WayAt H') ws W ∧ (∀ a, a = rl ∨ a ∈ rs → a ≠ wl) ∧ H wl = none ∧ Gen R W N ∧ N ≤ l ∧ (1 ≤ i → 1 ≤ N) ∧ Bx H' b (n + 6 * (9 * l - i))
  refine L2.for_it (wp_range (n := 9 * l)) I ⟨_, _, _, _, _, wl, 0, List.replicate h [], [], [], rfl, Same.x s2, ra2, List.length_replicate, hwl2, .nil, hwr, nwlH, Gen.start h, Nat.zero_le _, fun h => (by omega), (bx.same s2).le (by omega)⟩ (fun _ _ _ _ _ => trivial) (fun i x σ H3 H3' hi hI y => ?_) fun σ H3 hI => ?_
  · obtain ⟨x3, x7, x8, x9, x10, wl, N, R, W, ws, rfl, s3, ra, hRl, hwl, hws, hwr, nwl, g, hNl, hN1, bx3⟩ := hI
    obtain ⟨s4, rfl⟩ := y
    have ra := ra.same s4
    have hwl := s4 _ _ hwl
    have hws := Paired.imp (fun _ _ h => WayAt.mono (Same.ts s4) h) hws
    have bx3 := bx3.same s4
    have s3 := SameX.trans s3 (Same.x s4)
    clear s4
    have hwb : wl ≠ b := bx.ne nwl
    have hWl : ws.length = W.length := Paired.len hws
    have hln := g.ln
    have hW6 : W.length ≤ 12 := by omega
    obtain ⟨bud, hbud⟩ : ∃ bud, n + 6 * (9 * l - i) = bud + 6 := ⟨n + 6 * (9 * l - (i + 1)), by omega⟩
    rw [hbud] at bx3
    have hbud2 : n + 6 * (9 * l - (i + 1)) = bud := by omega
    -- what is known behind the test
    refine ifS_cut (fun c H' => SameX b H H' ∧ RowsAt H' rl rs R ∧ H' wl = some (.lst ws) ∧ Paired (WayAt H') ws W ∧ Bx H' b (bud + 5) ∧ (c = true → N < l) ∧ (c = false → W = [] → ¬ N < l)) (fun FF hF => ?_) (fun H4 hM => ?_) (fun H4 hM => ?_)
    · refine ⟨.int (N : Nat), rfl, .int (l : Nat), rfl, (N : Nat), (l : Nat), rfl, rfl, _, rfl, ?_⟩
      by_cases hlt : N < l
      · refine iteT (decide_eq_true (by omega)) ?_
        refine ⟨.ref wl, rfl, Nat.zero_le _, fun p np => ?_⟩
        have s5 := Same.new (o := .lst []) np
        have ra5 := ra.same s5
        have hws5 := Paired.imp (fun _ _ h => WayAt.mono (Same.ts s5) h) hws
        have sx5 := SameX.trans s3 (Same.x s5)
        have bx5 := bx3.same s5
        have hwl5 := s5 _ _ hwl
        have hp5 : (L2.upd H3' p (.lst [])) p = some (.lst []) := upd_same
        generalize (L2.upd H3' p (.lst [])) = H5 at ra5 hws5 sx5 bx5 hwl5 hp5 ⊢
        refine ⟨_, _, way_dpl hwl5 hws5, dp_nil hp5, sh_way W, sh_nil, _, rfl, ?_⟩
        rw [eqv_nil]
        by_cases hW : W = []
        · exact iteT (by rw [hW]; rfl) (hF _ _ ⟨sx5, ra5, hwl5, hws5, bx5.le (by omega), fun _ => hlt, fun h => (by cases h)⟩)
        · refine iteF (by cases W with
            | nil => exact absurd rfl hW
            | cons _ _ => rfl) ?_
          refine ⟨.ref b, rfl, b, 2, bud + 5, rfl, bx5, by decide, by decide, fun k H6 s6 bx6 hk => ⟨rfl, _, rfl, ?_⟩⟩
          have t6 := bx5.ts s6
          refine hF _ _ ⟨SameX.trans sx5 s6, ra5.mx s6 t6 hab, s6 _ _ hwb hwl5, Paired.imp (fun _ _ h => WayAt.mono t6 h) hws5, bx6, fun _ => hlt, fun _ h => absurd h hW⟩
      · exact iteF (decide_eq_false (by omega)) (hF _ _ ⟨s3, ra, hwl, hws, bx3.le (by omega), fun h => (by cases h), fun _ _ => hlt⟩)
    · -- a letter leaves
      obtain ⟨s4, ra4, hwl4, hws4, bx4, hlt, _⟩ := hM
      have hlt := hlt rfl
      refine ⟨.ref b, rfl, .int (h : Nat), rfl, (h : Nat), rfl, ⟨by omega, by omega, by omega, by omega⟩, fun ql nql => ?_⟩
      have s5 := Same.new (o := .lst (rgV 0 (h : Nat))) nql
      have hql5 : (L2.upd H4 ql (.lst (rgV 0 (h : Nat)))) ql = some (.lst (rgV 0 (h : Nat))) := upd_same
      have qb : ql ≠ b := bx4.ne nql
      have ra5 := ra4.same s5
      have hws5 := Paired.imp (fun _ _ h => WayAt.mono (Same.ts s5) h) hws4
      have sx5 := SameX.trans s4 (Same.x s5)
      have bx5 := bx4.same s5
      have hwl5 := s5 _ _ hwl4
      generalize (L2.upd H4 ql (.lst (rgV 0 (h : Nat)))) = H5 at hql5 ra5 hws5 sx5 bx5 hwl5 ⊢
      have hrl : (rgV 0 (h : Nat)).length = h := by rw [rgV_range, List.length_map, List.length_range]
      refine ⟨b, ql, _, bud + 1, rfl, bx5.le (by rw [hrl]; omega), hql5, by rw [hrl]; omega, qb, fun mp ws' H6 s6 bx6 nmp hmp hpm => ?_⟩
      have t6 := bx5.ts s6
      have ra6 := ra5.mx s6 t6 hab
      have hws6 := Paired.imp (fun _ _ h => WayAt.mono t6 h) hws5
      have sx6 := SameX.trans sx5 s6
      have hwl6 := s6 _ _ hwb hwl5
      rw [rgV_range] at hpm
      obtain ⟨k1, k2, rest, rfl, hk1, hk2, hk⟩ := two_of h2 hpm
      refine ⟨2, rfl, mp, _, rfl, .inl (.inl hmp), fun o no => ?_⟩
      have ecut : cutV (V.int (k1 : Nat) :: .int (k2 : Nat) :: rest) none (some 2) = [.int (k1 : Nat), .int (k2 : Nat)] := cutV_to _ 2
      rw [ecut]
      have s7 := Same.new (o := .lst [.int (k1 : Nat), .int (k2 : Nat)]) (show H6 o = none from no)
      have ho7 : (L2.upd H6 o (.lst [.int (k1 : Nat), .int (k2 : Nat)])) o = some (.lst [.int (k1 : Nat), .int (k2 : Nat)]) := upd_same
      have ra7 := ra6.same s7
      have hws7 := Paired.imp (fun _ _ h => WayAt.mono (Same.ts s7) h) hws6
      have sx7 := SameX.trans sx6 (Same.x s7)
      have bx7 := bx6.same s7
      have hwl7 := s7 _ _ hwl6
      generalize (L2.upd H6 o (.lst [.int (k1 : Nat), .int (k2 : Nat)])) = H7 at ho7 ra7 hws7 sx7 bx7 hwl7 ⊢
      obtain ⟨a1, ha1⟩ : ∃ a1, rs[k1]? = some a1 := ⟨_, List.getElem?_eq_getElem (by rw [ra7.len, hRl]; exact hk1)⟩
      obtain ⟨row1, hrow1⟩ : ∃ row1, R[k1]? = some row1 := ⟨_, List.getElem?_eq_getElem (by rw [hRl]; exact hk1)⟩
      have ha1m := List.mem_of_getElem? ha1
      obtain ⟨vs1, hl1, hv1⟩ := ra7.row k1 a1 row1 ha1 hrow1
      refine ⟨.ref rl, rfl, .ref o, rfl, o, _, 0, _, rfl, rfl, .inl (.inl ho7), atI_nat (j := 0) rfl, rl, _, (k1 : Nat), .ref a1, rfl, rfl, .inl (.inl ra7.lst), atI_nat (by rw [List.getElem?_map, ha1]; rfl), tyL hl1, .int (N : Nat), rfl, two_le, fun pt npt => ?_⟩
      have s8 := Same.new (o := .tup [.int (N : Nat), .str (Str.ofString "s")]) npt
      have hp8 : (L2.upd H7 pt (.tup [.int (N : Nat), .str (Str.ofString "s")])) pt = some (.tup (eV ((N : Nat), true))) := upd_same
      have ra8 := ra7.same s8
      have hws8 := Paired.imp (fun _ _ h => WayAt.mono (Same.ts s8) h) hws7
      have sx8 := SameX.trans sx7 (Same.x s8)
      have bx8 := bx7.same s8
      have hwl8 := s8 _ _ hwl7
      have ho8 := s8 _ _ ho7
      have hl8 := s8 _ _ hl1
      have hv8 := ends_mono (Same.ts s8) hv1
      generalize (L2.upd H7 pt (.tup [.int (N : Nat), .str (Str.ofString "s")])) = H8 at hp8 ra8 hws8 sx8 bx8 hwl8 ho8 hl8 hv8 ⊢
      have hrow12 : row1.length ≤ 12 := by
        have := row_le (List.mem_of_getElem? hrow1)
        omega
      refine ⟨a1, vs1, .ref pt, rfl, rfl, hl8, small1000 (by rw [Paired.len hv8]; omega), ?_⟩
      have t9 : TSame H8 (L2.upd H8 a1 (.lst (vs1 ++ [.ref pt]))) := .lst hl8
      have ra9 := ra8.app ha1 hrow1 hl8 hv8 (e := ((N : Nat), true)) ⟨pt, rfl, hp8⟩
      have sx9 : SameX b H (L2.upd H8 a1 (.lst (vs1 ++ [.ref pt]))) := SameX.put sx8 (hfr a1 (.inr ha1m))
      have bx9 := bx8.off (o := .lst (vs1 ++ [.ref pt])) (hab a1 (.inr ha1m))
      have hwl9 : (L2.upd H8 a1 (.lst (vs1 ++ [.ref pt]))) wl = some (.lst ws) := by rw [upd_ne (Ne.symm (hwr a1 (.inr ha1m)))]; exact hwl8
      have ho9 : (L2.upd H8 a1 (.lst (vs1 ++ [.ref pt]))) o = some (.lst [.int (k1 : Nat), .int (k2 : Nat)]) := by
        rw [upd_ne fun e => by
          obtain ⟨xs, hx⟩ := ra6.isL (.inr ha1m)
          rw [← e, no] at hx
          cases hx]
        exact ho8
      have hws9 := Paired.imp (fun _ _ h => WayAt.mono t9 h) hws8
      generalize (L2.upd H8 a1 (.lst (vs1 ++ [.ref pt]))) = H9 at ra9 sx9 bx9 hwl9 ho9 hws9 ⊢
      refine ⟨.ref wl, rfl, tyL hwl9, .int (N : Nat), rfl, .ref o, rfl, o, _, 1, _, rfl, rfl, .inl (.inl ho9), atI_nat (j := 1) rfl, two_le, fun pw npw => ?_⟩
      have s10 := Same.new (o := .tup [.int (N : Nat), .int (k2 : Nat)]) npw
      have hp10 : (L2.upd H9 pw (.tup [.int (N : Nat), .int (k2 : Nat)])) pw = some (.tup [.int (N : Nat), .int (k2 : Nat)]) := upd_same
      have ra10 := ra9.same s10
      have hws10 := Paired.imp (fun _ _ h => WayAt.mono (Same.ts s10) h) hws9
      have sx10 := SameX.trans sx9 (Same.x s10)
      have bx10 := bx9.same s10
      have hwl10 := s10 _ _ hwl9
      generalize (L2.upd H9 pw (.tup [.int (N : Nat), .int (k2 : Nat)])) = H10 at hp10 ra10 hws10 sx10 bx10 hwl10 ⊢
      have t11 : TSame H10 (L2.upd H10 wl (.lst (ws ++ [.ref pw]))) := .lst hwl10
      refine ⟨wl, ws, .ref pw, rfl, rfl, hwl10, small1000 (by omega), .int (N : Nat), rfl, (N : Nat), 1, rfl, rfl, ?_⟩
      refine ⟨_, _, _, _, _, wl, N + 1, addTo R k1 ((N : Nat), true), W ++ [(((N : Nat) : Int), k2)], ws ++ [.ref pw], rfl, SameX.put sx10 nwl, ra10.off hwr t11, by rw [addTo_len]; exact hRl, upd_same, Paired.app (Paired.imp (fun _ _ h => WayAt.mono t11 h) hws10) (.cons ⟨pw, rfl, t11 _ _ hp10⟩ .nil), hwr, nwl, g.send hrow1 (by rw [hRl]; exact hk2) hk, hlt, fun _ => by omega, ?_⟩
      exact (bx10.off hwb).le (by omega)
    · -- one arrives
      obtain ⟨s4, ra4, hwl4, hws4, bx4, _, hno⟩ := hM
      refine ⟨.ref wl, rfl, Nat.zero_le _, fun p np => ?_⟩
      have s5 := Same.new (o := .lst []) np
      have ra5 := ra4.same s5
      have hws5 := Paired.imp (fun _ _ h => WayAt.mono (Same.ts s5) h) hws4
      have sx5 := SameX.trans s4 (Same.x s5)
      have bx5 := bx4.same s5
      have hwl5 := s5 _ _ hwl4
      have hp5 : (L2.upd H4 p (.lst [])) p = some (.lst []) := upd_same
      generalize (L2.upd H4 p (.lst [])) = H5 at ra5 hws5 sx5 bx5 hwl5 hp5 ⊢
      refine ⟨_, _, way_dpl hwl5 hws5, dp_nil hp5, sh_way W, sh_nil, _, rfl, ?_⟩
      rw [eqv_nil]
      by_cases hW : W = []
      · have hnl := hno rfl hW
        exact iteF (by rw [hW]; rfl) ⟨_, _, _, _, _, wl, N, R, W, ws, rfl, sx5, ra5, hRl, hwl5, hws5, hwr, nwl, g, hNl, fun _ => by omega, bx5.le (by omega)⟩
      have hWpos : 0 < W.length := List.length_pos_iff.mpr hW
      refine iteT (by cases W with
        | nil => exact absurd rfl hW
        | cons _ _ => rfl) ?_
      refine ⟨.ref b, rfl, .ref wl, rfl, wl, ws, rfl, .inl (.inl (.inl hwl5)), b, (ws.length : Nat), bud + 4, rfl, bx5, by omega, by omega, fun k H6 s6 bx6 hk => ?_⟩
      have t6 := bx5.ts s6
      have ra6 := ra5.mx s6 t6 hab
      have hws6 := Paired.imp (fun _ _ h => WayAt.mono t6 h) hws5
      have sx6 := SameX.trans sx5 s6
      have hwl6 := s6 _ _ hwb hwl5
      have hk' : k < ws.length := by omega
      obtain ⟨vk, hvk⟩ : ∃ vk, ws[k]? = some vk := ⟨_, List.getElem?_eq_getElem hk'⟩
      obtain ⟨⟨lt, hh⟩, hwk, pa, rfl, hpa⟩ := Paired.at hws6 hvk
      have hWm := List.mem_of_getElem? hwk
      have hwlm := g.wl _ hWm
      have hwlm : 0 ≤ lt ∧ lt < N ∧ hh < R.length := hwlm
      obtain ⟨a1, ha1⟩ : ∃ a1, rs[hh]? = some a1 := ⟨_, List.getElem?_eq_getElem (by rw [ra6.len]; exact hwlm.2.2)⟩
      obtain ⟨row1, hrow1⟩ : ∃ row1, R[hh]? = some row1 := ⟨_, List.getElem?_eq_getElem hwlm.2.2⟩
      have ha1m := List.mem_of_getElem? ha1
      obtain ⟨vs1, hl1, hv1⟩ := ra6.row hh a1 row1 ha1 hrow1
      refine ⟨.ref rl, rfl, .ref wl, rfl, .int (k : Nat), rfl, wl, ws, (k : Nat), .ref pa, rfl, rfl, .inl (.inl hwl6), atI_nat hvk, pa, _, 1, .int (hh : Nat), rfl, rfl, SqT.of hpa, atI_nat (j := 1) rfl, rl, _, (hh : Nat), .ref a1, rfl, rfl, .inl (.inl ra6.lst), atI_nat (by rw [List.getElem?_map, ha1]; rfl), tyL hl1,
        .ref wl, rfl, .int (k : Nat), rfl, wl, ws, (k : Nat), .ref pa, rfl, rfl, .inl (.inl hwl6), atI_nat hvk, pa, _, 0, .int lt, rfl, rfl, SqT.of hpa, atI_nat (j := 0) rfl, two_le, fun pt npt => ?_⟩
      have s8 := Same.new (o := .tup [.int lt, .str (Str.ofString "r")]) npt
      have hp8 : (L2.upd H6 pt (.tup [.int lt, .str (Str.ofString "r")])) pt = some (.tup (eV (lt, false))) := upd_same
      have ra8 := ra6.same s8
      have hws8 := Paired.imp (fun _ _ h => WayAt.mono (Same.ts s8) h) hws6
      have sx8 := SameX.trans sx6 (Same.x s8)
      have bx8 := bx6.same s8
      have hwl8 := s8 _ _ hwl6
      have hl8 := s8 _ _ hl1
      have hv8 := ends_mono (Same.ts s8) hv1
      generalize (L2.upd H6 pt (.tup [.int lt, .str (Str.ofString "r")])) = H8 at hp8 ra8 hws8 sx8 bx8 hwl8 hl8 hv8 ⊢
      have hrow12 : row1.length ≤ 12 := by
        have := row_le (List.mem_of_getElem? hrow1)
        omega
      refine ⟨a1, vs1, .ref pt, rfl, rfl, hl8, small1000 (by rw [Paired.len hv8]; omega), ?_⟩
      have t9 : TSame H8 (L2.upd H8 a1 (.lst (vs1 ++ [.ref pt]))) := .lst hl8
      have ra9 := ra8.app ha1 hrow1 hl8 hv8 (e := (lt, false)) ⟨pt, rfl, hp8⟩
      have sx9 : SameX b H (L2.upd H8 a1 (.lst (vs1 ++ [.ref pt]))) := SameX.put sx8 (hfr a1 (.inr ha1m))
      have bx9 := bx8.off (o := .lst (vs1 ++ [.ref pt])) (hab a1 (.inr ha1m))
      have hwl9 : (L2.upd H8 a1 (.lst (vs1 ++ [.ref pt]))) wl = some (.lst ws) := by rw [upd_ne (Ne.symm (hwr a1 (.inr ha1m)))]; exact hwl8
      have hws9 := Paired.imp (fun _ _ h => WayAt.mono t9 h) hws8
      generalize (L2.upd H8 a1 (.lst (vs1 ++ [.ref pt]))) = H9 at ra9 sx9 bx9 hwl9 hws9 ⊢
      have e1 : cutV ws none (some (k : Nat)) = ws.take k := cutV_to ws k
      have e2 : cutV ws (some ((k : Nat) + 1)) none = ws.drop (k + 1) := cutV_from ws (k + 1)
      refine ⟨.ref wl, rfl, .int (k : Nat), rfl, (k : Nat), rfl, wl, ws, rfl, .inl (.inl hwl9), fun p6 np6 => ⟨.ref wl, rfl, .int (k : Nat), rfl, (k : Nat), 1, rfl, rfl, _, rfl, wl, ws, rfl, .inl (.inl ((Same.new np6) _ _ hwl9)), fun p7 np7 => ?_⟩⟩
      have s10 := Same.new (o := .lst (cutV ws none (some (k : Nat)))) np6
      have s11 := Same.new (o := .lst (cutV ws (some ((k : Nat) + 1)) none)) np7
      have elen : (ws.take k).length + (ws.drop (k + 1)).length + 1 = ws.length := by
        rw [List.length_take, List.length_drop]
        omega
      refine ⟨p6, p7, _, _, rfl, rfl, s11 _ _ upd_same, upd_same, by rw [e1, e2]; exact Nat.le_trans (show _ ≤ 1000 by omega) (by decide), fun p8 np8 => ?_⟩
      have s12 := Same.trans (Same.trans s10 s11) (Same.new (o := .lst (cutV ws none (some (k : Nat)) ++ cutV ws (some ((k : Nat) + 1)) none)) np8)
      have np89 := same_none (Same.trans s10 s11) np8
      have np8b := bx9.ne np89
      have np8H := SameX.none sx9 np8b np89
      have ra12 := ra9.same s12
      obtain ⟨W1, W2, eW⟩ : ∃ W1 W2, W1 = W.take k ∧ W2 = W.drop (k + 1) := ⟨_, _, rfl, rfl⟩
      have eWW : W = W1 ++ (lt, hh) :: W2 := by rw [eW.1, eW.2]; exact cut_at hwk
      rw [eWW] at g
      refine ⟨_, _, _, _, _, p8, N, addTo R hh (lt, false), W1 ++ W2, _, rfl, SameX.trans sx9 (Same.x s12), ra12, by rw [addTo_len]; exact hRl, upd_same, ?_, fun a ha e => ?_, np8H, g.recv hrow1, hNl, fun _ => ?_, (bx9.same s12).le (by omega)⟩
      · have e12 : cutV ws none (some (k : Nat)) ++ cutV ws (some ((k : Nat) + 1)) none = ws.take k ++ ws.drop (k + 1) := by rw [e1, e2]
        refine Eq.mpr (congrArg (fun z => Paired (WayAt _) z (W1 ++ W2)) e12) ?_
        rw [eW.1, eW.2]
        exact Paired.imp (fun _ _ h => WayAt.mono (Same.ts s12) h) (Paired.app (Paired.take k hws9) (Paired.drop (k + 1) hws9))
      · obtain ⟨xs, hx⟩ := ra9.isL ha
        rw [e, np89] at hx
        cases hx
      · have : (0 : Int) ≤ lt ∧ lt < (N : Nat) := ⟨hwlm.1, hwlm.2.1⟩
        omega
  · -- those still on the way
    obtain ⟨x3, x7, x8, x9, x10, wl, N, R, W, ws, rfl, s3, ra, hRl, hwl, hws, hwr, nwl, g, hNl, hN1, bx3⟩ := hI
    have hN1 := hN1 (by omega)
    have hwb : wl ≠ b := bx.ne nwl
    have hWl : ws.length = W.length := Paired.len hws
    refine ⟨.ref wl, rfl, wl, rfl, ⟨ws, .inl (.inl hwl)⟩, ?_⟩
    refine L2.for_it (wp_list (K := K) (a := wl) (xs := ws)) (fun i σ H' => ∃ x3 x7 x8 x9 x10, ∃ R : Run, σ = [some (.ref b), some (.int (h : Nat)), some (.int (l : Nat)), x3, some (.ref rl), some (.ref wl), some (.int (N : Nat)), x7, x8, x9, x10] ∧ SameX b H H' ∧ RowsAt H' rl rs R ∧ R.length = h ∧
      H' wl = some (.lst ws) ∧ Paired (WayAt H') ws W ∧ Gen R (W.drop i) N ∧ Bx H' b n) ⟨_, _, _, _, _, R, rfl, s3, ra, hRl, hwl, hws, g, bx3.le (by omega)⟩ (fun i σ H' _ h => ?_) (fun i x σ H4 H4' hi hI y => ?_) fun σ H4 hI => ?_
    · obtain ⟨_, _, _, _, _, _, _, _, _, _, h, _⟩ := h
      exact .inl (.inl h)
    · obtain ⟨x3, x7, x8, x9, x10, R, rfl, s4, ra, hRl, hwl, hws, g, bx4⟩ := hI
      obtain ⟨s5, hx⟩ := y
      have ra := ra.same s5
      have hws := Paired.imp (fun _ _ h => WayAt.mono (Same.ts s5) h) hws
      have s4 := SameX.trans s4 (Same.x s5)
      have bx4 := bx4.same s5
      have hwl := s5 _ _ hwl
      clear s5
      obtain ⟨⟨lt, hh⟩, hwk, pa, rfl, hpa⟩ := Paired.at hws hx
      have hln := g.ln
      have edr : W.drop i = (lt, hh) :: W.drop (i + 1) := by
        have hiW : i < W.length := by omega
        rw [List.drop_eq_getElem_cons hiW]
        congr 1
        exact (List.getElem?_eq_some_iff.mp hwk).2
      rw [edr] at g
      have hwlm := g.wl (lt, hh) (by simp)
      have hwlm : 0 ≤ lt ∧ lt < N ∧ hh < R.length := hwlm
      obtain ⟨a1, ha1⟩ : ∃ a1, rs[hh]? = some a1 := ⟨_, List.getElem?_eq_getElem (by rw [ra.len]; exact hwlm.2.2)⟩
      obtain ⟨row1, hrow1⟩ : ∃ row1, R[hh]? = some row1 := ⟨_, List.getElem?_eq_getElem hwlm.2.2⟩
      have ha1m := List.mem_of_getElem? ha1
      obtain ⟨vs1, hl1, hv1⟩ := ra.row hh a1 row1 ha1 hrow1
      refine ⟨pa, _, rfl, SqT.of hpa, rfl, .int lt, [.int (hh : Nat)], rfl, .int (hh : Nat), [], rfl, rfl, ?_⟩
      refine ⟨.ref rl, rfl, .int (hh : Nat), rfl, rl, _, (hh : Nat), .ref a1, rfl, rfl, .inl (.inl ra.lst), atI_nat (by rw [List.getElem?_map, ha1]; rfl), tyL hl1, .int lt, rfl, two_le, fun pt npt => ?_⟩
      have s8 := Same.new (o := .tup [.int lt, .str (Str.ofString "r")]) npt
      have hp8 : (L2.upd H4' pt (.tup [.int lt, .str (Str.ofString "r")])) pt = some (.tup (eV (lt, false))) := upd_same
      have ra8 := ra.same s8
      have hws8 := Paired.imp (fun _ _ h => WayAt.mono (Same.ts s8) h) hws
      have sx8 := SameX.trans s4 (Same.x s8)
      have bx8 := bx4.same s8
      have hwl8 := s8 _ _ hwl
      have hl8 := s8 _ _ hl1
      have hv8 := ends_mono (Same.ts s8) hv1
      generalize (L2.upd H4' pt (.tup [.int lt, .str (Str.ofString "r")])) = H8 at hp8 ra8 hws8 sx8 bx8 hwl8 hl8 hv8 ⊢
      have hrow12 : row1.length ≤ 12 := by
        have := row_le (List.mem_of_getElem? hrow1)
        omega
      refine ⟨a1, vs1, .ref pt, rfl, rfl, hl8, small1000 (by rw [Paired.len hv8]; omega), ?_⟩
      have t9 : TSame H8 (L2.upd H8 a1 (.lst (vs1 ++ [.ref pt]))) := .lst hl8
      exact ⟨_, _, _, _, _, addTo R hh (lt, false), rfl, SameX.put sx8 (hfr a1 (.inr ha1m)), ra8.app ha1 hrow1 hl8 hv8 (e := (lt, false)) ⟨pt, rfl, hp8⟩, by rw [addTo_len]; exact hRl, by rw [upd_ne (Ne.symm (hwr a1 (.inr ha1m)))]; exact hwl8, Paired.imp (fun _ _ h => WayAt.mono t9 h) hws8, g.recv (W1 := []) hrow1, bx8.off (hab a1 (.inr ha1m))⟩
    · obtain ⟨x3, x7, x8, x9, x10, R, rfl, s4, ra, hRl, hwl, hws, g, bx4⟩ := hI
      rw [hWl, List.drop_length] at g
      have hln := g.ln
      refine ⟨.ref rl, rfl, rl, rfl, ⟨_, .inl (.inl ra.lst)⟩, fun D nD => ?_⟩
      refine lc_map wp_list R (fun row => row) RowAt (fun _ _ _ _ t h => RowAt.mono t h) (by rw [List.length_map]; exact ra.len) (by rw [List.length_map, ra.len, hRl]; omega) nD (fun H' s' => .inl (.inl (s' _ _ ra.lst))) (fun i row x H5 K1 hrow s5 hi q1 => ?_) fun H5 acc s5 hD hacc => ?_
      · rw [List.getElem?_map] at hi
        obtain ⟨a, ha, rfl⟩ := Option.map_eq_some_iff.mp hi
        obtain ⟨vs, h1, h2⟩ := ra.row i a row ha hrow
        exact ⟨rfl, .ref a, rfl, a, vs, rfl, .inl ⟨.inl (.inl (s5 _ _ h1)), fun l nl => q1 _ _ (Same.new nl) ⟨l, vs, rfl, upd_same, ends_mono (Same.ts (Same.trans s5 (Same.new nl))) h2⟩⟩⟩
      rw [List.map_id'] at hacc
      refine ⟨D, acc, rfl, .inl ⟨.inl (.inl hD), fun t nt => ?_⟩⟩
      have s6 := Same.trans s5 (Same.new (o := .tup acc) nt)
      refine q _ R _ (SameX.trans s4 (Same.x s6)) (bx4.same s6) ⟨t, acc, rfl, upd_same, Paired.imp (fun _ _ h => RowAt.mono (Same.ts (Same.new nt)) h) hacc⟩ g.done hRl ?_ (g.ends (by omega)) fun m hm' => ?_
      · simp only [List.length_nil] at hln
        omega
      · have := (g.si m).mp hm'
        omega
end
end BC
namespace BC
theorem perm_sorted_on {α : Type} {le : α → α → Prop} : ∀ {l m : List α}, (∀ a ∈ l, ∀ b ∈ l, le a b → le b a → a = b) → l.Perm m → l.Pairwise le → m.Pairwise le → l = m
  | [], m, _, h, _, _ => by rw [List.nil_perm.mp h]
  | a :: r, [], _, h, _, _ => absurd h.length_eq (by simp)
  | a :: r, b :: t, anti, h, hl, hm => by
    rw [List.pairwise_cons] at hl hm
    have e : a = b := by
      rcases List.mem_cons.mp (h.subset (List.mem_cons_self ..)) with e | e
      · exact e
      · rcases List.mem_cons.mp (h.symm.subset (List.mem_cons_self ..)) with e2 | e2
        · exact e2.symm
        · exact anti a (by simp) b (by simp [e2]) (hl.1 b e2) (hm.1 a e)
    subst e
    rw [perm_sorted_on (fun x hx y hy => anti x (by simp [hx]) y (by simp [hy])) (List.perm_cons a |>.mp h) hl.2 hm.2]
theorem perm_memG {α : Type} [DecidableEq α] : ∀ {l m : List α}, l.Nodup → m.Nodup → (∀ x, x ∈ l ↔ x ∈ m) → l.Perm m
  | [], m, _, _, h => by
    cases m with
    | nil => exact .nil
    | cons a r => exact absurd ((h a).mpr (by simp)) (by simp)
  | a :: r, m, h1, h2, h => by
    rw [List.nodup_cons] at h1
    have ha : a ∈ m := (h a).mp (by simp)
    have ih := perm_memG (l := r) (m := m.erase a) h1.2 (h2.erase a) fun x => by
      constructor
      · intro hx
        rw [List.mem_erase_of_ne (fun e : x = a => h1.1 (by rw [← e]; exact hx))]
        exact (h x).mp (List.mem_cons_of_mem _ hx)
      · intro hx
        have hxa : x ≠ a := fun e => by
          rw [e] at hx
          exact (List.Nodup.not_mem_erase h2) hx
        rcases List.mem_cons.mp ((h x).mpr (List.mem_of_mem_erase hx)) with e | e
        · exact absurd e hxa
        · exact e
    exact (List.Perm.cons a ih).trans (List.perm_cons_erase ha).symm
/-- the rows as a row in time fills them -/
def playedTo (R : Run) (es : List En) : Run := R.map fun row => es.filter fun e => decide (e ∈ row)
theorem played_nil (R : Run) : playedTo R [] = List.replicate R.length [] := by
  unfold playedTo
  simp [List.map_const']
theorem played_len (R : Run) (es : List En) : (playedTo R es).length = R.length := List.length_map _
theorem played_step {R : Run} (hn : (ends R).Nodup) (es : List En) {e : En} {h : Nat} {row : List En} (hr : R[h]? = some row) (he : e ∈ row) : addTo (playedTo R es) h e = playedTo R (es ++ [e]) := by
  have hp : (playedTo R es)[h]? = some (es.filter fun x => decide (x ∈ row)) := by
    unfold playedTo
    rw [List.getElem?_map, hr]
    rfl
  apply List.ext_getElem?
  intro i
  rw [addTo_get hp]
  unfold playedTo
  by_cases c : i = h
  · subst c
    rw [if_pos rfl, List.getElem?_map, hr]
    simp [List.filter_append, he]
  · rw [if_neg c, List.getElem?_map, List.getElem?_map]
    cases hi : R[i]? with
    | none => rfl
    | some row' =>
      have hne : e ∉ row' := fun h' => c (one_row hn hi hr h' he)
      simp [List.filter_append, hne]
theorem played_all {R : Run} (o : Ok R) {es : List En} (hp : es.Perm (ends R)) (hw : es.Pairwise fun a b => ¬ Reach R b a) : playedTo R es = R := by
  unfold playedTo
  have : ∀ row ∈ R, (es.filter fun e => decide (e ∈ row)) = row := fun row hr => by
    have rn : row.Nodup := by
      have hs : row.Sublist (ends R) := by
        unfold ends
        exact List.sublist_flatten_of_mem hr
      exact hs.nodup o.nd
    have en : (es.filter fun e => decide (e ∈ row)).Nodup := (hp.symm.nodup o.nd).filter _
    have pw := row_reach hr
    refine (perm_sorted_on (le := fun a b => ¬ Reach R b a) (fun a ha b hb h1 h2 => ?_) (perm_memG rn en fun x => ?_) (pw.imp fun h h' => o.asym h h') (hw.filter _)).symm
    · rcases pw_pair pw ha hb with e | e | e
      · exact e
      · exact absurd e h2
      · exact absurd e h1
    · rw [List.mem_filter]
      exact ⟨fun hx => ⟨hp.symm.subset (mem_ends.mpr ⟨row, hr, hx⟩), decide_eq_true hx⟩, fun h => of_decide_eq_true h.2⟩
  rw [List.map_congr_left this]
  exact List.map_id' _
/-! runs by hand -/
def okB (R : Run) (o : List En) : Bool := decide ((ends R).Nodup) && (ends R).all (fun e => (ends R).contains (flip e)) && R.all (fun row => row.all fun e => !row.contains (flip e)) && (ends R).all (fun e => decide (0 ≤ e.1)) &&
  R.all (fun row => decide (row.Pairwise fun a b => o.idxOf a < o.idxOf b)) && (ends R).all (fun e => !e.2 || decide (o.idxOf e < o.idxOf (flip e)))
theorem Ok.byHand {R : Run} {o : List En} (h : okB R o = true) : Ok R := by
  unfold okB at h
  simp only [Bool.and_eq_true] at h
  obtain ⟨⟨⟨⟨⟨h1, h2⟩, h3⟩, h4⟩, h5⟩, h6⟩ := h
  refine ⟨of_decide_eq_true h1, fun e he => ?_, fun row hr e he hf => ?_, fun e he => ?_, ⟨fun e => o.idxOf e, fun row hr => ?_, fun l hl => ?_⟩⟩
  · have := List.all_eq_true.mp h2 e he
    exact List.contains_iff_mem.mp this
  · have := List.all_eq_true.mp (List.all_eq_true.mp h3 row hr) e he
    rw [Bool.not_eq_true'] at this
    rw [List.contains_iff_mem.mpr hf] at this
    cases this
  · exact of_decide_eq_true (List.all_eq_true.mp h4 e he)
  · exact of_decide_eq_true (List.all_eq_true.mp h5 row hr)
  · have := List.all_eq_true.mp h6 _ hl
    simpa [flip] using this
def hand1 : Run := [[(0, true), (2, true)], [(3, false), (0, false)], [(1, true), (3, true)], [(2, false), (1, false)]]
def hand2 : Run := [[(0, true), (1, true)], [(1, false), (0, false)]]
def hand3 : Run := [[(0, true)], [(0, false), (2, true)], [(2, false), (1, true)], [(1, false)]]
def hand4 : Run := [[(0, true), (3, true)], [(5, false), (0, false)], [(1, true), (4, true)], [(3, false), (1, false)]]
def hand4b : Run := [[(2, true), (5, true)], [(4, false), (2, false)]]
theorem fine1 : Fine hand1 := ⟨Ok.byHand (o := [(0, true), (2, true), (1, true), (3, true), (3, false), (0, false), (2, false), (1, false)]) (by decide +kernel), by decide, by decide⟩
theorem fine2 : Fine hand2 := ⟨Ok.byHand (o := [(0, true), (1, true), (1, false), (0, false)]) (by decide +kernel), by decide, by decide⟩
theorem fine3 : Fine hand3 := ⟨Ok.byHand (o := [(0, true), (0, false), (2, true), (2, false), (1, true), (1, false)]) (by decide +kernel), by decide, by decide⟩
theorem fine4 : Fine (hand4 ++ hand4b) := ⟨Ok.byHand (o := [(0, true), (3, true), (1, true), (4, true), (2, true), (5, true), (5, false), (0, false), (3, false), (1, false), (4, false), (2, false)]) (by decide +kernel), by decide, by decide⟩
theorem fine5 : Fine [] := ⟨Ok.byHand (o := []) (by decide +kernel), by decide, by decide⟩
theorem Fine.turned {R : Run} (f : Fine R) : Fine (turned R) := ⟨f.ok.turned, by
  unfold BC.turned; rw [List.length_map]; exact f.rows, by
  rw [(ends_turned_perm R).length_eq, List.length_map]; exact f.many⟩
theorem Fine.less {R : Run} (f : Fine R) (l : Int) : Fine (less R l) := ⟨f.ok.less l, by
  unfold BC.less; rw [List.length_map]; exact f.rows, by
  rw [ends_less]; exact Nat.le_trans (List.length_filter_le _ _) f.many⟩
theorem Fine.renamed {R : Run} (o : Ok R) (h : R.length ≤ 20) (m : (ends R).length ≤ 40) {f : Int → Int} (hi : ∀ a b, (a, true) ∈ ends R → (b, true) ∈ ends R → f a = f b → a = b) (h0 : ∀ a, (a, true) ∈ ends R → 0 ≤ f a) : Fine (renamed f R) :=
  ⟨o.renamed hi h0, by rw [renamed_len]; exact h, by rw [ends_renamed, List.length_map]; exact m⟩
/-- a row of letters, each sent and received at once, is a row in time -/
def both2 (ns : List Int) : List En := ns.flatMap fun n => [(n, true), (n, false)]
theorem mem_both2 {ns : List Int} {e : En} : e ∈ both2 ns ↔ e.1 ∈ ns := by
  unfold both2
  rw [List.mem_flatMap]
  constructor
  · rintro ⟨n, hn, h⟩
    simp at h
    rcases h with rfl | rfl <;> exact hn
  · intro h
    obtain ⟨l, b⟩ := e
    exact ⟨l, h, by cases b <;> simp⟩
theorem both2_nodup {ns : List Int} (h : ns.Nodup) : (both2 ns).Nodup := by
  induction ns with
  | nil => exact .nil
  | cons a r ih =>
    rw [List.nodup_cons] at h
    show ((a, true) :: (a, false) :: both2 r).Nodup
    rw [List.nodup_cons, List.nodup_cons]
    refine ⟨fun hm => ?_, fun hm => h.1 (mem_both2.mp hm), ih h.2⟩
    rcases List.mem_cons.mp hm with e | e
    · injection e with _ e; cases e
    · exact h.1 (mem_both2.mp e)
theorem from_memG {R : Run} (o : Ok R) {l : Int} (h : Reach R (l, false) (l, true)) : (l, true) ∈ ends R := (h.mem o.both).2
theorem both2_row {R : Run} (o : Ok R) {ns : List Int} (hn : ns.Nodup) (hp : ns.Pairwise fun a b => ¬ Link R b a) : (both2 ns).Pairwise fun a b => ¬ Reach R b a := by
  induction ns with
  | nil => exact .nil
  | cons a r ih =>
    rw [List.nodup_cons] at hn
    rw [List.pairwise_cons] at hp
    show ((a, true) :: (a, false) :: both2 r).Pairwise _
    have key : ∀ (b : Bool) (x : En), x ∈ both2 r → ¬ Reach R x (a, b) := fun b x hx h => by
      have h1 := mem_both2.mp hx
      obtain ⟨l, c⟩ := x
      have h1 : l ∈ r := h1
      refine hp.1 l h1 ⟨fun e => hn.1 (e ▸ h1), ?_⟩
      exact to_r o (from_s o h)
    rw [List.pairwise_cons, List.pairwise_cons]
    refine ⟨fun x hx => ?_, fun x hx => key false x hx, ih hn.2 hp.2⟩
    rcases List.mem_cons.mp hx with e | e
    · subst e
      intro h
      exact o.asym h (sr_reach (from_memG o h))
    · exact key true x e
end BC
namespace BC
open PySem PySem.Spec PyProof.Rows L2 BX
/-! ### runs written out -/
def EvP (te : TE) (σ : L2.St) (P : Hp → V → Prop) : Prop := ∀ H (Q : VK), (∀ v H', Same H H' → P H' v → Q v H') → te σ H Q
def EvPs (ta : TA) (σ : L2.St) (P : Hp → List V → Prop) : Prop := ∀ H (Q : List V → Hp → Prop), (∀ vs H', Same H H' → P H' vs → Q vs H') → ta σ H Q
theorem evE {σ : L2.St} (l : Int) (b : Bool) : EvP (tTup (tCons (tC (.int l)) (tCons (tC (.str (sr b))) tNil))) σ (fun H v => EndAt H v (l, b)) := fun H Q q => ⟨two_le, fun p np => q _ _ (Same.new np) ⟨p, rfl, upd_same⟩⟩
theorem evNE {σ : L2.St} : EvPs tNil σ (fun H vs => Paired (EndAt H) vs []) := fun H Q q => q _ _ (Same.rf H) .nil
theorem evNR {σ : L2.St} : EvPs tNil σ (fun H vs => Paired (RowAt H) vs []) := fun H Q q => q _ _ (Same.rf H) .nil
theorem evCE {σ : L2.St} {te : TE} {ta : TA} {e : En} {r : List En} (h : EvP te σ (fun H v => EndAt H v e)) (t : EvPs ta σ (fun H vs => Paired (EndAt H) vs r)) : EvPs (tCons te ta) σ (fun H vs => Paired (EndAt H) vs (e :: r)) := fun H Q q =>
  h H _ fun v H1 s1 h1 => t H1 _ fun vs H2 s2 h2 => q _ _ (Same.trans s1 s2) (.cons (EndAt.mono (Same.ts s2) h1) h2)
theorem evCR {σ : L2.St} {te : TE} {ta : TA} {e : List En} {r : Run} (h : EvP te σ (fun H v => RowAt H v e)) (t : EvPs ta σ (fun H vs => Paired (RowAt H) vs r)) : EvPs (tCons te ta) σ (fun H vs => Paired (RowAt H) vs (e :: r)) := fun H Q q =>
  h H _ fun v H1 s1 h1 => t H1 _ fun vs H2 s2 h2 => q _ _ (Same.trans s1 s2) (.cons (RowAt.mono (Same.ts s2) h1) h2)
theorem evRow {σ : L2.St} {ta : TA} {r : List En} (t : EvPs ta σ (fun H vs => Paired (EndAt H) vs r)) (hl : r.length ≤ 1000) : EvP (tTup ta) σ (fun H v => RowAt H v r) := fun H Q q =>
  t H _ fun vs H1 s1 h1 => ⟨by rw [Paired.len h1]; exact Nat.le_trans hl (by decide), fun p np => q _ _ (Same.trans s1 (Same.new np)) ⟨p, vs, rfl, upd_same, ends_mono (Same.ts (Same.new np)) h1⟩⟩
theorem evRun {σ : L2.St} {ta : TA} {r : Run} (t : EvPs ta σ (fun H vs => Paired (RowAt H) vs r)) (hl : r.length ≤ 1000) : EvP (tTup ta) σ (fun H v => RunAt H v r) := fun H Q q =>
  t H _ fun vs H1 s1 h1 => ⟨by rw [Paired.len h1]; exact Nat.le_trans hl (by decide), fun p np => q _ _ (Same.trans s1 (Same.new np)) ⟨p, vs, rfl, upd_same, Paired.imp (fun _ _ h => RowAt.mono (Same.ts (Same.new np)) h) h1⟩⟩
theorem asg_ev {σ : L2.St} {te : TE} {i : Nat} {D : Ends} {H : Hp} (P : Hp → V → Prop) (h : EvP te σ P) (k : ∀ v H', Same H H' → P H' v → D.nx (σ.set i (some v)) H') : tAsg te (gName i) D σ H := h H _ fun v H1 s1 h1 => k v H1 s1 h1
theorem cutV_map (ns : List Int) (lo hi : Option Int) : ∃ ts : List Int, cutV (ns.map V.int) lo hi = ts.map V.int ∧ ts.length ≤ ns.length := by
  refine ⟨(ns.drop (HT.sIx ns.length 0 lo)).take (HT.sIx ns.length ns.length hi - HT.sIx ns.length 0 lo), ?_, ?_⟩
  · unfold cutV
    rw [List.length_map, List.map_take, List.map_drop]
  · rw [List.length_take, List.length_drop]
    omega
section
variable {P : Program} {w : World} {K : PySem.W.Frag} {mg : Str → Option Value} {base : Heap} {f : Addr} {fd : FuncData}
theorem sc_w_mails_by_hand : FnScope ["_law_swap_so", "_law_rush_so", "_law_calm_so", "_law_three_so"] [] (defScope s_w_mails_by_hand) := ⟨rfl, rfl, rfl, by decide +kernel, rfl, by decide +kernel, by decide +kernel⟩
-- slots: 0:_law_swap_so 1:_law_rush_so 2:_law_calm_so 3:_law_three_so
def hands : List Run := [hand1, hand2, hand3, hand4 ++ hand4b, []]
def spHands : Sp := fun vs H Q _ => vs = [] ∧ ∀ p us H', Same H H' → H' p = some (.lst us) → Paired (RunAt H') us hands → Q (.ref p) H'
theorem cal_w_mails_by_hand (F : FnP K "_law_mails_by_hand" s_w_mails_by_hand f fd) (hm : mg "_law_mails_by_hand" = some (.ref f)) (T : Txt K mg) {kk : Nat} : C8.Cal P w K mg base (kk + 1) "_law_mails_by_hand" spHands [] := by
  refine cal_of F hm sc_w_mails_by_hand (ps := []) (fun kV doc pm an cdv ct us hl => match us, hl with | [], _ => rfl) (fun vs H Q E h => ?_) (fun cdv A outer s H vs Q E hr h => ?_)
  · obtain ⟨rfl, _⟩ := h; rfl
  obtain ⟨rfl, q⟩ := h
  have nd := sc_w_mails_by_hand.nd
  have hu1 := Nat.lt_of_le_of_lt (Nat.add_le_add_left (show 1 ≤ 64 by decide) _) hr.units
  have hu64 := hr.units
  have hu65 := room65 hr
  refine ⟨_, (pss_cons (ps_set (i := 0) nd rfl (Or.inl rfl) (pe_tup (pa_cons (pe_tup (pa_cons (pe_tup (pa_cons pe_int (pa_cons pe_str pa_nil))) (pa_cons (pe_tup (pa_cons pe_int (pa_cons pe_str pa_nil))) pa_nil))) (pa_cons (pe_tup (pa_cons (pe_tup (pa_cons pe_int (pa_cons pe_str pa_nil))) (pa_cons (pe_tup (pa_cons pe_int (pa_cons pe_str pa_nil))) pa_nil))) (pa_cons (pe_tup (pa_cons (pe_tup (pa_cons pe_int (pa_cons pe_str pa_nil))) (pa_cons (pe_tup (pa_cons pe_int (pa_cons pe_str pa_nil))) pa_nil))) (pa_cons (pe_tup (pa_cons (pe_tup (pa_cons pe_int (pa_cons pe_str pa_nil))) (pa_cons (pe_tup (pa_cons pe_int (pa_cons pe_str pa_nil))) pa_nil))) pa_nil))))))
    (pss_cons (ps_set (i := 1) nd rfl (Or.inl rfl) (pe_tup (pa_cons (pe_tup (pa_cons (pe_tup (pa_cons pe_int (pa_cons pe_str pa_nil))) (pa_cons (pe_tup (pa_cons pe_int (pa_cons pe_str pa_nil))) pa_nil))) (pa_cons (pe_tup (pa_cons (pe_tup (pa_cons pe_int (pa_cons pe_str pa_nil))) (pa_cons (pe_tup (pa_cons pe_int (pa_cons pe_str pa_nil))) pa_nil))) pa_nil))))
    (pss_cons (ps_set (i := 2) nd rfl (Or.inl rfl) (pe_tup (pa_cons (pe_tup (pa_cons (pe_tup (pa_cons pe_int (pa_cons pe_str pa_nil))) pa_nil)) (pa_cons (pe_tup (pa_cons (pe_tup (pa_cons pe_int (pa_cons pe_str pa_nil))) (pa_cons (pe_tup (pa_cons pe_int (pa_cons pe_str pa_nil))) pa_nil))) (pa_cons (pe_tup (pa_cons (pe_tup (pa_cons pe_int (pa_cons pe_str pa_nil))) (pa_cons (pe_tup (pa_cons pe_int (pa_cons pe_str pa_nil))) pa_nil))) (pa_cons (pe_tup (pa_cons (pe_tup (pa_cons pe_int (pa_cons pe_str pa_nil))) pa_nil)) pa_nil))))))
    (pss_cons (ps_set (i := 3) nd rfl (Or.inl rfl) (pe_tup (pa_cons (pe_tup (pa_cons (pe_tup (pa_cons pe_int (pa_cons pe_str pa_nil))) (pa_cons (pe_tup (pa_cons pe_int (pa_cons pe_str pa_nil))) pa_nil))) (pa_cons (pe_tup (pa_cons (pe_tup (pa_cons pe_int (pa_cons pe_str pa_nil))) (pa_cons (pe_tup (pa_cons pe_int (pa_cons pe_str pa_nil))) pa_nil))) (pa_cons (pe_tup (pa_cons (pe_tup (pa_cons pe_int (pa_cons pe_str pa_nil))) (pa_cons (pe_tup (pa_cons pe_int (pa_cons pe_str pa_nil))) pa_nil))) (pa_cons (pe_tup (pa_cons (pe_tup (pa_cons pe_int (pa_cons pe_str pa_nil))) (pa_cons (pe_tup (pa_cons pe_int (pa_cons pe_str pa_nil))) pa_nil))) pa_nil))))))
    (pss_cons (ps_set (i := 3) nd rfl (Or.inl rfl) (pe_op op_catA (pv 3) (pe_tup (pa_cons (pe_tup (pa_cons (pe_tup (pa_cons pe_int (pa_cons pe_str pa_nil))) (pa_cons (pe_tup (pa_cons pe_int (pa_cons pe_str pa_nil))) pa_nil))) (pa_cons (pe_tup (pa_cons (pe_tup (pa_cons pe_int (pa_cons pe_str pa_nil))) (pa_cons (pe_tup (pa_cons pe_int (pa_cons pe_str pa_nil))) pa_nil))) pa_nil)))))
    (pss_one (ps_ret (pe_lst (pa_cons (pv 0) (pa_cons (pv 1) (pa_cons (pv 2) (pa_cons (pv 3) (pa_cons (pe_tup pa_nil) pa_nil))))))))))))), ?_⟩
  refine asg_ev (fun H v => RunAt H v hand1) (evRun (evCR (evRow (evCE (evE _ _) (evCE (evE _ _) evNE)) (by decide)) (evCR (evRow (evCE (evE _ _) (evCE (evE _ _) evNE)) (by decide)) (evCR (evRow (evCE (evE _ _) (evCE (evE _ _) evNE)) (by decide)) (evCR (evRow (evCE (evE _ _) (evCE (evE _ _) evNE)) (by decide)) evNR)))) (by decide)) fun v1 H1 s1 h1 => ?_
  refine asg_ev (fun H v => RunAt H v hand2) (evRun (evCR (evRow (evCE (evE _ _) (evCE (evE _ _) evNE)) (by decide)) (evCR (evRow (evCE (evE _ _) (evCE (evE _ _) evNE)) (by decide)) evNR)) (by decide)) fun v2 H2 s2 h2 => ?_
  refine asg_ev (fun H v => RunAt H v hand3) (evRun (evCR (evRow (evCE (evE _ _) evNE) (by decide)) (evCR (evRow (evCE (evE _ _) (evCE (evE _ _) evNE)) (by decide)) (evCR (evRow (evCE (evE _ _) (evCE (evE _ _) evNE)) (by decide)) (evCR (evRow (evCE (evE _ _) evNE) (by decide)) evNR)))) (by decide)) fun v3 H3 s3 h3 => ?_
  refine asg_ev (fun H v => RunAt H v hand4) (evRun (evCR (evRow (evCE (evE _ _) (evCE (evE _ _) evNE)) (by decide)) (evCR (evRow (evCE (evE _ _) (evCE (evE _ _) evNE)) (by decide)) (evCR (evRow (evCE (evE _ _) (evCE (evE _ _) evNE)) (by decide)) (evCR (evRow (evCE (evE _ _) (evCE (evE _ _) evNE)) (by decide)) evNR)))) (by decide)) fun v4 H4 s4 h4 => ?_
  have h4' := h4
  obtain ⟨a4, us4, rfl, ha4, hp4⟩ := h4
  refine ⟨.ref a4, rfl, ((evRun (evCR (evRow (evCE (evE _ _) (evCE (evE _ _) evNE)) (by decide)) (evCR (evRow (evCE (evE _ _) (evCE (evE _ _) evNE)) (by decide)) evNR)) (by decide)) : EvP _ _ (fun H v => RunAt H v hand4b)) _ _ fun v5 H5 s5 h5 => ?_⟩
  obtain ⟨a5, us5, rfl, ha5, hp5⟩ := h5
  have hl4 : us4.length = 4 := Paired.len hp4
  have hl5 : us5.length = 2 := Paired.len hp5
  refine ⟨a4, a5, us4, us5, rfl, rfl, SqT.of (s5 _ _ ha4), SqT.of ha5, by rw [hl4, hl5]; decide, fun h => (by rw [h] at hl4; cases hl4), fun _ h => (by rw [h] at hl5; cases hl5), fun _ _ p6 np6 => ?_⟩
  have s6 := Same.new (o := .tup (us4 ++ us5)) np6
  have hp6 : RunAt (L2.upd H5 p6 (.tup (us4 ++ us5))) (.ref p6) (hand4 ++ hand4b) := ⟨p6, _, rfl, upd_same, Paired.app (Paired.imp (fun _ _ h => RowAt.mono (Same.ts (Same.trans s5 s6)) h) hp4) (Paired.imp (fun _ _ h => RowAt.mono (Same.ts s6) h) hp5)⟩
  generalize (L2.upd H5 p6 (.tup (us4 ++ us5))) = H6 at s6 hp6 ⊢
  refine ⟨v1, rfl, v2, rfl, v3, rfl, .ref p6, rfl, Nat.zero_le _, fun p7 np7 => ⟨(show 5 ≤ sizeLine by decide), fun p8 np8 => ?_⟩⟩
  have s78 := Same.trans (Same.new (o := .tup []) np7) (Same.new (o := .lst [v1, v2, v3, .ref p6, .ref p7]) np8)
  have m : ∀ {Ha v R}, Same Ha (L2.upd (L2.upd H6 p7 (.tup [])) p8 (.lst [v1, v2, v3, .ref p6, .ref p7])) → RunAt Ha v R → RunAt (L2.upd (L2.upd H6 p7 (.tup [])) p8 (.lst [v1, v2, v3, .ref p6, .ref p7])) v R := fun s h => RunAt.mono (Same.ts s) h
  have s68 := Same.trans s6 s78
  have s58 := Same.trans s5 s68
  have s48 := Same.trans s4 s58
  have s38 := Same.trans s3 s48
  have s28 := Same.trans s2 s38
  exact q p8 _ _ (Same.trans s1 s28) upd_same (.cons (m s28 h1) (.cons (m s38 h2) (.cons (m s48 h3) (.cons (m s78 hp6) (.cons ⟨p7, [], rfl, (Same.new np8) _ _ upd_same, .nil⟩ .nil)))))
end
end BC
namespace BC
open PySem PySem.Spec PyProof.Rows L2 BX
theorem seq_cut {t u : TS} {D : Ends} {σ : L2.St} {H : Hp} (M : L2.St → Hp → Prop) (h1 : ∀ F : L2.St → Hp → Prop, (∀ σ' H', M σ' H' → F σ' H') → t { D with nx := F } σ H) (h2 : ∀ σ' H', M σ' H' → u D σ' H') : tSeq t u D σ H := h1 _ h2
section
variable {P : Program} {w : World} {K : PySem.W.Frag} {mg : Str → Option Value} {base : Heap} {f : Addr} {fd : FuncData}
theorem sc_w_cells : FnScope ["_law_script", "_law_most_so", "_law_cells_here", "_law_k", "_law_cell", "_law_at_so"] ["_law_script", "_law_most_so"] (defScope s_w_cells) := ⟨rfl, rfl, rfl, by decide +kernel, rfl, by decide +kernel, by decide +kernel⟩
-- slots: 0:_law_script 1:_law_most_so 2:_law_cells_here 3:_law_k 4:_law_cell 5:_law_at_so
def spCells : Sp := fun vs H Q _ => ∃ (a : Addr) (ns : List Int), vs = [.ref a, .int 3] ∧ SqL K H a (ns.map V.int) ∧ ns.length ≤ 63 ∧ ∀ (p : Addr) (cs : List Int) H', Same H H' → H' p = some (.lst (cs.map V.int)) → cs.length ≤ 3 → Q (.ref p) H'
theorem cal_w_cells (F : FnP K "_law_cells" s_w_cells f fd) (hm : mg "_law_cells" = some (.ref f)) (T : Txt K mg) {kk : Nat} : C8.Cal P w K mg base (kk + 1) "_law_cells" (spCells (K := K)) [] := by
  refine cal_of F hm sc_w_cells (fun kV doc pm an cdv ct us hl => match us, hl with | [_, _], _ => rfl) (fun vs H Q E h => ?_) (fun cdv A outer s H vs Q E hr h => ?_)
  · obtain ⟨_, _, rfl, _⟩ := h; rfl
  obtain ⟨a, ns, rfl, ha, hl, q⟩ := h
  have nd := sc_w_cells.nd
  have hu1 := Nat.lt_of_le_of_lt (Nat.add_le_add_left (show 1 ≤ 64 by decide) _) hr.units
  have hu64 := hr.units
  have hu65 := room65 hr
  refine ⟨_, (pss_cons (ps_set (i := 2) nd rfl (Or.inl rfl) (pe_orT (pe_callTy call_list_of (by rfl) T.n_list (by decide +kernel) (pa_cons (pe_slice sl_list (pv 0) po_none (po_some (pv 1))) pa_nil)) (pe_one (pe_lst (pa_cons pe_int pa_nil)))))
    (pss_cons (ps_for PassesOwn.never rfl (pi_enum (by rfl) T.n_enumerate (pa_cons (pe_slice sl_list (pv 0) (po_some (pv 1)) (po_some pe_int)) pa_nil)) (pg_tup rfl (pgs_cons (pg_name (i := 3) nd rfl (Or.inl rfl)) (pgs_cons (pg_name (i := 4) nd rfl (Or.inl rfl)) pgs_nil))) (pss_cons (ps_set (i := 5) nd rfl (Or.inl rfl) (pe_op op_mod (pe_callTy call_int1 (by rfl) T.n_int (by decide +kernel) (pa_cons (pv 3) pa_nil)) (pv 1)))
    (pss_one (ps_asg (pe_op op_add (pe_ix ix_list (pv 2) (pv 5) (fun _ _ => rfl)) (pe_op op_mul (pv 4) (pe_op op_add (pv 3) pe_int))) (pg_sub (pv 2) (pv 5) set_list)))))
    (pss_one (ps_ret (pv 2))))), ?_⟩
  -- the cells
  refine seq_cut (fun σ H1 => ∃ (c : Addr) (cs : List Int), σ = [some (.ref a), some (.int 3), some (.ref c), none, none, none] ∧ Same H H1 ∧ H c = none ∧ H1 c = some (.lst (cs.map V.int)) ∧ cs.length ≤ 3 ∧ (3 < ns.length → cs.length = 3)) (fun FF hF => ?_) (fun σ H1 hM => ?_)
  · refine ⟨.ref a, rfl, .int 3, rfl, 3, rfl, a, _, rfl, ha, fun p np => ⟨p, _, rfl, .inl (.inl (.inl upd_same)), fun c nc => ?_⟩⟩
    have e3 : cutV (ns.map V.int) none (some 3) = (ns.take 3).map V.int := by rw [show (3 : Int) = ((3 : Nat) : Int) from rfl, cutV_to, List.map_take]
    rw [e3] at nc ⊢
    have s1 := Same.trans (Same.new (o := .lst ((ns.take 3).map V.int)) np) (Same.new (o := .lst ((ns.take 3).map V.int)) nc)
    have ncH := same_none (Same.new (o := .lst ((ns.take 3).map V.int)) np) nc
    refine ⟨_, .inl ⟨_, .inl (.inl upd_same), rfl⟩, ?_⟩
    by_cases h0 : ns = []
    · subst h0
      refine iteF rfl ⟨Nat.le_of_lt two_le, fun c2 nc2 => ?_⟩
      exact hF _ _ ⟨c2, [0], rfl, Same.trans s1 (Same.new nc2), same_none s1 nc2, upd_same, by decide, fun h => by simp at h⟩
    · refine iteT (by cases ns with
        | nil => exact absurd rfl h0
        | cons _ _ => rfl) ?_
      exact hF _ _ ⟨c, ns.take 3, rfl, s1, ncH, upd_same, by rw [List.length_take]; omega, fun h => by rw [List.length_take]; omega⟩
  obtain ⟨c, cs, rfl, s1, nc, hc, hcl, hc3⟩ := hM
  refine ⟨.ref a, rfl, .int 3, rfl, 3, rfl, 63, rfl, a, _, rfl, s1.seq ha, fun q0 nq0 => ?_⟩
  have hts : ∃ ts : List Int, cutV (ns.map V.int) (some 3) (some 63) = ts.map V.int ∧ ts.length ≤ 100 ∧ (ts ≠ [] → 3 < ns.length) := by
    refine ⟨(ns.drop (HT.sIx ns.length 0 (some 3))).take (HT.sIx ns.length ns.length (some 63) - HT.sIx ns.length 0 (some 3)), ?_, by rw [List.length_take, List.length_drop]; omega, fun h => ?_⟩
    · unfold cutV
      rw [List.length_map, List.map_take, List.map_drop]
    · apply Classical.byContradiction
      intro hn
      refine h ?_
      rw [show HT.sIx ns.length 0 (some 3) = min 3 ns.length from HT.sIx_nat ns.length 0 3]
      rw [List.drop_of_length_le (by omega), List.take_nil]
  obtain ⟨ts, ets, htl, ht3⟩ := hts
  rw [ets]
  have s2 := Same.new (o := .lst (ts.map V.int)) nq0
  refine ⟨q0, _, rfl, .inl (.inl upd_same), ?_⟩
  have hq2 : (L2.upd H1 q0 (.lst (ts.map V.int))) q0 = some (.lst (ts.map V.int)) := upd_same
  have hc2 := s2 _ _ hc
  have s12 := Same.trans s1 s2
  have hqc : q0 ≠ c := fun h => by rw [h, hc] at nq0; cases nq0
  generalize (L2.upd H1 q0 (.lst (ts.map V.int))) = H2 at s2 hq2 hc2 s12 ⊢
  refine L2.for_it (wp_enum (K := K) (a := q0) (xs := ts.map V.int)) (fun i σ H' => ∃ x3 x4 x5, ∃ cs : List Int, σ = [some (.ref a), some (.int 3), some (.ref c), x3, x4, x5] ∧ Same H H' ∧ H' q0 = some (.lst (ts.map V.int)) ∧ H' c = some (.lst (cs.map V.int)) ∧ cs.length ≤ 3 ∧ (3 < ns.length → cs.length = 3)) ⟨_, _, _, cs, rfl, s12, hq2, hc2, hcl, hc3⟩ (fun i σ H' _ h => ?_) (fun i x σ H3 H3' hi h y => ?_) fun σ H3 h => ?_
  · obtain ⟨_, _, _, _, _, _, h, _⟩ := h
    exact .inl (.inl h)
  · obtain ⟨x3, x4, x5, cs, rfl, s3, hq3, hcc, hcl, hc3⟩ := h
    obtain ⟨s4, Tz, v, rfl, hT, hv⟩ := y
    rw [List.getElem?_map] at hv
    obtain ⟨n, hn, rfl⟩ := Option.map_eq_some_iff.mp hv
    have hn3 := ht3 (fun h => by rw [h] at hn; simp at hn)
    have hl3 := hc3 hn3
    have hil : i < ts.length := (List.getElem?_eq_some_iff.mp hn).1
    have hcc4 := s4 _ _ hcc
    refine ⟨Tz, _, rfl, SqT.of hT, rfl, .int (i : Nat), [.int n], rfl, .int n, [], rfl, rfl, ?_⟩
    have e1 := Int.emod_nonneg (i : Nat) (show (3 : Int) ≠ 0 by decide)
    have e2 := Int.emod_lt_of_pos (i : Nat) (show (0 : Int) < 3 by decide)
    obtain ⟨j, hj⟩ : ∃ j : Nat, ((i : Nat) : Int) % 3 = (j : Nat) := ⟨(((i : Nat) : Int) % 3).toNat, (Int.toNat_of_nonneg e1).symm⟩
    have hj3 : j < cs.length := by omega
    refine ⟨.int (i : Nat), rfl, .inl ⟨_, rfl, .int 3, rfl, _, 3, rfl, rfl, (show (0 : Int) < 3 by decide), ?_⟩⟩
    have eat : atI (cs.map V.int) (((i : Nat) : Int) % 3) = some (.int cs[j]) := by
      rw [hj]
      exact atI_nat (by rw [List.getElem?_map, List.getElem?_eq_getElem hj3]; rfl)
    have eix : ixN (cs.map V.int).length (((i : Nat) : Int) % 3) = some j := by
      rw [hj, List.length_map]
      unfold ixN
      rw [if_pos (by omega), if_pos (by omega)]
      simp
    refine ⟨.ref c, rfl, _, rfl, c, _, _, _, rfl, rfl, .inl (.inl hcc4), eat, .int n, rfl, .int (i : Nat), rfl, (i : Nat), 2, rfl, rfl, n, _, rfl, rfl, .inr ⟨by omega, by omega⟩, _, _, rfl, rfl, .ref c, rfl, _, rfl, c, _, _, j, rfl, rfl, hcc4, eix, ?_⟩
    refine ⟨_, _, _, cs.set j (cs[j] + n * ((i : Nat) + 2)), rfl, Same.put (Same.trans s3 s4) nc, by rw [upd_ne hqc]; exact s4 _ _ hq3, ?_, by rw [List.length_set]; exact hcl, fun h => by rw [List.length_set]; exact hc3 h⟩
    rw [upd_same, List.map_set]
  · obtain ⟨x3, x4, x5, cs, rfl, s3, hq3, hcc, hcl, hc3⟩ := h
    exact ⟨.ref c, rfl, q c cs H3 s3 hcc hcl⟩
end
end BC
namespace BC
open PySem PySem.Spec PyProof.Rows L2 BX
theorem ints_perm {ws : List V} {ps : List Int} (h : ws.Perm (ps.map V.int)) : ∃ qs : List Int, ws = qs.map V.int ∧ qs.Perm ps := by
  refine ⟨ws.map (fun v => match v with | .int n => n | _ => 0), ?_, ?_⟩
  · rw [List.map_map]
    have e : ws = ws.map (fun v => v) := by rw [List.map_id']
    conv => lhs; rw [e]
    refine List.map_congr_left fun v hv => ?_
    obtain ⟨n, _, rfl⟩ := List.mem_map.mp (h.subset hv)
    rfl
  · have h2 := h.map (fun v => match v with | .int n => n | _ => 0)
    rw [List.map_map] at h2
    refine h2.trans ?_
    have e : ps = ps.map (fun v => v) := by rw [List.map_id']
    conv => rhs; rw [e]
    exact List.Perm.of_eq (List.map_congr_left fun v _ => rfl)
section
variable {P : Program} {w : World} {K : PySem.W.Frag} {mg : Str → Option Value} {base : Heap} {f : Addr} {fd : FuncData}
theorem sc_w_mail : FnScope ["_law_box_here", "_law_most_so", "_law_run_so", "_law_pool_so", "_law_row_so", "_law_own"] ["_law_box_here", "_law_most_so"] (defScope s_w_mail) := ⟨rfl, rfl, rfl, by decide +kernel, rfl, by decide +kernel, by decide +kernel⟩
-- slots: 0:_law_box_here 1:_law_most_so 2:_law_run_so 3:_law_pool_so 4:_law_row_so 5:_law_own
def poolI : List Int := [0, 1, 2, 5, 8, 9, 10 ^ 30]
def spMail : Sp := fun vs H Q _ => ∃ (b : Addr) (n : Nat), vs = [.ref b, .int 6] ∧ Bx H b (n + 500) ∧ ∀ v R H', SameX b H H' → Bx H' b n → RunAt H' v R → Fine R → ends R ≠ [] → Q v H'
theorem cal_w_mail (F : FnP K "_law_mail" s_w_mail f fd) (hm : mg "_law_mail" = some (.ref f)) (T : Txt K mg) (c_w_take : C8.Cal P w K mg base 1 "_law_take" spTake []) (c_w_mixed : C8.Cal P w K mg base 2 "_law_mixed" spMixed []) (c_w_run_of : C8.Cal P w K mg base 3 "_law_run_of" spRunOf []) : C8.Cal P w K mg base 4 "_law_mail" spMail [] := by
  refine cal_of F hm sc_w_mail (fun kV doc pm an cdv ct us hl => match us, hl with | [_, _], _ => rfl) (fun vs H Q E h => ?_) (fun cdv A outer s H vs Q E hr h => ?_)
  · obtain ⟨_, _, rfl, _⟩ := h; rfl
  obtain ⟨b, n, rfl, bx, q⟩ := h
  have nd := sc_w_mail.nd
  have hu1 := Nat.lt_of_le_of_lt (Nat.add_le_add_left (show 1 ≤ 64 by decide) _) hr.units
  have hu64 := hr.units
  have hu65 := room65 hr
  refine ⟨_, (pss_cons (ps_set (i := 2) nd rfl (Or.inl rfl) (C8.pe_c c_w_run_of hr (by omega) (by rfl) (pa_cons (pv 0) (pa_cons (pe_op op_add pe_int (C8.pe_c c_w_take hr (by omega) (by rfl) (pa_cons (pv 0) (pa_cons pe_int pa_nil)))) (pa_cons (pe_op op_add pe_int (C8.pe_c c_w_take hr (by omega) (by rfl) (pa_cons (pv 0) (pa_cons (pv 1) pa_nil)))) pa_nil)))))
    (pss_cons (ps_set (i := 3) nd rfl (Or.inr rfl) (C8.pe_c c_w_mixed hr (by omega) (by rfl) (pa_cons (pv 0) (pa_cons (pe_lst (pa_cons pe_int (pa_cons pe_int (pa_cons pe_int (pa_cons pe_int (pa_cons pe_int (pa_cons pe_int (pa_cons (pe_op op_pow pe_int pe_int) pa_nil)))))))) pa_nil))))
    (pss_one (ps_ret (pe_callTy call_tuple_of (by rfl) T.n_tuple (by decide +kernel) (pa_cons (pe_lc (own := [("_law_row_so", 4)]) (g := (gName 4)) (tt := tYes) rfl nd (pi_tup (pv 2)) (blkOk_by (by rfl)) (fun _ _ _ _ _ => (pg_name (i := 4) nd rfl (Or.inl rfl))) (fun _ _ _ _ _ => pts_nil) (fun _ _ _ _ _ => (pe_callTy (call_tuple_ofK (K := K) rfl) (by rfl) T.n_tuple (by decide +kernel) (pa_cons (pe_lc (own := [("_law_own", 5)]) (g := (gName 5)) (tt := tYes) rfl nd (pi_tupK (K := K) rfl (pv 4)) (blkOk_by (by rfl)) (fun _ _ _ _ _ => (pg_name (i := 5) nd rfl (Or.inl rfl))) (fun _ _ _ _ _ => pts_nil) (fun _ _ _ _ _ => (pe_tup (pa_cons (pe_ix (ix_listK (K := K) rfl) (pv 3) (pe_ix (ix_tupK (K := K) rfl) (pv 5) pe_int (fun _ _ => rfl)) (fun _ _ => rfl)) (pa_cons (pe_ix (ix_tupK (K := K) rfl) (pv 5) pe_int (fun _ _ => rfl)) pa_nil))))) pa_nil)))) pa_nil)))))), ?_⟩
  refine ⟨.ref b, rfl, .ref b, rfl, b, 3, n + 499, rfl, bx, by decide, by decide, fun k1 H1 s1 bx1 hk1 => ⟨2, (k1 : Nat), rfl, rfl, .ref b, rfl, .int 6, rfl, b, 6, n + 498, rfl, bx1, by decide, by decide, fun k2 H2 s2 bx2 hk2 => ⟨1, (k2 : Nat), rfl, rfl, ?_⟩⟩⟩
  refine ⟨b, k1 + 2, k2 + 1, n + 20, ?_, bx2.le (by omega), by omega, by omega, by omega, by omega, fun v R H3 s3 bx3 hR ok hRl hE hne hml => ?_⟩
  · have e1 : (2 : Int) + (k1 : Nat) = ((k1 + 2 : Nat) : Int) := by omega
    have e2 : (1 : Int) + (k2 : Nat) = ((k2 + 1 : Nat) : Int) := by omega
    show [V.ref b, V.int (2 + (k1 : Nat)), V.int (1 + (k2 : Nat))] = _
    rw [e1, e2]
  have s13 := SameX.trans s1 (SameX.trans s2 s3)
  refine ⟨.ref b, rfl, 10, 30, rfl, rfl, ⟨by decide, by decide, by decide⟩, (show 7 ≤ sizeLine by decide), fun pl npl => ?_⟩
  have s4 := Same.new (o := .lst (poolI.map V.int)) npl
  have hpl4 : (L2.upd H3 pl (.lst (poolI.map V.int))) pl = some (.lst (poolI.map V.int)) := upd_same
  have bx4 := bx3.same s4
  have plb := bx3.ne npl
  refine ⟨b, pl, poolI.map V.int, n, rfl, bx4.le (by simp [poolI]), hpl4, by simp [poolI], plb, fun mp ws H5 s5 bx5 _ hmp hpm => ?_⟩
  have sx5 := SameX.trans s13 (SameX.trans (Same.x s4) s5)
  have hR5 := RunAt.mono (TSame.trans (Same.ts s4) (bx4.ts s5)) hR
  obtain ⟨qs, rfl, hqs⟩ := ints_perm hpm
  have hql : qs.length = 7 := hqs.length_eq
  have hqn : qs.Nodup := hqs.symm.nodup (by decide)
  have hq0 : ∀ x ∈ qs, 0 ≤ x := fun x hx => by
    have key : ∀ y ∈ poolI, 0 ≤ y := by decide
    exact key x (hqs.subset hx)
  obtain ⟨a, us, rfl, ha, hp⟩ := hR5
  have hul : us.length = R.length := Paired.len hp
  let f : Int → Int := fun m => qs.getD m.toNat 0
  have hf : ∀ m, 0 ≤ m ∧ m < 6 → qs[m.toNat]? = some (f m) := fun m hm => by
    show qs[m.toNat]? = some (qs.getD m.toNat 0)
    rw [List.getD_eq_getElem?_getD, List.getElem?_eq_getElem (by omega)]
    rfl
  refine ⟨.ref a, rfl, a, rfl, ⟨us, SqT.of ha⟩, fun D nD => ?_⟩
  refine lc_map wp_tup R (fun row => row.map fun e => (f e.1, e.2)) RowAt (fun _ _ _ _ t h => RowAt.mono t h) hul (by omega) nD (fun H' s' => SqT.of (s' _ _ ha)) (fun i row x H6 K1 hrow s6 hi q1 => ?_) fun H6 acc s6 hD hacc => ?_
  · obtain ⟨row', hrow', rb, rs, rfl, hb, hrs⟩ := Paired.at hp hi
    rw [hrow] at hrow'
    cases hrow'
    have hrl : rs.length = row.length := Paired.len hrs
    have hrm := List.mem_of_getElem? hrow
    have hr12 := row_le hrm
    have hb6 := s6 _ _ hb
    refine ⟨rfl, .ref rb, rfl, rb, rfl, ⟨_, SqT.of hb6⟩, fun D2 nD2 => ?_⟩
    have hrr := ends_mono (Same.ts s6) hrs
    refine lc_map wp_tup row (fun e => ((f e.1, e.2) : En)) (fun H v e => EndAt H v e) (fun _ _ _ _ t h => EndAt.mono t h) hrl (by omega) nD2 (fun H' s' => SqT.of (s' _ _ hb6)) (fun j e x H7 K2 he s7 hj q2 => ?_) fun H7 acc2 s7 hD2 hacc2 => ?_
    · obtain ⟨e', he', z, rfl, hz⟩ := Paired.at hrr hj
      rw [he] at he'
      cases he'
      have hz7 := s7 _ _ hz
      have hmp7 := s7 _ _ (s6 _ _ hmp)
      have hme : e ∈ ends R := mem_ends.mpr ⟨row, hrm, List.mem_of_getElem? he⟩
      have hms := hml e.1 (both_of ok (a := e.2) hme true)
      have eat : atI (qs.map V.int) e.1 = some (.int (f e.1)) := by
        have e1 : e.1 = (e.1.toNat : Nat) := (Int.toNat_of_nonneg hms.1).symm
        rw [e1]
        refine atI_nat ?_
        rw [List.getElem?_map, ← e1, hf e.1 hms]
        rfl
      exact ⟨rfl, .ref mp, rfl, .ref z, rfl, z, eV e, 0, _, rfl, rfl, SqT.of hz7, atI_nat (j := 0) rfl, mp, _, e.1, _, rfl, rfl, .inl (.inl hmp7), eat, .ref z, rfl, z, eV e, 1, _, rfl, rfl, SqT.of hz7, atI_nat (j := 1) rfl, two_le, fun p np => q2 _ _ (Same.new np) ⟨p, rfl, upd_same⟩⟩
    refine ⟨D2, acc2, rfl, .inl ⟨.inl (.inl hD2), fun l nl => q1 _ _ (Same.trans s7 (Same.new nl)) ⟨l, acc2, rfl, upd_same, ends_mono (Same.ts (Same.new nl)) hacc2⟩⟩⟩
  refine ⟨D, acc, rfl, .inl ⟨.inl (.inl hD), fun l nl => ?_⟩⟩
  have s67 := Same.trans s6 (Same.new (o := .tup acc) nl)
  refine q _ (renamed f R) _ (SameX.trans sx5 (Same.x s67)) (bx5.same s67) ⟨l, acc, rfl, upd_same, Paired.imp (fun _ _ h => RowAt.mono (Same.ts (Same.new nl)) h) hacc⟩ (Fine.renamed ok (by omega) (by omega) (fun x y hx hy e => ?_) fun x hx => ?_) fun e => hne ?_
  · have h1 := hml x hx
    have h2 := hml y hy
    have e1 := hf x h1
    have e2 := hf y h2
    rw [← e] at e2
    obtain ⟨l1, g1⟩ := List.getElem?_eq_some_iff.mp e1
    obtain ⟨l2, g2⟩ := List.getElem?_eq_some_iff.mp e2
    have := (List.getElem_inj hqn).mp (g1.trans g2.symm)
    omega
  · exact hq0 _ (List.mem_of_getElem? (hf x (hml x hx)))
  · rw [ends_renamed] at e
    exact List.map_eq_nil_iff.mp e
theorem sc_w_played : FnScope ["_law_run_so", "_law_row_so", "_law_rows_so", "_law_letter_so", "_law_end_so", "_law_own"] ["_law_run_so", "_law_row_so"] (defScope s_w_played) := ⟨rfl, rfl, rfl, by decide +kernel, rfl, by decide +kernel, by decide +kernel⟩
-- slots: 0:_law_run_so 1:_law_row_so 2:_law_rows_so 3:_law_letter_so 4:_law_end_so 5:_law_own
def spPlayed : Sp := fun vs H Q _ => ∃ v R v2 es, vs = [v, v2] ∧ RunAt H v R ∧ Fine R ∧ RowAt H v2 es ∧ es.Perm (ends R) ∧ es.Pairwise (fun a b => ¬ Reach R b a) ∧ ∀ v' H', Same H H' → RunAt H' v' R → Q v' H'
theorem cal_w_played (F : FnP K "_law_played" s_w_played f fd) (hm : mg "_law_played" = some (.ref f)) (T : Txt K mg) (c_house_of : C8.Cal P w K mg base 9 "house_of" spHouseOf []) : C8.Cal P w K mg base 10 "_law_played" spPlayed [] := by
  refine cal_of F hm sc_w_played (fun kV doc pm an cdv ct us hl => match us, hl with | [_, _], _ => rfl) (fun vs H Q E h => ?_) (fun cdv A outer s H vs Q E hr h => ?_)
  · obtain ⟨_, _, _, _, rfl, _⟩ := h; rfl
  obtain ⟨v, R, v2, es, rfl, hR, fn, hE, hpm, hpw, q⟩ := h
  have nd := sc_w_played.nd
  have hu1 := Nat.lt_of_le_of_lt (Nat.add_le_add_left (show 1 ≤ 64 by decide) _) hr.units
  have hu64 := hr.units
  have hu65 := room65 hr
  refine ⟨_, (pss_cons (ps_setLc (i := 2) (own := [("_law_own", 5)]) (g := (gName 5)) (tt := tYes) rfl nd rfl rfl (sw_true rfl rfl rfl (by decide +kernel)) (pi_tup (pv 0)) (blkOk_by (by rfl)) (fun _ _ _ _ _ => (pg_name (i := 5) nd rfl (Or.inl rfl))) (fun _ _ _ _ _ => pts_nil) (fun _ _ _ _ _ => (pe_lst pa_nil)))
    (pss_cons (ps_for PassesOwn.never rfl (pi_tup (pv 1)) (pg_tup rfl (pgs_cons (pg_name (i := 3) nd rfl (Or.inl rfl)) (pgs_cons (pg_name (i := 4) nd rfl (Or.inl rfl)) pgs_nil))) (pss_one (ps_expr (pe_bm PySem.F.plainAttrs_list PySem.F.slot_list_append PySem.F.type_list_append mt_append (pe_ix ix_list (pv 2) (C8.pe_c c_house_of hr (by omega) (by rfl) (pa_cons (pv 0) (pa_cons (pv 3) (pa_cons (pv 4) pa_nil)))) (fun _ _ => rfl)) (pa_cons (pe_tup (pa_cons (pv 3) (pa_cons (pv 4) pa_nil))) pa_nil)))))
    (pss_one (ps_ret (pe_callTy call_tuple_of (by rfl) T.n_tuple (by decide +kernel) (pa_cons (pe_lc (own := [("_law_own", 5)]) (g := (gName 5)) (tt := tYes) rfl nd (pi_list (pv 2)) (blkOk_by (by rfl)) (fun _ _ _ _ _ => (pg_name (i := 5) nd rfl (Or.inl rfl))) (fun _ _ _ _ _ => pts_nil) (fun _ _ _ _ _ => (pe_callTy (call_tuple_ofK (K := K) rfl) (by rfl) T.n_tuple (by decide +kernel) (pa_cons (pv 5) pa_nil)))) pa_nil)))))), ?_⟩
  have hR0 := hR
  have hE0 := hE
  obtain ⟨a, us, rfl, ha, hp⟩ := hR
  obtain ⟨a2, ws, rfl, ha2, hws⟩ := hE
  have hul : us.length = R.length := Paired.len hp
  have hwl : ws.length = es.length := Paired.len hws
  have hel : es.length = (ends R).length := hpm.length_eq
  have hrows := fn.rows
  have hmany := fn.many
  refine ⟨.ref a, rfl, a, rfl, ⟨us, SqT.of ha⟩, fun rl nrl => ?_⟩
  refine lc_rows wp_tup (by omega) nrl (fun H' s' => SqT.of (s' _ _ ha)) (fun x => rfl) fun H1 rs s1 ra0 hrs => ?_
  rw [hul, ← played_nil] at ra0
  have hfr : ∀ x, x = rl ∨ x ∈ rs → H x = none := fun x hx => by
    rcases hx with rfl | hx
    · exact nrl
    · exact hrs x hx
  refine ⟨.ref a2, rfl, a2, rfl, ⟨ws, SqT.of (s1 _ _ ha2)⟩, ?_⟩
  refine L2.for_it (wp_tup (K := K) (a := a2) (xs := ws)) (fun i σ H' => ∃ x3 x4 x5, σ = [some (.ref a), some (.ref a2), some (.ref rl), x3, x4, x5] ∧ Same H H' ∧ RowsAt H' rl rs (playedTo R (es.take i))) ⟨_, _, _, rfl, s1, ra0⟩ (fun i σ H' _ h => ?_) (fun i x σ H2 H2' hi h y => ?_) fun σ H2 h => ?_
  · obtain ⟨_, _, _, _, s', _⟩ := h
    exact SqT.of (s' _ _ ha2)
  · obtain ⟨x3, x4, x5, rfl, s2, ra⟩ := h
    obtain ⟨s3, hx⟩ := y
    have ra := ra.same s3
    have s2 := Same.trans s2 s3
    obtain ⟨e, he, z, rfl, hz⟩ := Paired.at hws hx
    have hme : e ∈ ends R := hpm.subset (List.mem_of_getElem? he)
    refine ⟨z, _, rfl, SqT.of (s2 _ _ hz), rfl, .int e.1, [.str (sr e.2)], rfl, .str (sr e.2), [], rfl, rfl, ?_⟩
    refine ⟨.ref rl, rfl, .ref a, rfl, .int e.1, rfl, .str (sr e.2), rfl, .ref a, R, e, rfl, RunAt.mono (Same.ts s2) hR0, fn, hme, fun H3 h s4 hh => ?_⟩
    have ra4 := ra.same s4
    obtain ⟨j, row, hj, hrow, her⟩ := (house_mem 0 R).mp hh
    have hj' : j = h := by omega
    subst hj'
    obtain ⟨a1, ha1⟩ : ∃ a1, rs[j]? = some a1 := ⟨_, List.getElem?_eq_getElem (by rw [ra4.len, played_len]; exact (List.getElem?_eq_some_iff.mp hrow).1)⟩
    have hprow : (playedTo R (es.take i))[j]? = some ((es.take i).filter fun x => decide (x ∈ row)) := by
      unfold playedTo
      rw [List.getElem?_map, hrow]
      rfl
    obtain ⟨vs1, hl1, hv1⟩ := ra4.row j a1 _ ha1 hprow
    refine ⟨rl, _, (j : Nat), .ref a1, rfl, rfl, .inl (.inl ra4.lst), atI_nat (by rw [List.getElem?_map, ha1]; rfl), tyL hl1, .int e.1, rfl, .str (sr e.2), rfl, two_le, fun pt npt => ?_⟩
    have s5 := Same.new (o := .tup [.int e.1, .str (sr e.2)]) npt
    have hpt : (L2.upd H3 pt (.tup [.int e.1, .str (sr e.2)])) pt = some (.tup (eV e)) := upd_same
    have ra5 := ra4.same s5
    have hl5 := s5 _ _ hl1
    have hv5 := ends_mono (Same.ts s5) hv1
    generalize (L2.upd H3 pt (.tup [.int e.1, .str (sr e.2)])) = H5 at s5 hpt ra5 hl5 hv5 ⊢
    refine ⟨a1, vs1, .ref pt, rfl, rfl, hl5, small1000 ?_, ?_⟩
    · rw [Paired.len hv5]
      have := List.length_filter_le (fun x => decide (x ∈ row)) (es.take i)
      rw [List.length_take] at this
      omega
    refine ⟨_, _, _, rfl, Same.put (Same.trans s2 (Same.trans s4 s5)) (hfr a1 (.inr (List.mem_of_getElem? ha1))), ?_⟩
    rw [List.take_add_one, he]
    have := ra5.app ha1 hprow hl5 hv5 (e := e) ⟨pt, rfl, hpt⟩
    rw [played_step fn.ok.nd (es.take i) hrow her] at this
    exact this
  · obtain ⟨x3, x4, x5, rfl, s2, ra⟩ := h
    rw [hwl, List.take_length, played_all fn.ok hpm hpw] at ra
    refine ⟨.ref rl, rfl, rl, rfl, ⟨_, .inl (.inl ra.lst)⟩, fun D nD => ?_⟩
    refine lc_map wp_list R (fun row => row) RowAt (fun _ _ _ _ t h => RowAt.mono t h) (by rw [List.length_map]; exact ra.len) (by rw [List.length_map, ra.len]; omega) nD (fun H' s' => .inl (.inl (s' _ _ ra.lst))) (fun i row x H5 K1 hrow s5 hi q1 => ?_) fun H5 acc s5 hD hacc => ?_
    · rw [List.getElem?_map] at hi
      obtain ⟨c, hc, rfl⟩ := Option.map_eq_some_iff.mp hi
      obtain ⟨vs, h1, h2⟩ := ra.row i c row hc hrow
      exact ⟨rfl, .ref c, rfl, c, vs, rfl, .inl ⟨.inl (.inl (s5 _ _ h1)), fun l nl => q1 _ _ (Same.new nl) ⟨l, vs, rfl, upd_same, ends_mono (Same.ts (Same.trans s5 (Same.new nl))) h2⟩⟩⟩
    rw [List.map_id'] at hacc
    refine ⟨D, acc, rfl, .inl ⟨.inl (.inl hD), fun t nt => ?_⟩⟩
    have s6 := Same.trans s5 (Same.new (o := .tup acc) nt)
    exact q _ _ (Same.trans s2 s6) ⟨t, acc, rfl, upd_same, Paired.imp (fun _ _ h => RowAt.mono (Same.ts (Same.new nt)) h) hacc⟩
end
end BC
namespace BC
open PySem PySem.Spec PyProof.Rows L2 BX
theorem seq_cut' {t u : TS} {D : Ends} {σ : L2.St} {H : Hp} (M : L2.St → Hp → Prop) (h1 : ∀ F : L2.St → Hp → Prop, (∀ σ' H', M σ' H' → F σ' H') → t { D with nx := F } σ H) (h2 : ∀ σ' H', M σ' H' → u D σ' H') : tSeq t u D σ H := h1 _ h2
/-! ### lists of truths -/
def EvB (te : TE) (σ : L2.St) (G : Hp → Prop) : Prop := ∀ H (Q : VK), G H → (∀ H', Same H H' → Q (.bl true) H') → te σ H Q
def EvT (ta : TA) (σ : L2.St) (G : Hp → Prop) (n : Nat) : Prop := ∀ H (Q : List V → Hp → Prop), G H → (∀ H', Same H H' → Q (List.replicate n (.bl true)) H') → ta σ H Q
def Stb (G : Hp → Prop) : Prop := ∀ H H', G H → Same H H' → G H'
theorem evt_nil {σ : L2.St} {G : Hp → Prop} : EvT tNil σ G 0 := fun H Q _ q => q H (Same.rf H)
theorem evt_cons {σ : L2.St} {G : Hp → Prop} {te : TE} {ta : TA} {n : Nat} (st : Stb G) (h : EvB te σ G) (t : EvT ta σ G n) : EvT (tCons te ta) σ G (n + 1) := fun H Q g q =>
  h H _ g fun H1 s1 => t H1 _ (st _ _ g s1) fun H2 s2 => q H2 (Same.trans s1 s2)
def Got (H : Hp) (g : Addr) (m : Nat) : Prop := ∃ k, k ≤ m ∧ H g = some (.lst (List.replicate k (.bl true)))
theorem size5 {n : Nat} (h : n ≤ 5000) : n < sizeLine := Nat.lt_of_le_of_lt h (by decide)
theorem got_cat {ta : TA} {n m : Nat} {D : Ends} {σ : L2.St} {H H' : Hp} {g : Addr} {G : Hp → Prop} (st : Stb G) (hg : H g = none) (hσ : σ[1]? = some (some (.ref g))) (s : Same H H') (hgot : Got H' g m) (hk : m + n ≤ 5000) (gG : G H') (h : EvT ta σ G n)
    (q : ∀ g' H2, Same H H2 → H g' = none → Same H' H2 → H' g' = none → Got H2 g' (m + n) → D.nx (σ.set 1 (some (.ref g'))) H2) : tAsg (tOp rCat (tVar 1) (tLst ta)) (gName 1) D σ H' := by
  obtain ⟨k, hkm, hgk⟩ := hgot
  refine ⟨.ref g, hσ, h H' _ gG fun H1 s1 => ⟨by rw [List.length_replicate]; exact Nat.le_of_lt (size5 (by omega)), fun p np => ⟨g, p, _, _, rfl, rfl, (Same.new np) _ _ (s1 _ _ hgk), upd_same, by rw [List.length_replicate, List.length_replicate]; exact Nat.le_of_lt (size5 (by omega)), fun p2 np2 => ?_⟩⟩⟩
  have s2 := Same.trans s1 (Same.trans (Same.new (o := .lst (List.replicate n (.bl true))) np) (Same.new (o := .lst (List.replicate k (.bl true) ++ List.replicate n (.bl true))) np2))
  exact q p2 _ (Same.trans s s2) (same_none (Same.trans s (Same.trans s1 (Same.new np))) np2) s2 (same_none (Same.trans s1 (Same.new np)) np2) ⟨k + n, by omega, by rw [upd_same, List.replicate_append_replicate]⟩
theorem got_new {ta : TA} {n : Nat} {D : Ends} {σ : L2.St} {H H' : Hp} {G : Hp → Prop} (s : Same H H') (gG : G H') (hn : n ≤ 5000) (h : EvT ta σ G n)
    (q : ∀ g H2, Same H H2 → H g = none → Same H' H2 → H' g = none → Got H2 g n → D.nx (σ.set 1 (some (.ref g))) H2) : tAsg (tLst ta) (gName 1) D σ H' :=
  h H' _ gG fun H1 s1 => ⟨by rw [List.length_replicate]; exact Nat.le_of_lt (size5 hn), fun p np => q p _ (Same.trans s (Same.trans s1 (Same.new np))) (same_none (Same.trans s s1) np) (Same.trans s1 (Same.new np)) (same_none s1 np) ⟨n, Nat.le_refl _, upd_same⟩⟩
theorem got_app {K : PySem.W.Frag} {te : TE} {m : Nat} {D : Ends} {σ : L2.St} {H H' : Hp} {g : Addr} {G : Hp → Prop} (hg : H g = none) (hσ : σ[1]? = some (some (.ref g))) (s : Same H H') (hgot : Got H' g m) (hk : m + 1 ≤ 5000) (gG : G H') (h : EvB te σ G)
    (q : ∀ H1 o, Same H' H1 → (∃ xs, H1 g = some (.lst xs)) → Same H (L2.upd H1 g o) → Got (L2.upd H1 g o) g (m + 1) → D.nx σ (L2.upd H1 g o)) : tDrop (tBM K "list" rAppend (tVar 1) (tCons te tNil)) D σ H' := by
  obtain ⟨k, hkm, hgk⟩ := hgot
  refine ⟨.ref g, hσ, tyL hgk, h H' _ gG fun H1 s1 => ⟨g, _, .bl true, rfl, rfl, s1 _ _ hgk, by rw [List.length_replicate]; exact size5 (by omega), ?_⟩⟩
  exact q H1 _ s1 ⟨_, s1 _ _ hgk⟩ (Same.put (Same.trans s s1) hg) ⟨k + 1, by omega, by rw [upd_same, List.replicate_succ']⟩
/-- all but g -/
theorem TSame.got {H1 : Hp} {g : Addr} {o : HO} (h : ∃ xs, H1 g = some (.lst xs)) : TSame H1 (L2.upd H1 g o) := let ⟨_, h⟩ := h; .lst h
theorem rowD_eqv (r : List En) : PyData.eqv (rowD r) (rowD r) = true := by
  simp only [rowD, PyData.eqv]
  induction r with
  | nil => simp [PyData.eqvAll]
  | cons a r ih =>
    rw [List.map_cons]
    simp only [PyData.eqvAll, ih, endD_eqv, Bool.and_true]
    simp
theorem runD_eqv (R : Run) : PyData.eqv (runD R) (runD R) = true := by
  simp only [runD, PyData.eqv]
  induction R with
  | nil => simp [PyData.eqvAll]
  | cons a r ih =>
    rw [List.map_cons]
    simp only [PyData.eqvAll, ih, rowD_eqv, Bool.and_true]
theorem sh_run (R : Run) : SeqAt.shaped (runD R) = true := shaped_of (runD_lay R) (Nat.le_trans (runD_depth R) (by decide))
def pairD (p : Int × Int) : PyData := .tuple [.int p.1, .int p.2]
theorem pair_dpl {K : PySem.W.Frag} {H : Hp} {a : Addr} {vs : List V} {ps : List (Int × Int)} (h : H a = some (.lst vs)) (hp : Paired (PairAt H) vs ps) : Dp K H (.ref a) (.list (ps.map pairD)) := .lst (.inl (.inl h)) (dps (enc := pairD) (fun _ _ h => pair_dp h) hp)
theorem sh_pairs (W : List (Int × Int)) : SeqAt.shaped (.list (W.map pairD)) = true := shaped_list (n := 1) (fun p => by simp [pairD, PyData.canLay0, PyData.canLayAll0]) (fun p => by simp [pairD, PyData.depth, PyData.depthAll]) (by decide) W
def kindsV : List V := [.str (Str.ofString "one by one"), .str (Str.ofString "causal"), .str (Str.ofString "any")]
theorem kind_cases (R : Run) : (kindNo R = 0 ∧ ¬ Cyc R) ∨ (kindNo R = 1 ∧ Cyc R ∧ Causal R) ∨ (kindNo R = 2 ∧ Cyc R ∧ ¬ Causal R) := by
  unfold kindNo
  by_cases h1 : Cyc R
  · rw [if_pos h1]
    by_cases h2 : Causal R
    · rw [if_pos h2]; exact .inr (.inl ⟨rfl, h1, h2⟩)
    · rw [if_neg h2]; exact .inr (.inr ⟨rfl, h1, h2⟩)
  · rw [if_neg h1]; exact .inl ⟨rfl, h1⟩
theorem kind_le (R : Run) : kindNo R ≤ 2 := by
  rcases kind_cases R with h | h | h <;> omega
theorem kind_in {n : Nat} (h : n ≤ 2) : inV (.str (kindT n)) kindsV = true := by
  have : n = 0 ∨ n = 1 ∨ n = 2 := by omega
  rcases this with rfl | rfl | rfl <;> decide +kernel
theorem kind_ix {n : Nat} (h : n ≤ 2) : ∃ z, kindsV[n]? = some z ∧ eqV z (.str (kindT n)) = true ∧ ∀ m z', m < n → kindsV[m]? = some z' → eqV z' (.str (kindT n)) = false := by
  have : n = 0 ∨ n = 1 ∨ n = 2 := by omega
  rcases this with rfl | rfl | rfl
  · exact ⟨_, rfl, by decide +kernel, fun m z' h => by omega⟩
  · refine ⟨_, rfl, by decide +kernel, fun m z' h hz => ?_⟩
    have : m = 0 := by omega
    subst this
    cases hz
    decide +kernel
  · refine ⟨_, rfl, by decide +kernel, fun m z' h hz => ?_⟩
    have : m = 0 ∨ m = 1 := by omega
    rcases this with rfl | rfl <;> cases hz <;> decide +kernel
theorem sh_rowT (es : List En) : SeqAt.shaped (.tuple (es.map endD)) = true := shaped_tup endD_lay endD_depth (by decide) es
section
variable {P : Program} {w : World} {K : PySem.W.Frag} {mg : Str → Option Value} {base : Heap} {f : Addr} {fd : FuncData}
theorem sc_w_fits : FnScope ["_law_run_so", "_law_got", "_law_back_so", "_law_letter_so", "_law_kinds_so", "_law_kind_so", "_law_row_so", "_law_one_so", "_law_two_so", "_law_less_so", "_law_own"] ["_law_run_so"] (defScope s_w_fits) := ⟨rfl, rfl, rfl, by decide +kernel, rfl, by decide +kernel, by decide +kernel⟩
-- slots: 0:_law_run_so 1:_law_got 2:_law_back_so 3:_law_letter_so 4:_law_kinds_so 5:_law_kind_so 6:_law_row_so 7:_law_one_so 8:_law_two_so 9:_law_less_so 10:_law_own
def spFitsL : Sp := fun vs H Q _ => ∃ v R, vs = [v] ∧ RunAt H v R ∧ Fine R ∧ ∀ H', Same H H' → Q (.bl true) H'
structure FitsCals (P : Program) (w : World) (K : PySem.W.Frag) (mg : Str → Option Value) (base : Heap) : Prop where
  is_run : C8.Cal P w K mg base 8 "is_run" spIsRun []
  time_row : C8.Cal P w K mg base 8 "time_row" spTimeRow []
  is_time_row : C8.Cal P w K mg base 8 "is_time_row" spIsTimeRow []
  played : C8.Cal P w K mg base 10 "_law_played" spPlayed []
  letter_row : C8.Cal P w K mg base 9 "letter_row" spLetterRow []
  crown : C8.Cal P w K mg base 9 "crown" spCrown []
  is_one : C8.Cal P w K mg base 10 "is_one_by_one" spOneByOne []
  causal : C8.Cal P w K mg base 9 "is_causal" spCausal []
  over : C8.Cal P w K mg base 8 "overtaken" spOver []
  kind : C8.Cal P w K mg base 11 "kind_of" spKind []
  is_letter_row : C8.Cal P w K mg base 9 "is_letter_row" spIsLetterRow []
  is_crown : C8.Cal P w K mg base 9 "is_crown" spIsCrown []
  between : C8.Cal P w K mg base 9 "ends_between" spBetween []
  turned : C8.Cal P w K mg base 1 "_law_turned" spTurned []
  ends_in : C8.Cal P w K mg base 6 "ends_in" spEndsIn []
  letters_in : C8.Cal P w K mg base 7 "letters_in" spLetters []
  ahead : C8.Cal P w K mg base 9 "ahead" spAhead []
  less : C8.Cal P w K mg base 1 "_law_less" spLess []
theorem cal_w_fits (F : FnP K "_law_fits" s_w_fits f fd) (hm : mg "_law_fits" = some (.ref f)) (T : Txt K mg) (C : FitsCals P w K mg base) : C8.Cal P w K mg base 12 "_law_fits" spFitsL [] := by
  obtain ⟨c_is_run, c_time_row, c_is_time_row, c_w_played, c_letter_row, c_crown, c_is_one_by_one, c_is_causal, c_overtaken, c_kind_of, c_is_letter_row, c_is_crown, c_ends_between, c_w_turned, c_ends_in, c_letters_in, c_ahead, c_w_less⟩ := C
  refine cal_of F hm sc_w_fits (fun kV doc pm an cdv ct us hl => match us, hl with | [_], _ => rfl) (fun vs H Q E h => ?_) (fun cdv A outer s H vs Q E hr h => ?_)
  · obtain ⟨_, _, rfl, _⟩ := h; rfl
  obtain ⟨v, R, rfl, hR, fn, q⟩ := h
  have nd := sc_w_fits.nd
  have hu1 := Nat.lt_of_le_of_lt (Nat.add_le_add_left (show 1 ≤ 64 by decide) _) hr.units
  have hu64 := hr.units
  have hu65 := room65 hr
  refine ⟨_, (pss_cons (ps_par (i := 4) (j := 5) rfl nd rfl rfl (by decide) rfl rfl (pa_cons (pe_lst (pa_cons pe_str (pa_cons pe_str (pa_cons pe_str pa_nil)))) (pa_cons (C8.pe_c c_kind_of hr (by omega) (by rfl) (pa_cons (pv 0) pa_nil)) pa_nil)) (by rfl))
    (pss_cons (ps_set (i := 1) nd rfl (Or.inl rfl) (pe_lst (pa_cons (C8.pe_c c_is_run hr (by omega) (by rfl) (pa_cons (pv 0) pa_nil)) (pa_cons (C8.pe_c c_is_time_row hr (by omega) (by rfl) (pa_cons (pv 0) (pa_cons (C8.pe_c c_time_row hr (by omega) (by rfl) (pa_cons (pv 0) pa_nil)) pa_nil))) (pa_cons (pe_cmpR (op_eqD hu64) (C8.pe_c c_w_played hr (by omega) (by rfl) (pa_cons (pv 0) (pa_cons (C8.pe_c c_time_row hr (by omega) (by rfl) (pa_cons (pv 0) pa_nil)) pa_nil))) (pv 0) (nomark _)) pa_nil)))))
    (pss_cons (ps_set (i := 1) nd rfl (Or.inl rfl) (pe_op op_cat (pv 1) (pe_lst (pa_cons (pe_cmpR op_eq (pe_cmp (pc_isN (C8.pe_c c_letter_row hr (by omega) (by rfl) (pa_cons (pv 0) pa_nil)))) (pe_cmp (pc_notN (C8.pe_c c_crown hr (by omega) (by rfl) (pa_cons (pv 0) pa_nil)))) (nomark _)) (pa_cons (pe_cmpR op_eq (C8.pe_c c_is_one_by_one hr (by omega) (by rfl) (pa_cons (pv 0) pa_nil)) (pe_cmp (pc_isN (C8.pe_c c_crown hr (by omega) (by rfl) (pa_cons (pv 0) pa_nil)))) (nomark _)) pa_nil)))))
    (pss_cons (ps_set (i := 1) nd rfl (Or.inl rfl) (pe_op op_cat (pv 1) (pe_lst (pa_cons (pe_cmpR op_eq (C8.pe_c c_is_causal hr (by omega) (by rfl) (pa_cons (pv 0) pa_nil)) (pe_cmpR (op_eqD hu64) (C8.pe_c c_overtaken hr (by omega) (by rfl) (pa_cons (pv 0) pa_nil)) (pe_lst pa_nil) (nomark _)) (nomark _)) (pa_cons (pe_cmpR op_in_seq (pv 5) (pv 4) (by rfl)) (pa_cons (pe_or (C8.pe_c c_is_causal hr (by omega) (by rfl) (pa_cons (pv 0) pa_nil)) (pe_one (pe_cmpR op_eq (pv 5) pe_str (nomark _)))) pa_nil))))))
    (pss_cons (ps_if (pt_cmp (pc_notN (C8.pe_c c_letter_row hr (by omega) (by rfl) (pa_cons (pv 0) pa_nil)))) (pss_cons (ps_set (i := 6) nd rfl (Or.inl rfl) (pe_lst pa_nil))
    (pss_cons (ps_for PassesOwn.never rfl (pi_tup (C8.pe_c c_letter_row hr (by omega) (by rfl) (pa_cons (pv 0) pa_nil))) (pg_name (i := 3) nd rfl (Or.inl rfl)) (pss_one (ps_set (i := 6) nd rfl (Or.inl rfl) (pe_op op_cat (pv 6) (pe_lst (pa_cons (pe_tup (pa_cons (pv 3) (pa_cons pe_str pa_nil))) (pa_cons (pe_tup (pa_cons (pv 3) (pa_cons pe_str pa_nil))) pa_nil)))))))
    (pss_one (ps_set (i := 1) nd rfl (Or.inl rfl) (pe_op op_cat (pv 1) (pe_lst (pa_cons (C8.pe_c c_is_letter_row hr (by omega) (by rfl) (pa_cons (pv 0) (pa_cons (C8.pe_c c_letter_row hr (by omega) (by rfl) (pa_cons (pv 0) pa_nil)) pa_nil))) (pa_cons (C8.pe_c c_is_time_row hr (by omega) (by rfl) (pa_cons (pv 0) (pa_cons (pe_callTy call_tuple_of (by rfl) T.n_tuple (by decide +kernel) (pa_cons (pv 6) pa_nil)) pa_nil))) (pa_cons (pe_cmpR op_eq (pv 5) pe_str (nomark _)) pa_nil))))))))) (pss_one (ps_set (i := 1) nd rfl (Or.inl rfl) (pe_op op_cat (pv 1) (pe_lst (pa_cons (C8.pe_c c_is_crown hr (by omega) (by rfl) (pa_cons (pv 0) (pa_cons (C8.pe_c c_crown hr (by omega) (by rfl) (pa_cons (pv 0) pa_nil)) pa_nil))) (pa_cons (pe_cmpR op_ne (pv 5) pe_str (nomark _)) pa_nil)))))))
    (pss_cons (ps_for PassesOwn.never rfl (pi_list (C8.pe_c c_overtaken hr (by omega) (by rfl) (pa_cons (pv 0) pa_nil))) (pg_tup rfl (pgs_cons (pg_name (i := 7) nd rfl (Or.inl rfl)) (pgs_cons (pg_name (i := 8) nd rfl (Or.inl rfl)) pgs_nil))) (pss_cons (ps_expr (pe_bm PySem.F.plainAttrs_list PySem.F.slot_list_append PySem.F.type_list_append mt_append (pv 1) (pa_cons (pe_and (pe_cmpR (op_inTD hu65) (pe_tup (pa_cons (pv 8) (pa_cons pe_str pa_nil))) (C8.pe_c c_ends_between hr (by omega) (by rfl) (pa_cons (pv 0) (pa_cons (pv 7) pa_nil))) (by rfl)) (pe_one (pe_cmpR (op_inTD hu65) (pe_tup (pa_cons (pv 8) (pa_cons pe_str pa_nil))) (C8.pe_c c_ends_between hr (by omega) (by rfl) (pa_cons (pv 0) (pa_cons (pv 7) pa_nil))) (by rfl)))) pa_nil)))
    (pss_one (ps_expr (pe_bm PySem.F.plainAttrs_list PySem.F.slot_list_append PySem.F.type_list_append mt_append (pv 1) (pa_cons (C8.pe_c c_is_crown hr (by omega) (by rfl) (pa_cons (pv 0) (pa_cons (pe_tup (pa_cons (pv 7) (pa_cons (pv 8) pa_nil))) pa_nil))) pa_nil))))))
    (pss_cons (ps_set (i := 2) nd rfl (Or.inl rfl) (C8.pe_c c_w_turned hr (by omega) (by rfl) (pa_cons (pv 0) pa_nil)))
    (pss_cons (ps_set (i := 1) nd rfl (Or.inl rfl) (pe_op op_cat (pv 1) (pe_lst (pa_cons (pe_cmpR op_eq (C8.pe_c c_kind_of hr (by omega) (by rfl) (pa_cons (pv 2) pa_nil)) (pv 5) (nomark _)) (pa_cons (C8.pe_c c_is_run hr (by omega) (by rfl) (pa_cons (pv 2) pa_nil)) (pa_cons (pe_cmpR op_eq (pe_callB call_len_seq (by rfl) T.n_len (by decide +kernel) (pa_cons (C8.pe_c c_ends_in hr (by omega) (by rfl) (pa_cons (pv 2) pa_nil)) pa_nil)) (pe_op op_mul pe_int (pe_callB call_len_seq (by rfl) T.n_len (by decide +kernel) (pa_cons (C8.pe_c c_letters_in hr (by omega) (by rfl) (pa_cons (pv 0) pa_nil)) pa_nil))) (nomark _)) pa_nil))))))
    (pss_cons (ps_for PassesOwn.never rfl (pi_tup (C8.pe_c c_letters_in hr (by omega) (by rfl) (pa_cons (pv 0) pa_nil))) (pg_name (i := 3) nd rfl (Or.inl rfl)) (pss_cons (ps_expr (pe_bm PySem.F.plainAttrs_list PySem.F.slot_list_append PySem.F.type_list_append mt_append (pv 1) (pa_cons (C8.pe_c c_ahead hr (by omega) (by rfl) (pa_cons (pv 0) (pa_cons (pe_tup (pa_cons (pv 3) (pa_cons pe_str pa_nil))) (pa_cons (pe_tup (pa_cons (pv 3) (pa_cons pe_str pa_nil))) pa_nil)))) pa_nil)))
    (pss_cons (ps_set (i := 9) nd rfl (Or.inl rfl) (C8.pe_c c_w_less hr (by omega) (by rfl) (pa_cons (pv 0) (pa_cons (pv 3) pa_nil))))
    (pss_one (ps_expr (pe_bm PySem.F.plainAttrs_list PySem.F.slot_list_append PySem.F.type_list_append mt_append (pv 1) (pa_cons (pe_cmpR op_le (pe_bm PySem.F.plainAttrs_list PySem.F.slot_list_index PySem.F.type_list_index mt_index (pv 4) (pa_cons (C8.pe_c c_kind_of hr (by omega) (by rfl) (pa_cons (pv 9) pa_nil)) pa_nil)) (pe_bm PySem.F.plainAttrs_list PySem.F.slot_list_index PySem.F.type_list_index mt_index (pv 4) (pa_cons (pv 5) pa_nil)) (nomark _)) pa_nil)))))))
    (pss_one (ps_ret (pe_callB (cr_all rfl) (by rfl) T.n_all (by decide +kernel) (pa_cons (pe_lc (own := [("_law_own", 10)]) (g := (gName 10)) (tt := tYes) rfl nd (pi_list (pv 1)) (blkOk_by (by rfl)) (fun _ _ _ _ _ => (pg_name (i := 10) nd rfl (Or.inl rfl))) (fun _ _ _ _ _ => pts_nil) (fun _ _ _ _ _ => (pe_cmpR op_is_bl (pv 10) pe_bl (nomark _)))) pa_nil))))))))))))), ?_⟩
  have st0 : Stb (fun H' => RunAt H' v R) := fun _ _ h s => RunAt.mono (Same.ts s) h
  have kle := kind_le R
  -- the kinds
  refine seq_cut' (fun σ H2 => ∃ kl, σ = [some v, none, none, none, some (.ref kl), some (.str (kindT (kindNo R))), none, none, none, none, none] ∧ Same H H2 ∧ H2 kl = some (.lst kindsV)) (fun FF hF => ?_) ?_
  · refine ⟨(show 3 ≤ sizeLine by decide), fun kl nkl => ?_⟩
    have s1 := Same.new (o := .lst kindsV) nkl
    refine ⟨v, rfl, v, R, rfl, RunAt.mono (Same.ts s1) hR, fn, fun H2 s2 => ⟨.ref kl, .str (kindT (kindNo R)), rfl, ?_⟩⟩
    exact hF _ _ ⟨kl, rfl, Same.trans s1 s2, s2 _ _ upd_same⟩
  intro σ H2 hM
  obtain ⟨kl, rfl, s2', hkl2⟩ := hM
  let I : Nat → L2.St → Hp → Prop := fun m σ H' => ∃ g, ∃ x2 x3 x6 x7 x8 x9 x10, σ = [some v, some (.ref g), x2, x3, some (.ref kl), some (.str (kindT (kindNo R))), x6, x7, x8, x9, x10] ∧ Same H H' ∧ H g = none ∧ Got H' g m ∧ H' kl = some (.lst kindsV) ∧ g ≠ kl
  -- got = [..]
  refine seq_cut' (I 3) (fun FF hF => ?_) ?_
  · refine got_new (n := 3) (G := fun H' => RunAt H' v R) s2' (st0 _ _ hR s2') (by decide) (evt_cons st0 (fun H3 Q3 hv q3 => ?_) (evt_cons st0 (fun H3 Q3 hv q3 => ?_) (evt_cons st0 (fun H3 Q3 hv q3 => ?_) evt_nil))) fun g H3 s3 ng s23 ng2 hgot => ?_
    · exact ⟨v, rfl, v, R, rfl, hv, fn, q3⟩
    · exact ⟨v, rfl, v, rfl, v, R, rfl, hv, fn, fun v' es H4 s4 hpm hpw hrow => ⟨v, R, v', es, rfl, st0 _ _ hv s4, fn, hrow, hpm, hpw, fun H5 s5 => q3 H5 (Same.trans s4 s5)⟩⟩
    · exact ⟨v, rfl, v, rfl, v, R, rfl, hv, fn, fun v' es H4 s4 hpm hpw hrow => ⟨v, R, v', es, rfl, st0 _ _ hv s4, fn, hrow, hpm, hpw, fun v2 H5 s5 h2 => ⟨v, rfl, runD R, runD R, runD_dp h2, runD_dp (st0 _ _ hv (Same.trans s4 s5)), sh_run R, sh_run R, by rw [runD_eqv]; exact q3 H5 (Same.trans s4 s5)⟩⟩⟩
    exact hF _ _ ⟨g, _, _, _, _, _, _, _, rfl, s3, ng, hgot, s23 _ _ hkl2, fun e => by rw [e, hkl2] at ng2; cases ng2⟩
  intro σ H3 hI
  obtain ⟨g, x2, x3, x6, x7, x8, x9, x10, rfl, s3, ng, hgot, hkl, hgk⟩ := hI
  have hv3 := st0 _ _ hR s3
  refine seq_cut' (I 5) (fun FF hF => ?_) ?_
  · refine got_cat (n := 2) (G := fun H' => RunAt H' v R) st0 ng rfl s3 hgot (by decide) hv3 (evt_cons st0 (fun H4 Q4 hv q4 => ?_) (evt_cons st0 (fun H4 Q4 hv q4 => ?_) evt_nil)) fun g' H4 s4 ng' s34 ng3 hgot' => hF _ _ ⟨g', _, _, _, _, _, _, _, rfl, s4, ng', hgot', s34 _ _ hkl, fun e => by rw [e, hkl] at ng3; cases ng3⟩
    · refine ⟨v, rfl, v, R, rfl, hv, fn, fun H5 s5 hc => ?_, fun a ns H5 s5 hls hpw ha => ?_⟩
      · refine ⟨v, rfl, v, R, rfl, st0 _ _ hv s5, fn, fun H6 s6 hn => absurd hc hn, fun a ns H6 s6 hcr ha => ⟨rfl, q4 H6 (Same.trans s5 s6)⟩⟩
      · have hnc := not_cyc_of_row fn.ok (fun a ha => (hls.mem a).mpr ha) hpw
        refine ⟨v, rfl, v, R, rfl, st0 _ _ hv s5, fn, fun H6 s6 hn => ⟨rfl, q4 H6 (Same.trans s5 s6)⟩, fun a ns H6 s6 hcr ha => absurd hcr.cyc hnc⟩
    · refine ⟨v, rfl, v, R, rfl, hv, fn, fun b H5 s5 hb => ?_⟩
      refine ⟨v, rfl, v, R, rfl, st0 _ _ hv s5, fn, fun H6 s6 hn => ⟨rfl, ?_⟩, fun a ns H6 s6 hcr ha => ⟨rfl, ?_⟩⟩
      · rw [hb.mpr hn]
        exact q4 H6 (Same.trans s5 s6)
      · have : b = false := by
          cases b
          · rfl
          · exact absurd hcr.cyc (hb.mp rfl)
        rw [this]
        exact q4 H6 (Same.trans s5 s6)
  clear hgot hkl hgk ng s3 hv3
  intro σ H3 hI
  obtain ⟨g, x2, x3, x6, x7, x8, x9, x10, rfl, s3, ng, hgot, hkl, hgk⟩ := hI
  have hv3 := st0 _ _ hR s3
  refine seq_cut' (I 8) (fun FF hF => ?_) ?_
  · have st1 : Stb (fun H' => RunAt H' v R ∧ H' kl = some (.lst kindsV)) := fun _ _ h s => ⟨st0 _ _ h.1 s, s _ _ h.2⟩
    refine got_cat (n := 3) (G := fun H' => RunAt H' v R ∧ H' kl = some (.lst kindsV)) st1 ng rfl s3 hgot (by decide) ⟨hv3, hkl⟩ (evt_cons st1 (fun H4 Q4 hv q4 => ?_) (evt_cons st1 (fun H4 Q4 hv q4 => ?_) (evt_cons st1 (fun H4 Q4 hv q4 => ?_) evt_nil))) fun g' H4 s4 ng' s34 ng3 hgot' => hF _ _ ⟨g', _, _, _, _, _, _, _, rfl, s4, ng', hgot', s34 _ _ hkl, fun e => by rw [e, hkl] at ng3; cases ng3⟩
    · refine ⟨v, rfl, v, R, rfl, hv.1, fn, fun b H5 s5 hb => ?_⟩
      refine ⟨v, rfl, v, R, rfl, st0 _ _ hv.1 s5, fn, fun l ps prs H6 s6 _ hl hps hln hmem => ⟨Nat.zero_le _, fun p np => ?_⟩⟩
      have s7 := Same.new (o := .lst []) np
      refine ⟨_, _, pair_dpl (s7 _ _ hl) (Paired.imp (fun _ _ h => PairAt.mono (Same.ts s7) h) hps), dp_nil upd_same, sh_pairs prs, sh_nil, rfl, ?_⟩
      rw [eqv_nil]
      have e : b = (prs.map pairD).isEmpty := by
        cases hp : prs with
        | nil =>
          refine hb.mpr fun one two ov => ?_
          have := (hmem (one, two)).mpr ov
          rw [hp] at this
          cases this
        | cons p r =>
          have : b = false := by
            cases b
            · rfl
            · exact absurd ((hmem p).mp (by rw [hp]; simp)) (hb.mp rfl _ _)
          rw [this]
          rfl
      rw [← e, decide_eq_true rfl]
      exact q4 _ (Same.trans s5 (Same.trans s6 s7))
    · refine ⟨_, rfl, .ref kl, rfl, kl, kindsV, rfl, .inl (.inl (.inl hv.2)), rfl, rfl, ?_⟩
      have e := kind_in kle
      show Q4 (.bl (inV (.str (kindT (kindNo R))) kindsV)) H4
      rw [e]
      exact q4 _ (Same.rf _)
    · refine ⟨v, rfl, v, R, rfl, hv.1, fn, fun b H5 s5 hb => ⟨b, rfl, ?_⟩⟩
      cases b with
      | true => exact iteT rfl (q4 _ s5)
      | false =>
        refine iteF rfl ⟨_, rfl, rfl, ?_⟩
        have hk : kindNo R = 2 := by
          rcases kind_cases R with h | h | h
          · exact absurd (hb.mpr (causal_of_not_cyc fn.ok h.2)) (by decide)
          · exact absurd (hb.mpr h.2.2) (by decide)
          · exact h.1
        rw [hk]
        exact q4 _ s5
  clear hgot hkl hgk ng s3 hv3
  intro σ H3 hI
  obtain ⟨g, x2, x3, x6, x7, x8, x9, x10, rfl, s3, ng, hgot, hkl, hgk⟩ := hI
  have hv3 := st0 _ _ hR s3
  refine seq_cut' (I 11) (fun FF hF => ?_) ?_
  · refine ifS_cut (fun c H' => Same H3 H' ∧ (c = true → ¬ Cyc R) ∧ (c = false → Cyc R)) (fun GG hG => ?_) (fun H4 hM => ?_) (fun H4 hM => ?_)
    · refine ⟨v, rfl, v, R, rfl, hv3, fn, fun H5 s5 hc => ⟨_, rfl, hG _ _ ⟨s5, fun h => (by simp at h), fun _ => hc⟩⟩, fun a ns H5 s5 hls hpw ha => ⟨_, rfl, hG _ _ ⟨s5, fun _ => not_cyc_of_row fn.ok (fun a ha => (hls.mem a).mpr ha) hpw, fun h => (by simp at h)⟩⟩⟩
    · obtain ⟨s4, hnc, _⟩ := hM
      have hnc := hnc rfl
      have hk0 : kindNo R = 0 := by
        rcases kind_cases R with h | h | h
        · exact h.1
        · exact absurd h.2.1 hnc
        · exact absurd h.2.1 hnc
      have s34 := Same.trans s3 s4
      have hv4 := st0 _ _ hv3 s4
      obtain ⟨gk, hgk1, hgk2⟩ := hgot
      refine ⟨Nat.zero_le _, fun rw0 nrw0 => ?_⟩
      have s5 := Same.new (o := .lst []) nrw0
      refine ⟨v, rfl, v, R, rfl, st0 _ _ hv4 s5, fn, fun H6 s6 hc => absurd hc hnc, fun a ns H6 s6 hls hpw ha => ⟨a, rfl, ⟨_, SqT.of ha⟩, ?_⟩⟩
      have s46 := Same.trans s5 s6
      have hnl := hls.len
      refine L2.for_it (wp_tup (K := K) (a := a) (xs := ns.map V.int)) (fun i σ H' => ∃ x3 rw us, σ = [some v, some (.ref g), x2, x3, some (.ref kl), some (.str (kindT (kindNo R))), some (.ref rw), x7, x8, x9, x10] ∧ Same H6 H' ∧ H' rw = some (.lst us) ∧ Paired (EndAt H') us (both2 (ns.take i))) ⟨_, rw0, [], rfl, Same.rf _, s6 _ _ upd_same, .nil⟩ (fun i σ H' _ h => ?_) (fun i x σ H7 H7' hi h y => ?_) fun σ H7 h => ?_
      · obtain ⟨_, _, _, _, s', _⟩ := h
        exact SqT.of (s' _ _ ha)
      · obtain ⟨x3, rw, us, rfl, s7, hrw, hus⟩ := h
        obtain ⟨s8, hx⟩ := y
        rw [List.getElem?_map] at hx
        obtain ⟨n, hn, rfl⟩ := Option.map_eq_some_iff.mp hx
        have hrw := s8 _ _ hrw
        have hus := ends_mono (Same.ts s8) hus
        have s7 := Same.trans s7 s8
        have hb2 : both2 (ns.take (i + 1)) = both2 (ns.take i) ++ [(n, true), (n, false)] := by
          unfold both2
          rw [List.take_add_one, hn, List.flatMap_append]
          rfl
        have hbl : us.length ≤ 200 := by
          rw [Paired.len hus]
          have h1 := nodup_sub_len (l := both2 (ns.take i)) (m := ends R) (both2_nodup ((List.take_sublist i ns).nodup hls.nd)) (fun e he => by
            have h2 := List.mem_of_mem_take (mem_both2.mp he)
            obtain ⟨l, c⟩ := e
            exact both_of fn.ok ((hls.mem l).mp h2) c)
          have := fn.many
          omega
        refine ⟨.ref rw, rfl, .int n, rfl, two_le, fun p1 np1 => ⟨.int n, rfl, two_le, fun p2 np2 => ⟨two_le, fun p3 np3 => ?_⟩⟩⟩
        have t1 := Same.new (o := .tup [.int n, .str (Str.ofString "s")]) np1
        have t2 := Same.new (o := .tup [.int n, .str (Str.ofString "r")]) np2
        have t3 := Same.new (o := .lst [.ref p1, .ref p2]) np3
        have t23 := Same.trans t2 t3
        have t13 := Same.trans t1 t23
        refine ⟨rw, p3, us, _, rfl, rfl, t13 _ _ hrw, upd_same, Nat.le_trans (show us.length + 2 ≤ 1000 by omega) (by decide), fun p4 np4 => ?_⟩
        have t4 := Same.new (o := .lst (us ++ [.ref p1, .ref p2])) np4
        refine ⟨_, p4, us ++ [.ref p1, .ref p2], rfl, Same.trans s7 (Same.trans t13 t4), upd_same, ?_⟩
        rw [hb2]
        exact Paired.app (ends_mono (Same.ts (Same.trans t13 t4)) hus) (.cons ⟨p1, rfl, t4 _ _ (t23 _ _ upd_same)⟩ (.cons ⟨p2, rfl, t4 _ _ (t3 _ _ upd_same)⟩ .nil))
      · obtain ⟨x3, rw, us, rfl, s7, hrw, hus⟩ := h
        rw [List.length_map, List.take_length] at hus
        have s47 := Same.trans s46 s7
        have st2 : Stb (fun H' => RunAt H' v R ∧ H' rw = some (.lst us) ∧ Paired (EndAt H') us (both2 ns)) := fun _ _ h s => ⟨st0 _ _ h.1 s, s _ _ h.2.1, ends_mono (Same.ts s) h.2.2⟩
        have hbp : (both2 ns).Perm (ends R) := perm_mem (both2_nodup hls.nd) fn.ok.nd fun e => by
          obtain ⟨l, c⟩ := e
          rw [mem_both2]
          exact ⟨fun h => both_of fn.ok ((hls.mem l).mp h) c, fun h => (hls.mem l).mpr (both_of fn.ok h true)⟩
        have hgot7 : Got H7 g 8 := ⟨gk, hgk1, s47 _ _ (s4 _ _ hgk2)⟩
        refine got_cat (n := 3) (G := fun H' => RunAt H' v R ∧ H' rw = some (.lst us) ∧ Paired (EndAt H') us (both2 ns)) st2 ng rfl (Same.trans s34 s47) hgot7 (by decide) ⟨st0 _ _ hv4 s47, hrw, hus⟩ (evt_cons st2 (fun H8 Q8 hv q8 => ?_) (evt_cons st2 (fun H8 Q8 hv q8 => ?_) (evt_cons st2 (fun H8 Q8 hv q8 => ?_) evt_nil))) fun g' H8 s8 ng' s78 ng3 hgot' => hF _ _ ⟨g', _, _, _, _, _, _, _, rfl, s8, ng', hgot', s78 _ _ (s47 _ _ (s4 _ _ hkl)), fun e => by rw [e, s47 _ _ (s4 _ _ hkl)] at ng3; cases ng3⟩
        · refine ⟨v, rfl, v, rfl, v, R, rfl, hv.1, fn, fun H9 s9 hc => absurd hc hnc, fun a' ns' H9 s9 hls' hpw' ha' => ⟨v, R, a', ns', rfl, st0 _ _ hv.1 s9, fn, ha', hls', hpw', fun H10 s10 => q8 H10 (Same.trans s9 s10)⟩⟩
        · refine ⟨v, rfl, .ref rw, rfl, rw, us, rfl, .inl ⟨.inl (.inl hv.2.1), fun t nt => ?_⟩⟩
          have s9 := Same.new (o := .tup us) nt
          exact ⟨v, R, .ref t, both2 ns, rfl, st0 _ _ hv.1 s9, fn, ⟨t, us, rfl, upd_same, ends_mono (Same.ts s9) hv.2.2⟩, hbp, both2_row fn.ok hls.nd hpw, fun H10 s10 => q8 H10 (Same.trans s9 s10)⟩
        · refine ⟨_, rfl, rfl, ?_⟩
          rw [hk0]
          exact q8 _ (Same.rf _)
    · obtain ⟨s4, _, hc⟩ := hM
      have hc := hc rfl
      have s34 := Same.trans s3 s4
      have hv4 := st0 _ _ hv3 s4
      obtain ⟨gk, hgk1, hgk2⟩ := hgot
      refine got_cat (n := 2) (G := fun H' => RunAt H' v R) st0 ng rfl s34 (⟨gk, hgk1, s4 _ _ hgk2⟩ : Got H4 g 8) (by decide) hv4 (evt_cons st0 (fun H8 Q8 hv q8 => ?_) (evt_cons st0 (fun H8 Q8 hv q8 => ?_) evt_nil)) fun g' H8 s8 ng' s48 ng3 ⟨k', hk1, hk2⟩ => hF _ _ ⟨g', _, _, _, _, _, _, _, rfl, s8, ng', ⟨k', by omega, hk2⟩, s48 _ _ (s4 _ _ hkl), fun e => by rw [e, s4 _ _ hkl] at ng3; cases ng3⟩
      · refine ⟨v, rfl, v, rfl, v, R, rfl, hv, fn, fun H9 s9 hn => absurd hc hn, fun a' ns' H9 s9 hcr ha' => ⟨v, R, a', ns', rfl, st0 _ _ hv s9, fn, ha', hcr, fun H10 s10 => q8 H10 (Same.trans s9 s10)⟩⟩
      · refine ⟨_, rfl, rfl, ?_⟩
        have e : (!decide (V.str (kindT (kindNo R)) = V.str (Str.ofString "one by one"))) = true := by
          rcases kind_cases R with h | h | h
          · exact absurd hc h.2
          · rw [h.1]; decide +kernel
          · rw [h.1]; decide +kernel
        rw [e]
        exact q8 _ (Same.rf _)
  clear hgot hkl hgk ng s3 hv3
  intro σ H3 hI
  obtain ⟨g, x2, x3, x6, x7, x8, x9, x10, rfl, s3, ng, hgot, hkl, hgk⟩ := hI
  have hv3 := st0 _ _ hR s3
  refine seq_cut' (I 3300) (fun FF hF => ?_) ?_
  · refine ⟨v, rfl, v, R, rfl, hv3, fn, fun l ps prs H4 s4 nl hl hps hln hmem => ⟨l, rfl, ⟨ps, .inl (.inl hl)⟩, ?_⟩⟩
    obtain ⟨gk, hgk1, hgk2⟩ := hgot
    have hgl : g ≠ l := fun e => by rw [← e, hgk2] at nl; cases nl
    have hpl := Paired.len hps
    refine L2.for_it (wp_list (K := K) (a := l) (xs := ps)) (fun i σ H' => ∃ x7 x8, σ = [some v, some (.ref g), x2, x3, some (.ref kl), some (.str (kindT (kindNo R))), x6, x7, x8, x9, x10] ∧ Same H H' ∧ Got H' g (11 + 2 * i) ∧ H' kl = some (.lst kindsV) ∧ H' l = some (.lst ps) ∧ Paired (PairAt H') ps prs)
      ⟨_, _, rfl, Same.trans s3 s4, ⟨gk, by omega, s4 _ _ hgk2⟩, s4 _ _ hkl, hl, hps⟩ (fun i σ H' _ h => ?_) (fun i x σ H5 H5' hi h y => ?_) fun σ H5 h => ?_
    · obtain ⟨_, _, _, _, _, _, h, _⟩ := h
      exact .inl (.inl h)
    · obtain ⟨x7, x8, rfl, s5, hgot, hkl, hl, hps⟩ := h
      obtain ⟨s6, hx⟩ := y
      have s5 := Same.trans s5 s6
      have hgot : Got H5' g (11 + 2 * i) := let ⟨k, h1, h2⟩ := hgot; ⟨k, h1, s6 _ _ h2⟩
      have hkl := s6 _ _ hkl
      have hl := s6 _ _ hl
      have hps := Paired.imp (fun _ _ h => PairAt.mono (Same.ts s6) h) hps
      obtain ⟨p, hp, b, rfl, hb⟩ := Paired.at hps hx
      have hov := (hmem p).mp (List.mem_of_getElem? hp)
      have hm1 := (hov.2.1.mem fn.ok.both).1
      have hm2 := (hov.2.1.mem fn.ok.both).2
      have r1 : Reach R (p.2, true) (p.1, false) := (sr_reach hm2).trans hov.2.2
      have r2 : Reach R (p.1, true) (p.2, false) := hov.2.1.trans (sr_reach hm2)
      refine ⟨b, _, rfl, SqT.of hb, rfl, .int p.1, [.int p.2], rfl, .int p.2, [], rfl, rfl, ?_⟩
      refine got_app (G := fun H' => RunAt H' v R) ng rfl s5 hgot (by omega) (st0 _ _ hR s5) (fun H8 Q8 hv q8 => ?_) (fun H8 o s8 hg8 sH hgot8 => ?_)
      · have key : ∀ (bb : Bool), Reach R (p.1, true) (p.2, bb) → Reach R (p.2, bb) (p.1, false) → ∀ (es : List En), (∀ e, e ∈ es ↔ Reach R (p.1, true) e ∧ Reach R e (p.1, false)) → ((es.map endD).any fun z => PyData.eqv z (endD (p.2, bb))) = true := fun bb h1 h2 es he => by
          rw [any_end]
          exact decide_eq_true ((he _).mpr ⟨h1, h2⟩)
        refine ⟨.int p.2, rfl, two_le, fun pt npt => ⟨v, rfl, .int p.1, rfl, v, R, p.1, rfl, st0 _ _ hv (Same.new npt), fn, hm1, fun v' es H9 s9 hrow hel he => ⟨endD (p.2, true), _, endD_dp ⟨pt, rfl, s9 _ _ upd_same⟩, rowD_dp hrow, sh_end _, sh_rowT es, _, rfl, iteT (key true hov.2.1 r1 es he) ?_⟩⟩⟩
        have s19 := Same.trans (Same.new (o := .tup [.int p.2, .str (Str.ofString "s")]) npt) s9
        refine ⟨.int p.2, rfl, two_le, fun pt2 npt2 => ⟨v, rfl, .int p.1, rfl, v, R, p.1, rfl, st0 _ _ hv (Same.trans s19 (Same.new npt2)), fn, hm1, fun v2 es2 H10 s10 hrow2 hel2 he2 => ⟨endD (p.2, false), _, endD_dp ⟨pt2, rfl, s10 _ _ upd_same⟩, rowD_dp hrow2, sh_end _, sh_rowT es2, ?_⟩⟩⟩
        rw [key false r2 hov.2.2 es2 he2]
        exact q8 _ (Same.trans s19 (Same.trans (Same.new npt2) s10))
      · have hv8 := st0 _ _ hR sH
        refine got_app (G := fun H' => RunAt H' v R) ng rfl sH hgot8 (by omega) hv8 (fun H9 Q9 hv q9 => ?_) (fun H9 o9 s9 hg9 sH9 hgot9 => ?_)
        · exact ⟨v, rfl, .int p.1, rfl, .int p.2, rfl, two_le, fun pt npt => ⟨v, R, pt, [p.1, p.2], rfl, st0 _ _ hv (Same.new npt), fn, upd_same, hov.crown fn.ok, fun H' s' => q9 H' (Same.trans (Same.new npt) s')⟩⟩
        · have t8 : TSame H5' (L2.upd H8 g o) := TSame.trans (Same.ts s8) (TSame.got hg8)
          have t9 : TSame (L2.upd H8 g o) (L2.upd H9 g o9) := TSame.trans (Same.ts s9) (TSame.got hg9)
          refine ⟨_, _, rfl, sH9, hgot9, ?_, ?_, Paired.imp (fun _ _ h => PairAt.mono (TSame.trans t8 t9) h) hps⟩
          · rw [upd_ne (Ne.symm hgk)]
            refine s9 _ _ ?_
            rw [upd_ne (Ne.symm hgk)]
            exact s8 _ _ hkl
          · rw [upd_ne (Ne.symm hgl)]
            refine s9 _ _ ?_
            rw [upd_ne (Ne.symm hgl)]
            exact s8 _ _ hl
    · obtain ⟨x7, x8, rfl, s5, ⟨k, hk1, hk2⟩, hkl, hl, hps⟩ := h
      exact hF _ _ ⟨g, _, _, _, _, _, _, _, rfl, s5, ng, ⟨k, by omega, hk2⟩, hkl, hgk⟩
  clear hgot hkl hgk ng s3 hv3
  intro σ H3 hI
  obtain ⟨g, x2, x3, x6, x7, x8, x9, x10, rfl, s3, ng, hgot, hkl, hgk⟩ := hI
  have hv3 := st0 _ _ hR s3
  -- turned about
  refine seq_cut' (fun σ H' => ∃ vb, σ = [some v, some (.ref g), some vb, x3, some (.ref kl), some (.str (kindT (kindNo R))), x6, x7, x8, x9, x10] ∧ Same H H' ∧ Got H' g 3300 ∧ H' kl = some (.lst kindsV) ∧ RunAt H' vb (turned R)) (fun FF hF => ?_) ?_
  · obtain ⟨gk, hgk1, hgk2⟩ := hgot
    exact ⟨v, rfl, v, R, rfl, hv3, fn, fun vb H4 s4 hvb => hF _ _ ⟨vb, rfl, Same.trans s3 s4, ⟨gk, hgk1, s4 _ _ hgk2⟩, s4 _ _ hkl, hvb⟩⟩
  clear hgot hkl s3 hv3
  intro σ H3 hI
  obtain ⟨vb, rfl, s3, hgot, hkl, hvb⟩ := hI
  have hv3 := st0 _ _ hR s3
  refine seq_cut' (I 3303) (fun FF hF => ?_) ?_
  · have st2 : Stb (fun H' => RunAt H' v R ∧ RunAt H' vb (turned R)) := fun _ _ h s => ⟨st0 _ _ h.1 s, RunAt.mono (Same.ts s) h.2⟩
    refine got_cat (n := 3) (G := fun H' => RunAt H' v R ∧ RunAt H' vb (turned R)) st2 ng rfl s3 hgot (by decide) ⟨hv3, hvb⟩ (evt_cons st2 (fun H8 Q8 hv q8 => ?_) (evt_cons st2 (fun H8 Q8 hv q8 => ?_) (evt_cons st2 (fun H8 Q8 hv q8 => ?_) evt_nil))) fun g' H8 s8 ng' s38 ng3 hgot' => hF _ _ ⟨g', _, _, _, _, _, _, _, rfl, s8, ng', hgot', s38 _ _ hkl, fun e => by rw [e, hkl] at ng3; cases ng3⟩
    · refine ⟨vb, rfl, vb, turned R, rfl, hv.2, fn.turned, fun H9 s9 => ⟨_, rfl, rfl, ?_⟩⟩
      rw [kind_turned fn.ok, decide_eq_true rfl]
      exact q8 _ s9
    · exact ⟨vb, rfl, vb, turned R, rfl, hv.2, fn.turned, q8⟩
    · refine ⟨vb, rfl, vb, turned R, rfl, hv.2, fn.turned, ?_⟩
      rintro v' es H9 s9 hpm ⟨ea, eus, rfl, hea, hus⟩
      refine ⟨ea, eus, rfl, .inr (SqT.of hea), v, rfl, v, R, rfl, st0 _ _ hv.1 s9, fn, fun a2 ls H10 s10 hls ha2 => ⟨a2, _, rfl, .inr (SqT.of ha2), 2, _, rfl, rfl, .inl (by decide), rfl, ?_⟩⟩
      have e1 : (eus.length : Int) = 2 * ((ls.map V.int).length : Nat) := by
        have h1 : eus.length = es.length := Paired.len hus
        have h2 : es.length = (ends R).length := by rw [hpm.length_eq, (ends_turned_perm R).length_eq, List.length_map]
        have h3 := two_letters fn.ok hls.nd hls.mem
        rw [List.length_map]
        omega
      rw [e1, decide_eq_true rfl]
      exact q8 _ (Same.trans s9 s10)
  clear hgot hkl hgk ng s3 hv3 hvb
  intro σ H3 hI
  obtain ⟨g, x2, x3, x6, x7, x8, x9, x10, rfl, s3, ng, hgot, hkl, hgk⟩ := hI
  have hv3 := st0 _ _ hR s3
  -- letter by letter
  refine seq_cut' (fun σ H' => ∃ x2 x3 x6 x7 x8 x9 x10, σ = [some v, some (.ref g), x2, x3, some (.ref kl), some (.str (kindT (kindNo R))), x6, x7, x8, x9, x10] ∧ Same H H' ∧ Got H' g 4000) (fun FF hF => ?_) ?_
  · refine ⟨v, rfl, v, R, rfl, hv3, fn, fun a ls H4 s4 hls ha => ⟨a, rfl, ⟨_, SqT.of ha⟩, ?_⟩⟩
    obtain ⟨gk, hgk1, hgk2⟩ := hgot
    have hll := hls.len
    refine L2.for_it (wp_tup (K := K) (a := a) (xs := ls.map V.int)) (fun i σ H' => ∃ x3 x9, σ = [some v, some (.ref g), x2, x3, some (.ref kl), some (.str (kindT (kindNo R))), x6, x7, x8, x9, x10] ∧ Same H H' ∧ Got H' g (3303 + 2 * i) ∧ H' kl = some (.lst kindsV) ∧ H' a = some (.tup (ls.map V.int)))
      ⟨_, _, rfl, Same.trans s3 s4, ⟨gk, by omega, s4 _ _ hgk2⟩, s4 _ _ hkl, ha⟩ (fun i σ H' _ h => ?_) (fun i x σ H5 H5' hi h y => ?_) fun σ H5 h => ?_
    · obtain ⟨_, _, _, _, _, _, h⟩ := h
      exact SqT.of h
    · obtain ⟨x3, x9, rfl, s5, hgot, hkl, ha⟩ := h
      obtain ⟨s6, hx⟩ := y
      rw [List.length_map] at hi
      have s5 := Same.trans s5 s6
      have hgot : Got H5' g (3303 + 2 * i) := let ⟨k, h1, h2⟩ := hgot; ⟨k, h1, s6 _ _ h2⟩
      have hkl := s6 _ _ hkl
      have ha := s6 _ _ ha
      rw [List.getElem?_map] at hx
      obtain ⟨n, hn, rfl⟩ := Option.map_eq_some_iff.mp hx
      have hm1 := (hls.mem n).mp (List.mem_of_getElem? hn)
      refine got_app (G := fun H' => RunAt H' v R) ng rfl s5 hgot (by omega) (st0 _ _ hR s5) (fun H8 Q8 hv q8 => ?_) (fun H8 o s8 hg8 sH hgot8 => ?_)
      · refine ⟨v, rfl, .int n, rfl, two_le, fun p1 np1 => ⟨.int n, rfl, two_le, fun p2 np2 => ?_⟩⟩
        have t1 := Same.new (o := .tup [.int n, .str (Str.ofString "s")]) np1
        have t2 := Same.new (o := .tup [.int n, .str (Str.ofString "r")]) np2
        refine ⟨v, R, .ref p1, .ref p2, (n, true), (n, false), rfl, st0 _ _ hv (Same.trans t1 t2), fn, ⟨p1, rfl, t2 _ _ upd_same⟩, ⟨p2, rfl, upd_same⟩, hm1, both_of fn.ok hm1 false, fun H' b s' hb => ?_⟩
        rw [hb.mpr (sr_reach hm1)]
        exact q8 H' (Same.trans t1 (Same.trans t2 s'))
      · have hv8 := st0 _ _ hR sH
        have hkl8 : (L2.upd H8 g o) kl = some (.lst kindsV) := by rw [upd_ne (Ne.symm hgk)]; exact s8 _ _ hkl
        have t8 : TSame H5' (L2.upd H8 g o) := TSame.trans (Same.ts s8) (TSame.got hg8)
        have ha8 := t8 _ _ ha
        generalize (L2.upd H8 g o) = H9 at hv8 hkl8 ha8 hgot8 sH ⊢
        refine ⟨v, rfl, .int n, rfl, v, R, n, rfl, hv8, fn, fun vl H10 s10 hvl => ?_⟩
        obtain ⟨k8, hk1, hk2⟩ := hgot8
        refine got_app (G := fun H' => RunAt H' vl (less R n) ∧ H' kl = some (.lst kindsV)) ng rfl (Same.trans sH s10) (⟨k8, hk1, s10 _ _ hk2⟩ : Got H10 g (3303 + 2 * i + 1)) (by omega) ⟨hvl, s10 _ _ hkl8⟩ (fun H11 Q11 hv q11 => ?_) (fun H11 o11 s11 hg11 sH11 hgot11 => ?_)
        · obtain ⟨z1, hz1, hz2, hz3⟩ := kind_ix (kind_le (less R n))
          obtain ⟨y1, hy1, hy2, hy3⟩ := kind_ix (kind_le R)
          refine ⟨.ref kl, rfl, tyL hv.2, vl, rfl, vl, less R n, rfl, hv.1, fn.less n, fun H12 s12 => ⟨kl, kindsV, _, kindNo (less R n), z1, rfl, rfl, .inl (.inl (s12 _ _ hv.2)), rfl, rfl, hz1, hz2, hz3, .ref kl, rfl, tyL (s12 _ _ hv.2), _, rfl, kl, kindsV, _, kindNo R, y1, rfl, rfl, .inl (.inl (s12 _ _ hv.2)), rfl, rfl, hy1, hy2, hy3, _, _, rfl, rfl, ?_⟩⟩
          have hle := kind_le R
          have hkk : ((kindNo (less R n) : Nat) : Int) ≤ (kindNo R : Nat) := by
            have := kind_less (R := R) n
            omega
          show Q11 (.bl (decide (((kindNo (less R n) : Nat) : Int) ≤ (kindNo R : Nat)))) H12
          rw [decide_eq_true hkk]
          exact q11 _ s12
        · have t11 : TSame H9 (L2.upd H11 g o11) := TSame.trans (Same.ts s10) (TSame.trans (Same.ts s11) (TSame.got hg11))
          refine ⟨_, _, rfl, sH11, hgot11, ?_, t11 _ _ ha8⟩
          rw [upd_ne (Ne.symm hgk)]
          exact s11 _ _ (s10 _ _ hkl8)
    · obtain ⟨x3, x9, rfl, s5, ⟨k, hk1, hk2⟩, hkl, ha⟩ := h
      rw [List.length_map] at hk1
      exact hF _ _ ⟨_, _, _, _, _, _, _, rfl, s5, ⟨k, by omega, hk2⟩⟩
  clear hgot hkl s3 hv3
  intro σ H3 hI
  obtain ⟨x2, x3, x6, x7, x8, x9, x10, rfl, s3, k, hk, hgk3⟩ := hI
  refine ⟨.ref g, rfl, g, rfl, ⟨_, .inl (.inl hgk3)⟩, fun D nD => ?_⟩
  refine lc_bool wp_list (List.replicate k true) (fun _ => true) (by rw [List.length_replicate, List.length_replicate]) (by rw [List.length_replicate]; omega) nD (fun H' s' => .inl (.inl (s' _ _ hgk3))) (fun i x0 x H' K1 hx s' hi q1 => ?_) fun H4 s4 hD => ?_
  · have ex : x = .bl true := (List.mem_replicate.mp (List.mem_of_getElem? hi)).2
    subst ex
    exact ⟨rfl, .bl true, rfl, true, true, rfl, rfl, q1 _ (Same.rf _)⟩
  refine ⟨D, _, rfl, .inl (.inl hD), ?_⟩
  rw [all_map_true (fun _ _ => rfl)]
  exact q _ (Same.trans s3 s4)
end
end BC
namespace BC
open PySem PySem.Spec PyProof.Rows L2 BX
theorem hands_fine : ∀ R ∈ hands, Fine R := by
  intro R h
  simp only [hands, List.mem_cons, List.not_mem_nil, or_false] at h
  rcases h with rfl | rfl | rfl | rfl | rfl
  · exact fine1
  · exact fine2
  · exact fine3
  · exact fine4
  · exact fine5
section
variable {P : Program} {w : World} {K : PySem.W.Frag} {mg : Str → Option Value} {base : Heap} {f : Addr} {fd : FuncData}
theorem sc_w_by_hand_right : FnScope ["_law_own"] [] (defScope s_w_by_hand_right) := ⟨rfl, rfl, rfl, by decide +kernel, rfl, by decide +kernel, by decide +kernel⟩
-- slots: 0:_law_own
def spByHand : Sp := fun vs H Q _ => vs = [] ∧ ∀ H', Same H H' → Q (.bl true) H'
theorem cal_w_by_hand_right (F : FnP K "_law_by_hand_right" s_w_by_hand_right f fd) (hm : mg "_law_by_hand_right" = some (.ref f)) (T : Txt K mg) (c_w_fits : C8.Cal P w K mg base 12 "_law_fits" spFitsL []) (c_w_mails_by_hand : C8.Cal P w K mg base 1 "_law_mails_by_hand" spHands []) : C8.Cal P w K mg base 13 "_law_by_hand_right" spByHand [] := by
  refine cal_of F hm sc_w_by_hand_right (ps := []) (fun kV doc pm an cdv ct us hl => match us, hl with | [], _ => rfl) (fun vs H Q E h => ?_) (fun cdv A outer s H vs Q E hr h => ?_)
  · obtain ⟨rfl, _⟩ := h; rfl
  obtain ⟨rfl, q⟩ := h
  have nd := sc_w_by_hand_right.nd
  have hu1 := Nat.lt_of_le_of_lt (Nat.add_le_add_left (show 1 ≤ 64 by decide) _) hr.units
  have hu64 := hr.units
  have hu65 := room65 hr
  refine ⟨_, (pss_one (ps_ret (pe_callB (cr_all rfl) (by rfl) T.n_all (by decide +kernel) (pa_cons (pe_lc (own := [("_law_own", 0)]) (g := (gName 0)) (tt := tYes) rfl nd (pi_list (pe_c0 c_w_mails_by_hand hr (by omega) (by rfl))) (blkOk_by (by rfl)) (fun _ _ _ _ _ => (pg_name (i := 0) nd rfl (Or.inl rfl))) (fun _ _ _ _ _ => pts_nil) (fun _ _ _ _ _ => (C8.pe_c c_w_fits hr (by omega) (by rfl) (pa_cons (pv 0) pa_nil)))) pa_nil)))), ?_⟩
  refine ⟨rfl, fun p us H1 s1 hp hus => ⟨p, rfl, ⟨us, .inl (.inl hp)⟩, fun D nD => ?_⟩⟩
  have hul : us.length = hands.length := Paired.len hus
  refine lc_bool wp_list hands (fun _ => true) hul (by rw [hul]; decide) nD (fun H' s' => .inl (.inl (s' _ _ hp))) (fun i R x H' K1 hx s' hi q1 => ?_) fun H2 s2 hD => ?_
  · obtain ⟨R', hR', hr'⟩ := Paired.at hus hi
    rw [hx] at hR'
    cases hR'
    exact ⟨rfl, x, rfl, x, R, rfl, RunAt.mono (Same.ts s') hr', hands_fine R (List.mem_of_getElem? hx), fun H3 s3 => q1 H3 s3⟩
  refine ⟨D, _, rfl, .inl (.inl hD), ?_⟩
  rw [all_map_true (fun _ _ => rfl)]
  exact q _ (Same.trans s1 s2)
theorem sc_w_right : FnScope ["_law_box_here", "_law_turn", "_law_run_so", "_law_back_so", "_law_late_so", "_law_one_so", "_law_two_so", "_law_own"] ["_law_box_here"] (defScope s_w_right) := ⟨rfl, rfl, rfl, by decide +kernel, rfl, by decide +kernel, by decide +kernel⟩
-- slots: 0:_law_box_here 1:_law_turn 2:_law_run_so 3:_law_back_so 4:_law_late_so 5:_law_one_so 6:_law_two_so 7:_law_own
def spRight : Sp := fun vs H Q _ => ∃ b : Addr, vs = [.ref b] ∧ Bx H b 10000 ∧ ∀ H', SameX b H H' → Q (.bl true) H'
theorem cal_w_right (F : FnP K "_law_right" s_w_right f fd) (hm : mg "_law_right" = some (.ref f)) (T : Txt K mg) (c_w_mail : C8.Cal P w K mg base 4 "_law_mail" spMail []) (c_w_fits : C8.Cal P w K mg base 12 "_law_fits" spFitsL []) (c_w_of : C8.Cal P w K mg base 2 "_law_of" spOf []) (c_w_ends : C8.Cal P w K mg base 1 "_law_ends" spLawEnds [])
    (c_w_turned : C8.Cal P w K mg base 1 "_law_turned" spTurned []) (c_w_same : C8.Cal P w K mg base 1 "_law_same" spSame []) (c_ahead : C8.Cal P w K mg base 9 "ahead" spAhead []) : C8.Cal P w K mg base 13 "_law_right" spRight [] := by
  refine cal_of F hm sc_w_right (fun kV doc pm an cdv ct us hl => match us, hl with | [_], _ => rfl) (fun vs H Q E h => ?_) (fun cdv A outer s H vs Q E hr h => ?_)
  · obtain ⟨_, rfl, _⟩ := h; rfl
  obtain ⟨b, rfl, bx, q⟩ := h
  have nd := sc_w_right.nd
  have hu1 := Nat.lt_of_le_of_lt (Nat.add_le_add_left (show 1 ≤ 64 by decide) _) hr.units
  have hu64 := hr.units
  have hu65 := room65 hr
  refine ⟨_, (pss_cons (ps_for PassesOwn.never rfl (pi_range1 (by rfl) T.n_range (pa_cons pe_int pa_nil)) (pg_name (i := 1) nd rfl (Or.inl rfl)) (pss_cons (ps_set (i := 2) nd rfl (Or.inl rfl) (C8.pe_c c_w_mail hr (by omega) (by rfl) (pa_cons (pv 0) (pa_cons pe_int pa_nil))))
    (pss_cons (ps_if (pt_not (pt_val (C8.pe_c c_w_fits hr (by omega) (by rfl) (pa_cons (pv 2) pa_nil)))) (pss_one (ps_ret pe_bl)) pss_nil)
    (pss_cons (ps_par (i := 5) (j := 6) rfl nd rfl rfl (by decide) rfl rfl (pa_cons (C8.pe_c c_w_of hr (by omega) (by rfl) (pa_cons (pv 0) (pa_cons (C8.pe_c c_w_ends hr (by omega) (by rfl) (pa_cons (pv 2) pa_nil)) pa_nil))) (pa_cons (C8.pe_c c_w_of hr (by omega) (by rfl) (pa_cons (pv 0) (pa_cons (C8.pe_c c_w_ends hr (by omega) (by rfl) (pa_cons (pv 2) pa_nil)) pa_nil))) pa_nil)) (by rfl))
    (pss_cons (ps_set (i := 3) nd rfl (Or.inl rfl) (C8.pe_c c_w_turned hr (by omega) (by rfl) (pa_cons (pv 2) pa_nil)))
    (pss_cons (ps_setLc (i := 4) (own := [("_law_own", 7)]) (g := (gName 7)) (tt := tYes) rfl nd rfl rfl (sw_true rfl rfl rfl (by decide +kernel)) (pi_tup (pe_tup (pa_cons (pv 5) (pa_cons (pv 6) pa_nil)))) (blkOk_by (by rfl)) (fun _ _ _ _ _ => (pg_name (i := 7) nd rfl (Or.inl rfl))) (fun _ _ _ _ _ => pts_nil) (fun _ _ _ _ _ => (pe_tup (pa_cons (pe_ix (ix_tupK (K := K) rfl) (pv 7) pe_int (fun _ _ => rfl)) (pa_cons (pe_ix ix_str pe_str (pe_callTy call_int1 (by rfl) T.n_int (by decide +kernel) (pa_cons (pe_cmpR op_eq (pe_ix (ix_tupK (K := K) rfl) (pv 7) pe_int (fun _ _ => rfl)) pe_str (nomark _)) pa_nil)) (fun _ _ => rfl)) pa_nil)))))
    (pss_one (ps_if (pt_not (pt_val (C8.pe_c c_w_same hr (by omega) (by rfl) (pa_cons (C8.pe_c c_ahead hr (by omega) (by rfl) (pa_cons (pv 2) (pa_cons (pv 5) (pa_cons (pv 6) pa_nil)))) (pa_cons (C8.pe_c c_ahead hr (by omega) (by rfl) (pa_cons (pv 3) (pa_cons (pe_ix ix_list (pv 4) pe_int (fun _ _ => rfl)) (pa_cons (pe_ix ix_list (pv 4) pe_int (fun _ _ => rfl)) pa_nil)))) pa_nil))))) (pss_one (ps_ret pe_bl)) pss_nil))))))))
    (pss_one (ps_ret pe_bl))), ?_⟩
  refine ⟨5, rfl, by decide, by decide, ?_⟩
  refine L2.for_it (wp_range (n := ((5 : Int)).toNat)) (fun i σ H' => ∃ x1 x2 x3 x4 x5 x6 x7, σ = [some (.ref b), x1, x2, x3, x4, x5, x6, x7] ∧ SameX b H H' ∧ Bx H' b (10000 - 1000 * i)) ⟨_, _, _, _, _, _, _, rfl, SameX.rf _ _, bx⟩ (fun _ _ _ _ _ => trivial) (fun i x σ H1 H1' hi h y => ?_) fun σ H1 h => ?_
  · obtain ⟨x1, x2, x3, x4, x5, x6, x7, rfl, s1, bx1⟩ := h
    obtain ⟨s2, rfl⟩ := y
    have hi5 : i < 5 := hi
    have s1 := SameX.trans s1 (Same.x s2)
    have bx1 := bx1.same s2
    obtain ⟨m, hm1, hm2⟩ : ∃ m, 10000 - 1000 * i = m + 1000 ∧ 10000 - 1000 * (i + 1) = m := ⟨10000 - 1000 * (i + 1), by omega, rfl⟩
    rw [hm1] at bx1
    refine ⟨.ref b, rfl, b, m + 500, rfl, bx1, fun v R H3 s3 bx3 hR fn hne => ?_⟩
    have s13 := SameX.trans s1 s3
    refine ⟨v, rfl, v, R, rfl, hR, fn, fun H4 s4 => ⟨true, rfl, iteF rfl ?_⟩⟩
    have hR4 := RunAt.mono (Same.ts s4) hR
    have bx4 := bx3.same s4
    have s14 := SameX.trans s13 (Same.x s4)
    have hmany := fn.many
    -- two ends
    refine ⟨.ref b, rfl, v, rfl, v, R, rfl, hR4, fn, fun p us H5 s5 np hp hus => ?_⟩
    have hul := Paired.len hus
    have bx5 := bx4.same s5
    refine ⟨b, p, us, m + 499, rfl, bx5, hp, fun e => hne (by rw [e] at hul; exact List.length_eq_zero_iff.mp hul.symm), by omega, bx4.ne np, fun v1 H6 s6 bx6 hv1 => ?_⟩
    obtain ⟨e1, he1, hE1⟩ := Paired.mem hus hv1
    have t6 := bx5.ts s6
    have hE1 := EndAt.mono t6 hE1
    have hR6 := RunAt.mono (TSame.trans (Same.ts s5) t6) hR4
    refine ⟨.ref b, rfl, v, rfl, v, R, rfl, hR6, fn, fun p2 us2 H7 s7 np2 hp2 hus2 => ?_⟩
    have hul2 := Paired.len hus2
    have bx7 := bx6.same s7
    refine ⟨b, p2, us2, m + 498, rfl, bx7, hp2, fun e => hne (by rw [e] at hul2; exact List.length_eq_zero_iff.mp hul2.symm), by omega, bx6.ne np2, fun v2 H8 s8 bx8 hv2 => ⟨v1, v2, rfl, ?_⟩⟩
    obtain ⟨e2, he2, hE2⟩ := Paired.mem hus2 hv2
    have t8 := bx7.ts s8
    have hE2 := EndAt.mono t8 hE2
    have t68 := TSame.trans (Same.ts s7) t8
    have hE1 := EndAt.mono t68 hE1
    have hR8 := RunAt.mono t68 hR6
    have s18 := SameX.trans s14 (SameX.trans (Same.x s5) (SameX.trans s6 (SameX.trans (Same.x s7) s8)))
    -- turned about
    refine ⟨v, rfl, v, R, rfl, hR8, fn, fun vb H9 s9 hvb => ?_⟩
    have hE1 := EndAt.mono (Same.ts s9) hE1
    have hE2 := EndAt.mono (Same.ts s9) hE2
    refine ⟨v1, rfl, v2, rfl, two_le, fun pt npt => ⟨pt, rfl, ⟨_, SqT.of upd_same⟩, fun D nD => ?_⟩⟩
    have s10 := Same.new (o := .tup [v1, v2]) npt
    have hpt : (L2.upd H9 pt (.tup [v1, v2])) pt = some (.tup [v1, v2]) := upd_same
    generalize (L2.upd H9 pt (.tup [v1, v2])) = H10 at s10 hpt nD ⊢
    have hpp : Paired (EndAt H10) [v1, v2] [e1, e2] := .cons (EndAt.mono (Same.ts s10) hE1) (.cons (EndAt.mono (Same.ts s10) hE2) .nil)
    refine lc_map (n := 2) (wp_tup (K := K) (a := pt) (xs := [v1, v2])) [e1, e2] flip (fun H v e => EndAt H v e) (fun _ _ _ _ t h => EndAt.mono t h) rfl (by decide) nD (fun H' s' => SqT.of (s' _ _ hpt)) (fun j e x H11 K2 he s11 hj q2 => ?_) fun H11 acc s11 hD hacc => ?_
    · obtain ⟨e', he', z, rfl, hz⟩ := Paired.at hpp hj
      rw [he] at he'
      cases he'
      have hz3 := s11 _ _ hz
      refine ⟨rfl, .ref z, rfl, z, eV e, 0, _, rfl, rfl, SqT.of hz3, atI_nat (j := 0) rfl, .ref z, rfl, z, eV e, 1, _, rfl, rfl, SqT.of hz3, atI_nat (j := 1) rfl, rfl, .inr ⟨_, rfl, Str.ofString "sr", _, if e.2 = true then 114 else 115, rfl, rfl, (show 2 ≤ sizeLine from two_le), ?_, two_le, fun p np => q2 _ _ (Same.new np) ⟨p, rfl, ?_⟩⟩⟩
      · obtain ⟨l, bb⟩ := e
        cases bb
        · exact atI_nat (j := 0) (show (Str.ofString "sr").cps.toList[0]? = some 115 by decide +kernel)
        · exact atI_nat (j := 1) (show (Str.ofString "sr").cps.toList[1]? = some 114 by decide +kernel)
      · rw [upd_same]
        obtain ⟨l, bb⟩ := e
        cases bb <;> rfl
    match acc, hacc with
    | [w1, w2], .cons hw1 (.cons hw2 .nil) =>
    have s811 := Same.trans s9 (Same.trans s10 s11)
    refine ⟨v, rfl, v1, rfl, v2, rfl, v, R, v1, v2, e1, e2, rfl, RunAt.mono (Same.ts s811) hR8, fn, EndAt.mono (Same.ts (Same.trans s10 s11)) hE1, EndAt.mono (Same.ts (Same.trans s10 s11)) hE2, he1, he2, fun H12 b1 s12 hb1 => ?_⟩
    have hD12 := s12 _ _ hD
    refine ⟨vb, rfl, .ref D, rfl, D, _, 1, _, rfl, rfl, .inl (.inl hD12), atI_nat (j := 1) rfl, .ref D, rfl, D, _, 0, _, rfl, rfl, .inl (.inl hD12), atI_nat (j := 0) rfl, vb, turned R, w2, w1, flip e2, flip e1, rfl, RunAt.mono (Same.ts (Same.trans s10 (Same.trans s11 s12))) hvb, fn.turned, EndAt.mono (Same.ts s12) hw2, EndAt.mono (Same.ts s12) hw1, mem_turned.mpr (by rw [flip_flip]; exact he2), mem_turned.mpr (by rw [flip_flip]; exact he1), fun H13 b2 s13' hb2 => ?_⟩
    have ebb : b1 = b2 := by
      rw [reach_turned fn.ok.both, flip_flip, flip_flip] at hb2
      exact Bool.eq_iff_iff.mpr (hb1.trans hb2.symm)
    subst ebb
    refine ⟨b1, rfl, fun H14 s14' => ⟨true, rfl, iteF rfl ?_⟩⟩
    have sl := Same.trans s811 (Same.trans s12 (Same.trans s13' s14'))
    exact ⟨_, _, _, _, _, _, _, rfl, SameX.trans s18 (Same.x sl), (bx8.same sl).le (by omega)⟩
  · obtain ⟨_, _, _, _, _, _, _, rfl, s1, _⟩ := h
    exact q H1 s1
theorem sc_law : FnScope ["_law_script", "_law_cells_here", "_law_k"] ["_law_script"] (defScope s_law) := ⟨rfl, rfl, rfl, by decide +kernel, rfl, by decide +kernel, by decide +kernel⟩
-- slots: 0:_law_script 1:_law_cells_here 2:_law_k
def spLaw : Sp := fun vs H Q _ => ∃ (a : Addr) (ns : List Int), vs = [.ref a] ∧ SqL K H a (ns.map V.int) ∧ ns.length ≤ 63 ∧ ∀ H', Q (.bl true) H'
/-- as cal_of, for a def that is called from outside -/
theorem ok_of {x : Str} {st : Stmt} {N ps : List Str} {k : Nat} {sp : Sp} (F : FnP K x st f fd) (S : FnScope N ps (defScope st)) (len : ∀ vs H Q E, sp vs H Q E → vs.length = ps.length)
    (hbody : ∀ (cdv : Value) (A : Around) (outer : List Env) (s : Shared) (H : Hp) (vs : List V) (Q : VK) (E : XK), Room k (A.deeper (envOfC x (defScope st) s.heap.objs.size f cdv)) → sp vs H Q E →
      ∃ t, PSs (cxOf CX0 P w K mg base N x (defScope st) f cdv A outer s H E).nox (defBody st) t ∧ t { nx := fun _ H' => Q .non H', rt := Q } (start N vs) H) : FnOk P w K mg base CX0 (k + 1) f fd ps sp := by
  refine F.ok S len fun cdv A outer s H vs Q E hr h => ?_
  obtain ⟨t, h1, h2⟩ := hbody cdv A outer s H vs Q E hr h
  exact ⟨t, h1.nox, h2⟩
theorem ok_law (F : FnP K "law" s_law f fd) (T : Txt K mg) (c_w_by_hand_right : C8.Cal P w K mg base 13 "_law_by_hand_right" spByHand []) (c_w_cells : C8.Cal P w K mg base 1 "_law_cells" (spCells (K := K)) []) (c_w_box : C8.Cal P w K mg base 1 "_law_box" spBox []) (c_w_right : C8.Cal P w K mg base 13 "_law_right" spRight []) : FnOk P w K mg base CX0 14 f fd ["_law_script"] (spLaw (K := K)) := by
  refine ok_of F sc_law (fun vs H Q E h => ?_) (fun cdv A outer s H vs Q E hr h => ?_)
  · obtain ⟨_, _, rfl, _⟩ := h; rfl
  obtain ⟨a, ns, rfl, ha, hl, q⟩ := h
  have nd := sc_law.nd
  have hu1 := Nat.lt_of_le_of_lt (Nat.add_le_add_left (show 1 ≤ 64 by decide) _) hr.units
  have hu64 := hr.units
  have hu65 := room65 hr
  refine ⟨_, (pss_cons (ps_if (pt_not (pt_val (pe_c0 c_w_by_hand_right hr (by omega) (by rfl)))) (pss_one (ps_ret pe_bl)) pss_nil)
    (pss_cons (ps_set (i := 1) nd rfl (Or.inr rfl) (C8.pe_c c_w_cells hr (by omega) (by rfl) (pa_cons (pv 0) (pa_cons pe_int pa_nil))))
    (pss_one (ps_ret (pe_callB (cr_all rfl) (by rfl) T.n_all (by decide +kernel) (pa_cons (pe_lc (own := [("_law_k", 2)]) (g := (gName 2)) (tt := tYes) rfl nd (pi_range1 (by rfl) T.n_range (pa_cons (pe_callB call_len_seq (by rfl) T.n_len (by decide +kernel) (pa_cons (pv 1) pa_nil)) pa_nil)) (blkOk_by (by rfl)) (fun _ _ _ _ _ => (pg_name (i := 2) nd rfl (Or.inl rfl))) (fun _ _ _ _ _ => pts_nil) (fun _ _ _ _ _ => (C8.pe_c c_w_right hr (by omega) (by rfl) (pa_cons (C8.pe_c c_w_box hr (by omega) (by rfl) (pa_cons (pv 1) (pa_cons (pv 2) pa_nil))) pa_nil)))) pa_nil)))))), ?_⟩
  refine ⟨rfl, fun H1 s1 => ⟨true, rfl, iteF rfl ?_⟩⟩
  refine ⟨.ref a, rfl, a, ns, rfl, s1.seq ha, hl, fun c cs H2 s2 hc hcl => ?_⟩
  refine ⟨.ref c, rfl, c, _, rfl, .inl (.inl (.inl hc)), ((cs.map V.int).length : Nat), rfl, by rw [List.length_map]; omega, by rw [List.length_map]; omega, fun D nD => ?_⟩
  rw [List.length_map]
  refine lc_bool (wp_range (n := ((cs.length : Nat) : Int).toNat)) (List.replicate cs.length true) (fun _ => true) (by rw [List.length_replicate]; omega) (by omega) nD (fun _ _ => trivial) (fun i x0 x H' K1 hx s' hi q1 => ?_) fun H3 s3 hD => ?_
  · subst hi
    have hil : i < cs.length := by
      have := (List.getElem?_eq_some_iff.mp hx).1
      rwa [List.length_replicate] at this
    refine ⟨rfl, .ref c, rfl, .int (i : Nat), rfl, c, cs, i, rfl, s' _ _ hc, hil, by omega, fun p H4 s4 np bx => ⟨p, rfl, bx, fun H5 s5 => q1 H5 fun y o e => ?_⟩⟩
    refine s5 y o (fun h => ?_) (s4 _ _ e)
    rw [h, np] at e
    cases e
  refine ⟨D, _, rfl, .inl (.inl hD), ?_⟩
  rw [all_map_true (fun _ _ => rfl)]
  exact q _
end
end BC
/-! The head: facts by names, the run. -/
namespace BC
open PySem PySem.Spec PyProof.Rows L2
/-! the Hook: as the layer's own by defs and facts, with one more Bool -/
def obsY (ex : PySem.W.Frag → Bool) (fa : List He.Fa) (fn : List He.DefD) (K : PySem.W.Frag) : Bool × He.AlD := (ex K, He.obsD fa fn K)
def hookY (n : Nat) (ex : PySem.W.Frag → Bool) (fa : List He.Fa) (fn : List He.DefD) : PySem.W.Hook where
  α := Bool × He.AlD
  obs := fun s => obsY ex fa fn (He.frG s.heap.get? (He.asD s.heap.get? n))
  val := fun _ => (true, He.valD fn)
  says := fun _ h => ∃ K : PySem.W.Frag, K.In h ∧ ex K = true ∧ He.SaysD fa fn K
  of := fun _ _ e => ⟨_, He.frG_in, congrArg (fun z : Bool × He.AlD => z.1) e, congrArg (fun z : Bool × He.AlD => z.2) e⟩
  keeps := fun _ _ _ ⟨K, hK, c⟩ k => ⟨K, PySem.W.Frag.In.keeps hK k, c⟩
def d_is_number : He.DefD := ⟨("is_number", none), "is_number", "is_number", defArgs s_is_number, defBody s_is_number, defScope s_is_number, [], []⟩
def d_tupled : He.DefD := ⟨("tupled", none), "tupled", "tupled", defArgs s_tupled, defBody s_tupled, defScope s_tupled, [], []⟩
def d_is_end : He.DefD := ⟨("is_end", none), "is_end", "is_end", defArgs s_is_end, defBody s_is_end, defScope s_is_end, [], []⟩
def d_houses_of : He.DefD := ⟨("houses_of", none), "houses_of", "houses_of", defArgs s_houses_of, defBody s_houses_of, defScope s_houses_of, [], []⟩
def d_next_ends : He.DefD := ⟨("next_ends", none), "next_ends", "next_ends", defArgs s_next_ends, defBody s_next_ends, defScope s_next_ends, [], []⟩
def d_behind_all : He.DefD := ⟨("behind_all", none), "behind_all", "behind_all", defArgs s_behind_all, defBody s_behind_all, defScope s_behind_all, [], []⟩
def d_is_run : He.DefD := ⟨("is_run", none), "is_run", "is_run", defArgs s_is_run, defBody s_is_run, defScope s_is_run, [], []⟩
def d_ends_in : He.DefD := ⟨("ends_in", none), "ends_in", "ends_in", defArgs s_ends_in, defBody s_ends_in, defScope s_ends_in, [], []⟩
def d_letters_in : He.DefD := ⟨("letters_in", none), "letters_in", "letters_in", defArgs s_letters_in, defBody s_letters_in, defScope s_letters_in, [], []⟩
def d_check_letters : He.DefD := ⟨("check_letters", none), "check_letters", "check_letters", defArgs s_check_letters, defBody s_check_letters, defScope s_check_letters, [], []⟩
def d_house_of : He.DefD := ⟨("house_of", none), "house_of", "house_of", defArgs s_house_of, defBody s_house_of, defScope s_house_of, [], []⟩
def d_ahead : He.DefD := ⟨("ahead", none), "ahead", "ahead", defArgs s_ahead, defBody s_ahead, defScope s_ahead, [], []⟩
def d_ends_between : He.DefD := ⟨("ends_between", none), "ends_between", "ends_between", defArgs s_ends_between, defBody s_ends_between, defScope s_ends_between, [], []⟩
def d_least_row : He.DefD := ⟨("least_row", none), "least_row", "least_row", defArgs s_least_row, defBody s_least_row, defScope s_least_row, [], []⟩
def d_fits_row : He.DefD := ⟨("fits_row", none), "fits_row", "fits_row", defArgs s_fits_row, defBody s_fits_row, defScope s_fits_row, [], []⟩
def d_time_row : He.DefD := ⟨("time_row", none), "time_row", "time_row", defArgs s_time_row, defBody s_time_row, defScope s_time_row, [], []⟩
def d_is_time_row : He.DefD := ⟨("is_time_row", none), "is_time_row", "is_time_row", defArgs s_is_time_row, defBody s_is_time_row, defScope s_is_time_row, [], []⟩
def d_overtaken : He.DefD := ⟨("overtaken", none), "overtaken", "overtaken", defArgs s_overtaken, defBody s_overtaken, defScope s_overtaken, [], []⟩
def d_is_causal : He.DefD := ⟨("is_causal", none), "is_causal", "is_causal", defArgs s_is_causal, defBody s_is_causal, defScope s_is_causal, [], []⟩
def d_links_of : He.DefD := ⟨("links_of", none), "links_of", "links_of", defArgs s_links_of, defBody s_links_of, defScope s_links_of, [], []⟩
def d_letter_row : He.DefD := ⟨("letter_row", none), "letter_row", "letter_row", defArgs s_letter_row, defBody s_letter_row, defScope s_letter_row, [], []⟩
def d_is_letter_row : He.DefD := ⟨("is_letter_row", none), "is_letter_row", "is_letter_row", defArgs s_is_letter_row, defBody s_is_letter_row, defScope s_is_letter_row, [], []⟩
def d_is_one_by_one : He.DefD := ⟨("is_one_by_one", none), "is_one_by_one", "is_one_by_one", defArgs s_is_one_by_one, defBody s_is_one_by_one, defScope s_is_one_by_one, [], []⟩
def d_kind_of : He.DefD := ⟨("kind_of", none), "kind_of", "kind_of", defArgs s_kind_of, defBody s_kind_of, defScope s_kind_of, [], []⟩
def d_steps_to : He.DefD := ⟨("steps_to", none), "steps_to", "steps_to", defArgs s_steps_to, defBody s_steps_to, defScope s_steps_to, [], []⟩
def d_crown : He.DefD := ⟨("crown", none), "crown", "crown", defArgs s_crown, defBody s_crown, defScope s_crown, [], []⟩
def d_is_crown : He.DefD := ⟨("is_crown", none), "is_crown", "is_crown", defArgs s_is_crown, defBody s_is_crown, defScope s_is_crown, [], []⟩
def d_w_box : He.DefD := ⟨("_law_box", none), "_law_box", "_law_box", defArgs s_w_box, defBody s_w_box, defScope s_w_box, [], []⟩
def d_w_take : He.DefD := ⟨("_law_take", none), "_law_take", "_law_take", defArgs s_w_take, defBody s_w_take, defScope s_w_take, [], []⟩
def d_w_cells : He.DefD := ⟨("_law_cells", none), "_law_cells", "_law_cells", defArgs s_w_cells, defBody s_w_cells, defScope s_w_cells, [], []⟩
def d_w_of : He.DefD := ⟨("_law_of", none), "_law_of", "_law_of", defArgs s_w_of, defBody s_w_of, defScope s_w_of, [], []⟩
def d_w_same : He.DefD := ⟨("_law_same", none), "_law_same", "_law_same", defArgs s_w_same, defBody s_w_same, defScope s_w_same, [], []⟩
def d_w_mixed : He.DefD := ⟨("_law_mixed", none), "_law_mixed", "_law_mixed", defArgs s_w_mixed, defBody s_w_mixed, defScope s_w_mixed, [], []⟩
def d_w_run_of : He.DefD := ⟨("_law_run_of", none), "_law_run_of", "_law_run_of", defArgs s_w_run_of, defBody s_w_run_of, defScope s_w_run_of, [], []⟩
def d_w_ends : He.DefD := ⟨("_law_ends", none), "_law_ends", "_law_ends", defArgs s_w_ends, defBody s_w_ends, defScope s_w_ends, [], []⟩
def d_w_mail : He.DefD := ⟨("_law_mail", none), "_law_mail", "_law_mail", defArgs s_w_mail, defBody s_w_mail, defScope s_w_mail, [], []⟩
def d_w_mails_by_hand : He.DefD := ⟨("_law_mails_by_hand", none), "_law_mails_by_hand", "_law_mails_by_hand", defArgs s_w_mails_by_hand, defBody s_w_mails_by_hand, defScope s_w_mails_by_hand, [], []⟩
def d_w_turned : He.DefD := ⟨("_law_turned", none), "_law_turned", "_law_turned", defArgs s_w_turned, defBody s_w_turned, defScope s_w_turned, [], []⟩
def d_w_less : He.DefD := ⟨("_law_less", none), "_law_less", "_law_less", defArgs s_w_less, defBody s_w_less, defScope s_w_less, [], []⟩
def d_w_played : He.DefD := ⟨("_law_played", none), "_law_played", "_law_played", defArgs s_w_played, defBody s_w_played, defScope s_w_played, [], []⟩
def d_w_fits : He.DefD := ⟨("_law_fits", none), "_law_fits", "_law_fits", defArgs s_w_fits, defBody s_w_fits, defScope s_w_fits, [], []⟩
def d_w_by_hand_right : He.DefD := ⟨("_law_by_hand_right", none), "_law_by_hand_right", "_law_by_hand_right", defArgs s_w_by_hand_right, defBody s_w_by_hand_right, defScope s_w_by_hand_right, [], []⟩
def d_w_right : He.DefD := ⟨("_law_right", none), "_law_right", "_law_right", defArgs s_w_right, defBody s_w_right, defScope s_w_right, [], []⟩
def d_law : He.DefD := ⟨("law", none), "law", "law", defArgs s_law, defBody s_law, defScope s_law, [], []⟩
def fn : List He.DefD := [d_is_number, d_tupled, d_is_end, d_houses_of, d_next_ends, d_behind_all, d_is_run, d_ends_in, d_letters_in, d_check_letters, d_house_of, d_ahead, d_ends_between, d_least_row, d_fits_row, d_time_row, d_is_time_row, d_overtaken, d_is_causal, d_links_of, d_letter_row, d_is_letter_row, d_is_one_by_one, d_kind_of, d_steps_to, d_crown, d_is_crown, d_w_box, d_w_take, d_w_cells, d_w_of, d_w_same, d_w_mixed, d_w_run_of, d_w_ends, d_w_mail, d_w_mails_by_hand, d_w_turned, d_w_less, d_w_played, d_w_fits, d_w_by_hand_right, d_w_right, d_law]
def fa0 : List He.Fa := [.glo "is_number", .glo "tupled", .glo "is_end", .glo "houses_of", .glo "next_ends", .glo "behind_all", .glo "is_run", .glo "ends_in", .glo "letters_in", .glo "check_letters", .glo "house_of", .glo "ahead", .glo "ends_between", .glo "least_row", .glo "fits_row", .glo "time_row", .glo "is_time_row", .glo "overtaken", .glo "is_causal", .glo "links_of", .glo "letter_row", .glo "is_letter_row", .glo "is_one_by_one", .glo "kind_of", .glo "steps_to", .glo "crown", .glo "is_crown", .glo "_law_box", .glo "_law_take", .glo "_law_cells"]
def fa1 : List He.Fa := [.glo "_law_of", .glo "_law_same", .glo "_law_mixed", .glo "_law_run_of", .glo "_law_ends", .glo "_law_mail", .glo "_law_mails_by_hand", .glo "_law_turned", .glo "_law_less", .glo "_law_played", .glo "_law_fits", .glo "_law_by_hand_right", .glo "_law_right", .glo "law", .glo "ENDS", .int "PAIR" 2, .free "len", .free "isinstance", .free "int", .free "bool", .free "tuple", .free "list", .free "all", .free "any", .free "enumerate", .free "zip", .free "sorted", .free "set", .free "min", .free "range"]
def fa2 : List He.Fa := [.free "abs", .free "str"]
def fa : List He.Fa := fa0 ++ fa1 ++ fa2
def lo0 : List Str := ["__name__", "NoLetter", "is_number", "tupled", "PAIR", "ENDS", "is_end", "houses_of", "next_ends", "behind_all", "is_run", "ends_in", "letters_in", "check_letters", "house_of", "ahead", "ends_between", "least_row", "fits_row", "time_row", "is_time_row", "overtaken", "is_causal", "links_of", "letter_row", "is_letter_row", "is_one_by_one", "kind_of", "steps_to", "crown"]
def lo1 : List Str := ["is_crown", "_law_box", "_law_take", "_law_cells", "_law_of", "_law_same", "_law_mixed", "_law_run_of", "_law_ends", "_law_mail", "_law_mails_by_hand", "_law_turned", "_law_less", "_law_played", "_law_fits", "_law_by_hand_right", "_law_right"]
def lo : List Str := lo0 ++ lo1
def exT (K : PySem.W.Frag) : Bool := He.tupB K "ENDS" [.str "r", .str "s"]
abbrev R : PySem.W.OpenRow := PySem.W.OpenLaw.row PySem.Challenge.rw_barredcrossings_k63_whole_runs
abbrev hk : PySem.W.Hook := hookY 4 exT fa fn
def ob (s : PySem.W.SharedT) : Bool × He.AlD := obsY exT fa fn (He.frG (HandSHeadRun.getT s) (He.asD (HandSHeadRun.getT s) 4))
theorem ob_eq (s : PySem.W.SharedT) : ob s = hk.obs s.abs := by
  have e : HandSHeadRun.getT s = s.abs.heap.get? := funext (HandSHeadRun.getT_eq s)
  unfold ob
  rw [e] <;> rfl
theorem run (w : World) : HandSHeadRun.RunEq R (PySem.W.view R.prog [50]) hk ob 3000 lo w := by
  intro os
  kernel_rfl
end BC
namespace BC
open PySem PySem.Spec PyProof.Rows L2 BX
theorem facts {P : Program} {w : World} {K : PySem.W.Frag} {h : Heap} {mg : Str → Option Value} {f : Addr} (X : K.In h) (G : h.Ns mainGlobals mg) (hfa : mg ("law" : Str) = some (.ref f)) (hx : exT K = true) (c : He.SaysD fa fn K) :
    ∃ fd : FuncData, (∀ (s : Shared) (v : Value), BindsTo s fd ⟨[v], []⟩ [("_law_script", v)]) ∧ ∀ base : Heap, K.In base → base.Ns mainGlobals mg → FnOk P w K mg base CX0 14 f fd ["_law_script"] (spLaw (K := K)) := by
  obtain ⟨fd_is_number, F_is_number⟩ := c.def_ 0 (d := d_is_number) rfl
  have m_is_number := He.glo_ok X G (c.fact 0 (f := .glo "is_number") rfl)
  obtain ⟨fd_tupled, F_tupled⟩ := c.def_ 1 (d := d_tupled) rfl
  have m_tupled := He.glo_ok X G (c.fact 1 (f := .glo "tupled") rfl)
  obtain ⟨fd_is_end, F_is_end⟩ := c.def_ 2 (d := d_is_end) rfl
  have m_is_end := He.glo_ok X G (c.fact 2 (f := .glo "is_end") rfl)
  obtain ⟨fd_houses_of, F_houses_of⟩ := c.def_ 3 (d := d_houses_of) rfl
  have m_houses_of := He.glo_ok X G (c.fact 3 (f := .glo "houses_of") rfl)
  obtain ⟨fd_next_ends, F_next_ends⟩ := c.def_ 4 (d := d_next_ends) rfl
  have m_next_ends := He.glo_ok X G (c.fact 4 (f := .glo "next_ends") rfl)
  obtain ⟨fd_behind_all, F_behind_all⟩ := c.def_ 5 (d := d_behind_all) rfl
  have m_behind_all := He.glo_ok X G (c.fact 5 (f := .glo "behind_all") rfl)
  obtain ⟨fd_is_run, F_is_run⟩ := c.def_ 6 (d := d_is_run) rfl
  have m_is_run := He.glo_ok X G (c.fact 6 (f := .glo "is_run") rfl)
  obtain ⟨fd_ends_in, F_ends_in⟩ := c.def_ 7 (d := d_ends_in) rfl
  have m_ends_in := He.glo_ok X G (c.fact 7 (f := .glo "ends_in") rfl)
  obtain ⟨fd_letters_in, F_letters_in⟩ := c.def_ 8 (d := d_letters_in) rfl
  have m_letters_in := He.glo_ok X G (c.fact 8 (f := .glo "letters_in") rfl)
  obtain ⟨fd_check_letters, F_check_letters⟩ := c.def_ 9 (d := d_check_letters) rfl
  have m_check_letters := He.glo_ok X G (c.fact 9 (f := .glo "check_letters") rfl)
  obtain ⟨fd_house_of, F_house_of⟩ := c.def_ 10 (d := d_house_of) rfl
  have m_house_of := He.glo_ok X G (c.fact 10 (f := .glo "house_of") rfl)
  obtain ⟨fd_ahead, F_ahead⟩ := c.def_ 11 (d := d_ahead) rfl
  have m_ahead := He.glo_ok X G (c.fact 11 (f := .glo "ahead") rfl)
  obtain ⟨fd_ends_between, F_ends_between⟩ := c.def_ 12 (d := d_ends_between) rfl
  have m_ends_between := He.glo_ok X G (c.fact 12 (f := .glo "ends_between") rfl)
  obtain ⟨fd_least_row, F_least_row⟩ := c.def_ 13 (d := d_least_row) rfl
  have m_least_row := He.glo_ok X G (c.fact 13 (f := .glo "least_row") rfl)
  obtain ⟨fd_fits_row, F_fits_row⟩ := c.def_ 14 (d := d_fits_row) rfl
  have m_fits_row := He.glo_ok X G (c.fact 14 (f := .glo "fits_row") rfl)
  obtain ⟨fd_time_row, F_time_row⟩ := c.def_ 15 (d := d_time_row) rfl
  have m_time_row := He.glo_ok X G (c.fact 15 (f := .glo "time_row") rfl)
  obtain ⟨fd_is_time_row, F_is_time_row⟩ := c.def_ 16 (d := d_is_time_row) rfl
  have m_is_time_row := He.glo_ok X G (c.fact 16 (f := .glo "is_time_row") rfl)
  obtain ⟨fd_overtaken, F_overtaken⟩ := c.def_ 17 (d := d_overtaken) rfl
  have m_overtaken := He.glo_ok X G (c.fact 17 (f := .glo "overtaken") rfl)
  obtain ⟨fd_is_causal, F_is_causal⟩ := c.def_ 18 (d := d_is_causal) rfl
  have m_is_causal := He.glo_ok X G (c.fact 18 (f := .glo "is_causal") rfl)
  obtain ⟨fd_links_of, F_links_of⟩ := c.def_ 19 (d := d_links_of) rfl
  have m_links_of := He.glo_ok X G (c.fact 19 (f := .glo "links_of") rfl)
  obtain ⟨fd_letter_row, F_letter_row⟩ := c.def_ 20 (d := d_letter_row) rfl
  have m_letter_row := He.glo_ok X G (c.fact 20 (f := .glo "letter_row") rfl)
  obtain ⟨fd_is_letter_row, F_is_letter_row⟩ := c.def_ 21 (d := d_is_letter_row) rfl
  have m_is_letter_row := He.glo_ok X G (c.fact 21 (f := .glo "is_letter_row") rfl)
  obtain ⟨fd_is_one_by_one, F_is_one_by_one⟩ := c.def_ 22 (d := d_is_one_by_one) rfl
  have m_is_one_by_one := He.glo_ok X G (c.fact 22 (f := .glo "is_one_by_one") rfl)
  obtain ⟨fd_kind_of, F_kind_of⟩ := c.def_ 23 (d := d_kind_of) rfl
  have m_kind_of := He.glo_ok X G (c.fact 23 (f := .glo "kind_of") rfl)
  obtain ⟨fd_steps_to, F_steps_to⟩ := c.def_ 24 (d := d_steps_to) rfl
  have m_steps_to := He.glo_ok X G (c.fact 24 (f := .glo "steps_to") rfl)
  obtain ⟨fd_crown, F_crown⟩ := c.def_ 25 (d := d_crown) rfl
  have m_crown := He.glo_ok X G (c.fact 25 (f := .glo "crown") rfl)
  obtain ⟨fd_is_crown, F_is_crown⟩ := c.def_ 26 (d := d_is_crown) rfl
  have m_is_crown := He.glo_ok X G (c.fact 26 (f := .glo "is_crown") rfl)
  obtain ⟨fd_w_box, F_w_box⟩ := c.def_ 27 (d := d_w_box) rfl
  have m_w_box := He.glo_ok X G (c.fact 27 (f := .glo "_law_box") rfl)
  obtain ⟨fd_w_take, F_w_take⟩ := c.def_ 28 (d := d_w_take) rfl
  have m_w_take := He.glo_ok X G (c.fact 28 (f := .glo "_law_take") rfl)
  obtain ⟨fd_w_cells, F_w_cells⟩ := c.def_ 29 (d := d_w_cells) rfl
  have m_w_cells := He.glo_ok X G (c.fact 29 (f := .glo "_law_cells") rfl)
  obtain ⟨fd_w_of, F_w_of⟩ := c.def_ 30 (d := d_w_of) rfl
  have m_w_of := He.glo_ok X G (c.fact 30 (f := .glo "_law_of") rfl)
  obtain ⟨fd_w_same, F_w_same⟩ := c.def_ 31 (d := d_w_same) rfl
  have m_w_same := He.glo_ok X G (c.fact 31 (f := .glo "_law_same") rfl)
  obtain ⟨fd_w_mixed, F_w_mixed⟩ := c.def_ 32 (d := d_w_mixed) rfl
  have m_w_mixed := He.glo_ok X G (c.fact 32 (f := .glo "_law_mixed") rfl)
  obtain ⟨fd_w_run_of, F_w_run_of⟩ := c.def_ 33 (d := d_w_run_of) rfl
  have m_w_run_of := He.glo_ok X G (c.fact 33 (f := .glo "_law_run_of") rfl)
  obtain ⟨fd_w_ends, F_w_ends⟩ := c.def_ 34 (d := d_w_ends) rfl
  have m_w_ends := He.glo_ok X G (c.fact 34 (f := .glo "_law_ends") rfl)
  obtain ⟨fd_w_mail, F_w_mail⟩ := c.def_ 35 (d := d_w_mail) rfl
  have m_w_mail := He.glo_ok X G (c.fact 35 (f := .glo "_law_mail") rfl)
  obtain ⟨fd_w_mails_by_hand, F_w_mails_by_hand⟩ := c.def_ 36 (d := d_w_mails_by_hand) rfl
  have m_w_mails_by_hand := He.glo_ok X G (c.fact 36 (f := .glo "_law_mails_by_hand") rfl)
  obtain ⟨fd_w_turned, F_w_turned⟩ := c.def_ 37 (d := d_w_turned) rfl
  have m_w_turned := He.glo_ok X G (c.fact 37 (f := .glo "_law_turned") rfl)
  obtain ⟨fd_w_less, F_w_less⟩ := c.def_ 38 (d := d_w_less) rfl
  have m_w_less := He.glo_ok X G (c.fact 38 (f := .glo "_law_less") rfl)
  obtain ⟨fd_w_played, F_w_played⟩ := c.def_ 39 (d := d_w_played) rfl
  have m_w_played := He.glo_ok X G (c.fact 39 (f := .glo "_law_played") rfl)
  obtain ⟨fd_w_fits, F_w_fits⟩ := c.def_ 40 (d := d_w_fits) rfl
  have m_w_fits := He.glo_ok X G (c.fact 40 (f := .glo "_law_fits") rfl)
  obtain ⟨fd_w_by_hand_right, F_w_by_hand_right⟩ := c.def_ 41 (d := d_w_by_hand_right) rfl
  have m_w_by_hand_right := He.glo_ok X G (c.fact 41 (f := .glo "_law_by_hand_right") rfl)
  obtain ⟨fd_w_right, F_w_right⟩ := c.def_ 42 (d := d_w_right) rfl
  have m_w_right := He.glo_ok X G (c.fact 42 (f := .glo "_law_right") rfl)
  obtain ⟨fd_law, F_law⟩ := c.def_ 43 (d := d_law) rfl
  have m_law := He.glo_ok X G (c.fact 43 (f := .glo "law") rfl)
  have T : Txt K mg := {
    n_len := He.free_ok X G (c.fact 46 (f := .free "len") rfl)
    n_isinstance := He.free_ok X G (c.fact 47 (f := .free "isinstance") rfl)
    n_int := He.free_ok X G (c.fact 48 (f := .free "int") rfl)
    n_bool := He.free_ok X G (c.fact 49 (f := .free "bool") rfl)
    n_tuple := He.free_ok X G (c.fact 50 (f := .free "tuple") rfl)
    n_list := He.free_ok X G (c.fact 51 (f := .free "list") rfl)
    n_all := He.free_ok X G (c.fact 52 (f := .free "all") rfl)
    n_any := He.free_ok X G (c.fact 53 (f := .free "any") rfl)
    n_enumerate := He.free_ok X G (c.fact 54 (f := .free "enumerate") rfl)
    n_zip := He.free_ok X G (c.fact 55 (f := .free "zip") rfl)
    n_sorted := He.free_ok X G (c.fact 56 (f := .free "sorted") rfl)
    n_set := He.free_ok X G (c.fact 57 (f := .free "set") rfl)
    n_min := He.free_ok X G (c.fact 58 (f := .free "min") rfl)
    n_range := He.free_ok X G (c.fact 59 (f := .free "range") rfl)
    n_abs := He.free_ok X G (c.fact 60 (f := .free "abs") rfl)
    n_str := He.free_ok X G (c.fact 61 (f := .free "str") rfl)
    pair := (He.int_ok X G (c.fact 45 (f := .int "PAIR" 2) rfl)).elim fun t e => ⟨_, e, ⟨t, rfl⟩⟩
    ends := ⟨_, He.glo_ok X G (c.fact 44 (f := .glo "ENDS") rfl), rfl⟩
    endsT := fun H => He.tupB_ok hx H }
  have e := hfa.symm.trans m_law
  cases e
  have b := FunD.bindsA (ps := ["_law_script"]) F_law fun _ _ _ _ _ _ us hl => match us, hl with | [_], _ => rfl
  refine ⟨fd_law, fun s v => b s [v] rfl, fun base _ _ => ?_⟩
  have c_is_number : C8.Cal P w K mg base 1 "is_number" (spNum) [] := cal_is_number F_is_number m_is_number T
  have tf : C8.Cal P w K mg base 0 "tupled" (fun _ _ _ _ => False) [] := FnP.fal (st := s_tupled) F_tupled m_tupled (ps := ["thing"]) (fun kV doc pm an cdv ct us hl => match us, hl with | [_], _ => rfl)
  have c_tupR : cTupR P w K mg base := cal_tupR F_tupled m_tupled T tf
  have c_tupE : cTupE P w K mg base := cal_tupE F_tupled m_tupled T tf
  have c_is_end : C8.Cal P w K mg base 2 "is_end" (spIsEnd) [] := cal_is_end F_is_end m_is_end T c_is_number
  have c_houses_of : C8.Cal P w K mg base 5 "houses_of" (spHouses) [] := cal_houses_of F_houses_of m_houses_of T c_tupR
  have c_next_ends : C8.Cal P w K mg base 6 "next_ends" (spNext) [] := cal_next_ends F_next_ends m_next_ends T c_tupR c_houses_of
  have c_behind_all : C8.Cal P w K mg base 7 "behind_all" (spBehind) [] := cal_behind_all F_behind_all m_behind_all T c_next_ends
  have c_is_run : C8.Cal P w K mg base 8 "is_run" (spIsRun) [] := cal_is_run F_is_run m_is_run T c_is_end c_houses_of c_behind_all
  have c_ends_in : C8.Cal P w K mg base 6 "ends_in" (spEndsIn) [] := cal_ends_in F_ends_in m_ends_in T c_houses_of
  have c_letters_in : C8.Cal P w K mg base 7 "letters_in" (spLetters) [] := cal_letters_in F_letters_in m_letters_in T c_ends_in
  have c_check_letters : C8.Cal P w K mg base 8 "check_letters" (spCheck) [] := cal_check_letters F_check_letters m_check_letters T c_letters_in
  have c_house_of : C8.Cal P w K mg base 9 "house_of" (spHouseOf) [] := cal_house_of F_house_of m_house_of T c_houses_of c_check_letters
  have c_ahead : C8.Cal P w K mg base 9 "ahead" (spAhead) [] := cal_ahead F_ahead m_ahead T c_tupE c_behind_all c_check_letters
  have c_ends_between : C8.Cal P w K mg base 9 "ends_between" (spBetween) [] := cal_ends_between F_ends_between m_ends_between T c_behind_all c_check_letters
  have c_leastE : C8.Cal P w K mg base 1 "least_row" (spLeast (kEnd K)) [] := cal_least_row (kEnd K) F_least_row m_least_row T
  have c_leastI : C8.Cal P w K mg base 1 "least_row" (spLeast (kInt K)) [] := cal_least_row (kInt K) F_least_row m_least_row T
  have c_fitsE : C8.Cal P w K mg base 1 "fits_row" (spFits (kEnd K)) [] := cal_fits_row (kEnd K) F_fits_row m_fits_row T
  have c_fitsI : C8.Cal P w K mg base 1 "fits_row" (spFits (kInt K)) [] := cal_fits_row (kInt K) F_fits_row m_fits_row T
  have c_time_row : C8.Cal P w K mg base 8 "time_row" (spTimeRow) [] := cal_time_row F_time_row m_time_row T c_behind_all c_leastE
  have c_is_time_row : C8.Cal P w K mg base 8 "is_time_row" (spIsTimeRow) [] := cal_is_time_row F_is_time_row m_is_time_row T c_is_end c_ends_in c_behind_all c_fitsE
  have c_overtaken : C8.Cal P w K mg base 8 "overtaken" (spOver) [] := cal_overtaken F_overtaken m_overtaken T c_houses_of c_behind_all c_letters_in
  have c_is_causal : C8.Cal P w K mg base 9 "is_causal" (spCausal) [] := cal_is_causal F_is_causal m_is_causal T c_overtaken
  have c_links_of : C8.Cal P w K mg base 8 "links_of" (spLinks) [] := cal_links_of F_links_of m_links_of T c_behind_all c_letters_in
  have c_letter_row : C8.Cal P w K mg base 9 "letter_row" (spLetterRow) [] := cal_letter_row F_letter_row m_letter_row T c_links_of c_leastI
  have c_is_letter_row : C8.Cal P w K mg base 9 "is_letter_row" (spIsLetterRow) [] := cal_is_letter_row F_is_letter_row m_is_letter_row T c_is_number c_letters_in c_links_of c_fitsI
  have c_is_one_by_one : C8.Cal P w K mg base 10 "is_one_by_one" (spOneByOne) [] := cal_is_one_by_one F_is_one_by_one m_is_one_by_one T c_letter_row
  have c_kind_of : C8.Cal P w K mg base 11 "kind_of" (spKind) [] := cal_kind_of F_kind_of m_kind_of T c_is_one_by_one c_is_causal
  have c_steps_to : C8.Cal P w K mg base 1 "steps_to" (spSteps) [] := cal_steps_to F_steps_to m_steps_to T 
  have c_crown : C8.Cal P w K mg base 9 "crown" (spCrown) [] := cal_crown F_crown m_crown T c_links_of c_steps_to
  have c_is_crown : C8.Cal P w K mg base 9 "is_crown" (spIsCrown) [] := cal_is_crown F_is_crown m_is_crown T c_is_number c_links_of
  have c_w_box : C8.Cal P w K mg base 1 "_law_box" (spBox) [] := cal_w_box F_w_box m_w_box T 
  have c_w_take : C8.Cal P w K mg base 1 "_law_take" (spTake) [] := cal_w_take F_w_take m_w_take T 
  have c_w_cells : C8.Cal P w K mg base 1 "_law_cells" (spCells (K := K)) [] := cal_w_cells F_w_cells m_w_cells T 
  have c_w_of : C8.Cal P w K mg base 2 "_law_of" (spOf) [] := cal_w_of F_w_of m_w_of T (kk := 0) c_w_take
  have sf : C8.Cal P w K mg base 0 "_law_same" (fun _ _ _ _ => False) [] := FnP.fal (st := s_w_same) F_w_same m_w_same (ps := ["_law_got", "_law_due_so"]) (fun kV doc pm an cdv ct us hl => match us, hl with | [_, _], _ => rfl)
  have c_w_same : C8.Cal P w K mg base 1 "_law_same" (spSame) [] := cal_w_same F_w_same m_w_same T sf
  have c_w_mixed : C8.Cal P w K mg base 2 "_law_mixed" (spMixed) [] := cal_w_mixed F_w_mixed m_w_mixed T (kk := 0) c_w_take
  have c_w_run_of : C8.Cal P w K mg base 3 "_law_run_of" (spRunOf) [] := cal_w_run_of F_w_run_of m_w_run_of T c_w_take c_w_mixed
  have c_w_ends : C8.Cal P w K mg base 1 "_law_ends" (spLawEnds) [] := cal_w_ends F_w_ends m_w_ends T 
  have c_w_mail : C8.Cal P w K mg base 4 "_law_mail" (spMail) [] := cal_w_mail F_w_mail m_w_mail T c_w_take c_w_mixed c_w_run_of
  have c_w_mails_by_hand : C8.Cal P w K mg base 1 "_law_mails_by_hand" (spHands) [] := cal_w_mails_by_hand F_w_mails_by_hand m_w_mails_by_hand T 
  have c_w_turned : C8.Cal P w K mg base 1 "_law_turned" (spTurned) [] := cal_w_turned F_w_turned m_w_turned T 
  have c_w_less : C8.Cal P w K mg base 1 "_law_less" (spLess) [] := cal_w_less F_w_less m_w_less T 
  have c_w_played : C8.Cal P w K mg base 10 "_law_played" (spPlayed) [] := cal_w_played F_w_played m_w_played T c_house_of
  have c_w_fits : C8.Cal P w K mg base 12 "_law_fits" (spFitsL) [] := cal_w_fits F_w_fits m_w_fits T ⟨c_is_run, c_time_row, c_is_time_row, c_w_played, c_letter_row, c_crown, c_is_one_by_one, c_is_causal, c_overtaken, c_kind_of, c_is_letter_row, c_is_crown, c_ends_between, c_w_turned, c_ends_in, c_letters_in, c_ahead, c_w_less⟩
  have c_w_by_hand_right : C8.Cal P w K mg base 13 "_law_by_hand_right" (spByHand) [] := cal_w_by_hand_right F_w_by_hand_right m_w_by_hand_right T c_w_fits c_w_mails_by_hand
  have c_w_right : C8.Cal P w K mg base 13 "_law_right" (spRight) [] := cal_w_right F_w_right m_w_right T c_w_mail c_w_fits c_w_of c_w_ends c_w_turned c_w_same c_ahead
  exact ok_law F_law T c_w_by_hand_right c_w_cells c_w_box c_w_right
end BC
open PySem PySem.W PySem.Calls PyProof.Rows
theorem PySem.Challenge.cw_barredcrossings_k63_whole_runs_holds : PySem.Challenge.rw_barredcrossings_k63_whole_runs.Holds := by
  w_on; o_law
  refine HandSHeadRun.head_any (r := OpenLaw.row PySem.Challenge.rw_barredcrossings_k63_whole_runs) (q := view (OpenLaw.row PySem.Challenge.rw_barredcrossings_k63_whole_runs).prog [50]) (H := BC.hk) (ob := BC.ob) (M := 3000) (loose := BC.lo) (d := HandSHeadRun.topDef (OpenLaw.row PySem.Challenge.rw_barredcrossings_k63_whole_runs).prog 50) (kwd := []) BC.ob_eq
    (by kernel_rfl) (fun s => by kernel_rfl) BC.run (by kernel_rfl) (by kernel_rfl) (by kernel_rfl) (by rfl) (by first | assumption | decide +kernel) (by decide +kernel) ⟨rfl, rfl, rfl, rfl, rfl, by decide +kernel⟩ ?hw ?hc
  case hw => w_witness2
  case hc =>
    refine L2.walk_ofE (l := PySem.Challenge.rw_barredcrossings_k63_whole_runs) (n := 63) (k := 14) (x := "_law_script") (CX := L2.CX0) rfl (by decide) (by kernel_rfl) ⟨rfl, by decide, by decide⟩ ?F (fun _ _ _ _ z => z)
    intro w mg fa h Y G hmg0
    obtain ⟨K, KX, hx, c⟩ := Y
    have hmg : mg ("law" : PySem.Str) = some (.ref fa) := by
      have e : (HandSHeadRun.topDef (OpenLaw.row PySem.Challenge.rw_barredcrossings_k63_whole_runs).prog 50).name = ("law" : PySem.Str) := by kernel_rfl
      rw [← e]
      exact hmg0
    obtain ⟨fd, hb, hF⟩ := BC.facts (P := (PySem.Challenge.rw_barredcrossings_k63_whole_runs).prog) (w := w) KX G hmg hx c
    exact ⟨K, fd, BC.spLaw (K := K), KX, hb, fun H a ns hl _ hS => ⟨a, ns, rfl, hS, hl, fun _ => rfl⟩, hF⟩
