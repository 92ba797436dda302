import PyProof.Rows.All
import Wide.All
import OpenK.AllK
import Wide.FinOn
import KE.KStateDown
import HandS.Base
import HandS.Call
import HandS.Ends
import HandS.More
import HandS.Words
import HandS.WordsExc
import HandS.Defaults
import HandS.Head0
import HandS.Head1
import HandS.Head2
import HandS.HeadEnd
import HandS.HeadHook1
import HandS.HeadHook2
import PySem.Challenge.RW_norowstray_k96_whole_syntheses
import HandS.ForMost
import HandS.Evl
import HandS.Walk
import HandS.Conv
import HandS.Deep
import HandS.Zip
import HandS.TupAny
import HandS.TupMul
import HandS.NoneIn
import HandS.SortInts
import HandS.TupLe
import KE.GoesZip
import KE.GoesMore
import HandS.DictComp
import HandS.SetKeys
import PyProof.DictMoreH
import KE.SortData
import KE.KDictSum
import HandS.TupSets
import HandS.IsInst
import HandS.SetFor
import HandS.Strs
import KE.SortKeyHeap
import HandS.SortKw
/-! NsMath: functional dependencies in plain Lean: closure, models, covers, lossless joins. No program in sight. -/
set_option linter.all false
namespace NS

structure Dep where
  l : List Nat
  r : List Nat
  deriving DecidableEq

abbrev Book := List Dep

/-- what X settles -/
inductive Cl (B : Book) (X : List Nat) : Nat → Prop
  | base {c : Nat} : c ∈ X → Cl B X c
  | step {d : Dep} {c : Nat} : d ∈ B → (∀ x ∈ d.l, Cl B X x) → c ∈ d.r → Cl B X c

theorem Cl.mono {B : Book} {X Y : List Nat} {c : Nat} (h : Cl B X c) (s : ∀ x ∈ X, x ∈ Y) : Cl B Y c := by
  induction h with
  | base h => exact .base (s _ h)
  | step d _ c ih => exact .step d ih c

theorem Cl.trans {B : Book} {X Y : List Nat} {c : Nat} (h : Cl B Y c) (s : ∀ x ∈ Y, Cl B X x) : Cl B X c := by
  induction h with
  | base h => exact s _ h
  | step d _ c ih => exact .step d ih c

/-- every dependency of B follows from B' -/
def Imp (B' B : Book) : Prop := ∀ d ∈ B, ∀ c ∈ d.r, Cl B' d.l c

theorem Cl.imp {B B' : Book} {X : List Nat} {c : Nat} (i : Imp B' B) (h : Cl B X c) : Cl B' X c := by
  induction h with
  | base h => exact .base h
  | step hd _ hc ih => exact (i _ hd _ hc).trans ih

theorem Imp.refl (B : Book) : Imp B B := fun d hd c hc => .step hd (fun x hx => .base hx) hc
theorem Imp.trans {A B C : Book} (h : Imp A B) (k : Imp B C) : Imp A C := fun d hd c hc => (k d hd c hc).imp h

/-- a set of rows (as functions) keeps the book -/
def Keeps {α : Type} (T : (Nat → α) → Prop) (B : Book) : Prop :=
  ∀ d ∈ B, ∀ f g, T f → T g → (∀ x ∈ d.l, f x = g x) → ∀ c ∈ d.r, f c = g c

theorem Keeps.cl {α : Type} {T : (Nat → α) → Prop} {B : Book} (k : Keeps T B) {X : List Nat} {c : Nat} (h : Cl B X c) {f g : Nat → α} (hf : T f) (hg : T g) (e : ∀ x ∈ X, f x = g x) : f c = g c := by
  induction h with
  | base h => exact e _ h
  | step hd _ hc ih => exact k _ hd f g hf hg ih _ hc

theorem Keeps.imp {α : Type} {T : (Nat → α) → Prop} {B B' : Book} (k : Keeps T B) (i : Imp B B') : Keeps T B' :=
  fun d hd f g hf hg e c hc => k.cl (i d hd c hc) hf hg e

open Classical in
/-- the two rows that tell what X settles -/
noncomputable def chi (B : Book) (X : List Nat) : Nat → Bool := fun c => decide (Cl B X c)
def one : Nat → Bool := fun _ => true
open Classical in
theorem chi_true {B : Book} {X : List Nat} {c : Nat} : chi B X c = true ↔ Cl B X c := by
  unfold chi
  exact decide_eq_true_iff
theorem keeps_chi (B : Book) (X : List Nat) : Keeps (fun f => f = one ∨ f = chi B X) B := by
  intro d hd f g hf hg e c hc
  have key : (∀ x ∈ d.l, chi B X x = true) → chi B X c = true := fun h => chi_true.mpr (.step hd (fun x hx => chi_true.mp (h x hx)) hc)
  rcases hf with rfl | rfl <;> rcases hg with rfl | rfl
  · rfl
  · exact (key fun x hx => (e x hx).symm).symm
  · exact key fun x hx => e x hx
  · rfl

/-! ### covers -/
open Classical in
/-- X to Y follows from B -/
noncomputable def fol (B : Book) (X Y : List Nat) : Bool := decide (∀ c ∈ Y, Cl B X c)
open Classical in
theorem fol_true {B : Book} {X Y : List Nat} : fol B X Y = true ↔ ∀ c ∈ Y, Cl B X c := by
  unfold fol
  exact decide_eq_true_iff

def single (B : Book) : Book := B.flatMap fun d => (d.r.filter fun c => !d.l.contains c).map fun c => ⟨d.l, [c]⟩
theorem mem_single {B : Book} {e : Dep} : e ∈ single B ↔ ∃ d ∈ B, ∃ c ∈ d.r, c ∉ d.l ∧ e = ⟨d.l, [c]⟩ := by
  unfold single
  rw [List.mem_flatMap]
  constructor
  · rintro ⟨d, hd, h⟩
    obtain ⟨c, hc, e⟩ := List.mem_map.mp h
    obtain ⟨h1, h2⟩ := List.mem_filter.mp hc
    exact ⟨d, hd, c, h1, by simpa using h2, e.symm⟩
  · rintro ⟨d, hd, c, h1, h2, e⟩
    exact ⟨d, hd, List.mem_map.mpr ⟨c, List.mem_filter.mpr ⟨h1, by simpa using h2⟩, e.symm⟩⟩
theorem imp_single (B : Book) : Imp (single B) B := by
  intro d hd c hc
  by_cases h : c ∈ d.l
  · exact .base h
  · exact .step (mem_single.mpr ⟨d, hd, c, hc, h, rfl⟩) (fun x hx => .base hx) (List.mem_singleton.mpr rfl)
theorem imp_single' (B : Book) : Imp B (single B) := by
  intro e he c hc
  obtain ⟨d, hd, c', hc', _, rfl⟩ := mem_single.mp he
  rw [List.mem_singleton.mp hc]
  exact .step hd (fun x hx => .base hx) hc'

/-- the left without the columns, one after the other, that can be left out -/
noncomputable def lessL (B : Book) (r : List Nat) : List Nat → List Nat → List Nat
  | [], cur => cur
  | c :: cs, cur => lessL B r cs (if fol B (cur.filter fun x => x != c) r then cur.filter fun x => x != c else cur)
noncomputable def lessened (B : Book) (d : Dep) : Dep := ⟨lessL B d.r d.l d.l, d.r⟩
theorem lessL_sub (B : Book) (r : List Nat) : ∀ (cs cur : List Nat), ∀ x ∈ lessL B r cs cur, x ∈ cur
  | [], _, _, h => h
  | c :: cs, cur, x, h => by
    unfold lessL at h
    have h' := lessL_sub B r cs _ x h
    by_cases e : fol B (cur.filter fun x => x != c) r = true
    · rw [if_pos e] at h'
      exact (List.mem_filter.mp h').1
    · rw [if_neg e] at h'
      exact h'
theorem lessL_sublist (B : Book) (r : List Nat) : ∀ (cs cur : List Nat), (lessL B r cs cur).Sublist cur
  | [], cur => List.Sublist.refl cur
  | c :: cs, cur => by
    unfold lessL
    refine (lessL_sublist B r cs _).trans ?_
    by_cases e : fol B (cur.filter fun x => x != c) r = true
    · rw [if_pos e]
      exact List.filter_sublist
    · rw [if_neg e]
      exact List.Sublist.refl cur
theorem lessL_fol (B : Book) (r : List Nat) : ∀ (cs cur : List Nat), fol B cur r = true → fol B (lessL B r cs cur) r = true
  | [], _, h => h
  | c :: cs, cur, h => by
    unfold lessL
    refine lessL_fol B r cs _ ?_
    by_cases e : fol B (cur.filter fun x => x != c) r = true
    · rw [if_pos e]
      exact e
    · rw [if_neg e]
      exact h

/-- pre ++ rest without, one after the other, those of rest that follow from the others -/
noncomputable def minim (pre : Book) : Book → Book
  | [] => pre
  | d :: ds => if fol (pre ++ ds) d.l d.r then minim pre ds else minim (pre ++ [d]) ds
noncomputable def cover (B : Book) : Book := minim [] ((single B).map (lessened B))

theorem minim_mem : ∀ (rest pre : Book) (e : Dep), e ∈ minim pre rest → e ∈ pre ++ rest
  | [], pre, e, h => by simpa [minim] using h
  | d :: ds, pre, e, h => by
    unfold minim at h
    by_cases q : fol (pre ++ ds) d.l d.r = true
    · rw [if_pos q] at h
      have := minim_mem ds pre e h
      simp only [List.mem_append, List.mem_cons] at this ⊢
      rcases this with h | h
      · exact .inl h
      · exact .inr (.inr h)
    · rw [if_neg q] at h
      have := minim_mem ds (pre ++ [d]) e h
      simpa using this
theorem minim_imp : ∀ (rest pre : Book), Imp (minim pre rest) (pre ++ rest)
  | [], pre => by
    rw [List.append_nil]
    exact Imp.refl _
  | d :: ds, pre => by
    unfold minim
    by_cases q : fol (pre ++ ds) d.l d.r = true
    · rw [if_pos q]
      refine (minim_imp ds pre).trans ?_
      intro e he c hc
      rcases List.mem_append.mp he with h | h
      · exact .step (List.mem_append_left _ h) (fun x hx => .base hx) hc
      · rcases List.mem_cons.mp h with rfl | h
        · exact fol_true.mp q c hc
        · exact .step (List.mem_append_right _ h) (fun x hx => .base hx) hc
    · rw [if_neg q]
      have := minim_imp ds (pre ++ [d])
      rw [List.append_assoc] at this
      exact this

/-- what is known of the cover's dependencies -/
theorem cover_mem {B : Book} {e : Dep} (h : e ∈ cover B) : ∃ d ∈ B, ∃ c ∈ d.r, c ∉ d.l ∧ e.r = [c] ∧ e.l.Sublist d.l ∧ Cl B e.l c := by
  have h := minim_mem _ _ e h
  rw [List.nil_append] at h
  obtain ⟨e0, h0, rfl⟩ := List.mem_map.mp h
  obtain ⟨d, hd, c, hc, hn, rfl⟩ := mem_single.mp h0
  refine ⟨d, hd, c, hc, hn, rfl, lessL_sublist _ _ _ _, ?_⟩
  have : fol B (lessL B [c] d.l d.l) [c] = true := lessL_fol _ _ _ _ (fol_true.mpr fun x hx => by
    rw [List.mem_singleton.mp hx]
    exact .step hd (fun x hx => .base hx) hc)
  exact fol_true.mp this c (List.mem_singleton.mpr rfl)
theorem imp_cover (B : Book) : Imp (cover B) B := by
  have h1 : Imp (cover B) ((single B).map (lessened B)) := by
    have := minim_imp ((single B).map (lessened B)) []
    rwa [List.nil_append] at this
  have h2 : Imp ((single B).map (lessened B)) (single B) := by
    intro d hd c hc
    exact .step (List.mem_map.mpr ⟨d, hd, rfl⟩) (fun x hx => .base (lessL_sub _ _ _ _ x hx)) hc
  exact (h1.trans h2).trans (imp_single B)
theorem imp_cover' (B : Book) : Imp B (cover B) := by
  intro e he c hc
  obtain ⟨d, hd, c', hc', _, er, _, hcl⟩ := cover_mem he
  rw [er, List.mem_singleton] at hc
  rw [hc]
  exact hcl

/-! ### the lossless join: a set with a key, every dependency of the cover within a set -/
theorem lossless {α : Type} {T : (Nat → α) → Prop} {B C : Book} (k : Keeps T B) (iC : Imp C B) (iB : Imp B C) {sets : List (List Nat)} (hin : ∀ d ∈ C, ∃ s ∈ sets, (∀ x ∈ d.l, x ∈ s) ∧ ∀ c ∈ d.r, c ∈ s)
    {t : Nat → α} (ht : ∀ s ∈ sets, ∃ f, T f ∧ ∀ x ∈ s, f x = t x) {S : List Nat} {f : Nat → α} (hf : T f) (hS : ∀ x ∈ S, f x = t x) {c : Nat} (hc : Cl B S c) : f c = t c := by
  have hc' : Cl C S c := hc.imp iC
  have kC : Keeps T C := k.imp iB
  induction hc' with
  | base h => exact hS _ h
  | @step d c hd hl hr ih =>
    obtain ⟨s, hs, h1, h2⟩ := hin d hd
    obtain ⟨g, hg, e⟩ := ht s hs
    have ih' : ∀ x ∈ d.l, f x = t x := fun x hx => ih x hx ((hl x hx).imp iB)
    have : f c = g c := kC d hd f g hf hg (fun x hx => (ih' x hx).trans (e x (h1 x hx)).symm) c hr
    exact this.trans (e c (h2 c hr))
end NS
set_option Elab.async false
set_option linter.all false
set_option maxRecDepth 100000
set_option maxHeartbeats 4000000
namespace NS
open PySem PySem.Spec PyProof.Rows L2
/-! ### the text by places -/
def top (i : Nat) : Stmt := PySem.Challenge.pw_norowstray_k96_whole_syntheses.main.body.getD i (.Pass ⟨0, 0, 0, 0⟩)
abbrev s_picked : Stmt := top 2
abbrev s_projected : Stmt := top 3
abbrev s_extended : Stmt := top 4
abbrev s_joined : Stmt := top 5
abbrev s_agree : Stmt := top 7
abbrev s_parts_of : Stmt := top 9
abbrev s_chased : Stmt := top 12
abbrev s_told_value : Stmt := top 14
abbrev s_first_row : Stmt := top 15
abbrev s_part_row : Stmt := top 16
abbrev s_start : Stmt := top 17
abbrev s_is_met : Stmt := top 18
abbrev s_chased_start : Stmt := top 19
abbrev s_follows : Stmt := top 20
abbrev s_set_order : Stmt := top 22
abbrev s_sets_of_columns : Stmt := top 23
abbrev s_two_rows : Stmt := top 25
abbrev s_closure : Stmt := top 26
abbrev s_keys : Stmt := top 27
abbrev s_lies_within : Stmt := top 29
abbrev s_without_inner : Stmt := top 30
abbrev s_single : Stmt := top 32
abbrev s_lessened : Stmt := top 33
abbrev s_cover : Stmt := top 34
abbrev s_synthesis : Stmt := top 35
abbrev s_stray_rows : Stmt := top 37
abbrev s_L_take : Stmt := top 39
abbrev s_L_some : Stmt := top 40
abbrev s_L_functional : Stmt := top 41
abbrev s_L_reach : Stmt := top 42
abbrev s_L_sets : Stmt := top 43
abbrev s_L_draws : Stmt := top 44
abbrev s_L_same : Stmt := top 45
abbrev s_L_pick : Stmt := top 46
abbrev s_L_unlike : Stmt := top 50
abbrev s_L_chase : Stmt := top 51
abbrev s_L_rows : Stmt := top 53
abbrev s_L_synthesis : Stmt := top 54
abbrev s_law : Stmt := top 55
abbrev sC_init : Stmt := inClass (top 11) 0
abbrev sC_now : Stmt := inClass (top 11) 2
abbrev sC_replace : Stmt := inClass (top 11) 3
abbrev sC_make_equal : Stmt := inClass (top 11) 5
abbrev sC_unequal : Stmt := inClass (top 11) 8
abbrev sC_settle : Stmt := inClass (top 11) 9
abbrev sC_work : Stmt := inClass (top 11) 12
abbrev sC_run : Stmt := inClass (top 11) 13
abbrev sC_is_there : Stmt := inClass (top 11) 14
abbrev FnP (K : PySem.W.Frag) (x q : Str) (st : Stmt) (f : Addr) (fd : FuncData) : Prop := FunD K x q (defArgs st) (defBody st) (defScope st) [] [] f fd
def d_picked : He.DefD := ⟨("picked", none), "picked", "picked", defArgs s_picked, defBody s_picked, defScope s_picked, [], []⟩
def d_projected : He.DefD := ⟨("projected", none), "projected", "projected", defArgs s_projected, defBody s_projected, defScope s_projected, [], []⟩
def d_extended : He.DefD := ⟨("extended", none), "extended", "extended", defArgs s_extended, defBody s_extended, defScope s_extended, [], []⟩
def d_joined : He.DefD := ⟨("joined", none), "joined", "joined", defArgs s_joined, defBody s_joined, defScope s_joined, [], []⟩
def d_agree : He.DefD := ⟨("agree", none), "agree", "agree", defArgs s_agree, defBody s_agree, defScope s_agree, [], []⟩
def d_parts_of : He.DefD := ⟨("parts_of", none), "parts_of", "parts_of", defArgs s_parts_of, defBody s_parts_of, defScope s_parts_of, [], []⟩
def d_chased : He.DefD := ⟨("chased", none), "chased", "chased", defArgs s_chased, defBody s_chased, defScope s_chased, [], []⟩
def d_told_value : He.DefD := ⟨("told_value", none), "told_value", "told_value", defArgs s_told_value, defBody s_told_value, defScope s_told_value, [], []⟩
def d_first_row : He.DefD := ⟨("first_row", none), "first_row", "first_row", defArgs s_first_row, defBody s_first_row, defScope s_first_row, [], []⟩
def d_part_row : He.DefD := ⟨("part_row", none), "part_row", "part_row", defArgs s_part_row, defBody s_part_row, defScope s_part_row, [], []⟩
def d_start : He.DefD := ⟨("start", none), "start", "start", defArgs s_start, defBody s_start, defScope s_start, [], []⟩
def d_is_met : He.DefD := ⟨("is_met", none), "is_met", "is_met", defArgs s_is_met, defBody s_is_met, defScope s_is_met, [], []⟩
def d_chased_start : He.DefD := ⟨("chased_start", none), "chased_start", "chased_start", defArgs s_chased_start, defBody s_chased_start, defScope s_chased_start, [], []⟩
def d_follows : He.DefD := ⟨("follows", none), "follows", "follows", defArgs s_follows, defBody s_follows, defScope s_follows, [], []⟩
def d_set_order : He.DefD := ⟨("set_order", none), "set_order", "set_order", defArgs s_set_order, defBody s_set_order, defScope s_set_order, [], []⟩
def d_sets_of_columns : He.DefD := ⟨("sets_of_columns", none), "sets_of_columns", "sets_of_columns", defArgs s_sets_of_columns, defBody s_sets_of_columns, defScope s_sets_of_columns, [], []⟩
def d_two_rows : He.DefD := ⟨("two_rows", none), "two_rows", "two_rows", defArgs s_two_rows, defBody s_two_rows, defScope s_two_rows, [], []⟩
def d_closure : He.DefD := ⟨("closure", none), "closure", "closure", defArgs s_closure, defBody s_closure, defScope s_closure, [], []⟩
def d_keys : He.DefD := ⟨("keys", none), "keys", "keys", defArgs s_keys, defBody s_keys, defScope s_keys, [], []⟩
def d_lies_within : He.DefD := ⟨("lies_within", none), "lies_within", "lies_within", defArgs s_lies_within, defBody s_lies_within, defScope s_lies_within, [], []⟩
def d_without_inner : He.DefD := ⟨("without_inner", none), "without_inner", "without_inner", defArgs s_without_inner, defBody s_without_inner, defScope s_without_inner, [], []⟩
def d_single : He.DefD := ⟨("single", none), "single", "single", defArgs s_single, defBody s_single, defScope s_single, [], []⟩
def d_lessened : He.DefD := ⟨("lessened", none), "lessened", "lessened", defArgs s_lessened, defBody s_lessened, defScope s_lessened, [], []⟩
def d_cover : He.DefD := ⟨("cover", none), "cover", "cover", defArgs s_cover, defBody s_cover, defScope s_cover, [], []⟩
def d_synthesis : He.DefD := ⟨("synthesis", none), "synthesis", "synthesis", defArgs s_synthesis, defBody s_synthesis, defScope s_synthesis, [], []⟩
def d_stray_rows : He.DefD := ⟨("stray_rows", none), "stray_rows", "stray_rows", defArgs s_stray_rows, defBody s_stray_rows, defScope s_stray_rows, [], []⟩
def d_L_take : He.DefD := ⟨("_law_take", none), "_law_take", "_law_take", defArgs s_L_take, defBody s_L_take, defScope s_L_take, [], []⟩
def d_L_some : He.DefD := ⟨("_law_some", none), "_law_some", "_law_some", defArgs s_L_some, defBody s_L_some, defScope s_L_some, [], []⟩
def d_L_functional : He.DefD := ⟨("_law_functional", none), "_law_functional", "_law_functional", defArgs s_L_functional, defBody s_L_functional, defScope s_L_functional, [], []⟩
def d_L_reach : He.DefD := ⟨("_law_reach", none), "_law_reach", "_law_reach", defArgs s_L_reach, defBody s_L_reach, defScope s_L_reach, [], []⟩
def d_L_sets : He.DefD := ⟨("_law_sets", none), "_law_sets", "_law_sets", defArgs s_L_sets, defBody s_L_sets, defScope s_L_sets, [], []⟩
def d_L_draws : He.DefD := ⟨("_law_draws", none), "_law_draws", "_law_draws", defArgs s_L_draws, defBody s_L_draws, defScope s_L_draws, [], []⟩
def d_L_same : He.DefD := ⟨("_law_same", none), "_law_same", "_law_same", defArgs s_L_same, defBody s_L_same, defScope s_L_same, [], []⟩
def d_L_pick : He.DefD := ⟨("_law_pick", none), "_law_pick", "_law_pick", defArgs s_L_pick, defBody s_L_pick, defScope s_L_pick, [], []⟩
def d_L_unlike : He.DefD := ⟨("_law_unlike", none), "_law_unlike", "_law_unlike", defArgs s_L_unlike, defBody s_L_unlike, defScope s_L_unlike, [], []⟩
def d_L_chase : He.DefD := ⟨("_law_chase", none), "_law_chase", "_law_chase", defArgs s_L_chase, defBody s_L_chase, defScope s_L_chase, [], []⟩
def d_L_rows : He.DefD := ⟨("_law_rows", none), "_law_rows", "_law_rows", defArgs s_L_rows, defBody s_L_rows, defScope s_L_rows, [], []⟩
def d_L_synthesis : He.DefD := ⟨("_law_synthesis", none), "_law_synthesis", "_law_synthesis", defArgs s_L_synthesis, defBody s_L_synthesis, defScope s_L_synthesis, [], []⟩
def d_law : He.DefD := ⟨("law", none), "law", "law", defArgs s_law, defBody s_law, defScope s_law, [], []⟩
def dC_init : He.DefD := ⟨("Chase", some "__init__"), "__init__", "Chase.__init__", defArgs sC_init, defBody sC_init, defScope sC_init, [], []⟩
def dC_now : He.DefD := ⟨("Chase", some "now"), "now", "Chase.now", defArgs sC_now, defBody sC_now, defScope sC_now, [], []⟩
def dC_replace : He.DefD := ⟨("Chase", some "replace"), "replace", "Chase.replace", defArgs sC_replace, defBody sC_replace, defScope sC_replace, [], []⟩
def dC_make_equal : He.DefD := ⟨("Chase", some "make_equal"), "make_equal", "Chase.make_equal", defArgs sC_make_equal, defBody sC_make_equal, defScope sC_make_equal, [], []⟩
def dC_unequal : He.DefD := ⟨("Chase", some "unequal"), "unequal", "Chase.unequal", defArgs sC_unequal, defBody sC_unequal, defScope sC_unequal, [], []⟩
def dC_settle : He.DefD := ⟨("Chase", some "settle"), "settle", "Chase.settle", defArgs sC_settle, defBody sC_settle, defScope sC_settle, [], []⟩
def dC_work : He.DefD := ⟨("Chase", some "work"), "work", "Chase.work", defArgs sC_work, defBody sC_work, defScope sC_work, [], []⟩
def dC_run : He.DefD := ⟨("Chase", some "run"), "run", "Chase.run", defArgs sC_run, defBody sC_run, defScope sC_run, [], []⟩
def dC_is_there : He.DefD := ⟨("Chase", some "is_there"), "is_there", "Chase.is_there", defArgs sC_is_there, defBody sC_is_there, defScope sC_is_there, [], []⟩
def fn0 : List He.DefD := [d_picked, d_projected, d_extended, d_joined, d_agree, d_parts_of, d_chased, d_told_value, d_first_row, d_part_row, d_start, d_is_met, d_chased_start, d_follows, d_set_order, d_sets_of_columns, d_two_rows, d_closure, d_keys, d_lies_within, d_without_inner, d_single, d_lessened, d_cover, d_synthesis, d_stray_rows, d_L_take, d_L_some, d_L_functional, d_L_reach]
def fn1 : List He.DefD := [d_L_sets, d_L_draws, d_L_same, d_L_pick, d_L_unlike, d_L_chase, d_L_rows, d_L_synthesis, d_law, dC_init, dC_now, dC_replace, dC_make_equal, dC_unequal, dC_settle, dC_work, dC_run, dC_is_there]
def fn : List He.DefD := fn0 ++ fn1
def fa0 : List He.Fa := [.glo "picked", .glo "projected", .glo "extended", .glo "joined", .glo "agree", .glo "parts_of", .glo "chased", .glo "told_value", .glo "first_row", .glo "part_row", .glo "start", .glo "is_met", .glo "chased_start", .glo "follows", .glo "set_order", .glo "sets_of_columns", .glo "two_rows", .glo "closure", .glo "keys", .glo "lies_within", .glo "without_inner", .glo "single", .glo "lessened", .glo "cover", .glo "synthesis", .glo "stray_rows", .glo "_law_take", .glo "_law_some", .glo "_law_functional", .glo "_law_reach"]
def fa1 : List He.Fa := [.glo "_law_sets", .glo "_law_draws", .glo "_law_same", .glo "_law_pick", .glo "_law_unlike", .glo "_law_chase", .glo "_law_rows", .glo "_law_synthesis", .glo "law", .free "tuple", .free "sorted", .free "set", .free "all", .free "any", .free "dict", .free "zip", .free "list", .free "range", .free "len", .free "enumerate", .free "int", .free "isinstance", .free "bool", .free "str", .glo "Chase", .cls "Chase", .mkr "Chase", .noat "Chase" "scheme", .noat "Chase" "book", .noat "Chase" "tables"]
def fa2 : List He.Fa := [.noat "Chase" "seen", .noat "Chase" "became", .noat "Chase" "steps", .noat "Chase" "clashed", .meth "Chase" "now", .meth "Chase" "replace", .meth "Chase" "make_equal", .meth "Chase" "unequal", .meth "Chase" "settle", .meth "Chase" "work", .meth "Chase" "run", .meth "Chase" "is_there"]
def fa : List He.Fa := fa0 ++ fa1 ++ fa2
/-- what the top leaves -/
structure Txt (K : PySem.W.Frag) (mg : Str → Option Value) : Prop where
  ex : ∃ h : Heap, K.In h ∧ h.Ns mainGlobals mg ∧ He.SaysD fa fn K
section
variable {K : PySem.W.Frag} {mg : Str → Option Value}
theorem Txt.glo (T : Txt K mg) {x : Str} (i : Nat) (h : fa[i]? = some (.glo x) := by rfl) : mg x = some (.ref (He.ga K x)) := by
  obtain ⟨hp, X, G, c⟩ := T.ex
  exact He.glo_ok X G (c.fact i h)
theorem Txt.free (T : Txt K mg) {x : Str} (i : Nat) (h : fa[i]? = some (.free x) := by rfl) : mg x = none := by
  obtain ⟨hp, X, G, c⟩ := T.ex
  exact He.free_ok X G (c.fact i h)
theorem Txt.def_ (T : Txt K mg) (i : Nat) {d : He.DefD} (h : fn[i]? = some d := by rfl) : ∃ fd, FunD K d.name d.qual d.params d.body d.scope (d.dvs K) (d.kws K) (He.fAd K d.at_) fd := by
  obtain ⟨hp, X, G, c⟩ := T.ex
  exact c.def_ i h
theorem Txt.g_picked (T : Txt K mg) : mg "picked" = some (.ref (He.ga K "picked")) := T.glo 0
theorem Txt.g_projected (T : Txt K mg) : mg "projected" = some (.ref (He.ga K "projected")) := T.glo 1
theorem Txt.g_extended (T : Txt K mg) : mg "extended" = some (.ref (He.ga K "extended")) := T.glo 2
theorem Txt.g_joined (T : Txt K mg) : mg "joined" = some (.ref (He.ga K "joined")) := T.glo 3
theorem Txt.g_agree (T : Txt K mg) : mg "agree" = some (.ref (He.ga K "agree")) := T.glo 4
theorem Txt.g_parts_of (T : Txt K mg) : mg "parts_of" = some (.ref (He.ga K "parts_of")) := T.glo 5
theorem Txt.g_chased (T : Txt K mg) : mg "chased" = some (.ref (He.ga K "chased")) := T.glo 6
theorem Txt.g_told_value (T : Txt K mg) : mg "told_value" = some (.ref (He.ga K "told_value")) := T.glo 7
theorem Txt.g_first_row (T : Txt K mg) : mg "first_row" = some (.ref (He.ga K "first_row")) := T.glo 8
theorem Txt.g_part_row (T : Txt K mg) : mg "part_row" = some (.ref (He.ga K "part_row")) := T.glo 9
theorem Txt.g_start (T : Txt K mg) : mg "start" = some (.ref (He.ga K "start")) := T.glo 10
theorem Txt.g_is_met (T : Txt K mg) : mg "is_met" = some (.ref (He.ga K "is_met")) := T.glo 11
theorem Txt.g_chased_start (T : Txt K mg) : mg "chased_start" = some (.ref (He.ga K "chased_start")) := T.glo 12
theorem Txt.g_follows (T : Txt K mg) : mg "follows" = some (.ref (He.ga K "follows")) := T.glo 13
theorem Txt.g_set_order (T : Txt K mg) : mg "set_order" = some (.ref (He.ga K "set_order")) := T.glo 14
theorem Txt.g_sets_of_columns (T : Txt K mg) : mg "sets_of_columns" = some (.ref (He.ga K "sets_of_columns")) := T.glo 15
theorem Txt.g_two_rows (T : Txt K mg) : mg "two_rows" = some (.ref (He.ga K "two_rows")) := T.glo 16
theorem Txt.g_closure (T : Txt K mg) : mg "closure" = some (.ref (He.ga K "closure")) := T.glo 17
theorem Txt.g_keys (T : Txt K mg) : mg "keys" = some (.ref (He.ga K "keys")) := T.glo 18
theorem Txt.g_lies_within (T : Txt K mg) : mg "lies_within" = some (.ref (He.ga K "lies_within")) := T.glo 19
theorem Txt.g_without_inner (T : Txt K mg) : mg "without_inner" = some (.ref (He.ga K "without_inner")) := T.glo 20
theorem Txt.g_single (T : Txt K mg) : mg "single" = some (.ref (He.ga K "single")) := T.glo 21
theorem Txt.g_lessened (T : Txt K mg) : mg "lessened" = some (.ref (He.ga K "lessened")) := T.glo 22
theorem Txt.g_cover (T : Txt K mg) : mg "cover" = some (.ref (He.ga K "cover")) := T.glo 23
theorem Txt.g_synthesis (T : Txt K mg) : mg "synthesis" = some (.ref (He.ga K "synthesis")) := T.glo 24
theorem Txt.g_stray_rows (T : Txt K mg) : mg "stray_rows" = some (.ref (He.ga K "stray_rows")) := T.glo 25
theorem Txt.g__law_take (T : Txt K mg) : mg "_law_take" = some (.ref (He.ga K "_law_take")) := T.glo 26
theorem Txt.g__law_some (T : Txt K mg) : mg "_law_some" = some (.ref (He.ga K "_law_some")) := T.glo 27
theorem Txt.g__law_functional (T : Txt K mg) : mg "_law_functional" = some (.ref (He.ga K "_law_functional")) := T.glo 28
theorem Txt.g__law_reach (T : Txt K mg) : mg "_law_reach" = some (.ref (He.ga K "_law_reach")) := T.glo 29
theorem Txt.g__law_sets (T : Txt K mg) : mg "_law_sets" = some (.ref (He.ga K "_law_sets")) := T.glo 30
theorem Txt.g__law_draws (T : Txt K mg) : mg "_law_draws" = some (.ref (He.ga K "_law_draws")) := T.glo 31
theorem Txt.g__law_same (T : Txt K mg) : mg "_law_same" = some (.ref (He.ga K "_law_same")) := T.glo 32
theorem Txt.g__law_pick (T : Txt K mg) : mg "_law_pick" = some (.ref (He.ga K "_law_pick")) := T.glo 33
theorem Txt.g__law_unlike (T : Txt K mg) : mg "_law_unlike" = some (.ref (He.ga K "_law_unlike")) := T.glo 34
theorem Txt.g__law_chase (T : Txt K mg) : mg "_law_chase" = some (.ref (He.ga K "_law_chase")) := T.glo 35
theorem Txt.g__law_rows (T : Txt K mg) : mg "_law_rows" = some (.ref (He.ga K "_law_rows")) := T.glo 36
theorem Txt.g__law_synthesis (T : Txt K mg) : mg "_law_synthesis" = some (.ref (He.ga K "_law_synthesis")) := T.glo 37
theorem Txt.g_law (T : Txt K mg) : mg "law" = some (.ref (He.ga K "law")) := T.glo 38
theorem Txt.tuple0 (T : Txt K mg) : mg "tuple" = none := T.free 39
theorem Txt.sorted0 (T : Txt K mg) : mg "sorted" = none := T.free 40
theorem Txt.set0 (T : Txt K mg) : mg "set" = none := T.free 41
theorem Txt.all0 (T : Txt K mg) : mg "all" = none := T.free 42
theorem Txt.any0 (T : Txt K mg) : mg "any" = none := T.free 43
theorem Txt.dict0 (T : Txt K mg) : mg "dict" = none := T.free 44
theorem Txt.zip0 (T : Txt K mg) : mg "zip" = none := T.free 45
theorem Txt.list0 (T : Txt K mg) : mg "list" = none := T.free 46
theorem Txt.range0 (T : Txt K mg) : mg "range" = none := T.free 47
theorem Txt.len0 (T : Txt K mg) : mg "len" = none := T.free 48
theorem Txt.enumerate0 (T : Txt K mg) : mg "enumerate" = none := T.free 49
theorem Txt.int0 (T : Txt K mg) : mg "int" = none := T.free 50
theorem Txt.isinstance0 (T : Txt K mg) : mg "isinstance" = none := T.free 51
theorem Txt.bool0 (T : Txt K mg) : mg "bool" = none := T.free 52
theorem Txt.str0 (T : Txt K mg) : mg "str" = none := T.free 53
theorem Txt.g_Chase (T : Txt K mg) : mg "Chase" = some (.ref (He.ga K "Chase")) := T.glo 54
theorem Txt.cls (T : Txt K mg) : Cls K (He.ga K "Chase") := let ⟨_, _, _, c⟩ := T.ex; He.cls_ok (c.fact 55 (f := .cls "Chase") rfl)
theorem Txt.mkr (T : Txt K mg) : Mk K (He.ga K "Chase") (He.ma K (He.ga K "Chase") "__init__") := let ⟨_, _, _, c⟩ := T.ex; He.mkr_ok (c.fact 56 (f := .mkr "Chase") rfl)
theorem Txt.no_scheme (T : Txt K mg) : NoAttr K (He.ga K "Chase") "scheme" := let ⟨_, _, _, c⟩ := T.ex; He.noat_ok (c.fact 57 (f := .noat "Chase" "scheme") rfl)
theorem Txt.no_book (T : Txt K mg) : NoAttr K (He.ga K "Chase") "book" := let ⟨_, _, _, c⟩ := T.ex; He.noat_ok (c.fact 58 (f := .noat "Chase" "book") rfl)
theorem Txt.no_tables (T : Txt K mg) : NoAttr K (He.ga K "Chase") "tables" := let ⟨_, _, _, c⟩ := T.ex; He.noat_ok (c.fact 59 (f := .noat "Chase" "tables") rfl)
theorem Txt.no_seen (T : Txt K mg) : NoAttr K (He.ga K "Chase") "seen" := let ⟨_, _, _, c⟩ := T.ex; He.noat_ok (c.fact 60 (f := .noat "Chase" "seen") rfl)
theorem Txt.no_became (T : Txt K mg) : NoAttr K (He.ga K "Chase") "became" := let ⟨_, _, _, c⟩ := T.ex; He.noat_ok (c.fact 61 (f := .noat "Chase" "became") rfl)
theorem Txt.no_steps (T : Txt K mg) : NoAttr K (He.ga K "Chase") "steps" := let ⟨_, _, _, c⟩ := T.ex; He.noat_ok (c.fact 62 (f := .noat "Chase" "steps") rfl)
theorem Txt.no_clashed (T : Txt K mg) : NoAttr K (He.ga K "Chase") "clashed" := let ⟨_, _, _, c⟩ := T.ex; He.noat_ok (c.fact 63 (f := .noat "Chase" "clashed") rfl)
theorem Txt.m_now (T : Txt K mg) : Meth K (He.ga K "Chase") "now" (He.ma K (He.ga K "Chase") "now") := let ⟨_, _, _, c⟩ := T.ex; He.meth_ok (c.fact 64 (f := .meth "Chase" "now") rfl)
theorem Txt.m_replace (T : Txt K mg) : Meth K (He.ga K "Chase") "replace" (He.ma K (He.ga K "Chase") "replace") := let ⟨_, _, _, c⟩ := T.ex; He.meth_ok (c.fact 65 (f := .meth "Chase" "replace") rfl)
theorem Txt.m_make_equal (T : Txt K mg) : Meth K (He.ga K "Chase") "make_equal" (He.ma K (He.ga K "Chase") "make_equal") := let ⟨_, _, _, c⟩ := T.ex; He.meth_ok (c.fact 66 (f := .meth "Chase" "make_equal") rfl)
theorem Txt.m_unequal (T : Txt K mg) : Meth K (He.ga K "Chase") "unequal" (He.ma K (He.ga K "Chase") "unequal") := let ⟨_, _, _, c⟩ := T.ex; He.meth_ok (c.fact 67 (f := .meth "Chase" "unequal") rfl)
theorem Txt.m_settle (T : Txt K mg) : Meth K (He.ga K "Chase") "settle" (He.ma K (He.ga K "Chase") "settle") := let ⟨_, _, _, c⟩ := T.ex; He.meth_ok (c.fact 68 (f := .meth "Chase" "settle") rfl)
theorem Txt.m_work (T : Txt K mg) : Meth K (He.ga K "Chase") "work" (He.ma K (He.ga K "Chase") "work") := let ⟨_, _, _, c⟩ := T.ex; He.meth_ok (c.fact 69 (f := .meth "Chase" "work") rfl)
theorem Txt.m_run (T : Txt K mg) : Meth K (He.ga K "Chase") "run" (He.ma K (He.ga K "Chase") "run") := let ⟨_, _, _, c⟩ := T.ex; He.meth_ok (c.fact 70 (f := .meth "Chase" "run") rfl)
theorem Txt.m_is_there (T : Txt K mg) : Meth K (He.ga K "Chase") "is_there" (He.ma K (He.ga K "Chase") "is_there") := let ⟨_, _, _, c⟩ := T.ex; He.meth_ok (c.fact 71 (f := .meth "Chase" "is_there") rfl)
end
end NS
set_option Elab.async false
set_option linter.all false
set_option maxRecDepth 100000
set_option maxHeartbeats 0
namespace NS
open PySem PySem.Spec PyProof.Rows L2
abbrev R : PySem.W.OpenRow := PySem.W.OpenLaw.row PySem.Challenge.rw_norowstray_k96_whole_syntheses
abbrev hk : PySem.W.Hook := He.hookD 5 fa fn
def ob (s : PySem.W.SharedT) : He.AlD := He.obsDG 5 fa fn (HandSHeadRun.getT s)
theorem ob_eq (s : PySem.W.SharedT) : ob s = hk.obs s.abs := He.obsDG_eq (HandSHeadRun.getT_eq s)
def loose : List PySem.Str := (["_wall", "picked", "projected", "extended", "joined", "agree", "parts_of", "missing_rows", "Chase", "chased", "told_value", "first_row", "part_row", "start", "is_met", "chased_start", "follows", "set_order", "sets_of_columns", "two_rows", "closure", "keys", "lies_within", "without_inner", "single", "lessened", "cover", "synthesis", "stray_rows", "_law_take"] : List PySem.Str) ++ (["_law_some", "_law_functional", "_law_reach", "_law_sets", "_law_draws", "_law_same", "_law_pick", "_law_parts", "_law_joined", "_law_missing", "_law_unlike", "_law_chase", "_law_now", "_law_rows", "_law_synthesis"] : List PySem.Str)
theorem run (w : World) : HandSHeadRun.RunEq R (PySem.W.view R.prog [55]) hk ob 4000 loose w := by
  intro os
  kernel_rfl
end NS
set_option Elab.async false
set_option linter.all false
set_option maxRecDepth 100000
set_option maxHeartbeats 4000000
namespace NS
open PySem PySem.Spec PyProof.Rows L2
open Evl (Ex)

/-! ### deep data through heaps -/
abbrev Fg := PySem.W.Frag
mutual
def nl : PyData → Bool
  | .none => true
  | .bool _ => true
  | .int _ => true
  | .str _ => true
  | .tuple xs => nlAll xs
  | .list _ => false
  | .dict _ => false
def nlAll : List PyData → Bool
  | [] => true
  | x :: xs => nl x && nlAll xs
end
/-- kept but at S -/
def ExB (S : List Addr) (H H' : Hp) : Prop := ∀ a o, a ∉ S → H a = some o → H' a = some o
theorem ExB.of {S : List Addr} {H H' : Hp} (e : Ex H H') : ExB S H H' := fun a o _ h => e a o h
theorem ExB.nil {H H' : Hp} (e : ExB [] H H') : Ex H H' := fun a o h => e a o (by simp) h
theorem ExB.refl (S : List Addr) (H : Hp) : ExB S H H := fun _ _ _ h => h
theorem ExB.trans {S : List Addr} {H H1 H2 : Hp} (a : ExB S H H1) (b : ExB S H1 H2) : ExB S H H2 := fun x o n h => b x o n (a x o n h)
theorem ExB.then {S : List Addr} {H H1 H2 : Hp} (a : ExB S H H1) (b : Ex H1 H2) : ExB S H H2 := a.trans (.of b)
theorem ExB.upd {S : List Addr} {H H1 : Hp} (a : ExB S H H1) {p : Addr} (hp : p ∈ S) (o : HO) : ExB S H (upd H1 p o) := fun x u n h => by
  rw [upd_ne (fun e => n (by rw [e]; exact hp))]
  exact a x u n h
theorem ExB.out {S : List Addr} {H0 H H' : Hp} (e0 : Ex H0 H) (e : ExB S H H') (hS : ∀ a ∈ S, H0 a = none) : Ex H0 H' := fun a o h => by
  refine e a o (fun m => ?_) (e0 a o h)
  rw [hS a m] at h
  cases h
theorem ExB.mono {S T : List Addr} {H H' : Hp} (e : ExB S H H') (h : ∀ a ∈ S, a ∈ T) : ExB T H H' := fun a o n x => e a o (fun m => n (h a m)) x
/-- what may change is no tuple -/
def MutS (H : Hp) (S : List Addr) : Prop := ∀ a ∈ S, ∀ u, H a = some u → Mut (some u)
theorem MutS.nil {H : Hp} : MutS H [] := fun _ h => by cases h
theorem MutS.none {H : Hp} {S : List Addr} (h : ∀ a ∈ S, H a = none) : MutS H S := fun a m u e => by
  rw [h a m] at e
  cases e

section
variable {K : Fg} {H H' : Hp} {S : List Addr}
theorem sqT_keep {a : Addr} {xs : List V} (m : MutS H S) (e : ExB S H H') (h : SqT K H a xs) : SqT K H' a xs := by
  have nm : ∀ u, H a = some u → ¬ Mut (some u) → a ∉ S := fun u hu n ma => n (m a ma u hu)
  rcases h with (h | ⟨o, h⟩) | h
  · exact .inl (.inl (e a _ (nm _ h fun z => z) h))
  · exact .inl (.inr ⟨o, e a _ (nm _ h fun z => z) h⟩)
  · exact .inr h
mutual
theorem dp_keep (m : MutS H S) (e : ExB S H H') : ∀ (d : PyData) (v : V), nl d = true → Dp K H v d → Dp K H' v d
  | .none, _, _, h => by cases h; exact .non
  | .bool _, _, _, h => by cases h; exact .bl _
  | .int _, _, _, h => by cases h; exact .int _
  | .str _, _, _, h => by cases h; exact .str _
  | .list _, _, f, _ => by simp [nl] at f
  | .tuple ds, _, f, h => by
    cases h with
    | tup hs ha => exact .tup (sqT_keep m e hs) (dpAll_keep m e ds _ (by simpa [nl] using f) ha)
  | .dict _, _, f, _ => by simp [nl] at f
theorem dpAll_keep (m : MutS H S) (e : ExB S H H') : ∀ (ds : List PyData) (vs : List V), nlAll ds = true → DpAll K H vs ds → DpAll K H' vs ds
  | [], _, _, h => by cases h; exact .nil
  | d :: ds, _, f, h => by
    cases h with
    | cons h1 h2 =>
      have f' : nl d = true ∧ nlAll ds = true := by simpa [nlAll] using f
      exact .cons (dp_keep m e d _ f'.1 h1) (dpAll_keep m e ds _ f'.2 h2)
end
mutual
theorem dp_ex (e : Ex H H') : ∀ (d : PyData) (v : V), Dp K H v d → Dp K H' v d
  | .none, _, h => by cases h; exact .non
  | .bool _, _, h => by cases h; exact .bl _
  | .int _, _, h => by cases h; exact .int _
  | .str _, _, h => by cases h; exact .str _
  | .list ds, _, h => by
    cases h with
    | lst hs ha => exact .lst (Evl.ex_l e hs) (dpAll_ex e ds _ ha)
  | .tuple ds, _, h => by
    cases h with
    | tup hs ha => exact .tup (Evl.ex_t e hs) (dpAll_ex e ds _ ha)
  | .dict _, _, h => by cases h
theorem dpAll_ex (e : Ex H H') : ∀ (ds : List PyData) (vs : List V), DpAll K H vs ds → DpAll K H' vs ds
  | [], _, h => by cases h; exact .nil
  | d :: ds, _, h => by
    cases h with
    | cons h1 h2 => exact .cons (dp_ex e d _ h1) (dpAll_ex e ds _ h2)
end
theorem _root_.L2.Dp.ex {v : V} {d : PyData} (h : Dp K H v d) (e : Ex H H') : Dp K H' v d := dp_ex e d v h
theorem _root_.L2.DpAll.ex {vs : List V} {ds : List PyData} (h : DpAll K H vs ds) (e : Ex H H') : DpAll K H' vs ds := dpAll_ex e ds vs h
theorem _root_.L2.Dp.keep {v : V} {d : PyData} (h : Dp K H v d) (m : MutS H S) (e : ExB S H H') (f : nl d = true) : Dp K H' v d := dp_keep m e d v f h
theorem _root_.L2.DpAll.keep {vs : List V} {ds : List PyData} (h : DpAll K H vs ds) (m : MutS H S) (e : ExB S H H') (f : nlAll ds = true) : DpAll K H' vs ds := dpAll_keep m e ds vs f h

theorem _root_.L2.DpAll.length : ∀ {vs : List V} {ds : List PyData}, DpAll K H vs ds → vs.length = ds.length
  | _, [], h => by cases h; rfl
  | _, d :: ds, h => by
    cases h with
    | cons h1 h2 => rw [List.length_cons, List.length_cons, L2.DpAll.length h2]
theorem _root_.L2.DpAll.get : ∀ {vs : List V} {ds : List PyData} {i : Nat} {v : V}, DpAll K H vs ds → vs[i]? = some v → ∃ d, ds[i]? = some d ∧ Dp K H v d
  | _, [], i, v, h, e => by cases h; simp at e
  | _, d :: ds, 0, v, h, e => by
    cases h with
    | cons h1 h2 => simp at e; subst e; exact ⟨d, rfl, h1⟩
  | _, d :: ds, i + 1, v, h, e => by
    cases h with
    | cons h1 h2 =>
      obtain ⟨d', e', h'⟩ := L2.DpAll.get (i := i) (v := v) h2 (by simpa using e)
      exact ⟨d', by simpa using e', h'⟩
theorem _root_.L2.DpAll.get' {vs : List V} {ds : List PyData} {i : Nat} {d : PyData} (h : DpAll K H vs ds) (e : ds[i]? = some d) : ∃ v, vs[i]? = some v ∧ Dp K H v d := by
  have hl := h.length
  have hi : i < ds.length := (List.getElem?_eq_some_iff.mp e).1
  have hv : vs[i]? = some (vs[i]'(by omega)) := List.getElem?_eq_getElem (by omega)
  obtain ⟨d', e', h'⟩ := h.get hv
  rw [e] at e'
  cases e'
  exact ⟨_, hv, h'⟩
theorem _root_.L2.DpAll.snoc : ∀ {vs : List V} {ds : List PyData} {v : V} {d : PyData}, DpAll K H vs ds → Dp K H v d → DpAll K H (vs ++ [v]) (ds ++ [d])
  | _, [], _, _, h, q => by cases h; exact .cons q .nil
  | _, _ :: _, _, _, h, q => by
    cases h with
    | cons h1 h2 => exact .cons h1 (L2.DpAll.snoc h2 q)
theorem _root_.L2.DpAll.append : ∀ {vs ws : List V} {ds es : List PyData}, DpAll K H vs ds → DpAll K H ws es → DpAll K H (vs ++ ws) (ds ++ es)
  | _, _, [], _, h, q => by cases h; exact q
  | _, _, _ :: _, _, h, q => by
    cases h with
    | cons h1 h2 => exact .cons h1 (L2.DpAll.append h2 q)
theorem _root_.L2.DpAll.take : ∀ {vs : List V} {ds : List PyData} (n : Nat), DpAll K H vs ds → DpAll K H (vs.take n) (ds.take n)
  | _, _, 0, _ => .nil
  | _, [], n + 1, h => by cases h; exact .nil
  | _, _ :: _, n + 1, h => by
    cases h with
    | cons h1 h2 => exact .cons h1 (L2.DpAll.take n h2)
theorem _root_.L2.DpAll.drop : ∀ {vs : List V} {ds : List PyData} (n : Nat), DpAll K H vs ds → DpAll K H (vs.drop n) (ds.drop n)
  | _, _, 0, h => h
  | _, [], n + 1, h => by cases h; exact .nil
  | _, _ :: _, n + 1, h => by
    cases h with
    | cons h1 h2 => exact L2.DpAll.drop n h2
theorem _root_.L2.DpAll.reverse : ∀ {vs : List V} {ds : List PyData}, DpAll K H vs ds → DpAll K H vs.reverse ds.reverse
  | _, [], h => by cases h; exact .nil
  | _, _ :: _, h => by
    cases h with
    | cons h1 h2 =>
      rw [List.reverse_cons, List.reverse_cons]
      exact L2.DpAll.snoc (L2.DpAll.reverse h2) h1
theorem _root_.L2.DpAll.ints : ∀ {vs : List V} {is : List Int}, DpAll K H vs (is.map .int) → vs = is.map V.int
  | _, [], h => by cases h; rfl
  | _, i :: is, h => by
    cases h with
    | cons h1 h2 => cases h1; rw [L2.DpAll.ints h2]; rfl
theorem _root_.L2.DpAll.ofInts : ∀ {is : List Int}, DpAll K H (is.map V.int) (is.map .int)
  | [] => .nil
  | _ :: _ => .cons (.int _) L2.DpAll.ofInts
theorem _root_.L2.DpAll.bools : ∀ {vs : List V} {bs : List Bool}, DpAll K H vs (bs.map .bool) → vs = bs.map V.bl
  | _, [], h => by cases h; rfl
  | _, i :: is, h => by
    cases h with
    | cons h1 h2 => cases h1; rw [L2.DpAll.bools h2]; rfl
theorem _root_.L2.Dp.tuple_inv {v : V} {ds : List PyData} (h : Dp K H v (.tuple ds)) : ∃ a xs, v = .ref a ∧ SqT K H a xs ∧ DpAll K H xs ds := by
  cases h with
  | tup hs ha => exact ⟨_, _, rfl, hs, ha⟩
theorem _root_.L2.Dp.list_inv {v : V} {ds : List PyData} (h : Dp K H v (.list ds)) : ∃ a xs, v = .ref a ∧ SqL K H a xs ∧ DpAll K H xs ds := by
  cases h with
  | lst hs ha => exact ⟨_, _, rfl, hs, ha⟩
theorem _root_.L2.Dp.int_inv {v : V} {i : Int} (h : Dp K H v (.int i)) : v = .int i := by cases h; rfl
theorem _root_.L2.Dp.bl_inv {v : V} {b : Bool} (h : Dp K H v (.bool b)) : v = .bl b := by cases h; rfl
theorem _root_.L2.Dp.str_inv {v : V} {x : Str} (h : Dp K H v (.str x)) : v = .str x := by cases h; rfl
theorem _root_.L2.Dp.non_inv {v : V} (h : Dp K H v .none) : v = .non := by cases h; rfl
theorem dpAll1 {vs : List V} {a : PyData} (h : DpAll K H vs [a]) : ∃ x, vs = [x] ∧ Dp K H x a := by
  cases h with
  | cons h1 h2 => cases h2; exact ⟨_, rfl, h1⟩
theorem dpAll2 {vs : List V} {a b : PyData} (h : DpAll K H vs [a, b]) : ∃ x y, vs = [x, y] ∧ Dp K H x a ∧ Dp K H y b := by
  cases h with
  | cons h1 h2 => obtain ⟨y, rfl, hy⟩ := dpAll1 h2; exact ⟨_, _, rfl, h1, hy⟩
theorem dpAll3 {vs : List V} {a b c : PyData} (h : DpAll K H vs [a, b, c]) : ∃ x y z, vs = [x, y, z] ∧ Dp K H x a ∧ Dp K H y b ∧ Dp K H z c := by
  cases h with
  | cons h1 h2 => obtain ⟨y, z, rfl, hy, hz⟩ := dpAll2 h2; exact ⟨_, _, _, rfl, h1, hy, hz⟩
theorem dpAll4 {vs : List V} {a b c d : PyData} (h : DpAll K H vs [a, b, c, d]) : ∃ x y z t, vs = [x, y, z, t] ∧ Dp K H x a ∧ Dp K H y b ∧ Dp K H z c ∧ Dp K H t d := by
  cases h with
  | cons h1 h2 => obtain ⟨y, z, t, rfl, hy, hz, ht⟩ := dpAll3 h2; exact ⟨_, _, _, _, rfl, h1, hy, hz, ht⟩
end

/-! ### what evaluates to what -/
/-- at every larger heap te gives a value of the data d, the heap grows -/
def EvD (K : Fg) (te : TE) (σ : L2.St) (H : Hp) (d : PyData) : Prop := ∀ H1, Ex H H1 → ∀ Q : VK, (∀ v H2, Ex H1 H2 → Dp K H2 v d → Q v H2) → te σ H1 Q
/-- a new list of these -/
def EvN (K : Fg) (te : TE) (σ : L2.St) (H : Hp) (ds : List PyData) : Prop := ∀ H1, Ex H H1 → ∀ Q : VK, (∀ p vs H2, H1 p = none → Ex H1 H2 → H2 p = some (.lst vs) → DpAll K H2 vs ds → Q (.ref p) H2) → te σ H1 Q
def EvA (K : Fg) (ta : TA) (σ : L2.St) (H : Hp) (ds : List PyData) : Prop := ∀ H1, Ex H H1 → ∀ Q : List V → Hp → Prop, (∀ vs H2, Ex H1 H2 → DpAll K H2 vs ds → Q vs H2) → ta σ H1 Q
abbrev EvT := @Evl.EvT
section
variable {K : Fg} {σ : L2.St} {H H' : Hp} {ta tb te tx : TE} {t u : TT} {v : V} {d d1 d2 : PyData} {ds es : List PyData}
theorem EvD.mono (e : Ex H H') (h : EvD K te σ H d) : EvD K te σ H' d := fun H1 a Q q => h H1 (e.trans a) Q q
theorem EvN.mono (e : Ex H H') (h : EvN K te σ H ds) : EvN K te σ H' ds := fun H1 a Q q => h H1 (e.trans a) Q q
theorem EvA.mono {t : TA} (e : Ex H H') (h : EvA K t σ H ds) : EvA K t σ H' ds := fun H1 a Q q => h H1 (e.trans a) Q q
theorem EvN.toD (h : EvN K te σ H ds) : EvD K te σ H (.list ds) := fun H1 a Q q => h H1 a Q fun p vs H2 hp e hv hd => q _ H2 e (.lst (SqL.of hv) hd)
theorem ed_var {i : Nat} (h : σ[i]? = some (some v)) (hd : Dp K H v d) : EvD K (tVar i) σ H d := fun H1 e _ q => ⟨v, h, q v H1 (Ex.refl H1) (hd.ex e)⟩
theorem ed_c (hd : Dp K H v d) : EvD K (tC v) σ H d := fun H1 e _ q => q v H1 (Ex.refl H1) (hd.ex e)
theorem ed_i {i : Int} : EvD K (tC (.int i)) σ H (.int i) := ed_c (.int i)
theorem ed_s {x : Str} : EvD K (tC (.str x)) σ H (.str x) := ed_c (.str x)
theorem ed_b {b : Bool} : EvD K (tC (.bl b)) σ H (.bool b) := ed_c (.bl b)
theorem ed_n : EvD K (tC .non) σ H .none := ed_c .non
theorem ea_nil : EvA K tNil σ H [] := fun H1 _ _ q => q [] H1 (Ex.refl H1) .nil
theorem ea_cons {tr : TA} (h : EvD K ta σ H d) (hr : EvA K tr σ H ds) : EvA K (tCons ta tr) σ H (d :: ds) := fun H1 e _ q =>
  h H1 e _ fun v H2 e2 hv => hr H2 (e.trans e2) _ fun vs H3 e3 hvs => q (v :: vs) H3 (e2.trans e3) (.cons (hv.ex e3) hvs)
theorem ea1 (h : EvD K ta σ H d) : EvA K (tCons ta tNil) σ H [d] := ea_cons h ea_nil
theorem ea2 (h : EvD K ta σ H d1) (k : EvD K tb σ H d2) : EvA K (tCons ta (tCons tb tNil)) σ H [d1, d2] := ea_cons h (ea1 k)
/-- two operands, by values at the heap behind both -/
theorem ed_op {r : R2} (ha : EvD K ta σ H d1) (hb : EvD K tb σ H d2) (hr : ∀ x y H2, Ex H H2 → Dp K H2 x d1 → Dp K H2 y d2 → ∀ Q : VK, (∀ v H3, Ex H2 H3 → Dp K H3 v d → Q v H3) → r x y H2 Q) : EvD K (tOp r ta tb) σ H d := fun H1 e Q q =>
  ha H1 e _ fun x H2 e2 hx => hb H2 (e.trans e2) _ fun y H3 e3 hy => hr x y H3 ((e.trans e2).trans e3) (hx.ex e3) hy Q fun v H4 e4 hv => q v H4 ((e2.trans e3).trans e4) hv
theorem en_op {r : R2} (ha : EvD K ta σ H d1) (hb : EvD K tb σ H d2) (hr : ∀ x y H2, Ex H H2 → Dp K H2 x d1 → Dp K H2 y d2 → ∀ Q : VK, (∀ p vs H3, H2 p = none → Ex H2 H3 → H3 p = some (.lst vs) → DpAll K H3 vs ds → Q (.ref p) H3) → r x y H2 Q) : EvN K (tOp r ta tb) σ H ds := fun H1 e Q q =>
  ha H1 e _ fun x H2 e2 hx => hb H2 (e.trans e2) _ fun y H3 e3 hy => hr x y H3 ((e.trans e2).trans e3) (hx.ex e3) hy Q fun p vs H4 hp e4 hv hd => q p vs H4 (Evl.fresh_back (e2.trans e3) hp) ((e2.trans e3).trans e4) hv hd
theorem ed_is (h : EvD K te σ H d) (e : d = d1) : EvD K te σ H d1 := e ▸ h
theorem en_is (h : EvN K te σ H ds) (e : ds = es) : EvN K te σ H es := e ▸ h
end
end NS
set_option Elab.async false
set_option linter.all false
set_option maxRecDepth 100000
set_option maxHeartbeats 4000000
namespace NS
open PySem PySem.Spec PyProof.Rows L2
open Evl (Ex)

/-! ### rules that take what stands there: by alternatives -/
section
variable {X : Cx} {e e2 tg : Expr} {t1 t2 : TE} {w1 w2 : TI}
def oE (t1 t2 : TE) : TE := fun σ H Q => t1 σ H Q ∨ t2 σ H Q
theorem pe_or2 (h1 : PE X e t1) (h2 : PE X e t2) : PE X e (oE t1 t2) := ⟨fun pins s σ H Q I h => h.elim (h1.run pins s σ H Q I) (h2.run pins s σ H Q I)⟩
def oI (w1 w2 : TI) : TI := fun σ H R => w1 σ H R ∨ w2 σ H R
theorem pi_or2 (h1 : PI X tg e w1) (h2 : PI X tg e w2) : PI X tg e (oI w1 w2) := ⟨fun pins s σ H R I h => h.elim (h1.run pins s σ H R I) (h2.run pins s σ H R I)⟩
/-- a list or a tuple walked -/
abbrev iSq (K : Fg) (tl : TE) : TI := oI (iList K tl) (iTup K tl)
theorem pi_sq {tl : TE} (hl : PE X e tl) : PI X tg e (iSq X.K tl) := pi_or2 (pi_list hl) (pi_tup hl)

def rPlus (K : Fg) : R2 := fun x y H Q => rI0 (fun i j => .int (i + j)) x y H Q ∨ (rCat x y H Q ∨ rCatA K x y H Q)
theorem op_plus : OpR X (binaryOp .Add) (rPlus X.K) := op_add.or (op_cat.or op_catA)
def rSlU (K : Fg) : V → Option Int → Option Int → Hp → VK → Prop := fun x lo hi H Q => rSlL K x lo hi H Q ∨ rSlA K x lo hi H Q
theorem sl_u : SlR X (rSlU X.K) := SlR.or sl_list sl_tupA

def rInT (K : Fg) : R2 := fun x y H Q => ∃ d ds, Dp K H x d ∧ Dp K H y (.tuple ds) ∧ SeqAt.shaped d = true ∧ SeqAt.shaped (.tuple ds) = true ∧ Q (.bl (ds.any fun z => PyData.eqv z d)) H
def rNotInT (K : Fg) : R2 := fun x y H Q => ∃ d ds, Dp K H x d ∧ Dp K H y (.tuple ds) ∧ SeqAt.shaped d = true ∧ SeqAt.shaped (.tuple ds) = true ∧ Q (.bl (!ds.any fun z => PyData.eqv z d)) H
theorem op_inT (hu : X.A.units + 65 < cLine) : OpR X (compareOp .In) (rInT X.K) := by
  intro pins s σ H x y v u Q I rx ry h
  obtain ⟨d, ds, hd, he, sd, se, q⟩ := h
  obtain ⟨as, r1⟩ := Dp.reads I d x v hd rx
  obtain ⟨bs, r2⟩ := Dp.reads I (.tuple ds) y u he ry
  exact SeqAt.in_tuple_reads r2 r1 (SeqAt.canLay_of_shaped se) (SeqAt.canLay_of_shaped sd) (room_in_shaped sd hu) ⟨.bl _, H, I, rfl, q⟩
theorem op_notInT (hu : X.A.units + 65 < cLine) : OpR X (compareOp .NotIn) (rNotInT X.K) := by
  intro pins s σ H x y v u Q I rx ry h
  obtain ⟨d, ds, hd, he, sd, se, q⟩ := h
  obtain ⟨as, r1⟩ := Dp.reads I d x v hd rx
  obtain ⟨bs, r2⟩ := Dp.reads I (.tuple ds) y u he ry
  exact SeqAt.notIn_tuple_reads r2 r1 (SeqAt.canLay_of_shaped se) (SeqAt.canLay_of_shaped sd) (room_in_shaped sd hu) ⟨.bl _, H, I, rfl, q⟩
def rInU (K : Fg) : R2 := fun x y H Q => rInD K x y H Q ∨ rInT K x y H Q
def rNotInU (K : Fg) : R2 := fun x y H Q => rNotInD K x y H Q ∨ rNotInT K x y H Q
theorem op_inU (hu : X.A.units + 65 < cLine) : OpR X (compareOp .In) (rInU X.K) := (op_inD hu).or (op_inT hu)
theorem op_notInU (hu : X.A.units + 65 < cLine) : OpR X (compareOp .NotIn) (rNotInU X.K) := (op_notInD hu).or (op_notInT hu)
end
theorem room65 {k : Nat} {A : Around} (r : Room k A) : A.units + 65 < cLine := by have := r.un; omega
theorem room64 {k : Nat} {A : Around} (r : Room k A) : A.units + 64 < cLine := by have := r.un; omega
theorem room1 {k : Nat} {A : Around} (r : Room k A) : A.units + 1 < cLine := by have := r.un; omega

/-- a number that is no less than 0 -/
def nI (n : Nat) : PyData := .int (n : Int)

/-! ### shapes -/
def sh (d : PyData) : Bool := SeqAt.shaped d
mutual
/-- ints, truth values, None and tuples, lists of them, at most k deep -/
def plain : Nat → PyData → Bool
  | _, .none => true
  | _, .bool _ => true
  | _, .int _ => true
  | _, .str x => PyData.strOk x
  | 0, .tuple _ => false
  | 0, .list _ => false
  | k + 1, .tuple xs => plainAll k xs
  | k + 1, .list xs => plainAll k xs
  | _, .dict _ => false
def plainAll : Nat → List PyData → Bool
  | _, [] => true
  | k, x :: xs => plain k x && plainAll k xs
end
mutual
theorem plain_ok : ∀ (k : Nat) (d : PyData), plain k d = true → d.canLay0 = true ∧ d.depth ≤ k + 1
  | k, .none, _ => by simp [PyData.canLay0, PyData.depth]
  | k, .bool _, _ => by simp [PyData.canLay0, PyData.depth]
  | k, .int _, _ => by simp [PyData.canLay0, PyData.depth]
  | k, .str x, h => by
    simp only [plain] at h
    simp [PyData.canLay0, PyData.depth, h]
  | 0, .tuple _, h => by simp [plain] at h
  | 0, .list _, h => by simp [plain] at h
  | k + 1, .tuple xs, h => by
    have := plainAll_ok k xs (by simpa [plain] using h)
    simp only [PyData.canLay0, PyData.depth]
    exact ⟨this.1, by omega⟩
  | k + 1, .list xs, h => by
    have := plainAll_ok k xs (by simpa [plain] using h)
    simp only [PyData.canLay0, PyData.depth]
    exact ⟨this.1, by omega⟩
  | _, .dict _, h => by simp [plain] at h
theorem plainAll_ok : ∀ (k : Nat) (ds : List PyData), plainAll k ds = true → PyData.canLayAll0 ds = true ∧ PyData.depthAll ds ≤ k + 1
  | k, [], _ => by simp [PyData.canLayAll0, PyData.depthAll]
  | k, d :: ds, h => by
    have h' : plain k d = true ∧ plainAll k ds = true := by simpa [plainAll] using h
    have h1 := plain_ok k d h'.1
    have h2 := plainAll_ok k ds h'.2
    simp only [PyData.canLayAll0, PyData.depthAll, h1.1, h2.1, Bool.and_self, true_and]
    omega
end
theorem shaped_of_plain {k : Nat} {d : PyData} (h : plain k d = true) (hk : k ≤ 60 := by decide) : SeqAt.shaped d = true := by
  obtain ⟨h1, h2⟩ := plain_ok k d h
  show (d.canLay0 && decide (d.depth ≤ 64)) = true
  rw [h1, Bool.true_and]
  exact decide_eq_true (by omega)
theorem plainAll_iff {k : Nat} : ∀ {ds : List PyData}, plainAll k ds = true ↔ ∀ d ∈ ds, plain k d = true
  | [] => by simp [plainAll]
  | d :: ds => by simp [plainAll, plainAll_iff (ds := ds)]
theorem nlAll_iff : ∀ {ds : List PyData}, nlAll ds = true ↔ ∀ d ∈ ds, nl d = true
  | [] => by simp [nlAll]
  | d :: ds => by simp [nlAll, nlAll_iff (ds := ds)]

/-! ### expressions -/
section
variable {K : Fg} {σ : L2.St} {H H' : Hp} {ta tb te tx : TE} {t u : TT} {v : V} {d d1 d2 : PyData} {ds es : List PyData} {i j : Int} {a b : Bool}
theorem ed_rI0 {g : Int → Int → V} (ha : EvD K ta σ H (.int i)) (hb : EvD K tb σ H (.int j)) (hd : ∀ H, Dp K H (g i j) d) : EvD K (tOp (rI0 g) ta tb) σ H d :=
  ed_op ha hb fun x y H2 e hx hy Q q => by
    rw [hx.int_inv, hy.int_inv]
    exact ⟨i, j, rfl, rfl, q _ H2 (Ex.refl H2) (hd H2)⟩
theorem ed_rI {C : Int → Int → Prop} {g : Int → Int → V} (ha : EvD K ta σ H (.int i)) (hb : EvD K tb σ H (.int j)) (hc : C i j) (hd : ∀ H, Dp K H (g i j) d) : EvD K (tOp (rI C g) ta tb) σ H d :=
  ed_op ha hb fun x y H2 e hx hy Q q => by
    rw [hx.int_inv, hy.int_inv]
    exact ⟨i, j, rfl, rfl, hc, q _ H2 (Ex.refl H2) (hd H2)⟩
theorem ed_addI (ha : EvD K ta σ H (.int i)) (hb : EvD K tb σ H (.int j)) : EvD K (tOp (rPlus K) ta tb) σ H (.int (i + j)) :=
  ed_op ha hb fun x y H2 e hx hy Q q => by
    rw [hx.int_inv, hy.int_inv]
    exact .inl ⟨i, j, rfl, rfl, q _ H2 (Ex.refl H2) (.int _)⟩
/-- + of tuples -/
theorem ed_addT (ha : EvD K ta σ H (.tuple ds)) (hb : EvD K tb σ H (.tuple es)) (hz : ds.length + es.length ≤ 100000) : EvD K (tOp (rPlus K) ta tb) σ H (.tuple (ds ++ es)) :=
  ed_op ha hb fun x y H2 e hx hy Q q => by
    obtain ⟨p, xs, rfl, hp, hxs⟩ := hx.tuple_inv
    obtain ⟨r, ys, rfl, hr, hys⟩ := hy.tuple_inv
    have l1 := hxs.length
    have l2 := hys.length
    refine .inr (.inr ⟨p, r, xs, ys, rfl, rfl, hp, hr, Evl.sz_of (by omega), fun h0 => ?_, fun h0 h1 => ?_, fun _ _ t ht => ?_⟩)
    · rw [h0] at hxs
      cases ds with
      | nil => exact q _ H2 (Ex.refl H2) (.tup hr hys)
      | cons _ _ => cases hxs
    · rw [h1] at hys
      cases es with
      | nil =>
        rw [List.append_nil] at q
        exact q _ H2 (Ex.refl H2) (.tup hp hxs)
      | cons _ _ => cases hys
    · have hn := Ex.new (o := .tup (xs ++ ys)) ht
      exact q _ _ hn (.tup (SqT.of upd_same) ((hxs.append hys).ex hn))
/-- + of lists that are tracked (new ones) -/
theorem en_addL (ha : EvN K ta σ H ds) (hb : EvN K tb σ H es) (hz : ds.length + es.length ≤ 100000) : EvN K (tOp (rPlus K) ta tb) σ H (ds ++ es) := fun H1 e Q q =>
  ha H1 e _ fun p xs H2 hp e2 h2 hxs => hb H2 (e.trans e2) _ fun r ys H3 hr e3 h3 hys => by
    have l1 := hxs.length
    have l2 := hys.length
    refine .inr (.inl ⟨p, r, xs, ys, rfl, rfl, e3 p _ h2, h3, Evl.sz_of (by omega), fun t ht => ?_⟩)
    have hn := Ex.new (o := .lst (xs ++ ys)) ht
    exact q t _ _ (Evl.fresh_back (e2.trans e3) ht) ((e2.trans e3).trans hn) upd_same (((hxs.ex e3).append hys).ex hn)
/-- a slot that holds a tracked list + a new list -/
theorem en_addV {p : Addr} {xs : List V} {k : Nat} (hσ : σ[k]? = some (some (.ref p))) (hp : H p = some (.lst xs)) (hxs : DpAll K H xs ds) (hb : EvN K tb σ H es) (hz : ds.length + es.length ≤ 100000) : EvN K (tOp (rPlus K) (tVar k) tb) σ H (ds ++ es) := fun H1 e Q q =>
  ⟨_, hσ, hb H1 e _ fun r ys H3 hr e3 h3 hys => by
    have l1 := hxs.length
    have l2 := hys.length
    refine .inr (.inl ⟨p, r, xs, ys, rfl, rfl, e3 p _ (e p _ hp), h3, Evl.sz_of (by omega), fun t ht => ?_⟩)
    have hn := Ex.new (o := .lst (xs ++ ys)) ht
    exact q t _ _ (Evl.fresh_back e3 ht) (e3.trans hn) upd_same (((hxs.ex (e.trans e3)).append hys).ex hn)⟩
theorem ed_sub (ha : EvD K ta σ H (.int i)) (hb : EvD K tb σ H (.int j)) : EvD K (tOp (rI0 fun i j => .int (i - j)) ta tb) σ H (.int (i - j)) := ed_rI0 ha hb fun _ => .int _
theorem ed_mul (ha : EvD K ta σ H (.int i)) (hb : EvD K tb σ H (.int j)) (hc : CMul i j) : EvD K (tOp (rI CMul fun i j => .int (i * j)) ta tb) σ H (.int (i * j)) := ed_rI ha hb hc fun _ => .int _
theorem ed_mod (ha : EvD K ta σ H (.int i)) (hb : EvD K tb σ H (.int j)) (hc : 0 < j) : EvD K (tOp (rI (fun _ j => 0 < j) fun i j => .int (i % j)) ta tb) σ H (.int (i % j)) := ed_rI ha hb hc fun _ => .int _
theorem ed_fdiv (ha : EvD K ta σ H (.int i)) (hb : EvD K tb σ H (.int j)) (hc : CDiv i j) : EvD K (tOp (rI CDiv fun i j => .int (i / j)) ta tb) σ H (.int (i / j)) := ed_rI ha hb hc fun _ => .int _
theorem ed_pow (ha : EvD K ta σ H (.int i)) (hb : EvD K tb σ H (.int j)) (hc : CPow i j) : EvD K (tOp (rI CPow fun i j => .int (i ^ j.toNat)) ta tb) σ H (.int (i ^ j.toNat)) := ed_rI ha hb hc fun _ => .int _
theorem ed_neg (ha : EvD K ta σ H (.int i)) : EvD K (tUn (rU fun i => .int (-i)) ta) σ H (.int (-i)) := fun H1 e Q q => ha H1 e _ fun x H2 e2 hx => by
  rw [hx.int_inv]
  exact ⟨i, rfl, q _ H2 e2 (.int _)⟩
theorem ed_lt (ha : EvD K ta σ H (.int i)) (hb : EvD K tb σ H (.int j)) : EvD K (tOp (rI0 fun i j => .bl (decide (i < j))) ta tb) σ H (.bool (decide (i < j))) := ed_rI0 ha hb fun _ => .bl _
theorem ed_gt (ha : EvD K ta σ H (.int i)) (hb : EvD K tb σ H (.int j)) : EvD K (tOp (rI0 fun i j => .bl (decide (j < i))) ta tb) σ H (.bool (decide (j < i))) := ed_rI0 ha hb fun _ => .bl _
theorem ed_ge (ha : EvD K ta σ H (.int i)) (hb : EvD K tb σ H (.int j)) : EvD K (tOp (rI0 fun i j => .bl (decide (j ≤ i))) ta tb) σ H (.bool (decide (j ≤ i))) := ed_rI0 ha hb fun _ => .bl _
theorem ed_eq (ha : EvD K ta σ H d1) (hb : EvD K tb σ H d2) (s1 : SeqAt.shaped d1 = true) (s2 : SeqAt.shaped d2 = true) : EvD K (tOp (rEqD K) ta tb) σ H (.bool (PyData.eqv d1 d2)) :=
  ed_op ha hb fun x y H2 e hx hy Q q => ⟨d1, d2, hx, hy, s1, s2, q _ H2 (Ex.refl H2) (.bl _)⟩
theorem ed_ne (ha : EvD K ta σ H d1) (hb : EvD K tb σ H d2) (s1 : SeqAt.shaped d1 = true) (s2 : SeqAt.shaped d2 = true) : EvD K (tOp (rNeD K) ta tb) σ H (.bool (!PyData.eqv d1 d2)) :=
  ed_op ha hb fun x y H2 e hx hy Q q => ⟨d1, d2, hx, hy, s1, s2, q _ H2 (Ex.refl H2) (.bl _)⟩
theorem ed_eqI (ha : EvD K ta σ H (.int i)) (hb : EvD K tb σ H (.int j)) : EvD K (tOp (rEqD K) ta tb) σ H (.bool (i == j)) := by
  have h := ed_eq ha hb (shaped_of_plain (k := 0) rfl) (shaped_of_plain (k := 0) rfl)
  simpa [PyData.eqv] using h
theorem ed_neI (ha : EvD K ta σ H (.int i)) (hb : EvD K tb σ H (.int j)) : EvD K (tOp (rNeD K) ta tb) σ H (.bool (!(i == j))) := by
  have h := ed_ne ha hb (shaped_of_plain (k := 0) rfl) (shaped_of_plain (k := 0) rfl)
  simpa [PyData.eqv] using h
theorem ed_inL (ha : EvD K ta σ H d) (hb : EvD K tb σ H (.list ds)) (s1 : SeqAt.shaped d = true) (s2 : SeqAt.shaped (.list ds) = true) : EvD K (tOp (rInU K) ta tb) σ H (.bool (ds.any fun z => PyData.eqv z d)) :=
  ed_op ha hb fun x y H2 e hx hy Q q => .inl ⟨d, ds, hx, hy, s1, s2, q _ H2 (Ex.refl H2) (.bl _)⟩
theorem ed_inT (ha : EvD K ta σ H d) (hb : EvD K tb σ H (.tuple ds)) (s1 : SeqAt.shaped d = true) (s2 : SeqAt.shaped (.tuple ds) = true) : EvD K (tOp (rInU K) ta tb) σ H (.bool (ds.any fun z => PyData.eqv z d)) :=
  ed_op ha hb fun x y H2 e hx hy Q q => .inr ⟨d, ds, hx, hy, s1, s2, q _ H2 (Ex.refl H2) (.bl _)⟩
theorem ed_niL (ha : EvD K ta σ H d) (hb : EvD K tb σ H (.list ds)) (s1 : SeqAt.shaped d = true) (s2 : SeqAt.shaped (.list ds) = true) : EvD K (tOp (rNotInU K) ta tb) σ H (.bool (!ds.any fun z => PyData.eqv z d)) :=
  ed_op ha hb fun x y H2 e hx hy Q q => .inl ⟨d, ds, hx, hy, s1, s2, q _ H2 (Ex.refl H2) (.bl _)⟩
theorem ed_niT (ha : EvD K ta σ H d) (hb : EvD K tb σ H (.tuple ds)) (s1 : SeqAt.shaped d = true) (s2 : SeqAt.shaped (.tuple ds) = true) : EvD K (tOp (rNotInU K) ta tb) σ H (.bool (!ds.any fun z => PyData.eqv z d)) :=
  ed_op ha hb fun x y H2 e hx hy Q q => .inr ⟨d, ds, hx, hy, s1, s2, q _ H2 (Ex.refl H2) (.bl _)⟩
/-- an item -/
theorem ed_ixL {n : Nat} (ha : EvD K ta σ H (.list ds)) (hb : EvD K tb σ H (.int (n : Int))) (hd : ds[n]? = some d) : EvD K (tOp (rIx K) ta tb) σ H d :=
  ed_op ha hb fun x y H2 e hx hy Q q => by
    obtain ⟨p, xs, rfl, hp, hxs⟩ := hx.list_inv
    rw [hy.int_inv]
    obtain ⟨v, hv, hdv⟩ := hxs.get' hd
    exact .inl ⟨p, xs, n, v, rfl, rfl, hp, atI_nat hv, q _ H2 (Ex.refl H2) hdv⟩
theorem ed_ixT {n : Nat} (ha : EvD K ta σ H (.tuple ds)) (hb : EvD K tb σ H (.int (n : Int))) (hd : ds[n]? = some d) : EvD K (tOp (rIx K) ta tb) σ H d :=
  ed_op ha hb fun x y H2 e hx hy Q q => by
    obtain ⟨p, xs, rfl, hp, hxs⟩ := hx.tuple_inv
    rw [hy.int_inv]
    obtain ⟨v, hv, hdv⟩ := hxs.get' hd
    exact .inr (.inl ⟨p, xs, n, v, rfl, rfl, hp, atI_nat hv, q _ H2 (Ex.refl H2) hdv⟩)
/-- displays -/
theorem ed_tup {t : TA} (h : EvA K t σ H ds) (hl : ds.length ≤ 100000) : EvD K (tTup t) σ H (.tuple ds) := fun H1 e Q q => h H1 e _ fun vs H2 e2 hvs => by
  have l := hvs.length
  refine ⟨Evl.sz_of (by omega), fun p hp => ?_⟩
  have hn := Ex.new (o := .tup vs) hp
  exact q _ _ (e2.trans hn) (.tup (SqT.of upd_same) (hvs.ex hn))
theorem en_lst {t : TA} (h : EvA K t σ H ds) (hl : ds.length ≤ 100000) : EvN K (tLst t) σ H ds := fun H1 e Q q => h H1 e _ fun vs H2 e2 hvs => by
  have l := hvs.length
  refine ⟨Evl.sz_of (by omega), fun p hp => ?_⟩
  have hn := Ex.new (o := .lst vs) hp
  exact q _ _ _ (Evl.fresh_back e2 hp) (e2.trans hn) upd_same (hvs.ex hn)
/-- built-ins by values -/
theorem ed_cb {r : List V → Hp → VK → Prop} {t : TA} (h : EvA K t σ H ds) (hr : ∀ vs H2, Ex H H2 → DpAll K H2 vs ds → ∀ Q : VK, (∀ v H3, Ex H2 H3 → Dp K H3 v d → Q v H3) → r vs H2 Q) : EvD K (tCB r t) σ H d := fun H1 e Q q =>
  h H1 e _ fun vs H2 e2 hvs => hr vs H2 (e.trans e2) hvs Q fun v H3 e3 hv => q v H3 (e2.trans e3) hv
theorem en_cb {r : List V → Hp → VK → Prop} {t : TA} (h : EvA K t σ H ds) (hr : ∀ vs H2, Ex H H2 → DpAll K H2 vs ds → ∀ Q : VK, (∀ p ws H3, H2 p = none → Ex H2 H3 → H3 p = some (.lst ws) → DpAll K H3 ws es → Q (.ref p) H3) → r vs H2 Q) : EvN K (tCB r t) σ H es := fun H1 e Q q =>
  h H1 e _ fun vs H2 e2 hvs => hr vs H2 (e.trans e2) hvs Q fun p ws H3 hp e3 h3 hw => q p ws H3 (Evl.fresh_back e2 hp) (e2.trans e3) h3 hw
abbrev rLn (K : Fg) : List V → Hp → VK → Prop := fun xs H Q => ∃ p ys, xs = [.ref p] ∧ (SqL K H p ys ∨ SqT K H p ys) ∧ Q (.int ys.length) H
theorem ed_lenL (ha : EvD K ta σ H (.list ds)) : EvD K (tCB (rLn K) (tCons ta tNil)) σ H (.int (ds.length : Int)) := ed_cb (ea1 ha) fun vs H2 _ h Q q => by
  obtain ⟨x, rfl, hx⟩ := dpAll1 h
  obtain ⟨p, xs, rfl, hp, hxs⟩ := hx.list_inv
  refine ⟨p, xs, rfl, .inl hp, ?_⟩
  rw [hxs.length]
  exact q _ H2 (Ex.refl H2) (.int _)
theorem ed_lenT (ha : EvD K ta σ H (.tuple ds)) : EvD K (tCB (rLn K) (tCons ta tNil)) σ H (.int (ds.length : Int)) := ed_cb (ea1 ha) fun vs H2 _ h Q q => by
  obtain ⟨x, rfl, hx⟩ := dpAll1 h
  obtain ⟨p, xs, rfl, hp, hxs⟩ := hx.tuple_inv
  refine ⟨p, xs, rfl, .inr hp, ?_⟩
  rw [hxs.length]
  exact q _ H2 (Ex.refl H2) (.int _)
theorem ed_tupL (ha : EvD K ta σ H (.list ds)) : EvD K (tThen ta (kTup K)) σ H (.tuple ds) := fun H1 e Q q => ha H1 e _ fun x H2 e2 hx => by
  obtain ⟨p, xs, rfl, hp, hxs⟩ := hx.list_inv
  refine .inl ⟨p, xs, rfl, hp, fun r hr => ?_⟩
  have hn := Ex.new (o := .tup xs) hr
  exact q _ _ (e2.trans hn) (.tup (SqT.of upd_same) (hxs.ex hn))
theorem ed_tupT (ha : EvD K ta σ H (.tuple ds)) : EvD K (tThen ta (kTup K)) σ H (.tuple ds) := fun H1 e Q q => ha H1 e _ fun x H2 e2 hx => by
  obtain ⟨p, xs, rfl, hp, hxs⟩ := id hx.tuple_inv
  exact .inr ⟨p, xs, rfl, hp, q _ _ e2 hx⟩
abbrev rLi (K : Fg) : List V → Hp → VK → Prop := fun xs H Q => ∃ p ys, xs = [.ref p] ∧ (SqL K H p ys ∨ SqT K H p ys) ∧ ∀ l, H l = none → Q (.ref l) (upd H l (.lst ys))
theorem en_listL (ha : EvD K ta σ H (.list ds)) : EvN K (tCB (rLi K) (tCons ta tNil)) σ H ds := en_cb (ea1 ha) fun vs H2 _ h Q q => by
  obtain ⟨x, rfl, hx⟩ := dpAll1 h
  obtain ⟨p, xs, rfl, hp, hxs⟩ := hx.list_inv
  refine ⟨p, xs, rfl, .inl hp, fun r hr => ?_⟩
  have hn := Ex.new (o := .lst xs) hr
  exact q _ _ _ hr hn upd_same (hxs.ex hn)
theorem en_listT (ha : EvD K ta σ H (.tuple ds)) : EvN K (tCB (rLi K) (tCons ta tNil)) σ H ds := en_cb (ea1 ha) fun vs H2 _ h Q q => by
  obtain ⟨x, rfl, hx⟩ := dpAll1 h
  obtain ⟨p, xs, rfl, hp, hxs⟩ := hx.tuple_inv
  refine ⟨p, xs, rfl, .inr hp, fun r hr => ?_⟩
  have hn := Ex.new (o := .lst xs) hr
  exact q _ _ _ hr hn upd_same (hxs.ex hn)
theorem ed_all {bs : List Bool} (ha : EvD K ta σ H (.list (bs.map .bool))) : EvD K (tCB (rAll K) (tCons ta tNil)) σ H (.bool (bs.all id)) := ed_cb (ea1 ha) fun vs H2 _ h Q q => by
  obtain ⟨x, rfl, hx⟩ := dpAll1 h
  obtain ⟨p, xs, rfl, hp, hxs⟩ := hx.list_inv
  rw [hxs.bools] at hp
  exact ⟨p, bs, rfl, hp, q _ H2 (Ex.refl H2) (.bl _)⟩
theorem ed_any {bs : List Bool} (ha : EvD K ta σ H (.list (bs.map .bool))) : EvD K (tCB (rAny K) (tCons ta tNil)) σ H (.bool (bs.any id)) := ed_cb (ea1 ha) fun vs H2 _ h Q q => by
  obtain ⟨x, rfl, hx⟩ := dpAll1 h
  obtain ⟨p, xs, rfl, hp, hxs⟩ := hx.list_inv
  rw [hxs.bools] at hp
  exact ⟨p, bs, rfl, hp, q _ H2 (Ex.refl H2) (.bl _)⟩
theorem en_rng {te : L2.St → Hp → (Int → Int → Hp → Prop) → Prop} {n : Nat} (h : ∀ H1, Ex H H1 → ∀ Q : Int → Int → Hp → Prop, (∀ H2, Ex H1 H2 → Q 0 n H2) → te σ H1 Q) (hn : n ≤ 100000) : EvN K (tLstRg te) σ H ((List.range n).map nI) := fun H1 e Q q =>
  h H1 e _ fun H2 e2 => ⟨RgOk.of_le (by omega) (by omega) (by omega) (by omega), fun p hp => by
    have hn := Ex.new (o := .lst (rgV 0 n)) hp
    refine q _ _ _ (Evl.fresh_back e2 hp) (e2.trans hn) upd_same ?_
    have e1 : rgV 0 (n : Int) = ((List.range n).map fun i => ((i : Nat) : Int)).map V.int := by
      unfold rgV
      rw [List.map_map]
      simp
    have e2 : ((List.range n).map nI) = ((List.range n).map fun i => ((i : Nat) : Int)).map .int := by
      rw [List.map_map]
      rfl
    rw [e1, e2]
    exact L2.DpAll.ofInts⟩
theorem ed_if {c : Bool} (h : Evl.EvT t σ H c) (h1 : c = true → EvD K ta σ H d) (h2 : c = false → EvD K tb σ H d) : EvD K (tIf t ta tb) σ H d := fun H1 e Q q => h H1 e _ fun H2 e2 => by
  cases c with
  | true => exact h1 rfl H2 (e.trans e2) Q fun v H3 e3 hv => q v H3 (e2.trans e3) hv
  | false => exact h2 rfl H2 (e.trans e2) Q fun v H3 e3 hv => q v H3 (e2.trans e3) hv
theorem ed_orV (h1 : EvD K ta σ H (.bool a)) (h2 : a = false → EvD K tb σ H (.bool b)) : EvD K (tOrV ta tb) σ H (.bool (a || b)) := fun H1 e Q q => h1 H1 e _ fun x H2 e2 hx => by
  rw [hx.bl_inv]
  refine ⟨a, rfl, ?_⟩
  cases a with
  | true => exact q _ H2 e2 (.bl _)
  | false => exact h2 rfl H2 (e.trans e2) Q fun v H3 e3 hv => q v H3 (e2.trans e3) hv
theorem ed_andV (h1 : EvD K ta σ H (.bool a)) (h2 : a = true → EvD K tb σ H (.bool b)) : EvD K (tAndV ta tb) σ H (.bool (a && b)) := fun H1 e Q q => h1 H1 e _ fun x H2 e2 hx => by
  rw [hx.bl_inv]
  refine ⟨a, rfl, ?_⟩
  cases a with
  | true => exact h2 rfl H2 (e.trans e2) Q fun v H3 e3 hv => q v H3 (e2.trans e3) hv
  | false => exact q _ H2 e2 (.bl _)
theorem ed_notV (h1 : EvD K ta σ H (.bool a)) : EvD K (tNotV ta) σ H (.bool (!a)) := fun H1 e Q q => h1 H1 e _ fun x H2 e2 hx => by
  rw [hx.bl_inv]
  exact ⟨a, rfl, q _ H2 e2 (.bl _)⟩
/-- tests -/
theorem et_test (h : EvD K te σ H (.bool b)) : Evl.EvT (tTest te) σ H b := fun H1 e _ q => h H1 e _ fun x H2 e2 hx => ⟨b, hx.bl_inv, q H2 e2⟩
theorem et_B (h : EvD K te σ H (.bool b)) : Evl.EvT (tB te) σ H b := fun H1 e _ q => h H1 e _ fun x H2 e2 hx => ⟨b, hx.bl_inv, q H2 e2⟩
end
end NS
set_option Elab.async false
set_option linter.all false
set_option maxRecDepth 100000
set_option maxHeartbeats 4000000
namespace NS
open PySem PySem.Spec PyProof.Rows L2
open Evl (Ex)

/-! ### what is walked, as data -/
/-- while M changes at most, J walks these -/
abbrev DWalk (K : Fg) (J : It) (M : List Addr) (H : Hp) (ds : List PyData) : Prop := Walk J ds.length (ExB M H) (fun i H x H' => Ex H H' ∧ ∃ d, ds[i]? = some d ∧ Dp K H' x d)
/-- the source of a loop in which M changes at most -/
def EvS (K : Fg) (M : List Addr) (wi : TI) (σ : L2.St) (H : Hp) (ds : List PyData) : Prop := ∀ H1, Ex H H1 → ∀ R : It → Hp → Prop, (∀ J H2, Ex H1 H2 → DWalk K J M H2 ds → R J H2) → wi σ H1 R
section
variable {K : Fg} {σ : L2.St} {H H' : Hp} {tl : TE} {ds : List PyData} {M : List Addr} {wi w2 : TI}
theorem EvS.mono (e : Ex H H') (h : EvS K M wi σ H ds) : EvS K M wi σ H' ds := fun H1 a Q q => h H1 (e.trans a) Q q
theorem es_inl (h : EvS K M wi σ H ds) : EvS K M (oI wi w2) σ H ds := fun H1 e R q => .inl (h H1 e R q)
theorem es_inr (h : EvS K M w2 σ H ds) : EvS K M (oI wi w2) σ H ds := fun H1 e R q => .inr (h H1 e R q)
theorem sqL_keep {a : Addr} {xs : List V} (n : a ∉ M) (e : ExB M H H') (h : SqL K H a xs) : SqL K H' a xs := by
  rcases h with (h | ⟨o, h⟩) | h
  · exact .inl (.inl (e a _ n h))
  · exact .inl (.inr ⟨o, e a _ n h⟩)
  · exact .inr h
/-- over a tuple, nothing of it changes -/
theorem es_tupM (h : EvD K tl σ H (.tuple ds)) (hM : ∀ H1, Ex H H1 → MutS H1 M) (hn : nlAll ds = true ∨ M = []) : EvS K M (iTup K tl) σ H ds := fun H1 e R q => h H1 e _ fun v H2 e2 hv => by
  obtain ⟨a, xs, rfl, ha, hxs⟩ := hv.tuple_inv
  refine ⟨a, rfl, ⟨xs, ha⟩, q _ H2 e2 ?_⟩
  have m := hM H2 (e.trans e2)
  have w := walk_tup (K := K) (a := a) (xs := xs)
  rw [hxs.length] at w
  refine w.mono (fun H3 e3 => sqT_keep m e3 ha) fun i H3 x H4 hi e3 y => ?_
  obtain ⟨rfl, hx⟩ := y
  obtain ⟨d, hd, hdx⟩ := hxs.get hx
  refine ⟨Ex.refl _, d, hd, ?_⟩
  rcases hn with hn | rfl
  · exact hdx.keep m e3 (nlAll_iff.mp hn d (List.mem_of_getElem? hd))
  · exact hdx.ex e3.nil
theorem es_lstM (h : EvD K tl σ H (.list ds)) (hM : ∀ H1, Ex H H1 → MutS H1 M) (ha : ∀ a H1, Ex H H1 → Dp K H1 (.ref a) (.list ds) → a ∉ M) (hn : nlAll ds = true ∨ M = []) : EvS K M (iList K tl) σ H ds := fun H1 e R q => h H1 e _ fun v H2 e2 hv => by
  obtain ⟨a, xs, rfl, hs, hxs⟩ := id hv.list_inv
  refine ⟨a, rfl, ⟨xs, hs⟩, q _ H2 e2 ?_⟩
  have m := hM H2 (e.trans e2)
  have na := ha a H2 (e.trans e2) hv
  have w := walk_list (K := K) (a := a) (xs := xs)
  rw [hxs.length] at w
  refine w.mono (fun H3 e3 => sqL_keep na e3 hs) fun i H3 x H4 hi e3 y => ?_
  obtain ⟨rfl, hx⟩ := y
  obtain ⟨d, hd, hdx⟩ := hxs.get hx
  refine ⟨Ex.refl _, d, hd, ?_⟩
  rcases hn with hn | rfl
  · exact hdx.keep m e3 (nlAll_iff.mp hn d (List.mem_of_getElem? hd))
  · exact hdx.ex e3.nil
/-- over a new list -/
theorem es_newM (h : EvN K tl σ H ds) (hM : ∀ m ∈ M, ∃ xs, H m = some (.lst xs) ∨ H m = some (.dT []) ∨ ∃ o, H m = some o ∧ Mut (some o)) (hn : nlAll ds = true ∨ M = []) : EvS K M (iList K tl) σ H ds := fun H1 e R q => h H1 e _ fun a xs H2 ha e2 hs hxs => by
  have tracked : ∀ m ∈ M, ∃ o, H m = some o ∧ Mut (some o) := fun m hm => by
    obtain ⟨ys, h | h | h⟩ := hM m hm
    · exact ⟨_, h, trivial⟩
    · exact ⟨_, h, trivial⟩
    · exact h
  have na : a ∉ M := fun hm => by
    obtain ⟨o, ho, _⟩ := tracked a hm
    rw [e a _ ho] at ha
    cases ha
  have m : MutS H2 M := fun b hb u hu => by
    obtain ⟨o, ho, mu⟩ := tracked b hb
    rw [e2 b _ (e b _ ho)] at hu
    cases hu
    exact mu
  refine ⟨a, rfl, ⟨xs, SqL.of hs⟩, q _ H2 e2 ?_⟩
  have w := walk_list (K := K) (a := a) (xs := xs)
  rw [hxs.length] at w
  refine w.mono (fun H3 e3 => sqL_keep na e3 (SqL.of hs)) fun i H3 x H4 hi e3 y => ?_
  obtain ⟨rfl, hx⟩ := y
  obtain ⟨d, hd, hdx⟩ := hxs.get hx
  refine ⟨Ex.refl _, d, hd, ?_⟩
  rcases hn with hn | rfl
  · exact hdx.keep m e3 (nlAll_iff.mp hn d (List.mem_of_getElem? hd))
  · exact hdx.ex e3.nil
/-- .. where nothing changes -/
theorem es_tup (h : EvD K tl σ H (.tuple ds)) : EvS K [] (iTup K tl) σ H ds := es_tupM h (fun _ _ => MutS.nil) (.inr rfl)
theorem es_lst (h : EvD K tl σ H (.list ds)) : EvS K [] (iList K tl) σ H ds := es_lstM h (fun _ _ => MutS.nil) (fun _ _ _ _ => by simp) (.inr rfl)
theorem es_sqT (h : EvD K tl σ H (.tuple ds)) : EvS K [] (iSq K tl) σ H ds := es_inr (es_tup h)
theorem es_sqL (h : EvD K tl σ H (.list ds)) : EvS K [] (iSq K tl) σ H ds := es_inl (es_lst h)
theorem es_rng {ta : TA} {n : Nat} (h : EvA K ta σ H [nI n]) (hn : n ≤ 100000) : EvS K M (iRng1 ta) σ H ((List.range n).map nI) := fun H1 e R q => h H1 e _ fun vs H2 e2 hvs => by
  obtain ⟨x, rfl, hx⟩ := dpAll1 hvs
  rw [Dp.int_inv hx]
  refine ⟨n, rfl, by omega, by omega, q _ H2 e2 ?_⟩
  have w := walk_range (lo := 0) (n := (n : Int).toNat)
  have el : ((List.range n).map nI).length = (n : Int).toNat := by simp
  rw [← el] at w ⊢
  refine w.mono (fun _ _ => trivial) fun i H3 x H4 hi _ y => ?_
  obtain ⟨rfl, rfl⟩ := y
  refine ⟨Ex.refl _, nI i, ?_, ?_⟩
  · have hi' : i < n := by simpa using hi
    rw [List.getElem?_map, List.getElem?_range hi']
    rfl
  · show Dp K _ (V.int (0 + (i : Int))) (nI i)
    rw [Int.zero_add]
    exact .int _
end

/-! ### list comprehensions -/
section
variable {K : Fg} {σ : L2.St} {H H' : Hp} {te : TE} {t : TT} {wi : TI} {g : TG} {vs : List Nat}
def Cn (K : Fg) (H : Hp) (es : List PyData) (Dl : Addr) (H' : Hp) : Prop := H Dl = none ∧ Ex H H' ∧ ∃ ws, H' Dl = some (.lst ws) ∧ DpAll K H' ws es
theorem filterMap_take {α β : Type} {f : α → Option β} {as : List α} {i : Nat} {a : α} (h : as[i]? = some a) : (as.take (i + 1)).filterMap f = (as.take i).filterMap f ++ (f a).toList := by
  rw [List.take_add_one, h, List.filterMap_append]
  congr 1
theorem fm_len {α β : Type} (f : α → Option β) (as : List α) : (as.filterMap f).length ≤ as.length := List.length_filterMap_le f as
/-- the element at the slots that the target made -/
def Tgt (g : TG) (x : V) (σ0 : L2.St) (H : Hp) (σ2 : L2.St) : Prop := ∀ Q : L2.St → Hp → Prop, (∀ H2, Ex H H2 → Q σ2 H2) → g x σ0 H Q
theorem tgt_name {j : Nat} {x : V} {σ0 : L2.St} {H : Hp} : Tgt (gName j) x σ0 H (σ0.set j (some x)) := fun Q q => q H (Ex.refl H)
theorem tgt_pair {j k : Nat} {x : V} {σ0 : L2.St} {H : Hp} {d1 d2 : PyData} (h : Dp K H x (.tuple [d1, d2])) : ∃ y z, Dp K H y d1 ∧ Dp K H z d2 ∧ Tgt (gTup K 2 (gCons (gName j) (gCons (gName k) gNil))) x σ0 H ((σ0.set j (some y)).set k (some z)) := by
  obtain ⟨a, xs, rfl, ha, hxs⟩ := h.tuple_inv
  obtain ⟨y, z, rfl, hy, hz⟩ := dpAll2 hxs
  exact ⟨y, z, hy, hz, fun Q q => ⟨a, _, rfl, ha, rfl, y, _, rfl, z, _, rfl, rfl, q H (Ex.refl H)⟩⟩
/-- [e for target in s if t]: f says which stay and what they give -/
theorem en_lcG {α : Type} {enc : α → PyData} {as : List α} (f : α → Option PyData) (hs : EvS K [] wi σ H (as.map enc)) (hz : as.length ≤ 100000) (hn : ∀ a ∈ as, ∀ d, f a = some d → nl d = true)
    (hel : ∀ a ∈ as, ∀ x H1, Ex H H1 → Dp K H1 x (enc a) → ∃ σ2 b, Tgt g x (wipe σ vs) H1 σ2 ∧ wipe σ2 vs = wipe σ vs ∧ Evl.EvT t σ2 H1 b ∧ (b = false → f a = none) ∧ (b = true → ∃ d, f a = some d ∧ EvD K te σ2 H1 d)) :
    EvN K (tLc wi g t te vs) σ H (as.filterMap f) := fun H0 e Q q => hs H0 e _ fun J H1 e1 w => fun Dl hD => by
  have wl : (as.map enc).length = as.length := List.length_map ..
  have w : Walk J as.length (ExB [] H1) (fun i H x H' => Ex H H' ∧ ∃ d, (as.map enc)[i]? = some d ∧ Dp K H' x d) := wl ▸ w
  refine lc_it w (fun i H' => Cn K H1 ((as.take i).filterMap f) Dl H') ⟨hD, Ex.new hD, [], upd_same, .nil⟩ (fun i H' _ p => .of p.2.1) (fun i x H2 H3 hi p y => ?_) (fun H' p => ?_)
  · obtain ⟨hDn, e2, ws, hw, hws⟩ := p
    obtain ⟨e3, d, hd, hx⟩ := y
    have hai : as[i]? = some (as[i]) := List.getElem?_eq_getElem hi
    rw [List.getElem?_map, hai] at hd
    cases hd
    obtain ⟨σ2, b, htg, hwp, ht, hf, hk⟩ := hel as[i] (List.getElem_mem hi) x H3 ((e.trans e1).trans (e2.trans e3)) hx
    refine htg _ fun H4 e4 => ⟨hwp, ht H4 e4 _ fun H5 e5 => ?_⟩
    have lz : ((as.take i).filterMap f).length < 100000 := by
      have h1 := fm_len f (as.take i)
      rw [List.length_take] at h1
      omega
    have e35 := (e3.trans e4).trans e5
    cases b with
    | true =>
      obtain ⟨d, hfd, he⟩ := hk rfl
      show te σ2 H5 _
      refine he H5 (e4.trans e5) _ fun v H6 e6 hv => ⟨ws, e6 Dl _ (e35 Dl _ hw), Evl.sz_lt (by rw [hws.length]; exact lz), hDn, ?_, ws ++ [v], upd_same, ?_⟩
      · exact Evl.Ex.mut (e2.trans (e35.trans e6)) hDn
      · rw [filterMap_take hai, hfd]
        have q1 := (hws.ex (e35.trans e6)).snoc hv
        show DpAll K (upd H6 Dl _) (ws ++ [v]) ((as.take i).filterMap f ++ [d])
        refine q1.keep (S := [Dl]) (fun b hb u hu => ?_) ((ExB.refl [Dl] H6).upd (by simp) _) (nlAll_iff.mpr fun d' hd' => ?_)
        · have eb : b = Dl := by simpa using hb
          rw [eb, e6 Dl _ (e35 Dl _ hw)] at hu
          cases hu
          trivial
        · rcases List.mem_append.mp hd' with h | h
          · obtain ⟨a, ha, hfa⟩ := List.mem_filterMap.mp h
            exact hn a (List.mem_of_mem_take ha) d' hfa
          · rw [List.mem_singleton.mp h]
            exact hn _ (List.getElem_mem hi) d hfd
    | false =>
      show Cn K H1 _ Dl H5
      refine ⟨hDn, e2.trans e35, ws, e35 Dl _ hw, ?_⟩
      rw [filterMap_take hai, hf rfl]
      show DpAll K H5 ws ((as.take i).filterMap f ++ [])
      rw [List.append_nil]
      exact hws.ex e35
  · obtain ⟨hDn, e2, ws, hw, hws⟩ := p
    rw [List.take_length] at hws
    exact q Dl ws H' (Evl.fresh_back e1 hDn) (e1.trans e2) hw hws
end
end NS
set_option Elab.async false
set_option linter.all false
set_option maxRecDepth 100000
set_option maxHeartbeats 4000000
namespace NS
open PySem PySem.Spec PyProof.Rows L2
open Evl (Ex)
/-- a def of the module that keeps its promise -/
structure Good (P : Program) (w : World) (K : Fg) (mg : Str → Option Value) (base : Heap) (k : Nat) (x : Str) (ps : List Str) (sp : Sp) : Prop where
  ex : ∃ fd, mg x = some (.ref (He.ga K x)) ∧ PySem.W.keepIn K (.ref (He.ga K x)) = true ∧ Binds K fd ps [] ∧ FnOk P w K mg base CX0 k (He.ga K x) fd ps sp
theorem Good.mono {P : Program} {w : World} {K : Fg} {mg : Str → Option Value} {base : Heap} {j k : Nat} {x : Str} {ps : List Str} {sp : Sp} (G : Good P w K mg base j x ps sp) (h : j ≤ k) : Good P w K mg base k x ps sp := by
  obtain ⟨fd, h1, h2, h3, h4⟩ := G.ex
  exact ⟨fd, h1, h2, h3, h4.mono h⟩
theorem good_of {P : Program} {w : World} {K : Fg} {mg : Str → Option Value} {base : Heap} {k : Nat} {x q : Str} {ps N : List Str} {sp : Sp} {st : Stmt} (gx : mg x = some (.ref (He.ga K x))) (F : ∃ fd, FnP K x q st (He.ga K x) fd) (S : FnScope N ps (defScope st))
    (hb : ∀ (kV doc pm : Value) (an : Option Addr) (cdv ct : Value) (us : List Value), us.length = ps.length → bindArgs (PySem.W.fnOf x q (defArgs st) (defBody st) (defScope st) .none kV doc pm an cdv ct) ⟨us, []⟩ = pure (ps.zip us))
    (len : ∀ vs H Q E, sp vs H Q E → vs.length = ps.length)
    (body : ∀ (cdv : Value) (A : Around) (outer : List Env) (s : Shared) (H : Hp) (vs : List V) (Q : VK) (E : XK), Room k (A.deeper (envOfC q (defScope st) s.heap.objs.size (He.ga K x) cdv)) → sp vs H Q E →
      ∃ t, PSs (cxOf CX0 P w K mg base N q (defScope st) (He.ga K x) cdv A outer s H E).nox (defBody st) t ∧ t { nx := fun _ H' => Q .non H', rt := Q } (start N vs) H) : Good P w K mg base (k + 1) x ps sp := by
  obtain ⟨fd, F⟩ := F
  refine ⟨fd, gx, F.kp, ?_, F.ok S len fun cdv A outer s H vs Q E hr hs => ?_⟩
  · exact F.bindsN hb
  · obtain ⟨t, h, q⟩ := body cdv A outer s H vs Q E hr hs
    exact ⟨t, h.nox, q⟩
section
variable {X : Cx} {k : Nat} {x : Str} {ps : List Str} {sp : Sp} {p pos : Pos} {e : Expr} {es : List Expr} {t : TA}
theorem pe_callG (G : Good X.prog X.w X.K X.mg X.base k x ps sp) (hr : Room k X.A) (hg : Gl X x) (ha : PA X (e :: es) t) (hdb : (x == ("__debug__" : Str)) = false := by decide)
    (he : starEach (e :: es) X.env = (false, eval e X.env) :: starEach es X.env := by rfl) (hpl : (backTo pos (starEach es X.env)).any (·.1) = false := by rfl) : PE X (.Call (.Name x p) (e :: es) [] pos) (tCall sp [] E0 t) := by
  obtain ⟨fd, h1, h2, h3, h4⟩ := G.ex
  exact pe_call h4 hr hg h1 h2 h3 .nil pass0 ha hdb he hpl
end

/-! ### promises about data -/
def spF {α : Type} (K : Fg) (args : α → List PyData) (pre : α → Prop) (res : α → PyData) : Sp := fun vs H Q _ => ∃ a, DpAll K H vs (args a) ∧ pre a ∧ ∀ v H', Ex H H' → Dp K H' v (res a) → Q v H'
def spR {α : Type} (K : Fg) (args : α → List PyData) (pre : α → Prop) (res : α → PyData → Prop) : Sp := fun vs H Q _ => ∃ a, DpAll K H vs (args a) ∧ pre a ∧ ∀ v H' d, Ex H H' → Dp K H' v d → res a d → Q v H'
section
variable {α : Type} {K : Fg} {σ : L2.St} {H : Hp} {args : α → List PyData} {pre : α → Prop} {res : α → PyData} {resR : α → PyData → Prop} {t : TA} {E : XK}
theorem ed_call (a : α) (h : EvA K t σ H (args a)) (hp : pre a) : EvD K (tCall (spF K args pre res) [] E t) σ H (res a) := fun H1 e Q q => h H1 e _ fun vs H2 e2 hvs =>
  ⟨a, by rw [List.append_nil]; exact hvs, hp, fun v H' e3 hv => q v H' (e2.trans e3) hv⟩
theorem len_spF {n : Nat} (hn : ∀ a, (args a).length = n) : ∀ vs H Q E, spF K args pre res vs H Q E → vs.length = n := fun vs H Q E h => by
  obtain ⟨a, h, _⟩ := h
  rw [h.length, hn]
theorem len_spR {n : Nat} (hn : ∀ a, (args a).length = n) : ∀ vs H Q E, spR K args pre resR vs H Q E → vs.length = n := fun vs H Q E h => by
  obtain ⟨a, h, _⟩ := h
  rw [h.length, hn]
end
section
variable {K : Fg} {σ : L2.St} {H : Hp} {te : TE} {t u : TS} {D : Ends} {d : PyData}
theorem q_seq (h : t { D with nx := u D } σ H) : tSeq t u D σ H := h
theorem s_ret (h : EvD K te σ H d) (k : ∀ v H1, Ex H H1 → Dp K H1 v d → D.rt v H1) : tRet te D σ H := h H (Ex.refl H) _ k
theorem s_set {i : Nat} (h : EvD K te σ H d) (k : ∀ v H1, Ex H H1 → Dp K H1 v d → D.nx (σ.set i (some v)) H1) : tAsg te (gName i) D σ H := h H (Ex.refl H) _ k
theorem s_setN {i : Nat} {ds : List PyData} (h : EvN K te σ H ds) (k : ∀ p vs H1, H p = none → Ex H H1 → H1 p = some (.lst vs) → DpAll K H1 vs ds → D.nx (σ.set i (some (.ref p))) H1) : tAsg te (gName i) D σ H := h H (Ex.refl H) _ k
theorem s_if {c : TT} {b : Bool} (h : Evl.EvT c σ H b) (h1 : b = true → ∀ H1, Ex H H1 → t D σ H1) (h2 : b = false → ∀ H1, Ex H H1 → u D σ H1) : tIfS c t u D σ H := h H (Ex.refl H) _ fun H1 e => by
  cases b with
  | true => exact h1 rfl H1 e
  | false => exact h2 rfl H1 e
end
/-! ### names for data -/
def cols (cs : List Nat) : PyData := .tuple (cs.map nI)
end NS
set_option Elab.async false
set_option linter.all false
set_option maxRecDepth 100000
set_option maxHeartbeats 4000000
namespace NS
open PySem PySem.Spec PyProof.Rows L2
open Evl (Ex)
/-! ### the rules with the written part named -/
section
variable {X : Cx} {K : Fg} {tg e e2 o : Expr} {es : List Expr} {te tl : TE} {t : TA} {pos p cpos apos : Pos}
theorem kIx (hK : X.K = K) : IxR X (rIx K) := hK ▸ ix_seq
theorem kSq {tl : TE} (hK : X.K = K) (hl : PE X e tl) : PI X tg e (iSq K tl) := hK ▸ pi_sq hl
theorem kPlus (hK : X.K = K) : OpR X (binaryOp .Add) (rPlus K) := hK ▸ op_plus
theorem kSl (hK : X.K = K) : SlR X (rSlU K) := hK ▸ sl_u
theorem kIn (hK : X.K = K) (hu : X.A.units + 65 < cLine) : OpR X (compareOp .In) (rInU K) := hK ▸ op_inU hu
theorem kNin (hK : X.K = K) (hu : X.A.units + 65 < cLine) : OpR X (compareOp .NotIn) (rNotInU K) := hK ▸ op_notInU hu
theorem kEq (hK : X.K = K) (hu : X.A.units + 64 < cLine) : OpR X (compareOp .Eq) (rEqD K) := hK ▸ op_eqD hu
theorem kNe (hK : X.K = K) (hu : X.A.units + 64 < cLine) : OpR X (compareOp .NotEq) (rNeD K) := hK ▸ op_neD hu
theorem kLen (hK : X.K = K) : CallR X (.builtin "len") (rLn K) := hK ▸ call_len_seq
theorem kList (hK : X.K = K) : CallR X (.type "list") (rLi K) := hK ▸ call_list_of
theorem kTuple (hK : X.K = K) {p pos : Pos} (hg : Gl X "tuple") (hm : X.mg "tuple" = none) (ha : PE X e te) (na : starEach [e] X.env = (false, eval e X.env) :: starEach [] X.env := by rfl) : PE X (.Call (.Name "tuple" p) [e] [] pos) (tThen te (kTup K)) := hK ▸ pe_tupleOf hg hm ha na
theorem kAll (hK : X.K = K) (hc : X.calm = true) : CallR X (.builtin "all") (rAll K) := hK ▸ cr_all hc
theorem kAny (hK : X.K = K) (hc : X.calm = true) : CallR X (.builtin "any") (rAny K) := hK ▸ cr_any hc
theorem kSorted (hK : X.K = K) : CallR X (.builtin "sorted") (rSortedI K) := hK ▸ cr_sortedI
theorem kFld (hK : X.K = K) {f : Str} (he : PE X e te) (hb : attributeBase e f X.env (eval e X.env) = eval e X.env := by rfl) : PE X (.Attribute e f pos) (tFld K te f) := hK ▸ pe_fld he hb
theorem kTg (hK : X.K = K) {k : Nat} {t : TGs} {n : Nat} (hc : X.calm = true) (h : PGs X es t) (hn : (assignEach es X.env).length = n := by rfl) (hst : (assignEach es X.env).findIdx? (·.1) = none := by rfl) : PG X (.Tuple es k pos) (gTup K n t) := hK ▸ pg_tup hc h hn hst
end
end NS
set_option Elab.async false
set_option linter.all false
set_option maxRecDepth 100000
set_option maxHeartbeats 4000000
namespace NS
open PySem PySem.Spec PyProof.Rows L2
open Evl (Ex)
/-! ### enumerate(tuple) -/
def IteT (K : Fg) (a : Addr) : It :=
  ⟨fun i H => ∃ (xs : List V) (x : V), SqT K H a xs ∧ xs[i]? = some x, fun i H v H' => ∃ T x, v = .ref T ∧ H T = none ∧ H' = upd H T (.tup [.int (i : Nat), x]) ∧ ∀ xs, SqT K H a xs → xs[i]? = some x, fun i H => ∃ xs : List V, SqT K H a xs ∧ xs.length ≤ i⟩
theorem turn_enumT {P : Program} {w : World} {K : Fg} {elts : List Expr} {kk : Nat} {tpos : Pos} (a e it : Addr) :
    Turn P w K (.Tuple elts kk tpos) (IteT K a) [e, it] e (fun i h => (∃ old, IsEnum h e it ((i : Nat) : Int) old) ∧ h.IsTupleIter it a i ∧ e ≠ it ∧ e ≠ a ∧ a ≠ it) where
  mem := by simp
  obj := fun i h st b hb => by
    obtain ⟨⟨old, he⟩, ⟨o, ho, hc, hd⟩, _⟩ := st
    have e' : b = e ∨ b = it := by simpa using hb
    rcases e' with z | z
    · rw [z]; exact ⟨_, he, fun v q => nomatch q⟩
    · rw [z]; exact ⟨o, ho, fun v q => by rw [hd] at q; cases q⟩
  keep := fun i h h' st k => let ⟨⟨old, he⟩, hi, hne⟩ := st; ⟨⟨old, k e (by simp) _ he⟩, hi.at fun o q => k it (by simp) o q, hne⟩
  item := by
    intro X hP hw hK hc i pins s σ H E I hf st hg
    subst hP hw hK
    obtain ⟨⟨old, he⟩, hit, hne, hea, hai⟩ := st
    obtain ⟨xs, x, hq, hx⟩ := hg
    obtain ⟨its, rv, p, hz⟩ := I.tuple hq
    obtain ⟨u, hu, ru⟩ := rv.get hx
    have hel : e < s.heap.objs.size := Heap.lt_size he
    have hil : it < s.heap.objs.size := by obtain ⟨_, q, _⟩ := hit; exact Heap.lt_size q
    have hu' : its.toArray[i]? = some u := by simpa using hu
    have hlt : i < its.toArray.size := by
      have := (List.getElem?_eq_some_iff.mp hu).1
      simpa using this
    refine wpAny_pyNext_enum_itemD (Draws.tuple (A := X.A.in1) (I.ok.hd hc) it a hai its.toArray) he ⟨hit, p⟩ hlt hne (by simp [hne, hea]) fun y h' tk hy ho hit' hT hsz hk => ?_
    rw [hu'] at hy
    cases hy
    refine ⟨_, rfl, wpAny_letOwnedTupleGo_enum (s := { s with heap := h', toks := tk + 1 }) ho fun h'' he' sb => ?_⟩
    have hT2 : h''.get? s.heap.objs.size = some { cls := .type "tuple", data := .seq #[.int i tk, u] } := (sb.2 _ (Nat.ne_of_gt hel)).trans hT
    have new : ObjOk X.prog X.w (upd H s.heap.objs.size (.tup [.int (i : Nat), x])) h'' s.heap.objs.size (.tup [.int (i : Nat), x]) :=
      ⟨by show 2 ≤ sizeLine; decide, [.int i tk, u], .cons ⟨_, rfl⟩ (.cons ru .nil), ⟨_, hT2, rfl, _, rfl⟩⟩
    have I1 : Inv X pins σ (upd H s.heap.objs.size (.tup [.int (i : Nat), x])) { s with heap := h'', toks := tk + 1 } :=
      I.turnedNew (ch := [e, it]) (fun b ob hb q => (sb.2 b (fun z => hb (by simp [z]))).trans (hk b ob (fun z => hb (by simp [z])) (fun z => hb (by simp [z])) q)) hf (Nat.le_refl _) new
    refine ⟨.ref s.heap.objs.size, _, I1, rfl, ⟨_, x, rfl, I.hok.fresh (Nat.le_refl _), rfl, fun ys hy => by rw [I.tuple_inj hy hq]; exact hx⟩, ⟨⟨u, ?_⟩, hit'.1.at fun o q => (sb.2 it (Ne.symm hne)).trans q, hne, hea, hai⟩, fun b hb => ?_⟩
    · have e1 : ((i + 1 : Nat) : Int) = (i : Int) + 1 := by omega
      rw [e1]; exact he'
    · have hb' : b < s.heap.objs.size := by
        have e' : b = e ∨ b = it := by simpa using hb
        rcases e' with z | z
        · rw [z]; exact hel
        · rw [z]; exact hil
      rw [upd_ne (Nat.ne_of_lt hb')]
      exact (hf b hb).1
  done := by
    intro X hP hw hK hc i pins s σ H E I hf st hg
    subst hP hw hK
    obtain ⟨⟨old, he⟩, hit, hne, hea, hai⟩ := st
    obtain ⟨xs, hq, hx⟩ := hg
    obtain ⟨its, rv, p, hz⟩ := I.tuple hq
    obtain ⟨f0, f1, f2, f3, f4, f5⟩ := hf it (by simp)
    have hl := rv.length
    have D := Draws.tuple (prog := X.prog) (w := X.w) (A := X.A.in1) (I.ok.hd hc) it a hai its.toArray
    have hT : s.TypeIs (.ref e) "enumerate" := ⟨_, he, rfl⟩
    unfold pyNext
    refine wpAny_bind (wpAny_attempt (wpAny_callSpecial?_slot (name := Str.ofString "__next__") hT F.slot_enumerate_next
      (wpAny_call_entry F.slot_enumerate_next hT F.entry_enumerate_next ?_ (F.args_enumerate_next_1 _))))
    show wpAny _ _ (field (.ref e) 2 >>= _) _ _ _
    refine wpAny_bind (wpAny_field he rfl (x := .ref it) rfl ?_)
    refine wpAny_bind (wpAny_nextOf_tuple_end (I.ok.hd hc) hit p (by simp; omega) fun h' x he' hx' => ?_)
    obtain ⟨o, ho, hcx⟩ := hx'
    refine wpAny_bind (wpAny_isInstance (T := "StopIteration") (b := true) ⟨o, ho, hcx⟩ isSubtype_stop ?_)
    exact wpAny_pure ⟨rfl, I.turned (t' := s.toks) (fun b o hb q => he' b o hb q) f0 f1 f3 f4 f5⟩
  self := fun A i s Q E st h => let ⟨⟨_, he⟩, _⟩ := st; wpAny_pyIter_enum he h

theorem meets_enumerate_newT (l : Addr) (items : Array Value) :
    Meets (Builtin.«enumerate.__new__» ⟨[.type "enumerate", .ref l], []⟩) (fun _ R s => s.heap.IsTuple l items ∧
      R (.ok (.ret (.ref (s.heap.push { cls := .type "tuple_iterator", data := .fields #[.ref l, .int 0 0] }).objs.size)))
        { s with heap := (s.heap.push { cls := .type "tuple_iterator", data := .fields #[.ref l, .int 0 0] }).push { cls := .type "enumerate", data := .fields #[.none, .bool false, .ref s.heap.objs.size, rawInt 0, .none, .none] } }) :=
  .of_wp fun prog w A R s h => by
    obtain ⟨hp, g, d, tk, os⟩ := s; obtain ⟨hl, h⟩ := h
    have hsub := sub_enumerate
    have hL : Heap.IsTuple (Shared.heap ⟨hp, g, d, tk, os⟩) l items := hl
    obtain ⟨⟨c, dct, dt, sl⟩, hlo, hc, n, hd⟩ := id hL
    replace hc : c = .type "tuple" := hc
    replace hd : dt = .seq items n := hd
    subst hc hd
    wp_walk using AutoSeq1.wpAny_loadPart' hlo
    refine wpAny_stack_any fun st => wpAny_pure ?_
    split
    · rename_i c _ _ _ _ _
      cases (c == Value.type "enumerate")
      · wp_walk using AutoSeq1.wpAny_loadPart' hlo, wpAny_pyIter_tuple hL
        exact ⟨_, rfl, h⟩
      · wp_walk using AutoSeq1.wpAny_loadPart' hlo, wpAny_pyIter_tuple hL
        exact ⟨_, rfl, h⟩
    · wp_walk using AutoSeq1.wpAny_loadPart' hlo, wpAny_pyIter_tuple hL
      exact ⟨_, rfl, h⟩
theorem call_enumerate_tup {prog : Program} {w : World} {A : Around} {E : Value → Shared → Prop} {s : Shared} {l : Addr} {items : Array Value} {Q : Value → Shared → Prop} (hL : s.heap.IsTuple l items)
    (h : ∀ h', IsEnum h' (s.heap.objs.size + 1) s.heap.objs.size 0 .none → h'.IsTupleIter s.heap.objs.size l 0 → h'.objs.size = s.heap.objs.size + 2 →
      (∀ b o, s.heap.get? b = some o → h'.get? b = some o) → Q (.ref (s.heap.objs.size + 1)) { s with heap := h' }) :
    wpAny (model prog w) A (call (.type "enumerate") [.ref l]) Q E s := by
  refine callType_new F.called_enumerate (by decide) (F.typeCall_enumerate_1 _) (F.newCall_enumerate_1 _) (fun obj => F.args_object_init_2 obj _) F.entry_enumerate_new
    (meets_enumerate_newT l items) ⟨hL, ?_⟩
  have hz : (s.heap.push { cls := .type "tuple_iterator", data := .fields #[.ref l, .int 0 0] }).objs.size = s.heap.objs.size + 1 := Heap.size_push ..
  show _ ∧ _
  rw [hz]
  have he : IsEnum ((s.heap.push { cls := .type "tuple_iterator", data := .fields #[.ref l, .int 0 0] }).push
      { cls := .type "enumerate", data := .fields #[.none, .bool false, .ref s.heap.objs.size, rawInt 0, .none, .none] }) (s.heap.objs.size + 1) s.heap.objs.size 0 .none := by
    have := Heap.get?_push_size (s.heap.push { cls := .type "tuple_iterator", data := .fields #[.ref l, .int 0 0] })
      (o := { cls := .type "enumerate", data := .fields #[.none, .bool false, .ref s.heap.objs.size, rawInt 0, .none, .none] }) rfl
    rw [hz] at this; exact this
  refine ⟨⟨_, he, rfl⟩, h _ he ⟨_, Heap.get?_push_of_some _ (Heap.get?_push_size _ rfl), rfl, rfl⟩ (by rw [Heap.size_push, hz]) fun b o x => Heap.get?_push_of_some _ (Heap.get?_push_of_some _ x)⟩
def iEnumT (K : Fg) (ta : TA) : TI := fun σ H R => ta σ H fun vs H1 => ∃ a xs, vs = [.ref a] ∧ SqT K H1 a xs ∧ R (IteT K a) H1
theorem pi_enumT {X : Cx} {e : Expr} {ta : TA} {p pos tpos : Pos} {elts : List Expr} {kk : Nat} (hg : Gl X "enumerate") (hm : X.mg "enumerate" = none) (ha : PA X [e] ta) (hs : starEach [e] X.env = [(false, eval e X.env)] := by rfl) :
    PI X (.Tuple elts kk tpos) (.Call (.Name "enumerate" p) [e] [] pos) (iEnumT X.K ta) := by
  refine ⟨fun pins s σ H R I h => ?_⟩
  refine Call_ (ld_blt I hg hm boot_enumerate (PyProof.Rows.callWith_type1 (thn (ha.run pos pins s σ H _ I h) fun us s1 ⟨vs, H1, I1, r1, q1⟩ => ?_) hs rfl))
  obtain ⟨a, xs, ex, hq, q⟩ := q1
  subst ex
  cases r1 with
  | cons r rr =>
    cases rr
    cases r
    obtain ⟨its, rv, p', hz⟩ := I1.tuple hq
    have hlt : a < s1.heap.objs.size := p'.lt
    refine call_enumerate_tup (show s1.heap.IsTuple a its.toArray from p') fun h' he hit hsz hk => wpAny_pyIter_enum he ?_
    have I2 : Inv X pins σ H1 { s1 with heap := h' } := I1.kept (t' := s1.toks) hk
    refine ⟨s1.heap.objs.size + 1, [s1.heap.objs.size + 1, s1.heap.objs.size], _, _, H1, rfl, I2, turn_enumT a (s1.heap.objs.size + 1) s1.heap.objs.size, ⟨⟨.none, he⟩, hit, Nat.succ_ne_self _, Nat.ne_of_gt (Nat.lt_succ_of_lt hlt), Nat.ne_of_lt hlt⟩, fun b hb => ?_, q⟩
    have e' : b = s1.heap.objs.size + 1 ∨ b = s1.heap.objs.size := by simpa using hb
    have hle : s1.heap.objs.size ≤ b := by
      rcases e' with z | z
      · rw [z]; exact Nat.le_add_right _ _
      · rw [z]; exact Nat.le_refl _
    exact I1.fpOk hle (I1.hok.fresh hle)
theorem kEnumT {X : Cx} {K : Fg} (hK : X.K = K) {e : Expr} {ta : TA} {p pos tpos : Pos} {elts : List Expr} {kk : Nat} (hg : Gl X "enumerate") (hm : X.mg "enumerate" = none) (ha : PA X [e] ta) (hs : starEach [e] X.env = [(false, eval e X.env)] := by rfl) :
    PI X (.Tuple elts kk tpos) (.Call (.Name "enumerate" p) [e] [] pos) (iEnumT K ta) := hK ▸ pi_enumT hg hm ha hs
theorem kEnumL {X : Cx} {K : Fg} (hK : X.K = K) {e : Expr} {ta : TA} {p pos tpos : Pos} {elts : List Expr} {kk : Nat} (hg : Gl X "enumerate") (hm : X.mg "enumerate" = none) (ha : PA X [e] ta) (hs : starEach [e] X.env = [(false, eval e X.env)] := by rfl) :
    PI X (.Tuple elts kk tpos) (.Call (.Name "enumerate" p) [e] [] pos) (iEnum K ta) := hK ▸ pi_enum hg hm ha hs

/-! ### zip(list, tuple) -/
def ItzM (K : Fg) (a b : Addr) : It :=
  ⟨fun i H => ∃ (xs ys : List V) (x y : V), SqL K H a xs ∧ SqT K H b ys ∧ xs[i]? = some x ∧ ys[i]? = some y,
    fun i H v H' => ∃ T x y, v = .ref T ∧ H T = none ∧ H' = upd H T (.tup [x, y]) ∧ (∀ xs, SqL K H a xs → xs[i]? = some x) ∧ ∀ ys, SqT K H b ys → ys[i]? = some y,
    fun i H => ∃ xs ys : List V, SqL K H a xs ∧ SqT K H b ys ∧ i ≤ xs.length ∧ i ≤ ys.length ∧ (i = xs.length ∨ i = ys.length)⟩
theorem sep_of {z TI TO i1 i2 a b : Addr} (D : ZipApart z TI TO i1 i2 a b) (hb2 : b ≠ i1) : ZipSep2 z TI TO i1 i2 [i1, a] [i2, b] where
  TIz := D.TIz
  TOz := D.TOz
  TITO := D.TITO
  TIi1 := D.TIi1
  mem1 := by simp
  zf1 := by simp [Ne.symm D.i1z, Ne.symm D.l1z]
  Tf1 := by simp [D.TOi1, Ne.symm D.l1TO]
  TIi2 := D.TIi2
  mem2 := by simp
  zf2 := by simp [Ne.symm D.i2z, Ne.symm D.l2z]
  Tf2 := by simp [D.TOi2, Ne.symm D.l2TO]
  sep1_2 := by simp [D.i12, Ne.symm hb2]
  sep2_1 := by simp [Ne.symm D.i12, Ne.symm D.l1i2]
theorem turn_zipM {P : Program} {w : World} {K : Fg} {elts : List Expr} {kk : Nat} {tpos : Pos} {a b z TI TO i1 i2 : Addr} (D : ZipApart z TI TO i1 i2 a b) (S : ZipSep2 z TI TO i1 i2 [i1, a] [i2, b]) :
    Turn P w K (.Tuple elts kk tpos) (ItzM K a b) [z, TI, TO, i1, i2] z (fun i h => IsZip h z TI TO .none ∧ IsTupOf2 h TI (.ref i1) (.ref i2) ∧ (∃ x y, IsTupOf2 h TO x y) ∧ h.IsListIter i1 a i ∧ h.IsTupleIter i2 b i) where
  mem := by simp
  obj := fun i h st c hc => by
    obtain ⟨hz, hTI, ⟨x, y, hTO⟩, ⟨o1, e1, _, d1⟩, ⟨o2, e2, _, d2⟩⟩ := st
    have e' : c = z ∨ c = TI ∨ c = TO ∨ c = i1 ∨ c = i2 := by simpa using hc
    rcases e' with q | q | q | q | q
    · rw [q]; exact ⟨_, hz, fun v q => nomatch q⟩
    · rw [q]; exact ⟨_, hTI, fun v q => nomatch q⟩
    · rw [q]; exact ⟨_, hTO, fun v q => nomatch q⟩
    · rw [q]; exact ⟨o1, e1, fun v q => by rw [d1] at q; cases q⟩
    · rw [q]; exact ⟨o2, e2, fun v q => by rw [d2] at q; cases q⟩
  keep := fun i h h' st k => by
    obtain ⟨hz, hTI, ⟨x, y, hTO⟩, h1, h2⟩ := st
    exact ⟨k z (by simp) _ hz, k TI (by simp) _ hTI, ⟨x, y, k TO (by simp) _ hTO⟩, h1.at fun o q => k i1 (by simp) o q, h2.at fun o q => k i2 (by simp) o q⟩
  item := by
    intro X hP hw hK hc i pins s σ H E I hf st hg
    subst hP hw hK
    obtain ⟨hz, hTI, ⟨x0, y0, hTO⟩, h1, h2⟩ := st
    obtain ⟨xs, ys, x, y, hqx, hqy, hx, hy⟩ := hg
    obtain ⟨its, rv, p, _⟩ := I.list hqx
    obtain ⟨its2, rv2, p2, _⟩ := I.tuple hqy
    obtain ⟨u, hu, ru⟩ := rv.get hx
    obtain ⟨u2, hu2, ru2⟩ := rv2.get hy
    have hzl : z < s.heap.objs.size := Heap.lt_size hz
    have l1 : i < its.toArray.size := by
      have := (List.getElem?_eq_some_iff.mp hu).1
      simpa using this
    have l2 : i < its2.toArray.size := by
      have := (List.getElem?_eq_some_iff.mp hu2).1
      simpa using this
    refine wpAny_pyNext_zipD2_item S (Draws.list (A := X.A.in1) (I.ok.hd hc) i1 a D.l1i1 its.toArray) (Draws.tuple (A := X.A.in1) (I.ok.hd hc) i2 b D.l2i2 its2.toArray) hz hTI hTO ⟨h1, p.isList⟩ ⟨h2, p2⟩ l1 l2
      fun x1 x2 h' tk hx1 hx2 z' TO' h1' h2' hT hsz hk => ?_
    have e1 : x1 = u := by
      have q : its.toArray[i]? = some x1 := hx1
      rw [show its.toArray[i]? = some u by simpa using hu] at q
      cases q
      rfl
    have e2 : x2 = u2 := by
      have q : its2.toArray[i]? = some x2 := hx2
      rw [show its2.toArray[i]? = some u2 by simpa using hu2] at q
      cases q
      rfl
    subst e1 e2
    refine ⟨_, rfl, wpAny_letOwnedTupleGo_zip (s := { s with heap := h', toks := tk }) z' fun h'' z'' sb => ?_⟩
    have hT2 : h''.get? s.heap.objs.size = some { cls := .type "tuple", data := .seq #[x1, x2] } := (sb.2 _ (Nat.ne_of_gt hzl)).trans hT
    have new : ObjOk X.prog X.w (upd H s.heap.objs.size (.tup [x, y])) h'' s.heap.objs.size (.tup [x, y]) :=
      ⟨by show 2 ≤ sizeLine; decide, [x1, x2], .cons ru (.cons ru2 .nil), ⟨_, hT2, rfl, _, rfl⟩⟩
    have I1 : Inv X pins σ (upd H s.heap.objs.size (.tup [x, y])) { s with heap := h'', toks := tk } :=
      I.turnedNew (t' := tk) (ch := [z, TI, TO, i1, i2]) (fun c o hb q => (sb.2 c (fun q' => hb (by simp [q']))).trans (hk c o (fun q' => hb (by simp [q'])) (fun q' => hb (by simp [q'])) (fun q' => hb (by simp [q'])) (fun q' => hb (by simp [q'])) q)) hf (Nat.le_refl _) new
    refine ⟨.ref s.heap.objs.size, _, I1, rfl, ⟨_, x, y, rfl, I.hok.fresh (Nat.le_refl _), rfl, fun l hl => by rw [I.list_inj hl hqx]; exact hx, fun l hl => by rw [I.tuple_inj hl hqy]; exact hy⟩, ⟨z'', ?_, ⟨x1, x2, ?_⟩, ?_, ?_⟩, fun c hcm => ?_⟩
    · exact (sb.2 _ D.TIz).trans (hk _ _ D.TIz D.TITO D.TIi1 D.TIi2 hTI)
    · exact (sb.2 _ D.TOz).trans TO'
    · exact h1'.1.at fun o q => (sb.2 _ D.i1z).trans q
    · exact h2'.1.at fun o q => (sb.2 _ D.i2z).trans q
    · have hlt : c < s.heap.objs.size := by
        have e' : c = z ∨ c = TI ∨ c = TO ∨ c = i1 ∨ c = i2 := by simpa using hcm
        rcases e' with q | q | q | q | q
        · rw [q]; exact hzl
        · rw [q]; exact Heap.lt_size hTI
        · rw [q]; exact Heap.lt_size hTO
        · rw [q]; obtain ⟨_, e1, _⟩ := h1; exact Heap.lt_size e1
        · rw [q]; obtain ⟨_, e2, _⟩ := h2; exact Heap.lt_size e2
      rw [upd_ne (Nat.ne_of_lt hlt)]
      exact (hf c hcm).1
  done := by
    intro X hP hw hK hc i pins s σ H E I hf st hg
    subst hP hw hK
    obtain ⟨hz, hTI, ⟨x0, y0, hTO⟩, h1, h2⟩ := st
    obtain ⟨xs, ys, hqx, hqy, hi1, hi2, hend⟩ := hg
    obtain ⟨its, rv, p, _⟩ := I.list hqx
    obtain ⟨its2, rv2, p2, _⟩ := I.tuple hqy
    have l1 := rv.length
    have l2 := rv2.length
    exact wpAny_pyNext_zipD2_end S (Draws.list (A := X.A.in1) (I.ok.hd hc) i1 a D.l1i1 its.toArray) (Draws.tuple (A := X.A.in1) (I.ok.hd hc) i2 b D.l2i2 its2.toArray) hz hTI hTO ⟨h1, p.isList⟩ ⟨h2, p2⟩ (by simp; omega) (by simp; omega) (by simp; omega)
      fun h' tk hk => ⟨rfl, I.turnedL (t' := tk) (ch := [z, TI, TO, i1, i2]) (fun c o hb q =>
        hk c o (fun q' => hb (by simp [q'])) (fun q' => hb (by simp [q'])) (fun q' => hb (by simp [q'])) (fun q' => hb (by simp [q'])) q) hf⟩
  self := fun A i s Q E st h => wpAny_pyIter_zip st.1 h
abbrev zipMH1 (h : Heap) (l1 : Addr) : Heap := h.push { cls := .type "list_iterator", data := .fields #[.ref l1, .int 0 0] }
abbrev zipMH2 (h : Heap) (l1 l2 : Addr) : Heap := (zipMH1 h l1).push { cls := .type "tuple_iterator", data := .fields #[.ref l2, .int 0 0] }
abbrev zipMH3 (h : Heap) (l1 l2 : Addr) : Heap := (zipMH2 h l1 l2).push { cls := .type "tuple", data := .seq #[.ref h.objs.size, .ref (zipMH1 h l1).objs.size] }
abbrev zipMH4 (h : Heap) (l1 l2 : Addr) : Heap := (zipMH3 h l1 l2).push { cls := .type "tuple", data := .seq #[.none, .none] }
abbrev zipMH5 (h : Heap) (l1 l2 : Addr) : Heap := (zipMH4 h l1 l2).push { cls := .type "zip", data := .fields #[.none, .bool false, .bool false, .ref (zipMH2 h l1 l2).objs.size, .ref (zipMH3 h l1 l2).objs.size] }
theorem meets_zipM_new (l1 l2 : Addr) (xs ys : Array Value) :
    Meets (Builtin.«zip.__new__» ⟨[.type "zip", .ref l1, .ref l2], []⟩) (fun _ R s => s.heap.IsList l1 xs ∧ s.heap.IsTuple l2 ys ∧
      R (.ok (.ret (.ref (zipMH4 s.heap l1 l2).objs.size))) { s with heap := zipMH5 s.heap l1 l2 }) :=
  .of_wp fun prog w A R s h => by
    obtain ⟨hp, g, d, tk, os⟩ := s; obtain ⟨hl1, hl2, h⟩ := h
    have hsub := sub_zip
    have hL1 : Heap.IsList (Shared.heap ⟨hp, g, d, tk, os⟩) l1 xs := hl1
    have hL2 : Heap.IsTuple (Shared.heap ⟨hp.push { cls := .type "list_iterator", data := .fields #[.ref l1, .int 0 0] }, g, d, tk, os⟩) l2 ys := Heap.IsTuple.push hl2 _
    wp_walk using wpAny_pyIter_list hL1, wpAny_pyIter_tuple hL2
    exact ⟨_, rfl, h⟩
theorem call_zipM {prog : Program} {w : World} {A : Around} {E : Value → Shared → Prop} {s : Shared} {l1 l2 : Addr} {xs ys : Array Value} {Q : Value → Shared → Prop} (hl1 : s.heap.IsList l1 xs) (hl2 : s.heap.IsTuple l2 ys)
    (h : ∀ h', IsZip h' (s.heap.objs.size + 4) (s.heap.objs.size + 2) (s.heap.objs.size + 3) .none → IsTupOf2 h' (s.heap.objs.size + 2) (.ref s.heap.objs.size) (.ref (s.heap.objs.size + 1)) →
      IsTupOf2 h' (s.heap.objs.size + 3) .none .none → h'.IsListIter s.heap.objs.size l1 0 → h'.IsTupleIter (s.heap.objs.size + 1) l2 0 → h'.objs.size = s.heap.objs.size + 5 →
      (∀ c o, s.heap.get? c = some o → h'.get? c = some o) → Q (.ref (s.heap.objs.size + 4)) { s with heap := h' }) :
    wpAny (model prog w) A (call (.type "zip") [.ref l1, .ref l2]) Q E s := by
  refine callType_new F.called_zip (by decide) (F.typeCall_zip_2 _ _) (F.newCall_zip_2 _ _) (fun obj => F.args_object_init_3 obj _ _) F.entry_zip_new
    (meets_zipM_new l1 l2 xs ys) ⟨hl1, hl2, ?_⟩
  have z1 : (zipMH1 s.heap l1).objs.size = s.heap.objs.size + 1 := Heap.size_push ..
  have z2 : (zipMH2 s.heap l1 l2).objs.size = s.heap.objs.size + 2 := by rw [Heap.size_push, z1]
  have z3 : (zipMH3 s.heap l1 l2).objs.size = s.heap.objs.size + 3 := by rw [Heap.size_push, z2]
  have z4 : (zipMH4 s.heap l1 l2).objs.size = s.heap.objs.size + 4 := by rw [Heap.size_push, z3]
  have z5 : (zipMH5 s.heap l1 l2).objs.size = s.heap.objs.size + 5 := by rw [Heap.size_push, z4]
  have g5 : (zipMH5 s.heap l1 l2).get? (zipMH4 s.heap l1 l2).objs.size = some _ := Heap.get?_push_size _ rfl
  have g4 : (zipMH5 s.heap l1 l2).get? (zipMH3 s.heap l1 l2).objs.size = some _ := Heap.get?_push_of_some _ (Heap.get?_push_size _ rfl)
  have g3 : (zipMH5 s.heap l1 l2).get? (zipMH2 s.heap l1 l2).objs.size = some _ := Heap.get?_push_of_some _ (Heap.get?_push_of_some _ (Heap.get?_push_size _ rfl))
  have g2 : (zipMH5 s.heap l1 l2).get? (zipMH1 s.heap l1).objs.size = some _ := Heap.get?_push_of_some _ (Heap.get?_push_of_some _ (Heap.get?_push_of_some _ (Heap.get?_push_size _ rfl)))
  have g1 : (zipMH5 s.heap l1 l2).get? s.heap.objs.size = some _ := Heap.get?_push_of_some _ (Heap.get?_push_of_some _ (Heap.get?_push_of_some _ (Heap.get?_push_of_some _ (Heap.get?_push_size _ rfl))))
  show _ ∧ _
  rw [z2, z3, z4] at g5
  rw [z1, z2] at g3
  rw [z3] at g4
  rw [z1] at g2
  rw [z4]
  exact ⟨⟨_, g5, rfl⟩, h _ g5 g3 g4 ⟨_, g1, rfl, rfl⟩ ⟨_, g2, rfl, rfl⟩ z5 fun c o x =>
    Heap.get?_push_of_some _ (Heap.get?_push_of_some _ (Heap.get?_push_of_some _ (Heap.get?_push_of_some _ (Heap.get?_push_of_some _ x))))⟩
def iZipM (K : Fg) (ta : TA) : TI := fun σ H R => ta σ H fun vs H1 => ∃ a b xs ys, vs = [.ref a, .ref b] ∧ SqL K H1 a xs ∧ SqT K H1 b ys ∧ R (ItzM K a b) H1
theorem pi_zipM {X : Cx} {e e2 : Expr} {ta : TA} {p pos tpos : Pos} {elts : List Expr} {kk : Nat} (hg : Gl X "zip") (hm : X.mg "zip" = none) (ha : PA X [e, e2] ta)
    (hs : starEach [e, e2] X.env = (false, eval e X.env) :: starEach [e2] X.env := by rfl) (hpl : (backTo pos (starEach [e2] X.env)).any (·.1) = false := by rfl) :
    PI X (.Tuple elts kk tpos) (.Call (.Name "zip" p) [e, e2] [] pos) (iZipM X.K ta) := by
  refine ⟨fun pins s σ H R I h => ?_⟩
  refine Call_ (ld_blt I hg hm PyProof.Rows.boot_zip (PyProof.Rows.callWith_type1 (thn (ha.run pos pins s σ H _ I h) fun us s1 ⟨vs, H1, I1, r1, q1⟩ => ?_) hs hpl))
  obtain ⟨a, b, xs, ys, ex, hqx, hqy, q⟩ := q1
  subst ex
  cases r1 with
  | cons r rr =>
    cases rr with
    | cons r' rr =>
      cases rr
      cases r
      cases r'
      have fresh5 : ∀ c, c ∈ [s1.heap.objs.size + 4, s1.heap.objs.size + 2, s1.heap.objs.size + 3, s1.heap.objs.size, s1.heap.objs.size + 1] → FpOk X pins H1 c := fun c hcm => by
        have e' : c = s1.heap.objs.size + 4 ∨ c = s1.heap.objs.size + 2 ∨ c = s1.heap.objs.size + 3 ∨ c = s1.heap.objs.size ∨ c = s1.heap.objs.size + 1 := by simpa using hcm
        have hle : s1.heap.objs.size ≤ c := by
          rcases e' with z | z | z | z | z
          · rw [z]; exact Nat.le_add_right _ _
          · rw [z]; exact Nat.le_add_right _ _
          · rw [z]; exact Nat.le_add_right _ _
          · rw [z]; exact Nat.le_refl _
          · rw [z]; exact Nat.le_add_right _ _
        exact I1.fpOk hle (I1.hok.fresh hle)
      obtain ⟨its, rv, p1, _⟩ := I1.list hqx
      obtain ⟨its2, rv2, p2, _⟩ := I1.tuple hqy
      have D := PySem.W.ktu_apart s1.heap.objs.size a b p1.lt p2.lt
      refine call_zipM p1.isList (show s1.heap.IsTuple b its2.toArray from p2) fun h' hz hTI hTO h1 h2 hsz hk => wpAny_pyIter_zip hz ?_
      have I2 : Inv X pins σ H1 { s1 with heap := h' } := I1.kept (t' := s1.toks) hk
      exact ⟨s1.heap.objs.size + 4, [s1.heap.objs.size + 4, s1.heap.objs.size + 2, s1.heap.objs.size + 3, s1.heap.objs.size, s1.heap.objs.size + 1], _, _, H1, rfl, I2, turn_zipM D (sep_of D (Nat.ne_of_lt p2.lt)), ⟨hz, hTI, ⟨_, _, hTO⟩, h1, h2⟩, fresh5, q⟩
theorem kZipM {X : Cx} {K : Fg} (hK : X.K = K) {e e2 : Expr} {ta : TA} {p pos tpos : Pos} {elts : List Expr} {kk : Nat} (hg : Gl X "zip") (hm : X.mg "zip" = none) (ha : PA X [e, e2] ta)
    (hs : starEach [e, e2] X.env = (false, eval e X.env) :: starEach [e2] X.env := by rfl) (hpl : (backTo pos (starEach [e2] X.env)).any (·.1) = false := by rfl) :
    PI X (.Tuple elts kk tpos) (.Call (.Name "zip" p) [e, e2] [] pos) (iZipM K ta) := hK ▸ pi_zipM hg hm ha hs hpl
theorem kZipT {X : Cx} {K : Fg} (hK : X.K = K) {e e2 : Expr} {ta : TA} {p pos tpos : Pos} {elts : List Expr} {kk : Nat} (hg : Gl X "zip") (hm : X.mg "zip" = none) (ha : PA X [e, e2] ta)
    (hs : starEach [e, e2] X.env = (false, eval e X.env) :: starEach [e2] X.env := by rfl) (hpl : (backTo pos (starEach [e2] X.env)).any (·.1) = false := by rfl) :
    PI X (.Tuple elts kk tpos) (.Call (.Name "zip" p) [e, e2] [] pos) (RZ.iZipA K ta) := hK ▸ RZ.pi_zipA hg hm ha hs hpl

/-! ### as data -/
section
variable {K : Fg} {σ : L2.St} {H H' : Hp} {ta : TA} {ds es : List PyData} {M : List Addr}
/-- an enumerated list, tuple -/
def enumD (ds : List PyData) : List PyData := (List.range ds.length).map fun i => .tuple [nI i, ds.getD i .none]
theorem enumD_get {i : Nat} {d : PyData} (h : ds[i]? = some d) : (enumD ds)[i]? = some (.tuple [nI i, d]) := by
  have hi : i < ds.length := (List.getElem?_eq_some_iff.mp h).1
  unfold enumD
  rw [List.getElem?_map, List.getElem?_range hi]
  simp [List.getD_eq_getElem?_getD, h]
theorem enumD_len : (enumD ds).length = ds.length := by simp [enumD]
theorem es_enumT (h : EvA K ta σ H [.tuple ds]) (hM : ∀ H1, Ex H H1 → MutS H1 M) (hn : nlAll ds = true ∨ M = []) : EvS K M (iEnumT K ta) σ H (enumD ds) := fun H1 e R q => h H1 e _ fun vs H2 e2 hv => by
  obtain ⟨v, rfl, hv'⟩ := dpAll1 hv
  replace hv := hv'
  obtain ⟨a, xs, rfl, ha, hxs⟩ := hv.tuple_inv
  refine ⟨a, xs, rfl, ha, q _ H2 e2 ?_⟩
  have m := hM H2 (e.trans e2)
  have hl := hxs.length
  have keepT : ∀ {H3}, ExB M H2 H3 → SqT K H3 a xs := fun e3 => sqT_keep m e3 ha
  refine ⟨fun i H3 hi e3 => ?_, fun H3 e3 => ⟨xs, keepT e3, by rw [enumD_len]; omega⟩, fun i H3 x H4 hi e3 y => ?_⟩
  · rw [enumD_len] at hi
    exact ⟨xs, xs[i]'(by omega), keepT e3, List.getElem?_eq_getElem (by omega)⟩
  · obtain ⟨T, x0, rfl, hT, rfl, hx⟩ := y
    obtain ⟨d, hd, hdx⟩ := hxs.get (hx xs (keepT e3))
    have hnw := Ex.new (o := .tup [.int (i : Nat), x0]) hT
    have hd3 : Dp K H3 x0 d := by
      rcases hn with hn | rfl
      · exact hdx.keep m e3 (nlAll_iff.mp hn d (List.mem_of_getElem? hd))
      · exact hdx.ex e3.nil
    exact ⟨hnw, _, enumD_get hd, .tup (SqT.of upd_same) (.cons (.int _) (.cons (hd3.ex hnw) .nil))⟩
theorem es_enumL (h : EvA K ta σ H [.list ds]) (hM : ∀ H1, Ex H H1 → MutS H1 M) (ha : ∀ a H1, Ex H H1 → Dp K H1 (.ref a) (.list ds) → a ∉ M) (hn : nlAll ds = true ∨ M = []) : EvS K M (iEnum K ta) σ H (enumD ds) := fun H1 e R q => h H1 e _ fun vs H2 e2 hv => by
  obtain ⟨v, rfl, hv'⟩ := dpAll1 hv
  replace hv := hv'
  obtain ⟨a, xs, rfl, hs, hxs⟩ := id hv.list_inv
  have na := ha a H2 (e.trans e2) hv
  refine ⟨a, xs, rfl, hs, q _ H2 e2 ?_⟩
  have m := hM H2 (e.trans e2)
  have hl := hxs.length
  have keepL : ∀ {H3}, ExB M H2 H3 → SqL K H3 a xs := fun e3 => sqL_keep na e3 hs
  refine ⟨fun i H3 hi e3 => ?_, fun H3 e3 => ⟨xs, keepL e3, by rw [enumD_len]; omega⟩, fun i H3 x H4 hi e3 y => ?_⟩
  · rw [enumD_len] at hi
    exact ⟨xs, xs[i]'(by omega), keepL e3, List.getElem?_eq_getElem (by omega)⟩
  · obtain ⟨T, x0, rfl, hT, rfl, hx⟩ := y
    obtain ⟨d, hd, hdx⟩ := hxs.get (hx xs (keepL e3))
    have hnw := Ex.new (o := .tup [.int (i : Nat), x0]) hT
    have hd3 : Dp K H3 x0 d := by
      rcases hn with hn | rfl
      · exact hdx.keep m e3 (nlAll_iff.mp hn d (List.mem_of_getElem? hd))
      · exact hdx.ex e3.nil
    exact ⟨hnw, _, enumD_get hd, .tup (SqT.of upd_same) (.cons (.int _) (.cons (hd3.ex hnw) .nil))⟩
/-- zipped -/
def zipD (ds es : List PyData) : List PyData := (ds.zip es).map fun p => .tuple [p.1, p.2]
theorem zipD_get {i : Nat} {d e : PyData} (h : ds[i]? = some d) (h' : es[i]? = some e) : (zipD ds es)[i]? = some (.tuple [d, e]) := by
  unfold zipD
  rw [List.getElem?_map, List.getElem?_zip_eq_some (z := (d, e)) |>.mpr ⟨h, h'⟩]
  rfl
theorem zipD_len : (zipD ds es).length = min ds.length es.length := by simp [zipD]
theorem es_zipT (h : EvA K ta σ H [.tuple ds, .tuple es]) : EvS K [] (RZ.iZipA K ta) σ H (zipD ds es) := fun H1 e R q => h H1 e _ fun vs H2 e2 hv => by
  obtain ⟨v, w, rfl, hv, hw⟩ := dpAll2 hv
  obtain ⟨a, xs, rfl, ha, hxs⟩ := hv.tuple_inv
  obtain ⟨b, ys, rfl, hb, hys⟩ := hw.tuple_inv
  refine ⟨a, b, xs, ys, rfl, .inr ⟨ha, hb, q _ H2 e2 ?_⟩⟩
  have l1 := hxs.length
  have l2 := hys.length
  refine ⟨fun i H3 hi e3 => ?_, fun H3 e3 => ⟨xs, ys, Evl.ex_t e3.nil ha, Evl.ex_t e3.nil hb, by rw [zipD_len]; omega⟩, fun i H3 x H4 hi e3 y => ?_⟩
  · rw [zipD_len] at hi
    exact ⟨xs, ys, xs[i]'(by omega), ys[i]'(by omega), Evl.ex_t e3.nil ha, Evl.ex_t e3.nil hb, List.getElem?_eq_getElem (by omega), List.getElem?_eq_getElem (by omega)⟩
  · obtain ⟨T, x0, y0, rfl, hT, rfl, hx, hy⟩ := y
    obtain ⟨d, hd, hdx⟩ := hxs.get (hx xs (Evl.ex_t e3.nil ha))
    obtain ⟨d', hd', hdy⟩ := hys.get (hy ys (Evl.ex_t e3.nil hb))
    have hnw := Ex.new (o := .tup [x0, y0]) hT
    exact ⟨hnw, _, zipD_get hd hd', .tup (SqT.of upd_same) (.cons ((hdx.ex e3.nil).ex hnw) (.cons ((hdy.ex e3.nil).ex hnw) .nil))⟩
theorem es_zipM (h : EvA K ta σ H [.list ds, .tuple es]) : EvS K [] (iZipM K ta) σ H (zipD ds es) := fun H1 e R q => h H1 e _ fun vs H2 e2 hv => by
  obtain ⟨v, w, rfl, hv, hw⟩ := dpAll2 hv
  obtain ⟨a, xs, rfl, ha, hxs⟩ := hv.list_inv
  obtain ⟨b, ys, rfl, hb, hys⟩ := hw.tuple_inv
  refine ⟨a, b, xs, ys, rfl, ha, hb, q _ H2 e2 ?_⟩
  have l1 := hxs.length
  have l2 := hys.length
  refine ⟨fun i H3 hi e3 => ?_, fun H3 e3 => ⟨xs, ys, Evl.ex_l e3.nil ha, Evl.ex_t e3.nil hb, by rw [zipD_len]; omega⟩, fun i H3 x H4 hi e3 y => ?_⟩
  · rw [zipD_len] at hi
    exact ⟨xs, ys, xs[i]'(by omega), ys[i]'(by omega), Evl.ex_l e3.nil ha, Evl.ex_t e3.nil hb, List.getElem?_eq_getElem (by omega), List.getElem?_eq_getElem (by omega)⟩
  · obtain ⟨T, x0, y0, rfl, hT, rfl, hx, hy⟩ := y
    obtain ⟨d, hd, hdx⟩ := hxs.get (hx xs (Evl.ex_l e3.nil ha))
    obtain ⟨d', hd', hdy⟩ := hys.get (hy ys (Evl.ex_t e3.nil hb))
    have hnw := Ex.new (o := .tup [x0, y0]) hT
    exact ⟨hnw, _, zipD_get hd hd', .tup (SqT.of upd_same) (.cons ((hdx.ex e3.nil).ex hnw) (.cons ((hdy.ex e3.nil).ex hnw) .nil))⟩
end
end NS
set_option Elab.async false
set_option linter.all false
set_option maxRecDepth 100000
set_option maxHeartbeats 4000000
namespace NS
open PySem PySem.Spec PyProof.Rows L2
open Evl (Ex)
/-! ### dicts whose keys are tuples: comprehensions, setdefault -/
theorem d_dictSetT {X : Cx} {pins : List (Addr × Obj)} {σ : L2.St} {H : Hp} {s : Shared} {E : Value → Shared → Prop} {D b : Addr} {kvs : List (List Key × V)} {k : List Key} {v : V} {u r : Value} {Q : Unit → Shared → Prop} (hu : X.A.units + 1 < cLine) (I : Inv X pins σ H s) (hD : H D = some (.dT kvs)) (hb : H b = some (.tup (k.map kV)))
    (hz : kvs.length < sizeLine) (ry : RelV (.ref b) u) (rv : RelV v r) (h : ∀ s', Inv X pins σ (upd H D (.dT (putK kvs k v))) s' → Q () s') : wpAny (model X.prog X.w) X.A (dictSet D u r) Q E s := by
  cases (show u = Value.ref b from ry)
  obtain ⟨z, hd, xs, rel, dd⟩ := dt_of I.hok hD
  have hzv : xs.length ≤ sizeLine := by rw [← Paired.length rel]; exact z
  have hl : (putK kvs k v).length ≤ sizeLine := by have := length_putK kvs k v; omega
  have room : (tupleKind (mixKind X.prog X.w)).room X.A := show X.A.units < cLine by omega
  refine wpAny_dictSet_heap (hsz := hzv) room (key_of I.hok hb) dd fun h' dd' hs => h _ ?_
  obtain ⟨q, es, ep, hq, h2, h3, h4, _, h5⟩ := dd'
  refine d_write I (by rw [hD]; exact True.intro) hs ⟨q, hq⟩ ⟨hl, hd, _, (rel.put k hb rv).keeps fun c ys ec => ?_, q, es, ep, hq, h2, h3, h4, h5⟩
  rw [upd_ne (ne_of ec hD (fun z => nomatch z))]
  exact ec
section
variable {X : Cx}
/-- {k: v for target in iter if ..}, the keys tuples -/
def tDcT (wi : TI) (g : TG) (tt : TT) (tk tv : TE) (vs : List Nat) : TE := fun σ H Q => wi σ H fun J H1 => ∀ D, H1 D = none → ∃ W : Nat → Nat → Hp → Prop, (∃ m, W 0 m (upd H1 D (.dT []))) ∧ ∀ i m H, W i m H →
  (J.stop i H ∧ Q (.ref D) H) ∨ (J.go i H ∧ ∃ Nx : Hp → Prop, (∀ H', Nx H' → ∃ m', m' < m ∧ W (i + 1) m' H') ∧ ∀ x H', J.yld i H x H' → g x (wipe σ vs) H' fun σ2 H2 => wipe σ2 vs = wipe σ vs ∧ tt σ2 H2 fun b H3 =>
    if b = true then tk σ2 H3 fun y H4 => tv σ2 H4 fun z H5 => ∃ kvs k b, y = .ref b ∧ H5 D = some (.dT kvs) ∧ H5 b = some (.tup (k.map kV)) ∧ kvs.length < sizeLine ∧ Nx (upd H5 D (.dT (putK kvs k z))) else Nx H3)
theorem dcT_core {pins : List (Addr × Obj)} {s : Shared} {σ : L2.St} {H : Hp} {Q : VK} {kx vx tg iter : Expr} {ifs : List Expr} {scope : Scope} {own : List (Str × Nat)} {pos pos' : Pos} {wi : TI} {g : TG} {tt : TT} {tk tv : TE} {use : Option (Value → Sem Unit)} {Qf : Value → Shared → Prop}
    (hu : X.A.units + 1 < cLine) (hc : X.calm = true) (hN : X.N.Nodup) (I : Inv X pins σ H s) (hi : PI X tg iter wi) (ok : BlkOk X.N X.env.scope scope own)
    (hg : ∀ (s : Shared) (H : Hp) (C : Addr) (cl : List (Str × Addr)) (fp : List Addr), PG (X.blk s H scope (compEnvC scope cl C X.env) fp) tg g) (ht : ∀ (s : Shared) (H : Hp) (C : Addr) (cl : List (Str × Addr)) (fp : List Addr), PTs (X.blk s H scope (compEnvC scope cl C X.env) fp) ifs tt)
    (hk : ∀ (s : Shared) (H : Hp) (C : Addr) (cl : List (Str × Addr)) (fp : List Addr), PE (X.blk s H scope (compEnvC scope cl C X.env) fp) kx tk)
    (he : ∀ (s : Shared) (H : Hp) (C : Addr) (cl : List (Str × Addr)) (fp : List Addr), PE (X.blk s H scope (compEnvC scope cl C X.env) fp) vx tv) (hs : ∀ x, foldedSetIterable iter X.env x = pure x)
    (h : tDcT wi g tt tk tv (own.map (·.2)) σ H Q)
    (hRR : ∀ D C s' m H', Inv X pins σ H' s' → Q (.ref D) H' → s'.heap.Ns C m → FpOk X pins H' C → compPost (model X.prog X.w) X.A X.xe use Qf (.ref D) C (.ok .next) s') :
    wpAny (model X.prog X.w) X.A (comprehension (.DictComp kx vx [⟨tg, iter, ifs, 0⟩] scope pos) scope X.env pos' newDict false (eval iter X.env) use) Qf X.xe s := by
  have hfree : ∀ y ∈ scope.names, y.2 = .free → ∃ c, X.env.cells.lookup y.1 = some c := fun y hy e => by
    rcases ok.free y hy e with k | k
    · exact I.ok.has _ (.inl k)
    · exact I.ok.has _ (.inr k)
  refine wpAny_comprehension_free (use := use) rfl hs (closure_ok hfree) ok.kind (fun y hy e => by rw [ok.uniq y hy, e])
    (thn (hi.run pins s σ H _ I h) fun xv s1 hx => thn hx fun itv s2 h2 => ?_)
  obtain ⟨it, fp, tn, J, H2, e, I2, T, st2, f2, q⟩ := h2
  subst e
  refine wpAny_newObj_type (newEnv_comp ?_)
  generalize hD : s2.heap.objs.size = D
  have hDn : H2 D = none := I2.hok.fresh (Nat.le_of_eq hD)
  obtain ⟨W, ⟨m0, w0⟩, turn⟩ := q D hDn
  -- the new list
  generalize hs3 : ({ s2 with heap := s2.heap.push { cls := .type "dict", data := .dict #[] } } : Shared) = s3
  have I3 : Inv X pins σ (upd H2 D (.dT [])) s3 := by
    rw [← hs3]
    refine I2.laid (t' := s2.toks) (fun b o e => Heap.get?_push_of_some _ e) (Nat.le_of_eq hD) ?_
    rw [← hD]
    exact dt_empty s2.heap I2.big
  have h3 : s3.heap = s2.heap.push { cls := .type "dict", data := .dict #[] } := by rw [← hs3]
  have sz : ∀ b ∈ fp, b < s2.heap.objs.size := fun b hb => by
    obtain ⟨o, e, _⟩ := T.obj _ _ st2 b hb
    exact Heap.lt_size e
  have f3 : ∀ b ∈ fp, FpOk X pins (upd H2 D (.dT [])) b ∧ b < s3.heap.objs.size := fun b hb => by
    have hlt := sz b hb
    refine ⟨⟨?_, (f2 b hb).2⟩, by rw [h3, Heap.size_push]; exact Nat.lt_succ_of_lt hlt⟩
    rw [upd_ne (by rw [← hD]; exact Nat.ne_of_lt hlt)]
    exact (f2 b hb).1
  have st3 : tn 0 s3.heap := T.keep _ _ _ st2 fun b _ o e => by rw [h3]; exact Heap.get?_push_of_some _ e
  have I4 := block_start I3 ok hN f3
  have pg := hg s3 (upd H2 D (.dT [])) s3.heap.objs.size (cellsFrom (s3.heap.objs.size + 1) scope.names (cloFrom X.env.cells scope.names [])) fp
  have pt := ht s3 (upd H2 D (.dT [])) s3.heap.objs.size (cellsFrom (s3.heap.objs.size + 1) scope.names (cloFrom X.env.cells scope.names [])) fp
  have pk := hk s3 (upd H2 D (.dT [])) s3.heap.objs.size (cellsFrom (s3.heap.objs.size + 1) scope.names (cloFrom X.env.cells scope.names [])) fp
  have pe := he s3 (upd H2 D (.dT [])) s3.heap.objs.size (cellsFrom (s3.heap.objs.size + 1) scope.names (cloFrom X.env.cells scope.names [])) fp
  show codeAny _ _ (.compStart (.DictComp kx vx [⟨tg, iter, ifs, 0⟩] scope pos) 0 (.ref it) (.ref D) (compEnvC scope (cellsFrom (s3.heap.objs.size + 1) scope.names (cloFrom X.env.cells scope.names [])) s3.heap.objs.size X.env)) (compPost (model X.prog X.w) X.A X.xe use Qf (.ref D) s3.heap.objs.size) { s3 with heap := pushCells (s3.heap.push { cls := .type "dict", data := .dict #[] }) scope.names }
  have nfp : ∀ b ∈ fp, (upd H2 D (.dT [])) b = none := fun b hb => (f3 b hb).1.1
  generalize hce : compEnvC scope (cellsFrom (s3.heap.objs.size + 1) scope.names (cloFrom X.env.cells scope.names [])) s3.heap.objs.size X.env = ce at I4 pg pt pk pe ⊢
  have cL : ce.locals = s3.heap.objs.size := by subst hce; rfl
  generalize hH3 : upd H2 D (.dT []) = H3 at I3 I4 pg pt pk pe w0 nfp f3
  generalize hs4 : ({ s3 with heap := pushCells (s3.heap.push { cls := .type "dict", data := .dict #[] }) scope.names } : Shared) = s4 at I4 ⊢
  have st4 : tn 0 s4.heap := T.keep _ _ _ st3 fun b _ o e => by rw [← hs4]; exact pushCells_keeps _ _ _ _ (Heap.get?_push_of_some _ e)
  have stat : ∀ {σ' : L2.St} {H' : Hp} {s' : Shared}, Inv (X.blk s3 H3 scope ce fp) [] σ' H' s' → (∀ b ∈ fp, H' b = none) → ∀ b ∈ fp, FpOk (X.blk s3 H3 scope ce fp) [] H' b := fun {σ' H' s'} I' hn b hb =>
    ⟨hn b hb, (I'.ok.exf b hb).1, I'.ok.exfs b hb, .inl hb, fun x c e => (I'.ok.exf b hb).2 x c e, fun p hp => absurd (show p ∈ ([] : List (Addr × Obj)) ++ [] from hp) (by simp)⟩
  have loop : codeAny (model X.prog X.w) X.A (.compLoop (.DictComp kx vx [⟨tg, iter, ifs, 0⟩] scope pos) 0 (.ref it) (.ref D) ce) (compPost (model X.prog X.w) X.A X.xe use Qf (.ref D) s3.heap.objs.size) s4 := by
    refine compLoop_anyD (fun n s' => ∃ i H', Inv (X.blk s3 H3 scope ce fp) [] (wipe σ (own.map (·.2))) H' s' ∧ tn i s'.heap ∧ (∀ b ∈ fp, H' b = none) ∧ W i n H') ?_ m0 ⟨0, H3, I4, st4, nfp, w0⟩
    rintro n s5 ⟨i, H5, I5, st5, n5, w5⟩
    rcases turn i n H5 w5 with ⟨stop, qq⟩ | ⟨go, Nx, hNx, step⟩
    · have td := T.done (X.blk s3 H3 scope ce fp) rfl rfl rfl hc i [] s5 _ H5 (fun _ _ => False) I5 (stat I5 n5) st5 stop
      refine thnF td fun r s6 ⟨hr, I6⟩ => ?_
      subst hr
      -- back in the def's context
      have I7 : Inv X pins σ H5 s6 := I3.call' (ch := fp) I6.os I6.base I6.hok I6.bare fun b hb => ⟨(f3 b hb).1.2.2.2.1, (f3 b hb).1.2.1, (f3 b hb).1.2.2.2.2.1, (f3 b hb).1.2.2.2.2.2⟩
      have nC : H5 s3.heap.objs.size = none := by
        have z : H5 ce.locals = none := I6.free
        rw [cL] at z
        exact z
      obtain ⟨m, hn, _⟩ := I6.loc
      have hn : s6.heap.Ns ce.locals m := hn
      rw [cL] at hn
      exact hRR D s3.heap.objs.size s6 m H5 I7 qq hn (I3.fpOk (Nat.le_refl _) nC)
    · have ti := T.item (X.blk s3 H3 scope ce fp) rfl rfl rfl hc i [] s5 _ H5 (fun _ _ => False) I5 (stat I5 n5) st5 go
      refine thnF ti fun r s6 ⟨u, hr, h6⟩ => ?_
      subst hr
      refine thnF h6 fun _ s7 ⟨x, H7, I7, r7, y7, st7, n7⟩ => ?_
      have I7' := I7.pinned (stat I7 n7) (T.obj _ _ st7)
      refine thnF (pg.run _ s7 _ H7 x u _ I7' r7 (step x H7 y7)) fun _ s8 ⟨σ8, H8, I8, hw8, q8⟩ => ?_
      refine thnF (pt.run _ s8 σ8 H8 _ I8 q8) fun b s9 ⟨H9, I9, q9⟩ => ?_
      -- the turn's end
      have fin : ∀ {s' : Shared} {H' : Hp}, Inv (X.blk s3 H3 scope ce fp) ([] ++ pinsAt fp s7.heap) σ8 H' s' → Nx H' → ∃ m, m < n ∧ ∃ i H', Inv (X.blk s3 H3 scope ce fp) [] (wipe σ (own.map (·.2))) H' s' ∧ tn i s'.heap ∧ (∀ b ∈ fp, H' b = none) ∧ W i m H' := fun {s' H'} I' nx => by
        obtain ⟨m', hm, w'⟩ := hNx H' nx
        have pin' : ∀ b ∈ fp, ∀ o, s7.heap.get? b = some o → s'.heap.get? b = some o ∧ H' b = none := fun b hb o e =>
          let z := I'.pin (b, o) (List.mem_append_right _ (List.mem_append_right _ (mem_pinsAt hb e)))
          ⟨z.1, z.2.1⟩
        have hl : (wipe σ (own.map (·.2))).length = σ8.length := by rw [← hw8, wipe_length]
        refine ⟨m', hm, i + 1, H', (I'.unpinned (pins := [])).weak hl (fun j v e => ?_), T.keep _ _ _ st7 fun b hb o e => (pin' b hb o e).1, fun b hb => ?_, w'⟩
        · rw [← hw8] at e
          exact (wipe_some e).1
        · obtain ⟨o, e, _⟩ := T.obj _ _ st7 b hb
          exact (pin' b hb o e).2
      cases b with
      | false =>
        simp only [Bool.false_eq_true, if_false] at q9 ⊢
        exact fin I9 q9
      | true =>
        simp only [if_true] at q9 ⊢
        refine thnF (pk.run _ s9 σ8 H9 _ I9 q9) fun z s10 ⟨yk, H10, I10, r10, q10⟩ => ?_
        refine thnF (pe.run _ s10 σ8 H10 _ I10 q10) fun z2 s11 ⟨yv, H11, I11, r11, kvs, k, b, ek, hD11, hb11, hz11, nx⟩ => ?_
        subst ek
        exact d_dictSetT (X := X.blk s3 H3 scope ce fp) hu I11 hD11 hb11 hz11 r10 r11 fun s12 I12 => fin I12 nx
  exact codeAny_compStart_dict loop (T.self X.A 0 _ _ _ st4 loop)
theorem pe_dcT {kx vx tg iter : Expr} {ifs : List Expr} {scope : Scope} {own : List (Str × Nat)} {pos : Pos} {wi : TI} {g : TG} {tt : TT} {tk tv : TE} (hu : X.A.units + 1 < cLine) (hc : X.calm = true) (hN : X.N.Nodup) (hi : PI X tg iter wi) (ok : BlkOk X.N X.env.scope scope own)
    (hg : ∀ (s : Shared) (H : Hp) (C : Addr) (cl : List (Str × Addr)) (fp : List Addr), PG (X.blk s H scope (compEnvC scope cl C X.env) fp) tg g) (ht : ∀ (s : Shared) (H : Hp) (C : Addr) (cl : List (Str × Addr)) (fp : List Addr), PTs (X.blk s H scope (compEnvC scope cl C X.env) fp) ifs tt)
    (hk : ∀ (s : Shared) (H : Hp) (C : Addr) (cl : List (Str × Addr)) (fp : List Addr), PE (X.blk s H scope (compEnvC scope cl C X.env) fp) kx tk)
    (he : ∀ (s : Shared) (H : Hp) (C : Addr) (cl : List (Str × Addr)) (fp : List Addr), PE (X.blk s H scope (compEnvC scope cl C X.env) fp) vx tv) (hs : ∀ x, foldedSetIterable iter X.env x = pure x := by intro _; rfl) :
    PE X (.DictComp kx vx [⟨tg, iter, ifs, 0⟩] scope pos) (tDcT wi g tt tk tv (own.map (·.2))) := by
  refine ⟨fun pins s σ H Q I h => ?_⟩
  rw [arm_eval_DictComp]
  refine dcT_core hu hc hN I hi ok hg ht hk he hs h fun D C s' m H' I' q hn f => ⟨m, hn, fun h'' sb => ?_⟩
  obtain ⟨f0, f1, f2, f3, f4, f5⟩ := f
  exact ⟨.ref D, H', I'.turned (t' := s'.toks) (fun b o hb e => (sb.2 b hb).trans e) f0 f1 f3 f4 f5, rfl, q⟩
end
/-! ### d.setdefault(t, x) -/
section
variable {X : Cx} {pins : List (Addr × Obj)} {σ : L2.St} {H : Hp} {s : Shared} {a b : Addr} {u r : Value} {d : V} {k : List Key} {A : Around} {E : Value → Shared → Prop}
theorem d_setdT {kvs : List (List Key × V)} {Q : Value → Shared → Prop} (hu : A.units + 1 < cLine) (I : Inv X pins σ H s) (e : H a = some (.dT kvs)) (hb : H b = some (.tup (k.map kV))) (rd : RelV d r) (hl : kvs.length < sizeLine)
    (h1 : ∀ v, valV kvs k = some v → ∀ (w' : Value) (s' : Shared), Inv X pins σ H s' → RelV v w' → Q w' s') (h2 : valV kvs k = none → ∀ (w' : Value) (s' : Shared), Inv X pins σ (upd H a (.dT (putK kvs k d))) s' → RelV d w' → Q w' s') :
    wpAny (model X.prog X.w) A (call (.builtin "dict.setdefault") [.ref a, .ref b, r]) Q E s := by
  obtain ⟨z, hd, xs, rel, dd⟩ := dt_of I.hok e
  have hz : xs.length ≤ sizeLine := by rw [← Paired.length rel]; exact z
  refine call_setdefault_heap (knd := tupleKind (mixKind X.prog X.w)) (tupleKind_room_in1 hu) (key_of I.hok hb) hd dd ?_ ?_ hz
  · intro p hp
    have q := rel.val k
    rw [hp] at q
    cases q0 : valV kvs k with
    | none =>
      rw [q0] at q
      exact (show False from q).elim
    | some v0 =>
      rw [q0] at q
      exact h1 v0 q0 _ _ (I.tok _) q
  · intro hn h' dd' hs
    have q := rel.val k
    rw [hn] at q
    cases q0 : valV kvs k with
    | some v0 =>
      rw [q0] at q
      exact (show False from q).elim
    | none =>
      have hl2 : (putK kvs k d).length ≤ sizeLine := by have := length_putK kvs k d; omega
      obtain ⟨q', es, ep, hq, g2, g3, g4, _, g5⟩ := dd'
      refine h2 q0 _ _ (d_write I (by rw [e]; exact True.intro) hs ⟨q', hq⟩ ⟨hl2, hd, _, (rel.put k hb rd).keeps fun c ys ec => ?_, q', es, ep, hq, g2, g3, g4, g5⟩) rd
      rw [upd_ne (ne_of ec e (fun z => nomatch z))]
      exact ec
end
def tDSetdT (td ty tx : TE) : TE := fun σ H Q => td σ H fun x H1 => ∃ a, x = .ref a ∧ IsD H1 a ∧ ty σ H1 fun y H2 => tx σ H2 fun z H3 => ∃ (kvs : List (List Key × V)) (k : List Key) (b : Addr), H3 a = some (.dT kvs) ∧ y = .ref b ∧ H3 b = some (.tup (k.map kV)) ∧ kvs.length < sizeLine ∧
  (∀ v, valV kvs k = some v → Q v H3) ∧ (valV kvs k = none → Q z (upd H3 a (.dT (putK kvs k z))))
theorem pe_dsetdT {X : Cx} {o e f : Expr} {td ty tx : TE} {apos cpos : Pos} (hu : X.A.units + 1 < cLine) (ho : PE X o td) (he : PE X e ty) (hf : PE X f tx) (m : M2 X o "setdefault" apos e f cpos) : PE X (.Call (.Attribute o "setdefault" apos) [e, f] [] cpos) (tDSetdT td ty tx) := by
  refine ⟨fun pins s σ H Q I h => ?_⟩
  refine wpAny_Call_method m.base m.few m.line PySem.F.plainAttrs_dict PySem.F.slot_dict_setdefault PySem.F.type_dict_setdefault (thn (ho.run pins s σ H _ I h) fun u s1 ⟨x, H1, I1, rx, a, ex, d, q1⟩ => ?_)
  subst ex
  obtain rfl : u = Value.ref a := rx
  obtain ⟨t1, t2, _⟩ := isD_at I1 d
  refine ⟨t1, t2, ?_⟩
  rw [m.trees]
  refine Calls.callWith_builtin rfl (Calls.evalArgs_plain (Calls.spliced_cons (thn (he.run pins s1 σ H1 _ I1 q1) fun iv s2 ⟨y, H2, I2, ry, q2⟩ =>
    Calls.spliced_cons (thn (hf.run pins s2 σ H2 _ I2 q2) fun fv s3 ⟨z, H3, I3, rz, kvs, k, b, ea, ey, eb, hl, q3, q4⟩ => Calls.spliced_nil ?_))))
  subst ey
  cases (show iv = Value.ref b from ry)
  exact d_setdT hu I3 ea eb rz hl (fun v hv w' s4 I4 rw' => ⟨v, _, I4, rw', q3 v hv⟩) fun hn w' s4 I4 rw' => ⟨z, _, I4, rw', q4 hn⟩
end NS
set_option Elab.async false
set_option linter.all false
set_option maxRecDepth 100000
set_option maxHeartbeats 4000000
namespace NS
open PySem PySem.Spec PyProof.Rows L2
open Evl (Ex)
/-! ### a dict comprehension of three clauses without tests -/
abbrev dc3 (kx vx t0 i0 t1 i1 t2 i2 : Expr) (scope : Scope) (pos : Pos) : Expr := .DictComp kx vx [⟨t0, i0, [], 0⟩, ⟨t1, i1, [], 0⟩, ⟨t2, i2, [], 0⟩] scope pos
section
variable (kx vx t0 i0 t1 i1 t2 i2 : Expr) (scope : Scope) (pos : Pos)
theorem dc3_turn0 (it acc : Value) (env : Env) : compTurn (dc3 kx vx t0 i0 t1 i1 t2 i2 scope pos) 0 it acc env = (do
      standAt i0.pos
      match ← pyNext it with
      | none => pure (.done .next)
      | some v =>
        letOwnedTupleGo t0 it v
        assign t0 env v
        let x ← eval i1 env
        standAt i1.pos
        let x ← foldedSetIterable i1 env x
        let _ ← runOwn (.compStart (dc3 kx vx t0 i0 t1 i1 t2 i2 scope pos) 1 (← holding [x] (pyIter x)) acc env) env
        again (.compLoop (dc3 kx vx t0 i0 t1 i1 t2 i2 scope pos) 0 it acc env)) := by rfl
theorem dc3_turn1 (it acc : Value) (env : Env) : compTurn (dc3 kx vx t0 i0 t1 i1 t2 i2 scope pos) 1 it acc env = (do
      standAt i1.pos
      match ← pyNext it with
      | none => pure (.done .next)
      | some v =>
        letOwnedTupleGo t1 it v
        assign t1 env v
        let x ← eval i2 env
        standAt i2.pos
        let x ← foldedSetIterable i2 env x
        let _ ← runOwn (.compStart (dc3 kx vx t0 i0 t1 i1 t2 i2 scope pos) 2 (← holding [x] (pyIter x)) acc env) env
        again (.compLoop (dc3 kx vx t0 i0 t1 i1 t2 i2 scope pos) 1 it acc env)) := by rfl
theorem dc3_turn2 (it : Value) (D : Addr) (env : Env) : compTurn (dc3 kx vx t0 i0 t1 i1 t2 i2 scope pos) 2 it (.ref D) env = (do
      standAt i2.pos
      match ← pyNext it with
      | none => pure (.done .next)
      | some v =>
        letOwnedTupleGo t2 it v
        assign t2 env v
        (do
          let kv ← eval kx env
          let vv ← holding [kv] (eval vx env)
          standAt { kx.pos with endLine := vx.pos.endLine, endCol := vx.pos.endCol }
          holding [kv, vv] (dictSet D kv vv))
        again (.compLoop (dc3 kx vx t0 i0 t1 i1 t2 i2 scope pos) 2 it (.ref D) env)) := by rfl
end
section
variable {prog : Program} {w : World} {A : Around} {R : Result → Shared → Prop} {s : Shared} {kx vx t0 i0 t1 i1 t2 i2 : Expr} {scope : Scope} {pos : Pos} {it acc : Value} {env : Env} {D : Addr}
/-- a turn of an outer clause, its next clause at d -/
abbrev MidTurn (prog : Program) (w : World) (A : Around) (R : Result → Shared → Prop) (e tg i' : Expr) (d : Nat) (it acc : Value) (env : Env) (N : Shared → Prop) (s : Shared) : Prop :=
  wpAny (model prog w) A (pyNext it) (fun r s₁ => match r with
      | none => R (.ok .next) s₁
      | some v => wpAny (model prog w) A (letOwnedTupleGo tg it v) (fun _ s₁' => wpAny (model prog w) A (assign tg env v) (fun _ s₂ =>
          wpAny (model prog w) A (eval i' env) (fun x s₄ => wpAny (model prog w) A (pyIter x) (fun it1 s₅ =>
              codeAny (model prog w) A (.compStart e d it1 acc env) (fun r s' => match r with
                | .ok _ => N s'
                | .error _ => False) s₅) (notedBy (model prog w) A env fun e s' => R (.error e) s') s₄) (notedBy (model prog w) A env fun e s' => R (.error e) s') s₂) (notedBy (model prog w) A env fun e s' => R (.error e) s') s₁') (notedBy (model prog w) A env fun e s' => R (.error e) s') s₁) (notedBy (model prog w) A env fun e s' => R (.error e) s') s
theorem dc3_loop0 (hs : ∀ x, foldedSetIterable i1 env x = pure x) (I : Nat → Shared → Prop)
    (turn : ∀ n s, I n s → MidTurn prog w A R (dc3 kx vx t0 i0 t1 i1 t2 i2 scope pos) t0 i1 1 it acc env (fun s' => ∃ m, m < n ∧ I m s') s)
    (n : Nat) (h : I n s) : codeAny (model prog w) A (.compLoop (dc3 kx vx t0 i0 t1 i1 t2 i2 scope pos) 0 it acc env) R s := by
  refine codeAny_loop rfl I (fun n s hI => ?_) n h
  show wpAny _ A ((compTurn (dc3 kx vx t0 i0 t1 i1 t2 i2 scope pos) 0 it acc env).onRaise (fun x => do noteFrame x env; theTreesLotGoes x)) _ _ s
  refine wpAny_noted ?_
  rw [dc3_turn0]
  refine wpAny_bind (wpAny_standAt (wpAny_bind (wpAny_mono (turn n s hI) (fun r s₁ h₁ => ?_) fun _ _ h' => h')))
  cases r with
  | none => exact wpAny_pure h₁
  | some v =>
    refine wpAny_bind (wpAny_mono h₁ (fun _ s₁' h₁' => ?_) fun _ _ h' => h')
    refine wpAny_bind (wpAny_mono h₁' (fun _ s₂ h₂ => ?_) fun _ _ h' => h')
    refine wpAny_bind (wpAny_mono h₂ (fun x s₄ h₄ => ?_) fun _ _ h' => h')
    refine wpAny_bind (wpAny_standAt (wpAny_bind (wpAny_of_eq (hs x) (wpAny_bind (wpAny_holding (wpAny_mono h₄ (fun it1 s₅ h₅ => ?_) fun _ _ h' => h'))))))
    refine wpAny_bind (wpAny_runOwn ?_)
    rw [Around.mark_none]
    refine codeAny_mono h₅ fun r s' hr => ?_
    cases r with
    | ok f => exact wpAny_pure ⟨rfl, hr⟩
    | error e => exact hr.elim
theorem dc3_loop1 (hs : ∀ x, foldedSetIterable i2 env x = pure x) (I : Nat → Shared → Prop)
    (turn : ∀ n s, I n s → MidTurn prog w A R (dc3 kx vx t0 i0 t1 i1 t2 i2 scope pos) t1 i2 2 it acc env (fun s' => ∃ m, m < n ∧ I m s') s)
    (n : Nat) (h : I n s) : codeAny (model prog w) A (.compLoop (dc3 kx vx t0 i0 t1 i1 t2 i2 scope pos) 1 it acc env) R s := by
  refine codeAny_loop rfl I (fun n s hI => ?_) n h
  show wpAny _ A ((compTurn (dc3 kx vx t0 i0 t1 i1 t2 i2 scope pos) 1 it acc env).onRaise (fun x => do noteFrame x env; theTreesLotGoes x)) _ _ s
  refine wpAny_noted ?_
  rw [dc3_turn1]
  refine wpAny_bind (wpAny_standAt (wpAny_bind (wpAny_mono (turn n s hI) (fun r s₁ h₁ => ?_) fun _ _ h' => h')))
  cases r with
  | none => exact wpAny_pure h₁
  | some v =>
    refine wpAny_bind (wpAny_mono h₁ (fun _ s₁' h₁' => ?_) fun _ _ h' => h')
    refine wpAny_bind (wpAny_mono h₁' (fun _ s₂ h₂ => ?_) fun _ _ h' => h')
    refine wpAny_bind (wpAny_mono h₂ (fun x s₄ h₄ => ?_) fun _ _ h' => h')
    refine wpAny_bind (wpAny_standAt (wpAny_bind (wpAny_of_eq (hs x) (wpAny_bind (wpAny_holding (wpAny_mono h₄ (fun it1 s₅ h₅ => ?_) fun _ _ h' => h'))))))
    refine wpAny_bind (wpAny_runOwn ?_)
    rw [Around.mark_none]
    refine codeAny_mono h₅ fun r s' hr => ?_
    cases r with
    | ok f => exact wpAny_pure ⟨rfl, hr⟩
    | error e => exact hr.elim
theorem dc3_loop2 (I : Nat → Shared → Prop)
    (turn : ∀ n s, I n s → wpAny (model prog w) A (pyNext it) (fun r s₁ => match r with
      | none => R (.ok .next) s₁
      | some v => wpAny (model prog w) A (letOwnedTupleGo t2 it v) (fun _ s₁' => wpAny (model prog w) A (assign t2 env v) (fun _ s₂ =>
          wpAny (model prog w) A (eval kx env) (fun kv s₄ => wpAny (model prog w) A (eval vx env) (fun vv s₅ =>
              wpAny (model prog w) A (dictSet D kv vv) (fun _ s₆ => ∃ m, m < n ∧ I m s₆) (notedBy (model prog w) A env fun e s' => R (.error e) s') s₅) (notedBy (model prog w) A env fun e s' => R (.error e) s') s₄) (notedBy (model prog w) A env fun e s' => R (.error e) s') s₂) (notedBy (model prog w) A env fun e s' => R (.error e) s') s₁') (notedBy (model prog w) A env fun e s' => R (.error e) s') s₁) (notedBy (model prog w) A env fun e s' => R (.error e) s') s)
    (n : Nat) (h : I n s) : codeAny (model prog w) A (.compLoop (dc3 kx vx t0 i0 t1 i1 t2 i2 scope pos) 2 it (.ref D) env) R s := by
  refine codeAny_loop rfl I (fun n s hI => ?_) n h
  show wpAny _ A ((compTurn (dc3 kx vx t0 i0 t1 i1 t2 i2 scope pos) 2 it (.ref D) env).onRaise (fun x => do noteFrame x env; theTreesLotGoes x)) _ _ s
  refine wpAny_noted ?_
  rw [dc3_turn2]
  refine wpAny_bind (wpAny_standAt (wpAny_bind (wpAny_mono (turn n s hI) (fun r s₁ h₁ => ?_) fun _ _ h' => h')))
  cases r with
  | none => exact wpAny_pure h₁
  | some v =>
    refine wpAny_bind (wpAny_mono h₁ (fun _ s₁' h₁' => ?_) fun _ _ h' => h')
    refine wpAny_bind (wpAny_mono h₁' (fun _ s₂ h₂ => ?_) fun _ _ h' => h')
    exact wpAny_bind (wpAny_bind (wpAny_mono h₂ (fun kv s₄ h₄ => wpAny_bind (wpAny_holding (wpAny_mono h₄ (fun vv s₅ h₅ => wpAny_bind (wpAny_standAt (wpAny_holding (wpAny_mono h₅ (fun _ s₆ h₆ => wpAny_pure ⟨rfl, h₆⟩) fun _ _ h' => h')))) fun _ _ h' => h'))) fun _ _ h' => h'))
/-- an inner clause's start -/
theorem dc3_start {d : Nat} (hd : d = 1 ∨ d = 2) (h0 : codeAny (model prog w) A (.compLoop (dc3 kx vx t0 i0 t1 i1 t2 i2 scope pos) d it acc env) R s)
    (h : wpAny (model prog w) A (pyIter it) (fun it' s' => codeAny (model prog w) A (.compLoop (dc3 kx vx t0 i0 t1 i1 t2 i2 scope pos) d it' acc env) R s')
      (notedBy (model prog w) A env fun x s' => R (.error x) s') s) :
    codeAny (model prog w) A (.compStart (dc3 kx vx t0 i0 t1 i1 t2 i2 scope pos) d it acc env) R s := by
  refine codeAny_of_tree ?_
  rcases hd with rfl | rfl
  · show wpAny _ _ ((compStart (dc3 kx vx t0 i0 t1 i1 t2 i2 scope pos) 1 it acc env).onRaise (fun x => do noteFrame x env; standAt theWindowsPlace)) _ _ s
    refine wpAny_notedAt ?_
    unfold compStart
    show wpAny _ _ (ask >>= _) _ _ s
    refine wpAny_bind (wpAny_askSetting (wpAny_ite ?_))
    split
    · first
        | exact wpAny_bind (wpAny_pure (wpAny_pure (And.intro rfl h0)))
        | exact wpAny_pure (And.intro rfl h0)
    · first
        | exact wpAny_bind (wpAny_rule (wpAny_bind (wpAny_standAt (wpAny_bind (wpAny_mono h (fun it' s' h' => wpAny_pure (And.intro rfl h')) fun _ _ x => x)))))
        | (refine wpAny_bind (wpAny_rule ?_); show wpAny _ _ (standAt i1.pos >>= _) _ _ s; exact wpAny_bind (wpAny_standAt (wpAny_bind (wpAny_mono h (fun it' s' h' => wpAny_pure (And.intro rfl h')) fun _ _ x => x))))
  · show wpAny _ _ ((compStart (dc3 kx vx t0 i0 t1 i1 t2 i2 scope pos) 2 it acc env).onRaise (fun x => do noteFrame x env; standAt theWindowsPlace)) _ _ s
    refine wpAny_notedAt ?_
    unfold compStart
    show wpAny _ _ (ask >>= _) _ _ s
    refine wpAny_bind (wpAny_askSetting (wpAny_ite ?_))
    split
    · first
        | exact wpAny_bind (wpAny_pure (wpAny_pure (And.intro rfl h0)))
        | exact wpAny_pure (And.intro rfl h0)
    · first
        | exact wpAny_bind (wpAny_rule (wpAny_bind (wpAny_standAt (wpAny_bind (wpAny_mono h (fun it' s' h' => wpAny_pure (And.intro rfl h')) fun _ _ x => x)))))
        | (refine wpAny_bind (wpAny_rule ?_); show wpAny _ _ (standAt i2.pos >>= _) _ _ s; exact wpAny_bind (wpAny_standAt (wpAny_bind (wpAny_mono h (fun it' s' h' => wpAny_pure (And.intro rfl h')) fun _ _ x => x))))
end

/-! ### its reading -/
/-- a clause's loop, bd what a turn does behind the store -/
def LoopRd (J : It) (g : TG) (bd : L2.St → Hp → (Hp → Prop) → Prop) (vs : List Nat) (σ : L2.St) (Nx : Hp → Prop) (H : Hp) : Prop := ∃ W1 : Nat → Nat → Hp → Prop, (∃ m, W1 0 m H) ∧ ∀ j k H, W1 j k H →
  (J.stop j H ∧ Nx H) ∨ (J.go j H ∧ ∃ Nx1 : Hp → Prop, (∀ H', Nx1 H' → ∃ k', k' < k ∧ W1 (j + 1) k' H') ∧ ∀ x H', J.yld j H x H' → g x (wipe σ vs) H' fun σ3 H5 => wipe σ3 vs = wipe σ vs ∧ bd σ3 H5 Nx1)
abbrev Bd := L2.St → Hp → (Hp → Prop) → Prop
abbrev ErB (B : Cx) (R : Result → Shared → Prop) : Value → Shared → Prop := notedBy (model B.prog B.w) B.A B.env fun e s' => R (.error e) s'
/-- slots that know no less than σ without vs -/
def Kp (σ : L2.St) (vs : List Nat) (σ' : L2.St) : Prop := σ'.length = σ.length ∧ ∀ (j : Nat) (v : V), (wipe σ vs)[j]? = some (some v) → σ'[j]? = some (some v)
theorem inner_run {B : Cx} (hc : B.calm = true) (hxe : B.xe = fun _ _ => False) {tg iter : Expr} {wi : TI} {g : TG} {bd : Bd} {vs : List Nat} {start : Value → Code} {loop : Value → Code} {Rest : (Result → Shared → Prop) → (Shared → Prop) → Shared → Prop}
    (hi : PI B tg iter wi) (hg : PG B tg g)
    (hloop : ∀ (it : Value) (R : Result → Shared → Prop) (I : Nat → Shared → Prop), (∀ n s, I n s → wpAny (model B.prog B.w) B.A (pyNext it) (fun r s₁ => match r with
      | none => R (.ok .next) s₁
      | some v => wpAny (model B.prog B.w) B.A (letOwnedTupleGo tg it v) (fun _ s₁' => wpAny (model B.prog B.w) B.A (assign tg B.env v) (fun _ s₂ => Rest R (fun s' => ∃ m, m < n ∧ I m s') s₂) (ErB B R) s₁') (ErB B R) s₁) (ErB B R) s) → ∀ n s, I n s → codeAny (model B.prog B.w) B.A (loop it) R s)
    (hstart : ∀ (it : Value) (R : Result → Shared → Prop) (s : Shared), codeAny (model B.prog B.w) B.A (loop it) R s → wpAny (model B.prog B.w) B.A (pyIter it) (fun it' s' => codeAny (model B.prog B.w) B.A (loop it') R s') (ErB B R) s → codeAny (model B.prog B.w) B.A (start it) R s)
    (hbody : ∀ pins s σ H N R (Nsh : Shared → Prop), Inv B pins σ H s → bd σ H N → (∀ σ' H' s', Inv B pins σ' H' s' → Kp σ vs σ' → N H' → Nsh s') → Rest R Nsh s)
    (pins : List (Addr × Obj)) (s : Shared) (σ : L2.St) (H : Hp) (Nx : Hp → Prop) (I : Inv B pins σ H s) (h : wi σ H fun J H4 => LoopRd J g bd vs σ Nx H4) (Rr : Result → Shared → Prop) (hR : ∀ f s' H', Inv B pins (wipe σ vs) H' s' → Nx H' → Rr (.ok f) s') :
    wpAny (model B.prog B.w) B.A (eval iter B.env) (fun x s4 => wpAny (model B.prog B.w) B.A (pyIter x) (fun it1 s5 => codeAny (model B.prog B.w) B.A (start it1) Rr s5) B.xe s4) B.xe s := by
  have tF : ∀ {α : Type} {t : Sem α} {Q Q' : α → Shared → Prop} {E : Value → Shared → Prop} {s : Shared}, wpAny (model B.prog B.w) B.A t Q B.xe s → (∀ a s, Q a s → Q' a s) → wpAny (model B.prog B.w) B.A t Q' E s := fun h hQ => wpAny_mono h hQ fun _ _ z => by
    rw [hxe] at z
    exact z.elim
  refine tF (hi.run pins s σ H _ I h) fun xv s1 hx => tF hx fun itv s2 h2 => ?_
  obtain ⟨it, fp, tn, J, H2, e1, I2, T, st2, f2, W1, ⟨m1, w1⟩, turn1⟩ := h2
  subst e1
  have stat1 : ∀ {H' : Hp}, (∀ b ∈ fp, H' b = none) → ∀ b ∈ fp, FpOk B pins H' b := fun hn b hb => ⟨hn b hb, (f2 b hb).2⟩
  have lp : codeAny (model B.prog B.w) B.A (loop (.ref it)) Rr s2 := by
    refine hloop (.ref it) Rr (fun k s' => ∃ j H', Inv B pins (wipe σ vs) H' s' ∧ tn j s'.heap ∧ (∀ b ∈ fp, H' b = none) ∧ W1 j k H') ?_ m1 s2 ⟨0, H2, I2.weak (wipe_length _ _) (fun j v e => (wipe_some e).1), st2, fun b hb => (f2 b hb).1, w1⟩
    rintro k s12 ⟨j, H12, I12, st12, n12, w12⟩
    rcases turn1 j k H12 w12 with ⟨stop1, nx1⟩ | ⟨go1, Nx1, hNx1, step1⟩
    · refine thnF (T.done B rfl rfl rfl hc j _ s12 (wipe σ vs) H12 (fun _ _ => False) I12 (stat1 n12) st12 stop1) fun r s13 ⟨hr, I13⟩ => ?_
      subst hr
      exact hR _ s13 H12 I13 nx1
    · refine thnF (T.item B rfl rfl rfl hc j _ s12 (wipe σ vs) H12 (fun _ _ => False) I12 (stat1 n12) st12 go1) fun r s13 ⟨u1, hr, h13⟩ => ?_
      subst hr
      refine thnF h13 fun _ s14 ⟨x1, H14, I14, r14, y14, st14, n14⟩ => ?_
      have I14' := I14.pinned (stat1 n14) (T.obj _ _ st14)
      refine tF (hg.run _ s14 (wipe σ vs) H14 x1 u1 _ I14' r14 (step1 x1 H14 y14)) fun _ s15 ⟨σ15, H15, I15, hw15, q15⟩ => ?_
      refine hbody _ s15 σ15 H15 Nx1 Rr _ I15 q15 fun σ' H' s' I' kp nx => ?_
      obtain ⟨m', hm, w'⟩ := hNx1 H' nx
      have pin' : ∀ b ∈ fp, ∀ o, s14.heap.get? b = some o → s'.heap.get? b = some o ∧ H' b = none := fun b hb o e =>
        let z := I'.pin (b, o) (List.mem_append_right _ (List.mem_append_right _ (mem_pinsAt hb e)))
        ⟨z.1, z.2.1⟩
      refine ⟨m', hm, j + 1, H', I'.unpinned.weak (by rw [← hw15, wipe_length, kp.1]) (fun j v e => kp.2 j v (by rw [hw15]; exact e)), T.keep _ _ _ st14 fun b hb o e => (pin' b hb o e).1, fun b hb => ?_, w'⟩
      obtain ⟨o, e, _⟩ := T.obj _ _ st14 b hb
      exact (pin' b hb o e).2
  exact hstart _ _ _ lp (T.self B.A 0 _ _ _ st2 lp)
section
variable {X : Cx}
/-- the turn's end of the last clause -/
def bdPut (D : Addr) (tk tv : TE) : Bd := fun σ H N => tk σ H fun y H1 => tv σ H1 fun z H2 => ∃ kvs k, y = kV k ∧ H2 D = some (.dK kvs) ∧ kvs.length < sizeLine ∧ N (upd H2 D (.dK (putK kvs k z)))
def bdIn (wi : TI) (g : TG) (bd : Bd) (vs : List Nat) : Bd := fun σ H N => wi σ H fun J H4 => LoopRd J g bd vs σ N H4
/-- {k: v for .. for .. for ..} -/
def tDc3 (wi : TI) (g : TG) (wi1 : TI) (g1 : TG) (vs1 : List Nat) (wi2 : TI) (g2 : TG) (vs2 : List Nat) (tk tv : TE) (vs : List Nat) : TE := fun σ H Q => wi σ H fun J H1 => ∀ D, H1 D = none → LoopRd J g (bdIn wi1 g1 (bdIn wi2 g2 (bdPut D tk tv) vs2) vs1) vs σ (fun H' => Q (.ref D) H') (upd H1 D (.dK []))
theorem kp_step {σ σ' : L2.St} {vs vs' : List Nat} (hv : ∀ i ∈ vs', i ∈ vs) (h : σ' = wipe σ vs') : Kp σ vs σ' := by
  subst h
  refine ⟨wipe_length _ _, fun j v e => ?_⟩
  obtain ⟨e1, e2⟩ := wipe_some e
  rw [wipe_out fun z => e2 (hv j z)]
  exact e1
theorem dc3_core {pins : List (Addr × Obj)} {s : Shared} {σ : L2.St} {H : Hp} {Q : VK} {kx vx t0 i0 t1 i1 t2 i2 : Expr} {scope : Scope} {own : List (Str × Nat)} {pos pos' : Pos} {wi wi1 wi2 : TI} {g g1 g2 : TG} {vs1 vs2 : List Nat} {tk tv : TE} {use : Option (Value → Sem Unit)} {Qf : Value → Shared → Prop}
    (hc : X.calm = true) (hN : X.N.Nodup) (I : Inv X pins σ H s) (hi : PI X t0 i0 wi) (ok : BlkOk X.N X.env.scope scope own) (hv1 : ∀ i ∈ vs1, i ∈ own.map (·.2)) (hv2 : ∀ i ∈ vs2, i ∈ vs1)
    (hg : ∀ (s : Shared) (H : Hp) (C : Addr) (cl : List (Str × Addr)) (fp : List Addr), PG (X.blk s H scope (compEnvC scope cl C X.env) fp) t0 g)
    (hi1 : ∀ (s : Shared) (H : Hp) (C : Addr) (cl : List (Str × Addr)) (fp : List Addr), PI (X.blk s H scope (compEnvC scope cl C X.env) fp) t1 i1 wi1)
    (hg1 : ∀ (s : Shared) (H : Hp) (C : Addr) (cl : List (Str × Addr)) (fp : List Addr), PG (X.blk s H scope (compEnvC scope cl C X.env) fp) t1 g1)
    (hi2 : ∀ (s : Shared) (H : Hp) (C : Addr) (cl : List (Str × Addr)) (fp : List Addr), PI (X.blk s H scope (compEnvC scope cl C X.env) fp) t2 i2 wi2)
    (hg2 : ∀ (s : Shared) (H : Hp) (C : Addr) (cl : List (Str × Addr)) (fp : List Addr), PG (X.blk s H scope (compEnvC scope cl C X.env) fp) t2 g2)
    (hk : ∀ (s : Shared) (H : Hp) (C : Addr) (cl : List (Str × Addr)) (fp : List Addr), PE (X.blk s H scope (compEnvC scope cl C X.env) fp) kx tk)
    (he : ∀ (s : Shared) (H : Hp) (C : Addr) (cl : List (Str × Addr)) (fp : List Addr), PE (X.blk s H scope (compEnvC scope cl C X.env) fp) vx tv)
    (hs : ∀ x, foldedSetIterable i0 X.env x = pure x) (hs1 : ∀ env x, foldedSetIterable i1 env x = pure x) (hs2 : ∀ env x, foldedSetIterable i2 env x = pure x)
    (h : tDc3 wi g wi1 g1 vs1 wi2 g2 vs2 tk tv (own.map (·.2)) σ H Q)
    (hRR : ∀ D C s' m H', Inv X pins σ H' s' → Q (.ref D) H' → s'.heap.Ns C m → FpOk X pins H' C → compPost (model X.prog X.w) X.A X.xe use Qf (.ref D) C (.ok .next) s') :
    wpAny (model X.prog X.w) X.A (comprehension (dc3 kx vx t0 i0 t1 i1 t2 i2 scope pos) scope X.env pos' newDict false (eval i0 X.env) use) Qf X.xe s := by
  have hfree : ∀ y ∈ scope.names, y.2 = .free → ∃ c, X.env.cells.lookup y.1 = some c := fun y hy e => by
    rcases ok.free y hy e with k | k
    · exact I.ok.has _ (.inl k)
    · exact I.ok.has _ (.inr k)
  refine wpAny_comprehension_free (use := use) rfl hs (closure_ok hfree) ok.kind (fun y hy e => by rw [ok.uniq y hy, e])
    (thn (hi.run pins s σ H _ I h) fun xv s1 hx => thn hx fun itv s2 h2 => ?_)
  obtain ⟨it, fp, tn, J, H2, e, I2, T, st2, f2, q⟩ := h2
  subst e
  refine wpAny_newObj_type (newEnv_comp ?_)
  generalize hD : s2.heap.objs.size = D
  have hDn : H2 D = none := I2.hok.fresh (Nat.le_of_eq hD)
  obtain ⟨W, ⟨m0, w0⟩, turn⟩ := q D hDn
  generalize hs3 : ({ s2 with heap := s2.heap.push { cls := .type "dict", data := .dict #[] } } : Shared) = s3
  have I3 : Inv X pins σ (upd H2 D (.dK [])) s3 := by
    rw [← hs3]
    refine I2.laid (t' := s2.toks) (fun b o e => Heap.get?_push_of_some _ e) (Nat.le_of_eq hD) ?_
    rw [← hD]
    exact dk_empty s2.heap I2.big
  have h3 : s3.heap = s2.heap.push { cls := .type "dict", data := .dict #[] } := by rw [← hs3]
  have sz : ∀ b ∈ fp, b < s2.heap.objs.size := fun b hb => by
    obtain ⟨o, e, _⟩ := T.obj _ _ st2 b hb
    exact Heap.lt_size e
  have f3 : ∀ b ∈ fp, FpOk X pins (upd H2 D (.dK [])) b ∧ b < s3.heap.objs.size := fun b hb => by
    have hlt := sz b hb
    refine ⟨⟨?_, (f2 b hb).2⟩, by rw [h3, Heap.size_push]; exact Nat.lt_succ_of_lt hlt⟩
    rw [upd_ne (by rw [← hD]; exact Nat.ne_of_lt hlt)]
    exact (f2 b hb).1
  have st3 : tn 0 s3.heap := T.keep _ _ _ st2 fun b _ o e => by rw [h3]; exact Heap.get?_push_of_some _ e
  have I4 := block_start I3 ok hN f3
  have pg := hg s3 (upd H2 D (.dK [])) s3.heap.objs.size (cellsFrom (s3.heap.objs.size + 1) scope.names (cloFrom X.env.cells scope.names [])) fp
  have pi1 := hi1 s3 (upd H2 D (.dK [])) s3.heap.objs.size (cellsFrom (s3.heap.objs.size + 1) scope.names (cloFrom X.env.cells scope.names [])) fp
  have pg1 := hg1 s3 (upd H2 D (.dK [])) s3.heap.objs.size (cellsFrom (s3.heap.objs.size + 1) scope.names (cloFrom X.env.cells scope.names [])) fp
  have pi2 := hi2 s3 (upd H2 D (.dK [])) s3.heap.objs.size (cellsFrom (s3.heap.objs.size + 1) scope.names (cloFrom X.env.cells scope.names [])) fp
  have pg2 := hg2 s3 (upd H2 D (.dK [])) s3.heap.objs.size (cellsFrom (s3.heap.objs.size + 1) scope.names (cloFrom X.env.cells scope.names [])) fp
  have pk := hk s3 (upd H2 D (.dK [])) s3.heap.objs.size (cellsFrom (s3.heap.objs.size + 1) scope.names (cloFrom X.env.cells scope.names [])) fp
  have pe := he s3 (upd H2 D (.dK [])) s3.heap.objs.size (cellsFrom (s3.heap.objs.size + 1) scope.names (cloFrom X.env.cells scope.names [])) fp
  show codeAny _ _ (.compStart (dc3 kx vx t0 i0 t1 i1 t2 i2 scope pos) 0 (.ref it) (.ref D) (compEnvC scope (cellsFrom (s3.heap.objs.size + 1) scope.names (cloFrom X.env.cells scope.names [])) s3.heap.objs.size X.env)) (compPost (model X.prog X.w) X.A X.xe use Qf (.ref D) s3.heap.objs.size) { s3 with heap := pushCells (s3.heap.push { cls := .type "dict", data := .dict #[] }) scope.names }
  have nfp : ∀ b ∈ fp, (upd H2 D (.dK [])) b = none := fun b hb => (f3 b hb).1.1
  generalize hce : compEnvC scope (cellsFrom (s3.heap.objs.size + 1) scope.names (cloFrom X.env.cells scope.names [])) s3.heap.objs.size X.env = ce at I4 pg pi1 pg1 pi2 pg2 pk pe ⊢
  have cL : ce.locals = s3.heap.objs.size := by subst hce; rfl
  generalize hH3 : upd H2 D (.dK []) = H3 at I3 I4 pg pi1 pg1 pi2 pg2 pk pe w0 nfp f3
  generalize hs4 : ({ s3 with heap := pushCells (s3.heap.push { cls := .type "dict", data := .dict #[] }) scope.names } : Shared) = s4 at I4 ⊢
  have st4 : tn 0 s4.heap := T.keep _ _ _ st3 fun b _ o e => by rw [← hs4]; exact pushCells_keeps _ _ _ _ (Heap.get?_push_of_some _ e)
  have stat : ∀ {σ' : L2.St} {H' : Hp} {s' : Shared}, Inv (X.blk s3 H3 scope ce fp) [] σ' H' s' → (∀ b ∈ fp, H' b = none) → ∀ b ∈ fp, FpOk (X.blk s3 H3 scope ce fp) [] H' b := fun {σ' H' s'} I' hn b hb =>
    ⟨hn b hb, (I'.ok.exf b hb).1, I'.ok.exfs b hb, .inl hb, fun x c e => (I'.ok.exf b hb).2 x c e, fun p hp => absurd (show p ∈ ([] : List (Addr × Obj)) ++ [] from hp) (by simp)⟩
  -- the last clause, the middle one
  have run2 := fun (pins : List (Addr × Obj)) (s : Shared) (σ : L2.St) (H : Hp) (Nx : Hp → Prop) (I : Inv (X.blk s3 H3 scope ce fp) pins σ H s) (h : bdIn wi2 g2 (bdPut D tk tv) vs2 σ H Nx) (Rr : Result → Shared → Prop) (hR : ∀ f s' H', Inv (X.blk s3 H3 scope ce fp) pins (wipe σ vs2) H' s' → Nx H' → Rr (.ok f) s') =>
    inner_run (B := X.blk s3 H3 scope ce fp) hc rfl (start := fun it => .compStart (dc3 kx vx t0 i0 t1 i1 t2 i2 scope pos) 2 it (.ref D) ce) (loop := fun it => .compLoop (dc3 kx vx t0 i0 t1 i1 t2 i2 scope pos) 2 it (.ref D) ce)
      (Rest := fun R N s₂ => wpAny (model X.prog X.w) X.A (eval kx ce) (fun kv s₄ => wpAny (model X.prog X.w) X.A (eval vx ce) (fun vv s₅ => wpAny (model X.prog X.w) X.A (dictSet D kv vv) (fun _ s₆ => N s₆) (ErB (X.blk s3 H3 scope ce fp) R) s₅) (ErB (X.blk s3 H3 scope ce fp) R) s₄) (ErB (X.blk s3 H3 scope ce fp) R) s₂)
      pi2 pg2 (fun it R I turn n s hI => dc3_loop2 I turn n hI) (fun it R s h0 h1 => dc3_start (.inr rfl) h0 h1)
      (fun pins s σ H N R Nsh I' hb hN' => by
        refine thnF (pk.run _ s σ H _ I' hb) fun z s10 ⟨yk, H10, I10, r10, q10⟩ => ?_
        refine thnF (pe.run _ s10 σ H10 _ I10 q10) fun z2 s11 ⟨yv, H11, I11, r11, kvs, k, ek, hD11, hz11, nx⟩ => ?_
        subst ek
        exact d_dictSet (X := X.blk s3 H3 scope ce fp) I11 hD11 hz11 r10 r11 fun s12 I12 => hN' σ _ s12 I12 ⟨rfl, fun j v e => (wipe_some e).1⟩ nx)
      pins s σ H Nx I h Rr hR
  have run1 := fun (pins : List (Addr × Obj)) (s : Shared) (σ : L2.St) (H : Hp) (Nx : Hp → Prop) (I : Inv (X.blk s3 H3 scope ce fp) pins σ H s) (h : bdIn wi1 g1 (bdIn wi2 g2 (bdPut D tk tv) vs2) vs1 σ H Nx) (Rr : Result → Shared → Prop) (hR : ∀ f s' H', Inv (X.blk s3 H3 scope ce fp) pins (wipe σ vs1) H' s' → Nx H' → Rr (.ok f) s') =>
    inner_run (B := X.blk s3 H3 scope ce fp) hc rfl (start := fun it => .compStart (dc3 kx vx t0 i0 t1 i1 t2 i2 scope pos) 1 it (.ref D) ce) (loop := fun it => .compLoop (dc3 kx vx t0 i0 t1 i1 t2 i2 scope pos) 1 it (.ref D) ce)
      (Rest := fun R N s₂ => wpAny (model X.prog X.w) X.A (eval i2 ce) (fun x s₄ => wpAny (model X.prog X.w) X.A (pyIter x) (fun it1 s₅ => codeAny (model X.prog X.w) X.A (.compStart (dc3 kx vx t0 i0 t1 i1 t2 i2 scope pos) 2 it1 (.ref D) ce) (fun r s' => match r with
                | .ok _ => N s'
                | .error _ => False) s₅) (ErB (X.blk s3 H3 scope ce fp) R) s₄) (ErB (X.blk s3 H3 scope ce fp) R) s₂)
      pi1 pg1 (fun it R I turn n s hI => dc3_loop1 (hs2 ce) I turn n hI) (fun it R s h0 h1 => dc3_start (.inl rfl) h0 h1)
      (fun pins s σ H N R Nsh I' hb hN' => thnF (run2 pins s σ H N I' hb (fun r s' => match r with
                | .ok _ => Nsh s'
                | .error _ => False) fun f s' H' I'' nx => hN' _ H' s' I'' (kp_step hv2 rfl) nx) fun x s4 h4 => thnF h4 fun it1 s5 h5 => h5)
      pins s σ H Nx I h Rr hR
  have loop : codeAny (model X.prog X.w) X.A (.compLoop (dc3 kx vx t0 i0 t1 i1 t2 i2 scope pos) 0 (.ref it) (.ref D) ce) (compPost (model X.prog X.w) X.A X.xe use Qf (.ref D) s3.heap.objs.size) s4 := by
    refine dc3_loop0 (hs1 ce) (fun n s' => ∃ i H', Inv (X.blk s3 H3 scope ce fp) [] (wipe σ (own.map (·.2))) H' s' ∧ tn i s'.heap ∧ (∀ b ∈ fp, H' b = none) ∧ W i n H') ?_ m0 ⟨0, H3, I4, st4, nfp, w0⟩
    rintro n s5 ⟨i, H5, I5, st5, n5, w5⟩
    rcases turn i n H5 w5 with ⟨stop, qq⟩ | ⟨go, Nx, hNx, step⟩
    · have td := T.done (X.blk s3 H3 scope ce fp) rfl rfl rfl hc i [] s5 _ H5 (fun _ _ => False) I5 (stat I5 n5) st5 stop
      refine thnF td fun r s6 ⟨hr, I6⟩ => ?_
      subst hr
      have I7 : Inv X pins σ H5 s6 := I3.call' (ch := fp) I6.os I6.base I6.hok I6.bare fun b hb => ⟨(f3 b hb).1.2.2.2.1, (f3 b hb).1.2.1, (f3 b hb).1.2.2.2.2.1, (f3 b hb).1.2.2.2.2.2⟩
      have nC : H5 s3.heap.objs.size = none := by
        have z : H5 ce.locals = none := I6.free
        rw [cL] at z
        exact z
      obtain ⟨m, hn, _⟩ := I6.loc
      have hn : s6.heap.Ns ce.locals m := hn
      rw [cL] at hn
      exact hRR D s3.heap.objs.size s6 m H5 I7 qq hn (I3.fpOk (Nat.le_refl _) nC)
    · have ti := T.item (X.blk s3 H3 scope ce fp) rfl rfl rfl hc i [] s5 _ H5 (fun _ _ => False) I5 (stat I5 n5) st5 go
      refine thnF ti fun r s6 ⟨u, hr, h6⟩ => ?_
      subst hr
      refine thnF h6 fun _ s7 ⟨x, H7, I7, r7, y7, st7, n7⟩ => ?_
      have I7' := I7.pinned (stat I7 n7) (T.obj _ _ st7)
      refine thnF (pg.run _ s7 _ H7 x u _ I7' r7 (step x H7 y7)) fun _ s8 ⟨σ8, H8, I8, hw8, q8⟩ => ?_
      refine thnF (run1 _ s8 σ8 H8 Nx I8 q8 (fun r s' => match r with
                | .ok _ => ∃ m, m < n ∧ ∃ i H', Inv (X.blk s3 H3 scope ce fp) [] (wipe σ (own.map (·.2))) H' s' ∧ tn i s'.heap ∧ (∀ b ∈ fp, H' b = none) ∧ W i m H'
                | .error _ => False) fun f s' H' I' nx => ?_) fun x s4 h4 => thnF h4 fun it1 s5 h5 => h5
      obtain ⟨m', hm, w'⟩ := hNx H' nx
      have pin' : ∀ b ∈ fp, ∀ o, s7.heap.get? b = some o → s'.heap.get? b = some o ∧ H' b = none := fun b hb o e =>
        let z := I'.pin (b, o) (List.mem_append_right _ (List.mem_append_right _ (mem_pinsAt hb e)))
        ⟨z.1, z.2.1⟩
      have kp := kp_step (σ := σ8) hv1 (rfl : wipe σ8 vs1 = wipe σ8 vs1)
      refine ⟨m', hm, i + 1, H', (I'.unpinned (pins := [])).weak (by rw [← hw8, wipe_length, wipe_length]) (fun j v e => kp.2 j v (by rw [hw8]; exact e)), T.keep _ _ _ st7 fun b hb o e => (pin' b hb o e).1, fun b hb => ?_, w'⟩
      obtain ⟨o, e, _⟩ := T.obj _ _ st7 b hb
      exact (pin' b hb o e).2
  exact codeAny_compStart_dict loop (T.self X.A 0 _ _ _ st4 loop)
theorem pe_dc3 {kx vx t0 i0 t1 i1 t2 i2 : Expr} {scope : Scope} {own : List (Str × Nat)} {pos : Pos} {wi wi1 wi2 : TI} {g g1 g2 : TG} {vs1 vs2 : List Nat} {tk tv : TE}
    (hc : X.calm = true) (hN : X.N.Nodup) (hi : PI X t0 i0 wi) (ok : BlkOk X.N X.env.scope scope own) (hv1 : ∀ i ∈ vs1, i ∈ own.map (·.2)) (hv2 : ∀ i ∈ vs2, i ∈ vs1)
    (hg : ∀ (s : Shared) (H : Hp) (C : Addr) (cl : List (Str × Addr)) (fp : List Addr), PG (X.blk s H scope (compEnvC scope cl C X.env) fp) t0 g)
    (hi1 : ∀ (s : Shared) (H : Hp) (C : Addr) (cl : List (Str × Addr)) (fp : List Addr), PI (X.blk s H scope (compEnvC scope cl C X.env) fp) t1 i1 wi1)
    (hg1 : ∀ (s : Shared) (H : Hp) (C : Addr) (cl : List (Str × Addr)) (fp : List Addr), PG (X.blk s H scope (compEnvC scope cl C X.env) fp) t1 g1)
    (hi2 : ∀ (s : Shared) (H : Hp) (C : Addr) (cl : List (Str × Addr)) (fp : List Addr), PI (X.blk s H scope (compEnvC scope cl C X.env) fp) t2 i2 wi2)
    (hg2 : ∀ (s : Shared) (H : Hp) (C : Addr) (cl : List (Str × Addr)) (fp : List Addr), PG (X.blk s H scope (compEnvC scope cl C X.env) fp) t2 g2)
    (hk : ∀ (s : Shared) (H : Hp) (C : Addr) (cl : List (Str × Addr)) (fp : List Addr), PE (X.blk s H scope (compEnvC scope cl C X.env) fp) kx tk)
    (he : ∀ (s : Shared) (H : Hp) (C : Addr) (cl : List (Str × Addr)) (fp : List Addr), PE (X.blk s H scope (compEnvC scope cl C X.env) fp) vx tv)
    (hs : ∀ x, foldedSetIterable i0 X.env x = pure x := by intro _; rfl) (hs1 : ∀ env x, foldedSetIterable i1 env x = pure x := by intro _ _; rfl) (hs2 : ∀ env x, foldedSetIterable i2 env x = pure x := by intro _ _; rfl) :
    PE X (.DictComp kx vx [⟨t0, i0, [], 0⟩, ⟨t1, i1, [], 0⟩, ⟨t2, i2, [], 0⟩] scope pos) (tDc3 wi g wi1 g1 vs1 wi2 g2 vs2 tk tv (own.map (·.2))) := by
  refine ⟨fun pins s σ H Q I h => ?_⟩
  rw [arm_eval_DictComp]
  refine dc3_core hc hN I hi ok hv1 hv2 hg hi1 hg1 hi2 hg2 hk he hs hs1 hs2 h fun D C s' m H' I' q hn f => ⟨m, hn, fun h'' sb => ?_⟩
  obtain ⟨f0, f1, f2, f3, f4, f5⟩ := f
  exact ⟨.ref D, H', I'.turned (t' := s'.toks) (fun b o hb e => (sb.2 b hb).trans e) f0 f1 f3 f4 f5, rfl, q⟩
end
end NS
set_option Elab.async false
set_option linter.all false
set_option maxRecDepth 100000
set_option maxHeartbeats 4000000
namespace NS
open PySem PySem.Spec PyProof.Rows L2
open Evl (Ex)
section
variable {K : Fg} {σ : L2.St} {H H' : Hp} {ta tb te tx : TE} {v : V} {d d1 d2 : PyData} {ds es : List PyData} {D : Ends}
theorem cutV_to (xs : List V) (k : Nat) : cutV xs none (some (k : Int)) = xs.take k := by
  unfold cutV
  rw [HT.sIx_none, HT.sIx_nat, List.drop_zero, Nat.sub_zero]
  rcases Nat.le_total k xs.length with h | h
  · rw [Nat.min_eq_left h]
  · rw [Nat.min_eq_right h, List.take_length, List.take_of_length_le h]
theorem cutV_from (xs : List V) (k : Nat) : cutV xs (some (k : Int)) none = xs.drop k := by
  unfold cutV
  rw [HT.sIx_none, HT.sIx_nat]
  rcases Nat.le_total k xs.length with h | h
  · rw [Nat.min_eq_left h, List.take_of_length_le]
    rw [List.length_drop]
    exact Nat.le_refl _
  · rw [Nat.min_eq_right h, Nat.sub_self, List.take_zero, List.drop_eq_nil_of_le h]
/-- t[:k] -/
theorem ed_toT {k : Nat} (ha : EvD K ta σ H (.tuple ds)) (hb : EvD K tb σ H (.int (k : Int))) : EvD K (tSl (rSlU K) ta tNoPart (tPart tb)) σ H (.tuple (ds.take k)) := fun H1 e Q q =>
  ha H1 e _ fun x H2 e2 hx => by
    obtain ⟨p, xs, rfl, hp, hxs⟩ := hx.tuple_inv
    refine hb H2 (e.trans e2) _ fun y H3 e3 hy => ?_
    refine ⟨k, hy.int_inv, .inr ⟨p, xs, rfl, Evl.ex_t e3 hp, fun hw => ?_, fun hw r hr => ?_⟩⟩
    · have h2 := hw.2
      rw [HT.sIx_nat] at h2
      have hk : ds.length ≤ k := by have := hxs.length; omega
      rw [List.take_of_length_le hk] at q
      exact q _ H3 (e2.trans e3) (.tup (Evl.ex_t e3 hp) (hxs.ex e3))
    · have hn := Ex.new (o := .tup (cutV xs none (some (k : Int)))) hr
      refine q _ _ ((e2.trans e3).trans hn) (.tup (SqT.of upd_same) ?_)
      exact DpAll.ex (ds := ds.take k) (by rw [cutV_to]; exact (hxs.take k).ex e3) hn
/-- t[k:] -/
theorem ed_fromT {k : Nat} (ha : EvD K ta σ H (.tuple ds)) (hb : EvD K tb σ H (.int (k : Int))) : EvD K (tSl (rSlU K) ta (tPart tb) tNoPart) σ H (.tuple (ds.drop k)) := fun H1 e Q q =>
  ha H1 e _ fun x H2 e2 hx => by
    obtain ⟨p, xs, rfl, hp, hxs⟩ := hx.tuple_inv
    refine hb H2 (e.trans e2) _ fun y H3 e3 hy => ?_
    refine ⟨k, hy.int_inv, .inr ⟨p, xs, rfl, Evl.ex_t e3 hp, fun hw => ?_, fun hw r hr => ?_⟩⟩
    · have h1 := hw.1
      rw [HT.sIx_nat] at h1
      have hl := hxs.length
      have hd : ds.drop k = ds := by
        rcases Nat.eq_zero_or_pos k with rfl | hk
        · rfl
        · have : ds.length = 0 := by omega
          rw [List.length_eq_zero_iff.mp this]
          simp
      rw [hd] at q
      exact q _ H3 (e2.trans e3) (.tup (Evl.ex_t e3 hp) (hxs.ex e3))
    · have hn := Ex.new (o := .tup (cutV xs (some (k : Int)) none)) hr
      refine q _ _ ((e2.trans e3).trans hn) (.tup (SqT.of upd_same) ?_)
      exact DpAll.ex (ds := ds.drop k) (by rw [cutV_from]; exact (hxs.drop k).ex e3) hn
/-- l[:k] -/
theorem en_toL {k : Nat} (ha : EvD K ta σ H (.list ds)) (hb : EvD K tb σ H (.int (k : Int))) : EvN K (tSl (rSlU K) ta tNoPart (tPart tb)) σ H (ds.take k) := fun H1 e Q q =>
  ha H1 e _ fun x H2 e2 hx => by
    obtain ⟨p, xs, rfl, hp, hxs⟩ := hx.list_inv
    refine hb H2 (e.trans e2) _ fun y H3 e3 hy => ?_
    refine ⟨k, hy.int_inv, .inl ⟨p, xs, rfl, Evl.ex_l e3 hp, fun r hr => ?_⟩⟩
    have hn := Ex.new (o := .lst (cutV xs none (some (k : Int)))) hr
    refine q _ _ _ (Evl.fresh_back (e2.trans e3) hr) ((e2.trans e3).trans hn) upd_same ?_
    exact DpAll.ex (ds := ds.take k) (by rw [cutV_to]; exact (hxs.take k).ex e3) hn
/-- l[k:] -/
theorem en_fromL {k : Nat} (ha : EvD K ta σ H (.list ds)) (hb : EvD K tb σ H (.int (k : Int))) : EvN K (tSl (rSlU K) ta (tPart tb) tNoPart) σ H (ds.drop k) := fun H1 e Q q =>
  ha H1 e _ fun x H2 e2 hx => by
    obtain ⟨p, xs, rfl, hp, hxs⟩ := hx.list_inv
    refine hb H2 (e.trans e2) _ fun y H3 e3 hy => ?_
    refine ⟨k, hy.int_inv, .inl ⟨p, xs, rfl, Evl.ex_l e3 hp, fun r hr => ?_⟩⟩
    have hn := Ex.new (o := .lst (cutV xs (some (k : Int)) none)) hr
    refine q _ _ _ (Evl.fresh_back (e2.trans e3) hr) ((e2.trans e3).trans hn) upd_same ?_
    exact DpAll.ex (ds := ds.drop k) (by rw [cutV_from]; exact (hxs.drop k).ex e3) hn

/-! ### lists that grow -/
/-- the tracked list at p holds these -/
def Lst (K : Fg) (H : Hp) (p : Addr) (ds : List PyData) : Prop := ∃ ws, H p = some (.lst ws) ∧ DpAll K H ws ds
theorem Lst.of {p : Addr} {ws : List V} (h : H p = some (.lst ws)) (k : DpAll K H ws ds) : Lst K H p ds := ⟨ws, h, k⟩
theorem Lst.ex {p : Addr} (h : Lst K H p ds) (e : Ex H H') : Lst K H' p ds := by
  obtain ⟨ws, h1, h2⟩ := h
  exact ⟨ws, e p _ h1, h2.ex e⟩
theorem Lst.keep {p : Addr} {S : List Addr} (h : Lst K H p ds) (m : MutS H S) (e : ExB S H H') (hp : p ∉ S) (f : nlAll ds = true) : Lst K H' p ds := by
  obtain ⟨ws, h1, h2⟩ := h
  exact ⟨ws, e p _ hp h1, h2.keep m e f⟩
theorem Lst.dp {p : Addr} (h : Lst K H p ds) : Dp K H (.ref p) (.list ds) := by
  obtain ⟨ws, h1, h2⟩ := h
  exact .lst (SqL.of h1) h2
theorem Lst.mut {p : Addr} (h : Lst K H p ds) : MutS H [p] := fun a m u e => by
  obtain ⟨ws, h1, h2⟩ := h
  rw [List.mem_singleton.mp m, h1] at e
  cases e
  trivial
theorem MutS.mono {S : List Addr} (m : MutS H S) (e : Ex H H') (ha : ∀ a ∈ S, ∃ u, H a = some u) : MutS H' S := fun a h u q => by
  obtain ⟨w, hw⟩ := ha a h
  have := e a _ hw
  rw [q] at this
  cases this
  exact m a h u hw
theorem nlAll_append : nlAll (ds ++ es) = (nlAll ds && nlAll es) := by
  induction ds with
  | nil => simp [nlAll]
  | cons d ds ih => simp [nlAll, ih, Bool.and_assoc]
/-- acc.append(e) -/
theorem s_app {i : Nat} {p : Addr} (hσ : σ[i]? = some (some (.ref p))) (hl : Lst K H p ds) (hn : nlAll ds = true) (hd : nl d = true) (hz : ds.length < 100000) (he : EvD K te σ H d)
    (k : ∀ H1, ExB [p] H H1 → Lst K H1 p (ds ++ [d]) → D.nx σ H1) : tDrop (tBM K "list" rAppend (tVar i) (tCons te tNil)) D σ H := by
  obtain ⟨ws, h1, h2⟩ := id hl
  refine ⟨_, hσ, .inl ⟨rfl, ws, SqL.of h1⟩, ?_⟩
  refine (ea1 he) H (Ex.refl H) _ fun vs H2 e2 hv => ?_
  obtain ⟨x, rfl, hx⟩ := dpAll1 hv
  refine ⟨p, ws, x, rfl, rfl, e2 p _ h1, Evl.sz_lt (by rw [h2.length]; exact hz), ?_⟩
  have m : MutS H2 [p] := (hl.ex e2).mut
  have ex : ExB [p] H2 (upd H2 p (.lst (ws ++ [x]))) := (ExB.refl [p] H2).upd (by simp) _
  refine k _ ((ExB.of e2).trans ex) ⟨_, upd_same, ?_⟩
  exact ((h2.ex e2).snoc hx).keep m ex (by rw [nlAll_append, hn]; simp [nlAll, hd])
/-! ### loops -/
variable {M : List Addr} {wi : TI} {g : TG} {tbd : TS} {c : TT}
abbrev Dl (D : Ends) (N : L2.St → Hp → Prop) : Ends := { D with nx := N, ct := N, bk := D.nx }
theorem s_for {α : Type} {enc : α → PyData} {as : List α} (hs : EvS K M wi σ H (as.map enc)) (Pv : Nat → L2.St → Hp → Prop) (h0 : Pv 0 σ H) (mono : ∀ i σ1 H1 H2, Pv i σ1 H1 → Ex H1 H2 → Pv i σ1 H2)
    (step : ∀ i a x σ1 H1, as[i]? = some a → Pv i σ1 H1 → ExB M H H1 → Dp K H1 x (enc a) → ∃ σ2, Tgt g x σ1 H1 σ2 ∧ ∀ H2, Ex H1 H2 → ∀ N : L2.St → Hp → Prop, (∀ σ3 H3, Pv (i + 1) σ3 H3 → ExB M H2 H3 → N σ3 H3) → tbd (Dl D N) σ2 H2)
    (hd : ∀ σ1 H1, Pv as.length σ1 H1 → ExB M H H1 → D.nx σ1 H1) : tFor wi g tbd D σ H := by
  refine hs H (Ex.refl H) _ fun J H1 e1 w => ?_
  have wl : (as.map enc).length = as.length := List.length_map ..
  have w : Walk J as.length (ExB M H1) (fun i H x H' => Ex H H' ∧ ∃ d, (as.map enc)[i]? = some d ∧ Dp K H' x d) := wl ▸ w
  refine for_it w (fun i σ' H' => Pv i σ' H' ∧ ExB M H1 H') ⟨mono 0 _ _ _ h0 e1, ExB.refl _ _⟩ (fun i σ' H' _ p => p.2) (fun i x σ' H2 H3 hi p y => ?_) fun σ' H' p => hd σ' H' p.1 ((ExB.of e1).trans p.2)
  obtain ⟨p1, p2⟩ := p
  obtain ⟨e3, d, hd, hx⟩ := y
  have hai : as[i]? = some (as[i]) := List.getElem?_eq_getElem hi
  rw [List.getElem?_map, hai] at hd
  cases hd
  obtain ⟨σ2, htg, hk⟩ := step i as[i] x σ' H3 hai (mono _ _ _ _ p1 e3) ((ExB.of e1).trans (p2.then e3)) hx
  exact htg _ fun H4 e4 => hk H4 e4 _ fun σ5 H5 p5 e5 => ⟨p5, (p2.then (e3.trans e4)).trans e5⟩
theorem s_while (W : Nat → L2.St → Hp → Prop) {m : Nat} (h0 : W m σ H) (step : ∀ m σ1 H1, W m σ1 H1 → ∃ b, Evl.EvT c σ1 H1 b ∧ (b = true → ∀ H2, Ex H1 H2 → ∀ N : L2.St → Hp → Prop, (∀ m' σ3 H3, m' < m → W m' σ3 H3 → N σ3 H3) → tbd (Dl D N) σ1 H2) ∧ (b = false → ∀ H2, Ex H1 H2 → D.nx σ1 H2)) : tWhile c tbd D σ H := by
  refine ⟨W, ⟨m, h0⟩, fun m σ1 H1 w => ?_⟩
  obtain ⟨b, ht, h1, h2⟩ := step m σ1 H1 w
  refine ht H1 (Ex.refl H1) _ fun H2 e2 => ?_
  cases b with
  | true => exact ⟨fun σ' H' => ∃ m', m' < m ∧ W m' σ' H', fun _ _ h => h, h1 rfl H2 e2 _ fun m' σ3 H3 hm w' => ⟨m', hm, w'⟩⟩
  | false => exact h2 rfl H2 e2
end
end NS
set_option Elab.async false
set_option linter.all false
set_option maxRecDepth 100000
set_option maxHeartbeats 4000000
namespace NS
open PySem PySem.Spec PyProof.Rows L2
open Evl (Ex)
/-! ### the law's data -/
def rowD (r : List Int) : PyData := .tuple (r.map .int)
def quadD (s : Str) (a b : List Nat) : PyData := .tuple [.str s, nI 0, cols a, cols b]
theorem eqvAll_map {α : Type} {f : α → PyData} {e : α → α → Bool} (h : ∀ a b, PyData.eqv (f a) (f b) = e a b) : ∀ as bs : List α, PyData.eqvAll (as.map f) (bs.map f) = (decide (as.length = bs.length) && (as.zip bs).all fun p => e p.1 p.2)
  | [], [] => by simp [PyData.eqvAll]
  | [], b :: bs => by simp [PyData.eqvAll]
  | a :: as, [] => by simp [PyData.eqvAll]
  | a :: as, b :: bs => by
    have := eqvAll_map h as bs
    simp only [List.map_cons, PyData.eqvAll, this, h, List.length_cons, List.zip_cons_cons, List.all_cons]
    by_cases q : as.length = bs.length <;> simp [q]
theorem eqvAll_dec {α : Type} [DecidableEq α] {f : α → PyData} (h : ∀ a b, PyData.eqv (f a) (f b) = decide (a = b)) : ∀ as bs : List α, PyData.eqvAll (as.map f) (bs.map f) = decide (as = bs)
  | [], [] => by simp [PyData.eqvAll]
  | [], b :: bs => by simp [PyData.eqvAll]
  | a :: as, [] => by simp [PyData.eqvAll]
  | a :: as, b :: bs => by
    have := eqvAll_dec h as bs
    simp only [List.map_cons, PyData.eqvAll, this, h, List.cons.injEq]
    by_cases q : a = b <;> simp [q]
theorem eqv_int (i j : Int) : PyData.eqv (.int i) (.int j) = decide (i = j) := by
  have : PyData.eqv (.int i) (.int j) = (i == j) := by simp [PyData.eqv]
  rw [this]
  by_cases q : i = j <;> simp [q]
theorem eqv_nI (i j : Nat) : PyData.eqv (nI i) (nI j) = decide (i = j) := by
  unfold nI
  rw [eqv_int]
  by_cases q : i = j
  · simp [q]
  · have q' : ¬ (i : Int) = j := by omega
    simp [q, q']
theorem eqv_tuple (xs ys : List PyData) : PyData.eqv (.tuple xs) (.tuple ys) = PyData.eqvAll xs ys := by simp [PyData.eqv]
theorem eqv_list (xs ys : List PyData) : PyData.eqv (.list xs) (.list ys) = PyData.eqvAll xs ys := by simp [PyData.eqv]
theorem eqv_cols (a b : List Nat) : PyData.eqv (cols a) (cols b) = decide (a = b) := by
  unfold cols
  rw [eqv_tuple, eqvAll_dec eqv_nI]
theorem eqv_row (a b : List Int) : PyData.eqv (rowD a) (rowD b) = decide (a = b) := by
  unfold rowD
  rw [eqv_tuple, eqvAll_dec eqv_int]
theorem any_dec {α : Type} [BEq α] [LawfulBEq α] [DecidableEq α] {f : α → PyData} (h : ∀ a b, PyData.eqv (f a) (f b) = decide (a = b)) (as : List α) (c : α) : ((as.map f).any fun z => PyData.eqv z (f c)) = decide (c ∈ as) := by
  rw [List.any_map]
  induction as with
  | nil => simp
  | cons a as ih =>
    rw [List.any_cons, ih]
    simp only [Function.comp, h, List.mem_cons]
    by_cases q : a = c
    · simp [q]
    · have q' : ¬ c = a := fun e => q e.symm
      simp [q, q']
theorem any_cols (cs : List Nat) (c : Nat) : ((cs.map nI).any fun z => PyData.eqv z (nI c)) = decide (c ∈ cs) := any_dec eqv_nI cs c
theorem any_sets (S : List (List Nat)) (c : List Nat) : ((S.map cols).any fun z => PyData.eqv z (cols c)) = decide (c ∈ S) := any_dec eqv_cols S c
theorem any_rows (S : List (List Int)) (c : List Int) : ((S.map rowD).any fun z => PyData.eqv z (rowD c)) = decide (c ∈ S) := any_dec eqv_row S c
theorem any_ints (S : List Int) (c : Int) : ((S.map .int).any fun z => PyData.eqv z (.int c)) = decide (c ∈ S) := any_dec eqv_int S c
/-! shapes -/
theorem plain_cols (cs : List Nat) : plain 1 (cols cs) = true := by
  show plainAll 0 (cs.map nI) = true
  refine plainAll_iff.mpr fun d hd => ?_
  obtain ⟨c, _, rfl⟩ := List.mem_map.mp hd
  rfl
theorem plain_row (r : List Int) : plain 1 (rowD r) = true := by
  show plainAll 0 (r.map .int) = true
  refine plainAll_iff.mpr fun d hd => ?_
  obtain ⟨c, _, rfl⟩ := List.mem_map.mp hd
  rfl
theorem plain_all {α : Type} {f : α → PyData} {k : Nat} (h : ∀ a, plain k (f a) = true) (as : List α) : plainAll k (as.map f) = true := plainAll_iff.mpr fun d hd => by
  obtain ⟨c, _, rfl⟩ := List.mem_map.mp hd
  exact h c
theorem nl_all {α : Type} {f : α → PyData} (h : ∀ a, nl (f a) = true) (as : List α) : nlAll (as.map f) = true := nlAll_iff.mpr fun d hd => by
  obtain ⟨c, _, rfl⟩ := List.mem_map.mp hd
  exact h c
theorem nl_nI (n : Nat) : nl (nI n) = true := rfl
theorem nl_cols (cs : List Nat) : nl (cols cs) = true := nl_all nl_nI cs
theorem nl_row (r : List Int) : nl (rowD r) = true := nl_all (fun _ => rfl) r
theorem nl_quad (s : Str) (a b : List Nat) : nl (quadD s a b) = true := by
  show nlAll [_, _, _, _] = true
  simp [nlAll, nl_cols, nl_nI, nl]
theorem sh_nI (n : Nat) : SeqAt.shaped (nI n) = true := shaped_of_plain (k := 0) rfl
theorem sh_int (n : Int) : SeqAt.shaped (.int n) = true := shaped_of_plain (k := 0) rfl
theorem sh_cols (cs : List Nat) : SeqAt.shaped (cols cs) = true := shaped_of_plain (plain_cols cs)
theorem sh_row (r : List Int) : SeqAt.shaped (rowD r) = true := shaped_of_plain (plain_row r)
theorem sh_setsL (S : List (List Nat)) : SeqAt.shaped (.list (S.map cols)) = true := shaped_of_plain (k := 2) (plain_all plain_cols S)
theorem sh_setsT (S : List (List Nat)) : SeqAt.shaped (.tuple (S.map cols)) = true := shaped_of_plain (k := 2) (plain_all plain_cols S)
theorem sh_rowsL (S : List (List Int)) : SeqAt.shaped (.list (S.map rowD)) = true := shaped_of_plain (k := 2) (plain_all plain_row S)
theorem sh_rowsT (S : List (List Int)) : SeqAt.shaped (.tuple (S.map rowD)) = true := shaped_of_plain (k := 2) (plain_all plain_row S)
theorem sh_intsL (S : List Int) : SeqAt.shaped (.list (S.map .int)) = true := shaped_of_plain (k := 1) (plain_all (fun _ => rfl) S)
theorem sh_colsL (S : List Nat) : SeqAt.shaped (.list (S.map nI)) = true := shaped_of_plain (k := 1) (plain_all (fun _ => rfl) S)
section
variable {K : Fg} {σ : L2.St} {H H' : Hp} {ta tb te tx : TE} {v : V} {d d1 d2 : PyData} {ds es : List PyData} {D : Ends} {cs a b : List Nat} {c i j : Nat}
theorem ed_inC (ha : EvD K ta σ H (nI c)) (hb : EvD K tb σ H (cols cs)) : EvD K (tOp (rInU K) ta tb) σ H (.bool (decide (c ∈ cs))) := ed_is (ed_inT ha hb (sh_nI c) (sh_cols cs)) (by rw [any_cols])
theorem ed_niC (ha : EvD K ta σ H (nI c)) (hb : EvD K tb σ H (cols cs)) : EvD K (tOp (rNotInU K) ta tb) σ H (.bool (!decide (c ∈ cs))) := ed_is (ed_niT ha hb (sh_nI c) (sh_cols cs)) (by rw [any_cols])
theorem ed_eqC (ha : EvD K ta σ H (cols a)) (hb : EvD K tb σ H (cols b)) : EvD K (tOp (rEqD K) ta tb) σ H (.bool (decide (a = b))) := ed_is (ed_eq ha hb (sh_cols a) (sh_cols b)) (by rw [eqv_cols])
theorem ed_neC (ha : EvD K ta σ H (cols a)) (hb : EvD K tb σ H (cols b)) : EvD K (tOp (rNeD K) ta tb) σ H (.bool (!decide (a = b))) := ed_is (ed_ne ha hb (sh_cols a) (sh_cols b)) (by rw [eqv_cols])
theorem ed_eqN (ha : EvD K ta σ H (nI i)) (hb : EvD K tb σ H (nI j)) : EvD K (tOp (rEqD K) ta tb) σ H (.bool (decide (i = j))) := ed_is (ed_eq ha hb (sh_nI i) (sh_nI j)) (by rw [eqv_nI])
theorem ed_neN (ha : EvD K ta σ H (nI i)) (hb : EvD K tb σ H (nI j)) : EvD K (tOp (rNeD K) ta tb) σ H (.bool (!decide (i = j))) := ed_is (ed_ne ha hb (sh_nI i) (sh_nI j)) (by rw [eqv_nI])
theorem ed_addN (ha : EvD K ta σ H (nI i)) (hb : EvD K tb σ H (nI j)) : EvD K (tOp (rPlus K) ta tb) σ H (nI (i + j)) := ed_is (ed_addI ha hb) (by unfold nI; rw [Int.natCast_add])
theorem ed_inl (h : EvD K ta σ H d) : EvD K (oE ta tb) σ H d := fun H1 e Q q => .inl (h H1 e Q q)
theorem ed_inr (h : EvD K tb σ H d) : EvD K (oE ta tb) σ H d := fun H1 e Q q => .inr (h H1 e Q q)
theorem ed_n0 : EvD K (tC (.int 0)) σ H (nI 0) := ed_i
theorem ed_n1 : EvD K (tC (.int 1)) σ H (nI 1) := ed_i
end
/-! what is tracked and may change -/
def Trk (H : Hp) (M : List Addr) : Prop := ∀ a ∈ M, ∃ u, H a = some u ∧ Mut (some u)
section
variable {K : Fg} {σ : L2.St} {H H' : Hp} {ta tb te tx : TE} {v : V} {d d1 d2 : PyData} {ds es : List PyData} {D : Ends} {M : List Addr}
theorem Trk.muts (t : Trk H M) : MutS H M := fun a m u e => by
  obtain ⟨w, h, k⟩ := t a m
  rw [e] at h
  cases h
  exact k
theorem Trk.ex (t : Trk H M) (e : Ex H H') : Trk H' M := fun a m => let ⟨w, h, k⟩ := t a m; ⟨w, e a _ h, k⟩
theorem Trk.nil : Trk H [] := fun _ h => by cases h
theorem Trk.one {p : Addr} {u : HO} (h : H p = some u) (k : Mut (some u)) : Trk H [p] := fun a m => by rw [List.mem_singleton.mp m]; exact ⟨u, h, k⟩
theorem Trk.cons {p : Addr} {u : HO} (h : H p = some u) (k : Mut (some u)) (t : Trk H M) : Trk H (p :: M) := fun a m => by
  rcases List.mem_cons.mp m with rfl | m
  · exact ⟨u, h, k⟩
  · exact t a m
theorem _root_.NS.Lst.trk {p : Addr} (h : Lst K H p ds) : Trk H [p] := let ⟨ws, h1, _⟩ := h; Trk.one h1 trivial
theorem _root_.NS.Lst.trkC {p : Addr} (h : Lst K H p ds) (t : Trk H M) : Trk H (p :: M) := let ⟨ws, h1, _⟩ := h; Trk.cons h1 trivial t
theorem _root_.NS.Lst.at {p : Addr} (h : Lst K H p ds) : ∃ u, H p = some u := let ⟨ws, h1, _⟩ := h; ⟨_, h1⟩
/-- sources under what changes -/
theorem es_tupX {tl : TE} (h : EvD K tl σ H (.tuple ds)) (t : Trk H M) (hn : nlAll ds = true) : EvS K M (iSq K tl) σ H ds := es_inr (es_tupM h (fun H1 e => (t.ex e).muts) (.inl hn))
theorem es_newX {tl : TE} (h : EvN K tl σ H ds) (t : Trk H M) (hn : nlAll ds = true) : EvS K M (iSq K tl) σ H ds := es_inl (es_newM h (fun m hm => ⟨[], .inr (.inr (t m hm))⟩) (.inl hn))
theorem es_lstX {i : Nat} {p : Addr} (hσ : σ[i]? = some (some (.ref p))) (hl : Lst K H p ds) (hp : p ∉ M) (t : Trk H M) (hn : nlAll ds = true) : EvS K M (iSq K (tVar i)) σ H ds := es_inl fun H1 e R q => by
  obtain ⟨xs, hs, hxs⟩ := hl.ex e
  refine ⟨_, hσ, p, rfl, ⟨xs, SqL.of hs⟩, q _ H1 (Ex.refl H1) ?_⟩
  have m := (t.ex e).muts
  have w := walk_list (K := K) (a := p) (xs := xs)
  rw [hxs.length] at w
  refine w.mono (fun H3 e3 => sqL_keep hp e3 (SqL.of hs)) fun i H3 x H4 hi e3 y => ?_
  obtain ⟨rfl, hx⟩ := y
  obtain ⟨d, hd, hdx⟩ := hxs.get hx
  exact ⟨Ex.refl _, d, hd, hdx.keep m e3 (nlAll_iff.mp hn d (List.mem_of_getElem? hd))⟩
theorem es_enumX {i : Nat} {p : Addr} (hσ : σ[i]? = some (some (.ref p))) (hl : Lst K H p ds) (hp : p ∉ M) (t : Trk H M) (hn : nlAll ds = true) : EvS K M (iEnum K (tCons (tVar i) tNil)) σ H (enumD ds) := fun H1 e R q => by
  obtain ⟨xs, hs, hxs⟩ := hl.ex e
  refine ⟨_, hσ, p, xs, rfl, SqL.of hs, q _ H1 (Ex.refl H1) ?_⟩
  have m := (t.ex e).muts
  have hl := hxs.length
  have keepL : ∀ {H3}, ExB M H1 H3 → SqL K H3 p xs := fun e3 => sqL_keep hp e3 (SqL.of hs)
  refine ⟨fun i H3 hi e3 => ?_, fun H3 e3 => ⟨xs, keepL e3, by rw [enumD_len]; omega⟩, fun i H3 x H4 hi e3 y => ?_⟩
  · rw [enumD_len] at hi
    exact ⟨xs, xs[i]'(by omega), keepL e3, List.getElem?_eq_getElem (by omega)⟩
  · obtain ⟨T, x0, rfl, hT, rfl, hx⟩ := y
    obtain ⟨d, hd, hdx⟩ := hxs.get (hx xs (keepL e3))
    have hnw := Ex.new (o := .tup [.int (i : Nat), x0]) hT
    have hd3 : Dp K H3 x0 d := hdx.keep m e3 (nlAll_iff.mp hn d (List.mem_of_getElem? hd))
    exact ⟨hnw, _, enumD_get hd, .tup (SqT.of upd_same) (.cons (.int _) (.cons (hd3.ex hnw) .nil))⟩
theorem tgt_quad {i j k l : Nat} {x : V} {σ0 : L2.St} {d1 d2 d3 d4 : PyData} (h : Dp K H x (.tuple [d1, d2, d3, d4])) : ∃ y z t u, Dp K H y d1 ∧ Dp K H z d2 ∧ Dp K H t d3 ∧ Dp K H u d4 ∧
    Tgt (gTup K 4 (gCons (gName i) (gCons (gName j) (gCons (gName k) (gCons (gName l) gNil))))) x σ0 H ((((σ0.set i (some y)).set j (some z)).set k (some t)).set l (some u)) := by
  obtain ⟨a, xs, rfl, ha, hxs⟩ := h.tuple_inv
  obtain ⟨y, z, t, u, rfl, hy, hz, ht, hu⟩ := dpAll4 hxs
  exact ⟨y, z, t, u, hy, hz, ht, hu, fun Q q => ⟨a, _, rfl, ha, rfl, y, _, rfl, z, _, rfl, t, _, rfl, u, _, rfl, rfl, q H (Ex.refl H)⟩⟩
end
/-! rows whose tuple is there itself (a dict's key, a set's member) -/
def Tr (H : Hp) (v : V) (r : List Int) : Prop := ∃ b, v = .ref b ∧ H b = some (.tup (r.map V.int))
/-- te gives what Pr says -/
def EvP (te : TE) (σ : L2.St) (H : Hp) (Pr : Hp → V → Prop) : Prop := ∀ H1, Ex H H1 → ∀ Q : VK, (∀ v H2, Ex H1 H2 → Pr H2 v → Q v H2) → te σ H1 Q
abbrev EvR (te : TE) (σ : L2.St) (H : Hp) (r : List Int) : Prop := EvP te σ H fun H v => Tr H v r
section
variable {K : Fg} {σ : L2.St} {H H' : Hp} {te : TE} {v : V} {r : List Int} {S : List Addr}
theorem Tr.ex (h : Tr H v r) (e : Ex H H') : Tr H' v r := let ⟨b, h1, h2⟩ := h; ⟨b, h1, e b _ h2⟩
theorem Tr.keep (h : Tr H v r) (m : MutS H S) (e : ExB S H H') : Tr H' v r := let ⟨b, h1, h2⟩ := h; ⟨b, h1, e b _ (fun hb => m b hb _ h2) h2⟩
theorem Tr.dp (h : Tr H v r) : Dp K H v (rowD r) := let ⟨b, h1, h2⟩ := h; h1 ▸ .tup (SqT.of h2) DpAll.ofInts
theorem EvP.toD {d : PyData} {Pr : Hp → V → Prop} (h : EvP te σ H Pr) (k : ∀ H v, Pr H v → Dp K H v d) : EvD K te σ H d := fun H1 e Q q => h H1 e _ fun v H2 e2 hv => q v H2 e2 (k _ _ hv)
theorem er_toD (h : EvR te σ H r) : EvD K te σ H (rowD r) := h.toD fun _ _ h => h.dp
theorem er_var {i : Nat} (hσ : σ[i]? = some (some v)) (hv : Tr H v r) : EvR (tVar i) σ H r := fun H1 e Q q => ⟨v, hσ, q v H1 (Ex.refl H1) (hv.ex e)⟩
theorem s_retP {Pr : Hp → V → Prop} {D : Ends} (h : EvP te σ H Pr) (k : ∀ v H1, Ex H H1 → Pr H1 v → D.rt v H1) : tRet te D σ H := h H (Ex.refl H) _ k
theorem s_setP {Pr : Hp → V → Prop} {D : Ends} {i : Nat} (h : EvP te σ H Pr) (k : ∀ v H1, Ex H H1 → Pr H1 v → D.nx (σ.set i (some v)) H1) : tAsg te (gName i) D σ H := h H (Ex.refl H) _ k
theorem q_setP {Pr : Hp → V → Prop} {D : Ends} {tz : TS} {i : Nat} (h : EvP te σ H Pr) (k : ∀ v H1, Ex H H1 → Pr H1 v → tz D (σ.set i (some v)) H1) : tSeq (tAsg te (gName i)) tz D σ H := h H (Ex.refl H) _ k
theorem er_tup (h : EvD K te σ H (.list (r.map .int))) : EvR (tThen te (kTup K)) σ H r := fun H1 e Q q => h H1 e _ fun x H2 e2 hx => by
  obtain ⟨p, xs, rfl, hp, hxs⟩ := hx.list_inv
  rw [hxs.ints] at hp
  refine .inl ⟨p, _, rfl, hp, fun t ht => ?_⟩
  exact q _ _ (e2.trans (Ex.new ht)) ⟨t, rfl, upd_same⟩
end
def spTr {α : Type} (K : Fg) (args : α → List PyData) (pre : α → Prop) (res : α → List Int) : Sp := fun vs H Q _ => ∃ a, DpAll K H vs (args a) ∧ pre a ∧ ∀ v H', Ex H H' → Tr H' v (res a) → Q v H'
section
variable {α : Type} {K : Fg} {σ : L2.St} {H : Hp} {args : α → List PyData} {pre : α → Prop} {res : α → List Int} {t : TA} {E : XK}
theorem er_call (a : α) (h : EvA K t σ H (args a)) (hp : pre a) : EvR (tCall (spTr K args pre res) [] E t) σ H (res a) := fun H1 e Q q => h H1 e _ fun vs H2 e2 hvs =>
  ⟨a, by rw [List.append_nil]; exact hvs, hp, fun v H' e3 hv => q v H' (e2.trans e3) hv⟩
theorem len_spTr {n : Nat} (hn : ∀ a, (args a).length = n) : ∀ vs H Q E, spTr K args pre res vs H Q E → vs.length = n := fun vs H Q E h => by
  obtain ⟨a, h, _⟩ := h
  rw [h.length, hn]
end
/-! promises of new lists -/
def spL {α : Type} (K : Fg) (args : α → List PyData) (pre : α → Prop) (res : α → List PyData) : Sp := fun vs H Q _ => ∃ a, DpAll K H vs (args a) ∧ pre a ∧ ∀ p H', H p = none → Ex H H' → Lst K H' p (res a) → Q (.ref p) H'
section
variable {α : Type} {K : Fg} {σ : L2.St} {H : Hp} {args : α → List PyData} {pre : α → Prop} {res : α → List PyData} {t : TA} {E : XK}
theorem en_call (a : α) (h : EvA K t σ H (args a)) (hp : pre a) : EvN K (tCall (spL K args pre res) [] E t) σ H (res a) := fun H1 e Q q => h H1 e _ fun vs H2 e2 hvs =>
  ⟨a, by rw [List.append_nil]; exact hvs, hp, fun p H' hp e3 hl => by
    obtain ⟨ws, h1, h2⟩ := hl
    exact q p ws H' (Evl.fresh_back e2 hp) (e2.trans e3) h1 h2⟩
theorem len_spL {n : Nat} (hn : ∀ a, (args a).length = n) : ∀ vs H Q E, spL K args pre res vs H Q E → vs.length = n := fun vs H Q E h => by
  obtain ⟨a, h, _⟩ := h
  rw [h.length, hn]
end
/-- a new list to a slot -/
theorem s_setL {K : Fg} {σ : L2.St} {H : Hp} {te : TE} {D : Ends} {i : Nat} {ds : List PyData} (h : EvN K te σ H ds) (k : ∀ p H1, H p = none → Ex H H1 → Lst K H1 p ds → D.nx (σ.set i (some (.ref p))) H1) : tAsg te (gName i) D σ H := h H (Ex.refl H) _ fun p vs H1 hp e hv hd => k p H1 hp e ⟨vs, hv, hd⟩
end NS
set_option Elab.async false
set_option linter.all false
set_option maxRecDepth 100000
set_option maxHeartbeats 4000000
namespace NS
open PySem PySem.Spec PyProof.Rows L2
open Evl (Ex)
section
variable {X : Cx} {K : Fg} {o e : Expr} {es : List Expr} {to : TE} {t : TA} {name : Str} {apos cpos : Pos} {T id : String} {r : V → List V → Hp → VK → Prop}
theorem kBm0 (hK : X.K = K) (pa : PlainAttrs T) (slot : Slot T name id) (hty : typeOf (.builtin id) = pure (.type "method_descriptor")) (hm : MtR X id r) (ho : PE X o to)
    (hbase : attributeBase o name X.env (eval o X.env) = eval o X.env := by rfl) (hline : (apos.endLine == cpos.line) = true := by rfl) : PE X (.Call (.Attribute o name apos) [] [] cpos) (tBM0 K T r to) := hK ▸ pe_bm0 pa slot hty hm ho hbase hline
theorem kBm (hK : X.K = K) (pa : PlainAttrs T) (slot : Slot T name id) (hty : typeOf (.builtin id) = pure (.type "method_descriptor")) (hm : MtR X id r) (ho : PE X o to) (ha : PA X (e :: es) t)
    (hbase : attributeBase o name X.env (eval o X.env) = eval o X.env := by rfl)
    (hfew : ((backTo cpos (starEach (e :: es) X.env)).all (fun x => !x.1) && (backToKw cpos (keywordEach [] X.env)).all (fun x => x.1.isSome)
      && decide ((e :: es).length + ([] : List Keyword).length + (if ([] : List Keyword).isEmpty then 0 else 1) < 30)) = true := by rfl)
    (hline : (apos.endLine == cpos.line) = true := by rfl) (hs : starEach (e :: es) X.env = (false, eval e X.env) :: starEach es X.env := by rfl) (hplain : (backTo cpos (starEach es X.env)).any (·.1) = false := by rfl) :
    PE X (.Call (.Attribute o name apos) (e :: es) [] cpos) (tBM K T r to t) := hK ▸ pe_bm pa slot hty hm ho ha hbase hfew hline hs hplain
end
section
variable {K : Fg} {σ : L2.St} {H H' : Hp} {te : TE} {t : TT} {wi : TI} {g : TG} {vs : List Nat} {D : Ends}
theorem filterMap_some {α β : Type} (f : α → β) (as : List α) : as.filterMap (fun a => some (f a)) = as.map f := by
  rw [show (fun a => some (f a)) = some ∘ f from rfl, List.filterMap_eq_map]
theorem filterMap_if {α β : Type} (p : α → Bool) (f : α → β) (as : List α) : as.filterMap (fun a => if p a = true then some (f a) else none) = (as.filter p).map f := by
  induction as with
  | nil => rfl
  | cons a as ih =>
    by_cases h : p a = true
    · rw [List.filterMap_cons_some (by rw [if_pos h]), ih, List.filter_cons, if_pos h, List.map_cons]
    · rw [List.filterMap_cons_none (by rw [if_neg h]), ih, List.filter_cons, if_neg h]
/-- [e for target in s] -/
theorem en_lcM {α : Type} {enc : α → PyData} {as : List α} (f : α → PyData) (hs : EvS K [] wi σ H (as.map enc)) (hz : as.length ≤ 100000) (hn : ∀ a ∈ as, nl (f a) = true)
    (hel : ∀ a ∈ as, ∀ x H1, Ex H H1 → Dp K H1 x (enc a) → ∃ σ2, Tgt g x (wipe σ vs) H1 σ2 ∧ wipe σ2 vs = wipe σ vs ∧ EvD K te σ2 H1 (f a)) :
    EvN K (tLc wi g tYes te vs) σ H (as.map f) := by
  rw [← filterMap_some]
  refine en_lcG (fun a => some (f a)) hs hz (fun a ha d hd => by cases hd; exact hn a ha) fun a ha x H1 e hx => ?_
  obtain ⟨σ2, h1, h2, h3⟩ := hel a ha x H1 e hx
  exact ⟨σ2, true, h1, h2, fun H2 e2 Q q => q H2 (Ex.refl H2), (fun h => by cases h), fun _ => ⟨_, rfl, h3⟩⟩
/-- [e for target in s if t] -/
theorem en_lcF {α : Type} {enc : α → PyData} {as : List α} (p : α → Bool) (f : α → PyData) (hs : EvS K [] wi σ H (as.map enc)) (hz : as.length ≤ 100000) (hn : ∀ a ∈ as, nl (f a) = true)
    (hel : ∀ a ∈ as, ∀ x H1, Ex H H1 → Dp K H1 x (enc a) → ∃ σ2, Tgt g x (wipe σ vs) H1 σ2 ∧ wipe σ2 vs = wipe σ vs ∧ Evl.EvT t σ2 H1 (p a) ∧ (p a = true → EvD K te σ2 H1 (f a))) :
    EvN K (tLc wi g t te vs) σ H ((as.filter p).map f) := by
  rw [← filterMap_if]
  refine en_lcG (fun a => if p a = true then some (f a) else none) hs hz (fun a ha d hd => ?_) fun a ha x H1 e hx => ?_
  · by_cases h : p a = true
    · rw [if_pos h] at hd; cases hd; exact hn a ha
    · rw [if_neg h] at hd; cases hd
  · obtain ⟨σ2, h1, h2, h3, h4⟩ := hel a ha x H1 e hx
    exact ⟨σ2, p a, h1, h2, h3, (fun h => by rw [if_neg (by rw [h]; simp)]), fun h => ⟨f a, by rw [if_pos h], h4 h⟩⟩
theorem rowD_map {α : Type} (f : α → Int) (as : List α) : rowD (as.map f) = .tuple (as.map fun a => .int (f a)) := by
  unfold rowD
  rw [List.map_map]
  rfl
theorem cols_map {α : Type} (f : α → Nat) (as : List α) : cols (as.map f) = .tuple (as.map fun a => nI (f a)) := by
  unfold cols
  rw [List.map_map]
  rfl
theorem s_when {u : TS} {c : TT} {b : Bool} (h : Evl.EvT c σ H b) (h1 : b = true → ∀ H1, Ex H H1 → u D σ H1) (h2 : b = false → ∀ H1, Ex H H1 → D.nx σ H1) : tIfS c u tNext D σ H := s_if h h1 h2
/-! with what follows -/
section
variable {tz u t1 t2 tbd : TS} {c : TT} {b : Bool} {d : PyData} {ds : List PyData} {i : Nat} {M : List Addr}
abbrev Dz (D : Ends) (tz : TS) : Ends := { D with nx := tz D }
theorem q_set (h : EvD K te σ H d) (k : ∀ v H1, Ex H H1 → Dp K H1 v d → tz D (σ.set i (some v)) H1) : tSeq (tAsg te (gName i)) tz D σ H := s_set (D := Dz D tz) h k
theorem q_setL (h : EvN K te σ H ds) (k : ∀ p H1, H p = none → Ex H H1 → Lst K H1 p ds → tz D (σ.set i (some (.ref p))) H1) : tSeq (tAsg te (gName i)) tz D σ H := s_setL (D := Dz D tz) h k
theorem q_if (h : Evl.EvT c σ H b) (h1 : b = true → ∀ H1, Ex H H1 → t1 (Dz D tz) σ H1) (h2 : b = false → ∀ H1, Ex H H1 → t2 (Dz D tz) σ H1) : tSeq (tIfS c t1 t2) tz D σ H := s_if (D := Dz D tz) h h1 h2
theorem q_when (h : Evl.EvT c σ H b) (h1 : b = true → ∀ H1, Ex H H1 → t1 (Dz D tz) σ H1) (h2 : b = false → ∀ H1, Ex H H1 → tz D σ H1) : tSeq (tIfS c t1 tNext) tz D σ H := s_when (D := Dz D tz) h h1 h2
theorem q_app {p : Addr} (hσ : σ[i]? = some (some (.ref p))) (hl : Lst K H p ds) (hn : nlAll ds = true) (hd : nl d = true) (hz : ds.length < 100000) (he : EvD K te σ H d)
    (k : ∀ H1, ExB [p] H H1 → Lst K H1 p (ds ++ [d]) → tz D σ H1) : tSeq (tDrop (tBM K "list" rAppend (tVar i) (tCons te tNil))) tz D σ H := s_app (D := Dz D tz) hσ hl hn hd hz he k
theorem q_for {α : Type} {enc : α → PyData} {as : List α} (hs : EvS K M wi σ H (as.map enc)) (Pv : Nat → L2.St → Hp → Prop) (h0 : Pv 0 σ H) (mono : ∀ i σ1 H1 H2, Pv i σ1 H1 → Ex H1 H2 → Pv i σ1 H2)
    (step : ∀ i a x σ1 H1, as[i]? = some a → Pv i σ1 H1 → ExB M H H1 → Dp K H1 x (enc a) → ∃ σ2, Tgt g x σ1 H1 σ2 ∧ ∀ H2, Ex H1 H2 → ∀ N : L2.St → Hp → Prop, (∀ σ3 H3, Pv (i + 1) σ3 H3 → ExB M H2 H3 → N σ3 H3) → tbd ⟨N, D.rt, tz D, N⟩ σ2 H2)
    (hd : ∀ σ1 H1, Pv as.length σ1 H1 → ExB M H H1 → tz D σ1 H1) : tSeq (tFor wi g tbd) tz D σ H := s_for (D := Dz D tz) hs Pv h0 mono step hd
theorem q_while (W : Nat → L2.St → Hp → Prop) {m : Nat} (h0 : W m σ H) (step : ∀ m σ1 H1, W m σ1 H1 → ∃ b, Evl.EvT c σ1 H1 b ∧ (b = true → ∀ H2, Ex H1 H2 → ∀ N : L2.St → Hp → Prop, (∀ m' σ3 H3, m' < m → W m' σ3 H3 → N σ3 H3) → tbd ⟨N, D.rt, tz D, N⟩ σ1 H2) ∧ (b = false → ∀ H2, Ex H1 H2 → tz D σ1 H2)) : tSeq (tWhile c tbd) tz D σ H := s_while (D := Dz D tz) W h0 step
end
/-- enumerate over data: by the place -/
theorem enumD_map {α : Type} (f : α → PyData) (d : α) (as : List α) : enumD (as.map f) = (List.range as.length).map fun i => .tuple [nI i, f (as.getD i d)] := by
  unfold enumD
  rw [List.length_map]
  refine List.map_congr_left fun i hi => ?_
  have hi' : i < as.length := List.mem_range.mp hi
  simp [List.getD_eq_getElem?_getD, List.getElem?_eq_getElem hi']
theorem getD_of {α : Type} {as : List α} {i : Nat} {d : α} (h : i < as.length) : as.getD i d = as[i] := by
  simp [List.getD_eq_getElem?_getD, List.getElem?_eq_getElem h]
theorem range_get {n i a : Nat} (h : (List.range n)[i]? = some a) : a = i ∧ i < n := by
  have hi : i < n := by simpa using (List.getElem?_eq_some_iff.mp h).1
  rw [List.getElem?_range hi] at h
  cases h
  exact ⟨rfl, hi⟩
/-- tuple([..]) of ints, of columns -/
theorem ed_tupR {α : Type} {f : α → Int} {as : List α} (h : EvN K te σ H (as.map fun a => .int (f a))) : EvD K (tThen te (kTup K)) σ H (rowD (as.map f)) := rowD_map f as ▸ ed_tupL h.toD
theorem er_tupR {α : Type} {f : α → Int} {as : List α} (h : EvN K te σ H (as.map fun a => .int (f a))) : EvR (tThen te (kTup K)) σ H (as.map f) := by
  have e : (as.map f).map PyData.int = as.map fun a => .int (f a) := by rw [List.map_map]; rfl
  exact er_tup (by rw [e]; exact h.toD)
theorem ed_tupC {α : Type} {f : α → Nat} {as : List α} (h : EvN K te σ H (as.map fun a => nI (f a))) : EvD K (tThen te (kTup K)) σ H (cols (as.map f)) := cols_map f as ▸ ed_tupL h.toD
theorem ed_tupC' {as : List Nat} (h : EvN K te σ H (as.map nI)) : EvD K (tThen te (kTup K)) σ H (cols as) := ed_tupL h.toD
end
end NS
set_option Elab.async false
set_option linter.all false
set_option maxRecDepth 100000
set_option maxHeartbeats 4000000
namespace NS
open PySem PySem.Spec PyProof.Rows L2
open Evl (Ex)
section
variable {P : Program} {w : World} {K : Fg} {mg : Str → Option Value} {base : Heap}
/-! ### rows.picked -/
theorem sc_picked : FnScope ["row", "columns", "column"] ["row", "columns"] (defScope s_picked) := ⟨rfl, rfl, rfl, by decide +kernel, rfl, by decide +kernel, by decide +kernel⟩
def pk (r : List Int) (cs : List Nat) : List Int := cs.map fun c => r.getD c 0
def spPickedT (K : Fg) : Sp := spTr (α := List Int × List Nat) K (fun a => [rowD a.1, cols a.2]) (fun a => a.2.length ≤ 100000 ∧ ∀ c ∈ a.2, c < a.1.length) (fun a => pk a.1 a.2)
/-- of a dict by a list of columns -/
def spPickedD (K : Fg) : Sp := fun vs H Q _ => ∃ (D p : Addr) (kvs : List (L2.Key × V)) (cs : List Nat) (f : Nat → Int), vs = [.ref D, .ref p] ∧ H D = some (.dK kvs) ∧ Dp K H (.ref p) (.list (cs.map nI)) ∧ cs.length ≤ 100000 ∧ (∀ c ∈ cs, valV kvs (.inl ((c : Nat) : Int)) = some (.int (f c))) ∧
  ∀ v H', Ex H H' → Tr H' v (cs.map f) → Q v H'
def spPicked (K : Fg) : Sp := fun vs H Q E => spPickedT K vs H Q E ∨ spPickedD K vs H Q E
theorem len_spPicked : ∀ vs H Q E, spPicked K vs H Q E → vs.length = 2 := fun vs H Q E h => by
  rcases h with ⟨a, h, _⟩ | ⟨_, _, _, _, _, rfl, _⟩
  · rw [h.length]; rfl
  · rfl
theorem ok_picked (T : Txt K mg) : Good P w K mg base 1 "picked" ["row", "columns"] (spPicked K) := by
  refine good_of (q := "picked") (st := s_picked) (N := ["row", "columns", "column"]) T.g_picked (T.def_ 0) sc_picked (fun _ _ _ _ _ _ us hl => match us, hl with | [_, _], _ => rfl) (len_spPicked) fun cdv A outer s H vs Q E hr h =>
    ⟨_, (pss_one (ps_ret (kTuple (K := K) rfl rfl T.tuple0 (pe_lc (own := [("column", 2)]) (g := gName 2) rfl sc_picked.nd (kSq (K := K) rfl (pv 1)) (blkOk_by (by kernel_rfl)) (fun _ _ _ _ _ => (pg_name (i := 2) sc_picked.nd rfl (by first | exact Or.inl rfl | exact Or.inr rfl))) (fun _ _ _ _ _ => pts_nil) (fun _ _ _ _ _ => (pe_or2 (pe_ix (kIx (K := K) rfl) (pv 0) (pv 2) (fun _ _ => rfl)) (pe_dget (room1 hr) (pv 0) (pv 2) (fun _ _ => rfl)))))))), ?_⟩
  rcases h with ⟨⟨row, cs⟩, hv, ⟨hz, hp⟩, q⟩ | ⟨D, p, kvs, cs, f, rfl, hD, hcs, hz, hf, q⟩
  · obtain ⟨x, y, rfl, hx, hy⟩ := dpAll2 hv
    refine s_retP (er_tupR (en_lcM (as := cs) (enc := nI) (fun c => .int (row.getD c 0)) (es_sqT (ed_var rfl hy)) hz (fun _ _ => rfl) ?_)) fun v H1 e hv => q v H1 e hv
    intro c hc z H1 e hz'
    refine ⟨_, tgt_name, rfl, ed_inl (ed_ixT (ed_var rfl (hx.ex e)) (ed_var rfl hz') ?_)⟩
    have hc' := hp c hc
    rw [List.getElem?_map, List.getD_eq_getElem?_getD, List.getElem?_eq_getElem hc']
    rfl
  · refine s_retP (er_tupR (en_lcM (as := cs) (enc := nI) (fun c => .int (f c)) (es_sqL (ed_var rfl hcs)) hz (fun _ _ => rfl) ?_)) fun v H1 e hv => q v H1 e hv
    intro c hc z H1 e hz'
    refine ⟨_, tgt_name, rfl, ed_inr fun H2 e2 Q q2 => ⟨_, rfl, ⟨_, rfl, D, _, rfl, ?_, q2 _ H2 (Ex.refl H2) (.int _)⟩⟩⟩
    have hg := DGet.k (k := .inl ((c : Nat) : Int)) (e2 D _ (e D _ hD))
    rw [hf c hc] at hg
    rw [hz'.int_inv]
    exact hg
theorem er_picked {σ : L2.St} {H : Hp} {t : TA} {E : XK} {r : List Int} {cs : List Nat} (h : EvA K t σ H [rowD r, cols cs]) (hz : cs.length ≤ 100000) (hp : ∀ c ∈ cs, c < r.length) : EvR (tCall (spPicked K) [] E t) σ H (pk r cs) := fun H1 e Q q =>
  h H1 e _ fun vs H2 e2 hvs => .inl ⟨(r, cs), by rw [List.append_nil]; exact hvs, ⟨hz, hp⟩, fun v H' e3 hv => q v H' (e2.trans e3) hv⟩
theorem ed_picked {σ : L2.St} {H : Hp} {t : TA} {E : XK} {r : List Int} {cs : List Nat} (h : EvA K t σ H [rowD r, cols cs]) (hz : cs.length ≤ 100000) (hp : ∀ c ∈ cs, c < r.length) : EvD K (tCall (spPicked K) [] E t) σ H (rowD (pk r cs)) := er_toD (er_picked h hz hp)
/-! ### holding.agree -/
theorem sc_agree : FnScope ["one", "other", "columns"] ["one", "other", "columns"] (defScope s_agree) := ⟨rfl, rfl, rfl, by decide +kernel, rfl, by decide +kernel, by decide +kernel⟩
def spAgree (K : Fg) : Sp := spF (α := List Int × List Int × List Nat) K (fun a => [rowD a.1, rowD a.2.1, cols a.2.2]) (fun a => a.2.2.length ≤ 100000 ∧ (∀ c ∈ a.2.2, c < a.1.length) ∧ ∀ c ∈ a.2.2, c < a.2.1.length) (fun a => .bool (decide (pk a.1 a.2.2 = pk a.2.1 a.2.2)))
theorem ok_agree (T : Txt K mg) : Good P w K mg base 2 "agree" ["one", "other", "columns"] (spAgree K) := by
  refine good_of (q := "agree") (st := s_agree) (N := ["one", "other", "columns"]) T.g_agree (T.def_ 4) sc_agree (fun _ _ _ _ _ _ us hl => match us, hl with | [_, _, _], _ => rfl) (len_spF fun _ => rfl) fun cdv A outer s H vs Q E hr h =>
    ⟨_, (pss_one (ps_ret (pe_cmpR (kEq (K := K) rfl (room64 hr)) (pe_callG (ok_picked (P := P) (w := w) (base := base) T) (hr.mono (by decide)) rfl (pa_cons (pv 0) (pa_cons (pv 2) pa_nil))) (pe_callG (ok_picked (P := P) (w := w) (base := base) T) (hr.mono (by decide)) rfl (pa_cons (pv 1) (pa_cons (pv 2) pa_nil))) (nomark _)))), ?_⟩
  obtain ⟨⟨r1, r2, cs⟩, hv, ⟨hz, h1, h2⟩, q⟩ := h
  obtain ⟨x, y, z, rfl, hx, hy, hzz⟩ := dpAll3 hv
  refine s_ret (ed_eq (ed_picked (ea2 (ed_var rfl hx) (ed_var rfl hzz)) hz h1) (ed_picked (ea2 (ed_var rfl hy) (ed_var rfl hzz)) hz h2) (sh_row _) (sh_row _)) fun v H1 e hv => q v H1 e ?_
  rw [eqv_row] at hv
  exact hv
/-! ### following.told_value, first_row, part_row -/
theorem sc_told_value : FnScope ["number"] ["number"] (defScope s_told_value) := ⟨rfl, rfl, rfl, by decide +kernel, rfl, by decide +kernel, by decide +kernel⟩
def spTold (K : Fg) : Sp := spF (α := Int) K (fun a => [.int a]) (fun _ => True) (fun a => .int (-1 - a))
theorem ok_told_value (T : Txt K mg) : Good P w K mg base 1 "told_value" ["number"] (spTold K) := by
  refine good_of (q := "told_value") (st := s_told_value) (N := ["number"]) T.g_told_value (T.def_ 7) sc_told_value (fun _ _ _ _ _ _ us hl => match us, hl with | [_], _ => rfl) (len_spF fun _ => rfl) fun cdv A outer s H vs Q E hr h =>
    ⟨_, (pss_one (ps_ret (pe_op op_sub (pe_un un_neg pe_int) (pv 0)))), ?_⟩
  obtain ⟨n, hv, _, q⟩ := h
  obtain ⟨x, rfl, hx⟩ := dpAll1 hv
  exact s_ret (ed_sub (ed_neg ed_i) (ed_var rfl hx)) fun v H1 e hv => q v H1 e hv
theorem sc_first_row : FnScope ["width", "column"] ["width"] (defScope s_first_row) := ⟨rfl, rfl, rfl, by decide +kernel, rfl, by decide +kernel, by decide +kernel⟩
def fr (w : Nat) : List Int := (List.range w).map fun (c : Nat) => (-1 : Int) - (c : Int)
def spFirst (K : Fg) : Sp := spTr (α := Nat) K (fun a => [nI a]) (fun a => a ≤ 100000) fr
theorem ok_first_row (T : Txt K mg) : Good P w K mg base 2 "first_row" ["width"] (spFirst K) := by
  refine good_of (q := "first_row") (st := s_first_row) (N := ["width", "column"]) T.g_first_row (T.def_ 8) sc_first_row (fun _ _ _ _ _ _ us hl => match us, hl with | [_], _ => rfl) (len_spTr fun _ => rfl) fun cdv A outer s H vs Q E hr h =>
    ⟨_, (pss_one (ps_ret (kTuple (K := K) rfl rfl T.tuple0 (pe_lc (own := [("column", 1)]) (g := gName 1) rfl sc_first_row.nd (pi_range1 rfl T.range0 (pa_cons (pv 0) pa_nil)) (blkOk_by (by kernel_rfl)) (fun _ _ _ _ _ => (pg_name (i := 1) sc_first_row.nd rfl (by first | exact Or.inl rfl | exact Or.inr rfl))) (fun _ _ _ _ _ => pts_nil) (fun _ _ _ _ _ => (pe_callG (ok_told_value (P := P) (w := w) (base := base) T) (hr.mono (by decide)) rfl (pa_cons (pv 1) pa_nil))))))), ?_⟩
  obtain ⟨n, hv, hn, q⟩ := h
  obtain ⟨x, rfl, hx⟩ := dpAll1 hv
  refine s_retP (er_tupR (en_lcM (as := List.range n) (enc := nI) (fun c => .int (-1 - (c : Int))) (es_rng (ea1 (ed_var rfl hx)) hn) (by simpa using hn) (fun _ _ => rfl) ?_)) fun v H1 e hv => q v H1 e hv
  intro c hc z H1 e hz
  exact ⟨_, tgt_name, rfl, ed_call (c : Int) (ea1 (ed_var rfl hz)) trivial⟩
theorem sc_part_row : FnScope ["width", "part", "turn", "column"] ["width", "part", "turn"] (defScope s_part_row) := ⟨rfl, rfl, rfl, by decide +kernel, rfl, by decide +kernel, by decide +kernel⟩
def pr (w : Nat) (p : List Nat) (t : Nat) : List Int := (List.range w).map fun c => (-1 : Int) - (((if c ∈ p then c else w * t + c) : Nat) : Int)
def spPart (K : Fg) : Sp := spTr (α := Nat × List Nat × Nat) K (fun a => [nI a.1, cols a.2.1, nI a.2.2]) (fun a => a.1 ≤ 1000 ∧ a.2.2 ≤ 1000) (fun a => pr a.1 a.2.1 a.2.2)
theorem ok_part_row (T : Txt K mg) : Good P w K mg base 2 "part_row" ["width", "part", "turn"] (spPart K) := by
  refine good_of (q := "part_row") (st := s_part_row) (N := ["width", "part", "turn", "column"]) T.g_part_row (T.def_ 9) sc_part_row (fun _ _ _ _ _ _ us hl => match us, hl with | [_, _, _], _ => rfl) (len_spTr fun _ => rfl) fun cdv A outer s H vs Q E hr h =>
    ⟨_, (pss_one (ps_ret (kTuple (K := K) rfl rfl T.tuple0 (pe_lc (own := [("column", 3)]) (g := gName 3) rfl sc_part_row.nd (pi_range1 rfl T.range0 (pa_cons (pv 0) pa_nil)) (blkOk_by (by kernel_rfl)) (fun _ _ _ _ _ => (pg_name (i := 3) sc_part_row.nd rfl (by first | exact Or.inl rfl | exact Or.inr rfl))) (fun _ _ _ _ _ => pts_nil) (fun _ _ _ _ _ => (pe_callG (ok_told_value (P := P) (w := w) (base := base) T) (hr.mono (by decide)) rfl (pa_cons (pe_ifExp (pt_cmpR (kIn (K := K) rfl (room65 hr)) (pv 3) (pv 1) (by with_unfolding_all rfl)) (pv 3) (pe_op (kPlus (K := K) rfl) (pe_op op_mul (pv 0) (pv 2)) (pv 3))) pa_nil))))))), ?_⟩
  obtain ⟨⟨n, p, t⟩, hv, ⟨hn, ht⟩, q⟩ := h
  obtain ⟨x, y, z, rfl, hx, hy, hz⟩ := dpAll3 hv
  have hn : n ≤ 1000 := hn
  have ht : t ≤ 1000 := ht
  refine s_retP (er_tupR (en_lcM (as := List.range n) (enc := nI) (fun c => .int (-1 - (((if c ∈ p then c else n * t + c) : Nat) : Int))) (es_rng (ea1 (ed_var rfl hx)) (by omega)) (by simp; omega) (fun _ _ => rfl) ?_)) fun v H1 e hv => q v H1 e hv
  intro c hc u H1 e hu
  refine ⟨_, tgt_name, rfl, ed_call (((if c ∈ p then c else n * t + c) : Nat) : Int) (ea1 (ed_if (et_B (ed_inC (ed_var rfl hu) (ed_var rfl (hy.ex e)))) (fun h => ?_) fun h => ?_)) trivial⟩
  · rw [if_pos (of_decide_eq_true h)]
    exact ed_var rfl hu
  · rw [if_neg (of_decide_eq_false h)]
    refine ed_is (ed_addI (ed_mul (ed_var rfl (hx.ex e)) (ed_var rfl (hz.ex e)) ?_) (ed_var rfl hu)) (by simp)
    exact .inl ⟨by omega, by omega⟩
/-! ### forms.lies_within, without_inner -/
theorem sc_lies_within : FnScope ["one", "other", "column"] ["one", "other"] (defScope s_lies_within) := ⟨rfl, rfl, rfl, by decide +kernel, rfl, by decide +kernel, by decide +kernel⟩
def lw (a b : List Nat) : Bool := a.all fun c => decide (c ∈ b)
def spLies (K : Fg) : Sp := spF (α := List Nat × List Nat) K (fun a => [cols a.1, cols a.2]) (fun a => a.1.length ≤ 100000) (fun a => .bool (lw a.1 a.2))
theorem ok_lies_within (T : Txt K mg) : Good P w K mg base 1 "lies_within" ["one", "other"] (spLies K) := by
  refine good_of (q := "lies_within") (st := s_lies_within) (N := ["one", "other", "column"]) T.g_lies_within (T.def_ 19) sc_lies_within (fun _ _ _ _ _ _ us hl => match us, hl with | [_, _], _ => rfl) (len_spF fun _ => rfl) fun cdv A outer s H vs Q E hr h =>
    ⟨_, (pss_one (ps_ret (pe_callB (kAll (K := K) rfl rfl) rfl T.all0 PyProof.Rows.boot_all (pa_cons (pe_lc (own := [("column", 2)]) (g := gName 2) rfl sc_lies_within.nd (kSq (K := K) rfl (pv 0)) (blkOk_by (by kernel_rfl)) (fun _ _ _ _ _ => (pg_name (i := 2) sc_lies_within.nd rfl (by first | exact Or.inl rfl | exact Or.inr rfl))) (fun _ _ _ _ _ => pts_nil) (fun _ _ _ _ _ => (pe_cmpR (kIn (K := K) rfl (room65 hr)) (pv 2) (pv 1) (by with_unfolding_all rfl)))) pa_nil)))), ?_⟩
  obtain ⟨⟨a, b⟩, hv, hz, q⟩ := h
  obtain ⟨x, y, rfl, hx, hy⟩ := dpAll2 hv
  refine s_ret (ed_all (bs := a.map fun c => decide (c ∈ b)) (ed_is (EvN.toD (en_lcM (as := a) (enc := nI) (fun c => .bool (decide (c ∈ b))) (es_sqT (ed_var rfl hx)) hz (fun _ _ => rfl) ?_)) (by simp))) fun v H1 e hv => q v H1 e (by simpa [lw, List.all_map, Function.comp] using hv)
  intro c hc z H1 e hz
  exact ⟨_, tgt_name, rfl, ed_inC (ed_var rfl hz) (ed_var rfl (hy.ex e))⟩
theorem sc_without_inner : FnScope ["sets", "found", "index", "one", "inner", "other"] ["sets"] (defScope s_without_inner) := ⟨rfl, rfl, rfl, by decide +kernel, rfl, by decide +kernel, by decide +kernel⟩
/-- the sets that lie in no other, each once -/
def wiK (S : List (List Nat)) (s : List Nat) : Bool := decide ((S.filter fun o => !decide (o = s) && lw s o).length = 0)
def wiP (S : List (List Nat)) (i : Nat) : Bool := wiK S (S.getD i []) && !decide (S.getD i [] ∈ S.take i)
def wiN (S : List (List Nat)) (n : Nat) : List (List Nat) := ((List.range n).filter (wiP S)).map fun i => S.getD i []
def wi (S : List (List Nat)) : List (List Nat) := wiN S S.length
theorem wiN_succ (S : List (List Nat)) (n : Nat) : wiN S (n + 1) = wiN S n ++ (if wiP S n = true then [S.getD n []] else []) := by
  unfold wiN
  rw [List.range_succ, List.filter_append, List.map_append]
  by_cases h : wiP S n = true
  · rw [if_pos h, List.filter_cons, if_pos h]; rfl
  · rw [if_neg h, List.filter_cons, if_neg h]; rfl
theorem wiN_len (S : List (List Nat)) (n : Nat) : (wiN S n).length ≤ n := by
  unfold wiN
  rw [List.length_map]
  exact Nat.le_trans (List.length_filter_le _ _) (by simp)
def spWithout (K : Fg) : Sp := fun vs H Q _ => ∃ S p, vs = [.ref p] ∧ Lst K H p (S.map cols) ∧ S.length ≤ 1000 ∧ (∀ s ∈ S, s.length ≤ 1000) ∧ ∀ v H', Ex H H' → Dp K H' v (.tuple ((wi S).map cols)) → Q v H'
theorem len_spWithout : ∀ vs H Q E, spWithout K vs H Q E → vs.length = 1 := fun vs H Q E h => by
  obtain ⟨S, p, rfl, _⟩ := h
  rfl
theorem ok_without_inner (T : Txt K mg) : Good P w K mg base 2 "without_inner" ["sets"] (spWithout K) := by
  refine good_of (q := "without_inner") (st := s_without_inner) (N := ["sets", "found", "index", "one", "inner", "other"]) T.g_without_inner (T.def_ 20) sc_without_inner (fun _ _ _ _ _ _ us hl => match us, hl with | [_], _ => rfl) (len_spWithout) fun cdv A outer s H vs Q E hr h =>
    ⟨_, (pss_cons (ps_set (i := 1) sc_without_inner.nd rfl (by first | exact Or.inl rfl | exact Or.inr rfl) (pe_lst pa_nil))
        (pss_cons (ps_for PassesOwn.never rfl (kEnumL (K := K) rfl rfl T.enumerate0 (pa_cons (pv 0) pa_nil)) (kTg (K := K) (n := 2) rfl rfl (pgs_cons (pg_name (i := 2) sc_without_inner.nd rfl (by first | exact Or.inl rfl | exact Or.inr rfl)) (pgs_cons (pg_name (i := 3) sc_without_inner.nd rfl (by first | exact Or.inl rfl | exact Or.inr rfl)) pgs_nil))) (pss_cons (ps_setLc (i := 4) (own := [("other", 5)]) (g := gName 5) rfl sc_without_inner.nd rfl rfl (sw_true rfl rfl rfl (by kernel_rfl)) (kSq (K := K) rfl (pv 0)) (blkOk_by (by kernel_rfl)) (fun _ _ _ _ _ => (pg_name (i := 5) sc_without_inner.nd rfl (by first | exact Or.inl rfl | exact Or.inr rfl))) (fun _ _ _ _ _ => pts_one (PW.pt (pw_and (pt_cmpR (kNe (K := K) rfl (room64 hr)) (pv 5) (pv 3) (nomark _)) (pw_and1 (pt_val (pe_callG (ok_lies_within (P := P) (w := w) (base := base) T) (hr.mono (by decide)) rfl (pa_cons (pv 3) (pa_cons (pv 5) pa_nil)))))))) (fun _ _ _ _ _ => (pv 5)))
        (pss_one (ps_if (PW.pt (pw_and (pt_cmpR (kEq (K := K) rfl (room64 hr)) (pe_callB (kLen (K := K) rfl) rfl T.len0 PySem.boot_len (pa_cons (pv 4) pa_nil)) pe_int (nomark _)) (pw_and1 (pt_cmpR (kNin (K := K) rfl (room65 hr)) (pv 3) (pe_slice (kSl (K := K) rfl) (pv 0) po_none (po_some (pv 2))) (by with_unfolding_all rfl))))) (pss_one (ps_expr (kBm (K := K) rfl PySem.F.plainAttrs_list PySem.F.slot_list_append PySem.F.type_list_append mt_append (pv 1) (pa_cons (pv 3) pa_nil)))) pss_nil))))
        (pss_one (ps_ret (kTuple (K := K) rfl rfl T.tuple0 (pv 1)))))), ?_⟩
  obtain ⟨S, p, rfl, hl, hS, hs, q⟩ := h
  refine q_setL (K := K) (en_lst ea_nil (by simp)) fun f H1 hnew e1 hl1 => ?_
  have npf : p ≠ f := fun e => by
    obtain ⟨u, hu⟩ := hl.at
    rw [e, hnew] at hu
    cases hu
  have hl := hl.ex e1
  refine q_for (K := K) (M := [f]) (as := List.range S.length) (enc := fun i => .tuple [nI i, cols (S.getD i [])]) ?_
    (fun i σ' H' => ∃ s2 s3 s4 s5, σ' = [some (.ref p), some (.ref f), s2, s3, s4, s5] ∧ Lst K H' p (S.map cols) ∧ Lst K H' f ((wiN S i).map cols)) ?_
    (fun i σ1 H1 H2 h e => let ⟨s2, s3, s4, s5, h1, h2, h3⟩ := h; ⟨s2, s3, s4, s5, h1, h2.ex e, h3.ex e⟩) ?_ ?_
  · rw [← enumD_map]
    exact es_enumX rfl hl (by simpa using npf) hl1.trk (nl_all nl_cols S)
  · exact ⟨_, _, _, _, rfl, hl, hl1⟩
  · rintro i a x σ1 H2 ha ⟨s2, s3, s4, s5, rfl, hp, hf⟩ eM hx
    obtain ⟨rfl, hi⟩ := range_get ha
    obtain ⟨y, z, hy, hz, tg⟩ := tgt_pair (K := K) (j := 2) (k := 3) (σ0 := [some (.ref p), some (.ref f), s2, s3, s4, s5]) hx
    refine ⟨_, tg, fun H3 e3 N hN => ?_⟩
    have hy := hy.ex e3
    have hz := hz.ex e3
    have hp := hp.ex e3
    have hf := hf.ex e3
    refine q_setL (en_lcF (as := S) (enc := cols) (fun o => !decide (o = S.getD a []) && lw (S.getD a []) o) cols (es_sqL (ed_var rfl hp.dp)) (by omega) (fun _ _ => nl_cols _) fun o ho u H4 e4 hu =>
      ⟨_, tgt_name, rfl, Evl.et_and (et_test (ed_neC (ed_var rfl hu) (ed_var rfl (hz.ex e4)))) (fun _ => et_B (ed_call (S.getD a [], o) (ea2 (ed_var rfl (hz.ex e4)) (ed_var rfl hu)) ?_)), fun _ => ed_var rfl hu⟩) fun r H4 hr e4 hlr => ?_
    · rw [getD_of hi]
      exact Nat.le_trans (hs _ (List.getElem_mem hi)) (by decide)
    refine s_when (b := wiP S a) (Evl.et_and (et_test (ed_is (ed_eqN (ed_lenL (ed_var rfl hlr.dp)) ed_n0) ?_)) fun _ => et_test (ed_is (ed_niL (ed_var rfl (hz.ex e4)) (EvN.toD (en_toL (ed_var rfl (hp.ex e4).dp) (ed_var rfl (hy.ex e4)))) (sh_cols _) ?_) ?_)) (fun hb H5 e5 => ?_) (fun hb H5 e5 => ?_)
    · rw [List.length_map]; rfl
    · rw [← List.map_take]; exact sh_setsL _
    · rw [← List.map_take, any_sets]
    · have hf5 := (hf.ex e4).ex e5
      refine s_app rfl hf5 (nl_all nl_cols _) (nl_cols (S.getD a [])) (by rw [List.length_map]; have := wiN_len S a; omega) (ed_var rfl ((hz.ex e4).ex e5)) fun H6 e6 hl6 => hN _ _ ⟨_, _, _, _, rfl, ?_, ?_⟩ ?_
      · exact ((hp.ex e4).ex e5).keep hf5.mut e6 (by simpa using npf) (nl_all nl_cols _)
      · rw [wiN_succ, if_pos hb, List.map_append]
        exact hl6
      · exact (ExB.of (e4.trans e5)).trans e6
    · refine hN _ _ ⟨_, _, _, _, rfl, (hp.ex e4).ex e5, ?_⟩ (ExB.of (e4.trans e5))
      rw [wiN_succ, if_neg (by rw [hb]; simp), List.append_nil]
      exact (hf.ex e4).ex e5
  · rintro σ1 H2 ⟨s2, s3, s4, s5, rfl, hp, hf⟩ eM
    rw [List.length_range] at hf
    exact s_ret (ed_tupL (ed_var rfl hf.dp)) fun v H3 e3 hv => q v H3 ((ExB.out e1 eM (by simpa using hnew)).trans e3) hv
end
end NS
set_option Elab.async false
set_option linter.all false
set_option maxRecDepth 100000
set_option maxHeartbeats 4000000
namespace NS
open PySem PySem.Spec PyProof.Rows L2
open Evl (Ex)
section
variable {P : Program} {w : World} {K : Fg} {mg : Str → Option Value} {base : Heap}
/-- a dependency as data -/
def depD (d : Dep) : PyData := quadD "settles" d.l d.r
theorem nl_dep (d : Dep) : nl (depD d) = true := nl_quad _ _ _
/-- left and right within a table of n columns -/
structure OkD (n : Nat) (d : Dep) : Prop where
  l : d.l.Sublist (List.range n)
  r : d.r.Sublist (List.range n)
abbrev OkB (n : Nat) (B : Book) : Prop := ∀ d ∈ B, OkD n d
theorem sub_len {n : Nat} {cs : List Nat} (h : cs.Sublist (List.range n)) : cs.length ≤ n := by simpa using h.length_le
theorem sub_lt {n : Nat} {cs : List Nat} (h : cs.Sublist (List.range n)) {c : Nat} (hc : c ∈ cs) : c < n := List.mem_range.mp (h.subset hc)
theorem sub_nodup {n : Nat} {cs : List Nat} (h : cs.Sublist (List.range n)) : cs.Nodup := h.nodup List.nodup_range
/-! ### functional.single -/
theorem sc_single : FnScope ["book", "found", "word", "table", "left", "right", "column"] ["book"] (defScope s_single) := ⟨rfl, rfl, rfl, by decide +kernel, rfl, by decide +kernel, by decide +kernel⟩
def sgN (d : Dep) (r : List Nat) : Book := (r.filter fun c => !decide (c ∈ d.l)).map fun c => ⟨d.l, [c]⟩
theorem sgN_snoc (d : Dep) (r : List Nat) (c : Nat) : sgN d (r ++ [c]) = sgN d r ++ (if (!decide (c ∈ d.l)) = true then [⟨d.l, [c]⟩] else []) := by
  unfold sgN
  rw [List.filter_append, List.map_append]
  by_cases h : (!decide (c ∈ d.l)) = true
  · rw [if_pos h, List.filter_cons, if_pos h]; rfl
  · rw [if_neg h, List.filter_cons, if_neg h]; rfl
def sgB (B : Book) : Book := B.flatMap fun d => sgN d d.r
theorem sgB_snoc (B : Book) (d : Dep) : sgB (B ++ [d]) = sgB B ++ sgN d d.r := by simp [sgB]
theorem sgN_len (d : Dep) (r : List Nat) : (sgN d r).length ≤ r.length := by
  unfold sgN
  rw [List.length_map]
  exact List.length_filter_le _ _
theorem sgB_len {n : Nat} : ∀ {B : Book}, OkB n B → (sgB B).length ≤ n * B.length
  | [], _ => by simp [sgB]
  | d :: B, h => by
    have ih := sgB_len (B := B) fun e he => h e (List.mem_cons_of_mem _ he)
    have h1 := sgN_len d d.r
    have h2 := sub_len (h d (List.mem_cons_self ..)).r
    have e : sgB (d :: B) = sgN d d.r ++ sgB B := by simp [sgB]
    rw [e, List.length_append, List.length_cons, Nat.mul_succ]
    omega
theorem sgB_take {B : Book} {i : Nat} {n : Nat} (h : OkB n B) : (sgB (B.take i)).length ≤ n * B.length := by
  have := sgB_len (n := n) (B := B.take i) fun e he => h e (List.mem_of_mem_take he)
  refine Nat.le_trans this (Nat.mul_le_mul_left _ ?_)
  rw [List.length_take]
  omega
theorem take_snoc {α : Type} {as : List α} {i : Nat} {a : α} (h : as[i]? = some a) : as.take (i + 1) = as.take i ++ [a] := by rw [List.take_add_one, h]; rfl
def spSingle (K : Fg) : Sp := spL (α := Nat × Book) K (fun a => [.tuple (a.2.map depD)]) (fun a => a.1 ≤ 10 ∧ a.2.length ≤ 100 ∧ OkB a.1 a.2) (fun a => (sgB a.2).map depD)
theorem ok_single (T : Txt K mg) : Good P w K mg base 1 "single" ["book"] (spSingle K) := by
  refine good_of (q := "single") (st := s_single) (N := ["book", "found", "word", "table", "left", "right", "column"]) T.g_single (T.def_ 21) sc_single (fun _ _ _ _ _ _ us hl => match us, hl with | [_], _ => rfl) (len_spL fun _ => rfl) fun cdv A outer s H vs Q E hr h =>
    ⟨_, (pss_cons (ps_set (i := 1) sc_single.nd rfl (by first | exact Or.inl rfl | exact Or.inr rfl) (pe_lst pa_nil))
        (pss_cons (ps_for PassesOwn.never rfl (kSq (K := K) rfl (pv 0)) (kTg (K := K) (n := 4) rfl rfl (pgs_cons (pg_name (i := 2) sc_single.nd rfl (by first | exact Or.inl rfl | exact Or.inr rfl)) (pgs_cons (pg_name (i := 3) sc_single.nd rfl (by first | exact Or.inl rfl | exact Or.inr rfl)) (pgs_cons (pg_name (i := 4) sc_single.nd rfl (by first | exact Or.inl rfl | exact Or.inr rfl)) (pgs_cons (pg_name (i := 5) sc_single.nd rfl (by first | exact Or.inl rfl | exact Or.inr rfl)) pgs_nil))))) (pss_one (ps_for PassesOwn.never rfl (kSq (K := K) rfl (pv 5)) (pg_name (i := 6) sc_single.nd rfl (by first | exact Or.inl rfl | exact Or.inr rfl)) (pss_one (ps_if (pt_cmpR (kNin (K := K) rfl (room65 hr)) (pv 6) (pv 4) (by with_unfolding_all rfl)) (pss_one (ps_expr (kBm (K := K) rfl PySem.F.plainAttrs_list PySem.F.slot_list_append PySem.F.type_list_append mt_append (pv 1) (pa_cons (pe_tup (pa_cons (pv 2) (pa_cons (pv 3) (pa_cons (pv 4) (pa_cons (pe_tup (pa_cons (pv 6) pa_nil)) pa_nil))))) pa_nil)))) pss_nil)))))
        (pss_one (ps_ret (pv 1))))), ?_⟩
  obtain ⟨⟨n, B⟩, hv, ⟨hn, hB, hb⟩, q⟩ := h
  obtain ⟨x, rfl, hx⟩ := dpAll1 hv
  have hn : n ≤ 10 := hn
  have hB : B.length ≤ 100 := hB
  have hb : OkB n B := hb
  have hnB : n * B.length ≤ 1000 := Nat.le_trans (Nat.mul_le_mul hn hB) (by decide)
  refine q_setL (K := K) (en_lst ea_nil (by simp)) fun f H1 hnew e1 hl1 => ?_
  refine q_for (K := K) (M := [f]) (as := B) (enc := depD) (es_tupX (ed_var rfl (hx.ex e1)) hl1.trk (nl_all nl_dep B))
    (fun i σ' H' => ∃ s2 s3 s4 s5 s6, σ' = [some x, some (.ref f), s2, s3, s4, s5, s6] ∧ Lst K H' f ((sgB (B.take i)).map depD)) ⟨_, _, _, _, _, rfl, hl1⟩
    (fun i σ1 H1 H2 h e => let ⟨s2, s3, s4, s5, s6, h1, h2⟩ := h; ⟨s2, s3, s4, s5, s6, h1, h2.ex e⟩) ?_ ?_
  · rintro i d y σ1 H2 hd ⟨s2, s3, s4, s5, s6, rfl, hf⟩ eM hy
    obtain ⟨y1, y2, y3, y4, h1, h2, h3, h4, tg⟩ := tgt_quad (K := K) (i := 2) (j := 3) (k := 4) (l := 5) (σ0 := [some x, some (.ref f), s2, s3, s4, s5, s6]) hy
    refine ⟨_, tg, fun H3 e3 N hN => ?_⟩
    have hdB := hb d (List.mem_of_getElem? hd)
    have hf3 := hf.ex e3
    have h3 := h3.ex e3
    have h1 := h1.ex e3
    have h2 := h2.ex e3
    refine s_for (K := K) (M := [f]) (as := d.r) (enc := nI) (es_tupX (ed_var rfl (h4.ex e3)) hf3.trk (nl_all nl_nI _))
      (fun j σ' H' => ∃ s6, σ' = [some x, some (.ref f), some y1, some y2, some y3, some y4, s6] ∧ Lst K H' f ((sgB (B.take i) ++ sgN d (d.r.take j)).map depD)) ⟨_, rfl, by simpa [sgN] using hf3⟩
      (fun i σ1 H1 H2 h e => let ⟨s6, h1, h2⟩ := h; ⟨s6, h1, h2.ex e⟩) ?_ ?_
    · rintro j c z σ1 H4 hc ⟨s6, rfl, hf4⟩ e34 hz
      refine ⟨_, tgt_name, fun H5 e5 N2 hN2 => ?_⟩
      have m3 := hf3.trk.muts
      have h3' := (h3.keep m3 e34 (nl_cols _)).ex e5
      have hf5 := hf4.ex e5
      have hz5 := hz.ex e5
      have hlen : (sgB (B.take i) ++ sgN d (d.r.take j)).length < 100000 := by
        rw [List.length_append]
        have q1 := sgB_take (i := i) hb
        have q2 := sgN_len d (d.r.take j)
        have q3 := sub_len hdB.r
        have q4 : (d.r.take j).length ≤ d.r.length := by rw [List.length_take]; omega
        omega
      refine s_when (et_test (ed_niC (ed_var rfl hz5) (ed_var rfl h3'))) (fun hb H6 e6 => ?_) (fun hb H6 e6 => ?_)
      · refine s_app rfl (hf5.ex e6) (nl_all nl_dep _) (nl_dep ⟨d.l, [c]⟩) (by rw [List.length_map]; exact hlen)
          (ed_tup (ea_cons (ed_var rfl (((h1.keep m3 e34 rfl).ex e5).ex e6)) (ea_cons (ed_var rfl (((h2.keep m3 e34 rfl).ex e5).ex e6)) (ea2 (ed_var rfl (h3'.ex e6)) (ed_tup (ea1 (ed_var rfl (hz5.ex e6))) (by simp))))) (by simp)) fun H7 e7 hl7 => hN2 _ _ ⟨_, rfl, ?_⟩ ((ExB.of e6).trans e7)
        rw [take_snoc hc, sgN_snoc, if_pos hb, ← List.append_assoc, List.map_append]
        exact hl7
      · refine hN2 _ _ ⟨_, rfl, ?_⟩ (ExB.of e6)
        rw [take_snoc hc, sgN_snoc, if_neg (by rw [hb]; simp), List.append_nil]
        exact hf5.ex e6
    · rintro σ1 H4 ⟨s6, rfl, hf4⟩ e34
      refine hN _ _ ⟨_, _, _, _, _, rfl, ?_⟩ e34
      rw [take_snoc hd, sgB_snoc]
      rwa [List.take_length] at hf4
  · rintro σ1 H2 ⟨s2, s3, s4, s5, s6, rfl, hf⟩ eM
    rw [List.take_length] at hf
    exact ⟨_, rfl, q f H2 hnew (ExB.out e1 eM (by simpa using hnew)) hf⟩
end
end NS
set_option Elab.async false
set_option linter.all false
set_option maxRecDepth 100000
set_option maxHeartbeats 4000000
namespace NS
open PySem PySem.Spec PyProof.Rows L2
open Evl (Ex)
section
variable {K : Fg} {σ : L2.St} {H H' H0 : Hp} {ta tb te tx : TE} {v : V} {d d1 d2 : PyData} {ds es : List PyData} {D : Ends} {M : List Addr} {n : Nat} {wi : TI} {g : TG} {tbd : TS} {J : It}
theorem ExB.drop {p : Addr} (e : ExB (p :: M) H H') (h : H p = none) : ExB M H H' := fun a o hm ha => e a o (fun m => by
  rcases List.mem_cons.mp m with rfl | m
  · rw [h] at ha; cases ha
  · exact hm m) ha
theorem rg1 (h : EvD K ta σ H (nI n)) : ∀ H1, Ex H H1 → ∀ Q : Int → Int → Hp → Prop, (∀ H2, Ex H1 H2 → Q 0 n H2) → tRg1 ta σ H1 Q := fun H1 e Q q => h H1 e _ fun x H2 e2 hx => ⟨_, hx.int_inv, q H2 e2⟩
theorem en_rng1 (h : EvD K ta σ H (nI n)) (hn : n ≤ 100000) : EvN K (tLstRg (tRg1 ta)) σ H ((List.range n).map nI) := en_rng (rg1 h) hn
theorem rgV_eq : rgV 0 (n : Int) = ((List.range n).map fun i => ((i : Nat) : Int)).map V.int := by
  unfold rgV
  rw [List.map_map]
  simp
theorem ed_tupRg (h : EvD K ta σ H (nI n)) (hn : n ≤ 100000) : EvD K (tTupRg (tRg1 ta)) σ H (cols (List.range n)) := fun H1 e Q q =>
  rg1 h H1 e _ fun H2 e2 => ⟨RgOk.of_le (by omega) (by omega) (by omega) (by omega), fun p hp => by
    have hn := Ex.new (o := .tup (rgV 0 n)) hp
    refine q _ _ (e2.trans hn) (.tup (SqT.of upd_same) ?_)
    have e2 : ((List.range n).map nI) = ((List.range n).map fun i => ((i : Nat) : Int)).map .int := by
      rw [List.map_map]
      rfl
    rw [rgV_eq, e2]
    exact L2.DpAll.ofInts⟩
/-- a for whose source is there -/
theorem for_rest {α : Type} {enc : α → PyData} {as : List α} (w : DWalk K J M H (as.map enc)) (Pv : Nat → L2.St → Hp → Prop) (h0 : Pv 0 σ H) (mono : ∀ i σ1 H1 H2, Pv i σ1 H1 → Ex H1 H2 → Pv i σ1 H2)
    (step : ∀ i a x σ1 H1, as[i]? = some a → Pv i σ1 H1 → ExB M H H1 → Dp K H1 x (enc a) → ∃ σ2, Tgt g x σ1 H1 σ2 ∧ ∀ H2, Ex H1 H2 → ∀ N : L2.St → Hp → Prop, (∀ σ3 H3, Pv (i + 1) σ3 H3 → ExB M H2 H3 → N σ3 H3) → tbd (Dl D N) σ2 H2)
    (hd : ∀ σ1 H1, Pv as.length σ1 H1 → ExB M H H1 → D.nx σ1 H1) :
    ∃ W : Nat → Nat → L2.St → Hp → Prop, (∃ m, W 0 m σ H) ∧ ∀ i m σ H, W i m σ H →
      (J.stop i H ∧ D.nx σ H) ∨ (J.go i H ∧ ∃ N : L2.St → Hp → Prop, (∀ σ' H', N σ' H' → ∃ m', m' < m ∧ W (i + 1) m' σ' H') ∧ ∀ x H', J.yld i H x H' → g x σ H' fun σ2 H2 => tbd { D with nx := N, ct := N, bk := D.nx } σ2 H2) := by
  have wl : (as.map enc).length = as.length := List.length_map ..
  have w : Walk J as.length (ExB M H) (fun i H x H' => Ex H H' ∧ ∃ d, (as.map enc)[i]? = some d ∧ Dp K H' x d) := wl ▸ w
  refine for_it w (fun i σ' H' => Pv i σ' H' ∧ ExB M H H') ⟨h0, ExB.refl _ _⟩ (fun i σ' H' _ p => p.2) (fun i x σ' H2 H3 hi p y => ?_) fun σ' H' p => hd σ' H' p.1 p.2
  obtain ⟨p1, p2⟩ := p
  obtain ⟨e3, d, hd, hx⟩ := y
  have hai : as[i]? = some (as[i]) := List.getElem?_eq_getElem hi
  rw [List.getElem?_map, hai] at hd
  cases hd
  obtain ⟨σ2, htg, hk⟩ := step i as[i] x σ' H3 hai (mono _ _ _ _ p1 e3) (p2.then e3) hx
  exact htg _ fun H4 e4 => hk H4 e4 _ fun σ5 H5 p5 e5 => ⟨p5, (p2.then (e3.trans e4)).trans e5⟩
theorem walk_rg (n : Nat) : DWalk K (Itr 0 n) M H ((List.range n).map nI) := by
  have w := walk_range (lo := 0) (n := n)
  have el : ((List.range n).map nI).length = n := by simp
  show Walk _ ((List.range n).map nI).length _ _
  rw [el]
  refine w.mono (fun _ _ => trivial) fun i H3 x H4 hi _ y => ?_
  obtain ⟨rfl, rfl⟩ := y
  refine ⟨Ex.refl _, nI i, ?_, ?_⟩
  · rw [List.getElem?_map, List.getElem?_range hi]
    rfl
  · show Dp K _ (V.int (0 + (i : Int))) (nI i)
    rw [Int.zero_add]
    exact .int _
end
/-! ### tracked lists as values -/
def EvL (K : Fg) (te : TE) (σ : L2.St) (H : Hp) (ds : List PyData) : Prop := ∀ H1, Ex H H1 → ∀ Q : VK, (∀ p H2, Ex H1 H2 → Lst K H2 p ds → Q (.ref p) H2) → te σ H1 Q
section
variable {K : Fg} {σ : L2.St} {H H' : Hp} {ta tb te : TE} {ds es : List PyData}
theorem EvN.toL (h : EvN K te σ H ds) : EvL K te σ H ds := fun H1 e Q q => h H1 e _ fun p vs H2 _ e2 h1 h2 => q p H2 e2 ⟨vs, h1, h2⟩
theorem EvL.toD (h : EvL K te σ H ds) : EvD K te σ H (.list ds) := fun H1 e Q q => h H1 e _ fun p H2 e2 hl => q _ H2 e2 hl.dp
theorem el_var {i : Nat} {p : Addr} (h : σ[i]? = some (some (.ref p))) (hl : Lst K H p ds) : EvL K (tVar i) σ H ds := fun H1 e _ q => ⟨_, h, q p H1 (Ex.refl H1) (hl.ex e)⟩
theorem en_add (ha : EvL K ta σ H ds) (hb : EvL K tb σ H es) (hz : ds.length + es.length ≤ 100000) : EvN K (tOp (rPlus K) ta tb) σ H (ds ++ es) := fun H1 e Q q =>
  ha H1 e _ fun p H2 e2 hl => hb H2 (e.trans e2) _ fun r H3 e3 hl3 => by
    obtain ⟨xs, h2, hxs⟩ := hl.ex e3
    obtain ⟨ys, h3, hys⟩ := hl3
    have l1 := hxs.length
    have l2 := hys.length
    refine .inr (.inl ⟨p, r, xs, ys, rfl, rfl, h2, h3, Evl.sz_of (by omega), fun t ht => ?_⟩)
    have hn := Ex.new (o := .lst (xs ++ ys)) ht
    exact q t _ _ (Evl.fresh_back (e2.trans e3) ht) ((e2.trans e3).trans hn) upd_same ((hxs.append hys).ex hn)
end
/-! ### the draws -/
/-- a list of numbers that is popped -/
def Drs (H : Hp) (p : Addr) : Prop := ∃ is : List Int, H p = some (.lst (is.map V.int))
theorem Drs.ex {H H' : Hp} {p : Addr} (h : Drs H p) (e : Ex H H') : Drs H' p := let ⟨is, h⟩ := h; ⟨is, e p _ h⟩
theorem Drs.trk {H : Hp} {p : Addr} (h : Drs H p) : Trk H [p] := let ⟨is, h⟩ := h; Trk.one h trivial
theorem Drs.trkC {H : Hp} {M : List Addr} {p : Addr} (h : Drs H p) (t : Trk H M) : Trk H (p :: M) := let ⟨is, h⟩ := h; Trk.cons h trivial t
theorem Drs.keep {H H' : Hp} {p : Addr} {M : List Addr} (h : Drs H p) (e : ExB M H H') (n : p ∉ M) : Drs H' p := let ⟨is, h⟩ := h; ⟨is, e p _ n h⟩
end NS
set_option Elab.async false
set_option linter.all false
set_option maxRecDepth 100000
set_option maxHeartbeats 4000000
namespace NS
open PySem PySem.Spec PyProof.Rows L2
open Evl (Ex)
section
variable {P : Program} {w : World} {K : Fg} {mg : Str → Option Value} {base : Heap}
/-! ### _law_take -/
theorem sc_L_take : FnScope ["_law_draws_here", "_law_many"] ["_law_draws_here", "_law_many"] (defScope s_L_take) := ⟨rfl, rfl, rfl, by decide +kernel, rfl, by decide +kernel, by decide +kernel⟩
def spTake : Sp := fun vs H Q _ => ∃ (p : Addr) (many : Int), vs = [.ref p, .int many] ∧ Drs H p ∧ 0 < many ∧ ∀ k H', 0 ≤ k → k < many → ExB [p] H H' → Drs H' p → Q (.int k) H'
theorem ok_L_take (T : Txt K mg) : Good P w K mg base 1 "_law_take" ["_law_draws_here", "_law_many"] spTake := by
  refine good_of (q := "_law_take") (st := s_L_take) (N := ["_law_draws_here", "_law_many"]) T.g__law_take (T.def_ 26) sc_L_take (fun _ _ _ _ _ _ us hl => match us, hl with | [_, _], _ => rfl) (fun vs H Q E h => by obtain ⟨p, m, rfl, _⟩ := h; rfl) fun cdv A outer s H vs Q E hr h =>
    ⟨_, (pss_cons (ps_if (pt_cmpR (kEq (K := K) rfl (room64 hr)) (pe_callB (kLen (K := K) rfl) rfl T.len0 PySem.boot_len (pa_cons (pv 0) pa_nil)) pe_int (nomark _)) (pss_one (ps_ret pe_int)) pss_nil)
        (pss_one (ps_ret (pe_op op_mod (pe_callTy call_int1 rfl T.int0 PyProof.Rows.boot_int (pa_cons (kBm0 (K := K) rfl PySem.F.plainAttrs_list PySem.F.slot_list_pop PySem.F.type_list_pop mt_pop (pv 0)) pa_nil)) (pv 1))))), ?_⟩
  obtain ⟨p, m, rfl, ⟨is, hp⟩, hm, q⟩ := h
  have hd : Dp K H (.ref p) (.list (is.map .int)) := .lst (SqL.of hp) DpAll.ofInts
  refine q_when (b := decide (is.length = 0)) (et_test (ed_is (ed_eqN (K := K) (ed_lenL (ed_var rfl hd)) ed_n0) (by rw [List.length_map]))) (fun hb H1 e => ?_) (fun hb H1 e => ?_)
  · exact q 0 H1 (Int.le_refl 0) hm (ExB.of e) ⟨is, e p _ hp⟩
  · have h0 : is ≠ [] := fun e => by rw [e] at hb; simp at hb
    have hg : (is.map V.int)[(is.map V.int).length - 1]? = some (.int (is.getLast h0)) := by
      rw [List.length_map, List.getElem?_map, List.getLast_eq_getElem, List.getElem?_eq_getElem (by have := List.length_pos_iff.mpr h0; omega)]
      rfl
    have hp1 := e p _ hp
    refine ⟨_, rfl, .inl ⟨rfl, _, SqL.of hp1⟩, p, _, _, rfl, rfl, hp1, hg, .inl ⟨_, rfl, _, rfl, _, _, rfl, rfl, hm, ?_⟩⟩
    refine q _ _ (Int.emod_nonneg _ (by omega)) (Int.emod_lt_of_pos _ hm) ((ExB.of e).upd (by simp) _) ⟨is.dropLast, ?_⟩
    rw [upd_same, List.map_dropLast]
theorem x_take {σ : L2.St} {H : Hp} {t : TE} {i : Nat} {p : Addr} {many : Int} {Q : VK} {E : XK} (hσ : σ[i]? = some (some (.ref p))) (hp : Drs H p) (hm : EvD K t σ H (.int many)) (h0 : 0 < many)
    (k : ∀ k H', 0 ≤ k → k < many → ExB [p] H H' → Drs H' p → Q (.int k) H') : tCall spTake [] E (tCons (tVar i) (tCons t tNil)) σ H Q :=
  ⟨_, hσ, hm H (Ex.refl H) _ fun v H1 e hv => ⟨p, many, by rw [hv.int_inv]; rfl, hp.ex e, h0, fun k' H' h1 h2 e2 h3 => k k' H' h1 h2 ((ExB.of e).trans e2) h3⟩⟩
/-! ### _law_some -/
theorem sc_L_some : FnScope ["_law_draws_here", "_law_columns", "_law_share", "_law_column"] ["_law_draws_here", "_law_columns", "_law_share"] (defScope s_L_some) := ⟨rfl, rfl, rfl, by decide +kernel, rfl, by decide +kernel, by decide +kernel⟩
def spSome (K : Fg) : Sp := fun vs H Q _ => ∃ (p : Addr) (v : V) (cs : List Nat) (s : Int), vs = [.ref p, v, .int s] ∧ Dp K H v (cols cs) ∧ cs.length ≤ 1000 ∧ Drs H p ∧ ∀ r cs' H', cs'.Sublist cs → ExB [p] H H' → Drs H' p → Dp K H' r (cols cs') → Q r H'
theorem ok_L_some (T : Txt K mg) : Good P w K mg base 2 "_law_some" ["_law_draws_here", "_law_columns", "_law_share"] (spSome K) := by
  refine good_of (q := "_law_some") (st := s_L_some) (N := ["_law_draws_here", "_law_columns", "_law_share", "_law_column"]) T.g__law_some (T.def_ 27) sc_L_some (fun _ _ _ _ _ _ us hl => match us, hl with | [_, _, _], _ => rfl) (fun vs H Q E h => by obtain ⟨p, v, cs, s, rfl, _⟩ := h; rfl) fun cdv A outer s H vs Q E hr h =>
    ⟨_, (pss_one (ps_ret (kTuple (K := K) rfl rfl T.tuple0 (pe_lc (own := [("_law_column", 3)]) (g := gName 3) rfl sc_L_some.nd (kSq (K := K) rfl (pv 1)) (blkOk_by (by kernel_rfl)) (fun _ _ _ _ _ => (pg_name (i := 3) sc_L_some.nd rfl (by first | exact Or.inl rfl | exact Or.inr rfl))) (fun _ _ _ _ _ => pts_one (pt_cmpR op_lt (pe_callG (ok_L_take (P := P) (w := w) (base := base) T) (hr.mono (by decide)) rfl (pa_cons (pv 0) (pa_cons pe_int pa_nil))) (pv 2) (nomark _))) (fun _ _ _ _ _ => (pv 3)))))), ?_⟩
  obtain ⟨p, v, cs, s, rfl, hv, hz, hp, q⟩ := h
  refine es_tupX (K := K) (M := [p]) (ds := cs.map nI) (ed_var rfl hv) hp.trk (nl_all nl_nI _) H (Ex.refl H) _ fun J H1 e1 w L hL => ?_
  have hp1 := hp.ex e1
  have npL : p ≠ L := fun e => by
    obtain ⟨is, h⟩ := hp1
    rw [e, hL] at h
    cases h
  have wl : (cs.map nI).length = cs.length := List.length_map ..
  have w : Walk J cs.length (ExB [p] H1) (fun i H x H' => Ex H H' ∧ ∃ d, (cs.map nI)[i]? = some d ∧ Dp K H' x d) := wl ▸ w
  refine lc_it w (fun i H' => ∃ cs' : List Nat, cs'.Sublist (cs.take i) ∧ Drs H' p ∧ ExB [L, p] H1 H' ∧ Lst K H' L (cs'.map nI)) ?_ (fun i H' _ h => ?_) (fun i x H2 H3 hi h y => ?_) (fun H2 h => ?_)
  · exact ⟨[], List.nil_sublist _, ⟨_, by rw [upd_ne npL]; exact hp1.choose_spec⟩, (ExB.refl _ _).upd (by simp) _, [], upd_same, .nil⟩
  · obtain ⟨cs', h1, h2, h3, h4⟩ := h
    exact h3.drop hL
  · obtain ⟨cs', h1, h2, h3, h4⟩ := h
    obtain ⟨e3, d, hd, hx⟩ := y
    have hci : cs[i]? = some cs[i] := List.getElem?_eq_getElem hi
    rw [List.getElem?_map, hci] at hd
    cases hd
    refine ⟨rfl, x_take (K := K) rfl (h2.ex e3) ed_i (by decide) fun k H4 hk0 hk1 e4 hp4 => ⟨_, rfl, k, s, rfl, rfl, _, rfl, ?_⟩⟩
    have hl4 : Lst K H4 L (cs'.map nI) := (h4.ex e3).keep (h2.ex e3).trk.muts e4 (by simpa using Ne.symm npL) (nl_all nl_nI _)
    have e14 : ExB [L, p] H1 H4 := (h3.then e3).trans (e4.mono (by simp))
    by_cases hks : k < s
    · simp only [decide_eq_true hks, if_true]
      obtain ⟨ws, h5, h6⟩ := id hl4
      have hx4 : Dp K H4 x (nI cs[i]) := hx.keep (h2.ex e3).trk.muts e4 rfl
      have ee : ExB [L] H4 (upd H4 L (.lst (ws ++ [x]))) := (ExB.refl _ _).upd (by simp) _
      refine ⟨_, rfl, ws, h5, Evl.sz_lt (by rw [h6.length, List.length_map]; have := h1.length_le; rw [List.length_take] at this; omega), cs' ++ [cs[i]], ?_, hp4.keep ee (by simpa using npL), e14.trans (ee.mono (by simp)), ws ++ [x], upd_same, ?_⟩
      · rw [take_snoc hci]
        exact h1.append (List.Sublist.refl _)
      · rw [List.map_append]
        exact (h6.snoc hx4).keep hl4.mut ee (nlAll_iff.mpr fun d hd => by
          rcases List.mem_append.mp hd with h | h
          · exact nlAll_iff.mp (nl_all nl_nI cs') d h
          · rw [List.mem_singleton.mp h]; rfl)
    · simp only [decide_eq_false hks, Bool.false_eq_true, if_false]
      exact ⟨cs', h1.trans (by rw [take_snoc hci]; exact List.sublist_append_left _ _), hp4, e14, hl4⟩
  · obtain ⟨cs', h1, h2, h3, h4⟩ := h
    rw [List.take_length] at h1
    obtain ⟨ws, h5, h6⟩ := id h4
    refine .inl ⟨L, ws, rfl, SqL.of h5, fun r hr => ?_⟩
    have hn := Ex.new (o := .tup ws) hr
    exact q _ cs' _ h1 ((ExB.of e1).trans ((h3.drop hL).then hn)) (h2.ex hn) (.tup (SqT.of upd_same) (h6.ex hn))
end
end NS
set_option Elab.async false
set_option linter.all false
set_option maxRecDepth 100000
set_option maxHeartbeats 4000000
namespace NS
open PySem PySem.Spec PyProof.Rows L2
open Evl (Ex)
section
variable {P : Program} {w : World} {K : Fg} {mg : Str → Option Value} {base : Heap}
theorem x_some {σ : L2.St} {H : Hp} {tc ts : TE} {i : Nat} {p : Addr} {cs : List Nat} {s : Int} {Q : VK} {E : XK} (hσ : σ[i]? = some (some (.ref p))) (hp : Drs H p) (hc : EvD K tc σ H (cols cs)) (hz : cs.length ≤ 1000) (hs : EvD K ts σ H (.int s))
    (k : ∀ r cs' H', cs'.Sublist cs → ExB [p] H H' → Drs H' p → Dp K H' r (cols cs') → Q r H') : tCall (spSome K) [] E (tCons (tVar i) (tCons tc (tCons ts tNil))) σ H Q :=
  ⟨_, hσ, hc H (Ex.refl H) _ fun v H1 e1 hv => hs H1 e1 _ fun u H2 e2 hu => ⟨p, v, cs, s, by rw [hu.int_inv]; rfl, hv.ex e2, hz, (hp.ex e1).ex e2, fun r cs' H' h1 h2 h3 h4 => k r cs' H' h1 ((ExB.of (e1.trans e2)).trans h2) h3 h4⟩⟩
/-! ### _law_functional -/
theorem sc_L_functional : FnScope ["_law_draws_here", "_law_width", "_law_many", "_law_columns", "_law_book", "_law_k"] ["_law_draws_here", "_law_width", "_law_many"] (defScope s_L_functional) := ⟨rfl, rfl, rfl, by decide +kernel, rfl, by decide +kernel, by decide +kernel⟩
def spFun (K : Fg) : Sp := fun vs H Q _ => ∃ (p : Addr) (n many : Nat), vs = [.ref p, .int n, .int many] ∧ n ≤ 10 ∧ many ≤ 10 ∧ Drs H p ∧ ∀ r B H', OkB n B → B.length ≤ many → ExB [p] H H' → Drs H' p → Dp K H' r (.tuple (B.map depD)) → Q r H'
theorem ok_L_functional (T : Txt K mg) : Good P w K mg base 3 "_law_functional" ["_law_draws_here", "_law_width", "_law_many"] (spFun K) := by
  refine good_of (q := "_law_functional") (st := s_L_functional) (N := ["_law_draws_here", "_law_width", "_law_many", "_law_columns", "_law_book", "_law_k"]) T.g__law_functional (T.def_ 28) sc_L_functional (fun _ _ _ _ _ _ us hl => match us, hl with | [_, _, _], _ => rfl) (fun vs H Q E h => by obtain ⟨p, n, m, rfl, _⟩ := h; rfl) fun cdv A outer s H vs Q E hr h =>
    ⟨_, (pss_cons (ps_set (i := 3) sc_L_functional.nd rfl (by first | exact Or.inl rfl | exact Or.inr rfl) (pe_tupRg rfl rfl T.tuple0 (prg_1 rfl T.range0 (pv 1))))
        (pss_cons (ps_set (i := 4) sc_L_functional.nd rfl (by first | exact Or.inl rfl | exact Or.inr rfl) (pe_lst pa_nil))
        (pss_cons (ps_for PassesOwn.never rfl (pi_range1 rfl T.range0 (pa_cons (pe_callG (ok_L_take (P := P) (w := w) (base := base) T) (hr.mono (by decide)) rfl (pa_cons (pv 0) (pa_cons (pe_op (kPlus (K := K) rfl) (pv 2) pe_int) pa_nil))) pa_nil)) (pg_name (i := 5) sc_L_functional.nd rfl (by first | exact Or.inl rfl | exact Or.inr rfl)) (pss_one (ps_expr (kBm (K := K) rfl PySem.F.plainAttrs_list PySem.F.slot_list_append PySem.F.type_list_append mt_append (pv 4) (pa_cons (pe_tup (pa_cons pe_str (pa_cons pe_int (pa_cons (pe_callG (ok_L_some (P := P) (w := w) (base := base) T) (hr.mono (by decide)) rfl (pa_cons (pv 0) (pa_cons (pv 3) (pa_cons pe_int pa_nil)))) (pa_cons (pe_callG (ok_L_some (P := P) (w := w) (base := base) T) (hr.mono (by decide)) rfl (pa_cons (pv 0) (pa_cons (pv 3) (pa_cons pe_int pa_nil)))) pa_nil))))) pa_nil)))))
        (pss_one (ps_ret (kTuple (K := K) rfl rfl T.tuple0 (pv 4))))))), ?_⟩
  obtain ⟨p, n, many, rfl, hn, hm, hp, q⟩ := h
  refine q_set (K := K) (ed_tupRg (n := n) (ed_var rfl (.int _)) (by omega)) fun vc H1 e1 hc => ?_
  refine q_setL (K := K) (en_lst ea_nil (by simp)) fun b H2 hb e2 hlb => ?_
  have hp2 := (hp.ex e1).ex e2
  have hc2 := hc.ex e2
  have npb : p ≠ b := fun e => by
    obtain ⟨is, h⟩ := hp.ex e1
    rw [e, hb] at h
    cases h
  have hb0 : H b = none := Evl.fresh_back e1 hb
  refine x_take (K := K) rfl hp2 (ed_addI (ed_var rfl (.int _)) ed_i) (by omega) fun k H3 hk0 hk1 e3 hp3 => ?_
  have hl3 : Lst K H3 b [] := hlb.keep hp2.trk.muts e3 (by simpa using Ne.symm npb) rfl
  have hc3 := hc2.keep hp2.trk.muts e3 (nl_cols _)
  refine ⟨k, rfl, by omega, by omega, for_rest (K := K) (M := [b, p]) (walk_rg k.toNat) (fun i σ' H' => ∃ s5, σ' = [some (.ref p), some (.int n), some (.int many), some vc, some (.ref b), s5] ∧ Drs H' p ∧ Dp K H' vc (cols (List.range n)) ∧ ∃ B, OkB n B ∧ B.length ≤ i ∧ Lst K H' b (B.map depD)) ?_ ?_ ?_ ?_⟩
  · exact ⟨_, rfl, hp3, hc3, [], (fun _ h => by cases h), by simp, hl3⟩
  · rintro i σ1 H4 H5 ⟨s5, h1, h2, h3, B, h4, h5, h6⟩ e
    exact ⟨s5, h1, h2.ex e, h3.ex e, B, h4, h5, h6.ex e⟩
  · rintro i a x σ1 H4 ha ⟨s5, rfl, h2, h3, B, h4, h5, h6⟩ eM hx
    obtain ⟨rfl, hi⟩ := range_get ha
    refine ⟨_, tgt_name, fun H5 e5 N hN => ?_⟩
    have h2 := h2.ex e5
    have h3 := h3.ex e5
    have h6 := h6.ex e5
    obtain ⟨ws, hw, hws⟩ := id h6
    refine ⟨_, rfl, .inl ⟨rfl, _, SqL.of hw⟩, ?_⟩
    refine x_some (K := K) rfl h2 (ed_var rfl h3) (by rw [List.length_range]; omega) ed_i fun r1 c1 H6 s1 e6 hp6 hr1 => ?_
    have h36 := h3.keep h2.trk.muts e6 (nl_cols _)
    have h66 : Lst K H6 b (B.map depD) := h6.keep h2.trk.muts e6 (by simpa using Ne.symm npb) (nl_all nl_dep _)
    refine x_some (K := K) rfl hp6 (ed_var rfl h36) (by rw [List.length_range]; omega) ed_i fun r2 c2 H7 s2 e7 hp7 hr2 => ?_
    have h37 := h36.keep hp6.trk.muts e7 (nl_cols _)
    have h67 : Lst K H7 b (B.map depD) := h66.keep hp6.trk.muts e7 (by simpa using Ne.symm npb) (nl_all nl_dep _)
    have hr17 := hr1.keep hp6.trk.muts e7 (nl_cols _)
    refine ⟨by show 4 ≤ sizeLine; decide, fun t ht => ?_⟩
    have hnw := Ex.new (o := .tup [.str "settles", .int 0, r1, r2]) ht
    obtain ⟨ws7, hw7, hws7⟩ := h67.ex hnw
    have hT : Dp K _ (.ref t) (depD ⟨c1, c2⟩) := .tup (SqT.of upd_same) (.cons (.str _) (.cons (.int _) (.cons (hr17.ex hnw) (.cons (hr2.ex hnw) .nil))))
    refine ⟨b, ws7, .ref t, rfl, rfl, hw7, Evl.sz_lt (by rw [hws7.length, List.length_map]; omega), ?_⟩
    have eb := (ExB.refl [b] (upd H7 t (.tup [.str "settles", .int 0, r1, r2]))).upd (p := b) (by simp) (.lst (ws7 ++ [.ref t]))
    have mb : MutS (upd H7 t (.tup [.str "settles", .int 0, r1, r2])) [b] := (h67.ex hnw).mut
    refine hN _ _ ⟨_, rfl, (hp7.ex hnw).keep eb (by simpa using npb), (h37.ex hnw).keep mb eb (nl_cols _), B ++ [⟨c1, c2⟩], ?_, by simp; omega, _, upd_same, ?_⟩ ?_
    · intro d hd
      rcases List.mem_append.mp hd with h | h
      · exact h4 d h
      · rw [List.mem_singleton.mp h]; exact ⟨s1, s2⟩
    · rw [List.map_append]
      exact (hws7.snoc hT).keep mb eb (nlAll_append.trans (by rw [nl_all nl_dep]; simp [nlAll, nl_dep]))
    · exact (((e6.mono (by simp)).trans (e7.mono (by simp))).then hnw).trans (eb.mono (by simp))
  · rintro σ1 H4 ⟨s5, rfl, h2, h3, B, h4, h5, h6⟩ eM
    have hbp : ExB [b, p] H H4 := ((ExB.of (e1.trans e2)).trans (e3.mono (by simp))).trans eM
    refine s_ret (ed_tupL (ed_var rfl h6.dp)) fun v H5 e5 hv => q v B H5 h4 (by simp at h5; omega) ((hbp.drop hb0).then e5) (h2.ex e5) hv
/-! ### _law_reach -/
theorem nodup_le : ∀ (n : Nat) (l : List Nat), l.Nodup → (∀ x ∈ l, x < n) → l.length ≤ n
  | 0, [], _, _ => Nat.le_refl 0
  | 0, x :: _, _, h => absurd (h x (List.mem_cons_self ..)) (Nat.not_lt_zero _)
  | n + 1, l, h, k => by
    by_cases hm : n ∈ l
    · have ih := nodup_le n (l.erase n) (h.erase _) fun x hx => by
        have h1 := (List.Nodup.mem_erase_iff h).mp hx
        have := k x h1.2
        have h2 := h1.1
        omega
      rw [List.length_erase_of_mem hm] at ih
      omega
    · have := nodup_le n l h fun x hx => by
        have h1 := k x hx
        have : x ≠ n := fun e => hm (e ▸ hx)
        omega
      omega
theorem nodup_full {n : Nat} {l : List Nat} (h : l.Nodup) (k : ∀ x ∈ l, x < n) : l.length = n ↔ ∀ c, c < n → c ∈ l := by
  constructor
  · intro e c hc
    refine Classical.byContradiction fun hn => ?_
    have := nodup_le n (c :: l) (List.nodup_cons.mpr ⟨hn, h⟩) fun x hx => by
      rcases List.mem_cons.mp hx with rfl | hx
      · exact hc
      · exact k x hx
    rw [List.length_cons] at this
    omega
  · intro hf
    have h1 := nodup_le n l h k
    have h2 : (List.range n).length ≤ l.length := by
      refine Classical.byContradiction fun hlt => ?_
      have hlt : l.length < n := by rw [List.length_range] at hlt; omega
      have : ∀ (m : Nat) (l : List Nat), (∀ c, c < m → c ∈ l) → m ≤ l.length := by
        intro m
        induction m with
        | zero => intro l _; exact Nat.zero_le _
        | succ m ih =>
          intro l h
          have hm := h m (Nat.lt_succ_self m)
          have := ih (l.erase m) fun c hc => (List.mem_erase_of_ne (by omega)).mpr (h c (by omega))
          rw [List.length_erase_of_mem hm] at this
          have hp : 0 < l.length := List.length_pos_of_mem hm
          omega
      have := this n l hf
      omega
    rw [List.length_range] at h2
    omega
/-- what _law_reach has found -/
structure Rch (n : Nat) (B : Book) (left fs : List Nat) : Prop where
  nd : fs.Nodup
  le : ∀ c ∈ left, c ∈ fs
  cl : ∀ c ∈ fs, Cl B left c
  lt : ∀ c ∈ fs, c < n
def Clsd (B : Book) (fs : List Nat) : Prop := ∀ d ∈ B, (∀ c ∈ d.l, c ∈ fs) → ∀ c ∈ d.r, c ∈ fs
theorem Rch.iff {n : Nat} {B : Book} {left fs : List Nat} (h : Rch n B left fs) (c : Clsd B fs) (x : Nat) : x ∈ fs ↔ Cl B left x := by
  refine ⟨h.cl x, fun q => ?_⟩
  induction q with
  | base m => exact h.le _ m
  | step hd _ hc ih => exact c _ hd ih _ hc
theorem Rch.more {n : Nat} {B : Book} {left fs : List Nat} (h : Rch n B left fs) {d : Dep} (hd : d ∈ B) (ok : OkD n d) (hl : ∀ c ∈ d.l, c ∈ fs) : Rch n B left (fs ++ d.r.filter fun c => !decide (c ∈ fs)) := by
  refine ⟨List.nodup_append.mpr ⟨h.nd, (sub_nodup ok.r).filter _, fun a ha b hb e => ?_⟩, fun c hc => List.mem_append_left _ (h.le c hc), fun c hc => ?_, fun c hc => ?_⟩
  · have := (List.mem_filter.mp hb).2
    rw [← e] at this
    simp [ha] at this
  · rcases List.mem_append.mp hc with q | q
    · exact h.cl c q
    · exact .step hd (fun x hx => h.cl x (hl x hx)) (List.mem_filter.mp q).1
  · rcases List.mem_append.mp hc with q | q
    · exact h.lt c q
    · exact sub_lt ok.r (List.mem_filter.mp q).1
theorem sc_L_reach : FnScope ["_law_book", "_law_left", "_law_found", "_law_changed", "_law_one", "_law_more", "_law_column"] ["_law_book", "_law_left"] (defScope s_L_reach) := ⟨rfl, rfl, rfl, by decide +kernel, rfl, by decide +kernel, by decide +kernel⟩
def spReach (K : Fg) : Sp := fun vs H Q _ => ∃ vb vl n B left, vs = [vb, vl] ∧ n ≤ 100 ∧ B.length ≤ 1000 ∧ OkB n B ∧ left.Sublist (List.range n) ∧ Dp K H vb (.tuple (B.map depD)) ∧ Dp K H vl (cols left) ∧
  ∀ f fs H', Ex H H' → Rch n B left fs → Clsd B fs → Lst K H' f (fs.map nI) → Q (.ref f) H'
theorem ok_L_reach (T : Txt K mg) : Good P w K mg base 1 "_law_reach" ["_law_book", "_law_left"] (spReach K) := by
  refine good_of (q := "_law_reach") (st := s_L_reach) (N := ["_law_book", "_law_left", "_law_found", "_law_changed", "_law_one", "_law_more", "_law_column"]) T.g__law_reach (T.def_ 29) sc_L_reach (fun _ _ _ _ _ _ us hl => match us, hl with | [_, _], _ => rfl) (fun vs H Q E h => by obtain ⟨_, _, _, _, _, rfl, _⟩ := h; rfl) fun cdv A outer s H vs Q E hr h =>
    ⟨_, (pss_cons (ps_set (i := 2) sc_L_reach.nd rfl (by first | exact Or.inl rfl | exact Or.inr rfl) (pe_callTy (kList (K := K) rfl) rfl T.list0 PyProof.Rows.boot_list (pa_cons (pv 1) pa_nil)))
        (pss_cons (ps_set (i := 3) sc_L_reach.nd rfl (by first | exact Or.inl rfl | exact Or.inr rfl) pe_bl)
        (pss_cons (ps_while PassesOwn.never (pt_val (pv 3)) (pss_cons (ps_set (i := 3) sc_L_reach.nd rfl (by first | exact Or.inl rfl | exact Or.inr rfl) pe_bl)
        (pss_one (ps_for PassesOwn.never rfl (kSq (K := K) rfl (pv 0)) (pg_name (i := 4) sc_L_reach.nd rfl (by first | exact Or.inl rfl | exact Or.inr rfl)) (pss_one (ps_if (pt_cmpR (kEq (K := K) rfl (room64 hr)) (pe_callB (kLen (K := K) rfl) rfl T.len0 PySem.boot_len (pa_cons (pe_lc (own := [("_law_column", 6)]) (g := gName 6) rfl sc_L_reach.nd (kSq (K := K) rfl (pe_ix (kIx (K := K) rfl) (pv 4) pe_int (fun _ _ => rfl))) (blkOk_by (by kernel_rfl)) (fun _ _ _ _ _ => (pg_name (i := 6) sc_L_reach.nd rfl (by first | exact Or.inl rfl | exact Or.inr rfl))) (fun _ _ _ _ _ => pts_one (pt_cmpR (kNin (K := K) rfl (room65 hr)) (pv 6) (pv 2) (by with_unfolding_all rfl))) (fun _ _ _ _ _ => (pv 6))) pa_nil)) pe_int (nomark _)) (pss_cons (ps_setLc (i := 5) (own := [("_law_column", 6)]) (g := gName 6) rfl sc_L_reach.nd rfl rfl (sw_true rfl rfl rfl (by kernel_rfl)) (kSq (K := K) rfl (pe_ix (kIx (K := K) rfl) (pv 4) pe_int (fun _ _ => rfl))) (blkOk_by (by kernel_rfl)) (fun _ _ _ _ _ => (pg_name (i := 6) sc_L_reach.nd rfl (by first | exact Or.inl rfl | exact Or.inr rfl))) (fun _ _ _ _ _ => pts_one (pt_cmpR (kNin (K := K) rfl (room65 hr)) (pv 6) (pv 2) (by with_unfolding_all rfl))) (fun _ _ _ _ _ => (pv 6)))
        (pss_cons (ps_set (i := 3) sc_L_reach.nd rfl (by first | exact Or.inl rfl | exact Or.inr rfl) (pe_or (pv 3) (pe_one (pe_cmpR op_gt (pe_callB (kLen (K := K) rfl) rfl T.len0 PySem.boot_len (pa_cons (pv 5) pa_nil)) pe_int (nomark _)))))
        (pss_one (ps_set (i := 2) sc_L_reach.nd rfl (by first | exact Or.inl rfl | exact Or.inr rfl) (pe_op (kPlus (K := K) rfl) (pv 2) (pv 5)))))) pss_nil))))))
        (pss_one (ps_ret (pv 2)))))), ?_⟩
  obtain ⟨vb, vl, n, B, left, rfl, hn, hB, ok, hl, hb, hv, q⟩ := h
  refine q_setL (K := K) (en_listT (ed_var rfl hv)) fun f H1 hf e1 hlf => ?_
  refine q_set (K := K) (ed_b (b := true)) fun v H2 e2 hv2 => ?_
  cases hv2.bl_inv
  refine q_while (fun m σ' H' => ∃ (fs : List Nat) (f : Addr) (ch : Bool) (s4 s5 s6 : Option V), σ' = [some vb, some vl, some (.ref f), some (.bl ch), s4, s5, s6] ∧ Ex H H' ∧ Lst K H' f (fs.map nI) ∧ Rch n B left fs ∧ (ch = false → Clsd B fs) ∧ m = 2 * (n - fs.length) + (if ch then 1 else 0))
    (m := _) ⟨left, f, true, _, _, _, rfl, e1.trans e2, hlf.ex e2, ⟨sub_nodup hl, fun c h => h, fun c h => .base h, fun c h => sub_lt hl h⟩, (fun h => by cases h), rfl⟩ ?_
  rintro m σ1 H3 ⟨fs, f, ch, s4, s5, s6, rfl, e3, hl3, R, hc, rfl⟩
  refine ⟨ch, et_B (K := K) (ed_var rfl (.bl _)), fun hch H4 e4 N hN => ?_, fun hch H4 e4 => ?_⟩
  · subst hch
    refine q_set (K := K) (ed_b (b := false)) fun v H5 e5 hv5 => ?_
    cases hv5.bl_inv
    have hb5 := ((hb.ex e3).ex e4).ex e5
    refine s_for (K := K) (M := []) (as := B) (enc := depD) (es_sqT (ed_var rfl hb5))
      (fun i σ' H' => ∃ (fs' : List Nat) (f' : Addr) (ch : Bool) (s4 s5 s6 : Option V), σ' = [some vb, some vl, some (.ref f'), some (.bl ch), s4, s5, s6] ∧ Lst K H' f' (fs'.map nI) ∧ Rch n B left fs' ∧
        (ch = false → fs' = fs ∧ ∀ d ∈ B.take i, (∀ c ∈ d.l, c ∈ fs) → ∀ c ∈ d.r, c ∈ fs) ∧ (ch = true → fs.length < fs'.length)) ?_ ?_ ?_ ?_
    · exact ⟨fs, f, false, _, _, _, rfl, (hl3.ex e4).ex e5, R, (fun _ => ⟨rfl, fun d h => by simp at h⟩), fun h => by cases h⟩
    · rintro i σ1 H5 H6 ⟨fs', f', ch, s4, s5, s6, h1, h2, h3⟩ e
      exact ⟨fs', f', ch, s4, s5, s6, h1, h2.ex e, h3⟩
    · rintro i d x σ1 H6 hd ⟨fs', f', ch, s4, s5, s6, rfl, h2, R', hc0, hc1⟩ e6 hx
      have hdB := List.mem_of_getElem? hd
      have okd := ok d hdB
      refine ⟨_, tgt_name, fun H7 e7 N2 hN2 => ?_⟩
      have h2 := h2.ex e7
      have hx := hx.ex e7
      refine s_when (et_test (ed_is (ed_eqN (ed_lenL (EvN.toD (en_lcF (K := K) (as := d.l) (enc := nI) (fun c => !decide (c ∈ fs')) nI (es_sqT (ed_ixT (n := 2) (ed_var rfl hx) ed_i rfl)) (Nat.le_trans (sub_len okd.l) (by omega)) (fun _ _ => rfl) fun c hc u H8 e8 hu =>
        ⟨_, tgt_name, rfl, et_test (ed_is (ed_niL (ed_var rfl hu) (ed_var rfl (h2.ex e8).dp) (sh_nI c) (sh_colsL fs')) (by rw [any_cols])), fun _ => ed_var rfl hu⟩))) ed_n0) rfl)) (fun hb8 H8 e8 => ?_) (fun hb8 H8 e8 => ?_)
      · have hlen : (d.l.filter fun c => !decide (c ∈ fs')).length = 0 := by
          have := of_decide_eq_true hb8
          rwa [List.length_map] at this
        have hall : ∀ c ∈ d.l, c ∈ fs' := fun c hc => by
          have := List.filter_eq_nil_iff.mp (List.length_eq_zero_iff.mp hlen) c hc
          simpa using this
        have h28 := h2.ex e8
        refine q_setL (K := K) (en_lcF (K := K) (as := d.r) (enc := nI) (fun c => !decide (c ∈ fs')) nI (es_sqT (ed_ixT (n := 3) (ed_var rfl (hx.ex e8)) ed_i rfl)) (Nat.le_trans (sub_len okd.r) (by omega)) (fun _ _ => rfl) fun c hc u H9 e9 hu =>
          ⟨_, tgt_name, rfl, et_test (ed_is (ed_niL (ed_var rfl hu) (ed_var rfl (h28.ex e9).dp) (sh_nI c) (sh_colsL fs')) (by rw [any_cols])), fun _ => ed_var rfl hu⟩) fun mr H9 hmr e9 hl9 => ?_
        refine q_set (K := K) (ed_orV (a := ch) (ed_var rfl (.bl _)) fun _ => ed_is (ed_gt (ed_lenL (ed_var rfl hl9.dp)) ed_i) rfl) fun v H10 e10 hv10 => ?_
        cases hv10.bl_inv
        have R2 := R'.more hdB okd hall
        have L2 := nodup_le n _ R2.nd R2.lt
        rw [List.length_append] at L2
        refine s_setL (K := K) (en_add (el_var rfl (h28.ex (e9.trans e10))) (el_var rfl (hl9.ex e10)) (by rw [List.length_map, List.length_map]; omega)) fun f2 H11 _ e11 hl11 => hN2 _ _ ⟨_, _, _, _, _, _, rfl, (by rw [← List.map_append] at hl11; exact hl11), R2, fun hch => ?_, fun hch => ?_⟩ (.of (((e8.trans e9).trans e10).trans e11))
        · rw [Bool.or_eq_false_iff] at hch
          obtain ⟨hch0, hml⟩ := hch
          have hm0 : (d.r.filter fun c => !decide (c ∈ fs')).length = 0 := by
            have := of_decide_eq_false hml
            rw [List.length_map] at this
            omega
          have hnil := List.length_eq_zero_iff.mp hm0
          obtain ⟨rfl, hold⟩ := hc0 hch0
          rw [hnil, List.append_nil]
          refine ⟨rfl, fun d' hd' hl' c hc => ?_⟩
          rw [take_snoc hd] at hd'
          rcases List.mem_append.mp hd' with h | h
          · exact hold d' h hl' c hc
          · rw [List.mem_singleton.mp h] at hc
            have := List.filter_eq_nil_iff.mp hnil c hc
            simpa using this
        · rw [List.length_append]
          cases ch with
          | true => have := hc1 rfl; omega
          | false =>
            obtain ⟨rfl, _⟩ := hc0 rfl
            rw [Bool.false_or] at hch
            have := of_decide_eq_true hch
            rw [List.length_map] at this
            omega
      · refine hN2 _ _ ⟨_, _, _, _, _, _, rfl, h2.ex e8, R', fun hch => ?_, hc1⟩ (.of e8)
        obtain ⟨rfl, hold⟩ := hc0 hch
        refine ⟨rfl, fun d' hd' hl' c hc => ?_⟩
        rw [take_snoc hd] at hd'
        rcases List.mem_append.mp hd' with h | h
        · exact hold d' h hl' c hc
        · rw [List.mem_singleton.mp h] at hl'
          refine absurd ?_ (of_decide_eq_false hb8)
          rw [List.length_map, List.filter_eq_nil_iff.mpr fun c hc => by simpa using hl' c hc]
          rfl
    · rintro σ1 H6 ⟨fs', f', ch, s4, s5, s6, rfl, h2, R', hc0, hc1⟩ e6
      have L1 := nodup_le n _ R.nd R.lt
      have L2 := nodup_le n _ R'.nd R'.lt
      cases ch with
      | true =>
        have := hc1 rfl
        exact hN (2 * (n - fs'.length) + 1) _ _ (by simp; omega) ⟨fs', f', true, _, _, _, rfl, ((e3.trans e4).trans e5).trans e6.nil, h2, R', (fun h => by cases h), rfl⟩
      | false =>
        obtain ⟨rfl, hold⟩ := hc0 rfl
        rw [List.take_length] at hold
        exact hN (2 * (n - fs'.length)) _ _ (by simp) ⟨fs', f', false, _, _, _, rfl, ((e3.trans e4).trans e5).trans e6.nil, h2, R', (fun _ => hold), rfl⟩
  · exact ⟨_, rfl, q f fs H4 (e3.trans e4) R (hc hch) (hl3.ex e4)⟩
open Classical in
/-- how many columns left settles -/
noncomputable def clN (B : Book) (n : Nat) (left : List Nat) : Nat := ((List.range n).filter fun c => decide (Cl B left c)).length
theorem clN_full {B : Book} {n : Nat} {left : List Nat} : clN B n left = n ↔ ∀ c, c < n → Cl B left c := by
  classical
  unfold clN
  rw [nodup_full (List.nodup_range.filter _) fun x hx => List.mem_range.mp (List.mem_filter.mp hx).1]
  constructor
  · intro h c hc
    simpa using (List.mem_filter.mp (h c hc)).2
  · intro h c hc
    exact List.mem_filter.mpr ⟨List.mem_range.mpr hc, by simpa using h c hc⟩
theorem Rch.len {n : Nat} {B : Book} {left fs : List Nat} (h : Rch n B left fs) (c : Clsd B fs) : fs.length = n ↔ clN B n left = n := by
  rw [nodup_full h.nd h.lt, clN_full]
  exact ⟨fun q x hx => (h.iff c x).mp (q x hx), fun q x hx => (h.iff c x).mpr (q x hx)⟩
end
end NS
set_option Elab.async false
set_option linter.all false
set_option maxRecDepth 100000
set_option maxHeartbeats 4000000
namespace NS
open PySem PySem.Spec PyProof.Rows L2
open PySem.W (EachIs AllAlike Sortable dataLe)
open Evl (Ex)
mutual
theorem reads_nil {h : Heap} : ∀ (d : PyData) (v : Value) (as : List Addr), nl d = true → Reads h v d as → as = []
  | .none, _, _, _, r => by cases r; rfl
  | .bool _, _, _, _, r => by cases r; rfl
  | .int _, _, _, _, r => by cases r; rfl
  | .str _, _, _, _, r => by cases r; rfl
  | .list _, _, _, f, _ => by simp [nl] at f
  | .dict _, _, _, f, _ => by simp [nl] at f
  | .tuple ds, _, _, f, r => by
    cases r with
    | tuple h1 h2 h3 h4 => exact reads_nilAll ds _ _ (by simpa [nl] using f) h4
theorem reads_nilAll {h : Heap} : ∀ (ds : List PyData) (vs : List Value) (as : List Addr), nlAll ds = true → ReadsAll h vs ds as → as = []
  | [], _, _, _, r => by cases r; rfl
  | d :: ds, _, _, f, r => by
    have f' : nl d = true ∧ nlAll ds = true := by simpa [nlAll] using f
    cases r with
    | cons h1 h2 => rw [reads_nil d _ _ f'.1 h1, reads_nilAll ds _ _ f'.2 h2]; rfl
end
theorem each_of {K : Fg} {H : Hp} : ∀ {xs : List V} {vs : List Value} {ds : List PyData}, Vals xs vs → DpAll K H xs ds → EachIs (fun v d => ∃ x, RelV x v ∧ Dp K H x d) vs ds
  | _, _, _, .nil, h => by cases h; exact .nil
  | _, _, _, .cons r rr, h => by
    cases h with
    | cons h1 h2 => exact .cons ⟨_, r, h1⟩ (each_of rr h2)
theorem of_each {K : Fg} {H : Hp} : ∀ {vs : List Value} {ds : List PyData}, EachIs (fun v d => ∃ x, RelV x v ∧ Dp K H x d) vs ds → ∃ xs, Vals xs vs ∧ DpAll K H xs ds
  | _, _, .nil => ⟨[], .nil, .nil⟩
  | _, _, .cons h t => by
    obtain ⟨x, r, hx⟩ := h
    obtain ⟨xs, rr, hxs⟩ := of_each t
    exact ⟨x :: xs, .cons r rr, .cons hx hxs⟩
/-- what a list of data must be to be sorted -/
structure Srt (ds : List PyData) : Prop where
  nl : nlAll ds = true
  al : AllAlike ds
  so : Sortable ds
  dp : ∀ d ∈ ds, d.depth ≤ 30
  ln : ds.length ≤ 100000
theorem Srt.perm {ds es : List PyData} (h : Srt ds) (p : es.Perm ds) : Srt es where
  nl := nlAll_iff.mpr fun d hd => nlAll_iff.mp h.nl d (p.mem_iff.mp hd)
  al := fun d hd d' hd' => h.al d (p.mem_iff.mp hd) d' (p.mem_iff.mp hd')
  so := h.so.elim (fun k => .inl fun d hd => k d (p.mem_iff.mp hd)) fun k => .inr fun d hd => k d (p.mem_iff.mp hd)
  dp := fun d hd => h.dp d (p.mem_iff.mp hd)
  ln := by rw [p.length_eq]; exact h.ln
section
variable {X : Cx} {pins : List (Addr × Obj)} {σ : L2.St} {H : Hp} {s : Shared}
theorem reads_each (I : Inv X pins σ H s) {vs : List Value} {ds : List PyData} (n : nlAll ds = true) (e : EachIs (fun v d => ∃ x, RelV x v ∧ Dp X.K H x d) vs ds) : EachIs (fun v d => ∃ as, Reads s.heap v (id d) as ∧ as = []) vs ds := by
  induction e with
  | nil => exact .nil
  | @cons v d vs ds h _ ih =>
    obtain ⟨x, r, hx⟩ := h
    have n' : nl d = true ∧ nlAll ds = true := by simpa [nlAll] using n
    obtain ⟨as, hr⟩ := Dp.reads I d x v hx r
    exact .cons ⟨as, hr, reads_nil d v as n'.1 hr⟩ (ih n'.2)
theorem each_val {β : Type} {val : β → V} : ∀ {bs : List β} {vs : List Value}, Vals (bs.map val) vs → EachIs (fun v b => RelV (val b) v) vs bs
  | [], _, r => by cases r; exact .nil
  | b :: bs, _, r => by cases r with | cons r rr => exact .cons r (each_val rr)
theorem of_each_val {β : Type} {val : β → V} : ∀ {bs : List β} {vs : List Value}, EachIs (fun v b => RelV (val b) v) vs bs → Vals (bs.map val) vs
  | _, _, .nil => .nil
  | _, _, .cons r rr => .cons r (of_each_val rr)
theorem reads_val (I : Inv X pins σ H s) {β : Type} {val : β → V} {enc : β → PyData} : ∀ {bs : List β} {vs : List Value}, (∀ b ∈ bs, nl (enc b) = true) → (∀ b ∈ bs, Dp X.K H (val b) (enc b)) → Vals (bs.map val) vs → EachIs (fun v b => ∃ as, Reads s.heap v (enc b) as ∧ as = []) vs bs
  | [], _, _, _, r => by cases r; exact .nil
  | b :: bs, _, n, hd, r => by
    cases r with
    | cons r rr =>
      obtain ⟨as, hr⟩ := Dp.reads I (enc b) (val b) _ (hd b (List.mem_cons_self ..)) r
      exact .cons ⟨as, hr, reads_nil _ _ as (n b (List.mem_cons_self ..)) hr⟩ (reads_val I (fun c hc => n c (List.mem_cons_of_mem _ hc)) (fun c hc => hd c (List.mem_cons_of_mem _ hc)) rr)
/-- sorted(of what is gathered): the same values in some order -/
theorem sorted_core (I : Inv X pins σ H s) {β : Type} {val : β → V} {enc : β → PyData} {r : Addr} {bs : List β} {Q : VK} (S : Srt (bs.map enc)) (hd : ∀ b ∈ bs, Dp X.K H (val b) (enc b)) (hu : X.A.units + 64 < cLine)
    (hcol : ∀ (R : List Value → Shared → Prop) (E : Value → Shared → Prop), (∀ (s1 : Shared) (vs : List Value) (bs' : List β), s.heap.objs.size ≤ s1.heap.objs.size → (∀ b o, s.heap.get? b = some o → s1.heap.get? b = some o) → s1.gens = s.gens → s1.os = s.os → bs'.Perm bs → Vals (bs'.map val) vs → R vs s1) → wpAny (model X.prog X.w) X.A.in1 (collect (.ref r)) R E s)
    (q : ∀ (p : Addr) (bs' : List β), bs'.Perm bs → H p = none → Q (.ref p) (upd H p (.lst (bs'.map val)))) :
    wpAny (model X.prog X.w) X.A (call (.builtin "sorted") [.ref r]) (EP X pins σ Q) X.xe s := by
  refine Calls.call_function_entry kind_sorted plain_sorted entry_sorted (args_sorted1 _) ?_
  unfold Builtin.«sorted»
  refine wpAny_bind (m := checkCount "sorted" 1 1 _) (wpAny_pure ?_)
  refine wpAny_bind (hcol _ _ fun s1 vs bs1 hp k1 g1 o1 pm rv => ?_)
  have S' := S.perm (pm.map enc)
  have hd' : ∀ b ∈ bs1, Dp X.K H (val b) (enc b) := fun b hb => hd b (pm.mem_iff.mp hb)
  have e0 := each_val rv
  have hln : vs.length = bs1.length := e0.length
  have hsz : bs1.length ≤ sizeLine := by
    have := S'.ln
    rw [List.length_map] at this
    exact Nat.le_trans this (by rw [sizeLine_eq]; decide)
  refine wpAny_bind (wpAny_newList ?_ (by rw [hln]; exact hsz))
  have hoL : (s1.heap.push (seqObj "list" vs.toArray 0)).get? s1.heap.objs.size = some (seqObj "list" vs.toArray 0) := Heap.get?_push_size _ rfl
  have er := reads_val I (fun b hb => nlAll_iff.mp S'.nl _ (List.mem_map.mpr ⟨b, hb, rfl⟩)) hd' rv
  refine wpAny_bind (wpAny_holding (PySem.W.list_sort_data (s := { s1 with heap := s1.heap.push (seqObj "list" vs.toArray 0) }) (R := fun v b => RelV (val b) v) (enc := enc) (bs := bs1) hoL e0
    (er.mono fun v d ⟨as, hr, ha⟩ => ⟨as, PyProof.Rows.Reads.keeps (fun b o q => Heap.get?_push_of_some _ (k1 b o q)) hr, by rw [ha]; simp⟩)
    S'.al S'.so hsz (fun b hb => ?_) fun out hout eo => ?_))
  · have := S'.dp (enc b) (List.mem_map.mpr ⟨b, hb, rfl⟩)
    show X.A.in1.units + 1 + (enc b).depth < cLine
    have h1 : X.A.in1.units = X.A.units + 1 := rfl
    omega
  · have rws := of_each_val eo
    obtain ⟨c, hc⟩ := sortedHeap_at (vs := vs) (out := out.toArray) hoL
    have hn : H s1.heap.objs.size = none := I.hok.fresh hp
    have hlen : ((bs1.mergeSort (dataLe false enc)).map val).length ≤ sizeLine := by rw [rws.length, hout]; exact hsz
    have kk : ∀ b o, s.heap.get? b = some o → (sortedHeap (s1.heap.push (seqObj "list" vs.toArray 0)) s1.heap.objs.size vs out.toArray).get? b = some o := fun b u e => by
      have q := k1 b u e
      have hlt := Heap.lt_size q
      rw [sortedHeap_old (Nat.ne_of_lt hlt) (by rw [size_push']; exact Nat.lt_succ_of_lt hlt)]
      exact Heap.get?_push_of_some _ q
    have J : Inv X pins σ (upd H s1.heap.objs.size (.lst ((bs1.mergeSort (dataLe false enc)).map val))) { s with heap := sortedHeap (s1.heap.push (seqObj "list" vs.toArray 0)) s1.heap.objs.size vs out.toArray, gens := s1.gens, drawn := s1.drawn, toks := s1.toks } :=
      I.call (ch := []) (Un.laid kk hp hn) (I.hok.laid kk hp ⟨hlen, out, c, rws, hc⟩) (by rw [g1]; exact I.bare) (fun _ z => nomatch z)
    refine wpAny_pure ⟨_, rfl, ?_⟩
    have e : ({ s1 with heap := sortedHeap (s1.heap.push (seqObj "list" vs.toArray 0)) s1.heap.objs.size vs out.toArray } : Shared) = { s with heap := sortedHeap (s1.heap.push (seqObj "list" vs.toArray 0)) s1.heap.objs.size vs out.toArray, gens := s1.gens, drawn := s1.drawn, toks := s1.toks } := by
      cases s1
      cases s
      cases o1
      rfl
    exact e ▸ ⟨.ref s1.heap.objs.size, _, J, rfl, q _ _ ((List.mergeSort_perm _ _).trans pm) hn⟩
/-- what an iterable gives, gathered; the list's place is new -/
theorem gather {prog : Program} {w : World} {A : Around} {E : Value → Shared → Prop} {s : Shared} {T : String} {r d : Addr} {n : Nat} {P : Nat → Value → Prop} {OK : Heap → Prop} {R : List Value → Shared → Prop} (Ks : PySem.W.KdlSrc prog w T r d n P OK) (hh : A.handled = none) (hok : OK s.heap) (hn : n ≤ sizeLine)
    (h : ∀ (h' : Heap) (tk : Nat) (acc : Array Value), s.heap.objs.size ≤ h'.objs.size → (∀ b o, s.heap.get? b = some o → h'.get? b = some o) → ItemsOf P acc n → R acc.toList { s with heap := h', toks := tk }) :
    wpAny (model prog w) A (collect (.ref r)) R E s := by
  have hlt := Ks.there _ hok
  unfold collect
  refine wpAny_bind (wpAny_runValue (codeAny_builtin entry_proto_collect' ?_))
  rw [Around.under_plainId PySem.F.plain_proto_collect _]
  refine wpAny_bind (wpAny_newObj_type ?_)
  refine wpAny_pure ⟨plainId_quiet PySem.F.plain_list_iadd _, codeAny_builtin entry_list_iadd' ?_⟩
  rw [Around.under_plainId PySem.F.plain_list_iadd _]
  have hS : (s.heap.push { cls := .type "list", data := .seq ([] : List Value).toArray }).get? s.heap.objs.size = some { cls := .type "list", data := .seq #[] } := Heap.get?_push_size _ rfl
  have key := PySem.W.kdl_extend (A := A) (s := { s with heap := s.heap.push { cls := .type "list", data := .seq ([] : List Value).toArray } })
    (R := fun (q : Result) (s' : Shared) => ∃ (h' : Heap) (tk : Nat) (acc' : Array Value) (c' : Nat), q = .ok (.ret (.ref s.heap.objs.size)) ∧ s' = { s with heap := h', toks := tk } ∧
      (∀ b o, s.heap.get? b = some o → h'.get? b = some o) ∧ h'.get? s.heap.objs.size = some { cls := .type "list", dict := none, data := .seq acc' c', slots := #[] } ∧ ItemsOf P acc' n)
    Ks hh (Ks.keep _ _ hok fun b _ o e => Heap.get?_push_of_some _ e) s.heap.objs.size (Nat.ne_of_gt hlt.1) (Nat.ne_of_gt hlt.2) (.ref s.heap.objs.size) 0 hS
    (fun h' tk acc' c' hk hS' hacc => ⟨h', tk, acc', c', rfl, rfl, fun b o e => hk b o (Nat.ne_of_lt (Heap.lt_size e)) (Heap.get?_push_of_some _ e), hS', hacc⟩) hn
  refine wpAny_mono key (fun fin s' x => ?_) fun e s' x => ?_
  · cases fin with
    | done f =>
      obtain ⟨h', tk, acc', c', e, rfl, hk, hS', hacc⟩ := x
      cases e
      exact wpAny_bind (wpAny_load hS' (wpAny_pure (h h' tk acc' (Nat.le_of_lt (Heap.lt_size hS')) hk hacc)))
    | again c₁ =>
      refine ⟨x.1, codeAny_mono x.2 fun q s₂ y => ?_⟩
      obtain ⟨h', tk, acc', c', rfl, rfl, hk, hS', hacc⟩ := y
      exact wpAny_bind (wpAny_load hS' (wpAny_pure (h h' tk acc' (Nat.le_of_lt (Heap.lt_size hS')) hk hacc)))
  · obtain ⟨_, _, _, _, e', _⟩ := x
    cases e'
/-- sorted(list of data) -/
def rSrtL (K : Fg) : List V → Hp → VK → Prop := fun xs H Q => ∃ r ds, xs = [.ref r] ∧ Dp K H (.ref r) (.list ds) ∧ Srt ds ∧ ∀ p ws, H p = none → DpAll K H ws (ds.mergeSort (dataLe false id)) → Q (.ref p) (upd H p (.lst ws))
theorem call_srtL (hu : X.A.units + 64 < cLine) : CallR X (.builtin "sorted") (rSrtL X.K) := by
  intro pins s σ H xs us Q I r h
  obtain ⟨l, ds, rfl, hd, S, q⟩ := h
  obtain ⟨_, xs, e, hl, hxs⟩ := hd.list_inv
  cases e
  rw [Vals.ref1 r]
  obtain ⟨its, rv, pl, hz⟩ := I.list hl
  have e0 := each_of rv hxs
  have er := reads_each I S.nl e0
  have hsz : ds.length ≤ sizeLine := Nat.le_trans S.ln (by rw [sizeLine_eq]; decide)
  refine PySem.W.sorted_data (R := fun v d => ∃ x, RelV x v ∧ Dp X.K H x d) (enc := id) (bs := ds) pl.isList e0 (er.mono fun v d ⟨as, hr, _⟩ => ⟨as, hr⟩) (by rw [List.map_id]; exact S.al) (by rw [List.map_id]; exact S.so) hsz (fun d hd => ?_) fun out hout eo => ?_
  · have := S.dp d hd
    show X.A.units + 2 + d.depth < cLine
    omega
  · obtain ⟨ws, rws, hws⟩ := of_each eo
    obtain ⟨ep, he'⟩ := PyProof.Rows.sortedAll_at s.heap its out.toArray
    have hlen : ws.length ≤ sizeLine := by rw [rws.length, hout]; exact hsz
    exact ⟨.ref _, upd H (s.heap.objs.size + 1) (.lst ws), I.laid (t' := s.toks) (fun _ _ => PyProof.Rows.sortedAll_old) (Nat.le_succ _) ⟨hlen, out, ep, rws, he'⟩, rfl, q _ ws (I.hok.fresh (Nat.le_succ _)) hws⟩
theorem sorted_lift {ks : List (List Int)} {ds : List PyData} (h : ds.Perm (ks.map rowD)) (le : PyData → PyData → Bool) : ∃ ks' : List (List Int), ks'.Perm ks ∧ ks'.map rowD = ds.mergeSort le := perm_lift rowD ((List.mergeSort_perm ds le).trans h) ks rfl
/-- the rows whose tuples stand at these places -/
def Rt (H : Hp) (L : List (Addr × List Int)) : Prop := ∀ q ∈ L, H q.1 = some (.tup (q.2.map V.int))
abbrev rv (L : List (Addr × List Int)) : List V := L.map fun q => V.ref q.1
/-- sorted(dict), its keys tuples of ints: the same in some order -/
def rSrtD : List V → Hp → VK → Prop := fun xs H Q => ∃ (r : Addr) (kvs : List (List L2.Key × V)) (ks : List (List Int)), xs = [.ref r] ∧ H r = some (.dT kvs) ∧ kvs.map (·.1) = ks.map (·.map Sum.inl) ∧ Srt (ks.map rowD) ∧
  ∀ (p : Addr) (L : List (Addr × List Int)), (L.map (·.2)).Perm ks → Rt H L → H p = none → Q (.ref p) (upd H p (.lst (rv L)))
theorem keys_at {H : Hp} : ∀ {kvs : List (List L2.Key × V)} {bs : List Addr} {ks : List (List Int)}, L2.IsKeys H kvs bs → kvs.map (·.1) = ks.map (·.map Sum.inl) → (bs.zip ks).map (·.1) = bs ∧ (bs.zip ks).map (·.2) = ks ∧ Rt H (bs.zip ks)
  | [], _, [], h, _ => by cases h; exact ⟨rfl, rfl, fun _ h => by cases h⟩
  | [], _, _ :: _, _, e => by simp at e
  | _ :: _, _, [], _, e => by simp at e
  | kv :: kvs, _, k :: ks, h, e => by
    cases h with
    | @cons _ b _ bs h1 h2 =>
      rw [List.map_cons, List.map_cons] at e
      injection e with e1 e2
      obtain ⟨i1, i2, i3⟩ := keys_at h2 e2
      refine ⟨by rw [List.zip_cons_cons, List.map_cons, i1], by rw [List.zip_cons_cons, List.map_cons, i2], fun q hq => ?_⟩
      rw [List.zip_cons_cons] at hq
      rcases List.mem_cons.mp hq with rfl | hq
      · show H b = some (.tup (k.map V.int))
        rw [h1, e1, List.map_map]
        rfl
      · exact i3 q hq
theorem rt_dp {K : Fg} {H : Hp} {L : List (Addr × List Int)} (h : Rt H L) : ∀ q ∈ L, Dp K H (V.ref q.1) (rowD q.2) := fun q hq => .tup (SqT.of (h q hq)) DpAll.ofInts
theorem call_srtD (hc : X.calm = true) (hu : X.A.units + 64 < cLine) : CallR X (.builtin "sorted") rSrtD := by
  intro pins s σ H xs us Q I r h
  obtain ⟨d, kvs, ks, rfl, hd, hk, S, q⟩ := h
  rw [Vals.ref1 r]
  obtain ⟨z, hs, kz, pr, o, es, ep, ho, hx, hdt, he, hn⟩ := (show ObjOk X.prog X.w H s.heap d (.dT kvs) from I.hok d _ hd)
  have l1 : es.size = kz.length := size_of_entries he
  have l2 : kvs.length = kz.length := Paired.length pr
  obtain ⟨z1, z2, z3⟩ := keys_at (isKeys_of pr) hk
  have e5 : ((kz.map fun x => x.2.1).zip ks).map (fun q : Addr × List Int => rowD q.2) = ks.map rowD := by
    have e : ((kz.map fun x => x.2.1).zip ks).map (fun q : Addr × List Int => rowD q.2) = (((kz.map fun x => x.2.1).zip ks).map (·.2)).map rowD := by rw [List.map_map]; rfl
    rw [e, z2]
  refine sorted_core I (val := fun q : Addr × List Int => V.ref q.1) (enc := fun q => rowD q.2) (bs := (kz.map fun x => x.2.1).zip ks) (by rw [e5]; exact S) (rt_dp z3) hu (fun R E hR => gather (kdl_raw hs hx hdt) (I.ok.hd hc) ho (by omega) fun h' tk acc hp k1 it => ?_) fun p bs' pm hn' => ?_
  · have ea : acc.toList = (kz.map fun x => x.2.1).map Value.ref := by
      have hl : acc.toList.length = kz.length := by rw [Array.length_toList, it.1]; exact l1
      apply List.ext_getElem?
      intro j
      rw [List.map_map, List.getElem?_map]
      cases hj : acc.toList[j]? with
      | none =>
        have h1 := List.getElem?_eq_none_iff.mp hj
        rw [List.getElem?_eq_none (by omega)]
        rfl
      | some v =>
        obtain ⟨en, hen, hv⟩ := it.2 j v (by rw [← Array.getElem?_toList]; exact hj)
        have qe := entry_at he j
        rw [hen] at qe
        cases hb : kz[j]? with
        | none => rw [hb] at qe; exact nomatch (show some en = none from qe)
        | some b =>
          rw [hb] at qe
          have e2 : en = entryOfKey (tupleKind (mixKind X.prog X.w)) b := Option.some.inj qe
          rw [hv, e2]
          rfl
    refine hR _ _ _ hp k1 rfl rfl (List.Perm.refl _) ?_
    have e3 : ((kz.map fun x => x.2.1).zip ks).map (fun q : Addr × List Int => V.ref q.1) = (kz.map fun x => x.2.1).map V.ref := by
      have e4 : ((kz.map fun x => x.2.1).zip ks).map (fun q : Addr × List Int => V.ref q.1) = (((kz.map fun x => x.2.1).zip ks).map (·.1)).map V.ref := by rw [List.map_map]; rfl
      rw [e4, z1]
    rw [e3, ea]
    exact vals_refs _
  · refine q p bs' ?_ (fun x hx => z3 x (pm.mem_iff.mp hx)) hn'
    have := pm.map Prod.snd
    rwa [z2] at this
theorem srt_rows {rows : List (List Int)} (h : ∀ r ∈ rows, r ≠ []) (hz : rows.length ≤ 100000) : Srt (rows.map rowD) where
  nl := nl_all nl_row _
  al := AllAlike.of fun a b => by
    show PySem.W.alike (.tuple _) (.tuple _) = true
    simp only [PySem.W.alike]
    exact PySem.W.alike_ints a b
  so := .inl fun d hd => by
    obtain ⟨r, hr, rfl⟩ := List.mem_map.mp hd
    cases r with
    | nil => exact absurd rfl (h [] hr)
    | cons x xs => exact ⟨_, _, rfl⟩
  dp := fun d hd => by
    obtain ⟨r, hr, rfl⟩ := List.mem_map.mp hd
    show PyData.depth (.tuple _) ≤ 30
    simp only [PyData.depth, PySem.W.depth_ints]
    omega
  ln := by rw [List.length_map]; exact hz
/-- sorted(set), its members tuples of ints: the same in some order -/
def rSrtS (P : Program) (w : World) : List V → Hp → VK → Prop := fun xs H Q => ∃ (a : Addr) (L : List (Addr × List Int)), xs = [V.ref a] ∧ H a = some (SetTO P w a L) ∧ Rt H L ∧ (∀ q ∈ L, q.2 ≠ []) ∧
  ∀ p L', L'.Perm L → (L.map (·.2)).Nodup → H p = none → Q (.ref p) (upd H p (.lst (rv L')))
theorem call_srtS (hc : X.calm = true) (hu : X.A.units + 64 < cLine) : CallR X (.builtin "sorted") (rSrtS X.prog X.w) := by
  intro pins s σ H xs us Q I r h
  obtain ⟨a, L, rfl, ha, hk, hne, q⟩ := h
  have R0 : SetT0 X.prog X.w s.heap a L := (I.hok a _ ha).1
  obtain ⟨es, ep, t, R⟩ := R0.full fun p hp => I.isT (SqT.of (hk p hp))
  rw [Vals.ref1 r]
  obtain ⟨o, ho, hex, hd⟩ := R.ob
  have hsz := R.size
  have hfew := R.few
  have S : Srt ((L.map (fun q : Addr × List Int => q.2)).map rowD) := srt_rows (fun r hr => by
    obtain ⟨q, hq, rfl⟩ := List.mem_map.mp hr
    exact hne q hq) (by rw [List.length_map]; omega)
  refine sorted_core I (val := fun q : Addr × List Int => V.ref q.1) (enc := fun q => rowD q.2) (bs := L) (by rw [List.map_map] at S; exact S) (rt_dp hk) hu (fun Rc E hR => L2.collect_set (A := X.A.in1) (I.ok.hd hc) ⟨o, ho, hex.1, hd⟩ R.fits (by unfold scanBound; omega) R.tab.ris R.led fun s1 vs k1 hz g1 o1 pm => ?_) fun p bs' pm hn' => q p bs' pm R.nd hn'
  have hes : es.toList.map (·.2) = L.map fun q => Value.ref q.1 := by
    rw [R.rows]
    unfold rowsOf
    rw [List.map_map]
    rfl
  rw [hes] at pm
  obtain ⟨L', pL, e'⟩ := perm_lift (fun q : Addr × List Int => Value.ref q.1) pm L rfl
  refine hR s1 vs L' hz k1 g1 o1 pL ?_
  rw [← e']
  exact vals_of_refs L'
end
theorem kSrtL {X : Cx} {K : Fg} (hK : X.K = K) (hu : X.A.units + 64 < cLine) : CallR X (.builtin "sorted") (rSrtL K) := hK ▸ call_srtL hu
theorem kSrtD {X : Cx} (hc : X.calm = true) (hu : X.A.units + 64 < cLine) : CallR X (.builtin "sorted") rSrtD := call_srtD hc hu
theorem kSrtS {X : Cx} {P : Program} {w : World} (hP : X.prog = P) (hw : X.w = w) (hc : X.calm = true) (hu : X.A.units + 64 < cLine) : CallR X (.builtin "sorted") (rSrtS P w) := hP ▸ hw ▸ call_srtS hc hu
theorem kSetT {X : Cx} {K : Fg} {P : Program} {w : World} (hK : X.K = K) (hP : X.prog = P) (hw : X.w = w) (hc : X.calm = true) (hu : X.A.units + 64 < cLine) : CallR X (.type "set") (rSetOfT K P w) := hK ▸ hP ▸ hw ▸ cr_setOfT hc hu
end NS
set_option Elab.async false
set_option linter.all false
set_option maxRecDepth 100000
set_option maxHeartbeats 4000000
namespace NS
open PySem PySem.Spec PyProof.Rows L2
open PySem.W (EachIs AllAlike Sortable dataLe)
open Evl (Ex)
section
variable {K : Fg} {σ : L2.St} {H H' : Hp} {ta tb te : TE} {ds es : List PyData}
theorem en_srtL (h : EvD K ta σ H (.list ds)) (S : Srt ds) : EvN K (tCB (rSrtL K) (tCons ta tNil)) σ H (ds.mergeSort (dataLe false id)) := en_cb (ea1 h) fun vs H2 _ hv Q q => by
  obtain ⟨x, rfl, hx⟩ := dpAll1 hv
  obtain ⟨p, xs, rfl, _, _⟩ := id hx.list_inv
  exact ⟨p, ds, rfl, hx, S, fun r ws hr hws => q r ws _ hr (Ex.new hr) upd_same (hws.ex (Ex.new hr))⟩
end
section
variable {P : Program} {w : World} {K : Fg} {mg : Str → Option Value} {base : Heap}
/-! ### _law_pick -/
theorem sc_L_pick : FnScope ["_law_row", "_law_columns", "_law_column"] ["_law_row", "_law_columns"] (defScope s_L_pick) := ⟨rfl, rfl, rfl, by decide +kernel, rfl, by decide +kernel, by decide +kernel⟩
def spLPick (K : Fg) : Sp := spF (α := List Int × List Nat) K (fun a => [rowD a.1, cols a.2]) (fun a => a.2.length ≤ 100000 ∧ ∀ c ∈ a.2, c < a.1.length) (fun a => rowD (pk a.1 a.2))
theorem ed_ixR {σ : L2.St} {H : Hp} {ta tb : TE} {r : List Int} {c : Nat} (ha : EvD K ta σ H (rowD r)) (hb : EvD K tb σ H (nI c)) (hc : c < r.length) : EvD K (tOp (rIx K) ta tb) σ H (.int (r.getD c 0)) := by
  refine ed_ixT ha hb ?_
  rw [List.getElem?_map, List.getD_eq_getElem?_getD, List.getElem?_eq_getElem hc]
  rfl
theorem ok_L_pick (T : Txt K mg) : Good P w K mg base 1 "_law_pick" ["_law_row", "_law_columns"] (spLPick K) := by
  refine good_of (q := "_law_pick") (st := s_L_pick) (N := ["_law_row", "_law_columns", "_law_column"]) T.g__law_pick (T.def_ 33) sc_L_pick (fun _ _ _ _ _ _ us hl => match us, hl with | [_, _], _ => rfl) (len_spF fun _ => rfl) fun cdv A outer s H vs Q E hr h =>
    ⟨_, (pss_one (ps_ret (kTuple (K := K) rfl rfl T.tuple0 (pe_lc (own := [("_law_column", 2)]) (g := gName 2) rfl sc_L_pick.nd (kSq (K := K) rfl (pv 1)) (blkOk_by (by kernel_rfl)) (fun _ _ _ _ _ => (pg_name (i := 2) sc_L_pick.nd rfl (by first | exact Or.inl rfl | exact Or.inr rfl))) (fun _ _ _ _ _ => pts_nil) (fun _ _ _ _ _ => (pe_ix (kIx (K := K) rfl) (pv 0) (pv 2) (fun _ _ => rfl))))))), ?_⟩
  obtain ⟨⟨row, cs⟩, hv, ⟨hz, hp⟩, q⟩ := h
  obtain ⟨x, y, rfl, hx, hy⟩ := dpAll2 hv
  refine s_ret (ed_tupR (en_lcM (as := cs) (enc := nI) (fun c => .int (row.getD c 0)) (es_sqT (ed_var rfl hy)) hz (fun _ _ => rfl) ?_)) fun v H1 e hv => q v H1 e hv
  intro c hc z H1 e hz'
  exact ⟨_, tgt_name, rfl, ed_ixR (ed_var rfl (hx.ex e)) (ed_var rfl hz') (hp c hc)⟩
/-! ### _law_unlike -/
theorem sc_L_unlike : FnScope ["_law_rows_here", "_law_dependency", "_law_one", "_law_other", "_law_column"] ["_law_rows_here", "_law_dependency"] (defScope s_L_unlike) := ⟨rfl, rfl, rfl, by decide +kernel, rfl, by decide +kernel, by decide +kernel⟩
/-- not less at any column that is settled -/
def NL (d : Dep) (one other : List Int) : Prop := pk one d.l = pk other d.l → ∀ c ∈ d.r, ¬ one.getD c 0 < other.getD c 0
def spUnlike (K : Fg) : Sp := fun vs H Q _ => ∃ (vr vd : V) (n : Nat) (rows : List (List Int)) (d : Dep), vs = [vr, vd] ∧ n ≤ 100 ∧ Dp K H vr (.list (rows.map rowD)) ∧ Dp K H vd (depD d) ∧ (∀ r ∈ rows, r.length = n) ∧ OkD n d ∧
  (∀ H', Ex H H' → (∀ one ∈ rows, ∀ other ∈ rows, NL d one other) → Q .non H') ∧
  (∀ v H' one other c, Ex H H' → one ∈ rows → other ∈ rows → pk one d.l = pk other d.l → c ∈ d.r → one.getD c 0 < other.getD c 0 → Dp K H' v (.tuple [.int (one.getD c 0), .int (other.getD c 0)]) → Q v H')
theorem all_snoc {α : Type} {as : List α} {i : Nat} {a : α} {p : α → Prop} (h : as[i]? = some a) (h1 : ∀ x ∈ as.take i, p x) (h2 : p a) : ∀ x ∈ as.take (i + 1), p x := fun x hx => by
  rw [take_snoc h] at hx
  rcases List.mem_append.mp hx with q | q
  · exact h1 x q
  · rw [List.mem_singleton.mp q]; exact h2
theorem ok_L_unlike (T : Txt K mg) : Good P w K mg base 2 "_law_unlike" ["_law_rows_here", "_law_dependency"] (spUnlike K) := by
  refine good_of (q := "_law_unlike") (st := s_L_unlike) (N := ["_law_rows_here", "_law_dependency", "_law_one", "_law_other", "_law_column"]) T.g__law_unlike (T.def_ 34) sc_L_unlike (fun _ _ _ _ _ _ us hl => match us, hl with | [_, _], _ => rfl) (fun vs H Q E h => by obtain ⟨_, _, _, _, _, rfl, _⟩ := h; rfl) fun cdv A outer s H vs Q E hr h =>
    ⟨_, (pss_cons (ps_for PassesOwn.never rfl (kSq (K := K) rfl (pv 0)) (pg_name (i := 2) sc_L_unlike.nd rfl (by first | exact Or.inl rfl | exact Or.inr rfl)) (pss_one (ps_for PassesOwn.never rfl (kSq (K := K) rfl (pv 0)) (pg_name (i := 3) sc_L_unlike.nd rfl (by first | exact Or.inl rfl | exact Or.inr rfl)) (pss_one (ps_if (pt_cmpR (kEq (K := K) rfl (room64 hr)) (pe_callG (ok_L_pick (P := P) (w := w) (base := base) T) (hr.mono (by decide)) rfl (pa_cons (pv 2) (pa_cons (pe_ix (kIx (K := K) rfl) (pv 1) pe_int (fun _ _ => rfl)) pa_nil))) (pe_callG (ok_L_pick (P := P) (w := w) (base := base) T) (hr.mono (by decide)) rfl (pa_cons (pv 3) (pa_cons (pe_ix (kIx (K := K) rfl) (pv 1) pe_int (fun _ _ => rfl)) pa_nil))) (nomark _)) (pss_one (ps_for PassesOwn.never rfl (kSq (K := K) rfl (pe_ix (kIx (K := K) rfl) (pv 1) pe_int (fun _ _ => rfl))) (pg_name (i := 4) sc_L_unlike.nd rfl (by first | exact Or.inl rfl | exact Or.inr rfl)) (pss_one (ps_if (pt_cmpR op_lt (pe_ix (kIx (K := K) rfl) (pv 2) (pv 4) (fun _ _ => rfl)) (pe_ix (kIx (K := K) rfl) (pv 3) (pv 4) (fun _ _ => rfl)) (nomark _)) (pss_one (ps_ret (pe_tup (pa_cons (pe_ix (kIx (K := K) rfl) (pv 2) (pv 4) (fun _ _ => rfl)) (pa_cons (pe_ix (kIx (K := K) rfl) (pv 3) (pv 4) (fun _ _ => rfl)) pa_nil))))) pss_nil)))) pss_nil)))))
        (pss_one (ps_ret pe_non))), ?_⟩
  obtain ⟨vr, vd, n, rows, d, rfl, hn, hr0, hd0, hlen, ok, q0, q1⟩ := h
  have hlz : d.l.length ≤ 100000 := Nat.le_trans (sub_len ok.l) (by omega)
  refine q_for (K := K) (M := []) (as := rows) (enc := rowD) (es_sqL (ed_var rfl hr0)) (fun i σ' H' => ∃ s2 s3 s4, σ' = [some vr, some vd, s2, s3, s4] ∧ ∀ one ∈ rows.take i, ∀ other ∈ rows, NL d one other) ⟨_, _, _, rfl, fun x h => by simp at h⟩ (fun _ _ _ _ h _ => h) ?_ ?_
  · rintro i one x σ1 H1 ho ⟨s2, s3, s4, rfl, hi⟩ e1 hx
    refine ⟨_, tgt_name, fun H2 e2 N hN => ?_⟩
    have e02 := e1.nil.trans e2
    have hm := List.mem_of_getElem? ho
    refine s_for (K := K) (M := []) (as := rows) (enc := rowD) (es_sqL (ed_var rfl (hr0.ex e02))) (fun j σ' H' => ∃ s3 s4, σ' = [some vr, some vd, some x, s3, s4] ∧ ∀ other ∈ rows.take j, NL d one other) ⟨_, _, rfl, fun x h => by simp at h⟩ (fun _ _ _ _ h _ => h) ?_ ?_
    · rintro j other y σ1 H3 ho2 ⟨s3, s4, rfl, hj⟩ e3 hy
      refine ⟨_, tgt_name, fun H4 e4 N2 hN2 => ?_⟩
      have hm2 := List.mem_of_getElem? ho2
      have e24 := e3.nil.trans e4
      have e04 := e02.trans e24
      have hx4 := (hx.ex e2).ex e24
      have hy4 := hy.ex e4
      have hd4 := hd0.ex e04
      have hl (r : List Int) (hr : r ∈ rows) : ∀ c ∈ d.l, c < r.length := fun c hc => by rw [hlen r hr]; exact sub_lt ok.l hc
      refine s_when (b := decide (pk one d.l = pk other d.l)) (et_test (ed_is (ed_eq (ed_call (one, d.l) (ea2 (ed_var rfl hx4) (ed_ixT (n := 2) (ed_var rfl hd4) ed_i rfl)) ⟨hlz, hl one hm⟩) (ed_call (other, d.l) (ea2 (ed_var rfl hy4) (ed_ixT (n := 2) (ed_var rfl hd4) ed_i rfl)) ⟨hlz, hl other hm2⟩) (sh_row _) (sh_row _)) (by rw [eqv_row]))) (fun hb H5 e5 => ?_) (fun hb H5 e5 => ?_)
      · have hpk := of_decide_eq_true hb
        refine s_for (K := K) (M := []) (as := d.r) (enc := nI) (es_sqT (ed_ixT (n := 3) (ed_var rfl (hd4.ex e5)) ed_i rfl)) (fun k σ' H' => ∃ s4, σ' = [some vr, some vd, some x, some y, s4] ∧ ∀ c ∈ d.r.take k, ¬ one.getD c 0 < other.getD c 0) ⟨_, rfl, fun x h => by simp at h⟩ (fun _ _ _ _ h _ => h) ?_ ?_
        · rintro k c z σ1 H6 hc ⟨s4, rfl, hk⟩ e6 hz
          refine ⟨_, tgt_name, fun H7 e7 N3 hN3 => ?_⟩
          have hcm := List.mem_of_getElem? hc
          have e57 := e6.nil.trans e7
          have hx7 := (hx4.ex e5).ex e57
          have hy7 := (hy4.ex e5).ex e57
          have hz7 := hz.ex e7
          have h1 : c < one.length := by rw [hlen one hm]; exact sub_lt ok.r hcm
          have h2 : c < other.length := by rw [hlen other hm2]; exact sub_lt ok.r hcm
          refine s_when (et_test (ed_lt (ed_ixR (ed_var rfl hx7) (ed_var rfl hz7) h1) (ed_ixR (ed_var rfl hy7) (ed_var rfl hz7) h2))) (fun hb2 H8 e8 => ?_) (fun hb2 H8 e8 => ?_)
          · refine s_ret (ed_tup (ea2 (ed_ixR (ed_var rfl (hx7.ex e8)) (ed_var rfl (hz7.ex e8)) h1) (ed_ixR (ed_var rfl (hy7.ex e8)) (ed_var rfl (hz7.ex e8)) h2)) (by simp)) fun v H9 e9 hv => ?_
            exact q1 v H9 one other c (((e04.trans e5).trans e57).trans (e8.trans e9)) hm hm2 hpk hcm (of_decide_eq_true hb2) hv
          · exact hN3 _ _ ⟨_, rfl, all_snoc hc hk (of_decide_eq_false hb2)⟩ (.of e8)
        · rintro σ1 H6 ⟨s4, rfl, hk⟩ e6
          rw [List.take_length] at hk
          exact hN2 _ _ ⟨_, _, rfl, all_snoc ho2 hj fun _ => hk⟩ (.of (e5.trans e6.nil))
      · exact hN2 _ _ ⟨_, _, rfl, all_snoc ho2 hj fun h => absurd h (of_decide_eq_false hb)⟩ (.of e5)
    · rintro σ1 H3 ⟨s3, s4, rfl, hj⟩ e3
      rw [List.take_length] at hj
      exact hN _ _ ⟨_, _, _, rfl, all_snoc ho hi hj⟩ e3
  · rintro σ1 H1 ⟨s2, s3, s4, rfl, hi⟩ e1
    rw [List.take_length] at hi
    exact s_ret (d := .none) (K := K) ed_n fun v H2 e2 hv => by rw [hv.non_inv]; exact q0 H2 (e1.nil.trans e2) hi
end
end NS
set_option Elab.async false
set_option linter.all false
set_option maxRecDepth 100000
set_option maxHeartbeats 4000000
namespace NS
open PySem PySem.Spec PyProof.Rows L2
open Evl (Ex)
section
variable {K : Fg} {σ : L2.St} {H H' : Hp} {ta tb te tk tv tr td : TE} {ds es : List PyData} {D : Ends} {tz : TS} {i j : Nat}
theorem s_dput {m : Addr} {kvs : List (L2.Key × V)} {a b : Int} (hσ : σ[i]? = some (some (.ref m))) (hm : H m = some (.dK kvs)) (hz : kvs.length < 100000) (hk : EvD K tk σ H (.int a)) (hv : EvD K tv σ H (.int b))
    (k : ∀ H1, ExB [m] H H1 → H1 m = some (.dK (putK kvs (.inl a) (.int b))) → D.nx σ H1) : sDPut (tVar i) tk tv D σ H :=
  hv H (Ex.refl H) _ fun v H1 e1 hv1 => ⟨_, hσ, hk H1 e1 _ fun y H2 e2 hy => by
    have hm2 := e2 m _ (e1 m _ hm)
    rw [hv1.int_inv, hy.int_inv]
    exact ⟨m, _, rfl, DPut.k (k := .inl a) hm2 (Evl.sz_lt hz), k _ ((ExB.of (e1.trans e2)).upd (by simp) _) upd_same⟩⟩
theorem q_dput {m : Addr} {kvs : List (L2.Key × V)} {a b : Int} (hσ : σ[i]? = some (some (.ref m))) (hm : H m = some (.dK kvs)) (hz : kvs.length < 100000) (hk : EvD K tk σ H (.int a)) (hv : EvD K tv σ H (.int b))
    (k : ∀ H1, ExB [m] H H1 → H1 m = some (.dK (putK kvs (.inl a) (.int b))) → tz D σ H1) : tSeq (sDPut (tVar i) tk tv) tz D σ H := s_dput (D := Dz D tz) hσ hm hz hk hv k
theorem q_mov {v : V} (hσ : σ[j]? = some (some v)) (k : tz D (σ.set i (some v)) H) : tSeq (tAsg (tVar j) (gName i)) tz D σ H := ⟨v, hσ, k⟩
theorem q_asgX (h : te σ H fun x H1 => tz D (σ.set i (some x)) H1) : tSeq (tAsg te (gName i)) tz D σ H := h
theorem s_asgX (h : te σ H fun x H1 => D.nx (σ.set i (some x)) H1) : tAsg te (gName i) D σ H := h
theorem ed_intB {b : Bool} (h : EvD K te σ H (.bool b)) : EvD K (tCB (fun xs H Q => (∃ i, xs = [.int i] ∧ Q (.int i) H) ∨ ∃ k, xs = [.bl k] ∧ Q (.int (if k then 1 else 0)) H) (tCons te tNil)) σ H (nI (if b then 1 else 0)) := ed_cb (ea1 h) fun vs H2 _ hv Q q => by
  obtain ⟨x, rfl, hx⟩ := dpAll1 hv
  rw [hx.bl_inv]
  refine .inr ⟨b, rfl, q _ H2 (Ex.refl _) ?_⟩
  cases b
  · exact .int _
  · exact .int _
/-- what _law_unlike answers -/
def PairOk (K : Fg) (d : Dep) (rows : List (List Int)) (H : Hp) (v : V) : Prop := (v = .non ∧ ∀ one ∈ rows, ∀ other ∈ rows, NL d one other) ∨
  ∃ (one other : List Int) (c : Nat), one ∈ rows ∧ other ∈ rows ∧ c ∈ d.r ∧ one.getD c 0 < other.getD c 0 ∧ Dp K H v (.tuple [.int (one.getD c 0), .int (other.getD c 0)])
theorem PairOk.keep {d : Dep} {rows : List (List Int)} {v : V} {M : List Addr} (h : PairOk K d rows H v) (m : MutS H M) (e : ExB M H H') : PairOk K d rows H' v := by
  rcases h with h | ⟨one, other, c, h1, h2, h3, h4, h5⟩
  · exact .inl h
  · exact .inr ⟨one, other, c, h1, h2, h3, h4, h5.keep m e rfl⟩
theorem PairOk.ex {d : Dep} {rows : List (List Int)} {v : V} (h : PairOk K d rows H v) (e : Ex H H') : PairOk K d rows H' v := h.keep MutS.nil (.of e)
theorem x_unlike {n : Nat} {rows : List (List Int)} {d : Dep} {Q : VK} {E : XK} (hr : EvD K tr σ H (.list (rows.map rowD))) (hd : EvD K td σ H (depD d)) (hn : n ≤ 100) (hl : ∀ r ∈ rows, r.length = n) (ok : OkD n d)
    (q : ∀ v H', Ex H H' → PairOk K d rows H' v → Q v H') : tCall (spUnlike K) [] E (tCons tr (tCons td tNil)) σ H Q := (ea2 hr hd) H (Ex.refl H) _ fun vs H1 e1 hv => by
  obtain ⟨x, y, rfl, hx, hy⟩ := dpAll2 hv
  exact ⟨x, y, n, rows, d, rfl, hn, hx, hy, hl, ok, fun H' e h => q _ H' (e1.trans e) (.inl ⟨rfl, h⟩), fun v H' one other c e h1 h2 _ h3 h4 h5 => q v H' (e1.trans e) (.inr ⟨one, other, c, h1, h2, h3, h4, h5⟩)⟩
theorem et_notN {v : V} (hσ : σ[i]? = some (some v)) : Evl.EvT (tTest (tOp (fun x y H Q => y = .non ∧ Q (.bl (!decide (x = .non))) H) (tVar i) (tC .non))) σ H (!decide (v = .non)) := fun H1 e Q q =>
  ⟨v, hσ, rfl, _, rfl, q H1 (Ex.refl H1)⟩
end
/-! ### counts of the values that are there -/
theorem filter_lt {α : Type} {p q : α → Bool} : ∀ {l : List α}, (∀ x ∈ l, p x = true → q x = true) → (∃ x ∈ l, q x = true ∧ p x = false) → (l.filter p).length < (l.filter q).length
  | [], _, ⟨_, h, _⟩ => by cases h
  | a :: l, h, ⟨x, hx, h1, h2⟩ => by
    have le : (l.filter p).length ≤ (l.filter q).length := by
      clear h1 h2 hx
      induction l with
      | nil => exact Nat.le_refl _
      | cons b l ih =>
        have hb := h b (by simp)
        have ih := ih fun y hy => h y (by rcases List.mem_cons.mp hy with r | r <;> simp [r])
        by_cases pb : p b = true
        · rw [List.filter_cons, if_pos pb, List.filter_cons, if_pos (hb pb)]
          simpa using ih
        · rw [List.filter_cons, if_neg pb, List.filter_cons]
          by_cases qb : q b = true
          · rw [if_pos qb, List.length_cons]; omega
          · rw [if_neg qb]; exact ih
    rcases List.mem_cons.mp hx with rfl | hx
    · rw [List.filter_cons, if_neg (by rw [h2]; simp), List.filter_cons, if_pos h1, List.length_cons]
      omega
    · have ih := filter_lt (l := l) (fun y hy => h y (List.mem_cons_of_mem _ hy)) ⟨x, hx, h1, h2⟩
      have ha := h a (List.mem_cons_self ..)
      by_cases pa : p a = true
      · rw [List.filter_cons, if_pos pa, List.filter_cons, if_pos (ha pa)]
        simpa using ih
      · rw [List.filter_cons, if_neg pa, List.filter_cons]
        by_cases qa : q a = true
        · rw [if_pos qa, List.length_cons]; omega
        · rw [if_neg qa]; exact ih
def cnt (rows : List (List Int)) : Nat := ((List.range 3).filter fun (v : Nat) => rows.any fun r => decide ((v : Int) ∈ r)).length
theorem cnt_le (rows : List (List Int)) : cnt rows ≤ 3 := Nat.le_trans (List.length_filter_le _ _) (by simp)
def sub (a b : Int) (r : List Int) : List Int := r.map fun x => if x = a then b else x
theorem mem_sub {a b x : Int} {r : List Int} (h : x ∈ sub a b r) (ne : a ≠ b) : x ≠ a ∧ (x = b ∨ x ∈ r) := by
  obtain ⟨y, hy, rfl⟩ := List.mem_map.mp h
  by_cases e : y = a
  · rw [if_pos e]; exact ⟨fun h => ne h.symm, .inl rfl⟩
  · rw [if_neg e]; exact ⟨e, .inr hy⟩
/-- rows of n values from 0 to 2 -/
structure Rw3 (n : Nat) (rows : List (List Int)) : Prop where
  len : ∀ r ∈ rows, r.length = n
  val : ∀ r ∈ rows, ∀ x ∈ r, 0 ≤ x ∧ x < 3
theorem cnt_sub {rows fs : List (List Int)} {a b : Int} {n : Nat} (R : Rw3 n rows) {ra rb : List Int} (ha : ra ∈ rows) (ha' : a ∈ ra) (hb : rb ∈ rows) (hb' : b ∈ rb) (ne : a ≠ b) (h : ∀ r ∈ fs, ∃ r0 ∈ rows, r = sub a b r0) : cnt fs < cnt rows := by
  refine filter_lt (fun v hv pv => ?_) ⟨a.toNat, ?_, ?_, ?_⟩
  · obtain ⟨r, hr, hx⟩ := List.any_eq_true.mp pv
    obtain ⟨r0, hr0, rfl⟩ := h r hr
    obtain ⟨_, hx⟩ := mem_sub (of_decide_eq_true hx) ne
    refine List.any_eq_true.mpr ?_
    rcases hx with hx | hx
    · exact ⟨rb, hb, by rw [hx]; exact decide_eq_true hb'⟩
    · exact ⟨r0, hr0, decide_eq_true hx⟩
  · have := R.val ra ha a ha'
    exact List.mem_range.mpr (by omega)
  · have := R.val ra ha a ha'
    refine List.any_eq_true.mpr ⟨ra, ha, decide_eq_true ?_⟩
    rw [Int.toNat_of_nonneg this.1]; exact ha'
  · have := R.val ra ha a ha'
    refine Bool.eq_false_iff.mpr fun q => ?_
    obtain ⟨r, hr, hx⟩ := List.any_eq_true.mp q
    obtain ⟨r0, hr0, rfl⟩ := h r hr
    have hx := of_decide_eq_true hx
    rw [Int.toNat_of_nonneg this.1] at hx
    exact (mem_sub hx ne).1 rfl
theorem Rw3.sub {n : Nat} {rows fs : List (List Int)} {a b : Int} (R : Rw3 n rows) {rb : List Int} (hb : rb ∈ rows) (hb' : b ∈ rb) (h : ∀ r ∈ fs, ∃ r0 ∈ rows, r = NS.sub a b r0) : Rw3 n fs := by
  refine ⟨fun r hr => ?_, fun r hr x hx => ?_⟩
  · obtain ⟨r0, h0, rfl⟩ := h r hr
    unfold NS.sub
    rw [List.length_map]
    exact R.len r0 h0
  · obtain ⟨r0, h0, rfl⟩ := h r hr
    obtain ⟨y, hy, rfl⟩ := List.mem_map.mp hx
    by_cases e : y = a
    · rw [if_pos e]; exact R.val rb hb b hb'
    · rw [if_neg e]; exact R.val r0 h0 y hy
theorem getD_mem {r : List Int} {c : Nat} (h : c < r.length) : r.getD c 0 ∈ r := by
  rw [getD_of h]
  exact List.getElem_mem h
section
variable {P : Program} {w : World} {K : Fg} {mg : Str → Option Value} {base : Heap}
/-! ### _law_chase -/
theorem sc_L_chase : FnScope ["_law_width", "_law_book", "_law_rows_here", "_law_became", "_law_changed", "_law_dependency", "_law_pair", "_law_more", "_law_fresh", "_law_row", "_law_new", "_law_value"] ["_law_width", "_law_book", "_law_rows_here"] (defScope s_L_chase) := ⟨rfl, rfl, rfl, by decide +kernel, rfl, by decide +kernel, by decide +kernel⟩
theorem eqv_str (x : Str) : PyData.eqv (.str x) (.str x) = true := by simp [PyData.eqv]
theorem ed_kind {σ : L2.St} {H : Hp} {te : TE} {d : Dep} (h : EvD K te σ H (depD d)) : EvD K (tOp (rEqD K) (tOp (rIx K) te (tC (.int 0))) (tC (.str "settles"))) σ H (.bool true) :=
  ed_is (ed_eq (ed_ixT (n := 0) h ed_i rfl) ed_s (shaped_of_plain (k := 0) (by decide +kernel)) (shaped_of_plain (k := 0) (by decide +kernel))) (by rw [eqv_str])
def spLChase (K : Fg) : Sp := fun vs H Q _ => ∃ (vw vb vr : V) (n : Nat) (B : Book) (rows : List (List Int)), vs = [vw, vb, vr] ∧ n ≤ 100 ∧ OkB n B ∧ rows.length ≤ 1000 ∧ Rw3 n rows ∧ Dp K H vb (.tuple (B.map depD)) ∧ Dp K H vr (.list (rows.map rowD)) ∧
  ∀ t r m rows' kvs H', Ex H H' → H' t = some (.tup [.ref r, .ref m]) → H' m = some (.dK kvs) → Lst K H' r (rows'.map rowD) → rows'.length ≤ rows.length → Rw3 n rows' → (∀ d ∈ B, ∀ one ∈ rows', ∀ other ∈ rows', NL d one other) → Q (.ref t) H'
theorem ok_L_chase (T : Txt K mg) : Good P w K mg base 3 "_law_chase" ["_law_width", "_law_book", "_law_rows_here"] (spLChase K) := by
  refine good_of (q := "_law_chase") (st := s_L_chase) (N := ["_law_width", "_law_book", "_law_rows_here", "_law_became", "_law_changed", "_law_dependency", "_law_pair", "_law_more", "_law_fresh", "_law_row", "_law_new", "_law_value"]) T.g__law_chase (T.def_ 35) sc_L_chase (fun _ _ _ _ _ _ us hl => match us, hl with | [_, _, _], _ => rfl) (fun vs H Q E h => by obtain ⟨_, _, _, _, _, _, rfl, _⟩ := h; rfl) fun cdv A outer s H vs Q E hr h =>
    ⟨_, (pss_cons (ps_set (i := 2) sc_L_chase.nd rfl (by first | exact Or.inl rfl | exact Or.inr rfl) (pe_callTy (kList (K := K) rfl) rfl T.list0 PyProof.Rows.boot_list (pa_cons (pv 2) pa_nil)))
        (pss_cons (ps_set (i := 3) sc_L_chase.nd rfl (by first | exact Or.inl rfl | exact Or.inr rfl) pe_dnewK)
        (pss_cons (ps_set (i := 4) sc_L_chase.nd rfl (by first | exact Or.inl rfl | exact Or.inr rfl) pe_bl)
        (pss_cons (ps_while PassesOwn.never (pt_val (pv 4)) (pss_cons (ps_set (i := 4) sc_L_chase.nd rfl (by first | exact Or.inl rfl | exact Or.inr rfl) pe_bl)
        (pss_one (ps_for PassesOwn.never rfl (kSq (K := K) rfl (pv 1)) (pg_name (i := 5) sc_L_chase.nd rfl (by first | exact Or.inl rfl | exact Or.inr rfl)) (pss_one (ps_if (pt_cmpR (kEq (K := K) rfl (room64 hr)) (pe_ix (kIx (K := K) rfl) (pv 5) pe_int (fun _ _ => rfl)) pe_str (nomark _)) (pss_cons (ps_set (i := 6) sc_L_chase.nd rfl (by first | exact Or.inl rfl | exact Or.inr rfl) (pe_callG (ok_L_unlike (P := P) (w := w) (base := base) T) (hr.mono (by decide)) rfl (pa_cons (pv 2) (pa_cons (pv 5) pa_nil))))
        (pss_one (ps_while PassesOwn.never (pt_cmpR op_notN (pv 6) pe_non (nomark _)) (pss_cons (ps_set (i := 4) sc_L_chase.nd rfl (by first | exact Or.inl rfl | exact Or.inr rfl) pe_bl)
        (pss_cons (ps_dput (room1 hr) (pv 3) (pe_ix (kIx (K := K) rfl) (pv 6) pe_int (fun _ _ => rfl)) (pe_ix (kIx (K := K) rfl) (pv 6) pe_int (fun _ _ => rfl)) rfl)
        (pss_cons (ps_set (i := 8) sc_L_chase.nd rfl (by first | exact Or.inl rfl | exact Or.inr rfl) (pe_lst pa_nil))
        (pss_cons (ps_for PassesOwn.never rfl (kSq (K := K) rfl (pv 2)) (pg_name (i := 9) sc_L_chase.nd rfl (by first | exact Or.inl rfl | exact Or.inr rfl)) (pss_cons (ps_set (i := 10) sc_L_chase.nd rfl (by first | exact Or.inl rfl | exact Or.inr rfl) (kTuple (K := K) rfl rfl T.tuple0 (pe_lc (own := [("_law_value", 11)]) (g := gName 11) rfl sc_L_chase.nd (kSq (K := K) rfl (pv 9)) (blkOk_by (by kernel_rfl)) (fun _ _ _ _ _ => (pg_name (i := 11) sc_L_chase.nd rfl (by first | exact Or.inl rfl | exact Or.inr rfl))) (fun _ _ _ _ _ => pts_nil) (fun _ _ _ _ _ => (pe_ix (kIx (K := K) rfl) (pe_lst (pa_cons (pv 11) (pa_cons (pe_ix (kIx (K := K) rfl) (pv 6) pe_int (fun _ _ => rfl)) pa_nil))) (pe_callTy call_int1 rfl T.int0 PyProof.Rows.boot_int (pa_cons (pe_cmpR (kEq (K := K) rfl (room64 hr)) (pv 11) (pe_ix (kIx (K := K) rfl) (pv 6) pe_int (fun _ _ => rfl)) (nomark _)) pa_nil)) (fun _ _ => rfl))))))
        (pss_one (ps_if (pt_cmpR (kNin (K := K) rfl (room65 hr)) (pv 10) (pv 8) (by with_unfolding_all rfl)) (pss_one (ps_expr (kBm (K := K) rfl PySem.F.plainAttrs_list PySem.F.slot_list_append PySem.F.type_list_append mt_append (pv 8) (pa_cons (pv 10) pa_nil)))) pss_nil))))
        (pss_cons (ps_set (i := 2) sc_L_chase.nd rfl (by first | exact Or.inl rfl | exact Or.inr rfl) (pv 8))
        (pss_one (ps_set (i := 6) sc_L_chase.nd rfl (by first | exact Or.inl rfl | exact Or.inr rfl) (pe_callG (ok_L_unlike (P := P) (w := w) (base := base) T) (hr.mono (by decide)) rfl (pa_cons (pv 2) (pa_cons (pv 5) pa_nil))))))))))))) pss_never))))))
        (pss_one (ps_ret (pe_tup (pa_cons (pv 2) (pa_cons (pv 3) pa_nil))))))))), ?_⟩
  obtain ⟨vw, vb, vr, n, B, rows, rfl, hn, ok, hz, R, hb, hr0, q⟩ := h
  refine q_setL (K := K) (en_listL (ed_var rfl hr0)) fun r H1 hr e1 hl1 => ?_
  refine fun m hm => ?_
  have em := Ex.new (o := .dK []) hm
  generalize hH2 : upd H1 m (.dK []) = H2 at em
  have hm2 : H2 m = some (.dK []) := by rw [← hH2]; exact upd_same
  have nrm : r ≠ m := fun e => by
    obtain ⟨u, hu⟩ := hl1.at
    rw [e, hm] at hu
    cases hu
  refine q_set (K := K) (ed_b (b := true)) fun v H3 e3 hv3 => ?_
  cases hv3.bl_inv
  have hb3 := ((hb.ex e1).ex em).ex e3
  refine q_while (fun k σ' H' => ∃ (rows' : List (List Int)) (r : Addr) (kvs : List (L2.Key × V)) (ch : Bool) (s5 s6 s7 s8 s9 s10 s11 : Option V), σ' = [some vw, some vb, some (.ref r), some (.ref m), some (.bl ch), s5, s6, s7, s8, s9, s10, s11] ∧
      ExB [m] H3 H' ∧ H' m = some (.dK kvs) ∧ kvs.length + cnt rows' ≤ 3 ∧ r ≠ m ∧ Lst K H' r (rows'.map rowD) ∧ rows'.length ≤ rows.length ∧ Rw3 n rows' ∧ (ch = false → ∀ d ∈ B, ∀ one ∈ rows', ∀ other ∈ rows', NL d one other) ∧ k = 2 * cnt rows' + (if ch then 1 else 0))
    (m := _) ⟨rows, r, [], true, _, _, _, _, _, _, _, rfl, ExB.refl _ _, e3 m _ hm2, by simpa using cnt_le rows, nrm, (hl1.ex em).ex e3, Nat.le_refl _, R, (fun h => by cases h), rfl⟩ ?_
  rintro k σ1 H4 ⟨rows', r, kvs, ch, s5, s6, s7, s8, s9, s10, s11, rfl, e4, hm4, hcnt, nrm, hl4, hrl, R', hch, rfl⟩
  refine ⟨ch, et_B (K := K) (ed_var rfl (.bl _)), fun hct H5 e5 N hN => ?_, fun hcf H5 e5 => ?_⟩
  · subst hct
    refine q_set (K := K) (ed_b (b := false)) fun v H6 e6 hv6 => ?_
    cases hv6.bl_inv
    have t3 : Trk H3 [m] := Trk.one (e3 m _ hm2) trivial
    have e36 : ExB [m] H3 H6 := (e4.then e5).then e6
    have hb6 := hb3.keep t3.muts e36 (nl_all nl_dep B)
    have t6 : Trk H6 [m] := Trk.one (e6 m _ (e5 m _ hm4)) trivial
    refine s_for (K := K) (M := [m]) (as := B) (enc := depD) (es_tupX (ed_var rfl hb6) t6 (nl_all nl_dep B))
      (fun i σ' H' => ∃ (rows2 : List (List Int)) (r : Addr) (kvs : List (L2.Key × V)) (ch : Bool) (s5 s6 s7 s8 s9 s10 s11 : Option V), σ' = [some vw, some vb, some (.ref r), some (.ref m), some (.bl ch), s5, s6, s7, s8, s9, s10, s11] ∧
        H' m = some (.dK kvs) ∧ kvs.length + cnt rows2 ≤ 3 ∧ r ≠ m ∧ Lst K H' r (rows2.map rowD) ∧ rows2.length ≤ rows.length ∧ Rw3 n rows2 ∧ (ch = false → rows2 = rows' ∧ ∀ d ∈ B.take i, ∀ one ∈ rows', ∀ other ∈ rows', NL d one other) ∧ (ch = true → cnt rows2 < cnt rows')) ?_ ?_ ?_ ?_
    · exact ⟨rows', r, kvs, false, _, _, _, _, _, _, _, rfl, e6 m _ (e5 m _ hm4), hcnt, nrm, (hl4.ex e5).ex e6, hrl, R', (fun _ => ⟨rfl, fun d h => by simp at h⟩), fun h => by cases h⟩
    · rintro i σ1 Ha Hb ⟨rows2, r, kvs, ch, s5, s6, s7, s8, s9, s10, s11, h1, h2, h3, h4, h5, h6⟩ e
      exact ⟨rows2, r, kvs, ch, s5, s6, s7, s8, s9, s10, s11, h1, e m _ h2, h3, h4, h5.ex e, h6⟩
    · rintro i d x σ1 H7 hd ⟨rows2, r, kvs, ch, s5, s6, s7, s8, s9, s10, s11, rfl, hm7, hc7, nrm, hl7, hrl7, R7, hcf, hct⟩ e7 hx
      have okd := ok d (List.mem_of_getElem? hd)
      refine ⟨_, tgt_name, fun H8 e8 N2 hN2 => ?_⟩
      refine s_if (et_test (ed_kind (ed_var rfl (hx.ex e8)))) (fun _ H9 e9 => ?_) (fun hbad => by cases hbad)
      have e79 := e8.trans e9
      have hx9 := hx.ex e79
      -- the first pair, then the turns
      refine q_asgX (x_unlike (K := K) (ed_var rfl (hl7.ex e79).dp) (ed_var rfl hx9) hn R7.len okd fun pv HA eA hpv => ?_)
      have tA : Trk HA [m] := Trk.one (eA m _ (e79 m _ hm7)) trivial
      have hxA := hx9.ex eA
      refine s_while (fun k σ' H' => ∃ (rows3 : List (List Int)) (r : Addr) (kvs : List (L2.Key × V)) (ch : Bool) (pv : V) (s7 s8 s9 s10 s11 : Option V), σ' = [some vw, some vb, some (.ref r), some (.ref m), some (.bl ch), some x, some pv, s7, s8, s9, s10, s11] ∧
          ExB [m] HA H' ∧ H' m = some (.dK kvs) ∧ kvs.length + cnt rows3 ≤ 3 ∧ r ≠ m ∧ Lst K H' r (rows3.map rowD) ∧ rows3.length ≤ rows.length ∧ Rw3 n rows3 ∧ (ch = false → rows3 = rows' ∧ ∀ d ∈ B.take i, ∀ one ∈ rows', ∀ other ∈ rows', NL d one other) ∧ (ch = true → cnt rows3 < cnt rows') ∧
          PairOk K d rows3 H' pv ∧ k = cnt rows3)
        (m := _) ⟨rows2, r, kvs, ch, pv, _, _, _, _, _, rfl, ExB.refl _ _, eA m _ (e79 m _ hm7), hc7, nrm, (hl7.ex e79).ex eA, hrl7, R7, hcf, hct, hpv, rfl⟩ ?_
      rintro k σ2 HB ⟨rows3, r, kvs, ch, pv, s7, s8, s9, s10, s11, rfl, eB, hmB, hcB, nrmB, hlB, hrlB, RB, hcfB, hctB, hpB, rfl⟩
      refine ⟨_, et_notN rfl, fun hb HC eC N3 hN3 => ?_, fun hb HC eC => ?_⟩
      · rcases hpB with ⟨rfl, _⟩ | ⟨one, other, c, ho1, ho2, hc, hlt, hpd⟩
        · simp at hb
        · have hl1 : c < one.length := by rw [RB.len one ho1]; exact sub_lt okd.r hc
          have hl2 : c < other.length := by rw [RB.len other ho2]; exact sub_lt okd.r hc
          generalize ha : one.getD c 0 = a at hlt hpd
          generalize hb' : other.getD c 0 = b at hlt hpd
          have ha1 : a ∈ one := ha ▸ getD_mem hl1
          have hb1 : b ∈ other := hb' ▸ getD_mem hl2
          have ne : a ≠ b := by omega
          refine q_set (K := K) (ed_b (b := true)) fun v HD eD hvD => ?_
          cases hvD.bl_inv
          have hpD := (hpd.ex eC).ex eD
          have hmD := eD m _ (eC m _ hmB)
          refine q_dput (K := K) (a := a) (b := b) rfl hmD (by omega) (ed_ixT (n := 0) (ed_var rfl hpD) ed_i rfl) (ed_ixT (n := 1) (ed_var rfl hpD) ed_i rfl) fun HE eE hmE => ?_
          have tD : Trk HD [m] := Trk.one hmD trivial
          have hpE := hpD.keep tD.muts eE rfl
          have hlE := ((hlB.ex eC).ex eD).keep tD.muts eE (by simpa using nrmB) (nl_all nl_row _)
          refine q_setL (K := K) (en_lst ea_nil (by simp)) fun f HF hf eF hlf => ?_
          have nrf : r ≠ f := fun e => by
            obtain ⟨u, hu⟩ := hlE.at
            rw [e, hf] at hu
            cases hu
          have nmf : m ≠ f := fun e => by rw [← e, hmE] at hf; cases hf
          have hlF := hlE.ex eF
          refine q_for (K := K) (M := [f]) (as := rows3) (enc := rowD) (es_lstX rfl hlF (by simpa using nrf) hlf.trk (nl_all nl_row _))
            (fun j σ' H' => ∃ (fs : List (List Int)) (s9 s10 s11 : Option V), σ' = [some vw, some vb, some (.ref r), some (.ref m), some (.bl true), some x, some pv, s7, some (.ref f), s9, s10, s11] ∧ Lst K H' f (fs.map rowD) ∧ fs.length ≤ j ∧ ∀ r ∈ fs, ∃ r0 ∈ rows3, r = NS.sub a b r0)
            ⟨[], _, _, _, rfl, hlf, Nat.le_refl 0, fun _ h => by cases h⟩ (fun _ _ _ _ h e => let ⟨fs, s9, s10, s11, h1, h2, h3⟩ := h; ⟨fs, s9, s10, s11, h1, h2.ex e, h3⟩) ?_ ?_
          · rintro j r0 y σ3 HG hr0' ⟨fs, s9, s10, s11, rfl, hlG, hfl, hfs⟩ eG hy
            have hr0m := List.mem_of_getElem? hr0'
            have hj : j < rows3.length := (List.getElem?_eq_some_iff.mp hr0').1
            refine ⟨_, tgt_name, fun HH eH' N4 hN4 => ?_⟩
            have hpH := ((hpE.ex eF).keep hlf.mut eG rfl).ex eH'
            refine q_set (K := K) (d := rowD (NS.sub a b r0)) (ed_tupR (en_lcM (as := r0) (enc := PyData.int) (fun x => .int (if x = a then b else x)) (es_sqT (ed_var rfl (hy.ex eH'))) (by rw [RB.len r0 hr0m]; omega) (fun _ _ => rfl) fun z hz u HI eI hu =>
              ⟨_, tgt_name, rfl, ed_ixL (n := if decide (z = a) = true then 1 else 0) (ds := [.int z, .int b]) (EvN.toD (en_lst (ea2 (ed_var rfl hu) (ed_ixT (n := 1) (ed_var rfl (hpH.ex eI)) ed_i rfl)) (by simp))) (ed_intB (ed_is (ed_eq (ed_var rfl hu) (ed_ixT (n := 0) (ed_var rfl (hpH.ex eI)) ed_i rfl) (sh_int _) (sh_int _)) (by rw [eqv_int]))) ?_⟩)) fun nv HI eI hnv => ?_
            · by_cases e : z = a
              · simp [e]
              · simp [e]
            · have hlI := (hlG.ex eH').ex eI
              refine s_when (et_test (ed_is (ed_niL (ed_var rfl hnv) (ed_var rfl hlI.dp) (sh_row _) (sh_rowsL _)) (by rw [any_rows]))) (fun _ HJ eJ => ?_) (fun _ HJ eJ => ?_)
              · refine s_app rfl (hlI.ex eJ) (nl_all nl_row _) (nl_row (NS.sub a b r0)) (by rw [List.length_map]; omega) (ed_var rfl (hnv.ex eJ)) fun HK eK hlK => hN4 _ _ ⟨fs ++ [NS.sub a b r0], _, _, _, rfl, by rw [List.map_append]; exact hlK, by simp; omega, fun r hr => ?_⟩ ((ExB.of (eI.trans eJ)).trans eK)
                rcases List.mem_append.mp hr with h | h
                · exact hfs r h
                · exact ⟨r0, hr0m, List.mem_singleton.mp h⟩
              · exact hN4 _ _ ⟨fs, _, _, _, rfl, hlI.ex eJ, by omega, hfs⟩ (.of (eI.trans eJ))
          · rintro σ3 HG ⟨fs, s9, s10, s11, rfl, hlG, hfl, hfs⟩ eG
            have hx3 : Dp K HG x (depD d) := ((((hxA.keep tA.muts eB (nl_dep d)).ex eC).ex eD).keep tD.muts eE (nl_dep d) |>.ex eF).keep hlf.mut eG (nl_dep d)
            have Rf := RB.sub ho2 hb1 hfs
            have hdec := cnt_sub RB ho1 ha1 ho2 hb1 ne hfs
            refine q_mov rfl ?_
            refine s_asgX (x_unlike (K := K) (ed_var rfl hlG.dp) (ed_var rfl hx3) hn Rf.len okd fun pv' HH eH' hpv' => hN3 (cnt fs) _ _ hdec ⟨fs, f, putK kvs (.inl a) (.int b), true, pv', _, _, _, _, _, rfl, ?_, ?_, ?_, nmf.symm, hlG.ex eH', by omega, Rf, (fun h => by cases h), (fun _ => ?_), hpv', rfl⟩)
            · have h1 : ExB [f, m] HA HG := ((((eB.then eC).then eD).trans eE).then eF |>.mono (T := [f, m]) (by simp)).trans (eG.mono (by simp))
              have hfA : HA f = none := by
                cases hq : HA f with
                | none => rfl
                | some o =>
                  have := (((eB.then eC).then eD).trans eE) f o (by simpa using nmf.symm) hq
                  rw [hf] at this
                  cases this
              exact (h1.drop hfA).then eH'
            · exact eH' m _ (eG m _ (by simpa using nmf) (eF m _ hmE))
            · have := length_putK kvs (.inl a) (.int b)
              omega
            · cases ch with
              | true => have := hctB rfl; omega
              | false => obtain ⟨rfl, _⟩ := hcfB rfl; exact hdec
      · have hpn : pv = .non := by simpa using hb
        subst hpn
        have hset : ∀ one ∈ rows3, ∀ other ∈ rows3, NL d one other := by
          rcases hpB with ⟨_, h⟩ | ⟨_, _, _, _, _, _, _, h⟩
          · exact h
          · cases h
        refine hN2 _ _ ⟨rows3, r, kvs, ch, _, _, _, _, _, _, _, rfl, eC m _ hmB, hcB, nrmB, hlB.ex eC, hrlB, RB, (fun hcf' => ?_), hctB⟩ ((ExB.of (e9.trans eA)).trans (eB.then eC))
        obtain ⟨rfl, hall⟩ := hcfB hcf'
        exact ⟨rfl, all_snoc hd hall hset⟩
    · rintro σ1 H7 ⟨rows2, r, kvs, ch, s5, s6, s7, s8, s9, s10, s11, rfl, hm7, hc7, nrm, hl7, hrl7, R7, hcf, hct⟩ e7
      cases ch with
      | true => exact hN (2 * cnt rows2 + 1) _ _ (by have := hct rfl; simp; omega) ⟨rows2, r, kvs, true, _, _, _, _, _, _, _, rfl, e36.trans e7, hm7, hc7, nrm, hl7, hrl7, R7, (fun h => by cases h), rfl⟩
      | false =>
        obtain ⟨rfl, hall⟩ := hcf rfl
        rw [List.take_length] at hall
        exact hN (2 * cnt rows2) _ _ (by simp) ⟨rows2, r, kvs, false, _, _, _, _, _, _, _, rfl, e36.trans e7, hm7, hc7, nrm, hl7, hrl7, R7, (fun _ => hall), rfl⟩
  · refine ⟨_, rfl, _, rfl, ?_⟩
    refine ⟨by show 2 ≤ sizeLine; decide, fun t ht => ?_⟩
    have et := Ex.new (o := .tup [.ref r, .ref m]) ht
    have eH : Ex H H5 := ((ExB.out ((e1.trans em).trans e3) e4 (by simpa using Evl.fresh_back e1 hm))).trans e5
    exact q t r m rows' kvs _ (eH.trans et) upd_same (et m _ (e5 m _ hm4)) ((hl4.ex e5).ex et) hrl R' (hch hcf)
end
end NS
set_option Elab.async false
set_option linter.all false
set_option maxRecDepth 100000
set_option maxHeartbeats 4000000
namespace NS
open PySem PySem.Spec PyProof.Rows L2
open PySem.W (dataLe)
open Evl (Ex)
section
variable {P : Program} {w : World} {K : Fg} {mg : Str → Option Value} {base : Heap}
theorem x_ixT {σ : L2.St} {H : Hp} {i : Nat} {t : Addr} {vs : List V} {n : Nat} {v : V} {Q : VK} (hσ : σ[i]? = some (some (.ref t))) (ht : H t = some (.tup vs)) (hv : vs[n]? = some v) (k : Q v H) : tOp (rIx K) (tVar i) (tC (.int ((n : Nat) : Int))) σ H Q :=
  ⟨_, hσ, .inr (.inl ⟨t, vs, n, v, rfl, rfl, SqT.of ht, atI_nat hv, k⟩)⟩
/-! ### _law_rows -/
theorem sc_L_rows : FnScope ["_law_draws_here", "_law_width", "_law_book", "_law_many", "_law_rows_here", "_law_k", "_law_told", "_law_row", "_law_column"] ["_law_draws_here", "_law_width", "_law_book", "_law_many"] (defScope s_L_rows) := ⟨rfl, rfl, rfl, by decide +kernel, rfl, by decide +kernel, by decide +kernel⟩
/-- a list comprehension of draws below 3 -/
theorem x_drawRow {σ : L2.St} {H : Hp} {p : Addr} {n i j wi : Nat} {vs : List Nat} {E : XK} {Q : VK} (hn : n ≤ 100) (hp : Drs H p) (hw : σ[wi]? = some (some (.int n)))
    (hs : ∀ x : V, ((wipe σ vs).set j (some x))[i]? = some (some (.ref p))) (hwp : ∀ x : V, wipe ((wipe σ vs).set j (some x)) vs = wipe σ vs)
    (k : ∀ (v : Addr) (H' : Hp) (r : List Int), ExB [p] H H' → Drs H' p → r.length = n → (∀ x ∈ r, 0 ≤ x ∧ x < 3) → Lst K H' v (r.map .int) → Q (.ref v) H') :
    tLc (iRng1 (tCons (tVar wi) tNil)) (gName j) tYes (tCall spTake [] E (tCons (tVar i) (tCons (tC (.int 3)) tNil))) vs σ H Q := by
  refine ⟨_, hw, n, rfl, by omega, by omega, fun L hL => ?_⟩
  have npL : p ≠ L := fun e => by
    obtain ⟨is, h⟩ := hp
    rw [e, hL] at h
    cases h
  have w0 := walk_rg (K := K) (M := [p]) (H := H) n
  have wl : ((List.range n).map nI).length = n := by simp
  have w : Walk (Itr 0 n) n (ExB [p] H) (fun i Ha x Hb => Ex Ha Hb ∧ ∃ d, ((List.range n).map nI)[i]? = some d ∧ Dp K Hb x d) := by
    have w1 : Walk (Itr 0 n) ((List.range n).map nI).length (ExB [p] H) (fun i Ha x Hb => Ex Ha Hb ∧ ∃ d, ((List.range n).map nI)[i]? = some d ∧ Dp K Hb x d) := w0
    rwa [wl] at w1
  refine lc_it w (fun i' H' => ∃ r : List Int, r.length = i' ∧ (∀ x ∈ r, 0 ≤ x ∧ x < 3) ∧ Drs H' p ∧ ExB [L, p] H H' ∧ Lst K H' L (r.map .int)) ?_ (fun i' H' _ h => ?_) (fun i' x H2 H3 hi h y => ?_) (fun H2 h => ?_)
  · exact ⟨[], rfl, (fun _ h => by cases h), ⟨_, by rw [upd_ne npL]; exact hp.choose_spec⟩, (ExB.refl _ _).upd (by simp) _, [], upd_same, .nil⟩
  · obtain ⟨r, h1, h2, h3, h4, h5⟩ := h
    exact h4.drop hL
  · obtain ⟨r, h1, h2, h3, h4, h5⟩ := h
    obtain ⟨e3, _⟩ := y
    refine ⟨hwp x, ?_⟩
    simp only [tYes, if_true]
    refine x_take (K := K) (hs x) (h3.ex e3) ed_i (by decide) fun k' H4 hk0 hk1 e4 hp4 => ?_
    have hl4 : Lst K H4 L (r.map .int) := (h5.ex e3).keep (h3.ex e3).trk.muts e4 (by simpa using Ne.symm npL) (nl_all (fun _ => rfl) _)
    have e14 : ExB [L, p] H H4 := (h4.then e3).trans (e4.mono (by simp))
    obtain ⟨ws, h6, h7⟩ := id hl4
    have ee : ExB [L] H4 (upd H4 L (.lst (ws ++ [.int k']))) := (ExB.refl _ _).upd (by simp) _
    refine ⟨ws, h6, Evl.sz_lt (by rw [h7.length, List.length_map]; omega), r ++ [k'], by simp [h1], fun x hx => ?_, hp4.keep ee (by simpa using npL), e14.trans (ee.mono (by simp)), ws ++ [.int k'], upd_same, ?_⟩
    · rcases List.mem_append.mp hx with h | h
      · exact h2 x h
      · rw [List.mem_singleton.mp h]; exact ⟨hk0, hk1⟩
    · rw [List.map_append]
      exact (h7.snoc (.int _)).keep hl4.mut ee (nlAll_append.trans (by rw [nl_all (fun _ => rfl)]; rfl))
  · obtain ⟨r, h1, h2, h3, h4, h5⟩ := h
    exact k L H2 r (h4.drop hL) h3 h1 h2 h5
def spLRows (K : Fg) : Sp := fun vs H Q _ => ∃ (p : Addr) (vb : V) (n many : Nat) (B : Book), vs = [.ref p, .int n, vb, .int many] ∧ 1 ≤ n ∧ n ≤ 10 ∧ many ≤ 10 ∧ OkB n B ∧ Drs H p ∧ Dp K H vb (.tuple (B.map depD)) ∧
  ∀ v H' (rows : List (List Int)), ExB [p] H H' → rows.length ≤ many → Rw3 n rows → (∀ d ∈ B, ∀ one ∈ rows, ∀ other ∈ rows, NL d one other) → Dp K H' v (.tuple (rows.map rowD)) → Q v H'
theorem ok_L_rows (T : Txt K mg) : Good P w K mg base 4 "_law_rows" ["_law_draws_here", "_law_width", "_law_book", "_law_many"] (spLRows K) := by
  refine good_of (q := "_law_rows") (st := s_L_rows) (N := ["_law_draws_here", "_law_width", "_law_book", "_law_many", "_law_rows_here", "_law_k", "_law_told", "_law_row", "_law_column"]) T.g__law_rows (T.def_ 36) sc_L_rows (fun _ _ _ _ _ _ us hl => match us, hl with | [_, _, _, _], _ => rfl) (fun vs H Q E h => by obtain ⟨_, _, _, _, _, rfl, _⟩ := h; rfl) fun cdv A outer s H vs Q E hr h =>
    ⟨_, (pss_cons (ps_set (i := 4) sc_L_rows.nd rfl (by first | exact Or.inl rfl | exact Or.inr rfl) (pe_lst pa_nil))
        (pss_cons (ps_for PassesOwn.never rfl (pi_range1 rfl T.range0 (pa_cons (pe_callG (ok_L_take (P := P) (w := w) (base := base) T) (hr.mono (by decide)) rfl (pa_cons (pv 0) (pa_cons (pe_op (kPlus (K := K) rfl) (pv 3) pe_int) pa_nil))) pa_nil)) (pg_name (i := 5) sc_L_rows.nd rfl (by first | exact Or.inl rfl | exact Or.inr rfl)) (pss_cons (ps_set (i := 7) sc_L_rows.nd rfl (by first | exact Or.inl rfl | exact Or.inr rfl) (kTuple (K := K) rfl rfl T.tuple0 (pe_lc (own := [("_law_column", 8)]) (g := gName 8) rfl sc_L_rows.nd (pi_range1 rfl T.range0 (pa_cons (pv 1) pa_nil)) (blkOk_by (by kernel_rfl)) (fun _ _ _ _ _ => (pg_name (i := 8) sc_L_rows.nd rfl (by first | exact Or.inl rfl | exact Or.inr rfl))) (fun _ _ _ _ _ => pts_nil) (fun _ _ _ _ _ => (pe_callG (ok_L_take (P := P) (w := w) (base := base) T) (hr.mono (by decide)) rfl (pa_cons (pv 0) (pa_cons pe_int pa_nil)))))))
        (pss_one (ps_if (pt_cmpR (kNin (K := K) rfl (room65 hr)) (pv 7) (pv 4) (by with_unfolding_all rfl)) (pss_one (ps_expr (kBm (K := K) rfl PySem.F.plainAttrs_list PySem.F.slot_list_append PySem.F.type_list_append mt_append (pv 4) (pa_cons (pv 7) pa_nil)))) pss_nil))))
        (pss_cons (ps_set (i := 6) sc_L_rows.nd rfl (by first | exact Or.inl rfl | exact Or.inr rfl) (pe_callG (ok_L_chase (P := P) (w := w) (base := base) T) (hr.mono (by decide)) rfl (pa_cons (pv 1) (pa_cons (pv 2) (pa_cons (pv 4) pa_nil)))))
        (pss_cons (ps_if (pt_cmpR op_isN (pe_ix (kIx (K := K) rfl) (pv 6) pe_int (fun _ _ => rfl)) pe_non (nomark _)) pss_never pss_nil)
        (pss_one (ps_ret (kTuple (K := K) rfl rfl T.tuple0 (pe_callB (kSrtL (K := K) rfl (room64 hr)) rfl T.sorted0 PyProof.Rows.boot_sorted (pa_cons (pe_ix (kIx (K := K) rfl) (pv 6) pe_int (fun _ _ => rfl)) pa_nil))))))))), ?_⟩
  obtain ⟨p, vb, n, many, B, rfl, hn1, hn, hm, ok, hp, hb, q⟩ := h
  refine q_setL (K := K) (en_lst ea_nil (by simp)) fun r H1 hr e1 hl1 => ?_
  have hp1 := hp.ex e1
  have hb1 := hb.ex e1
  have npr : p ≠ r := fun e => by
    obtain ⟨is, h⟩ := hp
    rw [e, hr] at h
    cases h
  refine x_take (K := K) rfl hp1 (ed_addI (ed_var rfl (.int _)) ed_i) (by omega) fun k H2 hk0 hk1 e2 hp2 => ?_
  have hl2 : Lst K H2 r [] := hl1.keep hp1.trk.muts e2 (by simpa using Ne.symm npr) rfl
  have hb2 := hb1.keep hp1.trk.muts e2 (nl_all nl_dep B)
  refine ⟨k, rfl, by omega, by omega, for_rest (K := K) (M := [r, p]) (walk_rg k.toNat) (fun i σ' H' => ∃ (s5 s6 s7 s8 : Option V) (rows : List (List Int)), σ' = [some (.ref p), some (.int n), some vb, some (.int many), some (.ref r), s5, s6, s7, s8] ∧ Drs H' p ∧ Dp K H' vb (.tuple (B.map depD)) ∧ rows.length ≤ i ∧ Rw3 n rows ∧ Lst K H' r (rows.map rowD)) ?_ ?_ ?_ ?_⟩
  · exact ⟨_, _, _, _, [], rfl, hp2, hb2, Nat.le_refl 0, ⟨(fun _ h => by cases h), fun _ h => by cases h⟩, hl2⟩
  · rintro i σ1 Ha Hb ⟨s5, s6, s7, s8, rows, h1, h2, h3, h4, h5, h6⟩ e
    exact ⟨s5, s6, s7, s8, rows, h1, h2.ex e, h3.ex e, h4, h5, h6.ex e⟩
  · rintro i a x σ1 H3 ha ⟨s5, s6, s7, s8, rows, rfl, h2, h3, h4, h5, h6⟩ eM hx
    obtain ⟨rfl, hi⟩ := range_get ha
    refine ⟨_, tgt_name, fun H4 e4 N hN => ?_⟩
    have h24 := h2.ex e4
    refine q_asgX (x_drawRow (K := K) (n := n) (by omega) h24 rfl (fun _ => rfl) (fun _ => rfl) fun L H5 row e5 hp5 hrl hrv hlL => ?_)
    have h35 := (h3.ex e4).keep h24.trk.muts e5 (nl_all nl_dep B)
    have h65 := (h6.ex e4).keep h24.trk.muts e5 (by simpa using Ne.symm npr) (nl_all nl_row _)
    obtain ⟨ws, hw1, hw2⟩ := id hlL
    refine .inl ⟨L, ws, rfl, SqL.of hw1, fun t ht => ?_⟩
    have et := Ex.new (o := .tup ws) ht
    have hrow : Dp K (upd H5 t (.tup ws)) (.ref t) (rowD row) := .tup (SqT.of upd_same) (hw2.ex et)
    have h66 := h65.ex et
    refine s_when (et_test (ed_is (ed_niL (ed_var rfl hrow) (ed_var rfl h66.dp) (sh_row _) (sh_rowsL _)) (by rw [any_rows]))) (fun _ HJ eJ => ?_) (fun _ HJ eJ => ?_)
    · refine s_app rfl (h66.ex eJ) (nl_all nl_row _) (nl_row row) (by rw [List.length_map]; omega) (ed_var rfl (hrow.ex eJ)) fun HK eK hlK => hN _ _ ⟨_, _, _, _, rows ++ [row], rfl, ((hp5.ex et).ex eJ).keep eK (by simpa using npr), ((h35.ex et).ex eJ).keep (h66.ex eJ).mut eK (nl_all nl_dep B), by simp; omega, ?_, by rw [List.map_append]; exact hlK⟩ ?_
      · refine ⟨fun r hr => ?_, fun r hr => ?_⟩
        · rcases List.mem_append.mp hr with h | h
          · exact h5.len r h
          · rw [List.mem_singleton.mp h]; exact hrl
        · rcases List.mem_append.mp hr with h | h
          · exact h5.val r h
          · rw [List.mem_singleton.mp h]; exact hrv
      · exact (((e5.mono (by simp)).then et).then eJ).trans (eK.mono (by simp))
    · exact hN _ _ ⟨_, _, _, _, rows, rfl, (hp5.ex et).ex eJ, (h35.ex et).ex eJ, by omega, h5, h66.ex eJ⟩ (((e5.mono (by simp)).then et).then eJ)
  · rintro σ1 H3 ⟨s5, s6, s7, s8, rows, rfl, h2, h3, h4, h5, h6⟩ eM
    rw [List.length_range] at h4
    have hbp : ExB [r, p] H H3 := ((ExB.of e1).trans (e2.mono (by simp))).trans eM
    have hz : rows.length ≤ many := by omega
    dsimp only
    refine q_asgX ?_
    refine ⟨_, rfl, _, rfl, _, rfl, _, _, _, n, B, rows, rfl, by omega, ok, by omega, h5, h3, h6.dp, fun t r' m rows' kvs H4 e4 ht hm' hl' hlen R' hset => ?_⟩
    refine q_if (b := false) (fun Ha ea Q' q' => ?_) (fun h => by cases h) fun _ H5 e5 => ?_
    · exact x_ixT (n := 1) rfl (ea t _ ht) rfl ⟨rfl, _, rfl, q' Ha (Ex.refl Ha)⟩
    · have htr : H5 t = some (.tup [.ref r', .ref m]) := e5 t _ ht
      have hne : ∀ r ∈ rows', r ≠ [] := fun r hr e => by
        have := R'.len r hr
        rw [e] at this
        simp at this
        omega
      have hS := srt_rows hne (by omega)
      obtain ⟨ks', hperm, heq⟩ := sorted_lift (List.Perm.refl (rows'.map rowD)) (dataLe false id)
      refine s_ret (K := K) (ed_tupL (EvN.toD (en_srtL (ds := rows'.map rowD) (fun Ha ea Q' q' => x_ixT (n := 0) rfl (ea t _ htr) rfl (q' _ Ha (Ex.refl Ha) ((hl'.ex e5).ex ea).dp)) hS))) fun v H6 e6 hv => ?_
      rw [← heq] at hv
      refine q v H6 ks' (((hbp.drop ?_).then (e4.trans e5)).then e6) ?_ ?_ ?_ hv
      · exact hr
      · rw [hperm.length_eq]; omega
      · exact ⟨fun r hr => R'.len r (hperm.mem_iff.mp hr), fun r hr => R'.val r (hperm.mem_iff.mp hr)⟩
      · exact fun d hd one h1 other h2 => hset d hd one (hperm.mem_iff.mp h1) other (hperm.mem_iff.mp h2)
end
end NS
set_option Elab.async false
set_option linter.all false
set_option maxRecDepth 100000
set_option maxHeartbeats 4000000
namespace NS
open PySem PySem.Spec PyProof.Rows L2
open Evl (Ex)
theorem kIsi {X : Cx} {K : Fg} (hK : X.K = K) : CallR X (.builtin "isinstance") (rIsi K) := hK ▸ call_isi
def tyD : PyData → String
  | .none => "NoneType"
  | .bool _ => "bool"
  | .int _ => "int"
  | .str _ => "str"
  | .tuple _ => "tuple"
  | .list _ => "list"
  | .dict _ => "dict"
theorem tyD_ok {K : Fg} {H : Hp} {v : V} : ∀ {d : PyData}, nl d = true → Dp K H v d → TyX K H v (.type (tyD d))
  | .none, _, h => by cases h; exact .base .non
  | .bool _, _, h => by cases h; exact .base (.bl _)
  | .int _, _, h => by cases h; exact .base (.int _)
  | .str _, _, h => by cases h; exact .base (.str _)
  | .list _, f, _ => by simp [nl] at f
  | .dict _, f, _ => by simp [nl] at f
  | .tuple _, _, h => by
    cases h with
    | tup hs ha =>
      rcases hs with (h | ⟨o, h⟩) | ⟨o, its, n, hk, hc, _⟩
      · exact .base (.tup h)
      · exact .fTuple h
      · exact .kTuple hk hc
section
variable {K : Fg} {σ : L2.St} {H H' : Hp} {ta tb te tk tv tr td : TE} {d : PyData} {D : Ends} {tz : TS} {i j : Nat} {n : String} {b : Bool}
theorem ed_isi (h : EvD K ta σ H d) (hn : nl d = true) (hb : kitB (tyD d) n = some b) : EvD K (tCB (rIsi K) (tCons ta (tCons (tC (.ty n)) tNil))) σ H (.bool b) := fun H1 e Q q => h H1 e _ fun v H2 e2 hv =>
  ⟨v, .ty n, _, _, b, rfl, .ty n, tyD_ok hn hv, kit_ty hb, q _ H2 e2 (.bl _)⟩
theorem et_isN (h : EvD K ta σ H d) (hd : d ≠ .none) : Evl.EvT (tTest (tOp (fun x y H Q => y = .non ∧ Q (.bl (decide (x = .non))) H) ta (tC .non))) σ H false := fun H1 e Q q => h H1 e _ fun x H2 e2 hx => by
  refine ⟨rfl, _, rfl, ?_⟩
  have : decide (x = V.non) = false := decide_eq_false fun e => by
    subst e
    cases hx
    exact hd rfl
  rw [this]
  exact q H2 e2
theorem ed_callX {sp : Sp} {t : TA} {E : XK} {args : List PyData} (hA : EvA K t σ H args) (h : ∀ vs H2, Ex H H2 → DpAll K H2 vs args → ∀ Q : VK, (∀ v H3, Ex H2 H3 → Dp K H3 v d → Q v H3) → sp vs H2 Q E) : EvD K (tCall sp [] E t) σ H d := fun H1 e Q q => hA H1 e _ fun vs H2 e2 hvs => by
  rw [List.append_nil]
  exact h vs H2 (e.trans e2) hvs Q fun v H3 e3 hv => q v H3 (e2.trans e3) hv
/-- l[k] = e -/
theorem s_setI {p : Addr} {is : List Int} {k : Nat} {x : Int} (hσ : σ[i]? = some (some (.ref p))) (hp : H p = some (.lst (is.map V.int))) (hk : EvD K tk σ H (nI k)) (hl : k < is.length) (hv : EvD K tv σ H (.int x))
    (q : ∀ H1, ExB [p] H H1 → H1 p = some (.lst ((is.set k x).map V.int)) → D.nx σ H1) : tAsg tv (gSub (tVar i) tk rSetL) D σ H :=
  hv H (Ex.refl H) _ fun v H1 e1 hv1 => ⟨_, hσ, hk H1 e1 _ fun y H2 e2 hy => by
    rw [hv1.int_inv, hy.int_inv]
    have hp2 := e2 p _ (e1 p _ hp)
    refine ⟨p, _, (k : Int), k, rfl, rfl, hp2, ?_, q _ ((ExB.of (e1.trans e2)).upd (by simp) _) ?_⟩
    · unfold ixN
      rw [List.length_map, if_pos (by omega), if_pos (by omega), Int.toNat_natCast]
    · rw [upd_same, List.map_set]⟩
end
section
variable {P : Program} {w : World} {K : Fg} {mg : Str → Option Value} {base : Heap}
/-! ### _law_same -/
def sm : Nat → PyData → Bool
  | 0, _ => false
  | n + 1, .int _ => true
  | n + 1, .tuple ds => decide (ds.length ≤ 1000) && ds.all (sm n)
  | _, _ => false
theorem sc_L_same : FnScope ["_law_actual", "_law_due", "_law_k"] ["_law_actual", "_law_due"] (defScope s_L_same) := ⟨rfl, rfl, rfl, by decide +kernel, rfl, by decide +kernel, by decide +kernel⟩
theorem sm_nl : ∀ (n : Nat) (d : PyData), sm n d = true → nl d = true
  | 0, _, h => by simp [sm] at h
  | n + 1, .int _, _ => rfl
  | n + 1, .tuple ds, h => by
    simp only [sm, Bool.and_eq_true] at h
    show nlAll ds = true
    exact nlAll_iff.mpr fun d hd => sm_nl n d (List.all_eq_true.mp h.2 d hd)
  | n + 1, .none, h => by simp [sm] at h
  | n + 1, .bool _, h => by simp [sm] at h
  | n + 1, .str _, h => by simp [sm] at h
  | n + 1, .list _, h => by simp [sm] at h
  | n + 1, .dict _, h => by simp [sm] at h
def spSame (K : Fg) (n : Nat) : Sp := fun vs H Q _ => ∃ v u d, vs = [v, u] ∧ sm n d = true ∧ Dp K H v d ∧ Dp K H u d ∧ ∀ H', Ex H H' → Q (.bl true) H'
theorem ok_L_same0 (T : Txt K mg) : ∀ n, Good P w K mg base (n + 1) "_law_same" ["_law_actual", "_law_due"] (spSame K n)
  | 0 => good_of (q := "_law_same") (st := s_L_same) (N := ["_law_actual", "_law_due", "_law_k"]) T.g__law_same (T.def_ 32) sc_L_same (fun _ _ _ _ _ _ us hl => match us, hl with | [_, _], _ => rfl) (fun vs H Q E h => by obtain ⟨_, _, _, rfl, _⟩ := h; rfl) fun cdv A outer s H vs Q E hr h => by
    obtain ⟨_, _, _, _, h, _⟩ := h
    simp [sm] at h
  | n + 1 => by
    have G := ok_L_same0 T n
    refine good_of (q := "_law_same") (st := s_L_same) (N := ["_law_actual", "_law_due", "_law_k"]) T.g__law_same (T.def_ 32) sc_L_same (fun _ _ _ _ _ _ us hl => match us, hl with | [_, _], _ => rfl) (fun vs H Q E h => by obtain ⟨_, _, _, rfl, _⟩ := h; rfl) fun cdv A outer s H vs Q E hr h =>
    ⟨_, (pss_cons (ps_if (pt_val (pe_callB (kIsi (K := K) rfl) rfl T.isinstance0 boot_isinstance (pa_cons (pv 1) (pa_cons (pe_bltn (v := .ty "tuple") rfl T.tuple0 PyProof.Rows.boot_tuple rfl) pa_nil)))) (pss_cons (ps_if (PW.pt (pw_or (pt_not (pt_val (pe_callB (kIsi (K := K) rfl) rfl T.isinstance0 boot_isinstance (pa_cons (pv 0) (pa_cons (pe_bltn (v := .ty "tuple") rfl T.tuple0 PyProof.Rows.boot_tuple rfl) pa_nil))))) (pw_or1 (pt_cmpR (kNe (K := K) rfl (room64 hr)) (pe_callB (kLen (K := K) rfl) rfl T.len0 PySem.boot_len (pa_cons (pv 0) pa_nil)) (pe_callB (kLen (K := K) rfl) rfl T.len0 PySem.boot_len (pa_cons (pv 1) pa_nil)) (nomark _))))) pss_never pss_nil)
        (pss_cons (ps_for PassesOwn.never rfl (pi_range1 rfl T.range0 (pa_cons (pe_callB (kLen (K := K) rfl) rfl T.len0 PySem.boot_len (pa_cons (pv 1) pa_nil)) pa_nil)) (pg_name (i := 2) sc_L_same.nd rfl (by first | exact Or.inl rfl | exact Or.inr rfl)) (pss_one (ps_if (pt_not (pt_val (pe_callG G hr rfl (pa_cons (pe_ix (kIx (K := K) rfl) (pv 0) (pv 2) (fun _ _ => rfl)) (pa_cons (pe_ix (kIx (K := K) rfl) (pv 1) (pv 2) (fun _ _ => rfl)) pa_nil))))) (pss_one (ps_ret pe_bl)) pss_nil)))
        (pss_one (ps_ret pe_bl)))) pss_nil)
        (pss_cons (ps_if (pt_cmpR op_isN (pv 1) pe_non (nomark _)) pss_never pss_nil)
        (pss_cons (ps_if (pt_val (pe_callB (kIsi (K := K) rfl) rfl T.isinstance0 boot_isinstance (pa_cons (pv 1) (pa_cons (pe_bltn (v := .ty "str") rfl T.str0 PyProof.Rows.boot_str rfl) pa_nil)))) pss_never pss_nil)
        (pss_one (ps_ret (pe_and (pe_callB (kIsi (K := K) rfl) rfl T.isinstance0 boot_isinstance (pa_cons (pv 0) (pa_cons (pe_bltn (v := .ty "int") rfl T.int0 PyProof.Rows.boot_int rfl) pa_nil))) (pe_and (pe_not (pe_callB (kIsi (K := K) rfl) rfl T.isinstance0 boot_isinstance (pa_cons (pv 0) (pa_cons (pe_bltn (v := .ty "bool") rfl T.bool0 PyProof.Rows.boot_bool rfl) pa_nil)))) (pe_one (pe_cmpR (kEq (K := K) rfl (room64 hr)) (pv 0) (pv 1) (nomark _)))))))))), ?_⟩
    obtain ⟨v, u, d, rfl, hs, hv, hu, q⟩ := h
    have hn := sm_nl _ d hs
    cases d with
    | int i =>
      refine q_when (et_B (ed_isi (b := false) (ed_var rfl hu) hn (by show kitB "int" "tuple" = _; decide +kernel))) (fun h => by cases h) fun _ H1 e1 => ?_
      refine q_when (b := false) (et_isN (ed_var rfl (hu.ex e1)) (fun h => by cases h)) (fun h => by cases h) fun _ H2 e2 => ?_
      refine q_when (et_B (ed_isi (b := false) (ed_var rfl ((hu.ex e1).ex e2)) hn (by show kitB "int" "str" = _; decide +kernel))) (fun h => by cases h) fun _ H3 e3 => ?_
      have e03 := (e1.trans e2).trans e3
      refine s_ret (d := .bool true) (ed_is (ed_andV (ed_isi (b := true) (ed_var rfl (hv.ex e03)) hn (by show kitB "int" "int" = _; decide +kernel)) fun _ => ed_andV (ed_notV (ed_isi (b := false) (ed_var rfl (hv.ex e03)) hn (by show kitB "int" "bool" = _; decide +kernel))) fun _ => ed_eqI (ed_var rfl (hv.ex e03)) (ed_var rfl (hu.ex e03))) (by simp)) fun x H4 e4 hx => by
        rw [hx.bl_inv]
        exact q H4 (e03.trans e4)
    | tuple ds =>
      simp only [sm, Bool.and_eq_true] at hs
      have hlen := of_decide_eq_true hs.1
      refine q_when (et_B (ed_isi (b := true) (ed_var rfl hu) hn (by show kitB "tuple" "tuple" = _; decide +kernel))) (fun _ H1 e1 => ?_) (fun h => by cases h)
      have hv1 := hv.ex e1
      have hu1 := hu.ex e1
      refine q_when (b := false) (Evl.et_or (a := false) (b := false) (Evl.et_not (a := true) (et_B (ed_isi (b := true) (ed_var rfl hv1) hn (by show kitB "tuple" "tuple" = _; decide +kernel)))) fun _ => et_test (ed_is (ed_neI (ed_lenT (ed_var rfl hv1)) (ed_lenT (ed_var rfl hu1))) (by simp))) (fun h => by cases h) fun _ H2 e2 => ?_
      have hv2 := hv1.ex e2
      have hu2 := hu1.ex e2
      refine q_for (K := K) (M := []) (as := List.range ds.length) (enc := nI) (es_rng (ea1 (ed_lenT (ed_var rfl hu2))) (by omega)) (fun i σ' H' => ∃ s2, σ' = [some v, some u, s2] ∧ Ex H H') ⟨_, rfl, e1.trans e2⟩ (fun _ _ _ _ h e => let ⟨s2, h1, h2⟩ := h; ⟨s2, h1, h2.trans e⟩) ?_ ?_
      · rintro i a x σ1 H3 ha ⟨s2, rfl, e3⟩ _ hx
        obtain ⟨rfl, hi⟩ := range_get ha
        refine ⟨_, tgt_name, fun H4 e4 N hN => ?_⟩
        have hd : ds[a]? = some ds[a] := List.getElem?_eq_getElem hi
        have hv4 := hv.ex (e3.trans e4)
        have hu4 := hu.ex (e3.trans e4)
        refine s_when (b := false) (Evl.et_not (a := true) (et_B (ed_callX (ea2 (ed_ixT (n := a) (ed_var rfl hv4) (ed_var rfl (hx.ex e4)) hd) (ed_ixT (n := a) (ed_var rfl hu4) (ed_var rfl (hx.ex e4)) hd)) fun vs H6 e6 hvs Q' q' => ?_))) (fun h => by cases h) fun _ H5 e5 => hN _ _ ⟨_, rfl, (e3.trans e4).trans e5⟩ (.of e5)
        obtain ⟨y, z, rfl, hy, hz⟩ := dpAll2 hvs
        exact ⟨y, z, _, rfl, List.all_eq_true.mp hs.2 _ (List.getElem_mem hi), hy, hz, fun H7 e7 => q' _ H7 e7 (.bl _)⟩
      · rintro σ1 H3 ⟨s2, rfl, e3⟩ _
        exact s_ret (K := K) (d := .bool true) ed_b fun x H4 e4 hx => by rw [hx.bl_inv]; exact q H4 (e3.trans e4)
    | none => simp [sm] at hs
    | bool _ => simp [sm] at hs
    | str _ => simp [sm] at hs
    | list _ => simp [sm] at hs
    | dict _ => simp [sm] at hs
theorem ok_L_same (T : Txt K mg) : Good P w K mg base 4 "_law_same" ["_law_actual", "_law_due"] (spSame K 3) := ok_L_same0 T 3
end
end NS
set_option Elab.async false
set_option linter.all false
set_option maxRecDepth 100000
set_option maxHeartbeats 4000000
namespace NS
open PySem PySem.Spec PyProof.Rows L2
open Evl (Ex)
section
variable {K : Fg} {σ : L2.St} {H H' : Hp} {ta tb te : TE} {i j : Int}
theorem ed_int (h : EvD K te σ H (.int i)) : EvD K (tCB (fun xs H Q => (∃ i, xs = [.int i] ∧ Q (.int i) H) ∨ ∃ k, xs = [.bl k] ∧ Q (.int (if k then 1 else 0)) H) (tCons te tNil)) σ H (.int i) := ed_cb (ea1 h) fun vs H2 _ hv Q q => by
  obtain ⟨x, rfl, hx⟩ := dpAll1 hv
  rw [hx.int_inv]
  exact .inl ⟨i, rfl, q _ H2 (Ex.refl _) (.int _)⟩
/-- an if without else, what stands behind it in one form -/
theorem q_whenX {c : TT} {b : Bool} {t1 tz : TS} {D : Ends} (Pn : L2.St → Hp → Prop) (h : Evl.EvT c σ H b) (h1 : b = true → ∀ H1, Ex H H1 → ∀ N : L2.St → Hp → Prop, (∀ σ2 H2, Pn σ2 H2 → N σ2 H2) → t1 { D with nx := N } σ H1) (h2 : b = false → ∀ H1, Ex H H1 → Pn σ H1) (k : ∀ σ1 H1, Pn σ1 H1 → tz D σ1 H1) : tSeq (tIfS c t1 tNext) tz D σ H :=
  q_when h (fun hb H1 e => h1 hb H1 e _ fun σ2 H2 p => k σ2 H2 p) fun hb H1 e => k σ H1 (h2 hb H1 e)
theorem Lst.ints {p : Addr} {is : List Int} (h : Lst K H p (is.map .int)) : H p = some (.lst (is.map V.int)) := by
  obtain ⟨ws, h1, h2⟩ := h
  rw [h1, h2.ints]
theorem Lst.ofInts {p : Addr} {is : List Int} (h : H p = some (.lst (is.map V.int))) : Lst K H p (is.map .int) := ⟨_, h, DpAll.ofInts⟩
theorem ed_ixI {p : Addr} {is : List Int} {k : Nat} {a : Nat} (hσ : σ[a]? = some (some (.ref p))) (hl : Lst K H p (is.map .int)) (hk : EvD K tb σ H (nI k)) (h : k < is.length) : EvD K (tOp (rIx K) (tVar a) tb) σ H (.int (is.getD k 0)) := by
  refine ed_ixL (n := k) (ed_var hσ hl.dp) hk ?_
  rw [List.getElem?_map, List.getD_eq_getElem?_getD, List.getElem?_eq_getElem h]
  rfl
end
section
variable {P : Program} {w : World} {K : Fg} {mg : Str → Option Value} {base : Heap}
/-! ### _law_draws -/
theorem sc_L_draws : FnScope ["_law_script", "_law_many", "_law_cells", "_law_rest", "_law_draws_here", "_law_k", "_law_at", "_law_once", "_law_cell"] ["_law_script", "_law_many"] (defScope s_L_draws) := ⟨rfl, rfl, rfl, by decide +kernel, rfl, by decide +kernel, by decide +kernel⟩
def spDraws (K : Fg) : Sp := fun vs H Q _ => ∃ (v : V) (many : Nat) (ns : List Int), vs = [v, .int many] ∧ many ≤ 1000 ∧ ns.length ≤ 1000 ∧ Dp K H v (.list (ns.map .int)) ∧ ∀ p H', H p = none → Ex H H' → Drs H' p → Q (.ref p) H'
theorem ok_L_draws (T : Txt K mg) : Good P w K mg base 1 "_law_draws" ["_law_script", "_law_many"] (spDraws K) := by
  refine good_of (q := "_law_draws") (st := s_L_draws) (N := ["_law_script", "_law_many", "_law_cells", "_law_rest", "_law_draws_here", "_law_k", "_law_at", "_law_once", "_law_cell"]) T.g__law_draws (T.def_ 31) sc_L_draws (fun _ _ _ _ _ _ us hl => match us, hl with | [_, _], _ => rfl) (fun vs H Q E h => by obtain ⟨_, _, _, rfl, _⟩ := h; rfl) fun cdv A outer s H vs Q E hr h =>
    ⟨_, (pss_cons (ps_setLc (i := 2) (own := [("_law_cell", 8)]) (g := gName 8) rfl sc_L_draws.nd rfl rfl (sw_true rfl rfl rfl (by kernel_rfl)) (kSq (K := K) rfl (pv 0)) (blkOk_by (by kernel_rfl)) (fun _ _ _ _ _ => (pg_name (i := 8) sc_L_draws.nd rfl (by first | exact Or.inl rfl | exact Or.inr rfl))) (fun _ _ _ _ _ => pts_nil) (fun _ _ _ _ _ => (pe_callTy call_int1 rfl T.int0 PyProof.Rows.boot_int (pa_cons (pv 8) pa_nil))))
        (pss_cons (ps_if (pt_cmpR (kEq (K := K) rfl (room64 hr)) (pe_callB (kLen (K := K) rfl) rfl T.len0 PySem.boot_len (pa_cons (pv 2) pa_nil)) pe_int (nomark _)) (pss_one (ps_expr (kBm (K := K) rfl PySem.F.plainAttrs_list PySem.F.slot_list_append PySem.F.type_list_append mt_append (pv 2) (pa_cons pe_int pa_nil)))) pss_nil)
        (pss_cons (ps_set (i := 3) sc_L_draws.nd rfl (by first | exact Or.inl rfl | exact Or.inr rfl) (pe_callTy (kList (K := K) rfl) rfl T.list0 PyProof.Rows.boot_list (pa_cons (pv 2) pa_nil)))
        (pss_cons (ps_set (i := 4) sc_L_draws.nd rfl (by first | exact Or.inl rfl | exact Or.inr rfl) (pe_lst pa_nil))
        (pss_cons (ps_for PassesOwn.never rfl (pi_range1 rfl T.range0 (pa_cons (pv 1) pa_nil)) (pg_name (i := 5) sc_L_draws.nd rfl (by first | exact Or.inl rfl | exact Or.inr rfl)) (pss_cons (ps_set (i := 6) sc_L_draws.nd rfl (by first | exact Or.inl rfl | exact Or.inr rfl) (pe_op op_mod (pv 5) (pe_callB (kLen (K := K) rfl) rfl T.len0 PySem.boot_len (pa_cons (pv 2) pa_nil))))
        (pss_one (ps_if (pt_cmpR op_ge (pe_ix (kIx (K := K) rfl) (pv 2) (pv 6) (fun _ _ => rfl)) (pe_op op_pow pe_int pe_int) (nomark _)) (pss_cons (ps_expr (kBm (K := K) rfl PySem.F.plainAttrs_list PySem.F.slot_list_append PySem.F.type_list_append mt_append (pv 4) (pa_cons (pe_op op_mod (pe_callTy call_int1 rfl T.int0 PyProof.Rows.boot_int (pa_cons (pe_ix (kIx (K := K) rfl) (pv 3) (pv 6) (fun _ _ => rfl)) pa_nil)) pe_int) pa_nil)))
        (pss_one (ps_asg (pe_op op_fdiv (pe_ix (kIx (K := K) rfl) (pv 3) (pv 6) (fun _ _ => rfl)) pe_int) (pg_sub (pv 3) (pv 6) set_list)))) (pss_cons (ps_set (i := 7) sc_L_draws.nd rfl (by first | exact Or.inl rfl | exact Or.inr rfl) (pe_op op_mod (pe_callTy call_int1 rfl T.int0 PyProof.Rows.boot_int (pa_cons (pe_op (kPlus (K := K) rfl) (pe_op (kPlus (K := K) rfl) (pe_op op_mul (pe_ix (kIx (K := K) rfl) (pv 2) (pv 6) (fun _ _ => rfl)) pe_int) (pe_op op_mul (pv 5) pe_int)) pe_int) pa_nil)) pe_int))
        (pss_one (ps_expr (kBm (K := K) rfl PySem.F.plainAttrs_list PySem.F.slot_list_append PySem.F.type_list_append mt_append (pv 4) (pa_cons (pe_op op_mod (pe_callTy call_int1 rfl T.int0 PyProof.Rows.boot_int (pa_cons (pe_op (kPlus (K := K) rfl) (pe_op (kPlus (K := K) rfl) (pe_op op_mul (pv 7) (pv 7)) (pe_op op_mul pe_int (pv 7))) (pv 5)) pa_nil)) pe_int) pa_nil)))))))))
        (pss_cons (ps_expr (kBm0 (K := K) rfl PySem.F.plainAttrs_list PySem.F.slot_list_reverse PySem.F.type_list_reverse mt_reverse (pv 4)))
        (pss_one (ps_ret (pv 4))))))))), ?_⟩
  obtain ⟨v, many, ns, rfl, hm, hns, hv, q⟩ := h
  refine q_setL (K := K) (en_lcM (as := ns) (enc := PyData.int) (fun i => .int i) (es_sqL (ed_var rfl hv)) (by omega) (fun _ _ => rfl) fun a ha z H1 e hz => ⟨_, tgt_name, rfl, ed_int (ed_var rfl hz)⟩) fun c H1 hc e1 hl1 => ?_
  refine q_whenX (fun σ' H' => ∃ cs : List Int, σ' = [some v, some (.int many), some (.ref c), none, none, none, none, none, none] ∧ 0 < cs.length ∧ cs.length ≤ 1001 ∧ ExB [c] H1 H' ∧ Lst K H' c (cs.map .int)) (et_test (ed_is (ed_eqN (K := K) (ed_lenL (ed_var rfl hl1.dp)) ed_n0) rfl)) (fun hb H2 e2 N hN => ?_) (fun hb H2 e2 => ?_) ?_
  · have h0 : ns.length = 0 := by simpa using of_decide_eq_true hb
    have hn0 : ns = [] := List.length_eq_zero_iff.mp h0
    refine s_app (d := .int 0) rfl (hl1.ex e2) (nl_all (fun _ => rfl) _) rfl (by rw [List.length_map]; omega) ed_i fun H3 e3 hl3 => ?_
    exact hN _ _ ⟨[0], rfl, by simp, by simp, (ExB.of e2).trans e3, by rw [hn0] at hl3; exact hl3⟩
  · have h0 : ¬ ns.length = 0 := by simpa using of_decide_eq_false hb
    exact ⟨ns, rfl, by omega, by omega, .of e2, hl1.ex e2⟩
  · rintro _ H2 ⟨cs, rfl, h0, h1, e2, hl2⟩
    refine q_setL (K := K) (en_listL (ed_var rfl hl2.dp)) fun r H3 hr e3 hl3 => ?_
    refine q_setL (K := K) (en_lst ea_nil (by simp)) fun d H4 hd e4 hl4 => ?_
    have hc4 := (hl2.ex e3).ex e4
    have hr4 := hl3.ex e4
    have ncr : c ≠ r := fun e => by obtain ⟨u, hu⟩ := hl2.at; rw [e, hr] at hu; cases hu
    have ncd : c ≠ d := fun e => by obtain ⟨u, hu⟩ := (hl2.ex e3).at; rw [e, hd] at hu; cases hu
    have nrd : r ≠ d := fun e => by obtain ⟨u, hu⟩ := hl3.at; rw [e, hd] at hu; cases hu
    refine q_for (K := K) (M := [d, r]) (as := List.range many) (enc := nI) (es_rng (ea1 (ed_var rfl (.int _))) (by omega))
      (fun i σ' H' => ∃ (s5 s6 s7 s8 : Option V) (rs ds : List Int), σ' = [some v, some (.int many), some (.ref c), some (.ref r), some (.ref d), s5, s6, s7, s8] ∧ Lst K H' c (cs.map .int) ∧ Lst K H' r (rs.map .int) ∧ Lst K H' d (ds.map .int) ∧ rs.length = cs.length ∧ ds.length = i)
      ⟨_, _, _, _, cs, [], rfl, hc4, hr4, hl4, rfl, rfl⟩ (fun _ _ _ _ h e => let ⟨s5, s6, s7, s8, rs, ds, h1, h2, h3, h4, h5⟩ := h; ⟨s5, s6, s7, s8, rs, ds, h1, h2.ex e, h3.ex e, h4.ex e, h5⟩) ?_ ?_
    · rintro i a x σ1 H5 ha ⟨s5, s6, s7, s8, rs, ds, rfl, h2, h3, h4, h5, h6⟩ eM hx
      obtain ⟨rfl, hi⟩ := range_get ha
      refine ⟨_, tgt_name, fun H6 e6 N hN => ?_⟩
      have hx := hx.ex e6
      refine q_set (K := K) (d := nI (a % cs.length)) (ed_is (ed_mod (ed_var rfl hx) (ed_lenL (ed_var rfl (h2.ex e6).dp)) (by rw [List.length_map]; omega)) (by rw [List.length_map]; unfold nI; rw [Int.natCast_emod])) fun y H7 e7 hy => ?_
      have hat : a % cs.length < cs.length := Nat.mod_lt _ h0
      have h2 := (h2.ex e6).ex e7
      have h3 := (h3.ex e6).ex e7
      have h4 := (h4.ex e6).ex e7
      have hx := hx.ex e7
      refine s_if (et_test (ed_ge (ed_ixI rfl h2 (ed_var rfl hy) hat) (ed_pow ed_i ed_i ⟨by decide, by decide, by decide⟩))) (fun _ H8 e8 => ?_) (fun _ H8 e8 => ?_)
      · have h2 := h2.ex e8
        have h3 := h3.ex e8
        have h4 := h4.ex e8
        refine q_app rfl h4 (nl_all (fun _ => rfl) _) rfl (by rw [List.length_map]; omega) (ed_mod (ed_int (ed_ixI rfl h3 (ed_var rfl (hy.ex e8)) (by omega))) ed_i (by decide)) fun H9 e9 hl9 => ?_
        have hl9 : Lst K H9 d ((ds ++ [rs.getD (a % cs.length) 0 % 1000]).map .int) := by rw [List.map_append]; exact hl9
        have h3' := h3.keep h4.mut e9 (by simpa using nrd) (nl_all (fun _ => rfl) _)
        have h2' := h2.keep h4.mut e9 (by simpa using ncd) (nl_all (fun _ => rfl) _)
        have hy9 := (hy.ex e8).keep h4.mut e9 rfl
        refine s_setI (K := K) (k := a % cs.length) rfl h3'.ints (ed_var rfl hy9) (by omega) (ed_fdiv (ed_ixI rfl h3' (ed_var rfl hy9) (by omega)) ed_i ⟨by decide, by decide⟩) fun H10 e10 h10 => hN _ _ ⟨_, _, _, _, _, ds ++ [rs.getD (a % cs.length) 0 % 1000], rfl, ?_, Lst.ofInts h10, ?_, by rw [List.length_set]; exact h5, ?_⟩ ?_
        · exact h2'.keep h3'.mut e10 (by simpa using ncr) (nl_all (fun _ => rfl) _)
        · exact hl9.keep h3'.mut e10 (by simpa using Ne.symm nrd) (nl_all (fun _ => rfl) _)
        · rw [List.length_append]; simp [h6]
        · exact (((ExB.of (e7.trans e8)).trans (e9.mono (by simp)))).trans (e10.mono (by simp))
      · have h2 := h2.ex e8
        have h3 := h3.ex e8
        have h4 := h4.ex e8
        refine q_set (K := K) (ed_mod (ed_int (ed_addI (ed_addI (ed_mul (ed_ixI rfl h2 (ed_var rfl (hy.ex e8)) hat) ed_i (.inr ⟨by decide, by decide⟩)) (ed_mul (ed_var rfl (hx.ex e8)) ed_i (.inr ⟨by decide, by decide⟩))) ed_i)) ed_i (by decide)) fun o H9 e9 ho => ?_
        generalize ht : (cs.getD (a % cs.length) 0 * 48271 + ((a : Nat) : Int) * 69621 + 11) % 2147483647 = t at ho
        have t0 : 0 ≤ t := by rw [← ht]; exact Int.emod_nonneg _ (by decide)
        have t1 : t < 2147483647 := by rw [← ht]; exact Int.emod_lt_of_pos _ (by decide)
        refine s_app rfl (h4.ex e9) (nl_all (fun _ => rfl) _) rfl (by rw [List.length_map]; omega) (ed_mod (ed_int (ed_addI (ed_addI (ed_mul (ed_var rfl ho) (ed_var rfl ho) (.inl ⟨by omega, by omega⟩)) (ed_mul ed_i (ed_var rfl ho) (.inl ⟨by decide, by decide⟩))) (ed_var rfl ((hx.ex e8).ex e9)))) ed_i (by decide)) fun H10 e10 hl10 => hN _ _ ⟨_, _, _, _, rs, ds ++ [_], rfl, ?_, ?_, (by rw [List.map_append]; exact hl10), h5, ?_⟩ ?_
        · exact (h2.ex e9).keep (h4.ex e9).mut e10 (by simpa using ncd) (nl_all (fun _ => rfl) _)
        · exact (h3.ex e9).keep (h4.ex e9).mut e10 (by simpa using nrd) (nl_all (fun _ => rfl) _)
        · rw [List.length_append]; simp [h6]
        · exact (ExB.of ((e7.trans e8).trans e9)).trans (e10.mono (by simp))
    · rintro σ1 H5 ⟨s5, s6, s7, s8, rs, ds, rfl, h2, h3, h4, h5, h6⟩ eM
      have hd5 := h4.ints
      have hcn : H c = none := hc
      have eA : ExB [d, r, c] H H5 := ((((ExB.of e1).trans (e2.mono (by simp))).then e3).then e4).trans (eM.mono (by simp))
      have hrn : H r = none := by
        cases hq : H r with
        | none => rfl
        | some o =>
          have := ((ExB.of e1).trans e2) r o (by simpa using Ne.symm ncr) hq
          rw [hr] at this
          cases this
      have hdn : H d = none := by
        cases hq : H d with
        | none => rfl
        | some o =>
          have := (((ExB.of e1).trans e2).then e3) d o (by simpa using Ne.symm ncd) hq
          rw [hd] at this
          cases this
      have ee := (ExB.refl [d] H5).upd (p := d) (by simp) (.lst (ds.map V.int).reverse)
      refine ⟨_, rfl, .inl ⟨rfl, _, SqL.of hd5⟩, d, _, rfl, rfl, hd5, ?_⟩
      refine ⟨_, rfl, q d _ hdn ?_ ⟨ds.reverse, by rw [upd_same, List.map_reverse]⟩⟩
      exact (((eA.trans (ee.mono (by simp))).drop hdn).drop hrn |>.drop hcn).nil
end
end NS
set_option Elab.async false
set_option linter.all false
set_option maxRecDepth 100000
set_option maxHeartbeats 4000000
namespace NS
open PySem PySem.Spec PyProof.Rows L2
open Evl (Ex)
/-- strictly ascending lists of the same members are the same -/
theorem asc_unique : ∀ {l m : List Int}, l.Pairwise (· < ·) → m.Pairwise (· < ·) → (∀ x, x ∈ l ↔ x ∈ m) → l = m
  | [], [], _, _, _ => rfl
  | [], b :: m, _, _, h => by have := (h b).mpr (List.mem_cons_self ..); cases this
  | a :: l, [], _, _, h => by have := (h a).mp (List.mem_cons_self ..); cases this
  | a :: l, b :: m, hl, hm, h => by
    rw [List.pairwise_cons] at hl hm
    have e : a = b := by
      rcases List.mem_cons.mp ((h a).mp (List.mem_cons_self ..)) with e | e
      · exact e
      · rcases List.mem_cons.mp ((h b).mpr (List.mem_cons_self ..)) with e' | e'
        · exact e'.symm
        · have h1 := hm.1 a e
          have h2 := hl.1 b e'
          omega
    subst e
    rw [asc_unique hl.2 hm.2 fun x => ⟨fun hx => ?_, fun hx => ?_⟩]
    · rcases List.mem_cons.mp ((h x).mp (List.mem_cons_of_mem _ hx)) with rfl | q
      · have := hl.1 x hx; omega
      · exact q
    · rcases List.mem_cons.mp ((h x).mpr (List.mem_cons_of_mem _ hx)) with rfl | q
      · have := hm.1 x hx; omega
      · exact q
theorem asc_range (n : Nat) : (List.range n).Pairwise (· < ·) := List.pairwise_lt_range
/-- the columns of n that are in cs -/
def norm (n : Nat) (cs : List Nat) : List Nat := (List.range n).filter fun c => decide (c ∈ cs)
theorem norm_sub (n : Nat) (cs : List Nat) : (norm n cs).Sublist (List.range n) := List.filter_sublist
theorem mem_norm {n : Nat} {cs : List Nat} (h : ∀ c ∈ cs, c < n) {c : Nat} : c ∈ norm n cs ↔ c ∈ cs := by
  unfold norm
  rw [List.mem_filter, List.mem_range]
  exact ⟨fun q => of_decide_eq_true q.2, fun q => ⟨h c q, decide_eq_true q⟩⟩
theorem asc_norm (n : Nat) (cs : List Nat) : ((norm n cs).map fun c => ((c : Nat) : Int)).Pairwise (· < ·) := by
  rw [List.pairwise_map]
  exact ((asc_range n).sublist (norm_sub n cs)).imp fun h => by omega
/-- set(t), t a tuple of ints -/
def rSetTI (K : Fg) (w : World) : List V → Hp → VK → Prop := fun xs H Q => ∃ (l : Addr) (ns : List Int), xs = [.ref l] ∧ SqT K H l (ns.map V.int) ∧ ns.length < 60 ∧ ∀ a n, H a = none → n ≤ ns.length → Q (.ref a) (upd H a (SetO w a (fun j => decide (j ∈ ns)) n))
theorem call_setTI {X : Cx} (hc : X.calm = true) : CallR X (.type "set") (rSetTI X.K X.w) := by
  intro pins s σ H xs us Q I r h
  obtain ⟨l, ns, rfl, hl, hz, q⟩ := h
  rw [Vals.ref1 r]
  obtain ⟨its, rv, pt, _⟩ := I.tuple hl
  have hi : IntsAre its.toArray.toList ns := by simpa using rv.ints
  have hn : H s.heap.objs.size = none := I.hok.fresh (Nat.le_refl _)
  refine call_set_tupI ns (I.ok.hd hc) (show s.heap.IsTuple l its.toArray from pt) hi (by unfold scanBound; omega) fun h' tk c R1 hcn k => ?_
  exact ⟨.ref s.heap.objs.size, upd H s.heap.objs.size (SetO X.w s.heap.objs.size (fun j => decide (j ∈ ns)) c), I.laid (t' := tk) k (Nat.le_refl _) (setO_new R1), rfl, q _ c hn hcn⟩
theorem kSetTI {X : Cx} {K : Fg} {w : World} (hK : X.K = K) (hw : X.w = w) (hc : X.calm = true) : CallR X (.type "set") (rSetTI K w) := hK ▸ hw ▸ call_setTI hc
theorem kSortedSet {X : Cx} {w : World} (hw : X.w = w) (hc : X.calm = true) : CallR X (.builtin "sorted") (rSortedSet w) := hw ▸ cr_sortedSet hc
section
variable {K : Fg} {w : World} {σ : L2.St} {H : Hp} {te : TE} {cs : List Nat} {n : Nat}
theorem en_sortSet (h : EvD K te σ H (cols cs)) (hl : ∀ c ∈ cs, c < n) (hz : cs.length < 60) : EvN K (tCB (rSortedSet w) (tCons (tCB (rSetTI K w) (tCons te tNil)) tNil)) σ H ((norm n cs).map nI) := fun H1 e Q q =>
  h H1 e _ fun v H2 e2 hv => by
    obtain ⟨l, xs, rfl, hs, hxs⟩ := hv.tuple_inv
    have ei : cs.map nI = (cs.map fun c => ((c : Nat) : Int)).map PyData.int := by rw [List.map_map]; rfl
    rw [ei] at hxs
    rw [hxs.ints] at hs
    refine ⟨l, cs.map fun c => ((c : Nat) : Int), rfl, hs, by rw [List.length_map]; exact hz, fun a m ha hm => ?_⟩
    have en := Ex.new (o := SetO w a (fun j => decide (j ∈ cs.map fun c => ((c : Nat) : Int))) m) ha
    rw [List.length_map] at hm
    refine ⟨a, _, m, rfl, upd_same, by omega, fun ns p hp1 hp2 hp3 hp4 => ?_⟩
    have hns : ns = (norm n cs).map fun c => ((c : Nat) : Int) := asc_unique hp1 (asc_norm n cs) fun x => by
      rw [hp2, decide_eq_true_iff]
      constructor
      · intro hx
        obtain ⟨c, hc, rfl⟩ := List.mem_map.mp hx
        exact List.mem_map.mpr ⟨c, (mem_norm hl).mpr hc, rfl⟩
      · intro hx
        obtain ⟨c, hc, rfl⟩ := List.mem_map.mp hx
        exact List.mem_map.mpr ⟨c, (mem_norm hl).mp hc, rfl⟩
    have e3 := Ex.new (o := .lst (ns.map V.int)) hp4
    refine q p _ _ (Evl.fresh_back (e2.trans en) hp4) ((e2.trans en).trans e3) upd_same ?_
    have ei2 : (norm n cs).map nI = ((norm n cs).map fun c => ((c : Nat) : Int)).map PyData.int := by rw [List.map_map]; rfl
    rw [ei2, ← hns]
    exact DpAll.ofInts
end
end NS
set_option Elab.async false
set_option linter.all false
set_option maxRecDepth 100000
set_option maxHeartbeats 4000000
namespace NS
open PySem PySem.Spec PyProof.Rows L2
open PySem.W (EachIs AllAlike Sortable dataLe KeyPure)
open Evl (Ex)
theorem reads_cols {h : Heap} : ∀ {cs : List Nat} {its : List Value}, Vals (cs.map fun c => V.int ((c : Nat) : Int)) its → ReadsAll h its (cs.map nI) []
  | [], _, r => by cases r; exact .nil
  | c :: cs, _, r => by
    cases r with
    | cons r rr =>
      obtain ⟨t, rfl⟩ := r
      exact ReadsAll.cons (as := []) (bs := []) (.int _ _) (reads_cols rr)
theorem sc_set_order : FnScope ["columns"] ["columns"] (defScope s_set_order) := ⟨rfl, rfl, rfl, by decide +kernel, rfl, by decide +kernel, by decide +kernel⟩
/-- a call of set_order that changes nothing that was there -/
theorem so_turn {P : Program} {w : World} {K : Fg} {mg : Str → Option Value} {base : Heap} (T : Txt K mg) {A : Around} {outer : List Env} {s : Shared} {H : Hp} (hr : Room 1 A) (e0 : Env0 P w K mg base A outer s H) {t : Addr} {cs : List Nat} (ht : ∃ its : List Value, Vals (cs.map fun c => V.int ((c : Nat) : Int)) its ∧ IsTup s.heap t its.toArray ∧ its.length ≤ 1000) :
    wpAny (model P w) A (call (.ref (He.ga K "set_order")) [.ref t]) (KeyPure (.tuple [nI cs.length, cols cs]) s) (fun _ _ => False) s := by
  obtain ⟨fd, F⟩ := T.def_ 14
  have hb := FunD.bindsA (ps := ["columns"]) F fun _ _ _ _ _ _ us hl => match us, hl with | [_], _ => rfl
  obtain ⟨oc, od, dV, kV, doc, pm, an, cdv, ct, osl, rfl, lk, hcd, _, _⟩ := F.ex
  have KX : K.In s.heap := e0.mod.kin.keeps fun b o e => (e0.bs b o e).1
  have lim : s.heap.NoLimit := e0.mod.nolimit.keeps fun b o e => (e0.bs b o e).1
  obtain ⟨its, rv, hT, hz⟩ := ht
  refine wpAny_call (codeAny_call_function hr.depth (KX _ _ lk) rfl sc_set_order.co sc_set_order.gen rfl (PySem.W.codeRec_of KX hcd) (hb s [.ref t] rfl _ _ _ _ ?_))
  refine wpAny_newFunctionEnv_cells sc_set_order.kind (fun ⟨n, v⟩ hy => ?_) fun env he s1 x => ?_
  · rcases sc_set_order.par n (List.of_mem_zip hy).1 with q | q
    · exact .inl q
    · exact .inr ⟨q, PySem.W.cellsFrom_some _ _ _ (.inl q)⟩
  subst he
  refine ⟨lim.keeps x.toInCall.keep, codeAny_func ?_⟩
  obtain ⟨h1, tk1, es1, k1⟩ := id x.done
  have e1 : Env0 P w K mg base A outer s (fun _ => none) := ⟨e0.frames, e0.mod, fun b o e => ⟨(e0.bs b o e).1, rfl⟩, e0.bsz, e0.funs, fun _ _ => rfl, (fun _ _ h => by cases h), e0.bare⟩
  have I : Inv (cxOf CX0 P w K mg base ["columns"] "set_order" (defScope s_set_order) (He.ga K "set_order") cdv A outer s (fun _ => none) E0) [] (start ["columns"] [.ref t]) (fun _ => none) s1 :=
    inv_start sc_set_order hr.hd e1 rfl (.cons (show L2.RelV (.ref t) (.ref t) from rfl) .nil) x
  obtain ⟨m, hm, hl⟩ := I.loc
  obtain ⟨u, ru, l⟩ := hl 0 "columns" (.ref t) rfl rfl (.inl rfl)
  cases ru
  have name : ∀ (pos : Pos) (s2 : Shared) (Q : Value → Shared → Prop) (E : Value → Shared → Prop), (∀ b o, s1.heap.get? b = some o → s2.heap.get? b = some o) → Q (.ref t) s2 → wpAny (model P w) (A.deeper (envOfC "set_order" (defScope s_set_order) s.heap.objs.size (He.ga K "set_order") cdv)) (eval (.Name "columns" pos) (envOfC "set_order" (defScope s_set_order) s.heap.objs.size (He.ga K "set_order") cdv)) Q E s2 := fun pos s2 Q E k q => by
    rcases l with ⟨hk, hmm⟩ | ⟨hk, c, hc, hcell⟩
    · exact wpAny_Name (wpAny_loadName_local I.ok.kind hk (hm.keeps k) hmm q) (by decide)
    · have hn : (defScope s_set_order).names.lookup (PySem.Str.ofString "columns") = some NameKind.local := by decide +kernel
      rcases hk with hk | hk
      · exact absurd (hn.symm.trans hk) (by decide)
      · exact absurd (hn.symm.trans hk) (by decide)
  have lid : ∀ b o, s1.heap.get? b = some o → s1.heap.get? b = some o := fun _ _ e => e
  refine wpAny_execs_cons (wpAny_Return_some (wpAny_Tuple_spliced ?_))
  refine Calls.spliced_cons (wpAny_Call_Name_kw (ld_blt I rfl T.len0 PySem.boot_len (PyProof.Rows.callWith_builtin1 (Calls.spliced_cons (name _ s1 _ _ lid (Calls.spliced_nil ?_))))))
  have hT1 : IsTup s1.heap t its.toArray := hT.keeps (by rw [es1]; exact k1)
  refine len_tuple hT1 (by simp only [List.size_toArray]; have := line63; omega) ?_
  refine Calls.spliced_cons (name _ _ _ _ lid (Calls.spliced_nil ⟨by show 2 ≤ sizeLine; decide, ?_⟩))
  have hlen : its.length = cs.length := by have := rv.length; rw [List.length_map] at this; exact this.symm
  have k2 : ∀ b o, s.heap.get? b = some o → s1.heap.get? b = some o := by rw [es1]; exact k1
  refine ⟨s1.heap.push { cls := .type "tuple", data := .seq [Value.int (its.toArray.size : Int) (s1.toks + 1), Value.ref t].toArray }, _, by rw [es1], fun b o q => Heap.get?_push_of_some _ (k2 b o q), ?_⟩
  obtain ⟨o, ho, hc, n, hd⟩ := hT1
  have hs : (its.toArray.size : Int) = (cs.length : Int) := by rw [List.size_toArray, hlen]
  rw [hs]
  exact Reads.tuple (Heap.get?_push_size _ rfl) rfl rfl (.cons (.int _ _) (.cons (.tuple (Heap.get?_push_of_some _ ho) hc hd (by simpa using reads_cols rv)) .nil))
def soKey (s : List Nat) : PyData := .tuple [nI s.length, cols s]
def soLe : List Nat → List Nat → Bool := dataLe false soKey
theorem alike_key (a b : List Nat) : PySem.W.alike (soKey a) (soKey b) = true := by
  have h : ∀ cs : List Nat, cs.map nI = (cs.map fun c => ((c : Nat) : Int)).map PyData.int := fun cs => by rw [List.map_map]; rfl
  have h2 := PySem.W.alike_ints (a.map fun c => ((c : Nat) : Int)) (b.map fun c => ((c : Nat) : Int))
  rw [← h, ← h] at h2
  simp only [soKey, cols, nI, PySem.W.alike, PySem.W.alikeAll, Bool.and_true, Bool.true_and]
  exact h2
theorem depth_key (a : List Nat) : (soKey a).depth ≤ 2 := by
  have h : a.map nI = (a.map fun c => ((c : Nat) : Int)).map PyData.int := by rw [List.map_map]; rfl
  have h2 := PySem.W.depth_ints (a.map fun c => ((c : Nat) : Int))
  rw [← h] at h2
  simp only [soKey, cols, nI, PyData.depth, PyData.depthAll, h2]
  omega
/-- sorted(sets, key=set_order) -/
def rSortSO (K : Fg) : List V → List V → Hp → VK → Prop := fun vs zs H Q => ∃ (r : Addr) (S : List (List Nat)), vs = [.ref r] ∧ zs = [.ref (He.ga K "set_order")] ∧ Dp K H (.ref r) (.list (S.map cols)) ∧ S.length ≤ 1000 ∧ (∀ s ∈ S, s.length ≤ 1000) ∧
  ∀ p ws, H p = none → DpAll K H ws ((S.mergeSort soLe).map cols) → Q (.ref p) (upd H p (.lst ws))
theorem each_map {K : Fg} {H : Hp} {α : Type} {f : α → PyData} : ∀ {xs : List V} {vs : List Value} {as : List α}, Vals xs vs → DpAll K H xs (as.map f) → EachIs (fun v a => ∃ x, RelV x v ∧ Dp K H x (f a)) vs as
  | _, _, [], r, h => by cases h; cases r; exact .nil
  | _, _, a :: as, r, h => by
    cases h with
    | cons h1 h2 =>
      cases r with
      | cons r rr => exact .cons ⟨_, r, h1⟩ (each_map rr h2)
theorem of_each_map {K : Fg} {H : Hp} {α : Type} {f : α → PyData} : ∀ {vs : List Value} {as : List α}, EachIs (fun v a => ∃ x, RelV x v ∧ Dp K H x (f a)) vs as → ∃ xs, Vals xs vs ∧ DpAll K H xs (as.map f)
  | _, _, .nil => ⟨[], .nil, .nil⟩
  | _, _, .cons h t => by
    obtain ⟨x, r, hx⟩ := h
    obtain ⟨xs, rr, hxs⟩ := of_each_map t
    exact ⟨x :: xs, .cons r rr, .cons hx hxs⟩
theorem call_sortSO {X : Cx} (T : Txt X.K X.mg) (hr : Room 3 X.A) : CallRK X (.builtin "sorted") [Str.ofString "key"] (rSortSO X.K) := by
  intro pins s σ H vs zs us ws Q I r rz h
  obtain ⟨l, S, rfl, rfl, hd, hS, hs, q⟩ := h
  obtain ⟨_, xs, e, hl, hxs⟩ := hd.list_inv
  cases e
  obtain rfl := Vals.ref1 r
  obtain rfl := Vals.ref1 rz
  obtain ⟨its, rv, pl, hz⟩ := I.list hl
  have e0 := each_map rv hxs
  have hsz : S.length ≤ sizeLine := Nat.le_trans hS (by rw [sizeLine_eq]; decide)
  refine PySem.W.sorted_key_data (b := false) (f := .ref (He.ga X.K "set_order")) (kw := [(Str.ofString "key", .ref (He.ga X.K "set_order"))]) (R := fun v a => ∃ x, RelV x v ∧ Dp X.K H x (cols a)) (bs := S) soKey pl.isList e0 (AllAlike.of alike_key) (Sortable.tuples fun b => ⟨_, _, rfl⟩) hsz (fun x _ => ?_) (PyProof.Rows.ksk_s1 _ _) (fun _ => PyProof.Rows.ksk_l1 _ _) (fun x => PyProof.Rows.ksk_t1 _ _) (fun v a hR ha h' tk k => ?_) fun out c h' tk k hn0 hp hout eo => ?_
  · have h1 := depth_key x
    have h2 := hr.un
    omega
  · obtain ⟨x, rx, hx⟩ := hR
    obtain ⟨t, ys, rfl, ht, hys⟩ := hx.tuple_inv
    cases rx
    have I1 : Inv X pins σ H { s with heap := h', toks := tk } := I.kept k
    obtain ⟨its2, rv2, hT, _⟩ := I1.tuple ht
    have ei : a.map nI = (a.map fun c => ((c : Nat) : Int)).map PyData.int := by rw [List.map_map]; rfl
    rw [ei] at hys
    rw [hys.ints, List.map_map] at rv2
    refine so_turn T hr.in1.in1 I1.env0.in1.in1 ⟨its2, rv2, hT, ?_⟩
    have := rv2.length
    rw [List.length_map] at this
    rw [← this]
    exact hs a ha
  · obtain ⟨ws, rws, hws⟩ := of_each_map eo
    have hlen : ws.length ≤ sizeLine := by rw [rws.length, hout]; exact hsz
    have hfr : H (s.heap.objs.size + 1) = none := I.hok.fresh (Nat.le_succ _)
    exact ⟨.ref _, upd H (s.heap.objs.size + 1) (.lst ws), I.laid (t' := tk) k (Nat.le_succ _) ⟨hlen, out, c, rws, hp⟩, rfl, q _ ws hfr hws⟩
theorem kSortSO {X : Cx} {K : Fg} {mg : Str → Option Value} (hK : X.K = K) (hm : X.mg = mg) (T : Txt K mg) (hr : Room 3 X.A) : CallRK X (.builtin "sorted") [Str.ofString "key"] (rSortSO K) := by
  subst hK hm
  exact call_sortSO T hr
end NS
set_option Elab.async false
set_option linter.all false
set_option maxRecDepth 100000
set_option maxHeartbeats 4000000
namespace NS
open PySem PySem.Spec PyProof.Rows L2
open PySem.W (EachIs AllAlike Sortable dataLe)
open Evl (Ex)
/-! ### all sets of columns -/
def ssS (acc : List (List Nat)) (c : Nat) : List (List Nat) := acc ++ acc.map (· ++ [c])
def ssF (cs : List Nat) : List (List Nat) := cs.foldl ssS [[]]
theorem ssF_snoc (cs : List Nat) (c : Nat) : ssF (cs ++ [c]) = ssF cs ++ (ssF cs).map (· ++ [c]) := by
  unfold ssF
  rw [List.foldl_append]
  rfl
theorem ssF_len (cs : List Nat) : ∀ i, i ≤ cs.length → (ssF (cs.take i)).length = 2 ^ i
  | 0, _ => rfl
  | i + 1, hi => by
    have hg : cs[i]? = some cs[i] := List.getElem?_eq_getElem hi
    rw [take_snoc hg, ssF_snoc, List.length_append, List.length_map, ssF_len cs i (by omega), Nat.pow_succ]
    omega
theorem ssF_sub (cs : List Nat) : ∀ i, i ≤ cs.length → ∀ s ∈ ssF (cs.take i), s.Sublist (cs.take i)
  | 0, _, s, hs => by
    have : s = [] := by simpa [ssF] using hs
    rw [this]
    exact List.nil_sublist _
  | i + 1, hi, s, hs => by
    have hg : cs[i]? = some cs[i] := List.getElem?_eq_getElem hi
    rw [take_snoc hg, ssF_snoc] at hs
    rw [take_snoc hg]
    rcases List.mem_append.mp hs with h | h
    · exact (ssF_sub cs i (by omega) s h).trans (List.sublist_append_left _ _)
    · obtain ⟨t, ht, rfl⟩ := List.mem_map.mp h
      exact (ssF_sub cs i (by omega) t ht).append (List.Sublist.refl _)
theorem ssF_full (cs : List Nat) : ∀ i, i ≤ cs.length → cs.take i ∈ ssF (cs.take i)
  | 0, _ => by simp [ssF]
  | i + 1, hi => by
    have hg : cs[i]? = some cs[i] := List.getElem?_eq_getElem hi
    rw [take_snoc hg, ssF_snoc]
    exact List.mem_append_right _ (List.mem_map.mpr ⟨_, ssF_full cs i (by omega), rfl⟩)
/-- the sets of n columns, by size, then by columns -/
def soS (n : Nat) : List (List Nat) := (ssF (List.range n)).mergeSort soLe
theorem soS_sub {n : Nat} {s : List Nat} (h : s ∈ soS n) : s.Sublist (List.range n) := by
  have h1 : s ∈ ssF (List.range n) := (List.mergeSort_perm _ _).mem_iff.mp h
  have := ssF_sub (List.range n) n (by simp) s (by rwa [List.take_of_length_le (by simp)])
  rwa [List.take_of_length_le (by simp)] at this
theorem soS_full (n : Nat) : List.range n ∈ soS n := by
  refine (List.mergeSort_perm _ _).mem_iff.mpr ?_
  have := ssF_full (List.range n) n (by simp)
  rwa [List.take_of_length_le (by simp)] at this
theorem soS_len (n : Nat) : (soS n).length = 2 ^ n := by
  unfold soS
  rw [(List.mergeSort_perm _ _).length_eq]
  have := ssF_len (List.range n) n (by simp)
  rwa [List.take_of_length_le (by simp)] at this
section
variable {K : Fg} {σ : L2.St} {H H' : Hp} {ta tb te : TE} {S : List (List Nat)}
theorem srt_cols (n : Nat) (hn : n ≤ 1000) : Srt ((List.range n).map nI) where
  nl := nl_all nl_nI _
  al := AllAlike.of fun a b => by simp [nI, PySem.W.alike]
  so := Sortable.others fun b => ⟨(fun h => by cases h), fun xs h => by cases h⟩
  dp := fun d hd => by obtain ⟨c, _, rfl⟩ := List.mem_map.mp hd; simp [nI, PyData.depth]
  ln := by simp; omega
theorem sort_cols (n : Nat) : ((List.range n).map nI).mergeSort (dataLe false id) = (List.range n).map nI := by
  refine List.mergeSort_of_pairwise ?_
  rw [List.pairwise_map]
  refine (asc_range n).imp fun {a b} h => ?_
  have := PySem.W.dataLe_int (β := Int) id
  have h2 : dataLe false id (nI a) (nI b) = decide ((a : Int) ≤ (b : Int)) := by
    rw [PySem.W.dataLe_eq]
    show (!PySem.W.dataLt (.int _) (.int _)) = _
    rw [PySem.W.dataLt_int, PySem.W.not_lt_int]
  rw [h2]
  exact decide_eq_true (by omega)
theorem srt_keys (hS : S.length ≤ 1000) : Srt (S.map soKey) where
  nl := nl_all (fun s => by show nlAll [_, _] = true; simp [nlAll, nl_nI, nl_cols]) _
  al := AllAlike.of alike_key
  so := Sortable.tuples fun b => ⟨_, _, rfl⟩
  dp := fun d hd => by obtain ⟨c, _, rfl⟩ := List.mem_map.mp hd; have := depth_key c; omega
  ln := by rw [List.length_map]; omega
theorem sort_keys (S : List (List Nat)) : (S.map soKey).mergeSort (dataLe false id) = (S.mergeSort soLe).map soKey := by
  symm
  refine List.map_mergeSort fun a _ b _ => ?_
  rfl
theorem en_sortSO (h : EvD K te σ H (.list (S.map cols))) (hS : S.length ≤ 1000) (hs : ∀ s ∈ S, s.length ≤ 1000) : EvN K (tCKw (rSortSO K) (tCons te tNil) (tCons (tC (.ref (He.ga K "set_order"))) tNil)) σ H ((S.mergeSort soLe).map cols) := fun H1 e Q q =>
  h H1 e _ fun v H2 e2 hv => by
    obtain ⟨r, xs, rfl, _, _⟩ := id hv.list_inv
    exact ⟨r, S, rfl, rfl, hv, hS, hs, fun p ws hp hws => q p ws _ (Evl.fresh_back e2 hp) (e2.trans (Ex.new hp)) upd_same (hws.ex (Ex.new hp))⟩
end
section
variable {P : Program} {w : World} {K : Fg} {mg : Str → Option Value} {base : Heap}
/-! ### schemes.sets_of_columns -/
theorem sc_sets_of_columns : FnScope ["columns", "found", "column", "known"] ["columns"] (defScope s_sets_of_columns) := ⟨rfl, rfl, rfl, by decide +kernel, rfl, by decide +kernel, by decide +kernel⟩
def spSets (K : Fg) : Sp := spL (α := Nat) K (fun n => [.list ((List.range n).map nI)]) (fun n => n ≤ 5) (fun n => (soS n).map cols)
theorem cols_snoc (s : List Nat) (c : Nat) : cols (s ++ [c]) = .tuple (s.map nI ++ [nI c]) := by simp [cols]
theorem ok_sets_of_columns (T : Txt K mg) : Good P w K mg base 4 "sets_of_columns" ["columns"] (spSets K) := by
  refine good_of (q := "sets_of_columns") (st := s_sets_of_columns) (N := ["columns", "found", "column", "known"]) T.g_sets_of_columns (T.def_ 15) sc_sets_of_columns (fun _ _ _ _ _ _ us hl => match us, hl with | [_], _ => rfl) (len_spL fun _ => rfl) fun cdv A outer s H vs Q E hr h =>
    ⟨_, (pss_cons (ps_set (i := 1) sc_sets_of_columns.nd rfl (by first | exact Or.inl rfl | exact Or.inr rfl) (pe_lst (pa_cons (pe_tup pa_nil) pa_nil)))
        (pss_cons (ps_for PassesOwn.never rfl (kSq (K := K) rfl (pe_callB (kSrtL (K := K) rfl (room64 hr)) rfl T.sorted0 PyProof.Rows.boot_sorted (pa_cons (pv 0) pa_nil))) (pg_name (i := 2) sc_sets_of_columns.nd rfl (by first | exact Or.inl rfl | exact Or.inr rfl)) (pss_one (ps_set (i := 1) sc_sets_of_columns.nd rfl (by first | exact Or.inl rfl | exact Or.inr rfl) (pe_op (kPlus (K := K) rfl) (pv 1) (pe_lc (own := [("known", 3)]) (g := gName 3) rfl sc_sets_of_columns.nd (kSq (K := K) rfl (pv 1)) (blkOk_by (by kernel_rfl)) (fun _ _ _ _ _ => (pg_name (i := 3) sc_sets_of_columns.nd rfl (by first | exact Or.inl rfl | exact Or.inr rfl))) (fun _ _ _ _ _ => pts_nil) (fun _ _ _ _ _ => (pe_op (kPlus (K := K) rfl) (pv 3) (pe_tup (pa_cons (pv 2) pa_nil)))))))))
        (pss_one (ps_ret (pe_callBK (kSortSO (K := K) rfl rfl T (hr.mono (by decide))) rfl T.sorted0 PyProof.Rows.boot_sorted (pa_cons (pv 1) pa_nil) (pk_cons (pe_glob rfl T.g_set_order (v := .ref (He.ga K "set_order")) rfl) pk_nil)))))), ?_⟩
  obtain ⟨n, hv, hn, q⟩ := h
  obtain ⟨x, rfl, hx⟩ := dpAll1 hv
  have hn : n ≤ 5 := hn
  refine q_setL (K := K) (en_lst (ea1 (ed_tup ea_nil (by simp))) (by simp)) fun f H1 hf e1 hl1 => ?_
  refine q_for (K := K) (M := []) (as := List.range n) (enc := nI) (es_inl (es_lst (EvN.toD (en_is (en_srtL (ed_var rfl (hx.ex e1)) (srt_cols n (by omega))) (sort_cols n)))))
    (fun i σ' H' => ∃ (f : Addr) (s2 s3 : Option V), σ' = [some x, some (.ref f), s2, s3] ∧ Ex H H' ∧ Lst K H' f ((ssF ((List.range n).take i)).map cols)) ⟨f, _, _, rfl, e1, hl1⟩
    (fun _ _ _ _ h e => let ⟨f, s2, s3, h1, h2, h3⟩ := h; ⟨f, s2, s3, h1, h2.trans e, h3.ex e⟩) ?_ ?_
  · rintro i c y σ1 H2 hc ⟨f, s2, s3, rfl, e2, hl⟩ _ hy
    have hi : i < n := by simpa using (List.getElem?_eq_some_iff.mp hc).1
    have hlen : (ssF ((List.range n).take i)).length ≤ 32 := by
      rw [ssF_len _ _ (by simp; omega)]
      exact Nat.le_trans (Nat.pow_le_pow_right (by decide) (show i ≤ 5 by omega)) (by decide)
    have hel : ∀ s ∈ ssF ((List.range n).take i), s.length ≤ 5 := fun s hs => by
      have := (ssF_sub _ i (by simp; omega) s hs).length_le
      rw [List.length_take] at this
      omega
    refine ⟨_, tgt_name, fun H3 e3 N hN => ?_⟩
    have hl3 := hl.ex e3
    refine s_setL (K := K) (en_add (el_var rfl hl3) (EvN.toL (en_lcM (as := ssF ((List.range n).take i)) (enc := cols) (fun s => cols (s ++ [c])) (es_sqL (ed_var rfl hl3.dp)) (by omega) (fun _ _ => nl_cols _) fun s hs u H4 e4 hu =>
      ⟨_, tgt_name, rfl, ed_is (ed_addT (ed_var rfl hu) (ed_tup (ea1 (ed_var rfl ((hy.ex e3).ex e4))) (by simp)) (by rw [List.length_map]; have := hel s hs; simp; omega)) (cols_snoc s c).symm⟩)) (by rw [List.length_map, List.length_map]; omega)) fun p H4 _ e4 hl4 => hN _ _ ⟨p, _, _, rfl, (e2.trans e3).trans e4, ?_⟩ (.of e4)
    rw [take_snoc hc, ssF_snoc, List.map_append, List.map_map]
    exact hl4
  · rintro σ1 H2 ⟨f, s2, s3, rfl, e2, hl⟩ _
    rw [List.take_length] at hl
    have hS : (ssF (List.range n)).length ≤ 32 := by
      have := ssF_len (List.range n) n (by simp)
      rw [List.take_of_length_le (by simp)] at this
      rw [this]
      exact Nat.le_trans (Nat.pow_le_pow_right (by decide) hn) (by decide)
    refine (en_sortSO (ed_var rfl hl.dp) (by omega) fun s hs => ?_) H2 (Ex.refl H2) _ fun p ws H3 hp e3 h1 h2 => q p H3 ?_ (e2.trans e3) ⟨ws, h1, h2⟩
    · have := ssF_sub (List.range n) n (by simp) s (by rwa [List.take_of_length_le (by simp)])
      have := this.length_le
      rw [List.length_take] at this
      omega
    · exact Evl.fresh_back e2 hp
/-! ### _law_sets -/
theorem sc_L_sets : FnScope ["_law_columns", "_law_found", "_law_column", "_law_keyed", "_law_key", "_law_one"] ["_law_columns"] (defScope s_L_sets) := ⟨rfl, rfl, rfl, by decide +kernel, rfl, by decide +kernel, by decide +kernel⟩
def spLSets (K : Fg) : Sp := spL (α := Nat) K (fun n => [cols (List.range n)]) (fun n => n ≤ 5) (fun n => (soS n).map cols)
theorem ok_L_sets (T : Txt K mg) : Good P w K mg base 1 "_law_sets" ["_law_columns"] (spLSets K) := by
  refine good_of (q := "_law_sets") (st := s_L_sets) (N := ["_law_columns", "_law_found", "_law_column", "_law_keyed", "_law_key", "_law_one"]) T.g__law_sets (T.def_ 30) sc_L_sets (fun _ _ _ _ _ _ us hl => match us, hl with | [_], _ => rfl) (len_spL fun _ => rfl) fun cdv A outer s H vs Q E hr h =>
    ⟨_, (pss_cons (ps_set (i := 1) sc_L_sets.nd rfl (by first | exact Or.inl rfl | exact Or.inr rfl) (pe_lst (pa_cons (pe_tup pa_nil) pa_nil)))
        (pss_cons (ps_for PassesOwn.never rfl (kSq (K := K) rfl (pv 0)) (pg_name (i := 2) sc_L_sets.nd rfl (by first | exact Or.inl rfl | exact Or.inr rfl)) (pss_one (ps_set (i := 1) sc_L_sets.nd rfl (by first | exact Or.inl rfl | exact Or.inr rfl) (pe_op (kPlus (K := K) rfl) (pv 1) (pe_lc (own := [("_law_one", 5)]) (g := gName 5) rfl sc_L_sets.nd (kSq (K := K) rfl (pv 1)) (blkOk_by (by kernel_rfl)) (fun _ _ _ _ _ => (pg_name (i := 5) sc_L_sets.nd rfl (by first | exact Or.inl rfl | exact Or.inr rfl))) (fun _ _ _ _ _ => pts_nil) (fun _ _ _ _ _ => (pe_op (kPlus (K := K) rfl) (pv 5) (pe_tup (pa_cons (pv 2) pa_nil)))))))))
        (pss_cons (ps_set (i := 3) sc_L_sets.nd rfl (by first | exact Or.inl rfl | exact Or.inr rfl) (pe_callB (kSrtL (K := K) rfl (room64 hr)) rfl T.sorted0 PyProof.Rows.boot_sorted (pa_cons (pe_lc (own := [("_law_one", 5)]) (g := gName 5) rfl sc_L_sets.nd (kSq (K := K) rfl (pv 1)) (blkOk_by (by kernel_rfl)) (fun _ _ _ _ _ => (pg_name (i := 5) sc_L_sets.nd rfl (by first | exact Or.inl rfl | exact Or.inr rfl))) (fun _ _ _ _ _ => pts_nil) (fun _ _ _ _ _ => (pe_tup (pa_cons (pe_callB (kLen (K := K) rfl) rfl T.len0 PySem.boot_len (pa_cons (pv 5) pa_nil)) (pa_cons (pv 5) pa_nil))))) pa_nil)))
        (pss_one (ps_ret (pe_lc (own := [("_law_key", 4)]) (g := gName 4) rfl sc_L_sets.nd (kSq (K := K) rfl (pv 3)) (blkOk_by (by kernel_rfl)) (fun _ _ _ _ _ => (pg_name (i := 4) sc_L_sets.nd rfl (by first | exact Or.inl rfl | exact Or.inr rfl))) (fun _ _ _ _ _ => pts_nil) (fun _ _ _ _ _ => (pe_ix (kIx (K := K) rfl) (pv 4) pe_int (fun _ _ => rfl))))))))), ?_⟩
  obtain ⟨n, hv, hn, q⟩ := h
  obtain ⟨x, rfl, hx⟩ := dpAll1 hv
  have hn : n ≤ 5 := hn
  refine q_setL (K := K) (en_lst (ea1 (ed_tup ea_nil (by simp))) (by simp)) fun f H1 hf e1 hl1 => ?_
  refine q_for (K := K) (M := []) (as := List.range n) (enc := nI) (es_sqT (ed_var rfl (hx.ex e1)))
    (fun i σ' H' => ∃ (f : Addr) (s2 s3 s4 s5 : Option V), σ' = [some x, some (.ref f), s2, s3, s4, s5] ∧ Ex H H' ∧ Lst K H' f ((ssF ((List.range n).take i)).map cols)) ⟨f, _, _, _, _, rfl, e1, hl1⟩
    (fun _ _ _ _ h e => let ⟨f, s2, s3, s4, s5, h1, h2, h3⟩ := h; ⟨f, s2, s3, s4, s5, h1, h2.trans e, h3.ex e⟩) ?_ ?_
  · rintro i c y σ1 H2 hc ⟨f, s2, s3, s4, s5, rfl, e2, hl⟩ _ hy
    have hi : i < n := by simpa using (List.getElem?_eq_some_iff.mp hc).1
    have hlen : (ssF ((List.range n).take i)).length ≤ 32 := by
      rw [ssF_len _ _ (by simp; omega)]
      exact Nat.le_trans (Nat.pow_le_pow_right (by decide) (show i ≤ 5 by omega)) (by decide)
    have hel : ∀ s ∈ ssF ((List.range n).take i), s.length ≤ 5 := fun s hs => by
      have := (ssF_sub _ i (by simp; omega) s hs).length_le
      rw [List.length_take] at this
      omega
    refine ⟨_, tgt_name, fun H3 e3 N hN => ?_⟩
    have hl3 := hl.ex e3
    refine s_setL (K := K) (en_add (el_var rfl hl3) (EvN.toL (en_lcM (as := ssF ((List.range n).take i)) (enc := cols) (fun s => cols (s ++ [c])) (es_sqL (ed_var rfl hl3.dp)) (by omega) (fun _ _ => nl_cols _) fun s hs u H4 e4 hu =>
      ⟨_, tgt_name, rfl, ed_is (ed_addT (ed_var rfl hu) (ed_tup (ea1 (ed_var rfl ((hy.ex e3).ex e4))) (by simp)) (by rw [List.length_map]; have := hel s hs; simp; omega)) (cols_snoc s c).symm⟩)) (by rw [List.length_map, List.length_map]; omega)) fun p H4 _ e4 hl4 => hN _ _ ⟨p, _, _, _, _, rfl, (e2.trans e3).trans e4, ?_⟩ (.of e4)
    rw [take_snoc hc, ssF_snoc, List.map_append, List.map_map]
    exact hl4
  · rintro σ1 H2 ⟨f, s2, s3, s4, s5, rfl, e2, hl⟩ _
    rw [List.take_length] at hl
    have hS : (ssF (List.range n)).length ≤ 32 := by
      have := ssF_len (List.range n) n (by simp)
      rw [List.take_of_length_le (by simp)] at this
      rw [this]
      exact Nat.le_trans (Nat.pow_le_pow_right (by decide) hn) (by decide)
    refine q_setL (K := K) (en_is (en_srtL (EvN.toD (en_lcM (as := ssF (List.range n)) (enc := cols) soKey (es_sqL (ed_var rfl hl.dp)) (by omega) (fun s _ => by show nlAll [_, _] = true; simp [nlAll, nl_nI, nl_cols]) fun s hs u H4 e4 hu =>
      ⟨_, tgt_name, rfl, ed_tup (ea2 (ed_is (ed_lenT (ed_var rfl hu)) (by rw [List.length_map]; rfl)) (ed_var rfl hu)) (by simp)⟩)) (srt_keys (by omega))) (sort_keys _)) fun k H3 hk e3 hlk => ?_
    refine (en_lcM (as := soS n) (enc := soKey) cols (es_sqL (ed_var rfl hlk.dp)) (by rw [soS_len]; exact Nat.le_trans (Nat.pow_le_pow_right (by decide) hn) (by decide)) (fun _ _ => nl_cols _) fun s hs u H4 e4 hu => ⟨_, tgt_name, rfl, ed_ixT (n := 1) (ed_var rfl hu) ed_i rfl⟩) H3 (Ex.refl H3) _ fun p ws H4 hp e4 h1 h2 => q p H4 (Evl.fresh_back (e2.trans e3) hp) ((e2.trans e3).trans e4) ⟨ws, h1, h2⟩
end
end NS
set_option Elab.async false
set_option linter.all false
set_option maxRecDepth 100000
set_option maxHeartbeats 4000000
namespace NS
open PySem PySem.Spec PyProof.Rows L2
open Evl (Ex)
theorem tuple_mul1 (l : Addr) (items : Array Value) (n : Nat) (dd : Option Addr) (sl : Array (Option Value)) (u : Tok) :
    Meets (Builtin.«tuple.__mul__» ⟨[.ref l, .int 1 u], []⟩) (fun _ R s => s.heap.get? l = some { cls := .type "tuple", dict := dd, data := .seq items n, slots := sl } ∧ R (.ok (.ret (Value.ref l))) s) :=
  .of_wp fun prog w A R s h => by
    obtain ⟨hp, g, d, tk, os⟩ := s
    obtain ⟨hl, h⟩ := h
    have f1 := AutoSeq1.idx_int
    wp_walk using PyProof.Rows.wpAny_loadPart' hl
    exact ⟨_, rfl, h⟩
def rMul1 (K : Fg) : R2 := fun x y H Q => ∃ l xs, x = .ref l ∧ y = .int 1 ∧ SqT K H l xs ∧ Q (.ref l) H
theorem op_mul1 {X : Cx} : OpR X (binaryOp .Mult) (rMul1 X.K) := by
  intro pins s σ H x y v u Q I rx ry h
  obtain ⟨l, xs, rfl, rfl, hT, q⟩ := h
  cases rx
  obtain ⟨t, rfl⟩ := ry
  obtain ⟨its, r, ⟨⟨cls, dd, data, sl⟩, ho, hc, n, hd⟩, hs⟩ := I.tuple hT
  simp only at hc hd
  subst hc hd
  exact wpAny_binaryOp_repeat_ref (T := "tuple") (U := "int") (by decide) ⟨_, ho, rfl⟩ (fun s' => typeIs_int s' 1 t) noFill_tuple_mul F.fills_int_mul F.slot_int_rmul repeat_tuple F.slot_int_index.lookup
    (call_meets F.slot_int_rmul (typeIs_int s 1 t) F.entry_int_rmul (F.args_int_rmul_2 _ _) (int_rmul_tuple 1 t l its.toArray n dd sl)
      ⟨ho, rfl, ⟨_, ho, rfl⟩, call_meets F.slot_tuple_mul ⟨_, ho, rfl⟩ F.entry_tuple_mul (F.args_tuple_mul_2 _ _) (tuple_mul1 l its.toArray n dd sl t) ⟨ho, ⟨.ref l, H, I, rfl, q⟩⟩⟩)
theorem kMul1 {X : Cx} {K : Fg} (hK : X.K = K) : OpR X (binaryOp .Mult) (rMul1 K) := hK ▸ op_mul1
end NS
set_option Elab.async false
set_option linter.all false
set_option maxRecDepth 100000
set_option maxHeartbeats 4000000
namespace NS
/-! ### the chase in plain Lean -/
theorem pk_eq {r r' : List Int} {cs : List Nat} : pk r cs = pk r' cs ↔ ∀ c ∈ cs, r.getD c 0 = r'.getD c 0 := List.map_inj_left
/-- the rows settle d -/
def StD (rows : List (List Int)) (d : Dep) : Prop := ∀ one ∈ rows, ∀ other ∈ rows, pk one d.l = pk other d.l → pk one d.r = pk other d.r
def keysOf (bec : List (Int × Int)) : List Int := bec.map (·.1)
/-- what is known of a chase: R0 the rows at the start, rows the table, bec what became what, nu the value that stands for a value -/
structure CI (n : Nat) (B : Book) (R0 rows : List (List Int)) (bec : List (Int × Int)) (nu : Int → Int) : Prop where
  len : ∀ r ∈ R0, r.length = n
  neg : ∀ r ∈ R0, ∀ x ∈ r, x ≤ -1
  nu0 : ∀ x, x ∉ keysOf bec → nu x = x
  nu1 : ∀ p ∈ bec, nu p.1 = nu p.2
  rise : ∀ p ∈ bec, p.1 < p.2 ∧ p.2 ≤ -1
  fwd : ∀ r ∈ R0, r.map nu ∈ rows
  bwd : ∀ r ∈ rows, ∃ r0 ∈ R0, r = r0.map nu
  free : ∀ r ∈ rows, ∀ x ∈ r, x ∉ keysOf bec
  nd : (keysOf bec).Nodup
  sub : ∀ x ∈ keysOf bec, x ∈ R0.flatten
  img : ∀ x ∈ R0.flatten, nu x ∈ R0.flatten
  hom : ∀ (α : Type) (T : (Nat → α) → Prop) (h : Int → α), Keeps T B → (∀ r ∈ R0, T fun c => h (r.getD c 0)) → ∀ x, h (nu x) = h x
  ln : rows.length ≤ R0.length
theorem nodup_incl : ∀ {l m : List Int}, l.Nodup → (∀ x ∈ l, x ∈ m) → l.length ≤ m.length
  | [], _, _, _ => Nat.zero_le _
  | a :: l, m, h, k => by
    have ⟨h1, h2⟩ := List.nodup_cons.mp h
    have ih := nodup_incl (l := l) (m := m.erase a) h2 fun x hx => (List.mem_erase_of_ne (fun e => h1 (by rw [← e]; exact hx))).mpr (k x (List.mem_cons_of_mem _ hx))
    have ha := k a (List.mem_cons_self ..)
    rw [List.length_erase_of_mem ha] at ih
    have := List.length_pos_of_mem ha
    rw [List.length_cons]
    omega
section
variable {n : Nat} {B : Book} {R0 rows rows' : List (List Int)} {bec : List (Int × Int)} {nu : Int → Int}
theorem CI.start (len : ∀ r ∈ R0, r.length = n) (neg : ∀ r ∈ R0, ∀ x ∈ r, x ≤ -1) : CI n B R0 R0 [] id where
  len := len
  neg := neg
  nu0 := fun _ _ => rfl
  nu1 := fun _ h => by cases h
  rise := fun _ h => by cases h
  fwd := fun r h => by rw [List.map_id]; exact h
  bwd := fun r h => ⟨r, h, by rw [List.map_id]⟩
  free := fun _ _ _ _ h => by cases h
  nd := List.nodup_nil
  sub := fun _ h => by cases h
  img := fun _ h => h
  hom := fun _ _ _ _ _ _ => rfl
  ln := Nat.le_refl _
theorem CI.bec_len (C : CI n B R0 rows bec nu) : bec.length ≤ R0.flatten.length := by
  have := nodup_incl C.nd C.sub
  unfold keysOf at this
  rwa [List.length_map] at this
theorem CI.rlen (C : CI n B R0 rows bec nu) {r : List Int} (h : r ∈ rows) : r.length = n := by
  obtain ⟨r0, h0, rfl⟩ := C.bwd r h
  rw [List.length_map]
  exact C.len r0 h0
theorem CI.val (C : CI n B R0 rows bec nu) {r : List Int} (h : r ∈ rows) {x : Int} (hx : x ∈ r) : x ∈ R0.flatten ∧ x ≤ -1 := by
  obtain ⟨r0, h0, rfl⟩ := C.bwd r h
  obtain ⟨y, hy, rfl⟩ := List.mem_map.mp hx
  have h1 := C.img y (List.mem_flatten.mpr ⟨r0, h0, hy⟩)
  refine ⟨h1, ?_⟩
  obtain ⟨r1, h2, h3⟩ := List.mem_flatten.mp h1
  exact C.neg r1 h2 _ h3
theorem map_getD {f : Int → Int} {r : List Int} {c : Nat} (h : c < r.length) : (r.map f).getD c 0 = f (r.getD c 0) := by
  simp [List.getD_eq_getElem?_getD, List.getElem?_eq_getElem h]
theorem CI.step (C : CI n B R0 rows bec nu) (okB : OkB n B) {d : Dep} (hd : d ∈ B) {one other : List Int} (h1 : one ∈ rows) (h2 : other ∈ rows) (hl : pk one d.l = pk other d.l) {c : Nat} (hc : c ∈ d.r) {l g : Int}
    (hlg : (one.getD c 0 = l ∧ other.getD c 0 = g) ∨ (one.getD c 0 = g ∧ other.getD c 0 = l)) (lt : l < g)
    (hr : ∀ r', r' ∈ rows' ↔ ∃ r ∈ rows, r' = NS.sub l g r) (hln : rows'.length ≤ rows.length) :
    CI n B R0 rows' (bec ++ [(l, g)]) (fun x => if nu x = l then g else nu x) := by
  have hcn : c < n := sub_lt (okB d hd).r hc
  have m1 : one.getD c 0 ∈ one := getD_mem (by rw [C.rlen h1]; exact hcn)
  have m2 : other.getD c 0 ∈ other := getD_mem (by rw [C.rlen h2]; exact hcn)
  have lv : l ∉ keysOf bec ∧ l ∈ R0.flatten ∧ l ≤ -1 := by
    rcases hlg with ⟨e, _⟩ | ⟨_, e⟩
    · rw [← e]; exact ⟨C.free _ h1 _ m1, C.val h1 m1⟩
    · rw [← e]; exact ⟨C.free _ h2 _ m2, C.val h2 m2⟩
  have gv : g ∉ keysOf bec ∧ g ∈ R0.flatten ∧ g ≤ -1 := by
    rcases hlg with ⟨_, e⟩ | ⟨e, _⟩
    · rw [← e]; exact ⟨C.free _ h2 _ m2, C.val h2 m2⟩
    · rw [← e]; exact ⟨C.free _ h1 _ m1, C.val h1 m1⟩
  have nl : nu l = l := C.nu0 l lv.1
  have ng : nu g = g := C.nu0 g gv.1
  have ne : g ≠ l := by omega
  have hk : keysOf (bec ++ [(l, g)]) = keysOf bec ++ [l] := by unfold keysOf; rw [List.map_append]; rfl
  have hm : ∀ r0 : List Int, (r0.map fun x => if nu x = l then g else nu x) = NS.sub l g (r0.map nu) := fun r0 => by
    unfold NS.sub
    rw [List.map_map]
    rfl
  refine ⟨C.len, C.neg, fun x hx => ?_, fun p hp => ?_, fun p hp => ?_, fun r hr0 => ?_, fun r h => ?_, fun r h x hx => ?_, ?_, fun x hx => ?_, fun x hx => ?_, fun α T h kT hT x => ?_, Nat.le_trans hln C.ln⟩
  · rw [hk] at hx
    have hx1 : x ∉ keysOf bec := fun q => hx (List.mem_append_left _ q)
    have hx2 : x ≠ l := fun q => hx (by rw [q]; simp)
    simp only [C.nu0 x hx1]
    rw [if_neg hx2]
  · rcases List.mem_append.mp hp with q | q
    · simp only [C.nu1 p q]
    · rw [List.mem_singleton.mp q]
      simp only [nl, ng]
      rw [if_pos trivial, if_neg ne]
  · rcases List.mem_append.mp hp with q | q
    · exact C.rise p q
    · rw [List.mem_singleton.mp q]; exact ⟨lt, gv.2.2⟩
  · rw [hm]
    exact (hr _).mpr ⟨_, C.fwd r hr0, rfl⟩
  · obtain ⟨r1, h1', rfl⟩ := (hr r).mp h
    obtain ⟨r0, h0, rfl⟩ := C.bwd r1 h1'
    exact ⟨r0, h0, (hm r0).symm⟩
  · obtain ⟨r1, h1', rfl⟩ := (hr r).mp h
    rw [hk]
    obtain ⟨hne, hx'⟩ := mem_sub hx (by omega)
    intro q
    rcases List.mem_append.mp q with q | q
    · rcases hx' with rfl | hx'
      · exact gv.1 q
      · exact C.free r1 h1' x hx' q
    · exact hne (List.mem_singleton.mp q)
  · rw [hk]
    exact List.nodup_append.mpr ⟨C.nd, by simp, fun a ha b hb e => lv.1 (by rw [List.mem_singleton.mp hb] at e; rw [← e]; exact ha)⟩
  · rw [hk] at hx
    rcases List.mem_append.mp hx with q | q
    · exact C.sub x q
    · rw [List.mem_singleton.mp q]; exact lv.2.1
  · by_cases e : nu x = l
    · simp only [e]; rw [if_pos trivial]; exact gv.2.1
    · rw [if_neg e]; exact C.img x hx
  · have hx := C.hom α T h kT hT
    have himg : ∀ r ∈ rows, ∃ f, T f ∧ ∀ c, c < n → f c = h (r.getD c 0) := fun r hr' => by
      obtain ⟨r0, h0, rfl⟩ := C.bwd r hr'
      refine ⟨_, hT r0 h0, fun c hc => ?_⟩
      rw [map_getD (by rw [C.len r0 h0]; exact hc), hx]
    obtain ⟨f1, t1, e1⟩ := himg one h1
    obtain ⟨f2, t2, e2⟩ := himg other h2
    have agree : f1 c = f2 c := kT d hd f1 f2 t1 t2 (fun x hx => by
      rw [e1 x (sub_lt (okB d hd).l hx), e2 x (sub_lt (okB d hd).l hx), pk_eq.mp hl x hx]) c hc
    rw [e1 c hcn, e2 c hcn] at agree
    have hlg' : h g = h l := by
      rcases hlg with ⟨q1, q2⟩ | ⟨q1, q2⟩
      · rw [q1, q2] at agree; exact agree.symm
      · rw [q1, q2] at agree; exact agree
    by_cases e : nu x = l
    · simp only [e]; rw [if_pos trivial, hlg', ← e, hx]
    · simp only [if_neg e]; exact hx x
/-- the table as rows that are functions -/
def TF (n : Nat) (rows : List (List Int)) (f : Nat → Int) : Prop := ∃ r ∈ rows, ∀ c, c < n → f c = r.getD c 0
theorem keeps_TF (okB : OkB n B) (h : ∀ d ∈ B, StD rows d) : Keeps (TF n rows) B := by
  rintro d hd f g ⟨r, hr, e⟩ ⟨r', hr', e'⟩ hl c hc
  have h1 : pk r d.l = pk r' d.l := pk_eq.mpr fun x hx => by
    rw [← e x (sub_lt (okB d hd).l hx), ← e' x (sub_lt (okB d hd).l hx)]
    exact hl x hx
  have h2 := pk_eq.mp (h d hd r hr r' hr' h1) c hc
  rw [e c (sub_lt (okB d hd).r hc), e' c (sub_lt (okB d hd).r hc)]
  exact h2
/-- every dependency stays within the columns -/
theorem cl_lt (okB : OkB n B) {X : List Nat} (hX : ∀ x ∈ X, x < n) {c : Nat} (h : Cl B X c) : c < n := by
  induction h with
  | base h => exact hX _ h
  | step hd _ hc _ => exact sub_lt (okB _ hd).r hc
theorem fr_get {c : Nat} (h : c < n) : (fr n).getD c 0 = -1 - (c : Int) := by
  unfold fr
  simp [List.getD_eq_getElem?_getD, h]
theorem pr_get {p : List Nat} {t c : Nat} (h : c < n) : (pr n p t).getD c 0 = -1 - (((if c ∈ p then c else n * t + c) : Nat) : Int) := by
  unfold pr
  simp [List.getD_eq_getElem?_getD, h]
theorem fr_len : (fr n).length = n := by simp [fr]
theorem pr_len {p : List Nat} {t : Nat} : (pr n p t).length = n := by simp [pr]
theorem fr_neg {x : Int} (h : x ∈ fr n) : x ≤ -1 := by
  obtain ⟨c, _, rfl⟩ := List.mem_map.mp h
  omega
theorem pr_neg {p : List Nat} {t : Nat} {x : Int} (h : x ∈ pr n p t) : x ≤ -1 := by
  obtain ⟨c, _, rfl⟩ := List.mem_map.mp h
  omega
/-- what the chase tells of X to c -/
theorem CI.tells (C : CI n B R0 rows bec nu) (okB : OkB n B) {X : List Nat} (hX : ∀ x ∈ X, x < n) (hs : ∀ d ∈ B, StD rows d) (m1 : fr n ∈ R0) (m2 : pr n X 1 ∈ R0) (only : ∀ r ∈ R0, r = fr n ∨ r = pr n X 1) {c : Nat} (hc : c < n) (hcX : c ∉ X) :
    nu (-1 - (c : Int)) = nu (-1 - ((n + c : Nat) : Int)) ↔ Cl B X c := by
  constructor
  · intro e
    -- the two rows that tell what X settles
    let h : Int → Bool := fun v => if 0 ≤ -1 - v ∧ -1 - v < n then true else chi B X ((-1 - v - n).toNat)
    have h1 : ∀ a : Nat, a < n → h (-1 - (a : Int)) = true := fun a ha => by
      show (if 0 ≤ -1 - (-1 - (a : Int)) ∧ -1 - (-1 - (a : Int)) < n then true else _) = true
      rw [if_pos ⟨by omega, by omega⟩]
    have h2 : ∀ a : Nat, h (-1 - ((n + a : Nat) : Int)) = chi B X a := fun a => by
      show (if 0 ≤ -1 - (-1 - ((n + a : Nat) : Int)) ∧ -1 - (-1 - ((n + a : Nat) : Int)) < n then true else _) = _
      rw [if_neg (by omega)]
      congr 1
      omega
    let T : (Nat → Bool) → Prop := fun f => (∀ c, c < n → f c = true) ∨ (∀ c, c < n → f c = chi B X c)
    have kT : Keeps T B := by
      intro d hd f g hf hg hl c' hc'
      have hcn := sub_lt (okB d hd).r hc'
      have key : (∀ x ∈ d.l, chi B X x = true) → chi B X c' = true := fun q => chi_true.mpr (.step hd (fun x hx => chi_true.mp (q x hx)) hc')
      have lln : ∀ x ∈ d.l, x < n := fun x hx => sub_lt (okB d hd).l hx
      rcases hf with hf | hf <;> rcases hg with hg | hg
      · rw [hf c' hcn, hg c' hcn]
      · rw [hf c' hcn, hg c' hcn]
        exact (key fun x hx => by rw [← hg x (lln x hx), ← hl x hx, hf x (lln x hx)]).symm
      · rw [hf c' hcn, hg c' hcn]
        exact key fun x hx => by rw [← hf x (lln x hx), hl x hx, hg x (lln x hx)]
      · rw [hf c' hcn, hg c' hcn]
    have hT : ∀ r ∈ R0, T fun c => h (r.getD c 0) := fun r hr => by
      rcases only r hr with rfl | rfl
      · refine .inl fun a ha => ?_
        simp only [fr_get ha]
        exact h1 a ha
      · refine .inr fun a ha => ?_
        simp only [pr_get ha]
        by_cases ax : a ∈ X
        · simp only [if_pos ax]
          rw [h1 a ha]
          exact (chi_true.mpr (.base ax)).symm
        · simp only [if_neg ax, Nat.mul_one]
          exact h2 a
    have q := C.hom Bool T h kT hT
    have q1 := q (-1 - (c : Int))
    rw [e, q, h1 c hc, h2 c] at q1
    exact chi_true.mp q1
  · intro q
    have k := keeps_TF okB hs
    have t1 : TF n rows fun c => ((fr n).map nu).getD c 0 := ⟨_, C.fwd _ m1, fun _ _ => rfl⟩
    have t2 : TF n rows fun c => ((pr n X 1).map nu).getD c 0 := ⟨_, C.fwd _ m2, fun _ _ => rfl⟩
    have g1 : ∀ a, a < n → ((fr n).map nu).getD a 0 = nu (-1 - (a : Int)) := fun a ha => by rw [map_getD (by rw [fr_len]; exact ha), fr_get ha]
    have g2 : ∀ a, a < n → ((pr n X 1).map nu).getD a 0 = nu (-1 - (((if a ∈ X then a else n * 1 + a) : Nat) : Int)) := fun a ha => by rw [map_getD (by rw [pr_len]; exact ha), pr_get ha]
    have := k.cl q t1 t2 fun x hx => by
      show ((fr n).map nu).getD x 0 = ((pr n X 1).map nu).getD x 0
      rw [g1 x (hX x hx), g2 x (hX x hx), if_pos hx]
    have e : ((fr n).map nu).getD c 0 = ((pr n X 1).map nu).getD c 0 := this
    rw [g1 c hc, g2 c hc, if_neg hcX, Nat.mul_one] at e
    exact e
/-- the first row is there: a superkey among the sets, every dependency of C within one -/
theorem CI.there (C : CI n B R0 rows bec nu) (okB : OkB n B) (hs : ∀ d ∈ B, StD rows d) {Cv : Book} (i1 : Imp Cv B) (i2 : Imp B Cv) {sets : List (List Nat)} (hsub : ∀ s ∈ sets, ∀ c ∈ s, c < n)
    (hin : ∀ d ∈ Cv, ∃ s ∈ sets, (∀ x ∈ d.l, x ∈ s) ∧ ∀ c ∈ d.r, c ∈ s) (hm : ∀ s ∈ sets, ∃ t, pr n s t ∈ R0) {S : List Nat} (hS : S ∈ sets) (key : ∀ c, c < n → Cl B S c) : (fr n).map nu ∈ rows := by
  have k := keeps_TF okB hs
  have g1 : ∀ a, a < n → ((fr n).map nu).getD a 0 = nu (-1 - (a : Int)) := fun a ha => by rw [map_getD (by rw [fr_len]; exact ha), fr_get ha]
  have part : ∀ s ∈ sets, ∃ r ∈ rows, (∃ t, r = (pr n s t).map nu) ∧ ∀ x ∈ s, r.getD x 0 = ((fr n).map nu).getD x 0 := fun s hs' => by
    obtain ⟨t, ht⟩ := hm s hs'
    refine ⟨_, C.fwd _ ht, ⟨t, rfl⟩, fun x hx => ?_⟩
    rw [g1 x (hsub s hs' x hx), map_getD (by rw [pr_len]; exact hsub s hs' x hx), pr_get (hsub s hs' x hx), if_pos hx]
  obtain ⟨r, hr, ⟨t, rfl⟩, hrx⟩ := part S hS
  have : (pr n S t).map nu = (fr n).map nu := by
    refine List.ext_getElem (by rw [List.length_map, List.length_map, pr_len, fr_len]) fun c h1 h2 => ?_
    have hcn : c < n := by rw [List.length_map, pr_len] at h1; exact h1
    have := lossless (t := fun c => ((fr n).map nu).getD c 0) k i1 i2 hin (fun s hs' => by
      obtain ⟨r', hr', _, hx⟩ := part s hs'
      exact ⟨fun c => r'.getD c 0, ⟨r', hr', fun _ _ => rfl⟩, hx⟩) (f := fun c => ((pr n S t).map nu).getD c 0) ⟨_, hr, fun _ _ => rfl⟩ hrx (key c hcn)
    simp only [List.getD_eq_getElem?_getD, List.getElem?_eq_getElem h1, List.getElem?_eq_getElem h2, Option.getD_some] at this
    exact this
  rw [← this]
  exact hr
end
end NS
set_option Elab.async false
set_option linter.all false
set_option maxRecDepth 100000
set_option maxHeartbeats 4000000
namespace NS
open PySem PySem.Spec PyProof.Rows L2
open Evl (Ex)
/-! ### methods of Chase -/
abbrev aC (K : Fg) : Addr := He.ga K "Chase"
structure GoodM (P : Program) (w : World) (K : Fg) (mg : Str → Option Value) (base : Heap) (k : Nat) (m : Str) (ps : List Str) (sp : Sp) : Prop where
  ex : ∃ fd, Binds K fd ps [] ∧ FnOk P w K mg base CX0 k (He.ma K (aC K) m) fd ps sp
theorem goodM_of {P : Program} {w : World} {K : Fg} {mg : Str → Option Value} {base : Heap} {k : Nat} {x m q : Str} {ps N : List Str} {sp : Sp} {st : Stmt} (F : ∃ fd, FnP K x q st (He.ma K (aC K) m) fd) (S : FnScope N ps (defScope st))
    (hb : ∀ (kV doc pm : Value) (an : Option Addr) (cdv ct : Value) (us : List Value), us.length = ps.length → bindArgs (PySem.W.fnOf x q (defArgs st) (defBody st) (defScope st) .none kV doc pm an cdv ct) ⟨us, []⟩ = pure (ps.zip us))
    (len : ∀ vs H Q E, sp vs H Q E → vs.length = ps.length)
    (body : ∀ (cdv : Value) (A : Around) (outer : List Env) (s : Shared) (H : Hp) (vs : List V) (Q : VK) (E : XK), Room k (A.deeper (envOfC q (defScope st) s.heap.objs.size (He.ma K (aC K) m) cdv)) → sp vs H Q E →
      ∃ t, PSs (cxOf CX0 P w K mg base N q (defScope st) (He.ma K (aC K) m) cdv A outer s H E).nox (defBody st) t ∧ t { nx := fun _ H' => Q .non H', rt := Q } (start N vs) H) : GoodM P w K mg base (k + 1) m ps sp := by
  obtain ⟨fd, F⟩ := F
  refine ⟨fd, F.bindsN hb, F.ok S len fun cdv A outer s H vs Q E hr hs => ?_⟩
  obtain ⟨t, h, q⟩ := body cdv A outer s H vs Q E hr hs
  exact ⟨t, h.nox, q⟩
section
variable {X : Cx} {K : Fg} {k : Nat} {m : Str} {ps : List Str} {sp : Sp} {pos apos : Pos} {o e : Expr} {es : List Expr} {ta : TE} {t : TA}
theorem pe_methG {pl : Sem Bool} (hK : X.K = K) (c : Cls K (aC K)) (hm : Meth K (aC K) m (He.ma K (aC K) m)) (G : GoodM X.prog X.w K X.mg X.base k m ps sp) (hr : Room k X.A) (he : PE X o ta) (ha : PA X (e :: es) t)
    (hst : starEach (e :: es) X.env = (false, eval e X.env) :: starEach es X.env := by rfl) (hpl : (backTo pos (starEach es X.env)).any (·.1) = false := by rfl)
    (ht : eval (.Call (.Attribute o m apos) (e :: es) [] pos) X.env = (do
      let ov ← eval o X.env
      standAt apos.atName
      let (f, first) ← holding [ov] (getMethod ov m pl)
      callWith pos f first (backTo pos (starEach (e :: es) X.env)) (backToKw pos (keywordEach [] X.env))) := by rfl) :
    PE X (.Call (.Attribute o m apos) (e :: es) [] pos) (tMeth (aC K) m sp [] E0 ta t) := by
  subst hK
  obtain ⟨fd, hb, F⟩ := G.ex
  exact pe_meth (pl := pl) he c hm F hr hb .nil pass0 ha hst hpl ht
theorem pe_methG0 {pl : Sem Bool} (hK : X.K = K) (c : Cls K (aC K)) (hm : Meth K (aC K) m (He.ma K (aC K) m)) (G : GoodM X.prog X.w K X.mg X.base k m ps sp) (hr : Room k X.A) (he : PE X o ta)
    (ht : eval (.Call (.Attribute o m apos) [] [] pos) X.env = (do
      let ov ← eval o X.env
      standAt apos.atName
      let (f, first) ← holding [ov] (getMethod ov m pl)
      callWith pos f first (backTo pos (starEach [] X.env)) (backToKw pos (keywordEach [] X.env))) := by rfl) :
    PE X (.Call (.Attribute o m apos) [] [] pos) (tMeth (aC K) m sp [] E0 ta tNil) := by
  subst hK
  obtain ⟨fd, hb, F⟩ := G.ex
  exact pe_meth0 (pl := pl) he c hm F hr hb .nil pass0 ht
theorem kSetFld {value : Expr} {f : Str} {tv : TE} {pos' : Pos} (hK : X.K = K) (ha : PE X o ta) (hv : PE X value tv) (hs : swapsWith value (some (.Attribute o f pos')) pos.line X.env = pure false) : PS X (.Assign [.Attribute o f pos'] value pos) (sFld K ta tv f) := hK ▸ ps_fld ha hv hs
theorem pe_makeG {x : Str} {p : Pos} {C f : Addr} (hK : X.K = K) (M : Mk K C f) (G : ∃ fd, Binds K fd ps [] ∧ FnOk X.prog X.w K X.mg X.base CX0 k f fd ps sp) (hr : Room (k + 1) X.A) (hg : Gl X x) (hm : X.mg x = some (.ref C)) (ha : PA X (e :: es) t)
    (hdb : (x == ("__debug__" : Str)) = false := by decide) (he : starEach (e :: es) X.env = (false, eval e X.env) :: starEach es X.env := by rfl) (hpl : (backTo pos (starEach es X.env)).any (·.1) = false := by rfl) :
    PE X (.Call (.Name x p) (e :: es) [] pos) (tMake C sp [] E0 t) := by
  subst hK
  obtain ⟨fd, hb, F⟩ := G
  exact pe_make M F hr hg hm hb .nil pass0 ha hdb he hpl
end
/-! ### what a Chase holds -/
abbrev kk (r : List Int) : List L2.Key := r.map Sum.inl
theorem kk_kV (r : List Int) : (kk r).map kV = r.map V.int := by
  unfold kk
  rw [List.map_map]
  rfl
theorem kk_inj {a b : List Int} (h : kk a = kk b) : a = b := by
  have := congrArg (List.map fun (k : L2.Key) => match k with | .inl i => i | .inr _ => 0) h
  unfold kk at this
  rw [List.map_map, List.map_map] at this
  have e : ((fun (k : L2.Key) => match k with | .inl i => i | .inr _ => (0 : Int)) ∘ Sum.inl) = id := rfl
  rw [e, List.map_id, List.map_id] at this
  exact this
/-- a dict whose keys are these rows -/
def Tab (H : Hp) (D : Addr) (rows : List (List Int)) : Prop := ∃ kvs : List (List L2.Key × V), H D = some (.dT kvs) ∧ kvs.map (·.1) = rows.map kk
theorem Tab.ex {H H' : Hp} {D : Addr} {rows : List (List Int)} (h : Tab H D rows) (e : Ex H H') : Tab H' D rows := let ⟨k, h1, h2⟩ := h; ⟨k, e D _ h1, h2⟩
theorem Tab.keep {H H' : Hp} {D : Addr} {rows : List (List Int)} {S : List Addr} (h : Tab H D rows) (e : ExB S H H') (n : D ∉ S) : Tab H' D rows := let ⟨k, h1, h2⟩ := h; ⟨k, e D _ n h1, h2⟩
def addR (rows : List (List Int)) (r : List Int) : List (List Int) := if r ∈ rows then rows else rows ++ [r]
theorem mem_addR {rows : List (List Int)} {r x : List Int} : x ∈ addR rows r ↔ x ∈ rows ∨ x = r := by
  unfold addR
  by_cases h : r ∈ rows
  · rw [if_pos h]
    exact ⟨.inl, fun q => q.elim id fun e => e ▸ h⟩
  · rw [if_neg h, List.mem_append, List.mem_singleton]
theorem len_addR (rows : List (List Int)) (r : List Int) : (addR rows r).length ≤ rows.length + 1 := by
  unfold addR
  by_cases h : r ∈ rows
  · rw [if_pos h]; omega
  · rw [if_neg h, List.length_append]; simp
theorem any_keys {kvs : List (List L2.Key × V)} {rows : List (List Int)} (e : kvs.map (·.1) = rows.map kk) (r : List Int) : (kvs.any fun kv => decide (kv.1 = kk r)) = decide (r ∈ rows) := by
  have h1 : (kvs.any fun kv => decide (kv.1 = kk r)) = (kvs.map (·.1)).any fun k => decide (k = kk r) := by rw [List.any_map]; rfl
  rw [h1, e, List.any_map]
  by_cases h : r ∈ rows
  · rw [decide_eq_true h]
    exact List.any_eq_true.mpr ⟨r, h, by simp⟩
  · rw [decide_eq_false h]
    refine Bool.eq_false_iff.mpr fun q => ?_
    obtain ⟨x, hx, hq⟩ := List.any_eq_true.mp q
    have := kk_inj (of_decide_eq_true hq)
    exact h (this ▸ hx)
theorem val_keys {kvs : List (List L2.Key × V)} {rows : List (List Int)} (e : kvs.map (·.1) = rows.map kk) (r : List Int) : (valV kvs (kk r)).isSome = decide (r ∈ rows) := by
  rw [← valV_any, any_keys e]
theorem keys_put {kvs : List (List L2.Key × V)} {rows : List (List Int)} (e : kvs.map (·.1) = rows.map kk) (r : List Int) (v : V) : (putK kvs (kk r) v).map (·.1) = (addR rows r).map kk := by
  unfold putK addR
  rw [any_keys e]
  by_cases h : r ∈ rows
  · rw [if_pos h, if_pos (decide_eq_true h), ← e, List.map_map]
    refine List.map_congr_left fun kv hkv => ?_
    simp only [Function.comp]
    by_cases q : kv.1 = kk r
    · rw [if_pos q]
    · rw [if_neg q]
  · rw [if_neg h, if_neg (by rw [decide_eq_false h]; simp), List.map_append, e, List.map_append]
    rfl
def becV (bec : List (Int × Int)) : List (L2.Key × V) := bec.map fun p => (Sum.inl p.1, V.int p.2)
theorem val_bec : ∀ (bec : List (Int × Int)) (x : Int), valV (becV bec) (.inl x) = none ∧ x ∉ keysOf bec ∨ ∃ p ∈ bec, p.1 = x ∧ valV (becV bec) (.inl x) = some (.int p.2)
  | [], x => .inl ⟨rfl, fun h => by cases h⟩
  | p :: bec, x => by
    by_cases h : p.1 = x
    · refine .inr ⟨p, List.mem_cons_self .., h, ?_⟩
      unfold becV
      rw [List.map_cons]
      exact valV_pos (by simp [h])
    · have e : valV (becV (p :: bec)) (.inl x) = valV (becV bec) (.inl x) := by
        unfold becV
        rw [List.map_cons]
        exact valV_neg fun q => h (by injection q)
      rw [e]
      rcases val_bec bec x with ⟨h1, h2⟩ | ⟨q, h1, h2, h3⟩
      · refine .inl ⟨h1, fun hm => ?_⟩
        rcases List.mem_cons.mp hm with rfl | hm
        · exact h rfl
        · exact h2 hm
      · exact .inr ⟨q, List.mem_cons_of_mem _ h1, h2, h3⟩
theorem put_bec {bec : List (Int × Int)} {l g : Int} (h : l ∉ keysOf bec) : putK (becV bec) (.inl l) (.int g) = becV (bec ++ [(l, g)]) := by
  rcases val_bec bec l with ⟨h1, _⟩ | ⟨p, h1, h2, _⟩
  · rw [putK_new _ h1]
    unfold becV
    rw [List.map_append]
    rfl
  · exact absurd (List.mem_map.mpr ⟨p, h1, h2⟩) h
def chFs (v1 v2 : V) (tb : Addr) (v4 : V) (bc st : Addr) : List (Str × V) := [("scheme", v1), ("book", v2), ("tables", .ref tb), ("seen", v4), ("became", .ref bc), ("steps", .ref st), ("clashed", .bl false)]
/-- the object at a, its dict at dx, its list of tables at tb, the table at D -/
structure Ch0 (K : Fg) (H : Hp) (a dx tb D bc st : Addr) (v1 v2 v4 : V) (sl n : Nat) (B : Book) (rows : List (List Int)) (bec : List (Int × Int)) : Prop where
  fob : H a = some (.ins (aC K) dx (chFs v1 v2 tb v4 bc st))
  fsc : Dp K H v1 (cols [n])
  fbk : Dp K H v2 (.tuple (B.map depD))
  ftb : H tb = some (.lst [.ref D])
  ftab : Tab H D rows
  fbc : H bc = some (.dK (becV bec))
  fst : ∃ ws, H st = some (.lst ws) ∧ ws.length = sl
  fne : tb ≠ st
def Ch (K : Fg) (H : Hp) (a bc st : Addr) (sl n : Nat) (B : Book) (rows : List (List Int)) (bec : List (Int × Int)) : Prop := ∃ dx tb D v1 v2 v4, Ch0 K H a dx tb D bc st v1 v2 v4 sl n B rows bec
section
variable {K : Fg} {H H' : Hp} {a dx tb D bc st : Addr} {v1 v2 v4 : V} {sl n : Nat} {B : Book} {rows : List (List Int)} {bec : List (Int × Int)} {S : List Addr}
theorem Ch0.ex (c : Ch0 K H a dx tb D bc st v1 v2 v4 sl n B rows bec) (e : Ex H H') : Ch0 K H' a dx tb D bc st v1 v2 v4 sl n B rows bec :=
  ⟨e a _ c.fob, c.fsc.ex e, c.fbk.ex e, e tb _ c.ftb, c.ftab.ex e, e bc _ c.fbc, let ⟨ws, h1, h2⟩ := c.fst; ⟨ws, e st _ h1, h2⟩, c.fne⟩
theorem Ch.ex (c : Ch K H a bc st sl n B rows bec) (e : Ex H H') : Ch K H' a bc st sl n B rows bec := let ⟨dx, tb, D, v1, v2, v4, h⟩ := c; ⟨dx, tb, D, v1, v2, v4, h.ex e⟩
theorem Ch0.keep (c : Ch0 K H a dx tb D bc st v1 v2 v4 sl n B rows bec) (m : MutS H S) (e : ExB S H H') (h1 : a ∉ S) (h2 : tb ∉ S) (h3 : D ∉ S) (h4 : bc ∉ S) (h5 : st ∉ S) : Ch0 K H' a dx tb D bc st v1 v2 v4 sl n B rows bec :=
  ⟨e a _ h1 c.fob, c.fsc.keep m e (nl_cols _), c.fbk.keep m e (nl_all nl_dep B), e tb _ h2 c.ftb, c.ftab.keep e h3, e bc _ h4 c.fbc, let ⟨ws, q1, q2⟩ := c.fst; ⟨ws, e st _ h5 q1, q2⟩, c.fne⟩
theorem Ch0.trk (c : Ch0 K H a dx tb D bc st v1 v2 v4 sl n B rows bec) : Trk H [a, bc, st] := by
  obtain ⟨ws, h1, _⟩ := c.fst
  exact Trk.cons c.fob trivial (Trk.cons c.fbc trivial (Trk.one h1 trivial))
theorem Ch.trk (c : Ch K H a bc st sl n B rows bec) : Trk H [a, bc, st] := let ⟨_, _, _, _, _, _, h⟩ := c; h.trk
end
/-! fields -/
section
variable {K : Fg} {mg : Str → Option Value} {σ : L2.St} {H : Hp} {i : Nat} {a dx tb D bc st : Addr} {v1 v2 v4 : V} {sl n : Nat} {B : Book} {rows : List (List Int)} {bec : List (Int × Int)} {f : Str} {v : V} {fs : List (Str × V)}
theorem ef_fld (hσ : σ[i]? = some (some (.ref a))) (ha : H a = some (.ins (aC K) dx fs)) (c : Cls K (aC K)) (no : NoAttr K (aC K) f) (l : fs.lookup f = some v) : EvP (tFld K (tVar i) f) σ H fun _ x => x = v := fun H1 e Q q =>
  ⟨_, hσ, a, _, dx, fs, v, rfl, e a _ ha, c, no, l, q v H1 (Ex.refl H1) rfl⟩
variable (T : Txt K mg) (c : Ch0 K H a dx tb D bc st v1 v2 v4 sl n B rows bec) (hσ : σ[i]? = some (some (.ref a)))
include T c hσ
theorem ef_tables : EvP (tFld K (tVar i) "tables") σ H fun _ x => x = .ref tb := ef_fld hσ c.fob T.cls T.no_tables rfl
theorem ef_became : EvP (tFld K (tVar i) "became") σ H fun _ x => x = .ref bc := ef_fld hσ c.fob T.cls T.no_became rfl
theorem ef_steps : EvP (tFld K (tVar i) "steps") σ H fun _ x => x = .ref st := ef_fld hσ c.fob T.cls T.no_steps rfl
theorem ed_book : EvD K (tFld K (tVar i) "book") σ H (.tuple (B.map depD)) := fun H1 e Q q => ef_fld hσ c.fob T.cls T.no_book rfl H1 e Q fun v H2 e2 hv => q v H2 e2 (hv ▸ c.fbk.ex (e.trans e2))
theorem ed_scheme : EvD K (tFld K (tVar i) "scheme") σ H (cols [n]) := fun H1 e Q q => ef_fld hσ c.fob T.cls T.no_scheme rfl H1 e Q fun v H2 e2 hv => q v H2 e2 (hv ▸ c.fsc.ex (e.trans e2))
theorem ed_clashed : EvD K (tFld K (tVar i) "clashed") σ H (.bool false) := fun H1 e Q q => ef_fld hσ c.fob T.cls T.no_clashed rfl H1 e Q fun v H2 e2 hv => q v H2 e2 (hv ▸ .bl _)
/-- self.tables[0] -/
theorem ef_table {tb' : TE} (h : EvD K tb' σ H (nI 0)) : EvP (tOp (rIx K) (tFld K (tVar i) "tables") tb') σ H fun _ x => x = .ref D := fun H1 e Q q => ef_tables T c hσ H1 e _ fun v H2 e2 hv => by
  subst hv
  refine h H2 (e.trans e2) _ fun y H3 e3 hy => .inl ⟨tb, [.ref D], 0, .ref D, rfl, hy.int_inv, SqL.of ((e2.trans e3) tb _ (e tb _ c.ftb)), rfl, q _ H3 (e2.trans e3) rfl⟩
end
end NS
set_option Elab.async false
set_option linter.all false
set_option maxRecDepth 100000
set_option maxHeartbeats 4000000
namespace NS
open PySem PySem.Spec PyProof.Rows L2
open Evl (Ex)
section
variable {P : Program} {w : World} {K : Fg} {mg : Str → Option Value} {base : Heap}
/-! ### Chase.now -/
theorem scC_now : FnScope ["self", "value"] ["self", "value"] (defScope sC_now) := ⟨rfl, rfl, rfl, by decide +kernel, rfl, by decide +kernel, by decide +kernel⟩
/-- nu tells what became of a value -/
structure Nu (bec : List (Int × Int)) (nu : Int → Int) : Prop where
  nu0 : ∀ x, x ∉ keysOf bec → nu x = x
  nu1 : ∀ p ∈ bec, nu p.1 = nu p.2
  rise : ∀ p ∈ bec, p.1 < p.2 ∧ p.2 ≤ -1
theorem CI.nu {n : Nat} {B : Book} {R0 rows : List (List Int)} {bec : List (Int × Int)} {nu : Int → Int} (C : CI n B R0 rows bec nu) : Nu bec nu := ⟨C.nu0, C.nu1, C.rise⟩
def spNow (K : Fg) : Sp := fun vs H Q _ => ∃ a bc st sl n B rows bec nu v, vs = [.ref a, .int v] ∧ Ch K H a bc st sl n B rows bec ∧ Nu bec nu ∧ ∀ H', Ex H H' → Q (.int (nu v)) H'
theorem okC_now (T : Txt K mg) : GoodM P w K mg base 1 "now" ["self", "value"] (spNow K) := by
  refine goodM_of (m := "now") (q := "Chase.now") (st := sC_now) (N := ["self", "value"]) (T.def_ 40) scC_now (fun _ _ _ _ _ _ us hl => match us, hl with | [_, _], _ => rfl) (fun vs H Q E h => by obtain ⟨_, _, _, _, _, _, _, _, _, _, rfl, _⟩ := h; rfl) fun cdv A outer s H vs Q E hr h =>
    ⟨_, (pss_cons (ps_while PassesOwn.never (pt_cmp (pc_din (room1 hr) (pv 1) (kFld (K := K) rfl (pv 0)))) (pss_one (ps_set (i := 1) scC_now.nd rfl (by first | exact Or.inl rfl | exact Or.inr rfl) (pe_dget (room1 hr) (kFld (K := K) rfl (pv 0)) (pv 1) (fun _ _ => rfl)))))
        (pss_one (ps_ret (pv 1)))), ?_⟩
  obtain ⟨a, bc, st, sl, n, B, rows, bec, nu, v, rfl, ⟨dx, tb, D, v1, v2, v4, c⟩, N, q⟩ := h
  refine q_while (fun m σ' H' => ∃ x : Int, σ' = [some (.ref a), some (.int x)] ∧ Ex H H' ∧ nu x = nu v ∧ m = (-x).toNat) (m := _) ⟨v, rfl, Ex.refl H, rfl, rfl⟩ ?_
  rintro m σ1 H1 ⟨x, rfl, e1, hx, rfl⟩
  have c1 := c.ex e1
  rcases val_bec bec x with ⟨hv, hk⟩ | ⟨p, hp, rfl, hv⟩
  · refine ⟨false, fun H2 e2 Q' q' => ?_, (fun h => by cases h), fun _ H2 e2 => ?_⟩
    · refine ⟨_, rfl, ef_became T c1 rfl H2 e2 _ fun y H3 e3 hy => ?_⟩
      subst hy
      have hg := DGet.k (k := .inl x) ((e2.trans e3) bc _ c1.fbc)
      rw [hv] at hg
      exact ⟨bc, none, rfl, hg, false, rfl, q' H3 e3⟩
    · refine ⟨_, rfl, ?_⟩
      rw [← N.nu0 x hk, hx]
      exact q H2 (e1.trans e2)
  · obtain ⟨h1, h2⟩ := N.rise p hp
    refine ⟨true, fun H2 e2 Q' q' => ?_, (fun _ H2 e2 M hM => ?_), fun h => by cases h⟩
    · refine ⟨_, rfl, ef_became T c1 rfl H2 e2 _ fun y H3 e3 hy => ?_⟩
      subst hy
      have hg := DGet.k (k := .inl p.1) ((e2.trans e3) bc _ c1.fbc)
      rw [hv] at hg
      exact ⟨bc, _, rfl, hg, true, rfl, q' H3 e3⟩
    · refine s_asgX (ef_became (σ := [some (.ref a), some (.int p.1)]) (i := 0) T c1 rfl H2 e2 _ fun y H3 e3 hy => ?_)
      subst hy
      have hg := DGet.k (k := .inl p.1) ((e2.trans e3) bc _ c1.fbc)
      rw [hv] at hg
      exact ⟨_, rfl, bc, _, rfl, hg, hM (-p.2).toNat _ _ (by omega) ⟨p.2, rfl, (e1.trans e2).trans e3, (N.nu1 p hp).symm.trans hx, rfl⟩⟩
theorem ed_now {σ : L2.St} {H : Hp} {i : Nat} {t : TE} {E : XK} {a bc st : Addr} {sl n : Nat} {B : Book} {rows : List (List Int)} {bec : List (Int × Int)} {nu : Int → Int} {v : Int} (hσ : σ[i]? = some (some (.ref a))) (c : Ch K H a bc st sl n B rows bec) (N : Nu bec nu) (hv : EvD K t σ H (.int v)) :
    EvD K (tMeth (aC K) "now" (spNow K) [] E (tVar i) (tCons t tNil)) σ H (.int (nu v)) := fun H1 e Q q => by
  obtain ⟨dx, tb, D, v1, v2, v4, c0⟩ := id c
  refine ⟨_, hσ, a, dx, _, rfl, e a _ c0.fob, rfl, hv H1 e _ fun x H2 e2 hx => ?_⟩
  exact ⟨a, bc, st, sl, n, B, rows, bec, nu, v, by rw [hx.int_inv]; rfl, c.ex (e.trans e2), N, fun H3 e3 => q _ H3 (e2.trans e3) (.int _)⟩
end
end NS
set_option Elab.async false
set_option linter.all false
set_option maxRecDepth 100000
set_option maxHeartbeats 4000000
namespace NS
open PySem PySem.Spec PyProof.Rows L2
open Evl (Ex)
section
variable {K : Fg} {σ : L2.St} {H H' : Hp} {te tk tv : TE} {tt : TT} {wi : TI} {g : TG} {tbd tz : TS} {vs : List Nat} {xs : List V} {M : List Addr} {D : Ends} {i j : Nat} {p : Addr}
/-! ### walked values -/
/-- wi walks these values while M changes at most -/
def EvW (M : List Addr) (wi : TI) (σ : L2.St) (H : Hp) (xs : List V) : Prop := ∀ H1, Ex H H1 → ∀ R : It → Hp → Prop, (∀ J H2, Ex H1 H2 → Walk J xs.length (ExB M H2) (YAt xs) → R J H2) → wi σ H1 R
theorem ew_list (h : EvP te σ H fun H x => x = .ref p ∧ H p = some (.lst xs)) (hp : p ∉ M) : EvW M (iSq K te) σ H xs := fun H1 e R q => .inl (h H1 e _ fun v H2 e2 hv => by
  obtain ⟨rfl, h2⟩ := hv
  exact ⟨p, rfl, ⟨xs, SqL.of h2⟩, q _ H2 e2 (walk_list.mono (fun H3 e3 => sqL_keep hp e3 (SqL.of h2)) fun i H3 x H4 hi e3 y => y)⟩)
theorem ew_tup (h : EvP te σ H fun H x => x = .ref p ∧ H p = some (.tup xs)) (hM : ∀ H1, Ex H H1 → MutS H1 M) : EvW M (iSq K te) σ H xs := fun H1 e R q => .inr (h H1 e _ fun v H2 e2 hv => by
  obtain ⟨rfl, h2⟩ := hv
  exact ⟨p, rfl, ⟨xs, SqT.of h2⟩, q _ H2 e2 (walk_tup.mono (fun H3 e3 => sqT_keep (hM H2 (e.trans e2)) e3 (SqT.of h2)) fun i H3 x H4 hi e3 y => y)⟩)
theorem ep_var {v : V} {Pr : Hp → V → Prop} (hσ : σ[i]? = some (some v)) (h : Pr H v) (mono : ∀ H', Ex H H' → Pr H' v) : EvP (tVar i) σ H Pr := fun H1 e Q q => ⟨v, hσ, q v H1 (Ex.refl H1) (mono H1 e)⟩
theorem ep_varR {o : HO} (hσ : σ[i]? = some (some (.ref p))) (h : H p = some o) : EvP (tVar i) σ H fun H x => x = .ref p ∧ H p = some o := ep_var hσ ⟨rfl, h⟩ fun H' e => ⟨rfl, e p _ h⟩
theorem for_restW {J : It} (w : Walk J xs.length (ExB M H) (YAt xs)) (Pv : Nat → L2.St → Hp → Prop) (h0 : Pv 0 σ H)
    (step : ∀ i x σ1 H1, xs[i]? = some x → Pv i σ1 H1 → ExB M H H1 → ∃ σ2, Tgt g x σ1 H1 σ2 ∧ ∀ H2, Ex H1 H2 → ∀ N : L2.St → Hp → Prop, (∀ σ3 H3, Pv (i + 1) σ3 H3 → ExB M H2 H3 → N σ3 H3) → tbd (Dl D N) σ2 H2)
    (hd : ∀ σ1 H1, Pv xs.length σ1 H1 → ExB M H H1 → D.nx σ1 H1) :
    ∃ W : Nat → Nat → L2.St → Hp → Prop, (∃ m, W 0 m σ H) ∧ ∀ i m σ H, W i m σ H →
      (J.stop i H ∧ D.nx σ H) ∨ (J.go i H ∧ ∃ N : L2.St → Hp → Prop, (∀ σ' H', N σ' H' → ∃ m', m' < m ∧ W (i + 1) m' σ' H') ∧ ∀ x H', J.yld i H x H' → g x σ H' fun σ2 H2 => tbd { D with nx := N, ct := N, bk := D.nx } σ2 H2) := by
  refine for_it w (fun i σ' H' => Pv i σ' H' ∧ ExB M H H') ⟨h0, ExB.refl _ _⟩ (fun i σ' H' _ p => p.2) (fun i x σ' H2 H3 hi p y => ?_) fun σ' H' p => hd σ' H' p.1 p.2
  obtain ⟨p1, p2⟩ := p
  obtain ⟨rfl, hx⟩ := y
  obtain ⟨σ2, htg, hk⟩ := step i x σ' H3 hx p1 p2
  exact htg _ fun H4 e4 => hk H4 e4 _ fun σ5 H5 p5 e5 => ⟨p5, (p2.then e4).trans e5⟩
theorem s_forW (hs : EvW M wi σ H xs) (Pv : Nat → L2.St → Hp → Prop) (h0 : Pv 0 σ H) (mono : ∀ i σ1 H1 H2, Pv i σ1 H1 → Ex H1 H2 → Pv i σ1 H2)
    (step : ∀ i x σ1 H1, xs[i]? = some x → Pv i σ1 H1 → ExB M H H1 → ∃ σ2, Tgt g x σ1 H1 σ2 ∧ ∀ H2, Ex H1 H2 → ∀ N : L2.St → Hp → Prop, (∀ σ3 H3, Pv (i + 1) σ3 H3 → ExB M H2 H3 → N σ3 H3) → tbd (Dl D N) σ2 H2)
    (hd : ∀ σ1 H1, Pv xs.length σ1 H1 → ExB M H H1 → D.nx σ1 H1) : tFor wi g tbd D σ H :=
  hs H (Ex.refl H) _ fun J H1 e1 w => for_restW w Pv (mono 0 _ _ _ h0 e1) (fun i x σ' H2 hx p e => step i x σ' H2 hx p ((ExB.of e1).trans e)) fun σ' H' p e => hd σ' H' p ((ExB.of e1).trans e)
theorem q_forW (hs : EvW M wi σ H xs) (Pv : Nat → L2.St → Hp → Prop) (h0 : Pv 0 σ H) (mono : ∀ i σ1 H1 H2, Pv i σ1 H1 → Ex H1 H2 → Pv i σ1 H2)
    (step : ∀ i x σ1 H1, xs[i]? = some x → Pv i σ1 H1 → ExB M H H1 → ∃ σ2, Tgt g x σ1 H1 σ2 ∧ ∀ H2, Ex H1 H2 → ∀ N : L2.St → Hp → Prop, (∀ σ3 H3, Pv (i + 1) σ3 H3 → ExB M H2 H3 → N σ3 H3) → tbd ⟨N, D.rt, tz D, N⟩ σ2 H2)
    (hd : ∀ σ1 H1, Pv xs.length σ1 H1 → ExB M H H1 → tz D σ1 H1) : tSeq (tFor wi g tbd) tz D σ H := s_forW (D := Dz D tz) hs Pv h0 mono step hd
theorem paired_imp {α β : Type} {R S : α → β → Prop} (h : ∀ a b, R a b → S a b) : ∀ {as : List α} {bs : List β}, Paired R as bs → Paired S as bs
  | _, _, .nil => .nil
  | _, _, .cons r rr => .cons (h _ _ r) (paired_imp h rr)
theorem paired_append {α β : Type} {R : α → β → Prop} : ∀ {as cs : List α} {bs ds : List β}, Paired R as bs → Paired R cs ds → Paired R (as ++ cs) (bs ++ ds)
  | _, _, _, _, .nil, q => q
  | _, _, _, _, .cons r rr, q => .cons r (paired_append rr q)
/-! ### comprehensions of values -/
/-- [e for x in xs], each value told by Rel -/
theorem x_lcRel {β : Type} {bs : List β} {val : β → V} (Rel : β → Hp → V → Prop) (keepE : ∀ b H H' x, Ex H H' → Rel b H x → Rel b H' x) (keepU : ∀ b p ws ws' H x, H p = some (.lst ws) → Rel b H x → Rel b (upd H p (.lst ws')) x)
    (hs : EvW [] wi σ H (bs.map val)) (hz : bs.length ≤ 100000)
    (hel : ∀ b ∈ bs, ∀ H1, Ex H H1 → ∃ σ2, Tgt g (val b) (wipe σ vs) H1 σ2 ∧ wipe σ2 vs = wipe σ vs ∧ EvP te σ2 H1 (Rel b))
    {Q : VK} (q : ∀ p ws H', H p = none → Ex H H' → H' p = some (.lst ws) → Paired (fun b x => Rel b H' x) bs ws → Q (.ref p) H') : tLc wi g tYes te vs σ H Q := by
  refine hs H (Ex.refl H) _ fun J H1 e1 w => fun Dl hD => ?_
  have wl : (bs.map val).length = bs.length := List.length_map ..
  have w : Walk J bs.length (ExB [] H1) (YAt (bs.map val)) := wl ▸ w
  refine lc_it w (fun i H' => Ex H1 H' ∧ ∃ ws, H' Dl = some (.lst ws) ∧ Paired (fun b x => Rel b H' x) (bs.take i) ws) ⟨Ex.new hD, [], upd_same, .nil⟩ (fun i H' _ p => .of p.1) (fun i x H2 H3 hi p y => ?_) (fun H' p => ?_)
  · obtain ⟨e2, ws, hw, hp⟩ := p
    obtain ⟨rfl, hx⟩ := y
    have hbi : bs[i]? = some (bs[i]) := List.getElem?_eq_getElem hi
    rw [List.getElem?_map, hbi] at hx
    cases hx
    obtain ⟨σ2, htg, hwp, he⟩ := hel bs[i] (List.getElem_mem hi) H3 (e1.trans e2)
    refine htg _ fun H4 e4 => ⟨hwp, ?_⟩
    show te σ2 H4 _
    refine he H4 e4 _ fun v H5 e5 hv => ⟨ws, e5 Dl _ (e4 Dl _ hw), Evl.sz_lt ?_, Evl.Ex.mut (e2.trans (e4.trans e5)) hD, ws ++ [v], upd_same, ?_⟩
    · have := Paired.length hp
      rw [List.length_take] at this
      omega
    · rw [take_snoc hbi]
      have hp5 : Paired (fun b x => Rel b (upd H5 Dl (.lst (ws ++ [v]))) x) (bs.take i) ws := paired_imp (fun b x hr => keepU b Dl ws _ _ x (e5 Dl _ (e4 Dl _ hw)) (keepE b _ _ x (e4.trans e5) hr)) hp
      have hv5 := keepU bs[i] Dl ws (ws ++ [v]) H5 v (e5 Dl _ (e4 Dl _ hw)) hv
      exact paired_append hp5 (.cons hv5 .nil)
  · obtain ⟨e2, ws, hw, hp⟩ := p
    rw [List.take_length] at hp
    exact q Dl ws H' (Evl.fresh_back e1 hD) (e1.trans e2) hw hp
theorem x_lcRelD {β : Type} {bs : List β} {enc : β → PyData} (Rel : β → Hp → V → Prop) (keepE : ∀ b H H' x, Ex H H' → Rel b H x → Rel b H' x) (keepU : ∀ b p ws ws' H x, H p = some (.lst ws) → Rel b H x → Rel b (upd H p (.lst ws')) x)
    (hs : EvS K [] wi σ H (bs.map enc)) (hz : bs.length ≤ 100000)
    (hel : ∀ b ∈ bs, ∀ x H1, Ex H H1 → Dp K H1 x (enc b) → ∃ σ2, Tgt g x (wipe σ vs) H1 σ2 ∧ wipe σ2 vs = wipe σ vs ∧ EvP te σ2 H1 (Rel b))
    {Q : VK} (q : ∀ p ws H', H p = none → Ex H H' → H' p = some (.lst ws) → Paired (fun b x => Rel b H' x) bs ws → Q (.ref p) H') : tLc wi g tYes te vs σ H Q := by
  refine hs H (Ex.refl H) _ fun J H1 e1 w => fun Dl hD => ?_
  have wl : (bs.map enc).length = bs.length := List.length_map ..
  have w : Walk J bs.length (ExB [] H1) (fun i H x H' => Ex H H' ∧ ∃ d, (bs.map enc)[i]? = some d ∧ Dp K H' x d) := wl ▸ w
  refine lc_it w (fun i H' => Ex H1 H' ∧ ∃ ws, H' Dl = some (.lst ws) ∧ Paired (fun b x => Rel b H' x) (bs.take i) ws) ⟨Ex.new hD, [], upd_same, .nil⟩ (fun i H' _ p => .of p.1) (fun i x H2 H3 hi p y => ?_) (fun H' p => ?_)
  · obtain ⟨e2, ws, hw, hp⟩ := p
    obtain ⟨e3, d, hd, hx⟩ := y
    have hbi : bs[i]? = some (bs[i]) := List.getElem?_eq_getElem hi
    rw [List.getElem?_map, hbi] at hd
    cases hd
    obtain ⟨σ2, htg, hwp, he⟩ := hel bs[i] (List.getElem_mem hi) x H3 (e1.trans (e2.trans e3)) hx
    refine htg _ fun H4 e4 => ⟨hwp, ?_⟩
    show te σ2 H4 _
    have e34 := e3.trans e4
    refine he H4 e4 _ fun v H5 e5 hv => ⟨ws, e5 Dl _ (e34 Dl _ hw), Evl.sz_lt ?_, Evl.Ex.mut (e2.trans (e34.trans e5)) hD, ws ++ [v], upd_same, ?_⟩
    · have := Paired.length hp
      rw [List.length_take] at this
      omega
    · rw [take_snoc hbi]
      have hp5 : Paired (fun b x => Rel b (upd H5 Dl (.lst (ws ++ [v]))) x) (bs.take i) ws := paired_imp (fun b x hr => keepU b Dl ws _ _ x (e5 Dl _ (e34 Dl _ hw)) (keepE b _ _ x (e34.trans e5) hr)) hp
      have hv5 := keepU bs[i] Dl ws (ws ++ [v]) H5 v (e5 Dl _ (e34 Dl _ hw)) hv
      exact paired_append hp5 (.cons hv5 .nil)
  · obtain ⟨e2, ws, hw, hp⟩ := p
    rw [List.take_length] at hp
    exact q Dl ws H' (Evl.fresh_back e1 hD) (e1.trans e2) hw hp
/-- the keys of a locked dict, as rows -/
theorem es_keysT {rows : List (List Int)} {kvs : List (List L2.Key × V)} {od : Obj} {Dd : Addr} (hσ : σ[i]? = some (some (.ref Dd))) (hD : H Dd = some (.frz od (.dT kvs))) (hk : kvs.map (·.1) = rows.map kk) : EvS K [] (iKeys (tVar i)) σ H (rows.map rowD) := fun H1 e R q => by
  refine ⟨_, hσ, Dd, od, rfl, .inr ⟨kvs, e Dd _ hD, q _ H1 (Ex.refl H1) ?_⟩⟩
  have hl : kvs.length = (rows.map rowD).length := by have := congrArg List.length hk; simpa using this
  have w := walk_keysT (d := Dd) (o := od) (kvs := kvs)
  rw [hl] at w
  refine w.mono (fun H3 e3 => e3 Dd _ (by simp) (e Dd _ hD)) fun i' H3 x H4 hi e3 y => ?_
  obtain ⟨rfl, k, v, b, hkv, rfl, hb⟩ := y
  have h1 : (kvs.map (·.1))[i']? = some k := by rw [List.getElem?_map, hkv]; rfl
  rw [hk, List.getElem?_map] at h1
  cases hr : rows[i']? with
  | none => rw [hr] at h1; cases h1
  | some r =>
    rw [hr] at h1
    cases h1
    refine ⟨Ex.refl _, rowD r, by rw [List.getElem?_map, hr]; rfl, .tup (SqT.of (xs := r.map V.int) ?_) DpAll.ofInts⟩
    rw [← kk_kV]
    exact hb
/-- tracked tuples as places -/
theorem paired_rt {H : Hp} {β : Type} {f : β → List Int} : ∀ {bs : List β} {ws : List V}, Paired (fun b x => Tr H x (f b)) bs ws → ∃ L, ws = rv L ∧ Rt H L ∧ L.map (·.2) = bs.map f
  | [], _, .nil => ⟨[], rfl, (fun _ h => by cases h), rfl⟩
  | b :: bs, _, .cons h t => by
    obtain ⟨a, rfl, ha⟩ := h
    obtain ⟨L, rfl, hR, e⟩ := paired_rt t
    refine ⟨(a, f b) :: L, rfl, fun q hq => ?_, by rw [List.map_cons, List.map_cons, e]⟩
    rcases List.mem_cons.mp hq with rfl | hq
    · exact ha
    · exact hR q hq
theorem tr_keepU {H : Hp} {r : List Int} {p : Addr} {ws ws' : List V} {x : V} (hp : H p = some (.lst ws)) (h : Tr H x r) : Tr (upd H p (.lst ws')) x r := by
  obtain ⟨b, rfl, hb⟩ := h
  refine ⟨b, rfl, ?_⟩
  rw [upd_ne (fun e => by rw [e, hp] at hb; cases hb)]
  exact hb
theorem q_bm {T : String} {r : V → List V → Hp → VK → Prop} {to : TE} {t : TA} (h : to σ H fun x H1 => tyV K T x H1 ∧ t σ H1 fun xs H2 => r x xs H2 fun _ H3 => tz D σ H3) : tSeq (tDrop (tBM K T r to t)) tz D σ H := h
theorem q_cb1 {r : List V → Hp → VK → Prop} (h : te σ H fun v H1 => r [v] H1 fun x H2 => tz D (σ.set i (some x)) H2) : tSeq (tAsg (tCB r (tCons te tNil)) (gName i)) tz D σ H := h
theorem q_fld {Pr : Hp → V → Prop} {a C dx : Addr} {fs : List (Str × V)} {f : Str} (hσ : σ[i]? = some (some (.ref a))) (ha : H a = some (.ins C dx fs)) (c : Cls K C) (no : NoAttr K C f) (hl : fs.length < 1000) (hv : EvP tv σ H Pr)
    (k : ∀ v H1, Ex H H1 → Pr H1 v → tz D σ (upd H1 a (.ins C dx (putF f v fs)))) : tSeq (sFld K (tVar i) tv f) tz D σ H := hv H (Ex.refl H) _ fun v H1 e1 hp => ⟨_, hσ, a, C, dx, fs, rfl, e1 a _ ha, c, no, hl, k v H1 e1 hp⟩
theorem s_fld {Pr : Hp → V → Prop} {a C dx : Addr} {fs : List (Str × V)} {f : Str} (hσ : σ[i]? = some (some (.ref a))) (ha : H a = some (.ins C dx fs)) (c : Cls K C) (no : NoAttr K C f) (hl : fs.length < 1000) (hv : EvP tv σ H Pr)
    (k : ∀ v H1, Ex H H1 → Pr H1 v → D.nx σ (upd H1 a (.ins C dx (putF f v fs)))) : sFld K (tVar i) tv f D σ H := hv H (Ex.refl H) _ fun v H1 e1 hp => ⟨_, hσ, a, C, dx, fs, rfl, e1 a _ ha, c, no, hl, k v H1 e1 hp⟩
theorem loopRd {J : It} {bd : Bd} {Nx : Hp → Prop} {G : Hp → Prop} (w : Walk J xs.length G (YAt xs)) (Pv : Nat → Hp → Prop) (h0 : Pv 0 H) (hG : ∀ i H', Pv i H' → G H')
    (step : ∀ i x H1, xs[i]? = some x → Pv i H1 → g x (wipe σ vs) H1 fun σ3 H5 => wipe σ3 vs = wipe σ vs ∧ bd σ3 H5 (Pv (i + 1))) (hd : ∀ H', Pv xs.length H' → Nx H') : LoopRd J g bd vs σ Nx H := by
  refine ⟨fun j k H' => k = xs.length - j ∧ j ≤ xs.length ∧ Pv j H', ⟨_, rfl, Nat.zero_le _, h0⟩, ?_⟩
  rintro j k H1 ⟨rfl, hj, p⟩
  by_cases hlt : j < xs.length
  · refine .inr ⟨w.goes j H1 hlt (hG j H1 p), fun H' => j + 1 ≤ xs.length ∧ Pv (j + 1) H', fun H' h => ⟨xs.length - (j + 1), by omega, rfl, h⟩, fun x H2 y => ?_⟩
    obtain ⟨rfl, hx⟩ := w.yields j H1 x H2 hlt (hG j H1 p) y
    have h := step j x H2 hx p
    have e : (fun H' => j + 1 ≤ xs.length ∧ Pv (j + 1) H') = Pv (j + 1) := by
      funext H'
      exact propext ⟨fun h => h.2, fun h => ⟨hlt, h⟩⟩
    rw [e]
    exact h
  · have e : j = xs.length := by omega
    subst e
    exact .inl ⟨w.stops H1 (hG _ H1 p), hd H1 p⟩
theorem q_exprX (h : te σ H fun _ H1 => tz D σ H1) : tSeq (tDrop te) tz D σ H := h
theorem s_exprX (h : te σ H fun _ H1 => D.nx σ H1) : tDrop te D σ H := h
theorem q_pair {d1 d2 : PyData} (h : EvD K te σ H (.tuple [d1, d2])) (k : ∀ y z H1, Ex H H1 → Dp K H1 y d1 → Dp K H1 z d2 → tz D ((σ.set i (some y)).set j (some z)) H1) : tSeq (tAsg te (gTup K 2 (gCons (gName i) (gCons (gName j) gNil)))) tz D σ H :=
  h H (Ex.refl H) _ fun v H1 e1 hv => by
    obtain ⟨y, z, hy, hz, tg⟩ := tgt_pair (K := K) (j := i) (k := j) (σ0 := σ) hv
    exact tg _ fun H2 e2 => k y z H2 (e1.trans e2) (hy.ex e2) (hz.ex e2)
theorem q_newT (k : ∀ p H1, H p = none → Ex H H1 → H1 p = some (.dT []) → tz D (σ.set i (some (.ref p))) H1) : tSeq (tAsg tDNewT (gName i)) tz D σ H := fun p hp => k p _ hp (Ex.new hp) upd_same
theorem q_newK (k : ∀ p H1, H p = none → Ex H H1 → H1 p = some (.dK []) → tz D (σ.set i (some (.ref p))) H1) : tSeq (tAsg tDNewK (gName i)) tz D σ H := fun p hp => k p _ hp (Ex.new hp) upd_same
/-- d.setdefault(key, x) -/
theorem q_setd {ty : TE} {r : List Int} {fd : Addr} {kvs : List (List L2.Key × V)} {z : V} {l : Nat} (hσ : σ[i]? = some (some (.ref fd))) (hf : H fd = some (.dT kvs)) (hz : kvs.length < 100000) (hy : EvR ty σ H r) (hx : σ[j]? = some (some z))
    (k : ∀ v H1 kvs', ExB [fd] H H1 → H1 fd = some (.dT kvs') → ((valV kvs (kk r) = some v ∧ kvs' = kvs) ∨ (valV kvs (kk r) = none ∧ v = z ∧ kvs' = putK kvs (kk r) z)) → tz D (σ.set l (some v)) H1) :
    tSeq (tAsg (tDSetdT (tVar i) ty (tVar j)) (gName l)) tz D σ H :=
  ⟨_, hσ, fd, rfl, .inr ⟨kvs, .inl hf⟩, hy H (Ex.refl H) _ fun y H2 e2 hyr => by
    obtain ⟨b, rfl, hb⟩ := hyr
    have hf2 := e2 fd _ hf
    refine ⟨z, hx, kvs, kk r, b, hf2, rfl, by rw [kk_kV]; exact hb, Evl.sz_lt hz, fun v hv => k v H2 kvs (.of e2) hf2 (.inl ⟨hv, rfl⟩), fun hn => k z _ _ ((ExB.of e2).upd (by simp) _) upd_same (.inr ⟨hn, rfl, rfl⟩)⟩⟩
theorem q_dputF {td tk tv : TE} {m : Addr} {kvs : List (L2.Key × V)} {a b : Int} (ho : EvP td σ H fun _ x => x = .ref m) (hm : H m = some (.dK kvs)) (hz : kvs.length < 100000) (hk : EvD K tk σ H (.int a)) (hv : EvD K tv σ H (.int b))
    (k : ∀ H1, ExB [m] H H1 → H1 m = some (.dK (putK kvs (.inl a) (.int b))) → tz D σ H1) : tSeq (sDPut td tk tv) tz D σ H :=
  hv H (Ex.refl H) _ fun v H1 e1 hv1 => ho H1 e1 _ fun x H2 e2 hx => hk H2 (e1.trans e2) _ fun y H3 e3 hy => by
    subst hx
    have hm3 := ((e1.trans e2).trans e3) m _ hm
    rw [hv1.int_inv, hy.int_inv]
    exact ⟨m, _, rfl, DPut.k (k := .inl a) hm3 (Evl.sz_lt hz), k _ ((ExB.of ((e1.trans e2).trans e3)).upd (by simp) _) upd_same⟩
/-- {row: True for row in rows} -/
theorem x_dcRows {L : List (Addr × List Int)} (hR : Rt H L) (hz : L.length ≤ 100000) (hs : EvW [] wi σ H (rv L)) (htk : ∀ x : V, ((wipe σ vs).set i (some x))[i]? = some (some x)) (hwp : ∀ x : V, wipe ((wipe σ vs).set i (some x)) vs = wipe σ vs)
    {Q : VK} (q : ∀ D rows' H', H D = none → Ex H H' → Tab H' D rows' → (∀ r, r ∈ rows' ↔ r ∈ L.map (·.2)) → rows'.length ≤ L.length → Q (.ref D) H') :
    tDcT wi (gName i) tYes (tVar i) (tC (.bl true)) vs σ H Q := by
  refine hs H (Ex.refl H) _ fun J H1 e1 w => fun Dl hD => ?_
  have wl : (rv L).length = L.length := List.length_map ..
  have w : Walk J L.length (ExB [] H1) (YAt (rv L)) := wl ▸ w
  refine ⟨fun i' m H' => m = L.length - i' ∧ i' ≤ L.length ∧ Ex H1 H' ∧ ∃ rows', Tab H' Dl rows' ∧ (∀ r, r ∈ rows' ↔ r ∈ (L.take i').map (·.2)) ∧ rows'.length ≤ i', ⟨_, rfl, Nat.zero_le _, Ex.new hD, [], ⟨[], upd_same, rfl⟩, by simp, Nat.le_refl 0⟩, ?_⟩
  rintro i' m H2 ⟨rfl, hi, e2, rows', ⟨kvs, hk1, hk2⟩, hm, hl⟩
  by_cases hlt : i' < L.length
  · refine .inr ⟨w.goes i' H2 hlt (.of e2), fun H' => i' + 1 ≤ L.length ∧ Ex H1 H' ∧ ∃ rows', Tab H' Dl rows' ∧ (∀ r, r ∈ rows' ↔ r ∈ (L.take (i' + 1)).map (·.2)) ∧ rows'.length ≤ i' + 1, fun H' h => ⟨L.length - (i' + 1), by omega, rfl, h⟩, fun x H3 y => ?_⟩
    obtain ⟨rfl, hx⟩ := w.yields i' H2 x H3 hlt (.of e2) y
    have hLi : L[i']? = some L[i'] := List.getElem?_eq_getElem hlt
    rw [List.getElem?_map, hLi] at hx
    cases hx
    refine ⟨hwp _, ?_⟩
    simp only [tYes, if_true]
    have hq := hR L[i'] (List.getElem_mem hlt)
    refine ⟨_, htk _, kvs, kk L[i'].2, L[i'].1, rfl, hk1, ?_, Evl.sz_lt ?_, hlt, Evl.Ex.mut e2 hD, addR rows' L[i'].2, ⟨_, upd_same, keys_put hk2 _ _⟩, fun r => ?_, ?_⟩
    · rw [kk_kV]
      exact e2 _ _ (e1 _ _ hq)
    · have := congrArg List.length hk2
      rw [List.length_map, List.length_map] at this
      omega
    · rw [mem_addR, hm, take_snoc hLi, List.map_append, List.mem_append]
      simp
    · have := len_addR rows' L[i'].2
      omega
  · have e : i' = L.length := by omega
    subst e
    rw [List.take_length] at hm
    exact .inl ⟨w.stops H2 (.of e2), q Dl rows' H2 (Evl.fresh_back e1 hD) (e1.trans e2) ⟨kvs, hk1, hk2⟩ hm hl⟩
end
end NS
set_option Elab.async false
set_option linter.all false
set_option maxRecDepth 100000
set_option maxHeartbeats 4000000
namespace NS
open PySem PySem.Spec PyProof.Rows L2
open Evl (Ex)
section
variable {P : Program} {w : World} {K : Fg} {mg : Str → Option Value} {base : Heap}
/-! ### Chase.replace -/
theorem scC_replace : FnScope ["self", "lesser", "greater", "tables", "rows", "changed", "row", "value"] ["self", "lesser", "greater"] (defScope sC_replace) := ⟨rfl, rfl, rfl, by decide +kernel, rfl, by decide +kernel, by decide +kernel⟩
/-- the table with g in l's place -/
def RepOk (l g : Int) (rows rows' : List (List Int)) : Prop := (∀ r', r' ∈ rows' ↔ ∃ r ∈ rows, r' = NS.sub l g r) ∧ rows'.length ≤ rows.length
def spReplace (K : Fg) : Sp := fun vs H Q _ => ∃ (a bc st : Addr) (sl n : Nat) (B : Book) (rows : List (List Int)) (bec : List (Int × Int)) (l g : Int), vs = [.ref a, .int l, .int g] ∧ Ch K H a bc st sl n B rows bec ∧ l ∉ keysOf bec ∧ bec.length ≤ 1000 ∧ rows.length ≤ 1000 ∧ (∀ r ∈ rows, r.length ≤ 1000) ∧
  ∀ H' rows', ExB [a, bc] H H' → Ch K H' a bc st sl n B rows' (bec ++ [(l, g)]) → RepOk l g rows rows' → Q .non H'
theorem okC_replace (T : Txt K mg) : GoodM P w K mg base 1 "replace" ["self", "lesser", "greater"] (spReplace K) := by
  refine goodM_of (m := "replace") (q := "Chase.replace") (st := sC_replace) (N := ["self", "lesser", "greater", "tables", "rows", "changed", "row", "value"]) (T.def_ 41) scC_replace (fun _ _ _ _ _ _ us hl => match us, hl with | [_, _, _], _ => rfl) (fun vs H Q E h => by obtain ⟨_, _, _, _, _, _, _, _, _, _, rfl, _⟩ := h; rfl) fun cdv A outer s H vs Q E hr h =>
    ⟨_, (pss_cons (ps_dput (room1 hr) (kFld (K := K) rfl (pv 0)) (pv 1) (pv 2) rfl)
        (pss_cons (ps_set (i := 3) scC_replace.nd rfl (by first | exact Or.inl rfl | exact Or.inr rfl) (pe_lst pa_nil))
        (pss_cons (ps_for PassesOwn.never rfl (kSq (K := K) rfl (kFld (K := K) rfl (pv 0))) (pg_name (i := 4) scC_replace.nd rfl (by first | exact Or.inl rfl | exact Or.inr rfl)) (pss_cons (ps_lock (ps_setLc (i := 5) (own := [("row", 6)]) (g := gName 6) rfl scC_replace.nd rfl rfl (sw_true rfl rfl rfl (by kernel_rfl)) (pi_keys (pv 4)) (blkOk_by (by kernel_rfl)) (fun _ _ _ _ _ => (pg_name (i := 6) scC_replace.nd rfl (by first | exact Or.inl rfl | exact Or.inr rfl))) (fun _ _ _ _ _ => pts_nil) (fun _ _ _ _ _ => (kTuple (K := K) rfl rfl T.tuple0 (pe_lc (own := [("value", 7)]) (g := gName 7) rfl scC_replace.nd (kSq (K := K) rfl (pv 6)) (blkOk_by (by kernel_rfl)) (fun _ _ _ _ _ => (pg_name (i := 7) scC_replace.nd rfl (by first | exact Or.inl rfl | exact Or.inr rfl))) (fun _ _ _ _ _ => pts_nil) (fun _ _ _ _ _ => (pe_ifExp (pt_cmpR (kEq (K := K) rfl (room64 hr)) (pv 7) (pv 1) (nomark _)) (pv 2) (pv 7))))))))
        (pss_one (ps_expr (kBm (K := K) rfl PySem.F.plainAttrs_list PySem.F.slot_list_append PySem.F.type_list_append mt_append (pv 3) (pa_cons (pe_dcT (own := [("row", 6)]) (g := gName 6) (room1 hr) rfl scC_replace.nd (kSq (K := K) rfl (pv 5)) (blkOk_by (by kernel_rfl)) (fun _ _ _ _ _ => (pg_name (i := 6) scC_replace.nd rfl (by first | exact Or.inl rfl | exact Or.inr rfl))) (fun _ _ _ _ _ => pts_nil) (fun _ _ _ _ _ => (pv 6)) (fun _ _ _ _ _ => pe_bl)) pa_nil))))))
        (pss_one (kSetFld (K := K) rfl (pv 0) (pv 3) rfl))))), ?_⟩
  obtain ⟨a, bc, st, sl, n, B, rows, bec, l, g, rfl, ⟨dx, tb, D, v1, v2, v4, c⟩, hl, hbz, hrz, hrl, q⟩ := h
  obtain ⟨wst, hst, hsl⟩ := c.fst
  have nab : a ≠ bc := fun e => by have := c.fob; rw [e, c.fbc] at this; cases this
  have ntb : tb ≠ bc := fun e => by have := c.ftb; rw [e, c.fbc] at this; cases this
  have nta : tb ≠ a := fun e => by have := c.ftb; rw [e, c.fob] at this; cases this
  have nsb : st ≠ bc := fun e => by rw [e, c.fbc] at hst; cases hst
  have nsa : st ≠ a := fun e => by rw [e, c.fob] at hst; cases hst
  obtain ⟨kvs, hD, hkv⟩ := id c.ftab
  have nDb : D ≠ bc := fun e => by rw [e, c.fbc] at hD; cases hD
  have nDa : D ≠ a := fun e => by rw [e, c.fob] at hD; cases hD
  refine q_dputF (K := K) (m := bc) (kvs := becV bec) (a := l) (b := g) (ef_became T c rfl) c.fbc (by unfold becV; rw [List.length_map]; omega) (ed_var rfl (.int _)) (ed_var rfl (.int _)) fun H1 e1 hb1 => ?_
  rw [put_bec hl] at hb1
  have tb0 : Trk H [bc] := Trk.one c.fbc trivial
  have c1 : Ch0 K H1 a dx tb D bc st v1 v2 v4 sl n B rows (bec ++ [(l, g)]) := ⟨e1 a _ (by simpa using nab) c.fob, c.fsc.keep tb0.muts e1 (nl_cols _), c.fbk.keep tb0.muts e1 (nl_all nl_dep B), e1 tb _ (by simpa using ntb) c.ftb, c.ftab.keep e1 (by simpa using nDb), hb1, ⟨wst, e1 st _ (by simpa using nsb) hst, hsl⟩, c.fne⟩
  refine q_setL (K := K) (en_lst ea_nil (by simp)) fun t H2 ht e2 hlt => ?_
  obtain ⟨wt, hwt, hwd⟩ := hlt
  cases hwd
  have c2 := c1.ex e2
  have ntt : tb ≠ t := fun e => by have := c1.ftb; rw [e, ht] at this; cases this
  have nat : a ≠ t := fun e => by have := c1.fob; rw [e, ht] at this; cases this
  have nbt : bc ≠ t := fun e => by have := c1.fbc; rw [e, ht] at this; cases this
  have nDt : D ≠ t := fun e => by obtain ⟨k, hk, _⟩ := c1.ftab; rw [e, ht] at hk; cases hk
  have nst : st ≠ t := fun e => by obtain ⟨k, hk, _⟩ := c1.fst; rw [e, ht] at hk; cases hk
  refine q_forW (M := [t]) (xs := [.ref D]) (ew_list (p := tb) (fun H3 e3 Q' q' => ef_tables T c2 rfl H3 e3 Q' fun v H4 e4 hv => q' v H4 e4 ⟨hv, (e3.trans e4) tb _ c2.ftb⟩) (by simpa using ntt))
    (fun i σ' H' => ∃ s4 s5 s6 s7, σ' = [some (.ref a), some (.int l), some (.int g), some (.ref t), s4, s5, s6, s7] ∧ Ch0 K H' a dx tb D bc st v1 v2 v4 sl n B rows (bec ++ [(l, g)]) ∧ ((i = 0 ∧ H' t = some (.lst [])) ∨ (i = 1 ∧ ∃ D' rows', H' t = some (.lst [.ref D']) ∧ Tab H' D' rows' ∧ RepOk l g rows rows')))
    ⟨_, _, _, _, rfl, c2, .inl ⟨rfl, hwt⟩⟩ (fun i σ1 Ha Hb h e => ?_) ?_ ?_
  · obtain ⟨s4, s5, s6, s7, h1, h2, h3⟩ := h
    refine ⟨s4, s5, s6, s7, h1, h2.ex e, ?_⟩
    rcases h3 with ⟨h3, h4⟩ | ⟨h3, D', rows', h4, h5, h6⟩
    · exact .inl ⟨h3, e t _ h4⟩
    · exact .inr ⟨h3, D', rows', e t _ h4, h5.ex e, h6⟩
  · rintro i x σ1 H3 hx ⟨s4, s5, s6, s7, rfl, c3, h3⟩ e3
    have hi : i = 0 := by
      have := (List.getElem?_eq_some_iff.mp hx).1
      simpa using this
    subst hi
    cases hx
    have ht3 : H3 t = some (.lst []) := by
      rcases h3 with ⟨_, h⟩ | ⟨h, _⟩
      · exact h
      · cases h
    refine ⟨_, tgt_name, fun H4 e4 N hN => ?_⟩
    have c4 := c3.ex e4
    obtain ⟨kvs4, hD4, hkv4⟩ := id c4.ftab
    have ht4 := e4 t _ ht3
    -- the rows are read while the dict is locked
    refine ⟨D, .dT kvs4, hD4, trivial, fun od => ?_⟩
    have hL : upd H4 D (.frz od (.dT kvs4)) D = some (.frz od (.dT kvs4)) := upd_same
    refine s_asgX (x_lcRelD (K := K) (bs := rows) (enc := rowD) (fun r H' x => Tr H' x (NS.sub l g r)) (fun _ _ _ _ e h => h.ex e) (fun _ _ _ _ _ _ hp h => tr_keepU hp h) (es_keysT rfl hL hkv4) (by omega) (fun r hr x H5 e5 hx =>
      ⟨_, tgt_name, rfl, er_tupR (en_lcM (K := K) (as := r) (enc := PyData.int) (fun z => .int (if z = l then g else z)) (es_sqT (ed_var rfl hx)) (by have := hrl r hr; omega) (fun _ _ => rfl) fun z hz u H6 e6 hu =>
        ⟨_, tgt_name, rfl, ed_if (et_test (ed_is (ed_eq (ed_var rfl hu) (ed_var rfl (.int l)) (sh_int _) (sh_int _)) (by rw [eqv_int]))) (fun h => ?_) (fun h => ?_)⟩)⟩) fun p ws H5 hp e5 hpw hpr => ?_)
    · rw [if_pos (of_decide_eq_true h)]; exact ed_var rfl (.int g)
    · rw [if_neg (of_decide_eq_false h)]; exact ed_var rfl hu
    · obtain ⟨Lr, rfl, hRt, hLm⟩ := paired_rt hpr
      have hD5 : H5 D = some (.frz od (.dT kvs4)) := e5 D _ hL
      refine ⟨hD5, ?_⟩
      -- behind the lock
      have e45 : Ex H4 (upd H5 D (.dT kvs4)) := fun b o hb => by
        by_cases hbD : b = D
        · rw [hbD] at hb ⊢
          rw [upd_same]
          rw [hD4] at hb
          exact hb
        · rw [upd_ne hbD]
          exact e5 b o (by rw [upd_ne hbD]; exact hb)
      have npD : p ≠ D := fun e => by rw [e, hL] at hp; cases hp
      have hp6 : upd H5 D (.dT kvs4) p = some (.lst (rv Lr)) := by rw [upd_ne npD]; exact hpw
      have hRt6 : Rt (upd H5 D (.dT kvs4)) Lr := fun q hq => by
        have := hRt q hq
        rw [upd_ne (fun e => by rw [e, hD5] at this; cases this)]
        exact this
      have c6 := c4.ex e45
      have ht6 := e45 t _ ht4
      generalize hH6 : upd H5 D (.dT kvs4) = H6 at e45 hp6 hRt6 c6 ht6
      have hLl : Lr.length = rows.length := by have := congrArg List.length hLm; simpa using this
      refine ⟨_, rfl, .inl ⟨rfl, _, SqL.of ht6⟩, ?_⟩
      refine x_dcRows (σ := [some (.ref a), some (.int l), some (.int g), some (.ref t), some (.ref D), some (.ref p), s6, s7]) (L := Lr) hRt6 (by omega) (ew_list (p := p) (ep_varR rfl hp6) (by simp)) (fun _ => rfl) (fun _ => rfl) fun D' rows' H7 hD' e7 hT' hm' hl' => ?_
      have ht7 := e7 t _ ht6
      refine ⟨t, [], .ref D', rfl, rfl, ht7, Evl.sz_lt (by simp), ?_⟩
      have et : ExB [t] H7 (upd H7 t (.lst ([] ++ [.ref D']))) := (ExB.refl _ _).upd (by simp) _
      have tt : Trk H7 [t] := Trk.one ht7 trivial
      have nD't : D' ≠ t := fun e => by rw [← e, hD'] at ht6; cases ht6
      refine hN _ _ ⟨_, _, _, _, rfl, (c6.ex e7).keep tt.muts et (by simpa using nat) (by simpa using ntt) (by simpa using nDt) (by simpa using nbt) (by simpa using nst), .inr ⟨rfl, D', rows', upd_same, hT'.keep et (by simpa using nD't), fun r' => ?_, by omega⟩⟩ ?_
      · rw [hm', hLm]
        constructor
        · intro h
          obtain ⟨r, hr, rfl⟩ := List.mem_map.mp h
          exact ⟨r, hr, rfl⟩
        · rintro ⟨r, hr, rfl⟩
          exact List.mem_map.mpr ⟨r, hr, rfl⟩
      · exact (ExB.of (e45.trans e7)).trans et
  · rintro σ1 H3 ⟨s4, s5, s6, s7, rfl, c3, h3⟩ e3
    rcases h3 with ⟨h, _⟩ | ⟨_, D', rows', ht3, hT3, hR3⟩
    · cases h
    refine ⟨_, rfl, _, rfl, a, aC K, dx, _, rfl, c3.fob, T.cls, T.no_tables, by show 7 < 1000; decide, ?_⟩
    have ea : ExB [a] H3 (upd H3 a (.ins (aC K) dx (putF "tables" (.ref t) (chFs v1 v2 tb v4 bc st)))) := (ExB.refl _ _).upd (by simp) _
    have ta : Trk H3 [a] := Trk.one c3.fob trivial
    obtain ⟨w3, hw3, hw3l⟩ := c3.fst
    refine q _ rows' ?_ ⟨dx, t, D', v1, v2, v4, ⟨?_, c3.fsc.keep ta.muts ea (nl_cols _), c3.fbk.keep ta.muts ea (nl_all nl_dep B), ea t _ (by simpa using nat.symm) ht3, hT3.keep ea ?_, ea bc _ (by simpa using nab.symm) c3.fbc, ⟨w3, ea st _ (by simpa using nsa) hw3, hw3l⟩, nst.symm⟩⟩ hR3
    · have htn : H t = none := by
        cases hq : H t with
        | none => rfl
        | some o =>
          have := e1 t o (by simpa using nbt.symm) hq
          rw [ht] at this
          cases this
      have h1 : ExB [t, a, bc] H (upd H3 a (.ins (aC K) dx (putF "tables" (.ref t) (chFs v1 v2 tb v4 bc st)))) := (((e1.mono (T := [t, a, bc]) (by simp)).then e2).trans (e3.mono (by simp))).trans (ea.mono (by simp))
      exact h1.drop htn
    · rw [upd_same]; rfl
    · obtain ⟨k3, hk3, _⟩ := hT3
      simp only [List.mem_singleton]
      intro e
      rw [e, c3.fob] at hk3
      cases hk3
end
end NS
set_option Elab.async false
set_option linter.all false
set_option maxRecDepth 100000
set_option maxHeartbeats 4000000
namespace NS
open PySem PySem.Spec PyProof.Rows L2
open Evl (Ex)
section
variable {P : Program} {w : World} {K : Fg} {mg : Str → Option Value} {base : Heap}
/-! ### Chase.make_equal -/
theorem scC_make_equal : FnScope ["self", "index", "one", "other", "unlike", "values", "column"] ["self", "index", "one", "other"] (defScope sC_make_equal) := ⟨rfl, rfl, rfl, by decide +kernel, rfl, by decide +kernel, by decide +kernel⟩
def spMakeEq (K : Fg) : Sp := fun vs H Q _ => ∃ (a bc st : Addr) (sl n : Nat) (B : Book) (rows : List (List Int)) (bec : List (Int × Int)) (idx : Nat) (d : Dep) (one other : List Int) (x1 x2 : V), vs = [.ref a, .int idx, x1, x2] ∧ Ch K H a bc st sl n B rows bec ∧ B[idx]? = some d ∧ OkD n d ∧ n ≤ 100 ∧
  Dp K H x1 (rowD one) ∧ Dp K H x2 (rowD other) ∧ one.length = n ∧ other.length = n ∧ pk one d.r ≠ pk other d.r ∧ (∀ x ∈ one, x ≤ -1 ∧ x ∉ keysOf bec) ∧ (∀ x ∈ other, x ≤ -1 ∧ x ∉ keysOf bec) ∧ bec.length ≤ 1000 ∧ sl ≤ 1000 ∧ rows.length ≤ 1000 ∧ (∀ r ∈ rows, r.length ≤ 1000) ∧
  ∀ H' rows' c l g, ExB [a, bc, st] H H' → Ch K H' a bc st (sl + 1) n B rows' (bec ++ [(l, g)]) → c ∈ d.r → ((one.getD c 0 = l ∧ other.getD c 0 = g) ∨ (one.getD c 0 = g ∧ other.getD c 0 = l)) → l < g → RepOk l g rows rows' → Q .non H'
/-- two numbers in order -/
theorem perm_two {x y : Int} {ns : List Int} (h : ns.Perm [x, y]) (s : ns.Pairwise (· ≤ ·)) (ne : x ≠ y) : ∃ l g, ns = [l, g] ∧ l < g ∧ ((x = l ∧ y = g) ∨ (x = g ∧ y = l)) := by
  have hl := h.length_eq
  match ns, hl with
  | [p, q], _ =>
    have hp : p = x ∨ p = y := by have := h.mem_iff (a := p); simp at this; exact this
    have hs : p ≤ q := by simpa using s
    rcases hp with rfl | rfl
    · have h2 : [q].Perm [y] := (List.perm_cons p).mp h
      have := List.singleton_perm_singleton.mp h2
      subst this
      exact ⟨p, q, rfl, by omega, .inl ⟨rfl, rfl⟩⟩
    · have h2 : [q].Perm [x] := (List.perm_cons p).mp (h.trans (List.Perm.swap _ _ _))
      have := List.singleton_perm_singleton.mp h2
      subst this
      exact ⟨p, q, rfl, by omega, .inr ⟨rfl, rfl⟩⟩
theorem okC_make_equal (T : Txt K mg) : GoodM P w K mg base 2 "make_equal" ["self", "index", "one", "other"] (spMakeEq K) := by
  refine goodM_of (m := "make_equal") (q := "Chase.make_equal") (st := sC_make_equal) (N := ["self", "index", "one", "other", "unlike", "values", "column"]) (T.def_ 42) scC_make_equal (fun _ _ _ _ _ _ us hl => match us, hl with | [_, _, _, _], _ => rfl) (fun vs H Q E h => by obtain ⟨_, _, _, _, _, _, _, _, _, _, _, _, _, _, rfl, _⟩ := h; rfl) fun cdv A outer s H vs Q E hr h =>
    ⟨_, (pss_cons (ps_expr (kBm (K := K) rfl PySem.F.plainAttrs_list PySem.F.slot_list_append PySem.F.type_list_append mt_append (kFld (K := K) rfl (pv 0)) (pa_cons (pe_tup (pa_cons pe_str (pa_cons (pv 1) (pa_cons (pv 2) (pa_cons (pv 3) pa_nil))))) pa_nil)))
        (pss_cons (ps_setLc (i := 4) (own := [("column", 6)]) (g := gName 6) rfl scC_make_equal.nd rfl rfl (sw_true rfl rfl rfl (by kernel_rfl)) (kSq (K := K) rfl (pe_ix (kIx (K := K) rfl) (pe_ix (kIx (K := K) rfl) (kFld (K := K) rfl (pv 0)) (pv 1) (fun _ _ => rfl)) pe_int (fun _ _ => rfl))) (blkOk_by (by kernel_rfl)) (fun _ _ _ _ _ => (pg_name (i := 6) scC_make_equal.nd rfl (by first | exact Or.inl rfl | exact Or.inr rfl))) (fun _ _ _ _ _ => pts_one (pt_cmpR (kNe (K := K) rfl (room64 hr)) (pe_ix (kIx (K := K) rfl) (pv 2) (pv 6) (fun _ _ => rfl)) (pe_ix (kIx (K := K) rfl) (pv 3) (pv 6) (fun _ _ => rfl)) (nomark _))) (fun _ _ _ _ _ => (pv 6)))
        (pss_cons (ps_set (i := 5) scC_make_equal.nd rfl (by first | exact Or.inl rfl | exact Or.inr rfl) (pe_callB (kSorted (K := K) rfl) rfl T.sorted0 PyProof.Rows.boot_sorted (pa_cons (pe_lst (pa_cons (pe_ix (kIx (K := K) rfl) (pv 2) (pe_ix (kIx (K := K) rfl) (pv 4) pe_int (fun _ _ => rfl)) (fun _ _ => rfl)) (pa_cons (pe_ix (kIx (K := K) rfl) (pv 3) (pe_ix (kIx (K := K) rfl) (pv 4) pe_int (fun _ _ => rfl)) (fun _ _ => rfl)) pa_nil))) pa_nil)))
        (pss_one (ps_if (pt_cmpR op_ge (pe_ix (kIx (K := K) rfl) (pv 5) pe_int (fun _ _ => rfl)) pe_int (nomark _)) (pss_one (kSetFld (K := K) rfl (pv 0) pe_bl rfl)) (pss_one (ps_expr (pe_methG (K := K) rfl T.cls T.m_replace (okC_replace (P := P) (w := w) (base := base) T) (hr.mono (by decide)) (pv 0) (pa_cons (pe_ix (kIx (K := K) rfl) (pv 5) pe_int (fun _ _ => rfl)) (pa_cons (pe_ix (kIx (K := K) rfl) (pv 5) pe_int (fun _ _ => rfl)) pa_nil)))))))))), ?_⟩
  obtain ⟨a, bc, st, sl, n, B, rows, bec, idx, d, one, other, x1, x2, rfl, ⟨dx, tb, D, v1, v2, v4, c⟩, hd, okd, hn, h1, h2, l1, l2, hne, u1, u2, hbz, hsz, hrz, hrl, q⟩ := h
  obtain ⟨wst, hst, hsl⟩ := c.fst
  -- the step is told
  refine q_bm (ef_steps (σ := [some (.ref a), some (.int idx), some x1, some x2, none, none, none]) (i := 0) T c rfl H (Ex.refl H) _ fun y H1 e1 hy => ?_)
  subst hy
  have hst1 := e1 st _ hst
  refine ⟨.inl ⟨rfl, _, SqL.of hst1⟩, _, rfl, _, rfl, _, rfl, by show 4 ≤ sizeLine; decide, fun t ht => ?_⟩
  have et := Ex.new (o := .tup [.str "equal", .int idx, x1, x2]) ht
  refine ⟨st, wst, .ref t, rfl, rfl, et st _ hst1, Evl.sz_lt (by omega), ?_⟩
  have es := (ExB.refl [st] (upd H1 t (.tup [.str "equal", .int idx, x1, x2]))).upd (p := st) (by simp) (.lst (wst ++ [.ref t]))
  have hst2 := et st _ hst1
  have ts : Trk (upd H1 t (.tup [.str "equal", .int idx, x1, x2])) [st] := Trk.one hst2 trivial
  have c2 := (c.ex e1).ex et
  have h12 := (h1.ex e1).ex et
  have h22 := (h2.ex e1).ex et
  generalize hH2 : upd H1 t (.tup [.str "equal", .int idx, x1, x2]) = H2 at et es hst2 ts c2 h12 h22
  have hst3 : upd H2 st (.lst (wst ++ [.ref t])) st = some (.lst (wst ++ [.ref t])) := upd_same
  have nsa : a ≠ st := fun e => by have := c2.fob; rw [e, hst2] at this; cases this
  have nsb : bc ≠ st := fun e => by have := c2.fbc; rw [e, hst2] at this; cases this
  have nsD : D ≠ st := fun e => by obtain ⟨k, hk, _⟩ := c2.ftab; rw [e, hst2] at hk; cases hk
  have h13 := h12.keep ts.muts es (nl_row _)
  have h23 := h22.keep ts.muts es (nl_row _)
  have c3 : Ch0 K (upd H2 st (.lst (wst ++ [.ref t]))) a dx tb D bc st v1 v2 v4 (sl + 1) n B rows bec := ⟨es a _ (by simpa using nsa) c2.fob, c2.fsc.keep ts.muts es (nl_cols _), c2.fbk.keep ts.muts es (nl_all nl_dep B), es tb _ (by simpa using c2.fne) c2.ftb, c2.ftab.keep es (by simpa using nsD), es bc _ (by simpa using nsb) c2.fbc, ⟨_, hst3, by simp [hsl]⟩, c2.fne⟩
  generalize hH3 : upd H2 st (.lst (wst ++ [.ref t])) = H3 at es hst3 h13 h23 c3
  have e03 : ExB [st] H H3 := (ExB.of (e1.trans et)).trans es
  have hB : (B.map depD)[idx]? = some (depD d) := by rw [List.getElem?_map, hd]; rfl
  have hlt : ∀ c ∈ d.r, c < n := fun c hc => sub_lt okd.r hc
  have hne' : ∃ c ∈ d.r, one.getD c 0 ≠ other.getD c 0 := by
    refine Classical.byContradiction fun hno => hne (pk_eq.mpr fun c hc => ?_)
    exact Classical.byContradiction fun hx => hno ⟨c, hc, hx⟩
  refine q_setL (K := K) (en_lcF (K := K) (as := d.r) (enc := nI) (fun c => !decide (one.getD c 0 = other.getD c 0)) nI (es_sqT (ed_ixT (n := 3) (ed_ixT (n := idx) (ed_book T c3 rfl) (ed_var rfl (.int _)) hB) ed_i rfl)) (Nat.le_trans (sub_len okd.r) (by omega)) (fun _ _ => rfl) fun c' hc u H4 e4 hu =>
    ⟨_, tgt_name, rfl, et_test (ed_is (ed_ne (ed_ixR (ed_var rfl (h13.ex e4)) (ed_var rfl hu) (by rw [l1]; exact hlt c' hc)) (ed_ixR (ed_var rfl (h23.ex e4)) (ed_var rfl hu) (by rw [l2]; exact hlt c' hc)) (sh_int _) (sh_int _)) (by rw [eqv_int])), fun _ => ed_var rfl hu⟩) fun p H4 hp e4 hlp => ?_
  -- the first unlike column
  obtain ⟨c0, r0, hur⟩ : ∃ c0 r0, (d.r.filter fun c => !decide (one.getD c 0 = other.getD c 0)) = c0 :: r0 := by
    obtain ⟨c, hc, hx⟩ := hne'
    have hm : c ∈ d.r.filter fun c => !decide (one.getD c 0 = other.getD c 0) := List.mem_filter.mpr ⟨hc, by simpa using hx⟩
    cases hf : d.r.filter fun c => !decide (one.getD c 0 = other.getD c 0) with
    | nil => rw [hf] at hm; cases hm
    | cons c0 r0 => exact ⟨c0, r0, rfl⟩
  have hc0 : c0 ∈ d.r ∧ one.getD c0 0 ≠ other.getD c0 0 := by
    have hm : c0 ∈ d.r.filter fun c => !decide (one.getD c 0 = other.getD c 0) := by rw [hur]; exact List.mem_cons_self ..
    have := List.mem_filter.mp hm
    exact ⟨this.1, by simpa using this.2⟩
  rw [hur] at hlp
  have h14 := h13.ex e4
  have h24 := h23.ex e4
  have ci0 : ∀ H5, Ex H4 H5 → EvD K (tOp (rIx K) (tVar 4) (tC (.int 0))) [some (.ref a), some (.int idx), some x1, some x2, some (.ref p), none, none] H5 (nI c0) := fun H5 e5 => ed_ixL (n := 0) (ed_var rfl (hlp.ex e5).dp) ed_i rfl
  have m1 : one.getD c0 0 ∈ one := getD_mem (by rw [l1]; exact hlt c0 hc0.1)
  have m2 : other.getD c0 0 ∈ other := getD_mem (by rw [l2]; exact hlt c0 hc0.1)
  refine q_cb1 ?_
  refine (en_lst (ea2 (ed_ixR (ed_var (i := 2) rfl h14) (ci0 H4 (Ex.refl H4)) (by rw [l1]; exact hlt c0 hc0.1)) (ed_ixR (ed_var (i := 3) rfl h24) (ci0 H4 (Ex.refl H4)) (by rw [l2]; exact hlt c0 hc0.1))) (by simp)) H4 (Ex.refl H4) _ fun p2 ws H5 hp2 e5 hw5 hws => ?_
  have hws' : ws = [one.getD c0 0, other.getD c0 0].map V.int := DpAll.ints (is := [one.getD c0 0, other.getD c0 0]) hws
  rw [hws'] at hw5
  refine ⟨p2, [one.getD c0 0, other.getD c0 0], rfl, SqL.of hw5, fun ns' p3 hpm hps hp3 => ?_⟩
  obtain ⟨l, g, rfl, hlg, halt⟩ := perm_two hpm hps hc0.2
  have e6 := Ex.new (o := .lst ([l, g].map V.int)) hp3
  have hv : Lst K (upd H5 p3 (.lst ([l, g].map V.int))) p3 ([l, g].map .int) := Lst.ofInts upd_same
  have e46 := e5.trans e6
  generalize hH6 : upd H5 p3 (.lst ([l, g].map V.int)) = H6 at e6 hv e46
  have c6 := (c3.ex e4).ex e46
  have hl0 : l ≤ -1 ∧ l ∉ keysOf bec := by
    rcases halt with ⟨h, _⟩ | ⟨_, h⟩
    · rw [← h]; exact u1 _ m1
    · rw [← h]; exact u2 _ m2
  refine s_if (b := false) (et_test (ed_is (ed_ge (ed_ixL (n := 0) (ed_var rfl hv.dp) ed_i rfl) ed_i) (by rw [decide_eq_false (by omega)]))) (fun h => by cases h) fun _ H7 e7 => ?_
  have hv7 := hv.ex e7
  have c7 := c6.ex e7
  refine s_exprX ⟨_, rfl, a, dx, _, rfl, c7.fob, rfl, (ea2 (ed_ixL (n := 0) (ed_var (σ := [some (.ref a), some (.int idx), some x1, some x2, some (.ref p), some (.ref p3), none]) (i := 5) rfl hv7.dp) ed_i rfl) (ed_ixL (n := 1) (ed_var (i := 5) rfl hv7.dp) ed_i rfl)) H7 (Ex.refl H7) _ fun vs H8 e8 hvs => ?_⟩
  obtain ⟨y1, y2, rfl, hy1, hy2⟩ := dpAll2 hvs
  refine ⟨a, bc, st, sl + 1, n, B, rows, bec, l, g, by rw [hy1.int_inv, hy2.int_inv]; rfl, ⟨dx, tb, D, v1, v2, v4, c7.ex e8⟩, hl0.2, hbz, hrz, hrl, fun H9 rows' e9 c9 hR => q H9 rows' c0 l g ?_ c9 hc0.1 ?_ hlg hR⟩
  · exact ((e03.mono (T := [a, bc, st]) (by simp)).then (((e4.trans e46).trans e7).trans e8)).trans (e9.mono (by simp))
  · rcases halt with ⟨h3, h4⟩ | ⟨h3, h4⟩
    · exact .inl ⟨h3, h4⟩
    · exact .inr ⟨h3, h4⟩
end
end NS
set_option Elab.async false
set_option linter.all false
set_option maxRecDepth 100000
set_option maxHeartbeats 4000000
namespace NS
open PySem PySem.Spec PyProof.Rows L2
open Evl (Ex)
theorem ints_inj : ∀ {a b : List Int}, a.map V.int = b.map V.int → a = b
  | [], [], _ => rfl
  | [], _ :: _, h => by simp at h
  | _ :: _, [], h => by simp at h
  | x :: a, y :: b, h => by
    rw [List.map_cons, List.map_cons] at h
    injection h with h1 h2
    injection h1 with h1
    rw [h1, ints_inj h2]
theorem Rt.ex {H H' : Hp} {L : List (Addr × List Int)} (h : Rt H L) (e : Ex H H') : Rt H' L := fun q hq => e _ _ (h q hq)
theorem Rt.keep {H H' : Hp} {L : List (Addr × List Int)} {S : List Addr} (h : Rt H L) (m : MutS H S) (e : ExB S H H') : Rt H' L := fun q hq => e _ _ (fun hm => m _ hm _ (h q hq)) (h q hq)
theorem Rt.dp {K : Fg} {H : Hp} {L : List (Addr × List Int)} (h : Rt H L) {q : Addr × List Int} (hq : q ∈ L) : Dp K H (.ref q.1) (rowD q.2) := .tup (SqT.of (h q hq)) DpAll.ofInts
section
variable {P : Program} {w : World} {K : Fg} {mg : Str → Option Value} {base : Heap}
/-! ### Chase.unequal -/
theorem scC_unequal : FnScope ["self", "index", "left", "right", "firsts", "row", "first"] ["self", "index"] (defScope sC_unequal) := ⟨rfl, rfl, rfl, by decide +kernel, rfl, by decide +kernel, by decide +kernel⟩
def spUnequal (K : Fg) : Sp := fun vs H Q _ => ∃ (a bc st : Addr) (sl n : Nat) (B : Book) (rows : List (List Int)) (bec : List (Int × Int)) (idx : Nat) (d : Dep), vs = [.ref a, .int idx] ∧ Ch K H a bc st sl n B rows bec ∧ B[idx]? = some d ∧ OkD n d ∧ 1 ≤ n ∧ n ≤ 100 ∧ rows.length ≤ 1000 ∧ (∀ r ∈ rows, r.length = n) ∧
  (∀ H', Ex H H' → StD rows d → Q .non H') ∧
  (∀ t b1 b2 one other H', Ex H H' → one ∈ rows → other ∈ rows → H' t = some (.tup [.ref b1, .ref b2]) → Dp K H' (.ref b1) (rowD one) → Dp K H' (.ref b2) (rowD other) → pk one d.l = pk other d.l → pk one d.r ≠ pk other d.r → Q (.ref t) H')
theorem okC_unequal (T : Txt K mg) : GoodM P w K mg base 3 "unequal" ["self", "index"] (spUnequal K) := by
  refine goodM_of (m := "unequal") (q := "Chase.unequal") (st := sC_unequal) (N := ["self", "index", "left", "right", "firsts", "row", "first"]) (T.def_ 43) scC_unequal (fun _ _ _ _ _ _ us hl => match us, hl with | [_, _], _ => rfl) (fun vs H Q E h => by obtain ⟨_, _, _, _, _, _, _, _, _, _, rfl, _⟩ := h; rfl) fun cdv A outer s H vs Q E hr h =>
    ⟨_, (pss_cons (ps_asg (pe_slice (kSl (K := K) rfl) (pe_ix (kIx (K := K) rfl) (kFld (K := K) rfl (pv 0)) (pv 1) (fun _ _ => rfl)) (po_some pe_int) po_none) (kTg (K := K) (n := 2) rfl rfl (pgs_cons (pg_name (i := 2) scC_unequal.nd rfl (by first | exact Or.inl rfl | exact Or.inr rfl)) (pgs_cons (pg_name (i := 3) scC_unequal.nd rfl (by first | exact Or.inl rfl | exact Or.inr rfl)) pgs_nil))))
        (pss_cons (ps_set (i := 4) scC_unequal.nd rfl (by first | exact Or.inl rfl | exact Or.inr rfl) pe_dnewT)
        (pss_cons (ps_for PassesOwn.never rfl (kSq (K := K) rfl (pe_callB (kSrtD rfl (room64 hr)) rfl T.sorted0 PyProof.Rows.boot_sorted (pa_cons (pe_ix (kIx (K := K) rfl) (kFld (K := K) rfl (pv 0)) (pe_ix (kIx (K := K) rfl) (pe_ix (kIx (K := K) rfl) (kFld (K := K) rfl (pv 0)) (pv 1) (fun _ _ => rfl)) pe_int (fun _ _ => rfl)) (fun _ _ => rfl)) pa_nil))) (pg_name (i := 5) scC_unequal.nd rfl (by first | exact Or.inl rfl | exact Or.inr rfl)) (pss_cons (ps_set (i := 6) scC_unequal.nd rfl (by first | exact Or.inl rfl | exact Or.inr rfl) (pe_dsetdT (room1 hr) (pv 4) (pe_callG (ok_picked (P := P) (w := w) (base := base) T) (hr.mono (by decide)) rfl (pa_cons (pv 5) (pa_cons (pv 2) pa_nil))) (pv 5) ⟨rfl, rfl, rfl, rfl⟩))
        (pss_one (ps_if (pt_not (pt_val (pe_callG (ok_agree (P := P) (w := w) (base := base) T) (hr.mono (by decide)) rfl (pa_cons (pv 6) (pa_cons (pv 5) (pa_cons (pv 3) pa_nil)))))) (pss_one (ps_ret (pe_tup (pa_cons (pv 6) (pa_cons (pv 5) pa_nil))))) pss_nil))))
        (pss_one (ps_ret pe_non))))), ?_⟩
  obtain ⟨a, bc, st, sl, n, B, rows, bec, idx, d, rfl, ⟨dx, tb, D, v1, v2, v4, c⟩, hd, okd, hn1, hn, hrz, hrl, q0, q1⟩ := h
  have hB : (B.map depD)[idx]? = some (depD d) := by rw [List.getElem?_map, hd]; rfl
  refine q_pair (K := K) (d1 := cols d.l) (d2 := cols d.r) (ed_fromT (k := 2) (ed_ixT (n := idx) (ed_book T c rfl) (ed_var rfl (.int _)) hB) ed_i) fun yl yr H1 e1 hyl hyr => ?_
  refine q_newT fun fd H2 hfd e2 hf2 => ?_
  have c2 := (c.ex e1).ex e2
  have hyl2 := hyl.ex e2
  have hyr2 := hyr.ex e2
  obtain ⟨kvs, hD, hk⟩ := id c2.ftab
  -- the rows in order
  refine .inl (ef_table T c2 rfl (ed_ixT (n := 1) (ed_ixT (n := idx) (ed_book T c2 rfl) (ed_var rfl (.int _)) hB) ed_i rfl) H2 (Ex.refl H2) _ fun x H3 e3 hx => ?_)
  subst hx
  refine ⟨D, kvs, rows, rfl, e3 D _ hD, hk, srt_rows (fun r hr e => ?_) (by omega), fun p L hpm hRt hp => ⟨p, rfl, ⟨rv L, SqL.of upd_same⟩, ?_⟩⟩
  · have := hrl r hr
    rw [e] at this
    simp at this
    omega
  have hmem : ∀ q ∈ L, q.2 ∈ rows := fun q hq => hpm.mem_iff.mp (List.mem_map.mpr ⟨q, hq, rfl⟩)
  have hmem' : ∀ r ∈ rows, ∃ q ∈ L, q.2 = r := fun r hr => by
    obtain ⟨q, hq, e⟩ := List.mem_map.mp (hpm.mem_iff.mpr hr)
    exact ⟨q, hq, e⟩
  have hLl : L.length = rows.length := by have := hpm.length_eq; simpa using this
  have ep := Ex.new (o := .lst (rv L)) hp
  have hRt4 := hRt.ex ep
  have hp4 : upd H3 p (.lst (rv L)) p = some (.lst (rv L)) := upd_same
  have c4 := (c2.ex e3).ex ep
  have hf4 := ep fd _ (e3 fd _ hf2)
  have hyl4 := (hyl2.ex e3).ex ep
  have hyr4 := (hyr2.ex e3).ex ep
  have e04 : Ex H (upd H3 p (.lst (rv L))) := ((e1.trans e2).trans e3).trans ep
  generalize hH4 : upd H3 p (.lst (rv L)) = H4 at hRt4 hp4 c4 hf4 hyl4 hyr4 e04
  have npf : p ≠ fd := fun e => by rw [e, hf4] at hp4; cases hp4
  have tf : Trk H4 [fd] := Trk.one hf4 trivial
  refine for_restW (M := [fd]) (walk_list.mono (fun H5 e5 => sqL_keep (K := K) (by simpa using npf) e5 (SqL.of hp4)) fun i H5 x H6 hi e5 y => y)
    (fun i σ' H' => ∃ (s5 s6 : Option V) (kF : List (List L2.Key × V)), σ' = [some (.ref a), some (.int idx), some yl, some yr, some (.ref fd), s5, s6] ∧ H' fd = some (.dT kF) ∧ kF.length ≤ i ∧
      (∀ q ∈ L.take i, ∃ q' ∈ L, valV kF (kk (pk q.2 d.l)) = some (.ref q'.1) ∧ pk q'.2 d.l = pk q.2 d.l ∧ pk q'.2 d.r = pk q.2 d.r) ∧ (∀ k v, valV kF k = some v → ∃ q' ∈ L, v = .ref q'.1 ∧ k = kk (pk q'.2 d.l)))
    ⟨_, _, [], rfl, hf4, Nat.le_refl 0, (fun q h => by simp at h), fun k v h => by cases h⟩ ?_ ?_
  · rintro i x σ1 H5 hx ⟨s5, s6, kF, rfl, hf5, hkl, hi1, hi2⟩ e5
    cases hLi : L[i]? with
    | none => rw [List.getElem?_map, hLi] at hx; cases hx
    | some q =>
      rw [List.getElem?_map, hLi] at hx
      cases hx
      have hqL := List.mem_of_getElem? hLi
      refine ⟨_, tgt_name, fun H6 e6 N hN => ?_⟩
      have e46 : ExB [fd] H4 H6 := e5.then e6
      have hRt6 := hRt4.keep tf.muts e46
      have hyl6 := hyl4.keep tf.muts e46 (nl_cols _)
      have hf6 := e6 fd _ hf5
      have iL : i < L.length := (List.getElem?_eq_some_iff.mp hLi).1
      refine q_setd rfl hf6 (by omega) (er_picked (K := K) (ea2 (ed_var rfl (hRt6.dp hqL)) (ed_var rfl hyl6)) (Nat.le_trans (sub_len okd.l) (by omega)) fun c' hc' => by rw [hrl _ (hmem q hqL)]; exact sub_lt okd.l hc') rfl fun v H7 kF' e7 hf7 hcase => ?_
      have tf6 : Trk H6 [fd] := Trk.one hf6 trivial
      -- the first row with these values
      obtain ⟨q', hq', rfl, hpl, hval, hi2'⟩ : ∃ q' ∈ L, v = .ref q'.1 ∧ pk q'.2 d.l = pk q.2 d.l ∧ valV kF' (kk (pk q.2 d.l)) = some v ∧ (∀ k v, valV kF' k = some v → ∃ q' ∈ L, v = .ref q'.1 ∧ k = kk (pk q'.2 d.l)) := by
        rcases hcase with ⟨hv, rfl⟩ | ⟨hv, rfl, rfl⟩
        · obtain ⟨q', h1, h2, h3⟩ := hi2 _ _ hv
          exact ⟨q', h1, h2, (kk_inj h3).symm, hv, hi2⟩
        · refine ⟨q, hqL, rfl, rfl, by rw [valV_put, if_pos rfl], fun k v h => ?_⟩
          rw [valV_put] at h
          by_cases e : k = kk (pk q.2 d.l)
          · rw [if_pos e] at h
            cases h
            exact ⟨q, hqL, rfl, e⟩
          · rw [if_neg e] at h
            exact hi2 k v h
      have hkl' : kF'.length ≤ i + 1 := by
        rcases hcase with ⟨_, rfl⟩ | ⟨_, _, rfl⟩
        · omega
        · exact Nat.le_trans (length_putK _ _ _) (by omega)
      have old : ∀ q0 ∈ L.take i, ∃ q'' ∈ L, valV kF' (kk (pk q0.2 d.l)) = some (.ref q''.1) ∧ pk q''.2 d.l = pk q0.2 d.l ∧ pk q''.2 d.r = pk q0.2 d.r := fun q0 hq0 => by
        obtain ⟨q'', g1, g2, g3, g4⟩ := hi1 q0 hq0
        refine ⟨q'', g1, ?_, g3, g4⟩
        rcases hcase with ⟨_, rfl⟩ | ⟨hv, _, rfl⟩
        · exact g2
        · rw [valV_put]
          by_cases e : kk (pk q0.2 d.l) = kk (pk q.2 d.l)
          · rw [e] at g2; rw [g2] at hv; cases hv
          · rw [if_neg e]; exact g2
      have hRt7 := hRt6.keep tf6.muts e7
      have hyr7 := (hyr4.keep tf.muts e46 (nl_cols _)).keep tf6.muts e7 (nl_cols _)
      have e47 : ExB [fd] H4 H7 := e46.trans e7
      have hlr : ∀ r ∈ rows, ∀ c' ∈ d.r, c' < r.length := fun r hr c' hc' => by rw [hrl r hr]; exact sub_lt okd.r hc'
      refine s_when (b := !decide (pk q'.2 d.r = pk q.2 d.r)) (Evl.et_not (et_B (ed_call (q'.2, q.2, d.r) (ea_cons (ed_var rfl (hRt7.dp hq')) (ea2 (ed_var rfl (hRt7.dp hqL)) (ed_var rfl hyr7))) ⟨Nat.le_trans (sub_len okd.r) (by omega), hlr _ (hmem q' hq'), hlr _ (hmem q hqL)⟩))) (fun hb H8 e8 => ?_) (fun hb H8 e8 => ?_)
      · refine ⟨_, rfl, _, rfl, by show 2 ≤ sizeLine; decide, fun t ht => ?_⟩
        have et := Ex.new (o := .tup [.ref q'.1, .ref q.1]) ht
        have hfn : H fd = none := Evl.fresh_back e1 hfd
        have eA : Ex H H7 := ExB.out e04 e47 (by simpa using hfn)
        have hR9 := (hRt7.ex e8).ex et
        exact q1 t q'.1 q.1 q'.2 q.2 _ ((eA.trans e8).trans et) (hmem q' hq') (hmem q hqL) upd_same (hR9.dp hq') (hR9.dp hqL) hpl (by simpa using hb)
      · refine hN _ _ ⟨_, _, kF', rfl, e8 fd _ hf7, hkl', fun q0 hq0 => ?_, hi2'⟩ (e7.then e8)
        rw [take_snoc hLi] at hq0
        rcases List.mem_append.mp hq0 with h | h
        · exact old q0 h
        · rw [List.mem_singleton.mp h]
          exact ⟨q', hq', hval, hpl, by simpa using hb⟩
  · rintro σ1 H5 ⟨s5, s6, kF, rfl, hf5, hkl, hi1, hi2⟩ e5
    have hlen : (rv L).length = L.length := List.length_map ..
    rw [hlen, List.take_length] at hi1
    have hfn : H fd = none := Evl.fresh_back e1 hfd
    dsimp only
    refine s_ret (K := K) (d := .none) ed_n fun v H6 e6 hv => ?_
    rw [hv.non_inv]
    refine q0 H6 ((ExB.out e04 e5 (by simpa using hfn)).trans e6) fun one h1 other h2 hpl => ?_
    obtain ⟨p1, m1, rfl⟩ := hmem' one h1
    obtain ⟨p2, m2, rfl⟩ := hmem' other h2
    obtain ⟨q1', g1, g2, g3, g4⟩ := hi1 p1 m1
    obtain ⟨q2', f1, f2, f3, f4⟩ := hi1 p2 m2
    rw [hpl, f2] at g2
    injection g2 with g2
    injection g2 with ea
    have e1' := hRt4 q1' g1
    rw [← ea, hRt4 q2' f1] at e1'
    injection e1' with e1'
    injection e1' with e1'
    rw [← g4, ← f4, ints_inj e1']
end
end NS
set_option Elab.async false
set_option linter.all false
set_option maxRecDepth 100000
set_option maxHeartbeats 4000000
namespace NS
open PySem PySem.Spec PyProof.Rows L2
open Evl (Ex)
theorem flat_len {R0 : List (List Int)} {n m : Nat} (h : ∀ r ∈ R0, r.length = n) (hl : R0.length ≤ m) : R0.flatten.length ≤ m * n := by
  have : R0.flatten.length = R0.length * n := by
    clear hl
    induction R0 with
    | nil => simp
    | cons r R ih =>
      rw [List.flatten_cons, List.length_append, ih fun q hq => h q (List.mem_cons_of_mem _ hq), h r (List.mem_cons_self ..), List.length_cons, Nat.succ_mul]
      omega
  rw [this]
  exact Nat.mul_le_mul_right _ hl
section
variable {P : Program} {w : World} {K : Fg} {mg : Str → Option Value} {base : Heap}
/-- what unequal answers -/
def UnOk (K : Fg) (d : Dep) (rows : List (List Int)) (H : Hp) (v : V) : Prop := (v = .non ∧ StD rows d) ∨
  ∃ t b1 b2 one other, v = .ref t ∧ one ∈ rows ∧ other ∈ rows ∧ H t = some (.tup [.ref b1, .ref b2]) ∧ Dp K H (.ref b1) (rowD one) ∧ Dp K H (.ref b2) (rowD other) ∧ pk one d.l = pk other d.l ∧ pk one d.r ≠ pk other d.r
/-- a Chase in the midst of its run -/
def Md (K : Fg) (H : Hp) (a bc st : Addr) (n : Nat) (B : Book) (R0 rows : List (List Int)) (bec : List (Int × Int)) : Prop := Ch K H a bc st bec.length n B rows bec ∧ ∃ nu, CI n B R0 rows bec nu
theorem Md.ex {H H' : Hp} {a bc st : Addr} {n : Nat} {B : Book} {R0 rows : List (List Int)} {bec : List (Int × Int)} (h : Md K H a bc st n B R0 rows bec) (e : Ex H H') : Md K H' a bc st n B R0 rows bec := ⟨h.1.ex e, h.2⟩
/-- the bounds of a run -/
structure Bds (n : Nat) (B : Book) (R0 : List (List Int)) : Prop where
  n1 : 1 ≤ n
  n2 : n ≤ 10
  ok : OkB n B
  bl : B.length ≤ 100
  rl : R0.length ≤ 25
theorem x_unequal (T : Txt K mg) {σ : L2.St} {H : Hp} {i : Nat} {t : TE} {E : XK} {Q : VK} {a bc st : Addr} {sl n : Nat} {B : Book} {rows : List (List Int)} {bec : List (Int × Int)} {idx : Nat} {d : Dep} (hσ : σ[i]? = some (some (.ref a))) (c : Ch K H a bc st sl n B rows bec) (hi : EvD K t σ H (nI idx)) (hd : B[idx]? = some d) (okd : OkD n d) (h1 : 1 ≤ n) (h2 : n ≤ 100) (hr : rows.length ≤ 1000) (hl : ∀ r ∈ rows, r.length = n)
    (q : ∀ v H', Ex H H' → UnOk K d rows H' v → Q v H') : tMeth (aC K) "unequal" (spUnequal K) [] E (tVar i) (tCons t tNil) σ H Q := by
  obtain ⟨dx, tb, D, v1, v2, v4, c0⟩ := id c
  refine ⟨_, hσ, a, dx, _, rfl, c0.fob, rfl, hi H (Ex.refl H) _ fun x H1 e1 hx => ?_⟩
  exact ⟨a, bc, st, sl, n, B, rows, bec, idx, d, by rw [hx.int_inv]; rfl, c.ex e1, hd, okd, h1, h2, hr, hl, fun H' e s => q _ H' (e1.trans e) (.inl ⟨rfl, s⟩), fun t b1 b2 one other H' e g1 g2 g3 g4 g5 g6 g7 => q _ H' (e1.trans e) (.inr ⟨t, b1, b2, one, other, rfl, g1, g2, g3, g4, g5, g6, g7⟩)⟩
theorem CI.rows_len {n : Nat} {B : Book} {R0 rows : List (List Int)} {bec : List (Int × Int)} {nu : Int → Int} (C : CI n B R0 rows bec nu) (b : Bds n B R0) : rows.length ≤ 25 ∧ bec.length ≤ 250 := by
  have h1 := C.ln
  have h2 := C.bec_len
  have h3 := flat_len C.len b.rl
  have h4 : 25 * n ≤ 25 * 10 := Nat.mul_le_mul_left _ b.n2
  have := b.rl
  omega
/-! ### Chase.settle -/
theorem scC_settle : FnScope ["self", "index", "taken", "rows"] ["self", "index"] (defScope sC_settle) := ⟨rfl, rfl, rfl, by decide +kernel, rfl, by decide +kernel, by decide +kernel⟩
/-- what settling one dependency leaves -/
def spSettle (K : Fg) : Sp := fun vs H Q _ => ∃ (a bc st : Addr) (n : Nat) (B : Book) (R0 rows : List (List Int)) (bec : List (Int × Int)) (idx : Nat) (d : Dep), vs = [.ref a, .int idx] ∧ Md K H a bc st n B R0 rows bec ∧ Bds n B R0 ∧ B[idx]? = some d ∧
  ∀ H' rows' bec' b, ExB [a, bc, st] H H' → Md K H' a bc st n B R0 rows' bec' → StD rows' d → (b = false → rows' = rows ∧ bec' = bec) → (b = true → bec.length < bec'.length) → Q (.bl b) H'
theorem okC_settle (T : Txt K mg) : GoodM P w K mg base 4 "settle" ["self", "index"] (spSettle K) := by
  refine goodM_of (m := "settle") (q := "Chase.settle") (st := sC_settle) (N := ["self", "index", "taken", "rows"]) (T.def_ 44) scC_settle (fun _ _ _ _ _ _ us hl => match us, hl with | [_, _], _ => rfl) (fun vs H Q E h => by obtain ⟨_, _, _, _, _, _, _, _, _, _, rfl, _⟩ := h; rfl) fun cdv A outer s H vs Q E hr h =>
    ⟨_, (pss_cons (ps_set (i := 2) scC_settle.nd rfl (by first | exact Or.inl rfl | exact Or.inr rfl) pe_bl)
        (pss_cons (ps_set (i := 3) scC_settle.nd rfl (by first | exact Or.inl rfl | exact Or.inr rfl) (pe_methG (K := K) rfl T.cls T.m_unequal (okC_unequal (P := P) (w := w) (base := base) T) (hr.mono (by decide)) (pv 0) (pa_cons (pv 1) pa_nil)))
        (pss_cons (ps_while PassesOwn.never (PW.pt (pw_and (pt_cmpR op_notN (pv 3) pe_non (nomark _)) (pw_and1 (pt_not (pt_val (kFld (K := K) rfl (pv 0))))))) (pss_cons (ps_expr (pe_methG (K := K) rfl T.cls T.m_make_equal (okC_make_equal (P := P) (w := w) (base := base) T) (hr.mono (by decide)) (pv 0) (pa_cons (pv 1) (pa_cons (pe_ix (kIx (K := K) rfl) (pv 3) pe_int (fun _ _ => rfl)) (pa_cons (pe_ix (kIx (K := K) rfl) (pv 3) pe_int (fun _ _ => rfl)) pa_nil)))))
        (pss_cons (ps_set (i := 2) scC_settle.nd rfl (by first | exact Or.inl rfl | exact Or.inr rfl) pe_bl)
        (pss_one (ps_set (i := 3) scC_settle.nd rfl (by first | exact Or.inl rfl | exact Or.inr rfl) (pe_methG (K := K) rfl T.cls T.m_unequal (okC_unequal (P := P) (w := w) (base := base) T) (hr.mono (by decide)) (pv 0) (pa_cons (pv 1) pa_nil)))))))
        (pss_one (ps_ret (pv 2)))))), ?_⟩
  obtain ⟨a, bc, st, n, B, R0, rows, bec, idx, d, rfl, ⟨c, nu, C⟩, bd, hd, q⟩ := h
  have hdB := List.mem_of_getElem? hd
  have okd := bd.ok d hdB
  have n2 := bd.n2
  have n1 := bd.n1
  refine q_set (K := K) (ed_b (b := false)) fun v H1 e1 hv => ?_
  cases hv.bl_inv
  refine q_asgX (x_unequal T (K := K) rfl (c.ex e1) (ed_var rfl (.int _)) hd okd n1 (by omega) (by have := (C.rows_len bd).1; omega) (fun r hr => C.rlen hr) fun rv H2 e2 hu => ?_)
  refine q_while (fun m σ' H' => ∃ (rows' : List (List Int)) (bec' : List (Int × Int)) (tk : Bool) (rv : V), σ' = [some (.ref a), some (.int idx), some (.bl tk), some rv] ∧ ExB [a, bc, st] H2 H' ∧ Md K H' a bc st n B R0 rows' bec' ∧ (tk = false → rows' = rows ∧ bec' = bec) ∧ (tk = true → bec.length < bec'.length) ∧ bec.length ≤ bec'.length ∧ UnOk K d rows' H' rv ∧ m = 251 - bec'.length)
    (m := _) ⟨rows, bec, false, rv, rfl, ExB.refl _ _, ⟨(c.ex e1).ex e2, nu, C⟩, (fun _ => ⟨rfl, rfl⟩), (fun h => by cases h), Nat.le_refl _, hu, rfl⟩ ?_
  rintro m σ1 H3 ⟨rows', bec', tk, rv, rfl, e3, ⟨c3, nu3, C3⟩, hf, ht, hle, hu3, rfl⟩
  obtain ⟨dx3, tb3, D3, w1, w2, w4, c30⟩ := id c3
  have hrw := C3.rows_len bd
  refine ⟨_, Evl.et_and (et_notN rfl) fun _ => Evl.et_not (et_B (ed_clashed T c30 rfl)), fun hb H4 e4 N hN => ?_, fun hb H4 e4 => ?_⟩
  · rcases hu3 with ⟨rfl, _⟩ | ⟨t, b1, b2, one, other, rfl, h1, h2, ht3, hd1, hd2, hpl, hpr⟩
    · simp at hb
    · have c4 := c3.ex e4
      have c40 := c30.ex e4
      have ht4 := e4 t _ ht3
      have v1 := fun x (hx : x ∈ one) => (show x ≤ -1 ∧ x ∉ keysOf bec' from ⟨(C3.val h1 hx).2, C3.free one h1 x hx⟩)
      have v2 := fun x (hx : x ∈ other) => (show x ≤ -1 ∧ x ∉ keysOf bec' from ⟨(C3.val h2 hx).2, C3.free other h2 x hx⟩)
      refine q_exprX ⟨_, rfl, a, dx3, _, rfl, c40.fob, rfl, _, rfl, x_ixT (σ := [some (.ref a), some (.int idx), some (.bl tk), some (.ref t)]) (i := 3) (n := 0) rfl ht4 rfl (x_ixT (σ := [some (.ref a), some (.int idx), some (.bl tk), some (.ref t)]) (i := 3) (n := 1) rfl ht4 rfl ?_)⟩
      refine ⟨a, bc, st, bec'.length, n, B, rows', bec', idx, d, one, other, _, _, rfl, c4, hd, okd, by omega, hd1.ex e4, hd2.ex e4, C3.rlen h1, C3.rlen h2, hpr, v1, v2, by omega, by omega, by omega, (fun r hr => by rw [C3.rlen hr]; omega), fun H5 rows5 c5 l g e5 c5' hc5 halt hlg hR => ?_⟩
      have C5 := C3.step bd.ok hdB h1 h2 hpl hc5 halt hlg hR.1 hR.2
      have hl5 : (bec' ++ [(l, g)]).length = bec'.length + 1 := by simp
      have c5'' : Ch K H5 a bc st (bec' ++ [(l, g)]).length n B rows5 (bec' ++ [(l, g)]) := by rw [hl5]; exact c5'
      refine q_set (K := K) (ed_b (b := true)) fun v H6 e6 hv6 => ?_
      cases hv6.bl_inv
      refine s_asgX (x_unequal T (K := K) rfl (c5''.ex e6) (ed_var rfl (.int _)) hd okd n1 (by omega) (by have := (C5.rows_len bd).1; omega) (fun r hr => C5.rlen hr) fun rv7 H7 e7 hu7 => ?_)
      refine hN (251 - (bec' ++ [(l, g)]).length) _ _ ?_ ⟨rows5, _, true, rv7, rfl, ((e3.then e4).trans e5).then (e6.trans e7), ⟨(c5''.ex e6).ex e7, _, C5⟩, (fun h => by cases h), (fun _ => by omega), by omega, hu7, rfl⟩
      have := (C5.rows_len bd).2
      omega
  · have hset : StD rows' d := by
      rcases hu3 with ⟨_, h⟩ | ⟨t, b1, b2, one, other, rfl, _⟩
      · exact h
      · simp at hb
    exact ⟨_, rfl, q H4 rows' bec' tk ((ExB.of (e1.trans e2)).trans (e3.then e4)) ⟨c3.ex e4, nu3, C3⟩ hset hf ht⟩
/-! ### Chase.work -/
theorem scC_work : FnScope ["self", "index", "kind"] ["self", "index"] (defScope sC_work) := ⟨rfl, rfl, rfl, by decide +kernel, rfl, by decide +kernel, by decide +kernel⟩
theorem okC_work (T : Txt K mg) : GoodM P w K mg base 5 "work" ["self", "index"] (spSettle K) := by
  refine goodM_of (m := "work") (q := "Chase.work") (st := sC_work) (N := ["self", "index", "kind"]) (T.def_ 45) scC_work (fun _ _ _ _ _ _ us hl => match us, hl with | [_, _], _ => rfl) (fun vs H Q E h => by obtain ⟨_, _, _, _, _, _, _, _, _, _, rfl, _⟩ := h; rfl) fun cdv A outer s H vs Q E hr h =>
    ⟨_, (pss_cons (ps_set (i := 2) scC_work.nd rfl (by first | exact Or.inl rfl | exact Or.inr rfl) (pe_ix (kIx (K := K) rfl) (pe_ix (kIx (K := K) rfl) (kFld (K := K) rfl (pv 0)) (pv 1) (fun _ _ => rfl)) pe_int (fun _ _ => rfl)))
        (pss_cons (ps_if (pt_cmpR (kEq (K := K) rfl (room64 hr)) (pv 2) pe_str (nomark _)) (pss_one (ps_ret (pe_methG (K := K) rfl T.cls T.m_settle (okC_settle (P := P) (w := w) (base := base) T) (hr.mono (by decide)) (pv 0) (pa_cons (pv 1) pa_nil)))) pss_nil)
        (pss_cons ps_never
        (pss_one ps_never)))), ?_⟩
  obtain ⟨a, bc, st, n, B, R0, rows, bec, idx, d, rfl, md, bd, hd, q⟩ := h
  obtain ⟨dx, tb, D, v1, v2, v4, c0⟩ := id md.1
  have hB : (B.map depD)[idx]? = some (depD d) := by rw [List.getElem?_map, hd]; rfl
  refine q_set (K := K) (d := .str "settles") (ed_ixT (n := 0) (ed_ixT (n := idx) (ed_book T c0 rfl) (ed_var rfl (.int _)) hB) ed_i rfl) fun v H1 e1 hv => ?_
  refine q_when (b := true) (et_test (ed_is (ed_eq (ed_var rfl hv) (ed_s (K := K)) (shaped_of_plain (k := 0) (by decide +kernel)) (shaped_of_plain (k := 0) (by decide +kernel))) (by rw [eqv_str]))) (fun _ H2 e2 => ?_) (fun h => by cases h)
  have c2 := (c0.ex e1).ex e2
  exact ⟨_, rfl, a, dx, _, rfl, c2.fob, rfl, _, rfl, a, bc, st, n, B, R0, rows, bec, idx, d, rfl, (md.ex e1).ex e2, bd, hd, fun H3 rows' bec' b e3 => q H3 rows' bec' b ((ExB.of (e1.trans e2)).trans e3)⟩
end
end NS
set_option Elab.async false
set_option linter.all false
set_option maxRecDepth 100000
set_option maxHeartbeats 4000000
namespace NS
open PySem PySem.Spec PyProof.Rows L2
open Evl (Ex)
theorem x_and {t u : TT} {σ : L2.St} {H : Hp} {Q : Bool → Hp → Prop} (h : Evl.EvT t σ H true) (k : ∀ H1, Ex H H1 → u σ H1 Q) : tAnd t u σ H Q := h H (Ex.refl H) _ fun H1 e1 => by
  rw [if_pos rfl]
  exact k H1 e1
theorem s_whenI {c : TT} {t1 : TS} {σ : L2.St} {H : Hp} {D : Ends} (h : c σ H fun b H1 => if b = true then t1 D σ H1 else D.nx σ H1) : tIfS c t1 tNext D σ H := h
section
variable {P : Program} {w : World} {K : Fg} {mg : Str → Option Value} {base : Heap}
/-! ### Chase.run -/
theorem scC_run : FnScope ["self", "order", "kinds", "going", "index", "dependency"] ["self"] (defScope sC_run) := ⟨rfl, rfl, rfl, by decide +kernel, rfl, by decide +kernel, by decide +kernel⟩
/-- kinds of dependencies as the program lists them -/
def kds : List (List Str) := [["settles"], ["deals", "joins"], ["within"]]
def kdD (ks : List Str) : PyData := .tuple (ks.map .str)
def kdP (ks : List Str) : Bool := (ks.map PyData.str).any fun z => PyData.eqv z (.str "settles")
theorem kdP_vals : kdP ["settles"] = true ∧ kdP ["deals", "joins"] = false ∧ kdP ["within"] = false := by
  refine ⟨?_, ?_, ?_⟩
  · simp [kdP, PyData.eqv]
  · simp only [kdP, PyData.eqv, List.map_cons, List.map_nil, List.any_cons, List.any_nil]
    decide +kernel
  · simp only [kdP, PyData.eqv, List.map_cons, List.map_nil, List.any_cons, List.any_nil]
    decide +kernel
def spRun (K : Fg) : Sp := fun vs H Q _ => ∃ (a bc st : Addr) (n : Nat) (B : Book) (R0 rows : List (List Int)) (bec : List (Int × Int)), vs = [.ref a] ∧ Md K H a bc st n B R0 rows bec ∧ Bds n B R0 ∧
  ∀ H' rows' bec', ExB [a, bc, st] H H' → Md K H' a bc st n B R0 rows' bec' → (∀ d ∈ B, StD rows' d) → Q .non H'
theorem okC_run (T : Txt K mg) : GoodM P w K mg base 6 "run" ["self"] (spRun K) := by
  refine goodM_of (m := "run") (q := "Chase.run") (st := sC_run) (N := ["self", "order", "kinds", "going", "index", "dependency"]) (T.def_ 46) scC_run (fun _ _ _ _ _ _ us hl => match us, hl with | [_], _ => rfl) (fun vs H Q E h => by obtain ⟨_, _, _, _, _, _, _, _, rfl, _⟩ := h; rfl) fun cdv A outer s H vs Q E hr h =>
    ⟨_, (pss_cons (ps_set (i := 1) scC_run.nd rfl (by first | exact Or.inl rfl | exact Or.inr rfl) (pe_lst pa_nil))
        (pss_cons (ps_for PassesOwn.never rfl (kSq (K := K) rfl (pe_tup (pa_cons (pe_tup (pa_cons pe_str pa_nil)) (pa_cons (pe_tup (pa_cons pe_str (pa_cons pe_str pa_nil))) (pa_cons (pe_tup (pa_cons pe_str pa_nil)) pa_nil))))) (pg_name (i := 2) scC_run.nd rfl (by first | exact Or.inl rfl | exact Or.inr rfl)) (pss_one (ps_set (i := 1) scC_run.nd rfl (by first | exact Or.inl rfl | exact Or.inr rfl) (pe_op (kPlus (K := K) rfl) (pv 1) (pe_lc (own := [("index", 4), ("dependency", 5)]) (g := gTup K 2 (gCons (gName 4) (gCons (gName 5) gNil))) rfl scC_run.nd (kEnumT (K := K) rfl rfl T.enumerate0 (pa_cons (kFld (K := K) rfl (pv 0)) pa_nil)) (blkOk_by (by kernel_rfl)) (fun _ _ _ _ _ => (kTg (K := K) (n := 2) rfl rfl (pgs_cons (pg_name (i := 4) scC_run.nd rfl (by first | exact Or.inl rfl | exact Or.inr rfl)) (pgs_cons (pg_name (i := 5) scC_run.nd rfl (by first | exact Or.inl rfl | exact Or.inr rfl)) pgs_nil)))) (fun _ _ _ _ _ => pts_one (pt_cmpR (kIn (K := K) rfl (room65 hr)) (pe_ix (kIx (K := K) rfl) (pv 5) pe_int (fun _ _ => rfl)) (pv 2) (by with_unfolding_all rfl))) (fun _ _ _ _ _ => (pv 4)))))))
        (pss_cons (ps_set (i := 3) scC_run.nd rfl (by first | exact Or.inl rfl | exact Or.inr rfl) pe_bl)
        (pss_one (ps_while PassesOwn.never (PW.pt (pw_and (pt_val (pv 3)) (pw_and1 (pt_not (pt_val (kFld (K := K) rfl (pv 0))))))) (pss_cons (ps_set (i := 3) scC_run.nd rfl (by first | exact Or.inl rfl | exact Or.inr rfl) pe_bl)
        (pss_one (ps_for PassesOwn.never rfl (kSq (K := K) rfl (pv 1)) (pg_name (i := 4) scC_run.nd rfl (by first | exact Or.inl rfl | exact Or.inr rfl)) (pss_one (ps_if (PW.pt (pw_and (pt_not (pt_val (pv 3))) (pw_and (pt_not (pt_val (kFld (K := K) rfl (pv 0)))) (pw_and1 (pt_val (pe_methG (K := K) rfl T.cls T.m_work (okC_work (P := P) (w := w) (base := base) T) (hr.mono (by decide)) (pv 0) (pa_cons (pv 4) pa_nil))))))) (pss_one (ps_set (i := 3) scC_run.nd rfl (by first | exact Or.inl rfl | exact Or.inr rfl) pe_bl)) pss_nil)))))))))), ?_⟩
  obtain ⟨a, bc, st, n, B, R0, rows, bec, rfl, md, bd, q⟩ := h
  have bl := bd.bl
  refine q_setL (K := K) (en_lst ea_nil (by simp)) fun o1 H1 ho1 e1 hlo1 => ?_
  have md1 := md.ex e1
  refine q_for (K := K) (M := []) (as := kds) (enc := kdD) (es_sqT (ed_tup (ea_cons (ed_tup (ea1 ed_s) (by simp)) (ea2 (ed_tup (ea2 ed_s ed_s) (by simp)) (ed_tup (ea1 ed_s) (by simp)))) (by rw [List.length_map]; decide)))
    (fun i σ' H' => ∃ (o : Addr) (s2 s3 s4 s5 : Option V) (os : List Nat), σ' = [some (.ref a), some (.ref o), s2, s3, s4, s5] ∧ Ex H H' ∧ H o = none ∧ Lst K H' o (os.map nI) ∧ os = (if i = 0 then [] else List.range B.length))
    ⟨o1, _, _, _, _, [], rfl, e1, ho1, hlo1, rfl⟩ (fun _ _ _ _ h e => let ⟨o, s2, s3, s4, s5, os, h1, h2, h3, h4, h5⟩ := h; ⟨o, s2, s3, s4, s5, os, h1, h2.trans e, h3, h4.ex e, h5⟩) ?_ ?_
  · rintro i ks x σ1 H2 hks ⟨o, s2, s3, s4, s5, os, rfl, e2, hon, hlo, rfl⟩ _ hx
    refine ⟨_, tgt_name, fun H3 e3 N hN => ?_⟩
    have hx3 := hx.ex e3
    obtain ⟨dx, tb, D, v1, v2, v4, c0⟩ := id (md.1.ex (e2.trans e3))
    have hos : (if i = 0 then ([] : List Nat) else List.range B.length).length ≤ 100 := by by_cases h : i = 0 <;> simp [h]; omega
    refine s_setL (K := K) (en_add (el_var rfl (hlo.ex e3)) (EvN.toL (en_lcF (K := K) (as := List.range B.length) (enc := fun i => .tuple [nI i, depD (B.getD i ⟨[], []⟩)]) (fun _ => kdP ks) nI (by rw [← enumD_map]; exact es_enumT (ea1 (ed_book T c0 rfl)) (fun _ _ => MutS.nil) (.inr rfl)) (by simp; omega) (fun _ _ => rfl) fun j hj u H4 e4 hu => ?_)) (by rw [List.length_map, List.length_map]; have := List.length_filter_le (fun _ => kdP ks) (List.range B.length); simp at this ⊢; omega)) fun o' H4 ho' e4 hl4 => hN _ _ ⟨o', _, _, _, _, _, rfl, (e2.trans e3).trans e4, Evl.fresh_back (e2.trans e3) ho', ?_, rfl⟩ (.of e4)
    · obtain ⟨y, z, hy, hz, tg⟩ := tgt_pair (K := K) (j := 4) (k := 5) (σ0 := wipe [some (.ref a), some (.ref o), some x, s3, s4, s5] [4, 5]) hu
      refine ⟨_, tg, rfl, et_test (ed_inT (ed_ixT (n := 0) (ed_var rfl hz) ed_i rfl) (ed_var rfl (hx3.ex e4)) (shaped_of_plain (k := 0) (by decide +kernel)) ?_), fun _ => ed_var rfl hy⟩
      have hk : ks ∈ kds := List.mem_of_getElem? hks
      rcases List.mem_cons.mp hk with rfl | hk
      · exact shaped_of_plain (k := 1) (by decide +kernel)
      · rcases List.mem_cons.mp hk with rfl | hk
        · exact shaped_of_plain (k := 1) (by decide +kernel)
        · rw [List.mem_singleton.mp hk]
          exact shaped_of_plain (k := 1) (by decide +kernel)
    · rw [← List.map_append] at hl4
      have e5 : ((if i = 0 then ([] : List Nat) else List.range B.length) ++ (List.range B.length).filter fun _ => kdP ks) = (if i + 1 = 0 then [] else List.range B.length) := by
        obtain ⟨p1, p2, p3⟩ := kdP_vals
        have hi : i < 3 := (List.getElem?_eq_some_iff.mp hks).1
        match i, hi, hks with
        | 0, _, h => cases h; simp [p1]
        | 1, _, h => cases h; simp [p2]
        | 2, _, h => cases h; simp [p3]
      rw [e5] at hl4
      exact hl4
  · rintro σ1 H2 ⟨o, s2, s3, s4, s5, os, rfl, e2, hon, hlo, hos⟩ _
    have hos : os = List.range B.length := hos
    subst hos
    have md2 := md.ex e2
    have tr0 := md.1.trk
    have noM : o ∉ [a, bc, st] := fun h => by
      obtain ⟨u, hu, _⟩ := tr0 o h
      rw [hon] at hu
      cases hu
    refine q_set (K := K) (ed_b (b := true)) fun v H3 e3 hv => ?_
    cases hv.bl_inv
    refine s_while (fun m σ' H' => ∃ (rows' : List (List Int)) (bec' : List (Int × Int)) (gg : Bool) (s2 s4 s5 : Option V), σ' = [some (.ref a), some (.ref o), s2, some (.bl gg), s4, s5] ∧ ExB [a, bc, st] H3 H' ∧ Md K H' a bc st n B R0 rows' bec' ∧ (gg = false → ∀ d ∈ B, StD rows' d) ∧ m = 2 * (251 - bec'.length) + (if gg then 1 else 0))
      (m := _) ⟨rows, bec, true, _, _, _, rfl, ExB.refl _ _, md2.ex e3, (fun h => by cases h), rfl⟩ ?_
    rintro m σ1 H4 ⟨rows', bec', gg, s2, s4, s5, rfl, e4, md4, hgg, rfl⟩
    obtain ⟨dx4, tb4, D4, w1, w2, w4, c4⟩ := id md4.1
    refine ⟨_, Evl.et_and (b := true) (et_B (K := K) (ed_var rfl (.bl _))) fun _ => Evl.et_not (a := false) (et_B (ed_clashed T c4 rfl)), fun hb H5 e5 N hN => ?_, fun hb H5 e5 => ?_⟩
    · have hgt : gg = true := by simpa using hb
      subst hgt
      refine q_set (K := K) (ed_b (b := false)) fun v H6 e6 hv6 => ?_
      cases hv6.bl_inv
      have e36 : ExB [a, bc, st] H3 H6 := (e4.then e5).then e6
      have tr3 : Trk H3 [a, bc, st] := (md2.ex e3).1.trk
      have hlo6 : Lst K H6 o ((List.range B.length).map nI) := (hlo.ex e3).keep tr3.muts e36 noM (nl_all nl_nI _)
      have md6 := (md4.ex e5).ex e6
      refine s_for (K := K) (M := [a, bc, st]) (as := List.range B.length) (enc := nI) (es_lstX rfl hlo6 noM md6.1.trk (nl_all nl_nI _))
        (fun i σ' H' => ∃ (rows2 : List (List Int)) (bec2 : List (Int × Int)) (gg : Bool) (s2 s4 s5 : Option V), σ' = [some (.ref a), some (.ref o), s2, some (.bl gg), s4, s5] ∧ Md K H' a bc st n B R0 rows2 bec2 ∧ (gg = false → rows2 = rows' ∧ bec2 = bec' ∧ ∀ d ∈ B.take i, StD rows' d) ∧ (gg = true → bec'.length < bec2.length))
        ⟨rows', bec', false, _, _, _, rfl, md6, (fun _ => ⟨rfl, rfl, fun d h => by simp at h⟩), fun h => by cases h⟩ (fun _ _ _ _ h e => let ⟨r2, b2, gg, s2, s4, s5, h1, h2, h3⟩ := h; ⟨r2, b2, gg, s2, s4, s5, h1, h2.ex e, h3⟩) ?_ ?_
      · rintro i j x σ2 H7 hj ⟨rows2, bec2, gg, s2, s4, s5, rfl, md7, hf7, ht7⟩ e7 hx
        obtain ⟨rfl, hjl⟩ := range_get hj
        refine ⟨_, tgt_name, fun H8 e8 N2 hN2 => ?_⟩
        have md8 := md7.ex e8
        cases gg with
        | true =>
          refine s_when (b := false) (Evl.et_and (a := false) (b := false) (Evl.et_not (a := true) (et_B (K := K) (ed_var rfl (.bl _)))) (fun h => by cases h)) (fun h => by cases h) fun _ H9 e9 => hN2 _ _ ⟨rows2, bec2, true, _, _, _, rfl, md8.ex e9, (fun h => by cases h), ht7⟩ (.of e9)
        | false =>
          obtain ⟨rfl, rfl, hst⟩ := hf7 rfl
          obtain ⟨dx8, tb8, D8, y1, y2, y4, c8⟩ := id md8.1
          refine s_whenI (x_and (Evl.et_not (a := false) (et_B (K := K) (ed_var rfl (.bl _)))) fun H9 e9 => x_and (Evl.et_not (a := false) (et_B (ed_clashed T (c8.ex e9) rfl))) fun H10 e10 => ?_)
          have c10 := (c8.ex e9).ex e10
          have hj10 := ((hx.ex e8).ex e9).ex e10
          have hd : B[j]? = some B[j] := List.getElem?_eq_getElem hjl
          refine ⟨_, rfl, a, dx8, _, rfl, c10.fob, rfl, _, rfl, a, bc, st, n, B, R0, rows2, bec2, j, B[j], by rw [hj10.int_inv]; rfl, (md8.ex e9).ex e10, bd, hd, fun H11 rows3 bec3 b e11 md11 hs11 hf11 ht11 => ⟨b, rfl, ?_⟩⟩
          have e8_11 : ExB [a, bc, st] H8 H11 := (ExB.of (e9.trans e10)).trans e11
          cases b with
          | true =>
            simp only [if_true]
            refine s_set (K := K) (ed_b (b := true)) fun v H12 e12 hv12 => ?_
            cases hv12.bl_inv
            exact hN2 _ _ ⟨rows3, bec3, true, _, _, _, rfl, md11.ex e12, (fun h => by cases h), fun _ => ht11 rfl⟩ (e8_11.then e12)
          | false =>
            simp only [Bool.false_eq_true, if_false]
            obtain ⟨rfl, rfl⟩ := hf11 rfl
            exact hN2 _ _ ⟨rows3, bec3, false, _, _, _, rfl, md11, (fun _ => ⟨rfl, rfl, all_snoc hd hst hs11⟩), fun h => by cases h⟩ e8_11
      · rintro σ2 H7 ⟨rows2, bec2, gg, s2, s4, s5, rfl, md7, hf7, ht7⟩ e7
        obtain ⟨nu7, C7⟩ := md7.2
        have hb7 := (C7.rows_len bd).2
        obtain ⟨nu4, C4⟩ := md4.2
        have hb4 := (C4.rows_len bd).2
        cases gg with
        | true => exact hN (2 * (251 - bec2.length) + 1) _ _ (by have := ht7 rfl; simp; omega) ⟨rows2, bec2, true, _, _, _, rfl, e36.trans e7, md7, (fun h => by cases h), rfl⟩
        | false =>
          obtain ⟨rfl, rfl, hst⟩ := hf7 rfl
          rw [List.length_range, List.take_length] at hst
          exact hN (2 * (251 - bec2.length)) _ _ (by simp) ⟨rows2, bec2, false, _, _, _, rfl, e36.trans e7, md7, (fun _ => hst), rfl⟩
    · have hgf : gg = false := by simpa using hb
      exact q H5 rows' bec' (((ExB.of (e2.trans e3)).trans e4).then e5) (md4.ex e5) (hgg hgf)
/-! ### Chase.is_there -/
theorem scC_is_there : FnScope ["self", "table", "row"] ["self", "table", "row"] (defScope sC_is_there) := ⟨rfl, rfl, rfl, by decide +kernel, rfl, by decide +kernel, by decide +kernel⟩
def spThere (K : Fg) : Sp := fun vs H Q _ => ∃ (a bc st : Addr) (sl n : Nat) (B : Book) (rows : List (List Int)) (bec : List (Int × Int)) (v : V) (r : List Int), vs = [.ref a, .int 0, v] ∧ Ch K H a bc st sl n B rows bec ∧ Tr H v r ∧ ∀ H', Ex H H' → Q (.bl (decide (r ∈ rows))) H'
theorem okC_is_there (T : Txt K mg) : GoodM P w K mg base 1 "is_there" ["self", "table", "row"] (spThere K) := by
  refine goodM_of (m := "is_there") (q := "Chase.is_there") (st := sC_is_there) (N := ["self", "table", "row"]) (T.def_ 47) scC_is_there (fun _ _ _ _ _ _ us hl => match us, hl with | [_, _, _], _ => rfl) (fun vs H Q E h => by obtain ⟨_, _, _, _, _, _, _, _, _, _, rfl, _⟩ := h; rfl) fun cdv A outer s H vs Q E hr h =>
    ⟨_, (pss_one (ps_ret (pe_cmp (pc_din (room1 hr) (pv 2) (pe_ix (kIx (K := K) rfl) (kFld (K := K) rfl (pv 0)) (pv 1) (fun _ _ => rfl)))))), ?_⟩
  obtain ⟨a, bc, st, sl, n, B, rows, bec, v, r, rfl, ⟨dx, tb, D, v1, v2, v4, c⟩, hv, q⟩ := h
  obtain ⟨b, rfl, hb⟩ := hv
  refine ⟨_, rfl, ef_table T c rfl (ed_var rfl (.int 0)) H (Ex.refl H) _ fun x H1 e1 hx => ?_⟩
  subst hx
  obtain ⟨kvs, hD, hk⟩ := (c.ex e1).ftab
  refine ⟨D, valV kvs (kk r), rfl, DGet.t hD (by rw [kk_kV]; exact e1 b _ hb), ?_⟩
  rw [val_keys hk]
  exact q H1 e1
end
end NS
set_option Elab.async false
set_option linter.all false
set_option maxRecDepth 100000
set_option maxHeartbeats 4000000
namespace NS
open PySem PySem.Spec PyProof.Rows L2
open Evl (Ex)
section
variable {P : Program} {w : World} {K : Fg} {mg : Str → Option Value} {base : Heap}
/-! ### Chase.__init__ -/
theorem scC_init : FnScope ["self", "scheme", "book", "store", "rows", "row", "value"] ["self", "scheme", "book", "store"] (defScope sC_init) := ⟨rfl, rfl, rfl, by decide +kernel, rfl, by decide +kernel, by decide +kernel⟩
def spInit (K : Fg) : Sp := fun vs H Q _ => ∃ (a dx s i : Addr) (v1 v2 : V) (n : Nat) (B : Book) (L : List (Addr × List Int)), vs = [.ref a, v1, v2, .ref s] ∧ H a = some (.ins (aC K) dx []) ∧ Dp K H v1 (cols [n]) ∧ Dp K H v2 (.tuple (B.map depD)) ∧ H s = some (.tup [.ref i]) ∧ H i = some (.tup (rv L)) ∧ Rt H L ∧ L.length ≤ 100 ∧ (∀ q ∈ L, q.2.length ≤ 100) ∧
  ∀ H' bc st rows, H bc = none → H st = none → ExB [a] H H' → Ch K H' a bc st 0 n B rows [] → (∀ r, r ∈ rows ↔ r ∈ L.map (·.2)) → rows.length ≤ L.length → Q .non H'
theorem okC_init (T : Txt K mg) : GoodM P w K mg base 1 "__init__" ["self", "scheme", "book", "store"] (spInit K) := by
  refine goodM_of (m := "__init__") (q := "Chase.__init__") (st := sC_init) (N := ["self", "scheme", "book", "store", "rows", "row", "value"]) (T.def_ 39) scC_init (fun _ _ _ _ _ _ us hl => match us, hl with | [_, _, _, _], _ => rfl) (fun vs H Q E h => by obtain ⟨_, _, _, _, _, _, _, _, _, rfl, _⟩ := h; rfl) fun cdv A outer s H vs Q E hr h =>
    ⟨_, (pss_cons (kSetFld (K := K) rfl (pv 0) (pv 1) rfl)
        (pss_cons (kSetFld (K := K) rfl (pv 0) (pv 2) rfl)
        (pss_cons (kSetFld (K := K) rfl (pv 0) (pe_lc (own := [("rows", 4)]) (g := gName 4) rfl scC_init.nd (kSq (K := K) rfl (pv 3)) (blkOk_by (by kernel_rfl)) (fun _ _ _ _ _ => (pg_name (i := 4) scC_init.nd rfl (by first | exact Or.inl rfl | exact Or.inr rfl))) (fun _ _ _ _ _ => pts_nil) (fun _ _ _ _ _ => (pe_dcT (own := [("row", 5)]) (g := gName 5) (room1 hr) rfl scC_init.nd (kSq (K := K) rfl (pv 4)) (blkOk_by (by kernel_rfl)) (fun _ _ _ _ _ => (pg_name (i := 5) scC_init.nd rfl (by first | exact Or.inl rfl | exact Or.inr rfl))) (fun _ _ _ _ _ => pts_nil) (fun _ _ _ _ _ => (pv 5)) (fun _ _ _ _ _ => pe_bl)))) rfl)
        (pss_cons (kSetFld (K := K) rfl (pv 0) (pe_dc3 (own := [("rows", 4), ("row", 5), ("value", 6)]) (g := gName 4) (g1 := gName 5) (g2 := gName 6) (vs1 := [5, 6]) (vs2 := [6]) rfl scC_init.nd (kSq (K := K) rfl (pv 3)) (blkOk_by (by kernel_rfl)) (by simp) (by simp) (fun _ _ _ _ _ => (pg_name (i := 4) scC_init.nd rfl (by first | exact Or.inl rfl | exact Or.inr rfl))) (fun _ _ _ _ _ => (kSq (K := K) rfl (pv 4))) (fun _ _ _ _ _ => (pg_name (i := 5) scC_init.nd rfl (by first | exact Or.inl rfl | exact Or.inr rfl))) (fun _ _ _ _ _ => (kSq (K := K) rfl (pv 5))) (fun _ _ _ _ _ => (pg_name (i := 6) scC_init.nd rfl (by first | exact Or.inl rfl | exact Or.inr rfl))) (fun _ _ _ _ _ => (pv 6)) (fun _ _ _ _ _ => pe_bl)) rfl)
        (pss_cons (kSetFld (K := K) rfl (pv 0) pe_dnewK rfl)
        (pss_cons (kSetFld (K := K) rfl (pv 0) (pe_lst pa_nil) rfl)
        (pss_one (kSetFld (K := K) rfl (pv 0) pe_bl rfl)))))))), ?_⟩
  obtain ⟨a, dx, s, i, v1, v2, n, B, L, rfl, ha, h1, h2, hs, hi, hR, hz, hrl, q⟩ := h
  have nsa : s ≠ a := fun e => by rw [e, ha] at hs; cases hs
  have nia : i ≠ a := fun e => by rw [e, ha] at hi; cases hi
  have nLa : ∀ q ∈ L, q.1 ≠ a := fun q hq e => by have := hR q hq; rw [e, ha] at this; cases this
  have ta : Trk H [a] := Trk.one ha trivial
  have stp : ∀ {H1 H2 : Hp} {o : HO}, ExB [a] H H1 → Ex H1 H2 → ExB [a] H (upd H2 a o) := fun e1 e2 => (e1.then e2).upd (by simp) _
  -- scheme, book
  refine q_fld (Pr := fun _ x => x = v1) rfl ha T.cls T.no_scheme (by decide) (ep_var rfl rfl fun _ _ => rfl) fun v H1 e1 hv => ?_
  subst hv
  have x1 := stp (o := .ins (aC K) dx (putF "scheme" v [])) (ExB.refl [a] H) e1
  generalize hH1 : upd H1 a (.ins (aC K) dx (putF "scheme" v [])) = G1 at x1
  have a1 : G1 a = some (.ins (aC K) dx (putF "scheme" v [])) := by rw [← hH1]; exact upd_same
  refine q_fld (Pr := fun _ x => x = v2) rfl a1 T.cls T.no_book (by show 1 < 1000; decide) (ep_var rfl rfl fun _ _ => rfl) fun u H2 e2 hu => ?_
  subst hu
  have x2 := stp (o := .ins (aC K) dx (putF "book" u (putF "scheme" v []))) x1 e2
  generalize hH2 : upd H2 a (.ins (aC K) dx (putF "book" u (putF "scheme" v []))) = G2 at x2
  have a2 : G2 a = some (.ins (aC K) dx (putF "book" u (putF "scheme" v []))) := by rw [← hH2]; exact upd_same
  have s2 := x2 s _ (by simpa using nsa) hs
  have i2 := x2 i _ (by simpa using nia) hi
  have R2 : Rt G2 L := hR.keep ta.muts x2
  -- tables
  refine q_fld (Pr := fun H' x => ∃ tb D rows, x = .ref tb ∧ H' tb = some (.lst [.ref D]) ∧ Tab H' D rows ∧ (∀ r, r ∈ rows ↔ r ∈ L.map fun q : Addr × List Int => q.2) ∧ rows.length ≤ L.length) rfl a2 T.cls T.no_tables (by show 2 < 1000; decide) (fun H3 e3 Q' q' => ?_) fun x H3 e3 hx => ?_
  · refine x_lcRel (bs := [()]) (val := fun _ => V.ref i) (fun _ H' x => ∃ D rows, x = .ref D ∧ Tab H' D rows ∧ (∀ r, r ∈ rows ↔ r ∈ L.map fun q : Addr × List Int => q.2) ∧ rows.length ≤ L.length) (fun _ _ _ _ e ⟨D, rows, h1, h2, h3⟩ => ⟨D, rows, h1, h2.ex e, h3⟩)
      (fun _ p ws ws' H' x hp ⟨D, rows, h1, ⟨kvs, hk, hk2⟩, h3⟩ => ⟨D, rows, h1, ⟨kvs, by rw [upd_ne (fun e => by rw [e, hp] at hk; cases hk)]; exact hk, hk2⟩, h3⟩)
      (ew_tup (p := s) (ep_varR rfl (e3 s _ s2)) fun _ _ => MutS.nil) (by simp) (fun b _ H4 e4 => ⟨_, tgt_name, rfl, fun H5 e5 Q2 q2 => ?_⟩) fun p ws H4 hp e4 hw hpr => ?_
    · have e25 := (e3.trans e4).trans e5
      exact x_dcRows (R2.ex e25) (by omega) (ew_tup (p := i) (ep_varR rfl (e25 i _ i2)) fun _ _ => MutS.nil) (fun _ => rfl) (fun _ => rfl) fun D rows H6 hD e6 hT hm hl => q2 _ H6 e6 ⟨D, rows, rfl, hT, hm, hl⟩
    · cases hpr with
      | cons h1 h2 =>
        cases h2
        obtain ⟨D, rows, rfl, hT, hm⟩ := h1
        exact q' _ H4 e4 ⟨p, D, rows, rfl, hw, hT, hm⟩
  obtain ⟨tb, D, rows, rfl, htb, hT, hm, hl⟩ := hx
  have x3 := stp (o := .ins (aC K) dx (putF "tables" (.ref tb) (putF "book" u (putF "scheme" v [])))) x2 e3
  have na3 := e3 a _ a2
  have ntba : tb ≠ a := fun e => by rw [e, na3] at htb; cases htb
  have nDa : D ≠ a := fun e => by obtain ⟨k, hk, _⟩ := hT; rw [e, na3] at hk; cases hk
  have htb' : upd H3 a (.ins (aC K) dx (putF "tables" (.ref tb) (putF "book" u (putF "scheme" v [])))) tb = some (.lst [.ref D]) := by rw [upd_ne ntba]; exact htb
  have hT' : Tab (upd H3 a (.ins (aC K) dx (putF "tables" (.ref tb) (putF "book" u (putF "scheme" v []))))) D rows := hT.keep ((ExB.refl [a] H3).upd (by simp) _) (by simpa using nDa)
  generalize hH3 : upd H3 a (.ins (aC K) dx (putF "tables" (.ref tb) (putF "book" u (putF "scheme" v [])))) = G3 at x3 htb' hT'
  have a3 : G3 a = some (.ins (aC K) dx (putF "tables" (.ref tb) (putF "book" u (putF "scheme" v [])))) := by rw [← hH3]; exact upd_same
  have s3 := x3 s _ (by simpa using nsa) hs
  have i3 := x3 i _ (by simpa using nia) hi
  have R3 : Rt G3 L := hR.keep ta.muts x3
  have from3 : ∀ {H1 H2 : Hp} {o : HO}, ExB [a] G3 H1 → Ex H1 H2 → ExB [a] G3 (upd H2 a o) := fun e1 e2 => (e1.then e2).upd (by simp) _
  -- seen
  refine q_fld (Pr := fun _ _ => True) rfl a3 T.cls T.no_seen (by show 3 < 1000; decide) (fun H4 e4 Q' q' => ?_) fun v4 H4 e4 _ => ?_
  · refine ew_tup (M := []) (p := s) (K := K) (ep_varR rfl (e4 s _ s3)) (fun _ _ => MutS.nil) H4 (Ex.refl H4) _ fun J H5 e5 w5 => fun Dd hDd => ?_
    have R5 := (R3.ex e4).ex e5
    have i5 := e5 i _ (e4 i _ i3)
    have nid : i ≠ Dd := fun e => by rw [e, hDd] at i5; cases i5
    have keep5 : ∀ {H'}, ExB [Dd] H5 H' → Ex H5 H' := fun e => e.drop hDd |>.nil
    refine loopRd w5 (fun j H' => ExB [Dd] H5 H' ∧ ∃ kvs : List (L2.Key × V), H' Dd = some (.dK kvs) ∧ kvs.length ≤ j * 10000) ⟨(ExB.refl _ _).upd (by simp) _, [], upd_same, by simp⟩ (fun j H' h => (h.1.drop hDd)) (fun j x H6 hx ⟨e6, kvs, hk, hkl⟩ => ?_) fun H' ⟨e6, _⟩ => q' _ H' (e5.trans (keep5 e6)) trivial
    have hj : j = 0 := by have := (List.getElem?_eq_some_iff.mp hx).1; simpa using this
    subst hj
    cases hx
    refine ⟨rfl, ?_⟩
    refine ew_tup (M := [Dd]) (p := i) (K := K) (ep_varR rfl (e6 i _ (by simpa using nid) i5)) (fun H' e' => (Trk.one (e' Dd _ hk) trivial).muts) H6 (Ex.refl H6) _ fun J1 H7 e7 w7 => ?_
    have hzL : (rv L).length = L.length := List.length_map ..
    refine loopRd w7 (fun j H' => ExB [Dd] H7 H' ∧ ∃ kvs : List (L2.Key × V), H' Dd = some (.dK kvs) ∧ kvs.length ≤ j * 100) ⟨ExB.refl _ _, kvs, e7 Dd _ hk, by simpa using hkl⟩ (fun j H' h => h.1) (fun j x H8 hx ⟨e8, kvs8, hk8, hkl8⟩ => ?_) fun H' ⟨e8, kvs8, hk8, hkl8⟩ => ⟨(e6.then e7).trans e8, kvs8, hk8, by rw [hzL] at hkl8; have : L.length * 100 ≤ 100 * 100 := Nat.mul_le_mul_right _ hz; omega⟩
    cases hLj : L[j]? with
    | none => rw [List.getElem?_map, hLj] at hx; cases hx
    | some qj =>
      rw [List.getElem?_map, hLj] at hx
      cases hx
      have hqL := List.mem_of_getElem? hLj
      have jl : j < L.length := (List.getElem?_eq_some_iff.mp hLj).1
      have e58 : ExB [Dd] H5 H8 := (e6.then e7).trans e8
      have t8 := keep5 e58 _ _ (R5 qj hqL)
      refine ⟨rfl, ?_⟩
      refine ew_tup (M := [Dd]) (p := qj.1) (K := K) (ep_varR rfl t8) (fun H' e' => (Trk.one (e' Dd _ hk8) trivial).muts) H8 (Ex.refl H8) _ fun J2 H9 e9 w9 => ?_
      refine loopRd w9 (fun k H' => ExB [Dd] H9 H' ∧ ∃ kvs : List (L2.Key × V), H' Dd = some (.dK kvs) ∧ kvs.length ≤ j * 100 + k) ⟨ExB.refl _ _, kvs8, e9 Dd _ hk8, by omega⟩ (fun k H' h => h.1) (fun k x H10 hx ⟨e10, kvs10, hk10, hkl10⟩ => ?_) fun H' ⟨e10, kvs10, hk10, hkl10⟩ => ⟨(e8.then e9).trans e10, kvs10, hk10, by have hq100 := hrl qj hqL; rw [List.length_map] at hkl10; omega⟩
      rw [List.getElem?_map] at hx
      cases hxk : qj.2[k]? with
      | none => rw [hxk] at hx; cases hx
      | some xk =>
        rw [hxk] at hx
        cases hx
        have kl : k < qj.2.length := (List.getElem?_eq_some_iff.mp hxk).1
        have hq100 := hrl qj hqL
        have jb : j * 100 ≤ 100 * 100 := Nat.mul_le_mul_right _ (by omega)
        refine ⟨rfl, _, rfl, kvs10, .inl xk, rfl, hk10, Evl.sz_lt (by omega), e10.upd (by simp) _, _, upd_same, ?_⟩
        exact Nat.le_trans (length_putK _ _ _) (by omega)
  have x4 := stp (o := .ins (aC K) dx (putF "seen" v4 (putF "tables" (.ref tb) (putF "book" u (putF "scheme" v []))))) x3 e4
  have y4 := from3 (o := .ins (aC K) dx (putF "seen" v4 (putF "tables" (.ref tb) (putF "book" u (putF "scheme" v []))))) (ExB.refl [a] G3) e4
  generalize hH4 : upd H4 a (.ins (aC K) dx (putF "seen" v4 (putF "tables" (.ref tb) (putF "book" u (putF "scheme" v []))))) = G4 at x4 y4
  have a4 : G4 a = some (.ins (aC K) dx (putF "seen" v4 (putF "tables" (.ref tb) (putF "book" u (putF "scheme" v []))))) := by rw [← hH4]; exact upd_same
  -- became
  refine q_fld (Pr := fun H' x => ∃ bc, x = .ref bc ∧ H' bc = some (.dK []) ∧ G4 bc = none) rfl a4 T.cls T.no_became (by show 4 < 1000; decide) (fun H5 e5 Q' q' p hp => q' _ _ (Ex.new hp) ⟨p, rfl, upd_same, Evl.fresh_back e5 hp⟩) fun x H5 e5 ⟨bc, hx, hbc, hbcn⟩ => ?_
  subst hx
  have nbca : bc ≠ a := fun e => by rw [e, e5 a _ a4] at hbc; cases hbc
  have x5 := stp (o := .ins (aC K) dx (putF "became" (.ref bc) (putF "seen" v4 (putF "tables" (.ref tb) (putF "book" u (putF "scheme" v [])))))) x4 e5
  have y5 := from3 (o := .ins (aC K) dx (putF "became" (.ref bc) (putF "seen" v4 (putF "tables" (.ref tb) (putF "book" u (putF "scheme" v [])))))) y4 e5
  have hbc' : upd H5 a (.ins (aC K) dx (putF "became" (.ref bc) (putF "seen" v4 (putF "tables" (.ref tb) (putF "book" u (putF "scheme" v [])))))) bc = some (.dK []) := by rw [upd_ne nbca]; exact hbc
  generalize hH5 : upd H5 a (.ins (aC K) dx (putF "became" (.ref bc) (putF "seen" v4 (putF "tables" (.ref tb) (putF "book" u (putF "scheme" v [])))))) = G5 at x5 y5 hbc'
  have a5 : G5 a = some (.ins (aC K) dx (putF "became" (.ref bc) (putF "seen" v4 (putF "tables" (.ref tb) (putF "book" u (putF "scheme" v [])))))) := by rw [← hH5]; exact upd_same
  have tb5 := y5 tb _ (by simpa using ntba) htb'
  -- steps
  refine q_fld (Pr := fun H' x => ∃ st, x = .ref st ∧ H' st = some (.lst []) ∧ G5 st = none) rfl a5 T.cls T.no_steps (by show 5 < 1000; decide) (fun H6 e6 Q' q' => ⟨Nat.zero_le _, fun p hp => q' _ _ (Ex.new hp) ⟨p, rfl, upd_same, Evl.fresh_back e6 hp⟩⟩) fun x H6 e6 ⟨st, hx, hst, hstn⟩ => ?_
  subst hx
  have nsta : st ≠ a := fun e => by rw [e, e6 a _ a5] at hst; cases hst
  have ntbst : tb ≠ st := fun e => by rw [← e, tb5] at hstn; cases hstn
  have x6 := stp (o := .ins (aC K) dx (putF "steps" (.ref st) (putF "became" (.ref bc) (putF "seen" v4 (putF "tables" (.ref tb) (putF "book" u (putF "scheme" v []))))))) x5 e6
  have y6 := from3 (o := .ins (aC K) dx (putF "steps" (.ref st) (putF "became" (.ref bc) (putF "seen" v4 (putF "tables" (.ref tb) (putF "book" u (putF "scheme" v []))))))) y5 e6
  have hst' : upd H6 a (.ins (aC K) dx (putF "steps" (.ref st) (putF "became" (.ref bc) (putF "seen" v4 (putF "tables" (.ref tb) (putF "book" u (putF "scheme" v []))))))) st = some (.lst []) := by rw [upd_ne nsta]; exact hst
  have hbc6 : upd H6 a (.ins (aC K) dx (putF "steps" (.ref st) (putF "became" (.ref bc) (putF "seen" v4 (putF "tables" (.ref tb) (putF "book" u (putF "scheme" v []))))))) bc = some (.dK []) := by rw [upd_ne nbca]; exact e6 bc _ hbc'
  generalize hH6 : upd H6 a (.ins (aC K) dx (putF "steps" (.ref st) (putF "became" (.ref bc) (putF "seen" v4 (putF "tables" (.ref tb) (putF "book" u (putF "scheme" v []))))))) = G6 at x6 y6 hst' hbc6
  have a6 : G6 a = some (.ins (aC K) dx (putF "steps" (.ref st) (putF "became" (.ref bc) (putF "seen" v4 (putF "tables" (.ref tb) (putF "book" u (putF "scheme" v []))))))) := by rw [← hH6]; exact upd_same
  -- clashed
  refine s_fld (Pr := fun _ x => x = .bl false) rfl a6 T.cls T.no_clashed (by show 6 < 1000; decide) (fun H7 e7 Q' q' => q' _ H7 (Ex.refl H7) rfl) fun x H7 e7 hx => ?_
  subst hx
  have ee := (ExB.refl [a] H7).upd (p := a) (by simp) (.ins (aC K) dx (putF "clashed" (.bl false) (putF "steps" (.ref st) (putF "became" (.ref bc) (putF "seen" v4 (putF "tables" (.ref tb) (putF "book" u (putF "scheme" v [])))))))) 
  have x7 := (x6.then e7).trans ee
  have y7 := (y6.then e7).trans ee
  have z7 := (ExB.of e7).trans ee
  have fresh : ∀ {G : Hp} {b : Addr}, ExB [a] H G → b ≠ a → G b = none → H b = none := fun {G b} x hb hn => by
    cases hq : H b with
    | none => rfl
    | some o =>
      have := x b o (by simpa using hb) hq
      rw [hn] at this
      cases this
  exact q _ bc st rows (fresh x4 nbca hbcn) (fresh x5 nsta hstn) x7 ⟨dx, tb, D, v, u, v4, upd_same, h1.keep ta.muts x7 (nl_cols _), h2.keep ta.muts x7 (nl_all nl_dep B), y7 tb _ (by simpa using ntba) htb', hT'.keep y7 (by simpa using nDa), z7 bc _ (by simpa using nbca) hbc6, ⟨[], z7 st _ (by simpa using nsta) hst', rfl⟩, ntbst⟩ hm hl
end
end NS
set_option Elab.async false
set_option linter.all false
set_option maxRecDepth 100000
set_option maxHeartbeats 4000000
namespace NS
open PySem PySem.Spec PyProof.Rows L2
open Evl (Ex)
theorem nodup_inclG {α : Type} [BEq α] [LawfulBEq α] : ∀ {l m : List α}, l.Nodup → (∀ x ∈ l, x ∈ m) → l.length ≤ m.length
  | [], _, _, _ => Nat.zero_le _
  | a :: l, m, h, k => by
    have ⟨h1, h2⟩ := List.nodup_cons.mp h
    have ih := nodup_inclG (l := l) (m := m.erase a) h2 fun x hx => (List.mem_erase_of_ne (fun e => h1 (by rw [← e]; exact hx))).mpr (k x (List.mem_cons_of_mem _ hx))
    have ha := k a (List.mem_cons_self ..)
    rw [List.length_erase_of_mem ha] at ih
    have := List.length_pos_of_mem ha
    rw [List.length_cons]
    omega
def joinD (S : List (List Nat)) : PyData := .tuple [.str "joins", nI 0, .tuple (S.map cols)]
theorem nl_join (S : List (List Nat)) : nl (joinD S) = true := by
  show nlAll [_, _, _] = true
  simp only [nlAll, nl_nI, nl, nl_all nl_cols, Bool.and_self]
theorem str_ne1 : PyData.eqv (.str "joins") (.str "settles") = false := by simp only [PyData.eqv]; decide +kernel
theorem str_ne2 : PyData.eqv (.str "joins") (.str "within") = false := by simp only [PyData.eqv]; decide +kernel
theorem sh_str (x : Str) (h : PyData.strOk x = true := by decide +kernel) : SeqAt.shaped (.str x) = true := shaped_of_plain (k := 0) h
section
variable {K : Fg} {P : Program} {w : World} {σ : L2.St} {H H' : Hp} {te ta tb : TE} {t1 t2 tz : TS} {c : TT} {b : Bool} {D : Ends} {Pr : Hp → V → Prop}
theorem q_ifX (Pn : L2.St → Hp → Prop) (h : Evl.EvT c σ H b) (h1 : b = true → ∀ H1, Ex H H1 → ∀ N : L2.St → Hp → Prop, (∀ σ2 H2, Pn σ2 H2 → N σ2 H2) → t1 { D with nx := N } σ H1) (h2 : b = false → ∀ H1, Ex H H1 → ∀ N : L2.St → Hp → Prop, (∀ σ2 H2, Pn σ2 H2 → N σ2 H2) → t2 { D with nx := N } σ H1)
    (k : ∀ σ1 H1, Pn σ1 H1 → tz D σ1 H1) : tSeq (tIfS c t1 t2) tz D σ H := q_if h (fun hb H1 e => h1 hb H1 e _ fun σ2 H2 p => k σ2 H2 p) fun hb H1 e => h2 hb H1 e _ fun σ2 H2 p => k σ2 H2 p
/-- a tuple of rows -/
def TupR (H : Hp) (x : V) (Rs : List (List Int)) : Prop := ∃ i L, x = .ref i ∧ H i = some (.tup (rv L)) ∧ Rt H L ∧ (∀ r, r ∈ L.map (fun q : Addr × List Int => q.2) ↔ r ∈ Rs) ∧ L.length ≤ Rs.length ∧ (L.map (fun q : Addr × List Int => q.2)).Nodup
theorem TupR.ex {x : V} {Rs : List (List Int)} (h : TupR H x Rs) (e : Ex H H') : TupR H' x Rs := let ⟨i, L, h1, h2, h3, h4⟩ := h; ⟨i, L, h1, e i _ h2, h3.ex e, h4⟩
/-- tuple(sorted(set(rows))) -/
theorem ep_setsort {Rs : List (List Int)} (h : EvP te σ H fun H x => ∃ p L, x = .ref p ∧ H p = some (.lst (rv L)) ∧ Rt H L ∧ L.map (fun q : Addr × List Int => q.2) = Rs) (hz : Rs.length < 64) (hne : ∀ r ∈ Rs, r ≠ []) :
    EvP (tThen (tCB (rSrtS P w) (tCons (tCB (rSetOfT K P w) (tCons te tNil)) tNil)) (kTup K)) σ H fun H x => TupR H x Rs := fun H1 e Q q => h H1 e _ fun x H2 e2 ⟨p, L, hx, hp, hR, hL⟩ => by
  subst hx
  subst hL
  have hLl : L.length < 64 := by rw [List.length_map] at hz; exact hz
  refine ⟨p, L, rfl, SqL.of hp, fun q hq => SqT.of (hR q hq), hLl, fun a L1 ha h1 h2 => ?_⟩
  have ea := Ex.new (o := SetTO P w a L1) ha
  have hR1 : Rt H2 L1 := fun q hq => hR q (h1 q hq)
  have hmem : ∀ r, r ∈ L1.map (fun q : Addr × List Int => q.2) ↔ r ∈ L.map (fun q : Addr × List Int => q.2) := fun r => by
    constructor
    · intro hr
      obtain ⟨q, hq, rfl⟩ := List.mem_map.mp hr
      exact List.mem_map.mpr ⟨q, h1 q hq, rfl⟩
    · intro hr
      obtain ⟨q, hq, rfl⟩ := List.mem_map.mp hr
      exact h2 q hq
  refine ⟨a, L1, rfl, upd_same, hR1.ex ea, fun q hq => hne _ (List.mem_map.mpr ⟨q, h1 q hq, rfl⟩), fun p2 L2 hpm hnd hp2 => ?_⟩
  · have ep := Ex.new (o := .lst (rv L2)) hp2
    refine .inl ⟨p2, rv L2, rfl, SqL.of upd_same, fun t ht => ?_⟩
    have et := Ex.new (o := .tup (rv L2)) ht
    have hm2 : ∀ r, r ∈ L2.map (fun q : Addr × List Int => q.2) ↔ r ∈ L.map (fun q : Addr × List Int => q.2) := fun r => ((hpm.map _).mem_iff).trans (hmem r)
    refine q _ _ (((e2.trans ea).trans ep).trans et) ⟨t, L2, rfl, upd_same, Rt.ex (fun q hq => ((hR1.ex ea).ex ep) q (hpm.mem_iff.mp hq)) et, hm2, ?_, (hpm.map _).nodup_iff.mpr hnd⟩
    have hnd2 : (L2.map fun q : Addr × List Int => q.2).Nodup := (hpm.map _).nodup_iff.mpr hnd
    have := nodup_inclG hnd2 fun r hr => (hm2 r).mp hr
    rwa [List.length_map] at this
end
end NS
set_option Elab.async false
set_option linter.all false
set_option maxRecDepth 100000
set_option maxHeartbeats 4000000
namespace NS
open PySem PySem.Spec PyProof.Rows L2
open Evl (Ex)
section
variable {P : Program} {w : World} {K : Fg} {mg : Str → Option Value} {base : Heap}
/-! ### completing.parts_of -/
theorem sc_parts_of : FnScope ["width", "dependency", "left", "right", "one", "column"] ["width", "dependency"] (defScope s_parts_of) := ⟨rfl, rfl, rfl, by decide +kernel, rfl, by decide +kernel, by decide +kernel⟩
def spParts (K : Fg) : Sp := spF (α := Nat × List (List Nat)) K (fun a => [nI a.1, joinD a.2]) (fun _ => True) (fun a => .tuple (a.2.map cols))
theorem ok_parts_of (T : Txt K mg) : Good P w K mg base 1 "parts_of" ["width", "dependency"] (spParts K) := by
  refine good_of (q := "parts_of") (st := s_parts_of) (N := ["width", "dependency", "left", "right", "one", "column"]) T.g_parts_of (T.def_ 5) sc_parts_of (fun _ _ _ _ _ _ us hl => match us, hl with | [_, _], _ => rfl) (len_spF fun _ => rfl) fun cdv A outer s H vs Q E hr h =>
    ⟨_, (pss_cons (ps_if (pt_cmpR (kEq (K := K) rfl (room64 hr)) (pe_ix (kIx (K := K) rfl) (pv 1) pe_int (fun _ _ => rfl)) pe_str (nomark _)) (pss_one (ps_ret (pe_ix (kIx (K := K) rfl) (pv 1) pe_int (fun _ _ => rfl)))) pss_nil)
        (pss_cons ps_never
        (pss_cons ps_never
        (pss_one ps_never)))), ?_⟩
  obtain ⟨⟨n, S⟩, hv, _, q⟩ := h
  obtain ⟨x, y, rfl, hx, hy⟩ := dpAll2 hv
  refine q_when (b := true) (et_test (ed_is (ed_eq (ed_ixT (n := 0) (ed_var rfl hy) ed_i rfl) (ed_s (K := K)) (sh_str _) (sh_str _)) (by rw [eqv_str]))) (fun _ H1 e1 => ?_) (fun h => by cases h)
  exact s_ret (ed_ixT (n := 2) (ed_var rfl (hy.ex e1)) ed_i rfl) fun v H2 e2 hv => q v H2 (e1.trans e2) hv
/-! ### following.start -/
theorem sc_start : FnScope ["scheme", "dependency", "kind", "table", "width", "empty", "rows", "parts", "turn", "part"] ["scheme", "dependency"] (defScope s_start) := ⟨rfl, rfl, rfl, by decide +kernel, rfl, by decide +kernel, by decide +kernel⟩
/-- the start rows -/
def stS (n : Nat) (X : List Nat) : List (List Int) := [fr n, pr n X 1]
def stJ (n : Nat) (S : List (List Nat)) : List (List Int) := (List.range S.length).map fun i => pr n (S.getD i []) (i + 1)
/-- a store of one table -/
def Sto (H : Hp) (x : V) (Rs : List (List Int)) : Prop := ∃ s i, x = .ref s ∧ H s = some (.tup [.ref i]) ∧ TupR H (.ref i) Rs
theorem Sto.ex {H H' : Hp} {x : V} {Rs : List (List Int)} (h : Sto H x Rs) (e : Ex H H') : Sto H' x Rs := let ⟨s, i, h1, h2, h3⟩ := h; ⟨s, i, h1, e s _ h2, h3.ex e⟩
/-- a dependency and its start rows -/
def DepR (K : Fg) (H : Hp) (n : Nat) (v : V) (Rs : List (List Int)) : Prop := (∃ X Y, Dp K H v (quadD "settles" X Y) ∧ X.length ≤ 100 ∧ Rs = stS n X) ∨ ∃ S, Dp K H v (joinD S) ∧ 1 ≤ S.length ∧ S.length ≤ 21 ∧ Rs = stJ n S
def spStart (K : Fg) : Sp := fun vs H Q _ => ∃ (v1 v2 : V) (n : Nat) (Rs : List (List Int)), vs = [v1, v2] ∧ Dp K H v1 (cols [n]) ∧ 1 ≤ n ∧ n ≤ 10 ∧ DepR K H n v2 Rs ∧ ∀ v H', Ex H H' → Sto H' v Rs → Q v H'
theorem stS_ne {n : Nat} {X : List Nat} (h : 1 ≤ n) : ∀ r ∈ stS n X, r ≠ [] := fun r hr e => by
  have : r.length = n := by
    rcases List.mem_cons.mp hr with rfl | hr
    · exact fr_len
    · rw [List.mem_singleton.mp hr]; exact pr_len
  rw [e] at this
  simp at this
  omega
theorem stJ_ne {n : Nat} {S : List (List Nat)} (h : 1 ≤ n) : ∀ r ∈ stJ n S, r ≠ [] := fun r hr e => by
  obtain ⟨i, _, rfl⟩ := List.mem_map.mp hr
  have := pr_len (n := n) (p := S.getD i []) (t := i + 1)
  rw [e] at this
  simp at this
  omega
theorem ep_catS {σ : L2.St} {H : Hp} {ta tb : TE} {Rs : List (List Int)} (ha : EvD K ta σ H (.tuple [])) (hb : EvP tb σ H fun H x => Sto H x Rs) : EvP (tOp (rPlus K) ta tb) σ H fun H x => Sto H x Rs := fun H1 e Q q => ha H1 e _ fun x H2 e2 hx => hb H2 (e.trans e2) _ fun y H3 e3 hy => by
  obtain ⟨p, xs, rfl, hp, hxs⟩ := hx.tuple_inv
  cases hxs
  obtain ⟨s, i, rfl, hs, hT⟩ := id hy
  exact .inr (.inr ⟨p, s, [], [.ref i], rfl, rfl, Evl.ex_t e3 hp, SqT.of hs, by show 1 ≤ sizeLine; decide, fun _ => q _ H3 (e2.trans e3) hy, fun h => absurd rfl h, fun h => absurd rfl h⟩)
theorem ep_catE {σ : L2.St} {H : Hp} {ta tb : TE} {Rs : List (List Int)} (ha : EvP ta σ H fun H x => Sto H x Rs) (hb : EvD K tb σ H (.tuple [])) : EvP (tOp (rPlus K) ta tb) σ H fun H x => Sto H x Rs := fun H1 e Q q => ha H1 e _ fun x H2 e2 hx => hb H2 (e.trans e2) _ fun y H3 e3 hy => by
  obtain ⟨p, xs, rfl, hp, hxs⟩ := hy.tuple_inv
  cases hxs
  obtain ⟨s, i, rfl, hs, hT⟩ := id (hx.ex e3)
  exact .inr (.inr ⟨s, p, [.ref i], [], rfl, rfl, SqT.of hs, hp, by show 1 ≤ sizeLine; decide, fun h => (by cases h), fun _ _ => q _ H3 (e2.trans e3) (hx.ex e3), fun _ h => absurd rfl h⟩)
theorem ok_start (T : Txt K mg) : Good P w K mg base 3 "start" ["scheme", "dependency"] (spStart K) := by
  refine good_of (q := "start") (st := s_start) (N := ["scheme", "dependency", "kind", "table", "width", "empty", "rows", "parts", "turn", "part"]) T.g_start (T.def_ 10) sc_start (fun _ _ _ _ _ _ us hl => match us, hl with | [_, _], _ => rfl) (fun vs H Q E h => by obtain ⟨_, _, _, _, rfl, _⟩ := h; rfl) fun cdv A outer s H vs Q E hr h =>
    ⟨_, (pss_cons (ps_asg (pe_slice (kSl (K := K) rfl) (pv 1) po_none (po_some pe_int)) (kTg (K := K) (n := 2) rfl rfl (pgs_cons (pg_name (i := 2) sc_start.nd rfl (by first | exact Or.inl rfl | exact Or.inr rfl)) (pgs_cons (pg_name (i := 3) sc_start.nd rfl (by first | exact Or.inl rfl | exact Or.inr rfl)) pgs_nil))))
        (pss_cons (ps_set (i := 4) sc_start.nd rfl (by first | exact Or.inl rfl | exact Or.inr rfl) (pe_ix (kIx (K := K) rfl) (pv 0) (pv 3) (fun _ _ => rfl)))
        (pss_cons (ps_if (pt_cmpR (kEq (K := K) rfl (room64 hr)) (pv 2) pe_str (nomark _)) (pss_one (ps_set (i := 6) sc_start.nd rfl (by first | exact Or.inl rfl | exact Or.inr rfl) (pe_lst (pa_cons (pe_callG (ok_first_row (P := P) (w := w) (base := base) T) (hr.mono (by decide)) rfl (pa_cons (pv 4) pa_nil)) (pa_cons (pe_callG (ok_part_row (P := P) (w := w) (base := base) T) (hr.mono (by decide)) rfl (pa_cons (pv 4) (pa_cons (pe_ix (kIx (K := K) rfl) (pv 1) pe_int (fun _ _ => rfl)) (pa_cons pe_int pa_nil)))) pa_nil))))) (pss_one (ps_if (pt_cmpR (kEq (K := K) rfl (room64 hr)) (pv 2) pe_str (nomark _)) pss_never (pss_cons (ps_set (i := 7) sc_start.nd rfl (by first | exact Or.inl rfl | exact Or.inr rfl) (pe_callG (ok_parts_of (P := P) (w := w) (base := base) T) (hr.mono (by decide)) rfl (pa_cons (pv 4) (pa_cons (pv 1) pa_nil))))
        (pss_one (ps_setLc (i := 6) (own := [("turn", 8), ("part", 9)]) (g := gTup K 2 (gCons (gName 8) (gCons (gName 9) gNil))) rfl sc_start.nd rfl rfl (sw_true rfl rfl rfl (by kernel_rfl)) (kEnumT (K := K) rfl rfl T.enumerate0 (pa_cons (pv 7) pa_nil)) (blkOk_by (by kernel_rfl)) (fun _ _ _ _ _ => (kTg (K := K) (n := 2) rfl rfl (pgs_cons (pg_name (i := 8) sc_start.nd rfl (by first | exact Or.inl rfl | exact Or.inr rfl)) (pgs_cons (pg_name (i := 9) sc_start.nd rfl (by first | exact Or.inl rfl | exact Or.inr rfl)) pgs_nil)))) (fun _ _ _ _ _ => pts_nil) (fun _ _ _ _ _ => (pe_callG (ok_part_row (P := P) (w := w) (base := base) T) (hr.mono (by decide)) rfl (pa_cons (pv 4) (pa_cons (pv 9) (pa_cons (pe_op (kPlus (K := K) rfl) (pv 8) pe_int) pa_nil)))))))))))
        (pss_cons (ps_set (i := 5) sc_start.nd rfl (by first | exact Or.inl rfl | exact Or.inr rfl) (pe_op (kMul1 (K := K) rfl) (pe_tup (pa_cons (pe_tup pa_nil) pa_nil)) (pe_callB (kLen (K := K) rfl) rfl T.len0 PySem.boot_len (pa_cons (pv 0) pa_nil))))
        (pss_one (ps_ret (pe_op (kPlus (K := K) rfl) (pe_op (kPlus (K := K) rfl) (pe_slice (kSl (K := K) rfl) (pv 5) po_none (po_some (pv 3))) (pe_tup (pa_cons (kTuple (K := K) rfl rfl T.tuple0 (pe_callB (kSrtS rfl rfl rfl (room64 hr)) rfl T.sorted0 PyProof.Rows.boot_sorted (pa_cons (pe_callTy (kSetT (K := K) rfl rfl rfl rfl (room64 hr)) rfl T.set0 PyProof.Rows.boot_set (pa_cons (pv 6) pa_nil)) pa_nil))) pa_nil))) (pe_slice (kSl (K := K) rfl) (pv 5) (po_some (pe_op (kPlus (K := K) rfl) (pv 3) pe_int)) po_none)))))))), ?_⟩
  obtain ⟨v1, v2, n, Rs, rfl, hs, hn1, hn, hd, q⟩ := h
  have fin : ∀ (kd : Str) (hk : EvD K (tSl (rSlU K) (tVar 1) tNoPart (tPart (tC (.int 2)))) [some v1, some v2, none, none, none, none, none, none, none, none] H (.tuple [.str kd, nI 0])), True := fun _ _ => trivial
  -- kind, table, width
  have hkd : ∃ kd, EvD K (tSl (rSlU K) (tVar 1) tNoPart (tPart (tC (.int 2)))) [some v1, some v2, none, none, none, none, none, none, none, none] H (.tuple [.str kd, nI 0]) ∧ ((kd = "settles" ∧ ∃ X Y, Dp K H v2 (quadD "settles" X Y) ∧ X.length ≤ 100 ∧ Rs = stS n X) ∨ (kd = "joins" ∧ ∃ S, Dp K H v2 (joinD S) ∧ 1 ≤ S.length ∧ S.length ≤ 21 ∧ Rs = stJ n S)) := by
    rcases hd with ⟨X, Y, h1, h2, h3⟩ | ⟨S, h1, h2, h3, h4⟩
    · exact ⟨"settles", ed_toT (k := 2) (ed_var rfl h1) ed_i, .inl ⟨rfl, X, Y, h1, h2, h3⟩⟩
    · exact ⟨"joins", ed_toT (k := 2) (ed_var rfl h1) ed_i, .inr ⟨rfl, S, h1, h2, h3, h4⟩⟩
  obtain ⟨kd, hkd, hcase⟩ := hkd
  refine q_pair (K := K) hkd fun yk yt H1 e1 hyk hyt => ?_
  refine q_set (K := K) (d := nI n) (ed_ixT (n := 0) (ed_var rfl (hs.ex e1)) (ed_var rfl hyt) rfl) fun yn H2 e2 hyn => ?_
  have e02 := e1.trans e2
  have hyk2 := hyk.ex e2
  have hyt2 := hyt.ex e2
  have hs2 := hs.ex e02
  refine q_ifX (b := decide (kd = "settles")) (fun σ' H' => ∃ (p : Addr) (L : List (Addr × List Int)) (s7 s8 s9 : Option V), σ' = [some v1, some v2, some yk, some yt, some yn, none, some (.ref p), s7, s8, s9] ∧ Ex H2 H' ∧ H' p = some (.lst (rv L)) ∧ Rt H' L ∧ L.map (fun q : Addr × List Int => q.2) = Rs) ?_ (fun hb H3 e3 N hN => ?_) (fun hb H3 e3 N hN => ?_) ?_
  · refine et_test (ed_is (ed_eq (ed_var rfl hyk2) (ed_s (K := K)) ?_ (sh_str _)) ?_)
    · rcases hcase with ⟨rfl, _⟩ | ⟨rfl, _⟩ <;> exact sh_str _
    · rcases hcase with ⟨rfl, _⟩ | ⟨rfl, _⟩
      · rw [eqv_str]; rfl
      · rw [str_ne1]; rw [decide_eq_false (by decide)]
  · rcases hcase with ⟨rfl, X, Y, hX, hXl, rfl⟩ | ⟨rfl, _⟩
    · have hyn3 := hyn.ex e3
      have hX3 := hX.ex (e02.trans e3)
      refine s_asgX ?_
      refine er_call (K := K) n (ea1 (ed_var rfl hyn3)) (show n ≤ 100000 by omega) H3 (Ex.refl H3) _ fun x1 H4 e4 h4 => ?_
      refine er_call (K := K) (n, X, 1) (ea_cons (ed_var rfl (hyn3.ex e4)) (ea2 (ed_ixT (n := 2) (ed_var rfl (hX3.ex e4)) ed_i rfl) ed_i)) (show n ≤ 1000 ∧ 1 ≤ 1000 from ⟨by omega, by omega⟩) H4 (Ex.refl H4) _ fun x2 H5 e5 h5 => ?_
      refine ⟨by show 2 ≤ sizeLine; decide, fun p hp => ?_⟩
      obtain ⟨b1, rfl, hb1⟩ := h4.ex e5
      obtain ⟨b2, rfl, hb2⟩ := h5
      have ep := Ex.new (o := .lst [.ref b1, .ref b2]) hp
      refine hN _ _ ⟨p, [(b1, fr n), (b2, pr n X 1)], _, _, _, rfl, ((e3.trans e4).trans e5).trans ep, upd_same, fun q hq => ?_, rfl⟩
      rcases List.mem_cons.mp hq with rfl | hq
      · exact ep b1 _ hb1
      · rw [List.mem_singleton.mp hq]; exact ep b2 _ hb2
    · exact absurd (of_decide_eq_true hb) (by decide)
  · rcases hcase with ⟨rfl, _⟩ | ⟨rfl, S, hS, hS1, hSl, rfl⟩
    · exact absurd rfl (of_decide_eq_false hb)
    · have hyn3 := hyn.ex e3
      have hS3 := hS.ex (e02.trans e3)
      refine s_if (b := false) (et_test (ed_is (ed_eq (ed_var rfl (hyk2.ex e3)) (ed_s (K := K)) (sh_str _) (sh_str _)) (by rw [str_ne2]))) (fun h => by cases h) fun _ H4 e4 => ?_
      refine q_set (K := K) (d := .tuple (S.map cols)) (ed_call (n, S) (ea2 (ed_var rfl (hyn3.ex e4)) (ed_var rfl (hS3.ex e4))) trivial) fun yp H5 e5 hyp => ?_
      have hyn5 := (hyn3.ex e4).ex e5
      refine s_asgX (x_lcRelD (K := K) (bs := List.range S.length) (enc := fun i => .tuple [nI i, cols (S.getD i [])]) (fun i H x => Tr H x (pr n (S.getD i []) (i + 1))) (fun _ _ _ _ e h => h.ex e) (fun _ _ _ _ _ _ hp h => tr_keepU hp h) (by rw [← enumD_map]; exact es_enumT (ea1 (ed_var rfl hyp)) (fun _ _ => MutS.nil) (.inr rfl)) (by simp; omega) (fun i hi x H6 e6 hx => ?_) fun p ws H6 hp e6 hpw hpr => ?_)
      · obtain ⟨y, z, hy, hz, tg⟩ := tgt_pair (K := K) (j := 8) (k := 9) (σ0 := [some v1, some v2, some yk, some yt, some yn, none, none, some yp, none, none]) hx
        have hi' : i < S.length := List.mem_range.mp hi
        exact ⟨_, tg, rfl, er_call (K := K) (n, S.getD i [], i + 1) (ea_cons (ed_var rfl (hyn5.ex e6)) (ea2 (ed_var rfl hz) (ed_addN (ed_var rfl hy) ed_n1))) (show n ≤ 1000 ∧ i + 1 ≤ 1000 from ⟨by omega, by omega⟩)⟩
      · obtain ⟨L, rfl, hRt, hL⟩ := paired_rt hpr
        exact hN _ _ ⟨p, L, _, _, _, rfl, ((e3.trans e4).trans e5).trans e6, hpw, hRt, hL⟩
  · rintro σ1 H3 ⟨p, L, s7, s8, s9, rfl, e3, hp, hR, hL⟩
    have hs3 := hs2.ex e3
    have hyt3 := hyt2.ex e3
    have hrs : Rs.length < 64 ∧ ∀ r ∈ Rs, r ≠ [] := by
      rcases hcase with ⟨_, X, Y, _, _, rfl⟩ | ⟨_, S, _, _, h3, rfl⟩
      · exact ⟨by simp [stS], stS_ne hn1⟩
      · exact ⟨by simp [stJ]; omega, stJ_ne hn1⟩
    refine q_set (K := K) (d := .tuple [.tuple []]) (fun H4 e4 Q' q' => ?_) fun ye H4 e4 hye => ?_
    · refine ed_tup (K := K) (ds := [.tuple []]) (ea1 (ed_tup ea_nil (by simp))) (by simp) H4 (Ex.refl H4) _ fun x H5 e5 hx => ?_
      refine ed_lenT (K := K) (ed_var (i := 0) (σ := [some v1, some v2, some yk, some yt, some yn, none, some (.ref p), s7, s8, s9]) rfl (hs3.ex (e4.trans e5))) H5 (Ex.refl H5) _ fun y H6 e6 hy => ?_
      obtain ⟨l, xs, rfl, hl, hxs⟩ := id (hx.ex e6).tuple_inv
      exact ⟨l, xs, rfl, hy.int_inv, hl, q' _ H6 (e5.trans e6) (hx.ex e6)⟩
    · have hp4 := e4 p _ hp
      have hR4 := hR.ex e4
      have hyt4 := hyt3.ex e4
      refine s_retP (Pr := fun H x => Sto H x Rs) (ep_catE (K := K) (ep_catS (ed_toT (k := 0) (ed_var rfl hye) (ed_var rfl hyt4)) fun H5 e5 Q' q' => ?_) (ed_fromT (k := 1) (ed_var rfl hye) (ed_addN (i := 0) (j := 1) (ed_var rfl hyt4) ed_n1))) fun v H5 e5 hv => q v H5 (((e02.trans e3).trans e4).trans e5) hv
      refine ep_setsort (K := K) (P := P) (w := w) (te := tVar 6) (Rs := Rs) (σ := [some v1, some v2, some yk, some yt, some yn, some ye, some (.ref p), s7, s8, s9]) (ep_var rfl ⟨p, L, rfl, e5 p _ hp4, hR4.ex e5, hL⟩ fun H' e => ⟨p, L, rfl, (e5.trans e) p _ hp4, hR4.ex (e5.trans e), hL⟩) hrs.1 hrs.2 H5 (Ex.refl H5) _ fun x H6 e6 hx => ?_
      obtain ⟨i, L', rfl, _⟩ := id hx
      refine ⟨by show 1 ≤ sizeLine; decide, fun s hs => ?_⟩
      have es := Ex.new (o := .tup [.ref i]) hs
      exact q' _ _ (e6.trans es) ⟨s, i, rfl, upd_same, hx.ex es⟩
/-! ### chased, chased_start -/
theorem sc_chased : FnScope ["scheme", "book", "store", "found"] ["scheme", "book", "store"] (defScope s_chased) := ⟨rfl, rfl, rfl, by decide +kernel, rfl, by decide +kernel, by decide +kernel⟩
def spChased (K : Fg) : Sp := fun vs H Q _ => ∃ (v1 v2 v3 : V) (n : Nat) (B : Book) (Rs : List (List Int)), vs = [v1, v2, v3] ∧ Dp K H v1 (cols [n]) ∧ Dp K H v2 (.tuple (B.map depD)) ∧ Sto H v3 Rs ∧ Bds n B Rs ∧ (∀ r ∈ Rs, r.length = n) ∧ (∀ r ∈ Rs, ∀ x ∈ r, x ≤ -1) ∧
  ∀ H' a bc st R0 rows bec, Ex H H' → Md K H' a bc st n B R0 rows bec → (∀ r, r ∈ R0 ↔ r ∈ Rs) → (∀ d ∈ B, StD rows d) → Q (.ref a) H'
theorem ok_chased (T : Txt K mg) : Good P w K mg base 7 "chased" ["scheme", "book", "store"] (spChased K) := by
  refine good_of (q := "chased") (st := s_chased) (N := ["scheme", "book", "store", "found"]) T.g_chased (T.def_ 6) sc_chased (fun _ _ _ _ _ _ us hl => match us, hl with | [_, _, _], _ => rfl) (fun vs H Q E h => by obtain ⟨_, _, _, _, _, _, rfl, _⟩ := h; rfl) fun cdv A outer s H vs Q E hr h =>
    ⟨_, (pss_cons (ps_set (i := 3) sc_chased.nd rfl (by first | exact Or.inl rfl | exact Or.inr rfl) (pe_makeG (K := K) rfl T.mkr (okC_init (P := P) (w := w) (base := base) T).ex (hr.mono (by decide)) rfl T.g_Chase (pa_cons (pv 0) (pa_cons (pv 1) (pa_cons (pv 2) pa_nil)))))
        (pss_cons (ps_expr (pe_methG0 (K := K) rfl T.cls T.m_run (okC_run (P := P) (w := w) (base := base) T) (hr.mono (by decide)) (pv 3)))
        (pss_one (ps_ret (pv 3))))), ?_⟩
  obtain ⟨v1, v2, v3, n, B, Rs, rfl, h1, h2, ⟨s, i, rfl, hs, ⟨_, L, e0, hi, hR, hm, hl, _⟩⟩, bd, hlen, hneg, q⟩ := h
  cases e0
  have hlL : ∀ q ∈ L, q.2 ∈ Rs := fun q hq => (hm q.2).mp (List.mem_map.mpr ⟨q, hq, rfl⟩)
  have n2 := bd.n2
  have rl := bd.rl
  refine q_asgX ⟨_, rfl, _, rfl, _, rfl, fun a dx ha hdx hne => ?_⟩
  have ea : Ex H (upd (upd H dx (.own a)) a (.ins (aC K) dx [])) := (Ex.new hdx).trans (Ex.new (by rw [upd_ne hne.symm]; exact ha))
  refine ⟨a, dx, s, i, v1, v2, n, B, L, rfl, upd_same, h1.ex ea, h2.ex ea, ea s _ hs, ea i _ hi, hR.ex ea, by omega, (fun q hq => by rw [hlen _ (hlL q hq)]; omega), fun H1 bc st rows hbn hsn e1 c hm1 hl1 => ⟨rfl, ?_⟩⟩
  have hms : ∀ r, r ∈ rows ↔ r ∈ Rs := fun r => (hm1 r).trans (hm r)
  have C := CI.start (n := n) (B := B) (R0 := rows) (fun r hr => hlen r ((hms r).mp hr)) (fun r hr => hneg r ((hms r).mp hr))
  have md : Md K H1 a bc st n B rows rows [] := ⟨c, id, C⟩
  have bd1 : Bds n B rows := ⟨bd.n1, bd.n2, bd.ok, bd.bl, by omega⟩
  obtain ⟨dx1, tb, D, w1, w2, w4, c0⟩ := id c
  refine q_exprX ⟨_, rfl, a, dx1, _, rfl, c0.fob, rfl, a, bc, st, n, B, rows, rows, [], rfl, md, bd1, fun H2 rows' bec' e2 md2 hset => ?_⟩
  have hbc : H bc = none := by
    cases hq : H bc with
    | none => rfl
    | some o => rw [ea bc _ hq] at hbn; cases hbn
  have hst : H st = none := by
    cases hq : H st with
    | none => rfl
    | some o => rw [ea st _ hq] at hsn; cases hsn
  have eH : Ex H H2 := by
    have x1 : ExB [a, bc, st] H H2 := ((ExB.of (Ex.new hdx)).trans (((ExB.refl [a, bc, st] (upd H dx (.own a))).upd (p := a) (by simp) _).trans (e1.mono (by simp)))).trans e2
    exact (((x1.drop ha).drop hbc).drop hst).nil
  exact ⟨_, rfl, q H2 a bc st rows rows' bec' eH md2 hms hset⟩
theorem sc_chased_start : FnScope ["scheme", "book", "dependency"] ["scheme", "book", "dependency"] (defScope s_chased_start) := ⟨rfl, rfl, rfl, by decide +kernel, rfl, by decide +kernel, by decide +kernel⟩
def spChSt (K : Fg) : Sp := fun vs H Q _ => ∃ (v1 v2 v3 : V) (n : Nat) (B : Book) (Rs : List (List Int)), vs = [v1, v2, v3] ∧ Dp K H v1 (cols [n]) ∧ Dp K H v2 (.tuple (B.map depD)) ∧ DepR K H n v3 Rs ∧ Bds n B Rs ∧
  ∀ H' a bc st R0 rows bec, Ex H H' → Md K H' a bc st n B R0 rows bec → (∀ r, r ∈ R0 ↔ r ∈ Rs) → (∀ d ∈ B, StD rows d) → Q (.ref a) H'
theorem st_len {K : Fg} {H : Hp} {n : Nat} {v : V} {Rs : List (List Int)} (h : DepR K H n v Rs) : (∀ r ∈ Rs, r.length = n) ∧ (∀ r ∈ Rs, ∀ x ∈ r, x ≤ -1) := by
  rcases h with ⟨X, Y, _, _, rfl⟩ | ⟨S, _, _, _, rfl⟩
  · refine ⟨fun r hr => ?_, fun r hr x hx => ?_⟩
    · rcases List.mem_cons.mp hr with rfl | hr
      · exact fr_len
      · rw [List.mem_singleton.mp hr]; exact pr_len
    · rcases List.mem_cons.mp hr with rfl | hr
      · exact fr_neg hx
      · rw [List.mem_singleton.mp hr] at hx; exact pr_neg hx
  · refine ⟨fun r hr => ?_, fun r hr x hx => ?_⟩
    · obtain ⟨i, _, rfl⟩ := List.mem_map.mp hr; exact pr_len
    · obtain ⟨i, _, rfl⟩ := List.mem_map.mp hr; exact pr_neg hx
theorem ok_chased_start (T : Txt K mg) : Good P w K mg base 8 "chased_start" ["scheme", "book", "dependency"] (spChSt K) := by
  refine good_of (q := "chased_start") (st := s_chased_start) (N := ["scheme", "book", "dependency"]) T.g_chased_start (T.def_ 12) sc_chased_start (fun _ _ _ _ _ _ us hl => match us, hl with | [_, _, _], _ => rfl) (fun vs H Q E h => by obtain ⟨_, _, _, _, _, _, rfl, _⟩ := h; rfl) fun cdv A outer s H vs Q E hr h =>
    ⟨_, (pss_one (ps_ret (pe_callG (ok_chased (P := P) (w := w) (base := base) T) (hr.mono (by decide)) rfl (pa_cons (pv 0) (pa_cons (pv 1) (pa_cons (pe_callG (ok_start (P := P) (w := w) (base := base) T) (hr.mono (by decide)) rfl (pa_cons (pv 0) (pa_cons (pv 2) pa_nil))) pa_nil)))))), ?_⟩
  obtain ⟨v1, v2, v3, n, B, Rs, rfl, h1, h2, h3, bd, q⟩ := h
  obtain ⟨l1, l2⟩ := st_len h3
  refine ⟨_, rfl, _, rfl, _, rfl, _, rfl, v1, v3, n, Rs, rfl, h1, bd.n1, bd.n2, h3, fun v H1 e1 hv => ?_⟩
  exact ⟨v1, v2, v, n, B, Rs, rfl, h1.ex e1, h2.ex e1, hv, bd, l1, l2, fun H2 a bc st R0 rows bec e2 => q H2 a bc st R0 rows bec (e1.trans e2)⟩
end
end NS
set_option Elab.async false
set_option linter.all false
set_option maxRecDepth 100000
set_option maxHeartbeats 4000000
namespace NS
open PySem PySem.Spec PyProof.Rows L2
open Evl (Ex)
section
variable {P : Program} {w : World} {K : Fg} {mg : Str → Option Value} {base : Heap}
/-! ### following.is_met -/
theorem sc_is_met : FnScope ["found", "dependency", "kind", "table", "width", "first", "left", "right", "others", "columns", "other", "wanted", "value", "column", "row"] ["found", "dependency"] (defScope s_is_met) := ⟨rfl, rfl, rfl, by decide +kernel, rfl, by decide +kernel, by decide +kernel⟩
def metS (nu : Int → Int) (n : Nat) (X Y : List Nat) : Bool := ((Y.filter fun c => !decide (c ∈ X)).map fun (c : Nat) => decide (nu (-1 - (c : Int)) = nu (-1 - ((n + c : Nat) : Int)))).all id
def spMet (K : Fg) : Sp := fun vs H Q _ => ∃ (a bc st : Addr) (sl n : Nat) (B : Book) (rows : List (List Int)) (bec : List (Int × Int)) (nu : Int → Int) (v2 : V), vs = [.ref a, v2] ∧ Ch K H a bc st sl n B rows bec ∧ Nu bec nu ∧ n ≤ 10 ∧
  ((∃ X Y, Dp K H v2 (quadD "settles" X Y) ∧ (∀ c ∈ Y, c < n) ∧ Y.length ≤ 100 ∧ ∀ H', Ex H H' → Q (.bl (metS nu n X Y)) H') ∨ (∃ S, Dp K H v2 (joinD S) ∧ ∀ H', Ex H H' → Q (.bl (decide ((fr n).map nu ∈ rows))) H'))
theorem q_trip {σ : L2.St} {H : Hp} {te : TE} {tz : TS} {D : Ends} {i j : Nat} {d1 d2 : PyData} (h : EvD K te σ H (.tuple [d1, d2])) (k : ∀ y z H1, Ex H H1 → Dp K H1 y d1 → Dp K H1 z d2 → tz D ((σ.set i (some y)).set j (some z)) H1) : tSeq (tAsg te (gTup K 2 (gCons (gName i) (gCons (gName j) gNil)))) tz D σ H := q_pair h k
theorem nows {σ : L2.St} {H : Hp} {i j : Nat} {wi : TI} {vs : List Nat} {a bc st : Addr} {sl n : Nat} {B : Book} {rows : List (List Int)} {bec : List (Int × Int)} {nu : Int → Int} (xs : List Int) (hs : EvS K [] wi σ H (xs.map .int)) (hz : xs.length ≤ 100000) (c : Ch K H a bc st sl n B rows bec) (N : Nu bec nu)
    (h1 : ∀ x : V, ((wipe σ vs).set j (some x))[i]? = some (some (.ref a))) (h2 : ∀ x : V, ((wipe σ vs).set j (some x))[j]? = some (some x)) (h3 : ∀ x : V, wipe ((wipe σ vs).set j (some x)) vs = wipe σ vs) :
    EvN K (tLc wi (gName j) tYes (tMeth (aC K) "now" (spNow K) [] E0 (tVar i) (tCons (tVar j) tNil)) vs) σ H ((xs.map nu).map .int) := by
  rw [List.map_map]
  exact en_lcM (as := xs) (enc := PyData.int) (fun x => .int (nu x)) hs hz (fun _ _ => rfl) fun x hx u H1 e1 hu => ⟨_, tgt_name, h3 u, ed_now (h1 u) (c.ex e1) N (ed_var (h2 u) hu)⟩
theorem frn_get {nu : Int → Int} {n c : Nat} (h : c < n) : ((fr n).map nu).getD c 0 = nu (-1 - (c : Int)) := by rw [map_getD (by rw [fr_len]; exact h), fr_get h]
theorem ok_is_met (T : Txt K mg) : Good P w K mg base 3 "is_met" ["found", "dependency"] (spMet K) := by
  refine good_of (q := "is_met") (st := s_is_met) (N := ["found", "dependency", "kind", "table", "width", "first", "left", "right", "others", "columns", "other", "wanted", "value", "column", "row"]) T.g_is_met (T.def_ 11) sc_is_met (fun _ _ _ _ _ _ us hl => match us, hl with | [_, _], _ => rfl) (fun vs H Q E h => by obtain ⟨_, _, _, _, _, _, _, _, _, _, rfl, _⟩ := h; rfl) fun cdv A outer s H vs Q E hr h =>
    ⟨_, (pss_cons (ps_asg (pe_slice (kSl (K := K) rfl) (pv 1) po_none (po_some pe_int)) (kTg (K := K) (n := 2) rfl rfl (pgs_cons (pg_name (i := 2) sc_is_met.nd rfl (by first | exact Or.inl rfl | exact Or.inr rfl)) (pgs_cons (pg_name (i := 3) sc_is_met.nd rfl (by first | exact Or.inl rfl | exact Or.inr rfl)) pgs_nil))))
        (pss_cons (ps_set (i := 4) sc_is_met.nd rfl (by first | exact Or.inl rfl | exact Or.inr rfl) (pe_ix (kIx (K := K) rfl) (kFld (K := K) rfl (pv 0)) (pv 3) (fun _ _ => rfl)))
        (pss_cons (ps_set (i := 5) sc_is_met.nd rfl (by first | exact Or.inl rfl | exact Or.inr rfl) (pe_lc (own := [("value", 12)]) (g := gName 12) rfl sc_is_met.nd (kSq (K := K) rfl (pe_callG (ok_first_row (P := P) (w := w) (base := base) T) (hr.mono (by decide)) rfl (pa_cons (pv 4) pa_nil))) (blkOk_by (by kernel_rfl)) (fun _ _ _ _ _ => (pg_name (i := 12) sc_is_met.nd rfl (by first | exact Or.inl rfl | exact Or.inr rfl))) (fun _ _ _ _ _ => pts_nil) (fun _ _ _ _ _ => (pe_methG (K := K) rfl T.cls T.m_now (okC_now (P := P) (w := w) (base := base) T) (hr.mono (by decide)) (pv 0) (pa_cons (pv 12) pa_nil)))))
        (pss_cons (ps_if (pt_cmpR (kEq (K := K) rfl (room64 hr)) (pv 2) pe_str (nomark _)) (pss_cons (ps_asg (pe_slice (kSl (K := K) rfl) (pv 1) (po_some pe_int) po_none) (kTg (K := K) (n := 2) rfl rfl (pgs_cons (pg_name (i := 6) sc_is_met.nd rfl (by first | exact Or.inl rfl | exact Or.inr rfl)) (pgs_cons (pg_name (i := 7) sc_is_met.nd rfl (by first | exact Or.inl rfl | exact Or.inr rfl)) pgs_nil))))
        (pss_cons (ps_set (i := 8) sc_is_met.nd rfl (by first | exact Or.inl rfl | exact Or.inr rfl) (pe_lc (own := [("column", 13)]) (g := gName 13) rfl sc_is_met.nd (pi_range1 rfl T.range0 (pa_cons (pv 4) pa_nil)) (blkOk_by (by kernel_rfl)) (fun _ _ _ _ _ => (pg_name (i := 13) sc_is_met.nd rfl (by first | exact Or.inl rfl | exact Or.inr rfl))) (fun _ _ _ _ _ => pts_nil) (fun _ _ _ _ _ => (pe_methG (K := K) rfl T.cls T.m_now (okC_now (P := P) (w := w) (base := base) T) (hr.mono (by decide)) (pv 0) (pa_cons (pe_callG (ok_told_value (P := P) (w := w) (base := base) T) (hr.mono (by decide)) rfl (pa_cons (pe_op (kPlus (K := K) rfl) (pv 4) (pv 13)) pa_nil)) pa_nil)))))
        (pss_one (ps_ret (pe_callB (kAll (K := K) rfl rfl) rfl T.all0 PyProof.Rows.boot_all (pa_cons (pe_lc (own := [("column", 13)]) (g := gName 13) rfl sc_is_met.nd (kSq (K := K) rfl (pv 7)) (blkOk_by (by kernel_rfl)) (fun _ _ _ _ _ => (pg_name (i := 13) sc_is_met.nd rfl (by first | exact Or.inl rfl | exact Or.inr rfl))) (fun _ _ _ _ _ => pts_one (pt_cmpR (kNin (K := K) rfl (room65 hr)) (pv 13) (pv 6) (by with_unfolding_all rfl))) (fun _ _ _ _ _ => (pe_cmpR (kEq (K := K) rfl (room64 hr)) (pe_ix (kIx (K := K) rfl) (pv 5) (pv 13) (fun _ _ => rfl)) (pe_ix (kIx (K := K) rfl) (pv 8) (pv 13) (fun _ _ => rfl)) (nomark _)))) pa_nil)))))) pss_nil)
        (pss_cons (ps_if (pt_cmpR (kEq (K := K) rfl (room64 hr)) (pv 2) pe_str (nomark _)) pss_never pss_nil)
        (pss_one (ps_ret (pe_methG (K := K) rfl T.cls T.m_is_there (okC_is_there (P := P) (w := w) (base := base) T) (hr.mono (by decide)) (pv 0) (pa_cons (pv 3) (pa_cons (kTuple (K := K) rfl rfl T.tuple0 (pv 5)) pa_nil)))))))))), ?_⟩
  obtain ⟨a, bc, st, sl, n, B, rows, bec, nu, v2, rfl, c, N, hn, hcase⟩ := h
  obtain ⟨dx, tb, D, w1, w2, w4, c0⟩ := id c
  have hkd : ∃ kd, EvD K (tSl (rSlU K) (tVar 1) tNoPart (tPart (tC (.int 2)))) (start ["found", "dependency", "kind", "table", "width", "first", "left", "right", "others", "columns", "other", "wanted", "value", "column", "row"] [.ref a, v2]) H (.tuple [.str kd, nI 0]) ∧ ((kd = "settles" ∧ ∃ X Y, Dp K H v2 (quadD "settles" X Y) ∧ (∀ c ∈ Y, c < n) ∧ Y.length ≤ 100 ∧ ∀ H', Ex H H' → Q (.bl (metS nu n X Y)) H') ∨ (kd = "joins" ∧ ∃ S, Dp K H v2 (joinD S) ∧ ∀ H', Ex H H' → Q (.bl (decide ((fr n).map nu ∈ rows))) H')) := by
    rcases hcase with ⟨X, Y, h1, h2⟩ | ⟨S, h1, h2⟩
    · exact ⟨"settles", ed_toT (k := 2) (ed_var rfl h1) ed_i, .inl ⟨rfl, X, Y, h1, h2⟩⟩
    · exact ⟨"joins", ed_toT (k := 2) (ed_var rfl h1) ed_i, .inr ⟨rfl, S, h1, h2⟩⟩
  obtain ⟨kd, hkd, hcase⟩ := hkd
  refine q_pair (K := K) hkd fun yk yt H1 e1 hyk hyt => ?_
  refine q_set (K := K) (d := nI n) (ed_ixT (n := 0) (ed_scheme T (c0.ex e1) rfl) (ed_var rfl hyt) rfl) fun yn H2 e2 hyn => ?_
  have e02 := e1.trans e2
  have hyk2 := hyk.ex e2
  have hyt2 := hyt.ex e2
  have c2 := c.ex e02
  refine q_setL (K := K) (nows (K := K) (fr n) (es_sqT (er_toD (er_call (K := K) n (ea1 (ed_var rfl hyn)) (show n ≤ 100000 by omega)))) (by rw [fr_len]; omega) c2 N (fun _ => rfl) (fun _ => rfl) fun _ => rfl) fun pf H3 hpf e3 hlf => ?_
  have e03 := e02.trans e3
  have hyk3 := hyk2.ex e3
  have frl : ((fr n).map nu).length = n := by rw [List.length_map, fr_len]
  rcases hcase with ⟨rfl, X, Y, hX, hYn, hYl, q⟩ | ⟨rfl, S, hS, q⟩
  · refine q_when (b := true) (et_test (ed_is (ed_eq (ed_var rfl hyk3) (ed_s (K := K)) (sh_str _) (sh_str _)) (by rw [eqv_str]))) (fun _ H4 e4 => ?_) (fun h => by cases h)
    have hX4 := hX.ex (e03.trans e4)
    refine q_pair (K := K) (d1 := cols X) (d2 := cols Y) (ed_fromT (k := 2) (ed_var rfl hX4) ed_i) fun yX yY H5 e5 hyX hyY => ?_
    have e35 := e4.trans e5
    have c5 := (c2.ex e3).ex e35
    have hyn5 := (hyn.ex e3).ex e35
    have hlf5 := hlf.ex e35
    refine q_setL (K := K) (en_lcM (K := K) (as := List.range n) (enc := nI) (fun c => .int (nu (-1 - ((n + c : Nat) : Int)))) (es_rng (ea1 (ed_var rfl hyn5)) (by omega)) (by simp; omega) (fun _ _ => rfl) fun c' hc' u H6 e6 hu =>
      ⟨_, tgt_name, rfl, ed_now rfl (c5.ex e6) N (ed_call ((n + c' : Nat) : Int) (ea1 (ed_addN (ed_var rfl (hyn5.ex e6)) (ed_var rfl hu))) trivial)⟩) fun po H6 hpo e6 hlo => ?_
    have hlo' : Lst K H6 po (((List.range n).map fun (c : Nat) => nu (-1 - ((n + c : Nat) : Int))).map .int) := by rw [List.map_map]; exact hlo
    have hlf6 := hlf5.ex e6
    refine s_ret (K := K) (d := .bool (metS nu n X Y)) (ed_all (bs := (Y.filter fun c => !decide (c ∈ X)).map fun (c : Nat) => decide (nu (-1 - (c : Int)) = nu (-1 - ((n + c : Nat) : Int)))) (ed_is (EvN.toD (en_lcF (K := K) (as := Y) (enc := nI) (fun c => !decide (c ∈ X)) (fun c => .bool (decide (nu (-1 - (c : Int)) = nu (-1 - ((n + c : Nat) : Int))))) (es_sqT (ed_var rfl (hyY.ex e6))) (by omega) (fun _ _ => rfl) fun c' hc' u H7 e7 hu =>
      ⟨_, tgt_name, rfl, et_test (ed_niC (ed_var rfl hu) (ed_var rfl ((hyX.ex e6).ex e7))), fun _ => ed_is (ed_eq (ed_ixI rfl (hlf6.ex e7) (ed_var rfl hu) (by rw [frl]; exact hYn c' hc')) (ed_ixI rfl (hlo'.ex e7) (ed_var rfl hu) (by simpa using hYn c' hc')) (sh_int _) (sh_int _)) ?_⟩)) (by rw [List.map_map]; rfl))) fun v H7 e7 hv => ?_
    · rw [eqv_int, frn_get (hYn c' hc')]
      congr 1
      simp [List.getD_eq_getElem?_getD, hYn c' hc']
    · rw [hv.bl_inv]
      exact q H7 (((e03.trans e35).trans e6).trans e7)
  · refine q_when (b := false) (et_test (ed_is (ed_eq (ed_var rfl hyk3) (ed_s (K := K)) (sh_str _) (sh_str _)) (by rw [str_ne1]))) (fun h => by cases h) fun _ H4 e4 => ?_
    refine q_when (b := false) (et_test (ed_is (ed_eq (ed_var rfl (hyk3.ex e4)) (ed_s (K := K)) (sh_str _) (sh_str _)) (by rw [str_ne2]))) (fun h => by cases h) fun _ H5 e5 => ?_
    have e35 := e4.trans e5
    have c5 := (c0.ex e02).ex (e3.trans e35)
    have hyt5 := (hyt2.ex e3).ex e35
    refine ⟨_, rfl, a, dx, _, rfl, c5.fob, rfl, yt, rfl, ?_⟩
    refine er_tup (K := K) (r := (fr n).map nu) (σ := [some (.ref a), some v2, some yk, some yt, some yn, some (.ref pf), none, none, none, none, none, none, none, none, none]) (ed_var (i := 5) rfl (hlf.ex e35).dp) H5 (Ex.refl H5) _ fun v H6 e6 hv => ?_
    exact ⟨a, bc, st, sl, n, B, rows, bec, v, (fr n).map nu, by rw [hyt5.int_inv]; rfl, (c2.ex (e3.trans e35)).ex e6, hv, fun H7 e7 => q H7 ((((e03.trans e35)).trans e6).trans e7)⟩
/-! ### following.follows -/
theorem sc_follows : FnScope ["scheme", "book", "dependency"] ["scheme", "book", "dependency"] (defScope s_follows) := ⟨rfl, rfl, rfl, by decide +kernel, rfl, by decide +kernel, by decide +kernel⟩
/-- what lets the join dependency follow -/
def JoinOk (n : Nat) (B : Book) (S : List (List Nat)) : Prop := ∃ Cv : Book, Imp Cv B ∧ Imp B Cv ∧ (∀ d ∈ Cv, ∃ s ∈ S, (∀ x ∈ d.l, x ∈ s) ∧ ∀ c ∈ d.r, c ∈ s) ∧ ∃ s ∈ S, ∀ c, c < n → Cl B s c
def spFollows (K : Fg) : Sp := fun vs H Q _ => ∃ (v1 v2 v3 : V) (n : Nat) (B : Book), vs = [v1, v2, v3] ∧ Dp K H v1 (cols [n]) ∧ Dp K H v2 (.tuple (B.map depD)) ∧ 1 ≤ n ∧ n ≤ 10 ∧ OkB n B ∧ B.length ≤ 100 ∧
  ((∃ X Y, Dp K H v3 (quadD "settles" X Y) ∧ (∀ c ∈ X, c < n) ∧ (∀ c ∈ Y, c < n) ∧ X.length ≤ 100 ∧ Y.length ≤ 100 ∧ ∀ H', Ex H H' → Q (.bl (fol B X Y)) H') ∨
   (∃ S, Dp K H v3 (joinD S) ∧ 1 ≤ S.length ∧ S.length ≤ 21 ∧ (∀ s ∈ S, ∀ c ∈ s, c < n) ∧ JoinOk n B S ∧ ∀ H', Ex H H' → Q (.bl true) H'))
theorem fol_met {n : Nat} {B : Book} {R0 rows : List (List Int)} {bec : List (Int × Int)} {nu : Int → Int} (C : CI n B R0 rows bec nu) (okB : OkB n B) {X Y : List Nat} (hX : ∀ x ∈ X, x < n) (hY : ∀ c ∈ Y, c < n) (hs : ∀ d ∈ B, StD rows d) (hm : ∀ r, r ∈ R0 ↔ r ∈ stS n X) : metS nu n X Y = fol B X Y := by
  have t : ∀ c, c < n → c ∉ X → (nu (-1 - (c : Int)) = nu (-1 - ((n + c : Nat) : Int)) ↔ Cl B X c) := fun c hc hcX => C.tells okB hX hs ((hm _).mpr (by simp [stS])) ((hm _).mpr (by simp [stS])) (fun r hr => by have := (hm r).mp hr; simpa [stS] using this) hc hcX
  have e : (metS nu n X Y = true) ↔ (fol B X Y = true) := by
    unfold metS
    rw [fol_true, List.all_eq_true]
    constructor
    · intro h c hc
      by_cases hcX : c ∈ X
      · exact .base hcX
      · exact (t c (hY c hc) hcX).mp (by simpa using h _ (List.mem_map.mpr ⟨c, List.mem_filter.mpr ⟨hc, by simpa using hcX⟩, rfl⟩))
    · intro h b hb
      obtain ⟨c, hc, rfl⟩ := List.mem_map.mp hb
      obtain ⟨h1, h2⟩ := List.mem_filter.mp hc
      have hcX : c ∉ X := by simpa using h2
      exact decide_eq_true ((t c (hY c h1) hcX).mpr (h c h1))
  cases h1 : metS nu n X Y <;> cases h2 : fol B X Y <;> simp_all
theorem ok_follows (T : Txt K mg) : Good P w K mg base 9 "follows" ["scheme", "book", "dependency"] (spFollows K) := by
  refine good_of (q := "follows") (st := s_follows) (N := ["scheme", "book", "dependency"]) T.g_follows (T.def_ 13) sc_follows (fun _ _ _ _ _ _ us hl => match us, hl with | [_, _, _], _ => rfl) (fun vs H Q E h => by obtain ⟨_, _, _, _, _, rfl, _⟩ := h; rfl) fun cdv A outer s H vs Q E hr h =>
    ⟨_, (pss_one (ps_ret (pe_callG (ok_is_met (P := P) (w := w) (base := base) T) (hr.mono (by decide)) rfl (pa_cons (pe_callG (ok_chased_start (P := P) (w := w) (base := base) T) (hr.mono (by decide)) rfl (pa_cons (pv 0) (pa_cons (pv 1) (pa_cons (pv 2) pa_nil)))) (pa_cons (pv 2) pa_nil))))), ?_⟩
  obtain ⟨v1, v2, v3, n, B, rfl, h1, h2, n1, n2, ok, hb, hcase⟩ := h
  rcases hcase with ⟨X, Y, h3, hX, hY, hXl, hYl, q⟩ | ⟨S, h3, hS1, hSl, hSn, hj, q⟩
  · refine ⟨_, rfl, _, rfl, _, rfl, v1, v2, v3, n, B, stS n X, rfl, h1, h2, .inl ⟨X, Y, h3, hXl, rfl⟩, ⟨n1, n2, ok, hb, by simp [stS]⟩, fun H1 a bc st R0 rows bec e1 md hm hs => ?_⟩
    obtain ⟨c, nu, C⟩ := md
    refine ⟨_, rfl, a, bc, st, _, n, B, rows, bec, nu, v3, rfl, c, C.nu, n2, .inl ⟨X, Y, h3.ex e1, hY, hYl, fun H2 e2 => ?_⟩⟩
    rw [fol_met C ok hX hY hs hm]
    exact q H2 (e1.trans e2)
  · refine ⟨_, rfl, _, rfl, _, rfl, v1, v2, v3, n, B, stJ n S, rfl, h1, h2, .inr ⟨S, h3, hS1, hSl, rfl⟩, ⟨n1, n2, ok, hb, by simp [stJ]; omega⟩, fun H1 a bc st R0 rows bec e1 md hm hs => ?_⟩
    obtain ⟨c, nu, C⟩ := md
    refine ⟨_, rfl, a, bc, st, _, n, B, rows, bec, nu, v3, rfl, c, C.nu, n2, .inr ⟨S, h3.ex e1, fun H2 e2 => ?_⟩⟩
    obtain ⟨Cv, i1, i2, hin, s, hsS, key⟩ := hj
    have := C.there ok hs i1 i2 hSn hin (fun s hs' => by
      obtain ⟨i, hi, rfl⟩ := List.mem_iff_getElem.mp hs'
      exact ⟨i + 1, (hm _).mpr (List.mem_map.mpr ⟨i, List.mem_range.mpr hi, by rw [getD_of hi]⟩)⟩) hsS key
    rw [decide_eq_true this]
    exact q H2 (e1.trans e2)
end
end NS
set_option Elab.async false
set_option linter.all false
set_option maxRecDepth 100000
set_option maxHeartbeats 4000000
namespace NS
open PySem PySem.Spec PyProof.Rows L2
open Evl (Ex)
theorem Ch.keepF {K : Fg} {H H' H0 : Hp} {a bc st p : Addr} {sl n : Nat} {B : Book} {rows : List (List Int)} {bec : List (Int × Int)} (c : Ch K H a bc st sl n B rows bec) (m : MutS H [p]) (e : ExB [p] H H') (c0 : Ch K H0 a bc st sl n B rows bec) (hp : H0 p = none) (e0 : Ex H0 H) : Ch K H' a bc st sl n B rows bec := by
  obtain ⟨dx, tb, D, v1, v2, v4, h⟩ := c0
  have h1 := h.ex e0
  have ne : ∀ {b : Addr} {o : HO}, H0 b = some o → b ∉ [p] := fun {b o} hb hm => by
    rw [List.mem_singleton.mp hm, hp] at hb
    cases hb
  obtain ⟨kv, hD, _⟩ := h.ftab
  obtain ⟨ws, hs, _⟩ := h.fst
  exact ⟨dx, tb, D, v1, v2, v4, h1.keep m e (ne h.fob) (ne h.ftb) (ne hD) (ne h.fbc) (ne hs)⟩
section
variable {P : Program} {w : World} {K : Fg} {mg : Str → Option Value} {base : Heap}
/-! ### keys.two_rows -/
theorem sc_two_rows : FnScope ["scheme", "book", "table", "columns", "found", "width", "one", "other", "column", "value"] ["scheme", "book", "table", "columns"] (defScope s_two_rows) := ⟨rfl, rfl, rfl, by decide +kernel, rfl, by decide +kernel, by decide +kernel⟩
def otF (nu : Int → Int) (n : Nat) (X : List Nat) (i : Nat) : List Int := (List.range n).map fun (c : Nat) => if c < i ∧ c ∉ X then nu (-1 - ((n + c : Nat) : Int)) else nu (-1 - (c : Int))
theorem otF_get {nu : Int → Int} {n : Nat} {X : List Nat} {i c : Nat} (h : c < n) : (otF nu n X i).getD c 0 = if c < i ∧ c ∉ X then nu (-1 - ((n + c : Nat) : Int)) else nu (-1 - (c : Int)) := by
  unfold otF
  simp [List.getD_eq_getElem?_getD, h]
theorem otF_len {nu : Int → Int} {n : Nat} {X : List Nat} {i : Nat} : (otF nu n X i).length = n := by simp [otF]
theorem otF_0 {nu : Int → Int} {n : Nat} {X : List Nat} : otF nu n X 0 = (fr n).map nu := by
  unfold otF fr
  rw [List.map_map]
  exact List.map_congr_left fun c _ => by rw [if_neg (by omega)]; rfl
theorem otF_in {nu : Int → Int} {n : Nat} {X : List Nat} {i : Nat} (h : i ∈ X) : otF nu n X (i + 1) = otF nu n X i := by
  unfold otF
  refine List.map_congr_left fun c _ => ?_
  by_cases e : c < i ∧ c ∉ X
  · rw [if_pos e, if_pos ⟨by omega, e.2⟩]
  · rw [if_neg e, if_neg fun q => ?_]
    rcases Nat.lt_or_ge c i with g | g
    · exact e ⟨g, q.2⟩
    · have : c = i := by omega
      exact q.2 (this ▸ h)
theorem otF_out {nu : Int → Int} {n : Nat} {X : List Nat} {i : Nat} (h : i ∉ X) : (otF nu n X i).set i (nu (-1 - ((n + i : Nat) : Int))) = otF nu n X (i + 1) := by
  refine List.ext_getElem (by rw [List.length_set, otF_len, otF_len]) fun c h1 h2 => ?_
  have hc : c < n := by rw [otF_len] at h2; exact h2
  rw [List.getElem_set]
  have g1 := otF_get (nu := nu) (X := X) (i := i) hc
  have g2 := otF_get (nu := nu) (X := X) (i := i + 1) hc
  rw [getD_of (by rw [otF_len]; exact hc)] at g1 g2
  rw [g1, g2]
  by_cases e : i = c
  · subst e
    rw [if_pos rfl, if_pos ⟨by omega, h⟩]
  · rw [if_neg e]
    by_cases q : c < i ∧ c ∉ X
    · rw [if_pos q, if_pos ⟨by omega, q.2⟩]
    · rw [if_neg q, if_neg fun r => q ⟨by omega, r.2⟩]
def spTwo (K : Fg) : Sp := fun vs H Q _ => ∃ (v1 v2 v4 : V) (n : Nat) (B : Book) (X : List Nat), vs = [v1, v2, .int 0, v4] ∧ Dp K H v1 (cols [n]) ∧ Dp K H v2 (.tuple (B.map depD)) ∧ Dp K H v4 (cols X) ∧ 1 ≤ n ∧ n ≤ 10 ∧ OkB n B ∧ B.length ≤ 100 ∧ (∀ x ∈ X, x < n) ∧ X.length ≤ 100 ∧
  ∀ (H' : Hp) (t : Addr) (x : V) (o1 o2 : Addr) (l1 l2 : List Int), Ex H H' → H' t = some (.tup [x, .ref o1, .ref o2]) → Lst K H' o1 (l1.map .int) → Lst K H' o2 (l2.map .int) → l1.length = n → l2.length = n → (∀ c, c < n → (l1.getD c 0 = l2.getD c 0 ↔ Cl B X c)) → Q (.ref t) H'
theorem ok_two_rows (T : Txt K mg) : Good P w K mg base 9 "two_rows" ["scheme", "book", "table", "columns"] (spTwo K) := by
  refine good_of (q := "two_rows") (st := s_two_rows) (N := ["scheme", "book", "table", "columns", "found", "width", "one", "other", "column", "value"]) T.g_two_rows (T.def_ 16) sc_two_rows (fun _ _ _ _ _ _ us hl => match us, hl with | [_, _, _, _], _ => rfl) (fun vs H Q E h => by obtain ⟨_, _, _, _, _, _, rfl, _⟩ := h; rfl) fun cdv A outer s H vs Q E hr h =>
    ⟨_, (pss_cons (ps_set (i := 4) sc_two_rows.nd rfl (by first | exact Or.inl rfl | exact Or.inr rfl) (pe_callG (ok_chased_start (P := P) (w := w) (base := base) T) (hr.mono (by decide)) rfl (pa_cons (pv 0) (pa_cons (pv 1) (pa_cons (pe_tup (pa_cons pe_str (pa_cons (pv 2) (pa_cons (pv 3) (pa_cons (pe_tup pa_nil) pa_nil))))) pa_nil)))))
        (pss_cons (ps_set (i := 5) sc_two_rows.nd rfl (by first | exact Or.inl rfl | exact Or.inr rfl) (pe_ix (kIx (K := K) rfl) (pv 0) (pv 2) (fun _ _ => rfl)))
        (pss_cons (ps_setLc (i := 6) (own := [("value", 9)]) (g := gName 9) rfl sc_two_rows.nd rfl rfl (sw_true rfl rfl rfl (by kernel_rfl)) (kSq (K := K) rfl (pe_callG (ok_first_row (P := P) (w := w) (base := base) T) (hr.mono (by decide)) rfl (pa_cons (pv 5) pa_nil))) (blkOk_by (by kernel_rfl)) (fun _ _ _ _ _ => (pg_name (i := 9) sc_two_rows.nd rfl (by first | exact Or.inl rfl | exact Or.inr rfl))) (fun _ _ _ _ _ => pts_nil) (fun _ _ _ _ _ => (pe_methG (K := K) rfl T.cls T.m_now (okC_now (P := P) (w := w) (base := base) T) (hr.mono (by decide)) (pv 4) (pa_cons (pv 9) pa_nil))))
        (pss_cons (ps_set (i := 7) sc_two_rows.nd rfl (by first | exact Or.inl rfl | exact Or.inr rfl) (pe_callTy (kList (K := K) rfl) rfl T.list0 PyProof.Rows.boot_list (pa_cons (pv 6) pa_nil)))
        (pss_cons (ps_for PassesOwn.never rfl (pi_range1 rfl T.range0 (pa_cons (pv 5) pa_nil)) (pg_name (i := 8) sc_two_rows.nd rfl (by first | exact Or.inl rfl | exact Or.inr rfl)) (pss_one (ps_if (pt_cmpR (kNin (K := K) rfl (room65 hr)) (pv 8) (pv 3) (by with_unfolding_all rfl)) (pss_one (ps_asg (pe_methG (K := K) rfl T.cls T.m_now (okC_now (P := P) (w := w) (base := base) T) (hr.mono (by decide)) (pv 4) (pa_cons (pe_callG (ok_told_value (P := P) (w := w) (base := base) T) (hr.mono (by decide)) rfl (pa_cons (pe_op (kPlus (K := K) rfl) (pv 5) (pv 8)) pa_nil)) pa_nil)) (pg_sub (pv 7) (pv 8) set_list))) pss_nil)))
        (pss_one (ps_ret (pe_tup (pa_cons (pv 4) (pa_cons (pv 6) (pa_cons (pv 7) pa_nil))))))))))), ?_⟩
  obtain ⟨v1, v2, v4, n, B, X, rfl, h1, h2, h4, n1, n2, ok, hb, hX, hXl, q⟩ := h
  refine q_asgX ⟨_, rfl, _, rfl, ?_⟩
  refine ed_tup (K := K) (ds := [.str "settles", nI 0, cols X, .tuple []]) (σ := [some v1, some v2, some (.int 0), some v4, none, none, none, none, none, none]) (ea_cons ed_s (ea_cons (ed_var (i := 2) rfl (.int 0)) (ea2 (ed_var (i := 3) rfl h4) (ed_tup ea_nil (by simp))))) (by simp) H (Ex.refl H) _ fun vd H1 e1 hvd => ?_
  refine ⟨v1, v2, vd, n, B, stS n X, rfl, h1.ex e1, h2.ex e1, .inl ⟨X, [], hvd, hXl, rfl⟩, ⟨n1, n2, ok, hb, by simp [stS]⟩, fun H2 a bc st R0 rows bec e2 md hm hs => ?_⟩
  obtain ⟨c, nu, C⟩ := md
  have t : ∀ c, c < n → c ∉ X → (nu (-1 - (c : Int)) = nu (-1 - ((n + c : Nat) : Int)) ↔ Cl B X c) := fun c hc hcX => C.tells ok hX hs ((hm _).mpr (by simp [stS])) ((hm _).mpr (by simp [stS])) (fun r hr => by have := (hm r).mp hr; simpa [stS] using this) hc hcX
  have e02 := e1.trans e2
  refine q_set (K := K) (d := nI n) (ed_ixT (n := 0) (ed_var rfl (h1.ex e02)) (ed_var rfl (.int 0)) rfl) fun yn H3 e3 hyn => ?_
  refine q_setL (K := K) (nows (K := K) (fr n) (es_sqT (er_toD (er_call (K := K) n (ea1 (ed_var rfl hyn)) (show n ≤ 100000 by omega)))) (by rw [fr_len]; omega) (c.ex e3) C.nu (fun _ => rfl) (fun _ => rfl) fun _ => rfl) fun o1 H4 ho1 e4 hl1 => ?_
  refine q_setL (K := K) (en_listL (ed_var rfl hl1.dp)) fun o2 H5 ho2 e5 hl2 => ?_
  have e25 := (e3.trans e4).trans e5
  have c5 := c.ex e25
  have n12 : o1 ≠ o2 := fun e => by obtain ⟨u, hu⟩ := hl1.at; rw [e, ho2] at hu; cases hu
  have hl15 := hl1.ex e5
  rw [← otF_0 (X := X)] at hl2
  refine q_for (K := K) (M := [o2]) (as := List.range n) (enc := nI) (es_rng (ea1 (ed_var rfl ((hyn.ex e4).ex e5))) (by omega))
    (fun i σ' H' => ∃ s8 s9, σ' = [some v1, some v2, some (.int 0), some v4, some (.ref a), some yn, some (.ref o1), some (.ref o2), s8, s9] ∧ Lst K H' o2 ((otF nu n X i).map .int)) ⟨_, _, rfl, hl2⟩ (fun _ _ _ _ h e => let ⟨s8, s9, h1, h2⟩ := h; ⟨s8, s9, h1, h2.ex e⟩) ?_ ?_
  · rintro i a' x σ1 H6 ha ⟨s8, s9, rfl, hl6⟩ e6 hx
    obtain ⟨rfl, hi⟩ := range_get ha
    refine ⟨_, tgt_name, fun H7 e7 N hN => ?_⟩
    have hx7 := hx.ex e7
    have h47 := (((h4.ex e02).ex e25).keep hl2.mut e6 (nl_cols _)).ex e7
    have hyn7 := (((hyn.ex e4).ex e5).keep hl2.mut e6 rfl).ex e7
    have c7 : Ch K H7 a bc st bec.length n B rows bec := (Ch.keepF c5 hl2.mut e6 (c.ex (e3.trans e4)) ho2 e5).ex e7
    have hl7 := hl6.ex e7
    refine s_when (et_test (ed_niC (ed_var rfl hx7) (ed_var rfl h47))) (fun hb H8 e8 => ?_) (fun hb H8 e8 => ?_)
    · have hnX : a' ∉ X := by simpa using hb
      refine s_setI (K := K) (k := a') rfl (hl7.ex e8).ints (ed_var rfl (hx7.ex e8)) (by rw [otF_len]; exact hi) (ed_now rfl (c7.ex e8) C.nu (ed_call ((n + a' : Nat) : Int) (ea1 (ed_addN (ed_var rfl (hyn7.ex e8)) (ed_var rfl (hx7.ex e8)))) trivial)) fun H9 e9 h9 => hN _ _ ⟨_, _, rfl, ?_⟩ ((ExB.of e8).trans e9)
      rw [otF_out hnX] at h9
      exact Lst.ofInts h9
    · have hX' : a' ∈ X := by simpa using hb
      refine hN _ _ ⟨_, _, rfl, ?_⟩ (.of e8)
      rw [otF_in hX']
      exact hl7.ex e8
  · rintro σ1 H6 ⟨s8, s9, rfl, hl6⟩ e6
    rw [List.length_range] at hl6
    refine ⟨_, rfl, _, rfl, _, rfl, by show 3 ≤ sizeLine; decide, fun t' ht' => ?_⟩
    have et := Ex.new (o := .tup [.ref a, .ref o1, .ref o2]) ht'
    have ho2n : H o2 = none := Evl.fresh_back ((e02.trans e3).trans e4) ho2
    have eH : Ex H H6 := ExB.out (e02.trans e25) e6 (by simpa using ho2n)
    have hl16 := hl15.keep hl2.mut e6 (by simpa using n12) (nl_all (fun _ => rfl) _)
    refine q _ t' _ o1 o2 _ _ (eH.trans et) upd_same (hl16.ex et) (hl6.ex et) (by rw [List.length_map, fr_len]) otF_len fun c' hc' => ?_
    rw [frn_get hc', otF_get hc']
    by_cases hcX : c' ∈ X
    · rw [if_neg fun q => q.2 hcX]
      exact ⟨fun _ => .base hcX, fun _ => rfl⟩
    · rw [if_pos ⟨hc', hcX⟩]
      exact t c' hc' hcX
/-! ### keys.closure -/
theorem sc_closure : FnScope ["scheme", "book", "table", "columns", "_", "one", "other", "column"] ["scheme", "book", "table", "columns"] (defScope s_closure) := ⟨rfl, rfl, rfl, by decide +kernel, rfl, by decide +kernel, by decide +kernel⟩
/-- the columns that X settles -/
noncomputable def clos (B : Book) (n : Nat) (X : List Nat) : List Nat := (List.range n).filter fun c => chi B X c
theorem clos_sub {B : Book} {n : Nat} {X : List Nat} : (clos B n X).Sublist (List.range n) := List.filter_sublist
theorem clos_full {B : Book} {n : Nat} {X : List Nat} : (clos B n X).length = n ↔ ∀ c, c < n → Cl B X c := by
  unfold clos
  rw [nodup_full (List.nodup_range.filter _) fun x hx => List.mem_range.mp (List.mem_filter.mp hx).1]
  constructor
  · intro h c hc
    exact chi_true.mp (List.mem_filter.mp (h c hc)).2
  · intro h c hc
    exact List.mem_filter.mpr ⟨List.mem_range.mpr hc, chi_true.mpr (h c hc)⟩
theorem clos_range {B : Book} {n : Nat} {X : List Nat} : clos B n X = List.range n ↔ ∀ c, c < n → Cl B X c := by
  constructor
  · intro h c hc
    have : c ∈ clos B n X := by rw [h]; exact List.mem_range.mpr hc
    exact chi_true.mp (List.mem_filter.mp this).2
  · intro h
    unfold clos
    exact List.filter_eq_self.mpr fun c hc => chi_true.mpr (h c (List.mem_range.mp hc))
structure ClP (n : Nat) (B : Book) (X : List Nat) : Prop where
  n1 : 1 ≤ n
  n2 : n ≤ 10
  ok : OkB n B
  bl : B.length ≤ 100
  X1 : ∀ x ∈ X, x < n
  X2 : X.length ≤ 100
noncomputable def spClosure (K : Fg) : Sp := spF (α := Nat × Book × List Nat) K (fun a => [cols [a.1], .tuple (a.2.1.map depD), nI 0, cols a.2.2]) (fun a => ClP a.1 a.2.1 a.2.2) (fun a => cols (clos a.2.1 a.1 a.2.2))
theorem ok_closure (T : Txt K mg) : Good P w K mg base 10 "closure" ["scheme", "book", "table", "columns"] (spClosure K) := by
  refine good_of (q := "closure") (st := s_closure) (N := ["scheme", "book", "table", "columns", "_", "one", "other", "column"]) T.g_closure (T.def_ 17) sc_closure (fun _ _ _ _ _ _ us hl => match us, hl with | [_, _, _, _], _ => rfl) (len_spF fun _ => rfl) fun cdv A outer s H vs Q E hr h =>
    ⟨_, (pss_cons (ps_asg (pe_callG (ok_two_rows (P := P) (w := w) (base := base) T) (hr.mono (by decide)) rfl (pa_cons (pv 0) (pa_cons (pv 1) (pa_cons (pv 2) (pa_cons (pv 3) pa_nil))))) (kTg (K := K) (n := 3) rfl rfl (pgs_cons (pg_name (i := 4) sc_closure.nd rfl (by first | exact Or.inl rfl | exact Or.inr rfl)) (pgs_cons (pg_name (i := 5) sc_closure.nd rfl (by first | exact Or.inl rfl | exact Or.inr rfl)) (pgs_cons (pg_name (i := 6) sc_closure.nd rfl (by first | exact Or.inl rfl | exact Or.inr rfl)) pgs_nil)))))
        (pss_one (ps_ret (kTuple (K := K) rfl rfl T.tuple0 (pe_lc (own := [("column", 7)]) (g := gName 7) rfl sc_closure.nd (pi_range1 rfl T.range0 (pa_cons (pe_ix (kIx (K := K) rfl) (pv 0) (pv 2) (fun _ _ => rfl)) pa_nil)) (blkOk_by (by kernel_rfl)) (fun _ _ _ _ _ => (pg_name (i := 7) sc_closure.nd rfl (by first | exact Or.inl rfl | exact Or.inr rfl))) (fun _ _ _ _ _ => pts_one (pt_cmpR (kEq (K := K) rfl (room64 hr)) (pe_ix (kIx (K := K) rfl) (pv 5) (pv 7) (fun _ _ => rfl)) (pe_ix (kIx (K := K) rfl) (pv 6) (pv 7) (fun _ _ => rfl)) (nomark _))) (fun _ _ _ _ _ => (pv 7))))))), ?_⟩
  obtain ⟨⟨n, B, X⟩, hv, p, q⟩ := h
  obtain ⟨x1, x2, x3, x4, rfl, h1, h2, h3, h4⟩ := dpAll4 hv
  have p : ClP n B X := p
  have n2 := p.n2
  refine ⟨_, rfl, _, rfl, _, rfl, _, rfl, x1, x2, x4, n, B, X, by rw [h3.int_inv]; rfl, h1, h2, h4, p.n1, p.n2, p.ok, p.bl, p.X1, p.X2, fun H1 t x o1 o2 l1 l2 e1 ht hl1 hl2 g1 g2 hc => ?_⟩
  refine ⟨t, _, rfl, SqT.of ht, rfl, x, _, rfl, .ref o1, _, rfl, .ref o2, _, rfl, rfl, ?_⟩
  refine s_ret (K := K) (d := cols (clos B n X)) (ed_tupC' (en_is (en_lcF (K := K) (as := List.range n) (enc := nI) (fun c => decide (l1.getD c 0 = l2.getD c 0)) nI (es_rng (ea1 (ed_ixT (n := 0) (ed_var rfl (h1.ex e1)) (ed_var rfl (h3.ex e1)) rfl)) (by omega)) (by simp; omega) (fun _ _ => rfl) fun c' hc' u H2 e2 hu =>
    ⟨_, tgt_name, rfl, et_test (ed_is (ed_eq (ed_ixI rfl (hl1.ex e2) (ed_var rfl hu) (by rw [g1]; exact List.mem_range.mp hc')) (ed_ixI rfl (hl2.ex e2) (ed_var rfl hu) (by rw [g2]; exact List.mem_range.mp hc')) (sh_int _) (sh_int _)) (by rw [eqv_int])), fun _ => ed_var rfl hu⟩) ?_)) fun v H2 e2 hv => q v H2 (e1.trans e2) hv
  congr 1
  unfold clos
  refine List.filter_congr fun c' hc' => ?_
  have := hc c' (List.mem_range.mp hc')
  rcases h : chi B X c' with _ | _
  · refine decide_eq_false fun q => ?_
    have := chi_true.mpr (this.mp q)
    rw [h] at this
    cases this
  · exact decide_eq_true (this.mpr (chi_true.mp h))
end
end NS
set_option Elab.async false
set_option linter.all false
set_option maxRecDepth 100000
set_option maxHeartbeats 4000000
namespace NS
open PySem PySem.Spec PyProof.Rows L2
open Evl (Ex)
section
variable {P : Program} {w : World} {K : Fg} {mg : Str → Option Value} {base : Heap}
/-! ### keys.keys -/
theorem sc_keys : FnScope ["scheme", "book", "table", "found", "columns", "inner", "key", "column"] ["scheme", "book", "table"] (defScope s_keys) := ⟨rfl, rfl, rfl, by decide +kernel, rfl, by decide +kernel, by decide +kernel⟩
noncomputable def fullB (B : Book) (n : Nat) (s : List Nat) : Bool := decide ((clos B n s).length = n)
noncomputable def spKeys (K : Fg) : Sp := fun vs H Q _ => ∃ (v1 v2 : V) (n : Nat) (B : Book), vs = [v1, v2, .int 0] ∧ Dp K H v1 (cols [n]) ∧ Dp K H v2 (.tuple (B.map depD)) ∧ 1 ≤ n ∧ n ≤ 5 ∧ OkB n B ∧ B.length ≤ 100 ∧
  ∀ (v : V) (ks : List (List Nat)) (H' : Hp), Ex H H' → Dp K H' v (.tuple (ks.map cols)) → ks.head? = (soS n).find? (fullB B n) → Q v H'
theorem ok_keys (T : Txt K mg) : Good P w K mg base 11 "keys" ["scheme", "book", "table"] (spKeys K) := by
  refine good_of (q := "keys") (st := s_keys) (N := ["scheme", "book", "table", "found", "columns", "inner", "key", "column"]) T.g_keys (T.def_ 18) sc_keys (fun _ _ _ _ _ _ us hl => match us, hl with | [_, _, _], _ => rfl) (fun vs H Q E h => by obtain ⟨_, _, _, _, rfl, _⟩ := h; rfl) fun cdv A outer s H vs Q E hr h =>
    ⟨_, (pss_cons (ps_set (i := 3) sc_keys.nd rfl (by first | exact Or.inl rfl | exact Or.inr rfl) (pe_lst pa_nil))
        (pss_cons (ps_for PassesOwn.never rfl (kSq (K := K) rfl (pe_callG (ok_sets_of_columns (P := P) (w := w) (base := base) T) (hr.mono (by decide)) rfl (pa_cons (pe_listRg rfl rfl T.list0 (prg_1 rfl T.range0 (pe_ix (kIx (K := K) rfl) (pv 0) (pv 2) (fun _ _ => rfl)))) pa_nil))) (pg_name (i := 4) sc_keys.nd rfl (by first | exact Or.inl rfl | exact Or.inr rfl)) (pss_cons (ps_setLc (i := 5) (own := [("key", 6)]) (g := gName 6) rfl sc_keys.nd rfl rfl (sw_true rfl rfl rfl (by kernel_rfl)) (kSq (K := K) rfl (pv 3)) (blkOk_by (by kernel_rfl)) (fun _ _ _ _ _ => (pg_name (i := 6) sc_keys.nd rfl (by first | exact Or.inl rfl | exact Or.inr rfl))) (fun _ _ _ _ _ => pts_one (pt_val (pe_callB (kAll (K := K) rfl rfl) rfl T.all0 PyProof.Rows.boot_all (pa_cons (pe_lc (own := [("column", 7)]) (g := gName 7) rfl sc_keys.nd (kSq (K := K) rfl (pv 6)) (blkOk_by (by kernel_rfl)) (fun _ _ _ _ _ => (pg_name (i := 7) sc_keys.nd rfl (by first | exact Or.inl rfl | exact Or.inr rfl))) (fun _ _ _ _ _ => pts_nil) (fun _ _ _ _ _ => (pe_cmpR (kIn (K := K) rfl (room65 hr)) (pv 7) (pv 4) (by with_unfolding_all rfl)))) pa_nil)))) (fun _ _ _ _ _ => (pv 6)))
        (pss_one (ps_if (PW.pt (pw_and (pt_cmpR (kEq (K := K) rfl (room64 hr)) (pe_callB (kLen (K := K) rfl) rfl T.len0 PySem.boot_len (pa_cons (pv 5) pa_nil)) pe_int (nomark _)) (pw_and1 (pt_cmpR (kEq (K := K) rfl (room64 hr)) (pe_callB (kLen (K := K) rfl) rfl T.len0 PySem.boot_len (pa_cons (pe_callG (ok_closure (P := P) (w := w) (base := base) T) (hr.mono (by decide)) rfl (pa_cons (pv 0) (pa_cons (pv 1) (pa_cons (pv 2) (pa_cons (pv 4) pa_nil))))) pa_nil)) (pe_ix (kIx (K := K) rfl) (pv 0) (pv 2) (fun _ _ => rfl)) (nomark _))))) (pss_one (ps_expr (kBm (K := K) rfl PySem.F.plainAttrs_list PySem.F.slot_list_append PySem.F.type_list_append mt_append (pv 3) (pa_cons (pv 4) pa_nil)))) pss_nil))))
        (pss_one (ps_ret (kTuple (K := K) rfl rfl T.tuple0 (pv 3)))))), ?_⟩
  obtain ⟨v1, v2, n, B, rfl, h1, h2, n1, n2, ok, hb, q⟩ := h
  refine q_setL (K := K) (en_lst ea_nil (by simp)) fun f H1 hf e1 hlf => ?_
  have hsl : (soS n).length ≤ 32 := by rw [soS_len]; exact Nat.le_trans (Nat.pow_le_pow_right (by decide) n2) (by decide)
  refine q_for (K := K) (M := [f]) (as := soS n) (enc := cols) (es_newX (en_call n (ea1 (EvN.toD (en_rng1 (ed_ixT (n := 0) (ed_var rfl (h1.ex e1)) (ed_var rfl (.int 0)) rfl) (by omega)))) n2) hlf.trk (nl_all nl_cols _))
    (fun i σ' H' => ∃ (s4 s5 s6 s7 : Option V) (ks : List (List Nat)), σ' = [some v1, some v2, some (.int 0), some (.ref f), s4, s5, s6, s7] ∧ Lst K H' f (ks.map cols) ∧ ks.length ≤ i ∧ (∀ k ∈ ks, k ∈ soS n) ∧ ks.head? = ((soS n).take i).find? (fullB B n))
    ⟨_, _, _, _, [], rfl, hlf, Nat.le_refl 0, (fun _ h => by cases h), rfl⟩ (fun _ _ _ _ h e => let ⟨s4, s5, s6, s7, ks, h1, h2, h3⟩ := h; ⟨s4, s5, s6, s7, ks, h1, h2.ex e, h3⟩) ?_ ?_
  · rintro i s x σ1 H2 hs ⟨s4, s5, s6, s7, ks, rfl, hl, hkl, hks, hh⟩ e2 hx
    have hsm := List.mem_of_getElem? hs
    have hi : i < (soS n).length := (List.getElem?_eq_some_iff.mp hs).1
    have sub := soS_sub hsm
    refine ⟨_, tgt_name, fun H3 e3 N hN => ?_⟩
    have hl3 := hl.ex e3
    have hx3 := hx.ex e3
    have h13 := ((h1.ex e1).keep hlf.mut e2 (nl_cols _)).ex e3
    have h23 := ((h2.ex e1).keep hlf.mut e2 (nl_all nl_dep B)).ex e3
    refine q_setL (K := K) (en_lcF (K := K) (as := ks) (enc := cols) (fun k => k.all fun c => decide (c ∈ s)) cols (es_sqL (ed_var rfl hl3.dp)) (by omega) (fun _ _ => nl_cols _) fun k hk u H4 e4 hu =>
      ⟨_, tgt_name, rfl, et_B (ed_is (ed_all (bs := k.map fun c => decide (c ∈ s)) (ed_is (EvN.toD (en_lcM (as := k) (enc := nI) (fun c => .bool (decide (c ∈ s))) (es_sqT (ed_var rfl hu)) (by have := sub_len (soS_sub (hks k hk)); omega) (fun _ _ => rfl) fun c hc z H5 e5 hz =>
        ⟨_, tgt_name, rfl, ed_inC (ed_var rfl hz) (ed_var rfl ((hx3.ex e4).ex e5))⟩)) (by rw [List.map_map]; rfl))) (by rw [List.all_map]; rfl)), fun _ => ed_var rfl hu⟩) fun p H4 hp e4 hlp => ?_
    refine s_when (b := decide ((ks.filter fun k => k.all fun c => decide (c ∈ s)).length = 0) && fullB B n s) (Evl.et_and (et_test (ed_is (ed_eqN (ed_lenL (ed_var rfl hlp.dp)) ed_n0) (by rw [List.length_map]))) fun _ => et_test (ed_is (ed_eqN (ed_lenT (ed_call (n, B, s) (ea_cons (ed_var rfl (h13.ex e4)) (ea_cons (ed_var rfl (h23.ex e4)) (ea2 (ed_var rfl (.int 0)) (ed_var rfl (hx3.ex e4))))) ⟨n1, by omega, ok, hb, fun x hx => sub_lt sub hx, Nat.le_trans (sub_len sub) (by omega)⟩)) (ed_ixT (n := 0) (ed_var rfl (h13.ex e4)) (ed_var rfl (.int 0)) rfl)) (by rw [List.length_map]; rfl))) (fun hb' H5 e5 => ?_) (fun hb' H5 e5 => ?_)
    · rw [Bool.and_eq_true] at hb'
      refine s_app rfl ((hl3.ex e4).ex e5) (nl_all nl_cols _) (nl_cols s) (by rw [List.length_map]; omega) (ed_var rfl ((hx3.ex e4).ex e5)) fun H6 e6 hl6 => hN _ _ ⟨_, _, _, _, ks ++ [s], rfl, by rw [List.map_append]; exact hl6, by simp; omega, fun k hk => ?_, ?_⟩ ((ExB.of (e4.trans e5)).trans e6)
      · rcases List.mem_append.mp hk with h | h
        · exact hks k h
        · rw [List.mem_singleton.mp h]; exact hsm
      · rw [take_snoc hs, List.find?_append, ← hh]
        cases ks with
        | nil => simp [hb'.2]
        | cons k0 kr => rfl
    · refine hN _ _ ⟨_, _, _, _, ks, rfl, (hl3.ex e4).ex e5, by omega, hks, ?_⟩ (.of (e4.trans e5))
      rw [take_snoc hs, List.find?_append, ← hh]
      cases ks with
      | nil =>
        have : fullB B n s = false := by simpa using hb'
        simp [this]
      | cons k0 kr => rfl
  · rintro σ1 H2 ⟨s4, s5, s6, s7, ks, rfl, hl, hkl, hks, hh⟩ e2
    rw [List.take_length] at hh
    exact s_ret (ed_tupL (ed_var rfl hl.dp)) fun v H3 e3 hv => q v ks H3 ((ExB.out e1 e2 (by simpa using hf)).trans e3) hv hh
/-! ### functional.lessened -/
theorem sc_lessened : FnScope ["scheme", "book", "dependency", "word", "table", "left", "right", "column", "less", "other"] ["scheme", "book", "dependency"] (defScope s_lessened) := ⟨rfl, rfl, rfl, by decide +kernel, rfl, by decide +kernel, by decide +kernel⟩
theorem lessL_append (B : Book) (r : List Nat) : ∀ (cs cur : List Nat) (c : Nat), lessL B r (cs ++ [c]) cur = (if fol B ((lessL B r cs cur).filter fun x => x != c) r then (lessL B r cs cur).filter fun x => x != c else lessL B r cs cur)
  | [], cur, c => rfl
  | a :: cs, cur, c => by
    rw [List.cons_append]
    simp only [lessL]
    exact lessL_append B r cs _ c
noncomputable def spLess (K : Fg) : Sp := fun vs H Q _ => ∃ (v1 v2 v3 : V) (n : Nat) (B : Book) (d : Dep), vs = [v1, v2, v3] ∧ Dp K H v1 (cols [n]) ∧ Dp K H v2 (.tuple (B.map depD)) ∧ Dp K H v3 (depD d) ∧ 1 ≤ n ∧ n ≤ 10 ∧ OkB n B ∧ B.length ≤ 100 ∧ OkD n d ∧
  ∀ v H', Ex H H' → Dp K H' v (depD (NS.lessened B d)) → Q v H'
theorem q_quad {σ : L2.St} {H : Hp} {te : TE} {tz : TS} {D : Ends} {i j k l : Nat} {d1 d2 d3 d4 : PyData} (h : EvD K te σ H (.tuple [d1, d2, d3, d4])) (kk : ∀ y z t u H1, Ex H H1 → Dp K H1 y d1 → Dp K H1 z d2 → Dp K H1 t d3 → Dp K H1 u d4 → tz D ((((σ.set i (some y)).set j (some z)).set k (some t)).set l (some u)) H1) :
    tSeq (tAsg te (gTup K 4 (gCons (gName i) (gCons (gName j) (gCons (gName k) (gCons (gName l) gNil)))))) tz D σ H :=
  h H (Ex.refl H) _ fun v H1 e1 hv => by
    obtain ⟨y, z, t, u, hy, hz, ht, hu, tg⟩ := tgt_quad (K := K) (i := i) (j := j) (k := k) (l := l) (σ0 := σ) hv
    exact tg _ fun H2 e2 => kk y z t u H2 (e1.trans e2) (hy.ex e2) (hz.ex e2) (ht.ex e2) (hu.ex e2)
/-- a settling dependency's turn of follows -/
theorem x_follows {σ : L2.St} {H : Hp} {t1 t2 t3 : TE} {E : XK} {n : Nat} {B : Book} {X Y : List Nat} (h1 : EvD K t1 σ H (cols [n])) (h2 : EvD K t2 σ H (.tuple (B.map depD))) (h3 : EvD K t3 σ H (quadD "settles" X Y)) (n1 : 1 ≤ n) (n2 : n ≤ 10) (ok : OkB n B) (hb : B.length ≤ 100)
    (hX : X.Sublist (List.range n)) (hY : Y.Sublist (List.range n)) : EvD K (tCall (spFollows K) [] E (tCons t1 (tCons t2 (tCons t3 tNil)))) σ H (.bool (fol B X Y)) :=
  ed_callX (ea_cons h1 (ea2 h2 h3)) fun vs H2 e2 hv Q q => by
    obtain ⟨x, y, z, rfl, hx, hy, hz⟩ := dpAll3 hv
    exact ⟨x, y, z, n, B, rfl, hx, hy, n1, n2, ok, hb, .inl ⟨X, Y, hz, fun c hc => sub_lt hX hc, fun c hc => sub_lt hY hc, by have := sub_len hX; omega, by have := sub_len hY; omega, fun H3 e3 => q _ H3 e3 (.bl _)⟩⟩
theorem ok_lessened (T : Txt K mg) : Good P w K mg base 10 "lessened" ["scheme", "book", "dependency"] (spLess K) := by
  refine good_of (q := "lessened") (st := s_lessened) (N := ["scheme", "book", "dependency", "word", "table", "left", "right", "column", "less", "other"]) T.g_lessened (T.def_ 22) sc_lessened (fun _ _ _ _ _ _ us hl => match us, hl with | [_, _, _], _ => rfl) (fun vs H Q E h => by obtain ⟨_, _, _, _, _, _, rfl, _⟩ := h; rfl) fun cdv A outer s H vs Q E hr h =>
    ⟨_, (pss_cons (ps_asg (pv 2) (kTg (K := K) (n := 4) rfl rfl (pgs_cons (pg_name (i := 3) sc_lessened.nd rfl (by first | exact Or.inl rfl | exact Or.inr rfl)) (pgs_cons (pg_name (i := 4) sc_lessened.nd rfl (by first | exact Or.inl rfl | exact Or.inr rfl)) (pgs_cons (pg_name (i := 5) sc_lessened.nd rfl (by first | exact Or.inl rfl | exact Or.inr rfl)) (pgs_cons (pg_name (i := 6) sc_lessened.nd rfl (by first | exact Or.inl rfl | exact Or.inr rfl)) pgs_nil))))))
        (pss_cons (ps_for PassesOwn.never rfl (kSq (K := K) rfl (pe_ix (kIx (K := K) rfl) (pv 2) pe_int (fun _ _ => rfl))) (pg_name (i := 7) sc_lessened.nd rfl (by first | exact Or.inl rfl | exact Or.inr rfl)) (pss_cons (ps_set (i := 8) sc_lessened.nd rfl (by first | exact Or.inl rfl | exact Or.inr rfl) (kTuple (K := K) rfl rfl T.tuple0 (pe_lc (own := [("other", 9)]) (g := gName 9) rfl sc_lessened.nd (kSq (K := K) rfl (pv 5)) (blkOk_by (by kernel_rfl)) (fun _ _ _ _ _ => (pg_name (i := 9) sc_lessened.nd rfl (by first | exact Or.inl rfl | exact Or.inr rfl))) (fun _ _ _ _ _ => pts_one (pt_cmpR (kNe (K := K) rfl (room64 hr)) (pv 9) (pv 7) (nomark _))) (fun _ _ _ _ _ => (pv 9)))))
        (pss_one (ps_if (pt_val (pe_callG (ok_follows (P := P) (w := w) (base := base) T) (hr.mono (by decide)) rfl (pa_cons (pv 0) (pa_cons (pv 1) (pa_cons (pe_tup (pa_cons (pv 3) (pa_cons (pv 4) (pa_cons (pv 8) (pa_cons (pv 6) pa_nil))))) pa_nil))))) (pss_one (ps_set (i := 5) sc_lessened.nd rfl (by first | exact Or.inl rfl | exact Or.inr rfl) (pv 8))) pss_nil))))
        (pss_one (ps_ret (pe_tup (pa_cons (pv 3) (pa_cons (pv 4) (pa_cons (pv 5) (pa_cons (pv 6) pa_nil))))))))), ?_⟩
  obtain ⟨v1, v2, v3, n, B, d, rfl, h1, h2, h3, n1, n2, ok, hb, okd, q⟩ := h
  refine q_quad (K := K) (ed_var rfl h3) fun yw yt yl yr H1 e1 hyw hyt hyl hyr => ?_
  refine q_for (K := K) (M := []) (as := d.l) (enc := nI) (es_sqT (ed_ixT (n := 2) (ed_var rfl (h3.ex e1)) ed_i rfl))
    (fun i σ' H' => ∃ (yl' : V) (s7 s8 s9 : Option V), σ' = [some v1, some v2, some v3, some yw, some yt, some yl', some yr, s7, s8, s9] ∧ Ex H1 H' ∧ Dp K H' yl' (cols (lessL B d.r (d.l.take i) d.l)))
    ⟨yl, _, _, _, rfl, Ex.refl _, hyl⟩ (fun _ _ _ _ h e => let ⟨y, s7, s8, s9, h1, h2, h3⟩ := h; ⟨y, s7, s8, s9, h1, h2.trans e, h3.ex e⟩) ?_ ?_
  · rintro i c x σ1 H2 hc ⟨yl', s7, s8, s9, rfl, e2, hl2⟩ _ hx
    refine ⟨_, tgt_name, fun H3 e3 N hN => ?_⟩
    have e13 := e2.trans e3
    have hl3 := hl2.ex e3
    have subl : (lessL B d.r (d.l.take i) d.l).Sublist (List.range n) := (lessL_sublist _ _ _ _).trans okd.l
    refine q_set (K := K) (d := cols ((lessL B d.r (d.l.take i) d.l).filter fun x => x != c)) (ed_tupC' (en_is (en_lcF (K := K) (as := lessL B d.r (d.l.take i) d.l) (enc := nI) (fun x => !decide (x = c)) nI (es_sqT (ed_var rfl hl3)) (by have := sub_len subl; omega) (fun _ _ => rfl) fun x' hx' u H4 e4 hu =>
      ⟨_, tgt_name, rfl, et_test (ed_neN (ed_var rfl hu) (ed_var rfl ((hx.ex e3).ex e4))), fun _ => ed_var rfl hu⟩) (by congr 1))) fun ys H4 e4 hys => ?_
    have e14 := e13.trans e4
    have hless := hys
    refine s_when (b := fol B ((lessL B d.r (d.l.take i) d.l).filter fun x => x != c) d.r) (et_B (x_follows (K := K) (ed_var rfl ((h1.ex e1).ex e14)) (ed_var rfl ((h2.ex e1).ex e14)) (ed_tup (ea_cons (ed_var rfl (hyw.ex e14)) (ea_cons (ed_var rfl (hyt.ex e14)) (ea2 (ed_var rfl hys) (ed_var rfl (hyr.ex e14))))) (by simp)) n1 n2 ok hb (List.filter_sublist.trans subl) okd.r)) (fun hb' H5 e5 => ?_) (fun hb' H5 e5 => ?_)
    · refine ⟨ys, rfl, hN _ _ ⟨ys, _, _, _, rfl, e14.trans e5, ?_⟩ (.of (e4.trans e5))⟩
      rw [take_snoc hc, lessL_append, if_pos hb']
      exact hys.ex e5
    · refine hN _ _ ⟨yl', _, _, _, rfl, e14.trans e5, ?_⟩ (.of (e4.trans e5))
      rw [take_snoc hc, lessL_append, if_neg (by rw [hb']; simp)]
      exact (hl3.ex e4).ex e5
  · rintro σ1 H2 ⟨yl', s7, s8, s9, rfl, e2, hl2⟩ _
    rw [List.take_length] at hl2
    exact s_ret (K := K) (d := depD (NS.lessened B d)) (ed_tup (ea_cons (ed_var rfl (hyw.ex e2)) (ea_cons (ed_var rfl (hyt.ex e2)) (ea2 (ed_var rfl hl2) (ed_var rfl (hyr.ex e2))))) (by simp)) fun v H3 e3 hv => q v H3 ((e1.trans e2).trans e3) hv
end
end NS
set_option Elab.async false
set_option linter.all false
set_option maxRecDepth 100000
set_option maxHeartbeats 4000000
namespace NS
open PySem PySem.Spec PyProof.Rows L2
open Evl (Ex)
/-! ### plain -/
theorem sgB_single (B : Book) : sgB B = single B := by
  unfold sgB single sgN
  congr 1
  funext d
  congr 2
  funext c
  rw [List.contains_eq_mem]
theorem minim_len : ∀ (rest pre : Book), (minim pre rest).length ≤ pre.length + rest.length
  | [], pre => Nat.le_refl _
  | d :: ds, pre => by
    unfold minim
    by_cases h : fol (pre ++ ds) d.l d.r = true
    · rw [if_pos h]
      have := minim_len ds pre
      rw [List.length_cons]
      omega
    · rw [if_neg h]
      have := minim_len ds (pre ++ [d])
      rw [List.length_append] at this
      simp at this ⊢
      omega
theorem cover_ok {n : Nat} {B : Book} (ok : OkB n B) : OkB n (NS.cover B) := fun e he => by
  obtain ⟨d, hd, c, hc, _, hr, hl, _⟩ := cover_mem he
  exact ⟨hl.trans (ok d hd).l, by rw [hr]; exact (List.singleton_sublist.mpr hc).trans (ok d hd).r⟩
theorem cover_one {B : Book} {e : Dep} (he : e ∈ NS.cover B) : ∃ c, e.r = [c] := by
  obtain ⟨d, hd, c, hc, _, hr, hl, _⟩ := cover_mem he
  exact ⟨c, hr⟩
theorem cover_len {n : Nat} {B : Book} (ok : OkB n B) : (NS.cover B).length ≤ n * B.length := by
  unfold NS.cover
  refine Nat.le_trans (minim_len _ _) ?_
  rw [List.length_map, ← sgB_single]
  simpa using sgB_len ok
theorem less_ok {n : Nat} {B : Book} {d : Dep} (h : OkD n d) : OkD n (NS.lessened B d) := ⟨(lessL_sublist _ _ _ _).trans h.l, h.r⟩
theorem sgB_ok {n : Nat} {B : Book} (ok : OkB n B) : OkB n (sgB B) := fun e he => by
  rw [sgB_single] at he
  obtain ⟨d, hd, c, hc, _, rfl⟩ := mem_single.mp he
  exact ⟨(ok d hd).l, (List.singleton_sublist.mpr hc).trans (ok d hd).r⟩
section
variable {P : Program} {w : World} {K : Fg} {mg : Str → Option Value} {base : Heap}
/-! ### functional.cover -/
theorem sc_cover : FnScope ["scheme", "book", "found", "index", "others", "dependency"] ["scheme", "book"] (defScope s_cover) := ⟨rfl, rfl, rfl, by decide +kernel, rfl, by decide +kernel, by decide +kernel⟩
structure SyP (n : Nat) (B : Book) : Prop where
  n1 : 1 ≤ n
  n2 : n ≤ 5
  ok : OkB n B
  bl : B.length ≤ 4
noncomputable def spCover (K : Fg) : Sp := spF (α := Nat × Book) K (fun a => [cols [a.1], .tuple (a.2.map depD)]) (fun a => SyP a.1 a.2) (fun a => .tuple ((NS.cover a.2).map depD))
theorem ok_cover (T : Txt K mg) : Good P w K mg base 11 "cover" ["scheme", "book"] (spCover K) := by
  refine good_of (q := "cover") (st := s_cover) (N := ["scheme", "book", "found", "index", "others", "dependency"]) T.g_cover (T.def_ 23) sc_cover (fun _ _ _ _ _ _ us hl => match us, hl with | [_, _], _ => rfl) (len_spF fun _ => rfl) fun cdv A outer s H vs Q E hr h =>
    ⟨_, (pss_cons (ps_setLc (i := 2) (own := [("dependency", 5)]) (g := gName 5) rfl sc_cover.nd rfl rfl (sw_true rfl rfl rfl (by kernel_rfl)) (kSq (K := K) rfl (pe_callG (ok_single (P := P) (w := w) (base := base) T) (hr.mono (by decide)) rfl (pa_cons (pv 1) pa_nil))) (blkOk_by (by kernel_rfl)) (fun _ _ _ _ _ => (pg_name (i := 5) sc_cover.nd rfl (by first | exact Or.inl rfl | exact Or.inr rfl))) (fun _ _ _ _ _ => pts_nil) (fun _ _ _ _ _ => (pe_callG (ok_lessened (P := P) (w := w) (base := base) T) (hr.mono (by decide)) rfl (pa_cons (pv 0) (pa_cons (pv 1) (pa_cons (pv 5) pa_nil))))))
        (pss_cons (ps_set (i := 3) sc_cover.nd rfl (by first | exact Or.inl rfl | exact Or.inr rfl) pe_int)
        (pss_cons (ps_while PassesOwn.never (pt_cmpR op_lt (pv 3) (pe_callB (kLen (K := K) rfl) rfl T.len0 PySem.boot_len (pa_cons (pv 2) pa_nil)) (nomark _)) (pss_cons (ps_set (i := 4) sc_cover.nd rfl (by first | exact Or.inl rfl | exact Or.inr rfl) (pe_op (kPlus (K := K) rfl) (pe_slice (kSl (K := K) rfl) (pv 2) po_none (po_some (pv 3))) (pe_slice (kSl (K := K) rfl) (pv 2) (po_some (pe_op (kPlus (K := K) rfl) (pv 3) pe_int)) po_none)))
        (pss_one (ps_if (pt_val (pe_callG (ok_follows (P := P) (w := w) (base := base) T) (hr.mono (by decide)) rfl (pa_cons (pv 0) (pa_cons (kTuple (K := K) rfl rfl T.tuple0 (pv 4)) (pa_cons (pe_ix (kIx (K := K) rfl) (pv 2) (pv 3) (fun _ _ => rfl)) pa_nil))))) (pss_one (ps_set (i := 2) sc_cover.nd rfl (by first | exact Or.inl rfl | exact Or.inr rfl) (pv 4))) (pss_one (ps_aug (i := 3) sc_cover.nd rfl (by first | exact Or.inl rfl | exact Or.inr rfl) pe_int ip_add))))))
        (pss_one (ps_ret (kTuple (K := K) rfl rfl T.tuple0 (pv 2))))))), ?_⟩
  obtain ⟨⟨n, B⟩, hv, p, q⟩ := h
  obtain ⟨v1, v2, rfl, h1, h2⟩ := dpAll2 hv
  have p : SyP n B := p
  have n2 := p.n2
  have n1 := p.n1
  have bl := p.bl
  have hnB : n * B.length ≤ 5 * 4 := Nat.mul_le_mul n2 bl
  have sl := sgB_len p.ok
  refine q_setL (K := K) (en_lcM (K := K) (as := sgB B) (enc := depD) (fun d => depD (NS.lessened B d)) (es_inl (es_lst (EvN.toD (en_call (n, B) (ea1 (ed_var rfl h2)) (show n ≤ 10 ∧ B.length ≤ 100 ∧ OkB n B from ⟨by omega, by omega, p.ok⟩))))) (by omega) (fun _ _ => nl_dep _) fun d hd u H1 e1 hu =>
    ⟨_, tgt_name, rfl, ed_callX (ea_cons (ed_var rfl (h1.ex e1)) (ea2 (ed_var rfl (h2.ex e1)) (ed_var rfl hu))) fun vs H2 e2 hv Q' q' => by
      obtain ⟨x, y, z, rfl, hx, hy, hz⟩ := dpAll3 hv
      exact ⟨x, y, z, n, B, d, rfl, hx, hy, hz, n1, by omega, p.ok, by omega, sgB_ok p.ok d hd, fun v H3 e3 hv => q' v H3 e3 hv⟩⟩) fun f H1 hf e1 hlf => ?_
  refine q_set (K := K) ed_n0 fun vi H2 e2 hvi => ?_
  have hlf0 : Lst K H1 f (((sgB B).map (NS.lessened B)).map depD) := by rw [List.map_map]; exact hlf
  refine q_while (fun m σ' H' => ∃ (pre rest : Book) (f : Addr) (x3 : V) (s4 s5 : Option V), σ' = [some v1, some v2, some (.ref f), some x3, s4, s5] ∧ Ex H H' ∧ Dp K H' x3 (nI pre.length) ∧ Lst K H' f ((pre ++ rest).map depD) ∧ minim pre rest = NS.cover B ∧ OkB n (pre ++ rest) ∧ (pre ++ rest).length ≤ 20 ∧ m = rest.length)
    (m := _) ⟨[], (sgB B).map (NS.lessened B), f, vi, _, _, rfl, e1.trans e2, hvi, hlf0.ex e2, by rw [sgB_single]; rfl, (fun d hd => by
      obtain ⟨d0, h0, rfl⟩ := List.mem_map.mp hd
      exact less_ok (sgB_ok p.ok d0 h0)), (by simp; omega), rfl⟩ ?_
  rintro m σ1 H3 ⟨pre, rest, f, x3, s4, s5, rfl, e3, hx3, hl3, hmin, hok, hlen, rfl⟩
  refine ⟨_, et_test (ed_is (ed_lt (K := K) (ed_var rfl hx3) (ed_lenL (ed_var rfl hl3.dp))) rfl), fun hb H4 e4 N hN => ?_, fun hb H4 e4 => ?_⟩
  · rw [List.length_map, List.length_append] at hb
    cases rest with
    | nil => simp at hb
    | cons d ds =>
      have hl4 := hl3.ex e4
      have hx4 := hx3.ex e4
      have hpd : (pre ++ d :: ds).length = pre.length + ds.length + 1 := by simp; omega
      have hd0 : (pre ++ d :: ds)[pre.length]? = some d := by simp
      have t1 : ((pre ++ d :: ds).map depD).take pre.length = pre.map depD := by rw [← List.map_take]; simp
      have t2 : ((pre ++ d :: ds).map depD).drop (pre.length + 1) = ds.map depD := by rw [← List.map_drop]; simp
      refine q_setL (K := K) (en_add (EvN.toL (en_is (en_toL (ed_var rfl hl4.dp) (ed_var rfl hx4)) t1)) (EvN.toL (en_is (en_fromL (ed_var rfl hl4.dp) (ed_addN (ed_var rfl hx4) ed_n1)) t2)) (by rw [List.length_map, List.length_map]; omega)) fun o H5 ho e5 hlo => ?_
      rw [← List.map_append] at hlo
      have hl5 := hl4.ex e5
      have hok' : OkB n (pre ++ ds) := fun e he => hok e (by
        rcases List.mem_append.mp he with h | h
        · exact List.mem_append_left _ h
        · exact List.mem_append_right _ (List.mem_cons_of_mem _ h))
      have okd := hok d (List.mem_append_right _ (List.mem_cons_self ..))
      have e35 := (e3.trans e4).trans e5
      have hmin' : minim pre (d :: ds) = if fol (pre ++ ds) d.l d.r then minim pre ds else minim (pre ++ [d]) ds := rfl
      refine s_if (b := fol (pre ++ ds) d.l d.r) (et_B (x_follows (K := K) (ed_var rfl (h1.ex e35)) (ed_tupL (ed_var rfl hlo.dp)) (ed_ixL (n := pre.length) (ed_var rfl hl5.dp) (ed_var rfl (hx4.ex e5)) (by rw [List.getElem?_map, hd0]; rfl)) n1 (by omega) hok' (by rw [List.length_append]; omega) okd.l okd.r)) (fun hb' H6 e6 => ?_) (fun hb' H6 e6 => ?_)
      · refine ⟨_, rfl, hN ds.length _ _ (by simp) ⟨pre, ds, o, x3, _, _, rfl, e35.trans e6, (hx4.ex e5).ex e6, hlo.ex e6, ?_, hok', by rw [List.length_append]; omega, rfl⟩⟩
        rw [← hmin, hmin', if_pos hb']
      · have hx6 := (hx4.ex e5).ex e6
        rw [hx6.int_inv]
        refine ⟨_, rfl, pre.length, 1, rfl, rfl, hN ds.length _ _ (by simp) ⟨pre ++ [d], ds, f, _, _, _, rfl, e35.trans e6, ?_, ?_, ?_, ?_, ?_, rfl⟩⟩
        · have : nI (pre ++ [d]).length = .int ((pre.length : Int) + 1) := by unfold nI; simp
          rw [this]
          exact .int _
        · rw [List.append_assoc]
          exact hl5.ex e6
        · rw [← hmin, hmin', if_neg (by rw [hb']; simp)]
        · rw [List.append_assoc]; exact hok
        · rw [List.append_assoc]; exact hlen
  · rw [List.length_map, List.length_append] at hb
    cases rest with
    | nil =>
      rw [List.append_nil] at hl3
      have hmin : pre = NS.cover B := hmin
      rw [hmin] at hl3
      exact s_ret (ed_tupL (ed_var rfl (hl3.ex e4).dp)) fun v H5 e5 hv => q v H5 ((e3.trans e4).trans e5) hv
    | cons d ds => simp at hb; omega
end
end NS
set_option Elab.async false
set_option linter.all false
set_option maxRecDepth 100000
set_option maxHeartbeats 4000000
namespace NS
open PySem PySem.Spec PyProof.Rows L2
open Evl (Ex)
/-! ### the told synthesis, plain -/
def dLs (acc : List (List Nat)) (d : Dep) : List (List Nat) := if d.l ∈ acc then acc else acc ++ [d.l]
def dL (C : Book) : List (List Nat) := C.foldl dLs []
theorem dL_snoc (C : Book) (d : Dep) : dL (C ++ [d]) = dLs (dL C) d := by unfold dL; rw [List.foldl_append]; rfl
theorem dL_len : ∀ (C : Book), (dL C).length ≤ C.length := by
  have : ∀ (C : Book) (acc : List (List Nat)), (C.foldl dLs acc).length ≤ acc.length + C.length := by
    intro C
    induction C with
    | nil => intro acc; exact Nat.le_refl _
    | cons d C ih =>
      intro acc
      have h := ih (dLs acc d)
      have h2 : (dLs acc d).length ≤ acc.length + 1 := by
        unfold dLs
        by_cases e : d.l ∈ acc
        · rw [if_pos e]; omega
        · rw [if_neg e, List.length_append]; simp
      rw [List.foldl_cons, List.length_cons]
      omega
  intro C
  have h := this C []
  rw [List.length_nil, Nat.zero_add] at h
  exact h
theorem mem_dL : ∀ (C : Book) (l : List Nat), l ∈ dL C ↔ ∃ d ∈ C, d.l = l := by
  have : ∀ (C : Book) (acc : List (List Nat)) (l : List Nat), l ∈ C.foldl dLs acc ↔ l ∈ acc ∨ ∃ d ∈ C, d.l = l := by
    intro C
    induction C with
    | nil => intro acc l; simp
    | cons d C ih =>
      intro acc l
      rw [List.foldl_cons, ih]
      have h : l ∈ dLs acc d ↔ l ∈ acc ∨ d.l = l := by
        unfold dLs
        by_cases e : d.l ∈ acc
        · rw [if_pos e]
          exact ⟨.inl, fun q => q.elim id fun q => q ▸ e⟩
        · rw [if_neg e, List.mem_append, List.mem_singleton]
          exact ⟨fun q => q.elim .inl fun q => .inr q.symm, fun q => q.elim .inl fun q => .inr q.symm⟩
      rw [h]
      constructor
      · rintro ((q | q) | ⟨e, he, q⟩)
        · exact .inl q
        · exact .inr ⟨d, List.mem_cons_self .., q⟩
        · exact .inr ⟨e, List.mem_cons_of_mem _ he, q⟩
      · rintro (q | ⟨e, he, q⟩)
        · exact .inl (.inl q)
        · rcases List.mem_cons.mp he with rfl | he
          · exact .inl (.inr q)
          · exact .inr ⟨e, he, q⟩
  intro C l
  have h := this C [] l
  rw [show dL C = C.foldl dLs [] from rfl, h]
  simp
/-- the set of a left side -/
def sett (C : Book) (l : List Nat) : List Nat := (C.filter fun e => decide (e.l = l)).map fun e => e.r.headD 0
def sset (n : Nat) (C : Book) (l : List Nat) : List Nat := norm n (l ++ sett C l)
def sy0 (n : Nat) (C : Book) : List (List Nat) := (dL C).map (sset n C)
noncomputable def kOne (B : Book) (n : Nat) : List Nat := ((soS n).find? (fullB B n)).getD []
noncomputable def sy1 (B : Book) (n : Nat) (C : Book) : List (List Nat) := sy0 n C ++ (if (sy0 n C).any (fullB B n) = true then [] else [kOne B n])
noncomputable def syn (B : Book) (n : Nat) : List (List Nat) := wi (sy1 B n (NS.cover B))
theorem full_range {B : Book} {n : Nat} {s : List Nat} : fullB B n s = decide (clos B n s = List.range n) := by
  unfold fullB
  have h1 := clos_full (B := B) (n := n) (X := s)
  have h2 := clos_range (B := B) (n := n) (X := s)
  by_cases h : (clos B n s).length = n
  · rw [decide_eq_true h, decide_eq_true (h2.mpr (h1.mp h))]
  · rw [decide_eq_false h, decide_eq_false fun q => h (h1.mpr (h2.mp q))]
theorem find_full {B : Book} {n : Nat} : ∃ k, (soS n).find? (fullB B n) = some k ∧ kOne B n = k ∧ k ∈ soS n ∧ fullB B n k = true := by
  have hf : fullB B n (List.range n) = true := decide_eq_true (clos_full.mpr fun c hc => .base (List.mem_range.mpr hc))
  cases h : (soS n).find? (fullB B n) with
  | none =>
    have := List.find?_eq_none.mp h _ (soS_full n)
    exact absurd hf this
  | some k =>
    refine ⟨k, rfl, ?_, List.mem_of_find?_eq_some h, List.find?_some h⟩
    unfold kOne
    rw [h]
    rfl
theorem kOne_sub {B : Book} {n : Nat} : (kOne B n).Sublist (List.range n) := by
  obtain ⟨k, _, e, hk, _⟩ := find_full (B := B) (n := n)
  rw [e]
  exact soS_sub hk
theorem sett_mem {C : Book} {l : List Nat} {n : Nat} (ok : OkB n C) (one : ∀ e ∈ C, ∃ c, e.r = [c]) {c : Nat} (h : c ∈ sett C l) : c < n := by
  obtain ⟨e, he, rfl⟩ := List.mem_map.mp h
  have hC := (List.mem_filter.mp he).1
  obtain ⟨c, hc⟩ := one e hC
  rw [hc]
  exact sub_lt (ok e hC).r (by rw [hc]; exact List.mem_cons_self ..)
section
variable {P : Program} {w : World} {K : Fg} {mg : Str → Option Value} {base : Heap}
/-! ### functional.synthesis -/
theorem sc_synthesis : FnScope ["scheme", "book", "columns", "found", "sets", "lefts", "_", "left", "settled", "other", "right", "one"] ["scheme", "book"] (defScope s_synthesis) := ⟨rfl, rfl, rfl, by decide +kernel, rfl, by decide +kernel, by decide +kernel⟩
noncomputable def spSyn (K : Fg) : Sp := spF (α := Nat × Book) K (fun a => [cols [a.1], .tuple (a.2.map depD)]) (fun a => SyP a.1 a.2) (fun a => .tuple ((syn a.2 a.1).map cols))
theorem ep_keys {σ : L2.St} {H : Hp} {t : TA} {E : XK} {n : Nat} {B : Book} (h : EvA K t σ H [cols [n], .tuple (B.map depD), .int 0]) (n1 : 1 ≤ n) (n2 : n ≤ 5) (ok : OkB n B) (hb : B.length ≤ 100) :
    EvP (tCall (spKeys K) [] E t) σ H fun H v => ∃ ks : List (List Nat), Dp K H v (.tuple (ks.map cols)) ∧ ks.head? = (soS n).find? (fullB B n) := fun H1 e Q q => h H1 e _ fun vs H2 e2 hvs => by
  obtain ⟨z1, z2, z3, rfl, f1, f2, f3⟩ := dpAll3 hvs
  exact ⟨z1, z2, n, B, by rw [f3.int_inv]; rfl, f1, f2, n1, n2, ok, hb, fun v ks H3 e3 hv hh => q v H3 (e2.trans e3) ⟨ks, hv, hh⟩⟩
theorem ed_keys0 {σ : L2.St} {H : Hp} {t : TA} {E : XK} {n : Nat} {B : Book} (h : EvA K t σ H [cols [n], .tuple (B.map depD), .int 0]) (n1 : 1 ≤ n) (n2 : n ≤ 5) (ok : OkB n B) (hb : B.length ≤ 100) :
    EvD K (tOp (rIx K) (tCall (spKeys K) [] E t) (tC (.int 0))) σ H (cols (kOne B n)) := fun H1 e Q q => ep_keys h n1 n2 ok hb H1 e _ fun v H2 e2 ⟨ks, hv, hh⟩ => by
  obtain ⟨k, hk1, hk2, hk3, hk4⟩ := find_full (B := B) (n := n)
  have hget : (ks.map cols)[0]? = some (cols (kOne B n)) := by
    rw [hk1] at hh
    cases ks with
    | nil => cases hh
    | cons k0 kr => cases hh; rw [hk2]; rfl
  obtain ⟨p, xs, rfl, hp, hxs⟩ := hv.tuple_inv
  obtain ⟨u, hu, hdu⟩ := hxs.get' hget
  exact .inr (.inl ⟨p, xs, 0, u, rfl, rfl, hp, atI_nat hu, q _ H2 e2 hdu⟩)
theorem wiN_mem {S : List (List Nat)} {n : Nat} (h : n ≤ S.length) {s : List Nat} (hs : s ∈ wiN S n) : s ∈ S := by
  obtain ⟨i, hi, rfl⟩ := List.mem_map.mp hs
  have hi' : i < n := List.mem_range.mp (List.mem_filter.mp hi).1
  rw [getD_of (by omega)]
  exact List.getElem_mem _
theorem ok_synthesis (T : Txt K mg) : Good P w K mg base 12 "synthesis" ["scheme", "book"] (spSyn K) := by
  refine good_of (q := "synthesis") (st := s_synthesis) (N := ["scheme", "book", "columns", "found", "sets", "lefts", "_", "left", "settled", "other", "right", "one"]) T.g_synthesis (T.def_ 24) sc_synthesis (fun _ _ _ _ _ _ us hl => match us, hl with | [_, _], _ => rfl) (len_spF fun _ => rfl) fun cdv A outer s H vs Q E hr h =>
    ⟨_, (pss_cons (ps_set (i := 2) sc_synthesis.nd rfl (by first | exact Or.inl rfl | exact Or.inr rfl) (pe_tupRg rfl rfl T.tuple0 (prg_1 rfl T.range0 (pe_ix (kIx (K := K) rfl) (pv 0) pe_int (fun _ _ => rfl)))))
        (pss_cons (ps_set (i := 3) sc_synthesis.nd rfl (by first | exact Or.inl rfl | exact Or.inr rfl) (pe_callG (ok_cover (P := P) (w := w) (base := base) T) (hr.mono (by decide)) rfl (pa_cons (pv 0) (pa_cons (pv 1) pa_nil))))
        (pss_cons (ps_set (i := 4) sc_synthesis.nd rfl (by first | exact Or.inl rfl | exact Or.inr rfl) (pe_lst pa_nil))
        (pss_cons (ps_set (i := 5) sc_synthesis.nd rfl (by first | exact Or.inl rfl | exact Or.inr rfl) (pe_lst pa_nil))
        (pss_cons (ps_for PassesOwn.never rfl (kSq (K := K) rfl (pv 3)) (kTg (K := K) (n := 4) rfl rfl (pgs_cons (pg_name (i := 6) sc_synthesis.nd rfl (by first | exact Or.inl rfl | exact Or.inr rfl)) (pgs_cons (pg_name (i := 6) sc_synthesis.nd rfl (by first | exact Or.inl rfl | exact Or.inr rfl)) (pgs_cons (pg_name (i := 7) sc_synthesis.nd rfl (by first | exact Or.inl rfl | exact Or.inr rfl)) (pgs_cons (pg_name (i := 6) sc_synthesis.nd rfl (by first | exact Or.inl rfl | exact Or.inr rfl)) pgs_nil))))) (pss_one (ps_if (pt_cmpR (kNin (K := K) rfl (room65 hr)) (pv 7) (pv 5) (by with_unfolding_all rfl)) (pss_cons (ps_expr (kBm (K := K) rfl PySem.F.plainAttrs_list PySem.F.slot_list_append PySem.F.type_list_append mt_append (pv 5) (pa_cons (pv 7) pa_nil)))
        (pss_cons (ps_setLc (i := 8) (own := [("_", 6), ("other", 9), ("right", 10)]) (g := gTup K 4 (gCons (gName 6) (gCons (gName 6) (gCons (gName 9) (gCons (gName 10) gNil))))) rfl sc_synthesis.nd rfl rfl (sw_true rfl rfl rfl (by kernel_rfl)) (kSq (K := K) rfl (pv 3)) (blkOk_by (by kernel_rfl)) (fun _ _ _ _ _ => (kTg (K := K) (n := 4) rfl rfl (pgs_cons (pg_name (i := 6) sc_synthesis.nd rfl (by first | exact Or.inl rfl | exact Or.inr rfl)) (pgs_cons (pg_name (i := 6) sc_synthesis.nd rfl (by first | exact Or.inl rfl | exact Or.inr rfl)) (pgs_cons (pg_name (i := 9) sc_synthesis.nd rfl (by first | exact Or.inl rfl | exact Or.inr rfl)) (pgs_cons (pg_name (i := 10) sc_synthesis.nd rfl (by first | exact Or.inl rfl | exact Or.inr rfl)) pgs_nil)))))) (fun _ _ _ _ _ => pts_one (pt_cmpR (kEq (K := K) rfl (room64 hr)) (pv 9) (pv 7) (nomark _))) (fun _ _ _ _ _ => (pe_ix (kIx (K := K) rfl) (pv 10) pe_int (fun _ _ => rfl))))
        (pss_one (ps_expr (kBm (K := K) rfl PySem.F.plainAttrs_list PySem.F.slot_list_append PySem.F.type_list_append mt_append (pv 4) (pa_cons (kTuple (K := K) rfl rfl T.tuple0 (pe_callB (kSortedSet rfl rfl) rfl T.sorted0 PyProof.Rows.boot_sorted (pa_cons (pe_callTy (kSetTI (K := K) rfl rfl rfl) rfl T.set0 PyProof.Rows.boot_set (pa_cons (pe_op (kPlus (K := K) rfl) (pv 7) (kTuple (K := K) rfl rfl T.tuple0 (pv 8))) pa_nil)) pa_nil))) pa_nil)))))) pss_nil)))
        (pss_cons (ps_if (pt_not (pt_val (pe_callB (kAny (K := K) rfl rfl) rfl T.any0 PyProof.Rows.boot_any (pa_cons (pe_lc (own := [("one", 11)]) (g := gName 11) rfl sc_synthesis.nd (kSq (K := K) rfl (pv 4)) (blkOk_by (by kernel_rfl)) (fun _ _ _ _ _ => (pg_name (i := 11) sc_synthesis.nd rfl (by first | exact Or.inl rfl | exact Or.inr rfl))) (fun _ _ _ _ _ => pts_nil) (fun _ _ _ _ _ => (pe_cmpR (kEq (K := K) rfl (room64 hr)) (pe_callG (ok_closure (P := P) (w := w) (base := base) T) (hr.mono (by decide)) rfl (pa_cons (pv 0) (pa_cons (pv 1) (pa_cons pe_int (pa_cons (pv 11) pa_nil))))) (pv 2) (nomark _)))) pa_nil)))) (pss_one (ps_expr (kBm (K := K) rfl PySem.F.plainAttrs_list PySem.F.slot_list_append PySem.F.type_list_append mt_append (pv 4) (pa_cons (pe_ix (kIx (K := K) rfl) (pe_callG (ok_keys (P := P) (w := w) (base := base) T) (hr.mono (by decide)) rfl (pa_cons (pv 0) (pa_cons (pv 1) (pa_cons pe_int pa_nil)))) pe_int (fun _ _ => rfl)) pa_nil)))) pss_nil)
        (pss_one (ps_ret (pe_callG (ok_without_inner (P := P) (w := w) (base := base) T) (hr.mono (by decide)) rfl (pa_cons (pv 4) pa_nil)))))))))), ?_⟩
  obtain ⟨⟨n, B⟩, hv, p, q⟩ := h
  obtain ⟨v1, v2, rfl, h1, h2⟩ := dpAll2 hv
  have p : SyP n B := p
  have n2 := p.n2
  have n1 := p.n1
  have bl := p.bl
  have okC := cover_ok p.ok
  have oneC : ∀ e ∈ NS.cover B, ∃ c, e.r = [c] := fun e he => cover_one he
  have hnB : n * B.length ≤ 5 * 4 := Nat.mul_le_mul n2 bl
  have lenC := cover_len p.ok
  refine q_set (K := K) (ed_tupRg (n := n) (ed_ixT (n := 0) (ed_var rfl h1) ed_i rfl) (by omega)) fun vc H1 e1 hc => ?_
  refine q_set (K := K) (ed_call (n, B) (ea2 (ed_var rfl (h1.ex e1)) (ed_var rfl (h2.ex e1))) p) fun vf H2 e2 hf => ?_
  refine q_setL (K := K) (en_lst ea_nil (by simp)) fun ps H3 hps e3 hl3 => ?_
  refine q_setL (K := K) (en_lst ea_nil (by simp)) fun pl H4 hpl e4 hl4 => ?_
  have e02 := e1.trans e2
  have e04 := (e02.trans e3).trans e4
  have npp : ps ≠ pl := fun e => by obtain ⟨u, hu⟩ := hl3.at; rw [e, hpl] at hu; cases hu
  have hs4 := hl3.ex e4
  have hf4 := (hf.ex e3).ex e4
  have hc4 := ((hc.ex e2).ex e3).ex e4
  have tr4 : Trk H4 [ps, pl] := hs4.trkC hl4.trk
  have hpsn : H ps = none := Evl.fresh_back e02 hps
  have hpln : H pl = none := Evl.fresh_back (e02.trans e3) hpl
  refine q_for (K := K) (M := [ps, pl]) (as := NS.cover B) (enc := depD) (es_tupX (ed_var rfl hf4) tr4 (nl_all nl_dep _))
    (fun i σ' H' => ∃ (s6 s7 s8 s9 s10 s11 : Option V), σ' = [some v1, some v2, some vc, some vf, some (.ref ps), some (.ref pl), s6, s7, s8, s9, s10, s11] ∧ Lst K H' ps (((dL ((NS.cover B).take i)).map (sset n (NS.cover B))).map cols) ∧ Lst K H' pl ((dL ((NS.cover B).take i)).map cols))
    ⟨_, _, _, _, _, _, rfl, hs4, hl4⟩ (fun _ _ _ _ h e => let ⟨s6, s7, s8, s9, s10, s11, h1, h2, h3⟩ := h; ⟨s6, s7, s8, s9, s10, s11, h1, h2.ex e, h3.ex e⟩) ?_ ?_
  · rintro i d x σ1 H5 hd ⟨s6, s7, s8, s9, s10, s11, rfl, hls, hll⟩ e5 hx
    have hdC := List.mem_of_getElem? hd
    have okd := okC d hdC
    obtain ⟨y1, y2, y3, y4, g1, g2, g3, g4, tg⟩ := tgt_quad (K := K) (i := 6) (j := 6) (k := 7) (l := 6) (σ0 := [some v1, some v2, some vc, some vf, some (.ref ps), some (.ref pl), s6, s7, s8, s9, s10, s11]) hx
    refine ⟨_, tg, fun H6 e6 N hN => ?_⟩
    have hls6 := hls.ex e6
    have hll6 := hll.ex e6
    have g36 := g3.ex e6
    have hf6 := (hf4.keep tr4.muts e5 (nl_all nl_dep _)).ex e6
    have hdl : (dL ((NS.cover B).take i)).length ≤ 20 := by
      have h1 := dL_len ((NS.cover B).take i)
      rw [List.length_take] at h1
      omega
    refine s_when (et_test (ed_is (ed_niL (ed_var rfl g36) (ed_var rfl hll6.dp) (sh_cols _) (sh_setsL _)) (by rw [any_sets]))) (fun hb H7 e7 => ?_) (fun hb H7 e7 => ?_)
    · have hnin : d.l ∉ dL ((NS.cover B).take i) := by simpa using hb
      have hll7 := hll6.ex e7
      refine q_app rfl hll7 (nl_all nl_cols _) (nl_cols d.l) (by rw [List.length_map]; omega) (ed_var rfl (g36.ex e7)) fun H8 e8 hll8 => ?_
      have hls8 : Lst K H8 ps (((dL ((NS.cover B).take i)).map (sset n (NS.cover B))).map cols) := (hls6.ex e7).keep hll7.mut e8 (by simpa using npp) (nl_all nl_cols _)
      have g38 := (g36.ex e7).keep hll7.mut e8 (nl_cols _)
      have hf8 := (hf6.ex e7).keep hll7.mut e8 (nl_all nl_dep _)
      refine q_setL (K := K) (en_lcF (K := K) (as := NS.cover B) (enc := depD) (fun e => decide (e.l = d.l)) (fun e => nI (e.r.headD 0)) (es_sqT (ed_var rfl hf8)) (by omega) (fun _ _ => rfl) fun e he u H9 e9 hu => ?_) fun pe H9 hpe e9 hle => ?_
      · obtain ⟨z1, z2, z3, z4, f1, f2, f3, f4, tg2⟩ := tgt_quad (K := K) (i := 6) (j := 6) (k := 9) (l := 10) (σ0 := wipe [some v1, some v2, some vc, some vf, some (.ref ps), some (.ref pl), some y4, some y3, s8, s9, s10, s11] [6, 9, 10]) hu
        obtain ⟨c, hc⟩ := oneC e he
        exact ⟨_, tg2, rfl, et_test (ed_eqC (ed_var rfl f3) (ed_var rfl (g38.ex e9))), fun _ => ed_ixT (n := 0) (ed_var rfl f4) ed_i (by rw [hc]; rfl)⟩
      · have hle' : Lst K H9 pe ((sett (NS.cover B) d.l).map nI) := by unfold sett; rw [List.map_map]; exact hle
        have hstl : (sett (NS.cover B) d.l).length ≤ 20 := by
          unfold sett
          rw [List.length_map]
          have := List.length_filter_le (fun e => decide (e.l = d.l)) (NS.cover B)
          omega
        have hdll := sub_len okd.l
        refine s_app rfl (hls8.ex e9) (nl_all nl_cols _) (nl_cols (sset n (NS.cover B) d.l)) (by rw [List.length_map, List.length_map]; omega)
          (ed_tupC' (en_sortSet (n := n) (cs := d.l ++ sett (NS.cover B) d.l) (ed_is (ed_addT (ed_var rfl (g38.ex e9)) (ed_tupL (ed_var rfl hle'.dp)) (by rw [List.length_map, List.length_map]; omega)) (by unfold cols; rw [List.map_append])) (fun c hc => ?_) (by rw [List.length_append]; omega))) fun H10 e10 hls10 => hN _ _ ⟨_, _, _, _, _, _, rfl, ?_, ?_⟩ ?_
        · rcases List.mem_append.mp hc with h | h
          · exact sub_lt okd.l h
          · exact sett_mem okC oneC h
        · rw [take_snoc hd, dL_snoc]
          unfold dLs
          rw [if_neg hnin, List.map_append, List.map_append]
          exact hls10
        · rw [take_snoc hd, dL_snoc]
          unfold dLs
          rw [if_neg hnin, List.map_append]
          exact (hll8.ex e9).keep (hls8.ex e9).mut e10 (by simpa using npp.symm) (nlAll_append.trans (by rw [nl_all nl_cols]; simp [nlAll, nl_cols]))
        · exact (((ExB.of e7).trans (e8.mono (by simp))).then e9).trans (e10.mono (by simp))
    · have hin : d.l ∈ dL ((NS.cover B).take i) := by simpa using hb
      refine hN _ _ ⟨_, _, _, _, _, _, rfl, ?_, ?_⟩ (.of e7)
      · rw [take_snoc hd, dL_snoc]; unfold dLs; rw [if_pos hin]; exact hls6.ex e7
      · rw [take_snoc hd, dL_snoc]; unfold dLs; rw [if_pos hin]; exact hll6.ex e7
  · rintro σ1 H5 ⟨s6, s7, s8, s9, s10, s11, rfl, hls, hll⟩ e5
    rw [List.take_length] at hls
    have hls : Lst K H5 ps ((sy0 n (NS.cover B)).map cols) := hls
    have h15 := (h1.ex e04).keep tr4.muts e5 (nl_cols _)
    have h25 := (h2.ex e04).keep tr4.muts e5 (nl_all nl_dep B)
    have hc5 := hc4.keep tr4.muts e5 (nl_cols _)
    have hsub : ∀ s ∈ sy0 n (NS.cover B), s.Sublist (List.range n) := fun s hs => by
      obtain ⟨l, _, rfl⟩ := List.mem_map.mp hs
      exact norm_sub _ _
    have hsl : (sy0 n (NS.cover B)).length ≤ 20 := by
      unfold sy0
      rw [List.length_map]
      have := dL_len (NS.cover B)
      omega
    have eH5 : Ex H H5 := by
      have x : ExB [ps, pl] H H5 := (ExB.of e04).trans e5
      exact ((x.drop hpsn).drop hpln).nil
    refine q_whenX (fun σ' H' => ∃ s11, σ' = [some v1, some v2, some vc, some vf, some (.ref ps), some (.ref pl), s6, s7, s8, s9, s10, s11] ∧ ExB [ps] H5 H' ∧ Lst K H' ps ((sy1 B n (NS.cover B)).map cols)) (b := !((sy0 n (NS.cover B)).any (fullB B n)))
      (Evl.et_not (et_B (ed_is (ed_any (K := K) (bs := (sy0 n (NS.cover B)).map (fullB B n)) (ed_is (EvN.toD (en_lcM (as := sy0 n (NS.cover B)) (enc := cols) (fun s => .bool (fullB B n s)) (es_sqL (ed_var rfl hls.dp)) (by omega) (fun _ _ => rfl) fun s hs u H6 e6 hu =>
        ⟨_, tgt_name, rfl, ed_is (ed_eqC (ed_call (n, B, s) (ea_cons (ed_var rfl (h15.ex e6)) (ea_cons (ed_var rfl (h25.ex e6)) (ea2 (ed_i (i := 0)) (ed_var rfl hu)))) ⟨n1, by omega, p.ok, Nat.le_trans bl (by decide), fun x hx => sub_lt (hsub s hs) hx, Nat.le_trans (sub_len (hsub s hs)) (by omega)⟩) (ed_var rfl (hc5.ex e6))) (by rw [full_range])⟩)) (by rw [List.map_map]; rfl))) (by rw [List.any_map]; rfl))))
      (fun hb H6 e6 N hN => ?_) (fun hb H6 e6 => ?_) ?_
    · obtain ⟨k, hk1, hk2, hk3, hk4⟩ := find_full (B := B) (n := n)
      refine s_app (d := cols (kOne B n)) rfl (hls.ex e6) (nl_all nl_cols _) (nl_cols _) (by rw [List.length_map]; omega) (fun H7 e7 Q' q' => ?_) fun H7 e7 hl7 => hN _ _ ⟨_, rfl, (ExB.of e6).trans e7, ?_⟩
      · have e57 := e6.trans e7
        exact ed_keys0 (K := K) (n := n) (B := B) (σ := [some v1, some v2, some vc, some vf, some (.ref ps), some (.ref pl), s6, s7, s8, s9, s10, s11]) (ea_cons (ed_var (i := 0) rfl (h15.ex e57)) (ea2 (ed_var (i := 1) rfl (h25.ex e57)) (ed_i (i := 0)))) n1 n2 p.ok (by omega) H7 (Ex.refl H7) Q' q'
      · have : sy1 B n (NS.cover B) = sy0 n (NS.cover B) ++ [kOne B n] := by unfold sy1; rw [if_neg (by simpa using hb)]
        rw [this, List.map_append]
        exact hl7
    · refine ⟨_, rfl, .of e6, ?_⟩
      have : sy1 B n (NS.cover B) = sy0 n (NS.cover B) := by
        unfold sy1
        rw [if_pos (by simpa using hb), List.append_nil]
      rw [this]
      exact hls.ex e6
    · rintro σ2 H6 ⟨s11, rfl, e6, hl6⟩
      have hs1 : ∀ s ∈ sy1 B n (NS.cover B), s.Sublist (List.range n) := fun s hs => by
        unfold sy1 at hs
        rcases List.mem_append.mp hs with h | h
        · exact hsub s h
        · by_cases e : (sy0 n (NS.cover B)).any (fullB B n) = true
          · rw [if_pos e] at h; cases h
          · rw [if_neg e] at h
            rw [List.mem_singleton.mp h]
            exact kOne_sub
      have hl1 : (sy1 B n (NS.cover B)).length ≤ 21 := by
        unfold sy1
        rw [List.length_append]
        by_cases e : (sy0 n (NS.cover B)).any (fullB B n) = true
        · rw [if_pos e]; simp; omega
        · rw [if_neg e]; simp; omega
      refine ⟨_, rfl, sy1 B n (NS.cover B), ps, rfl, hl6, by omega, fun s hs => Nat.le_trans (sub_len (hs1 s hs)) (by omega), fun v H7 e7 hv => q v H7 ?_ hv⟩
      have x : ExB [ps] H H6 := (ExB.of eH5).trans e6
      exact (x.drop hpsn).nil.trans e7
end
end NS
set_option Elab.async false
set_option linter.all false
set_option maxRecDepth 100000
set_option maxHeartbeats 4000000
namespace NS
open PySem PySem.Spec PyProof.Rows L2
open Evl (Ex)
section
variable {P : Program} {w : World} {K : Fg} {mg : Str → Option Value} {base : Heap}
/-! ### rows.projected -/
theorem sc_projected : FnScope ["rows", "columns", "row"] ["rows", "columns"] (defScope s_projected) := ⟨rfl, rfl, rfl, by decide +kernel, rfl, by decide +kernel, by decide +kernel⟩
def spProj (K : Fg) : Sp := fun vs H Q _ => ∃ (v1 v2 : V) (rows : List (List Int)) (cs : List Nat), vs = [v1, v2] ∧ Dp K H v1 (.tuple (rows.map rowD)) ∧ Dp K H v2 (cols cs) ∧ rows.length < 64 ∧ cs ≠ [] ∧ cs.length ≤ 100 ∧ (∀ r ∈ rows, ∀ c ∈ cs, c < r.length) ∧
  ∀ v H', Ex H H' → TupR H' v (rows.map fun r => pk r cs) → Q v H'
theorem ok_projected (T : Txt K mg) : Good P w K mg base 2 "projected" ["rows", "columns"] (spProj K) := by
  refine good_of (q := "projected") (st := s_projected) (N := ["rows", "columns", "row"]) T.g_projected (T.def_ 1) sc_projected (fun _ _ _ _ _ _ us hl => match us, hl with | [_, _], _ => rfl) (fun vs H Q E h => by obtain ⟨_, _, _, _, rfl, _⟩ := h; rfl) fun cdv A outer s H vs Q E hr h =>
    ⟨_, (pss_one (ps_ret (kTuple (K := K) rfl rfl T.tuple0 (pe_callB (kSrtS rfl rfl rfl (room64 hr)) rfl T.sorted0 PyProof.Rows.boot_sorted (pa_cons (pe_callTy (kSetT (K := K) rfl rfl rfl rfl (room64 hr)) rfl T.set0 PyProof.Rows.boot_set (pa_cons (pe_lc (own := [("row", 2)]) (g := gName 2) rfl sc_projected.nd (kSq (K := K) rfl (pv 0)) (blkOk_by (by kernel_rfl)) (fun _ _ _ _ _ => (pg_name (i := 2) sc_projected.nd rfl (by first | exact Or.inl rfl | exact Or.inr rfl))) (fun _ _ _ _ _ => pts_nil) (fun _ _ _ _ _ => (pe_callG (ok_picked (P := P) (w := w) (base := base) T) (hr.mono (by decide)) rfl (pa_cons (pv 2) (pa_cons (pv 1) pa_nil))))) pa_nil)) pa_nil))))), ?_⟩
  obtain ⟨v1, v2, rows, cs, rfl, h1, h2, hz, hne, hcl, hlt, q⟩ := h
  refine s_retP (Pr := fun H x => TupR H x (rows.map fun r => pk r cs)) (ep_setsort (K := K) (P := P) (w := w) (fun H1 e1 Q' q' => ?_) (by rw [List.length_map]; exact hz) fun r hr e => ?_) fun v H1 e1 hv => q v H1 e1 hv
  · refine x_lcRelD (K := K) (bs := rows) (enc := rowD) (σ := [some v1, some v2, none]) (fun r H x => Tr H x (pk r cs)) (fun _ _ _ _ e h => h.ex e) (fun _ _ _ _ _ _ hp h => tr_keepU hp h) (es_sqT (ed_var (i := 0) rfl (h1.ex e1))) (by omega) (fun r hr x H2 e2 hx =>
      ⟨_, tgt_name, rfl, er_picked (K := K) (ea2 (ed_var rfl hx) (ed_var rfl ((h2.ex e1).ex e2))) (by omega) (hlt r hr)⟩) fun p ws H2 hp e2 hpw hpr => ?_
    obtain ⟨L, rfl, hR, hL⟩ := paired_rt hpr
    exact q' _ H2 e2 ⟨p, L, rfl, hpw, hR, hL⟩
  · obtain ⟨r0, _, rfl⟩ := List.mem_map.mp hr
    have := congrArg List.length e
    unfold pk at this
    rw [List.length_map] at this
    exact hne (List.length_eq_zero_iff.mp this)
/-! ### rows.extended -/
theorem sc_extended : FnScope ["found", "rows", "part", "longer", "values", "row", "more", "column", "value"] ["found", "rows", "part"] (defScope s_extended) := ⟨rfl, rfl, rfl, by decide +kernel, rfl, by decide +kernel, by decide +kernel⟩
/-- a dict that holds the columns D of f -/
def En (H : Hp) (D : List Nat) (k : Nat) (q : Addr × List Int) : Prop := ∃ kvs : List (L2.Key × V), H q.1 = some (.dK kvs) ∧ kvs.length ≤ k ∧ ∀ c : Nat, valV kvs (.inl (c : Int)) = if c ∈ D then some (.int (q.2.getD c 0)) else none
theorem En.ex {H H' : Hp} {D : List Nat} {k : Nat} {q : Addr × List Int} (h : En H D k q) (e : Ex H H') : En H' D k q := let ⟨kvs, h1, h2⟩ := h; ⟨kvs, e _ _ h1, h2⟩
theorem En.keep {H H' : Hp} {D : List Nat} {k : Nat} {q : Addr × List Int} {S : List Addr} (h : En H D k q) (e : ExB S H H') (n : q.1 ∉ S) : En H' D k q := let ⟨kvs, h1, h2⟩ := h; ⟨kvs, e _ _ n h1, h2⟩
def putN (f : List Int) (ps : List (Nat × Int)) : List Int := ps.foldl (fun f p => f.set p.1 p.2) f
theorem putN_snoc (f : List Int) (ps : List (Nat × Int)) (p : Nat × Int) : putN f (ps ++ [p]) = (putN f ps).set p.1 p.2 := by unfold putN; rw [List.foldl_append]; rfl
theorem putN_len (f : List Int) : ∀ ps : List (Nat × Int), (putN f ps).length = f.length := by
  intro ps
  induction ps generalizing f with
  | nil => rfl
  | cons p ps ih => show (putN (f.set p.1 p.2) ps).length = _; rw [ih, List.length_set]
theorem getD_set {f : List Int} {c c' : Nat} {v : Int} (h : c < f.length) : (f.set c v).getD c' 0 = if c' = c then v else f.getD c' 0 := by
  by_cases e : c' = c
  · subst e
    rw [if_pos rfl, getD_of (by rw [List.length_set]; exact h), List.getElem_set_self]
  · rw [if_neg e]
    simp only [List.getD_eq_getElem?_getD]
    rw [List.getElem?_set_ne (fun q => e q.symm)]
/-- f with the row's values at the part -/
structure Xt (n : Nat) (D part : List Nat) (f r f' : List Int) : Prop where
  len : f'.length = n
  old : ∀ c ∈ D, f'.getD c 0 = f.getD c 0
  new : ∀ i (h : i < part.length), f'.getD part[i] 0 = r.getD i 0
  out : ∀ c, c ∉ D → c ∉ part → f'.getD c 0 = 0
theorem putN_get {f : List Int} {n : Nat} (hf : f.length = n) : ∀ {part : List Nat} {r : List Int} (l : Nat), part.Nodup → (∀ c ∈ part, c < n) → r.length = part.length → l ≤ part.length →
    (∀ c, c ∉ part.take l → (putN f ((part.zip r).take l)).getD c 0 = f.getD c 0) ∧ ∀ i (h : i < part.length), i < l → (putN f ((part.zip r).take l)).getD part[i] 0 = r.getD i 0
  | part, r, 0, _, _, _, _ => ⟨fun c _ => rfl, fun i _ h => absurd h (Nat.not_lt_zero _)⟩
  | part, r, l + 1, hnd, hlt, hrl, hl => by
    obtain ⟨ih1, ih2⟩ := putN_get hf (part := part) (r := r) l hnd hlt hrl (by omega)
    have hp : part[l]? = some part[l] := List.getElem?_eq_getElem (by omega)
    have hr : r[l]? = some r[l] := List.getElem?_eq_getElem (by omega)
    have hz : (part.zip r)[l]? = some (part[l], r[l]) := List.getElem?_zip_eq_some.mpr ⟨hp, hr⟩
    have hcl : part[l] < (putN f ((part.zip r).take l)).length := by rw [putN_len, hf]; exact hlt _ (List.getElem_mem _)
    refine ⟨fun c hc => ?_, fun i hi hil => ?_⟩
    · have hc1 : c ≠ part[l] := fun e => hc (by rw [e, take_snoc hp]; exact List.mem_append_right _ (List.mem_singleton.mpr rfl))
      have hc2 : c ∉ part.take l := fun h => hc (by rw [take_snoc hp]; exact List.mem_append_left _ h)
      rw [take_snoc hz, putN_snoc, getD_set hcl, if_neg hc1]
      exact ih1 c hc2
    · rw [take_snoc hz, putN_snoc, getD_set hcl]
      by_cases e : i = l
      · subst e
        rw [if_pos rfl, getD_of (by omega)]
      · rw [if_neg fun q => e ((List.getElem_inj hnd).mp q)]
        exact ih2 i hi (by omega)
theorem putN_xt {n : Nat} {D part : List Nat} {f r : List Int} (hf : f.length = n) (hnd : part.Nodup) (hlt : ∀ c ∈ part, c < n) (hrl : r.length = part.length) (h0 : ∀ c, c ∉ D → f.getD c 0 = 0) (hc : ∀ p ∈ part.zip r, (if p.1 ∈ D then f.getD p.1 0 else p.2) = p.2) : Xt n D part f r (putN f (part.zip r)) := by
  obtain ⟨g1, g2⟩ := putN_get hf (r := r) part.length hnd hlt hrl (Nat.le_refl _)
  have ez : (part.zip r).take part.length = part.zip r := List.take_of_length_le (by rw [List.length_zip]; omega)
  rw [ez, List.take_length] at g1
  rw [ez] at g2
  refine ⟨by rw [putN_len, hf], fun c hcD => ?_, fun i hi => g2 i hi hi, fun c h1 h2 => by rw [g1 c h2]; exact h0 c h1⟩
  by_cases hp : c ∈ part
  · obtain ⟨i, hi, rfl⟩ := List.mem_iff_getElem.mp hp
    rw [g2 i hi hi, getD_of (by omega)]
    have hm : (part[i], r[i]'(by omega)) ∈ part.zip r := by
      refine List.mem_of_getElem? (i := i) (List.getElem?_zip_eq_some.mpr ⟨List.getElem?_eq_getElem hi, List.getElem?_eq_getElem (by omega)⟩)
    have := hc _ hm
    simp only [if_pos hcD] at this
    exact this.symm
  · exact g1 c hp
theorem vec_ext {a b : List Int} (hl : a.length = b.length) (h : ∀ c, a.getD c 0 = b.getD c 0) : a = b := by
  refine List.ext_getElem hl fun c h1 h2 => ?_
  have := h c
  rw [getD_of h1, getD_of h2] at this
  exact this
/-- different sources make different rows -/
theorem Xt.inj {n : Nat} {D part : List Nat} {f r f' g s : List Int} (x : Xt n D part f r f') (y : Xt n D part g s f') (hf : f.length = n) (hg : g.length = n) (f0 : ∀ c, c ∉ D → f.getD c 0 = 0) (g0 : ∀ c, c ∉ D → g.getD c 0 = 0) (hr : r.length = part.length) (hs : s.length = part.length) : f = g ∧ r = s := by
  refine ⟨vec_ext (by rw [hf, hg]) fun c => ?_, vec_ext (by rw [hr, hs]) fun i => ?_⟩
  · by_cases h : c ∈ D
    · rw [← x.old c h, y.old c h]
    · rw [f0 c h, g0 c h]
  · by_cases h : i < part.length
    · rw [← x.new i h, y.new i h]
    · rw [List.getD_eq_getElem?_getD, List.getD_eq_getElem?_getD, List.getElem?_eq_none (by omega), List.getElem?_eq_none (by omega)]
theorem zipD_map (part : List Nat) (r : List Int) : zipD (part.map nI) (r.map .int) = (part.zip r).map fun p => .tuple [nI p.1, .int p.2] := by
  unfold zipD
  rw [List.zip_map, List.map_map]
  rfl
section
variable {σ : L2.St} {H H' : Hp} {ta : TA} {ds es : List PyData} {M : List Addr}
theorem es_zipTX (h : EvA K ta σ H [.tuple ds, .tuple es]) (t : Trk H M) (n1 : nlAll ds = true) (n2 : nlAll es = true) : EvS K M (RZ.iZipA K ta) σ H (zipD ds es) := fun H1 e R q => h H1 e _ fun vs H2 e2 hv => by
  obtain ⟨v, w, rfl, hv, hw⟩ := dpAll2 hv
  obtain ⟨a, xs, rfl, ha, hxs⟩ := hv.tuple_inv
  obtain ⟨b, ys, rfl, hb, hys⟩ := hw.tuple_inv
  refine ⟨a, b, xs, ys, rfl, .inr ⟨ha, hb, q _ H2 e2 ?_⟩⟩
  have l1 := hxs.length
  have l2 := hys.length
  have m := (t.ex (e.trans e2)).muts
  refine ⟨fun i H3 hi e3 => ?_, fun H3 e3 => ⟨xs, ys, sqT_keep m e3 ha, sqT_keep m e3 hb, by rw [zipD_len]; omega⟩, fun i H3 x H4 hi e3 y => ?_⟩
  · rw [zipD_len] at hi
    exact ⟨xs, ys, xs[i]'(by omega), ys[i]'(by omega), sqT_keep m e3 ha, sqT_keep m e3 hb, List.getElem?_eq_getElem (by omega), List.getElem?_eq_getElem (by omega)⟩
  · obtain ⟨T, x0, y0, rfl, hT, rfl, hx, hy⟩ := y
    obtain ⟨d, hd, hdx⟩ := hxs.get (hx xs (sqT_keep m e3 ha))
    obtain ⟨d', hd', hdy⟩ := hys.get (hy ys (sqT_keep m e3 hb))
    have hnw := Ex.new (o := .tup [x0, y0]) hT
    exact ⟨hnw, _, zipD_get hd hd', .tup (SqT.of upd_same) (.cons ((hdx.keep m e3 (nlAll_iff.mp n1 d (List.mem_of_getElem? hd))).ex hnw) (.cons ((hdy.keep m e3 (nlAll_iff.mp n2 d' (List.mem_of_getElem? hd'))).ex hnw) .nil))⟩
/-- d.get(c, v) -/
theorem ed_get2 {D : List Nat} {k c i j l : Nat} {v : Int} {q : Addr × List Int} (h : En H D k q) (h1 : σ[i]? = some (some (.ref q.1))) (h2 : σ[j]? = some (some (.int (c : Int)))) (h3 : σ[l]? = some (some (.int v))) : EvD K (tDGet2 (tVar i) (tVar j) (tVar l)) σ H (.int (if c ∈ D then q.2.getD c 0 else v)) := fun H1 e Q q' => by
  obtain ⟨kvs, hk, _, hv⟩ := h.ex e
  refine ⟨_, h1, q.1, rfl, .inl ⟨kvs, .inl hk⟩, _, h2, _, h3, _, DGet.k (k := .inl (c : Int)) hk, ?_⟩
  rw [hv c]
  by_cases e : c ∈ D
  · rw [if_pos e] at q' ⊢; exact q' _ H1 (Ex.refl H1) (.int _)
  · rw [if_neg e] at q' ⊢; exact q' _ H1 (Ex.refl H1) (.int _)
end
def spExt (K : Fg) : Sp := fun vs H Q _ => ∃ (p : Addr) (vr vp : V) (n k : Nat) (D part : List Nat) (Lf : List (Addr × List Int)) (rows : List (List Int)), vs = [.ref p, vr, vp] ∧ H p = some (.lst (rv Lf)) ∧ (∀ q ∈ Lf, En H D k q) ∧ Dp K H vr (.tuple (rows.map rowD)) ∧ Dp K H vp (cols part) ∧ k ≤ 1000 ∧ Lf.length ≤ 300 ∧ rows.length ≤ 60 ∧ part.length ≤ 10 ∧ part.Nodup ∧ (∀ c ∈ part, c < n) ∧ (∀ r ∈ rows, r.length = part.length) ∧ rows.Nodup ∧
  (∀ q ∈ Lf, q.2.length = n ∧ ∀ c, c ∉ D → q.2.getD c 0 = 0) ∧ (Lf.map fun q : Addr × List Int => q.2).Nodup ∧
  ∀ (H' : Hp) (p' : Addr) (Lg : List (Addr × List Int)), Ex H H' → H' p' = some (.lst (rv Lg)) → (∀ q ∈ Lg, En H' (D ++ part) (k + 10) q) → (∀ q ∈ Lg, ∃ q0 ∈ Lf, ∃ r ∈ rows, Xt n D part q0.2 r q.2) → (Lg.map fun q : Addr × List Int => q.2).Nodup → Q (.ref p') H'
theorem ok_extended (T : Txt K mg) : Good P w K mg base 1 "extended" ["found", "rows", "part"] (spExt K) := by
  refine good_of (q := "extended") (st := s_extended) (N := ["found", "rows", "part", "longer", "values", "row", "more", "column", "value"]) T.g_extended (T.def_ 2) sc_extended (fun _ _ _ _ _ _ us hl => match us, hl with | [_, _, _], _ => rfl) (fun vs H Q E h => by obtain ⟨_, _, _, _, _, _, _, _, _, rfl, _⟩ := h; rfl) fun cdv A outer s H vs Q E hr h =>
    ⟨_, (pss_cons (ps_set (i := 3) sc_extended.nd rfl (by first | exact Or.inl rfl | exact Or.inr rfl) (pe_lst pa_nil))
        (pss_cons (ps_for PassesOwn.never rfl (kSq (K := K) rfl (pv 0)) (pg_name (i := 4) sc_extended.nd rfl (by first | exact Or.inl rfl | exact Or.inr rfl)) (pss_one (ps_for PassesOwn.never rfl (kSq (K := K) rfl (pv 1)) (pg_name (i := 5) sc_extended.nd rfl (by first | exact Or.inl rfl | exact Or.inr rfl)) (pss_one (ps_if (pt_val (pe_callB (kAll (K := K) rfl rfl) rfl T.all0 PyProof.Rows.boot_all (pa_cons (pe_lc (own := [("column", 7), ("value", 8)]) (g := gTup K 2 (gCons (gName 7) (gCons (gName 8) gNil))) rfl sc_extended.nd (kZipT (K := K) rfl rfl T.zip0 (pa_cons (pv 2) (pa_cons (pv 5) pa_nil))) (blkOk_by (by kernel_rfl)) (fun _ _ _ _ _ => (kTg (K := K) (n := 2) rfl rfl (pgs_cons (pg_name (i := 7) sc_extended.nd rfl (by first | exact Or.inl rfl | exact Or.inr rfl)) (pgs_cons (pg_name (i := 8) sc_extended.nd rfl (by first | exact Or.inl rfl | exact Or.inr rfl)) pgs_nil)))) (fun _ _ _ _ _ => pts_nil) (fun _ _ _ _ _ => (pe_cmpR (kEq (K := K) rfl (room64 hr)) (pe_dget2 (room1 hr) (pv 4) (pv 7) (pv 8) ⟨rfl, rfl, rfl, rfl⟩) (pv 8) (nomark _)))) pa_nil))) (pss_cons (ps_set (i := 6) sc_extended.nd rfl (by first | exact Or.inl rfl | exact Or.inr rfl) (pe_callTy call_dictD rfl T.dict0 PyProof.Rows.boot_dict (pa_cons (pv 4) pa_nil)))
        (pss_cons (ps_for PassesOwn.never rfl (kZipT (K := K) rfl rfl T.zip0 (pa_cons (pv 2) (pa_cons (pv 5) pa_nil))) (kTg (K := K) (n := 2) rfl rfl (pgs_cons (pg_name (i := 7) sc_extended.nd rfl (by first | exact Or.inl rfl | exact Or.inr rfl)) (pgs_cons (pg_name (i := 8) sc_extended.nd rfl (by first | exact Or.inl rfl | exact Or.inr rfl)) pgs_nil))) (pss_one (ps_dput (room1 hr) (pv 6) (pv 7) (pv 8) rfl)))
        (pss_one (ps_expr (kBm (K := K) rfl PySem.F.plainAttrs_list PySem.F.slot_list_append PySem.F.type_list_append mt_append (pv 3) (pa_cons (pv 6) pa_nil)))))) pss_nil)))))
        (pss_one (ps_ret (pv 3))))), ?_⟩
  obtain ⟨p, vr, vp, n, k, D, part, Lf, rows, rfl, hp, hen, hr, hpt, hk, hLf, hrl, hpl, hnd, hlt, hrlen, hrn, hvec, hdist, q⟩ := h
  refine q_setL (K := K) (en_lst ea_nil (by simp)) fun lg H1 hlg e1 hl1 => ?_
  obtain ⟨wl, hw1, hw2⟩ := hl1
  cases hw2
  have npl : p ≠ lg := fun e => by rw [e, hlg] at hp; cases hp
  have tr1 : Trk H1 [lg] := Trk.one hw1 trivial
  have neq : ∀ q ∈ Lf, q.1 ∉ [lg] := fun q hq hm => by
    obtain ⟨kvs, h1, _⟩ := hen q hq
    rw [List.mem_singleton.mp hm, hlg] at h1
    cases h1
  refine q_forW (M := [lg]) (xs := rv Lf) (ew_list (K := K) (p := p) (ep_varR (i := 0) rfl (e1 p _ hp)) (by simpa using npl))
    (fun i σ' H' => ∃ (s4 s5 s6 s7 s8 : Option V) (Lg : List (Addr × List Int)), σ' = [some (.ref p), some vr, some vp, some (.ref lg), s4, s5, s6, s7, s8] ∧ H' lg = some (.lst (rv Lg)) ∧ (∀ q ∈ Lg, En H' (D ++ part) (k + 10) q) ∧ (∀ q ∈ Lg, ∃ q0 ∈ Lf.take i, ∃ r ∈ rows, Xt n D part q0.2 r q.2) ∧ (Lg.map fun q : Addr × List Int => q.2).Nodup ∧ Lg.length ≤ i * 60)
    ⟨_, _, _, _, _, [], rfl, hw1, (fun _ h => by cases h), (fun _ h => by cases h), List.nodup_nil, Nat.zero_le _⟩ (fun i σ1 Ha Hb h e => ?_) ?_ ?_
  · obtain ⟨s4, s5, s6, s7, s8, Lg, h1, h2, h3, h4⟩ := h
    exact ⟨s4, s5, s6, s7, s8, Lg, h1, e lg _ h2, fun q hq => (h3 q hq).ex e, h4⟩
  · rintro i x σ1 H2 hx ⟨s4, s5, s6, s7, s8, Lg, rfl, hlg2, hen2, hsrc2, hnd2, hlen2⟩ e2
    cases hLi : Lf[i]? with
    | none => rw [List.getElem?_map, hLi] at hx; cases hx
    | some qi =>
      rw [List.getElem?_map, hLi] at hx
      cases hx
      have hqL := List.mem_of_getElem? hLi
      have iL : i < Lf.length := (List.getElem?_eq_some_iff.mp hLi).1
      refine ⟨_, tgt_name, fun H3 e3 N hN => ?_⟩
      have hr3 := ((hr.ex e1).keep tr1.muts e2 (nl_all nl_row _)).ex e3
      have tr3 : Trk H3 [lg] := Trk.one (e3 lg _ hlg2) trivial
      refine s_for (K := K) (M := [lg]) (as := rows) (enc := rowD) (es_tupX (ed_var rfl hr3) tr3 (nl_all nl_row _))
        (fun j σ' H' => ∃ (s5 s6 s7 s8 : Option V) (Lg : List (Addr × List Int)), σ' = [some (.ref p), some vr, some vp, some (.ref lg), some (.ref qi.1), s5, s6, s7, s8] ∧ H' lg = some (.lst (rv Lg)) ∧ (∀ q ∈ Lg, En H' (D ++ part) (k + 10) q) ∧ (∀ q ∈ Lg, (∃ q0 ∈ Lf.take i, ∃ r ∈ rows, Xt n D part q0.2 r q.2) ∨ ∃ r ∈ rows.take j, Xt n D part qi.2 r q.2) ∧ (Lg.map fun q : Addr × List Int => q.2).Nodup ∧ Lg.length ≤ i * 60 + j)
        ⟨_, _, _, _, Lg, rfl, e3 lg _ hlg2, fun q hq => (hen2 q hq).ex e3, fun q hq => .inl (hsrc2 q hq), hnd2, hlen2⟩ (fun j σ1 Ha Hb h e => ?_) ?_ ?_
      · obtain ⟨s5, s6, s7, s8, Lg, h1, h2, h3, h4⟩ := h
        exact ⟨s5, s6, s7, s8, Lg, h1, e lg _ h2, fun q hq => (h3 q hq).ex e, h4⟩
      · rintro j r y σ2 H4 hj ⟨s5, s6, s7, s8, Lg4, rfl, hlg4, hen4, hsrc4, hnd4, hlen4⟩ e4 hy
        have hrm := List.mem_of_getElem? hj
        have jl : j < rows.length := (List.getElem?_eq_some_iff.mp hj).1
        have hrl' := hrlen r hrm
        refine ⟨_, tgt_name, fun H5 e5 N2 hN2 => ?_⟩
        have e15 : ExB [lg] H1 H5 := ((e2.then e3).trans e4).then e5
        have hqi := ((hen qi hqL).ex e1).keep e15 (neq qi hqL)
        have hpt5 := (hpt.ex e1).keep tr1.muts e15 (nl_cols _)
        have hy5 := hy.ex e5
        have hlg5 := e5 lg _ hlg4
        have hen5 := fun q hq => (hen4 q hq).ex e5
        have zl : (part.zip r).length ≤ 10 := by rw [List.length_zip]; omega
        refine s_when (b := ((part.zip r).map fun p : Nat × Int => decide ((if p.1 ∈ D then qi.2.getD p.1 0 else p.2) = p.2)).all id) (et_B (ed_all (K := K) (ed_is (EvN.toD (en_lcM (K := K) (as := part.zip r) (enc := fun p => .tuple [nI p.1, .int p.2]) (fun p => .bool (decide ((if p.1 ∈ D then qi.2.getD p.1 0 else p.2) = p.2))) (by rw [← zipD_map]; exact es_zipT (ea2 (ed_var rfl hpt5) (ed_var rfl hy5))) (by omega) (fun _ _ => rfl) fun pv hpv u H6 e6 hu => ?_)) (by rw [List.map_map]; rfl)))) (fun hb H6 e6 => ?_) (fun hb H6 e6 => ?_)
        · obtain ⟨a1, a2, f1, f2, tg⟩ := tgt_pair (K := K) (j := 7) (k := 8) (σ0 := wipe [some (.ref p), some vr, some vp, some (.ref lg), some (.ref qi.1), some y, s6, s7, s8] [7, 8]) hu
          have i1 := f1.int_inv
          have i2 := f2.int_inv
          subst i1 i2
          exact ⟨_, tg, rfl, ed_is (ed_eq (ed_get2 (c := pv.1) (v := pv.2) (hqi.ex e6) rfl rfl rfl) (ed_var rfl (.int _)) (sh_int _) (sh_int _)) (by rw [eqv_int])⟩
        · have hcomp : ∀ pv ∈ part.zip r, (if pv.1 ∈ D then qi.2.getD pv.1 0 else pv.2) = pv.2 := fun pv hpv => by
            have := List.all_eq_true.mp hb _ (List.mem_map.mpr ⟨pv, hpv, rfl⟩)
            exact of_decide_eq_true this
          obtain ⟨hql, hq0⟩ := hvec qi hqL
          have hX := putN_xt (r := r) hql hnd hlt hrl' hq0 hcomp
          obtain ⟨kvs, hkv, hkl, hkc⟩ := hqi.ex e6
          -- a copy of the dict
          refine q_asgX ⟨_, rfl, qi.1, kvs, rfl, .inl hkv, fun m hm => ?_⟩
          have em := Ex.new (o := .dK kvs) hm
          have hm7 : upd H6 m (.dK kvs) m = some (.dK kvs) := upd_same
          have nml : m ≠ lg := fun e => by rw [e, e6 lg _ hlg5] at hm; cases hm
          have hlg7 := em lg _ (e6 lg _ hlg5)
          have hpt7 := (hpt5.ex e6).ex em
          have hy7 := (hy5.ex e6).ex em
          have hen7 : ∀ q ∈ Lg4, En (upd H6 m (.dK kvs)) (D ++ part) (k + 10) q := fun q hq => ((hen5 q hq).ex e6).ex em
          have nem : ∀ q ∈ Lg4, q.1 ∉ [m] := fun q hq hmm => by
            obtain ⟨kv, g1, _⟩ := (hen5 q hq).ex e6
            rw [List.mem_singleton.mp hmm, hm] at g1
            cases g1
          generalize hH7 : upd H6 m (.dK kvs) = H7 at em hm7 hlg7 hpt7 hy7 hen7
          have trm : Trk H7 [m] := Trk.one hm7 trivial
          refine q_for (K := K) (M := [m]) (as := part.zip r) (enc := fun p => .tuple [nI p.1, .int p.2]) (by rw [← zipD_map]; exact es_zipTX (ea2 (ed_var rfl hpt7) (ed_var rfl hy7)) trm (nl_all nl_nI _) (nl_all (fun _ => rfl) _))
            (fun l σ' H' => ∃ (s7 s8 : Option V) (kl : List (L2.Key × V)), σ' = [some (.ref p), some vr, some vp, some (.ref lg), some (.ref qi.1), some y, some (.ref m), s7, s8] ∧ H' m = some (.dK kl) ∧ kl.length ≤ k + l ∧ ∀ c : Nat, valV kl (.inl (c : Int)) = if c ∈ D ∨ c ∈ part.take l then some (.int ((putN qi.2 ((part.zip r).take l)).getD c 0)) else none)
            ⟨_, _, kvs, rfl, hm7, hkl, fun c => by rw [hkc c]; simp [putN]⟩ (fun l σ1 Ha Hb h e => let ⟨s7, s8, kl, h1, h2, h3⟩ := h; ⟨s7, s8, kl, h1, e m _ h2, h3⟩) ?_ ?_
          · rintro l pv z σ3 H8 hl ⟨s7, s8, kl, rfl, hm8, hkl8, hkc8⟩ e8 hz
            obtain ⟨a1, a2, f1, f2, tg⟩ := tgt_pair (K := K) (j := 7) (k := 8) (σ0 := [some (.ref p), some vr, some vp, some (.ref lg), some (.ref qi.1), some y, some (.ref m), s7, s8]) hz
            have ll : l < (part.zip r).length := (List.getElem?_eq_some_iff.mp hl).1
            have lp : l < part.length := by rw [List.length_zip] at ll; omega
            refine ⟨_, tg, fun H9 e9 N3 hN3 => ?_⟩
            refine s_dput (K := K) (a := ((pv.1 : Nat) : Int)) (b := pv.2) rfl (e9 m _ hm8) (by omega) (ed_var rfl (f1.ex e9)) (ed_var rfl (f2.ex e9)) fun H10 e10 hm10 => hN3 _ _ ⟨_, _, _, rfl, hm10, Nat.le_trans (length_putK _ _ _) (by omega), fun c => ?_⟩ ((ExB.refl [m] H9).trans e10)
            have hpz := List.getElem?_zip_eq_some.mp hl
            have hcl : pv.1 < (putN qi.2 ((part.zip r).take l)).length := by rw [putN_len, hql]; exact hlt _ (List.mem_of_getElem? hpz.1)
            rw [valV_put, take_snoc hl, putN_snoc, getD_set hcl, take_snoc hpz.1]
            by_cases e : c = pv.1
            · subst e
              rw [if_pos rfl, if_pos rfl, if_pos (.inr (List.mem_append_right _ (List.mem_singleton.mpr rfl)))]
            · rw [if_neg (fun q => e (by injection q with q; omega)), if_neg e, hkc8 c]
              by_cases h : c ∈ D ∨ c ∈ part.take l
              · rw [if_pos h, if_pos (h.elim .inl fun h => .inr (List.mem_append_left _ h))]
              · rw [if_neg h, if_neg fun h' => h (h'.elim .inl fun h' => (List.mem_append.mp h').elim .inr fun h' => absurd (List.mem_singleton.mp h') e)]
          · rintro σ3 H8 ⟨s7, s8, kl, rfl, hm8, hkl8, hkc8⟩ e8
            have ez : (part.zip r).length = part.length := by rw [List.length_zip]; omega
            rw [List.take_length] at hkc8
            rw [ez, List.take_length] at hkc8
            have hlg8 := e8 lg _ (by simpa using nml.symm) hlg7
            have hen8 : ∀ q ∈ Lg4, En H8 (D ++ part) (k + 10) q := fun q hq => (hen7 q hq).keep e8 (nem q hq)
            have hnew : En H8 (D ++ part) (k + 10) (m, putN qi.2 (part.zip r)) := ⟨kl, hm8, by omega, fun c => by
              rw [hkc8 c]
              by_cases h : c ∈ D ∨ c ∈ part
              · rw [if_pos h, if_pos (List.mem_append.mpr h)]
              · rw [if_neg h, if_neg fun h' => h (List.mem_append.mp h')]⟩
            refine s_exprX ⟨_, rfl, .inl ⟨rfl, _, SqL.of hlg8⟩, _, rfl, lg, rv Lg4, .ref m, rfl, rfl, hlg8, Evl.sz_lt ?_, ?_⟩
            · rw [List.length_map]
              have : i * 60 ≤ 300 * 60 := Nat.mul_le_mul_right _ (by omega)
              omega
            have ee := (ExB.refl [lg] H8).upd (p := lg) (by simp) (.lst (rv Lg4 ++ [.ref m]))
            have nml' : ∀ q ∈ Lg4 ++ [(m, putN qi.2 (part.zip r))], q.1 ∉ [lg] := fun q hq hm' => by
              rcases List.mem_append.mp hq with h | h
              · obtain ⟨kv, g1, _⟩ := hen8 q h
                rw [List.mem_singleton.mp hm', hlg8] at g1
                cases g1
              · rw [List.mem_singleton.mp h] at hm'
                exact nml (List.mem_singleton.mp hm')
            refine hN2 _ _ ⟨_, _, _, _, Lg4 ++ [(m, putN qi.2 (part.zip r))], rfl, ?_, fun q hq => ?_, fun q hq => ?_, ?_, ?_⟩ ?_
            · rw [upd_same]; unfold rv; rw [List.map_append]; rfl
            · refine En.keep (H := H8) ?_ ee (nml' q hq)
              rcases List.mem_append.mp hq with h | h
              · exact hen8 q h
              · rw [List.mem_singleton.mp h]; exact hnew
            · rcases List.mem_append.mp hq with h | h
              · rcases hsrc4 q h with g | ⟨r0, g1, g2⟩
                · exact .inl g
                · exact .inr ⟨r0, by rw [take_snoc hj]; exact List.mem_append_left _ g1, g2⟩
              · rw [List.mem_singleton.mp h]
                exact .inr ⟨r, by rw [take_snoc hj]; simp, hX⟩
            · rw [List.map_append]
              refine List.nodup_append.mpr ⟨hnd4, by simp, fun a ha b hb' e => ?_⟩
              have hb'' : b = putN qi.2 (part.zip r) := by simpa using hb'
              obtain ⟨q', hq', rfl⟩ := List.mem_map.mp ha
              have hXq : ∀ {g s}, Xt n D part g s q'.2 → Xt n D part g s (putN qi.2 (part.zip r)) := fun h => by rw [← hb'', ← e]; exact h
              rcases hsrc4 q' hq' with ⟨q0, g1, r0, g2, g3⟩ | ⟨r0, g1, g2⟩
              · obtain ⟨v1, v2⟩ := hvec q0 (List.mem_of_mem_take g1)
                obtain ⟨e1', _⟩ := (hXq g3).inj hX v1 hql v2 hq0 (hrlen r0 g2) hrl'
                -- an earlier source with the same vector
                obtain ⟨i0, hi0, hq0i⟩ := List.mem_iff_getElem.mp g1
                rw [List.length_take] at hi0
                have hne : i0 ≠ i := by omega
                rw [List.getElem_take] at hq0i
                have hli : (Lf.map fun q : Addr × List Int => q.2)[i0]'(by rw [List.length_map]; omega) = (Lf.map fun q : Addr × List Int => q.2)[i]'(by rw [List.length_map]; omega) := by
                  rw [List.getElem_map, List.getElem_map, hq0i, e1']
                  rw [List.getElem?_eq_getElem iL] at hLi
                  injection hLi with hLi
                  rw [hLi]
                exact hne ((List.getElem_inj hdist).mp hli)
              · obtain ⟨_, e2'⟩ := (hXq g2).inj hX hql hql hq0 hq0 (hrlen r0 (List.mem_of_mem_take g1)) hrl'
                obtain ⟨j0, hj0, hr0j⟩ := List.mem_iff_getElem.mp g1
                rw [List.length_take] at hj0
                rw [List.getElem_take] at hr0j
                have : rows[j0]'(by omega) = rows[j] := by
                  rw [hr0j, e2']
                  rw [List.getElem?_eq_getElem jl] at hj
                  injection hj with hj
                  exact hj.symm
                have := (List.getElem_inj hrn).mp this
                omega
            · rw [List.length_append]; simp; omega
            · have hmn : H5 m = none := Evl.fresh_back e6 hm
              have x : ExB [m, lg] H5 (upd H8 lg (.lst (rv Lg4 ++ [.ref m]))) := ((ExB.of (e6.trans em)).trans (e8.mono (by simp))).trans (ee.mono (by simp))
              exact x.drop hmn
        · exact hN2 _ _ ⟨_, _, _, _, Lg4, rfl, e6 lg _ hlg5, fun q hq => (hen5 q hq).ex e6, fun q hq => (hsrc4 q hq).elim .inl fun ⟨r0, g1, g2⟩ => .inr ⟨r0, by rw [take_snoc hj]; exact List.mem_append_left _ g1, g2⟩, hnd4, by omega⟩ (.of e6)
      · rintro σ2 H4 ⟨s5, s6, s7, s8, Lg4, rfl, hlg4, hen4, hsrc4, hnd4, hlen4⟩ e4
        rw [List.take_length] at hsrc4
        refine hN _ _ ⟨_, _, _, _, _, Lg4, rfl, hlg4, hen4, fun q hq => ?_, hnd4, by omega⟩ e4
        rcases hsrc4 q hq with ⟨q0, g1, g2⟩ | ⟨r0, g1, g2⟩
        · exact ⟨q0, by rw [take_snoc hLi]; exact List.mem_append_left _ g1, g2⟩
        · exact ⟨qi, by rw [take_snoc hLi]; simp, r0, g1, g2⟩
  · rintro σ1 H2 ⟨s4, s5, s6, s7, s8, Lg, rfl, hlg2, hen2, hsrc2, hnd2, hlen2⟩ e2
    have hzf : (rv Lf).length = Lf.length := List.length_map ..
    rw [hzf, List.take_length] at hsrc2
    exact ⟨_, rfl, q H2 lg Lg (ExB.out e1 e2 (by simpa using hlg)) hlg2 hen2 hsrc2 hnd2⟩
end
end NS
set_option Elab.async false
set_option linter.all false
set_option maxRecDepth 100000
set_option maxHeartbeats 4000000
namespace NS
open PySem PySem.Spec PyProof.Rows L2
open Evl (Ex)
/-! ### vectors over 0, 1, 2 -/
def allV : Nat → List (List Int)
  | 0 => [[]]
  | n + 1 => (allV n).map (List.cons 0) ++ ((allV n).map (List.cons 1) ++ (allV n).map (List.cons 2))
theorem mem_allV : ∀ {n : Nat} {f : List Int}, f.length = n → (∀ x ∈ f, 0 ≤ x ∧ x < 3) → f ∈ allV n
  | 0, [], _, _ => List.mem_singleton.mpr rfl
  | n + 1, x :: f, hl, hv => by
    have ih : f ∈ allV n := mem_allV (by simpa using hl) fun y hy => hv y (List.mem_cons_of_mem _ hy)
    have hx := hv x (List.mem_cons_self ..)
    show x :: f ∈ (allV n).map (List.cons 0) ++ ((allV n).map (List.cons 1) ++ (allV n).map (List.cons 2))
    rw [List.mem_append, List.mem_append]
    have : x = 0 ∨ x = 1 ∨ x = 2 := by omega
    rcases this with rfl | rfl | rfl
    · exact .inl (List.mem_map.mpr ⟨f, ih, rfl⟩)
    · exact .inr (.inl (List.mem_map.mpr ⟨f, ih, rfl⟩))
    · exact .inr (.inr (List.mem_map.mpr ⟨f, ih, rfl⟩))
theorem allV_len : ∀ n, (allV n).length = 3 ^ n
  | 0 => rfl
  | n + 1 => by
    show ((allV n).map (List.cons 0) ++ ((allV n).map (List.cons 1) ++ (allV n).map (List.cons 2))).length = _
    rw [List.length_append, List.length_append, List.length_map, List.length_map, List.length_map, allV_len n, Nat.pow_succ]
    omega
/-- what the join holds after some parts -/
structure JI (n : Nat) (rows : List (List Int)) (S : List (List Nat)) (i : Nat) (fs : List (List Int)) : Prop where
  nd : fs.Nodup
  len : ∀ f ∈ fs, f.length = n
  val : ∀ f ∈ fs, ∀ x ∈ f, 0 ≤ x ∧ x < 3
  out : ∀ f ∈ fs, ∀ c, c ∉ (S.take i).flatten → f.getD c 0 = 0
  src : ∀ f ∈ fs, ∀ s ∈ S.take i, ∃ r ∈ rows, ∀ c ∈ s, f.getD c 0 = r.getD c 0
theorem getD_val {f : List Int} (h : ∀ x ∈ f, 0 ≤ x ∧ x < 3) (c : Nat) : 0 ≤ f.getD c 0 ∧ f.getD c 0 < 3 := by
  by_cases hc : c < f.length
  · rw [getD_of hc]; exact h _ (List.getElem_mem _)
  · rw [List.getD_eq_getElem?_getD, List.getElem?_eq_none (by omega)]
    exact ⟨by decide, by decide⟩
theorem val_getD {f : List Int} (h : ∀ c, 0 ≤ f.getD c 0 ∧ f.getD c 0 < 3) : ∀ x ∈ f, 0 ≤ x ∧ x < 3 := fun x hx => by
  obtain ⟨i, hi, rfl⟩ := List.mem_iff_getElem.mp hx
  have := h i
  rwa [getD_of hi] at this
theorem JI.few {n : Nat} {rows : List (List Int)} {S : List (List Nat)} {i : Nat} {fs : List (List Int)} (J : JI n rows S i fs) (hn : n ≤ 5) : fs.length ≤ 243 := by
  have h1 := nodup_inclG J.nd fun f hf => mem_allV (J.len f hf) (J.val f hf)
  rw [allV_len] at h1
  have h2 : 3 ^ n ≤ 3 ^ 5 := Nat.pow_le_pow_right (by decide) hn
  omega
theorem JI.zero {n : Nat} {rows : List (List Int)} {S : List (List Nat)} : JI n rows S 0 [List.replicate n 0] := by
  refine ⟨by simp, fun f hf => ?_, fun f hf x hx => ?_, fun f hf c _ => ?_, fun f hf s hs => by cases hs⟩
  · rw [List.mem_singleton.mp hf, List.length_replicate]
  · rw [List.mem_singleton.mp hf] at hx
    rw [List.eq_of_mem_replicate hx]
    exact ⟨by decide, by decide⟩
  · rw [List.mem_singleton.mp hf]
    by_cases hc : c < n
    · rw [getD_of (by simpa using hc), List.getElem_replicate]
    · rw [List.getD_eq_getElem?_getD, List.getElem?_eq_none (by rw [List.length_replicate]; omega)]; rfl
theorem pk_getD {r : List Int} {s : List Nat} {i : Nat} (h : i < s.length) : (pk r s).getD i 0 = r.getD s[i] 0 := by
  unfold pk
  rw [getD_of (by rw [List.length_map]; exact h), List.getElem_map]
theorem JI.step {n : Nat} {rows : List (List Int)} {S : List (List Nat)} {i : Nat} {fs gs : List (List Int)} {s : List Nat} (J : JI n rows S i fs) (R : Rw3 n rows) (hs : S[i]? = some s) (hsub : s.Sublist (List.range n)) (hnd : gs.Nodup)
    (h : ∀ g ∈ gs, ∃ f ∈ fs, ∃ r ∈ rows.map (fun r => pk r s), Xt n (S.take i).flatten s f r g) : JI n rows S (i + 1) gs := by
  have hD : (S.take (i + 1)).flatten = (S.take i).flatten ++ s := by rw [take_snoc hs, List.flatten_append]; simp
  have hin : ∀ f ∈ fs, ∀ c, c ∉ (S.take i).flatten → f.getD c 0 = 0 := J.out
  refine ⟨hnd, fun g hg => ?_, fun g hg => val_getD fun c => ?_, fun g hg c hc => ?_, fun g hg s' hs' => ?_⟩
  all_goals
    obtain ⟨f, hf, r0, hr0, x⟩ := h g hg
    obtain ⟨r, hr, rfl⟩ := List.mem_map.mp hr0
  · exact x.len
  · by_cases h1 : c ∈ s
    · obtain ⟨j, hj, rfl⟩ := List.mem_iff_getElem.mp h1
      rw [x.new j hj, pk_getD hj]
      exact getD_val (R.val r hr) _
    · by_cases h2 : c ∈ (S.take i).flatten
      · rw [x.old c h2]; exact getD_val (J.val f hf) _
      · rw [x.out c h2 h1]; exact ⟨by decide, by decide⟩
  · rw [hD, List.mem_append] at hc
    exact x.out c (fun h => hc (.inl h)) fun h => hc (.inr h)
  · rw [take_snoc hs] at hs'
    rcases List.mem_append.mp hs' with h1 | h1
    · obtain ⟨r', hr', e⟩ := J.src f hf s' h1
      exact ⟨r', hr', fun c hc => by rw [x.old c (List.mem_flatten.mpr ⟨s', h1, hc⟩)]; exact e c hc⟩
    · rw [List.mem_singleton.mp h1]
      refine ⟨r, hr, fun c hc => ?_⟩
      obtain ⟨j, hj, rfl⟩ := List.mem_iff_getElem.mp hc
      rw [x.new j hj, pk_getD hj]
section
variable {P : Program} {w : World} {K : Fg} {mg : Str → Option Value} {base : Heap}
/-! ### rows.joined -/
theorem sc_joined : FnScope ["width", "projections", "parts", "found", "rows", "part", "values"] ["width", "projections", "parts"] (defScope s_joined) := ⟨rfl, rfl, rfl, by decide +kernel, rfl, by decide +kernel, by decide +kernel⟩
/-- the parts' rows -/
structure PsOk (rows : List (List Int)) (S : List (List Nat)) (Ps : List (List (List Int))) : Prop where
  len : Ps.length = S.length
  nd : ∀ (i : Nat) (R : List (List Int)), Ps[i]? = some R → R.Nodup
  mem : ∀ (i : Nat) (R : List (List Int)) (s : List Nat), Ps[i]? = some R → S[i]? = some s → ∀ r ∈ R, r ∈ rows.map fun r => pk r s
/-- every row that agrees with a table's row on each part is a row -/
def Loss (n : Nat) (rows : List (List Int)) (S : List (List Nat)) : Prop := ∀ f : List Int, f.length = n → (∀ s ∈ S, ∃ r ∈ rows, ∀ c ∈ s, f.getD c 0 = r.getD c 0) → f ∈ rows
def spJoin (K : Fg) : Sp := fun vs H Q _ => ∃ (v2 v3 : V) (n : Nat) (S : List (List Nat)) (rows : List (List Int)) (Ps : List (List (List Int))), vs = [.int n, v2, v3] ∧ Dp K H v2 (.list (Ps.map fun R => .tuple (R.map rowD))) ∧ Dp K H v3 (.tuple (S.map cols)) ∧
  1 ≤ n ∧ n ≤ 5 ∧ S.length ≤ 21 ∧ rows.length ≤ 5 ∧ Rw3 n rows ∧ (∀ s ∈ S, s.Sublist (List.range n)) ∧ PsOk rows S Ps ∧ (∀ c, c < n → ∃ s ∈ S, c ∈ s) ∧ Loss n rows S ∧
  ∀ v H' Fs, Ex H H' → TupR H' v Fs → (∀ f ∈ Fs, f ∈ rows) → Q v H'
theorem ok_joined (T : Txt K mg) : Good P w K mg base 2 "joined" ["width", "projections", "parts"] (spJoin K) := by
  refine good_of (q := "joined") (st := s_joined) (N := ["width", "projections", "parts", "found", "rows", "part", "values"]) T.g_joined (T.def_ 3) sc_joined (fun _ _ _ _ _ _ us hl => match us, hl with | [_, _, _], _ => rfl) (fun vs H Q E h => by obtain ⟨_, _, _, _, _, _, rfl, _⟩ := h; rfl) fun cdv A outer s H vs Q E hr h =>
    ⟨_, (pss_cons (ps_set (i := 3) sc_joined.nd rfl (by first | exact Or.inl rfl | exact Or.inr rfl) (pe_lst (pa_cons pe_dnewK pa_nil)))
        (pss_cons (ps_for PassesOwn.never rfl (kZipM (K := K) rfl rfl T.zip0 (pa_cons (pv 1) (pa_cons (pv 2) pa_nil))) (kTg (K := K) (n := 2) rfl rfl (pgs_cons (pg_name (i := 4) sc_joined.nd rfl (by first | exact Or.inl rfl | exact Or.inr rfl)) (pgs_cons (pg_name (i := 5) sc_joined.nd rfl (by first | exact Or.inl rfl | exact Or.inr rfl)) pgs_nil))) (pss_one (ps_set (i := 3) sc_joined.nd rfl (by first | exact Or.inl rfl | exact Or.inr rfl) (pe_callG (ok_extended (P := P) (w := w) (base := base) T) (hr.mono (by decide)) rfl (pa_cons (pv 3) (pa_cons (pv 4) (pa_cons (pv 5) pa_nil)))))))
        (pss_one (ps_ret (kTuple (K := K) rfl rfl T.tuple0 (pe_callB (kSrtS rfl rfl rfl (room64 hr)) rfl T.sorted0 PyProof.Rows.boot_sorted (pa_cons (pe_callTy (kSetT (K := K) rfl rfl rfl rfl (room64 hr)) rfl T.set0 PyProof.Rows.boot_set (pa_cons (pe_lc (own := [("values", 6)]) (g := gName 6) rfl sc_joined.nd (kSq (K := K) rfl (pv 3)) (blkOk_by (by kernel_rfl)) (fun _ _ _ _ _ => (pg_name (i := 6) sc_joined.nd rfl (by first | exact Or.inl rfl | exact Or.inr rfl))) (fun _ _ _ _ _ => pts_nil) (fun _ _ _ _ _ => (pe_callG (ok_picked (P := P) (w := w) (base := base) T) (hr.mono (by decide)) rfl (pa_cons (pv 6) (pa_cons (pe_listRg rfl rfl T.list0 (prg_1 rfl T.range0 (pv 0))) pa_nil))))) pa_nil)) pa_nil))))))), ?_⟩
  obtain ⟨v2, v3, n, S, rows, Ps, rfl, h2, h3, n1, n2, hSl, hrl, hR, hsub, hP, hcov, hloss, q⟩ := h
  have hPl := hP.len
  refine q_asgX ?_
  refine fun m hm => ⟨by simp [sizeLine], fun pf hpf => ?_⟩
  have em := Ex.new (o := .dK []) hm
  have npm : pf ≠ m := fun e => by rw [e, upd_same] at hpf; cases hpf
  have ep := Ex.new (o := .lst [.ref m]) hpf
  have e0 := em.trans ep
  have hm1 : upd (upd H m (.dK [])) pf (.lst [.ref m]) m = some (.dK []) := by rw [upd_ne (fun e => npm e.symm), upd_same]
  have hpf1 : upd (upd H m (.dK [])) pf (.lst [.ref m]) pf = some (.lst [.ref m]) := upd_same
  have h21 := h2.ex e0
  have h31 := h3.ex e0
  generalize hH1 : upd (upd H m (.dK [])) pf (.lst [.ref m]) = H1 at e0 hm1 hpf1 h21 h31
  have zl : (Ps.zip S).length = S.length := by rw [List.length_zip]; omega
  refine q_for (K := K) (M := []) (as := Ps.zip S) (enc := fun p => .tuple [.tuple (p.1.map rowD), cols p.2]) (by
      have := es_zipM (K := K) (σ := [some (.int n), some v2, some v3, some (.ref pf), none, none, none]) (ea2 (ed_var (i := 1) rfl h21) (ed_var (i := 2) rfl h31))
      unfold zipD at this
      rw [List.zip_map, List.map_map] at this
      exact this)
    (fun i σ' H' => ∃ (s4 s5 s6 : Option V) (p : Addr) (Lf : List (Addr × List Int)), σ' = [some (.int n), some v2, some v3, some (.ref p), s4, s5, s6] ∧ Ex H1 H' ∧ H' p = some (.lst (rv Lf)) ∧ (∀ q ∈ Lf, En H' (S.take i).flatten (10 * i) q) ∧ JI n rows S i (Lf.map fun q : Addr × List Int => q.2))
    ⟨_, _, _, pf, [(m, List.replicate n 0)], rfl, Ex.refl _, hpf1, fun q hq => ?_, JI.zero⟩ (fun i σ1 Ha Hb h e => ?_) ?_ ?_
  · rw [List.mem_singleton.mp hq]
    exact ⟨[], hm1, Nat.zero_le _, fun c => by simp [valV]⟩
  · obtain ⟨s4, s5, s6, p, Lf, h1, h2, h3, h4, h5⟩ := h
    exact ⟨s4, s5, s6, p, Lf, h1, h2.trans e, e p _ h3, fun q hq => (h4 q hq).ex e, h5⟩
  · rintro i pr x σ1 H2 hi ⟨s4, s5, s6, p, Lf, rfl, e12, hp, hen, J⟩ e2 hx
    have hpz := List.getElem?_zip_eq_some.mp hi
    obtain ⟨a1, a2, f1, f2, tg⟩ := tgt_pair (K := K) (j := 4) (k := 5) (σ0 := [some (.int n), some v2, some v3, some (.ref p), s4, s5, s6]) hx
    have iS : i < S.length := (List.getElem?_eq_some_iff.mp hpz.2).1
    have hsS := List.mem_of_getElem? hpz.2
    have hsb := hsub pr.2 hsS
    refine ⟨_, tg, fun H3 e3 N hN => ?_⟩
    have hfew := J.few n2
    rw [List.length_map] at hfew
    have hRl : pr.1.length ≤ 5 := by
      have := nodup_inclG (hP.nd i _ hpz.1) (hP.mem i _ _ hpz.1 hpz.2)
      rw [List.length_map] at this
      omega
    refine s_asgX ⟨_, rfl, _, rfl, _, rfl, p, a1, a2, n, 10 * i, (S.take i).flatten, pr.2, Lf, pr.1, rfl, e3 p _ hp, fun q hq => (hen q hq).ex e3, f1.ex e3, f2.ex e3, by omega, by omega, by omega, Nat.le_trans (sub_len hsb) (by omega), hsb.nodup List.nodup_range, fun c hc => sub_lt hsb hc, fun r hr => ?_, hP.nd i _ hpz.1, fun q hq => ⟨J.len _ (List.mem_map.mpr ⟨q, hq, rfl⟩), fun c hc => J.out _ (List.mem_map.mpr ⟨q, hq, rfl⟩) c hc⟩, J.nd, fun H4 p' Lg e4 hp' hen' hsrc hnd => ?_⟩
    · obtain ⟨r0, _, rfl⟩ := List.mem_map.mp (hP.mem i _ _ hpz.1 hpz.2 r hr)
      unfold pk
      rw [List.length_map]
    · refine hN _ _ ⟨_, _, _, p', Lg, rfl, (e12.trans e3).trans e4, hp', fun q hq => ?_, J.step hR hpz.2 hsb hnd fun g hg => ?_⟩ (.of e4)
      · have : (S.take (i + 1)).flatten = (S.take i).flatten ++ pr.2 := by rw [take_snoc hpz.2, List.flatten_append]; simp
        rw [this]
        exact hen' q hq
      · obtain ⟨q, hq, rfl⟩ := List.mem_map.mp hg
        obtain ⟨q0, hq0, r, hr, X⟩ := hsrc q hq
        exact ⟨q0.2, List.mem_map.mpr ⟨q0, hq0, rfl⟩, r, hP.mem i _ _ hpz.1 hpz.2 r hr, X⟩
  · rintro σ1 H2 ⟨s4, s5, s6, p, Lf, rfl, e12, hp, hen, J⟩ e2
    rw [zl] at J
    rw [zl, List.take_length] at hen
    have hall : ∀ f ∈ Lf.map (fun q : Addr × List Int => q.2), f ∈ rows := fun f hf => hloss f (J.len f hf) fun s hs => J.src f hf s (by rw [List.take_length]; exact hs)
    have hLl : Lf.length ≤ 5 := by
      have := nodup_inclG J.nd hall
      rw [List.length_map] at this
      omega
    refine s_retP (Pr := fun H x => TupR H x (Lf.map fun q : Addr × List Int => q.2)) (ep_setsort (K := K) (P := P) (w := w) (fun H3 e3 Q' q' => ?_) (by rw [List.length_map]; omega) fun r hr e => ?_) fun v H3 e3 hv => q v H3 _ ((e0.trans e12).trans e3) hv hall
    · refine x_lcRel (bs := Lf) (val := fun q => V.ref q.1) (fun q H x => Tr H x q.2) (fun _ _ _ _ e h => h.ex e) (fun _ _ _ _ _ _ hp h => tr_keepU hp h) (ew_list (K := K) (p := p) (ep_varR (i := 3) rfl (e3 p _ hp)) (by simp)) (by omega) (fun q0 hq0 H4 e4 =>
        ⟨_, tgt_name, rfl, fun H5 e5 Q5 q5 => ?_⟩) fun pl ws H4 hp4 e4 hpw hpr => ?_
      · obtain ⟨kvs, hk, _, hkv⟩ := (((hen q0 hq0).ex e3).ex e4).ex e5
        refine ⟨_, rfl, (en_rng1 (K := K) (n := n) (σ := [some (.int n), some v2, some v3, some (.ref p), s4, s5, some (.ref q0.1)]) (ed_var (i := 0) rfl (.int _)) (by omega)) H5 (Ex.refl H5) _ fun pc xs H6 hpc e6 hpc6 hxs => ?_⟩
        have hq0m : q0.2 ∈ Lf.map (fun q : Addr × List Int => q.2) := List.mem_map.mpr ⟨q0, hq0, rfl⟩
        refine .inr ⟨q0.1, pc, kvs, List.range n, fun c => q0.2.getD c 0, rfl, e6 _ _ hk, Lst.dp ⟨xs, hpc6, hxs⟩, by simp; omega, fun c hc => ?_, fun v H7 e7 hv => q5 v H7 (e6.trans e7) ?_⟩
        · rw [hkv c, if_pos]
          obtain ⟨s, hs, hcs⟩ := hcov c (List.mem_range.mp hc)
          exact List.mem_flatten.mpr ⟨s, hs, hcs⟩
        · have : (List.range n).map (fun c => q0.2.getD c 0) = q0.2 := by
            have hl := J.len _ hq0m
            refine List.ext_getElem (by simp [hl]) fun c h1 h2 => ?_
            rw [List.getElem_map, List.getElem_range, getD_of h2]
          rw [this] at hv
          exact hv
      · obtain ⟨L, rfl, hRt, hL⟩ := paired_rt hpr
        exact q' _ H4 e4 ⟨pl, L, rfl, hpw, hRt, hL⟩
    · have := J.len r (by exact hr)
      rw [e] at this
      simp at this
      omega
end
end NS
set_option Elab.async false
set_option linter.all false
set_option maxRecDepth 100000
set_option maxHeartbeats 4000000
namespace NS
open PySem PySem.Spec PyProof.Rows L2
open Evl (Ex)
theorem rt_all {K : Fg} {H : Hp} : ∀ {L : List (Addr × List Int)}, Rt H L → DpAll K H (rv L) ((L.map fun q : Addr × List Int => q.2).map rowD)
  | [], _ => .nil
  | q :: L, h => .cons (Tr.dp ⟨q.1, rfl, h q (List.mem_cons_self ..)⟩) (rt_all fun q' hq => h q' (List.mem_cons_of_mem _ hq))
theorem TupR.dp {K : Fg} {H : Hp} {x : V} {Rs : List (List Int)} (h : TupR H x Rs) : ∃ R : List (List Int), Dp K H x (.tuple (R.map rowD)) ∧ R.Nodup ∧ ∀ r, r ∈ R ↔ r ∈ Rs := by
  obtain ⟨i, L, rfl, hi, hR, hm, _, hn⟩ := h
  exact ⟨_, .tup (SqT.of hi) (rt_all hR), hn, hm⟩
theorem tupR_keepU {H : Hp} {Rs : List (List Int)} {p : Addr} {ws ws' : List V} {x : V} (hp : H p = some (.lst ws)) (h : TupR H x Rs) : TupR (upd H p (.lst ws')) x Rs := by
  obtain ⟨i, L, rfl, hi, hR, h⟩ := h
  refine ⟨i, L, rfl, ?_, fun q hq => ?_, h⟩
  · rw [upd_ne fun e => by rw [e, hp] at hi; cases hi]
    exact hi
  · have := hR q hq
    rw [upd_ne fun e => by rw [e, hp] at this; cases this]
    exact this
theorem paired_ps {K : Fg} {H : Hp} {rows : List (List Int)} : ∀ {S : List (List Nat)} {ws : List V}, Paired (fun s x => TupR H x (rows.map fun r => pk r s)) S ws → ∃ Ps : List (List (List Int)), DpAll K H ws (Ps.map fun R => .tuple (R.map rowD)) ∧ PsOk rows S Ps
  | [], _, .nil => ⟨[], .nil, rfl, (fun _ _ h => by cases h), fun _ _ _ h => by cases h⟩
  | s :: S, _, .cons h t => by
    obtain ⟨Ps, h1, h2⟩ := paired_ps (K := K) t
    obtain ⟨R, r1, r2, r3⟩ := h.dp (K := K)
    refine ⟨R :: Ps, .cons r1 h1, by simp [h2.len], fun i R' hi => ?_, fun i R' s' hi hs => ?_⟩
    · cases i with
      | zero => cases hi; exact r2
      | succ i => exact h2.nd i R' hi
    · cases i with
      | zero => cases hi; cases hs; exact fun r hr => (r3 r).mp hr
      | succ i => exact h2.mem i R' s' hi hs
section
variable {P : Program} {w : World} {K : Fg} {mg : Str → Option Value} {base : Heap}
/-! ### joining.stray_rows -/
theorem sc_stray_rows : FnScope ["width", "rows", "parts", "found", "part", "row"] ["width", "rows", "parts"] (defScope s_stray_rows) := ⟨rfl, rfl, rfl, by decide +kernel, rfl, by decide +kernel, by decide +kernel⟩
def spStray (K : Fg) : Sp := fun vs H Q _ => ∃ (v2 v3 : V) (n : Nat) (S : List (List Nat)) (rows : List (List Int)), vs = [.int n, v2, v3] ∧ Dp K H v2 (.tuple (rows.map rowD)) ∧ Dp K H v3 (.tuple (S.map cols)) ∧
  1 ≤ n ∧ n ≤ 5 ∧ S.length ≤ 21 ∧ rows.length ≤ 5 ∧ Rw3 n rows ∧ (∀ s ∈ S, s.Sublist (List.range n)) ∧ (∀ s ∈ S, s ≠ []) ∧ (∀ c, c < n → ∃ s ∈ S, c ∈ s) ∧ Loss n rows S ∧
  ∀ v H', Ex H H' → Dp K H' v (.tuple []) → Q v H'
theorem ok_stray_rows (T : Txt K mg) : Good P w K mg base 3 "stray_rows" ["width", "rows", "parts"] (spStray K) := by
  refine good_of (q := "stray_rows") (st := s_stray_rows) (N := ["width", "rows", "parts", "found", "part", "row"]) T.g_stray_rows (T.def_ 25) sc_stray_rows (fun _ _ _ _ _ _ us hl => match us, hl with | [_, _, _], _ => rfl) (fun vs H Q E h => by obtain ⟨_, _, _, _, _, rfl, _⟩ := h; rfl) fun cdv A outer s H vs Q E hr h =>
    ⟨_, (pss_cons (ps_set (i := 3) sc_stray_rows.nd rfl (by first | exact Or.inl rfl | exact Or.inr rfl) (pe_callG (ok_joined (P := P) (w := w) (base := base) T) (hr.mono (by decide)) rfl (pa_cons (pv 0) (pa_cons (pe_lc (own := [("part", 4)]) (g := gName 4) rfl sc_stray_rows.nd (kSq (K := K) rfl (pv 2)) (blkOk_by (by kernel_rfl)) (fun _ _ _ _ _ => (pg_name (i := 4) sc_stray_rows.nd rfl (by first | exact Or.inl rfl | exact Or.inr rfl))) (fun _ _ _ _ _ => pts_nil) (fun _ _ _ _ _ => (pe_callG (ok_projected (P := P) (w := w) (base := base) T) (hr.mono (by decide)) rfl (pa_cons (pv 1) (pa_cons (pv 4) pa_nil))))) (pa_cons (pv 2) pa_nil)))))
        (pss_one (ps_ret (kTuple (K := K) rfl rfl T.tuple0 (pe_lc (own := [("row", 5)]) (g := gName 5) rfl sc_stray_rows.nd (kSq (K := K) rfl (pv 3)) (blkOk_by (by kernel_rfl)) (fun _ _ _ _ _ => (pg_name (i := 5) sc_stray_rows.nd rfl (by first | exact Or.inl rfl | exact Or.inr rfl))) (fun _ _ _ _ _ => pts_one (pt_cmpR (kNin (K := K) rfl (room65 hr)) (pv 5) (pv 1) (by with_unfolding_all rfl))) (fun _ _ _ _ _ => (pv 5))))))), ?_⟩
  obtain ⟨v2, v3, n, S, rows, rfl, h2, h3, n1, n2, hSl, hrl, hR, hsub, hne, hcov, hloss, q⟩ := h
  refine q_asgX ⟨_, rfl, ?_⟩
  refine x_lcRelD (K := K) (bs := S) (enc := cols) (σ := [some (.int n), some v2, some v3, none, none, none]) (fun s H x => TupR H x (rows.map fun r => pk r s)) (fun _ _ _ _ e h => h.ex e) (fun _ _ _ _ _ _ hp h => tupR_keepU hp h) (es_sqT (ed_var (i := 2) rfl h3)) (by omega) (fun s hs x H2 e2 hx =>
      ⟨_, tgt_name, rfl, fun H3 e3 Q3 q3 => ⟨_, rfl, _, rfl, v2, x, rows, s, rfl, (h2.ex e2).ex e3, hx.ex e3, by omega, hne s hs, Nat.le_trans (sub_len (hsub s hs)) (by omega), fun r hr c hc => by rw [hR.len r hr]; exact sub_lt (hsub s hs) hc, fun v H4 e4 hv => q3 v H4 e4 hv⟩⟩) fun p ws H2 hp e2 hpw hpr => ?_
  obtain ⟨Ps, hps, hPs⟩ := paired_ps (K := K) hpr
  refine ⟨_, rfl, _, _, n, S, rows, Ps, rfl, Lst.dp ⟨ws, hpw, hps⟩, h3.ex e2, n1, n2, hSl, hrl, hR, hsub, hPs, hcov, hloss, fun v H3 Fs e3 hv hall => ?_⟩
  obtain ⟨R, r1, r2, r3⟩ := hv.dp (K := K)
  have hRl := nodup_inclG r2 fun r hr => hall r ((r3 r).mp hr)
  have hf : (R.filter fun r => !decide (r ∈ rows)).map rowD = [] := by
    rw [List.filter_eq_nil_iff.mpr fun r hr => by simpa using hall r ((r3 r).mp hr)]
    rfl
  refine s_ret (K := K) (ed_tupL (EvN.toD (en_lcF (K := K) (as := R) (enc := rowD) (fun r => !decide (r ∈ rows)) rowD (es_sqT (ed_var (i := 3) rfl r1)) (by omega) (fun _ _ => nl_row _) fun r hr x H4 e4 hx =>
    ⟨_, tgt_name, rfl, et_B (ed_is (ed_niT (ed_var (i := 5) rfl hx) (ed_var (i := 1) rfl (((h2.ex e2).ex e3).ex e4)) (sh_row _) (sh_rowsT _)) (by rw [any_rows])), fun _ => ed_var (i := 5) rfl hx⟩))) fun v4 H4 e4 hv4 => ?_
  rw [hf] at hv4
  exact q v4 H4 ((e2.trans e3).trans e4) hv4
end
end NS
set_option Elab.async false
set_option linter.all false
set_option maxRecDepth 100000
set_option maxHeartbeats 4000000
namespace NS
open PySem PySem.Spec PyProof.Rows L2
open Evl (Ex)
theorem lw_filter (a b : List Nat) : decide ((a.filter fun c => !decide (c ∈ b)).length = 0) = lw a b := by
  by_cases h : lw a b = true
  · rw [h, List.filter_eq_nil_iff.mpr fun c hc => by
      have := List.all_eq_true.mp h c hc
      simpa using this]
    rfl
  · rw [Bool.not_eq_true] at h
    rw [h, decide_eq_false_iff_not]
    intro e
    have e := List.filter_eq_nil_iff.mp (List.length_eq_zero_iff.mp e)
    have : lw a b = true := List.all_eq_true.mpr fun c hc => by
      have := e c hc
      simpa using this
    rw [h] at this
    cases this
theorem wiN_in {S : List (List Nat)} {s : List Nat} (hk : wiK S s = true) : ∀ {i : Nat}, i ≤ S.length → (s ∈ wiN S i ↔ s ∈ S.take i)
  | 0, _ => by simp [wiN]
  | i + 1, h => by
    have ih := wiN_in hk (i := i) (by omega)
    have hi : S[i]? = some S[i] := List.getElem?_eq_getElem (by omega)
    rw [wiN_succ, take_snoc hi, List.mem_append, List.mem_append, ih]
    by_cases e : s = S[i]
    · subst e
      by_cases h2 : S[i] ∈ S.take i
      · exact ⟨fun _ => .inl h2, fun _ => .inl h2⟩
      · refine ⟨fun _ => .inr (by simp), fun _ => .inr ?_⟩
        have : wiP S i = true := by unfold wiP; rw [getD_of (by omega), hk]; simpa using h2
        rw [if_pos this, getD_of (by omega)]
        simp
    · refine ⟨fun q => q.elim .inl fun q => ?_, fun q => q.elim .inl fun q => absurd (List.mem_singleton.mp q) e⟩
      by_cases h2 : wiP S i = true
      · rw [if_pos h2, getD_of (by omega)] at q
        exact absurd (List.mem_singleton.mp q) e
      · rw [if_neg h2] at q; cases q
section
variable {P : Program} {w : World} {K : Fg} {mg : Str → Option Value} {base : Heap}
/-- len(reach(book, one)) == width -/
theorem ed_reach {σ : L2.St} {H : Hp} {t : TA} {tw : TE} {E : XK} {n : Nat} {B : Book} {s : List Nat} (h : EvA K t σ H [.tuple (B.map depD), cols s]) (hw : EvD K tw σ H (nI n)) (n2 : n ≤ 100) (hb : B.length ≤ 1000) (ok : OkB n B) (hs : s.Sublist (List.range n)) :
    EvD K (tOp (rEqD K) (tCB (rLn K) (tCons (tCall (spReach K) [] E t) tNil)) tw) σ H (.bool (fullB B n s)) := fun H1 e Q q => by
  refine h H1 e _ fun vs H2 e2 hvs => ?_
  obtain ⟨x, y, rfl, hx, hy⟩ := dpAll2 hvs
  rw [List.append_nil]
  refine ⟨x, y, n, B, s, rfl, n2, hb, ok, hs, hx, hy, fun f fs H3 e3 hR hC hl => ?_⟩
  have := (ed_eqN (K := K) (i := fs.length) (j := n) (ta := tCB (rLn K) (tCons (fun _ H Q => Q (.ref f) H) tNil)) (tb := tw) (σ := σ) (H := H3) (ed_is (ed_lenL (ds := fs.map nI) (fun H4 e4 Q' q' => q' _ H4 (Ex.refl H4) (hl.ex e4).dp)) (by rw [List.length_map]; rfl)) (fun H4 e4 => hw H4 ((e.trans e2).trans (e3.trans e4)))) H3 (Ex.refl H3) Q fun v H4 e4 hv => q v H4 ((e2.trans e3).trans e4) ?_
  · exact this
  · have : decide (fs.length = n) = fullB B n s := by
      unfold fullB
      by_cases h : (clos B n s).length = n
      · rw [decide_eq_true h, decide_eq_true ((hR.len hC).mpr (clN_full.mpr (clos_full.mp h)))]
      · rw [decide_eq_false h, decide_eq_false fun q => h (clos_full.mpr (clN_full.mp ((hR.len hC).mp q)))]
    rw [← this]
    exact hv
/-! ### _law_synthesis -/
theorem sc_L_synthesis : FnScope ["_law_width", "_law_book", "_law_covered", "_law_sets_here", "_law_lefts", "_law_one", "_law_due", "_law_inner", "_law_settled", "_law_other", "_law_c"] ["_law_width", "_law_book", "_law_covered"] (defScope s_L_synthesis) := ⟨rfl, rfl, rfl, by decide +kernel, rfl, by decide +kernel, by decide +kernel⟩
noncomputable def spLSyn (K : Fg) : Sp := spF (α := Nat × Book) K (fun a => [nI a.1, .tuple (a.2.map depD), .tuple ((NS.cover a.2).map depD)]) (fun a => SyP a.1 a.2) (fun a => .tuple ((syn a.2 a.1).map cols))
theorem ok_L_synthesis (T : Txt K mg) : Good P w K mg base 2 "_law_synthesis" ["_law_width", "_law_book", "_law_covered"] (spLSyn K) := by
  refine good_of (q := "_law_synthesis") (st := s_L_synthesis) (N := ["_law_width", "_law_book", "_law_covered", "_law_sets_here", "_law_lefts", "_law_one", "_law_due", "_law_inner", "_law_settled", "_law_other", "_law_c"]) T.g__law_synthesis (T.def_ 37) sc_L_synthesis (fun _ _ _ _ _ _ us hl => match us, hl with | [_, _, _], _ => rfl) (len_spF fun _ => rfl) fun cdv A outer s H vs Q E hr h =>
    ⟨_, (pss_cons (ps_set (i := 3) sc_L_synthesis.nd rfl (by first | exact Or.inl rfl | exact Or.inr rfl) (pe_lst pa_nil))
        (pss_cons (ps_set (i := 4) sc_L_synthesis.nd rfl (by first | exact Or.inl rfl | exact Or.inr rfl) (pe_lst pa_nil))
        (pss_cons (ps_for PassesOwn.never rfl (kSq (K := K) rfl (pv 2)) (pg_name (i := 5) sc_L_synthesis.nd rfl (by first | exact Or.inl rfl | exact Or.inr rfl)) (pss_one (ps_if (pt_cmpR (kNin (K := K) rfl (room65 hr)) (pe_ix (kIx (K := K) rfl) (pv 5) pe_int (fun _ _ => rfl)) (pv 4) (by with_unfolding_all rfl)) (pss_cons (ps_expr (kBm (K := K) rfl PySem.F.plainAttrs_list PySem.F.slot_list_append PySem.F.type_list_append mt_append (pv 4) (pa_cons (pe_ix (kIx (K := K) rfl) (pv 5) pe_int (fun _ _ => rfl)) pa_nil)))
        (pss_cons (ps_setLc (i := 8) (own := [("_law_other", 9)]) (g := gName 9) rfl sc_L_synthesis.nd rfl rfl (sw_true rfl rfl rfl (by kernel_rfl)) (kSq (K := K) rfl (pv 2)) (blkOk_by (by kernel_rfl)) (fun _ _ _ _ _ => (pg_name (i := 9) sc_L_synthesis.nd rfl (by first | exact Or.inl rfl | exact Or.inr rfl))) (fun _ _ _ _ _ => pts_one (pt_cmpR (kEq (K := K) rfl (room64 hr)) (pe_ix (kIx (K := K) rfl) (pv 9) pe_int (fun _ _ => rfl)) (pe_ix (kIx (K := K) rfl) (pv 5) pe_int (fun _ _ => rfl)) (nomark _))) (fun _ _ _ _ _ => (pe_ix (kIx (K := K) rfl) (pe_ix (kIx (K := K) rfl) (pv 9) pe_int (fun _ _ => rfl)) pe_int (fun _ _ => rfl))))
        (pss_one (ps_expr (kBm (K := K) rfl PySem.F.plainAttrs_list PySem.F.slot_list_append PySem.F.type_list_append mt_append (pv 3) (pa_cons (kTuple (K := K) rfl rfl T.tuple0 (pe_callB (kSortedSet rfl rfl) rfl T.sorted0 PyProof.Rows.boot_sorted (pa_cons (pe_callTy (kSetTI (K := K) rfl rfl rfl) rfl T.set0 PyProof.Rows.boot_set (pa_cons (pe_op (kPlus (K := K) rfl) (pe_ix (kIx (K := K) rfl) (pv 5) pe_int (fun _ _ => rfl)) (kTuple (K := K) rfl rfl T.tuple0 (pv 8))) pa_nil)) pa_nil))) pa_nil)))))) pss_nil)))
        (pss_cons (ps_if (pt_cmpR (kEq (K := K) rfl (room64 hr)) (pe_callB (kLen (K := K) rfl) rfl T.len0 PySem.boot_len (pa_cons (pe_lc (own := [("_law_one", 5)]) (g := gName 5) rfl sc_L_synthesis.nd (kSq (K := K) rfl (pv 3)) (blkOk_by (by kernel_rfl)) (fun _ _ _ _ _ => (pg_name (i := 5) sc_L_synthesis.nd rfl (by first | exact Or.inl rfl | exact Or.inr rfl))) (fun _ _ _ _ _ => pts_one (pt_cmpR (kEq (K := K) rfl (room64 hr)) (pe_callB (kLen (K := K) rfl) rfl T.len0 PySem.boot_len (pa_cons (pe_callG (ok_L_reach (P := P) (w := w) (base := base) T) (hr.mono (by decide)) rfl (pa_cons (pv 1) (pa_cons (pv 5) pa_nil))) pa_nil)) (pv 0) (nomark _))) (fun _ _ _ _ _ => (pv 5))) pa_nil)) pe_int (nomark _)) (pss_one (ps_for PassesOwn.never rfl (kSq (K := K) rfl (pe_callG (ok_L_sets (P := P) (w := w) (base := base) T) (hr.mono (by decide)) rfl (pa_cons (pe_tupRg rfl rfl T.tuple0 (prg_1 rfl T.range0 (pv 0))) pa_nil))) (pg_name (i := 5) sc_L_synthesis.nd rfl (by first | exact Or.inl rfl | exact Or.inr rfl)) (pss_one (ps_if (pt_cmpR (kEq (K := K) rfl (room64 hr)) (pe_callB (kLen (K := K) rfl) rfl T.len0 PySem.boot_len (pa_cons (pe_callG (ok_L_reach (P := P) (w := w) (base := base) T) (hr.mono (by decide)) rfl (pa_cons (pv 1) (pa_cons (pv 5) pa_nil))) pa_nil)) (pv 0) (nomark _)) (pss_cons (ps_expr (kBm (K := K) rfl PySem.F.plainAttrs_list PySem.F.slot_list_append PySem.F.type_list_append mt_append (pv 3) (pa_cons (pv 5) pa_nil)))
        (pss_one ps_break)) pss_nil)))) pss_nil)
        (pss_cons (ps_set (i := 6) sc_L_synthesis.nd rfl (by first | exact Or.inl rfl | exact Or.inr rfl) (pe_lst pa_nil))
        (pss_cons (ps_for PassesOwn.never rfl (kSq (K := K) rfl (pv 3)) (pg_name (i := 5) sc_L_synthesis.nd rfl (by first | exact Or.inl rfl | exact Or.inr rfl)) (pss_cons (ps_setLc (i := 7) (own := [("_law_other", 9)]) (g := gName 9) rfl sc_L_synthesis.nd rfl rfl (sw_true rfl rfl rfl (by kernel_rfl)) (kSq (K := K) rfl (pv 3)) (blkOk_by (by kernel_rfl)) (fun _ _ _ _ _ => (pg_name (i := 9) sc_L_synthesis.nd rfl (by first | exact Or.inl rfl | exact Or.inr rfl))) (fun _ _ _ _ _ => pts_one (PW.pt (pw_and (pt_cmpR (kNe (K := K) rfl (room64 hr)) (pv 9) (pv 5) (nomark _)) (pw_and1 (pt_cmpR (kEq (K := K) rfl (room64 hr)) (pe_callB (kLen (K := K) rfl) rfl T.len0 PySem.boot_len (pa_cons (pe_lc (own := [("_law_c", 10)]) (g := gName 10) rfl sc_L_synthesis.nd (kSq (K := K) rfl (pv 5)) (blkOk_by (by kernel_rfl)) (fun _ _ _ _ _ => (pg_name (i := 10) sc_L_synthesis.nd rfl (by first | exact Or.inl rfl | exact Or.inr rfl))) (fun _ _ _ _ _ => pts_one (pt_cmpR (kNin (K := K) rfl (room65 hr)) (pv 10) (pv 9) (by with_unfolding_all rfl))) (fun _ _ _ _ _ => (pv 10))) pa_nil)) pe_int (nomark _)))))) (fun _ _ _ _ _ => (pv 9)))
        (pss_one (ps_if (PW.pt (pw_and (pt_cmpR (kEq (K := K) rfl (room64 hr)) (pe_callB (kLen (K := K) rfl) rfl T.len0 PySem.boot_len (pa_cons (pv 7) pa_nil)) pe_int (nomark _)) (pw_and1 (pt_cmpR (kNin (K := K) rfl (room65 hr)) (pv 5) (pv 6) (by with_unfolding_all rfl))))) (pss_one (ps_expr (kBm (K := K) rfl PySem.F.plainAttrs_list PySem.F.slot_list_append PySem.F.type_list_append mt_append (pv 6) (pa_cons (pv 5) pa_nil)))) pss_nil))))
        (pss_one (ps_ret (kTuple (K := K) rfl rfl T.tuple0 (pv 6)))))))))), ?_⟩
  obtain ⟨⟨n, B⟩, hv, p, q⟩ := h
  obtain ⟨v1, v2, v3, rfl, h1, h2, hf⟩ := dpAll3 hv
  have h1i := h1.int_inv
  subst h1i
  have p : SyP n B := p
  have h2 : Dp K H v2 (.tuple (B.map depD)) := h2
  have hf : Dp K H v3 (.tuple ((NS.cover B).map depD)) := hf
  have n2 := p.n2
  have n1 := p.n1
  have bl := p.bl
  have okC := cover_ok p.ok
  have oneC : ∀ e ∈ NS.cover B, ∃ c, e.r = [c] := fun e he => cover_one he
  have hnB : n * B.length ≤ 5 * 4 := Nat.mul_le_mul n2 bl
  have lenC := cover_len p.ok
  refine q_setL (K := K) (en_lst ea_nil (by simp)) fun ps H3 hps e3 hl3 => ?_
  refine q_setL (K := K) (en_lst ea_nil (by simp)) fun pl H4 hpl e4 hl4 => ?_
  have e04 := e3.trans e4
  have npp : ps ≠ pl := fun e => by obtain ⟨u, hu⟩ := hl3.at; rw [e, hpl] at hu; cases hu
  have hs4 := hl3.ex e4
  have hf4 := (hf.ex e3).ex e4
  have tr4 : Trk H4 [ps, pl] := hs4.trkC hl4.trk
  have hpsn : H ps = none := hps
  have hpln : H pl = none := Evl.fresh_back e3 hpl
  refine q_for (K := K) (M := [ps, pl]) (as := NS.cover B) (enc := depD) (es_tupX (ed_var rfl hf4) tr4 (nl_all nl_dep _))
    (fun i σ' H' => ∃ (s5 s8 s9 : Option V), σ' = [some (.int n), some v2, some v3, some (.ref ps), some (.ref pl), s5, none, none, s8, s9, none] ∧ Lst K H' ps (((dL ((NS.cover B).take i)).map (sset n (NS.cover B))).map cols) ∧ Lst K H' pl ((dL ((NS.cover B).take i)).map cols))
    ⟨_, _, _, rfl, hs4, hl4⟩ (fun _ _ _ _ h e => let ⟨s6, s7, s8, h1, h2, h3⟩ := h; ⟨s6, s7, s8, h1, h2.ex e, h3.ex e⟩) ?_ ?_
  · rintro i d x σ1 H5 hd ⟨s5, s8, s9, rfl, hls, hll⟩ e5 hx
    have hdC := List.mem_of_getElem? hd
    have okd := okC d hdC
    refine ⟨_, tgt_name, fun H6 e6 N hN => ?_⟩
    have hls6 := hls.ex e6
    have hll6 := hll.ex e6
    have g6 := hx.ex e6
    have hf6 := (hf4.keep tr4.muts e5 (nl_all nl_dep _)).ex e6
    have hdl : (dL ((NS.cover B).take i)).length ≤ 20 := by
      have h1 := dL_len ((NS.cover B).take i)
      rw [List.length_take] at h1
      omega
    refine s_when (et_test (ed_is (ed_niL (ed_ixT (n := 2) (d := cols d.l) (ed_var rfl g6) ed_i rfl) (ed_var rfl hll6.dp) (sh_cols _) (sh_setsL _)) (by rw [any_sets]))) (fun hb H7 e7 => ?_) (fun hb H7 e7 => ?_)
    · have hnin : d.l ∉ dL ((NS.cover B).take i) := by simpa using hb
      have hll7 := hll6.ex e7
      refine q_app rfl hll7 (nl_all nl_cols _) (nl_cols d.l) (by rw [List.length_map]; omega) (ed_ixT (n := 2) (d := cols d.l) (ed_var rfl (g6.ex e7)) ed_i rfl) fun H8 e8 hll8 => ?_
      have hls8 : Lst K H8 ps (((dL ((NS.cover B).take i)).map (sset n (NS.cover B))).map cols) := (hls6.ex e7).keep hll7.mut e8 (by simpa using npp) (nl_all nl_cols _)
      have g8 := (g6.ex e7).keep hll7.mut e8 (nl_dep _)
      have hf8 := (hf6.ex e7).keep hll7.mut e8 (nl_all nl_dep _)
      refine q_setL (K := K) (en_lcF (K := K) (as := NS.cover B) (enc := depD) (fun e => decide (e.l = d.l)) (fun e => nI (e.r.headD 0)) (es_sqT (ed_var rfl hf8)) (by omega) (fun _ _ => rfl) fun e he u H9 e9 hu => ?_) fun pe H9 hpe e9 hle => ?_
      · obtain ⟨c, hc⟩ := oneC e he
        exact ⟨_, tgt_name, rfl, et_test (ed_eqC (ed_ixT (n := 2) (d := cols e.l) (ed_var rfl hu) ed_i rfl) (ed_ixT (n := 2) (d := cols d.l) (ed_var rfl (g8.ex e9)) ed_i rfl)), fun _ => ed_ixT (n := 0) (ed_ixT (n := 3) (d := cols e.r) (ed_var rfl hu) ed_i rfl) ed_i (by rw [hc]; rfl)⟩
      · have hle' : Lst K H9 pe ((sett (NS.cover B) d.l).map nI) := by unfold sett; rw [List.map_map]; exact hle
        have hstl : (sett (NS.cover B) d.l).length ≤ 20 := by
          unfold sett
          rw [List.length_map]
          have := List.length_filter_le (fun e => decide (e.l = d.l)) (NS.cover B)
          omega
        have hdll := sub_len okd.l
        refine s_app rfl (hls8.ex e9) (nl_all nl_cols _) (nl_cols (sset n (NS.cover B) d.l)) (by rw [List.length_map, List.length_map]; omega)
          (ed_tupC' (en_sortSet (n := n) (cs := d.l ++ sett (NS.cover B) d.l) (ed_is (ed_addT (ed_ixT (n := 2) (d := cols d.l) (ed_var rfl (g8.ex e9)) ed_i rfl) (ed_tupL (ed_var rfl hle'.dp)) (by rw [List.length_map, List.length_map]; omega)) (by unfold cols; rw [List.map_append])) (fun c hc => ?_) (by rw [List.length_append]; omega))) fun H10 e10 hls10 => hN _ _ ⟨_, _, _, rfl, ?_, ?_⟩ ?_
        · rcases List.mem_append.mp hc with h | h
          · exact sub_lt okd.l h
          · exact sett_mem okC oneC h
        · rw [take_snoc hd, dL_snoc]
          unfold dLs
          rw [if_neg hnin, List.map_append, List.map_append]
          exact hls10
        · rw [take_snoc hd, dL_snoc]
          unfold dLs
          rw [if_neg hnin, List.map_append]
          exact (hll8.ex e9).keep (hls8.ex e9).mut e10 (by simpa using npp.symm) (nlAll_append.trans (by rw [nl_all nl_cols]; simp [nlAll, nl_cols]))
        · exact (((ExB.of e7).trans (e8.mono (by simp))).then e9).trans (e10.mono (by simp))
    · have hin : d.l ∈ dL ((NS.cover B).take i) := by simpa using hb
      refine hN _ _ ⟨_, _, _, rfl, ?_, ?_⟩ (.of e7)
      · rw [take_snoc hd, dL_snoc]; unfold dLs; rw [if_pos hin]; exact hls6.ex e7
      · rw [take_snoc hd, dL_snoc]; unfold dLs; rw [if_pos hin]; exact hll6.ex e7
  · rintro σ1 H5 ⟨s5, s8, s9, rfl, hls, hll⟩ e5
    rw [List.take_length] at hls
    have hls : Lst K H5 ps ((sy0 n (NS.cover B)).map cols) := hls
    have h25 := (h2.ex e04).keep tr4.muts e5 (nl_all nl_dep B)
    have hsub : ∀ s ∈ sy0 n (NS.cover B), s.Sublist (List.range n) := fun s hs => by
      obtain ⟨l, _, rfl⟩ := List.mem_map.mp hs
      exact norm_sub _ _
    have hsl : (sy0 n (NS.cover B)).length ≤ 20 := by
      unfold sy0
      rw [List.length_map]
      have := dL_len (NS.cover B)
      omega
    have eH5 : Ex H H5 := by
      have x : ExB [ps, pl] H H5 := (ExB.of e04).trans e5
      exact ((x.drop hpsn).drop hpln).nil
    have hany : decide (((sy0 n (NS.cover B)).filter (fullB B n)).length = 0) = !(sy0 n (NS.cover B)).any (fullB B n) := by
      by_cases h : (sy0 n (NS.cover B)).any (fullB B n) = true
      · obtain ⟨s, hs, hf⟩ := List.any_eq_true.mp h
        rw [h, decide_eq_false fun e => by
          have := List.filter_eq_nil_iff.mp (List.length_eq_zero_iff.mp e) s hs
          exact this hf]
        rfl
      · rw [Bool.not_eq_true] at h
        rw [h, decide_eq_true]
        · rfl
        · rw [List.length_eq_zero_iff, List.filter_eq_nil_iff]
          intro s hs hf
          rw [List.any_eq_true.mpr ⟨s, hs, hf⟩] at h
          cases h
    refine q_whenX (fun σ' H' => ∃ s5, σ' = [some (.int n), some v2, some v3, some (.ref ps), some (.ref pl), s5, none, none, s8, s9, none] ∧ ExB [ps] H5 H' ∧ Lst K H' ps ((sy1 B n (NS.cover B)).map cols)) (b := !((sy0 n (NS.cover B)).any (fullB B n)))
      (et_test (ed_is (ed_eqN (i := ((sy0 n (NS.cover B)).filter (fullB B n)).length) (ed_is (ed_lenL (EvN.toD (en_lcF (K := K) (as := sy0 n (NS.cover B)) (enc := cols) (fullB B n) cols (es_sqL (ed_var rfl hls.dp)) (by omega) (fun _ _ => nl_cols _) fun s hs u H6 e6 hu =>
        ⟨_, tgt_name, rfl, et_test (ed_reach (ea2 (ed_var rfl (h25.ex e6)) (ed_var rfl hu)) (ed_var rfl (.int _)) (by omega) (by omega) p.ok (hsub s hs)), fun _ => ed_var rfl hu⟩))) (by rw [List.length_map]; rfl)) ed_n0) (by rw [hany])))
      (fun hb H6 e6 N hN => ?_) (fun hb H6 e6 => ?_) ?_
    · have hsy1 : sy1 B n (NS.cover B) = sy0 n (NS.cover B) ++ [kOne B n] := by unfold sy1; rw [if_neg (by simpa using hb)]
      refine s_for (K := K) (M := [ps]) (as := soS n) (enc := cols) (es_newX (en_call n (ea1 (ed_tupRg (n := n) (ed_var rfl (.int _)) (by omega))) n2) (hls.ex e6).trk (nl_all nl_cols _))
        (fun i σ' H' => ∃ s5, σ' = [some (.int n), some v2, some v3, some (.ref ps), some (.ref pl), s5, none, none, s8, s9, none] ∧ Lst K H' ps ((sy0 n (NS.cover B)).map cols) ∧ Ex H6 H' ∧ ∀ s ∈ (soS n).take i, fullB B n s = false)
        ⟨_, rfl, hls.ex e6, Ex.refl _, fun _ h => by cases h⟩ (fun _ _ _ _ h e => let ⟨s6, h1, h2, h3, h4⟩ := h; ⟨s6, h1, h2.ex e, h3.trans e, h4⟩) ?_ ?_
      · rintro i s x σ1 H7 hs ⟨s5, rfl, hls7, e67, hno⟩ e7 hx
        have hsm := List.mem_of_getElem? hs
        refine ⟨_, tgt_name, fun H8 e8 N2 hN2 => ?_⟩
        have h28 := ((h25.ex e6).ex e67).ex e8
        refine s_when (et_test (ed_reach (ea2 (ed_var rfl h28) (ed_var rfl (hx.ex e8))) (ed_var rfl (.int _)) (by omega) (by omega) p.ok (soS_sub hsm))) (fun hf H9 e9 => ?_) (fun hf H9 e9 => ?_)
        · have hk : kOne B n = s := by
            unfold kOne
            have : (soS n).find? (fullB B n) = some s := by
              obtain ⟨hi, hsi⟩ := List.getElem?_eq_some_iff.mp hs
              refine List.find?_eq_some_iff_getElem.mpr ⟨hf, i, hi, hsi, fun j hj => ?_⟩
              have hm : (soS n)[j]'(by omega) ∈ (soS n).take i := by
                refine List.mem_iff_getElem.mpr ⟨j, by rw [List.length_take]; omega, by rw [List.getElem_take]⟩
              rw [hno _ hm]; rfl
            rw [this]; rfl
          refine q_app rfl ((hls7.ex e8).ex e9) (nl_all nl_cols _) (nl_cols s) (by rw [List.length_map]; omega) (ed_var rfl ((hx.ex e8).ex e9)) fun H10 e10 hl10 => ?_
          refine hN _ _ ⟨_, rfl, (ExB.of (((e6.trans e67).trans e8).trans e9)).trans e10, ?_⟩
          rw [hsy1, hk, List.map_append]
          exact hl10
        · refine hN2 _ _ ⟨_, rfl, (hls7.ex e8).ex e9, (e67.trans e8).trans e9, fun s' hs' => ?_⟩ (.of e9)
          rw [take_snoc hs] at hs'
          rcases List.mem_append.mp hs' with h | h
          · exact hno s' h
          · rw [List.mem_singleton.mp h]; exact hf
      · rintro σ1 H7 ⟨s5, rfl, hls7, e67, hno⟩ e7
        rw [List.take_length] at hno
        obtain ⟨k, hk1, hk2, hk3, hk4⟩ := find_full (B := B) (n := n)
        rw [hno k hk3] at hk4
        cases hk4
    · refine ⟨_, rfl, .of e6, ?_⟩
      have : sy1 B n (NS.cover B) = sy0 n (NS.cover B) := by
        unfold sy1
        rw [if_pos (by simpa using hb), List.append_nil]
      rw [this]
      exact hls.ex e6
    · rintro σ2 H6 ⟨s5', rfl, e6, hl6⟩
      have hs1 : ∀ s ∈ sy1 B n (NS.cover B), s.Sublist (List.range n) := fun s hs => by
        unfold sy1 at hs
        rcases List.mem_append.mp hs with h | h
        · exact hsub s h
        · by_cases e : (sy0 n (NS.cover B)).any (fullB B n) = true
          · rw [if_pos e] at h; cases h
          · rw [if_neg e] at h
            rw [List.mem_singleton.mp h]
            exact kOne_sub
      have hl1 : (sy1 B n (NS.cover B)).length ≤ 21 := by
        unfold sy1
        rw [List.length_append]
        by_cases e : (sy0 n (NS.cover B)).any (fullB B n) = true
        · rw [if_pos e]; simp; omega
        · rw [if_neg e]; simp; omega
      have eH6 : Ex H H6 := by
        have x : ExB [ps] H H6 := (ExB.of eH5).trans e6
        exact (x.drop hpsn).nil
      have hsyn : syn B n = wi (sy1 B n (NS.cover B)) := rfl
      generalize hS : sy1 B n (NS.cover B) = S at hl6 hs1 hl1 hsyn
      refine q_setL (K := K) (en_lst ea_nil (by simp)) fun pd H7 hpd e7 hl7 => ?_
      have npd : ps ≠ pd := fun e => by obtain ⟨u, hu⟩ := hl6.at; rw [e, hpd] at hu; cases hu
      refine q_for (K := K) (M := [pd]) (as := S) (enc := cols) (es_lstX rfl (hl6.ex e7) (by simpa using npd) hl7.trk (nl_all nl_cols _))
        (fun i σ' H' => ∃ s5 s7 s9 s10, σ' = [some (.int n), some v2, some v3, some (.ref ps), some (.ref pl), s5, some (.ref pd), s7, s8, s9, s10] ∧ Lst K H' ps (S.map cols) ∧ Lst K H' pd ((wiN S i).map cols))
        ⟨_, _, _, _, rfl, hl6.ex e7, hl7⟩ (fun _ _ _ _ h e => let ⟨a1, a2, a3, a4, h1, h2, h3⟩ := h; ⟨a1, a2, a3, a4, h1, h2.ex e, h3.ex e⟩) ?_ ?_
      · rintro i s x σ1 H8 hs ⟨a5, a7, a9, a10, rfl, hp8, hd8⟩ e8 hx
        have hsm := List.mem_of_getElem? hs
        obtain ⟨hi, hsi⟩ := List.getElem?_eq_some_iff.mp hs
        have hg : S.getD i [] = s := by rw [getD_of hi]; exact hsi
        refine ⟨_, tgt_name, fun H9 e9 N hN => ?_⟩
        have hp9 := hp8.ex e9
        have hd9 := hd8.ex e9
        have hx9 := hx.ex e9
        refine q_setL (K := K) (en_lcF (as := S) (enc := cols) (fun o => !decide (o = s) && lw s o) cols (es_sqL (ed_var rfl hp9.dp)) (by omega) (fun _ _ => nl_cols _) fun o ho u H10 e10 hu =>
          ⟨_, tgt_name, rfl, Evl.et_and (et_test (ed_neC (ed_var rfl hu) (ed_var rfl (hx9.ex e10)))) (fun _ => et_test (ed_is (ed_eqN (i := (s.filter fun c => !decide (c ∈ o)).length) (ed_is (ed_lenL (EvN.toD (en_lcF (K := K) (as := s) (enc := nI) (fun c => !decide (c ∈ o)) nI (es_sqT (ed_var rfl (hx9.ex e10))) (Nat.le_trans (sub_len (hs1 s hsm)) (by omega)) (fun _ _ => rfl) fun c hc z H11 e11 hz =>
            ⟨_, tgt_name, rfl, et_test (ed_niC (ed_var rfl hz) (ed_var rfl (hu.ex e11))), fun _ => ed_var rfl hz⟩))) (by rw [List.length_map]; rfl)) ed_n0) (by rw [lw_filter]))), fun _ => ed_var rfl hu⟩) fun r H10 hr e10 hlr => ?_
        refine s_when (b := wiK S s && !decide (s ∈ wiN S i)) (Evl.et_and (et_test (ed_is (ed_eqN (ed_lenL (ed_var rfl hlr.dp)) ed_n0) ?_)) fun _ => et_test (ed_is (ed_niL (ed_var rfl (hx9.ex e10)) (ed_var rfl (hd9.ex e10).dp) (sh_cols _) (sh_setsL _)) (by rw [any_sets]))) (fun hb H11 e11 => ?_) (fun hb H11 e11 => ?_)
        · rw [List.length_map]; rfl
        · rw [Bool.and_eq_true] at hb
          have hP : wiP S i = true := by
            unfold wiP
            rw [hg, hb.1, Bool.true_and]
            have : s ∉ wiN S i := by simpa using hb.2
            rw [wiN_in hb.1 (by omega)] at this
            simpa using this
          have hd11 := (hd9.ex e10).ex e11
          refine s_app rfl hd11 (nl_all nl_cols _) (nl_cols s) (by rw [List.length_map]; have := wiN_len S i; omega) (ed_var rfl ((hx9.ex e10).ex e11)) fun H12 e12 hl12 => hN _ _ ⟨_, _, _, _, rfl, ?_, ?_⟩ ?_
          · exact ((hp9.ex e10).ex e11).keep hd11.mut e12 (by simpa using npd) (nl_all nl_cols _)
          · rw [wiN_succ, if_pos hP, List.map_append, hg]
            exact hl12
          · exact (ExB.of (e10.trans e11)).trans e12
        · have hP : ¬ wiP S i = true := fun h => by
            unfold wiP at h
            rw [hg, Bool.and_eq_true] at h
            rw [h.1, Bool.true_and] at hb
            have h3 : s ∈ wiN S i := by simpa using hb
            rw [wiN_in h.1 (by omega)] at h3
            simp [h3] at h
          refine hN _ _ ⟨_, _, _, _, rfl, (hp9.ex e10).ex e11, ?_⟩ (ExB.of (e10.trans e11))
          rw [wiN_succ, if_neg hP, List.append_nil]
          exact (hd9.ex e10).ex e11
      · rintro σ3 H8 ⟨a5, a7, a9, a10, rfl, hp8, hd8⟩ e8
        refine s_ret (K := K) (ed_tupL (ed_var rfl hd8.dp)) fun v H9 e9 hv => q v H9 ?_ ?_
        · exact eH6.trans ((ExB.out e7 e8 (by simpa using hpd)).trans e9)
        · show Dp K H9 v (.tuple ((syn B n).map cols))
          rw [hsyn]; exact hv
end
end NS
set_option Elab.async false
set_option linter.all false
set_option maxRecDepth 100000
set_option maxHeartbeats 4000000
namespace NS
open PySem PySem.Spec PyProof.Rows L2
open Evl (Ex)
/-! ### the plain end: what the synthesis' sets keep -/
theorem sub_filter {l s : List Nat} (h : s.Sublist l) (nd : l.Nodup) : l.filter (fun c => decide (c ∈ s)) = s := by
  induction h with
  | slnil => rfl
  | @cons s l a h ih =>
    have h1 := (List.nodup_cons.mp nd)
    rw [List.filter_cons, if_neg (by
      rw [decide_eq_true_iff]
      exact fun q => h1.1 (h.subset q))]
    exact ih h1.2
  | @cons_cons s l a h ih =>
    have h1 := (List.nodup_cons.mp nd)
    rw [List.filter_cons, if_pos (by simp)]
    congr 1
    rw [← ih h1.2]
    rw [ih h1.2]
    conv => rhs; rw [← ih h1.2]
    refine List.filter_congr fun x hx => ?_
    have hne : x ≠ a := fun e => h1.1 (e ▸ hx)
    simp [hne]
theorem sub_ext {n : Nat} {s t : List Nat} (hs : s.Sublist (List.range n)) (ht : t.Sublist (List.range n)) (h : ∀ c, c ∈ s ↔ c ∈ t) : s = t := by
  rw [← sub_filter hs List.nodup_range, ← sub_filter ht List.nodup_range]
  refine List.filter_congr fun c _ => ?_
  by_cases q : c ∈ s
  · rw [decide_eq_true q, decide_eq_true ((h c).mp q)]
  · rw [decide_eq_false q, decide_eq_false fun r => q ((h c).mpr r)]
theorem sub_less {n : Nat} {s t : List Nat} (hs : s.Sublist (List.range n)) (ht : t.Sublist (List.range n)) (h : ∀ c ∈ s, c ∈ t) (ne : t ≠ s) : s.length < t.length := by
  refine Classical.byContradiction fun hl => ne ?_
  refine sub_ext ht hs fun c => ⟨fun hc => Classical.byContradiction fun hn => hl ?_, h c⟩
  have := nodup_inclG (List.nodup_cons.mpr ⟨hn, sub_nodup hs⟩) (m := t) fun x hx => by
    rcases List.mem_cons.mp hx with rfl | hx
    · exact hc
    · exact h x hx
  rw [List.length_cons] at this
  omega
theorem wi_max {S : List (List Nat)} {n : Nat} (hS : ∀ s ∈ S, s.Sublist (List.range n)) : ∀ (m : Nat) (s : List Nat), s ∈ S → n - s.length ≤ m → ∃ t ∈ wi S, ∀ c ∈ s, c ∈ t := by
  intro m
  induction m with
  | zero =>
    intro s hs hm
    by_cases h : wiK S s = true
    · exact ⟨s, (wiN_in h (Nat.le_refl _)).mpr (by rw [List.take_length]; exact hs), fun c h => h⟩
    · unfold wiK at h
      rw [decide_eq_true_iff] at h
      obtain ⟨o, ho⟩ := List.exists_mem_of_length_pos (Nat.pos_of_ne_zero h)
      obtain ⟨ho, hp⟩ := List.mem_filter.mp ho
      rw [Bool.and_eq_true] at hp
      have hne : o ≠ s := by simpa using hp.1
      have hlt := sub_less (hS s hs) (hS o ho) (fun c hc => of_decide_eq_true (List.all_eq_true.mp hp.2 c hc)) hne
      have := sub_len (hS o ho)
      omega
  | succ m ih =>
    intro s hs hm
    by_cases h : wiK S s = true
    · exact ⟨s, (wiN_in h (Nat.le_refl _)).mpr (by rw [List.take_length]; exact hs), fun c h => h⟩
    · unfold wiK at h
      rw [decide_eq_true_iff] at h
      obtain ⟨o, ho⟩ := List.exists_mem_of_length_pos (Nat.pos_of_ne_zero h)
      obtain ⟨ho, hp⟩ := List.mem_filter.mp ho
      rw [Bool.and_eq_true] at hp
      have hne : o ≠ s := by simpa using hp.1
      have hsub := fun c hc => of_decide_eq_true (List.all_eq_true.mp hp.2 c hc)
      have hlt := sub_less (hS s hs) (hS o ho) hsub hne
      obtain ⟨t, ht, htc⟩ := ih o ho (by omega)
      exact ⟨t, ht, fun c hc => htc c (hsub c hc)⟩
theorem wi_K {S : List (List Nat)} {s : List Nat} (h : s ∈ wi S) : wiK S s = true := by
  obtain ⟨i, hi, rfl⟩ := List.mem_map.mp h
  have := (List.mem_filter.mp hi).2
  unfold wiP at this
  rw [Bool.and_eq_true] at this
  exact this.1
theorem sy1_sub {B C : Book} {n : Nat} : ∀ s ∈ sy1 B n C, s.Sublist (List.range n) := fun s hs => by
  unfold sy1 at hs
  rcases List.mem_append.mp hs with h | h
  · obtain ⟨l, _, rfl⟩ := List.mem_map.mp h
    exact norm_sub _ _
  · by_cases e : (sy0 n C).any (fullB B n) = true
    · rw [if_pos e] at h; cases h
    · rw [if_neg e] at h
      rw [List.mem_singleton.mp h]
      exact kOne_sub
theorem dep_in {B : Book} {n : Nat} (ok : OkB n B) {d : Dep} (hd : d ∈ NS.cover B) : sset n (NS.cover B) d.l ∈ sy0 n (NS.cover B) ∧ (∀ x ∈ d.l, x ∈ sset n (NS.cover B) d.l) ∧ ∀ c ∈ d.r, c ∈ sset n (NS.cover B) d.l := by
  have okC := cover_ok ok
  have oneC : ∀ e ∈ NS.cover B, ∃ c, e.r = [c] := fun e he => cover_one he
  have hlt : ∀ c ∈ d.l ++ sett (NS.cover B) d.l, c < n := fun c hc => by
    rcases List.mem_append.mp hc with h | h
    · exact sub_lt (okC d hd).l h
    · exact sett_mem okC oneC h
  refine ⟨List.mem_map.mpr ⟨d.l, (mem_dL _ _).mpr ⟨d, hd, rfl⟩, rfl⟩, fun x hx => (mem_norm hlt).mpr (List.mem_append_left _ hx), fun c hc => (mem_norm hlt).mpr (List.mem_append_right _ ?_)⟩
  obtain ⟨c0, h0⟩ := oneC d hd
  rw [h0] at hc
  rw [List.mem_singleton.mp hc]
  exact List.mem_map.mpr ⟨d, List.mem_filter.mpr ⟨hd, decide_eq_true rfl⟩, by rw [h0]; rfl⟩
theorem sy0_sy1 {B C : Book} {n : Nat} {s : List Nat} (h : s ∈ sy0 n C) : s ∈ sy1 B n C := by
  unfold sy1
  exact List.mem_append_left _ h
theorem full_in {B : Book} {n : Nat} : ∃ s ∈ sy1 B n (NS.cover B), ∀ c, c < n → Cl B s c := by
  by_cases e : (sy0 n (NS.cover B)).any (fullB B n) = true
  · obtain ⟨s, hs, hf⟩ := List.any_eq_true.mp e
    exact ⟨s, sy0_sy1 hs, clos_full.mp (of_decide_eq_true hf)⟩
  · obtain ⟨k, _, hk, _, hf⟩ := find_full (B := B) (n := n)
    refine ⟨k, ?_, clos_full.mp (of_decide_eq_true hf)⟩
    unfold sy1
    rw [if_neg e, hk]
    simp
/-- what holds of the synthesis' sets -/
structure SynOk (n : Nat) (B : Book) (S : List (List Nat)) : Prop where
  sub : ∀ s ∈ S, s.Sublist (List.range n)
  dep : ∀ d ∈ NS.cover B, ∃ s ∈ S, (∀ x ∈ d.l, x ∈ s) ∧ ∀ c ∈ d.r, c ∈ s
  key : ∃ s ∈ S, ∀ c, c < n → Cl B s c
  ne : ∀ s ∈ S, s ≠ []
  cov : ∀ c, c < n → ∃ s ∈ S, c ∈ s
  len : 1 ≤ S.length ∧ S.length ≤ 21
theorem syn_ok {n : Nat} {B : Book} (p : SyP n B) : SynOk n B (syn B n) := by
  have ok := p.ok
  have hmax : ∀ s ∈ sy1 B n (NS.cover B), ∃ t ∈ syn B n, ∀ c ∈ s, c ∈ t := fun s hs => wi_max sy1_sub n s hs (Nat.sub_le _ _)
  have hin : ∀ s ∈ syn B n, s ∈ sy1 B n (NS.cover B) := fun s hs => wiN_mem (Nat.le_refl _) hs
  have hdep : ∀ d ∈ NS.cover B, ∃ s ∈ syn B n, (∀ x ∈ d.l, x ∈ s) ∧ ∀ c ∈ d.r, c ∈ s := fun d hd => by
    obtain ⟨h1, h2, h3⟩ := dep_in ok hd
    obtain ⟨t, ht, hs⟩ := hmax _ (sy0_sy1 h1)
    exact ⟨t, ht, fun x hx => hs x (h2 x hx), fun c hc => hs c (h3 c hc)⟩
  have hkey : ∃ s ∈ syn B n, ∀ c, c < n → Cl B s c := by
    obtain ⟨s, hs, hf⟩ := full_in (B := B) (n := n)
    obtain ⟨t, ht, hst⟩ := hmax s hs
    exact ⟨t, ht, fun c hc => (hf c hc).mono hst⟩
  refine ⟨fun s hs => sy1_sub s (hin s hs), hdep, hkey, fun s hs he => ?_, fun c hc => ?_, ?_, ?_⟩
  · subst he
    have hK := wi_K (S := sy1 B n (NS.cover B)) hs
    have hno : ∀ d, d ∉ NS.cover B := fun d hd => by
      obtain ⟨h1, h2, h3⟩ := dep_in ok hd
      obtain ⟨c, hc⟩ := cover_one hd
      have hm := h3 c (by rw [hc]; exact List.mem_singleton.mpr rfl)
      unfold wiK at hK
      rw [decide_eq_true_iff, List.length_eq_zero_iff] at hK
      have := List.filter_eq_nil_iff.mp hK _ (sy0_sy1 h1)
      have hne : sset n (NS.cover B) d.l ≠ [] := fun e => by rw [e] at hm; cases hm
      simp [hne, lw] at this
    have hC : NS.cover B = [] := List.eq_nil_iff_forall_not_mem.mpr hno
    have hfull : ∀ c, c < n → Cl B [] c := by
      rcases hkey with ⟨s, hs', hf⟩
      have h1 := hin s hs'
      have hs0 : sy0 n (NS.cover B) = [] := by rw [hC]; rfl
      have hemp : [] ∈ sy1 B n (NS.cover B) := hin [] hs
      have hk : sy1 B n (NS.cover B) = [kOne B n] := by unfold sy1; rw [hs0]; rfl
      rw [hk] at h1 hemp
      rw [List.mem_singleton.mp h1, ← List.mem_singleton.mp hemp] at hf
      exact hf
    have h0 : Cl (NS.cover B) [] 0 := (hfull 0 p.n1).imp (imp_cover B)
    rw [hC] at h0
    cases h0 with
    | base h => cases h
    | step h _ _ => cases h
  · obtain ⟨s, hs, hf⟩ := hkey
    have := (hf c hc).imp (imp_cover B)
    cases this with
    | base h => exact ⟨s, hs, h⟩
    | step hd _ hcr =>
      obtain ⟨t, ht, _, h2⟩ := hdep _ hd
      exact ⟨t, ht, h2 c hcr⟩
  · obtain ⟨s, hs, _⟩ := hkey
    exact List.length_pos_of_mem hs
  · have h1 := wiN_len (sy1 B n (NS.cover B)) (sy1 B n (NS.cover B)).length
    have h2 : (sy1 B n (NS.cover B)).length ≤ 21 := by
      have hnB : n * B.length ≤ 5 * 4 := Nat.mul_le_mul p.n2 p.bl
      have lenC := cover_len ok
      have h3 := dL_len (NS.cover B)
      have h4 : (sy0 n (NS.cover B)).length = (dL (NS.cover B)).length := by unfold sy0; rw [List.length_map]
      unfold sy1
      rw [List.length_append]
      by_cases e : (sy0 n (NS.cover B)).any (fullB B n) = true
      · rw [if_pos e]; simp; omega
      · rw [if_neg e]; simp; omega
    exact Nat.le_trans h1 h2
theorem SynOk.join {n : Nat} {B : Book} {S : List (List Nat)} (h : SynOk n B S) : JoinOk n B S := ⟨NS.cover B, imp_cover B, imp_cover' B, h.dep, h.key⟩
theorem SynOk.loss {n : Nat} {B : Book} {S : List (List Nat)} (h : SynOk n B S) {rows : List (List Int)} (R : Rw3 n rows) (hNL : ∀ d ∈ B, ∀ one ∈ rows, ∀ other ∈ rows, NL d one other) : Loss n rows S := fun f hf hs => by
  have hk : Keeps (fun g : Nat → Int => ∃ r ∈ rows, g = fun c => r.getD c 0) B := by
    rintro d hd _ _ ⟨r1, h1, rfl⟩ ⟨r2, h2, rfl⟩ e c hc
    have e1 : pk r1 d.l = pk r2 d.l := pk_eq.mpr e
    have q1 := hNL d hd r1 h1 r2 h2 e1 c hc
    have q2 := hNL d hd r2 h2 r1 h1 e1.symm c hc
    show r1.getD c 0 = r2.getD c 0
    omega
  obtain ⟨s, hsS, hfull⟩ := h.key
  obtain ⟨r, hr, he⟩ := hs s hsS
  have hall : ∀ c, c < n → r.getD c 0 = f.getD c 0 := fun c hc => by
    exact lossless (T := fun g : Nat → Int => ∃ r ∈ rows, g = fun c => r.getD c 0) hk (imp_cover B) (imp_cover' B) (sets := S) h.dep (t := fun c => f.getD c 0) (fun s' hs' => by
      obtain ⟨r', hr', he'⟩ := hs s' hs'
      exact ⟨_, ⟨r', hr', rfl⟩, fun x hx => (he' x hx).symm⟩) (S := s) (f := fun c => r.getD c 0) ⟨r, hr, rfl⟩ (fun x hx => (he x hx).symm) (hfull c hc)
  have : f = r := vec_ext (by rw [hf, R.len r hr]) fun c => by
    by_cases hc : c < n
    · exact (hall c hc).symm
    · rw [List.getD_eq_getElem?_getD, List.getD_eq_getElem?_getD, List.getElem?_eq_none (by omega), List.getElem?_eq_none (by rw [R.len r hr]; omega)]
  rw [this]
  exact hr
theorem sm_syn {n : Nat} {B : Book} {S : List (List Nat)} (h : SynOk n B S) (n2 : n ≤ 5) : sm 3 (.tuple (S.map cols)) = true := by
  show (decide ((S.map cols).length ≤ 1000) && (S.map cols).all (sm 2)) = true
  rw [Bool.and_eq_true, decide_eq_true_iff, List.length_map]
  refine ⟨Nat.le_trans h.len.2 (by decide), List.all_eq_true.mpr fun x hx => ?_⟩
  obtain ⟨s, hs, rfl⟩ := List.mem_map.mp hx
  show (decide ((s.map nI).length ≤ 1000) && (s.map nI).all (sm 1)) = true
  rw [Bool.and_eq_true, decide_eq_true_iff, List.length_map]
  refine ⟨Nat.le_trans (sub_len (h.sub s hs)) (by omega), List.all_eq_true.mpr fun y hy => ?_⟩
  obtain ⟨c, _, rfl⟩ := List.mem_map.mp hy
  rfl
end NS
set_option Elab.async false
set_option linter.all false
set_option maxRecDepth 100000
set_option maxHeartbeats 4000000
namespace NS
open PySem PySem.Spec PyProof.Rows L2
open Evl (Ex)
section
variable {P : Program} {w : World} {K : Fg} {mg : Str → Option Value} {base : Heap}
theorem ed_same {σ : L2.St} {H : Hp} {t : TA} {E : XK} {d : PyData} {m : Nat} (h : EvA K t σ H [d, d]) (hd : sm m d = true) : EvD K (tCall (spSame K m) [] E t) σ H (.bool true) := fun H1 e Q q => h H1 e _ fun vs H2 e2 hvs => by
  obtain ⟨x, y, rfl, hx, hy⟩ := dpAll2 hvs
  exact ⟨x, y, d, rfl, hd, hx, hy, fun H3 e3 => q _ H3 (e2.trans e3) (.bl _)⟩
/-- as good_of, for a given function object -/
theorem fnp_of {k : Nat} {x q : Str} {ps N : List Str} {sp : Sp} {st : Stmt} (gx : mg x = some (.ref (He.ga K x))) (F : ∃ fd, FnP K x q st (He.ga K x) fd) (S : FnScope N ps (defScope st))
    (hb : ∀ (kV doc pm : Value) (an : Option Addr) (cdv ct : Value) (us : List Value), us.length = ps.length → bindArgs (PySem.W.fnOf x q (defArgs st) (defBody st) (defScope st) .none kV doc pm an cdv ct) ⟨us, []⟩ = pure (ps.zip us))
    (len : ∀ vs H Q E, sp vs H Q E → vs.length = ps.length)
    (body : ∀ (cdv : Value) (A : Around) (outer : List Env) (s : Shared) (H : Hp) (vs : List V) (Q : VK) (E : XK), Room k (A.deeper (envOfC q (defScope st) s.heap.objs.size (He.ga K x) cdv)) → sp vs H Q E →
      ∃ t, PSs (cxOf CX0 P w K mg base N q (defScope st) (He.ga K x) cdv A outer s H E).nox (defBody st) t ∧ t { nx := fun _ H' => Q .non H', rt := Q } (start N vs) H) : ∀ fd, FnP K x q st (He.ga K x) fd → FnOk P w K mg base CX0 (k + 1) (He.ga K x) fd ps sp := fun fd F => by
  refine F.ok S len fun cdv A outer s H vs Q E hr hs => ?_
  obtain ⟨t, h, q⟩ := body cdv A outer s H vs Q E hr hs
  exact ⟨t, h.nox, q⟩
theorem et_isnot {te : TE} {σ : L2.St} {H : Hp} (h : EvD K te σ H (.bool true)) : Evl.EvT (tTest (tOp (fun x y H Q => ∃ a b, x = V.bl a ∧ y = V.bl b ∧ Q (V.bl !decide (a = b)) H) te (tC (V.bl true)))) σ H false := fun H1 e Q q => h H1 e _ fun x H2 e2 hx => ⟨true, true, hx.bl_inv, rfl, false, rfl, q H2 e2⟩
/-! ### law -/
theorem sc_law : FnScope ["_law_script", "_law_draws_here", "_law_width", "_law_book", "_law_covered", "_law_sets_here", "_law_one", "_law_rows_here", "_law_each", "_law_c"] ["_law_script"] (defScope s_law) := ⟨rfl, rfl, rfl, by decide +kernel, rfl, by decide +kernel, by decide +kernel⟩
def spLaw (K : Fg) : Sp := fun vs H Q _ => ∃ (v : V) (ns : List Int), vs = [v] ∧ ns.length ≤ 1000 ∧ Dp K H v (.list (ns.map .int)) ∧ ∀ H', Ex H H' → Q (.bl true) H'
theorem ok_law (T : Txt K mg) : ∀ fd, FnP K "law" "law" s_law (He.ga K "law") fd → FnOk P w K mg base CX0 13 (He.ga K "law") fd ["_law_script"] (spLaw K) := by
  refine fnp_of (q := "law") (st := s_law) (N := ["_law_script", "_law_draws_here", "_law_width", "_law_book", "_law_covered", "_law_sets_here", "_law_one", "_law_rows_here", "_law_each", "_law_c"]) T.g_law (T.def_ 38) sc_law (fun _ _ _ _ _ _ us hl => match us, hl with | [_], _ => rfl) (fun vs H Q E h => by obtain ⟨_, _, rfl, _⟩ := h; rfl) fun cdv A outer s H vs Q E hr h =>
    ⟨_, (pss_cons (ps_set (i := 1) sc_law.nd rfl (by first | exact Or.inl rfl | exact Or.inr rfl) (pe_callG (ok_L_draws (P := P) (w := w) (base := base) T) (hr.mono (by decide)) rfl (pa_cons (pv 0) (pa_cons pe_int pa_nil))))
        (pss_cons (ps_set (i := 2) sc_law.nd rfl (by first | exact Or.inl rfl | exact Or.inr rfl) (pe_op (kPlus (K := K) rfl) pe_int (pe_callG (ok_L_take (P := P) (w := w) (base := base) T) (hr.mono (by decide)) rfl (pa_cons (pv 1) (pa_cons pe_int pa_nil)))))
        (pss_cons (ps_set (i := 3) sc_law.nd rfl (by first | exact Or.inl rfl | exact Or.inr rfl) (pe_callG (ok_L_functional (P := P) (w := w) (base := base) T) (hr.mono (by decide)) rfl (pa_cons (pv 1) (pa_cons (pv 2) (pa_cons pe_int pa_nil)))))
        (pss_cons (ps_set (i := 4) sc_law.nd rfl (by first | exact Or.inl rfl | exact Or.inr rfl) (pe_callG (ok_cover (P := P) (w := w) (base := base) T) (hr.mono (by decide)) rfl (pa_cons (pe_tup (pa_cons (pv 2) pa_nil)) (pa_cons (pv 3) pa_nil))))
        (pss_cons (ps_set (i := 5) sc_law.nd rfl (by first | exact Or.inl rfl | exact Or.inr rfl) (pe_callG (ok_synthesis (P := P) (w := w) (base := base) T) (hr.mono (by decide)) rfl (pa_cons (pe_tup (pa_cons (pv 2) pa_nil)) (pa_cons (pv 3) pa_nil))))
        (pss_cons (ps_if (pt_not (pt_val (pe_callG (ok_L_same (P := P) (w := w) (base := base) T) (hr.mono (by decide)) rfl (pa_cons (pv 5) (pa_cons (pe_callG (ok_L_synthesis (P := P) (w := w) (base := base) T) (hr.mono (by decide)) rfl (pa_cons (pv 2) (pa_cons (pv 3) (pa_cons (pv 4) pa_nil)))) pa_nil))))) (pss_one (ps_ret pe_bl)) pss_nil)
        (pss_cons (ps_for PassesOwn.never rfl (kSq (K := K) rfl (pv 4)) (pg_name (i := 6) sc_law.nd rfl (by first | exact Or.inl rfl | exact Or.inr rfl)) (pss_one (ps_if (pt_cmpR (kEq (K := K) rfl (room64 hr)) (pe_callB (kLen (K := K) rfl) rfl T.len0 PySem.boot_len (pa_cons (pe_lc (own := [("_law_each", 8)]) (g := gName 8) rfl sc_law.nd (kSq (K := K) rfl (pv 5)) (blkOk_by (by kernel_rfl)) (fun _ _ _ _ _ => (pg_name (i := 8) sc_law.nd rfl (by first | exact Or.inl rfl | exact Or.inr rfl))) (fun _ _ _ _ _ => pts_one (pt_cmpR (kEq (K := K) rfl (room64 hr)) (pe_callB (kLen (K := K) rfl) rfl T.len0 PySem.boot_len (pa_cons (pe_lc (own := [("_law_c", 9)]) (g := gName 9) rfl sc_law.nd (kSq (K := K) rfl (pe_op (kPlus (K := K) rfl) (pe_ix (kIx (K := K) rfl) (pv 6) pe_int (fun _ _ => rfl)) (pe_ix (kIx (K := K) rfl) (pv 6) pe_int (fun _ _ => rfl)))) (blkOk_by (by kernel_rfl)) (fun _ _ _ _ _ => (pg_name (i := 9) sc_law.nd rfl (by first | exact Or.inl rfl | exact Or.inr rfl))) (fun _ _ _ _ _ => pts_one (pt_cmpR (kNin (K := K) rfl (room65 hr)) (pv 9) (pv 8) (by with_unfolding_all rfl))) (fun _ _ _ _ _ => (pv 9))) pa_nil)) pe_int (nomark _))) (fun _ _ _ _ _ => (pv 8))) pa_nil)) pe_int (nomark _)) (pss_one (ps_ret pe_bl)) pss_nil)))
        (pss_cons (ps_if (pt_cmpR op_isnot_bl (pe_callG (ok_follows (P := P) (w := w) (base := base) T) (hr.mono (by decide)) rfl (pa_cons (pe_tup (pa_cons (pv 2) pa_nil)) (pa_cons (pv 3) (pa_cons (pe_tup (pa_cons pe_str (pa_cons pe_int (pa_cons (pv 5) pa_nil)))) pa_nil)))) pe_bl (nomark _)) (pss_one (ps_ret pe_bl)) pss_nil)
        (pss_cons (ps_set (i := 7) sc_law.nd rfl (by first | exact Or.inl rfl | exact Or.inr rfl) (pe_callG (ok_L_rows (P := P) (w := w) (base := base) T) (hr.mono (by decide)) rfl (pa_cons (pv 1) (pa_cons (pv 2) (pa_cons (pv 3) (pa_cons pe_int pa_nil))))))
        (pss_one (ps_ret (pe_cmpR (kEq (K := K) rfl (room64 hr)) (pe_callG (ok_stray_rows (P := P) (w := w) (base := base) T) (hr.mono (by decide)) rfl (pa_cons (pv 2) (pa_cons (pv 7) (pa_cons (pv 5) pa_nil)))) (pe_tup pa_nil) (nomark _))))))))))))), ?_⟩
  obtain ⟨v, ns, rfl, hns, hv, q⟩ := h
  refine q_asgX ⟨_, rfl, v, 170, ns, rfl, by decide, hns, hv, fun pd H1 hpd e1 hd1 => ?_⟩
  have npd : ∀ H', Ex H1 H' → Ex H H' := fun H' e => e1.trans e
  refine q_asgX (x_take (K := K) rfl hd1 ed_i (by decide) fun k H2 hk0 hk1 e2 hd2 => ?_)
  refine .inl ⟨1, k, rfl, rfl, ?_⟩
  obtain ⟨n, hn, n1, n2⟩ : ∃ n : Nat, 1 + k = (n : Int) ∧ 1 ≤ n ∧ n ≤ 5 := ⟨k.toNat + 1, by omega, by omega, by omega⟩
  dsimp only
  rw [hn]
  refine q_asgX ⟨_, rfl, _, rfl, pd, n, 4, rfl, by omega, by decide, hd2, fun vb B H3 okB lB e3 hd3 hB => ?_⟩
  have p : SyP n B := ⟨n1, n2, okB, lB⟩
  have hS := syn_ok p
  have hw : ∀ (σ : L2.St) (H : Hp), σ[2]? = some (some (.int n)) → EvD K (tTup (tCons (tVar 2) tNil)) σ H (cols [n]) := fun σ H hσ => ed_tup (K := K) (ds := [nI n]) (ea1 (ed_var hσ (.int _))) (by simp)
  refine q_set (K := K) (ed_call (n, B) (ea2 (hw _ _ rfl) (ed_var rfl hB)) p) fun vc H4 e4 hc => ?_
  refine q_set (K := K) (ed_call (n, B) (ea2 (hw _ _ rfl) (ed_var rfl (hB.ex e4))) p) fun vs H5 e5 hs => ?_
  have hc : Dp K H4 vc (.tuple ((NS.cover B).map depD)) := hc
  have hs : Dp K H5 vs (.tuple ((syn B n).map cols)) := hs
  have hB5 := (hB.ex e4).ex e5
  have hc5 := hc.ex e5
  have hd5 := (hd3.ex e4).ex e5
  have hCl : (NS.cover B).length ≤ 20 := by
    have hnB : n * B.length ≤ 5 * 4 := Nat.mul_le_mul n2 lB
    have lenC := cover_len okB
    omega
  have hSl := hS.len.2
  generalize hSe : syn B n = S at hS hs hSl
  refine q_when (b := !true) (Evl.et_not (et_B (ed_same (ea2 (ed_var rfl hs) (ed_is (ed_call (n, B) (ea_cons (ed_var rfl (.int _)) (ea2 (ed_var rfl hB5) (ed_var rfl hc5))) p) (by rw [hSe]))) (sm_syn hS n2)))) (fun h => by cases h) fun _ H6 e6 => ?_
  have hs6 := hs.ex e6
  have hc6 := hc5.ex e6
  refine q_for (K := K) (M := []) (as := NS.cover B) (enc := depD) (es_sqT (ed_var rfl hc6))
    (fun i σ' H' => ∃ s6, σ' = [some v, some (.ref pd), some (.int n), some vb, some vc, some vs, s6, none, none, none] ∧ Ex H6 H')
    ⟨_, rfl, Ex.refl _⟩ (fun _ _ _ _ h e => let ⟨s6, h1, h2⟩ := h; ⟨s6, h1, h2.trans e⟩) ?_ ?_
  · rintro i d x σ1 H7 hd ⟨s6, rfl, e67⟩ e7 hx
    have hdC := List.mem_of_getElem? hd
    have okd := cover_ok okB d hdC
    have hll := sub_len okd.l
    have hrl := sub_len okd.r
    refine ⟨_, tgt_name, fun H8 e8 N hN => ?_⟩
    have hs8 := (hs6.ex e67).ex e8
    have hx8 := hx.ex e8
    refine s_when (b := false) (et_test (ed_is (ed_eqN (i := (S.filter fun s => lw (d.l ++ d.r) s).length) (ed_is (ed_lenL (EvN.toD (en_lcF (K := K) (as := S) (enc := cols) (fun s => lw (d.l ++ d.r) s) cols (es_sqT (ed_var rfl hs8)) (by omega) (fun _ _ => nl_cols _) fun s hsS u H9 e9 hu =>
      ⟨_, tgt_name, rfl, et_test (ed_is (ed_eqN (i := ((d.l ++ d.r).filter fun c => !decide (c ∈ s)).length) (ed_is (ed_lenL (EvN.toD (en_lcF (K := K) (as := d.l ++ d.r) (enc := nI) (fun c => !decide (c ∈ s)) nI (es_sqT (ed_is (ed_addT (ed_ixT (n := 2) (d := cols d.l) (ed_var rfl (hx8.ex e9)) ed_i rfl) (ed_ixT (n := 3) (d := cols d.r) (ed_var rfl (hx8.ex e9)) ed_i rfl) (by rw [List.length_map, List.length_map]; omega)) (by rw [List.map_append]))) (by rw [List.length_append]; omega) (fun _ _ => rfl) fun c hc z H10 e10 hz =>
        ⟨_, tgt_name, rfl, et_test (ed_niC (ed_var rfl hz) (ed_var rfl (hu.ex e10))), fun _ => ed_var rfl hz⟩))) (by rw [List.length_map]; rfl)) ed_n0) (by rw [lw_filter])), fun _ => ed_var rfl hu⟩))) (by rw [List.length_map]; rfl)) ed_n0) (congrArg PyData.bool ?_))) (fun h => by cases h) fun _ H9 e9 => hN _ _ ⟨_, rfl, (e67.trans e8).trans e9⟩ (.of e9)
    obtain ⟨s, hsS, h1, h2⟩ := hS.dep d hdC
    refine decide_eq_false fun h => ?_
    have := List.filter_eq_nil_iff.mp (List.length_eq_zero_iff.mp h) s hsS
    refine this (List.all_eq_true.mpr fun c hc => decide_eq_true ?_)
    rcases List.mem_append.mp hc with h | h
    · exact h1 c h
    · exact h2 c h
  · rintro σ1 H7 ⟨s6, rfl, e67⟩ _
    have e57 := e6.trans e67
    have hs7 := hs.ex e57
    have hB7 := hB5.ex e57
    have hd7 := hd5.ex e57
    have hj : EvD K (tTup (tCons (tC (.str "joins")) (tCons (tC (.int 0)) (tCons (tVar 5) tNil)))) [some v, some (.ref pd), some (.int n), some vb, some vc, some vs, s6, none, none, none] H7 (joinD S) := ed_tup (K := K) (ds := [.str "joins", nI 0, .tuple (S.map cols)]) (ea_cons ed_s (ea2 ed_i (ed_var rfl hs7))) (by simp)
    refine q_when (b := false) (et_isnot (K := K) (ed_callX (K := K) (ea_cons (hw _ _ rfl) (ea2 (ed_var (i := 3) rfl hB7) hj)) fun zs H9 e9 hzs Q' q' => ?_)) (fun h => by cases h) fun _ H8 e8 => ?_
    · obtain ⟨z1, z2, z3, rfl, f1, f2, f3⟩ := dpAll3 hzs
      exact ⟨z1, z2, z3, n, B, rfl, f1, f2, n1, by omega, okB, by omega, .inr ⟨S, f3, hS.len.1, hSl, fun s hs c hc => sub_lt (hS.sub s hs) hc, hS.join, fun H10 e10 => q' _ H10 e10 (.bl _)⟩⟩
    · have hd8 := hd7.ex e8
      have hs8 := hs7.ex e8
      refine q_asgX ⟨_, rfl, _, rfl, _, rfl, pd, vb, n, 5, B, rfl, n1, by omega, by decide, okB, hd8, hB7.ex e8, fun vr H9 rows e9 hrl hR hNL hvr => ?_⟩
      have hs9 := hs8.keep hd8.trk.muts e9 (nl_all nl_cols _)
      have eH9 : Ex H H9 := by
        have x : ExB [pd] H H9 := (((((ExB.of e1).trans e2).trans e3).then ((e4.trans e5).trans e57)).then e8).trans e9
        exact (x.drop hpd).nil
      refine s_ret (K := K) (d := .bool true) (ed_is (ed_eq (d1 := .tuple []) (d2 := .tuple []) (fun H10 e10 Q' q' => ?_) (ed_tup ea_nil (by simp)) rfl rfl) rfl) fun v' H10 e10 hv' => ?_
      · exact ⟨_, rfl, _, rfl, _, rfl, vr, vs, n, S, rows, rfl, hvr.ex e10, hs9.ex e10, n1, n2, hSl, hrl, hR, hS.sub, hS.ne, hS.cov, hS.loss hR hNL, fun v2 H11 e11 hv2 => q' v2 H11 e11 hv2⟩
      · have := hv'.bl_inv
        subst this
        exact q H10 (eH9.trans e10)
end
end NS
set_option Elab.async false
set_option linter.all false
set_option maxRecDepth 100000
set_option maxHeartbeats 0
namespace NS
open PySem PySem.Spec PyProof.Rows L2
theorem law_facts {P : Program} {w : World} {K : PySem.W.Frag} {h : Heap} {mg : Str → Option Value} {f : Addr} (X : K.In h) (G : h.Ns mainGlobals mg) (hfa : mg ("law" : Str) = some (.ref f)) (c : He.SaysD fa fn K) :
    ∃ fd : FuncData, (∀ (s : Shared) (v : Value), BindsTo s fd ⟨[v], []⟩ [("_law_script", v)]) ∧ ∀ base : Heap, FnOk P w K mg base CX0 13 f fd ["_law_script"] (spLaw K) := by
  have T : Txt K mg := ⟨h, X, G, c⟩
  obtain ⟨fd, F⟩ := T.def_ 38
  have e := hfa.symm.trans T.g_law
  cases e
  have b := FunD.bindsA (ps := ["_law_script"]) F fun _ _ _ _ _ _ us hl => match us, hl with | [_], _ => rfl
  exact ⟨fd, fun s v => b s [v] rfl, fun base => ok_law T fd F⟩
end NS
open PySem PySem.W PySem.Calls PyProof.Rows
theorem PySem.Challenge.cw_norowstray_k96_whole_syntheses_holds : PySem.Challenge.rw_norowstray_k96_whole_syntheses.Holds := by
  w_on; o_law
  refine HandSHeadRun.head_any (r := OpenLaw.row PySem.Challenge.rw_norowstray_k96_whole_syntheses) (q := view (OpenLaw.row PySem.Challenge.rw_norowstray_k96_whole_syntheses).prog [55]) (H := NS.hk) (ob := NS.ob) (M := 4000) (loose := NS.loose) (d := HandSHeadRun.topDef (OpenLaw.row PySem.Challenge.rw_norowstray_k96_whole_syntheses).prog 55) (kwd := []) NS.ob_eq
    (by kernel_rfl) (fun s => by kernel_rfl) NS.run (by kernel_rfl) (by kernel_rfl) (by kernel_rfl) (by rfl) (by first | assumption | decide +kernel) (by decide +kernel) ⟨rfl, rfl, rfl, rfl, rfl, by decide +kernel⟩ ?hw ?hc
  case hw => w_witness2
  case hc =>
    refine L2.walk_ofE (l := PySem.Challenge.rw_norowstray_k96_whole_syntheses) (n := 63) (k := 13) (x := "_law_script") (CX := L2.CX0) rfl (by decide) (by kernel_rfl) ⟨rfl, by decide, by decide⟩ ?F (fun _ _ _ _ z => z)
    intro w mg fa h Y G hmg0
    obtain ⟨K, KX, c⟩ := Y
    have hmg : mg ("law" : PySem.Str) = some (.ref fa) := by
      have e : (HandSHeadRun.topDef (OpenLaw.row PySem.Challenge.rw_norowstray_k96_whole_syntheses).prog 55).name = ("law" : PySem.Str) := by kernel_rfl
      rw [← e]
      exact hmg0
    obtain ⟨fd, hb, hF⟩ := NS.law_facts (P := (PySem.Challenge.rw_norowstray_k96_whole_syntheses).prog) (w := w) KX G hmg c
    exact ⟨K, fd, NS.spLaw K, KX, hb, fun H a ns hl _ hS => ⟨.ref a, ns, rfl, Nat.le_trans hl (by decide), .lst hS L2.DpAll.ofInts, fun _ _ => rfl⟩, fun base _ _ => hF base⟩
