import PyProof.Rows.All
import Wide.All
import OpenK.AllK
import Wide.FinOn
import HandS.ForMost
import HandS.More
import HandS.Codes
import HandS.TupLe
import HandS.IsInst
import HandS.Walk
import HandS.Deep
import HandS.MakeKwOnly
import HandS.Style
import PySem.Challenge.RW_lotsandties_k46_live_copies
set_option Elab.async false
set_option linter.all false
set_option maxRecDepth 100000
set_option maxHeartbeats 4000000
namespace Mine
open PySem L2
/-! frames: what a call leaves as it was -/
abbrev tl (x : Str) : List Nat := x.cps.toList
def Fr (S : List Addr) (H H' : Hp) : Prop := ∀ b o, H b = some o → ∃ o', H' b = some o' ∧ (b ∉ S → o' = o)
section
variable {S : List Addr} {H H0 H1 H2 H' : Hp} {a b p : Addr} {o o' : HO} {K : PySem.W.Frag} {xs : List V}
theorem Fr.refl (S : List Addr) (H : Hp) : Fr S H H := fun _ o h => ⟨o, h, fun _ => rfl⟩
theorem Fr.trans (f : Fr S H0 H1) (g : Fr S H1 H2) : Fr S H0 H2 := fun b o h => by
  obtain ⟨o1, h1, e1⟩ := f b o h
  obtain ⟨o2, h2, e2⟩ := g b o1 h1
  exact ⟨o2, h2, fun n => (e2 n).trans (e1 n)⟩
theorem Fr.get (f : Fr S H H') (h : H b = some o) (n : b ∉ S) : H' b = some o := by
  obtain ⟨o1, h1, e1⟩ := f b o h
  rw [h1, e1 n]
theorem Fr.get0 (f : Fr [] H H') (h : H b = some o) : H' b = some o := f.get h (by simp)
theorem Fr.get1 (f : Fr [a] H H') (h : H b = some o) (n : b ≠ a) : H' b = some o := f.get h (by simpa using n)
theorem Fr.free (f : Fr S H H') (h : H' p = none) : H p = none := by
  cases q : H p with
  | none => rfl
  | some o =>
    obtain ⟨o1, h1, _⟩ := f p o q
    rw [h1] at h
    cases h
theorem Fr.up0 (f : Fr S H0 H1) (g : Fr [] H1 H2) : Fr S H0 H2 := fun b o h => by
  obtain ⟨o1, h1, e1⟩ := f b o h
  exact ⟨o1, g.get0 h1, e1⟩
theorem Fr.up1 (f : Fr S H0 H1) (g : Fr [a] H1 H2) (ha : a ∈ S ∨ H0 a = none) : Fr S H0 H2 := fun b o h => by
  obtain ⟨o1, h1, e1⟩ := f b o h
  obtain ⟨o2, h2, e2⟩ := g b o1 h1
  refine ⟨o2, h2, fun n => ?_⟩
  by_cases e : b = a
  · subst e
    rcases ha with ha | ha
    · exact absurd ha n
    · rw [ha] at h
      cases h
  · rw [e2 (by simpa using e), e1 n]
theorem Fr.upS (f : Fr [a] H0 H1) (g : Fr [a] H1 H2) : Fr [a] H0 H2 := f.up1 g (.inl (by simp))
theorem Fr.new (np : H p = none) : Fr [] H (upd H p o) := fun b u e => ⟨u, by rw [upd_ne (ne_of_none e np)]; exact e, fun _ => rfl⟩
theorem Fr.mut : Fr [a] H (upd H a o) := fun b u e => by
  by_cases h : b = a
  · subst h
    exact ⟨o, upd_same, fun n => absurd (by simp) n⟩
  · exact ⟨u, by rw [upd_ne h]; exact e, fun _ => rfl⟩
theorem gen_new (np : H p = none) (e : upd H p o = H2) : Fr [] H H2 ∧ H2 p = some o := by
  subst e
  exact ⟨Fr.new np, upd_same⟩
theorem gen_upd (e : upd H a o = H2) : Fr [a] H H2 ∧ H2 a = some o := by
  subst e
  exact ⟨Fr.mut, upd_same⟩
theorem Fr.seq (f : Fr S H H') (h : SqL K H a xs) (n : a ∉ S) : SqL K H' a xs := by
  rcases h with (h | ⟨o, h⟩) | h
  · exact .inl (.inl (f.get h n))
  · exact .inl (.inr ⟨o, f.get h n⟩)
  · exact .inr h
theorem Fr.seq0 (f : Fr [] H H') (h : SqL K H a xs) : SqL K H' a xs := f.seq h (by simp)
theorem sq (h : H a = some (.lst xs)) : SqL K H a xs := .inl (.inl h)
theorem sqt (h : H a = some (.tup xs)) : SqT K H a xs := .inl (.inl h)
theorem Fr.tup0 (f : Fr [] H H') (h : SqT K H a xs) : SqT K H' a xs := by
  rcases h with (h | ⟨o, h⟩) | h
  · exact .inl (.inl (f.get0 h))
  · exact .inl (.inr ⟨o, f.get0 h⟩)
  · exact .inr h
end
theorem sz {n : Nat} (h : n < 100000) : n < sizeLine := Nat.lt_of_lt_of_le h (by decide)
theorem szle {n : Nat} (h : n ≤ 100000) : n ≤ sizeLine := Nat.le_trans h (by decide)
theorem map_get {α β : Type} {f : α → β} {l : List α} {i : Nat} {y : β} (h : (l.map f)[i]? = some y) : ∃ x, l[i]? = some x ∧ y = f x := by
  rw [List.getElem?_map] at h
  cases e : l[i]? with
  | none =>
    rw [e] at h
    cases h
  | some x =>
    rw [e] at h
    exact ⟨x, rfl, (Option.some.inj h).symm⟩
theorem getq_lt {α : Type} {l : List α} {i : Nat} {x : α} (h : l[i]? = some x) : i < l.length := (List.getElem?_eq_some_iff.mp h).1
theorem iteF' {c : Bool} {A B : Prop} (hc : c = false) (h : B) : if c = true then A else B := by
  rw [hc]
  exact iteF h
theorem iteT' {c : Bool} {A B : Prop} (hc : c = true) (h : A) : if c = true then A else B := by
  rw [hc]
  exact iteT h
theorem drop_at {α : Type} {l : List α} {i : Nat} {c : α} (h : l[i]? = some c) : l.drop i = c :: l.drop (i + 1) := by
  obtain ⟨hi, e⟩ := List.getElem?_eq_some_iff.mp h
  rw [List.drop_eq_getElem_cons hi, e]
theorem dec_int {i j : Int} : decide (V.int i = V.int j) = decide (i = j) := by
  by_cases h : i = j
  · rw [decide_eq_true h, decide_eq_true (congrArg V.int h)]
  · rw [decide_eq_false h, decide_eq_false fun q => h (V.int.inj q)]
theorem dec_str {i j : Str} : decide (V.str i = V.str j) = decide (i = j) := by
  by_cases h : i = j
  · rw [decide_eq_true h, decide_eq_true (congrArg V.str h)]
  · rw [decide_eq_false h, decide_eq_false fun q => h (V.str.inj q)]
theorem paired_get {α β : Type} {F : α → β → Prop} {l : List α} {m : List β} (h : Paired F l m) : ∀ {i : Nat} {x : α}, l[i]? = some x → ∃ y, m[i]? = some y ∧ F x y := by
  induction h with
  | nil => intro i x h; simp at h
  | @cons a b l₁ l₂ f t ih =>
    intro i x h
    cases i with
    | zero => exact ⟨b, rfl, by cases h; exact f⟩
    | succ i => exact ih h
theorem paired_get' {α β : Type} {F : α → β → Prop} {l : List α} {m : List β} (h : Paired F l m) : ∀ {i : Nat} {y : β}, m[i]? = some y → ∃ x, l[i]? = some x ∧ F x y := by
  induction h with
  | nil => intro i x h; simp at h
  | @cons a b l₁ l₂ f t ih =>
    intro i x h
    cases i with
    | zero => exact ⟨a, rfl, by cases h; exact f⟩
    | succ i => exact ih h
theorem paired_set {α β : Type} {F : α → β → Prop} {l : List α} {m : List β} (h : Paired F l m) : ∀ {i : Nat} {x : α} {y : β}, F x y → Paired F (l.set i x) (m.set i y) := by
  induction h with
  | nil => intro i x y _; exact .nil
  | @cons a b l₁ l₂ f t ih =>
    intro i x y g
    cases i with
    | zero => exact .cons g t
    | succ i => exact .cons f (ih g)
theorem inV_int {k : Int} : ∀ {ds : List Int}, inV (.int k) (ds.map V.int) = decide (k ∈ ds)
  | [] => rfl
  | d :: ds => by
    have e := inV_int (k := k) (ds := ds)
    unfold inV at e ⊢
    rw [List.map_cons, List.any_cons, e]
    show ((d == k) || _) = _
    by_cases h : d = k
    · rw [decide_eq_true (show k ∈ d :: ds by rw [h]; exact List.mem_cons_self), show (d == k) = true from beq_iff_eq.mpr h, Bool.true_or]
    · have h2 : (d == k) = false := by simpa using h
      rw [h2, Bool.false_or]
      by_cases h3 : k ∈ ds
      · rw [decide_eq_true h3, decide_eq_true (List.mem_cons_of_mem _ h3)]
      · rw [decide_eq_false h3, decide_eq_false (by simp; exact ⟨fun q => h q.symm, h3⟩)]
theorem flat_ints (ds : List Int) : (ds.map V.int).all flatV = true := by
  rw [List.all_map]
  exact List.all_eq_true.mpr fun _ _ => rfl
theorem Fr.sub {S S' : List Addr} {H H' : Hp} (f : Fr S' H H') (h : ∀ a ∈ S', a ∈ S) : Fr S H H' := fun b o e => by
  obtain ⟨o', h1, h2⟩ := f b o e
  exact ⟨o', h1, fun n => h2 fun q => n (h b q)⟩

/-! tuples stay -/
def TS (K : PySem.W.Frag) (H H' : Hp) : Prop := ∀ a xs, SqT K H a xs → SqT K H' a xs
def nt : HO → Bool
  | .tup _ => false
  | .frz _ _ => false
  | _ => true
section
variable {K : PySem.W.Frag} {S : List Addr} {H H0 H1 H2 H' : Hp} {a b x p : Addr} {o o' : HO} {xs : List V}
theorem TS.refl (K : PySem.W.Frag) (H : Hp) : TS K H H := fun _ _ h => h
theorem TS.trans (f : TS K H H1) (g : TS K H1 H2) : TS K H H2 := fun a xs h => g a xs (f a xs h)
theorem Fr.ts0 (f : Fr [] H H') : TS K H H' := fun _ _ h => f.tup0 h
theorem Fr.ts1 (f : Fr [x] H H') (hx : H x = some o) (hn : nt o = true) : TS K H H' := fun a xs h => by
  rcases h with (h | ⟨ob, h⟩) | h
  · have ne : a ≠ x := fun e => by
      rw [e, hx] at h
      cases h
      cases hn
    exact .inl (.inl (f.get1 h ne))
  · have ne : a ≠ x := fun e => by
      rw [e, hx] at h
      cases h
      cases hn
    exact .inl (.inr ⟨ob, f.get1 h ne⟩)
  · exact .inr h
end

/-! data that may be compared -/
def Sh (n : Nat) (d : PyData) : Prop := d.canLay0 = true ∧ d.depth ≤ n
def ShAll (n : Nat) (ds : List PyData) : Prop := ∀ d ∈ ds, Sh n d
theorem canLayAll_of : ∀ (ds : List PyData), (∀ d ∈ ds, d.canLay0 = true) → PyData.canLayAll0 ds = true
  | [], _ => by simp only [PyData.canLayAll0]
  | d :: ds, h => by
    rw [PyData.canLayAll0, h d List.mem_cons_self, canLayAll_of ds fun x hx => h x (List.mem_cons_of_mem _ hx)]
    rfl
theorem depthAll_le {n : Nat} : ∀ (ds : List PyData), (∀ d ∈ ds, d.depth ≤ n) → PyData.depthAll ds ≤ n
  | [], _ => by simp only [PyData.depthAll]; exact Nat.zero_le _
  | d :: ds, h => by
    rw [PyData.depthAll]
    have h1 := h d List.mem_cons_self
    have h2 := depthAll_le ds fun x hx => h x (List.mem_cons_of_mem _ hx)
    omega
theorem Sh.tup {n : Nat} {ds : List PyData} (h : ShAll n ds) : Sh (n + 1) (.tuple ds) := by
  refine ⟨by rw [PyData.canLay0]; exact canLayAll_of ds fun d hd => (h d hd).1, ?_⟩
  rw [PyData.depth]
  have := depthAll_le ds fun d hd => (h d hd).2
  omega
theorem Sh.lst {n : Nat} {ds : List PyData} (h : ShAll n ds) : Sh (n + 1) (.list ds) := by
  refine ⟨by rw [PyData.canLay0]; exact canLayAll_of ds fun d hd => (h d hd).1, ?_⟩
  rw [PyData.depth]
  have := depthAll_le ds fun d hd => (h d hd).2
  omega
theorem Sh.int {n : Nat} (i : Int) : Sh n (.int i) := ⟨by simp only [PyData.canLay0], by simp only [PyData.depth]; exact Nat.zero_le _⟩
theorem Sh.bool {n : Nat} (b : Bool) : Sh n (.bool b) := ⟨by simp only [PyData.canLay0], by simp only [PyData.depth]; exact Nat.zero_le _⟩
theorem Sh.non {n : Nat} : Sh n .none := ⟨by simp only [PyData.canLay0], by simp only [PyData.depth]; exact Nat.zero_le _⟩
theorem Sh.str {n : Nat} {x : Str} (h : PyData.strOk x = true) : Sh n (.str x) := ⟨by simp only [PyData.canLay0]; exact h, by simp only [PyData.depth]; exact Nat.zero_le _⟩
theorem Sh.mono {n m : Nat} {d : PyData} (h : Sh n d) (l : n ≤ m) : Sh m d := ⟨h.1, Nat.le_trans h.2 l⟩
theorem ShAll.nil {n : Nat} : ShAll n [] := fun _ h => absurd h (by simp)
theorem ShAll.cons {n : Nat} {d : PyData} {ds : List PyData} (h : Sh n d) (k : ShAll n ds) : ShAll n (d :: ds) := fun x hx => by
  rcases List.mem_cons.mp hx with q | q
  · rw [q]
    exact h
  · exact k x q
theorem ShAll.map {α : Type} {n : Nat} {f : α → PyData} {l : List α} (h : ∀ x, Sh n (f x)) : ShAll n (l.map f) := fun d hd => by
  obtain ⟨x, _, rfl⟩ := List.mem_map.mp hd
  exact h x
theorem Sh.shaped {d : PyData} (h : Sh 64 d) : SeqAt.shaped d = true := by
  unfold SeqAt.shaped
  rw [h.1, decide_eq_true h.2]
  rfl
theorem dp_ints {K : PySem.W.Frag} {H : Hp} : ∀ (l : List Int), DpAll K H (l.map V.int) (l.map PyData.int)
  | [] => .nil
  | i :: l => .cons (.int i) (dp_ints l)
theorem dp_paired {K : PySem.W.Frag} {H : Hp} {α : Type} {F : V → α → Prop} {f : α → PyData} (hf : ∀ v x, F v x → Dp K H v (f x)) {vs : List V} {xs : List α} (h : Paired F vs xs) : DpAll K H vs (xs.map f) := by
  induction h with
  | nil => exact .nil
  | cons a _ ih => exact .cons (hf _ _ a) ih
theorem un65 {k : Nat} {A : Around} (hr : Room k A) : A.units + 65 < cLine := by
  have := hr.un
  omega

def top (i : Nat) : Stmt := PySem.Challenge.pw_lotsandties_k46_live_copies.main.body.getD i (.Pass ⟨0, 0, 0, 0⟩)
abbrev s_live_copy : Stmt := top 3
abbrev N_live_copy : List Str := ["marks", "x", "lapse", "live", "slot", "record", "lot", "copies", "revokes", "block", "place"]
theorem sc_live_copy : FnScope ["marks", "x", "lapse", "live", "slot", "record", "lot", "copies", "revokes", "block", "place"] ["marks", "x", "lapse"] (defScope s_live_copy) := ⟨rfl, rfl, rfl, by decide +kernel, rfl, by decide +kernel, by decide +kernel⟩
abbrev s_cells_after : Stmt := top 4
abbrev N_cells_after : List Str := ["disk", "marks", "x", "lapse", "live", "lot", "slot", "record"]
theorem sc_cells_after : FnScope ["disk", "marks", "x", "lapse", "live", "lot", "slot", "record"] ["disk", "marks", "x", "lapse"] (defScope s_cells_after) := ⟨rfl, rfl, rfl, by decide +kernel, rfl, by decide +kernel, by decide +kernel⟩
abbrev s_is_within : Stmt := top 18
abbrev N_is_within : List Str := ["part", "low", "high"]
theorem sc_is_within : FnScope ["part", "low", "high"] ["part", "low", "high"] (defScope s_is_within) := ⟨rfl, rfl, rfl, by decide +kernel, rfl, by decide +kernel, by decide +kernel⟩
abbrev s_is_row_of_cells : Stmt := top 24
abbrev N_is_row_of_cells : List Str := ["part", "cell"]
theorem sc_is_row_of_cells : FnScope ["part", "cell"] ["part"] (defScope s_is_row_of_cells) := ⟨rfl, rfl, rfl, by decide +kernel, rfl, by decide +kernel, by decide +kernel⟩
abbrev s_are_blocks : Stmt := top 25
abbrev N_are_blocks : List Str := ["part", "last", "block"]
theorem sc_are_blocks : FnScope ["part", "last", "block"] ["part"] (defScope s_are_blocks) := ⟨rfl, rfl, rfl, by decide +kernel, rfl, by decide +kernel, by decide +kernel⟩
abbrev s_are_copies : Stmt := top 26
abbrev N_are_copies : List Str := ["part", "pair"]
theorem sc_are_copies : FnScope ["part", "pair"] ["part"] (defScope s_are_copies) := ⟨rfl, rfl, rfl, by decide +kernel, rfl, by decide +kernel, by decide +kernel⟩
abbrev s_check_record : Stmt := top 27
abbrev N_check_record : List Str := ["record", "good"]
theorem sc_check_record : FnScope ["record", "good"] ["record"] (defScope s_check_record) := ⟨rfl, rfl, rfl, by decide +kernel, rfl, by decide +kernel, by decide +kernel⟩
abbrev s_fits_plan : Stmt := top 28
abbrev N_fits_plan : List Str := ["record", "plan", "block", "slot"]
theorem sc_fits_plan : FnScope ["record", "plan", "block", "slot"] ["record", "plan"] (defScope s_fits_plan) := ⟨rfl, rfl, rfl, by decide +kernel, rfl, by decide +kernel, by decide +kernel⟩
abbrev s_is_place : Stmt := top 30
abbrev N_is_place : List Str := ["place", "plan"]
theorem sc_is_place : FnScope ["place", "plan"] ["place", "plan"] (defScope s_is_place) := ⟨rfl, rfl, rfl, by decide +kernel, rfl, by decide +kernel, by decide +kernel⟩
abbrev s_home_content : Stmt := top 31
abbrev N_home_content : List Str := ["what"]
theorem sc_home_content : FnScope ["what"] ["what"] (defScope s_home_content) := ⟨rfl, rfl, rfl, by decide +kernel, rfl, by decide +kernel, by decide +kernel⟩
abbrev s_log_content : Stmt := top 32
abbrev N_log_content : List Str := ["what", "plan"]
theorem sc_log_content : FnScope ["what", "plan"] ["what", "plan"] (defScope s_log_content) := ⟨rfl, rfl, rfl, by decide +kernel, rfl, by decide +kernel, by decide +kernel⟩
abbrev s_law_feed : Stmt := top 37
abbrev N_law_feed : List Str := ["_law_script", "_law_feed_here", "_law_cell", "_law_rest", "_law_k"]
theorem sc_law_feed : FnScope ["_law_script", "_law_feed_here", "_law_cell", "_law_rest", "_law_k"] ["_law_script"] (defScope s_law_feed) := ⟨rfl, rfl, rfl, by decide +kernel, rfl, by decide +kernel, by decide +kernel⟩
abbrev s_law_pick : Stmt := top 38
abbrev N_law_pick : List Str := ["_law_feed_here", "_law_limit"]
theorem sc_law_pick : FnScope ["_law_feed_here", "_law_limit"] ["_law_feed_here", "_law_limit"] (defScope s_law_pick) := ⟨rfl, rfl, rfl, by decide +kernel, rfl, by decide +kernel, by decide +kernel⟩
abbrev s_law_cells : Stmt := top 39
abbrev N_law_cells : List Str := ["_law_feed_here", "_law_first"]
theorem sc_law_cells : FnScope ["_law_feed_here", "_law_first"] ["_law_feed_here", "_law_first"] (defScope s_law_cells) := ⟨rfl, rfl, rfl, by decide +kernel, rfl, by decide +kernel, by decide +kernel⟩
abbrev s_law_mark : Stmt := top 40
abbrev N_law_mark : List Str := ["_law_feed_here", "_law_lot", "_law_copies", "_law_revokes", "_law_x"]
theorem sc_law_mark : FnScope ["_law_feed_here", "_law_lot", "_law_copies", "_law_revokes", "_law_x"] ["_law_feed_here", "_law_lot"] (defScope s_law_mark) := ⟨rfl, rfl, rfl, by decide +kernel, rfl, by decide +kernel, by decide +kernel⟩
abbrev s_law_put : Stmt := top 41
abbrev N_law_put : List Str := ["_law_disk", "_law_log", "_law_slot", "_law_record"]
theorem sc_law_put : FnScope ["_law_disk", "_law_log", "_law_slot", "_law_record"] ["_law_disk", "_law_log", "_law_slot", "_law_record"] (defScope s_law_put) := ⟨rfl, rfl, rfl, by decide +kernel, rfl, by decide +kernel, by decide +kernel⟩
abbrev s_law_fill : Stmt := top 42
abbrev N_law_fill : List Str := ["_law_feed_here", "_law_disk", "_law_log", "_law_record", "_law_lot", "_law_pair", "_law_x", "_law_slot", "_law_choice", "_law_cells_here"]
theorem sc_law_fill : FnScope ["_law_feed_here", "_law_disk", "_law_log", "_law_record", "_law_lot", "_law_pair", "_law_x", "_law_slot", "_law_choice", "_law_cells_here"] ["_law_feed_here", "_law_disk", "_law_log", "_law_record"] (defScope s_law_fill) := ⟨rfl, rfl, rfl, by decide +kernel, rfl, by decide +kernel, by decide +kernel⟩
abbrev s_law_struck : Stmt := top 43
abbrev N_law_struck : List Str := ["_law_marks", "_law_at", "_law_x", "_law_gentle", "_law_k"]
theorem sc_law_struck : FnScope ["_law_marks", "_law_at", "_law_x", "_law_gentle", "_law_k"] ["_law_marks", "_law_at", "_law_x", "_law_gentle"] (defScope s_law_struck) := ⟨rfl, rfl, rfl, by decide +kernel, rfl, by decide +kernel, by decide +kernel⟩
abbrev s_law_due : Stmt := top 44
abbrev N_law_due : List Str := ["_law_marks", "_law_x", "_law_gentle", "_law_due_here", "_law_at", "_law_record", "_law_pair"]
theorem sc_law_due : FnScope ["_law_marks", "_law_x", "_law_gentle", "_law_due_here", "_law_at", "_law_record", "_law_pair"] ["_law_marks", "_law_x", "_law_gentle"] (defScope s_law_due) := ⟨rfl, rfl, rfl, by decide +kernel, rfl, by decide +kernel, by decide +kernel⟩
abbrev s_law_due_cells : Stmt := top 45
abbrev N_law_due_cells : List Str := ["_law_log", "_law_home", "_law_due_here", "_law_x", "_law_record"]
theorem sc_law_due_cells : FnScope ["_law_log", "_law_home", "_law_due_here", "_law_x", "_law_record"] ["_law_log", "_law_home", "_law_due_here", "_law_x"] (defScope s_law_due_cells) := ⟨rfl, rfl, rfl, by decide +kernel, rfl, by decide +kernel, by decide +kernel⟩
abbrev s_law_numbers : Stmt := top 46
abbrev N_law_numbers : List Str := ["_law_actual", "_law_due_here", "_law_k"]
theorem sc_law_numbers : FnScope ["_law_actual", "_law_due_here", "_law_k"] ["_law_actual", "_law_due_here"] (defScope s_law_numbers) := ⟨rfl, rfl, rfl, by decide +kernel, rfl, by decide +kernel, by decide +kernel⟩
abbrev s_law_agrees : Stmt := top 47
abbrev N_law_agrees : List Str := ["_law_disk", "_law_marks", "_law_log", "_law_home", "_law_x", "_law_gentle", "_law_due_here", "_law_given", "_law_live"]
theorem sc_law_agrees : FnScope ["_law_disk", "_law_marks", "_law_log", "_law_home", "_law_x", "_law_gentle", "_law_due_here", "_law_given", "_law_live"] ["_law_disk", "_law_marks", "_law_log", "_law_home", "_law_x", "_law_gentle"] (defScope s_law_agrees) := ⟨rfl, rfl, rfl, by decide +kernel, rfl, by decide +kernel, by decide +kernel⟩
abbrev s_law : Stmt := top 48
abbrev N_law : List Str := ["_law_script", "_law_feed_here", "_law_disk", "_law_log", "_law_slot", "_law_marks", "_law_k", "_law_pair", "_law_home", "_law_x", "_law_gentle"]
theorem sc_law : FnScope ["_law_script", "_law_feed_here", "_law_disk", "_law_log", "_law_slot", "_law_marks", "_law_k", "_law_pair", "_law_home", "_law_x", "_law_gentle"] ["_law_script"] (defScope s_law) := ⟨rfl, rfl, rfl, by decide +kernel, rfl, by decide +kernel, by decide +kernel⟩
abbrev s_Disk_init : Stmt := inClass (top 33) 0
abbrev N_Disk_init : List Str := ["self", "plan", "x"]
theorem sc_Disk_init : FnScope ["self", "plan", "x"] ["self", "plan"] (defScope s_Disk_init) := ⟨rfl, rfl, rfl, by decide +kernel, rfl, by decide +kernel, by decide +kernel⟩
abbrev s_Disk_issue : Stmt := inClass (top 33) 3
abbrev N_Disk_issue : List Str := ["self", "place", "what", "content"]
theorem sc_Disk_issue : FnScope ["self", "place", "what", "content"] ["self", "place", "what"] (defScope s_Disk_issue) := ⟨rfl, rfl, rfl, by decide +kernel, rfl, by decide +kernel, by decide +kernel⟩
abbrev s_Disk_busy : Stmt := inClass (top 33) 4
abbrev N_Disk_busy : List Str := ["self", "place", "write"]
theorem sc_Disk_busy : FnScope ["self", "place", "write"] ["self", "place"] (defScope s_Disk_busy) := ⟨rfl, rfl, rfl, by decide +kernel, rfl, by decide +kernel, by decide +kernel⟩
abbrev s_Disk_put : Stmt := inClass (top 33) 6
abbrev N_Disk_put : List Str := ["self", "place", "what"]
theorem sc_Disk_put : FnScope ["self", "place", "what"] ["self", "place", "what"] (defScope s_Disk_put) := ⟨rfl, rfl, rfl, by decide +kernel, rfl, by decide +kernel, by decide +kernel⟩
abbrev s_Disk_sure : Stmt := inClass (top 33) 7
abbrev N_Disk_sure : List Str := ["self", "number", "place", "what"]
theorem sc_Disk_sure : FnScope ["self", "number", "place", "what"] ["self", "number"] (defScope s_Disk_sure) := ⟨rfl, rfl, rfl, by decide +kernel, rfl, by decide +kernel, by decide +kernel⟩
abbrev s_Plan_init : Stmt := inClass (top 35) 6
abbrev N_Plan_init : List Str := ["self", "blocks", "nodes", "slots", "maps"]
theorem sc_Plan_init : FnScope ["self", "blocks", "nodes", "slots", "maps"] ["self", "blocks", "nodes", "slots"] (defScope s_Plan_init) := ⟨rfl, rfl, rfl, by decide +kernel, rfl, by decide +kernel, by decide +kernel⟩
/-- what the top has left -/
structure Txt (K : PySem.W.Frag) (mg : Str → Option Value) where
  c_Disk : Addr
  C_Disk : Cls K c_Disk
  g_Disk : mg "Disk" = some (.ref c_Disk)
  kp_Disk : PySem.W.keepIn K (.ref c_Disk) = true
  mk_Disk : PySem.W.makesIn K c_Disk = true
  n_Disk_plan : NoAttr K c_Disk "plan"
  n_Disk_home : NoAttr K c_Disk "home"
  n_Disk_log : NoAttr K c_Disk "log"
  n_Disk_head : NoAttr K c_Disk "head"
  n_Disk_last : NoAttr K c_Disk "last"
  n_Disk_writes : NoAttr K c_Disk "_writes"
  c_Plan : Addr
  C_Plan : Cls K c_Plan
  g_Plan : mg "Plan" = some (.ref c_Plan)
  kp_Plan : PySem.W.keepIn K (.ref c_Plan) = true
  mk_Plan : PySem.W.makesIn K c_Plan = true
  n_Plan_blocks : NoAttr K c_Plan "blocks"
  n_Plan_nodes : NoAttr K c_Plan "nodes"
  n_Plan_slots : NoAttr K c_Plan "slots"
  n_Plan_maps : NoAttr K c_Plan "maps"
  n_Plan_first_node : NoAttr K c_Plan "first_node"
  n_Plan_first_data : NoAttr K c_Plan "first_data"
  a_live_copy : Addr
  fd_live_copy : FuncData
  F_live_copy : Fun K "live_copy" "live_copy" s_live_copy a_live_copy fd_live_copy
  b_live_copy : KBn K fd_live_copy ["marks", "x", "lapse"] 2 ["lapse"] (fun us ws => us ++ ws) (fun vs zs => vs ++ zs)
  m_live_copy : mg "live_copy" = some (.ref a_live_copy)
  a_cells_after : Addr
  fd_cells_after : FuncData
  F_cells_after : Fun K "cells_after" "cells_after" s_cells_after a_cells_after fd_cells_after
  b_cells_after : KBn K fd_cells_after ["disk", "marks", "x", "lapse"] 3 ["lapse"] (fun us ws => us ++ ws) (fun vs zs => vs ++ zs)
  m_cells_after : mg "cells_after" = some (.ref a_cells_after)
  a_is_within : Addr
  fd_is_within : FuncData
  F_is_within : Fun K "is_within" "is_within" s_is_within a_is_within fd_is_within
  b_is_within : Binds K fd_is_within ["part", "low", "high"] []
  m_is_within : mg "is_within" = some (.ref a_is_within)
  a_is_row_of_cells : Addr
  fd_is_row_of_cells : FuncData
  F_is_row_of_cells : Fun K "is_row_of_cells" "is_row_of_cells" s_is_row_of_cells a_is_row_of_cells fd_is_row_of_cells
  b_is_row_of_cells : Binds K fd_is_row_of_cells ["part"] []
  m_is_row_of_cells : mg "is_row_of_cells" = some (.ref a_is_row_of_cells)
  a_are_blocks : Addr
  fd_are_blocks : FuncData
  F_are_blocks : Fun K "are_blocks" "are_blocks" s_are_blocks a_are_blocks fd_are_blocks
  b_are_blocks : Binds K fd_are_blocks ["part"] []
  m_are_blocks : mg "are_blocks" = some (.ref a_are_blocks)
  a_are_copies : Addr
  fd_are_copies : FuncData
  F_are_copies : Fun K "are_copies" "are_copies" s_are_copies a_are_copies fd_are_copies
  b_are_copies : Binds K fd_are_copies ["part"] []
  m_are_copies : mg "are_copies" = some (.ref a_are_copies)
  a_check_record : Addr
  fd_check_record : FuncData
  F_check_record : Fun K "check_record" "check_record" s_check_record a_check_record fd_check_record
  b_check_record : Binds K fd_check_record ["record"] []
  m_check_record : mg "check_record" = some (.ref a_check_record)
  a_fits_plan : Addr
  fd_fits_plan : FuncData
  F_fits_plan : Fun K "fits_plan" "fits_plan" s_fits_plan a_fits_plan fd_fits_plan
  b_fits_plan : Binds K fd_fits_plan ["record", "plan"] []
  m_fits_plan : mg "fits_plan" = some (.ref a_fits_plan)
  a_is_place : Addr
  fd_is_place : FuncData
  F_is_place : Fun K "is_place" "is_place" s_is_place a_is_place fd_is_place
  b_is_place : Binds K fd_is_place ["place", "plan"] []
  m_is_place : mg "is_place" = some (.ref a_is_place)
  a_home_content : Addr
  fd_home_content : FuncData
  F_home_content : Fun K "home_content" "home_content" s_home_content a_home_content fd_home_content
  b_home_content : Binds K fd_home_content ["what"] []
  m_home_content : mg "home_content" = some (.ref a_home_content)
  a_log_content : Addr
  fd_log_content : FuncData
  F_log_content : Fun K "log_content" "log_content" s_log_content a_log_content fd_log_content
  b_log_content : Binds K fd_log_content ["what", "plan"] []
  m_log_content : mg "log_content" = some (.ref a_log_content)
  a_law_feed : Addr
  fd_law_feed : FuncData
  F_law_feed : Fun K "_law_feed" "_law_feed" s_law_feed a_law_feed fd_law_feed
  b_law_feed : Binds K fd_law_feed ["_law_script"] []
  m_law_feed : mg "_law_feed" = some (.ref a_law_feed)
  a_law_pick : Addr
  fd_law_pick : FuncData
  F_law_pick : Fun K "_law_pick" "_law_pick" s_law_pick a_law_pick fd_law_pick
  b_law_pick : Binds K fd_law_pick ["_law_feed_here", "_law_limit"] []
  m_law_pick : mg "_law_pick" = some (.ref a_law_pick)
  a_law_cells : Addr
  fd_law_cells : FuncData
  F_law_cells : Fun K "_law_cells" "_law_cells" s_law_cells a_law_cells fd_law_cells
  b_law_cells : Binds K fd_law_cells ["_law_feed_here", "_law_first"] []
  m_law_cells : mg "_law_cells" = some (.ref a_law_cells)
  a_law_mark : Addr
  fd_law_mark : FuncData
  F_law_mark : Fun K "_law_mark" "_law_mark" s_law_mark a_law_mark fd_law_mark
  b_law_mark : Binds K fd_law_mark ["_law_feed_here", "_law_lot"] []
  m_law_mark : mg "_law_mark" = some (.ref a_law_mark)
  a_law_put : Addr
  fd_law_put : FuncData
  F_law_put : Fun K "_law_put" "_law_put" s_law_put a_law_put fd_law_put
  b_law_put : Binds K fd_law_put ["_law_disk", "_law_log", "_law_slot", "_law_record"] []
  m_law_put : mg "_law_put" = some (.ref a_law_put)
  a_law_fill : Addr
  fd_law_fill : FuncData
  F_law_fill : Fun K "_law_fill" "_law_fill" s_law_fill a_law_fill fd_law_fill
  b_law_fill : Binds K fd_law_fill ["_law_feed_here", "_law_disk", "_law_log", "_law_record"] []
  m_law_fill : mg "_law_fill" = some (.ref a_law_fill)
  a_law_struck : Addr
  fd_law_struck : FuncData
  F_law_struck : Fun K "_law_struck" "_law_struck" s_law_struck a_law_struck fd_law_struck
  b_law_struck : Binds K fd_law_struck ["_law_marks", "_law_at", "_law_x", "_law_gentle"] []
  m_law_struck : mg "_law_struck" = some (.ref a_law_struck)
  a_law_due : Addr
  fd_law_due : FuncData
  F_law_due : Fun K "_law_due" "_law_due" s_law_due a_law_due fd_law_due
  b_law_due : Binds K fd_law_due ["_law_marks", "_law_x", "_law_gentle"] []
  m_law_due : mg "_law_due" = some (.ref a_law_due)
  a_law_due_cells : Addr
  fd_law_due_cells : FuncData
  F_law_due_cells : Fun K "_law_due_cells" "_law_due_cells" s_law_due_cells a_law_due_cells fd_law_due_cells
  b_law_due_cells : Binds K fd_law_due_cells ["_law_log", "_law_home", "_law_due_here", "_law_x"] []
  m_law_due_cells : mg "_law_due_cells" = some (.ref a_law_due_cells)
  a_law_numbers : Addr
  fd_law_numbers : FuncData
  F_law_numbers : Fun K "_law_numbers" "_law_numbers" s_law_numbers a_law_numbers fd_law_numbers
  b_law_numbers : Binds K fd_law_numbers ["_law_actual", "_law_due_here"] []
  m_law_numbers : mg "_law_numbers" = some (.ref a_law_numbers)
  a_law_agrees : Addr
  fd_law_agrees : FuncData
  F_law_agrees : Fun K "_law_agrees" "_law_agrees" s_law_agrees a_law_agrees fd_law_agrees
  b_law_agrees : Binds K fd_law_agrees ["_law_disk", "_law_marks", "_law_log", "_law_home", "_law_x", "_law_gentle"] []
  m_law_agrees : mg "_law_agrees" = some (.ref a_law_agrees)
  a_law : Addr
  fd_law : FuncData
  F_law : Fun K "law" "law" s_law a_law fd_law
  b_law : Binds K fd_law ["_law_script"] []
  m_law : mg "law" = some (.ref a_law)
  a_Disk_init : Addr
  fd_Disk_init : FuncData
  F_Disk_init : Fun K "__init__" "Disk.__init__" s_Disk_init a_Disk_init fd_Disk_init
  b_Disk_init : Binds K fd_Disk_init ["self", "plan"] []
  m_Disk_init : Mk K c_Disk a_Disk_init
  a_Disk_issue : Addr
  fd_Disk_issue : FuncData
  F_Disk_issue : Fun K "issue" "Disk.issue" s_Disk_issue a_Disk_issue fd_Disk_issue
  b_Disk_issue : Binds K fd_Disk_issue ["self", "place", "what"] []
  m_Disk_issue : Meth K c_Disk "issue" a_Disk_issue
  a_Disk_busy : Addr
  fd_Disk_busy : FuncData
  F_Disk_busy : Fun K "busy" "Disk.busy" s_Disk_busy a_Disk_busy fd_Disk_busy
  b_Disk_busy : Binds K fd_Disk_busy ["self", "place"] []
  m_Disk_busy : Meth K c_Disk "busy" a_Disk_busy
  a_Disk_put : Addr
  fd_Disk_put : FuncData
  F_Disk_put : Fun K "_put" "Disk._put" s_Disk_put a_Disk_put fd_Disk_put
  b_Disk_put : Binds K fd_Disk_put ["self", "place", "what"] []
  m_Disk_put : Meth K c_Disk "_put" a_Disk_put
  a_Disk_sure : Addr
  fd_Disk_sure : FuncData
  F_Disk_sure : Fun K "sure" "Disk.sure" s_Disk_sure a_Disk_sure fd_Disk_sure
  b_Disk_sure : Binds K fd_Disk_sure ["self", "number"] []
  m_Disk_sure : Meth K c_Disk "sure" a_Disk_sure
  a_Plan_init : Addr
  fd_Plan_init : FuncData
  F_Plan_init : Fun K "__init__" "Plan.__init__" s_Plan_init a_Plan_init fd_Plan_init
  b_Plan_init : KBn K fd_Plan_init ["self", "blocks", "nodes", "slots"] 2 ["nodes", "slots"] (fun us ws => us ++ ws) (fun vs zs => vs ++ zs)
  m_Plan_init : Mk K c_Plan a_Plan_init
  n_abs : mg "abs" = none
  n_all : mg "all" = none
  n_bool : mg "bool" = none
  n_int : mg "int" = none
  n_isinstance : mg "isinstance" = none
  n_len : mg "len" = none
  n_list : mg "list" = none
  n_range : mg "range" = none
  n_tuple : mg "tuple" = none
  t_MOST_CELL : Tok
  g_MOST_CELL : mg "MOST_CELL" = some (.int 999999999 t_MOST_CELL)
  t_MOST_LOT : Tok
  g_MOST_LOT : mg "MOST_LOT" = some (.int 999999 t_MOST_LOT)
  t_LAST_BLOCK : Tok
  g_LAST_BLOCK : mg "LAST_BLOCK" = some (.int 63 t_LAST_BLOCK)
  t_LAST_SLOT : Tok
  g_LAST_SLOT : mg "LAST_SLOT" = some (.int 199 t_LAST_SLOT)
  t_NO_SLOT : Tok
  g_NO_SLOT : mg "NO_SLOT" = some (.int (-1) t_NO_SLOT)
  a_N : Addr
  g_NOUGHTS : mg "NOUGHTS" = some (.ref a_N)
  s_NOUGHTS : ∀ H : Hp, SqT K H a_N ([0, 0, 0, 0, 0, 0, 0, 0].map V.int)
def fl_Plan (v0 v1 v2 v3 v4 v5 : V) : List (Str × V) := [("blocks", v0), ("nodes", v1), ("slots", v2), ("maps", v3), ("first_node", v4), ("first_data", v5)]
section
variable {v0 v1 v2 v3 v4 v5 y : V}
theorem lk_Plan_blocks : (fl_Plan v0 v1 v2 v3 v4 v5).lookup ("blocks" : Str) = some v0 := by kernel_rfl
theorem pt_Plan_blocks : putF "blocks" y (fl_Plan v0 v1 v2 v3 v4 v5) = fl_Plan y v1 v2 v3 v4 v5 := by kernel_rfl
theorem lk_Plan_nodes : (fl_Plan v0 v1 v2 v3 v4 v5).lookup ("nodes" : Str) = some v1 := by kernel_rfl
theorem pt_Plan_nodes : putF "nodes" y (fl_Plan v0 v1 v2 v3 v4 v5) = fl_Plan v0 y v2 v3 v4 v5 := by kernel_rfl
theorem lk_Plan_slots : (fl_Plan v0 v1 v2 v3 v4 v5).lookup ("slots" : Str) = some v2 := by kernel_rfl
theorem pt_Plan_slots : putF "slots" y (fl_Plan v0 v1 v2 v3 v4 v5) = fl_Plan v0 v1 y v3 v4 v5 := by kernel_rfl
theorem lk_Plan_maps : (fl_Plan v0 v1 v2 v3 v4 v5).lookup ("maps" : Str) = some v3 := by kernel_rfl
theorem pt_Plan_maps : putF "maps" y (fl_Plan v0 v1 v2 v3 v4 v5) = fl_Plan v0 v1 v2 y v4 v5 := by kernel_rfl
theorem lk_Plan_first_node : (fl_Plan v0 v1 v2 v3 v4 v5).lookup ("first_node" : Str) = some v4 := by kernel_rfl
theorem pt_Plan_first_node : putF "first_node" y (fl_Plan v0 v1 v2 v3 v4 v5) = fl_Plan v0 v1 v2 v3 y v5 := by kernel_rfl
theorem lk_Plan_first_data : (fl_Plan v0 v1 v2 v3 v4 v5).lookup ("first_data" : Str) = some v5 := by kernel_rfl
theorem pt_Plan_first_data : putF "first_data" y (fl_Plan v0 v1 v2 v3 v4 v5) = fl_Plan v0 v1 v2 v3 v4 y := by kernel_rfl
theorem ini_Plan : putF "first_data" v5 (putF "first_node" v4 (putF "maps" v3 (putF "slots" v2 (putF "nodes" v1 (putF "blocks" v0 ([])))))) = fl_Plan v0 v1 v2 v3 v4 v5 := by kernel_rfl
theorem len_Plan : (fl_Plan v0 v1 v2 v3 v4 v5).length < 1000 := by show 6 < 1000; decide
end
def fl_Disk (v0 v1 v2 v3 v4 v5 : V) : List (Str × V) := [("plan", v0), ("home", v1), ("log", v2), ("head", v3), ("last", v4), ("_writes", v5)]
section
variable {v0 v1 v2 v3 v4 v5 y : V}
theorem lk_Disk_plan : (fl_Disk v0 v1 v2 v3 v4 v5).lookup ("plan" : Str) = some v0 := by kernel_rfl
theorem pt_Disk_plan : putF "plan" y (fl_Disk v0 v1 v2 v3 v4 v5) = fl_Disk y v1 v2 v3 v4 v5 := by kernel_rfl
theorem lk_Disk_home : (fl_Disk v0 v1 v2 v3 v4 v5).lookup ("home" : Str) = some v1 := by kernel_rfl
theorem pt_Disk_home : putF "home" y (fl_Disk v0 v1 v2 v3 v4 v5) = fl_Disk v0 y v2 v3 v4 v5 := by kernel_rfl
theorem lk_Disk_log : (fl_Disk v0 v1 v2 v3 v4 v5).lookup ("log" : Str) = some v2 := by kernel_rfl
theorem pt_Disk_log : putF "log" y (fl_Disk v0 v1 v2 v3 v4 v5) = fl_Disk v0 v1 y v3 v4 v5 := by kernel_rfl
theorem lk_Disk_head : (fl_Disk v0 v1 v2 v3 v4 v5).lookup ("head" : Str) = some v3 := by kernel_rfl
theorem pt_Disk_head : putF "head" y (fl_Disk v0 v1 v2 v3 v4 v5) = fl_Disk v0 v1 v2 y v4 v5 := by kernel_rfl
theorem lk_Disk_last : (fl_Disk v0 v1 v2 v3 v4 v5).lookup ("last" : Str) = some v4 := by kernel_rfl
theorem pt_Disk_last : putF "last" y (fl_Disk v0 v1 v2 v3 v4 v5) = fl_Disk v0 v1 v2 v3 y v5 := by kernel_rfl
theorem lk_Disk_writes : (fl_Disk v0 v1 v2 v3 v4 v5).lookup ("_writes" : Str) = some v5 := by kernel_rfl
theorem pt_Disk_writes : putF "_writes" y (fl_Disk v0 v1 v2 v3 v4 v5) = fl_Disk v0 v1 v2 v3 v4 y := by kernel_rfl
theorem no_Disk_issue : (fl_Disk v0 v1 v2 v3 v4 v5).lookup ("issue" : Str) = none := by kernel_rfl
theorem no_Disk_busy : (fl_Disk v0 v1 v2 v3 v4 v5).lookup ("busy" : Str) = none := by kernel_rfl
theorem no_Disk_put : (fl_Disk v0 v1 v2 v3 v4 v5).lookup ("_put" : Str) = none := by kernel_rfl
theorem no_Disk_sure : (fl_Disk v0 v1 v2 v3 v4 v5).lookup ("sure" : Str) = none := by kernel_rfl
theorem ini_Disk : putF "_writes" v5 (putF "last" v4 (putF "head" v3 (putF "log" v2 (putF "home" v1 (putF "plan" v0 ([])))))) = fl_Disk v0 v1 v2 v3 v4 v5 := by kernel_rfl
theorem len_Disk : (fl_Disk v0 v1 v2 v3 v4 v5).length < 1000 := by show 6 < 1000; decide
end
/-! the drawn row, and what is drawn of it -/
def Feed (fs : List Int) : Prop := fs.length ≤ 5000 ∧ ∀ x ∈ fs, 0 ≤ x ∧ x < 1000000
theorem Feed.tail {x : Int} {fs : List Int} (h : Feed (x :: fs)) : Feed fs := ⟨by have := h.1; simp at this; omega, fun y hy => h.2 y (List.mem_cons_of_mem _ hy)⟩
def sp_law_feed (K : PySem.W.Frag) : Sp := fun vs H Q _ => ∃ (a : Addr) (ns : List Int), vs = [.ref a] ∧ SqL K H a (ns.map V.int) ∧ ns.length ≤ 63 ∧
  ∀ H' p fs, Fr [] H H' → H p = none → H' p = some (.lst (fs.map V.int)) → Feed fs → Q (.ref p) H'
def sp_law_pick : Sp := fun vs H Q _ => ∃ (a : Addr) (fs : List Int) (n : Int), vs = [.ref a, .int n] ∧ H a = some (.lst (fs.map V.int)) ∧ Feed fs ∧ 0 < n ∧
  ∀ H' r fs', Fr [a] H H' → H' a = some (.lst (fs'.map V.int)) → Feed fs' → 0 ≤ r → r < n → Q (.int r) H'
section
variable {P : Program} {w : World} {K : PySem.W.Frag} {mg : Str → Option Value} {base : Heap}
theorem mem_app1 {P : Int → Prop} {fs : List Int} {y : Int} (h : ∀ x ∈ fs, P x) (hy : P y) : ∀ x ∈ fs ++ [y], P x := fun x hx => by
  rcases List.mem_append.mp hx with q | q
  · exact h x q
  · rw [List.mem_singleton.mp q]
    exact hy
theorem map_app1 {fs : List Int} {y : Int} : fs.map V.int ++ [V.int y] = (fs ++ [y]).map V.int := by simp
theorem ok_law_feed (T : Txt K mg) : FnOk P w K mg base CX0 1 T.a_law_feed T.fd_law_feed ["_law_script"] (sp_law_feed K) := by
  refine T.F_law_feed.ok sc_law_feed (fun vs H Q E h => ?_) (fun cdv A outer s H vs Q E hr h => ?_)
  · obtain ⟨a, ns, rfl, _⟩ := h
    rfl
  · obtain ⟨a, ns, rfl, hS, hl, k⟩ := h
    refine ⟨_, (pss_cons (ps_set (i := 1) sc_law_feed.nd rfl (Or.inl rfl) (pe_lst pa_nil))
        (pss_cons (ps_for PassesOwn.never rfl (pi_list (pv 0)) (pg_name (i := 2) sc_law_feed.nd rfl (Or.inl rfl))
        (pss_cons (ps_set (i := 3) sc_law_feed.nd rfl (Or.inl rfl) (pe_callB call_abs (by rfl) T.n_abs (by decide +kernel) (pa_cons (pv 2) pa_nil)))
        (C8.pss_cut (ps_if (pt_cmpR op_lt (pv 3) (pe_op op_pow pe_int pe_int) (nomark _)) (pss_cons (ps_set (i := 3) sc_law_feed.nd rfl (Or.inl rfl) (pe_op op_mod (pe_callTy call_int1 (by rfl) T.n_int (by decide +kernel) (pa_cons (pe_op op_add (pe_op op_mul (pv 3) pe_int) pe_int) pa_nil)) pe_int))
        (pss_cons (ps_expr (pe_bm PySem.F.plainAttrs_list PySem.F.slot_list_append PySem.F.type_list_append mt_append (pv 1) (pa_cons (pe_op op_mod (pe_callTy call_int1 (by rfl) T.n_int (by decide +kernel) (pa_cons (pe_op op_add (pe_op op_mul (pv 3) pe_int) pe_int) pa_nil)) pe_int) pa_nil)))
        (pss_one (ps_set (i := 3) sc_law_feed.nd rfl (Or.inl rfl) pe_int)))) pss_nil)
        (pss_one (ps_for PassesOwn.never rfl (pi_range1 rfl T.n_range (pa_cons pe_int pa_nil)) (pg_name (i := 4) sc_law_feed.nd rfl (Or.inl rfl))
        (pss_one (ps_if (pt_cmpR op_gt (pv 3) pe_int (nomark _)) (pss_cons (ps_expr (pe_bm PySem.F.plainAttrs_list PySem.F.slot_list_append PySem.F.type_list_append mt_append (pv 1) (pa_cons (pe_op op_mod (pe_callTy call_int1 (by rfl) T.n_int (by decide +kernel) (pa_cons (pv 3) pa_nil)) pe_int) pa_nil)))
        (pss_one (ps_set (i := 3) sc_law_feed.nd rfl (Or.inl rfl) (pe_op op_fdiv (pv 3) pe_int)))) pss_nil)))))))
        (pss_one (ps_ret (pv 1))))), ?_⟩
    refine ⟨by decide, fun p np => ?_⟩
    generalize hH : upd H p _ = H1
    obtain ⟨f1, h1⟩ := gen_new np hH
    refine ⟨_, rfl, a, rfl, ⟨_, f1.seq0 hS⟩, for_list (K := K) (a := a) (xs := ns.map V.int) (fun i σ H2 => ∃ (fs : List Int) (u v x : Option V), σ = [some (.ref a), some (.ref p), u, v, x] ∧ Fr [] H H2 ∧ H2 p = some (.lst (fs.map V.int)) ∧ fs.length ≤ 61 * i ∧ ∀ x ∈ fs, 0 ≤ x ∧ x < 1000000) ?_ ?_ ?_ ?_⟩
    · exact ⟨[], none, none, none, rfl, f1, h1, by simp, by simp⟩
    · rintro i σ H2 _ ⟨fs, u, v, x, rfl, f2, _⟩
      exact f2.seq0 hS
    · rintro i y σ H2 hi ⟨fs, u, v, x, rfl, f2, h2, hf, hb⟩
      obtain ⟨z, hz, rfl⟩ := map_get hi
      have hil := getq_lt hz
      refine ⟨_, rfl, _, rfl, ?_⟩
      have hr0 : 0 ≤ (if z < 0 then -z else z) := by split <;> omega
      generalize (if z < 0 then -z else z) = r at hr0
      refine ⟨fun σ H3 => ∃ (r : Int) (fs : List Int), σ = [some (.ref a), some (.ref p), some (.int z), some (.int r), x] ∧ Fr [] H H3 ∧ H3 p = some (.lst (fs.map V.int)) ∧ 0 ≤ r ∧ fs.length ≤ 61 * i + 1 ∧ ∀ x ∈ fs, 0 ≤ x ∧ x < 1000000, ?_, ?_⟩
      · refine ⟨_, rfl, _, _, rfl, rfl, ⟨by decide, by decide, by decide⟩, _, _, rfl, rfl, _, rfl, ?_⟩
        refine ite2 (fun c => ?_) (fun c => ?_)
        · refine ⟨_, rfl, _, _, rfl, rfl, .inr ⟨by decide, by decide⟩, _, _, rfl, rfl, .inl ⟨_, rfl, _, _, rfl, rfl, (by show (0 : Int) < 2147483647; decide), ?_⟩⟩
          refine ⟨_, rfl, .inl ⟨rfl, _, sq h2⟩, _, rfl, _, _, rfl, rfl, .inr ⟨by decide, by decide⟩, _, _, rfl, rfl, .inl ⟨_, rfl, _, _, rfl, rfl, (by show (0 : Int) < 999983; decide), p, _, _, rfl, rfl, h2, sz (by simp; omega), ?_⟩⟩
          generalize hH3 : upd H2 p _ = H3
          obtain ⟨f3, h3⟩ := gen_upd hH3
          rw [map_app1] at h3
          refine ⟨0, _, rfl, f2.up1 f3 (.inr np), h3, by decide, by simp; omega, mem_app1 hb ?_⟩
          exact ⟨Int.emod_nonneg _ (by decide), Int.lt_trans (Int.emod_lt_of_pos _ (by decide)) (by decide)⟩
        · exact ⟨r, fs, rfl, f2, h2, hr0, by omega, hb⟩
      · rintro σ H3 ⟨r, fs, rfl, f3, h3, hr1, hf1, hb1⟩
        refine ⟨60, rfl, by decide, by decide, for_range (n := 60) (fun j σ H4 => ∃ (r : Int) (fs : List Int) (x : Option V), σ = [some (.ref a), some (.ref p), some (.int z), some (.int r), x] ∧ Fr [] H H4 ∧ H4 p = some (.lst (fs.map V.int)) ∧ 0 ≤ r ∧ fs.length ≤ 61 * i + 1 + j ∧ ∀ x ∈ fs, 0 ≤ x ∧ x < 1000000) ?_ ?_ ?_⟩
        · exact ⟨r, fs, x, rfl, f3, h3, hr1, by omega, hb1⟩
        · rintro j σ H4 hj ⟨r, fs, x, rfl, f4, h4, hr2, hf2, hb2⟩
          refine ⟨_, rfl, _, _, rfl, rfl, _, rfl, ?_⟩
          refine ite2 (fun c => ?_) (fun c => ?_)
          · refine ⟨_, rfl, .inl ⟨rfl, _, sq h4⟩, _, rfl, .inl ⟨_, rfl, _, _, rfl, rfl, (by show (0 : Int) < 1000; decide), p, _, _, rfl, rfl, h4, sz (by simp; omega), ?_⟩⟩
            generalize hH5 : upd H4 p _ = H5
            obtain ⟨f5, h5⟩ := gen_upd hH5
            rw [map_app1] at h5
            refine ⟨_, rfl, _, _, rfl, rfl, ⟨by decide, by decide⟩, _, _, _, rfl, f4.up1 f5 (.inr np), h5, Int.ediv_nonneg hr2 (by decide), by simp; omega, mem_app1 hb2 ?_⟩
            exact ⟨Int.emod_nonneg _ (by decide), Int.lt_trans (Int.emod_lt_of_pos _ (by decide)) (by decide)⟩
          · exact ⟨r, fs, _, rfl, f4, h4, hr2, by omega, hb2⟩
        · rintro σ H4 ⟨r, fs, x, rfl, f4, h4, hr2, hf2, hb2⟩
          exact ⟨fs, _, _, _, rfl, f4, h4, by omega, hb2⟩
    · rintro σ H2 ⟨fs, u, v, x, rfl, f2, h2, hf, hb⟩
      rw [List.length_map] at hf
      exact ⟨_, rfl, k H2 p fs f2 np h2 ⟨by omega, hb⟩⟩
theorem ok_law_pick (T : Txt K mg) : FnOk P w K mg base CX0 1 T.a_law_pick T.fd_law_pick ["_law_feed_here", "_law_limit"] sp_law_pick := by
  refine T.F_law_pick.ok sc_law_pick (fun vs H Q E h => ?_) (fun cdv A outer s H vs Q E hr h => ?_)
  · obtain ⟨a, fs, n, rfl, _⟩ := h
    rfl
  · obtain ⟨a, fs, n, rfl, h1, hf, hn, k⟩ := h
    refine ⟨_, (pss_cons (ps_if (pt_cmpR op_eq (pe_callB call_len_seq (by rfl) T.n_len (by decide +kernel) (pa_cons (pv 0) pa_nil)) pe_int (nomark _)) (pss_one (ps_ret pe_int)) pss_nil)
        (pss_one (ps_ret (pe_op op_mod (pe_callTy call_int1 (by rfl) T.n_int (by decide +kernel) (pa_cons (pe_bm PySem.F.plainAttrs_list PySem.F.slot_list_pop PySem.F.type_list_pop mt_popAt (pv 0) (pa_cons pe_int pa_nil)) pa_nil)) (pv 1))))), ?_⟩
    refine ⟨_, rfl, a, _, rfl, .inl (sq h1), rfl, _, rfl, ?_⟩
    cases fs with
    | nil => exact iteT (k H 0 [] (Fr.refl _ _) h1 hf (by decide) hn)
    | cons x fs =>
      refine iteF' (by simp; omega) ?_
      refine ⟨_, rfl, .inl ⟨rfl, _, sq h1⟩, a, _, 0, 0, _, rfl, rfl, h1, by decide, by decide, by simp [seqIndex?], rfl, .inl ⟨_, rfl, ?_⟩⟩
      refine ⟨_, rfl, _, _, rfl, rfl, hn, ?_⟩
      generalize hH3 : upd H a _ = H3
      obtain ⟨f3, h3⟩ := gen_upd hH3
      exact k H3 _ fs f3 h3 hf.tail (Int.emod_nonneg _ (by omega)) (Int.emod_lt_of_pos _ hn)
end
/-! types of sequences; is_within -/
theorem ty_tup {K : PySem.W.Frag} {H : Hp} {a : Addr} {xs : List V} (h : SqT K H a xs) : TyX K H (.ref a) (.type "tuple") := by
  rcases h with (h | ⟨o, h⟩) | ⟨o, its, n, h1, h2, _⟩
  · exact .base (.tup h)
  · exact .fTuple h
  · exact .kTuple h1 h2
theorem ty_lst {K : PySem.W.Frag} {H : Hp} {a : Addr} {xs : List V} (h : SqL K H a xs) : TyX K H (.ref a) (.type "list") := by
  rcases h with (h | ⟨o, h⟩) | ⟨o, its, n, h1, h2, _⟩
  · exact .base (.lst h)
  · exact .base (.frz h)
  · exact .kList h1 h2
def win (x lo hi : Int) : Bool := decide (lo ≤ x) && decide (x ≤ hi)
def sp_is_within : Sp := fun vs H Q _ => ∃ x lo hi : Int, vs = [.int x, .int lo, .int hi] ∧ Q (.bl (win x lo hi)) H
section
variable {P : Program} {w : World} {K : PySem.W.Frag} {mg : Str → Option Value} {base : Heap}
theorem ok_is_within (T : Txt K mg) : FnOk P w K mg base CX0 1 T.a_is_within T.fd_is_within ["part", "low", "high"] sp_is_within := by
  refine T.F_is_within.ok sc_is_within (fun vs H Q E h => ?_) (fun cdv A outer s H vs Q E hr h => ?_)
  · obtain ⟨x, lo, hi, rfl, _⟩ := h
    rfl
  · obtain ⟨x, lo, hi, rfl, k⟩ := h
    refine ⟨_, (pss_one (ps_ret (pe_and (pe_callB call_isi (by rfl) T.n_isinstance (by decide +kernel) (pa_cons (pv 0) (pa_cons (pe_bltn (v := .ty "int") (u := .type "int") (by rfl) T.n_int (by decide +kernel) rfl) pa_nil))) (pe_and (pe_not (pe_callB call_isi (by rfl) T.n_isinstance (by decide +kernel) (pa_cons (pv 0) (pa_cons (pe_bltn (v := .ty "bool") (u := .type "bool") (by rfl) T.n_bool (by decide +kernel) rfl) pa_nil)))) (pe_one (pe_chain op_le op_le (pv 1) (pv 0) (pv 2))))))), ?_⟩
    refine ⟨_, rfl, _, _, _, _, true, rfl, .ty "int", .base (.int x), kit_ty (by decide +kernel), _, rfl, iteT ?_⟩
    refine ⟨_, rfl, _, _, _, _, false, rfl, .ty "bool", .base (.int x), kit_ty (by decide +kernel), _, rfl, _, rfl, iteT ?_⟩
    refine ⟨_, rfl, _, rfl, _, _, rfl, rfl, _, rfl, ?_⟩
    unfold win at k
    refine ite2 (fun c => ?_) (fun c => ?_)
    · rw [c, Bool.true_and] at k
      exact ⟨_, rfl, _, _, rfl, rfl, k⟩
    · rw [Bool.eq_false_iff.mpr c, Bool.false_and] at k
      exact k
end

/-! records -/
inductive Rec where
  | copy (lot blk : Int) (cells : List Int)
  | mark (lot : Int) (cs : List (Int × Int)) (rs : List Int)
def PairAt (K : PySem.W.Frag) (H : Hp) (v : V) (p : Int × Int) : Prop := ∃ t, v = .ref t ∧ SqT K H t [.int p.1, .int p.2]
def RecAt (K : PySem.W.Frag) (H : Hp) (v : V) : Rec → Prop
  | .copy lot blk cells => ∃ a c, v = .ref a ∧ SqT K H a [.str "copy", .int lot, .int blk, .ref c] ∧ SqT K H c (cells.map V.int)
  | .mark lot cs rs => ∃ a c r ps, v = .ref a ∧ SqT K H a [.str "mark", .int lot, .ref c, .ref r] ∧ SqT K H c ps ∧ Paired (PairAt K H) ps cs ∧ SqT K H r (rs.map V.int)
theorem RecAt.ts {K : PySem.W.Frag} {H H' : Hp} {v : V} {r : Rec} (t : TS K H H') (h : RecAt K H v r) : RecAt K H' v r := by
  cases r with
  | copy lot blk cells =>
    obtain ⟨a, c, e, h1, h2⟩ := h
    exact ⟨a, c, e, t _ _ h1, t _ _ h2⟩
  | mark lot cs rs =>
    obtain ⟨a, c, r, ps, e, h1, h2, h3, h4⟩ := h
    exact ⟨a, c, r, ps, e, t _ _ h1, t _ _ h2, Paired.mapP h3 fun _ _ ⟨q, e, h⟩ => ⟨q, e, t _ _ h⟩, t _ _ h4⟩
def asc : Int → List Int → Bool
  | _, [] => true
  | l, b :: bs => win b (l + 1) 63 && asc b bs
def rowOk (ns : List Int) : Bool := decide (ns.length = 8) && ns.all fun n => win n 0 999999999
def cpsOk (cs : List (Int × Int)) : Bool := cs.all (fun p => win p.2 (-1) 199) && asc (-1) (cs.map (·.1))
def recOk : Rec → Bool
  | .copy lot blk cells => win lot 1 999999 && (win blk 0 63 && rowOk cells)
  | .mark lot cs rs => win lot 1 999999 && (cpsOk cs && asc (-1) rs)
def sp_is_row_of_cells (K : PySem.W.Frag) : Sp := fun vs H Q _ => ∃ (a : Addr) (ns : List Int), vs = [.ref a] ∧ SqT K H a (ns.map V.int) ∧ ns.length ≤ 1000 ∧ ∀ H', Fr [] H H' → Q (.bl (rowOk ns)) H'
def sp_are_blocks (K : PySem.W.Frag) : Sp := fun vs H Q _ => ∃ (a : Addr) (ns : List Int), vs = [.ref a] ∧ SqT K H a (ns.map V.int) ∧ Q (.bl (asc (-1) ns)) H
def sp_are_copies (K : PySem.W.Frag) : Sp := fun vs H Q _ => ∃ (a : Addr) (ps : List V) (cs : List (Int × Int)), vs = [.ref a] ∧ SqT K H a ps ∧ Paired (PairAt K H) ps cs ∧ cs.length ≤ 1000 ∧ ∀ H', Fr [] H H' → Q (.bl (cpsOk cs)) H'
section
variable {P : Program} {w : World} {K : PySem.W.Frag} {mg : Str → Option Value} {base : Heap}
theorem ok_is_row_of_cells (T : Txt K mg) : FnOk P w K mg base CX0 2 T.a_is_row_of_cells T.fd_is_row_of_cells ["part"] (sp_is_row_of_cells K) := by
  refine T.F_is_row_of_cells.ok sc_is_row_of_cells (fun vs H Q E h => ?_) (fun cdv A outer s H vs Q E hr h => ?_)
  · obtain ⟨a, ns, rfl, _⟩ := h
    rfl
  · obtain ⟨a, ns, rfl, h0, hl, k⟩ := h
    refine ⟨_, (pss_cons (ps_if (PW.pt (pw_or (pt_not (pt_val (pe_callB call_isi (by rfl) T.n_isinstance (by decide +kernel) (pa_cons (pv 0) (pa_cons (pe_bltn (v := .ty "tuple") (u := .type "tuple") (by rfl) T.n_tuple (by decide +kernel) rfl) pa_nil))))) (pw_or1 (pt_cmpR op_ne (pe_callB call_len_seq (by rfl) T.n_len (by decide +kernel) (pa_cons (pv 0) pa_nil)) pe_int (nomark _))))) (pss_one (ps_ret pe_bl)) pss_nil)
        (pss_one (ps_ret (pe_callB (cr_all rfl) (by rfl) T.n_all (by decide +kernel) (pa_cons (pe_lc (own := [("cell", 1)]) (g := gName 1) (tt := tYes) (by rfl) sc_is_row_of_cells.nd (pi_tup (pv 0)) (blkOk_by (own := [("cell", 1)]) (N := N_is_row_of_cells) (sc := defScope s_is_row_of_cells) (by decide +kernel)) (fun _ _ _ _ _ => pg_name (i := 1) sc_is_row_of_cells.nd rfl (Or.inl rfl)) (fun _ _ _ _ _ => pts_nil) (fun _ _ _ _ _ => (pe_call (ok_is_within T) (hr.mono (by decide)) rfl T.m_is_within T.F_is_within.kp T.b_is_within .nil pass0 (pa_cons (pv 1) (pa_cons pe_int (pa_cons (pe_glob (v := .int 999999999) rfl T.g_MOST_CELL ⟨_, rfl⟩) pa_nil)))))) pa_nil))))), ?_⟩
    refine ⟨_, rfl, _, _, _, _, true, rfl, .ty "tuple", ty_tup h0, kit_ty (by decide +kernel), _, rfl, iteF ?_⟩
    refine ⟨_, rfl, a, _, rfl, .inr h0, rfl, _, rfl, ?_⟩
    unfold rowOk at k
    refine ite2 (fun c => ?_) (fun c => ?_)
    · have c1 : ¬ ns.length = 8 := fun q => by
        rw [List.length_map, q] at c
        revert c
        decide
      rw [decide_eq_false c1, Bool.false_and] at k
      exact k H (Fr.refl _ _)
    · have c1 : ns.length = 8 := by
        rw [List.length_map] at c
        by_cases q : ((ns.length : Nat) : Int) = 8
        · omega
        · exact absurd (by rw [decide_eq_false fun e => q (V.int.inj e)]; rfl) c
      rw [decide_eq_true c1, Bool.true_and] at k
      refine ⟨_, rfl, a, rfl, ⟨_, h0⟩, fun D nD => lc_tup (K := K) (a := a) (xs := ns.map V.int) (fun i H3 => Fr [] H H3 ∧ H3 D = some (.lst (((ns.take i).map fun n => win n 0 999999999).map V.bl))) ?_ ?_ ?_ ?_⟩
      · exact ⟨Fr.new nD, upd_same⟩
      · rintro i H3 _ ⟨f3, _⟩
        exact f3.tup0 h0
      · rintro i y H3 hi ⟨f3, h3⟩
        obtain ⟨n, hn, rfl⟩ := map_get hi
        refine ⟨rfl, _, rfl, n, 0, 999999999, rfl, _, h3, sz (by simp; omega), ?_⟩
        refine ⟨f3.up1 Fr.mut (.inr nD), ?_⟩
        rw [upd_same, List.take_add_one, hn]
        simp
      · rintro H3 ⟨f3, h3⟩
        rw [List.length_map, List.take_length] at h3
        refine ⟨D, _, rfl, sq h3, ?_⟩
        rw [List.all_map]
        exact k H3 f3
theorem ok_are_blocks (T : Txt K mg) : FnOk P w K mg base CX0 2 T.a_are_blocks T.fd_are_blocks ["part"] (sp_are_blocks K) := by
  refine T.F_are_blocks.ok sc_are_blocks (fun vs H Q E h => ?_) (fun cdv A outer s H vs Q E hr h => ?_)
  · obtain ⟨a, ns, rfl, _⟩ := h
    rfl
  · obtain ⟨a, ns, rfl, h0, k⟩ := h
    refine ⟨_, (pss_cons (ps_if (pt_not (pt_val (pe_callB call_isi (by rfl) T.n_isinstance (by decide +kernel) (pa_cons (pv 0) (pa_cons (pe_bltn (v := .ty "tuple") (u := .type "tuple") (by rfl) T.n_tuple (by decide +kernel) rfl) pa_nil))))) (pss_one (ps_ret pe_bl)) pss_nil)
        (pss_cons (ps_set (i := 1) sc_are_blocks.nd rfl (Or.inl rfl) (pe_un un_neg pe_int))
        (pss_cons (ps_for PassesOwn.never rfl (pi_tup (pv 0)) (pg_name (i := 2) sc_are_blocks.nd rfl (Or.inl rfl))
        (pss_cons (ps_if (pt_not (pt_val (pe_call (ok_is_within T) (hr.mono (by decide)) rfl T.m_is_within T.F_is_within.kp T.b_is_within .nil pass0 (pa_cons (pv 2) (pa_cons (pe_op op_add (pv 1) pe_int) (pa_cons (pe_glob (v := .int 63) rfl T.g_LAST_BLOCK ⟨_, rfl⟩) pa_nil)))))) (pss_one (ps_ret pe_bl)) pss_nil)
        (pss_one (ps_set (i := 1) sc_are_blocks.nd rfl (Or.inl rfl) (pv 2)))))
        (pss_one (ps_ret pe_bl))))), ?_⟩
    refine ⟨_, rfl, _, _, _, _, true, rfl, .ty "tuple", ty_tup h0, kit_ty (by decide +kernel), _, rfl, iteF ?_⟩
    refine ⟨_, rfl, _, rfl, a, rfl, ⟨_, h0⟩, for_tup (K := K) (a := a) (xs := ns.map V.int) (fun i σ H2 => H = H2 ∧ ∃ (l : Int) (x : Option V), σ = [some (.ref a), some (.int l), x] ∧ asc l (ns.drop i) = asc (-1) ns) ?_ ?_ ?_ ?_⟩
    · exact ⟨rfl, -1, _, rfl, rfl⟩
    · rintro i σ H2 _ ⟨rfl, _⟩
      exact h0
    · rintro i y σ H2 hi ⟨rfl, l, x, rfl, hd⟩
      obtain ⟨n, hn, rfl⟩ := map_get hi
      rw [drop_at hn, asc] at hd
      refine ⟨_, rfl, _, rfl, _, _, rfl, rfl, n, l + 1, 63, rfl, _, rfl, ?_⟩
      cases e : win n (l + 1) 63 with
      | true =>
        rw [e, Bool.true_and] at hd
        exact iteF ⟨_, rfl, rfl, n, _, rfl, hd⟩
      | false =>
        rw [e, Bool.false_and] at hd
        rw [← hd] at k
        exact iteT k
    · rintro σ H2 ⟨rfl, l, x, rfl, hd⟩
      rw [List.length_map, List.drop_length, asc] at hd
      rw [← hd] at k
      exact k
theorem ok_are_copies (T : Txt K mg) : FnOk P w K mg base CX0 3 T.a_are_copies T.fd_are_copies ["part"] (sp_are_copies K) := by
  refine T.F_are_copies.ok sc_are_copies (fun vs H Q E h => ?_) (fun cdv A outer s H vs Q E hr h => ?_)
  · obtain ⟨a, ps, cs, rfl, _⟩ := h
    rfl
  · obtain ⟨a, ps, cs, rfl, h0, hp, hl, k⟩ := h
    have hlen := hp.length
    refine ⟨_, (pss_cons (ps_if (pt_not (pt_val (pe_callB call_isi (by rfl) T.n_isinstance (by decide +kernel) (pa_cons (pv 0) (pa_cons (pe_bltn (v := .ty "tuple") (u := .type "tuple") (by rfl) T.n_tuple (by decide +kernel) rfl) pa_nil))))) (pss_one (ps_ret pe_bl)) pss_nil)
        (pss_cons (ps_for PassesOwn.never rfl (pi_tup (pv 0)) (pg_name (i := 1) sc_are_copies.nd rfl (Or.inl rfl))
        (pss_one (ps_if (PW.pt (pw_or (pt_not (pt_val (pe_callB call_isi (by rfl) T.n_isinstance (by decide +kernel) (pa_cons (pv 1) (pa_cons (pe_bltn (v := .ty "tuple") (u := .type "tuple") (by rfl) T.n_tuple (by decide +kernel) rfl) pa_nil))))) (pw_or (pt_cmpR op_ne (pe_callB call_len_seq (by rfl) T.n_len (by decide +kernel) (pa_cons (pv 1) pa_nil)) pe_int (nomark _)) (pw_or1 (pt_not (pt_val (pe_call (ok_is_within T) (hr.mono (by decide)) rfl T.m_is_within T.F_is_within.kp T.b_is_within .nil pass0 (pa_cons (pe_ix ix_tup (pv 1) pe_int (fun _ _ => rfl)) (pa_cons (pe_glob (v := .int (-1)) rfl T.g_NO_SLOT ⟨_, rfl⟩) (pa_cons (pe_glob (v := .int 199) rfl T.g_LAST_SLOT ⟨_, rfl⟩) pa_nil)))))))))) (pss_one (ps_ret pe_bl)) pss_nil)))
        (pss_one (ps_ret (pe_call (ok_are_blocks T) (hr.mono (by decide)) rfl T.m_are_blocks T.F_are_blocks.kp T.b_are_blocks .nil pass0 (pa_cons (pe_callTy call_tuple_of (by rfl) T.n_tuple (by decide +kernel) (pa_cons (pe_lc (own := [("pair", 1)]) (g := gName 1) (tt := tYes) (by rfl) sc_are_copies.nd (pi_tup (pv 0)) (blkOk_by (own := [("pair", 1)]) (N := N_are_copies) (sc := defScope s_are_copies) (by decide +kernel)) (fun _ _ _ _ _ => pg_name (i := 1) sc_are_copies.nd rfl (Or.inl rfl)) (fun _ _ _ _ _ => pts_nil) (fun _ _ _ _ _ => (pe_ix (show IxR _ (rIxT K) from ix_tup) (pv 1) pe_int (fun _ _ => rfl)))) pa_nil)) pa_nil)))))), ?_⟩
    refine ⟨_, rfl, _, _, _, _, true, rfl, .ty "tuple", ty_tup h0, kit_ty (by decide +kernel), _, rfl, iteF ?_⟩
    unfold cpsOk at k
    refine ⟨_, rfl, a, rfl, ⟨_, h0⟩, for_tup (K := K) (a := a) (xs := ps) (fun i σ H2 => H = H2 ∧ ∃ (x : Option V), σ = [some (.ref a), x] ∧ (cs.drop i).all (fun p => win p.2 (-1) 199) = cs.all (fun p => win p.2 (-1) 199)) ?_ ?_ ?_ ?_⟩
    · exact ⟨rfl, _, rfl, rfl⟩
    · rintro i σ H2 _ ⟨rfl, _⟩
      exact h0
    · rintro i y σ H2 hi ⟨rfl, x, rfl, hd⟩
      obtain ⟨p, hp1, t, rfl, ht⟩ := paired_get hp hi
      rw [drop_at hp1, List.all_cons] at hd
      refine ⟨_, rfl, _, _, _, _, true, rfl, .ty "tuple", ty_tup ht, kit_ty (by decide +kernel), _, rfl, iteF ?_⟩
      refine ⟨_, rfl, t, _, rfl, .inr ht, rfl, _, rfl, iteF ?_⟩
      refine ⟨_, rfl, t, _, 1, _, rfl, rfl, ht, rfl, p.2, -1, 199, rfl, _, rfl, ?_⟩
      cases e : win p.2 (-1) 199 with
      | true =>
        rw [e, Bool.true_and] at hd
        exact iteF ⟨rfl, _, rfl, hd⟩
      | false =>
        rw [e, Bool.false_and] at hd
        rw [← hd, Bool.false_and] at k
        exact iteT (k _ (Fr.refl _ _))
    · rintro σ H2 ⟨rfl, x, rfl, hd⟩
      rw [hlen, List.drop_length, List.all_nil] at hd
      rw [← hd, Bool.true_and] at k
      refine ⟨_, rfl, a, rfl, ⟨_, h0⟩, fun D nD => lc_tup (K := K) (a := a) (xs := ps) (fun i H3 => Fr [] H H3 ∧ H3 D = some (.lst (((cs.take i).map (·.1)).map V.int))) ?_ ?_ ?_ ?_⟩
      · exact ⟨Fr.new nD, upd_same⟩
      · rintro i H3 _ ⟨f3, _⟩
        exact f3.tup0 h0
      · rintro i y H3 hi ⟨f3, h3⟩
        obtain ⟨p, hp1, t, rfl, ht⟩ := paired_get hp hi
        refine ⟨rfl, _, rfl, t, _, 0, _, rfl, rfl, f3.tup0 ht, rfl, _, h3, sz (by simp; omega), ?_⟩
        refine ⟨f3.up1 Fr.mut (.inr nD), ?_⟩
        rw [upd_same, List.take_add_one, hp1]
        simp
      · rintro H3 ⟨f3, h3⟩
        rw [hlen, List.take_length] at h3
        refine ⟨D, _, rfl, .inl ⟨sq h3, fun q nq => ?_⟩⟩
        generalize hH : upd H3 q _ = H4
        obtain ⟨f4, h4⟩ := gen_new nq hH
        exact ⟨q, _, rfl, sqt h4, k H4 (f3.up0 f4)⟩
/-- a right record is let -/
def sp_check_record (K : PySem.W.Frag) : Sp := fun vs H Q _ => ∃ (v : V) (r : Rec), vs = [v] ∧ RecAt K H v r ∧ recOk r = true ∧ (∀ lot cs rs, r = .mark lot cs rs → cs.length ≤ 1000) ∧ ∀ H', Fr [] H H' → Q .non H'
theorem cm_ne : ¬ (("mark" : Str) = "copy") := by decide +kernel
theorem ok_check_record (T : Txt K mg) : FnOk P w K mg base CX0 4 T.a_check_record T.fd_check_record ["record"] (sp_check_record K) := by
  refine T.F_check_record.ok sc_check_record (fun vs H Q E h => ?_) (fun cdv A outer s H vs Q E hr h => ?_)
  · obtain ⟨v, r, rfl, _⟩ := h
    rfl
  · obtain ⟨v, r, rfl, h0, hk, hb, k⟩ := h
    refine ⟨_, (pss_cons (ps_if (PW.pt (pw_or (pt_not (pt_val (pe_callB call_isi (by rfl) T.n_isinstance (by decide +kernel) (pa_cons (pv 0) (pa_cons (pe_bltn (v := .ty "tuple") (u := .type "tuple") (by rfl) T.n_tuple (by decide +kernel) rfl) pa_nil))))) (pw_or (pt_cmpR op_ne (pe_callB call_len_seq (by rfl) T.n_len (by decide +kernel) (pa_cons (pv 0) pa_nil)) pe_int (nomark _)) (pw_or1 (pt_not (pt_val (pe_call (ok_is_within T) (hr.mono (by decide)) rfl T.m_is_within T.F_is_within.kp T.b_is_within .nil pass0 (pa_cons (pe_ix ix_tup (pv 0) pe_int (fun _ _ => rfl)) (pa_cons pe_int (pa_cons (pe_glob (v := .int 999999) rfl T.g_MOST_LOT ⟨_, rfl⟩) pa_nil)))))))))) (pss_one ps_never) pss_nil)
        (pss_cons (ps_set (i := 1) sc_check_record.nd rfl (Or.inl rfl) pe_bl)
        (pss_cons (ps_if (pt_cmpR op_eq (pe_ix ix_tup (pv 0) pe_int (fun _ _ => rfl)) pe_str (nomark _)) (pss_one (ps_set (i := 1) sc_check_record.nd rfl (Or.inl rfl) (pe_and (pe_call (ok_is_within T) (hr.mono (by decide)) rfl T.m_is_within T.F_is_within.kp T.b_is_within .nil pass0 (pa_cons (pe_ix ix_tup (pv 0) pe_int (fun _ _ => rfl)) (pa_cons pe_int (pa_cons (pe_glob (v := .int 63) rfl T.g_LAST_BLOCK ⟨_, rfl⟩) pa_nil)))) (pe_one (pe_call (ok_is_row_of_cells T) (hr.mono (by decide)) rfl T.m_is_row_of_cells T.F_is_row_of_cells.kp T.b_is_row_of_cells .nil pass0 (pa_cons (pe_ix ix_tup (pv 0) pe_int (fun _ _ => rfl)) pa_nil)))))) (pss_one (ps_if (pt_cmpR op_eq (pe_ix ix_tup (pv 0) pe_int (fun _ _ => rfl)) pe_str (nomark _)) (pss_one (ps_set (i := 1) sc_check_record.nd rfl (Or.inl rfl) (pe_and (pe_call (ok_are_copies T) (hr.mono (by decide)) rfl T.m_are_copies T.F_are_copies.kp T.b_are_copies .nil pass0 (pa_cons (pe_ix ix_tup (pv 0) pe_int (fun _ _ => rfl)) pa_nil)) (pe_one (pe_call (ok_are_blocks T) (hr.mono (by decide)) rfl T.m_are_blocks T.F_are_blocks.kp T.b_are_blocks .nil pass0 (pa_cons (pe_ix ix_tup (pv 0) pe_int (fun _ _ => rfl)) pa_nil)))))) pss_nil)))
        (pss_one (ps_if (pt_not (pt_val (pv 1))) (pss_one ps_never) pss_nil))))), ?_⟩
    cases r with
    | copy lot blk cells =>
      obtain ⟨a, c, rfl, h1, h2⟩ := h0
      simp only [recOk, Bool.and_eq_true] at hk
      have l8 : cells.length = 8 := by
        have := hk.2.2
        simp only [rowOk, Bool.and_eq_true, decide_eq_true_eq] at this
        exact this.1
      refine ⟨_, rfl, _, _, _, _, true, rfl, .ty "tuple", ty_tup h1, kit_ty (by decide +kernel), _, rfl, iteF ?_⟩
      refine ⟨_, rfl, a, _, rfl, .inr h1, rfl, _, rfl, iteF ?_⟩
      refine ⟨_, rfl, a, _, 1, _, rfl, rfl, h1, rfl, lot, 1, 999999, rfl, _, rfl, iteF' (by rw [hk.1]; rfl) ?_⟩
      refine ⟨_, rfl, a, _, 0, _, rfl, rfl, h1, rfl, rfl, _, rfl, iteT' (by decide +kernel) ?_⟩
      refine ⟨_, rfl, a, _, 2, _, rfl, rfl, h1, rfl, blk, 0, 63, rfl, _, rfl, iteT' hk.2.1 ?_⟩
      refine ⟨_, rfl, a, _, 3, _, rfl, rfl, h1, rfl, c, cells, rfl, h2, by omega, fun H2 f2 => ?_⟩
      refine ⟨_, rfl, _, rfl, iteF' (by rw [hk.2.2]; rfl) ?_⟩
      exact k H2 f2
    | mark lot cs rs =>
      obtain ⟨a, c, r, ps, rfl, h1, h2, h3, h4⟩ := h0
      simp only [recOk, Bool.and_eq_true] at hk
      refine ⟨_, rfl, _, _, _, _, true, rfl, .ty "tuple", ty_tup h1, kit_ty (by decide +kernel), _, rfl, iteF ?_⟩
      refine ⟨_, rfl, a, _, rfl, .inr h1, rfl, _, rfl, iteF ?_⟩
      refine ⟨_, rfl, a, _, 1, _, rfl, rfl, h1, rfl, lot, 1, 999999, rfl, _, rfl, iteF' (by rw [hk.1]; rfl) ?_⟩
      refine ⟨_, rfl, a, _, 0, _, rfl, rfl, h1, rfl, rfl, _, rfl, iteF' (by rw [dec_str, decide_eq_false cm_ne]) ?_⟩
      refine ⟨_, rfl, a, _, 0, _, rfl, rfl, h1, rfl, rfl, _, rfl, iteT' (by decide +kernel) ?_⟩
      refine ⟨_, rfl, a, _, 2, _, rfl, rfl, h1, rfl, c, ps, cs, rfl, h2, h3, hb _ _ _ rfl, fun H2 f2 => ⟨_, rfl, iteT' hk.2.1 ?_⟩⟩
      refine ⟨_, rfl, a, _, 3, _, rfl, rfl, f2.tup0 h1, rfl, r, rs, rfl, f2.tup0 h4, ?_⟩
      refine ⟨_, rfl, _, rfl, iteF' (by rw [hk.2.2]; rfl) ?_⟩
      exact k H2 f2
end
/-! records as data -/
def Rec.data : Rec → PyData
  | .copy lot blk cells => .tuple [.str "copy", .int lot, .int blk, .tuple (cells.map PyData.int)]
  | .mark lot cs rs => .tuple [.str "mark", .int lot, .tuple (cs.map fun p => .tuple [.int p.1, .int p.2]), .tuple (rs.map PyData.int)]
theorem RecAt.dp {K : PySem.W.Frag} {H : Hp} {v : V} {r : Rec} (h : RecAt K H v r) : Dp K H v r.data := by
  cases r with
  | copy lot blk cells =>
    obtain ⟨a, c, rfl, h1, h2⟩ := h
    exact .tup h1 (.cons (.str _) (.cons (.int _) (.cons (.int _) (.cons (.tup h2 (dp_ints _)) .nil))))
  | mark lot cs rs =>
    obtain ⟨a, c, r, ps, rfl, h1, h2, h3, h4⟩ := h
    refine .tup h1 (.cons (.str _) (.cons (.int _) (.cons (.tup h2 (dp_paired (fun v p q => ?_) h3)) (.cons (.tup h4 (dp_ints _)) .nil))))
    obtain ⟨t, rfl, ht⟩ := q
    exact .tup ht (.cons (.int _) (.cons (.int _) .nil))
theorem Rec.sh (r : Rec) : Sh 4 r.data := by
  cases r with
  | copy lot blk cells =>
    exact .tup (.cons (.str (by decide +kernel)) (.cons (.int _) (.cons (.int _) (.cons ((Sh.tup (n := 0) (.map fun _ => .int _)).mono (by decide)) .nil))))
  | mark lot cs rs =>
    exact .tup (.cons (.str (by decide +kernel)) (.cons (.int _) (.cons ((Sh.tup (n := 1) (.map fun _ => .tup (n := 0) (.cons (.int _) (.cons (.int _) .nil)))).mono (by decide)) (.cons ((Sh.tup (n := 0) (.map fun _ => .int _)).mono (by decide)) .nil))))

section
variable {P : Program} {w : World} {K : PySem.W.Frag} {mg : Str → Option Value} {base : Heap}
end
/-! the plan and the disk -/
def PlanAt {K : PySem.W.Frag} {mg : Str → Option Value} (T : Txt K mg) (H : Hp) (pl : Addr) (b n s : Int) : Prop :=
  ∃ dx, H pl = some (.ins T.c_Plan dx (fl_Plan (.int b) (.int n) (.int s) (.int ((b + 7) / 8)) (.int (2 + (b + 7) / 8)) (.int (2 + (b + 7) / 8 + n))))
def OptRec (K : PySem.W.Frag) (H : Hp) (v : V) : Option Rec → Prop
  | none => v = .non
  | some r => RecAt K H v r
theorem OptRec.ts {K : PySem.W.Frag} {H H' : Hp} {v : V} {r : Option Rec} (t : TS K H H') (h : OptRec K H v r) : OptRec K H' v r := by
  cases r with
  | none => exact h
  | some r => exact RecAt.ts t h
def CellsAt (K : PySem.W.Frag) (H : Hp) (v : V) (cs : List Int) : Prop := ∃ t, v = .ref t ∧ SqT K H t (cs.map V.int)
theorem CellsAt.ts {K : PySem.W.Frag} {H H' : Hp} {v : V} {cs : List Int} (t : TS K H H') (h : CellsAt K H v cs) : CellsAt K H' v cs := by
  obtain ⟨a, e, h⟩ := h
  exact ⟨a, e, t _ _ h⟩
structure DA where
  pl : Addr
  ho : Addr
  lg : Addr
  wr : Addr
structure DiskAt {K : PySem.W.Frag} {mg : Str → Option Value} (T : Txt K mg) (H : Hp) (dk : Addr) (A : DA) (home : List (List Int)) (log : List (Option Rec)) (hd la : Int) (kvs : List (Key × V)) : Prop where
  ob : ∃ dx, H dk = some (.ins T.c_Disk dx (fl_Disk (.ref A.pl) (.ref A.ho) (.ref A.lg) (.int hd) (.int la) (.ref A.wr)))
  pl : PlanAt T H A.pl 24 5 30
  lg : ∃ vs, H A.lg = some (.lst vs) ∧ Paired (OptRec K H) vs log
  ho : ∃ vs, H A.ho = some (.lst vs) ∧ Paired (CellsAt K H) vs home
  ne : A.ho ≠ A.lg
  wr : H A.wr = some (.dK kvs)
theorem fl_ne {a0 a1 a2 a3 a4 a5 b0 b1 b2 b3 b4 b5 : V} : fl_Disk a0 a1 a2 a3 a4 a5 ≠ fl_Plan b0 b1 b2 b3 b4 b5 := fun h => by
  have e : (("plan" : Str), a0) = (("blocks" : Str), b0) := (List.cons.inj h).1
  have e2 : ("plan" : Str) = "blocks" := congrArg Prod.fst e
  exact absurd e2 (by decide +kernel)
section
variable {P : Program} {w : World} {K : PySem.W.Frag} {mg : Str → Option Value} {base : Heap}
theorem DiskAt.fr0 {T : Txt K mg} {H H' : Hp} {dk : Addr} {A : DA} {home : List (List Int)} {log : List (Option Rec)} {hd la : Int} {kvs : List (Key × V)} (f : Fr [] H H') (d : DiskAt T H dk A home log hd la kvs) : DiskAt T H' dk A home log hd la kvs := by
  obtain ⟨⟨dx, h1⟩, ⟨dp, h2⟩, ⟨vs, h3, h4⟩, ⟨us, h6, h7⟩, ne, h5⟩ := d
  exact ⟨⟨dx, f.get0 h1⟩, ⟨dp, f.get0 h2⟩, ⟨vs, f.get0 h3, Paired.mapP h4 fun _ _ q => OptRec.ts f.ts0 q⟩, ⟨us, f.get0 h6, Paired.mapP h7 fun _ _ q => CellsAt.ts f.ts0 q⟩, ne, f.get0 h5⟩
/-- another list of the program's changes -/
theorem DiskAt.frL {T : Txt K mg} {H H' : Hp} {dk x : Addr} {A : DA} {home : List (List Int)} {log : List (Option Rec)} {hd la : Int} {kvs : List (Key × V)} {xs : List V} (f : Fr [x] H H') (hx : H x = some (.lst xs)) (ne : A.lg ≠ x) (ne2 : A.ho ≠ x) (d : DiskAt T H dk A home log hd la kvs) : DiskAt T H' dk A home log hd la kvs := by
  obtain ⟨⟨dx, h1⟩, ⟨dp, h2⟩, ⟨vs, h3, h4⟩, ⟨us, h6, h7⟩, nn, h5⟩ := d
  exact ⟨⟨dx, f.get1 h1 (ne_of h1 hx (by intro z; cases z))⟩, ⟨dp, f.get1 h2 (ne_of h2 hx (by intro z; cases z))⟩, ⟨vs, f.get1 h3 ne, Paired.mapP h4 fun _ _ q => OptRec.ts (f.ts1 hx rfl) q⟩, ⟨us, f.get1 h6 ne2, Paired.mapP h7 fun _ _ q => CellsAt.ts (f.ts1 hx rfl) q⟩, nn, f.get1 h5 (ne_of h5 hx (by intro z; cases z))⟩
theorem plan_ne_disk {T : Txt K mg} {H : Hp} {dk pl : Addr} {b n s : Int} {dx C : Addr} {a0 a1 a2 a3 a4 a5 : V} (h : PlanAt T H pl b n s) (h1 : H dk = some (.ins C dx (fl_Disk a0 a1 a2 a3 a4 a5))) : pl ≠ dk := fun e => by
  obtain ⟨dp, h2⟩ := h
  rw [e, h1] at h2
  exact fl_ne (HO.ins.inj (Option.some.inj h2)).2.2
def sp_Plan_init (T : Txt K mg) : Sp := fun vs H Q _ => ∃ (p dx : Addr) (b n s : Int), vs = [.ref p, .int b, .int n, .int s] ∧ H p = some (.ins T.c_Plan dx []) ∧ 8 ≤ b ∧ b ≤ 64 ∧ 2 ≤ n ∧ n ≤ 16 ∧ b < s ∧ s ≤ 200 ∧ 2 + (b + 7) / 8 + n + 2 ≤ b ∧
  ∀ H', Fr [p] H H' → PlanAt T H' p b n s → Q .non H'
theorem ok_Plan_init (T : Txt K mg) : FnOk P w K mg base CX0 1 T.a_Plan_init T.fd_Plan_init ["self", "blocks", "nodes", "slots"] (sp_Plan_init T) := by
  refine T.F_Plan_init.ok sc_Plan_init (fun vs H Q E h => ?_) (fun cdv A outer s H vs Q E hr h => ?_)
  · obtain ⟨p, dx, b, n, s, rfl, _⟩ := h
    rfl
  · obtain ⟨p, dx, b, n, s, rfl, h0, b1, b2, n1, n2, s1, s2, m1, k⟩ := h
    refine ⟨_, (pss_cons (ps_if (pt_not (pt_chain op_le op_le pe_int (pv 1) pe_int)) (pss_one ps_never) pss_nil)
        (pss_cons (ps_if (pt_not (pt_chain op_le op_le pe_int (pv 2) pe_int)) (pss_one ps_never) pss_nil)
        (pss_cons (ps_if (pt_not (pt_chain op_lt op_le (pv 1) (pv 3) pe_int)) (pss_one ps_never) pss_nil)
        (pss_cons (ps_set (i := 4) sc_Plan_init.nd rfl (Or.inl rfl) (pe_op op_fdiv (pe_op op_add (pv 1) pe_int) pe_int))
        (pss_cons (ps_if (pt_cmpR op_gt (pe_op op_add (pe_op op_add (pe_op op_add pe_int (pv 4)) (pv 2)) pe_int) (pv 1) (nomark _)) (pss_one ps_never) pss_nil)
        (pss_cons (ps_fld (pv 0) (pv 1) rfl)
        (pss_cons (ps_fld (pv 0) (pv 2) rfl)
        (pss_cons (ps_fld (pv 0) (pv 3) rfl)
        (pss_cons (ps_fld (pv 0) (pv 4) rfl)
        (pss_cons (ps_fld (pv 0) (pe_op op_add pe_int (pv 4)) rfl)
        (pss_one (ps_fld (pv 0) (pe_op op_add (pe_op op_add pe_int (pv 4)) (pv 2)) rfl)))))))))))), ?_⟩
    refine ⟨_, rfl, _, _, rfl, rfl, _, rfl, iteT' (decide_eq_true b1) ⟨_, _, rfl, rfl, _, rfl, iteF' (by rw [decide_eq_true b2]; rfl) ?_⟩⟩
    refine ⟨_, rfl, _, _, rfl, rfl, _, rfl, iteT' (decide_eq_true n1) ⟨_, _, rfl, rfl, _, rfl, iteF' (by rw [decide_eq_true n2]; rfl) ?_⟩⟩
    refine ⟨_, rfl, _, rfl, _, _, rfl, rfl, _, rfl, iteT' (decide_eq_true s1) ⟨_, _, rfl, rfl, _, rfl, iteF' (by rw [decide_eq_true s2]; rfl) ?_⟩⟩
    refine ⟨_, rfl, _, _, rfl, rfl, _, _, rfl, rfl, ⟨by decide, by decide⟩, ?_⟩
    refine ⟨_, rfl, _, _, rfl, rfl, _, rfl, _, _, rfl, rfl, _, _, rfl, rfl, _, rfl, _, _, rfl, rfl, _, rfl, iteF' (decide_eq_false (by omega)) ?_⟩
    refine ⟨_, rfl, _, rfl, p, _, dx, _, rfl, h0, T.C_Plan, T.n_Plan_blocks, (by show 0 < 1000; decide), ?_⟩
    refine ⟨_, rfl, _, rfl, p, _, dx, _, rfl, upd_same, T.C_Plan, T.n_Plan_nodes, (by show 1 < 1000; decide), ?_⟩
    refine ⟨_, rfl, _, rfl, p, _, dx, _, rfl, upd_same, T.C_Plan, T.n_Plan_slots, (by show 2 < 1000; decide), ?_⟩
    refine ⟨_, rfl, _, rfl, p, _, dx, _, rfl, upd_same, T.C_Plan, T.n_Plan_maps, (by show 3 < 1000; decide), ?_⟩
    refine ⟨_, rfl, _, _, rfl, rfl, _, rfl, p, _, dx, _, rfl, upd_same, T.C_Plan, T.n_Plan_first_node, (by show 4 < 1000; decide), ?_⟩
    refine ⟨_, rfl, _, _, rfl, rfl, _, rfl, _, _, rfl, rfl, _, rfl, p, _, dx, _, rfl, upd_same, T.C_Plan, T.n_Plan_first_data, (by show 5 < 1000; decide), ?_⟩
    refine k _ (((((Fr.mut.trans Fr.mut).trans Fr.mut).trans Fr.mut).trans Fr.mut).trans Fr.mut) ⟨dx, ?_⟩
    rw [upd_same]
    exact congrArg (fun l => some (HO.ins T.c_Plan dx l)) ini_Plan
/-! the disk's own text -/
def zero8 : List Int := [0, 0, 0, 0, 0, 0, 0, 0]
def sp_Disk_init (T : Txt K mg) : Sp := fun vs H Q _ => ∃ (p dx pl : Addr) (b n s : Int), vs = [.ref p, .ref pl] ∧ H p = some (.ins T.c_Disk dx []) ∧ PlanAt T H pl b n s ∧ 0 ≤ b ∧ b ≤ 64 ∧ 0 ≤ s ∧ s ≤ 200 ∧
  ∀ H' ho lg wr hs, Fr [p] H H' → H' p = some (.ins T.c_Disk dx (fl_Disk (.ref pl) (.ref ho) (.ref lg) (.int 0) (.int 0) (.ref wr))) → H ho = none → H lg = none → H wr = none →
    H' ho = some (.lst hs) → Paired (CellsAt K H') hs (List.replicate b.toNat zero8) → H' lg = some (.lst (List.replicate s.toNat .non)) → H' wr = some (.dK []) → ho ≠ lg → Q .non H'
theorem pl_ne {T : Txt K mg} {H : Hp} {p pl dx C : Addr} {b n s : Int} (h0 : H p = some (.ins C dx [])) (h : PlanAt T H pl b n s) : pl ≠ p := fun e => by
  obtain ⟨dp, h2⟩ := h
  rw [e, h0] at h2
  have := (HO.ins.inj (Option.some.inj h2)).2.2
  cases this
theorem ok_Disk_init (T : Txt K mg) : FnOk P w K mg base CX0 1 T.a_Disk_init T.fd_Disk_init ["self", "plan"] (sp_Disk_init T) := by
  refine T.F_Disk_init.ok sc_Disk_init (fun vs H Q E h => ?_) (fun cdv A outer s H vs Q E hr h => ?_)
  · obtain ⟨p, dx, pl, b, n, s, rfl, _⟩ := h
    rfl
  · obtain ⟨p, dx, pl, b, n, s, rfl, h0, hpl, b1, b2, s1, s2, k⟩ := h
    have ne := pl_ne h0 hpl
    obtain ⟨dp, hp⟩ := hpl
    refine ⟨_, (pss_cons (ps_fld (pv 0) (pv 1) rfl)
        (pss_cons (ps_fld (pv 0) (pe_lc (own := [("x", 2)]) (g := gName 2) (tt := tYes) (by rfl) sc_Disk_init.nd (pi_range1 rfl T.n_range (pa_cons (pe_fld (pv 1) rfl) pa_nil)) (blkOk_by (own := [("x", 2)]) (N := N_Disk_init) (sc := defScope s_Disk_init) (by decide +kernel)) (fun _ _ _ _ _ => pg_name (i := 2) sc_Disk_init.nd rfl (Or.inl rfl)) (fun _ _ _ _ _ => pts_nil) (fun _ _ _ _ _ => (pe_tup (pa_cons pe_int (pa_cons pe_int (pa_cons pe_int (pa_cons pe_int (pa_cons pe_int (pa_cons pe_int (pa_cons pe_int (pa_cons pe_int pa_nil))))))))))) rfl)
        (pss_cons (ps_fld (pv 0) (pe_op op_rep (pe_lst (pa_cons pe_non pa_nil)) (pe_fld (pv 1) rfl)) rfl)
        (pss_cons (ps_fld (pv 0) pe_int rfl)
        (pss_cons (ps_fld (pv 0) pe_int rfl)
        (pss_one (ps_fld (pv 0) pe_dnewK rfl))))))), ?_⟩
    refine ⟨_, rfl, _, rfl, p, _, dx, _, rfl, h0, T.C_Disk, T.n_Disk_plan, (by show 0 < 1000; decide), ?_⟩
    generalize hH1 : upd H p _ = H1
    obtain ⟨f1, h1⟩ := gen_upd hH1
    have hp1 := f1.get1 hp ne
    refine ⟨_, rfl, pl, _, dp, _, _, rfl, hp1, T.C_Plan, T.n_Plan_blocks, lk_Plan_blocks, b, rfl, by omega, by omega, fun D nD => lc_range (lo := 0) (n := b.toNat) (fun i H3 => Fr [] H1 H3 ∧ ∃ hs, H3 D = some (.lst hs) ∧ Paired (CellsAt K H3) hs (List.replicate i zero8)) ?_ ?_ ?_⟩
    · exact ⟨Fr.new nD, [], upd_same, .nil⟩
    · rintro i H3 hi ⟨f3, hs, h3, hq⟩
      have hlen := hq.length
      rw [List.length_replicate] at hlen
      refine ⟨rfl, (by show 8 ≤ sizeLine; decide), fun t nt => ?_⟩
      generalize hH4 : upd H3 t _ = H4
      obtain ⟨f4, h4⟩ := gen_new nt hH4
      have h5 := f4.get0 h3
      refine ⟨_, h5, sz (by omega), ?_⟩
      refine ⟨(f3.up0 f4).up1 Fr.mut (.inr nD), _, upd_same, ?_⟩
      have ts : TS K H3 (upd H4 D (.lst (hs ++ [.ref t]))) := f4.ts0.trans (Fr.ts1 Fr.mut h5 rfl)
      rw [List.replicate_succ']
      refine Paired.snoc (Paired.mapP hq fun _ _ q => q.ts ts) ⟨t, rfl, ?_⟩
      exact Fr.ts1 (K := K) Fr.mut h5 rfl _ _ (sqt h4)
    · rintro H3 ⟨f3, hs, h3, hq⟩
      have hself : D ≠ p := (ne_of_none h1 nD).symm
      have h3p := f3.get0 h1
      refine ⟨_, rfl, p, _, dx, _, rfl, h3p, T.C_Disk, T.n_Disk_home, (by show 1 < 1000; decide), ?_⟩
      generalize hH4 : upd H3 p _ = H4
      obtain ⟨f4, h4⟩ := gen_upd hH4
      have h4D := f4.get1 h3 hself
      have hq4 : Paired (CellsAt K H4) hs (List.replicate b.toNat zero8) := Paired.mapP hq fun _ _ q => q.ts (f4.ts1 h3p rfl)
      refine ⟨(by show 1 ≤ sizeLine; decide), fun l1 n1 => ?_⟩
      generalize hH5 : upd H4 l1 _ = H5
      obtain ⟨f5, h5⟩ := gen_new n1 hH5
      have hp5 := f5.get0 (f4.get1 (f3.get0 hp1) ne)
      refine ⟨_, rfl, pl, _, dp, _, _, rfl, hp5, T.C_Plan, T.n_Plan_slots, lk_Plan_slots, l1, s, _, rfl, rfl, h5, by omega, by omega, ?_, fun lg nlg => ?_⟩
      · show 1 * s.toNat ≤ sizeLine
        exact szle (by omega)
      generalize hH6 : upd H5 lg _ = H6
      obtain ⟨f6, h6⟩ := gen_new nlg hH6
      have h6p := f6.get0 (f5.get0 h4)
      have h6D := f6.get0 (f5.get0 h4D)
      have nep : lg ≠ p := (ne_of_none (f5.get0 h4) nlg).symm
      have neD : D ≠ lg := ne_of_none (f5.get0 h4D) nlg
      refine ⟨_, rfl, p, _, dx, _, rfl, h6p, T.C_Disk, T.n_Disk_log, (by show 2 < 1000; decide), ?_⟩
      refine ⟨_, rfl, p, _, dx, _, rfl, upd_same, T.C_Disk, T.n_Disk_head, (by show 3 < 1000; decide), ?_⟩
      refine ⟨_, rfl, p, _, dx, _, rfl, upd_same, T.C_Disk, T.n_Disk_last, (by show 4 < 1000; decide), ?_⟩
      intro wr nw
      generalize hH7 : upd (upd (upd H6 p _) p _) p _ = H7 at nw ⊢
      have f7 : Fr [p] H6 H7 := by rw [← hH7]; exact (Fr.mut.trans Fr.mut).trans Fr.mut
      have h7 : H7 p = some (.ins T.c_Disk dx (putF "last" (.int 0) (putF "head" (.int 0) (putF "log" (.ref lg) (putF "home" (.ref D) (putF "plan" (.ref pl) [])))))) := by rw [← hH7, upd_same]
      generalize hH8 : upd H7 wr _ = H8
      obtain ⟨f8, h8⟩ := gen_new nw hH8
      refine ⟨_, rfl, p, _, dx, _, rfl, f8.get0 h7, T.C_Disk, T.n_Disk_writes, (by show 5 < 1000; decide), ?_⟩
      generalize hH9 : upd H8 p _ = H9
      obtain ⟨f9, h9⟩ := gen_upd hH9
      have fall : Fr [p] H H9 := ((((((f1.up0 f3).upS f4).up0 f5).up0 f6).upS f7).up0 f8).upS f9
      have g7 : ∀ x o, H6 x = some o → x ≠ p → H9 x = some o := fun x o e n => f9.get1 (f8.get0 (f7.get1 e n)) n
      have ts6 : TS K H4 H9 := (((f5.ts0.trans f6.ts0).trans (f7.ts1 h6p rfl)).trans f8.ts0).trans (f9.ts1 (f8.get0 h7) rfl)
      have new1 : ∀ x, H1 x = none → H x = none := fun x e => f1.free e
      refine k H9 D lg wr hs fall ?_ (new1 _ nD) (new1 _ (f3.free (f4.free (f5.free nlg)))) (new1 _ (f3.free (f4.free (f5.free (f6.free (f7.free nw)))))) (g7 D _ h6D hself) (Paired.mapP hq4 fun _ _ q => q.ts ts6) ?_ (f9.get1 h8 (ne_of_none h7 nw).symm) neD
      · rw [h9]
        exact congrArg (fun l => some (HO.ins T.c_Disk dx l)) ini_Disk
      · rw [g7 lg _ h6 nep]
        simp

def fits (b s : Int) : Rec → Bool
  | .copy _ blk _ => decide (blk < b)
  | .mark _ cs rs => cs.all (fun p => decide (p.1 < b) && decide (p.2 < s)) && rs.all (fun x => decide (x < b))
def sp_fits_plan (T : Txt K mg) : Sp := fun vs H Q _ => ∃ (v : V) (pl : Addr) (r : Rec) (b n s : Int), vs = [v, .ref pl] ∧ RecAt K H v r ∧ PlanAt T H pl b n s ∧ (∀ lot cs rs, r = .mark lot cs rs → rs.length ≤ 1000) ∧ ∀ H', Fr [] H H' → Q (.bl (fits b s r)) H'
theorem ok_fits_plan (T : Txt K mg) : FnOk P w K mg base CX0 1 T.a_fits_plan T.fd_fits_plan ["record", "plan"] (sp_fits_plan T) := by
  refine T.F_fits_plan.ok sc_fits_plan (fun vs H Q E h => ?_) (fun cdv A outer s H vs Q E hr h => ?_)
  · obtain ⟨v, pl, r, b, n, s, rfl, _⟩ := h
    rfl
  · obtain ⟨v, pl, r, b, n, s, rfl, h0, ⟨dp, hp⟩, hl, k⟩ := h
    refine ⟨_, (pss_cons (ps_if (pt_cmpR op_eq (pe_ix ix_tup (pv 0) pe_int (fun _ _ => rfl)) pe_str (nomark _)) (pss_one (ps_ret (pe_cmpR op_lt (pe_ix ix_tup (pv 0) pe_int (fun _ _ => rfl)) (pe_fld (pv 1) rfl) (nomark _)))) pss_nil)
        (pss_cons (ps_for PassesOwn.never rfl (pi_tup (pe_ix ix_tup (pv 0) pe_int (fun _ _ => rfl))) (pg_tup (by rfl) (pgs_cons (pg_name (i := 2) sc_fits_plan.nd rfl (Or.inl rfl)) (pgs_cons (pg_name (i := 3) sc_fits_plan.nd rfl (Or.inl rfl)) pgs_nil)))
        (pss_one (ps_if (PW.pt (pw_or (pt_cmpR op_ge (pv 2) (pe_fld (pv 1) rfl) (nomark _)) (pw_or1 (pt_cmpR op_ge (pv 3) (pe_fld (pv 1) rfl) (nomark _))))) (pss_one (ps_ret pe_bl)) pss_nil)))
        (pss_one (ps_ret (pe_callB (cr_all rfl) (by rfl) T.n_all (by decide +kernel) (pa_cons (pe_lc (own := [("block", 2)]) (g := gName 2) (tt := tYes) (by rfl) sc_fits_plan.nd (pi_tup (pe_ix ix_tup (pv 0) pe_int (fun _ _ => rfl))) (blkOk_by (own := [("block", 2)]) (N := N_fits_plan) (sc := defScope s_fits_plan) (by decide +kernel)) (fun _ _ _ _ _ => pg_name (i := 2) sc_fits_plan.nd rfl (Or.inl rfl)) (fun _ _ _ _ _ => pts_nil) (fun _ _ _ _ _ => (pe_cmpR op_lt (pv 2) (show PE _ _ (tFld K _ _) from pe_fld (pv 1) rfl) (nomark _)))) pa_nil)))))), ?_⟩
    cases r with
    | copy lot blk cells =>
      obtain ⟨a, c, rfl, h1, h2⟩ := h0
      refine ⟨_, rfl, a, _, 0, _, rfl, rfl, h1, rfl, rfl, _, rfl, iteT' (by decide +kernel) ?_⟩
      exact ⟨_, rfl, a, _, 2, _, rfl, rfl, h1, rfl, _, rfl, pl, _, dp, _, _, rfl, hp, T.C_Plan, T.n_Plan_blocks, lk_Plan_blocks, _, _, rfl, rfl, k H (Fr.refl _ _)⟩
    | mark lot cs rs =>
      obtain ⟨a, c, r, ps, rfl, h1, h2, h3, h4⟩ := h0
      have hlen := h3.length
      have hrl := hl _ _ _ rfl
      change ∀ H', Fr [] H H' → Q (.bl (cs.all (fun p => decide (p.1 < b) && decide (p.2 < s)) && rs.all (fun x => decide (x < b)))) H' at k
      refine ⟨_, rfl, a, _, 0, _, rfl, rfl, h1, rfl, rfl, _, rfl, iteF' (by rw [dec_str, decide_eq_false cm_ne]) ?_⟩
      refine ⟨_, rfl, a, _, 2, _, rfl, rfl, h1, rfl, c, rfl, ⟨_, h2⟩, for_tup (K := K) (a := c) (xs := ps) (fun i σ H2 => H = H2 ∧ ∃ (x y : Option V), σ = [some (.ref a), some (.ref pl), x, y] ∧ (cs.drop i).all (fun p => decide (p.1 < b) && decide (p.2 < s)) = cs.all (fun p => decide (p.1 < b) && decide (p.2 < s))) ?_ ?_ ?_ ?_⟩
      · exact ⟨rfl, _, _, rfl, rfl⟩
      · rintro i σ H2 _ ⟨rfl, _⟩
        exact h2
      · rintro i y σ H2 hi ⟨rfl, x, y, rfl, hd⟩
        obtain ⟨p, hp1, t, rfl, ht⟩ := paired_get h3 hi
        rw [drop_at hp1, List.all_cons] at hd
        refine ⟨t, _, rfl, ht, rfl, _, _, rfl, _, _, rfl, rfl, ?_⟩
        refine ⟨_, rfl, _, rfl, pl, _, dp, _, _, rfl, hp, T.C_Plan, T.n_Plan_blocks, lk_Plan_blocks, _, _, rfl, rfl, _, rfl, ?_⟩
        refine ite2 (fun c1 => iteT ?_) (fun c1 => ?_)
        · have c2 : ¬ p.1 < b := by have := of_decide_eq_true c1; omega
          rw [decide_eq_false c2, Bool.false_and, Bool.false_and] at hd
          rw [← hd, Bool.false_and] at k
          exact k _ (Fr.refl _ _)
        · have c2 : p.1 < b := by
            by_cases q : p.1 < b
            · exact q
            · exact absurd (decide_eq_true (by omega)) c1
          refine ⟨_, rfl, _, rfl, pl, _, dp, _, _, rfl, hp, T.C_Plan, T.n_Plan_slots, lk_Plan_slots, _, _, rfl, rfl, _, rfl, ?_⟩
          refine ite2 (fun c1 => ?_) (fun c1 => ?_)
          · have c3 : ¬ p.2 < s := by have := of_decide_eq_true c1; omega
            rw [decide_eq_false c3, Bool.and_false, Bool.false_and] at hd
            rw [← hd, Bool.false_and] at k
            exact k _ (Fr.refl _ _)
          · have c3 : p.2 < s := by
              by_cases q : p.2 < s
              · exact q
              · exact absurd (decide_eq_true (by omega)) c1
            rw [decide_eq_true c2, decide_eq_true c3, Bool.true_and, Bool.true_and] at hd
            exact ⟨rfl, _, _, rfl, hd⟩
      · rintro σ H2 ⟨rfl, x, y, rfl, hd⟩
        rw [hlen, List.drop_length, List.all_nil] at hd
        rw [← hd, Bool.true_and] at k
        refine ⟨_, rfl, a, _, 3, _, rfl, rfl, h1, rfl, r, rfl, ⟨_, h4⟩, fun D nD => lc_tup (K := K) (a := r) (xs := rs.map V.int) (fun i H3 => Fr [] H H3 ∧ H3 D = some (.lst (((rs.take i).map fun x => decide (x < b)).map V.bl))) ?_ ?_ ?_ ?_⟩
        · exact ⟨Fr.new nD, upd_same⟩
        · rintro i H3 _ ⟨f3, _⟩
          exact f3.tup0 h4
        · rintro i y H3 hi ⟨f3, h5⟩
          obtain ⟨n, hn, rfl⟩ := map_get hi
          refine ⟨rfl, _, rfl, _, rfl, pl, _, dp, _, _, rfl, f3.get0 hp, T.C_Plan, T.n_Plan_blocks, lk_Plan_blocks, _, _, rfl, rfl, _, h5, sz (by simp; omega), ?_⟩
          refine ⟨f3.up1 Fr.mut (.inr nD), ?_⟩
          rw [upd_same, List.take_add_one, hn]
          simp
        · rintro H3 ⟨f3, h5⟩
          rw [List.length_map, List.take_length] at h5
          refine ⟨D, _, rfl, sq h5, ?_⟩
          rw [List.all_map]
          exact k H3 f3
theorem lh_ne : ¬ (("log" : Str) = "home") := by decide +kernel
def sp_is_place (T : Txt K mg) : Sp := fun vs H Q _ => ∃ (a pl : Addr) (i b n s : Int), vs = [.ref a, .ref pl] ∧ SqT K H a [.str "log", .int i] ∧ PlanAt T H pl b n s ∧ Q (.bl (win i 0 (s - 1))) H
theorem ok_is_place (T : Txt K mg) : FnOk P w K mg base CX0 2 T.a_is_place T.fd_is_place ["place", "plan"] (sp_is_place T) := by
  refine T.F_is_place.ok sc_is_place (fun vs H Q E h => ?_) (fun cdv A outer s H vs Q E hr h => ?_)
  · obtain ⟨a, pl, i, b, n, s, rfl, _⟩ := h
    rfl
  · obtain ⟨a, pl, i, b, n, s, rfl, h0, ⟨dp, hp⟩, k⟩ := h
    refine ⟨_, (pss_cons (ps_if (PW.pt (pw_or (pt_not (pt_val (pe_callB call_isi (by rfl) T.n_isinstance (by decide +kernel) (pa_cons (pv 0) (pa_cons (pe_bltn (v := .ty "tuple") (u := .type "tuple") (by rfl) T.n_tuple (by decide +kernel) rfl) pa_nil))))) (pw_or1 (pt_cmpR op_ne (pe_callB call_len_seq (by rfl) T.n_len (by decide +kernel) (pa_cons (pv 0) pa_nil)) pe_int (nomark _))))) (pss_one (ps_ret pe_bl)) pss_nil)
        (pss_cons (ps_if (pt_cmpR op_eq (pe_ix ix_tup (pv 0) pe_int (fun _ _ => rfl)) pe_str (nomark _)) (pss_one (ps_ret (pe_call (ok_is_within T) (hr.mono (by decide)) rfl T.m_is_within T.F_is_within.kp T.b_is_within .nil pass0 (pa_cons (pe_ix ix_tup (pv 0) pe_int (fun _ _ => rfl)) (pa_cons pe_int (pa_cons (pe_op op_sub (pe_fld (pv 1) rfl) pe_int) pa_nil)))))) pss_nil)
        (pss_one (ps_ret (pe_and (pe_cmpR op_eq (pe_ix ix_tup (pv 0) pe_int (fun _ _ => rfl)) pe_str (nomark _)) (pe_one (pe_call (ok_is_within T) (hr.mono (by decide)) rfl T.m_is_within T.F_is_within.kp T.b_is_within .nil pass0 (pa_cons (pe_ix ix_tup (pv 0) pe_int (fun _ _ => rfl)) (pa_cons pe_int (pa_cons (pe_op op_sub (pe_fld (pv 1) rfl) pe_int) pa_nil)))))))))), ?_⟩
    refine ⟨_, rfl, _, _, _, _, true, rfl, .ty "tuple", ty_tup h0, kit_ty (by decide +kernel), _, rfl, iteF ?_⟩
    refine ⟨_, rfl, a, _, rfl, .inr h0, rfl, _, rfl, iteF ?_⟩
    refine ⟨_, rfl, a, _, 0, _, rfl, rfl, h0, rfl, rfl, _, rfl, iteF' (by rw [dec_str, decide_eq_false lh_ne]) ?_⟩
    refine ⟨_, rfl, a, _, 0, _, rfl, rfl, h0, rfl, rfl, _, rfl, iteT' (by decide +kernel) ?_⟩
    exact ⟨_, rfl, a, _, 1, _, rfl, rfl, h0, rfl, _, rfl, pl, _, dp, _, _, rfl, hp, T.C_Plan, T.n_Plan_slots, lk_Plan_slots, _, _, rfl, rfl, i, 0, s - 1, rfl, k⟩
def okR (r : Rec) : Prop := recOk r = true ∧ fits 24 30 r = true ∧ ∀ lot cs rs, r = .mark lot cs rs → cs.length ≤ 1000 ∧ rs.length ≤ 1000
def sp_log_content (T : Txt K mg) : Sp := fun vs H Q _ => ∃ (v : V) (pl : Addr) (r : Rec) (n : Int), vs = [v, .ref pl] ∧ RecAt K H v r ∧ PlanAt T H pl 24 n 30 ∧ okR r ∧ ∀ H', Fr [] H H' → Q v H'
theorem ok_log_content (T : Txt K mg) : FnOk P w K mg base CX0 5 T.a_log_content T.fd_log_content ["what", "plan"] (sp_log_content T) := by
  refine T.F_log_content.ok sc_log_content (fun vs H Q E h => ?_) (fun cdv A outer s H vs Q E hr h => ?_)
  · obtain ⟨v, pl, r, n, rfl, _⟩ := h
    rfl
  · obtain ⟨v, pl, r, n, rfl, h0, hp, ho, k⟩ := h
    refine ⟨_, (pss_cons (ps_expr (pe_call (ok_check_record T) (hr.mono (by decide)) rfl T.m_check_record T.F_check_record.kp T.b_check_record .nil pass0 (pa_cons (pv 0) pa_nil)))
        (pss_cons (ps_if (pt_not (pt_val (pe_call (ok_fits_plan T) (hr.mono (by decide)) rfl T.m_fits_plan T.F_fits_plan.kp T.b_fits_plan .nil pass0 (pa_cons (pv 0) (pa_cons (pv 1) pa_nil))))) (pss_one ps_never) pss_nil)
        (pss_one (ps_ret (pv 0))))), ?_⟩
    refine ⟨_, rfl, v, r, rfl, h0, ho.1, fun lot cs rs e => (ho.2.2 lot cs rs e).1, fun H1 f1 => ?_⟩
    have hp1 : PlanAt T H1 pl 24 n 30 := by
      obtain ⟨dp, hp⟩ := hp
      exact ⟨dp, f1.get0 hp⟩
    refine ⟨_, rfl, _, rfl, v, pl, r, 24, n, 30, rfl, h0.ts f1.ts0, hp1, fun lot cs rs e => (ho.2.2 lot cs rs e).2, fun H2 f2 => ⟨_, rfl, iteF' (by rw [ho.2.1]; rfl) ?_⟩⟩
    exact ⟨_, rfl, k H2 (f1.up0 f2)⟩
/-! writes -/
def sp_Disk_busy (T : Txt K mg) : Sp := fun vs H Q _ => ∃ (dk a : Addr) (A : DA) (home : List (List Int)) (log : List (Option Rec)) (hd la i : Int), vs = [.ref dk, .ref a] ∧ DiskAt T H dk A home log hd la [] ∧ SqT K H a [.str "log", .int i] ∧ ∀ H', Fr [] H H' → Q (.bl false) H'
theorem ok_Disk_busy (T : Txt K mg) : FnOk P w K mg base CX0 1 T.a_Disk_busy T.fd_Disk_busy ["self", "place"] (sp_Disk_busy T) := by
  refine T.F_Disk_busy.ok sc_Disk_busy (fun vs H Q E h => ?_) (fun cdv A outer s H vs Q E hr h => ?_)
  · obtain ⟨dk, a, A, home, log, hd, la, i, rfl, _⟩ := h
    rfl
  · obtain ⟨dk, a, D, home, log, hd, la, i, rfl, dd, h0, k⟩ := h
    obtain ⟨⟨dx, h1⟩, hpl, hlg, hho, nhl, hw⟩ := id dd
    refine ⟨_, (pss_one (ps_ret (pe_cmpR (op_inD (un65 hr)) (pv 1) (pe_lock (pe_lc (own := [("write", 2)]) (g := gName 2) (tt := tYes) (by rfl) sc_Disk_busy.nd (pi_values (pe_fld (pv 0) rfl)) (blkOk_by (own := [("write", 2)]) (N := N_Disk_busy) (sc := defScope s_Disk_busy) (by decide +kernel)) (fun _ _ _ _ _ => pg_name (i := 2) sc_Disk_busy.nd rfl (Or.inl rfl)) (fun _ _ _ _ _ => pts_nil) (fun _ _ _ _ _ => (pe_ix (show IxR _ (rIxT K) from ix_tup) (pv 2) pe_int (fun _ _ => rfl))))) rfl))), ?_⟩
    refine ⟨_, rfl, D.wr, _, hw, trivial, fun od => ?_⟩
    have ne1 : dk ≠ D.wr := ne_of h1 hw (by intro z; cases z)
    refine ⟨_, rfl, dk, _, dx, _, _, rfl, (by rw [upd_ne ne1]; exact h1), T.C_Disk, T.n_Disk_writes, lk_Disk_writes, D.wr, od, [], rfl, upd_same, fun N nN => lc_it walk_values (fun i H3 => i = 0 ∧ H3 = upd (upd H D.wr (.frz od (.dK []))) N (.lst [])) ?_ ?_ ?_ ?_⟩
    · exact ⟨rfl, rfl⟩
    · rintro i H3 _ ⟨_, rfl⟩
      have : D.wr ≠ N := ne_of_none upd_same nN
      rw [upd_ne this, upd_same]
    · rintro i x H3 H4 hi
      exact absurd hi (by simp)
    · rintro H3 ⟨_, rfl⟩
      have nw : D.wr ≠ N := ne_of_none upd_same nN
      have nN0 : H N = none := by rw [upd_ne nw.symm] at nN; exact nN
      refine ⟨by rw [upd_ne nw, upd_same], ?_⟩
      have eH : upd (upd (upd H D.wr (.frz od (.dK []))) N (.lst [])) D.wr (.dK []) = upd H N (.lst []) := by
        funext x
        by_cases e1 : x = D.wr
        · subst e1
          rw [upd_same, upd_ne nw, hw]
        · by_cases e2 : x = N
          · subst e2
            rw [upd_ne e1, upd_same, upd_same]
          · rw [upd_ne e1, upd_ne e2, upd_ne e1, upd_ne e2]
      rw [eH]
      generalize hH : upd H N _ = H5
      obtain ⟨f5, h5⟩ := gen_new nN0 hH
      refine ⟨.tuple [.str "log", .int i], [], .tup (f5.tup0 h0) (.cons (.str _) (.cons (.int _) .nil)), .lst (sq h5) .nil, (Sh.tup (n := 63) (.cons (.str (by decide +kernel)) (.cons (.int _) .nil))).shaped, (Sh.lst (n := 63) .nil).shaped, ?_⟩
      exact k H5 f5
/-- a write to a free slot of the log, with nothing pending -/
def sp_Disk_issue (T : Txt K mg) : Sp := fun vs H Q _ => ∃ (dk a : Addr) (v : V) (A : DA) (home : List (List Int)) (log : List (Option Rec)) (hd la i : Int) (r : Rec), vs = [.ref dk, .ref a, v] ∧ DiskAt T H dk A home log hd la [] ∧ SqT K H a [.str "log", .int i] ∧ 0 ≤ i ∧ i < 30 ∧ RecAt K H v r ∧ okR r ∧
  ∀ H' t, Fr [dk, A.wr] H H' → SqT K H' t [.ref a, v] → DiskAt T H' dk A home log hd (la + 1) [(Sum.inl (la + 1), .ref t)] → TS K H H' → Q (.int (la + 1)) H'
theorem ok_Disk_issue (T : Txt K mg) : FnOk P w K mg base CX0 6 T.a_Disk_issue T.fd_Disk_issue ["self", "place", "what"] (sp_Disk_issue T) := by
  refine T.F_Disk_issue.ok sc_Disk_issue (fun vs H Q E h => ?_) (fun cdv A outer s H vs Q E hr h => ?_)
  · obtain ⟨dk, a, v, A, home, log, hd, la, i, r, rfl, _⟩ := h
    rfl
  · obtain ⟨dk, a, v, D, home, log, hd, la, i, r, rfl, dd, h0, i0, i1, hrec, hok, k⟩ := h
    obtain ⟨⟨dx, h1⟩, hpl, ⟨vs, h3, h4⟩, ⟨us, e3, e4⟩, nhl, hw⟩ := id dd
    refine ⟨_, (pss_cons (ps_if (pt_not (pt_val (pe_call (ok_is_place T) (hr.mono (by decide)) rfl T.m_is_place T.F_is_place.kp T.b_is_place .nil pass0 (pa_cons (pv 1) (pa_cons (pe_fld (pv 0) rfl) pa_nil))))) (pss_one ps_never) pss_nil)
        (pss_cons (ps_if (pt_cmpR op_eq (pe_ix ix_tup (pv 1) pe_int (fun _ _ => rfl)) pe_str (nomark _)) (pss_one ps_never) (pss_one (ps_set (i := 3) sc_Disk_issue.nd rfl (Or.inl rfl) (pe_call (ok_log_content T) (hr.mono (by decide)) rfl T.m_log_content T.F_log_content.kp T.b_log_content .nil pass0 (pa_cons (pv 2) (pa_cons (pe_fld (pv 0) rfl) pa_nil))))))
        (pss_cons (ps_if (pt_val (pe_meth (pv 0) T.C_Disk T.m_Disk_busy (ok_Disk_busy T) (hr.mono (by decide)) T.b_Disk_busy .nil pass0 (pa_cons (pv 1) pa_nil))) (pss_one ps_never) pss_nil)
        (pss_cons (ps_fldaug (pv 0) pe_int in_add)
        (pss_cons (ps_dput (hu_of hr) (pe_fld (pv 0) rfl) (pe_fld (pv 0) rfl) (pe_tup (pa_cons (pv 1) (pa_cons (pv 3) pa_nil))) rfl)
        (pss_one (ps_ret (pe_fld (pv 0) rfl)))))))), ?_⟩
    refine ⟨_, rfl, _, rfl, dk, _, dx, _, _, rfl, h1, T.C_Disk, T.n_Disk_plan, lk_Disk_plan, a, D.pl, i, 24, 5, 30, rfl, h0, hpl, _, rfl, iteF' (by unfold win; rw [decide_eq_true i0, decide_eq_true (show i ≤ 30 - 1 by omega)]; rfl) ?_⟩
    refine ⟨_, rfl, a, _, 0, _, rfl, rfl, h0, rfl, rfl, _, rfl, iteF' (by rw [dec_str, decide_eq_false lh_ne]) ?_⟩
    refine ⟨_, rfl, _, rfl, dk, _, dx, _, _, rfl, h1, T.C_Disk, T.n_Disk_plan, lk_Disk_plan, v, D.pl, r, 5, rfl, hrec, hpl, hok, fun H1 f1 => ?_⟩
    have d1 := dd.fr0 f1
    obtain ⟨⟨dx1, g1⟩, _⟩ := id d1
    refine ⟨_, rfl, dk, dx1, _, rfl, g1, no_Disk_busy, _, rfl, dk, a, D, home, log, hd, la, i, rfl, d1, f1.tup0 h0, fun H2 f2 => ⟨_, rfl, iteF ?_⟩⟩
    have d2 := d1.fr0 f2
    obtain ⟨⟨dx2, g2⟩, pl2, ⟨vs2, l2, q2⟩, ⟨us2, e2, r2⟩, nhl2, w2⟩ := id d2
    refine ⟨_, rfl, dk, _, dx2, _, _, rfl, g2, T.C_Disk, T.n_Disk_last, lk_Disk_last, _, _, rfl, rfl, dx2, _, g2, len_Disk, ?_⟩
    rw [pt_Disk_last]
    generalize hH3 : upd H2 dk _ = H3
    obtain ⟨f3, g3⟩ := gen_upd hH3
    have w3 := f3.get1 w2 (ne_of w2 g2 (by intro z; cases z))
    refine ⟨_, rfl, _, rfl, (by show 2 ≤ sizeLine; decide), fun t nt => ?_⟩
    generalize hH4 : upd H3 t _ = H4
    obtain ⟨f4, g4⟩ := gen_new nt hH4
    have g4d := f4.get0 g3
    have w4 := f4.get0 w3
    refine ⟨_, rfl, dk, _, dx2, _, _, rfl, g4d, T.C_Disk, T.n_Disk_writes, lk_Disk_writes, _, rfl, dk, _, dx2, _, _, rfl, g4d, T.C_Disk, T.n_Disk_last, lk_Disk_last, D.wr, _, rfl, DPut.k (k := Sum.inl (la + 1)) w4 (by show 0 < sizeLine; decide), ?_⟩
    rw [show putK ([] : List (Key × V)) (Sum.inl (la + 1)) (.ref t) = [(Sum.inl (la + 1), .ref t)] from rfl]
    generalize hH5 : upd H4 D.wr _ = H5
    obtain ⟨f5, g5⟩ := gen_upd hH5
    have ned : dk ≠ D.wr := ne_of g4d w4 (by intro z; cases z)
    have g5d := f5.get1 g4d ned
    have tsA : TS K H2 H5 := ((f3.ts1 g2 rfl).trans f4.ts0).trans (f5.ts1 w4 rfl)
    have gk : ∀ x o, H2 x = some o → x ≠ dk → x ≠ D.wr → H5 x = some o := fun x o e n1 n2 => f5.get1 (f4.get0 (f3.get1 e n1)) n2
    refine ⟨_, rfl, dk, _, dx2, _, _, rfl, g5d, T.C_Disk, T.n_Disk_last, lk_Disk_last, ?_⟩
    refine k H5 t ?_ (f5.ts1 w4 rfl _ _ (sqt g4)) ⟨⟨dx2, g5d⟩, ?_, ?_, ⟨us2, gk _ _ e2 (ne_of e2 g2 (by intro z; cases z)) (ne_of e2 w2 (by intro z; cases z)), Paired.mapP r2 fun _ _ q => CellsAt.ts tsA q⟩, nhl2, g5⟩ ((f1.ts0.trans f2.ts0).trans tsA)
    · exact ((((Fr.refl _ H).up0 f1).up0 f2).up1 f3 (.inl (by simp))).up0 f4 |>.up1 f5 (.inl (by simp))
    · obtain ⟨dp, hp⟩ := id pl2
      exact ⟨dp, gk _ _ hp (plan_ne_disk pl2 g2) (ne_of hp w2 (by intro z; cases z))⟩
    · exact ⟨vs2, gk _ _ l2 (ne_of l2 g2 (by intro z; cases z)) (ne_of l2 w2 (by intro z; cases z)), Paired.mapP q2 fun _ _ q => OptRec.ts tsA q⟩
def sp_Disk_put (T : Txt K mg) : Sp := fun vs H Q _ => ∃ (dk a : Addr) (v : V) (A : DA) (home : List (List Int)) (log : List (Option Rec)) (hd la i : Int) (r : Rec) (kvs : List (Key × V)), vs = [.ref dk, .ref a, v] ∧ DiskAt T H dk A home log hd la kvs ∧ SqT K H a [.str "log", .int i] ∧ 0 ≤ i ∧ i < log.length ∧ RecAt K H v r ∧
  ∀ H', Fr [A.lg] H H' → DiskAt T H' dk A home (log.set i.toNat (some r)) hd la kvs → TS K H H' → Q .non H'
theorem ok_Disk_put (T : Txt K mg) : FnOk P w K mg base CX0 1 T.a_Disk_put T.fd_Disk_put ["self", "place", "what"] (sp_Disk_put T) := by
  refine T.F_Disk_put.ok sc_Disk_put (fun vs H Q E h => ?_) (fun cdv A outer s H vs Q E hr h => ?_)
  · obtain ⟨dk, a, v, A, home, log, hd, la, i, r, kvs, rfl, _⟩ := h
    rfl
  · obtain ⟨dk, a, v, D, home, log, hd, la, i, r, kvs, rfl, dd, h0, i0, i1, hrec, k⟩ := h
    obtain ⟨⟨dx, h1⟩, hpl, ⟨vs, h3, h4⟩, ⟨us, e3, e4⟩, nhl, hw⟩ := id dd
    have hlen := h4.length
    refine ⟨_, (pss_one (ps_if (pt_cmpR op_eq (pe_ix ix_tup (pv 1) pe_int (fun _ _ => rfl)) pe_str (nomark _)) (pss_one ps_never) (pss_one (ps_asg (pv 2) (pg_sub (pe_fld (pv 0) rfl) (pe_ix ix_tup (pv 1) pe_int (fun _ _ => rfl)) set_list))))), ?_⟩
    refine ⟨_, rfl, a, _, 0, _, rfl, rfl, h0, rfl, rfl, _, rfl, iteF' (by rw [dec_str, decide_eq_false lh_ne]) ?_⟩
    refine ⟨_, rfl, _, rfl, dk, _, dx, _, _, rfl, h1, T.C_Disk, T.n_Disk_log, lk_Disk_log, _, rfl, a, _, 1, _, rfl, rfl, h0, rfl, D.lg, vs, i, i.toNat, rfl, rfl, h3, by unfold ixN; rw [if_pos i0, if_pos (by omega)], ?_⟩
    generalize hH5 : upd H D.lg _ = H5
    obtain ⟨f5, g5⟩ := gen_upd hH5
    have ts : TS K H H5 := f5.ts1 h3 rfl
    refine k H5 f5 ⟨⟨dx, f5.get1 h1 (ne_of h1 h3 (by intro z; cases z))⟩, ?_, ⟨_, g5, paired_set (Paired.mapP h4 fun _ _ q => OptRec.ts ts q) (hrec.ts ts)⟩, ⟨us, f5.get1 e3 nhl, Paired.mapP e4 fun _ _ q => CellsAt.ts ts q⟩, nhl, f5.get1 hw (ne_of hw h3 (by intro z; cases z))⟩ ts
    obtain ⟨dp, hp⟩ := hpl
    exact ⟨dp, f5.get1 hp (ne_of hp h3 (by intro z; cases z))⟩
def sp_Disk_sure (T : Txt K mg) : Sp := fun vs H Q _ => ∃ (dk a t : Addr) (v : V) (A : DA) (home : List (List Int)) (log : List (Option Rec)) (hd la i n : Int) (r : Rec), vs = [.ref dk, .int n] ∧ DiskAt T H dk A home log hd la [(Sum.inl n, .ref t)] ∧ SqT K H t [.ref a, v] ∧ SqT K H a [.str "log", .int i] ∧ 0 ≤ i ∧ i < log.length ∧ RecAt K H v r ∧
  ∀ H', Fr [A.wr, A.lg] H H' → DiskAt T H' dk A home (log.set i.toNat (some r)) hd la [] → TS K H H' → Q .non H'
theorem ok_Disk_sure (T : Txt K mg) : FnOk P w K mg base CX0 2 T.a_Disk_sure T.fd_Disk_sure ["self", "number"] (sp_Disk_sure T) := by
  refine T.F_Disk_sure.ok sc_Disk_sure (fun vs H Q E h => ?_) (fun cdv A outer s H vs Q E hr h => ?_)
  · obtain ⟨dk, a, t, v, A, home, log, hd, la, i, n, r, rfl, _⟩ := h
    rfl
  · obtain ⟨dk, a, t, v, D, home, log, hd, la, i, n, r, rfl, dd, ht, h0, i0, i1, hrec, k⟩ := h
    obtain ⟨⟨dx, h1⟩, hpl, ⟨vs, h3, h4⟩, ⟨us, e3, e4⟩, nhl, hw⟩ := id dd
    have hv : valV ([(Sum.inl n, .ref t)] : List (Key × V)) (Sum.inl n) = some (.ref t) := valV_pos rfl
    refine ⟨_, (pss_cons (ps_if (pt_cmp (pc_dnotin (hu_of hr) (pv 1) (pe_fld (pv 0) rfl))) (pss_one ps_never) pss_nil)
        (pss_cons (ps_asg (pe_dpop1 (pe_fld (pv 0) rfl) (pv 1) ⟨rfl, rfl, rfl, rfl⟩) (pg_tup (by rfl) (pgs_cons (pg_name (i := 2) sc_Disk_sure.nd rfl (Or.inl rfl)) (pgs_cons (pg_name (i := 3) sc_Disk_sure.nd rfl (Or.inl rfl)) pgs_nil))))
        (pss_one (ps_expr (pe_meth (pv 0) T.C_Disk T.m_Disk_put (ok_Disk_put T) (hr.mono (by decide)) T.b_Disk_put .nil pass0 (pa_cons (pv 2) (pa_cons (pv 3) pa_nil))))))), ?_⟩
    refine ⟨_, rfl, _, rfl, dk, _, dx, _, _, rfl, h1, T.C_Disk, T.n_Disk_writes, lk_Disk_writes, D.wr, _, rfl, DGet.k (k := Sum.inl n) hw, _, rfl, iteF' (by rw [hv]; rfl) ?_⟩
    refine ⟨_, rfl, dk, _, dx, _, _, rfl, h1, T.C_Disk, T.n_Disk_writes, lk_Disk_writes, D.wr, rfl, .inl ⟨_, .inl hw⟩, _, rfl, _, Sum.inl n, _, hw, rfl, hv, ?_⟩
    rw [show dropK ([(Sum.inl n, .ref t)] : List (Key × V)) (Sum.inl n) = [] by simp [dropK]]
    generalize hH5 : upd H D.wr _ = H5
    obtain ⟨f5, g5⟩ := gen_upd hH5
    have ts : TS K H H5 := f5.ts1 hw rfl
    have d5 : DiskAt T H5 dk D home log hd la [] := by
      refine ⟨⟨dx, f5.get1 h1 (ne_of h1 hw (by intro z; cases z))⟩, ?_, ⟨_, f5.get1 h3 (ne_of h3 hw (by intro z; cases z)), Paired.mapP h4 fun _ _ q => OptRec.ts ts q⟩, ⟨us, f5.get1 e3 (ne_of e3 hw (by intro z; cases z)), Paired.mapP e4 fun _ _ q => CellsAt.ts ts q⟩, nhl, g5⟩
      obtain ⟨dp, hp⟩ := hpl
      exact ⟨dp, f5.get1 hp (ne_of hp hw (by intro z; cases z))⟩
    refine ⟨t, _, rfl, ts _ _ ht, rfl, _, _, rfl, _, _, rfl, rfl, ?_⟩
    obtain ⟨⟨dx5, g5d⟩, _⟩ := id d5
    refine ⟨_, rfl, dk, dx5, _, rfl, g5d, no_Disk_put, _, rfl, _, rfl, dk, a, v, D, home, log, hd, la, i, r, [], rfl, d5, ts _ _ h0, i0, i1, hrec.ts ts, fun H6 f6 d6 ts6 => ?_⟩
    exact k H6 ((((Fr.refl _ H).up1 f5 (.inl (by simp))).up1 f6 (.inl (by simp)))) d6 (ts.trans ts6)
end
section
variable {P : Program} {w : World} {K : PySem.W.Frag} {mg : Str → Option Value} {base : Heap}
/-! homes -/
def sp_is_placeH (T : Txt K mg) : Sp := fun vs H Q _ => ∃ (a pl : Addr) (i b n s : Int), vs = [.ref a, .ref pl] ∧ SqT K H a [.str "home", .int i] ∧ PlanAt T H pl b n s ∧ Q (.bl (win i 0 (b - 1))) H
theorem ok_is_placeH (T : Txt K mg) : FnOk P w K mg base CX0 2 T.a_is_place T.fd_is_place ["place", "plan"] (sp_is_placeH T) := by
  refine T.F_is_place.ok sc_is_place (fun vs H Q E h => ?_) (fun cdv A outer s H vs Q E hr h => ?_)
  · obtain ⟨a, pl, i, b, n, s, rfl, _⟩ := h
    rfl
  · obtain ⟨a, pl, i, b, n, s, rfl, h0, ⟨dp, hp⟩, k⟩ := h
    refine ⟨_, (pss_cons (ps_if (PW.pt (pw_or (pt_not (pt_val (pe_callB call_isi (by rfl) T.n_isinstance (by decide +kernel) (pa_cons (pv 0) (pa_cons (pe_bltn (v := .ty "tuple") (u := .type "tuple") (by rfl) T.n_tuple (by decide +kernel) rfl) pa_nil))))) (pw_or1 (pt_cmpR op_ne (pe_callB call_len_seq (by rfl) T.n_len (by decide +kernel) (pa_cons (pv 0) pa_nil)) pe_int (nomark _))))) (pss_one (ps_ret pe_bl)) pss_nil)
        (pss_cons (ps_if (pt_cmpR op_eq (pe_ix ix_tup (pv 0) pe_int (fun _ _ => rfl)) pe_str (nomark _)) (pss_one (ps_ret (pe_call (ok_is_within T) (hr.mono (by decide)) rfl T.m_is_within T.F_is_within.kp T.b_is_within .nil pass0 (pa_cons (pe_ix ix_tup (pv 0) pe_int (fun _ _ => rfl)) (pa_cons pe_int (pa_cons (pe_op op_sub (pe_fld (pv 1) rfl) pe_int) pa_nil)))))) pss_nil)
        (pss_one (ps_ret (pe_and (pe_cmpR op_eq (pe_ix ix_tup (pv 0) pe_int (fun _ _ => rfl)) pe_str (nomark _)) (pe_one (pe_call (ok_is_within T) (hr.mono (by decide)) rfl T.m_is_within T.F_is_within.kp T.b_is_within .nil pass0 (pa_cons (pe_ix ix_tup (pv 0) pe_int (fun _ _ => rfl)) (pa_cons pe_int (pa_cons (pe_op op_sub (pe_fld (pv 1) rfl) pe_int) pa_nil)))))))))), ?_⟩
    refine ⟨_, rfl, _, _, _, _, true, rfl, .ty "tuple", ty_tup h0, kit_ty (by decide +kernel), _, rfl, iteF ?_⟩
    refine ⟨_, rfl, a, _, rfl, .inr h0, rfl, _, rfl, iteF ?_⟩
    refine ⟨_, rfl, a, _, 0, _, rfl, rfl, h0, rfl, rfl, _, rfl, iteT' (by decide +kernel) ?_⟩
    exact ⟨_, rfl, a, _, 1, _, rfl, rfl, h0, rfl, _, rfl, pl, _, dp, _, _, rfl, hp, T.C_Plan, T.n_Plan_blocks, lk_Plan_blocks, _, _, rfl, rfl, i, 0, b - 1, rfl, k⟩
def sp_home_content (K : PySem.W.Frag) : Sp := fun vs H Q _ => ∃ (a : Addr) (cs : List Int), vs = [.ref a] ∧ SqT K H a (cs.map V.int) ∧ rowOk cs = true ∧ ∀ H', Fr [] H H' → Q (.ref a) H'
theorem row8 {cs : List Int} (h : rowOk cs = true) : cs.length = 8 := by
  simp only [rowOk, Bool.and_eq_true, decide_eq_true_eq] at h
  exact h.1
theorem ok_home_content (T : Txt K mg) : FnOk P w K mg base CX0 3 T.a_home_content T.fd_home_content ["what"] (sp_home_content K) := by
  refine T.F_home_content.ok sc_home_content (fun vs H Q E h => ?_) (fun cdv A outer s H vs Q E hr h => ?_)
  · obtain ⟨a, cs, rfl, _⟩ := h
    rfl
  · obtain ⟨a, cs, rfl, h0, hk, k⟩ := h
    refine ⟨_, (pss_cons (ps_if (PW.pt (pw_or (pt_not (pt_val (pe_callB call_isiT (by rfl) T.n_isinstance (by decide +kernel) (pa_cons (pv 0) (pa_cons (pe_tup (pa_cons (pe_bltn (v := .ty "list") (u := .type "list") (by rfl) T.n_list (by decide +kernel) rfl) (pa_cons (pe_bltn (v := .ty "tuple") (u := .type "tuple") (by rfl) T.n_tuple (by decide +kernel) rfl) pa_nil))) pa_nil))))) (pw_or1 (pt_not (pt_val (pe_call (ok_is_row_of_cells T) (hr.mono (by decide)) rfl T.m_is_row_of_cells T.F_is_row_of_cells.kp T.b_is_row_of_cells .nil pass0 (pa_cons (pe_callTy call_tuple_of (by rfl) T.n_tuple (by decide +kernel) (pa_cons (pv 0) pa_nil)) pa_nil))))))) (pss_one ps_never) pss_nil)
        (pss_one (ps_ret (pe_callTy call_tuple_of (by rfl) T.n_tuple (by decide +kernel) (pa_cons (pv 0) pa_nil))))), ?_⟩
    refine ⟨_, rfl, (by show 2 ≤ sizeLine; decide), fun t nt => ?_⟩
    generalize hH1 : upd H t _ = H1
    obtain ⟨f1, g1⟩ := gen_new nt hH1
    refine ⟨_, t, _, _, _, true, rfl, g1, .cons (.ty "list") (.cons (.ty "tuple") .nil), ty_tup (f1.tup0 h0), kitAny_cons (b := false) (kit_ty (by decide +kernel)) (fun _ => kitAny_cons (b := true) (kit_ty (by decide +kernel)) (fun e => by cases e) (fun _ => rfl)) (fun e => by cases e), _, rfl, iteF ?_⟩
    refine ⟨_, rfl, a, _, rfl, .inr ⟨f1.tup0 h0, a, cs, rfl, f1.tup0 h0, by have := row8 hk; omega, fun H2 f2 => ⟨_, rfl, iteF' (by rw [hk]; rfl) ?_⟩⟩⟩
    exact ⟨_, rfl, a, _, rfl, .inr ⟨f2.tup0 (f1.tup0 h0), k H2 (f1.up0 f2)⟩⟩
def sp_Disk_busyH (T : Txt K mg) : Sp := fun vs H Q _ => ∃ (dk a : Addr) (A : DA) (home : List (List Int)) (log : List (Option Rec)) (hd la i : Int), vs = [.ref dk, .ref a] ∧ DiskAt T H dk A home log hd la [] ∧ SqT K H a [.str "home", .int i] ∧ ∀ H', Fr [] H H' → Q (.bl false) H'
theorem ok_Disk_busyH (T : Txt K mg) : FnOk P w K mg base CX0 1 T.a_Disk_busy T.fd_Disk_busy ["self", "place"] (sp_Disk_busyH T) := by
  refine T.F_Disk_busy.ok sc_Disk_busy (fun vs H Q E h => ?_) (fun cdv A outer s H vs Q E hr h => ?_)
  · obtain ⟨dk, a, A, home, log, hd, la, i, rfl, _⟩ := h
    rfl
  · obtain ⟨dk, a, D, home, log, hd, la, i, rfl, dd, h0, k⟩ := h
    obtain ⟨⟨dx, h1⟩, hpl, hlg, hho, nhl, hw⟩ := id dd
    refine ⟨_, (pss_one (ps_ret (pe_cmpR (op_inD (un65 hr)) (pv 1) (pe_lock (pe_lc (own := [("write", 2)]) (g := gName 2) (tt := tYes) (by rfl) sc_Disk_busy.nd (pi_values (pe_fld (pv 0) rfl)) (blkOk_by (own := [("write", 2)]) (N := N_Disk_busy) (sc := defScope s_Disk_busy) (by decide +kernel)) (fun _ _ _ _ _ => pg_name (i := 2) sc_Disk_busy.nd rfl (Or.inl rfl)) (fun _ _ _ _ _ => pts_nil) (fun _ _ _ _ _ => (pe_ix (show IxR _ (rIxT K) from ix_tup) (pv 2) pe_int (fun _ _ => rfl))))) rfl))), ?_⟩
    refine ⟨_, rfl, D.wr, _, hw, trivial, fun od => ?_⟩
    have ne1 : dk ≠ D.wr := ne_of h1 hw (by intro z; cases z)
    refine ⟨_, rfl, dk, _, dx, _, _, rfl, (by rw [upd_ne ne1]; exact h1), T.C_Disk, T.n_Disk_writes, lk_Disk_writes, D.wr, od, [], rfl, upd_same, fun N nN => lc_it walk_values (fun i H3 => i = 0 ∧ H3 = upd (upd H D.wr (.frz od (.dK []))) N (.lst [])) ?_ ?_ ?_ ?_⟩
    · exact ⟨rfl, rfl⟩
    · rintro i H3 _ ⟨_, rfl⟩
      have : D.wr ≠ N := ne_of_none upd_same nN
      rw [upd_ne this, upd_same]
    · rintro i x H3 H4 hi
      exact absurd hi (by simp)
    · rintro H3 ⟨_, rfl⟩
      have nw : D.wr ≠ N := ne_of_none upd_same nN
      have nN0 : H N = none := by rw [upd_ne nw.symm] at nN; exact nN
      refine ⟨by rw [upd_ne nw, upd_same], ?_⟩
      have eH : upd (upd (upd H D.wr (.frz od (.dK []))) N (.lst [])) D.wr (.dK []) = upd H N (.lst []) := by
        funext x
        by_cases e1 : x = D.wr
        · subst e1
          rw [upd_same, upd_ne nw, hw]
        · by_cases e2 : x = N
          · subst e2
            rw [upd_ne e1, upd_same, upd_same]
          · rw [upd_ne e1, upd_ne e2, upd_ne e1, upd_ne e2]
      rw [eH]
      generalize hH : upd H N _ = H5
      obtain ⟨f5, h5⟩ := gen_new nN0 hH
      refine ⟨.tuple [.str "home", .int i], [], .tup (f5.tup0 h0) (.cons (.str _) (.cons (.int _) .nil)), .lst (sq h5) .nil, (Sh.tup (n := 63) (.cons (.str (by decide +kernel)) (.cons (.int _) .nil))).shaped, (Sh.lst (n := 63) .nil).shaped, ?_⟩
      exact k H5 f5
def sp_Disk_issueH (T : Txt K mg) : Sp := fun vs H Q _ => ∃ (dk a v : Addr) (A : DA) (home : List (List Int)) (log : List (Option Rec)) (hd la i : Int) (cs : List Int), vs = [.ref dk, .ref a, .ref v] ∧ DiskAt T H dk A home log hd la [] ∧ SqT K H a [.str "home", .int i] ∧ 0 ≤ i ∧ i < 24 ∧ SqT K H v (cs.map V.int) ∧ rowOk cs = true ∧
  ∀ H' t, Fr [dk, A.wr] H H' → SqT K H' t [.ref a, .ref v] → DiskAt T H' dk A home log hd (la + 1) [(Sum.inl (la + 1), .ref t)] → TS K H H' → Q (.int (la + 1)) H'
theorem ok_Disk_issueH (T : Txt K mg) : FnOk P w K mg base CX0 6 T.a_Disk_issue T.fd_Disk_issue ["self", "place", "what"] (sp_Disk_issueH T) := by
  refine T.F_Disk_issue.ok sc_Disk_issue (fun vs H Q E h => ?_) (fun cdv A outer s H vs Q E hr h => ?_)
  · obtain ⟨dk, a, v, A, home, log, hd, la, i, cs, rfl, _⟩ := h
    rfl
  · obtain ⟨dk, a, v, D, home, log, hd, la, i, cs, rfl, dd, h0, i0, i1, hv, hok, k⟩ := h
    obtain ⟨⟨dx, h1⟩, hpl, ⟨vs, h3, h4⟩, ⟨us, e3, e4⟩, nhl, hw⟩ := id dd
    refine ⟨_, (pss_cons (ps_if (pt_not (pt_val (pe_call (ok_is_placeH T) (hr.mono (by decide)) rfl T.m_is_place T.F_is_place.kp T.b_is_place .nil pass0 (pa_cons (pv 1) (pa_cons (pe_fld (pv 0) rfl) pa_nil))))) (pss_one ps_never) pss_nil)
        (pss_cons (ps_if (pt_cmpR op_eq (pe_ix ix_tup (pv 1) pe_int (fun _ _ => rfl)) pe_str (nomark _)) (pss_one (ps_set (i := 3) sc_Disk_issue.nd rfl (Or.inl rfl) (pe_call (ok_home_content T) (hr.mono (by decide)) rfl T.m_home_content T.F_home_content.kp T.b_home_content .nil pass0 (pa_cons (pv 2) pa_nil)))) (pss_one ps_never))
        (pss_cons (ps_if (pt_val (pe_meth (pv 0) T.C_Disk T.m_Disk_busy (ok_Disk_busyH T) (hr.mono (by decide)) T.b_Disk_busy .nil pass0 (pa_cons (pv 1) pa_nil))) (pss_one ps_never) pss_nil)
        (pss_cons (ps_fldaug (pv 0) pe_int in_add)
        (pss_cons (ps_dput (hu_of hr) (pe_fld (pv 0) rfl) (pe_fld (pv 0) rfl) (pe_tup (pa_cons (pv 1) (pa_cons (pv 3) pa_nil))) rfl)
        (pss_one (ps_ret (pe_fld (pv 0) rfl)))))))), ?_⟩
    refine ⟨_, rfl, _, rfl, dk, _, dx, _, _, rfl, h1, T.C_Disk, T.n_Disk_plan, lk_Disk_plan, a, D.pl, i, 24, 5, 30, rfl, h0, hpl, _, rfl, iteF' (by unfold win; rw [decide_eq_true i0, decide_eq_true (show i ≤ 24 - 1 by omega)]; rfl) ?_⟩
    refine ⟨_, rfl, a, _, 0, _, rfl, rfl, h0, rfl, rfl, _, rfl, iteT' (by decide +kernel) ?_⟩
    refine ⟨_, rfl, v, cs, rfl, hv, hok, fun H1 f1 => ?_⟩
    have d1 := dd.fr0 f1
    obtain ⟨⟨dx1, g1⟩, _⟩ := id d1
    refine ⟨_, rfl, dk, dx1, _, rfl, g1, no_Disk_busy, _, rfl, dk, a, D, home, log, hd, la, i, rfl, d1, f1.tup0 h0, fun H2 f2 => ⟨_, rfl, iteF ?_⟩⟩
    have d2 := d1.fr0 f2
    obtain ⟨⟨dx2, g2⟩, pl2, ⟨vs2, l2, q2⟩, ⟨us2, e2, r2⟩, nhl2, w2⟩ := id d2
    refine ⟨_, rfl, dk, _, dx2, _, _, rfl, g2, T.C_Disk, T.n_Disk_last, lk_Disk_last, _, _, rfl, rfl, dx2, _, g2, len_Disk, ?_⟩
    rw [pt_Disk_last]
    generalize hH3 : upd H2 dk _ = H3
    obtain ⟨f3, g3⟩ := gen_upd hH3
    have w3 := f3.get1 w2 (ne_of w2 g2 (by intro z; cases z))
    refine ⟨_, rfl, _, rfl, (by show 2 ≤ sizeLine; decide), fun t nt => ?_⟩
    generalize hH4 : upd H3 t _ = H4
    obtain ⟨f4, g4⟩ := gen_new nt hH4
    have g4d := f4.get0 g3
    have w4 := f4.get0 w3
    refine ⟨_, rfl, dk, _, dx2, _, _, rfl, g4d, T.C_Disk, T.n_Disk_writes, lk_Disk_writes, _, rfl, dk, _, dx2, _, _, rfl, g4d, T.C_Disk, T.n_Disk_last, lk_Disk_last, D.wr, _, rfl, DPut.k (k := Sum.inl (la + 1)) w4 (by show 0 < sizeLine; decide), ?_⟩
    rw [show putK ([] : List (Key × V)) (Sum.inl (la + 1)) (.ref t) = [(Sum.inl (la + 1), .ref t)] from rfl]
    generalize hH5 : upd H4 D.wr _ = H5
    obtain ⟨f5, g5⟩ := gen_upd hH5
    have ned : dk ≠ D.wr := ne_of g4d w4 (by intro z; cases z)
    have g5d := f5.get1 g4d ned
    have tsA : TS K H2 H5 := ((f3.ts1 g2 rfl).trans f4.ts0).trans (f5.ts1 w4 rfl)
    have gk : ∀ x o, H2 x = some o → x ≠ dk → x ≠ D.wr → H5 x = some o := fun x o e n1 n2 => f5.get1 (f4.get0 (f3.get1 e n1)) n2
    refine ⟨_, rfl, dk, _, dx2, _, _, rfl, g5d, T.C_Disk, T.n_Disk_last, lk_Disk_last, ?_⟩
    refine k H5 t ?_ (f5.ts1 w4 rfl _ _ (sqt g4)) ⟨⟨dx2, g5d⟩, ?_, ?_, ⟨us2, gk _ _ e2 (ne_of e2 g2 (by intro z; cases z)) (ne_of e2 w2 (by intro z; cases z)), Paired.mapP r2 fun _ _ q => CellsAt.ts tsA q⟩, nhl2, g5⟩ ((f1.ts0.trans f2.ts0).trans tsA)
    · exact ((((Fr.refl _ H).up0 f1).up0 f2).up1 f3 (.inl (by simp))).up0 f4 |>.up1 f5 (.inl (by simp))
    · obtain ⟨dp, hp⟩ := id pl2
      exact ⟨dp, gk _ _ hp (plan_ne_disk pl2 g2) (ne_of hp w2 (by intro z; cases z))⟩
    · exact ⟨vs2, gk _ _ l2 (ne_of l2 g2 (by intro z; cases z)) (ne_of l2 w2 (by intro z; cases z)), Paired.mapP q2 fun _ _ q => OptRec.ts tsA q⟩
def sp_Disk_putH (T : Txt K mg) : Sp := fun vs H Q _ => ∃ (dk a v : Addr) (A : DA) (home : List (List Int)) (log : List (Option Rec)) (hd la i : Int) (cs : List Int) (kvs : List (Key × V)), vs = [.ref dk, .ref a, .ref v] ∧ DiskAt T H dk A home log hd la kvs ∧ SqT K H a [.str "home", .int i] ∧ 0 ≤ i ∧ i < home.length ∧ SqT K H v (cs.map V.int) ∧
  ∀ H', Fr [A.ho] H H' → DiskAt T H' dk A (home.set i.toNat cs) log hd la kvs → TS K H H' → Q .non H'
theorem ok_Disk_putH (T : Txt K mg) : FnOk P w K mg base CX0 1 T.a_Disk_put T.fd_Disk_put ["self", "place", "what"] (sp_Disk_putH T) := by
  refine T.F_Disk_put.ok sc_Disk_put (fun vs H Q E h => ?_) (fun cdv A outer s H vs Q E hr h => ?_)
  · obtain ⟨dk, a, v, A, home, log, hd, la, i, cs, kvs, rfl, _⟩ := h
    rfl
  · obtain ⟨dk, a, v, D, home, log, hd, la, i, cs, kvs, rfl, dd, h0, i0, i1, hv, k⟩ := h
    obtain ⟨⟨dx, h1⟩, hpl, ⟨vs, h3, h4⟩, ⟨us, e3, e4⟩, nhl, hw⟩ := id dd
    have hlen := e4.length
    refine ⟨_, (pss_one (ps_if (pt_cmpR op_eq (pe_ix ix_tup (pv 1) pe_int (fun _ _ => rfl)) pe_str (nomark _)) (pss_one (ps_asg (pv 2) (pg_sub (pe_fld (pv 0) rfl) (pe_ix ix_tup (pv 1) pe_int (fun _ _ => rfl)) set_list))) (pss_one ps_never))), ?_⟩
    refine ⟨_, rfl, a, _, 0, _, rfl, rfl, h0, rfl, rfl, _, rfl, iteT' (by decide +kernel) ?_⟩
    refine ⟨_, rfl, _, rfl, dk, _, dx, _, _, rfl, h1, T.C_Disk, T.n_Disk_home, lk_Disk_home, _, rfl, a, _, 1, _, rfl, rfl, h0, rfl, D.ho, us, i, i.toNat, rfl, rfl, e3, by unfold ixN; rw [if_pos i0, if_pos (by omega)], ?_⟩
    generalize hH5 : upd H D.ho _ = H5
    obtain ⟨f5, g5⟩ := gen_upd hH5
    have ts : TS K H H5 := f5.ts1 e3 rfl
    refine k H5 f5 ⟨⟨dx, f5.get1 h1 (ne_of h1 e3 (by intro z; cases z))⟩, ?_, ⟨vs, f5.get1 h3 nhl.symm, Paired.mapP h4 fun _ _ q => OptRec.ts ts q⟩, ⟨_, g5, paired_set (Paired.mapP e4 fun _ _ q => CellsAt.ts ts q) ⟨v, rfl, ts _ _ hv⟩⟩, nhl, f5.get1 hw (ne_of hw e3 (by intro z; cases z))⟩ ts
    obtain ⟨dp, hp⟩ := hpl
    exact ⟨dp, f5.get1 hp (ne_of hp e3 (by intro z; cases z))⟩
def sp_Disk_sureH (T : Txt K mg) : Sp := fun vs H Q _ => ∃ (dk a t v : Addr) (A : DA) (home : List (List Int)) (log : List (Option Rec)) (hd la i n : Int) (cs : List Int), vs = [.ref dk, .int n] ∧ DiskAt T H dk A home log hd la [(Sum.inl n, .ref t)] ∧ SqT K H t [.ref a, .ref v] ∧ SqT K H a [.str "home", .int i] ∧ 0 ≤ i ∧ i < home.length ∧ SqT K H v (cs.map V.int) ∧
  ∀ H', Fr [A.wr, A.ho] H H' → DiskAt T H' dk A (home.set i.toNat cs) log hd la [] → TS K H H' → Q .non H'
theorem ok_Disk_sureH (T : Txt K mg) : FnOk P w K mg base CX0 2 T.a_Disk_sure T.fd_Disk_sure ["self", "number"] (sp_Disk_sureH T) := by
  refine T.F_Disk_sure.ok sc_Disk_sure (fun vs H Q E h => ?_) (fun cdv A outer s H vs Q E hr h => ?_)
  · obtain ⟨dk, a, t, v, A, home, log, hd, la, i, n, cs, rfl, _⟩ := h
    rfl
  · obtain ⟨dk, a, t, v, D, home, log, hd, la, i, n, cs, rfl, dd, ht, h0, i0, i1, hv0, k⟩ := h
    obtain ⟨⟨dx, h1⟩, hpl, ⟨vs, h3, h4⟩, ⟨us, e3, e4⟩, nhl, hw⟩ := id dd
    have hv : valV ([(Sum.inl n, .ref t)] : List (Key × V)) (Sum.inl n) = some (.ref t) := valV_pos rfl
    refine ⟨_, (pss_cons (ps_if (pt_cmp (pc_dnotin (hu_of hr) (pv 1) (pe_fld (pv 0) rfl))) (pss_one ps_never) pss_nil)
        (pss_cons (ps_asg (pe_dpop1 (pe_fld (pv 0) rfl) (pv 1) ⟨rfl, rfl, rfl, rfl⟩) (pg_tup (by rfl) (pgs_cons (pg_name (i := 2) sc_Disk_sure.nd rfl (Or.inl rfl)) (pgs_cons (pg_name (i := 3) sc_Disk_sure.nd rfl (Or.inl rfl)) pgs_nil))))
        (pss_one (ps_expr (pe_meth (pv 0) T.C_Disk T.m_Disk_put (ok_Disk_putH T) (hr.mono (by decide)) T.b_Disk_put .nil pass0 (pa_cons (pv 2) (pa_cons (pv 3) pa_nil))))))), ?_⟩
    refine ⟨_, rfl, _, rfl, dk, _, dx, _, _, rfl, h1, T.C_Disk, T.n_Disk_writes, lk_Disk_writes, D.wr, _, rfl, DGet.k (k := Sum.inl n) hw, _, rfl, iteF' (by rw [hv]; rfl) ?_⟩
    refine ⟨_, rfl, dk, _, dx, _, _, rfl, h1, T.C_Disk, T.n_Disk_writes, lk_Disk_writes, D.wr, rfl, .inl ⟨_, .inl hw⟩, _, rfl, _, Sum.inl n, _, hw, rfl, hv, ?_⟩
    rw [show dropK ([(Sum.inl n, .ref t)] : List (Key × V)) (Sum.inl n) = [] by simp [dropK]]
    generalize hH5 : upd H D.wr _ = H5
    obtain ⟨f5, g5⟩ := gen_upd hH5
    have ts : TS K H H5 := f5.ts1 hw rfl
    have d5 : DiskAt T H5 dk D home log hd la [] := by
      refine ⟨⟨dx, f5.get1 h1 (ne_of h1 hw (by intro z; cases z))⟩, ?_, ⟨_, f5.get1 h3 (ne_of h3 hw (by intro z; cases z)), Paired.mapP h4 fun _ _ q => OptRec.ts ts q⟩, ⟨us, f5.get1 e3 (ne_of e3 hw (by intro z; cases z)), Paired.mapP e4 fun _ _ q => CellsAt.ts ts q⟩, nhl, g5⟩
      obtain ⟨dp, hp⟩ := hpl
      exact ⟨dp, f5.get1 hp (ne_of hp hw (by intro z; cases z))⟩
    refine ⟨t, _, rfl, ts _ _ ht, rfl, _, _, rfl, _, _, rfl, rfl, ?_⟩
    obtain ⟨⟨dx5, g5d⟩, _⟩ := id d5
    refine ⟨_, rfl, dk, dx5, _, rfl, g5d, no_Disk_put, _, rfl, _, rfl, dk, a, v, D, home, log, hd, la, i, cs, [], rfl, d5, ts _ _ h0, i0, i1, ts _ _ hv0, fun H6 f6 d6 ts6 => ?_⟩
    exact k H6 ((((Fr.refl _ H).up1 f5 (.inl (by simp))).up1 f6 (.inl (by simp)))) d6 (ts.trans ts6)
end
/-! live copies -/
abbrev Mkr := Int × List (Int × Int) × List Int
def Mkr.rec (m : Mkr) : Rec := .mark m.1 m.2.1 m.2.2
def MkAt (K : PySem.W.Frag) (H : Hp) (v : V) (x : Int × Mkr) : Prop := ∃ t w, v = .ref t ∧ SqT K H t [.int x.1, w] ∧ RecAt K H w x.2.rec
theorem MkAt.ts {K : PySem.W.Frag} {H H' : Hp} {v : V} {x : Int × Mkr} (t : TS K H H') (h : MkAt K H v x) : MkAt K H' v x := by
  obtain ⟨a, w, e, h1, h2⟩ := h
  exact ⟨a, w, e, t _ _ h1, h2.ts t⟩
def LiveAt (K : PySem.W.Frag) (H : Hp) (v : V) : Option (Int × Int) → Prop
  | none => v = .non
  | some p => ∃ t, v = .ref t ∧ SqT K H t [.int p.1, .int p.2]
theorem LiveAt.ts {K : PySem.W.Frag} {H H' : Hp} {v : V} {o : Option (Int × Int)} (t : TS K H H') (h : LiveAt K H v o) : LiveAt K H' v o := by
  cases o with
  | none => exact h
  | some p =>
    obtain ⟨a, e, h⟩ := h
    exact ⟨a, e, t _ _ h⟩
def cstep (x lot : Int) (l : Option (Int × Int)) (p : Int × Int) : Option (Int × Int) := if p.1 = x then some (lot, p.2) else l
def lstep (x : Int) (g : Bool) (l : Option (Int × Int)) (m : Mkr) : Option (Int × Int) :=
  let l2 := m.2.1.foldl (cstep x m.1) (if g && decide (x ∈ m.2.2) then none else l)
  if !g && decide (x ∈ m.2.2) then none else l2
def liveF (ms : List Mkr) (x : Int) (g : Bool) : Option (Int × Int) := ms.foldl (lstep x g) none
def sp_live_copy (K : PySem.W.Frag) : Sp := fun vs H Q _ => ∃ (a : Addr) (us : List V) (ms : List (Int × Mkr)) (x : Int) (g : Bool), vs = [.ref a, .int x, .bl g] ∧ SqL K H a us ∧ Paired (MkAt K H) us ms ∧
  ∀ H' v, Fr [] H H' → LiveAt K H' v (liveF (ms.map (·.2)) x g) → Q v H'
section
variable {P : Program} {w : World} {K : PySem.W.Frag} {mg : Str → Option Value} {base : Heap}
theorem ok_live_copy (T : Txt K mg) : FnOk P w K mg base CX0 1 T.a_live_copy T.fd_live_copy ["marks", "x", "lapse"] (sp_live_copy K) := by
  refine T.F_live_copy.ok sc_live_copy (fun vs H Q E h => ?_) (fun cdv A outer s H vs Q E hr h => ?_)
  · obtain ⟨a, us, ms, x, g, rfl, _⟩ := h
    rfl
  · obtain ⟨a, us, ms, x, g, rfl, h0, hp, k⟩ := h
    have hlen := hp.length
    refine ⟨_, (pss_cons (ps_set (i := 3) sc_live_copy.nd rfl (Or.inl rfl) pe_non)
        (pss_cons (ps_for PassesOwn.never rfl (pi_list (pv 0)) (pg_tup (by rfl) (pgs_cons (pg_name (i := 4) sc_live_copy.nd rfl (Or.inl rfl)) (pgs_cons (pg_name (i := 5) sc_live_copy.nd rfl (Or.inl rfl)) pgs_nil)))
        (pss_cons (ps_par3 (i := 6) (j := 7) (l := 8) (by rfl) sc_live_copy.nd rfl rfl rfl (by decide) (by decide) (by decide) rfl rfl rfl (pa_cons (pe_ix ix_tup (pv 5) pe_int (fun _ _ => rfl)) (pa_cons (pe_ix ix_tup (pv 5) pe_int (fun _ _ => rfl)) (pa_cons (pe_ix ix_tup (pv 5) pe_int (fun _ _ => rfl)) pa_nil))) (by rfl))
        (C8.pss_cut (ps_if (PW.pt (pw_and (pt_val (pv 2)) (pw_and1 (pt_cmpR op_in_seq (pv 1) (pv 8) rfl)))) (pss_one (ps_set (i := 3) sc_live_copy.nd rfl (Or.inl rfl) pe_non)) pss_nil)
        (C8.pss_cut (ps_for PassesOwn.never rfl (pi_tup (pv 7)) (pg_tup (by rfl) (pgs_cons (pg_name (i := 9) sc_live_copy.nd rfl (Or.inl rfl)) (pgs_cons (pg_name (i := 10) sc_live_copy.nd rfl (Or.inl rfl)) pgs_nil)))
        (pss_one (ps_if (pt_cmpR op_eq (pv 9) (pv 1) (nomark _)) (pss_one (ps_set (i := 3) sc_live_copy.nd rfl (Or.inl rfl) (pe_tup (pa_cons (pv 6) (pa_cons (pv 10) pa_nil))))) pss_nil)))
        (pss_one (ps_if (PW.pt (pw_and (pt_not (pt_val (pv 2))) (pw_and1 (pt_cmpR op_in_seq (pv 1) (pv 8) rfl)))) (pss_one (ps_set (i := 3) sc_live_copy.nd rfl (Or.inl rfl) pe_non)) pss_nil))))))
        (pss_one (ps_ret (pv 3))))), ?_⟩
    refine ⟨_, rfl, a, rfl, ⟨_, h0⟩, for_list (K := K) (a := a) (xs := us) (fun i σ H2 => Fr [] H H2 ∧ ∃ (v : V) (l : Option (Int × Int)) (y4 y5 y6 y7 y8 y9 y10 : Option V), σ = [some (.ref a), some (.int x), some (.bl g), some v, y4, y5, y6, y7, y8, y9, y10] ∧ LiveAt K H2 v l ∧ ((ms.map (·.2)).drop i).foldl (lstep x g) l = liveF (ms.map (·.2)) x g) ?_ ?_ ?_ ?_⟩
    · exact ⟨Fr.refl _ _, .non, none, _, _, _, _, _, _, _, rfl, rfl, rfl⟩
    · rintro i σ H2 _ ⟨f2, _⟩
      exact f2.seq0 h0
    · rintro i y σ H2 hi ⟨f2, v, l, y4, y5, y6, y7, y8, y9, y10, rfl, hl, hd⟩
      obtain ⟨m, hm, ht⟩ := paired_get hp hi
      obtain ⟨t, wv, rfl, ht1, hrec⟩ := MkAt.ts (K := K) f2.ts0 ht
      obtain ⟨ar, ac, av, ps, rfl, r1, r2, r3, r4⟩ := hrec
      have hm2 : (ms.map (·.2))[i]? = some m.2 := by rw [List.getElem?_map, hm]; rfl
      rw [drop_at hm2, List.foldl_cons] at hd
      refine ⟨t, _, rfl, ht1, rfl, _, _, rfl, _, _, rfl, rfl, ?_⟩
      refine ⟨_, rfl, ar, _, 1, _, rfl, rfl, r1, rfl, _, rfl, ar, _, 2, _, rfl, rfl, r1, rfl, _, rfl, ar, _, 3, _, rfl, rfl, r1, rfl, _, _, _, rfl, ?_⟩
      -- if lapse and x in revokes
      refine ⟨fun σ H3 => H3 = H2 ∧ ∃ (v : V), σ = [some (.ref a), some (.int x), some (.bl g), some v, some (.int m.1), some (.ref ar), some (.int m.2.1), some (.ref ac), some (.ref av), y9, y10] ∧ LiveAt K H3 v (if g && decide (x ∈ m.2.2.2) then none else l), ?_, ?_⟩
      · refine ⟨_, rfl, _, rfl, ?_⟩
        cases g with
        | false => exact iteF (iteF ⟨rfl, v, rfl, hl⟩)
        | true =>
          refine iteT ⟨_, rfl, _, rfl, av, _, rfl, .inr r4, rfl, flat_ints _, _, rfl, ?_⟩
          rw [inV_int]
          by_cases c : x ∈ m.2.2.2
          · rw [if_pos (by rw [decide_eq_true c]; rfl)]
            exact iteT' (by simp [c]) ⟨rfl, .non, rfl, rfl⟩
          · rw [if_neg (by rw [decide_eq_false c]; decide)]
            exact iteF' (by simp [c]) ⟨rfl, v, rfl, hl⟩
      · rintro σ H3 ⟨rfl, v, rfl, hl1⟩
        refine ⟨fun σ H4 => Fr [] H3 H4 ∧ ∃ (v : V) (y9 y10 : Option V), σ = [some (.ref a), some (.int x), some (.bl g), some v, some (.int m.1), some (.ref ar), some (.int m.2.1), some (.ref ac), some (.ref av), y9, y10] ∧ LiveAt K H4 v (m.2.2.1.foldl (cstep x m.2.1) (if g && decide (x ∈ m.2.2.2) then none else l)), ?_, ?_⟩
        · refine ⟨_, rfl, ac, rfl, ⟨_, r2⟩, for_tup (K := K) (a := ac) (xs := ps) (fun j σ H4 => Fr [] H3 H4 ∧ ∃ (v : V) (lj : Option (Int × Int)) (y9 y10 : Option V), σ = [some (.ref a), some (.int x), some (.bl g), some v, some (.int m.1), some (.ref ar), some (.int m.2.1), some (.ref ac), some (.ref av), y9, y10] ∧ LiveAt K H4 v lj ∧ (m.2.2.1.drop j).foldl (cstep x m.2.1) lj = m.2.2.1.foldl (cstep x m.2.1) (if g && decide (x ∈ m.2.2.2) then none else l)) ?_ ?_ ?_ ?_⟩
          · exact ⟨Fr.refl _ _, v, _, _, _, rfl, hl1, rfl⟩
          · rintro j σ H4 _ ⟨f4, _⟩
            exact f4.tup0 r2
          · rintro j y σ H4 hj ⟨f4, v, lj, y9, y10, rfl, hlj, hdj⟩
            obtain ⟨p, hp1, tp, rfl, htp⟩ := paired_get r3 hj
            rw [drop_at hp1, List.foldl_cons] at hdj
            refine ⟨tp, _, rfl, f4.tup0 htp, rfl, _, _, rfl, _, _, rfl, rfl, ?_⟩
            refine ⟨_, rfl, _, rfl, rfl, _, rfl, ?_⟩
            rw [dec_int]
            by_cases c : p.1 = x
            · refine iteT' (decide_eq_true c) ?_
              rw [cstep, if_pos c] at hdj
              refine ⟨_, rfl, _, rfl, (by show 2 ≤ sizeLine; decide), fun q nq => ?_⟩
              generalize hH5 : upd H4 q _ = H5
              obtain ⟨f5, g5⟩ := gen_new nq hH5
              exact ⟨f4.up0 f5, _, some (m.2.1, p.2), _, _, rfl, ⟨q, rfl, sqt g5⟩, hdj⟩
            · refine iteF' (decide_eq_false c) ?_
              rw [cstep, if_neg c] at hdj
              exact ⟨f4, v, lj, _, _, rfl, hlj, hdj⟩
          · rintro σ H4 ⟨f4, v, lj, y9, y10, rfl, hlj, hdj⟩
            rw [r3.length, List.drop_length, List.foldl_nil] at hdj
            rw [hdj] at hlj
            exact ⟨f4, v, _, _, rfl, hlj⟩
        · rintro σ H4 ⟨f4, v, y9, y10, rfl, hl2⟩
          have hd2 : ((ms.map (·.2)).drop (i + 1)).foldl (lstep x g) (if !g && decide (x ∈ m.2.2.2) then none else m.2.2.1.foldl (cstep x m.2.1) (if g && decide (x ∈ m.2.2.2) then none else l)) = liveF (ms.map (·.2)) x g := hd
          refine ⟨_, rfl, _, rfl, ?_⟩
          cases g with
          | true =>
            exact iteF (iteF ⟨f2.up0 f4, v, _, _, _, _, _, _, _, _, rfl, hl2, hd2⟩)
          | false =>
            refine iteT ⟨_, rfl, _, rfl, av, _, rfl, .inr (f4.tup0 r4), rfl, flat_ints _, _, rfl, ?_⟩
            rw [inV_int]
            by_cases c : x ∈ m.2.2.2
            · refine iteT' (by simp [c]) ⟨f2.up0 f4, .non, none, _, _, _, _, _, _, _, rfl, rfl, ?_⟩
              rw [if_pos (by rw [decide_eq_true c]; rfl)] at hd2
              exact hd2
            · refine iteF' (by simp [c]) ⟨f2.up0 f4, v, _, _, _, _, _, _, _, _, rfl, hl2, ?_⟩
              rw [if_neg (by rw [decide_eq_false c]; decide)] at hd2
              exact hd2
    · rintro σ H2 ⟨f2, v, l, y4, y5, y6, y7, y8, y9, y10, rfl, hl, hd⟩
      rw [List.drop_of_length_le (by rw [List.length_map, hlen]; exact Nat.le_refl _), List.foldl_nil] at hd
      rw [hd] at hl
      exact ⟨_, rfl, k H2 v f2 hl⟩
end
section
variable {P : Program} {w : World} {K : PySem.W.Frag} {mg : Str → Option Value} {base : Heap}
def recCells (lot x : Int) : Option Rec → List Int
  | some (.copy l b cs) => if l = lot ∧ b = x then cs else zero8
  | _ => zero8
def cellsF (home : List (List Int)) (log : List (Option Rec)) (x : Int) : Option (Int × Int) → List Int
  | none => home.getD x.toNat []
  | some p => if 0 ≤ p.2 ∧ p.2 < log.length then recCells p.1 x (log.getD p.2.toNat none) else zero8
theorem at_i {α : Type} {xs : List α} {i : Int} {v : α} (h0 : 0 ≤ i) (h : xs[i.toNat]? = some v) : atI xs i = some v := by
  have := atI_nat h
  rw [Int.toNat_of_nonneg h0] at this
  exact this
theorem at_z {α : Type} {xs : List α} {i : Nat} {v : α} (h : xs[i]? = some v) : atI xs (0 + (i : Int)) = some v := by
  rw [Int.zero_add]
  exact atI_nat h
theorem rec_kind {H : Hp} {v : V} {r : Rec} (h : RecAt K H v r) : (∃ a l b c cs, r = .copy l b cs ∧ v = .ref a ∧ SqT K H a [.str "copy", .int l, .int b, .ref c] ∧ SqT K H c (cs.map V.int)) ∨ (∃ a l x y cs rs, r = .mark l cs rs ∧ v = .ref a ∧ SqT K H a [.str "mark", .int l, x, y]) := by
  cases r with
  | copy l b cs =>
    obtain ⟨a, c, rfl, h1, h2⟩ := h
    exact .inl ⟨a, l, b, c, cs, rfl, rfl, h1, h2⟩
  | mark l cs rs =>
    obtain ⟨a, c, r, ps, rfl, h1, _⟩ := h
    exact .inr ⟨a, l, _, _, cs, rs, rfl, rfl, h1⟩
def sp_cells_after (T : Txt K mg) : Sp := fun vs H Q _ => ∃ (dk a : Addr) (A : DA) (home : List (List Int)) (log : List (Option Rec)) (hd la : Int) (kvs : List (Key × V)) (us : List V) (ms : List (Int × Mkr)) (x : Int) (g : Bool), vs = [.ref dk, .ref a, .int x, .bl g] ∧ DiskAt T H dk A home log hd la kvs ∧ SqL K H a us ∧ Paired (MkAt K H) us ms ∧ 0 ≤ x ∧ x < home.length ∧
  ∀ H' v, Fr [] H H' → CellsAt K H' v (cellsF home log x (liveF (ms.map (·.2)) x g)) → Q v H'
theorem ok_cells_after (T : Txt K mg) : FnOk P w K mg base CX0 2 T.a_cells_after T.fd_cells_after ["disk", "marks", "x", "lapse"] (sp_cells_after T) := by
  refine T.F_cells_after.ok sc_cells_after (fun vs H Q E h => ?_) (fun cdv A outer s H vs Q E hr h => ?_)
  · obtain ⟨dk, a, A, home, log, hd, la, kvs, us, ms, x, g, rfl, _⟩ := h
    rfl
  · obtain ⟨dk, a, D, home, log, hd, la, kvs, us, ms, x, g, rfl, dd, h0, hp, x0, x1, k⟩ := h
    refine ⟨_, (pss_cons (ps_set (i := 4) sc_cells_after.nd rfl (Or.inl rfl) (pe_callN (ok_live_copy T) (hr.mono (by decide)) rfl T.m_live_copy T.F_live_copy.kp T.b_live_copy pass0 (pa_cons (pv 1) (pa_cons (pv 2) pa_nil)) (pk_cons (pv 3) pk_nil)))
        (pss_cons (ps_if (pt_cmpR op_isN (pv 4) pe_non (nomark _)) (pss_one (ps_ret (pe_ix ix_list (pe_fld (pv 0) rfl) (pv 2) (fun _ _ => rfl)))) pss_nil)
        (pss_cons (ps_asg (pv 4) (pg_tup (by rfl) (pgs_cons (pg_name (i := 5) sc_cells_after.nd rfl (Or.inl rfl)) (pgs_cons (pg_name (i := 6) sc_cells_after.nd rfl (Or.inl rfl)) pgs_nil))))
        (pss_cons (ps_if (pt_not (pt_chain op_le op_lt pe_int (pv 6) (pe_callB call_len_seq (by rfl) T.n_len (by decide +kernel) (pa_cons (pe_fld (pv 0) rfl) pa_nil)))) (pss_one (ps_ret (pe_glob (v := .ref T.a_N) rfl T.g_NOUGHTS rfl))) pss_nil)
        (pss_cons (ps_set (i := 7) sc_cells_after.nd rfl (Or.inl rfl) (pe_ix ix_list (pe_fld (pv 0) rfl) (pv 6) (fun _ _ => rfl)))
        (pss_cons (ps_if (PW.pt (pw_or (pt_cmpR op_isN (pv 7) pe_non (nomark _)) (pw_or (pt_cmpR op_ne (pe_ix ix_tup (pv 7) pe_int (fun _ _ => rfl)) pe_str (nomark _)) (pw_or (pt_cmpR op_ne (pe_ix ix_tup (pv 7) pe_int (fun _ _ => rfl)) (pv 5) (nomark _)) (pw_or1 (pt_cmpR op_ne (pe_ix ix_tup (pv 7) pe_int (fun _ _ => rfl)) (pv 2) (nomark _))))))) (pss_one (ps_ret (pe_glob (v := .ref T.a_N) rfl T.g_NOUGHTS rfl))) pss_nil)
        (pss_one (ps_ret (pe_ix ix_tup (pv 7) pe_int (fun _ _ => rfl)))))))))), ?_⟩
    refine ⟨_, rfl, _, rfl, _, rfl, rfl, rfl, a, us, ms, x, g, rfl, h0, hp, fun H1 v f1 hl => ?_⟩
    have d1 := dd.fr0 f1
    obtain ⟨⟨dx, o1⟩, _, ⟨vs, l1, l2⟩, ⟨hs, e1, e2⟩, _, _⟩ := id d1
    have hll := l2.length
    have hhl := e2.length
    cases e : liveF (ms.map (·.2)) x g with
    | none =>
      rw [e] at hl k
      cases (show v = .non from hl)
      obtain ⟨cs, hcs⟩ : ∃ cs, home[x.toNat]? = some cs := ⟨home[x.toNat]'(by omega), List.getElem?_eq_getElem (by omega)⟩
      obtain ⟨u, hu, hc⟩ := paired_get' e2 hcs
      refine ⟨_, rfl, rfl, _, rfl, iteT ?_⟩
      refine ⟨_, rfl, dk, _, dx, _, _, rfl, o1, T.C_Disk, T.n_Disk_home, lk_Disk_home, _, rfl, D.ho, hs, x, u, rfl, rfl, sq e1, at_i x0 hu, ?_⟩
      refine k H1 u f1 ?_
      show CellsAt K H1 u (home.getD x.toNat [])
      rw [List.getD_eq_getElem?_getD, hcs]
      exact hc
    | some p =>
      rw [e] at hl k
      obtain ⟨t, rfl, ht⟩ := hl
      refine ⟨_, rfl, rfl, _, rfl, iteF ?_⟩
      refine ⟨_, rfl, t, _, rfl, ht, rfl, _, _, rfl, _, _, rfl, rfl, ?_⟩
      have kz : cellsF home log x (some p) = zero8 → Q (.ref T.a_N) H1 := fun e => by
        rw [e] at k
        exact k H1 _ f1 ⟨T.a_N, rfl, T.s_NOUGHTS H1⟩
      refine ⟨_, rfl, _, _, rfl, rfl, _, rfl, ?_⟩
      refine ite2 (fun c => ?_) (fun c => ?_)
      · have c0 : 0 ≤ p.2 := of_decide_eq_true c
        refine ⟨_, rfl, dk, _, dx, _, _, rfl, o1, T.C_Disk, T.n_Disk_log, lk_Disk_log, D.lg, _, rfl, .inl (sq l1), _, _, rfl, rfl, _, rfl, ?_⟩
        by_cases c1 : p.2 < log.length
        · refine iteF' (by rw [decide_eq_true (show p.2 < (vs.length : Int) by omega)]; rfl) ?_
          obtain ⟨o, ho⟩ : ∃ o, log[p.2.toNat]? = some o := ⟨log[p.2.toNat]'(by omega), List.getElem?_eq_getElem (by omega)⟩
          obtain ⟨u, hu, hor⟩ := paired_get' l2 ho
          have ecf : cellsF home log x (some p) = recCells p.1 x o := by
            rw [cellsF, if_pos ⟨c0, c1⟩, List.getD_eq_getElem?_getD, ho]
            rfl
          refine ⟨_, rfl, dk, _, dx, _, _, rfl, o1, T.C_Disk, T.n_Disk_log, lk_Disk_log, _, rfl, D.lg, vs, p.2, u, rfl, rfl, sq l1, at_i c0 hu, ?_⟩
          cases o with
          | none =>
            cases (show u = .non from hor)
            exact ⟨_, rfl, rfl, _, rfl, iteT (iteT (kz ecf))⟩
          | some r =>
            rcases rec_kind hor with ⟨ar, l, b, c, cs, rfl, rfl, r1, r2⟩ | ⟨ar, l, y, z, cs, rs, rfl, rfl, r1⟩
            · refine ⟨_, rfl, rfl, _, rfl, iteF ?_⟩
              refine ⟨_, rfl, ar, _, 0, _, rfl, rfl, r1, rfl, rfl, _, rfl, iteF' (by decide +kernel) ?_⟩
              refine ⟨_, rfl, ar, _, 1, _, rfl, rfl, r1, rfl, _, rfl, rfl, _, rfl, ?_⟩
              rw [dec_int]
              by_cases d1 : l = p.1
              · refine iteF' (by rw [decide_eq_true d1]; rfl) ?_
                refine ⟨_, rfl, ar, _, 2, _, rfl, rfl, r1, rfl, _, rfl, rfl, _, rfl, ?_⟩
                rw [dec_int]
                by_cases d2 : b = x
                · refine iteF' (by rw [decide_eq_true d2]; rfl) ?_
                  refine ⟨_, rfl, ar, _, 3, _, rfl, rfl, r1, rfl, ?_⟩
                  rw [ecf, recCells, if_pos ⟨d1, d2⟩] at k
                  exact k H1 _ f1 ⟨c, rfl, r2⟩
                · refine iteT' (by rw [decide_eq_false d2]; rfl) ?_
                  exact kz (by rw [ecf, recCells, if_neg fun q => d2 q.2])
              · refine iteT' (by rw [decide_eq_false d1]; rfl) (iteT ?_)
                exact kz (by rw [ecf, recCells, if_neg fun q => d1 q.1])
            · refine ⟨_, rfl, rfl, _, rfl, iteF ?_⟩
              refine ⟨_, rfl, ar, _, 0, _, rfl, rfl, r1, rfl, rfl, _, rfl, iteT' (by rw [dec_str, decide_eq_false cm_ne]; rfl) (iteT ?_)⟩
              exact kz ecf
        · refine iteT' (by rw [decide_eq_false (show ¬ p.2 < (vs.length : Int) by omega)]; rfl) ?_
          exact kz (by rw [cellsF, if_neg fun q => c1 q.2])
      · have c0 : ¬ 0 ≤ p.2 := fun q => c (decide_eq_true q)
        refine ⟨_, rfl, iteT ?_⟩
        exact kz (by rw [cellsF, if_neg fun q => c0 q.1])
/-! drawn cells and marks -/
def sp_law_cells (K : PySem.W.Frag) : Sp := fun vs H Q _ => ∃ (a : Addr) (fs : List Int) (n : Int), vs = [.ref a, .int n] ∧ H a = some (.lst (fs.map V.int)) ∧ Feed fs ∧ 0 ≤ n ∧ n ≤ 999999999 ∧
  ∀ H' t cs fs', Fr [a] H H' → H' a = some (.lst (fs'.map V.int)) → Feed fs' → SqT K H' t (cs.map V.int) → rowOk cs = true → Q (.ref t) H'
theorem ok_law_cells (T : Txt K mg) : FnOk P w K mg base CX0 2 T.a_law_cells T.fd_law_cells ["_law_feed_here", "_law_first"] (sp_law_cells K) := by
  refine T.F_law_cells.ok sc_law_cells (fun vs H Q E h => ?_) (fun cdv A outer s H vs Q E hr h => ?_)
  · obtain ⟨a, fs, n, rfl, _⟩ := h
    rfl
  · obtain ⟨a, fs, n, rfl, h0, hf, n0, n1, k⟩ := h
    refine ⟨_, (pss_one (ps_ret (pe_tup (pa_cons (pv 1) (pa_cons (pe_call (ok_law_pick T) (hr.mono (by decide)) rfl T.m_law_pick T.F_law_pick.kp T.b_law_pick .nil pass0 (pa_cons (pv 0) (pa_cons pe_int pa_nil))) (pa_cons pe_int (pa_cons pe_int (pa_cons pe_int (pa_cons pe_int (pa_cons (pe_call (ok_law_pick T) (hr.mono (by decide)) rfl T.m_law_pick T.F_law_pick.kp T.b_law_pick .nil pass0 (pa_cons (pv 0) (pa_cons pe_int pa_nil))) (pa_cons pe_int pa_nil))))))))))), ?_⟩
    refine ⟨_, rfl, _, rfl, a, fs, 1000, rfl, h0, hf, by decide, fun H1 u fs1 f1 g1 hf1 u0 u1 => ⟨_, rfl, a, fs1, 1000, rfl, g1, hf1, by decide, fun H2 v fs2 f2 g2 hf2 v0 v1 => ⟨(by show 8 ≤ sizeLine; decide), fun t nt => ?_⟩⟩⟩
    generalize hH3 : upd H2 t _ = H3
    obtain ⟨f3, g3⟩ := gen_new nt hH3
    refine k H3 t [n, u, 0, 0, 0, 0, v, 1] fs2 ((f1.upS f2).up0 f3) (f3.get0 g2) hf2 (sqt g3) ?_
    simp [rowOk, win]
    omega
/-- what is known of a drawn mark -/
def goodM (m : Mkr) : Prop := m.2.1.length ≤ 6 ∧ m.2.2.length ≤ 6 ∧ ∀ p ∈ m.2.1, 10 ≤ p.1 ∧ p.1 ≤ 15 ∧ -1 ≤ p.2 ∧ p.2 ≤ 29
def sp_law_mark (K : PySem.W.Frag) : Sp := fun vs H Q _ => ∃ (a : Addr) (fs : List Int) (lot : Int), vs = [.ref a, .int lot] ∧ H a = some (.lst (fs.map V.int)) ∧ Feed fs ∧
  ∀ H' v m fs', Fr [a] H H' → H' a = some (.lst (fs'.map V.int)) → Feed fs' → RecAt K H' v m.rec → goodM m → m.1 = lot → Q v H'
theorem ok_law_mark (T : Txt K mg) : FnOk P w K mg base CX0 2 T.a_law_mark T.fd_law_mark ["_law_feed_here", "_law_lot"] (sp_law_mark K) := by
  refine T.F_law_mark.ok sc_law_mark (fun vs H Q E h => ?_) (fun cdv A outer s H vs Q E hr h => ?_)
  · obtain ⟨a, fs, n, rfl, _⟩ := h
    rfl
  · obtain ⟨a, fs, lot, rfl, h0, hf, k⟩ := h
    refine ⟨_, (pss_cons (ps_set (i := 2) sc_law_mark.nd rfl (Or.inl rfl) (pe_lst pa_nil))
        (pss_cons (ps_set (i := 3) sc_law_mark.nd rfl (Or.inl rfl) (pe_lst pa_nil))
        (pss_cons (ps_for PassesOwn.never rfl (pi_range2 (by rfl) T.n_range (pa_cons pe_int (pa_cons pe_int pa_nil))) (pg_name (i := 4) sc_law_mark.nd rfl (Or.inl rfl))
        (C8.pss_cut (ps_if (pt_cmpR op_gt (pe_call (ok_law_pick T) (hr.mono (by decide)) rfl T.m_law_pick T.F_law_pick.kp T.b_law_pick .nil pass0 (pa_cons (pv 0) (pa_cons pe_int pa_nil))) pe_int (nomark _)) (pss_one (ps_expr (pe_bm PySem.F.plainAttrs_list PySem.F.slot_list_append PySem.F.type_list_append mt_append (pv 2) (pa_cons (pe_tup (pa_cons (pv 4) (pa_cons (pe_op op_sub (pe_call (ok_law_pick T) (hr.mono (by decide)) rfl T.m_law_pick T.F_law_pick.kp T.b_law_pick .nil pass0 (pa_cons (pv 0) (pa_cons pe_int pa_nil))) pe_int) pa_nil))) pa_nil)))) pss_nil)
        (pss_one (ps_if (pt_cmpR op_eq (pe_call (ok_law_pick T) (hr.mono (by decide)) rfl T.m_law_pick T.F_law_pick.kp T.b_law_pick .nil pass0 (pa_cons (pv 0) (pa_cons pe_int pa_nil))) pe_int (nomark _)) (pss_one (ps_expr (pe_bm PySem.F.plainAttrs_list PySem.F.slot_list_append PySem.F.type_list_append mt_append (pv 3) (pa_cons (pv 4) pa_nil)))) pss_nil))))
        (pss_one (ps_ret (pe_tup (pa_cons pe_str (pa_cons (pv 1) (pa_cons (pe_callTy call_tuple_of (by rfl) T.n_tuple (by decide +kernel) (pa_cons (pv 2) pa_nil)) (pa_cons (pe_callTy call_tuple_of (by rfl) T.n_tuple (by decide +kernel) (pa_cons (pv 3) pa_nil)) pa_nil)))))))))), ?_⟩
    refine ⟨by decide, fun c nc => ?_⟩
    generalize hH1 : upd H c _ = H1
    obtain ⟨f1, g1⟩ := gen_new nc hH1
    refine ⟨by decide, fun r nr => ?_⟩
    generalize hH2 : upd H1 r _ = H2
    obtain ⟨f2, g2⟩ := gen_new nr hH2
    have nac : a ≠ c := ne_of_none h0 nc
    have nar : a ≠ r := ne_of_none (f1.get0 h0) nr
    have ncr : c ≠ r := ne_of_none g1 nr
    have nr0 : H r = none := f1.free nr
    refine ⟨10, 16, rfl, ⟨by decide, by decide, by decide, by decide⟩, for_range (lo := 10) (n := 6) (fun i σ H3 => ∃ (fs : List Int) (ps : List V) (cs : List (Int × Int)) (rs : List Int) (x : Option V), σ = [some (.ref a), some (.int lot), some (.ref c), some (.ref r), x] ∧ Fr [a] H H3 ∧ H3 a = some (.lst (fs.map V.int)) ∧ Feed fs ∧ H3 c = some (.lst ps) ∧ Paired (PairAt K H3) ps cs ∧ H3 r = some (.lst (rs.map V.int)) ∧ i ≤ 6 ∧ cs.length ≤ i ∧ rs.length ≤ i ∧ ∀ p ∈ cs, 10 ≤ p.1 ∧ p.1 ≤ 15 ∧ -1 ≤ p.2 ∧ p.2 ≤ 29) ?_ ?_ ?_⟩
    · exact ⟨fs, [], [], [], _, rfl, ((Fr.refl [a] H).up0 f1).up0 f2, f2.get0 (f1.get0 h0), hf, f2.get0 g1, .nil, g2, by decide, by decide, by decide, by simp⟩
    · rintro i σ H3 hi ⟨fs, ps, cs, rs, x, rfl, f3, a3, hf3, c3, p3, r3, hi2, l1, l2, hb⟩
      have pl := p3.length
      refine ⟨fun σ H4 => ∃ (fs : List Int) (ps : List V) (cs : List (Int × Int)), σ = [some (.ref a), some (.int lot), some (.ref c), some (.ref r), some (.int (10 + (i : Int)))] ∧ Fr [a] H H4 ∧ H4 a = some (.lst (fs.map V.int)) ∧ Feed fs ∧ H4 c = some (.lst ps) ∧ Paired (PairAt K H4) ps cs ∧ H4 r = some (.lst (rs.map V.int)) ∧ cs.length ≤ i + 1 ∧ ∀ p ∈ cs, 10 ≤ p.1 ∧ p.1 ≤ 15 ∧ -1 ≤ p.2 ∧ p.2 ≤ 29, ?_, ?_⟩
      · refine ⟨_, rfl, a, fs, 3, rfl, a3, hf3, by decide, fun H4 u fs4 f4 a4 hf4 u0 u1 => ⟨_, _, rfl, rfl, _, rfl, ?_⟩⟩
        have ts4 : TS K H3 H4 := f4.ts1 a3 rfl
        have c4 := f4.get1 c3 nac.symm
        have r4 := f4.get1 r3 nar.symm
        have p4 := Paired.mapP p3 fun _ _ ⟨q, e, h⟩ => (⟨q, e, ts4 _ _ h⟩ : PairAt K H4 _ _)
        refine ite2 (fun _ => ?_) (fun _ => ?_)
        · refine ⟨_, rfl, .inl ⟨rfl, _, sq c4⟩, _, rfl, _, rfl, a, fs4, 31, rfl, a4, hf4, by decide, fun H5 u fs5 f5 a5 hf5 u0 u1 => ⟨_, _, rfl, rfl, (by show 2 ≤ sizeLine; decide), fun t nt => ?_⟩⟩
          have ts5 : TS K H4 H5 := f5.ts1 a4 rfl
          generalize hH6 : upd H5 t _ = H6
          obtain ⟨f6, g6⟩ := gen_new nt hH6
          have c6 := f6.get0 (f5.get1 c4 nac.symm)
          refine ⟨c, _, _, rfl, rfl, c6, sz (by omega), ?_⟩
          generalize hH7 : upd H6 c _ = H7
          obtain ⟨f7, g7⟩ := gen_upd hH7
          have ts7 : TS K H6 H7 := f7.ts1 c6 rfl
          refine ⟨fs5, _, cs ++ [(10 + (i : Int), u - 1)], rfl, (((f3.upS f4).upS f5).up0 f6).up1 f7 (.inr nc), f7.get1 (f6.get0 a5) nac, hf5, g7, Paired.snoc (Paired.mapP p4 fun _ _ ⟨q, e, h⟩ => ⟨q, e, ts7 _ _ (f6.tup0 (ts5 _ _ h))⟩) ⟨t, rfl, ts7 _ _ (sqt g6)⟩, f7.get1 (f6.get0 (f5.get1 r4 nar.symm)) ncr.symm, by simp; omega, ?_⟩
          intro p hp
          rcases List.mem_append.mp hp with q | q
          · exact hb p q
          · rw [List.mem_singleton.mp q]
            simp only
            omega
        · exact ⟨fs4, ps, cs, rfl, f3.upS f4, a4, hf4, c4, p4, r4, by omega, hb⟩
      · rintro σ H4 ⟨fs, ps, cs, rfl, f4, a4, hf4, c4, p4, r4, l4, hb4⟩
        refine ⟨_, rfl, a, fs, 4, rfl, a4, hf4, by decide, fun H5 u fs5 f5 a5 hf5 u0 u1 => ⟨rfl, _, rfl, ?_⟩⟩
        have ts5 : TS K H4 H5 := f5.ts1 a4 rfl
        have c5 := f5.get1 c4 nac.symm
        have r5 := f5.get1 r4 nar.symm
        have p5 := Paired.mapP p4 fun _ _ ⟨q, e, h⟩ => (⟨q, e, ts5 _ _ h⟩ : PairAt K H5 _ _)
        refine ite2 (fun _ => ?_) (fun _ => ?_)
        · refine ⟨_, rfl, .inl ⟨rfl, _, sq r5⟩, _, rfl, r, _, _, rfl, rfl, r5, sz (by simp; omega), ?_⟩
          generalize hH6 : upd H5 r _ = H6
          obtain ⟨f6, g6⟩ := gen_upd hH6
          have ts6 : TS K H5 H6 := f6.ts1 r5 rfl
          refine ⟨fs5, ps, cs, rs ++ [10 + (i : Int)], _, rfl, (f4.upS f5).up1 f6 (.inr nr0), f6.get1 a5 nar, hf5, f6.get1 c5 ncr, Paired.mapP p5 fun _ _ ⟨q, e, h⟩ => ⟨q, e, ts6 _ _ h⟩, ?_, by omega, by omega, by simp; omega, hb4⟩
          rw [g6, map_app1]
        · exact ⟨fs5, ps, cs, rs, _, rfl, f4.upS f5, a5, hf5, c5, p5, r5, by omega, by omega, by omega, hb4⟩
    · rintro σ H3 ⟨fs, ps, cs, rs, x, rfl, f3, a3, hf3, c3, p3, r3, hi2, l1, l2, hb⟩
      refine ⟨_, rfl, _, rfl, c, _, rfl, .inl ⟨sq c3, fun t1 n1 => ?_⟩⟩
      generalize hH4 : upd H3 t1 _ = H4
      obtain ⟨f4, g4⟩ := gen_new n1 hH4
      refine ⟨_, rfl, r, _, rfl, .inl ⟨sq (f4.get0 r3), fun t2 n2 => ?_⟩⟩
      generalize hH5 : upd H4 t2 _ = H5
      obtain ⟨f5, g5⟩ := gen_new n2 hH5
      refine ⟨(by show 4 ≤ sizeLine; decide), fun t nt => ?_⟩
      generalize hH6 : upd H5 t _ = H6
      obtain ⟨f6, g6⟩ := gen_new nt hH6
      have ts : TS K H3 H6 := (f4.ts0.trans f5.ts0).trans f6.ts0
      refine k H6 _ (lot, cs, rs) fs (((f3.up0 f4).up0 f5).up0 f6) (f6.get0 (f5.get0 (f4.get0 a3))) hf3 ⟨t, t1, t2, ps, rfl, sqt g6, sqt (f6.get0 (f5.get0 g4)), Paired.mapP p3 fun _ _ ⟨q, e, h⟩ => ⟨q, e, ts _ _ h⟩, sqt (f6.get0 g5)⟩ ⟨l1, l2, hb⟩ rfl
end
section
variable {P : Program} {w : World} {K : PySem.W.Frag} {mg : Str → Option Value} {base : Heap}
def sp_law_put (T : Txt K mg) : Sp := fun vs H Q _ => ∃ (dk l2 : Addr) (v : V) (A : DA) (home : List (List Int)) (log : List (Option Rec)) (hd la i : Int) (r : Rec) (ws : List V), vs = [.ref dk, .ref l2, .int i, v] ∧ DiskAt T H dk A home log hd la [] ∧ H l2 = some (.lst ws) ∧ Paired (OptRec K H) ws log ∧ A.lg ≠ l2 ∧ A.ho ≠ l2 ∧ 0 ≤ i ∧ i < 30 ∧ log.length = 30 ∧ RecAt K H v r ∧ okR r ∧
  ∀ H' la' ws', Fr [dk, A.wr, A.lg, l2] H H' → TS K H H' → DiskAt T H' dk A home (log.set i.toNat (some r)) hd la' [] → H' l2 = some (.lst ws') → Paired (OptRec K H') ws' (log.set i.toNat (some r)) → Q .non H'
theorem ok_law_put (T : Txt K mg) : FnOk P w K mg base CX0 7 T.a_law_put T.fd_law_put ["_law_disk", "_law_log", "_law_slot", "_law_record"] (sp_law_put T) := by
  refine T.F_law_put.ok sc_law_put (fun vs H Q E h => ?_) (fun cdv A outer s H vs Q E hr h => ?_)
  · obtain ⟨dk, l2, v, A, home, log, hd, la, i, r, ws, rfl, _⟩ := h
    rfl
  · obtain ⟨dk, l2, v, D, home, log, hd, la, i, r, ws, rfl, dd, g0, pr0, n1, n2, i0, i1, hlen, hrec, hok, k⟩ := h
    refine ⟨_, (pss_cons (ps_expr (pe_meth (pv 0) T.C_Disk T.m_Disk_sure (ok_Disk_sure T) (hr.mono (by decide)) T.b_Disk_sure .nil pass0 (pa_cons (pe_meth (pv 0) T.C_Disk T.m_Disk_issue (ok_Disk_issue T) (hr.mono (by decide)) T.b_Disk_issue .nil pass0 (pa_cons (pe_tup (pa_cons pe_str (pa_cons (pv 2) pa_nil))) (pa_cons (pv 3) pa_nil))) pa_nil)))
        (pss_one (ps_asg (pv 3) (pg_sub (pv 1) (pv 2) set_list)))), ?_⟩
    obtain ⟨⟨dx, o⟩, _, _, _, _, hw⟩ := id dd
    refine ⟨_, rfl, dk, dx, _, rfl, o, no_Disk_sure, _, rfl, dk, dx, _, rfl, o, no_Disk_issue, _, rfl, (by show 2 ≤ sizeLine; decide), fun t nt => ?_⟩
    generalize hH1 : upd H t _ = H1
    obtain ⟨f1, g1⟩ := gen_new nt hH1
    have d1 := dd.fr0 f1
    refine ⟨_, rfl, dk, t, v, D, home, log, hd, la, i, r, rfl, d1, sqt g1, i0, i1, hrec.ts f1.ts0, hok, fun H2 t2 f2 st2 d2 ts2 => ?_⟩
    refine ⟨dk, t, t2, v, D, home, log, hd, la + 1, i, la + 1, r, rfl, d2, st2, ts2 _ _ (sqt g1), i0, by omega, (hrec.ts f1.ts0).ts ts2, fun H3 f3 d3 ts3 => ?_⟩
    have l1 := f1.get0 g0
    obtain ⟨⟨dx1, o1⟩, _, _, _, _, w1⟩ := id d1
    have l2' := f2.get l1 (by simp; exact ⟨ne_of l1 o1 (by intro z; cases z), ne_of l1 w1 (by intro z; cases z)⟩)
    obtain ⟨_, _, _, _, _, w2⟩ := id d2
    have l3 := f3.get l2' (by simp; exact ⟨ne_of l2' w2 (by intro z; cases z), n1.symm⟩)
    have ts03 : TS K H H3 := (f1.ts0.trans ts2).trans ts3
    have pr3 := Paired.mapP pr0 fun _ _ q => OptRec.ts ts03 q
    have wl := pr3.length
    refine ⟨_, rfl, _, rfl, _, rfl, l2, ws, i, i.toNat, rfl, rfl, l3, by unfold ixN; rw [if_pos i0, if_pos (by omega)], ?_⟩
    generalize hH4 : upd H3 l2 _ = H4
    obtain ⟨f4, g4⟩ := gen_upd hH4
    have ts4 : TS K H3 H4 := f4.ts1 l3 rfl
    refine k H4 (la + 1) _ ?_ (ts03.trans ts4) (d3.frL f4 l3 n1 n2) g4 (paired_set (Paired.mapP pr3 fun _ _ q => OptRec.ts ts4 q) (RecAt.ts ts4 (hrec.ts ts03)))
    exact (((f1.sub (by simp)).trans (f2.sub (by simp))).trans (f3.sub (by simp))).trans (f4.sub (by simp))
def cpl (log : List (Option Rec)) : Prop := ∀ l b cs, some (Rec.copy l b cs) ∈ log → cs.length ≤ 1000
theorem cpl_set {log : List (Option Rec)} {i : Nat} {r : Rec} (h : cpl log) (hr : ∀ l b cs, r = .copy l b cs → cs.length ≤ 1000) : cpl (log.set i (some r)) := fun l b cs hm => by
  rcases List.mem_or_eq_of_mem_set hm with q | q
  · exact h l b cs q
  · exact hr l b cs (Option.some.inj q).symm
def sp_law_fill (T : Txt K mg) : Sp := fun vs H Q _ => ∃ (p dk l2 : Addr) (v : V) (A : DA) (fs : List Int) (home : List (List Int)) (log : List (Option Rec)) (hd la : Int) (m : Mkr) (ws : List V), vs = [.ref p, .ref dk, .ref l2, v] ∧ H p = some (.lst (fs.map V.int)) ∧ Feed fs ∧ DiskAt T H dk A home log hd la [] ∧ H l2 = some (.lst ws) ∧ Paired (OptRec K H) ws log ∧ A.lg ≠ l2 ∧ A.ho ≠ l2 ∧ A.lg ≠ p ∧ A.ho ≠ p ∧ p ≠ l2 ∧ log.length = 30 ∧ cpl log ∧ RecAt K H v m.rec ∧ goodM m ∧ 1 ≤ m.1 ∧ m.1 ≤ 10 ∧
  ∀ H' la' ws' fs' log', Fr [p, dk, A.wr, A.lg, l2] H H' → TS K H H' → H' p = some (.lst (fs'.map V.int)) → Feed fs' → DiskAt T H' dk A home log' hd la' [] → H' l2 = some (.lst ws') → Paired (OptRec K H') ws' log' → log'.length = 30 → cpl log' → Q .non H'
theorem ok_law_fill (T : Txt K mg) : FnOk P w K mg base CX0 8 T.a_law_fill T.fd_law_fill ["_law_feed_here", "_law_disk", "_law_log", "_law_record"] (sp_law_fill T) := by
  refine T.F_law_fill.ok sc_law_fill (fun vs H Q E h => ?_) (fun cdv A outer s H vs Q E hr h => ?_)
  · obtain ⟨p, dk, l2, v, A, fs, home, log, hd, la, m, ws, rfl, _⟩ := h
    rfl
  · obtain ⟨p, dk, l2, v, D, fs, home, log, hd, la, m, ws, rfl, hp0, hf0, dd, g0, pr0, n1, n2, n3, n4, n5, hlen, hcp, hrec, hgood, m1, m2, k⟩ := h
    obtain ⟨ar, ac, av, ps, rfl, r1, r2, r3, r4⟩ := id hrec
    have psl := r3.length
    refine ⟨_, (pss_cons (ps_set (i := 4) sc_law_fill.nd rfl (Or.inl rfl) (pe_ix ix_tup (pv 3) pe_int (fun _ _ => rfl)))
        (pss_one (ps_for PassesOwn.never rfl (pi_tup (pe_ix ix_tup (pv 3) pe_int (fun _ _ => rfl))) (pg_name (i := 5) sc_law_fill.nd rfl (Or.inl rfl))
        (pss_cons (ps_set (i := 6) sc_law_fill.nd rfl (Or.inl rfl) (pe_ix ix_tup (pv 5) pe_int (fun _ _ => rfl)))
        (pss_cons (ps_set (i := 7) sc_law_fill.nd rfl (Or.inl rfl) (pe_ix ix_tup (pv 5) pe_int (fun _ _ => rfl)))
        (pss_cons (ps_set (i := 8) sc_law_fill.nd rfl (Or.inl rfl) (pe_call (ok_law_pick T) (hr.mono (by decide)) rfl T.m_law_pick T.F_law_pick.kp T.b_law_pick .nil pass0 (pa_cons (pv 0) (pa_cons pe_int pa_nil))))
        (pss_cons (ps_set (i := 9) sc_law_fill.nd rfl (Or.inl rfl) (pe_call (ok_law_cells T) (hr.mono (by decide)) rfl T.m_law_cells T.F_law_cells.kp T.b_law_cells .nil pass0 (pa_cons (pv 0) (pa_cons (pe_op op_add (pe_op op_mul pe_int (pv 4)) (pv 6)) pa_nil))))
        (pss_one (ps_if (PW.pt (pw_and (pt_cmpR op_ge (pv 7) pe_int (nomark _)) (pw_and1 (pt_cmpR op_lt (pv 8) pe_int (nomark _))))) (pss_one (ps_expr (pe_call (ok_law_put T) (hr.mono (by decide)) rfl T.m_law_put T.F_law_put.kp T.b_law_put .nil pass0 (pa_cons (pv 1) (pa_cons (pv 2) (pa_cons (pv 7) (pa_cons (pe_tup (pa_cons pe_str (pa_cons (pv 4) (pa_cons (pv 6) (pa_cons (pv 9) pa_nil))))) pa_nil))))))) (pss_one (ps_if (PW.pt (pw_and (pt_cmpR op_ge (pv 7) pe_int (nomark _)) (pw_and1 (pt_cmpR op_eq (pv 8) pe_int (nomark _))))) (pss_one (ps_expr (pe_call (ok_law_put T) (hr.mono (by decide)) rfl T.m_law_put T.F_law_put.kp T.b_law_put .nil pass0 (pa_cons (pv 1) (pa_cons (pv 2) (pa_cons (pv 7) (pa_cons (pe_tup (pa_cons pe_str (pa_cons (pe_op op_add (pv 4) pe_int) (pa_cons (pv 6) (pa_cons (pv 9) pa_nil))))) pa_nil))))))) (pss_one (ps_if (PW.pt (pw_and (pt_cmpR op_ge (pv 7) pe_int (nomark _)) (pw_and1 (pt_cmpR op_eq (pv 8) pe_int (nomark _))))) (pss_one (ps_expr (pe_call (ok_law_put T) (hr.mono (by decide)) rfl T.m_law_put T.F_law_put.kp T.b_law_put .nil pass0 (pa_cons (pv 1) (pa_cons (pv 2) (pa_cons (pv 7) (pa_cons (pe_tup (pa_cons pe_str (pa_cons (pv 4) (pa_cons (pe_op op_add (pv 6) pe_int) (pa_cons (pv 9) pa_nil))))) pa_nil))))))) (pss_one (ps_if (PW.pt (pw_and (pt_cmpR op_ge (pv 7) pe_int (nomark _)) (pw_and1 (pt_cmpR op_eq (pv 8) pe_int (nomark _))))) (pss_one (ps_expr (pe_call (ok_law_put T) (hr.mono (by decide)) rfl T.m_law_put T.F_law_put.kp T.b_law_put .nil pass0 (pa_cons (pv 1) (pa_cons (pv 2) (pa_cons (pv 7) (pa_cons (pe_tup (pa_cons pe_str (pa_cons (pv 4) (pa_cons (pe_tup (pa_cons (pe_tup (pa_cons (pv 6) (pa_cons (pv 7) pa_nil))) pa_nil)) (pa_cons (pe_tup pa_nil) pa_nil))))) pa_nil))))))) pss_nil))))))))))))))), ?_⟩
    refine ⟨_, rfl, ar, _, 1, _, rfl, rfl, r1, rfl, ?_⟩
    refine ⟨_, rfl, ar, _, 2, _, rfl, rfl, r1, rfl, ac, rfl, ⟨_, r2⟩, for_tup (K := K) (a := ac) (xs := ps) (fun i σ H2 => ∃ (fs : List Int) (log : List (Option Rec)) (la : Int) (ws : List V) (x5 x6 x7 x8 x9 : Option V), σ = [some (.ref p), some (.ref dk), some (.ref l2), some (.ref ar), some (.int m.1), x5, x6, x7, x8, x9] ∧ Fr [p, dk, D.wr, D.lg, l2] H H2 ∧ TS K H H2 ∧ H2 p = some (.lst (fs.map V.int)) ∧ Feed fs ∧ DiskAt T H2 dk D home log hd la [] ∧ H2 l2 = some (.lst ws) ∧ Paired (OptRec K H2) ws log ∧ log.length = 30 ∧ cpl log) ?_ ?_ ?_ ?_⟩
    · exact ⟨fs, log, la, ws, _, _, _, _, _, rfl, Fr.refl _ _, TS.refl _ _, hp0, hf0, dd, g0, pr0, hlen, hcp⟩
    · rintro i σ H2 _ ⟨_, _, _, _, _, _, _, _, _, _, _, ts, _⟩
      exact ts _ _ r2
    · rintro i y σ H2 hi ⟨fs, log, la, ws, x5, x6, x7, x8, x9, rfl, f2, ts2, hp2, hf2, d2, g2, pr2, hlen, hcp⟩
      obtain ⟨q, hq, t, rfl, ht⟩ := paired_get r3 hi
      have ht2 := ts2 _ _ ht
      have hb := hgood.2.2 q (List.mem_of_getElem? hq)
      refine ⟨_, rfl, t, _, 0, _, rfl, rfl, ht2, rfl, ?_⟩
      refine ⟨_, rfl, t, _, 1, _, rfl, rfl, ht2, rfl, ?_⟩
      refine ⟨_, rfl, p, fs, 8, rfl, hp2, hf2, by decide, fun H3 c fs3 f3 hp3 hf3 c0 c1 => ?_⟩
      refine ⟨_, rfl, _, rfl, _, _, rfl, rfl, .inl ⟨by decide, by decide⟩, _, rfl, _, _, rfl, rfl, p, fs3, 100 * m.1 + q.1, rfl, hp3, hf3, by omega, by omega, fun H4 tc cs fs4 f4 hp4 hf4 hcs hrow => ?_⟩
      have ts24 : TS K H2 H4 := (f3.ts1 hp2 rfl).trans (f4.ts1 hp3 rfl)
      have d4 := (d2.frL f3 hp2 n3 n4).frL f4 hp3 n3 n4
      have g4 := f4.get1 (f3.get1 g2 n5.symm) n5.symm
      have pr4 := Paired.mapP pr2 fun _ _ q => OptRec.ts ts24 q
      have f04 : Fr [p, dk, D.wr, D.lg, l2] H H4 := (f2.trans (f3.sub (by simp))).trans (f4.sub (by simp))
      have ts04 := ts2.trans ts24
      -- a write to the slot, then the next turn
      have put : ∀ (H5 : Hp) (v : V) (r : Rec), 0 ≤ q.2 → Fr [] H4 H5 → RecAt K H5 v r → okR r → (∀ l b cs, r = .copy l b cs → cs.length ≤ 1000) → sp_law_put T [.ref dk, .ref l2, .int q.2, v] H5 (fun _ H' => ∃ (fs : List Int) (log : List (Option Rec)) (la : Int) (ws : List V) (x5 x6 x7 x8 x9 : Option V), [some (.ref p), some (.ref dk), some (.ref l2), some (.ref ar), some (.int m.1), some (.ref t), some (.int q.1), some (.int q.2), some (.int c), some (.ref tc)] = [some (.ref p), some (.ref dk), some (.ref l2), some (.ref ar), some (.int m.1), x5, x6, x7, x8, x9] ∧ Fr [p, dk, D.wr, D.lg, l2] H H' ∧ TS K H H' ∧ H' p = some (.lst (fs.map V.int)) ∧ Feed fs ∧ DiskAt T H' dk D home log hd la [] ∧ H' l2 = some (.lst ws) ∧ Paired (OptRec K H') ws log ∧ log.length = 30 ∧ cpl log) E0 := by
        intro H5 v r hq0 f5 hv hok hrl
        have d5 := d4.fr0 f5
        obtain ⟨⟨dx5, o5⟩, _, ⟨lv, hlv, _⟩, _, _, w5⟩ := id d5
        have hp5 := f5.get0 hp4
        refine ⟨dk, l2, v, D, home, log, hd, la, q.2, r, ws, rfl, d5, f5.get0 g4, Paired.mapP pr4 fun _ _ q => OptRec.ts f5.ts0 q, n1, n2, hq0, by omega, hlen, hv, hok, fun H6 la6 ws6 f6 ts6 d6 g6 pr6 => ?_⟩
        have hp6 := f6.get hp5 (by simp; exact ⟨ne_of hp5 o5 (by intro z; cases z), ne_of hp5 w5 (by intro z; cases z), n3.symm, n5⟩)
        exact ⟨fs4, _, la6, ws6, _, _, _, _, _, rfl, (f04.up0 f5).trans (f6.sub (by simp)), (ts04.trans f5.ts0).trans ts6, hp6, hf4, d6, g6, pr6, by simp [hlen], cpl_set hcp hrl⟩
      have none_ : ∃ (fs : List Int) (log : List (Option Rec)) (la : Int) (ws : List V) (x5 x6 x7 x8 x9 : Option V), [some (V.ref p), some (.ref dk), some (.ref l2), some (.ref ar), some (.int m.1), some (.ref t), some (.int q.1), some (.int q.2), some (.int c), some (.ref tc)] = [some (.ref p), some (.ref dk), some (.ref l2), some (.ref ar), some (.int m.1), x5, x6, x7, x8, x9] ∧ Fr [p, dk, D.wr, D.lg, l2] H H4 ∧ TS K H H4 ∧ H4 p = some (.lst (fs.map V.int)) ∧ Feed fs ∧ DiskAt T H4 dk D home log hd la [] ∧ H4 l2 = some (.lst ws) ∧ Paired (OptRec K H4) ws log ∧ log.length = 30 ∧ cpl log := ⟨fs4, log, la, ws, _, _, _, _, _, rfl, f04, ts04, hp4, hf4, d4, g4, pr4, hlen, hcp⟩
      by_cases hq0 : 0 ≤ q.2
      · have e0 : decide ((0 : Int) ≤ q.2) = true := decide_eq_true hq0
        refine ⟨_, rfl, _, _, rfl, rfl, _, rfl, iteT' e0 ⟨_, rfl, _, _, rfl, rfl, _, rfl, ?_⟩⟩
        refine ite2 (fun b1 => ?_) (fun b1 => ?_)
        · refine ⟨_, rfl, _, rfl, _, rfl, _, rfl, _, rfl, _, rfl, (by show 4 ≤ sizeLine; decide), fun a1 na1 => ?_⟩
          generalize hH5 : upd H4 a1 _ = H5
          obtain ⟨f5, g5⟩ := gen_new na1 hH5
          refine put H5 _ (.copy m.1 q.1 cs) hq0 f5 ⟨a1, tc, rfl, sqt g5, f5.tup0 hcs⟩ ⟨?_, ?_, fun _ _ _ e => by cases e⟩ (fun _ _ _ e => by cases e; rw [row8 hrow]; decide)
          · simp [recOk, win, hrow]
            omega
          · simp [fits]
            omega
        refine ⟨_, rfl, _, _, rfl, rfl, _, rfl, iteT' e0 ⟨_, rfl, rfl, _, rfl, ?_⟩⟩
        refine ite2 (fun b2 => ?_) (fun b2 => ?_)
        · refine ⟨_, rfl, _, rfl, _, rfl, _, rfl, _, _, rfl, rfl, _, rfl, _, rfl, (by show 4 ≤ sizeLine; decide), fun a1 na1 => ?_⟩
          generalize hH5 : upd H4 a1 _ = H5
          obtain ⟨f5, g5⟩ := gen_new na1 hH5
          refine put H5 _ (.copy (m.1 + 1) q.1 cs) hq0 f5 ⟨a1, tc, rfl, sqt g5, f5.tup0 hcs⟩ ⟨?_, ?_, fun _ _ _ e => by cases e⟩ (fun _ _ _ e => by cases e; rw [row8 hrow]; decide)
          · simp [recOk, win, hrow]
            omega
          · simp [fits]
            omega
        refine ⟨_, rfl, _, _, rfl, rfl, _, rfl, iteT' e0 ⟨_, rfl, rfl, _, rfl, ?_⟩⟩
        refine ite2 (fun b3 => ?_) (fun b3 => ?_)
        · refine ⟨_, rfl, _, rfl, _, rfl, _, rfl, _, rfl, _, _, rfl, rfl, _, rfl, (by show 4 ≤ sizeLine; decide), fun a1 na1 => ?_⟩
          generalize hH5 : upd H4 a1 _ = H5
          obtain ⟨f5, g5⟩ := gen_new na1 hH5
          refine put H5 _ (.copy m.1 (q.1 + 1) cs) hq0 f5 ⟨a1, tc, rfl, sqt g5, f5.tup0 hcs⟩ ⟨?_, ?_, fun _ _ _ e => by cases e⟩ (fun _ _ _ e => by cases e; rw [row8 hrow]; decide)
          · simp [recOk, win, hrow]
            omega
          · simp [fits]
            omega
        refine ⟨_, rfl, _, _, rfl, rfl, _, rfl, iteT' e0 ⟨_, rfl, rfl, _, rfl, ?_⟩⟩
        refine ite2 (fun b4 => ?_) (fun b4 => ?_)
        · refine ⟨_, rfl, _, rfl, _, rfl, _, rfl, _, rfl, _, rfl, (by show 2 ≤ sizeLine; decide), fun a1 na1 => ?_⟩
          generalize hH5 : upd H4 a1 _ = H5
          obtain ⟨f5, g5⟩ := gen_new na1 hH5
          refine ⟨(by show 1 ≤ sizeLine; decide), fun a2 na2 => ?_⟩
          generalize hH6 : upd H5 a2 _ = H6
          obtain ⟨f6, g6⟩ := gen_new na2 hH6
          refine ⟨(by show 0 ≤ sizeLine; decide), fun a3 na3 => ?_⟩
          generalize hH7 : upd H6 a3 _ = H7
          obtain ⟨f7, g7⟩ := gen_new na3 hH7
          refine ⟨(by show 4 ≤ sizeLine; decide), fun a4 na4 => ?_⟩
          generalize hH8 : upd H7 a4 _ = H8
          obtain ⟨f8, g8⟩ := gen_new na4 hH8
          refine put H8 _ (.mark m.1 [(q.1, q.2)] []) hq0 (((f5.up0 f6).up0 f7).up0 f8) ⟨a4, a2, a3, _, rfl, sqt g8, sqt (f8.get0 (f7.get0 g6)), .cons ⟨a1, rfl, sqt (f8.get0 (f7.get0 (f6.get0 g5)))⟩ .nil, sqt (f8.get0 g7)⟩ ⟨?_, ?_, fun _ _ _ e => by cases e; simp⟩ (fun _ _ _ e => by cases e)
          · simp [recOk, cpsOk, asc, win]
            omega
          · simp [fits]
            omega
        · exact none_
      · have e0 : decide ((0 : Int) ≤ q.2) = false := decide_eq_false hq0
        refine ⟨_, rfl, _, _, rfl, rfl, _, rfl, iteF' e0 (iteF ?_)⟩
        refine ⟨_, rfl, _, _, rfl, rfl, _, rfl, iteF' e0 (iteF ?_)⟩
        refine ⟨_, rfl, _, _, rfl, rfl, _, rfl, iteF' e0 (iteF ?_)⟩
        refine ⟨_, rfl, _, _, rfl, rfl, _, rfl, iteF' e0 (iteF ?_)⟩
        exact none_
    · rintro σ H2 ⟨fs, log, la, ws, x5, x6, x7, x8, x9, rfl, f2, ts2, hp2, hf2, d2, g2, pr2, hlen, hcp⟩
      exact k H2 la ws fs log f2 ts2 hp2 hf2 d2 g2 pr2 hlen hcp
end
/-! struck copies: plain mathematics -/
def stkFrom (at_ : Nat) (x : Int) (g : Bool) : Nat → List Mkr → Bool
  | _, [] => false
  | k, m :: r => (decide (x ∈ m.2.2) && (decide (at_ < k) || (decide (k = at_) && !g))) || stkFrom at_ x g (k + 1) r
def stk (ms : List Mkr) (at_ : Nat) (x : Int) (g : Bool) : Bool := stkFrom at_ x g 0 ms
def dcs (s : Bool) (x lot : Int) (l : Option (Int × Int)) (p : Int × Int) : Option (Int × Int) := if p.1 = x then (if s then l else some (lot, p.2)) else l
def dueFrom (ms : List Mkr) (x : Int) (g : Bool) : Nat → List Mkr → Option (Int × Int) → Option (Int × Int)
  | _, [], l => l
  | k, m :: r, l => dueFrom ms x g (k + 1) r (m.2.1.foldl (dcs (stk ms k x g) x m.1) l)
def dueF (ms : List Mkr) (x : Int) (g : Bool) : Option (Int × Int) := dueFrom ms x g 0 ms none
def anyR (x : Int) (r : List Mkr) : Bool := r.any fun m => decide (x ∈ m.2.2)
theorem stk_later {a : Nat} {x : Int} {g : Bool} : ∀ (r : List Mkr) (k : Nat), a < k → stkFrom a x g k r = anyR x r
  | [], _, _ => rfl
  | m :: r, k, h => by
    rw [stkFrom, stk_later r (k + 1) (by omega), decide_eq_true h, Bool.true_or, Bool.and_true]
    rfl
theorem stk_pre {a : Nat} {x : Int} {g : Bool} {q : List Mkr} : ∀ (p : List Mkr) (k : Nat), k + p.length ≤ a → stkFrom a x g k (p ++ q) = stkFrom a x g (k + p.length) q
  | [], _, _ => rfl
  | m :: p, k, h => by
    simp at h
    rw [List.cons_append, stkFrom, decide_eq_false (show ¬ a < k by omega), decide_eq_false (show ¬ k = a by omega), Bool.false_and, Bool.false_or, Bool.and_false, Bool.false_or, stk_pre p (k + 1) (by omega)]
    congr 1
    simp
    omega
theorem stk_at {x : Int} {g : Bool} {p r : List Mkr} {m : Mkr} : stk (p ++ m :: r) p.length x g = ((decide (x ∈ m.2.2) && !g) || anyR x r) := by
  rw [stk, stk_pre p 0 (by omega), stkFrom, stk_later r _ (by omega), decide_eq_false (show ¬ p.length < 0 + p.length by omega), decide_eq_true (show 0 + p.length = p.length by omega)]
  rfl
theorem dcs_true {x lot : Int} : ∀ (cs : List (Int × Int)) (l : Option (Int × Int)), cs.foldl (dcs true x lot) l = l
  | [], l => rfl
  | p :: cs, l => by
    rw [List.foldl_cons, show dcs true x lot l p = l by unfold dcs; split <;> rfl, dcs_true cs l]
theorem dcs_false {x lot : Int} : dcs false x lot = cstep x lot := by
  funext l p
  unfold dcs cstep
  rfl
theorem due_live {x : Int} {g : Bool} : ∀ (r p : List Mkr) (l' l : Option (Int × Int)), (anyR x r = false → l' = l) → (anyR x r = true → l' = none) → dueFrom (p ++ r) x g p.length r l' = r.foldl (lstep x g) l
  | [], p, l', l, h, _ => h rfl
  | m :: r, p, l', l, h1, h2 => by
    rw [dueFrom, List.foldl_cons, stk_at]
    have ih := due_live (x := x) (g := g) r (p ++ [m])
    rw [show (p ++ [m]) ++ r = p ++ m :: r by simp, show (p ++ [m]).length = p.length + 1 by simp] at ih
    refine ih _ _ (fun hr => ?_) (fun hr => ?_)
    · rw [hr, Bool.or_false]
      have eA : anyR x (m :: r) = decide (x ∈ m.2.2) := by
        show (decide (x ∈ m.2.2) || anyR x r) = _
        rw [hr, Bool.or_false]
      unfold lstep
      by_cases c : x ∈ m.2.2
      · have hl' := h2 (by rw [eA, decide_eq_true c])
        subst hl'
        rw [decide_eq_true c]
        cases g with
        | true => rw [show (true && !true) = false from rfl, dcs_false]; rfl
        | false => rw [show (true && !false) = true from rfl, dcs_true]; rfl
      · have hl' := h1 (by rw [eA, decide_eq_false c])
        subst hl'
        rw [decide_eq_false c, Bool.false_and, dcs_false]
        cases g <;> rfl
    · rw [hr, Bool.or_true, dcs_true]
      exact h2 (by show (decide (x ∈ m.2.2) || anyR x r) = true; rw [hr, Bool.or_true])
theorem due_eq (ms : List Mkr) (x : Int) (g : Bool) : dueF ms x g = liveF ms x g := due_live ms [] none none (fun _ => rfl) (fun _ => rfl)
/-- where a live copy may lie -/
theorem live_slot {x : Int} {g : Bool} : ∀ (ms : List Mkr) (l : Option (Int × Int)), (∀ m ∈ ms, ∀ p ∈ m.2.1, -1 ≤ p.2 ∧ p.2 ≤ 29) → (∀ q, l = some q → -1 ≤ q.2 ∧ q.2 ≤ 29) → ∀ q, ms.foldl (lstep x g) l = some q → -1 ≤ q.2 ∧ q.2 ≤ 29
  | [], l, _, h, q, e => h q e
  | m :: ms, l, hm, h, q, e => by
    refine live_slot ms _ (fun m' hm' => hm m' (List.mem_cons_of_mem _ hm')) (fun q' e' => ?_) q e
    have hcs : ∀ (cs : List (Int × Int)) (l : Option (Int × Int)), (∀ p ∈ cs, -1 ≤ p.2 ∧ p.2 ≤ 29) → (∀ q, l = some q → -1 ≤ q.2 ∧ q.2 ≤ 29) → ∀ q, cs.foldl (cstep x m.1) l = some q → -1 ≤ q.2 ∧ q.2 ≤ 29 := by
      intro cs
      induction cs with
      | nil => intro l _ h q e; exact h q e
      | cons p cs ih =>
        intro l hp h q e
        refine ih _ (fun p' hp' => hp p' (List.mem_cons_of_mem _ hp')) (fun q' e' => ?_) q e
        unfold cstep at e'
        split at e'
        · cases e'
          exact hp p List.mem_cons_self
        · exact h q' e'
    unfold lstep at e'
    simp only at e'
    split at e'
    · cases e'
    · refine hcs _ _ (hm m List.mem_cons_self) (fun q2 e2 => ?_) q' e'
      split at e2
      · cases e2
      · exact h q2 e2
section
variable {P : Program} {w : World} {K : PySem.W.Frag} {mg : Str → Option Value} {base : Heap}
def sp_law_struck (K : PySem.W.Frag) : Sp := fun vs H Q _ => ∃ (a : Addr) (us : List V) (ms : List (Int × Mkr)) (at_ : Nat) (x : Int) (g : Bool), vs = [.ref a, .int (at_ : Nat), .int x, .bl g] ∧ SqL K H a us ∧ Paired (MkAt K H) us ms ∧ ms.length ≤ 1000 ∧ Q (.bl (stk (ms.map (·.2)) at_ x g)) H
theorem ok_law_struck (T : Txt K mg) : FnOk P w K mg base CX0 1 T.a_law_struck T.fd_law_struck ["_law_marks", "_law_at", "_law_x", "_law_gentle"] (sp_law_struck K) := by
  refine T.F_law_struck.ok sc_law_struck (fun vs H Q E h => ?_) (fun cdv A outer s H vs Q E hr h => ?_)
  · obtain ⟨a, us, ms, at_, x, g, rfl, _⟩ := h
    rfl
  · obtain ⟨a, us, ms, at_, x, g, rfl, h0, hp, hml, k⟩ := h
    have hlen := hp.length
    refine ⟨_, (pss_cons (ps_for PassesOwn.never rfl (pi_range1 rfl T.n_range (pa_cons (pe_callB call_len_seq (by rfl) T.n_len (by decide +kernel) (pa_cons (pv 0) pa_nil)) pa_nil)) (pg_name (i := 4) sc_law_struck.nd rfl (Or.inl rfl))
        (pss_one (ps_if (PW.pt (pw_and (pt_cmpR op_in_seq (pv 2) (pe_ix ix_tup (pe_ix ix_tup (pe_ix ix_list (pv 0) (pv 4) (fun _ _ => rfl)) pe_int (fun _ _ => rfl)) pe_int (fun _ _ => rfl)) rfl) (pw_and1 (PW.pt (pw_or (pt_cmpR op_gt (pv 4) (pv 1) (nomark _)) (pw_or1 (PW.pt (pw_and (pt_cmpR op_eq (pv 4) (pv 1) (nomark _)) (pw_and1 (pt_not (pt_val (pv 3)))))))))))) (pss_one (ps_ret pe_bl)) pss_nil)))
        (pss_one (ps_ret pe_bl))), ?_⟩
    refine ⟨_, rfl, a, _, rfl, .inl h0, _, rfl, by omega, by omega, for_range (n := ((us.length : Nat) : Int).toNat) (fun i σ H2 => H = H2 ∧ (∃ y, σ = [some (.ref a), some (.int (at_ : Nat)), some (.int x), some (.bl g), y]) ∧ stkFrom at_ x g i ((ms.map (·.2)).drop i) = stk (ms.map (·.2)) at_ x g) ?_ ?_ ?_⟩
    · exact ⟨rfl, ⟨_, rfl⟩, rfl⟩
    · rintro i σ H2 hi ⟨rfl, ⟨y, rfl⟩, hd⟩
      obtain ⟨m, hm⟩ : ∃ m, ms[i]? = some m := ⟨ms[i]'(by omega), List.getElem?_eq_getElem (by omega)⟩
      obtain ⟨u, hu, t, wv, rfl, ht, hrec⟩ := paired_get' hp hm
      obtain ⟨ar, ac, av, ps, rfl, r1, r2, r3, r4⟩ := hrec
      have hm2 : (ms.map (·.2))[i]? = some m.2 := by rw [List.getElem?_map, hm]; rfl
      rw [drop_at hm2, stkFrom] at hd
      refine ⟨_, rfl, _, rfl, _, rfl, a, us, _, _, rfl, rfl, h0, at_z hu, t, _, 1, _, rfl, rfl, ht, rfl, ar, _, 3, _, rfl, rfl, r1, rfl, av, _, rfl, .inr r4, rfl, flat_ints _, _, rfl, ?_⟩
      rw [inV_int]
      by_cases c : x ∈ m.2.2.2
      · rw [decide_eq_true c, Bool.true_and] at hd
        refine iteT' (by simp [c]) ?_
        refine ⟨_, rfl, _, rfl, _, _, rfl, rfl, _, rfl, ?_⟩
        by_cases c1 : at_ < i
        · refine iteT' (decide_eq_true (by omega)) (iteT ?_)
          rw [decide_eq_true c1, Bool.true_or, Bool.true_or] at hd
          rw [← hd] at k
          exact k
        · refine iteF' (decide_eq_false (by omega)) ?_
          rw [decide_eq_false c1, Bool.false_or] at hd
          refine ⟨_, rfl, _, rfl, rfl, _, rfl, ?_⟩
          rw [dec_int]
          by_cases c2 : i = at_
          · refine iteT' (decide_eq_true (by omega)) ?_
            rw [decide_eq_true c2, Bool.true_and] at hd
            refine ⟨_, rfl, _, rfl, ?_⟩
            cases g with
            | true => exact iteF ⟨rfl, ⟨_, rfl⟩, hd⟩
            | false =>
              rw [show (!false || _) = true from rfl] at hd
              rw [← hd] at k
              exact iteT k
          · refine iteF' (decide_eq_false (by omega)) (iteF ?_)
            rw [decide_eq_false c2, Bool.false_and, Bool.false_or] at hd
            exact ⟨rfl, ⟨_, rfl⟩, hd⟩
      · rw [decide_eq_false c, Bool.false_and, Bool.false_or] at hd
        refine iteF' (by simp [c]) (iteF ?_)
        exact ⟨rfl, ⟨_, rfl⟩, hd⟩
    · rintro σ H2 ⟨rfl, ⟨y, rfl⟩, hd⟩
      rw [List.drop_of_length_le (by rw [List.length_map]; omega), stkFrom] at hd
      rw [← hd] at k
      exact k
def sp_law_due (K : PySem.W.Frag) : Sp := fun vs H Q _ => ∃ (a : Addr) (us : List V) (ms : List (Int × Mkr)) (x : Int) (g : Bool), vs = [.ref a, .int x, .bl g] ∧ SqL K H a us ∧ Paired (MkAt K H) us ms ∧ ms.length ≤ 1000 ∧ ∀ H' v, Fr [] H H' → LiveAt K H' v (liveF (ms.map (·.2)) x g) → Q v H'
theorem ok_law_due (T : Txt K mg) : FnOk P w K mg base CX0 2 T.a_law_due T.fd_law_due ["_law_marks", "_law_x", "_law_gentle"] (sp_law_due K) := by
  refine T.F_law_due.ok sc_law_due (fun vs H Q E h => ?_) (fun cdv A outer s H vs Q E hr h => ?_)
  · obtain ⟨a, us, ms, x, g, rfl, _⟩ := h
    rfl
  · obtain ⟨a, us, ms, x, g, rfl, h0, hp, hml, k⟩ := h
    rw [← due_eq] at k
    have hlen := hp.length
    refine ⟨_, (pss_cons (ps_set (i := 3) sc_law_due.nd rfl (Or.inl rfl) pe_non)
        (pss_cons (ps_for PassesOwn.never rfl (pi_range1 rfl T.n_range (pa_cons (pe_callB call_len_seq (by rfl) T.n_len (by decide +kernel) (pa_cons (pv 0) pa_nil)) pa_nil)) (pg_name (i := 4) sc_law_due.nd rfl (Or.inl rfl))
        (pss_cons (ps_set (i := 5) sc_law_due.nd rfl (Or.inl rfl) (pe_ix ix_tup (pe_ix ix_list (pv 0) (pv 4) (fun _ _ => rfl)) pe_int (fun _ _ => rfl)))
        (pss_one (ps_for PassesOwn.never rfl (pi_tup (pe_ix ix_tup (pv 5) pe_int (fun _ _ => rfl))) (pg_name (i := 6) sc_law_due.nd rfl (Or.inl rfl))
        (pss_one (ps_if (PW.pt (pw_and (pt_cmpR op_eq (pe_ix ix_tup (pv 6) pe_int (fun _ _ => rfl)) (pv 1) (nomark _)) (pw_and1 (pt_not (pt_val (pe_call (ok_law_struck T) (hr.mono (by decide)) rfl T.m_law_struck T.F_law_struck.kp T.b_law_struck .nil pass0 (pa_cons (pv 0) (pa_cons (pv 4) (pa_cons (pv 1) (pa_cons (pv 2) pa_nil)))))))))) (pss_one (ps_set (i := 3) sc_law_due.nd rfl (Or.inl rfl) (pe_tup (pa_cons (pe_ix ix_tup (pv 5) pe_int (fun _ _ => rfl)) (pa_cons (pe_ix ix_tup (pv 6) pe_int (fun _ _ => rfl)) pa_nil))))) pss_nil))))))
        (pss_one (ps_ret (pv 3))))), ?_⟩
    refine ⟨_, rfl, a, _, rfl, .inl h0, _, rfl, by omega, by omega, for_range (n := ((us.length : Nat) : Int).toNat) (fun i σ H2 => Fr [] H H2 ∧ ∃ (v : V) (l : Option (Int × Int)) (y4 y5 y6 : Option V), σ = [some (.ref a), some (.int x), some (.bl g), some v, y4, y5, y6] ∧ LiveAt K H2 v l ∧ dueFrom (ms.map (·.2)) x g i ((ms.map (·.2)).drop i) l = dueF (ms.map (·.2)) x g) ?_ ?_ ?_⟩
    · exact ⟨Fr.refl _ _, .non, none, _, _, _, rfl, rfl, rfl⟩
    · rintro i σ H2 hi ⟨f2, v, l, y4, y5, y6, rfl, hl, hd⟩
      obtain ⟨m, hm⟩ : ∃ m, ms[i]? = some m := ⟨ms[i]'(by omega), List.getElem?_eq_getElem (by omega)⟩
      obtain ⟨u, hu, hmk⟩ := paired_get' hp hm
      obtain ⟨t, wv, rfl, ht, hrec⟩ := MkAt.ts (K := K) f2.ts0 hmk
      obtain ⟨ar, ac, av, ps, rfl, r1, r2, r3, r4⟩ := hrec
      have hm2 : (ms.map (·.2))[i]? = some m.2 := by rw [List.getElem?_map, hm]; rfl
      rw [drop_at hm2, dueFrom] at hd
      refine ⟨_, rfl, _, rfl, a, us, _, _, rfl, rfl, f2.seq0 h0, at_z hu, t, _, 1, _, rfl, rfl, ht, rfl, ?_⟩
      refine ⟨_, rfl, ar, _, 2, _, rfl, rfl, r1, rfl, ac, rfl, ⟨_, r2⟩, for_tup (K := K) (a := ac) (xs := ps) (fun j σ H4 => Fr [] H2 H4 ∧ ∃ (v : V) (lj : Option (Int × Int)) (y6 : Option V), σ = [some (.ref a), some (.int x), some (.bl g), some v, some (.int (0 + (i : Int))), some (.ref ar), y6] ∧ LiveAt K H4 v lj ∧ (m.2.2.1.drop j).foldl (dcs (stk (ms.map (·.2)) i x g) x m.2.1) lj = m.2.2.1.foldl (dcs (stk (ms.map (·.2)) i x g) x m.2.1) l) ?_ ?_ ?_ ?_⟩
      · exact ⟨Fr.refl _ _, v, _, _, rfl, hl, rfl⟩
      · rintro j σ H4 _ ⟨f4, _⟩
        exact f4.tup0 r2
      · rintro j y σ H4 hj ⟨f4, v, lj, y6, rfl, hlj, hdj⟩
        obtain ⟨p, hp1, tp, rfl, htp⟩ := paired_get r3 hj
        rw [drop_at hp1, List.foldl_cons] at hdj
        refine ⟨_, rfl, tp, _, 0, _, rfl, rfl, f4.tup0 htp, rfl, _, rfl, rfl, _, rfl, ?_⟩
        rw [dec_int]
        by_cases c : p.1 = x
        · refine iteT' (decide_eq_true c) ?_
          rw [show dcs (stk (ms.map (·.2)) i x g) x m.2.1 lj p = if stk (ms.map (·.2)) i x g then lj else some (m.2.1, p.2) by unfold dcs; rw [if_pos c]] at hdj
          refine ⟨_, rfl, _, rfl, _, rfl, _, rfl, a, us, ms, i, x, g, by rw [Int.zero_add]; rfl, f4.seq0 (f2.seq0 h0), Paired.mapP hp fun _ _ q => MkAt.ts (f2.up0 f4).ts0 q, hml, _, rfl, ?_⟩
          cases e : stk (ms.map (·.2)) i x g with
          | true =>
            rw [e] at hdj
            exact iteF ⟨f4, v, lj, _, rfl, hlj, hdj⟩
          | false =>
            rw [e] at hdj
            refine iteT ?_
            refine ⟨_, rfl, ar, _, 1, _, rfl, rfl, f4.tup0 r1, rfl, _, rfl, tp, _, 1, _, rfl, rfl, f4.tup0 htp, rfl, (by show 2 ≤ sizeLine; decide), fun q nq => ?_⟩
            generalize hH5 : upd H4 q _ = H5
            obtain ⟨f5, g5⟩ := gen_new nq hH5
            exact ⟨f4.up0 f5, _, some (m.2.1, p.2), _, rfl, ⟨q, rfl, sqt g5⟩, hdj⟩
        · refine iteF' (decide_eq_false c) (iteF ?_)
          rw [show dcs (stk (ms.map (·.2)) i x g) x m.2.1 lj p = lj by unfold dcs; rw [if_neg c]] at hdj
          exact ⟨f4, v, lj, _, rfl, hlj, hdj⟩
      · rintro σ H4 ⟨f4, v, lj, y6, rfl, hlj, hdj⟩
        rw [r3.length, List.drop_length, List.foldl_nil] at hdj
        rw [hdj] at hlj
        exact ⟨f2.up0 f4, v, _, _, _, _, rfl, hlj, hd⟩
    · rintro σ H2 ⟨f2, v, l, y4, y5, y6, rfl, hl, hd⟩
      rw [List.drop_of_length_le (by rw [List.length_map]; omega), dueFrom] at hd
      rw [hd] at hl
      exact ⟨_, rfl, k H2 v f2 hl⟩
end
section
variable {P : Program} {w : World} {K : PySem.W.Frag} {mg : Str → Option Value} {base : Heap}
def sp_law_due_cells (K : PySem.W.Frag) : Sp := fun vs H Q _ => ∃ (l h : Addr) (v : V) (ws hs : List V) (log : List (Option Rec)) (home : List (List Int)) (o : Option (Int × Int)) (x : Int), vs = [.ref l, .ref h, v, .int x] ∧ H l = some (.lst ws) ∧ Paired (OptRec K H) ws log ∧ log.length = 30 ∧ H h = some (.lst hs) ∧ Paired (CellsAt K H) hs home ∧ LiveAt K H v o ∧ (∀ q, o = some q → -1 ≤ q.2 ∧ q.2 ≤ 29) ∧ 0 ≤ x ∧ x < home.length ∧
  ∀ H' v', Fr [] H H' → CellsAt K H' v' (cellsF home log x o) → Q v' H'
theorem ok_law_due_cells (T : Txt K mg) : FnOk P w K mg base CX0 1 T.a_law_due_cells T.fd_law_due_cells ["_law_log", "_law_home", "_law_due_here", "_law_x"] (sp_law_due_cells K) := by
  refine T.F_law_due_cells.ok sc_law_due_cells (fun vs H Q E h => ?_) (fun cdv A outer s H vs Q E hr h => ?_)
  · obtain ⟨l, h, v, ws, hs, log, home, o, x, rfl, _⟩ := h
    rfl
  · obtain ⟨l, h, v, ws, hs, log, home, o, x, rfl, hl, pl, hlen, hh, ph, hv, hq, x0, x1, k⟩ := h
    have wl := pl.length
    have hsl := ph.length
    refine ⟨_, (pss_cons (ps_if (pt_cmpR op_isN (pv 2) pe_non (nomark _)) (pss_one (ps_ret (pe_ix ix_list (pv 1) (pv 3) (fun _ _ => rfl)))) pss_nil)
        (pss_cons (ps_if (PW.pt (pw_or (pt_cmpR op_eq (pe_ix ix_tup (pv 2) pe_int (fun _ _ => rfl)) (pe_un un_neg pe_int) (nomark _)) (pw_or1 (pt_cmpR op_isN (pe_ix ix_list (pv 0) (pe_ix ix_tup (pv 2) pe_int (fun _ _ => rfl)) (fun _ _ => rfl)) pe_non (nomark _))))) (pss_one (ps_ret (pe_tup (pa_cons pe_int (pa_cons pe_int (pa_cons pe_int (pa_cons pe_int (pa_cons pe_int (pa_cons pe_int (pa_cons pe_int (pa_cons pe_int pa_nil))))))))))) pss_nil)
        (pss_cons (ps_set (i := 4) sc_law_due_cells.nd rfl (Or.inl rfl) (pe_ix ix_list (pv 0) (pe_ix ix_tup (pv 2) pe_int (fun _ _ => rfl)) (fun _ _ => rfl)))
        (pss_cons (ps_if (PW.pt (pw_or (pt_cmpR op_ne (pe_ix ix_tup (pv 4) pe_int (fun _ _ => rfl)) pe_str (nomark _)) (pw_or (pt_cmpR op_ne (pe_ix ix_tup (pv 4) pe_int (fun _ _ => rfl)) (pe_ix ix_tup (pv 2) pe_int (fun _ _ => rfl)) (nomark _)) (pw_or1 (pt_cmpR op_ne (pe_ix ix_tup (pv 4) pe_int (fun _ _ => rfl)) (pv 3) (nomark _)))))) (pss_one (ps_ret (pe_tup (pa_cons pe_int (pa_cons pe_int (pa_cons pe_int (pa_cons pe_int (pa_cons pe_int (pa_cons pe_int (pa_cons pe_int (pa_cons pe_int pa_nil))))))))))) pss_nil)
        (pss_one (ps_ret (pe_ix ix_tup (pv 4) pe_int (fun _ _ => rfl)))))))), ?_⟩
    cases o with
    | none =>
      cases (show v = .non from hv)
      obtain ⟨cs, hcs⟩ : ∃ cs, home[x.toNat]? = some cs := ⟨home[x.toNat]'(by omega), List.getElem?_eq_getElem (by omega)⟩
      obtain ⟨u, hu, hc⟩ := paired_get' ph hcs
      refine ⟨_, rfl, rfl, _, rfl, iteT ?_⟩
      refine ⟨_, rfl, _, rfl, h, hs, x, u, rfl, rfl, sq hh, at_i x0 hu, k H u (Fr.refl _ _) ?_⟩
      show CellsAt K H u (home.getD x.toNat [])
      rw [List.getD_eq_getElem?_getD, hcs]
      exact hc
    | some p =>
      obtain ⟨t, rfl, ht⟩ := hv
      have hp := hq p rfl
      have zz : ∀ (Q : V → Hp → Prop), (∀ H' v', Fr [] H H' → CellsAt K H' v' zero8 → Q v' H') → ([V.int 0, .int 0, .int 0, .int 0, .int 0, .int 0, .int 0, .int 0] : List V).length ≤ sizeLine ∧ ∀ q, H q = none → Q (.ref q) (upd H q (.tup [.int 0, .int 0, .int 0, .int 0, .int 0, .int 0, .int 0, .int 0])) := fun Q hQ => ⟨by show 8 ≤ sizeLine; decide, fun q nq => hQ _ _ (Fr.new nq) ⟨q, rfl, sqt upd_same⟩⟩
      refine ⟨_, rfl, rfl, _, rfl, iteF ?_⟩
      refine ⟨_, rfl, t, _, 1, _, rfl, rfl, ht, rfl, _, rfl, rfl, _, rfl, ?_⟩
      rw [show decide (V.int p.2 = V.int (-1)) = decide (p.2 = -1) from dec_int]
      by_cases c : p.2 = -1
      · refine iteT' (decide_eq_true c) (iteT ?_)
        refine zz _ fun H' v' f' hc => k H' v' f' ?_
        rw [cellsF, if_neg (by omega)]
        exact hc
      · refine iteF' (decide_eq_false c) ?_
        have c0 : 0 ≤ p.2 := by omega
        obtain ⟨o, ho⟩ : ∃ o, log[p.2.toNat]? = some o := ⟨log[p.2.toNat]'(by omega), List.getElem?_eq_getElem (by omega)⟩
        obtain ⟨u, hu, hor⟩ := paired_get' pl ho
        have ecf : cellsF home log x (some p) = recCells p.1 x o := by
          rw [cellsF, if_pos ⟨c0, by omega⟩, List.getD_eq_getElem?_getD, ho]
          rfl
        rw [ecf] at k
        refine ⟨_, rfl, _, rfl, t, _, 1, _, rfl, rfl, ht, rfl, l, ws, p.2, u, rfl, rfl, sq hl, at_i c0 hu, rfl, _, rfl, ?_⟩
        cases o with
        | none =>
          cases (show u = .non from hor)
          exact iteT (zz _ k)
        | some r =>
          rcases rec_kind hor with ⟨ar, lt, b, ca, cs, rfl, rfl, r1, r2⟩ | ⟨ar, lt, y, z, cs, rs, rfl, rfl, r1⟩
          · refine iteF ?_
            refine ⟨_, rfl, _, rfl, t, _, 1, _, rfl, rfl, ht, rfl, l, ws, p.2, _, rfl, rfl, sq hl, at_i c0 hu, ?_⟩
            refine ⟨_, rfl, ar, _, 0, _, rfl, rfl, r1, rfl, rfl, _, rfl, iteF' (by decide +kernel) ?_⟩
            refine ⟨_, rfl, ar, _, 1, _, rfl, rfl, r1, rfl, _, rfl, t, _, 0, _, rfl, rfl, ht, rfl, rfl, _, rfl, ?_⟩
            rw [dec_int]
            by_cases d1 : lt = p.1
            · refine iteF' (by rw [decide_eq_true d1]; rfl) ?_
              refine ⟨_, rfl, ar, _, 2, _, rfl, rfl, r1, rfl, _, rfl, rfl, _, rfl, ?_⟩
              rw [dec_int]
              by_cases d2 : b = x
              · refine iteF' (by rw [decide_eq_true d2]; rfl) ?_
                rw [recCells, if_pos ⟨d1, d2⟩] at k
                exact ⟨_, rfl, ar, _, 3, _, rfl, rfl, r1, rfl, k H _ (Fr.refl _ _) ⟨ca, rfl, r2⟩⟩
              · refine iteT' (by rw [decide_eq_false d2]; rfl) ?_
                rw [recCells, if_neg fun q => d2 q.2] at k
                exact zz _ k
            · refine iteT' (by rw [decide_eq_false d1]; rfl) (iteT ?_)
              rw [recCells, if_neg fun q => d1 q.1] at k
              exact zz _ k
          · refine iteF ?_
            refine ⟨_, rfl, _, rfl, t, _, 1, _, rfl, rfl, ht, rfl, l, ws, p.2, _, rfl, rfl, sq hl, at_i c0 hu, ?_⟩
            refine ⟨_, rfl, ar, _, 0, _, rfl, rfl, r1, rfl, rfl, _, rfl, iteT' (by rw [dec_str, decide_eq_false cm_ne]; rfl) (iteT ?_)⟩
            exact zz _ k
def sp_law_numbers (K : PySem.W.Frag) : Sp := fun vs H Q _ => ∃ (a b : Addr) (ns : List Int), vs = [.ref a, .ref b] ∧ SqT K H a (ns.map V.int) ∧ SqT K H b (ns.map V.int) ∧ ns.length ≤ 1000 ∧ Q (.bl true) H
theorem ok_law_numbers (T : Txt K mg) : FnOk P w K mg base CX0 1 T.a_law_numbers T.fd_law_numbers ["_law_actual", "_law_due_here"] (sp_law_numbers K) := by
  refine T.F_law_numbers.ok sc_law_numbers (fun vs H Q E h => ?_) (fun cdv A outer s H vs Q E hr h => ?_)
  · obtain ⟨a, b, ns, rfl, _⟩ := h
    rfl
  · obtain ⟨a, b, ns, rfl, h1, h2, hl, k⟩ := h
    refine ⟨_, (pss_cons (ps_if (PW.pt (pw_or (pt_not (pt_val (pe_callB call_isi (by rfl) T.n_isinstance (by decide +kernel) (pa_cons (pv 0) (pa_cons (pe_bltn (v := .ty "tuple") (u := .type "tuple") (by rfl) T.n_tuple (by decide +kernel) rfl) pa_nil))))) (pw_or1 (pt_cmpR op_ne (pe_callB call_len_seq (by rfl) T.n_len (by decide +kernel) (pa_cons (pv 0) pa_nil)) (pe_callB call_len_seq (by rfl) T.n_len (by decide +kernel) (pa_cons (pv 1) pa_nil)) (nomark _))))) (pss_one (ps_ret pe_bl)) pss_nil)
        (pss_cons (ps_for PassesOwn.never rfl (pi_range1 rfl T.n_range (pa_cons (pe_callB call_len_seq (by rfl) T.n_len (by decide +kernel) (pa_cons (pv 1) pa_nil)) pa_nil)) (pg_name (i := 2) sc_law_numbers.nd rfl (Or.inl rfl))
        (pss_one (ps_if (PW.pt (pw_or (pt_not (pt_val (pe_callB call_isi (by rfl) T.n_isinstance (by decide +kernel) (pa_cons (pe_ix ix_tup (pv 0) (pv 2) (fun _ _ => rfl)) (pa_cons (pe_bltn (v := .ty "int") (u := .type "int") (by rfl) T.n_int (by decide +kernel) rfl) pa_nil))))) (pw_or (pt_val (pe_callB call_isi (by rfl) T.n_isinstance (by decide +kernel) (pa_cons (pe_ix ix_tup (pv 0) (pv 2) (fun _ _ => rfl)) (pa_cons (pe_bltn (v := .ty "bool") (u := .type "bool") (by rfl) T.n_bool (by decide +kernel) rfl) pa_nil)))) (pw_or1 (pt_cmpR op_ne (pe_ix ix_tup (pv 0) (pv 2) (fun _ _ => rfl)) (pe_ix ix_tup (pv 1) (pv 2) (fun _ _ => rfl)) (nomark _)))))) (pss_one (ps_ret pe_bl)) pss_nil)))
        (pss_one (ps_ret pe_bl)))), ?_⟩
    refine ⟨_, rfl, _, _, _, _, true, rfl, .ty "tuple", ty_tup h1, kit_ty (by decide +kernel), _, rfl, iteF ?_⟩
    refine ⟨_, rfl, a, _, rfl, .inr h1, _, rfl, b, _, rfl, .inr h2, rfl, _, rfl, iteF' (by rw [dec_int, decide_eq_true rfl]; rfl) ?_⟩
    refine ⟨_, rfl, b, _, rfl, .inr h2, _, rfl, by rw [List.length_map]; omega, by rw [List.length_map]; omega, for_range (n := (((ns.map V.int).length : Nat) : Int).toNat) (fun i σ H2 => H = H2 ∧ ∃ x, σ = [some (.ref a), some (.ref b), x]) ?_ ?_ ?_⟩
    · exact ⟨rfl, _, rfl⟩
    · rintro i σ H2 hi ⟨rfl, x, rfl⟩
      rw [List.length_map] at hi
      obtain ⟨n, hn⟩ : ∃ n, ns[i]? = some n := ⟨ns[i]'(by omega), List.getElem?_eq_getElem (by omega)⟩
      have hn2 : (ns.map V.int)[i]? = some (V.int n) := by rw [List.getElem?_map, hn]; rfl
      refine ⟨_, rfl, _, rfl, a, _, _, _, rfl, rfl, h1, at_z hn2, _, _, _, _, true, rfl, .ty "int", .base (.int _), kit_ty (by decide +kernel), _, rfl, iteF ?_⟩
      refine ⟨_, rfl, _, rfl, a, _, _, _, rfl, rfl, h1, at_z hn2, _, _, _, _, false, rfl, .ty "bool", .base (.int _), kit_ty (by decide +kernel), _, rfl, iteF ?_⟩
      refine ⟨_, rfl, _, rfl, a, _, _, _, rfl, rfl, h1, at_z hn2, _, rfl, _, rfl, b, _, _, _, rfl, rfl, h2, at_z hn2, rfl, _, rfl, iteF' (by rw [dec_int, decide_eq_true rfl]; rfl) ?_⟩
      exact ⟨rfl, _, rfl⟩
    · rintro σ H2 ⟨rfl, x, rfl⟩
      exact k
def mkData (x : Int × Mkr) : PyData := .tuple [.int x.1, x.2.rec.data]
theorem MkAt.dp {H : Hp} {v : V} {x : Int × Mkr} (h : MkAt K H v x) : Dp K H v (mkData x) := by
  obtain ⟨t, wv, rfl, h1, h2⟩ := h
  exact .tup h1 (.cons (.int _) (.cons h2.dp .nil))
theorem mkSh (x : Int × Mkr) : Sh 5 (mkData x) := .tup (.cons (.int _) (.cons (Rec.sh _) .nil))
def sp_law_agrees (T : Txt K mg) : Sp := fun vs H Q _ => ∃ (dk a l h : Addr) (A : DA) (us ws hs : List V) (ms : List (Int × Mkr)) (home : List (List Int)) (log : List (Option Rec)) (hd la : Int) (kvs : List (Key × V)) (x : Int) (g : Bool), vs = [.ref dk, .ref a, .ref l, .ref h, .int x, .bl g] ∧ DiskAt T H dk A home log hd la kvs ∧ H a = some (.lst us) ∧ Paired (MkAt K H) us ms ∧ ms.length ≤ 1000 ∧ (∀ m ∈ ms.map (·.2), ∀ p ∈ m.2.1, -1 ≤ p.2 ∧ p.2 ≤ 29) ∧ H l = some (.lst ws) ∧ Paired (OptRec K H) ws log ∧ log.length = 30 ∧ H h = some (.lst hs) ∧ Paired (CellsAt K H) hs home ∧ 0 ≤ x ∧ x < home.length ∧ (∀ cs ∈ home, cs.length ≤ 1000) ∧ (∀ l b cs, some (Rec.copy l b cs) ∈ log → cs.length ≤ 1000) ∧ ∀ H', Fr [] H H' → Q (.bl true) H'
theorem cells_len {home : List (List Int)} {log : List (Option Rec)} {x : Int} {o : Option (Int × Int)} (x0 : 0 ≤ x) (x1 : x < home.length) (h1 : ∀ cs ∈ home, cs.length ≤ 1000) (h2 : ∀ l b cs, some (Rec.copy l b cs) ∈ log → cs.length ≤ 1000) : (cellsF home log x o).length ≤ 1000 := by
  cases o with
  | none =>
    show (home.getD x.toNat []).length ≤ 1000
    rw [List.getD_eq_getElem?_getD, List.getElem?_eq_getElem (show x.toNat < home.length by omega)]
    exact h1 _ (List.getElem_mem _)
  | some p =>
    rw [cellsF]
    split
    · rename_i c
      have hm : log.getD p.2.toNat none ∈ log := by
        rw [List.getD_eq_getElem?_getD, List.getElem?_eq_getElem (show p.2.toNat < log.length by omega)]
        exact List.getElem_mem _
      cases e : log.getD p.2.toNat none with
      | none => rw [recCells]; exact (by decide); exact fun _ _ _ q => by cases q
      | some r =>
        rw [e] at hm
        cases r with
        | copy l b cs =>
          rw [recCells]
          split
          · exact h2 _ _ _ hm
          · decide
        | mark l cs rs => exact (by decide : zero8.length ≤ 1000)
    · decide
theorem ok_law_agrees (T : Txt K mg) : FnOk P w K mg base CX0 3 T.a_law_agrees T.fd_law_agrees ["_law_disk", "_law_marks", "_law_log", "_law_home", "_law_x", "_law_gentle"] (sp_law_agrees T) := by
  refine T.F_law_agrees.ok sc_law_agrees (fun vs H Q E h => ?_) (fun cdv A outer s H vs Q E hr h => ?_)
  · obtain ⟨dk, a, l, h, A, us, ws, hs, ms, home, log, hd, la, kvs, x, g, rfl, _⟩ := h
    rfl
  · obtain ⟨dk, a, l, h, D, us, ws, hs, ms, home, log, hd, la, kvs, x, g, rfl, dd, ha, pa, hml, hms, hl, pl, hlen, hh, ph, x0, x1, c1, c2, k⟩ := h
    refine ⟨_, (pss_cons (ps_set (i := 6) sc_law_agrees.nd rfl (Or.inl rfl) (pe_call (ok_law_due T) (hr.mono (by decide)) rfl T.m_law_due T.F_law_due.kp T.b_law_due .nil pass0 (pa_cons (pv 1) (pa_cons (pv 4) (pa_cons (pv 5) pa_nil)))))
        (pss_cons (ps_set (i := 7) sc_law_agrees.nd rfl (Or.inl rfl) (pe_callTy call_list_of (by rfl) T.n_list (by decide +kernel) (pa_cons (pv 1) pa_nil)))
        (pss_cons (ps_set (i := 8) sc_law_agrees.nd rfl (Or.inl rfl) (pe_callN (ok_live_copy T) (hr.mono (by decide)) rfl T.m_live_copy T.F_live_copy.kp T.b_live_copy pass0 (pa_cons (pv 7) (pa_cons (pv 4) pa_nil)) (pk_cons (pv 5) pk_nil)))
        (C8.pss_cut (ps_if (PW.pt (pw_and (pt_cmpR op_isN (pv 6) pe_non (nomark _)) (pw_and1 (pt_cmpR op_notN (pv 8) pe_non (nomark _))))) (pss_one (ps_ret pe_bl)) pss_nil)
        (C8.pss_cut (ps_if (PW.pt (pw_and (pt_cmpR op_notN (pv 6) pe_non (nomark _)) (pw_and1 (pt_not (pt_val (pe_call (ok_law_numbers T) (hr.mono (by decide)) rfl T.m_law_numbers T.F_law_numbers.kp T.b_law_numbers .nil pass0 (pa_cons (pv 8) (pa_cons (pv 6) pa_nil)))))))) (pss_one (ps_ret pe_bl)) pss_nil)
        (pss_cons (ps_if (pt_not (pt_val (pe_call (ok_law_numbers T) (hr.mono (by decide)) rfl T.m_law_numbers T.F_law_numbers.kp T.b_law_numbers .nil pass0 (pa_cons (pe_callN (ok_cells_after T) (hr.mono (by decide)) rfl T.m_cells_after T.F_cells_after.kp T.b_cells_after pass0 (pa_cons (pv 0) (pa_cons (pv 7) (pa_cons (pv 4) pa_nil))) (pk_cons (pv 5) pk_nil)) (pa_cons (pe_call (ok_law_due_cells T) (hr.mono (by decide)) rfl T.m_law_due_cells T.F_law_due_cells.kp T.b_law_due_cells .nil pass0 (pa_cons (pv 2) (pa_cons (pv 3) (pa_cons (pv 6) (pa_cons (pv 4) pa_nil))))) pa_nil))))) (pss_one (ps_ret pe_bl)) pss_nil)
        (pss_one (ps_ret (pe_cmpR (op_eqD hr.units) (pv 7) (pv 1) (nomark _)))))))))), ?_⟩
    refine ⟨_, rfl, _, rfl, _, rfl, a, us, ms, x, g, rfl, sq ha, pa, hml, fun H1 v f1 hv => ?_⟩
    refine ⟨_, rfl, a, _, rfl, .inl (sq (f1.get0 ha)), fun gv ngv => ?_⟩
    generalize hH2 : upd H1 gv _ = H2
    obtain ⟨f2, g2⟩ := gen_new ngv hH2
    have f02 := f1.up0 f2
    have pa2 := Paired.mapP pa fun _ _ q => MkAt.ts (K := K) f02.ts0 q
    refine ⟨_, rfl, _, rfl, _, rfl, rfl, rfl, gv, us, ms, x, g, rfl, sq g2, pa2, fun H3 v3 f3 hv3 => ?_⟩
    have f03 := f02.up0 f3
    have hvd := (hv.ts f2.ts0).ts (K := K) f3.ts0
    have hslot := live_slot (x := x) (g := g) (ms.map (·.2)) none hms (fun q e => by cases e)
    have hsl2 : ∀ q, liveF (ms.map (·.2)) x g = some q → -1 ≤ q.2 ∧ q.2 ≤ 29 := hslot
    have hcl := cells_len (o := liveF (ms.map (·.2)) x g) x0 x1 c1 c2
    generalize eo : liveF (ms.map (·.2)) x g = o at hvd hv3 hsl2 hcl
    refine ⟨fun σ H4 => σ = [some (.ref dk), some (.ref a), some (.ref l), some (.ref h), some (.int x), some (.bl g), some v, some (.ref gv), some v3] ∧ H4 = H3, ?_, ?_⟩
    · cases o with
      | none =>
        cases (show v = .non from hvd)
        cases (show v3 = .non from hv3)
        exact ⟨_, rfl, rfl, _, rfl, iteT ⟨_, rfl, rfl, _, rfl, iteF ⟨rfl, rfl⟩⟩⟩
      | some p =>
        obtain ⟨t, rfl, ht⟩ := hvd
        exact ⟨_, rfl, rfl, _, rfl, iteF (iteF ⟨rfl, rfl⟩)⟩
    rintro σ H4 ⟨rfl, rfl⟩
    refine ⟨fun σ H5 => σ = [some (.ref dk), some (.ref a), some (.ref l), some (.ref h), some (.int x), some (.bl g), some v, some (.ref gv), some v3] ∧ H5 = H4, ?_, ?_⟩
    · cases o with
      | none =>
        cases (show v = .non from hvd)
        exact ⟨_, rfl, rfl, _, rfl, iteF (iteF ⟨rfl, rfl⟩)⟩
      | some p =>
        obtain ⟨t, rfl, ht⟩ := hvd
        obtain ⟨t3, rfl, ht3⟩ := hv3
        exact ⟨_, rfl, rfl, _, rfl, iteT ⟨_, rfl, _, rfl, t3, t, [p.1, p.2], rfl, ht3, ht, (by decide : 2 ≤ 1000), _, rfl, iteF ⟨rfl, rfl⟩⟩⟩
    rintro σ H5 ⟨rfl, rfl⟩
    have d5 := dd.fr0 f03
    refine ⟨_, rfl, _, rfl, _, rfl, _, rfl, rfl, rfl, dk, gv, D, home, log, hd, la, kvs, us, ms, x, g, rfl, d5, sq (f3.get0 g2), Paired.mapP pa2 fun _ _ q => MkAt.ts f3.ts0 q, x0, x1, fun H6 v6 f6 hc6 => ?_⟩
    rw [eo] at hc6
    have f06 := f03.up0 f6
    refine ⟨_, rfl, _, rfl, _, rfl, _, rfl, l, h, v, ws, hs, log, home, o, x, rfl, f06.get0 hl, Paired.mapP pl fun _ _ q => OptRec.ts f06.ts0 q, hlen, f06.get0 hh, Paired.mapP ph fun _ _ q => CellsAt.ts f06.ts0 q, hvd.ts f6.ts0, hsl2, x0, x1, fun H7 v7 f7 hc7 => ?_⟩
    obtain ⟨t6, rfl, ht6⟩ := hc6.ts (K := K) f7.ts0
    obtain ⟨t7, rfl, ht7⟩ := hc7
    refine ⟨t6, t7, _, rfl, ht6, ht7, hcl, _, rfl, iteF ?_⟩
    have f07 := f06.up0 f7
    have sh : Sh 64 (.list (ms.map mkData)) := (Sh.lst (n := 5) (.map mkSh)).mono (by decide)
    have f37 : Fr [] H5 H7 := f6.up0 f7
    refine ⟨_, rfl, _, rfl, .list (ms.map mkData), .list (ms.map mkData), .lst (sq (f37.get0 (f3.get0 g2))) (dp_paired (fun v o q => MkAt.dp (q.ts f07.ts0)) pa), .lst (sq (f07.get0 ha)) (dp_paired (fun v o q => MkAt.dp (q.ts f07.ts0)) pa), sh.shaped, sh.shaped, ?_⟩
    rw [SeqAt.eqv_refl _ sh.1]
    exact k H7 f07
end
section
variable {P : Program} {w : World} {K : PySem.W.Frag} {mg : Str → Option Value} {base : Heap}
def spLaw (K : PySem.W.Frag) : Sp := fun vs H Q _ => ∃ (a : Addr) (ns : List Int), vs = [.ref a] ∧ SqL K H a (ns.map V.int) ∧ ns.length ≤ 63 ∧ ∀ H', Q (.bl true) H'
def optData : Option Rec → PyData
  | none => .none
  | some r => r.data
theorem OptRec.dp {H : Hp} {v : V} {o : Option Rec} (h : OptRec K H v o) : Dp K H v (optData o) := by
  cases o with
  | none => cases (show v = .non from h); exact .non
  | some r => exact RecAt.dp h
theorem optSh (o : Option Rec) : Sh 4 (optData o) := by
  cases o with
  | none => exact .non
  | some r => exact r.sh
theorem CellsAt.dp {H : Hp} {v : V} {cs : List Int} (h : CellsAt K H v cs) : Dp K H v (.tuple (cs.map PyData.int)) := by
  obtain ⟨t, rfl, h⟩ := h
  exact .tup h (dp_ints _)
theorem ok_law (T : Txt K mg) : FnOk P w K mg base CX0 12 T.a_law T.fd_law ["_law_script"] (spLaw K) := by
  refine T.F_law.ok sc_law (fun vs H Q E h => ?_) (fun cdv A outer s H vs Q E hr h => ?_)
  · obtain ⟨a, ns, rfl, _⟩ := h
    rfl
  · obtain ⟨a, ns, rfl, hS, hl, k⟩ := h
    refine ⟨_, (pss_cons (ps_set (i := 1) sc_law.nd rfl (Or.inl rfl) (pe_call (ok_law_feed T) (hr.mono (by decide)) rfl T.m_law_feed T.F_law_feed.kp T.b_law_feed .nil pass0 (pa_cons (pv 0) pa_nil)))
        (pss_cons (ps_set (i := 2) sc_law.nd rfl (Or.inl rfl) (pe_make T.m_Disk_init (ok_Disk_init T) (hr.mono (by decide)) rfl T.g_Disk T.b_Disk_init .nil pass0 (pa_cons (pe_makeK T.m_Plan_init (ok_Plan_init T) (hr.mono (by decide)) rfl T.g_Plan T.b_Plan_init pass0 (pa_cons pe_int pa_nil) (pk_cons pe_int (pk_cons pe_int pk_nil))) pa_nil)))
        (pss_cons (ps_setLc (i := 3) (own := [("_law_slot", 4)]) (g := gName 4) (tt := tYes) (by rfl) sc_law.nd rfl rfl (sw_true rfl rfl rfl (by decide +kernel)) (pi_range1 rfl T.n_range (pa_cons pe_int pa_nil)) (blkOk_by (own := [("_law_slot", 4)]) (N := N_law) (sc := defScope s_law) (by decide +kernel)) (fun _ _ _ _ _ => pg_name (i := 4) sc_law.nd rfl (Or.inl rfl)) (fun _ _ _ _ _ => pts_nil) (fun _ _ _ _ _ => pe_non))
        (pss_cons (ps_set (i := 5) sc_law.nd rfl (Or.inl rfl) (pe_lst pa_nil))
        (pss_cons (ps_for PassesOwn.never rfl (pi_range1 rfl T.n_range (pa_cons (pe_call (ok_law_pick T) (hr.mono (by decide)) rfl T.m_law_pick T.F_law_pick.kp T.b_law_pick .nil pass0 (pa_cons (pv 1) (pa_cons pe_int pa_nil))) pa_nil)) (pg_name (i := 6) sc_law.nd rfl (Or.inl rfl))
        (pss_one (ps_expr (pe_bm PySem.F.plainAttrs_list PySem.F.slot_list_append PySem.F.type_list_append mt_append (pv 5) (pa_cons (pe_tup (pa_cons (pe_op op_sub pe_int (pv 6)) (pa_cons (pe_call (ok_law_mark T) (hr.mono (by decide)) rfl T.m_law_mark T.F_law_mark.kp T.b_law_mark .nil pass0 (pa_cons (pv 1) (pa_cons (pe_op op_add (pv 6) pe_int) pa_nil))) pa_nil))) pa_nil)))))
        (pss_cons (ps_for PassesOwn.never rfl (pi_list (pv 5)) (pg_name (i := 7) sc_law.nd rfl (Or.inl rfl))
        (pss_one (ps_expr (pe_call (ok_law_fill T) (hr.mono (by decide)) rfl T.m_law_fill T.F_law_fill.kp T.b_law_fill .nil pass0 (pa_cons (pv 1) (pa_cons (pv 2) (pa_cons (pv 3) (pa_cons (pe_ix ix_tup (pv 7) pe_int (fun _ _ => rfl)) pa_nil))))))))
        (pss_cons (ps_setLc (i := 8) (own := [("_law_x", 9)]) (g := gName 9) (tt := tYes) (by rfl) sc_law.nd rfl rfl (sw_true rfl rfl rfl (by decide +kernel)) (pi_range1 rfl T.n_range (pa_cons pe_int pa_nil)) (blkOk_by (own := [("_law_x", 9)]) (N := N_law) (sc := defScope s_law) (by decide +kernel)) (fun _ _ _ _ _ => pg_name (i := 9) sc_law.nd rfl (Or.inl rfl)) (fun _ _ _ _ _ => pts_nil) (fun _ _ _ _ _ => (pe_tup (pa_cons pe_int (pa_cons pe_int (pa_cons pe_int (pa_cons pe_int (pa_cons pe_int (pa_cons pe_int (pa_cons pe_int (pa_cons pe_int pa_nil)))))))))))
        (pss_cons (ps_for PassesOwn.never rfl (pi_range2 (by rfl) T.n_range (pa_cons pe_int (pa_cons pe_int pa_nil))) (pg_name (i := 9) sc_law.nd rfl (Or.inl rfl))
        (pss_cons (ps_asg (pe_call (ok_law_cells T) (hr.mono (by decide)) rfl T.m_law_cells T.F_law_cells.kp T.b_law_cells .nil pass0 (pa_cons (pv 1) (pa_cons (pv 9) pa_nil))) (pg_sub (pv 8) (pv 9) set_list))
        (pss_one (ps_expr (pe_meth (pv 2) T.C_Disk T.m_Disk_sure (ok_Disk_sureH T) (hr.mono (by decide)) T.b_Disk_sure .nil pass0 (pa_cons (pe_meth (pv 2) T.C_Disk T.m_Disk_issue (ok_Disk_issueH T) (hr.mono (by decide)) T.b_Disk_issue .nil pass0 (pa_cons (pe_tup (pa_cons pe_str (pa_cons (pv 9) pa_nil))) (pa_cons (pe_ix ix_list (pv 8) (pv 9) (fun _ _ => rfl)) pa_nil))) pa_nil))))))
        (pss_cons (ps_for PassesOwn.never rfl (pi_range2 (by rfl) T.n_range (pa_cons pe_int (pa_cons pe_int pa_nil))) (pg_name (i := 9) sc_law.nd rfl (Or.inl rfl))
        (pss_one (ps_for PassesOwn.never rfl (pi_list (pe_lst (pa_cons pe_bl (pa_cons pe_bl pa_nil)))) (pg_name (i := 10) sc_law.nd rfl (Or.inl rfl))
        (pss_cons (ps_if (pt_not (pt_val (pe_call (ok_law_agrees T) (hr.mono (by decide)) rfl T.m_law_agrees T.F_law_agrees.kp T.b_law_agrees .nil pass0 (pa_cons (pv 2) (pa_cons (pv 5) (pa_cons (pv 3) (pa_cons (pv 8) (pa_cons (pv 9) (pa_cons (pv 10) pa_nil))))))))) (pss_one (ps_ret pe_bl)) pss_nil)
        (pss_one (ps_if (pt_not (pt_val (pe_call (ok_law_agrees T) (hr.mono (by decide)) rfl T.m_law_agrees T.F_law_agrees.kp T.b_law_agrees .nil pass0 (pa_cons (pv 2) (pa_cons (pe_lst pa_nil) (pa_cons (pv 3) (pa_cons (pv 8) (pa_cons (pv 9) (pa_cons (pv 10) pa_nil))))))))) (pss_one (ps_ret pe_bl)) pss_nil))))))
        (pss_one (ps_ret (pe_and (pe_cmpR (op_eqD hr.units) (pe_callTy call_list_of (by rfl) T.n_list (by decide +kernel) (pa_cons (pe_fld (pv 2) rfl) pa_nil)) (pv 3) (nomark _)) (pe_one (pe_cmpR (op_eqD hr.units) (pe_callTy call_list_of (by rfl) T.n_list (by decide +kernel) (pa_cons (pe_fld (pv 2) rfl) pa_nil)) (pv 8) (nomark _))))))))))))))), ?_⟩
    refine ⟨_, rfl, a, ns, rfl, hS, hl, fun H1 p fs1 f1 np h1 hf1 => ?_⟩
    refine ⟨rfl, rfl, fun pl dp npl ndp nex => ?_⟩
    generalize hHp : upd (upd H1 dp _) pl _ = H2
    have f2 : Fr [] H1 H2 := by
      rw [← hHp]
      exact (Fr.new ndp).up0 (Fr.new (by rw [upd_ne nex.symm]; exact npl))
    have g2 : H2 pl = some (.ins T.c_Plan dp []) := by rw [← hHp]; exact upd_same
    refine ⟨pl, dp, 24, 5, 30, rfl, g2, by decide, by decide, by decide, by decide, by decide, by decide, by decide, fun H3 f3 P3 => ⟨rfl, ?_⟩⟩
    have h3 := f3.get1 (f2.get0 h1) (ne_of_none h1 npl)
    intro dk dxk nk ndk nex2
    generalize hHk : upd (upd H3 dxk _) dk _ = H4
    have f4 : Fr [] H3 H4 := by
      rw [← hHk]
      exact (Fr.new ndk).up0 (Fr.new (by rw [upd_ne nex2.symm]; exact nk))
    have g4 : H4 dk = some (.ins T.c_Disk dxk []) := by rw [← hHk]; exact upd_same
    have P4 : PlanAt T H4 pl 24 5 30 := by
      obtain ⟨q, hq⟩ := P3
      exact ⟨q, f4.get0 hq⟩
    have h4 := f4.get0 h3
    refine ⟨dk, dxk, pl, 24, 5, 30, rfl, g4, P4, by decide, by decide, by decide, by decide, fun H5 ho lg wr hs f5 o5 nho nlg nwr h5h p5h h5l h5w nehl => ⟨rfl, ?_⟩⟩
    have h5 := f5.get1 h4 (ne_of h4 g4 (by intro z; cases z))
    have d5 : DiskAt T H5 dk ⟨pl, ho, lg, wr⟩ (List.replicate 24 zero8) (List.replicate 30 none) 0 0 [] := by
      refine ⟨⟨dxk, o5⟩, ?_, ⟨_, h5l, ?_⟩, ⟨hs, h5h, p5h⟩, nehl, h5w⟩
      · obtain ⟨q, hq⟩ := id P4
        exact ⟨q, f5.get1 hq (pl_ne g4 P4)⟩
      · have : ∀ n, Paired (OptRec K H5) (List.replicate n V.non) (List.replicate n none) := fun n => by
          induction n with
          | zero => exact .nil
          | succ n ih => exact .cons rfl ih
        exact this 30
    have nlp0 : lg ≠ p := (ne_of_none h4 nlg).symm
    have nhp0 : ho ≠ p := (ne_of_none h4 nho).symm
    generalize hA : (⟨pl, ho, lg, wr⟩ : DA) = A at d5
    have nlp : A.lg ≠ p := by rw [← hA]; exact nlp0
    have nhp : A.ho ≠ p := by rw [← hA]; exact nhp0
    clear hA
    -- the law's own log
    refine ⟨30, rfl, by decide, by decide, fun l2 nl2 => lc_range (lo := 0) (n := 30) (fun i H3 => Fr [] H5 H3 ∧ i ≤ 30 ∧ H3 l2 = some (.lst (List.replicate i .non))) ?_ ?_ ?_⟩
    · exact ⟨Fr.new nl2, by decide, upd_same⟩
    · rintro i H3 hi ⟨f3, hi2, g3⟩
      refine ⟨rfl, _, g3, sz (by simp; omega), f3.up1 Fr.mut (.inr nl2), by omega, ?_⟩
      rw [upd_same, List.replicate_succ']
    rintro H8 ⟨f8, _, g8⟩
    have d8 := d5.fr0 f8
    have h8 := f8.get0 h5
    have npl2 : p ≠ l2 := ne_of_none h5 nl2
    have nlgl2 : A.lg ≠ l2 := by
      obtain ⟨vs, q, _⟩ := d5.lg
      exact ne_of_none q nl2
    have nhol2 : A.ho ≠ l2 := by
      obtain ⟨vs, q, _⟩ := d5.ho
      exact ne_of_none q nl2
    have pr8 : Paired (OptRec K H8) (List.replicate 30 V.non) (List.replicate 30 none) := by
      have : ∀ n, Paired (OptRec K H8) (List.replicate n V.non) (List.replicate n none) := fun n => by
        induction n with
        | zero => exact .nil
        | succ n ih => exact .cons rfl ih
      exact this 30
    -- marks = []
    refine ⟨by decide, fun m nm => ?_⟩
    generalize hH9 : upd H8 m _ = H9
    obtain ⟨f9, g9⟩ := gen_new nm hH9
    have npm : p ≠ m := ne_of_none h8 nm
    have nl2m : l2 ≠ m := ne_of_none g8 nm
    have nlgm : A.lg ≠ m := by
      obtain ⟨vs, q, _⟩ := d8.lg
      exact ne_of_none q nm
    have nhom : A.ho ≠ m := by
      obtain ⟨vs, q, _⟩ := d8.ho
      exact ne_of_none q nm
    have d9 := d8.fr0 f9
    have h9 := f9.get0 h8
    refine ⟨_, rfl, p, fs1, 7, rfl, h9, hf1, by decide, fun Ha n fsa fa ha hfa n0 n1 => ⟨n, rfl, by omega, by omega, for_range (n := n.toNat) (fun i σ H2 => ∃ (us : List V) (ms : List (Int × Mkr)) (fs : List Int) (x6 : Option V), σ = [some (.ref a), some (.ref p), some (.ref dk), some (.ref l2), none, some (.ref m), x6, none, none, none, none] ∧ DiskAt T H2 dk A (List.replicate 24 zero8) (List.replicate 30 none) 0 0 [] ∧ H2 l2 = some (.lst (List.replicate 30 .non)) ∧ Paired (OptRec K H2) (List.replicate 30 V.non) (List.replicate 30 none) ∧ H2 p = some (.lst (fs.map V.int)) ∧ Feed fs ∧ H2 m = some (.lst us) ∧ Paired (MkAt K H2) us ms ∧ ms.length = i ∧ ∀ x ∈ ms, goodM x.2 ∧ 1 ≤ x.2.1 ∧ x.2.1 ≤ 10) ?_ ?_ ?_⟩⟩
    · exact ⟨[], [], fsa, _, rfl, d9.frL fa h9 nlp nhp, fa.get1 (f9.get0 g8) npl2.symm, Paired.mapP pr8 fun _ _ q => OptRec.ts (f9.ts0.trans (fa.ts1 h9 rfl)) q, ha, hfa, fa.get1 g9 npm.symm, .nil, rfl, by simp⟩
    · rintro i σ H2 hi ⟨us, ms, fs, x6, rfl, d2, g2, pr2, hp2, hf2, m2, pm2, hml, hgood⟩
      have ul := pm2.length
      refine ⟨_, rfl, .inl ⟨rfl, _, sq m2⟩, _, rfl, _, _, rfl, rfl, _, rfl, _, rfl, _, _, rfl, rfl, p, fs, 0 + (i : Int) + 1, rfl, hp2, hf2, fun H3 v mk fs3 f3 hp3 hf3 hrec hgm hlot => ⟨(by show 2 ≤ sizeLine; decide), fun t nt => ?_⟩⟩
      have ts3 : TS K H2 H3 := f3.ts1 hp2 rfl
      generalize hH4 : upd H3 t _ = H4
      obtain ⟨f4, g4⟩ := gen_new nt hH4
      have m4 := f4.get0 (f3.get1 m2 npm.symm)
      refine ⟨m, _, _, rfl, rfl, m4, sz (by omega), ?_⟩
      generalize hH5 : upd H4 m _ = H5
      obtain ⟨f5, g5⟩ := gen_upd hH5
      have ts5 : TS K H4 H5 := f5.ts1 m4 rfl
      have ts25 : TS K H2 H5 := (ts3.trans f4.ts0).trans ts5
      refine ⟨_, ms ++ [(29 - (0 + (i : Int)), mk)], fs3, _, rfl, (((d2.frL f3 hp2 nlp nhp).fr0 f4).frL f5 m4 nlgm nhom), f5.get1 (f4.get0 (f3.get1 g2 npl2.symm)) nl2m, Paired.mapP pr2 fun _ _ q => OptRec.ts ts25 q, f5.get1 (f4.get0 hp3) npm, hf3, g5, Paired.snoc (Paired.mapP pm2 fun _ _ q => MkAt.ts ts25 q) ⟨t, v, rfl, ts5 _ _ (sqt g4), (hrec.ts f4.ts0).ts ts5⟩, by simp [hml], ?_⟩
      intro x hx
      rcases List.mem_append.mp hx with q | q
      · exact hgood x q
      · rw [List.mem_singleton.mp q]
        exact ⟨hgm, by show 1 ≤ mk.1; omega, by show mk.1 ≤ 10; omega⟩
    · rintro σ H2 ⟨us, ms, fs, x6, rfl, d2, g2, pr2, hp2, hf2, m2, pm2, hml, hgood⟩
      have ul := pm2.length
      refine ⟨_, rfl, m, rfl, ⟨_, sq m2⟩, for_list (K := K) (a := m) (xs := us) (fun i σ H3 => ∃ (fs : List Int) (log : List (Option Rec)) (la : Int) (ws : List V) (x7 : Option V), σ = [some (.ref a), some (.ref p), some (.ref dk), some (.ref l2), none, some (.ref m), x6, x7, none, none, none] ∧ TS K H2 H3 ∧ H3 m = some (.lst us) ∧ H3 p = some (.lst (fs.map V.int)) ∧ Feed fs ∧ DiskAt T H3 dk A (List.replicate 24 zero8) log 0 la [] ∧ H3 l2 = some (.lst ws) ∧ Paired (OptRec K H3) ws log ∧ log.length = 30 ∧ cpl log) ?_ ?_ ?_ ?_⟩
      · exact ⟨fs, _, 0, _, _, rfl, TS.refl _ _, m2, hp2, hf2, d2, g2, pr2, by simp, fun l b cs hm => by simp [List.mem_replicate] at hm⟩
      · rintro i σ H3 _ ⟨_, _, _, _, _, _, _, h, _⟩
        exact sq h
      · rintro i y σ H3 hi ⟨fs, log, la, ws, x7, rfl, ts3, m3, hp3, hf3, d3, g3, pr3, hlen, hcp⟩
        obtain ⟨x, hx, hmk⟩ := paired_get pm2 hi
        obtain ⟨t, wv, rfl, ht, hrec⟩ := hmk.ts ts3
        have hg := hgood x (List.mem_of_getElem? hx)
        refine ⟨_, rfl, _, rfl, _, rfl, _, rfl, t, _, 1, _, rfl, rfl, ht, rfl, p, dk, l2, wv, A, fs, _, log, 0, la, x.2, ws, rfl, hp3, hf3, d3, g3, pr3, nlgl2, nhol2, nlp, nhp, npl2, hlen, hcp, hrec, hg.1, hg.2.1, hg.2.2, fun H4 la4 ws4 fs4 log4 f4 ts4 hp4 hf4 d4 g4 pr4 hlen4 hcp4 => ?_⟩
        obtain ⟨⟨dx3, o3⟩, _, _, _, _, w3⟩ := id d3
        exact ⟨fs4, log4, la4, ws4, _, rfl, ts3.trans ts4, f4.get m3 (by simp; exact ⟨npm.symm, ne_of m3 o3 (by intro z; cases z), ne_of m3 w3 (by intro z; cases z), nlgm.symm, nl2m.symm⟩), hp4, hf4, d4, g4, pr4, hlen4, hcp4⟩
      · rintro σ H3 ⟨fs, log, la, ws, x7, rfl, ts3, m3, hp3, hf3, d3, g3, pr3, hlen, hcp⟩
        have pm3 := Paired.mapP pm2 fun _ _ q => MkAt.ts ts3 q
        -- home
        refine ⟨24, rfl, by decide, by decide, fun h2 nh2 => lc_range (lo := 0) (n := 24) (fun i H4 => Fr [] H3 H4 ∧ i ≤ 24 ∧ ∃ hs, H4 h2 = some (.lst hs) ∧ Paired (CellsAt K H4) hs (List.replicate i zero8)) ?_ ?_ ?_⟩
        · exact ⟨Fr.new nh2, by decide, [], upd_same, .nil⟩
        · rintro i H4 hi ⟨f4, hi2, hs, g4, hq⟩
          have hqlen := hq.length
          rw [List.length_replicate] at hqlen
          refine ⟨rfl, (by show 8 ≤ sizeLine; decide), fun t nt => ?_⟩
          generalize hH5 : upd H4 t _ = H5
          obtain ⟨f5, g5⟩ := gen_new nt hH5
          have h5 := f5.get0 g4
          refine ⟨_, h5, sz (by omega), ?_⟩
          refine ⟨(f4.up0 f5).up1 Fr.mut (.inr nh2), by omega, _, upd_same, ?_⟩
          have ts : TS K H4 (upd H5 h2 (.lst (hs ++ [.ref t]))) := f5.ts0.trans (Fr.ts1 Fr.mut h5 rfl)
          rw [List.replicate_succ']
          refine Paired.snoc (Paired.mapP hq fun _ _ q => q.ts ts) ⟨t, rfl, ?_⟩
          exact Fr.ts1 (K := K) Fr.mut h5 rfl _ _ (sqt g5)
        rintro H4 ⟨f4, _, hs4, g4, hq4⟩
        have nph2 : p ≠ h2 := ne_of_none hp3 nh2
        have nmh2 : m ≠ h2 := ne_of_none m3 nh2
        have nl2h2 : l2 ≠ h2 := ne_of_none g3 nh2
        have nlgh2 : A.lg ≠ h2 := by
          obtain ⟨vs, q, _⟩ := d3.lg
          exact ne_of_none q nh2
        have nhoh2 : A.ho ≠ h2 := by
          obtain ⟨vs, q, _⟩ := d3.ho
          exact ne_of_none q nh2
        refine ⟨10, 17, rfl, ⟨by decide, by decide, by decide, by decide⟩, for_range (lo := 10) (n := 7) (fun i σ H5 => ∃ (fs : List Int) (la : Int) (hs : List V) (home : List (List Int)) (x9 : Option V), σ = [some (.ref a), some (.ref p), some (.ref dk), some (.ref l2), none, some (.ref m), x6, x7, some (.ref h2), x9, none] ∧ TS K H4 H5 ∧ H5 m = some (.lst us) ∧ H5 p = some (.lst (fs.map V.int)) ∧ Feed fs ∧ DiskAt T H5 dk A home log 0 la [] ∧ H5 l2 = some (.lst ws) ∧ H5 h2 = some (.lst hs) ∧ Paired (CellsAt K H5) hs home ∧ home.length = 24 ∧ ∀ cs ∈ home, cs.length ≤ 1000) ?_ ?_ ?_⟩
        · exact ⟨fs, la, hs4, _, _, rfl, TS.refl _ _, f4.get0 m3, f4.get0 hp3, hf3, d3.fr0 f4, f4.get0 g3, g4, hq4, by simp, fun cs hm => by rw [(List.mem_replicate.mp hm).2]; decide⟩
        · rintro i σ H5 hi ⟨fs, la, hs, home, x9, rfl, ts5, m5, hp5, hf5, d5, l5, g5, ph5, hhl, hcl⟩
          have hsl := ph5.length
          refine ⟨_, rfl, _, rfl, p, fs, 10 + (i : Int), rfl, hp5, hf5, by omega, by omega, fun H6 tc cs fs6 f6 hp6 hf6 hcs hrow => ?_⟩
          have ts6 : TS K H5 H6 := f6.ts1 hp5 rfl
          have g6 := f6.get1 g5 nph2.symm
          refine ⟨_, rfl, _, rfl, h2, hs, 10 + (i : Int), (10 + (i : Int)).toNat, rfl, rfl, g6, by unfold ixN; rw [if_pos (by omega), if_pos (by omega)], ?_⟩
          generalize hH7 : upd H6 h2 _ = H7
          obtain ⟨f7, g7⟩ := gen_upd hH7
          have ts7 : TS K H6 H7 := f7.ts1 g6 rfl
          have d7 := (d5.frL f6 hp5 nlp nhp).frL f7 g6 nlgh2 nhoh2
          have hcs7 := ts7 _ _ hcs
          have ph7 : Paired (CellsAt K H7) (hs.set (10 + (i : Int)).toNat (.ref tc)) (home.set (10 + (i : Int)).toNat cs) := paired_set (Paired.mapP ph5 fun _ _ q => (q.ts ts6).ts ts7) ⟨tc, rfl, hcs7⟩
          obtain ⟨⟨dx7, o7⟩, _⟩ := id d7
          refine ⟨_, rfl, dk, dx7, _, rfl, o7, no_Disk_sure, _, rfl, dk, dx7, _, rfl, o7, no_Disk_issue, _, rfl, (by show 2 ≤ sizeLine; decide), fun tp ntp => ?_⟩
          generalize hH8 : upd H7 tp _ = H8
          obtain ⟨f8, g8⟩ := gen_new ntp hH8
          have d8 := d7.fr0 f8
          have g8h := f8.get0 g7
          refine ⟨_, rfl, _, rfl, h2, _, 10 + (i : Int), .ref tc, rfl, rfl, sq g8h, at_i (by omega) (by rw [List.getElem?_set_self (by omega)]), ?_⟩
          refine ⟨dk, tp, tc, A, home, log, 0, la, 10 + (i : Int), cs, rfl, d8, sqt g8, by omega, by omega, f8.tup0 hcs7, hrow, fun H9 tw f9 st9 d9 ts9 => ?_⟩
          refine ⟨dk, tp, tw, tc, A, home, log, 0, la + 1, 10 + (i : Int), la + 1, cs, rfl, d9, st9, ts9 _ _ (sqt g8), by omega, by omega, ts9 _ _ (f8.tup0 hcs7), fun Ha fa da tsa => ?_⟩
          obtain ⟨⟨dx8, o8⟩, _, _, _, _, w8⟩ := id d8
          obtain ⟨_, _, _, _, _, w9⟩ := id d9
          have kp : ∀ {x : Addr} {xs : List V}, H8 x = some (.lst xs) → x ≠ A.ho → Ha x = some (.lst xs) := fun hx ne => by
            have h9 := f9.get hx (by simp; exact ⟨ne_of hx o8 (by intro z; cases z), ne_of hx w8 (by intro z; cases z)⟩)
            exact fa.get h9 (by simp; exact ⟨ne_of h9 w9 (by intro z; cases z), ne⟩)
          have ts8a : TS K H7 Ha := (f8.ts0.trans ts9).trans tsa
          have m8 := f8.get0 (f7.get1 (f6.get1 m5 npm.symm) nmh2)
          have p8 := f8.get0 (f7.get1 hp6 nph2)
          have l8 := f8.get0 (f7.get1 (f6.get1 l5 npl2.symm) nl2h2)
          refine ⟨fs6, _, _, _, _, rfl, ((ts5.trans ts6).trans ts7).trans ts8a, kp m8 nhom.symm, kp p8 nhp.symm, hf6, da, kp l8 nhol2.symm, kp g8h nhoh2.symm, Paired.mapP ph7 fun _ _ q => q.ts ts8a, by simp [hhl], ?_⟩
          intro c hc
          rcases List.mem_or_eq_of_mem_set hc with q | q
          · exact hcl c q
          · rw [q, row8 hrow]
            decide
        · rintro σ H5 ⟨fs, la, hs, home, x9, rfl, ts5, m5, hp5, hf5, d5, l5, g5, ph5, hhl, hcl⟩
          have pr5 := Paired.mapP pr3 fun _ _ q => OptRec.ts ((f4.ts0 (K := K)).trans ts5) q
          have pm5 := Paired.mapP pm3 fun _ _ q => MkAt.ts ((f4.ts0 (K := K)).trans ts5) q
          have hmsl : ∀ x ∈ ms.map (·.2), ∀ p ∈ x.2.1, -1 ≤ p.2 ∧ p.2 ≤ 29 := by
            intro x hx p hp
            obtain ⟨y, hy, rfl⟩ := List.mem_map.mp hx
            have := (hgood y hy).1.2.2 p hp
            exact ⟨this.2.2.1, this.2.2.2⟩
          refine ⟨9, 18, rfl, ⟨by decide, by decide, by decide, by decide⟩, for_range (lo := 9) (n := 9) (fun i σ H6 => Fr [] H5 H6 ∧ ∃ x9 x10, σ = [some (.ref a), some (.ref p), some (.ref dk), some (.ref l2), none, some (.ref m), x6, x7, some (.ref h2), x9, x10]) ?_ ?_ ?_⟩
          · exact ⟨Fr.refl _ _, _, _, rfl⟩
          · rintro i σ H6 hi ⟨f6, x9, x10, rfl⟩
            refine ⟨(by show 2 ≤ sizeLine; decide), fun bl nbl => ?_⟩
            generalize hH7 : upd H6 bl _ = H7
            obtain ⟨f7, g7⟩ := gen_new nbl hH7
            refine ⟨bl, rfl, ⟨_, sq g7⟩, for_list (K := K) (a := bl) (xs := [V.bl true, V.bl false]) (fun j σ H8 => Fr [] H5 H8 ∧ H8 bl = some (.lst [V.bl true, V.bl false]) ∧ ∃ x10, σ = [some (.ref a), some (.ref p), some (.ref dk), some (.ref l2), none, some (.ref m), x6, x7, some (.ref h2), some (.int (9 + (i : Int))), x10]) ?_ ?_ ?_ ?_⟩
            · exact ⟨f6.up0 f7, g7, _, rfl⟩
            · rintro j σ H8 _ ⟨_, h, _⟩
              exact sq h
            · rintro j y σ H8 hj ⟨f8, b8, x10, rfl⟩
              obtain ⟨g, rfl⟩ : ∃ g, y = V.bl g := by
                match j, hj with
                | 0, h => cases h; exact ⟨_, rfl⟩
                | 1, h => cases h; exact ⟨_, rfl⟩
              refine ⟨_, rfl, _, rfl, _, rfl, _, rfl, _, rfl, _, rfl, dk, m, l2, h2, A, us, ws, hs, ms, home, log, 0, la, [], 9 + (i : Int), g, rfl, d5.fr0 f8, f8.get0 m5, Paired.mapP pm5 fun _ _ q => MkAt.ts f8.ts0 q, by omega, hmsl, f8.get0 l5, Paired.mapP pr5 fun _ _ q => OptRec.ts f8.ts0 q, hlen, f8.get0 g5, Paired.mapP ph5 fun _ _ q => CellsAt.ts f8.ts0 q, by omega, by omega, hcl, hcp, fun H9 f9 => ⟨_, rfl, iteF ?_⟩⟩
              have f59 := f8.up0 f9
              refine ⟨_, rfl, by decide, fun em nem => ?_⟩
              generalize hHa : upd H9 em _ = Ha
              obtain ⟨fa, ga⟩ := gen_new nem hHa
              have f5a := f59.up0 fa
              refine ⟨_, rfl, _, rfl, _, rfl, _, rfl, dk, em, l2, h2, A, [], ws, hs, [], home, log, 0, la, [], 9 + (i : Int), g, rfl, d5.fr0 f5a, ga, .nil, by decide, by simp, f5a.get0 l5, Paired.mapP pr5 fun _ _ q => OptRec.ts f5a.ts0 q, hlen, f5a.get0 g5, Paired.mapP ph5 fun _ _ q => CellsAt.ts f5a.ts0 q, by omega, by omega, hcl, hcp, fun Hb fb => ⟨_, rfl, iteF ?_⟩⟩
              exact ⟨f5a.up0 fb, fb.get0 (fa.get0 (f9.get0 b8)), _, rfl⟩
            · rintro σ H8 ⟨f8, _, x10, rfl⟩
              exact ⟨f8, _, _, rfl⟩
          · rintro σ H6 ⟨f6, x9, x10, rfl⟩
            have d6 := d5.fr0 f6
            obtain ⟨⟨dx6, o6⟩, _, ⟨lv, hlv, plv⟩, ⟨hv, hhv, phv⟩, _, _⟩ := id d6
            refine ⟨_, rfl, dk, _, dx6, _, _, rfl, o6, T.C_Disk, T.n_Disk_log, lk_Disk_log, A.lg, _, rfl, .inl (sq hlv), fun t nt => ?_⟩
            generalize hH7 : upd H6 t _ = H7
            obtain ⟨f7, g7⟩ := gen_new nt hH7
            have f57 := f6.up0 f7
            have sh : Sh 64 (.list (log.map optData)) := (Sh.lst (n := 4) (.map optSh)).mono (by decide)
            refine ⟨_, rfl, .list (log.map optData), .list (log.map optData), .lst (sq g7) (dp_paired (fun v o q => OptRec.dp (q.ts f7.ts0)) plv), .lst (sq (f57.get0 l5)) (dp_paired (fun v o q => OptRec.dp (q.ts f57.ts0)) pr5), sh.shaped, sh.shaped, _, rfl, ?_⟩
            rw [SeqAt.eqv_refl _ sh.1]
            refine iteT ?_
            refine ⟨_, rfl, dk, _, dx6, _, _, rfl, f7.get0 o6, T.C_Disk, T.n_Disk_home, lk_Disk_home, A.ho, _, rfl, .inl (sq (f7.get0 hhv)), fun t2 nt2 => ?_⟩
            generalize hH8 : upd H7 t2 _ = H8
            obtain ⟨f8, g8⟩ := gen_new nt2 hH8
            have f58 := f57.up0 f8
            have sh2 : Sh 64 (.list (home.map fun cs => .tuple (cs.map PyData.int))) := (Sh.lst (n := 1) (.map fun cs => Sh.tup (n := 0) (.map fun _ => .int _))).mono (by decide)
            refine ⟨_, rfl, .list (home.map fun cs => .tuple (cs.map PyData.int)), .list (home.map fun cs => .tuple (cs.map PyData.int)), .lst (sq g8) (dp_paired (fun v o q => CellsAt.dp (q.ts (f7.up0 f8).ts0)) phv), .lst (sq (f58.get0 g5)) (dp_paired (fun v o q => CellsAt.dp (q.ts f58.ts0)) ph5), sh2.shaped, sh2.shaped, ?_⟩
            rw [SeqAt.eqv_refl _ sh2.1]
            exact k H8
end
theorem Vals.app {vs zs : List V} {us ws : List Value} (h : Vals vs us) (k : Vals zs ws) : Vals (vs ++ zs) (us ++ ws) := by
  induction h with
  | nil => exact k
  | cons r _ ih => exact .cons r ih
theorem fun_kbn {K : PySem.W.Frag} {x qual : Str} {st : Stmt} {f : Addr} {fd : FuncData} {ps ks : List Str} {n : Nat} (F : Fun K x qual st f fd)
    (h : ∀ (kV doc pm : Value) (an : Option Addr) (cdv ct : Value) (us ws : List Value), us.length = n → ws.length = ks.length → bindArgs (PySem.W.fnOf x qual (defArgs st) (defBody st) (defScope st) .none kV doc pm an cdv ct) ⟨us, ks.zip ws⟩ = pure (ps.zip (us ++ ws))) :
    KBn K fd ps n ks (fun us ws => us ++ ws) (fun vs zs => vs ++ zs) := by
  obtain ⟨oc, od, kV, doc, pm, an, cdv, ct, osl, rfl, lk, hcd⟩ := F.ex
  exact ⟨fun s us ws _ l1 l2 => .of_eq (h kV doc pm an cdv ct us ws l1 l2), fun r1 r2 => Vals.app r1 r2⟩
theorem txt_mk {K : PySem.W.Frag} {h : Heap} {mg : Str → Option Value} (X : K.In h) (G : h.Ns mainGlobals mg)
    {c_Disk : Addr}
    {c_Plan : Addr}
    {f0 : Addr} {od0 an0 : Option Addr} {sl0 : Array (Option Value)} {oc0 kV0 dc0 pm0 cd0 ct0 : Value}
    {f1 : Addr} {od1 an1 : Option Addr} {sl1 : Array (Option Value)} {oc1 kV1 dc1 pm1 cd1 ct1 : Value}
    {f2 : Addr} {od2 an2 : Option Addr} {sl2 : Array (Option Value)} {oc2 kV2 dc2 pm2 cd2 ct2 : Value}
    {f3 : Addr} {od3 an3 : Option Addr} {sl3 : Array (Option Value)} {oc3 kV3 dc3 pm3 cd3 ct3 : Value}
    {f4 : Addr} {od4 an4 : Option Addr} {sl4 : Array (Option Value)} {oc4 kV4 dc4 pm4 cd4 ct4 : Value}
    {f5 : Addr} {od5 an5 : Option Addr} {sl5 : Array (Option Value)} {oc5 kV5 dc5 pm5 cd5 ct5 : Value}
    {f6 : Addr} {od6 an6 : Option Addr} {sl6 : Array (Option Value)} {oc6 kV6 dc6 pm6 cd6 ct6 : Value}
    {f7 : Addr} {od7 an7 : Option Addr} {sl7 : Array (Option Value)} {oc7 kV7 dc7 pm7 cd7 ct7 : Value}
    {f8 : Addr} {od8 an8 : Option Addr} {sl8 : Array (Option Value)} {oc8 kV8 dc8 pm8 cd8 ct8 : Value}
    {f9 : Addr} {od9 an9 : Option Addr} {sl9 : Array (Option Value)} {oc9 kV9 dc9 pm9 cd9 ct9 : Value}
    {f10 : Addr} {od10 an10 : Option Addr} {sl10 : Array (Option Value)} {oc10 kV10 dc10 pm10 cd10 ct10 : Value}
    {f11 : Addr} {od11 an11 : Option Addr} {sl11 : Array (Option Value)} {oc11 kV11 dc11 pm11 cd11 ct11 : Value}
    {f12 : Addr} {od12 an12 : Option Addr} {sl12 : Array (Option Value)} {oc12 kV12 dc12 pm12 cd12 ct12 : Value}
    {f13 : Addr} {od13 an13 : Option Addr} {sl13 : Array (Option Value)} {oc13 kV13 dc13 pm13 cd13 ct13 : Value}
    {f14 : Addr} {od14 an14 : Option Addr} {sl14 : Array (Option Value)} {oc14 kV14 dc14 pm14 cd14 ct14 : Value}
    {f15 : Addr} {od15 an15 : Option Addr} {sl15 : Array (Option Value)} {oc15 kV15 dc15 pm15 cd15 ct15 : Value}
    {f16 : Addr} {od16 an16 : Option Addr} {sl16 : Array (Option Value)} {oc16 kV16 dc16 pm16 cd16 ct16 : Value}
    {f17 : Addr} {od17 an17 : Option Addr} {sl17 : Array (Option Value)} {oc17 kV17 dc17 pm17 cd17 ct17 : Value}
    {f18 : Addr} {od18 an18 : Option Addr} {sl18 : Array (Option Value)} {oc18 kV18 dc18 pm18 cd18 ct18 : Value}
    {f19 : Addr} {od19 an19 : Option Addr} {sl19 : Array (Option Value)} {oc19 kV19 dc19 pm19 cd19 ct19 : Value}
    {f20 : Addr} {od20 an20 : Option Addr} {sl20 : Array (Option Value)} {oc20 kV20 dc20 pm20 cd20 ct20 : Value}
    {f21 : Addr} {od21 an21 : Option Addr} {sl21 : Array (Option Value)} {oc21 kV21 dc21 pm21 cd21 ct21 : Value}
    {f22 : Addr} {od22 an22 : Option Addr} {sl22 : Array (Option Value)} {oc22 kV22 dc22 pm22 cd22 ct22 : Value}
    {f23 : Addr} {od23 an23 : Option Addr} {sl23 : Array (Option Value)} {oc23 kV23 dc23 pm23 cd23 ct23 : Value}
    {f24 : Addr} {od24 an24 : Option Addr} {sl24 : Array (Option Value)} {oc24 kV24 dc24 pm24 cd24 ct24 : Value}
    {f25 : Addr} {od25 an25 : Option Addr} {sl25 : Array (Option Value)} {oc25 kV25 dc25 pm25 cd25 ct25 : Value}
    {f26 : Addr} {od26 an26 : Option Addr} {sl26 : Array (Option Value)} {oc26 kV26 dc26 pm26 cd26 ct26 : Value}
    {f27 : Addr} {od27 an27 : Option Addr} {sl27 : Array (Option Value)} {oc27 kV27 dc27 pm27 cd27 ct27 : Value}
    {f28 : Addr} {od28 an28 : Option Addr} {sl28 : Array (Option Value)} {oc28 kV28 dc28 pm28 cd28 ct28 : Value}
    {t_MOST_CELL : Tok}
    {t_MOST_LOT : Tok}
    {t_LAST_BLOCK : Tok}
    {t_LAST_SLOT : Tok}
    {t_NO_SLOT : Tok}
    {aN : Addr} {dN : Option Addr} {nN : Nat} {slN : Array (Option Value)} {u0 u1 u2 u3 u4 u5 u6 u7 : Tok}
    (aC_Disk : PySem.W.nsIn K mainGlobals "Disk" = some (some (.ref c_Disk)))
    (pg_Disk : PySem.W.plainGet K c_Disk Str.empty = true)
    (hd_Disk : PySem.W.hasDictIn K c_Disk = true)
    (po_Disk : PySem.W.plainOver K c_Disk = true)
    (sa_Disk : PySem.W.findIn K (.ref c_Disk) "__setattr__" = some (some (.builtin "object.__setattr__")))
    (mk_Disk : PySem.W.makesIn K c_Disk = true)
    (kc_Disk : PySem.W.keepIn K (.ref c_Disk) = true)
    (nf_Disk_plan : PySem.W.findIn K (.ref c_Disk) "plan" = some none)
    (nf_Disk_home : PySem.W.findIn K (.ref c_Disk) "home" = some none)
    (nf_Disk_log : PySem.W.findIn K (.ref c_Disk) "log" = some none)
    (nf_Disk_head : PySem.W.findIn K (.ref c_Disk) "head" = some none)
    (nf_Disk_last : PySem.W.findIn K (.ref c_Disk) "last" = some none)
    (nf_Disk_writes : PySem.W.findIn K (.ref c_Disk) "_writes" = some none)
    (aC_Plan : PySem.W.nsIn K mainGlobals "Plan" = some (some (.ref c_Plan)))
    (pg_Plan : PySem.W.plainGet K c_Plan Str.empty = true)
    (hd_Plan : PySem.W.hasDictIn K c_Plan = true)
    (po_Plan : PySem.W.plainOver K c_Plan = true)
    (sa_Plan : PySem.W.findIn K (.ref c_Plan) "__setattr__" = some (some (.builtin "object.__setattr__")))
    (mk_Plan : PySem.W.makesIn K c_Plan = true)
    (kc_Plan : PySem.W.keepIn K (.ref c_Plan) = true)
    (nf_Plan_blocks : PySem.W.findIn K (.ref c_Plan) "blocks" = some none)
    (nf_Plan_nodes : PySem.W.findIn K (.ref c_Plan) "nodes" = some none)
    (nf_Plan_slots : PySem.W.findIn K (.ref c_Plan) "slots" = some none)
    (nf_Plan_maps : PySem.W.findIn K (.ref c_Plan) "maps" = some none)
    (nf_Plan_first_node : PySem.W.findIn K (.ref c_Plan) "first_node" = some none)
    (nf_Plan_first_data : PySem.W.findIn K (.ref c_Plan) "first_data" = some none)
    (a0 : PySem.W.nsIn K mainGlobals "live_copy" = some (some (.ref f0)))
    (l0 : K.lookup f0 = some ⟨oc0, od0, .func (PySem.W.fnOf "live_copy" "live_copy" (defArgs s_live_copy) (defBody s_live_copy) (defScope s_live_copy) .none kV0 dc0 pm0 an0 cd0 ct0), sl0⟩)
    (c0 : PySem.W.codeIn K cd0 "live_copy" = true)
    (k0 : PySem.W.keepIn K (.ref f0) = true)
    (a1 : PySem.W.nsIn K mainGlobals "cells_after" = some (some (.ref f1)))
    (l1 : K.lookup f1 = some ⟨oc1, od1, .func (PySem.W.fnOf "cells_after" "cells_after" (defArgs s_cells_after) (defBody s_cells_after) (defScope s_cells_after) .none kV1 dc1 pm1 an1 cd1 ct1), sl1⟩)
    (c1 : PySem.W.codeIn K cd1 "cells_after" = true)
    (k1 : PySem.W.keepIn K (.ref f1) = true)
    (a2 : PySem.W.nsIn K mainGlobals "is_within" = some (some (.ref f2)))
    (l2 : K.lookup f2 = some ⟨oc2, od2, .func (PySem.W.fnOf "is_within" "is_within" (defArgs s_is_within) (defBody s_is_within) (defScope s_is_within) .none kV2 dc2 pm2 an2 cd2 ct2), sl2⟩)
    (c2 : PySem.W.codeIn K cd2 "is_within" = true)
    (k2 : PySem.W.keepIn K (.ref f2) = true)
    (a3 : PySem.W.nsIn K mainGlobals "is_row_of_cells" = some (some (.ref f3)))
    (l3 : K.lookup f3 = some ⟨oc3, od3, .func (PySem.W.fnOf "is_row_of_cells" "is_row_of_cells" (defArgs s_is_row_of_cells) (defBody s_is_row_of_cells) (defScope s_is_row_of_cells) .none kV3 dc3 pm3 an3 cd3 ct3), sl3⟩)
    (c3 : PySem.W.codeIn K cd3 "is_row_of_cells" = true)
    (k3 : PySem.W.keepIn K (.ref f3) = true)
    (a4 : PySem.W.nsIn K mainGlobals "are_blocks" = some (some (.ref f4)))
    (l4 : K.lookup f4 = some ⟨oc4, od4, .func (PySem.W.fnOf "are_blocks" "are_blocks" (defArgs s_are_blocks) (defBody s_are_blocks) (defScope s_are_blocks) .none kV4 dc4 pm4 an4 cd4 ct4), sl4⟩)
    (c4 : PySem.W.codeIn K cd4 "are_blocks" = true)
    (k4 : PySem.W.keepIn K (.ref f4) = true)
    (a5 : PySem.W.nsIn K mainGlobals "are_copies" = some (some (.ref f5)))
    (l5 : K.lookup f5 = some ⟨oc5, od5, .func (PySem.W.fnOf "are_copies" "are_copies" (defArgs s_are_copies) (defBody s_are_copies) (defScope s_are_copies) .none kV5 dc5 pm5 an5 cd5 ct5), sl5⟩)
    (c5 : PySem.W.codeIn K cd5 "are_copies" = true)
    (k5 : PySem.W.keepIn K (.ref f5) = true)
    (a6 : PySem.W.nsIn K mainGlobals "check_record" = some (some (.ref f6)))
    (l6 : K.lookup f6 = some ⟨oc6, od6, .func (PySem.W.fnOf "check_record" "check_record" (defArgs s_check_record) (defBody s_check_record) (defScope s_check_record) .none kV6 dc6 pm6 an6 cd6 ct6), sl6⟩)
    (c6 : PySem.W.codeIn K cd6 "check_record" = true)
    (k6 : PySem.W.keepIn K (.ref f6) = true)
    (a7 : PySem.W.nsIn K mainGlobals "fits_plan" = some (some (.ref f7)))
    (l7 : K.lookup f7 = some ⟨oc7, od7, .func (PySem.W.fnOf "fits_plan" "fits_plan" (defArgs s_fits_plan) (defBody s_fits_plan) (defScope s_fits_plan) .none kV7 dc7 pm7 an7 cd7 ct7), sl7⟩)
    (c7 : PySem.W.codeIn K cd7 "fits_plan" = true)
    (k7 : PySem.W.keepIn K (.ref f7) = true)
    (a8 : PySem.W.nsIn K mainGlobals "is_place" = some (some (.ref f8)))
    (l8 : K.lookup f8 = some ⟨oc8, od8, .func (PySem.W.fnOf "is_place" "is_place" (defArgs s_is_place) (defBody s_is_place) (defScope s_is_place) .none kV8 dc8 pm8 an8 cd8 ct8), sl8⟩)
    (c8 : PySem.W.codeIn K cd8 "is_place" = true)
    (k8 : PySem.W.keepIn K (.ref f8) = true)
    (a9 : PySem.W.nsIn K mainGlobals "home_content" = some (some (.ref f9)))
    (l9 : K.lookup f9 = some ⟨oc9, od9, .func (PySem.W.fnOf "home_content" "home_content" (defArgs s_home_content) (defBody s_home_content) (defScope s_home_content) .none kV9 dc9 pm9 an9 cd9 ct9), sl9⟩)
    (c9 : PySem.W.codeIn K cd9 "home_content" = true)
    (k9 : PySem.W.keepIn K (.ref f9) = true)
    (a10 : PySem.W.nsIn K mainGlobals "log_content" = some (some (.ref f10)))
    (l10 : K.lookup f10 = some ⟨oc10, od10, .func (PySem.W.fnOf "log_content" "log_content" (defArgs s_log_content) (defBody s_log_content) (defScope s_log_content) .none kV10 dc10 pm10 an10 cd10 ct10), sl10⟩)
    (c10 : PySem.W.codeIn K cd10 "log_content" = true)
    (k10 : PySem.W.keepIn K (.ref f10) = true)
    (a11 : PySem.W.nsIn K mainGlobals "_law_feed" = some (some (.ref f11)))
    (l11 : K.lookup f11 = some ⟨oc11, od11, .func (PySem.W.fnOf "_law_feed" "_law_feed" (defArgs s_law_feed) (defBody s_law_feed) (defScope s_law_feed) .none kV11 dc11 pm11 an11 cd11 ct11), sl11⟩)
    (c11 : PySem.W.codeIn K cd11 "_law_feed" = true)
    (k11 : PySem.W.keepIn K (.ref f11) = true)
    (a12 : PySem.W.nsIn K mainGlobals "_law_pick" = some (some (.ref f12)))
    (l12 : K.lookup f12 = some ⟨oc12, od12, .func (PySem.W.fnOf "_law_pick" "_law_pick" (defArgs s_law_pick) (defBody s_law_pick) (defScope s_law_pick) .none kV12 dc12 pm12 an12 cd12 ct12), sl12⟩)
    (c12 : PySem.W.codeIn K cd12 "_law_pick" = true)
    (k12 : PySem.W.keepIn K (.ref f12) = true)
    (a13 : PySem.W.nsIn K mainGlobals "_law_cells" = some (some (.ref f13)))
    (l13 : K.lookup f13 = some ⟨oc13, od13, .func (PySem.W.fnOf "_law_cells" "_law_cells" (defArgs s_law_cells) (defBody s_law_cells) (defScope s_law_cells) .none kV13 dc13 pm13 an13 cd13 ct13), sl13⟩)
    (c13 : PySem.W.codeIn K cd13 "_law_cells" = true)
    (k13 : PySem.W.keepIn K (.ref f13) = true)
    (a14 : PySem.W.nsIn K mainGlobals "_law_mark" = some (some (.ref f14)))
    (l14 : K.lookup f14 = some ⟨oc14, od14, .func (PySem.W.fnOf "_law_mark" "_law_mark" (defArgs s_law_mark) (defBody s_law_mark) (defScope s_law_mark) .none kV14 dc14 pm14 an14 cd14 ct14), sl14⟩)
    (c14 : PySem.W.codeIn K cd14 "_law_mark" = true)
    (k14 : PySem.W.keepIn K (.ref f14) = true)
    (a15 : PySem.W.nsIn K mainGlobals "_law_put" = some (some (.ref f15)))
    (l15 : K.lookup f15 = some ⟨oc15, od15, .func (PySem.W.fnOf "_law_put" "_law_put" (defArgs s_law_put) (defBody s_law_put) (defScope s_law_put) .none kV15 dc15 pm15 an15 cd15 ct15), sl15⟩)
    (c15 : PySem.W.codeIn K cd15 "_law_put" = true)
    (k15 : PySem.W.keepIn K (.ref f15) = true)
    (a16 : PySem.W.nsIn K mainGlobals "_law_fill" = some (some (.ref f16)))
    (l16 : K.lookup f16 = some ⟨oc16, od16, .func (PySem.W.fnOf "_law_fill" "_law_fill" (defArgs s_law_fill) (defBody s_law_fill) (defScope s_law_fill) .none kV16 dc16 pm16 an16 cd16 ct16), sl16⟩)
    (c16 : PySem.W.codeIn K cd16 "_law_fill" = true)
    (k16 : PySem.W.keepIn K (.ref f16) = true)
    (a17 : PySem.W.nsIn K mainGlobals "_law_struck" = some (some (.ref f17)))
    (l17 : K.lookup f17 = some ⟨oc17, od17, .func (PySem.W.fnOf "_law_struck" "_law_struck" (defArgs s_law_struck) (defBody s_law_struck) (defScope s_law_struck) .none kV17 dc17 pm17 an17 cd17 ct17), sl17⟩)
    (c17 : PySem.W.codeIn K cd17 "_law_struck" = true)
    (k17 : PySem.W.keepIn K (.ref f17) = true)
    (a18 : PySem.W.nsIn K mainGlobals "_law_due" = some (some (.ref f18)))
    (l18 : K.lookup f18 = some ⟨oc18, od18, .func (PySem.W.fnOf "_law_due" "_law_due" (defArgs s_law_due) (defBody s_law_due) (defScope s_law_due) .none kV18 dc18 pm18 an18 cd18 ct18), sl18⟩)
    (c18 : PySem.W.codeIn K cd18 "_law_due" = true)
    (k18 : PySem.W.keepIn K (.ref f18) = true)
    (a19 : PySem.W.nsIn K mainGlobals "_law_due_cells" = some (some (.ref f19)))
    (l19 : K.lookup f19 = some ⟨oc19, od19, .func (PySem.W.fnOf "_law_due_cells" "_law_due_cells" (defArgs s_law_due_cells) (defBody s_law_due_cells) (defScope s_law_due_cells) .none kV19 dc19 pm19 an19 cd19 ct19), sl19⟩)
    (c19 : PySem.W.codeIn K cd19 "_law_due_cells" = true)
    (k19 : PySem.W.keepIn K (.ref f19) = true)
    (a20 : PySem.W.nsIn K mainGlobals "_law_numbers" = some (some (.ref f20)))
    (l20 : K.lookup f20 = some ⟨oc20, od20, .func (PySem.W.fnOf "_law_numbers" "_law_numbers" (defArgs s_law_numbers) (defBody s_law_numbers) (defScope s_law_numbers) .none kV20 dc20 pm20 an20 cd20 ct20), sl20⟩)
    (c20 : PySem.W.codeIn K cd20 "_law_numbers" = true)
    (k20 : PySem.W.keepIn K (.ref f20) = true)
    (a21 : PySem.W.nsIn K mainGlobals "_law_agrees" = some (some (.ref f21)))
    (l21 : K.lookup f21 = some ⟨oc21, od21, .func (PySem.W.fnOf "_law_agrees" "_law_agrees" (defArgs s_law_agrees) (defBody s_law_agrees) (defScope s_law_agrees) .none kV21 dc21 pm21 an21 cd21 ct21), sl21⟩)
    (c21 : PySem.W.codeIn K cd21 "_law_agrees" = true)
    (k21 : PySem.W.keepIn K (.ref f21) = true)
    (a22 : PySem.W.nsIn K mainGlobals "law" = some (some (.ref f22)))
    (l22 : K.lookup f22 = some ⟨oc22, od22, .func (PySem.W.fnOf "law" "law" (defArgs s_law) (defBody s_law) (defScope s_law) .none kV22 dc22 pm22 an22 cd22 ct22), sl22⟩)
    (c22 : PySem.W.codeIn K cd22 "law" = true)
    (k22 : PySem.W.keepIn K (.ref f22) = true)
    (a23 : PySem.W.findIn K (.ref c_Disk) "__init__" = some (some (.ref f23)))
    (i23 : PySem.W.isFn K (.ref f23) = true)
    (l23 : K.lookup f23 = some ⟨oc23, od23, .func (PySem.W.fnOf "__init__" "Disk.__init__" (defArgs s_Disk_init) (defBody s_Disk_init) (defScope s_Disk_init) .none kV23 dc23 pm23 an23 cd23 ct23), sl23⟩)
    (c23 : PySem.W.codeIn K cd23 "Disk.__init__" = true)
    (k23 : PySem.W.keepIn K (.ref f23) = true)
    (a24 : PySem.W.findIn K (.ref c_Disk) "issue" = some (some (.ref f24)))
    (i24 : PySem.W.isFn K (.ref f24) = true)
    (l24 : K.lookup f24 = some ⟨oc24, od24, .func (PySem.W.fnOf "issue" "Disk.issue" (defArgs s_Disk_issue) (defBody s_Disk_issue) (defScope s_Disk_issue) .none kV24 dc24 pm24 an24 cd24 ct24), sl24⟩)
    (c24 : PySem.W.codeIn K cd24 "Disk.issue" = true)
    (k24 : PySem.W.keepIn K (.ref f24) = true)
    (a25 : PySem.W.findIn K (.ref c_Disk) "busy" = some (some (.ref f25)))
    (i25 : PySem.W.isFn K (.ref f25) = true)
    (l25 : K.lookup f25 = some ⟨oc25, od25, .func (PySem.W.fnOf "busy" "Disk.busy" (defArgs s_Disk_busy) (defBody s_Disk_busy) (defScope s_Disk_busy) .none kV25 dc25 pm25 an25 cd25 ct25), sl25⟩)
    (c25 : PySem.W.codeIn K cd25 "Disk.busy" = true)
    (k25 : PySem.W.keepIn K (.ref f25) = true)
    (a26 : PySem.W.findIn K (.ref c_Disk) "_put" = some (some (.ref f26)))
    (i26 : PySem.W.isFn K (.ref f26) = true)
    (l26 : K.lookup f26 = some ⟨oc26, od26, .func (PySem.W.fnOf "_put" "Disk._put" (defArgs s_Disk_put) (defBody s_Disk_put) (defScope s_Disk_put) .none kV26 dc26 pm26 an26 cd26 ct26), sl26⟩)
    (c26 : PySem.W.codeIn K cd26 "Disk._put" = true)
    (k26 : PySem.W.keepIn K (.ref f26) = true)
    (a27 : PySem.W.findIn K (.ref c_Disk) "sure" = some (some (.ref f27)))
    (i27 : PySem.W.isFn K (.ref f27) = true)
    (l27 : K.lookup f27 = some ⟨oc27, od27, .func (PySem.W.fnOf "sure" "Disk.sure" (defArgs s_Disk_sure) (defBody s_Disk_sure) (defScope s_Disk_sure) .none kV27 dc27 pm27 an27 cd27 ct27), sl27⟩)
    (c27 : PySem.W.codeIn K cd27 "Disk.sure" = true)
    (k27 : PySem.W.keepIn K (.ref f27) = true)
    (a28 : PySem.W.findIn K (.ref c_Plan) "__init__" = some (some (.ref f28)))
    (i28 : PySem.W.isFn K (.ref f28) = true)
    (l28 : K.lookup f28 = some ⟨oc28, od28, .func (PySem.W.fnOf "__init__" "Plan.__init__" (defArgs s_Plan_init) (defBody s_Plan_init) (defScope s_Plan_init) .none kV28 dc28 pm28 an28 cd28 ct28), sl28⟩)
    (c28 : PySem.W.codeIn K cd28 "Plan.__init__" = true)
    (k28 : PySem.W.keepIn K (.ref f28) = true)
    (z_abs : PySem.W.nsIn K mainGlobals "abs" = some none)
    (z_all : PySem.W.nsIn K mainGlobals "all" = some none)
    (z_bool : PySem.W.nsIn K mainGlobals "bool" = some none)
    (z_int : PySem.W.nsIn K mainGlobals "int" = some none)
    (z_isinstance : PySem.W.nsIn K mainGlobals "isinstance" = some none)
    (z_len : PySem.W.nsIn K mainGlobals "len" = some none)
    (z_list : PySem.W.nsIn K mainGlobals "list" = some none)
    (z_range : PySem.W.nsIn K mainGlobals "range" = some none)
    (z_tuple : PySem.W.nsIn K mainGlobals "tuple" = some none)
    (q_MOST_CELL : PySem.W.nsIn K mainGlobals "MOST_CELL" = some (some (.int 999999999 t_MOST_CELL)))
    (q_MOST_LOT : PySem.W.nsIn K mainGlobals "MOST_LOT" = some (some (.int 999999 t_MOST_LOT)))
    (q_LAST_BLOCK : PySem.W.nsIn K mainGlobals "LAST_BLOCK" = some (some (.int 63 t_LAST_BLOCK)))
    (q_LAST_SLOT : PySem.W.nsIn K mainGlobals "LAST_SLOT" = some (some (.int 199 t_LAST_SLOT)))
    (q_NO_SLOT : PySem.W.nsIn K mainGlobals "NO_SLOT" = some (some (.int (-1) t_NO_SLOT)))
    (qN : PySem.W.nsIn K mainGlobals "NOUGHTS" = some (some (.ref aN)))
    (lN : K.lookup aN = some ⟨.type "tuple", dN, .seq #[.int 0 u0, .int 0 u1, .int 0 u2, .int 0 u3, .int 0 u4, .int 0 u5, .int 0 u6, .int 0 u7] nN, slN⟩)
    : ∃ T : Txt K mg, mg "law" = some (.ref T.a_law) ∧ (∀ (s : Shared) (v : Value), BindsTo s T.fd_law ⟨[v], []⟩ [("_law_script", v)]) := by
  have F0 := fun_mk (st := s_live_copy) l0 c0 k0
  have b0 := fun_kbn (ps := ["marks", "x", "lapse"]) (n := 2) (ks := ["lapse"]) F0 fun _ _ _ _ _ _ us ws h1 h2 => match us, ws, h1, h2 with | [_, _], [_], _, _ => rfl
  have F1 := fun_mk (st := s_cells_after) l1 c1 k1
  have b1 := fun_kbn (ps := ["disk", "marks", "x", "lapse"]) (n := 3) (ks := ["lapse"]) F1 fun _ _ _ _ _ _ us ws h1 h2 => match us, ws, h1, h2 with | [_, _, _], [_], _, _ => rfl
  have F2 := fun_mk (st := s_is_within) l2 c2 k2
  have b2 := F2.binds (ps := ["part", "low", "high"]) fun _ _ _ _ _ _ us hl => match us, hl with | [_, _, _], _ => rfl
  have F3 := fun_mk (st := s_is_row_of_cells) l3 c3 k3
  have b3 := F3.binds (ps := ["part"]) fun _ _ _ _ _ _ us hl => match us, hl with | [_], _ => rfl
  have F4 := fun_mk (st := s_are_blocks) l4 c4 k4
  have b4 := F4.binds (ps := ["part"]) fun _ _ _ _ _ _ us hl => match us, hl with | [_], _ => rfl
  have F5 := fun_mk (st := s_are_copies) l5 c5 k5
  have b5 := F5.binds (ps := ["part"]) fun _ _ _ _ _ _ us hl => match us, hl with | [_], _ => rfl
  have F6 := fun_mk (st := s_check_record) l6 c6 k6
  have b6 := F6.binds (ps := ["record"]) fun _ _ _ _ _ _ us hl => match us, hl with | [_], _ => rfl
  have F7 := fun_mk (st := s_fits_plan) l7 c7 k7
  have b7 := F7.binds (ps := ["record", "plan"]) fun _ _ _ _ _ _ us hl => match us, hl with | [_, _], _ => rfl
  have F8 := fun_mk (st := s_is_place) l8 c8 k8
  have b8 := F8.binds (ps := ["place", "plan"]) fun _ _ _ _ _ _ us hl => match us, hl with | [_, _], _ => rfl
  have F9 := fun_mk (st := s_home_content) l9 c9 k9
  have b9 := F9.binds (ps := ["what"]) fun _ _ _ _ _ _ us hl => match us, hl with | [_], _ => rfl
  have F10 := fun_mk (st := s_log_content) l10 c10 k10
  have b10 := F10.binds (ps := ["what", "plan"]) fun _ _ _ _ _ _ us hl => match us, hl with | [_, _], _ => rfl
  have F11 := fun_mk (st := s_law_feed) l11 c11 k11
  have b11 := F11.binds (ps := ["_law_script"]) fun _ _ _ _ _ _ us hl => match us, hl with | [_], _ => rfl
  have F12 := fun_mk (st := s_law_pick) l12 c12 k12
  have b12 := F12.binds (ps := ["_law_feed_here", "_law_limit"]) fun _ _ _ _ _ _ us hl => match us, hl with | [_, _], _ => rfl
  have F13 := fun_mk (st := s_law_cells) l13 c13 k13
  have b13 := F13.binds (ps := ["_law_feed_here", "_law_first"]) fun _ _ _ _ _ _ us hl => match us, hl with | [_, _], _ => rfl
  have F14 := fun_mk (st := s_law_mark) l14 c14 k14
  have b14 := F14.binds (ps := ["_law_feed_here", "_law_lot"]) fun _ _ _ _ _ _ us hl => match us, hl with | [_, _], _ => rfl
  have F15 := fun_mk (st := s_law_put) l15 c15 k15
  have b15 := F15.binds (ps := ["_law_disk", "_law_log", "_law_slot", "_law_record"]) fun _ _ _ _ _ _ us hl => match us, hl with | [_, _, _, _], _ => rfl
  have F16 := fun_mk (st := s_law_fill) l16 c16 k16
  have b16 := F16.binds (ps := ["_law_feed_here", "_law_disk", "_law_log", "_law_record"]) fun _ _ _ _ _ _ us hl => match us, hl with | [_, _, _, _], _ => rfl
  have F17 := fun_mk (st := s_law_struck) l17 c17 k17
  have b17 := F17.binds (ps := ["_law_marks", "_law_at", "_law_x", "_law_gentle"]) fun _ _ _ _ _ _ us hl => match us, hl with | [_, _, _, _], _ => rfl
  have F18 := fun_mk (st := s_law_due) l18 c18 k18
  have b18 := F18.binds (ps := ["_law_marks", "_law_x", "_law_gentle"]) fun _ _ _ _ _ _ us hl => match us, hl with | [_, _, _], _ => rfl
  have F19 := fun_mk (st := s_law_due_cells) l19 c19 k19
  have b19 := F19.binds (ps := ["_law_log", "_law_home", "_law_due_here", "_law_x"]) fun _ _ _ _ _ _ us hl => match us, hl with | [_, _, _, _], _ => rfl
  have F20 := fun_mk (st := s_law_numbers) l20 c20 k20
  have b20 := F20.binds (ps := ["_law_actual", "_law_due_here"]) fun _ _ _ _ _ _ us hl => match us, hl with | [_, _], _ => rfl
  have F21 := fun_mk (st := s_law_agrees) l21 c21 k21
  have b21 := F21.binds (ps := ["_law_disk", "_law_marks", "_law_log", "_law_home", "_law_x", "_law_gentle"]) fun _ _ _ _ _ _ us hl => match us, hl with | [_, _, _, _, _, _], _ => rfl
  have F22 := fun_mk (st := s_law) l22 c22 k22
  have b22 := F22.binds (ps := ["_law_script"]) fun _ _ _ _ _ _ us hl => match us, hl with | [_], _ => rfl
  have F23 := fun_mk (st := s_Disk_init) l23 c23 k23
  have b23 := F23.binds (ps := ["self", "plan"]) fun _ _ _ _ _ _ us hl => match us, hl with | [_, _], _ => rfl
  have F24 := fun_mk (st := s_Disk_issue) l24 c24 k24
  have b24 := F24.binds (ps := ["self", "place", "what"]) fun _ _ _ _ _ _ us hl => match us, hl with | [_, _, _], _ => rfl
  have F25 := fun_mk (st := s_Disk_busy) l25 c25 k25
  have b25 := F25.binds (ps := ["self", "place"]) fun _ _ _ _ _ _ us hl => match us, hl with | [_, _], _ => rfl
  have F26 := fun_mk (st := s_Disk_put) l26 c26 k26
  have b26 := F26.binds (ps := ["self", "place", "what"]) fun _ _ _ _ _ _ us hl => match us, hl with | [_, _, _], _ => rfl
  have F27 := fun_mk (st := s_Disk_sure) l27 c27 k27
  have b27 := F27.binds (ps := ["self", "number"]) fun _ _ _ _ _ _ us hl => match us, hl with | [_, _], _ => rfl
  have F28 := fun_mk (st := s_Plan_init) l28 c28 k28
  have b28 := fun_kbn (ps := ["self", "blocks", "nodes", "slots"]) (n := 2) (ks := ["nodes", "slots"]) F28 fun _ _ _ _ _ _ us ws h1 h2 => match us, ws, h1, h2 with | [_, _], [_, _], _, _ => rfl
  exact ⟨{
    c_Disk := _
    C_Disk := ⟨pg_Disk, hd_Disk, po_Disk, sa_Disk⟩
    g_Disk := PySem.W.mg_of X G aC_Disk
    kp_Disk := kc_Disk
    mk_Disk := mk_Disk
    n_Disk_plan := nf_Disk_plan
    n_Disk_home := nf_Disk_home
    n_Disk_log := nf_Disk_log
    n_Disk_head := nf_Disk_head
    n_Disk_last := nf_Disk_last
    n_Disk_writes := nf_Disk_writes
    c_Plan := _
    C_Plan := ⟨pg_Plan, hd_Plan, po_Plan, sa_Plan⟩
    g_Plan := PySem.W.mg_of X G aC_Plan
    kp_Plan := kc_Plan
    mk_Plan := mk_Plan
    n_Plan_blocks := nf_Plan_blocks
    n_Plan_nodes := nf_Plan_nodes
    n_Plan_slots := nf_Plan_slots
    n_Plan_maps := nf_Plan_maps
    n_Plan_first_node := nf_Plan_first_node
    n_Plan_first_data := nf_Plan_first_data
    a_live_copy := _
    fd_live_copy := _
    F_live_copy := F0
    b_live_copy := b0
    m_live_copy := PySem.W.mg_of X G a0
    a_cells_after := _
    fd_cells_after := _
    F_cells_after := F1
    b_cells_after := b1
    m_cells_after := PySem.W.mg_of X G a1
    a_is_within := _
    fd_is_within := _
    F_is_within := F2
    b_is_within := b2
    m_is_within := PySem.W.mg_of X G a2
    a_is_row_of_cells := _
    fd_is_row_of_cells := _
    F_is_row_of_cells := F3
    b_is_row_of_cells := b3
    m_is_row_of_cells := PySem.W.mg_of X G a3
    a_are_blocks := _
    fd_are_blocks := _
    F_are_blocks := F4
    b_are_blocks := b4
    m_are_blocks := PySem.W.mg_of X G a4
    a_are_copies := _
    fd_are_copies := _
    F_are_copies := F5
    b_are_copies := b5
    m_are_copies := PySem.W.mg_of X G a5
    a_check_record := _
    fd_check_record := _
    F_check_record := F6
    b_check_record := b6
    m_check_record := PySem.W.mg_of X G a6
    a_fits_plan := _
    fd_fits_plan := _
    F_fits_plan := F7
    b_fits_plan := b7
    m_fits_plan := PySem.W.mg_of X G a7
    a_is_place := _
    fd_is_place := _
    F_is_place := F8
    b_is_place := b8
    m_is_place := PySem.W.mg_of X G a8
    a_home_content := _
    fd_home_content := _
    F_home_content := F9
    b_home_content := b9
    m_home_content := PySem.W.mg_of X G a9
    a_log_content := _
    fd_log_content := _
    F_log_content := F10
    b_log_content := b10
    m_log_content := PySem.W.mg_of X G a10
    a_law_feed := _
    fd_law_feed := _
    F_law_feed := F11
    b_law_feed := b11
    m_law_feed := PySem.W.mg_of X G a11
    a_law_pick := _
    fd_law_pick := _
    F_law_pick := F12
    b_law_pick := b12
    m_law_pick := PySem.W.mg_of X G a12
    a_law_cells := _
    fd_law_cells := _
    F_law_cells := F13
    b_law_cells := b13
    m_law_cells := PySem.W.mg_of X G a13
    a_law_mark := _
    fd_law_mark := _
    F_law_mark := F14
    b_law_mark := b14
    m_law_mark := PySem.W.mg_of X G a14
    a_law_put := _
    fd_law_put := _
    F_law_put := F15
    b_law_put := b15
    m_law_put := PySem.W.mg_of X G a15
    a_law_fill := _
    fd_law_fill := _
    F_law_fill := F16
    b_law_fill := b16
    m_law_fill := PySem.W.mg_of X G a16
    a_law_struck := _
    fd_law_struck := _
    F_law_struck := F17
    b_law_struck := b17
    m_law_struck := PySem.W.mg_of X G a17
    a_law_due := _
    fd_law_due := _
    F_law_due := F18
    b_law_due := b18
    m_law_due := PySem.W.mg_of X G a18
    a_law_due_cells := _
    fd_law_due_cells := _
    F_law_due_cells := F19
    b_law_due_cells := b19
    m_law_due_cells := PySem.W.mg_of X G a19
    a_law_numbers := _
    fd_law_numbers := _
    F_law_numbers := F20
    b_law_numbers := b20
    m_law_numbers := PySem.W.mg_of X G a20
    a_law_agrees := _
    fd_law_agrees := _
    F_law_agrees := F21
    b_law_agrees := b21
    m_law_agrees := PySem.W.mg_of X G a21
    a_law := _
    fd_law := _
    F_law := F22
    b_law := b22
    m_law := PySem.W.mg_of X G a22
    a_Disk_init := _
    fd_Disk_init := _
    F_Disk_init := F23
    b_Disk_init := b23
    m_Disk_init := ⟨mk_Disk, a23, i23, kc_Disk⟩
    a_Disk_issue := _
    fd_Disk_issue := _
    F_Disk_issue := F24
    b_Disk_issue := b24
    m_Disk_issue := ⟨a24, i24, k24⟩
    a_Disk_busy := _
    fd_Disk_busy := _
    F_Disk_busy := F25
    b_Disk_busy := b25
    m_Disk_busy := ⟨a25, i25, k25⟩
    a_Disk_put := _
    fd_Disk_put := _
    F_Disk_put := F26
    b_Disk_put := b26
    m_Disk_put := ⟨a26, i26, k26⟩
    a_Disk_sure := _
    fd_Disk_sure := _
    F_Disk_sure := F27
    b_Disk_sure := b27
    m_Disk_sure := ⟨a27, i27, k27⟩
    a_Plan_init := _
    fd_Plan_init := _
    F_Plan_init := F28
    b_Plan_init := b28
    m_Plan_init := ⟨mk_Plan, a28, i28, kc_Plan⟩
    n_abs := PySem.W.mg_none_of X G z_abs
    n_all := PySem.W.mg_none_of X G z_all
    n_bool := PySem.W.mg_none_of X G z_bool
    n_int := PySem.W.mg_none_of X G z_int
    n_isinstance := PySem.W.mg_none_of X G z_isinstance
    n_len := PySem.W.mg_none_of X G z_len
    n_list := PySem.W.mg_none_of X G z_list
    n_range := PySem.W.mg_none_of X G z_range
    n_tuple := PySem.W.mg_none_of X G z_tuple
    t_MOST_CELL := _
    g_MOST_CELL := PySem.W.mg_of X G q_MOST_CELL
    t_MOST_LOT := _
    g_MOST_LOT := PySem.W.mg_of X G q_MOST_LOT
    t_LAST_BLOCK := _
    g_LAST_BLOCK := PySem.W.mg_of X G q_LAST_BLOCK
    t_LAST_SLOT := _
    g_LAST_SLOT := PySem.W.mg_of X G q_LAST_SLOT
    t_NO_SLOT := _
    g_NO_SLOT := PySem.W.mg_of X G q_NO_SLOT
    a_N := aN
    g_NOUGHTS := PySem.W.mg_of X G qN
    s_NOUGHTS := fun H => .inr ⟨_, _, _, lN, rfl, rfl, (by show 8 ≤ sizeLine; decide), .cons ⟨_, rfl⟩ (.cons ⟨_, rfl⟩ (.cons ⟨_, rfl⟩ (.cons ⟨_, rfl⟩ (.cons ⟨_, rfl⟩ (.cons ⟨_, rfl⟩ (.cons ⟨_, rfl⟩ (.cons ⟨_, rfl⟩ .nil)))))))⟩ }, PySem.W.mg_of X G a22, fun s v => .of_eq rfl⟩
theorem walk {l : PySem.W.OpenLaw} {q : Program} {loose : List Str} {XP : (Str → Option Value) → Heap → Prop} {YP : World → Heap → Prop} {d : DefRec} {K : Params → PySem.W.Frag} (hn : l.most = some 63) (hdf : d.params.defaults = [])
    (hY : ∀ (w : World) (h : Heap), YP w h → (K w.params).In h)
    (F : ∀ (w : World) (mg : Str → Option Value) (fa : Addr) (h : Heap), (K w.params).In h → h.Ns mainGlobals mg → mg d.name = some (.ref fa) →
      ∃ fd : FuncData, (∀ (s : Shared) (u : Value), BindsTo s fd ⟨[u], []⟩ [("_law_script", u)]) ∧ ∀ base : Heap, (K w.params).In base → base.Ns mainGlobals mg → FnOk l.prog w (K w.params) mg base CX0 12 fa fd ["_law_script"] (spLaw (K w.params))) :
    PySem.W.WalkO q loose XP YP l.row.toRowW d [] (fun f vs => PySem.call f vs) :=
  L2.walk_of (n := 63) (k := 12) (x := "_law_script") (CX := fun _ => CX0) (sp := fun w => spLaw (K w.params)) hn (by decide) hdf ⟨rfl, by decide, by decide⟩ hY F (fun _ _ a ns hl _ hS => ⟨a, ns, rfl, hS, hl, fun _ => rfl⟩) fun _ _ _ _ _ z => z
end Mine
open PySem PySem.W PyProof.Rows
set_option maxRecDepth 100000 in
set_option maxHeartbeats 0 in
theorem PySem.Challenge.cw_lotsandties_k46_live_copies_holds : PySem.Challenge.rw_lotsandties_k46_live_copies.Holds := by
  w_on; o_law; k_head; (case hw => w_witness2)
  k_fill
  refine Mine.walk (l := PySem.Challenge.rw_lotsandties_k46_live_copies) rfl rfl (fun w h Y => PySem.W.kIn_of Y) ?F
  case F =>
    intro w mg fa h KX G hmg
    obtain ⟨T, e1, e2⟩ : ∃ T : Mine.Txt _ mg, mg "law" = some (.ref T.a_law) ∧ (∀ (s : Shared) (v : Value), BindsTo s T.fd_law ⟨[v], []⟩ [("_law_script", v)]) := by
      refine' Mine.txt_mk KX G ?aC_Disk ?pg_Disk ?hd_Disk ?po_Disk ?sa_Disk ?mk_Disk ?kc_Disk ?nf_Disk_plan ?nf_Disk_home ?nf_Disk_log ?nf_Disk_head ?nf_Disk_last ?nf_Disk_writes ?aC_Plan ?pg_Plan ?hd_Plan ?po_Plan ?sa_Plan ?mk_Plan ?kc_Plan ?nf_Plan_blocks ?nf_Plan_nodes ?nf_Plan_slots ?nf_Plan_maps ?nf_Plan_first_node ?nf_Plan_first_data ?a0 ?l0 ?c0 ?k0 ?a1 ?l1 ?c1 ?k1 ?a2 ?l2 ?c2 ?k2 ?a3 ?l3 ?c3 ?k3 ?a4 ?l4 ?c4 ?k4 ?a5 ?l5 ?c5 ?k5 ?a6 ?l6 ?c6 ?k6 ?a7 ?l7 ?c7 ?k7 ?a8 ?l8 ?c8 ?k8 ?a9 ?l9 ?c9 ?k9 ?a10 ?l10 ?c10 ?k10 ?a11 ?l11 ?c11 ?k11 ?a12 ?l12 ?c12 ?k12 ?a13 ?l13 ?c13 ?k13 ?a14 ?l14 ?c14 ?k14 ?a15 ?l15 ?c15 ?k15 ?a16 ?l16 ?c16 ?k16 ?a17 ?l17 ?c17 ?k17 ?a18 ?l18 ?c18 ?k18 ?a19 ?l19 ?c19 ?k19 ?a20 ?l20 ?c20 ?k20 ?a21 ?l21 ?c21 ?k21 ?a22 ?l22 ?c22 ?k22 ?a23 ?i23 ?l23 ?c23 ?k23 ?a24 ?i24 ?l24 ?c24 ?k24 ?a25 ?i25 ?l25 ?c25 ?k25 ?a26 ?i26 ?l26 ?c26 ?k26 ?a27 ?i27 ?l27 ?c27 ?k27 ?a28 ?i28 ?l28 ?c28 ?k28 ?z_abs ?z_all ?z_bool ?z_int ?z_isinstance ?z_len ?z_list ?z_range ?z_tuple ?q_MOST_CELL ?q_MOST_LOT ?q_LAST_BLOCK ?q_LAST_SLOT ?q_NO_SLOT ?qN ?lN
      (case aC_Disk => k_is); (case pg_Disk => k_is); (case hd_Disk => k_is); (case po_Disk => k_is); (case sa_Disk => k_is); (case mk_Disk => k_is)
      (case kc_Disk => k_is); (case nf_Disk_plan => k_is); (case nf_Disk_home => k_is); (case nf_Disk_log => k_is); (case nf_Disk_head => k_is); (case nf_Disk_last => k_is)
      (case nf_Disk_writes => k_is); (case aC_Plan => k_is); (case pg_Plan => k_is); (case hd_Plan => k_is); (case po_Plan => k_is); (case sa_Plan => k_is)
      (case mk_Plan => k_is); (case kc_Plan => k_is); (case nf_Plan_blocks => k_is); (case nf_Plan_nodes => k_is); (case nf_Plan_slots => k_is); (case nf_Plan_maps => k_is)
      (case nf_Plan_first_node => k_is); (case nf_Plan_first_data => k_is); (case a0 => k_is); (case l0 => k_is); (case c0 => k_is); (case k0 => k_is)
      (case a1 => k_is); (case l1 => k_is); (case c1 => k_is); (case k1 => k_is); (case a2 => k_is); (case l2 => k_is)
      (case c2 => k_is); (case k2 => k_is); (case a3 => k_is); (case l3 => k_is); (case c3 => k_is); (case k3 => k_is)
      (case a4 => k_is); (case l4 => k_is); (case c4 => k_is); (case k4 => k_is); (case a5 => k_is); (case l5 => k_is)
      (case c5 => k_is); (case k5 => k_is); (case a6 => k_is); (case l6 => k_is); (case c6 => k_is); (case k6 => k_is)
      (case a7 => k_is); (case l7 => k_is); (case c7 => k_is); (case k7 => k_is); (case a8 => k_is); (case l8 => k_is)
      (case c8 => k_is); (case k8 => k_is); (case a9 => k_is); (case l9 => k_is); (case c9 => k_is); (case k9 => k_is)
      (case a10 => k_is); (case l10 => k_is); (case c10 => k_is); (case k10 => k_is); (case a11 => k_is); (case l11 => k_is)
      (case c11 => k_is); (case k11 => k_is); (case a12 => k_is); (case l12 => k_is); (case c12 => k_is); (case k12 => k_is)
      (case a13 => k_is); (case l13 => k_is); (case c13 => k_is); (case k13 => k_is); (case a14 => k_is); (case l14 => k_is)
      (case c14 => k_is); (case k14 => k_is); (case a15 => k_is); (case l15 => k_is); (case c15 => k_is); (case k15 => k_is)
      (case a16 => k_is); (case l16 => k_is); (case c16 => k_is); (case k16 => k_is); (case a17 => k_is); (case l17 => k_is)
      (case c17 => k_is); (case k17 => k_is); (case a18 => k_is); (case l18 => k_is); (case c18 => k_is); (case k18 => k_is)
      (case a19 => k_is); (case l19 => k_is); (case c19 => k_is); (case k19 => k_is); (case a20 => k_is); (case l20 => k_is)
      (case c20 => k_is); (case k20 => k_is); (case a21 => k_is); (case l21 => k_is); (case c21 => k_is); (case k21 => k_is)
      (case a22 => k_is); (case l22 => k_is); (case c22 => k_is); (case k22 => k_is); (case a23 => k_is); (case i23 => k_is)
      (case l23 => k_is); (case c23 => k_is); (case k23 => k_is); (case a24 => k_is); (case i24 => k_is); (case l24 => k_is)
      (case c24 => k_is); (case k24 => k_is); (case a25 => k_is); (case i25 => k_is); (case l25 => k_is); (case c25 => k_is)
      (case k25 => k_is); (case a26 => k_is); (case i26 => k_is); (case l26 => k_is); (case c26 => k_is); (case k26 => k_is)
      (case a27 => k_is); (case i27 => k_is); (case l27 => k_is); (case c27 => k_is); (case k27 => k_is); (case a28 => k_is)
      (case i28 => k_is); (case l28 => k_is); (case c28 => k_is); (case k28 => k_is); (case z_abs => k_is); (case z_all => k_is)
      (case z_bool => k_is); (case z_int => k_is); (case z_isinstance => k_is); (case z_len => k_is); (case z_list => k_is); (case z_range => k_is)
      (case z_tuple => k_is); (case q_MOST_CELL => k_is); (case q_MOST_LOT => k_is); (case q_LAST_BLOCK => k_is); (case q_LAST_SLOT => k_is); (case q_NO_SLOT => k_is)
      (case qN => k_is); (case lN => k_is)
    have e := hmg.symm.trans e1
    cases e
    exact ⟨T.fd_law, e2, fun base _ _ => Mine.ok_law T⟩
