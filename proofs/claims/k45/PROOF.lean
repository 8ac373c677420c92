import PyProof.Rows.All
import Wide.All
import OpenK.AllK
import Wide.FinOn
import HandS.ForMost
import HandS.More
import HandS.Codes
import HandS.TupLe
import HandS.IsInst
import HandS.Walk
import HandS.Deep
import HandS.MakeKwOnly
import PySem.Challenge.RW_lotsandties_k45_marks_found
set_option Elab.async false
set_option linter.all false
set_option maxRecDepth 100000
set_option maxHeartbeats 4000000
namespace Mine
open PySem L2
/-! frames: what a call leaves as it was -/
abbrev tl (x : Str) : List Nat := x.cps.toList
def Fr (S : List Addr) (H H' : Hp) : Prop := ∀ b o, H b = some o → ∃ o', H' b = some o' ∧ (b ∉ S → o' = o)
section
variable {S : List Addr} {H H0 H1 H2 H' : Hp} {a b p : Addr} {o o' : HO} {K : PySem.W.Frag} {xs : List V}
theorem Fr.refl (S : List Addr) (H : Hp) : Fr S H H := fun _ o h => ⟨o, h, fun _ => rfl⟩
theorem Fr.trans (f : Fr S H0 H1) (g : Fr S H1 H2) : Fr S H0 H2 := fun b o h => by
  obtain ⟨o1, h1, e1⟩ := f b o h
  obtain ⟨o2, h2, e2⟩ := g b o1 h1
  exact ⟨o2, h2, fun n => (e2 n).trans (e1 n)⟩
theorem Fr.get (f : Fr S H H') (h : H b = some o) (n : b ∉ S) : H' b = some o := by
  obtain ⟨o1, h1, e1⟩ := f b o h
  rw [h1, e1 n]
theorem Fr.get0 (f : Fr [] H H') (h : H b = some o) : H' b = some o := f.get h (by simp)
theorem Fr.get1 (f : Fr [a] H H') (h : H b = some o) (n : b ≠ a) : H' b = some o := f.get h (by simpa using n)
theorem Fr.free (f : Fr S H H') (h : H' p = none) : H p = none := by
  cases q : H p with
  | none => rfl
  | some o =>
    obtain ⟨o1, h1, _⟩ := f p o q
    rw [h1] at h
    cases h
theorem Fr.up0 (f : Fr S H0 H1) (g : Fr [] H1 H2) : Fr S H0 H2 := fun b o h => by
  obtain ⟨o1, h1, e1⟩ := f b o h
  exact ⟨o1, g.get0 h1, e1⟩
theorem Fr.up1 (f : Fr S H0 H1) (g : Fr [a] H1 H2) (ha : a ∈ S ∨ H0 a = none) : Fr S H0 H2 := fun b o h => by
  obtain ⟨o1, h1, e1⟩ := f b o h
  obtain ⟨o2, h2, e2⟩ := g b o1 h1
  refine ⟨o2, h2, fun n => ?_⟩
  by_cases e : b = a
  · subst e
    rcases ha with ha | ha
    · exact absurd ha n
    · rw [ha] at h
      cases h
  · rw [e2 (by simpa using e), e1 n]
theorem Fr.upS (f : Fr [a] H0 H1) (g : Fr [a] H1 H2) : Fr [a] H0 H2 := f.up1 g (.inl (by simp))
theorem Fr.new (np : H p = none) : Fr [] H (upd H p o) := fun b u e => ⟨u, by rw [upd_ne (ne_of_none e np)]; exact e, fun _ => rfl⟩
theorem Fr.mut : Fr [a] H (upd H a o) := fun b u e => by
  by_cases h : b = a
  · subst h
    exact ⟨o, upd_same, fun n => absurd (by simp) n⟩
  · exact ⟨u, by rw [upd_ne h]; exact e, fun _ => rfl⟩
theorem gen_new (np : H p = none) (e : upd H p o = H2) : Fr [] H H2 ∧ H2 p = some o := by
  subst e
  exact ⟨Fr.new np, upd_same⟩
theorem gen_upd (e : upd H a o = H2) : Fr [a] H H2 ∧ H2 a = some o := by
  subst e
  exact ⟨Fr.mut, upd_same⟩
theorem Fr.seq (f : Fr S H H') (h : SqL K H a xs) (n : a ∉ S) : SqL K H' a xs := by
  rcases h with (h | ⟨o, h⟩) | h
  · exact .inl (.inl (f.get h n))
  · exact .inl (.inr ⟨o, f.get h n⟩)
  · exact .inr h
theorem Fr.seq0 (f : Fr [] H H') (h : SqL K H a xs) : SqL K H' a xs := f.seq h (by simp)
theorem sq (h : H a = some (.lst xs)) : SqL K H a xs := .inl (.inl h)
theorem sqt (h : H a = some (.tup xs)) : SqT K H a xs := .inl (.inl h)
theorem Fr.tup0 (f : Fr [] H H') (h : SqT K H a xs) : SqT K H' a xs := by
  rcases h with (h | ⟨o, h⟩) | h
  · exact .inl (.inl (f.get0 h))
  · exact .inl (.inr ⟨o, f.get0 h⟩)
  · exact .inr h
end
theorem sz {n : Nat} (h : n < 100000) : n < sizeLine := Nat.lt_of_lt_of_le h (by decide)
theorem szle {n : Nat} (h : n ≤ 100000) : n ≤ sizeLine := Nat.le_trans h (by decide)
theorem map_get {α β : Type} {f : α → β} {l : List α} {i : Nat} {y : β} (h : (l.map f)[i]? = some y) : ∃ x, l[i]? = some x ∧ y = f x := by
  rw [List.getElem?_map] at h
  cases e : l[i]? with
  | none =>
    rw [e] at h
    cases h
  | some x =>
    rw [e] at h
    exact ⟨x, rfl, (Option.some.inj h).symm⟩
theorem getq_lt {α : Type} {l : List α} {i : Nat} {x : α} (h : l[i]? = some x) : i < l.length := (List.getElem?_eq_some_iff.mp h).1
theorem iteF' {c : Bool} {A B : Prop} (hc : c = false) (h : B) : if c = true then A else B := by
  rw [hc]
  exact iteF h
theorem iteT' {c : Bool} {A B : Prop} (hc : c = true) (h : A) : if c = true then A else B := by
  rw [hc]
  exact iteT h
theorem drop_at {α : Type} {l : List α} {i : Nat} {c : α} (h : l[i]? = some c) : l.drop i = c :: l.drop (i + 1) := by
  obtain ⟨hi, e⟩ := List.getElem?_eq_some_iff.mp h
  rw [List.drop_eq_getElem_cons hi, e]
theorem dec_int {i j : Int} : decide (V.int i = V.int j) = decide (i = j) := by
  by_cases h : i = j
  · rw [decide_eq_true h, decide_eq_true (congrArg V.int h)]
  · rw [decide_eq_false h, decide_eq_false fun q => h (V.int.inj q)]
theorem dec_str {i j : Str} : decide (V.str i = V.str j) = decide (i = j) := by
  by_cases h : i = j
  · rw [decide_eq_true h, decide_eq_true (congrArg V.str h)]
  · rw [decide_eq_false h, decide_eq_false fun q => h (V.str.inj q)]
theorem paired_get {α β : Type} {F : α → β → Prop} {l : List α} {m : List β} (h : Paired F l m) : ∀ {i : Nat} {x : α}, l[i]? = some x → ∃ y, m[i]? = some y ∧ F x y := by
  induction h with
  | nil => intro i x h; simp at h
  | @cons a b l₁ l₂ f t ih =>
    intro i x h
    cases i with
    | zero => exact ⟨b, rfl, by cases h; exact f⟩
    | succ i => exact ih h
theorem paired_get' {α β : Type} {F : α → β → Prop} {l : List α} {m : List β} (h : Paired F l m) : ∀ {i : Nat} {y : β}, m[i]? = some y → ∃ x, l[i]? = some x ∧ F x y := by
  induction h with
  | nil => intro i x h; simp at h
  | @cons a b l₁ l₂ f t ih =>
    intro i x h
    cases i with
    | zero => exact ⟨a, rfl, by cases h; exact f⟩
    | succ i => exact ih h
theorem paired_set {α β : Type} {F : α → β → Prop} {l : List α} {m : List β} (h : Paired F l m) : ∀ {i : Nat} {x : α} {y : β}, F x y → Paired F (l.set i x) (m.set i y) := by
  induction h with
  | nil => intro i x y _; exact .nil
  | @cons a b l₁ l₂ f t ih =>
    intro i x y g
    cases i with
    | zero => exact .cons g t
    | succ i => exact .cons f (ih g)

/-! tuples stay -/
def TS (K : PySem.W.Frag) (H H' : Hp) : Prop := ∀ a xs, SqT K H a xs → SqT K H' a xs
def nt : HO → Bool
  | .tup _ => false
  | .frz _ _ => false
  | _ => true
section
variable {K : PySem.W.Frag} {S : List Addr} {H H0 H1 H2 H' : Hp} {a b x p : Addr} {o o' : HO} {xs : List V}
theorem TS.refl (K : PySem.W.Frag) (H : Hp) : TS K H H := fun _ _ h => h
theorem TS.trans (f : TS K H H1) (g : TS K H1 H2) : TS K H H2 := fun a xs h => g a xs (f a xs h)
theorem Fr.ts0 (f : Fr [] H H') : TS K H H' := fun _ _ h => f.tup0 h
theorem Fr.ts1 (f : Fr [x] H H') (hx : H x = some o) (hn : nt o = true) : TS K H H' := fun a xs h => by
  rcases h with (h | ⟨ob, h⟩) | h
  · have ne : a ≠ x := fun e => by
      rw [e, hx] at h
      cases h
      cases hn
    exact .inl (.inl (f.get1 h ne))
  · have ne : a ≠ x := fun e => by
      rw [e, hx] at h
      cases h
      cases hn
    exact .inl (.inr ⟨ob, f.get1 h ne⟩)
  · exact .inr h
end

/-! data that may be compared -/
def Sh (n : Nat) (d : PyData) : Prop := d.canLay0 = true ∧ d.depth ≤ n
def ShAll (n : Nat) (ds : List PyData) : Prop := ∀ d ∈ ds, Sh n d
theorem canLayAll_of : ∀ (ds : List PyData), (∀ d ∈ ds, d.canLay0 = true) → PyData.canLayAll0 ds = true
  | [], _ => by simp only [PyData.canLayAll0]
  | d :: ds, h => by
    rw [PyData.canLayAll0, h d List.mem_cons_self, canLayAll_of ds fun x hx => h x (List.mem_cons_of_mem _ hx)]
    rfl
theorem depthAll_le {n : Nat} : ∀ (ds : List PyData), (∀ d ∈ ds, d.depth ≤ n) → PyData.depthAll ds ≤ n
  | [], _ => by simp only [PyData.depthAll]; exact Nat.zero_le _
  | d :: ds, h => by
    rw [PyData.depthAll]
    have h1 := h d List.mem_cons_self
    have h2 := depthAll_le ds fun x hx => h x (List.mem_cons_of_mem _ hx)
    omega
theorem Sh.tup {n : Nat} {ds : List PyData} (h : ShAll n ds) : Sh (n + 1) (.tuple ds) := by
  refine ⟨by rw [PyData.canLay0]; exact canLayAll_of ds fun d hd => (h d hd).1, ?_⟩
  rw [PyData.depth]
  have := depthAll_le ds fun d hd => (h d hd).2
  omega
theorem Sh.lst {n : Nat} {ds : List PyData} (h : ShAll n ds) : Sh (n + 1) (.list ds) := by
  refine ⟨by rw [PyData.canLay0]; exact canLayAll_of ds fun d hd => (h d hd).1, ?_⟩
  rw [PyData.depth]
  have := depthAll_le ds fun d hd => (h d hd).2
  omega
theorem Sh.int {n : Nat} (i : Int) : Sh n (.int i) := ⟨by simp only [PyData.canLay0], by simp only [PyData.depth]; exact Nat.zero_le _⟩
theorem Sh.bool {n : Nat} (b : Bool) : Sh n (.bool b) := ⟨by simp only [PyData.canLay0], by simp only [PyData.depth]; exact Nat.zero_le _⟩
theorem Sh.non {n : Nat} : Sh n .none := ⟨by simp only [PyData.canLay0], by simp only [PyData.depth]; exact Nat.zero_le _⟩
theorem Sh.str {n : Nat} {x : Str} (h : PyData.strOk x = true) : Sh n (.str x) := ⟨by simp only [PyData.canLay0]; exact h, by simp only [PyData.depth]; exact Nat.zero_le _⟩
theorem Sh.mono {n m : Nat} {d : PyData} (h : Sh n d) (l : n ≤ m) : Sh m d := ⟨h.1, Nat.le_trans h.2 l⟩
theorem ShAll.nil {n : Nat} : ShAll n [] := fun _ h => absurd h (by simp)
theorem ShAll.cons {n : Nat} {d : PyData} {ds : List PyData} (h : Sh n d) (k : ShAll n ds) : ShAll n (d :: ds) := fun x hx => by
  rcases List.mem_cons.mp hx with q | q
  · rw [q]
    exact h
  · exact k x q
theorem ShAll.map {α : Type} {n : Nat} {f : α → PyData} {l : List α} (h : ∀ x, Sh n (f x)) : ShAll n (l.map f) := fun d hd => by
  obtain ⟨x, _, rfl⟩ := List.mem_map.mp hd
  exact h x
theorem Sh.shaped {d : PyData} (h : Sh 64 d) : SeqAt.shaped d = true := by
  unfold SeqAt.shaped
  rw [h.1, decide_eq_true h.2]
  rfl
theorem dp_ints {K : PySem.W.Frag} {H : Hp} : ∀ (l : List Int), DpAll K H (l.map V.int) (l.map PyData.int)
  | [] => .nil
  | i :: l => .cons (.int i) (dp_ints l)
theorem dp_paired {K : PySem.W.Frag} {H : Hp} {α : Type} {F : V → α → Prop} {f : α → PyData} (hf : ∀ v x, F v x → Dp K H v (f x)) {vs : List V} {xs : List α} (h : Paired F vs xs) : DpAll K H vs (xs.map f) := by
  induction h with
  | nil => exact .nil
  | cons a _ ih => exact .cons (hf _ _ a) ih
theorem un65 {k : Nat} {A : Around} (hr : Room k A) : A.units + 65 < cLine := by
  have := hr.un
  omega

def top (i : Nat) : Stmt := PySem.Challenge.pw_lotsandties_k45_marks_found.main.body.getD i (.Pass ⟨0, 0, 0, 0⟩)
abbrev s_find_mark : Stmt := top 2
abbrev N_find_mark : List Str := ["disk", "lot", "slot", "record"]
theorem sc_find_mark : FnScope ["disk", "lot", "slot", "record"] ["disk", "lot"] (defScope s_find_mark) := ⟨rfl, rfl, rfl, by decide +kernel, rfl, by decide +kernel, by decide +kernel⟩
abbrev s_found_marks : Stmt := top 3
abbrev N_found_marks : List Str := ["disk", "marks", "found"]
theorem sc_found_marks : FnScope ["disk", "marks", "found"] ["disk"] (defScope s_found_marks) := ⟨rfl, rfl, rfl, by decide +kernel, rfl, by decide +kernel, by decide +kernel⟩
abbrev s_is_within : Stmt := top 17
abbrev N_is_within : List Str := ["part", "low", "high"]
theorem sc_is_within : FnScope ["part", "low", "high"] ["part", "low", "high"] (defScope s_is_within) := ⟨rfl, rfl, rfl, by decide +kernel, rfl, by decide +kernel, by decide +kernel⟩
abbrev s_is_row_of_cells : Stmt := top 23
abbrev N_is_row_of_cells : List Str := ["part", "cell"]
theorem sc_is_row_of_cells : FnScope ["part", "cell"] ["part"] (defScope s_is_row_of_cells) := ⟨rfl, rfl, rfl, by decide +kernel, rfl, by decide +kernel, by decide +kernel⟩
abbrev s_are_blocks : Stmt := top 24
abbrev N_are_blocks : List Str := ["part", "last", "block"]
theorem sc_are_blocks : FnScope ["part", "last", "block"] ["part"] (defScope s_are_blocks) := ⟨rfl, rfl, rfl, by decide +kernel, rfl, by decide +kernel, by decide +kernel⟩
abbrev s_are_copies : Stmt := top 25
abbrev N_are_copies : List Str := ["part", "pair"]
theorem sc_are_copies : FnScope ["part", "pair"] ["part"] (defScope s_are_copies) := ⟨rfl, rfl, rfl, by decide +kernel, rfl, by decide +kernel, by decide +kernel⟩
abbrev s_check_record : Stmt := top 26
abbrev N_check_record : List Str := ["record", "good"]
theorem sc_check_record : FnScope ["record", "good"] ["record"] (defScope s_check_record) := ⟨rfl, rfl, rfl, by decide +kernel, rfl, by decide +kernel, by decide +kernel⟩
abbrev s_fits_plan : Stmt := top 27
abbrev N_fits_plan : List Str := ["record", "plan", "block", "slot"]
theorem sc_fits_plan : FnScope ["record", "plan", "block", "slot"] ["record", "plan"] (defScope s_fits_plan) := ⟨rfl, rfl, rfl, by decide +kernel, rfl, by decide +kernel, by decide +kernel⟩
abbrev s_is_place : Stmt := top 29
abbrev N_is_place : List Str := ["place", "plan"]
theorem sc_is_place : FnScope ["place", "plan"] ["place", "plan"] (defScope s_is_place) := ⟨rfl, rfl, rfl, by decide +kernel, rfl, by decide +kernel, by decide +kernel⟩
abbrev s_log_content : Stmt := top 31
abbrev N_log_content : List Str := ["what", "plan"]
theorem sc_log_content : FnScope ["what", "plan"] ["what", "plan"] (defScope s_log_content) := ⟨rfl, rfl, rfl, by decide +kernel, rfl, by decide +kernel, by decide +kernel⟩
abbrev s_law_feed : Stmt := top 36
abbrev N_law_feed : List Str := ["_law_script", "_law_feed_here", "_law_cell", "_law_rest", "_law_k"]
theorem sc_law_feed : FnScope ["_law_script", "_law_feed_here", "_law_cell", "_law_rest", "_law_k"] ["_law_script"] (defScope s_law_feed) := ⟨rfl, rfl, rfl, by decide +kernel, rfl, by decide +kernel, by decide +kernel⟩
abbrev s_law_pick : Stmt := top 37
abbrev N_law_pick : List Str := ["_law_feed_here", "_law_limit"]
theorem sc_law_pick : FnScope ["_law_feed_here", "_law_limit"] ["_law_feed_here", "_law_limit"] (defScope s_law_pick) := ⟨rfl, rfl, rfl, by decide +kernel, rfl, by decide +kernel, by decide +kernel⟩
abbrev s_law_record : Stmt := top 38
abbrev N_law_record : List Str := ["_law_feed_here", "_law_lot", "_law_block", "_law_kind"]
theorem sc_law_record : FnScope ["_law_feed_here", "_law_lot", "_law_block", "_law_kind"] ["_law_feed_here", "_law_lot"] (defScope s_law_record) := ⟨rfl, rfl, rfl, by decide +kernel, rfl, by decide +kernel, by decide +kernel⟩
abbrev s_law_due : Stmt := top 39
abbrev N_law_due : List Str := ["_law_log", "_law_head", "_law_due_here", "_law_k", "_law_slots", "_law_slot", "_law_record_here"]
theorem sc_law_due : FnScope ["_law_log", "_law_head", "_law_due_here", "_law_k", "_law_slots", "_law_slot", "_law_record_here"] ["_law_log", "_law_head"] (defScope s_law_due) := ⟨rfl, rfl, rfl, by decide +kernel, rfl, by decide +kernel, by decide +kernel⟩
abbrev s_law_same : Stmt := top 40
abbrev N_law_same : List Str := ["_law_found", "_law_due_here", "_law_k", "_law_pair"]
theorem sc_law_same : FnScope ["_law_found", "_law_due_here", "_law_k", "_law_pair"] ["_law_found", "_law_due_here"] (defScope s_law_same) := ⟨rfl, rfl, rfl, by decide +kernel, rfl, by decide +kernel, by decide +kernel⟩
abbrev s_law_agrees : Stmt := top 41
abbrev N_law_agrees : List Str := ["_law_disk", "_law_log", "_law_head", "_law_due_here", "_law_found"]
theorem sc_law_agrees : FnScope ["_law_disk", "_law_log", "_law_head", "_law_due_here", "_law_found"] ["_law_disk", "_law_log", "_law_head"] (defScope s_law_agrees) := ⟨rfl, rfl, rfl, by decide +kernel, rfl, by decide +kernel, by decide +kernel⟩
abbrev s_law : Stmt := top 42
abbrev N_law : List Str := ["_law_script", "_law_feed_here", "_law_disk", "_law_head", "_law_log", "_law_slot", "_law_k", "_law_lot", "_law_record_here", "_law_free", "_law_number"]
theorem sc_law : FnScope ["_law_script", "_law_feed_here", "_law_disk", "_law_head", "_law_log", "_law_slot", "_law_k", "_law_lot", "_law_record_here", "_law_free", "_law_number"] ["_law_script"] (defScope s_law) := ⟨rfl, rfl, rfl, by decide +kernel, rfl, by decide +kernel, by decide +kernel⟩
abbrev s_Disk_init : Stmt := inClass (top 32) 0
abbrev N_Disk_init : List Str := ["self", "plan", "x"]
theorem sc_Disk_init : FnScope ["self", "plan", "x"] ["self", "plan"] (defScope s_Disk_init) := ⟨rfl, rfl, rfl, by decide +kernel, rfl, by decide +kernel, by decide +kernel⟩
abbrev s_Disk_issue : Stmt := inClass (top 32) 3
abbrev N_Disk_issue : List Str := ["self", "place", "what", "content"]
theorem sc_Disk_issue : FnScope ["self", "place", "what", "content"] ["self", "place", "what"] (defScope s_Disk_issue) := ⟨rfl, rfl, rfl, by decide +kernel, rfl, by decide +kernel, by decide +kernel⟩
abbrev s_Disk_busy : Stmt := inClass (top 32) 4
abbrev N_Disk_busy : List Str := ["self", "place", "write"]
theorem sc_Disk_busy : FnScope ["self", "place", "write"] ["self", "place"] (defScope s_Disk_busy) := ⟨rfl, rfl, rfl, by decide +kernel, rfl, by decide +kernel, by decide +kernel⟩
abbrev s_Disk_put : Stmt := inClass (top 32) 6
abbrev N_Disk_put : List Str := ["self", "place", "what"]
theorem sc_Disk_put : FnScope ["self", "place", "what"] ["self", "place", "what"] (defScope s_Disk_put) := ⟨rfl, rfl, rfl, by decide +kernel, rfl, by decide +kernel, by decide +kernel⟩
abbrev s_Disk_sure : Stmt := inClass (top 32) 7
abbrev N_Disk_sure : List Str := ["self", "number", "place", "what"]
theorem sc_Disk_sure : FnScope ["self", "number", "place", "what"] ["self", "number"] (defScope s_Disk_sure) := ⟨rfl, rfl, rfl, by decide +kernel, rfl, by decide +kernel, by decide +kernel⟩
abbrev s_Disk_move_head : Stmt := inClass (top 32) 9
abbrev N_Disk_move_head : List Str := ["self", "p"]
theorem sc_Disk_move_head : FnScope ["self", "p"] ["self", "p"] (defScope s_Disk_move_head) := ⟨rfl, rfl, rfl, by decide +kernel, rfl, by decide +kernel, by decide +kernel⟩
abbrev s_Plan_init : Stmt := inClass (top 34) 6
abbrev N_Plan_init : List Str := ["self", "blocks", "nodes", "slots", "maps"]
theorem sc_Plan_init : FnScope ["self", "blocks", "nodes", "slots", "maps"] ["self", "blocks", "nodes", "slots"] (defScope s_Plan_init) := ⟨rfl, rfl, rfl, by decide +kernel, rfl, by decide +kernel, by decide +kernel⟩
/-- what the top has left -/
structure Txt (K : PySem.W.Frag) (mg : Str → Option Value) where
  c_Disk : Addr
  C_Disk : Cls K c_Disk
  g_Disk : mg "Disk" = some (.ref c_Disk)
  kp_Disk : PySem.W.keepIn K (.ref c_Disk) = true
  mk_Disk : PySem.W.makesIn K c_Disk = true
  n_Disk_plan : NoAttr K c_Disk "plan"
  n_Disk_home : NoAttr K c_Disk "home"
  n_Disk_log : NoAttr K c_Disk "log"
  n_Disk_head : NoAttr K c_Disk "head"
  n_Disk_last : NoAttr K c_Disk "last"
  n_Disk_writes : NoAttr K c_Disk "_writes"
  c_Plan : Addr
  C_Plan : Cls K c_Plan
  g_Plan : mg "Plan" = some (.ref c_Plan)
  kp_Plan : PySem.W.keepIn K (.ref c_Plan) = true
  mk_Plan : PySem.W.makesIn K c_Plan = true
  n_Plan_blocks : NoAttr K c_Plan "blocks"
  n_Plan_nodes : NoAttr K c_Plan "nodes"
  n_Plan_slots : NoAttr K c_Plan "slots"
  n_Plan_maps : NoAttr K c_Plan "maps"
  n_Plan_first_node : NoAttr K c_Plan "first_node"
  n_Plan_first_data : NoAttr K c_Plan "first_data"
  a_find_mark : Addr
  fd_find_mark : FuncData
  F_find_mark : Fun K "find_mark" "find_mark" s_find_mark a_find_mark fd_find_mark
  b_find_mark : Binds K fd_find_mark ["disk", "lot"] []
  m_find_mark : mg "find_mark" = some (.ref a_find_mark)
  a_found_marks : Addr
  fd_found_marks : FuncData
  F_found_marks : Fun K "found_marks" "found_marks" s_found_marks a_found_marks fd_found_marks
  b_found_marks : Binds K fd_found_marks ["disk"] []
  m_found_marks : mg "found_marks" = some (.ref a_found_marks)
  a_is_within : Addr
  fd_is_within : FuncData
  F_is_within : Fun K "is_within" "is_within" s_is_within a_is_within fd_is_within
  b_is_within : Binds K fd_is_within ["part", "low", "high"] []
  m_is_within : mg "is_within" = some (.ref a_is_within)
  a_is_row_of_cells : Addr
  fd_is_row_of_cells : FuncData
  F_is_row_of_cells : Fun K "is_row_of_cells" "is_row_of_cells" s_is_row_of_cells a_is_row_of_cells fd_is_row_of_cells
  b_is_row_of_cells : Binds K fd_is_row_of_cells ["part"] []
  m_is_row_of_cells : mg "is_row_of_cells" = some (.ref a_is_row_of_cells)
  a_are_blocks : Addr
  fd_are_blocks : FuncData
  F_are_blocks : Fun K "are_blocks" "are_blocks" s_are_blocks a_are_blocks fd_are_blocks
  b_are_blocks : Binds K fd_are_blocks ["part"] []
  m_are_blocks : mg "are_blocks" = some (.ref a_are_blocks)
  a_are_copies : Addr
  fd_are_copies : FuncData
  F_are_copies : Fun K "are_copies" "are_copies" s_are_copies a_are_copies fd_are_copies
  b_are_copies : Binds K fd_are_copies ["part"] []
  m_are_copies : mg "are_copies" = some (.ref a_are_copies)
  a_check_record : Addr
  fd_check_record : FuncData
  F_check_record : Fun K "check_record" "check_record" s_check_record a_check_record fd_check_record
  b_check_record : Binds K fd_check_record ["record"] []
  m_check_record : mg "check_record" = some (.ref a_check_record)
  a_fits_plan : Addr
  fd_fits_plan : FuncData
  F_fits_plan : Fun K "fits_plan" "fits_plan" s_fits_plan a_fits_plan fd_fits_plan
  b_fits_plan : Binds K fd_fits_plan ["record", "plan"] []
  m_fits_plan : mg "fits_plan" = some (.ref a_fits_plan)
  a_is_place : Addr
  fd_is_place : FuncData
  F_is_place : Fun K "is_place" "is_place" s_is_place a_is_place fd_is_place
  b_is_place : Binds K fd_is_place ["place", "plan"] []
  m_is_place : mg "is_place" = some (.ref a_is_place)
  a_log_content : Addr
  fd_log_content : FuncData
  F_log_content : Fun K "log_content" "log_content" s_log_content a_log_content fd_log_content
  b_log_content : Binds K fd_log_content ["what", "plan"] []
  m_log_content : mg "log_content" = some (.ref a_log_content)
  a_law_feed : Addr
  fd_law_feed : FuncData
  F_law_feed : Fun K "_law_feed" "_law_feed" s_law_feed a_law_feed fd_law_feed
  b_law_feed : Binds K fd_law_feed ["_law_script"] []
  m_law_feed : mg "_law_feed" = some (.ref a_law_feed)
  a_law_pick : Addr
  fd_law_pick : FuncData
  F_law_pick : Fun K "_law_pick" "_law_pick" s_law_pick a_law_pick fd_law_pick
  b_law_pick : Binds K fd_law_pick ["_law_feed_here", "_law_limit"] []
  m_law_pick : mg "_law_pick" = some (.ref a_law_pick)
  a_law_record : Addr
  fd_law_record : FuncData
  F_law_record : Fun K "_law_record" "_law_record" s_law_record a_law_record fd_law_record
  b_law_record : Binds K fd_law_record ["_law_feed_here", "_law_lot"] []
  m_law_record : mg "_law_record" = some (.ref a_law_record)
  a_law_due : Addr
  fd_law_due : FuncData
  F_law_due : Fun K "_law_due" "_law_due" s_law_due a_law_due fd_law_due
  b_law_due : Binds K fd_law_due ["_law_log", "_law_head"] []
  m_law_due : mg "_law_due" = some (.ref a_law_due)
  a_law_same : Addr
  fd_law_same : FuncData
  F_law_same : Fun K "_law_same" "_law_same" s_law_same a_law_same fd_law_same
  b_law_same : Binds K fd_law_same ["_law_found", "_law_due_here"] []
  m_law_same : mg "_law_same" = some (.ref a_law_same)
  a_law_agrees : Addr
  fd_law_agrees : FuncData
  F_law_agrees : Fun K "_law_agrees" "_law_agrees" s_law_agrees a_law_agrees fd_law_agrees
  b_law_agrees : Binds K fd_law_agrees ["_law_disk", "_law_log", "_law_head"] []
  m_law_agrees : mg "_law_agrees" = some (.ref a_law_agrees)
  a_law : Addr
  fd_law : FuncData
  F_law : Fun K "law" "law" s_law a_law fd_law
  b_law : Binds K fd_law ["_law_script"] []
  m_law : mg "law" = some (.ref a_law)
  a_Disk_init : Addr
  fd_Disk_init : FuncData
  F_Disk_init : Fun K "__init__" "Disk.__init__" s_Disk_init a_Disk_init fd_Disk_init
  b_Disk_init : Binds K fd_Disk_init ["self", "plan"] []
  m_Disk_init : Mk K c_Disk a_Disk_init
  a_Disk_issue : Addr
  fd_Disk_issue : FuncData
  F_Disk_issue : Fun K "issue" "Disk.issue" s_Disk_issue a_Disk_issue fd_Disk_issue
  b_Disk_issue : Binds K fd_Disk_issue ["self", "place", "what"] []
  m_Disk_issue : Meth K c_Disk "issue" a_Disk_issue
  a_Disk_busy : Addr
  fd_Disk_busy : FuncData
  F_Disk_busy : Fun K "busy" "Disk.busy" s_Disk_busy a_Disk_busy fd_Disk_busy
  b_Disk_busy : Binds K fd_Disk_busy ["self", "place"] []
  m_Disk_busy : Meth K c_Disk "busy" a_Disk_busy
  a_Disk_put : Addr
  fd_Disk_put : FuncData
  F_Disk_put : Fun K "_put" "Disk._put" s_Disk_put a_Disk_put fd_Disk_put
  b_Disk_put : Binds K fd_Disk_put ["self", "place", "what"] []
  m_Disk_put : Meth K c_Disk "_put" a_Disk_put
  a_Disk_sure : Addr
  fd_Disk_sure : FuncData
  F_Disk_sure : Fun K "sure" "Disk.sure" s_Disk_sure a_Disk_sure fd_Disk_sure
  b_Disk_sure : Binds K fd_Disk_sure ["self", "number"] []
  m_Disk_sure : Meth K c_Disk "sure" a_Disk_sure
  a_Disk_move_head : Addr
  fd_Disk_move_head : FuncData
  F_Disk_move_head : Fun K "move_head" "Disk.move_head" s_Disk_move_head a_Disk_move_head fd_Disk_move_head
  b_Disk_move_head : Binds K fd_Disk_move_head ["self", "p"] []
  m_Disk_move_head : Meth K c_Disk "move_head" a_Disk_move_head
  a_Plan_init : Addr
  fd_Plan_init : FuncData
  F_Plan_init : Fun K "__init__" "Plan.__init__" s_Plan_init a_Plan_init fd_Plan_init
  b_Plan_init : KBn K fd_Plan_init ["self", "blocks", "nodes", "slots"] 2 ["nodes", "slots"] (fun us ws => us ++ ws) (fun vs zs => vs ++ zs)
  m_Plan_init : Mk K c_Plan a_Plan_init
  n_abs : mg "abs" = none
  n_all : mg "all" = none
  n_bool : mg "bool" = none
  n_enumerate : mg "enumerate" = none
  n_int : mg "int" = none
  n_isinstance : mg "isinstance" = none
  n_len : mg "len" = none
  n_list : mg "list" = none
  n_max : mg "max" = none
  n_range : mg "range" = none
  n_tuple : mg "tuple" = none
  t_MOST_CELL : Tok
  g_MOST_CELL : mg "MOST_CELL" = some (.int 999999999 t_MOST_CELL)
  t_MOST_LOT : Tok
  g_MOST_LOT : mg "MOST_LOT" = some (.int 999999 t_MOST_LOT)
  t_LAST_BLOCK : Tok
  g_LAST_BLOCK : mg "LAST_BLOCK" = some (.int 63 t_LAST_BLOCK)
  t_LAST_SLOT : Tok
  g_LAST_SLOT : mg "LAST_SLOT" = some (.int 199 t_LAST_SLOT)
  t_NO_SLOT : Tok
  g_NO_SLOT : mg "NO_SLOT" = some (.int (-1) t_NO_SLOT)
def fl_Plan (v0 v1 v2 v3 v4 v5 : V) : List (Str × V) := [("blocks", v0), ("nodes", v1), ("slots", v2), ("maps", v3), ("first_node", v4), ("first_data", v5)]
section
variable {v0 v1 v2 v3 v4 v5 y : V}
theorem lk_Plan_blocks : (fl_Plan v0 v1 v2 v3 v4 v5).lookup ("blocks" : Str) = some v0 := by kernel_rfl
theorem pt_Plan_blocks : putF "blocks" y (fl_Plan v0 v1 v2 v3 v4 v5) = fl_Plan y v1 v2 v3 v4 v5 := by kernel_rfl
theorem lk_Plan_nodes : (fl_Plan v0 v1 v2 v3 v4 v5).lookup ("nodes" : Str) = some v1 := by kernel_rfl
theorem pt_Plan_nodes : putF "nodes" y (fl_Plan v0 v1 v2 v3 v4 v5) = fl_Plan v0 y v2 v3 v4 v5 := by kernel_rfl
theorem lk_Plan_slots : (fl_Plan v0 v1 v2 v3 v4 v5).lookup ("slots" : Str) = some v2 := by kernel_rfl
theorem pt_Plan_slots : putF "slots" y (fl_Plan v0 v1 v2 v3 v4 v5) = fl_Plan v0 v1 y v3 v4 v5 := by kernel_rfl
theorem lk_Plan_maps : (fl_Plan v0 v1 v2 v3 v4 v5).lookup ("maps" : Str) = some v3 := by kernel_rfl
theorem pt_Plan_maps : putF "maps" y (fl_Plan v0 v1 v2 v3 v4 v5) = fl_Plan v0 v1 v2 y v4 v5 := by kernel_rfl
theorem lk_Plan_first_node : (fl_Plan v0 v1 v2 v3 v4 v5).lookup ("first_node" : Str) = some v4 := by kernel_rfl
theorem pt_Plan_first_node : putF "first_node" y (fl_Plan v0 v1 v2 v3 v4 v5) = fl_Plan v0 v1 v2 v3 y v5 := by kernel_rfl
theorem lk_Plan_first_data : (fl_Plan v0 v1 v2 v3 v4 v5).lookup ("first_data" : Str) = some v5 := by kernel_rfl
theorem pt_Plan_first_data : putF "first_data" y (fl_Plan v0 v1 v2 v3 v4 v5) = fl_Plan v0 v1 v2 v3 v4 y := by kernel_rfl
theorem ini_Plan : putF "first_data" v5 (putF "first_node" v4 (putF "maps" v3 (putF "slots" v2 (putF "nodes" v1 (putF "blocks" v0 ([])))))) = fl_Plan v0 v1 v2 v3 v4 v5 := by kernel_rfl
theorem len_Plan : (fl_Plan v0 v1 v2 v3 v4 v5).length < 1000 := by show 6 < 1000; decide
end
def fl_Disk (v0 v1 v2 v3 v4 v5 : V) : List (Str × V) := [("plan", v0), ("home", v1), ("log", v2), ("head", v3), ("last", v4), ("_writes", v5)]
section
variable {v0 v1 v2 v3 v4 v5 y : V}
theorem lk_Disk_plan : (fl_Disk v0 v1 v2 v3 v4 v5).lookup ("plan" : Str) = some v0 := by kernel_rfl
theorem pt_Disk_plan : putF "plan" y (fl_Disk v0 v1 v2 v3 v4 v5) = fl_Disk y v1 v2 v3 v4 v5 := by kernel_rfl
theorem lk_Disk_home : (fl_Disk v0 v1 v2 v3 v4 v5).lookup ("home" : Str) = some v1 := by kernel_rfl
theorem pt_Disk_home : putF "home" y (fl_Disk v0 v1 v2 v3 v4 v5) = fl_Disk v0 y v2 v3 v4 v5 := by kernel_rfl
theorem lk_Disk_log : (fl_Disk v0 v1 v2 v3 v4 v5).lookup ("log" : Str) = some v2 := by kernel_rfl
theorem pt_Disk_log : putF "log" y (fl_Disk v0 v1 v2 v3 v4 v5) = fl_Disk v0 v1 y v3 v4 v5 := by kernel_rfl
theorem lk_Disk_head : (fl_Disk v0 v1 v2 v3 v4 v5).lookup ("head" : Str) = some v3 := by kernel_rfl
theorem pt_Disk_head : putF "head" y (fl_Disk v0 v1 v2 v3 v4 v5) = fl_Disk v0 v1 v2 y v4 v5 := by kernel_rfl
theorem lk_Disk_last : (fl_Disk v0 v1 v2 v3 v4 v5).lookup ("last" : Str) = some v4 := by kernel_rfl
theorem pt_Disk_last : putF "last" y (fl_Disk v0 v1 v2 v3 v4 v5) = fl_Disk v0 v1 v2 v3 y v5 := by kernel_rfl
theorem lk_Disk_writes : (fl_Disk v0 v1 v2 v3 v4 v5).lookup ("_writes" : Str) = some v5 := by kernel_rfl
theorem pt_Disk_writes : putF "_writes" y (fl_Disk v0 v1 v2 v3 v4 v5) = fl_Disk v0 v1 v2 v3 v4 y := by kernel_rfl
theorem no_Disk_issue : (fl_Disk v0 v1 v2 v3 v4 v5).lookup ("issue" : Str) = none := by kernel_rfl
theorem no_Disk_busy : (fl_Disk v0 v1 v2 v3 v4 v5).lookup ("busy" : Str) = none := by kernel_rfl
theorem no_Disk_put : (fl_Disk v0 v1 v2 v3 v4 v5).lookup ("_put" : Str) = none := by kernel_rfl
theorem no_Disk_sure : (fl_Disk v0 v1 v2 v3 v4 v5).lookup ("sure" : Str) = none := by kernel_rfl
theorem no_Disk_move_head : (fl_Disk v0 v1 v2 v3 v4 v5).lookup ("move_head" : Str) = none := by kernel_rfl
theorem ini_Disk : putF "_writes" v5 (putF "last" v4 (putF "head" v3 (putF "log" v2 (putF "home" v1 (putF "plan" v0 ([])))))) = fl_Disk v0 v1 v2 v3 v4 v5 := by kernel_rfl
theorem len_Disk : (fl_Disk v0 v1 v2 v3 v4 v5).length < 1000 := by show 6 < 1000; decide
end
/-! the drawn row, and what is drawn of it -/
def Feed (fs : List Int) : Prop := fs.length ≤ 5000 ∧ ∀ x ∈ fs, 0 ≤ x ∧ x < 1000000
theorem Feed.tail {x : Int} {fs : List Int} (h : Feed (x :: fs)) : Feed fs := ⟨by have := h.1; simp at this; omega, fun y hy => h.2 y (List.mem_cons_of_mem _ hy)⟩
def sp_law_feed (K : PySem.W.Frag) : Sp := fun vs H Q _ => ∃ (a : Addr) (ns : List Int), vs = [.ref a] ∧ SqL K H a (ns.map V.int) ∧ ns.length ≤ 63 ∧
  ∀ H' p fs, Fr [] H H' → H p = none → H' p = some (.lst (fs.map V.int)) → Feed fs → Q (.ref p) H'
def sp_law_pick : Sp := fun vs H Q _ => ∃ (a : Addr) (fs : List Int) (n : Int), vs = [.ref a, .int n] ∧ H a = some (.lst (fs.map V.int)) ∧ Feed fs ∧ 0 < n ∧
  ∀ H' r fs', Fr [a] H H' → H' a = some (.lst (fs'.map V.int)) → Feed fs' → 0 ≤ r → r < n → Q (.int r) H'
section
variable {P : Program} {w : World} {K : PySem.W.Frag} {mg : Str → Option Value} {base : Heap}
theorem mem_app1 {P : Int → Prop} {fs : List Int} {y : Int} (h : ∀ x ∈ fs, P x) (hy : P y) : ∀ x ∈ fs ++ [y], P x := fun x hx => by
  rcases List.mem_append.mp hx with q | q
  · exact h x q
  · rw [List.mem_singleton.mp q]
    exact hy
theorem map_app1 {fs : List Int} {y : Int} : fs.map V.int ++ [V.int y] = (fs ++ [y]).map V.int := by simp
theorem ok_law_feed (T : Txt K mg) : FnOk P w K mg base CX0 1 T.a_law_feed T.fd_law_feed ["_law_script"] (sp_law_feed K) := by
  refine T.F_law_feed.ok sc_law_feed (fun vs H Q E h => ?_) (fun cdv A outer s H vs Q E hr h => ?_)
  · obtain ⟨a, ns, rfl, _⟩ := h
    rfl
  · obtain ⟨a, ns, rfl, hS, hl, k⟩ := h
    refine ⟨_, (pss_cons (ps_set (i := 1) sc_law_feed.nd rfl (Or.inl rfl) (pe_lst pa_nil))
        (pss_cons (ps_for PassesOwn.never rfl (pi_list (pv 0)) (pg_name (i := 2) sc_law_feed.nd rfl (Or.inl rfl))
        (pss_cons (ps_set (i := 3) sc_law_feed.nd rfl (Or.inl rfl) (pe_callB call_abs (by rfl) T.n_abs (by decide +kernel) (pa_cons (pv 2) pa_nil)))
        (C8.pss_cut (ps_if (pt_cmpR op_lt (pv 3) (pe_op op_pow pe_int pe_int) (nomark _)) (pss_cons (ps_set (i := 3) sc_law_feed.nd rfl (Or.inl rfl) (pe_op op_mod (pe_callTy call_int1 (by rfl) T.n_int (by decide +kernel) (pa_cons (pe_op op_add (pe_op op_mul (pv 3) pe_int) pe_int) pa_nil)) pe_int))
        (pss_cons (ps_expr (pe_bm PySem.F.plainAttrs_list PySem.F.slot_list_append PySem.F.type_list_append mt_append (pv 1) (pa_cons (pe_op op_mod (pe_callTy call_int1 (by rfl) T.n_int (by decide +kernel) (pa_cons (pe_op op_add (pe_op op_mul (pv 3) pe_int) pe_int) pa_nil)) pe_int) pa_nil)))
        (pss_one (ps_set (i := 3) sc_law_feed.nd rfl (Or.inl rfl) pe_int)))) pss_nil)
        (pss_one (ps_for PassesOwn.never rfl (pi_range1 rfl T.n_range (pa_cons pe_int pa_nil)) (pg_name (i := 4) sc_law_feed.nd rfl (Or.inl rfl))
        (pss_one (ps_if (pt_cmpR op_gt (pv 3) pe_int (nomark _)) (pss_cons (ps_expr (pe_bm PySem.F.plainAttrs_list PySem.F.slot_list_append PySem.F.type_list_append mt_append (pv 1) (pa_cons (pe_op op_mod (pe_callTy call_int1 (by rfl) T.n_int (by decide +kernel) (pa_cons (pv 3) pa_nil)) pe_int) pa_nil)))
        (pss_one (ps_set (i := 3) sc_law_feed.nd rfl (Or.inl rfl) (pe_op op_fdiv (pv 3) pe_int)))) pss_nil)))))))
        (pss_one (ps_ret (pv 1))))), ?_⟩
    refine ⟨by decide, fun p np => ?_⟩
    generalize hH : upd H p _ = H1
    obtain ⟨f1, h1⟩ := gen_new np hH
    refine ⟨_, rfl, a, rfl, ⟨_, f1.seq0 hS⟩, for_list (K := K) (a := a) (xs := ns.map V.int) (fun i σ H2 => ∃ (fs : List Int) (u v x : Option V), σ = [some (.ref a), some (.ref p), u, v, x] ∧ Fr [] H H2 ∧ H2 p = some (.lst (fs.map V.int)) ∧ fs.length ≤ 61 * i ∧ ∀ x ∈ fs, 0 ≤ x ∧ x < 1000000) ?_ ?_ ?_ ?_⟩
    · exact ⟨[], none, none, none, rfl, f1, h1, by simp, by simp⟩
    · rintro i σ H2 _ ⟨fs, u, v, x, rfl, f2, _⟩
      exact f2.seq0 hS
    · rintro i y σ H2 hi ⟨fs, u, v, x, rfl, f2, h2, hf, hb⟩
      obtain ⟨z, hz, rfl⟩ := map_get hi
      have hil := getq_lt hz
      refine ⟨_, rfl, _, rfl, ?_⟩
      have hr0 : 0 ≤ (if z < 0 then -z else z) := by split <;> omega
      generalize (if z < 0 then -z else z) = r at hr0
      refine ⟨fun σ H3 => ∃ (r : Int) (fs : List Int), σ = [some (.ref a), some (.ref p), some (.int z), some (.int r), x] ∧ Fr [] H H3 ∧ H3 p = some (.lst (fs.map V.int)) ∧ 0 ≤ r ∧ fs.length ≤ 61 * i + 1 ∧ ∀ x ∈ fs, 0 ≤ x ∧ x < 1000000, ?_, ?_⟩
      · refine ⟨_, rfl, _, _, rfl, rfl, ⟨by decide, by decide, by decide⟩, _, _, rfl, rfl, _, rfl, ?_⟩
        refine ite2 (fun c => ?_) (fun c => ?_)
        · refine ⟨_, rfl, _, _, rfl, rfl, .inr ⟨by decide, by decide⟩, _, _, rfl, rfl, .inl ⟨_, rfl, _, _, rfl, rfl, (by show (0 : Int) < 2147483647; decide), ?_⟩⟩
          refine ⟨_, rfl, .inl ⟨rfl, _, sq h2⟩, _, rfl, _, _, rfl, rfl, .inr ⟨by decide, by decide⟩, _, _, rfl, rfl, .inl ⟨_, rfl, _, _, rfl, rfl, (by show (0 : Int) < 999983; decide), p, _, _, rfl, rfl, h2, sz (by simp; omega), ?_⟩⟩
          generalize hH3 : upd H2 p _ = H3
          obtain ⟨f3, h3⟩ := gen_upd hH3
          rw [map_app1] at h3
          refine ⟨0, _, rfl, f2.up1 f3 (.inr np), h3, by decide, by simp; omega, mem_app1 hb ?_⟩
          exact ⟨Int.emod_nonneg _ (by decide), Int.lt_trans (Int.emod_lt_of_pos _ (by decide)) (by decide)⟩
        · exact ⟨r, fs, rfl, f2, h2, hr0, by omega, hb⟩
      · rintro σ H3 ⟨r, fs, rfl, f3, h3, hr1, hf1, hb1⟩
        refine ⟨60, rfl, by decide, by decide, for_range (n := 60) (fun j σ H4 => ∃ (r : Int) (fs : List Int) (x : Option V), σ = [some (.ref a), some (.ref p), some (.int z), some (.int r), x] ∧ Fr [] H H4 ∧ H4 p = some (.lst (fs.map V.int)) ∧ 0 ≤ r ∧ fs.length ≤ 61 * i + 1 + j ∧ ∀ x ∈ fs, 0 ≤ x ∧ x < 1000000) ?_ ?_ ?_⟩
        · exact ⟨r, fs, x, rfl, f3, h3, hr1, by omega, hb1⟩
        · rintro j σ H4 hj ⟨r, fs, x, rfl, f4, h4, hr2, hf2, hb2⟩
          refine ⟨_, rfl, _, _, rfl, rfl, _, rfl, ?_⟩
          refine ite2 (fun c => ?_) (fun c => ?_)
          · refine ⟨_, rfl, .inl ⟨rfl, _, sq h4⟩, _, rfl, .inl ⟨_, rfl, _, _, rfl, rfl, (by show (0 : Int) < 1000; decide), p, _, _, rfl, rfl, h4, sz (by simp; omega), ?_⟩⟩
            generalize hH5 : upd H4 p _ = H5
            obtain ⟨f5, h5⟩ := gen_upd hH5
            rw [map_app1] at h5
            refine ⟨_, rfl, _, _, rfl, rfl, ⟨by decide, by decide⟩, _, _, _, rfl, f4.up1 f5 (.inr np), h5, Int.ediv_nonneg hr2 (by decide), by simp; omega, mem_app1 hb2 ?_⟩
            exact ⟨Int.emod_nonneg _ (by decide), Int.lt_trans (Int.emod_lt_of_pos _ (by decide)) (by decide)⟩
          · exact ⟨r, fs, _, rfl, f4, h4, hr2, by omega, hb2⟩
        · rintro σ H4 ⟨r, fs, x, rfl, f4, h4, hr2, hf2, hb2⟩
          exact ⟨fs, _, _, _, rfl, f4, h4, by omega, hb2⟩
    · rintro σ H2 ⟨fs, u, v, x, rfl, f2, h2, hf, hb⟩
      rw [List.length_map] at hf
      exact ⟨_, rfl, k H2 p fs f2 np h2 ⟨by omega, hb⟩⟩
theorem ok_law_pick (T : Txt K mg) : FnOk P w K mg base CX0 1 T.a_law_pick T.fd_law_pick ["_law_feed_here", "_law_limit"] sp_law_pick := by
  refine T.F_law_pick.ok sc_law_pick (fun vs H Q E h => ?_) (fun cdv A outer s H vs Q E hr h => ?_)
  · obtain ⟨a, fs, n, rfl, _⟩ := h
    rfl
  · obtain ⟨a, fs, n, rfl, h1, hf, hn, k⟩ := h
    refine ⟨_, (pss_cons (ps_if (pt_cmpR op_eq (pe_callB call_len_seq (by rfl) T.n_len (by decide +kernel) (pa_cons (pv 0) pa_nil)) pe_int (nomark _)) (pss_one (ps_ret pe_int)) pss_nil)
        (pss_one (ps_ret (pe_op op_mod (pe_callTy call_int1 (by rfl) T.n_int (by decide +kernel) (pa_cons (pe_bm PySem.F.plainAttrs_list PySem.F.slot_list_pop PySem.F.type_list_pop mt_popAt (pv 0) (pa_cons pe_int pa_nil)) pa_nil)) (pv 1))))), ?_⟩
    refine ⟨_, rfl, a, _, rfl, .inl (sq h1), rfl, _, rfl, ?_⟩
    cases fs with
    | nil => exact iteT (k H 0 [] (Fr.refl _ _) h1 hf (by decide) hn)
    | cons x fs =>
      refine iteF' (by simp; omega) ?_
      refine ⟨_, rfl, .inl ⟨rfl, _, sq h1⟩, a, _, 0, 0, _, rfl, rfl, h1, by decide, by decide, by simp [seqIndex?], rfl, .inl ⟨_, rfl, ?_⟩⟩
      refine ⟨_, rfl, _, _, rfl, rfl, hn, ?_⟩
      generalize hH3 : upd H a _ = H3
      obtain ⟨f3, h3⟩ := gen_upd hH3
      exact k H3 _ fs f3 h3 hf.tail (Int.emod_nonneg _ (by omega)) (Int.emod_lt_of_pos _ hn)
end
/-! types of sequences; is_within -/
theorem ty_tup {K : PySem.W.Frag} {H : Hp} {a : Addr} {xs : List V} (h : SqT K H a xs) : TyX K H (.ref a) (.type "tuple") := by
  rcases h with (h | ⟨o, h⟩) | ⟨o, its, n, h1, h2, _⟩
  · exact .base (.tup h)
  · exact .fTuple h
  · exact .kTuple h1 h2
theorem ty_lst {K : PySem.W.Frag} {H : Hp} {a : Addr} {xs : List V} (h : SqL K H a xs) : TyX K H (.ref a) (.type "list") := by
  rcases h with (h | ⟨o, h⟩) | ⟨o, its, n, h1, h2, _⟩
  · exact .base (.lst h)
  · exact .base (.frz h)
  · exact .kList h1 h2
def win (x lo hi : Int) : Bool := decide (lo ≤ x) && decide (x ≤ hi)
def sp_is_within : Sp := fun vs H Q _ => ∃ x lo hi : Int, vs = [.int x, .int lo, .int hi] ∧ Q (.bl (win x lo hi)) H
section
variable {P : Program} {w : World} {K : PySem.W.Frag} {mg : Str → Option Value} {base : Heap}
theorem ok_is_within (T : Txt K mg) : FnOk P w K mg base CX0 1 T.a_is_within T.fd_is_within ["part", "low", "high"] sp_is_within := by
  refine T.F_is_within.ok sc_is_within (fun vs H Q E h => ?_) (fun cdv A outer s H vs Q E hr h => ?_)
  · obtain ⟨x, lo, hi, rfl, _⟩ := h
    rfl
  · obtain ⟨x, lo, hi, rfl, k⟩ := h
    refine ⟨_, (pss_one (ps_ret (pe_and (pe_callB call_isi (by rfl) T.n_isinstance (by decide +kernel) (pa_cons (pv 0) (pa_cons (pe_bltn (v := .ty "int") (u := .type "int") (by rfl) T.n_int (by decide +kernel) rfl) pa_nil))) (pe_and (pe_not (pe_callB call_isi (by rfl) T.n_isinstance (by decide +kernel) (pa_cons (pv 0) (pa_cons (pe_bltn (v := .ty "bool") (u := .type "bool") (by rfl) T.n_bool (by decide +kernel) rfl) pa_nil)))) (pe_one (pe_chain op_le op_le (pv 1) (pv 0) (pv 2))))))), ?_⟩
    refine ⟨_, rfl, _, _, _, _, true, rfl, .ty "int", .base (.int x), kit_ty (by decide +kernel), _, rfl, iteT ?_⟩
    refine ⟨_, rfl, _, _, _, _, false, rfl, .ty "bool", .base (.int x), kit_ty (by decide +kernel), _, rfl, _, rfl, iteT ?_⟩
    refine ⟨_, rfl, _, rfl, _, _, rfl, rfl, _, rfl, ?_⟩
    unfold win at k
    refine ite2 (fun c => ?_) (fun c => ?_)
    · rw [c, Bool.true_and] at k
      exact ⟨_, rfl, _, _, rfl, rfl, k⟩
    · rw [Bool.eq_false_iff.mpr c, Bool.false_and] at k
      exact k
end

/-! records -/
inductive Rec where
  | copy (lot blk : Int) (cells : List Int)
  | mark (lot : Int) (cs : List (Int × Int)) (rs : List Int)
def PairAt (K : PySem.W.Frag) (H : Hp) (v : V) (p : Int × Int) : Prop := ∃ t, v = .ref t ∧ SqT K H t [.int p.1, .int p.2]
def RecAt (K : PySem.W.Frag) (H : Hp) (v : V) : Rec → Prop
  | .copy lot blk cells => ∃ a c, v = .ref a ∧ SqT K H a [.str "copy", .int lot, .int blk, .ref c] ∧ SqT K H c (cells.map V.int)
  | .mark lot cs rs => ∃ a c r ps, v = .ref a ∧ SqT K H a [.str "mark", .int lot, .ref c, .ref r] ∧ SqT K H c ps ∧ Paired (PairAt K H) ps cs ∧ SqT K H r (rs.map V.int)
theorem RecAt.ts {K : PySem.W.Frag} {H H' : Hp} {v : V} {r : Rec} (t : TS K H H') (h : RecAt K H v r) : RecAt K H' v r := by
  cases r with
  | copy lot blk cells =>
    obtain ⟨a, c, e, h1, h2⟩ := h
    exact ⟨a, c, e, t _ _ h1, t _ _ h2⟩
  | mark lot cs rs =>
    obtain ⟨a, c, r, ps, e, h1, h2, h3, h4⟩ := h
    exact ⟨a, c, r, ps, e, t _ _ h1, t _ _ h2, Paired.mapP h3 fun _ _ ⟨q, e, h⟩ => ⟨q, e, t _ _ h⟩, t _ _ h4⟩
def asc : Int → List Int → Bool
  | _, [] => true
  | l, b :: bs => win b (l + 1) 63 && asc b bs
def rowOk (ns : List Int) : Bool := decide (ns.length = 8) && ns.all fun n => win n 0 999999999
def cpsOk (cs : List (Int × Int)) : Bool := cs.all (fun p => win p.2 (-1) 199) && asc (-1) (cs.map (·.1))
def recOk : Rec → Bool
  | .copy lot blk cells => win lot 1 999999 && (win blk 0 63 && rowOk cells)
  | .mark lot cs rs => win lot 1 999999 && (cpsOk cs && asc (-1) rs)
def sp_is_row_of_cells (K : PySem.W.Frag) : Sp := fun vs H Q _ => ∃ (a : Addr) (ns : List Int), vs = [.ref a] ∧ SqT K H a (ns.map V.int) ∧ ns.length ≤ 1000 ∧ ∀ H', Fr [] H H' → Q (.bl (rowOk ns)) H'
def sp_are_blocks (K : PySem.W.Frag) : Sp := fun vs H Q _ => ∃ (a : Addr) (ns : List Int), vs = [.ref a] ∧ SqT K H a (ns.map V.int) ∧ Q (.bl (asc (-1) ns)) H
def sp_are_copies (K : PySem.W.Frag) : Sp := fun vs H Q _ => ∃ (a : Addr) (ps : List V) (cs : List (Int × Int)), vs = [.ref a] ∧ SqT K H a ps ∧ Paired (PairAt K H) ps cs ∧ cs.length ≤ 1000 ∧ ∀ H', Fr [] H H' → Q (.bl (cpsOk cs)) H'
section
variable {P : Program} {w : World} {K : PySem.W.Frag} {mg : Str → Option Value} {base : Heap}
theorem ok_is_row_of_cells (T : Txt K mg) : FnOk P w K mg base CX0 2 T.a_is_row_of_cells T.fd_is_row_of_cells ["part"] (sp_is_row_of_cells K) := by
  refine T.F_is_row_of_cells.ok sc_is_row_of_cells (fun vs H Q E h => ?_) (fun cdv A outer s H vs Q E hr h => ?_)
  · obtain ⟨a, ns, rfl, _⟩ := h
    rfl
  · obtain ⟨a, ns, rfl, h0, hl, k⟩ := h
    refine ⟨_, (pss_cons (ps_if (PW.pt (pw_or (pt_not (pt_val (pe_callB call_isi (by rfl) T.n_isinstance (by decide +kernel) (pa_cons (pv 0) (pa_cons (pe_bltn (v := .ty "tuple") (u := .type "tuple") (by rfl) T.n_tuple (by decide +kernel) rfl) pa_nil))))) (pw_or1 (pt_cmpR op_ne (pe_callB call_len_seq (by rfl) T.n_len (by decide +kernel) (pa_cons (pv 0) pa_nil)) pe_int (nomark _))))) (pss_one (ps_ret pe_bl)) pss_nil)
        (pss_one (ps_ret (pe_callB (cr_all rfl) (by rfl) T.n_all (by decide +kernel) (pa_cons (pe_lc (own := [("cell", 1)]) (g := gName 1) (tt := tYes) (by rfl) sc_is_row_of_cells.nd (pi_tup (pv 0)) (blkOk_by (own := [("cell", 1)]) (N := N_is_row_of_cells) (sc := defScope s_is_row_of_cells) (by decide +kernel)) (fun _ _ _ _ _ => pg_name (i := 1) sc_is_row_of_cells.nd rfl (Or.inl rfl)) (fun _ _ _ _ _ => pts_nil) (fun _ _ _ _ _ => (pe_call (ok_is_within T) (hr.mono (by decide)) rfl T.m_is_within T.F_is_within.kp T.b_is_within .nil pass0 (pa_cons (pv 1) (pa_cons pe_int (pa_cons (pe_glob (v := .int 999999999) rfl T.g_MOST_CELL ⟨_, rfl⟩) pa_nil)))))) pa_nil))))), ?_⟩
    refine ⟨_, rfl, _, _, _, _, true, rfl, .ty "tuple", ty_tup h0, kit_ty (by decide +kernel), _, rfl, iteF ?_⟩
    refine ⟨_, rfl, a, _, rfl, .inr h0, rfl, _, rfl, ?_⟩
    unfold rowOk at k
    refine ite2 (fun c => ?_) (fun c => ?_)
    · have c1 : ¬ ns.length = 8 := fun q => by
        rw [List.length_map, q] at c
        revert c
        decide
      rw [decide_eq_false c1, Bool.false_and] at k
      exact k H (Fr.refl _ _)
    · have c1 : ns.length = 8 := by
        rw [List.length_map] at c
        by_cases q : ((ns.length : Nat) : Int) = 8
        · omega
        · exact absurd (by rw [decide_eq_false fun e => q (V.int.inj e)]; rfl) c
      rw [decide_eq_true c1, Bool.true_and] at k
      refine ⟨_, rfl, a, rfl, ⟨_, h0⟩, fun D nD => lc_tup (K := K) (a := a) (xs := ns.map V.int) (fun i H3 => Fr [] H H3 ∧ H3 D = some (.lst (((ns.take i).map fun n => win n 0 999999999).map V.bl))) ?_ ?_ ?_ ?_⟩
      · exact ⟨Fr.new nD, upd_same⟩
      · rintro i H3 _ ⟨f3, _⟩
        exact f3.tup0 h0
      · rintro i y H3 hi ⟨f3, h3⟩
        obtain ⟨n, hn, rfl⟩ := map_get hi
        refine ⟨rfl, _, rfl, n, 0, 999999999, rfl, _, h3, sz (by simp; omega), ?_⟩
        refine ⟨f3.up1 Fr.mut (.inr nD), ?_⟩
        rw [upd_same, List.take_add_one, hn]
        simp
      · rintro H3 ⟨f3, h3⟩
        rw [List.length_map, List.take_length] at h3
        refine ⟨D, _, rfl, sq h3, ?_⟩
        rw [List.all_map]
        exact k H3 f3
theorem ok_are_blocks (T : Txt K mg) : FnOk P w K mg base CX0 2 T.a_are_blocks T.fd_are_blocks ["part"] (sp_are_blocks K) := by
  refine T.F_are_blocks.ok sc_are_blocks (fun vs H Q E h => ?_) (fun cdv A outer s H vs Q E hr h => ?_)
  · obtain ⟨a, ns, rfl, _⟩ := h
    rfl
  · obtain ⟨a, ns, rfl, h0, k⟩ := h
    refine ⟨_, (pss_cons (ps_if (pt_not (pt_val (pe_callB call_isi (by rfl) T.n_isinstance (by decide +kernel) (pa_cons (pv 0) (pa_cons (pe_bltn (v := .ty "tuple") (u := .type "tuple") (by rfl) T.n_tuple (by decide +kernel) rfl) pa_nil))))) (pss_one (ps_ret pe_bl)) pss_nil)
        (pss_cons (ps_set (i := 1) sc_are_blocks.nd rfl (Or.inl rfl) (pe_un un_neg pe_int))
        (pss_cons (ps_for PassesOwn.never rfl (pi_tup (pv 0)) (pg_name (i := 2) sc_are_blocks.nd rfl (Or.inl rfl))
        (pss_cons (ps_if (pt_not (pt_val (pe_call (ok_is_within T) (hr.mono (by decide)) rfl T.m_is_within T.F_is_within.kp T.b_is_within .nil pass0 (pa_cons (pv 2) (pa_cons (pe_op op_add (pv 1) pe_int) (pa_cons (pe_glob (v := .int 63) rfl T.g_LAST_BLOCK ⟨_, rfl⟩) pa_nil)))))) (pss_one (ps_ret pe_bl)) pss_nil)
        (pss_one (ps_set (i := 1) sc_are_blocks.nd rfl (Or.inl rfl) (pv 2)))))
        (pss_one (ps_ret pe_bl))))), ?_⟩
    refine ⟨_, rfl, _, _, _, _, true, rfl, .ty "tuple", ty_tup h0, kit_ty (by decide +kernel), _, rfl, iteF ?_⟩
    refine ⟨_, rfl, _, rfl, a, rfl, ⟨_, h0⟩, for_tup (K := K) (a := a) (xs := ns.map V.int) (fun i σ H2 => H = H2 ∧ ∃ (l : Int) (x : Option V), σ = [some (.ref a), some (.int l), x] ∧ asc l (ns.drop i) = asc (-1) ns) ?_ ?_ ?_ ?_⟩
    · exact ⟨rfl, -1, _, rfl, rfl⟩
    · rintro i σ H2 _ ⟨rfl, _⟩
      exact h0
    · rintro i y σ H2 hi ⟨rfl, l, x, rfl, hd⟩
      obtain ⟨n, hn, rfl⟩ := map_get hi
      rw [drop_at hn, asc] at hd
      refine ⟨_, rfl, _, rfl, _, _, rfl, rfl, n, l + 1, 63, rfl, _, rfl, ?_⟩
      cases e : win n (l + 1) 63 with
      | true =>
        rw [e, Bool.true_and] at hd
        exact iteF ⟨_, rfl, rfl, n, _, rfl, hd⟩
      | false =>
        rw [e, Bool.false_and] at hd
        rw [← hd] at k
        exact iteT k
    · rintro σ H2 ⟨rfl, l, x, rfl, hd⟩
      rw [List.length_map, List.drop_length, asc] at hd
      rw [← hd] at k
      exact k
theorem ok_are_copies (T : Txt K mg) : FnOk P w K mg base CX0 3 T.a_are_copies T.fd_are_copies ["part"] (sp_are_copies K) := by
  refine T.F_are_copies.ok sc_are_copies (fun vs H Q E h => ?_) (fun cdv A outer s H vs Q E hr h => ?_)
  · obtain ⟨a, ps, cs, rfl, _⟩ := h
    rfl
  · obtain ⟨a, ps, cs, rfl, h0, hp, hl, k⟩ := h
    have hlen := hp.length
    refine ⟨_, (pss_cons (ps_if (pt_not (pt_val (pe_callB call_isi (by rfl) T.n_isinstance (by decide +kernel) (pa_cons (pv 0) (pa_cons (pe_bltn (v := .ty "tuple") (u := .type "tuple") (by rfl) T.n_tuple (by decide +kernel) rfl) pa_nil))))) (pss_one (ps_ret pe_bl)) pss_nil)
        (pss_cons (ps_for PassesOwn.never rfl (pi_tup (pv 0)) (pg_name (i := 1) sc_are_copies.nd rfl (Or.inl rfl))
        (pss_one (ps_if (PW.pt (pw_or (pt_not (pt_val (pe_callB call_isi (by rfl) T.n_isinstance (by decide +kernel) (pa_cons (pv 1) (pa_cons (pe_bltn (v := .ty "tuple") (u := .type "tuple") (by rfl) T.n_tuple (by decide +kernel) rfl) pa_nil))))) (pw_or (pt_cmpR op_ne (pe_callB call_len_seq (by rfl) T.n_len (by decide +kernel) (pa_cons (pv 1) pa_nil)) pe_int (nomark _)) (pw_or1 (pt_not (pt_val (pe_call (ok_is_within T) (hr.mono (by decide)) rfl T.m_is_within T.F_is_within.kp T.b_is_within .nil pass0 (pa_cons (pe_ix ix_tup (pv 1) pe_int (fun _ _ => rfl)) (pa_cons (pe_glob (v := .int (-1)) rfl T.g_NO_SLOT ⟨_, rfl⟩) (pa_cons (pe_glob (v := .int 199) rfl T.g_LAST_SLOT ⟨_, rfl⟩) pa_nil)))))))))) (pss_one (ps_ret pe_bl)) pss_nil)))
        (pss_one (ps_ret (pe_call (ok_are_blocks T) (hr.mono (by decide)) rfl T.m_are_blocks T.F_are_blocks.kp T.b_are_blocks .nil pass0 (pa_cons (pe_callTy call_tuple_of (by rfl) T.n_tuple (by decide +kernel) (pa_cons (pe_lc (own := [("pair", 1)]) (g := gName 1) (tt := tYes) (by rfl) sc_are_copies.nd (pi_tup (pv 0)) (blkOk_by (own := [("pair", 1)]) (N := N_are_copies) (sc := defScope s_are_copies) (by decide +kernel)) (fun _ _ _ _ _ => pg_name (i := 1) sc_are_copies.nd rfl (Or.inl rfl)) (fun _ _ _ _ _ => pts_nil) (fun _ _ _ _ _ => (pe_ix (show IxR _ (rIxT K) from ix_tup) (pv 1) pe_int (fun _ _ => rfl)))) pa_nil)) pa_nil)))))), ?_⟩
    refine ⟨_, rfl, _, _, _, _, true, rfl, .ty "tuple", ty_tup h0, kit_ty (by decide +kernel), _, rfl, iteF ?_⟩
    unfold cpsOk at k
    refine ⟨_, rfl, a, rfl, ⟨_, h0⟩, for_tup (K := K) (a := a) (xs := ps) (fun i σ H2 => H = H2 ∧ ∃ (x : Option V), σ = [some (.ref a), x] ∧ (cs.drop i).all (fun p => win p.2 (-1) 199) = cs.all (fun p => win p.2 (-1) 199)) ?_ ?_ ?_ ?_⟩
    · exact ⟨rfl, _, rfl, rfl⟩
    · rintro i σ H2 _ ⟨rfl, _⟩
      exact h0
    · rintro i y σ H2 hi ⟨rfl, x, rfl, hd⟩
      obtain ⟨p, hp1, t, rfl, ht⟩ := paired_get hp hi
      rw [drop_at hp1, List.all_cons] at hd
      refine ⟨_, rfl, _, _, _, _, true, rfl, .ty "tuple", ty_tup ht, kit_ty (by decide +kernel), _, rfl, iteF ?_⟩
      refine ⟨_, rfl, t, _, rfl, .inr ht, rfl, _, rfl, iteF ?_⟩
      refine ⟨_, rfl, t, _, 1, _, rfl, rfl, ht, rfl, p.2, -1, 199, rfl, _, rfl, ?_⟩
      cases e : win p.2 (-1) 199 with
      | true =>
        rw [e, Bool.true_and] at hd
        exact iteF ⟨rfl, _, rfl, hd⟩
      | false =>
        rw [e, Bool.false_and] at hd
        rw [← hd, Bool.false_and] at k
        exact iteT (k _ (Fr.refl _ _))
    · rintro σ H2 ⟨rfl, x, rfl, hd⟩
      rw [hlen, List.drop_length, List.all_nil] at hd
      rw [← hd, Bool.true_and] at k
      refine ⟨_, rfl, a, rfl, ⟨_, h0⟩, fun D nD => lc_tup (K := K) (a := a) (xs := ps) (fun i H3 => Fr [] H H3 ∧ H3 D = some (.lst (((cs.take i).map (·.1)).map V.int))) ?_ ?_ ?_ ?_⟩
      · exact ⟨Fr.new nD, upd_same⟩
      · rintro i H3 _ ⟨f3, _⟩
        exact f3.tup0 h0
      · rintro i y H3 hi ⟨f3, h3⟩
        obtain ⟨p, hp1, t, rfl, ht⟩ := paired_get hp hi
        refine ⟨rfl, _, rfl, t, _, 0, _, rfl, rfl, f3.tup0 ht, rfl, _, h3, sz (by simp; omega), ?_⟩
        refine ⟨f3.up1 Fr.mut (.inr nD), ?_⟩
        rw [upd_same, List.take_add_one, hp1]
        simp
      · rintro H3 ⟨f3, h3⟩
        rw [hlen, List.take_length] at h3
        refine ⟨D, _, rfl, .inl ⟨sq h3, fun q nq => ?_⟩⟩
        generalize hH : upd H3 q _ = H4
        obtain ⟨f4, h4⟩ := gen_new nq hH
        exact ⟨q, _, rfl, sqt h4, k H4 (f3.up0 f4)⟩
/-- a right record is let -/
def sp_check_record (K : PySem.W.Frag) : Sp := fun vs H Q _ => ∃ (v : V) (r : Rec), vs = [v] ∧ RecAt K H v r ∧ recOk r = true ∧ (∀ lot cs rs, r = .mark lot cs rs → cs.length ≤ 1000) ∧ ∀ H', Fr [] H H' → Q .non H'
theorem cm_ne : ¬ (("mark" : Str) = "copy") := by decide +kernel
theorem ok_check_record (T : Txt K mg) : FnOk P w K mg base CX0 4 T.a_check_record T.fd_check_record ["record"] (sp_check_record K) := by
  refine T.F_check_record.ok sc_check_record (fun vs H Q E h => ?_) (fun cdv A outer s H vs Q E hr h => ?_)
  · obtain ⟨v, r, rfl, _⟩ := h
    rfl
  · obtain ⟨v, r, rfl, h0, hk, hb, k⟩ := h
    refine ⟨_, (pss_cons (ps_if (PW.pt (pw_or (pt_not (pt_val (pe_callB call_isi (by rfl) T.n_isinstance (by decide +kernel) (pa_cons (pv 0) (pa_cons (pe_bltn (v := .ty "tuple") (u := .type "tuple") (by rfl) T.n_tuple (by decide +kernel) rfl) pa_nil))))) (pw_or (pt_cmpR op_ne (pe_callB call_len_seq (by rfl) T.n_len (by decide +kernel) (pa_cons (pv 0) pa_nil)) pe_int (nomark _)) (pw_or1 (pt_not (pt_val (pe_call (ok_is_within T) (hr.mono (by decide)) rfl T.m_is_within T.F_is_within.kp T.b_is_within .nil pass0 (pa_cons (pe_ix ix_tup (pv 0) pe_int (fun _ _ => rfl)) (pa_cons pe_int (pa_cons (pe_glob (v := .int 999999) rfl T.g_MOST_LOT ⟨_, rfl⟩) pa_nil)))))))))) (pss_one ps_never) pss_nil)
        (pss_cons (ps_set (i := 1) sc_check_record.nd rfl (Or.inl rfl) pe_bl)
        (pss_cons (ps_if (pt_cmpR op_eq (pe_ix ix_tup (pv 0) pe_int (fun _ _ => rfl)) pe_str (nomark _)) (pss_one (ps_set (i := 1) sc_check_record.nd rfl (Or.inl rfl) (pe_and (pe_call (ok_is_within T) (hr.mono (by decide)) rfl T.m_is_within T.F_is_within.kp T.b_is_within .nil pass0 (pa_cons (pe_ix ix_tup (pv 0) pe_int (fun _ _ => rfl)) (pa_cons pe_int (pa_cons (pe_glob (v := .int 63) rfl T.g_LAST_BLOCK ⟨_, rfl⟩) pa_nil)))) (pe_one (pe_call (ok_is_row_of_cells T) (hr.mono (by decide)) rfl T.m_is_row_of_cells T.F_is_row_of_cells.kp T.b_is_row_of_cells .nil pass0 (pa_cons (pe_ix ix_tup (pv 0) pe_int (fun _ _ => rfl)) pa_nil)))))) (pss_one (ps_if (pt_cmpR op_eq (pe_ix ix_tup (pv 0) pe_int (fun _ _ => rfl)) pe_str (nomark _)) (pss_one (ps_set (i := 1) sc_check_record.nd rfl (Or.inl rfl) (pe_and (pe_call (ok_are_copies T) (hr.mono (by decide)) rfl T.m_are_copies T.F_are_copies.kp T.b_are_copies .nil pass0 (pa_cons (pe_ix ix_tup (pv 0) pe_int (fun _ _ => rfl)) pa_nil)) (pe_one (pe_call (ok_are_blocks T) (hr.mono (by decide)) rfl T.m_are_blocks T.F_are_blocks.kp T.b_are_blocks .nil pass0 (pa_cons (pe_ix ix_tup (pv 0) pe_int (fun _ _ => rfl)) pa_nil)))))) pss_nil)))
        (pss_one (ps_if (pt_not (pt_val (pv 1))) (pss_one ps_never) pss_nil))))), ?_⟩
    cases r with
    | copy lot blk cells =>
      obtain ⟨a, c, rfl, h1, h2⟩ := h0
      simp only [recOk, Bool.and_eq_true] at hk
      have l8 : cells.length = 8 := by
        have := hk.2.2
        simp only [rowOk, Bool.and_eq_true, decide_eq_true_eq] at this
        exact this.1
      refine ⟨_, rfl, _, _, _, _, true, rfl, .ty "tuple", ty_tup h1, kit_ty (by decide +kernel), _, rfl, iteF ?_⟩
      refine ⟨_, rfl, a, _, rfl, .inr h1, rfl, _, rfl, iteF ?_⟩
      refine ⟨_, rfl, a, _, 1, _, rfl, rfl, h1, rfl, lot, 1, 999999, rfl, _, rfl, iteF' (by rw [hk.1]; rfl) ?_⟩
      refine ⟨_, rfl, a, _, 0, _, rfl, rfl, h1, rfl, rfl, _, rfl, iteT' (by decide +kernel) ?_⟩
      refine ⟨_, rfl, a, _, 2, _, rfl, rfl, h1, rfl, blk, 0, 63, rfl, _, rfl, iteT' hk.2.1 ?_⟩
      refine ⟨_, rfl, a, _, 3, _, rfl, rfl, h1, rfl, c, cells, rfl, h2, by omega, fun H2 f2 => ?_⟩
      refine ⟨_, rfl, _, rfl, iteF' (by rw [hk.2.2]; rfl) ?_⟩
      exact k H2 f2
    | mark lot cs rs =>
      obtain ⟨a, c, r, ps, rfl, h1, h2, h3, h4⟩ := h0
      simp only [recOk, Bool.and_eq_true] at hk
      refine ⟨_, rfl, _, _, _, _, true, rfl, .ty "tuple", ty_tup h1, kit_ty (by decide +kernel), _, rfl, iteF ?_⟩
      refine ⟨_, rfl, a, _, rfl, .inr h1, rfl, _, rfl, iteF ?_⟩
      refine ⟨_, rfl, a, _, 1, _, rfl, rfl, h1, rfl, lot, 1, 999999, rfl, _, rfl, iteF' (by rw [hk.1]; rfl) ?_⟩
      refine ⟨_, rfl, a, _, 0, _, rfl, rfl, h1, rfl, rfl, _, rfl, iteF' (by rw [dec_str, decide_eq_false cm_ne]) ?_⟩
      refine ⟨_, rfl, a, _, 0, _, rfl, rfl, h1, rfl, rfl, _, rfl, iteT' (by decide +kernel) ?_⟩
      refine ⟨_, rfl, a, _, 2, _, rfl, rfl, h1, rfl, c, ps, cs, rfl, h2, h3, hb _ _ _ rfl, fun H2 f2 => ⟨_, rfl, iteT' hk.2.1 ?_⟩⟩
      refine ⟨_, rfl, a, _, 3, _, rfl, rfl, f2.tup0 h1, rfl, r, rs, rfl, f2.tup0 h4, ?_⟩
      refine ⟨_, rfl, _, rfl, iteF' (by rw [hk.2.2]; rfl) ?_⟩
      exact k H2 f2
end
/-! records as data -/
def Rec.data : Rec → PyData
  | .copy lot blk cells => .tuple [.str "copy", .int lot, .int blk, .tuple (cells.map PyData.int)]
  | .mark lot cs rs => .tuple [.str "mark", .int lot, .tuple (cs.map fun p => .tuple [.int p.1, .int p.2]), .tuple (rs.map PyData.int)]
theorem RecAt.dp {K : PySem.W.Frag} {H : Hp} {v : V} {r : Rec} (h : RecAt K H v r) : Dp K H v r.data := by
  cases r with
  | copy lot blk cells =>
    obtain ⟨a, c, rfl, h1, h2⟩ := h
    exact .tup h1 (.cons (.str _) (.cons (.int _) (.cons (.int _) (.cons (.tup h2 (dp_ints _)) .nil))))
  | mark lot cs rs =>
    obtain ⟨a, c, r, ps, rfl, h1, h2, h3, h4⟩ := h
    refine .tup h1 (.cons (.str _) (.cons (.int _) (.cons (.tup h2 (dp_paired (fun v p q => ?_) h3)) (.cons (.tup h4 (dp_ints _)) .nil))))
    obtain ⟨t, rfl, ht⟩ := q
    exact .tup ht (.cons (.int _) (.cons (.int _) .nil))
theorem Rec.sh (r : Rec) : Sh 4 r.data := by
  cases r with
  | copy lot blk cells =>
    exact .tup (.cons (.str (by decide +kernel)) (.cons (.int _) (.cons (.int _) (.cons ((Sh.tup (n := 0) (.map fun _ => .int _)).mono (by decide)) .nil))))
  | mark lot cs rs =>
    exact .tup (.cons (.str (by decide +kernel)) (.cons (.int _) (.cons ((Sh.tup (n := 1) (.map fun _ => .tup (n := 0) (.cons (.int _) (.cons (.int _) .nil)))).mono (by decide)) (.cons ((Sh.tup (n := 0) (.map fun _ => .int _)).mono (by decide)) .nil))))
/-! the plan and the disk -/
def PlanAt {K : PySem.W.Frag} {mg : Str → Option Value} (T : Txt K mg) (H : Hp) (pl : Addr) (b n s : Int) : Prop :=
  ∃ dx, H pl = some (.ins T.c_Plan dx (fl_Plan (.int b) (.int n) (.int s) (.int ((b + 7) / 8)) (.int (2 + (b + 7) / 8)) (.int (2 + (b + 7) / 8 + n))))
def OptRec (K : PySem.W.Frag) (H : Hp) (v : V) : Option Rec → Prop
  | none => v = .non
  | some r => RecAt K H v r
theorem OptRec.ts {K : PySem.W.Frag} {H H' : Hp} {v : V} {r : Option Rec} (t : TS K H H') (h : OptRec K H v r) : OptRec K H' v r := by
  cases r with
  | none => exact h
  | some r => exact RecAt.ts t h
structure DA where
  pl : Addr
  ho : Addr
  lg : Addr
  wr : Addr
structure DiskAt {K : PySem.W.Frag} {mg : Str → Option Value} (T : Txt K mg) (H : Hp) (dk : Addr) (A : DA) (log : List (Option Rec)) (hd la : Int) (kvs : List (Key × V)) : Prop where
  ob : ∃ dx, H dk = some (.ins T.c_Disk dx (fl_Disk (.ref A.pl) (.ref A.ho) (.ref A.lg) (.int hd) (.int la) (.ref A.wr)))
  pl : PlanAt T H A.pl 24 5 30
  lg : ∃ vs, H A.lg = some (.lst vs) ∧ Paired (OptRec K H) vs log
  wr : H A.wr = some (.dK kvs)
theorem fl_ne {a0 a1 a2 a3 a4 a5 b0 b1 b2 b3 b4 b5 : V} : fl_Disk a0 a1 a2 a3 a4 a5 ≠ fl_Plan b0 b1 b2 b3 b4 b5 := fun h => by
  have e : (("plan" : Str), a0) = (("blocks" : Str), b0) := (List.cons.inj h).1
  have e2 : ("plan" : Str) = "blocks" := congrArg Prod.fst e
  exact absurd e2 (by decide +kernel)
section
variable {P : Program} {w : World} {K : PySem.W.Frag} {mg : Str → Option Value} {base : Heap}
theorem DiskAt.fr0 {T : Txt K mg} {H H' : Hp} {dk : Addr} {A : DA} {log : List (Option Rec)} {hd la : Int} {kvs : List (Key × V)} (f : Fr [] H H') (d : DiskAt T H dk A log hd la kvs) : DiskAt T H' dk A log hd la kvs := by
  obtain ⟨⟨dx, h1⟩, ⟨dp, h2⟩, ⟨vs, h3, h4⟩, h5⟩ := d
  exact ⟨⟨dx, f.get0 h1⟩, ⟨dp, f.get0 h2⟩, ⟨vs, f.get0 h3, Paired.mapP h4 fun _ _ q => OptRec.ts f.ts0 q⟩, f.get0 h5⟩
/-- another list of the program's changes -/
theorem DiskAt.frL {T : Txt K mg} {H H' : Hp} {dk x : Addr} {A : DA} {log : List (Option Rec)} {hd la : Int} {kvs : List (Key × V)} {xs : List V} (f : Fr [x] H H') (hx : H x = some (.lst xs)) (ne : A.lg ≠ x) (d : DiskAt T H dk A log hd la kvs) : DiskAt T H' dk A log hd la kvs := by
  obtain ⟨⟨dx, h1⟩, ⟨dp, h2⟩, ⟨vs, h3, h4⟩, h5⟩ := d
  exact ⟨⟨dx, f.get1 h1 (ne_of h1 hx (by intro z; cases z))⟩, ⟨dp, f.get1 h2 (ne_of h2 hx (by intro z; cases z))⟩, ⟨vs, f.get1 h3 ne, Paired.mapP h4 fun _ _ q => OptRec.ts (f.ts1 hx rfl) q⟩, f.get1 h5 (ne_of h5 hx (by intro z; cases z))⟩
theorem plan_ne_disk {T : Txt K mg} {H : Hp} {dk pl : Addr} {b n s : Int} {dx C : Addr} {a0 a1 a2 a3 a4 a5 : V} (h : PlanAt T H pl b n s) (h1 : H dk = some (.ins C dx (fl_Disk a0 a1 a2 a3 a4 a5))) : pl ≠ dk := fun e => by
  obtain ⟨dp, h2⟩ := h
  rw [e, h1] at h2
  exact fl_ne (HO.ins.inj (Option.some.inj h2)).2.2
def sp_Plan_init (T : Txt K mg) : Sp := fun vs H Q _ => ∃ (p dx : Addr) (b n s : Int), vs = [.ref p, .int b, .int n, .int s] ∧ H p = some (.ins T.c_Plan dx []) ∧ 8 ≤ b ∧ b ≤ 64 ∧ 2 ≤ n ∧ n ≤ 16 ∧ b < s ∧ s ≤ 200 ∧ 2 + (b + 7) / 8 + n + 2 ≤ b ∧
  ∀ H', Fr [p] H H' → PlanAt T H' p b n s → Q .non H'
theorem ok_Plan_init (T : Txt K mg) : FnOk P w K mg base CX0 1 T.a_Plan_init T.fd_Plan_init ["self", "blocks", "nodes", "slots"] (sp_Plan_init T) := by
  refine T.F_Plan_init.ok sc_Plan_init (fun vs H Q E h => ?_) (fun cdv A outer s H vs Q E hr h => ?_)
  · obtain ⟨p, dx, b, n, s, rfl, _⟩ := h
    rfl
  · obtain ⟨p, dx, b, n, s, rfl, h0, b1, b2, n1, n2, s1, s2, m1, k⟩ := h
    refine ⟨_, (pss_cons (ps_if (pt_not (pt_chain op_le op_le pe_int (pv 1) pe_int)) (pss_one ps_never) pss_nil)
        (pss_cons (ps_if (pt_not (pt_chain op_le op_le pe_int (pv 2) pe_int)) (pss_one ps_never) pss_nil)
        (pss_cons (ps_if (pt_not (pt_chain op_lt op_le (pv 1) (pv 3) pe_int)) (pss_one ps_never) pss_nil)
        (pss_cons (ps_set (i := 4) sc_Plan_init.nd rfl (Or.inl rfl) (pe_op op_fdiv (pe_op op_add (pv 1) pe_int) pe_int))
        (pss_cons (ps_if (pt_cmpR op_gt (pe_op op_add (pe_op op_add (pe_op op_add pe_int (pv 4)) (pv 2)) pe_int) (pv 1) (nomark _)) (pss_one ps_never) pss_nil)
        (pss_cons (ps_fld (pv 0) (pv 1) rfl)
        (pss_cons (ps_fld (pv 0) (pv 2) rfl)
        (pss_cons (ps_fld (pv 0) (pv 3) rfl)
        (pss_cons (ps_fld (pv 0) (pv 4) rfl)
        (pss_cons (ps_fld (pv 0) (pe_op op_add pe_int (pv 4)) rfl)
        (pss_one (ps_fld (pv 0) (pe_op op_add (pe_op op_add pe_int (pv 4)) (pv 2)) rfl)))))))))))), ?_⟩
    refine ⟨_, rfl, _, _, rfl, rfl, _, rfl, iteT' (decide_eq_true b1) ⟨_, _, rfl, rfl, _, rfl, iteF' (by rw [decide_eq_true b2]; rfl) ?_⟩⟩
    refine ⟨_, rfl, _, _, rfl, rfl, _, rfl, iteT' (decide_eq_true n1) ⟨_, _, rfl, rfl, _, rfl, iteF' (by rw [decide_eq_true n2]; rfl) ?_⟩⟩
    refine ⟨_, rfl, _, rfl, _, _, rfl, rfl, _, rfl, iteT' (decide_eq_true s1) ⟨_, _, rfl, rfl, _, rfl, iteF' (by rw [decide_eq_true s2]; rfl) ?_⟩⟩
    refine ⟨_, rfl, _, _, rfl, rfl, _, _, rfl, rfl, ⟨by decide, by decide⟩, ?_⟩
    refine ⟨_, rfl, _, _, rfl, rfl, _, rfl, _, _, rfl, rfl, _, _, rfl, rfl, _, rfl, _, _, rfl, rfl, _, rfl, iteF' (decide_eq_false (by omega)) ?_⟩
    refine ⟨_, rfl, _, rfl, p, _, dx, _, rfl, h0, T.C_Plan, T.n_Plan_blocks, (by show 0 < 1000; decide), ?_⟩
    refine ⟨_, rfl, _, rfl, p, _, dx, _, rfl, upd_same, T.C_Plan, T.n_Plan_nodes, (by show 1 < 1000; decide), ?_⟩
    refine ⟨_, rfl, _, rfl, p, _, dx, _, rfl, upd_same, T.C_Plan, T.n_Plan_slots, (by show 2 < 1000; decide), ?_⟩
    refine ⟨_, rfl, _, rfl, p, _, dx, _, rfl, upd_same, T.C_Plan, T.n_Plan_maps, (by show 3 < 1000; decide), ?_⟩
    refine ⟨_, rfl, _, _, rfl, rfl, _, rfl, p, _, dx, _, rfl, upd_same, T.C_Plan, T.n_Plan_first_node, (by show 4 < 1000; decide), ?_⟩
    refine ⟨_, rfl, _, _, rfl, rfl, _, rfl, _, _, rfl, rfl, _, rfl, p, _, dx, _, rfl, upd_same, T.C_Plan, T.n_Plan_first_data, (by show 5 < 1000; decide), ?_⟩
    refine k _ (((((Fr.mut.trans Fr.mut).trans Fr.mut).trans Fr.mut).trans Fr.mut).trans Fr.mut) ⟨dx, ?_⟩
    rw [upd_same]
    exact congrArg (fun l => some (HO.ins T.c_Plan dx l)) ini_Plan
/-! the disk's own text -/
def CellsAt (K : PySem.W.Frag) (H : Hp) (v : V) (cs : List Int) : Prop := ∃ t, v = .ref t ∧ SqT K H t (cs.map V.int)
theorem CellsAt.ts {H H' : Hp} {v : V} {cs : List Int} (t : TS K H H') (h : CellsAt K H v cs) : CellsAt K H' v cs := by
  obtain ⟨a, e, h⟩ := h
  exact ⟨a, e, t _ _ h⟩
def zero8 : List Int := [0, 0, 0, 0, 0, 0, 0, 0]
def sp_Disk_init (T : Txt K mg) : Sp := fun vs H Q _ => ∃ (p dx pl : Addr) (b n s : Int), vs = [.ref p, .ref pl] ∧ H p = some (.ins T.c_Disk dx []) ∧ PlanAt T H pl b n s ∧ 0 ≤ b ∧ b ≤ 64 ∧ 0 ≤ s ∧ s ≤ 200 ∧
  ∀ H' ho lg wr hs, Fr [p] H H' → H' p = some (.ins T.c_Disk dx (fl_Disk (.ref pl) (.ref ho) (.ref lg) (.int 0) (.int 0) (.ref wr))) → H ho = none → H lg = none → H wr = none →
    H' ho = some (.lst hs) → Paired (CellsAt K H') hs (List.replicate b.toNat zero8) → H' lg = some (.lst (List.replicate s.toNat .non)) → H' wr = some (.dK []) → ho ≠ lg → Q .non H'
theorem pl_ne {T : Txt K mg} {H : Hp} {p pl dx C : Addr} {b n s : Int} (h0 : H p = some (.ins C dx [])) (h : PlanAt T H pl b n s) : pl ≠ p := fun e => by
  obtain ⟨dp, h2⟩ := h
  rw [e, h0] at h2
  have := (HO.ins.inj (Option.some.inj h2)).2.2
  cases this
theorem ok_Disk_init (T : Txt K mg) : FnOk P w K mg base CX0 1 T.a_Disk_init T.fd_Disk_init ["self", "plan"] (sp_Disk_init T) := by
  refine T.F_Disk_init.ok sc_Disk_init (fun vs H Q E h => ?_) (fun cdv A outer s H vs Q E hr h => ?_)
  · obtain ⟨p, dx, pl, b, n, s, rfl, _⟩ := h
    rfl
  · obtain ⟨p, dx, pl, b, n, s, rfl, h0, hpl, b1, b2, s1, s2, k⟩ := h
    have ne := pl_ne h0 hpl
    obtain ⟨dp, hp⟩ := hpl
    refine ⟨_, (pss_cons (ps_fld (pv 0) (pv 1) rfl)
        (pss_cons (ps_fld (pv 0) (pe_lc (own := [("x", 2)]) (g := gName 2) (tt := tYes) (by rfl) sc_Disk_init.nd (pi_range1 rfl T.n_range (pa_cons (pe_fld (pv 1) rfl) pa_nil)) (blkOk_by (own := [("x", 2)]) (N := N_Disk_init) (sc := defScope s_Disk_init) (by decide +kernel)) (fun _ _ _ _ _ => pg_name (i := 2) sc_Disk_init.nd rfl (Or.inl rfl)) (fun _ _ _ _ _ => pts_nil) (fun _ _ _ _ _ => (pe_tup (pa_cons pe_int (pa_cons pe_int (pa_cons pe_int (pa_cons pe_int (pa_cons pe_int (pa_cons pe_int (pa_cons pe_int (pa_cons pe_int pa_nil))))))))))) rfl)
        (pss_cons (ps_fld (pv 0) (pe_op op_rep (pe_lst (pa_cons pe_non pa_nil)) (pe_fld (pv 1) rfl)) rfl)
        (pss_cons (ps_fld (pv 0) pe_int rfl)
        (pss_cons (ps_fld (pv 0) pe_int rfl)
        (pss_one (ps_fld (pv 0) pe_dnewK rfl))))))), ?_⟩
    refine ⟨_, rfl, _, rfl, p, _, dx, _, rfl, h0, T.C_Disk, T.n_Disk_plan, (by show 0 < 1000; decide), ?_⟩
    generalize hH1 : upd H p _ = H1
    obtain ⟨f1, h1⟩ := gen_upd hH1
    have hp1 := f1.get1 hp ne
    refine ⟨_, rfl, pl, _, dp, _, _, rfl, hp1, T.C_Plan, T.n_Plan_blocks, lk_Plan_blocks, b, rfl, by omega, by omega, fun D nD => lc_range (lo := 0) (n := b.toNat) (fun i H3 => Fr [] H1 H3 ∧ ∃ hs, H3 D = some (.lst hs) ∧ Paired (CellsAt K H3) hs (List.replicate i zero8)) ?_ ?_ ?_⟩
    · exact ⟨Fr.new nD, [], upd_same, .nil⟩
    · rintro i H3 hi ⟨f3, hs, h3, hq⟩
      have hlen := hq.length
      rw [List.length_replicate] at hlen
      refine ⟨rfl, (by show 8 ≤ sizeLine; decide), fun t nt => ?_⟩
      generalize hH4 : upd H3 t _ = H4
      obtain ⟨f4, h4⟩ := gen_new nt hH4
      have h5 := f4.get0 h3
      refine ⟨_, h5, sz (by omega), ?_⟩
      refine ⟨(f3.up0 f4).up1 Fr.mut (.inr nD), _, upd_same, ?_⟩
      have ts : TS K H3 (upd H4 D (.lst (hs ++ [.ref t]))) := f4.ts0.trans (Fr.ts1 Fr.mut h5 rfl)
      rw [List.replicate_succ']
      refine Paired.snoc (Paired.mapP hq fun _ _ q => q.ts ts) ⟨t, rfl, ?_⟩
      exact Fr.ts1 (K := K) Fr.mut h5 rfl _ _ (sqt h4)
    · rintro H3 ⟨f3, hs, h3, hq⟩
      have hself : D ≠ p := (ne_of_none h1 nD).symm
      have h3p := f3.get0 h1
      refine ⟨_, rfl, p, _, dx, _, rfl, h3p, T.C_Disk, T.n_Disk_home, (by show 1 < 1000; decide), ?_⟩
      generalize hH4 : upd H3 p _ = H4
      obtain ⟨f4, h4⟩ := gen_upd hH4
      have h4D := f4.get1 h3 hself
      have hq4 : Paired (CellsAt K H4) hs (List.replicate b.toNat zero8) := Paired.mapP hq fun _ _ q => q.ts (f4.ts1 h3p rfl)
      refine ⟨(by show 1 ≤ sizeLine; decide), fun l1 n1 => ?_⟩
      generalize hH5 : upd H4 l1 _ = H5
      obtain ⟨f5, h5⟩ := gen_new n1 hH5
      have hp5 := f5.get0 (f4.get1 (f3.get0 hp1) ne)
      refine ⟨_, rfl, pl, _, dp, _, _, rfl, hp5, T.C_Plan, T.n_Plan_slots, lk_Plan_slots, l1, s, _, rfl, rfl, h5, by omega, by omega, ?_, fun lg nlg => ?_⟩
      · show 1 * s.toNat ≤ sizeLine
        exact szle (by omega)
      generalize hH6 : upd H5 lg _ = H6
      obtain ⟨f6, h6⟩ := gen_new nlg hH6
      have h6p := f6.get0 (f5.get0 h4)
      have h6D := f6.get0 (f5.get0 h4D)
      have nep : lg ≠ p := (ne_of_none (f5.get0 h4) nlg).symm
      have neD : D ≠ lg := ne_of_none (f5.get0 h4D) nlg
      refine ⟨_, rfl, p, _, dx, _, rfl, h6p, T.C_Disk, T.n_Disk_log, (by show 2 < 1000; decide), ?_⟩
      refine ⟨_, rfl, p, _, dx, _, rfl, upd_same, T.C_Disk, T.n_Disk_head, (by show 3 < 1000; decide), ?_⟩
      refine ⟨_, rfl, p, _, dx, _, rfl, upd_same, T.C_Disk, T.n_Disk_last, (by show 4 < 1000; decide), ?_⟩
      intro wr nw
      generalize hH7 : upd (upd (upd H6 p _) p _) p _ = H7 at nw ⊢
      have f7 : Fr [p] H6 H7 := by rw [← hH7]; exact (Fr.mut.trans Fr.mut).trans Fr.mut
      have h7 : H7 p = some (.ins T.c_Disk dx (putF "last" (.int 0) (putF "head" (.int 0) (putF "log" (.ref lg) (putF "home" (.ref D) (putF "plan" (.ref pl) [])))))) := by rw [← hH7, upd_same]
      generalize hH8 : upd H7 wr _ = H8
      obtain ⟨f8, h8⟩ := gen_new nw hH8
      refine ⟨_, rfl, p, _, dx, _, rfl, f8.get0 h7, T.C_Disk, T.n_Disk_writes, (by show 5 < 1000; decide), ?_⟩
      generalize hH9 : upd H8 p _ = H9
      obtain ⟨f9, h9⟩ := gen_upd hH9
      have fall : Fr [p] H H9 := ((((((f1.up0 f3).upS f4).up0 f5).up0 f6).upS f7).up0 f8).upS f9
      have g7 : ∀ x o, H6 x = some o → x ≠ p → H9 x = some o := fun x o e n => f9.get1 (f8.get0 (f7.get1 e n)) n
      have ts6 : TS K H4 H9 := (((f5.ts0.trans f6.ts0).trans (f7.ts1 h6p rfl)).trans f8.ts0).trans (f9.ts1 (f8.get0 h7) rfl)
      have new1 : ∀ x, H1 x = none → H x = none := fun x e => f1.free e
      refine k H9 D lg wr hs fall ?_ (new1 _ nD) (new1 _ (f3.free (f4.free (f5.free nlg)))) (new1 _ (f3.free (f4.free (f5.free (f6.free (f7.free nw)))))) (g7 D _ h6D hself) (Paired.mapP hq4 fun _ _ q => q.ts ts6) ?_ (f9.get1 h8 (ne_of_none h7 nw).symm) neD
      · rw [h9]
        exact congrArg (fun l => some (HO.ins T.c_Disk dx l)) ini_Disk
      · rw [g7 lg _ h6 nep]
        simp
end
section
variable {P : Program} {w : World} {K : PySem.W.Frag} {mg : Str → Option Value} {base : Heap}
def fits (b s : Int) : Rec → Bool
  | .copy _ blk _ => decide (blk < b)
  | .mark _ cs rs => cs.all (fun p => decide (p.1 < b) && decide (p.2 < s)) && rs.all (fun x => decide (x < b))
def sp_fits_plan (T : Txt K mg) : Sp := fun vs H Q _ => ∃ (v : V) (pl : Addr) (r : Rec) (b n s : Int), vs = [v, .ref pl] ∧ RecAt K H v r ∧ PlanAt T H pl b n s ∧ (∀ lot cs rs, r = .mark lot cs rs → rs.length ≤ 1000) ∧ ∀ H', Fr [] H H' → Q (.bl (fits b s r)) H'
theorem ok_fits_plan (T : Txt K mg) : FnOk P w K mg base CX0 1 T.a_fits_plan T.fd_fits_plan ["record", "plan"] (sp_fits_plan T) := by
  refine T.F_fits_plan.ok sc_fits_plan (fun vs H Q E h => ?_) (fun cdv A outer s H vs Q E hr h => ?_)
  · obtain ⟨v, pl, r, b, n, s, rfl, _⟩ := h
    rfl
  · obtain ⟨v, pl, r, b, n, s, rfl, h0, ⟨dp, hp⟩, hl, k⟩ := h
    refine ⟨_, (pss_cons (ps_if (pt_cmpR op_eq (pe_ix ix_tup (pv 0) pe_int (fun _ _ => rfl)) pe_str (nomark _)) (pss_one (ps_ret (pe_cmpR op_lt (pe_ix ix_tup (pv 0) pe_int (fun _ _ => rfl)) (pe_fld (pv 1) rfl) (nomark _)))) pss_nil)
        (pss_cons (ps_for PassesOwn.never rfl (pi_tup (pe_ix ix_tup (pv 0) pe_int (fun _ _ => rfl))) (pg_tup (by rfl) (pgs_cons (pg_name (i := 2) sc_fits_plan.nd rfl (Or.inl rfl)) (pgs_cons (pg_name (i := 3) sc_fits_plan.nd rfl (Or.inl rfl)) pgs_nil)))
        (pss_one (ps_if (PW.pt (pw_or (pt_cmpR op_ge (pv 2) (pe_fld (pv 1) rfl) (nomark _)) (pw_or1 (pt_cmpR op_ge (pv 3) (pe_fld (pv 1) rfl) (nomark _))))) (pss_one (ps_ret pe_bl)) pss_nil)))
        (pss_one (ps_ret (pe_callB (cr_all rfl) (by rfl) T.n_all (by decide +kernel) (pa_cons (pe_lc (own := [("block", 2)]) (g := gName 2) (tt := tYes) (by rfl) sc_fits_plan.nd (pi_tup (pe_ix ix_tup (pv 0) pe_int (fun _ _ => rfl))) (blkOk_by (own := [("block", 2)]) (N := N_fits_plan) (sc := defScope s_fits_plan) (by decide +kernel)) (fun _ _ _ _ _ => pg_name (i := 2) sc_fits_plan.nd rfl (Or.inl rfl)) (fun _ _ _ _ _ => pts_nil) (fun _ _ _ _ _ => (pe_cmpR op_lt (pv 2) (show PE _ _ (tFld K _ _) from pe_fld (pv 1) rfl) (nomark _)))) pa_nil)))))), ?_⟩
    cases r with
    | copy lot blk cells =>
      obtain ⟨a, c, rfl, h1, h2⟩ := h0
      refine ⟨_, rfl, a, _, 0, _, rfl, rfl, h1, rfl, rfl, _, rfl, iteT' (by decide +kernel) ?_⟩
      exact ⟨_, rfl, a, _, 2, _, rfl, rfl, h1, rfl, _, rfl, pl, _, dp, _, _, rfl, hp, T.C_Plan, T.n_Plan_blocks, lk_Plan_blocks, _, _, rfl, rfl, k H (Fr.refl _ _)⟩
    | mark lot cs rs =>
      obtain ⟨a, c, r, ps, rfl, h1, h2, h3, h4⟩ := h0
      have hlen := h3.length
      have hrl := hl _ _ _ rfl
      change ∀ H', Fr [] H H' → Q (.bl (cs.all (fun p => decide (p.1 < b) && decide (p.2 < s)) && rs.all (fun x => decide (x < b)))) H' at k
      refine ⟨_, rfl, a, _, 0, _, rfl, rfl, h1, rfl, rfl, _, rfl, iteF' (by rw [dec_str, decide_eq_false cm_ne]) ?_⟩
      refine ⟨_, rfl, a, _, 2, _, rfl, rfl, h1, rfl, c, rfl, ⟨_, h2⟩, for_tup (K := K) (a := c) (xs := ps) (fun i σ H2 => H = H2 ∧ ∃ (x y : Option V), σ = [some (.ref a), some (.ref pl), x, y] ∧ (cs.drop i).all (fun p => decide (p.1 < b) && decide (p.2 < s)) = cs.all (fun p => decide (p.1 < b) && decide (p.2 < s))) ?_ ?_ ?_ ?_⟩
      · exact ⟨rfl, _, _, rfl, rfl⟩
      · rintro i σ H2 _ ⟨rfl, _⟩
        exact h2
      · rintro i y σ H2 hi ⟨rfl, x, y, rfl, hd⟩
        obtain ⟨p, hp1, t, rfl, ht⟩ := paired_get h3 hi
        rw [drop_at hp1, List.all_cons] at hd
        refine ⟨t, _, rfl, ht, rfl, _, _, rfl, _, _, rfl, rfl, ?_⟩
        refine ⟨_, rfl, _, rfl, pl, _, dp, _, _, rfl, hp, T.C_Plan, T.n_Plan_blocks, lk_Plan_blocks, _, _, rfl, rfl, _, rfl, ?_⟩
        refine ite2 (fun c1 => iteT ?_) (fun c1 => ?_)
        · have c2 : ¬ p.1 < b := by have := of_decide_eq_true c1; omega
          rw [decide_eq_false c2, Bool.false_and, Bool.false_and] at hd
          rw [← hd, Bool.false_and] at k
          exact k _ (Fr.refl _ _)
        · have c2 : p.1 < b := by
            by_cases q : p.1 < b
            · exact q
            · exact absurd (decide_eq_true (by omega)) c1
          refine ⟨_, rfl, _, rfl, pl, _, dp, _, _, rfl, hp, T.C_Plan, T.n_Plan_slots, lk_Plan_slots, _, _, rfl, rfl, _, rfl, ?_⟩
          refine ite2 (fun c1 => ?_) (fun c1 => ?_)
          · have c3 : ¬ p.2 < s := by have := of_decide_eq_true c1; omega
            rw [decide_eq_false c3, Bool.and_false, Bool.false_and] at hd
            rw [← hd, Bool.false_and] at k
            exact k _ (Fr.refl _ _)
          · have c3 : p.2 < s := by
              by_cases q : p.2 < s
              · exact q
              · exact absurd (decide_eq_true (by omega)) c1
            rw [decide_eq_true c2, decide_eq_true c3, Bool.true_and, Bool.true_and] at hd
            exact ⟨rfl, _, _, rfl, hd⟩
      · rintro σ H2 ⟨rfl, x, y, rfl, hd⟩
        rw [hlen, List.drop_length, List.all_nil] at hd
        rw [← hd, Bool.true_and] at k
        refine ⟨_, rfl, a, _, 3, _, rfl, rfl, h1, rfl, r, rfl, ⟨_, h4⟩, fun D nD => lc_tup (K := K) (a := r) (xs := rs.map V.int) (fun i H3 => Fr [] H H3 ∧ H3 D = some (.lst (((rs.take i).map fun x => decide (x < b)).map V.bl))) ?_ ?_ ?_ ?_⟩
        · exact ⟨Fr.new nD, upd_same⟩
        · rintro i H3 _ ⟨f3, _⟩
          exact f3.tup0 h4
        · rintro i y H3 hi ⟨f3, h5⟩
          obtain ⟨n, hn, rfl⟩ := map_get hi
          refine ⟨rfl, _, rfl, _, rfl, pl, _, dp, _, _, rfl, f3.get0 hp, T.C_Plan, T.n_Plan_blocks, lk_Plan_blocks, _, _, rfl, rfl, _, h5, sz (by simp; omega), ?_⟩
          refine ⟨f3.up1 Fr.mut (.inr nD), ?_⟩
          rw [upd_same, List.take_add_one, hn]
          simp
        · rintro H3 ⟨f3, h5⟩
          rw [List.length_map, List.take_length] at h5
          refine ⟨D, _, rfl, sq h5, ?_⟩
          rw [List.all_map]
          exact k H3 f3
theorem lh_ne : ¬ (("log" : Str) = "home") := by decide +kernel
def sp_is_place (T : Txt K mg) : Sp := fun vs H Q _ => ∃ (a pl : Addr) (i b n s : Int), vs = [.ref a, .ref pl] ∧ SqT K H a [.str "log", .int i] ∧ PlanAt T H pl b n s ∧ Q (.bl (win i 0 (s - 1))) H
theorem ok_is_place (T : Txt K mg) : FnOk P w K mg base CX0 2 T.a_is_place T.fd_is_place ["place", "plan"] (sp_is_place T) := by
  refine T.F_is_place.ok sc_is_place (fun vs H Q E h => ?_) (fun cdv A outer s H vs Q E hr h => ?_)
  · obtain ⟨a, pl, i, b, n, s, rfl, _⟩ := h
    rfl
  · obtain ⟨a, pl, i, b, n, s, rfl, h0, ⟨dp, hp⟩, k⟩ := h
    refine ⟨_, (pss_cons (ps_if (PW.pt (pw_or (pt_not (pt_val (pe_callB call_isi (by rfl) T.n_isinstance (by decide +kernel) (pa_cons (pv 0) (pa_cons (pe_bltn (v := .ty "tuple") (u := .type "tuple") (by rfl) T.n_tuple (by decide +kernel) rfl) pa_nil))))) (pw_or1 (pt_cmpR op_ne (pe_callB call_len_seq (by rfl) T.n_len (by decide +kernel) (pa_cons (pv 0) pa_nil)) pe_int (nomark _))))) (pss_one (ps_ret pe_bl)) pss_nil)
        (pss_cons (ps_if (pt_cmpR op_eq (pe_ix ix_tup (pv 0) pe_int (fun _ _ => rfl)) pe_str (nomark _)) (pss_one (ps_ret (pe_call (ok_is_within T) (hr.mono (by decide)) rfl T.m_is_within T.F_is_within.kp T.b_is_within .nil pass0 (pa_cons (pe_ix ix_tup (pv 0) pe_int (fun _ _ => rfl)) (pa_cons pe_int (pa_cons (pe_op op_sub (pe_fld (pv 1) rfl) pe_int) pa_nil)))))) pss_nil)
        (pss_one (ps_ret (pe_and (pe_cmpR op_eq (pe_ix ix_tup (pv 0) pe_int (fun _ _ => rfl)) pe_str (nomark _)) (pe_one (pe_call (ok_is_within T) (hr.mono (by decide)) rfl T.m_is_within T.F_is_within.kp T.b_is_within .nil pass0 (pa_cons (pe_ix ix_tup (pv 0) pe_int (fun _ _ => rfl)) (pa_cons pe_int (pa_cons (pe_op op_sub (pe_fld (pv 1) rfl) pe_int) pa_nil)))))))))), ?_⟩
    refine ⟨_, rfl, _, _, _, _, true, rfl, .ty "tuple", ty_tup h0, kit_ty (by decide +kernel), _, rfl, iteF ?_⟩
    refine ⟨_, rfl, a, _, rfl, .inr h0, rfl, _, rfl, iteF ?_⟩
    refine ⟨_, rfl, a, _, 0, _, rfl, rfl, h0, rfl, rfl, _, rfl, iteF' (by rw [dec_str, decide_eq_false lh_ne]) ?_⟩
    refine ⟨_, rfl, a, _, 0, _, rfl, rfl, h0, rfl, rfl, _, rfl, iteT' (by decide +kernel) ?_⟩
    exact ⟨_, rfl, a, _, 1, _, rfl, rfl, h0, rfl, _, rfl, pl, _, dp, _, _, rfl, hp, T.C_Plan, T.n_Plan_slots, lk_Plan_slots, _, _, rfl, rfl, i, 0, s - 1, rfl, k⟩
def okR (r : Rec) : Prop := recOk r = true ∧ fits 24 30 r = true ∧ ∀ lot cs rs, r = .mark lot cs rs → cs.length ≤ 1000 ∧ rs.length ≤ 1000
def sp_log_content (T : Txt K mg) : Sp := fun vs H Q _ => ∃ (v : V) (pl : Addr) (r : Rec) (n : Int), vs = [v, .ref pl] ∧ RecAt K H v r ∧ PlanAt T H pl 24 n 30 ∧ okR r ∧ ∀ H', Fr [] H H' → Q v H'
theorem ok_log_content (T : Txt K mg) : FnOk P w K mg base CX0 5 T.a_log_content T.fd_log_content ["what", "plan"] (sp_log_content T) := by
  refine T.F_log_content.ok sc_log_content (fun vs H Q E h => ?_) (fun cdv A outer s H vs Q E hr h => ?_)
  · obtain ⟨v, pl, r, n, rfl, _⟩ := h
    rfl
  · obtain ⟨v, pl, r, n, rfl, h0, hp, ho, k⟩ := h
    refine ⟨_, (pss_cons (ps_expr (pe_call (ok_check_record T) (hr.mono (by decide)) rfl T.m_check_record T.F_check_record.kp T.b_check_record .nil pass0 (pa_cons (pv 0) pa_nil)))
        (pss_cons (ps_if (pt_not (pt_val (pe_call (ok_fits_plan T) (hr.mono (by decide)) rfl T.m_fits_plan T.F_fits_plan.kp T.b_fits_plan .nil pass0 (pa_cons (pv 0) (pa_cons (pv 1) pa_nil))))) (pss_one ps_never) pss_nil)
        (pss_one (ps_ret (pv 0))))), ?_⟩
    refine ⟨_, rfl, v, r, rfl, h0, ho.1, fun lot cs rs e => (ho.2.2 lot cs rs e).1, fun H1 f1 => ?_⟩
    have hp1 : PlanAt T H1 pl 24 n 30 := by
      obtain ⟨dp, hp⟩ := hp
      exact ⟨dp, f1.get0 hp⟩
    refine ⟨_, rfl, _, rfl, v, pl, r, 24, n, 30, rfl, h0.ts f1.ts0, hp1, fun lot cs rs e => (ho.2.2 lot cs rs e).2, fun H2 f2 => ⟨_, rfl, iteF' (by rw [ho.2.1]; rfl) ?_⟩⟩
    exact ⟨_, rfl, k H2 (f1.up0 f2)⟩
/-! writes -/
def sp_Disk_busy (T : Txt K mg) : Sp := fun vs H Q _ => ∃ (dk a : Addr) (A : DA) (log : List (Option Rec)) (hd la i : Int), vs = [.ref dk, .ref a] ∧ DiskAt T H dk A log hd la [] ∧ SqT K H a [.str "log", .int i] ∧ ∀ H', Fr [] H H' → Q (.bl false) H'
theorem ok_Disk_busy (T : Txt K mg) : FnOk P w K mg base CX0 1 T.a_Disk_busy T.fd_Disk_busy ["self", "place"] (sp_Disk_busy T) := by
  refine T.F_Disk_busy.ok sc_Disk_busy (fun vs H Q E h => ?_) (fun cdv A outer s H vs Q E hr h => ?_)
  · obtain ⟨dk, a, A, log, hd, la, i, rfl, _⟩ := h
    rfl
  · obtain ⟨dk, a, D, log, hd, la, i, rfl, dd, h0, k⟩ := h
    obtain ⟨⟨dx, h1⟩, hpl, hlg, hw⟩ := id dd
    refine ⟨_, (pss_one (ps_ret (pe_cmpR (op_inD (un65 hr)) (pv 1) (pe_lock (pe_lc (own := [("write", 2)]) (g := gName 2) (tt := tYes) (by rfl) sc_Disk_busy.nd (pi_values (pe_fld (pv 0) rfl)) (blkOk_by (own := [("write", 2)]) (N := N_Disk_busy) (sc := defScope s_Disk_busy) (by decide +kernel)) (fun _ _ _ _ _ => pg_name (i := 2) sc_Disk_busy.nd rfl (Or.inl rfl)) (fun _ _ _ _ _ => pts_nil) (fun _ _ _ _ _ => (pe_ix (show IxR _ (rIxT K) from ix_tup) (pv 2) pe_int (fun _ _ => rfl))))) rfl))), ?_⟩
    refine ⟨_, rfl, D.wr, _, hw, trivial, fun od => ?_⟩
    have ne1 : dk ≠ D.wr := ne_of h1 hw (by intro z; cases z)
    refine ⟨_, rfl, dk, _, dx, _, _, rfl, (by rw [upd_ne ne1]; exact h1), T.C_Disk, T.n_Disk_writes, lk_Disk_writes, D.wr, od, [], rfl, upd_same, fun N nN => lc_it walk_values (fun i H3 => i = 0 ∧ H3 = upd (upd H D.wr (.frz od (.dK []))) N (.lst [])) ?_ ?_ ?_ ?_⟩
    · exact ⟨rfl, rfl⟩
    · rintro i H3 _ ⟨_, rfl⟩
      have : D.wr ≠ N := ne_of_none upd_same nN
      rw [upd_ne this, upd_same]
    · rintro i x H3 H4 hi
      exact absurd hi (by simp)
    · rintro H3 ⟨_, rfl⟩
      have nw : D.wr ≠ N := ne_of_none upd_same nN
      have nN0 : H N = none := by rw [upd_ne nw.symm] at nN; exact nN
      refine ⟨by rw [upd_ne nw, upd_same], ?_⟩
      have eH : upd (upd (upd H D.wr (.frz od (.dK []))) N (.lst [])) D.wr (.dK []) = upd H N (.lst []) := by
        funext x
        by_cases e1 : x = D.wr
        · subst e1
          rw [upd_same, upd_ne nw, hw]
        · by_cases e2 : x = N
          · subst e2
            rw [upd_ne e1, upd_same, upd_same]
          · rw [upd_ne e1, upd_ne e2, upd_ne e1, upd_ne e2]
      rw [eH]
      generalize hH : upd H N _ = H5
      obtain ⟨f5, h5⟩ := gen_new nN0 hH
      refine ⟨.tuple [.str "log", .int i], [], .tup (f5.tup0 h0) (.cons (.str _) (.cons (.int _) .nil)), .lst (sq h5) .nil, (Sh.tup (n := 63) (.cons (.str (by decide +kernel)) (.cons (.int _) .nil))).shaped, (Sh.lst (n := 63) .nil).shaped, ?_⟩
      exact k H5 f5
/-- a write to a free slot of the log, with nothing pending -/
def sp_Disk_issue (T : Txt K mg) : Sp := fun vs H Q _ => ∃ (dk a : Addr) (v : V) (A : DA) (log : List (Option Rec)) (hd la i : Int) (r : Rec), vs = [.ref dk, .ref a, v] ∧ DiskAt T H dk A log hd la [] ∧ SqT K H a [.str "log", .int i] ∧ 0 ≤ i ∧ i < 30 ∧ RecAt K H v r ∧ okR r ∧
  ∀ H' t, Fr [dk, A.wr] H H' → SqT K H' t [.ref a, v] → DiskAt T H' dk A log hd (la + 1) [(Sum.inl (la + 1), .ref t)] → TS K H H' → Q (.int (la + 1)) H'
theorem ok_Disk_issue (T : Txt K mg) : FnOk P w K mg base CX0 6 T.a_Disk_issue T.fd_Disk_issue ["self", "place", "what"] (sp_Disk_issue T) := by
  refine T.F_Disk_issue.ok sc_Disk_issue (fun vs H Q E h => ?_) (fun cdv A outer s H vs Q E hr h => ?_)
  · obtain ⟨dk, a, v, A, log, hd, la, i, r, rfl, _⟩ := h
    rfl
  · obtain ⟨dk, a, v, D, log, hd, la, i, r, rfl, dd, h0, i0, i1, hrec, hok, k⟩ := h
    obtain ⟨⟨dx, h1⟩, hpl, ⟨vs, h3, h4⟩, hw⟩ := id dd
    refine ⟨_, (pss_cons (ps_if (pt_not (pt_val (pe_call (ok_is_place T) (hr.mono (by decide)) rfl T.m_is_place T.F_is_place.kp T.b_is_place .nil pass0 (pa_cons (pv 1) (pa_cons (pe_fld (pv 0) rfl) pa_nil))))) (pss_one ps_never) pss_nil)
        (pss_cons (ps_if (pt_cmpR op_eq (pe_ix ix_tup (pv 1) pe_int (fun _ _ => rfl)) pe_str (nomark _)) (pss_one ps_never) (pss_one (ps_set (i := 3) sc_Disk_issue.nd rfl (Or.inl rfl) (pe_call (ok_log_content T) (hr.mono (by decide)) rfl T.m_log_content T.F_log_content.kp T.b_log_content .nil pass0 (pa_cons (pv 2) (pa_cons (pe_fld (pv 0) rfl) pa_nil))))))
        (pss_cons (ps_if (pt_val (pe_meth (pv 0) T.C_Disk T.m_Disk_busy (ok_Disk_busy T) (hr.mono (by decide)) T.b_Disk_busy .nil pass0 (pa_cons (pv 1) pa_nil))) (pss_one ps_never) pss_nil)
        (pss_cons (ps_fldaug (pv 0) pe_int in_add)
        (pss_cons (ps_dput (hu_of hr) (pe_fld (pv 0) rfl) (pe_fld (pv 0) rfl) (pe_tup (pa_cons (pv 1) (pa_cons (pv 3) pa_nil))) rfl)
        (pss_one (ps_ret (pe_fld (pv 0) rfl)))))))), ?_⟩
    refine ⟨_, rfl, _, rfl, dk, _, dx, _, _, rfl, h1, T.C_Disk, T.n_Disk_plan, lk_Disk_plan, a, D.pl, i, 24, 5, 30, rfl, h0, hpl, _, rfl, iteF' (by unfold win; rw [decide_eq_true i0, decide_eq_true (show i ≤ 30 - 1 by omega)]; rfl) ?_⟩
    refine ⟨_, rfl, a, _, 0, _, rfl, rfl, h0, rfl, rfl, _, rfl, iteF' (by rw [dec_str, decide_eq_false lh_ne]) ?_⟩
    refine ⟨_, rfl, _, rfl, dk, _, dx, _, _, rfl, h1, T.C_Disk, T.n_Disk_plan, lk_Disk_plan, v, D.pl, r, 5, rfl, hrec, hpl, hok, fun H1 f1 => ?_⟩
    have d1 := dd.fr0 f1
    obtain ⟨⟨dx1, g1⟩, _⟩ := id d1
    refine ⟨_, rfl, dk, dx1, _, rfl, g1, no_Disk_busy, _, rfl, dk, a, D, log, hd, la, i, rfl, d1, f1.tup0 h0, fun H2 f2 => ⟨_, rfl, iteF ?_⟩⟩
    have d2 := d1.fr0 f2
    obtain ⟨⟨dx2, g2⟩, pl2, ⟨vs2, l2, q2⟩, w2⟩ := id d2
    refine ⟨_, rfl, dk, _, dx2, _, _, rfl, g2, T.C_Disk, T.n_Disk_last, lk_Disk_last, _, _, rfl, rfl, dx2, _, g2, len_Disk, ?_⟩
    rw [pt_Disk_last]
    generalize hH3 : upd H2 dk _ = H3
    obtain ⟨f3, g3⟩ := gen_upd hH3
    have w3 := f3.get1 w2 (ne_of w2 g2 (by intro z; cases z))
    refine ⟨_, rfl, _, rfl, (by show 2 ≤ sizeLine; decide), fun t nt => ?_⟩
    generalize hH4 : upd H3 t _ = H4
    obtain ⟨f4, g4⟩ := gen_new nt hH4
    have g4d := f4.get0 g3
    have w4 := f4.get0 w3
    refine ⟨_, rfl, dk, _, dx2, _, _, rfl, g4d, T.C_Disk, T.n_Disk_writes, lk_Disk_writes, _, rfl, dk, _, dx2, _, _, rfl, g4d, T.C_Disk, T.n_Disk_last, lk_Disk_last, D.wr, _, rfl, DPut.k (k := Sum.inl (la + 1)) w4 (by show 0 < sizeLine; decide), ?_⟩
    rw [show putK ([] : List (Key × V)) (Sum.inl (la + 1)) (.ref t) = [(Sum.inl (la + 1), .ref t)] from rfl]
    generalize hH5 : upd H4 D.wr _ = H5
    obtain ⟨f5, g5⟩ := gen_upd hH5
    have ned : dk ≠ D.wr := ne_of g4d w4 (by intro z; cases z)
    have g5d := f5.get1 g4d ned
    have tsA : TS K H2 H5 := ((f3.ts1 g2 rfl).trans f4.ts0).trans (f5.ts1 w4 rfl)
    have gk : ∀ x o, H2 x = some o → x ≠ dk → x ≠ D.wr → H5 x = some o := fun x o e n1 n2 => f5.get1 (f4.get0 (f3.get1 e n1)) n2
    refine ⟨_, rfl, dk, _, dx2, _, _, rfl, g5d, T.C_Disk, T.n_Disk_last, lk_Disk_last, ?_⟩
    refine k H5 t ?_ (f5.ts1 w4 rfl _ _ (sqt g4)) ⟨⟨dx2, g5d⟩, ?_, ?_, g5⟩ ((f1.ts0.trans f2.ts0).trans tsA)
    · exact ((((Fr.refl _ H).up0 f1).up0 f2).up1 f3 (.inl (by simp))).up0 f4 |>.up1 f5 (.inl (by simp))
    · obtain ⟨dp, hp⟩ := id pl2
      exact ⟨dp, gk _ _ hp (plan_ne_disk pl2 g2) (ne_of hp w2 (by intro z; cases z))⟩
    · exact ⟨vs2, gk _ _ l2 (ne_of l2 g2 (by intro z; cases z)) (ne_of l2 w2 (by intro z; cases z)), Paired.mapP q2 fun _ _ q => OptRec.ts tsA q⟩
def sp_Disk_put (T : Txt K mg) : Sp := fun vs H Q _ => ∃ (dk a : Addr) (v : V) (A : DA) (log : List (Option Rec)) (hd la i : Int) (r : Rec) (kvs : List (Key × V)), vs = [.ref dk, .ref a, v] ∧ DiskAt T H dk A log hd la kvs ∧ SqT K H a [.str "log", .int i] ∧ 0 ≤ i ∧ i < log.length ∧ RecAt K H v r ∧
  ∀ H', Fr [A.lg] H H' → DiskAt T H' dk A (log.set i.toNat (some r)) hd la kvs → TS K H H' → Q .non H'
theorem ok_Disk_put (T : Txt K mg) : FnOk P w K mg base CX0 1 T.a_Disk_put T.fd_Disk_put ["self", "place", "what"] (sp_Disk_put T) := by
  refine T.F_Disk_put.ok sc_Disk_put (fun vs H Q E h => ?_) (fun cdv A outer s H vs Q E hr h => ?_)
  · obtain ⟨dk, a, v, A, log, hd, la, i, r, kvs, rfl, _⟩ := h
    rfl
  · obtain ⟨dk, a, v, D, log, hd, la, i, r, kvs, rfl, dd, h0, i0, i1, hrec, k⟩ := h
    obtain ⟨⟨dx, h1⟩, hpl, ⟨vs, h3, h4⟩, hw⟩ := id dd
    have hlen := h4.length
    refine ⟨_, (pss_one (ps_if (pt_cmpR op_eq (pe_ix ix_tup (pv 1) pe_int (fun _ _ => rfl)) pe_str (nomark _)) (pss_one ps_never) (pss_one (ps_asg (pv 2) (pg_sub (pe_fld (pv 0) rfl) (pe_ix ix_tup (pv 1) pe_int (fun _ _ => rfl)) set_list))))), ?_⟩
    refine ⟨_, rfl, a, _, 0, _, rfl, rfl, h0, rfl, rfl, _, rfl, iteF' (by rw [dec_str, decide_eq_false lh_ne]) ?_⟩
    refine ⟨_, rfl, _, rfl, dk, _, dx, _, _, rfl, h1, T.C_Disk, T.n_Disk_log, lk_Disk_log, _, rfl, a, _, 1, _, rfl, rfl, h0, rfl, D.lg, vs, i, i.toNat, rfl, rfl, h3, by unfold ixN; rw [if_pos i0, if_pos (by omega)], ?_⟩
    generalize hH5 : upd H D.lg _ = H5
    obtain ⟨f5, g5⟩ := gen_upd hH5
    have ts : TS K H H5 := f5.ts1 h3 rfl
    refine k H5 f5 ⟨⟨dx, f5.get1 h1 (ne_of h1 h3 (by intro z; cases z))⟩, ?_, ⟨_, g5, paired_set (Paired.mapP h4 fun _ _ q => OptRec.ts ts q) (hrec.ts ts)⟩, f5.get1 hw (ne_of hw h3 (by intro z; cases z))⟩ ts
    obtain ⟨dp, hp⟩ := hpl
    exact ⟨dp, f5.get1 hp (ne_of hp h3 (by intro z; cases z))⟩
def sp_Disk_sure (T : Txt K mg) : Sp := fun vs H Q _ => ∃ (dk a t : Addr) (v : V) (A : DA) (log : List (Option Rec)) (hd la i n : Int) (r : Rec), vs = [.ref dk, .int n] ∧ DiskAt T H dk A log hd la [(Sum.inl n, .ref t)] ∧ SqT K H t [.ref a, v] ∧ SqT K H a [.str "log", .int i] ∧ 0 ≤ i ∧ i < log.length ∧ RecAt K H v r ∧
  ∀ H', Fr [A.wr, A.lg] H H' → DiskAt T H' dk A (log.set i.toNat (some r)) hd la [] → TS K H H' → Q .non H'
theorem ok_Disk_sure (T : Txt K mg) : FnOk P w K mg base CX0 2 T.a_Disk_sure T.fd_Disk_sure ["self", "number"] (sp_Disk_sure T) := by
  refine T.F_Disk_sure.ok sc_Disk_sure (fun vs H Q E h => ?_) (fun cdv A outer s H vs Q E hr h => ?_)
  · obtain ⟨dk, a, t, v, A, log, hd, la, i, n, r, rfl, _⟩ := h
    rfl
  · obtain ⟨dk, a, t, v, D, log, hd, la, i, n, r, rfl, dd, ht, h0, i0, i1, hrec, k⟩ := h
    obtain ⟨⟨dx, h1⟩, hpl, ⟨vs, h3, h4⟩, hw⟩ := id dd
    have hv : valV ([(Sum.inl n, .ref t)] : List (Key × V)) (Sum.inl n) = some (.ref t) := valV_pos rfl
    refine ⟨_, (pss_cons (ps_if (pt_cmp (pc_dnotin (hu_of hr) (pv 1) (pe_fld (pv 0) rfl))) (pss_one ps_never) pss_nil)
        (pss_cons (ps_asg (pe_dpop1 (pe_fld (pv 0) rfl) (pv 1) ⟨rfl, rfl, rfl, rfl⟩) (pg_tup (by rfl) (pgs_cons (pg_name (i := 2) sc_Disk_sure.nd rfl (Or.inl rfl)) (pgs_cons (pg_name (i := 3) sc_Disk_sure.nd rfl (Or.inl rfl)) pgs_nil))))
        (pss_one (ps_expr (pe_meth (pv 0) T.C_Disk T.m_Disk_put (ok_Disk_put T) (hr.mono (by decide)) T.b_Disk_put .nil pass0 (pa_cons (pv 2) (pa_cons (pv 3) pa_nil))))))), ?_⟩
    refine ⟨_, rfl, _, rfl, dk, _, dx, _, _, rfl, h1, T.C_Disk, T.n_Disk_writes, lk_Disk_writes, D.wr, _, rfl, DGet.k (k := Sum.inl n) hw, _, rfl, iteF' (by rw [hv]; rfl) ?_⟩
    refine ⟨_, rfl, dk, _, dx, _, _, rfl, h1, T.C_Disk, T.n_Disk_writes, lk_Disk_writes, D.wr, rfl, .inl ⟨_, .inl hw⟩, _, rfl, _, Sum.inl n, _, hw, rfl, hv, ?_⟩
    rw [show dropK ([(Sum.inl n, .ref t)] : List (Key × V)) (Sum.inl n) = [] by simp [dropK]]
    generalize hH5 : upd H D.wr _ = H5
    obtain ⟨f5, g5⟩ := gen_upd hH5
    have ts : TS K H H5 := f5.ts1 hw rfl
    have d5 : DiskAt T H5 dk D log hd la [] := by
      refine ⟨⟨dx, f5.get1 h1 (ne_of h1 hw (by intro z; cases z))⟩, ?_, ⟨_, f5.get1 h3 (ne_of h3 hw (by intro z; cases z)), Paired.mapP h4 fun _ _ q => OptRec.ts ts q⟩, g5⟩
      obtain ⟨dp, hp⟩ := hpl
      exact ⟨dp, f5.get1 hp (ne_of hp hw (by intro z; cases z))⟩
    refine ⟨t, _, rfl, ts _ _ ht, rfl, _, _, rfl, _, _, rfl, rfl, ?_⟩
    obtain ⟨⟨dx5, g5d⟩, _⟩ := id d5
    refine ⟨_, rfl, dk, dx5, _, rfl, g5d, no_Disk_put, _, rfl, _, rfl, dk, a, v, D, log, hd, la, i, r, [], rfl, d5, ts _ _ h0, i0, i1, hrec.ts ts, fun H6 f6 d6 ts6 => ?_⟩
    exact k H6 ((((Fr.refl _ H).up1 f5 (.inl (by simp))).up1 f6 (.inl (by simp)))) d6 (ts.trans ts6)
def sp_Disk_move_head (T : Txt K mg) : Sp := fun vs H Q _ => ∃ (dk : Addr) (A : DA) (log : List (Option Rec)) (hd la p : Int) (kvs : List (Key × V)), vs = [.ref dk, .int p] ∧ DiskAt T H dk A log hd la kvs ∧ 0 ≤ p ∧ p ≤ 999999 ∧
  ∀ H', Fr [dk] H H' → DiskAt T H' dk A log p la kvs → TS K H H' → Q .non H'
theorem ok_Disk_move_head (T : Txt K mg) : FnOk P w K mg base CX0 2 T.a_Disk_move_head T.fd_Disk_move_head ["self", "p"] (sp_Disk_move_head T) := by
  refine T.F_Disk_move_head.ok sc_Disk_move_head (fun vs H Q E h => ?_) (fun cdv A outer s H vs Q E hr h => ?_)
  · obtain ⟨dk, A, log, hd, la, p, kvs, rfl, _⟩ := h
    rfl
  · obtain ⟨dk, D, log, hd, la, p, kvs, rfl, dd, p0, p1, k⟩ := h
    obtain ⟨⟨dx, h1⟩, hpl, ⟨vs, h3, h4⟩, hw⟩ := id dd
    refine ⟨_, (pss_cons (ps_if (pt_not (pt_val (pe_call (ok_is_within T) (hr.mono (by decide)) rfl T.m_is_within T.F_is_within.kp T.b_is_within .nil pass0 (pa_cons (pv 1) (pa_cons pe_int (pa_cons (pe_glob (v := .int 999999) rfl T.g_MOST_LOT ⟨_, rfl⟩) pa_nil)))))) (pss_one ps_never) pss_nil)
        (pss_one (ps_fld (pv 0) (pv 1) rfl))), ?_⟩
    refine ⟨_, rfl, p, 0, 999999, rfl, _, rfl, iteF' (by unfold win; rw [decide_eq_true p0, decide_eq_true p1]; rfl) ?_⟩
    refine ⟨_, rfl, _, rfl, dk, _, dx, _, rfl, h1, T.C_Disk, T.n_Disk_head, len_Disk, ?_⟩
    rw [pt_Disk_head]
    generalize hH5 : upd H dk _ = H5
    obtain ⟨f5, g5⟩ := gen_upd hH5
    have ts : TS K H H5 := f5.ts1 h1 rfl
    refine k H5 f5 ⟨⟨dx, g5⟩, ?_, ⟨_, f5.get1 h3 (ne_of h3 h1 (by intro z; cases z)), Paired.mapP h4 fun _ _ q => OptRec.ts ts q⟩, f5.get1 hw (ne_of hw h1 (by intro z; cases z))⟩ ts
    obtain ⟨dp, hp⟩ := id hpl
    exact ⟨dp, f5.get1 hp (plan_ne_disk hpl h1)⟩
end
/-! marks in a log: plain mathematics -/
def isMk (lot : Int) : Rec → Bool
  | .mark l _ _ => decide (l = lot)
  | .copy _ _ _ => false
def isM (lot : Int) : Option Rec → Bool
  | some r => isMk lot r
  | none => false
structure First (lot : Int) (log : List (Option Rec)) (j : Nat) (r : Rec) : Prop where
  at_ : log[j]? = some (some r)
  is_ : isMk lot r = true
  no : ∀ (i : Nat) (o : Option Rec), i < j → log[i]? = some o → isM lot o = false
def Non (lot : Int) (log : List (Option Rec)) : Prop := ∀ (i : Nat) (o : Option Rec), log[i]? = some o → isM lot o = false
theorem First.uniq {lot : Int} {log : List (Option Rec)} {i j : Nat} {r q : Rec} (a : First lot log i r) (b : First lot log j q) : i = j ∧ r = q := by
  have e : i = j := by
    rcases Nat.lt_trichotomy i j with h | h | h
    · have := b.no i _ h a.at_
      rw [show isM lot (some r) = isMk lot r from rfl, a.is_] at this
      cases this
    · exact h
    · have := a.no j _ h b.at_
      rw [show isM lot (some q) = isMk lot q from rfl, b.is_] at this
      cases this
  refine ⟨e, ?_⟩
  have h := a.at_
  rw [e, b.at_] at h
  exact (Option.some.inj (Option.some.inj h)).symm
theorem First.non {lot : Int} {log : List (Option Rec)} {i : Nat} {r : Rec} (a : First lot log i r) (n : Non lot log) : False := by
  have := n i _ a.at_
  rw [show isM lot (some r) = isMk lot r from rfl, a.is_] at this
  cases this
def Marks (log : List (Option Rec)) (hd : Int) (D : List (Nat × Rec)) : Prop :=
  (∀ (k : Nat) (x : Nat × Rec), D[k]? = some x → First (hd + k + 1) log x.1 x.2) ∧ Non (hd + D.length + 1) log
theorem Marks.uniq {log : List (Option Rec)} {hd : Int} {D E : List (Nat × Rec)} (a : Marks log hd D) (b : Marks log hd E) : D = E := by
  have hl : D.length = E.length := by
    rcases Nat.lt_trichotomy D.length E.length with h | h | h
    · exact ((b.1 D.length _ (List.getElem?_eq_getElem h)).non a.2).elim
    · exact h
    · exact ((a.1 E.length _ (List.getElem?_eq_getElem h)).non b.2).elim
  apply List.ext_getElem? fun k => ?_
  by_cases h : k < D.length
  · rw [List.getElem?_eq_getElem h, List.getElem?_eq_getElem (hl ▸ h)]
    have f := (a.1 k _ (List.getElem?_eq_getElem h)).uniq (b.1 k _ (List.getElem?_eq_getElem (hl ▸ h)))
    exact congrArg some (Prod.ext f.1 f.2)
  · rw [List.getElem?_eq_none (by omega), List.getElem?_eq_none (by omega)]
theorem filter_lt {α : Type} {p q : α → Bool} (hpq : ∀ x, q x = true → p x = true) : ∀ {l : List α} {x : α}, x ∈ l → p x = true → q x = false → (l.filter q).length < (l.filter p).length
  | [], _, h, _, _ => absurd h (by simp)
  | y :: l, x, h, hp, hq => by
    have hle : (l.filter q).length ≤ (l.filter p).length := by
      clear h
      induction l with
      | nil => exact Nat.le_refl _
      | cons z l ih =>
        rw [List.filter_cons, List.filter_cons]
        by_cases c : q z = true
        · rw [if_pos c, if_pos (hpq z c)]
          exact Nat.succ_le_succ ih
        · rw [if_neg c]
          by_cases d : p z = true
          · rw [if_pos d]
            exact Nat.le_succ_of_le ih
          · rw [if_neg d]
            exact ih
    rcases List.mem_cons.mp h with e | e
    · subst e
      rw [List.filter_cons, List.filter_cons, if_pos hp, if_neg (by rw [hq]; decide)]
      exact Nat.lt_succ_of_le hle
    · have := filter_lt hpq e hp hq
      rw [List.filter_cons, List.filter_cons]
      by_cases c : q y = true
      · rw [if_pos c, if_pos (hpq y c)]
        exact Nat.succ_lt_succ this
      · rw [if_neg c]
        by_cases d : p y = true
        · rw [if_pos d]
          exact Nat.lt_succ_of_lt this
        · rw [if_neg d]
          exact this
def geM (n : Int) : Option Rec → Bool
  | some (.mark l _ _) => decide (n ≤ l)
  | _ => false
def cnt (n : Int) (log : List (Option Rec)) : Nat := (log.filter (geM n)).length
theorem cnt_lt {n : Int} {log : List (Option Rec)} {j : Nat} {r : Rec} (h : First n log j r) : cnt (n + 1) log < cnt n log := by
  refine filter_lt (fun x hx => ?_) (List.mem_of_getElem? h.at_) ?_ ?_
  · cases x with
    | none => cases hx
    | some r =>
      cases r with
      | copy _ _ _ => cases hx
      | mark l _ _ =>
        have := of_decide_eq_true (show decide (n + 1 ≤ l) = true from hx)
        exact decide_eq_true (by omega)
  · have := h.is_
    cases r with
    | copy _ _ _ => cases this
    | mark l _ _ =>
      have := of_decide_eq_true (show decide (l = n) = true from this)
      exact decide_eq_true (by omega)
  · have := h.is_
    cases r with
    | copy _ _ _ => cases this
    | mark l _ _ =>
      have := of_decide_eq_true (show decide (l = n) = true from this)
      exact decide_eq_false (by omega)
theorem cnt_le (n : Int) (log : List (Option Rec)) : cnt n log ≤ log.length := List.length_filter_le _ _
/-- a found mark: a tuple of its slot and itself -/
def FoundAt (K : PySem.W.Frag) (H : Hp) (v : V) (x : Nat × Rec) : Prop := ∃ t w, v = .ref t ∧ SqT K H t [.int (x.1 : Nat), w] ∧ RecAt K H w x.2
theorem FoundAt.ts {K : PySem.W.Frag} {H H' : Hp} {v : V} {x : Nat × Rec} (t : TS K H H') (h : FoundAt K H v x) : FoundAt K H' v x := by
  obtain ⟨a, w, e, h1, h2⟩ := h
  exact ⟨a, w, e, t _ _ h1, h2.ts t⟩

section
variable {P : Program} {w : World} {K : PySem.W.Frag} {mg : Str → Option Value} {base : Heap}
def sp_find_mark (T : Txt K mg) : Sp := fun vs H Q _ => ∃ (dk : Addr) (A : DA) (log : List (Option Rec)) (hd la lot : Int) (kvs : List (Key × V)), vs = [.ref dk, .int lot] ∧ DiskAt T H dk A log hd la kvs ∧
  (∀ H', Fr [] H H' → Non lot log → Q .non H') ∧ (∀ H' v j r, Fr [] H H' → First lot log j r → FoundAt K H' v (j, r) → Q v H')
theorem mk_head {H : Hp} {v : V} {r : Rec} (h : RecAt K H v r) : ∃ a s l x y, v = .ref a ∧ SqT K H a [.str s, .int l, x, y] ∧ ∀ lot, isMk lot r = (decide (s = "mark") && decide (l = lot)) := by
  cases r with
  | copy lot blk cells =>
    obtain ⟨a, c, rfl, h1, h2⟩ := h
    refine ⟨a, _, _, _, _, rfl, h1, fun l => ?_⟩
    rw [decide_eq_false (show ¬ ("copy" : Str) = "mark" by decide +kernel), Bool.false_and]
    rfl
  | mark lot cs rs =>
    obtain ⟨a, c, r, ps, rfl, h1, _⟩ := h
    refine ⟨a, _, _, _, _, rfl, h1, fun l => ?_⟩
    rw [decide_eq_true (show ("mark" : Str) = "mark" from rfl), Bool.true_and]
    rfl
theorem ok_find_mark (T : Txt K mg) : FnOk P w K mg base CX0 1 T.a_find_mark T.fd_find_mark ["disk", "lot"] (sp_find_mark T) := by
  refine T.F_find_mark.ok sc_find_mark (fun vs H Q E h => ?_) (fun cdv A outer s H vs Q E hr h => ?_)
  · obtain ⟨dk, A, log, hd, la, lot, kvs, rfl, _⟩ := h
    rfl
  · obtain ⟨dk, D, log, hd, la, lot, kvs, rfl, dd, k0, k1⟩ := h
    obtain ⟨⟨dx, h1⟩, hpl, ⟨vs, h3, h4⟩, hw⟩ := id dd
    have hlen := h4.length
    refine ⟨_, (pss_cons (ps_for PassesOwn.never rfl (pi_enum (by rfl) T.n_enumerate (pa_cons (pe_fld (pv 0) rfl) pa_nil)) (pg_tup (by rfl) (pgs_cons (pg_name (i := 2) sc_find_mark.nd rfl (Or.inl rfl)) (pgs_cons (pg_name (i := 3) sc_find_mark.nd rfl (Or.inl rfl)) pgs_nil)))
        (pss_one (ps_if (PW.pt (pw_and (pt_cmpR op_notN (pv 3) pe_non (nomark _)) (pw_and (pt_cmpR op_eq (pe_ix ix_tup (pv 3) pe_int (fun _ _ => rfl)) pe_str (nomark _)) (pw_and1 (pt_cmpR op_eq (pe_ix ix_tup (pv 3) pe_int (fun _ _ => rfl)) (pv 1) (nomark _)))))) (pss_one (ps_ret (pe_tup (pa_cons (pv 2) (pa_cons (pv 3) pa_nil))))) pss_nil)))
        (pss_one (ps_ret pe_non))), ?_⟩
    refine ⟨_, rfl, dk, _, dx, _, _, rfl, h1, T.C_Disk, T.n_Disk_log, lk_Disk_log, D.lg, vs, rfl, sq h3, for_it (walk_enum (K := K) (a := D.lg) (xs := vs)) (fun i σ H2 => Fr [] H H2 ∧ (∃ x y, σ = [some (.ref dk), some (.int lot), x, y]) ∧ ∀ (j : Nat) (o : Option Rec), j < i → log[j]? = some o → isM lot o = false) ?_ ?_ ?_ ?_⟩
    · exact ⟨Fr.refl _ _, ⟨_, _, rfl⟩, fun j o h => absurd h (by omega)⟩
    · rintro i σ H2 _ ⟨f2, _⟩
      exact sq (f2.get0 h3)
    · rintro i x σ H2 H3 hi ⟨f2, ⟨x1, y1, rfl⟩, hno⟩ ⟨t, x, y, rfl, nt, rfl, e1, e2⟩
      cases e1
      generalize hH3 : upd H2 t _ = H3
      obtain ⟨f3, g3⟩ := gen_new nt hH3
      have f13 := f2.up0 f3
      obtain ⟨o, ho, hor⟩ := paired_get h4 e2
      refine ⟨t, _, rfl, sqt g3, rfl, _, _, rfl, _, _, rfl, rfl, ?_⟩
      have step : isM lot o = false → ∀ (j : Nat) (o : Option Rec), j < i + 1 → log[j]? = some o → isM lot o = false := fun hf j o' hj hq => by
        by_cases e : j = i
        · subst e
          rw [ho] at hq
          cases hq
          exact hf
        · exact hno j o' (by omega) hq
      cases o with
      | none =>
        cases (show y = .non from hor)
        refine ⟨_, rfl, rfl, _, rfl, iteF (iteF ?_)⟩
        exact ⟨f13, ⟨_, _, rfl⟩, step rfl⟩
      | some r =>
        obtain ⟨a, s, l, x, z, rfl, hs, hm⟩ := mk_head (hor.ts f13.ts0)
        refine ⟨_, rfl, rfl, _, rfl, iteT ?_⟩
        refine ⟨_, rfl, a, _, 0, _, rfl, rfl, hs, rfl, rfl, _, rfl, ?_⟩
        rw [dec_str]
        by_cases c : s = "mark"
        · refine iteT' (decide_eq_true c) ?_
          refine ⟨_, rfl, a, _, 1, _, rfl, rfl, hs, rfl, _, rfl, rfl, _, rfl, ?_⟩
          rw [dec_int]
          by_cases d : l = lot
          · refine iteT' (decide_eq_true d) ?_
            refine ⟨_, rfl, _, rfl, (by show 2 ≤ sizeLine; decide), fun q nq => ?_⟩
            generalize hH4 : upd H3 q _ = H4
            obtain ⟨f4, g4⟩ := gen_new nq hH4
            refine k1 H4 _ i r (f13.up0 f4) ⟨ho, by rw [hm, decide_eq_true c, decide_eq_true d]; rfl, hno⟩ ⟨q, _, rfl, sqt g4, (RecAt.ts f13.ts0 hor).ts f4.ts0⟩
          · refine iteF' (decide_eq_false d) ?_
            exact ⟨f13, ⟨_, _, rfl⟩, step (by rw [show isM lot (some r) = isMk lot r from rfl, hm, decide_eq_false d, Bool.and_false])⟩
        · refine iteF' (decide_eq_false c) (iteF ?_)
          exact ⟨f13, ⟨_, _, rfl⟩, step (by rw [show isM lot (some r) = isMk lot r from rfl, hm, decide_eq_false c, Bool.false_and])⟩
    · rintro σ H2 ⟨f2, ⟨x1, y1, rfl⟩, hno⟩
      exact k0 H2 f2 fun j o h => hno j o (by rw [hlen]; exact getq_lt h) h
def sp_found_marks (T : Txt K mg) : Sp := fun vs H Q _ => ∃ (dk : Addr) (A : DA) (log : List (Option Rec)) (hd la : Int) (kvs : List (Key × V)), vs = [.ref dk] ∧ DiskAt T H dk A log hd la kvs ∧ log.length ≤ 1000 ∧
  ∀ H' p vs' D, Fr [] H H' → H p = none → H' p = some (.lst vs') → Paired (FoundAt K H') vs' D → Marks log hd D → Q (.ref p) H'
def WFound (K : PySem.W.Frag) (H : Hp) (dk p : Addr) (log : List (Option Rec)) (hd : Int) : Nat → L2.St → Hp → Prop := fun m σ H' => ∃ (v : V) (vs : List V) (F : List (Nat × Rec)), σ = [some (.ref dk), some (.ref p), some v] ∧ Fr [] H H' ∧ H' p = some (.lst vs) ∧ Paired (FoundAt K H') vs F ∧ (∀ (k : Nat) (x : Nat × Rec), F[k]? = some x → First (hd + k + 1) log x.1 x.2) ∧ m = cnt (hd + F.length + 1) log ∧ cnt (hd + F.length + 1) log + F.length ≤ log.length ∧ ((v = .non ∧ Non (hd + F.length + 1) log) ∨ ∃ j r, First (hd + F.length + 1) log j r ∧ FoundAt K H' v (j, r))
theorem ok_found_marks (T : Txt K mg) : FnOk P w K mg base CX0 2 T.a_found_marks T.fd_found_marks ["disk"] (sp_found_marks T) := by
  refine T.F_found_marks.ok sc_found_marks (fun vs H Q E h => ?_) (fun cdv A outer s H vs Q E hr h => ?_)
  · obtain ⟨dk, A, log, hd, la, kvs, rfl, _⟩ := h
    rfl
  · obtain ⟨dk, D, log, hd, la, kvs, rfl, dd, hll, k⟩ := h
    refine ⟨_, (pss_cons (ps_set (i := 1) sc_found_marks.nd rfl (Or.inl rfl) (pe_lst pa_nil))
        (C8.pss_cut (ps_set (i := 2) sc_found_marks.nd rfl (Or.inl rfl) (pe_call (ok_find_mark T) (hr.mono (by decide)) rfl T.m_find_mark T.F_find_mark.kp T.b_find_mark .nil pass0 (pa_cons (pv 0) (pa_cons (pe_op op_add (pe_fld (pv 0) rfl) pe_int) pa_nil))))
        (pss_cons (ps_while PassesOwn.never (pt_cmpR op_notN (pv 2) pe_non (nomark _))
        (pss_cons (ps_expr (pe_bm PySem.F.plainAttrs_list PySem.F.slot_list_append PySem.F.type_list_append mt_append (pv 1) (pa_cons (pv 2) pa_nil)))
        (pss_one (ps_set (i := 2) sc_found_marks.nd rfl (Or.inl rfl) (pe_call (ok_find_mark T) (hr.mono (by decide)) rfl T.m_find_mark T.F_find_mark.kp T.b_find_mark .nil pass0 (pa_cons (pv 0) (pa_cons (pe_op op_add (pe_op op_add (pe_fld (pv 0) rfl) (pe_callB call_len_seq (by rfl) T.n_len (by decide +kernel) (pa_cons (pv 1) pa_nil))) pe_int) pa_nil)))))))
        (pss_one (ps_ret (pv 1)))))), ?_⟩
    refine ⟨by decide, fun p np => ?_⟩
    generalize hH1 : upd H p _ = H1
    obtain ⟨f1, g1⟩ := gen_new np hH1
    have d1 := dd.fr0 f1
    obtain ⟨⟨dx1, o1⟩, _, ⟨lv, lg1, _⟩, _⟩ := id d1
    have nlg : ∀ {H2}, DiskAt T H2 dk D log hd la kvs → H p = none → D.lg ≠ p := fun _ _ e => by
      have := dd.lg
      obtain ⟨vs, q, _⟩ := this
      rw [e, np] at q
      cases q
    refine ⟨fun σ H2 => ∃ v : V, σ = [some (.ref dk), some (.ref p), some v] ∧ Fr [] H H2 ∧ H2 p = some (.lst []) ∧ ((v = .non ∧ Non (hd + 1) log) ∨ ∃ j r, First (hd + 1) log j r ∧ FoundAt K H2 v (j, r)), ?_, ?_⟩
    · refine ⟨_, rfl, _, rfl, dk, _, dx1, _, _, rfl, o1, T.C_Disk, T.n_Disk_head, lk_Disk_head, _, _, rfl, rfl, dk, D, log, hd, la, hd + 1, kvs, rfl, d1, fun H2 f2 n2 => ?_, fun H2 v j r f2 n2 a2 => ?_⟩
      · exact ⟨_, rfl, f1.up0 f2, f2.get0 g1, .inl ⟨rfl, n2⟩⟩
      · exact ⟨_, rfl, f1.up0 f2, f2.get0 g1, .inr ⟨j, r, n2, a2⟩⟩
    · rintro σ H2 ⟨v, rfl, f2, g2, hv⟩
      refine ⟨WFound K H dk p log hd, ⟨_, v, [], [], rfl, f2, g2, .nil, fun k x h => by simp at h, rfl, ?_, ?_⟩, ?_⟩
      · exact cnt_le _ _
      · rw [show hd + (([] : List (Nat × Rec)).length : Int) + 1 = hd + 1 by simp]
        exact hv
      · rintro m σ H3 ⟨v, vs, F, rfl, f3, g3, hp, hF, hm, hc, hv⟩
        have hl := hp.length
        rcases hv with ⟨rfl, hn⟩ | ⟨j, r, hf, ha⟩
        · refine ⟨_, rfl, rfl, _, rfl, iteF ?_⟩
          exact ⟨_, rfl, k H3 p vs F f3 np g3 hp ⟨hF, hn⟩⟩
        · obtain ⟨t, w, rfl, ht, hw⟩ := id ha
          have hlt := cnt_lt hf
          refine ⟨_, rfl, rfl, _, rfl, iteT ?_⟩
          refine ⟨fun σ' H' => ∃ m', m' < m ∧ WFound K H dk p log hd m' σ' H', fun σ' H' q => q, ?_⟩
          refine ⟨_, rfl, .inl ⟨rfl, _, sq g3⟩, _, rfl, p, _, _, rfl, rfl, g3, sz (by omega), ?_⟩
          generalize hH4 : upd H3 p _ = H4
          obtain ⟨f4, g4⟩ := gen_upd hH4
          have f34 := f3.up1 f4 (.inr np)
          have d3 := dd.fr0 f3
          have d4 : DiskAt T H4 dk D log hd la kvs := d3.frL f4 g3 (nlg d3 np)
          obtain ⟨⟨dx4, o4⟩, _⟩ := id d4
          have ts4 : TS K H3 H4 := f4.ts1 g3 rfl
          have hp4 : Paired (FoundAt K H4) (vs ++ [.ref t]) (F ++ [(j, r)]) := Paired.snoc (Paired.mapP hp fun _ _ q => q.ts ts4) (ha.ts ts4)
          have hF4 : ∀ (k : Nat) (x : Nat × Rec), (F ++ [(j, r)])[k]? = some x → First (hd + k + 1) log x.1 x.2 := fun k x hx => by
            by_cases c : k < F.length
            · rw [List.getElem?_append_left c] at hx
              exact hF k x hx
            · have ek : k = F.length := by
                have := getq_lt hx
                simp at this
                omega
              subst ek
              rw [List.getElem?_concat_length] at hx
              cases hx
              exact hf
          have e1 : hd + ((F ++ [(j, r)]).length : Int) + 1 = hd + F.length + 1 + 1 := by simp; omega
          have hlen4 : ((vs ++ [V.ref t]).length : Int) = F.length + 1 := by simp; omega
          refine ⟨_, rfl, _, rfl, dk, _, dx4, _, _, rfl, o4, T.C_Disk, T.n_Disk_head, lk_Disk_head, _, rfl, p, _, rfl, .inl (sq g4), _, _, rfl, rfl, _, _, rfl, rfl, dk, D, log, hd, la, hd + F.length + 1 + 1, kvs, (by rw [hlen4]; show [V.ref dk, V.int (hd + ((F.length : Int) + 1) + 1)] = [V.ref dk, V.int (hd + F.length + 1 + 1)]; rw [show hd + ((F.length : Int) + 1) + 1 = hd + F.length + 1 + 1 by omega]), d4, fun H5 f5 n5 => ?_, fun H5 v j' r' f5 n5 a5 => ?_⟩
          · exact ⟨cnt (hd + (F ++ [(j, r)]).length + 1) log, by rw [hm, e1]; exact hlt, _, _, F ++ [(j, r)], rfl, f34.up0 f5, f5.get0 g4, Paired.mapP hp4 fun _ _ q => q.ts f5.ts0, hF4, rfl, by rw [e1]; simp; omega, .inl ⟨rfl, by rw [e1]; exact n5⟩⟩
          · exact ⟨cnt (hd + (F ++ [(j, r)]).length + 1) log, by rw [hm, e1]; exact hlt, _, _, F ++ [(j, r)], rfl, f34.up0 f5, f5.get0 g4, Paired.mapP hp4 fun _ _ q => q.ts f5.ts0, hF4, rfl, by rw [e1]; simp; omega, .inr ⟨j', r', by rw [e1]; exact n5, a5⟩⟩
end
section
variable {P : Program} {w : World} {K : PySem.W.Frag} {mg : Str → Option Value} {base : Heap}
def sp_law_record (K : PySem.W.Frag) : Sp := fun vs H Q _ => ∃ (a : Addr) (fs : List Int) (lot : Int), vs = [.ref a, .int lot] ∧ H a = some (.lst (fs.map V.int)) ∧ Feed fs ∧ 1 ≤ lot ∧ lot ≤ 999999 ∧
  ∀ H' v r fs', Fr [a] H H' → H' a = some (.lst (fs'.map V.int)) → Feed fs' → RecAt K H' v r → okR r → Q v H'
theorem ok_law_record (T : Txt K mg) : FnOk P w K mg base CX0 2 T.a_law_record T.fd_law_record ["_law_feed_here", "_law_lot"] (sp_law_record K) := by
  refine T.F_law_record.ok sc_law_record (fun vs H Q E h => ?_) (fun cdv A outer s H vs Q E hr h => ?_)
  · obtain ⟨a, fs, lot, rfl, _⟩ := h
    rfl
  · obtain ⟨a, fs, lot, rfl, h0, hf, l1, l2, k⟩ := h
    refine ⟨_, (pss_cons (ps_set (i := 2) sc_law_record.nd rfl (Or.inl rfl) (pe_op op_add pe_int (pe_call (ok_law_pick T) (hr.mono (by decide)) rfl T.m_law_pick T.F_law_pick.kp T.b_law_pick .nil pass0 (pa_cons (pv 0) (pa_cons pe_int pa_nil)))))
        (pss_cons (ps_set (i := 3) sc_law_record.nd rfl (Or.inl rfl) (pe_call (ok_law_pick T) (hr.mono (by decide)) rfl T.m_law_pick T.F_law_pick.kp T.b_law_pick .nil pass0 (pa_cons (pv 0) (pa_cons pe_int pa_nil))))
        (pss_cons (ps_if (pt_cmpR op_eq (pv 3) pe_int (nomark _)) (pss_one (ps_ret (pe_tup (pa_cons pe_str (pa_cons (pv 1) (pa_cons (pv 2) (pa_cons (pe_tup (pa_cons (pv 1) (pa_cons (pv 2) (pa_cons pe_int (pa_cons pe_int (pa_cons pe_int (pa_cons pe_int (pa_cons pe_int (pa_cons (pe_call (ok_law_pick T) (hr.mono (by decide)) rfl T.m_law_pick T.F_law_pick.kp T.b_law_pick .nil pass0 (pa_cons (pv 0) (pa_cons pe_int pa_nil))) pa_nil))))))))) pa_nil))))))) pss_nil)
        (pss_cons (ps_if (pt_cmpR op_eq (pv 3) pe_int (nomark _)) (pss_one (ps_ret (pe_tup (pa_cons pe_str (pa_cons (pv 1) (pa_cons (pe_tup (pa_cons (pe_tup (pa_cons (pv 2) (pa_cons (pe_un un_neg pe_int) pa_nil))) pa_nil)) (pa_cons (pe_tup pa_nil) pa_nil))))))) pss_nil)
        (pss_cons (ps_if (pt_cmpR op_eq (pv 3) pe_int (nomark _)) (pss_one (ps_ret (pe_tup (pa_cons pe_str (pa_cons (pv 1) (pa_cons (pe_tup (pa_cons (pe_tup (pa_cons pe_int (pa_cons pe_int pa_nil))) (pa_cons (pe_tup (pa_cons (pv 2) (pa_cons (pe_call (ok_law_pick T) (hr.mono (by decide)) rfl T.m_law_pick T.F_law_pick.kp T.b_law_pick .nil pass0 (pa_cons (pv 0) (pa_cons pe_int pa_nil))) pa_nil))) pa_nil))) (pa_cons (pe_tup (pa_cons (pv 2) pa_nil)) pa_nil))))))) pss_nil)
        (pss_one (ps_ret (pe_tup (pa_cons pe_str (pa_cons (pv 1) (pa_cons (pe_tup pa_nil) (pa_cons (pe_tup pa_nil) pa_nil)))))))))))), ?_⟩
    refine ⟨_, rfl, a, fs, 14, rfl, h0, hf, by decide, fun H1 b fs1 f1 g1 hf1 b0 b1 => ⟨_, _, rfl, rfl, ?_⟩⟩
    refine ⟨_, rfl, a, fs1, 4, rfl, g1, hf1, by decide, fun H2 kd fs2 f2 g2 hf2 c0 c1 => ?_⟩
    refine ⟨_, rfl, rfl, _, rfl, ?_⟩
    rw [dec_int]
    refine ite2 (fun c => ?_) (fun c => ?_)
    · refine ⟨_, rfl, _, rfl, _, rfl, _, rfl, _, rfl, a, fs2, 9, rfl, g2, hf2, by decide, fun H3 n fs3 f3 g3 hf3 n0 n1 => ⟨(by show 8 ≤ sizeLine; decide), fun q nq => ?_⟩⟩
      generalize hH4 : upd H3 q _ = H4
      obtain ⟨f4, g4⟩ := gen_new nq hH4
      refine ⟨(by show 4 ≤ sizeLine; decide), fun t nt => ?_⟩
      generalize hH5 : upd H4 t _ = H5
      obtain ⟨f5, g5⟩ := gen_new nt hH5
      refine k H5 _ (.copy lot (10 + b) [lot, 10 + b, 0, 0, 0, 0, 0, n]) fs3 ((((f1.upS f2).upS f3).up0 f4).up0 f5) (f5.get0 (f4.get0 g3)) hf3 ⟨t, q, rfl, sqt g5, sqt (f5.get0 g4)⟩ ⟨?_, ?_, fun _ _ _ e => by cases e⟩
      · simp [recOk, rowOk, win]
        omega
      · simp [fits]
        omega
    · refine ⟨_, rfl, rfl, _, rfl, ?_⟩
      refine ite2 (fun c => ?_) (fun c => ?_)
      · refine ⟨_, rfl, _, rfl, _, rfl, (by show 2 ≤ sizeLine; decide), fun q nq => ?_⟩
        generalize hH3 : upd H2 q _ = H3
        obtain ⟨f3, g3⟩ := gen_new nq hH3
        refine ⟨(by show 1 ≤ sizeLine; decide), fun c2 nc2 => ?_⟩
        generalize hH4 : upd H3 c2 _ = H4
        obtain ⟨f4, g4⟩ := gen_new nc2 hH4
        refine ⟨(by show 0 ≤ sizeLine; decide), fun r nr => ?_⟩
        generalize hH5 : upd H4 r _ = H5
        obtain ⟨f5, g5⟩ := gen_new nr hH5
        refine ⟨(by show 4 ≤ sizeLine; decide), fun t nt => ?_⟩
        generalize hH6 : upd H5 t _ = H6
        obtain ⟨f6, g6⟩ := gen_new nt hH6
        refine k H6 _ (.mark lot [(10 + b, -1)] []) fs2 ((((((f1.upS f2)).up0 f3).up0 f4).up0 f5).up0 f6) (f6.get0 (f5.get0 (f4.get0 (f3.get0 g2)))) hf2 ⟨t, c2, r, _, rfl, sqt g6, sqt (f6.get0 (f5.get0 g4)), .cons ⟨q, rfl, sqt (f6.get0 (f5.get0 (f4.get0 g3)))⟩ .nil, sqt (f6.get0 g5)⟩ ⟨?_, ?_, fun _ _ _ e => by cases e; simp⟩
        · simp [recOk, cpsOk, asc, win]
          omega
        · simp [fits]
          omega
      · refine ⟨_, rfl, rfl, _, rfl, ?_⟩
        refine ite2 (fun c => ?_) (fun c => ?_)
        · refine ⟨_, rfl, (by show 2 ≤ sizeLine; decide), fun q nq => ?_⟩
          generalize hH3 : upd H2 q _ = H3
          obtain ⟨f3, g3⟩ := gen_new nq hH3
          refine ⟨_, rfl, _, rfl, a, fs2, 30, rfl, f3.get0 g2, hf2, by decide, fun H4 n fs4 f4 g4 hf4 n0 n1 => ⟨(by show 2 ≤ sizeLine; decide), fun q2 nq2 => ?_⟩⟩
          have g3' := f4.get1 g3 (ne_of g3 (f3.get0 g2) (by intro z; cases z))
          generalize hH5 : upd H4 q2 _ = H5
          obtain ⟨f5, g5⟩ := gen_new nq2 hH5
          refine ⟨(by show 2 ≤ sizeLine; decide), fun c2 nc2 => ?_⟩
          generalize hH6 : upd H5 c2 _ = H6
          obtain ⟨f6, g6⟩ := gen_new nc2 hH6
          refine ⟨_, rfl, (by show 1 ≤ sizeLine; decide), fun r nr => ?_⟩
          generalize hH7 : upd H6 r _ = H7
          obtain ⟨f7, g7⟩ := gen_new nr hH7
          refine ⟨(by show 4 ≤ sizeLine; decide), fun t nt => ?_⟩
          generalize hH8 : upd H7 t _ = H8
          obtain ⟨f8, g8⟩ := gen_new nt hH8
          refine k H8 _ (.mark lot [(0, 3), (10 + b, n)] [10 + b]) fs4 (((((((f1.upS f2).up0 f3).upS f4).up0 f5).up0 f6).up0 f7).up0 f8) (f8.get0 (f7.get0 (f6.get0 (f5.get0 g4)))) hf4 ⟨t, c2, r, _, rfl, sqt g8, sqt (f8.get0 (f7.get0 g6)), .cons ⟨q, rfl, sqt (f8.get0 (f7.get0 (f6.get0 (f5.get0 g3'))))⟩ (.cons ⟨q2, rfl, sqt (f8.get0 (f7.get0 (f6.get0 g5)))⟩ .nil), sqt (f8.get0 g7)⟩ ⟨?_, ?_, fun _ _ _ e => by cases e; simp⟩
          · simp [recOk, cpsOk, asc, win]
            omega
          · simp [fits]
            omega
        · refine ⟨_, rfl, (by show 0 ≤ sizeLine; decide), fun c2 nc2 => ?_⟩
          generalize hH4 : upd H2 c2 _ = H4
          obtain ⟨f4, g4⟩ := gen_new nc2 hH4
          refine ⟨(by show 0 ≤ sizeLine; decide), fun r nr => ?_⟩
          generalize hH5 : upd H4 r _ = H5
          obtain ⟨f5, g5⟩ := gen_new nr hH5
          refine ⟨(by show 4 ≤ sizeLine; decide), fun t nt => ?_⟩
          generalize hH6 : upd H5 t _ = H6
          obtain ⟨f6, g6⟩ := gen_new nt hH6
          refine k H6 _ (.mark lot [] []) fs2 ((((f1.upS f2).up0 f4).up0 f5).up0 f6) (f6.get0 (f5.get0 (f4.get0 g2))) hf2 ⟨t, c2, r, _, rfl, sqt g6, sqt (f6.get0 (f5.get0 g4)), .nil, sqt (f6.get0 g5)⟩ ⟨?_, ?_, fun _ _ _ e => by cases e; simp⟩
          · simp [recOk, cpsOk, asc, win]
            omega
          · simp [fits]
def sp_law_due (K : PySem.W.Frag) : Sp := fun vs H Q _ => ∃ (l : Addr) (ws : List V) (log : List (Option Rec)) (hd : Int), vs = [.ref l, .int hd] ∧ H l = some (.lst ws) ∧ Paired (OptRec K H) ws log ∧ log.length = 30 ∧
  ∀ H' p vs' D, Fr [] H H' → H p = none → H' p = some (.lst vs') → Paired (FoundAt K H') vs' D → Marks log hd D → Q (.ref p) H'
theorem at_z {xs : List V} {i : Nat} {v : V} (h : xs[i]? = some v) : atI xs (0 + (i : Int)) = some v := by
  rw [Int.zero_add]
  exact atI_nat h
theorem ok_law_due (T : Txt K mg) : FnOk P w K mg base CX0 1 T.a_law_due T.fd_law_due ["_law_log", "_law_head"] (sp_law_due K) := by
  refine T.F_law_due.ok sc_law_due (fun vs H Q E h => ?_) (fun cdv A outer s H vs Q E hr h => ?_)
  · obtain ⟨l, ws, log, hd, rfl, _⟩ := h
    rfl
  · obtain ⟨l, ws, log, hd, rfl, h0, hp, hlen, k⟩ := h
    have hwl := hp.length
    refine ⟨_, (pss_cons (ps_set (i := 2) sc_law_due.nd rfl (Or.inl rfl) (pe_lst pa_nil))
        (pss_cons (ps_for PassesOwn.never rfl (pi_range1 rfl T.n_range (pa_cons pe_int pa_nil)) (pg_name (i := 3) sc_law_due.nd rfl (Or.inl rfl))
        (pss_cons (ps_set (i := 4) sc_law_due.nd rfl (Or.inl rfl) (pe_lst pa_nil))
        (pss_cons (ps_for PassesOwn.never rfl (pi_range1 rfl T.n_range (pa_cons pe_int pa_nil)) (pg_name (i := 5) sc_law_due.nd rfl (Or.inl rfl))
        (pss_cons (ps_set (i := 6) sc_law_due.nd rfl (Or.inl rfl) (pe_ix ix_list (pv 0) (pv 5) (fun _ _ => rfl)))
        (pss_one (ps_if (PW.pt (pw_and (pt_cmpR op_notN (pv 6) pe_non (nomark _)) (pw_and (pt_cmpR op_eq (pe_ix ix_tup (pv 6) pe_int (fun _ _ => rfl)) pe_str (nomark _)) (pw_and1 (pt_cmpR op_eq (pe_ix ix_tup (pv 6) pe_int (fun _ _ => rfl)) (pe_op op_add (pe_op op_add (pv 1) pe_int) (pv 3)) (nomark _)))))) (pss_one (ps_expr (pe_bm PySem.F.plainAttrs_list PySem.F.slot_list_append PySem.F.type_list_append mt_append (pv 4) (pa_cons (pv 5) pa_nil)))) pss_nil))))
        (pss_cons (ps_if (pt_cmpR op_eq (pe_callB call_len_seq (by rfl) T.n_len (by decide +kernel) (pa_cons (pv 4) pa_nil)) pe_int (nomark _)) (pss_one (ps_ret (pv 2))) pss_nil)
        (pss_one (ps_expr (pe_bm PySem.F.plainAttrs_list PySem.F.slot_list_append PySem.F.type_list_append mt_append (pv 2) (pa_cons (pe_tup (pa_cons (pe_ix ix_list (pv 4) pe_int (fun _ _ => rfl)) (pa_cons (pe_ix ix_list (pv 0) (pe_ix ix_list (pv 4) pe_int (fun _ _ => rfl)) (fun _ _ => rfl)) pa_nil))) pa_nil))))))))
        (pss_one (ps_ret (pv 2))))), ?_⟩
    refine ⟨by decide, fun p np => ?_⟩
    generalize hH1 : upd H p _ = H1
    obtain ⟨f1, g1⟩ := gen_new np hH1
    refine ⟨40, rfl, by decide, by decide, for_range (n := 40) (fun i σ H2 => ∃ (vs : List V) (F : List (Nat × Rec)) (x y z u : Option V), σ = [some (.ref l), some (.int hd), some (.ref p), x, y, z, u] ∧ Fr [] H H2 ∧ H2 p = some (.lst vs) ∧ Paired (FoundAt K H2) vs F ∧ F.length = i ∧ (∀ (k : Nat) (x : Nat × Rec), F[k]? = some x → First (hd + k + 1) log x.1 x.2) ∧ cnt (hd + F.length + 1) log + F.length ≤ log.length) ?_ ?_ ?_⟩
    · exact ⟨[], [], _, _, _, _, rfl, f1, g1, .nil, rfl, fun k x h => by simp at h, cnt_le _ _⟩
    · rintro i σ H2 hi ⟨vs, F, x, y, z, u, rfl, f2, g2, hq, hFl, hF, hc⟩
      have hvl := hq.length
      refine ⟨by decide, fun q nq => ?_⟩
      generalize hH3 : upd H2 q _ = H3
      obtain ⟨f3, g3⟩ := gen_new nq hH3
      have npq : p ≠ q := ne_of_none g2 nq
      have nq0 : H q = none := f2.free nq
      have nlq : l ≠ q := ne_of_none h0 nq0
      have nlp : l ≠ p := ne_of_none h0 np
      refine ⟨30, rfl, by decide, by decide, for_range (n := 30) (fun j σ H4 => ∃ (sl : List Nat) (z u : Option V), σ = [some (.ref l), some (.int hd), some (.ref p), some (.int (0 + (i : Int))), some (.ref q), z, u] ∧ Fr [] H2 H4 ∧ H4 q = some (.lst (sl.map fun (x : Nat) => V.int (x : Nat))) ∧ sl.length ≤ j ∧ ((sl = [] ∧ ∀ (m : Nat) (o : Option Rec), m < j → log[m]? = some o → isM (hd + i + 1) o = false) ∨ ∃ j0 rest r, sl = j0 :: rest ∧ First (hd + i + 1) log j0 r)) ?_ ?_ ?_⟩
      · exact ⟨[], _, _, rfl, f3, g3, Nat.le_refl _, .inl ⟨rfl, fun m o h => absurd h (by omega)⟩⟩
      · rintro j σ H4 hj ⟨sl, z, u, rfl, f4, g4, hsl, hinv⟩
        have f24 := f2.up0 f4
        have hlog4 := f24.get0 h0
        obtain ⟨o, ho⟩ : ∃ o, log[j]? = some o := ⟨log[j]'(by omega), List.getElem?_eq_getElem (by omega)⟩
        obtain ⟨v, hv, hor⟩ := paired_get' hp ho
        have hor4 := hor.ts (K := K) f24.ts0
        refine ⟨_, rfl, _, rfl, l, ws, _, v, rfl, rfl, sq hlog4, at_z hv, ?_⟩
        have step : isM (hd + i + 1) o = false → ((sl = [] ∧ ∀ (m : Nat) (o : Option Rec), m < j + 1 → log[m]? = some o → isM (hd + i + 1) o = false) ∨ ∃ j0 rest r, sl = j0 :: rest ∧ First (hd + i + 1) log j0 r) := fun hf => by
          rcases hinv with ⟨e, hn⟩ | h
          · refine .inl ⟨e, fun m o' hm hq => ?_⟩
            by_cases em : m = j
            · subst em
              rw [ho] at hq
              cases hq
              exact hf
            · exact hn m o' (by omega) hq
          · exact .inr h
        cases o with
        | none =>
          cases (show v = .non from hor)
          refine ⟨_, rfl, rfl, _, rfl, iteF (iteF ?_)⟩
          exact ⟨sl, _, _, rfl, f4, g4, by omega, step rfl⟩
        | some r =>
          obtain ⟨a, s, lt, x', z', rfl, hs, hm⟩ := mk_head hor4
          refine ⟨_, rfl, rfl, _, rfl, iteT ?_⟩
          refine ⟨_, rfl, a, _, 0, _, rfl, rfl, hs, rfl, rfl, _, rfl, ?_⟩
          rw [dec_str]
          by_cases c : s = "mark"
          · refine iteT' (decide_eq_true c) ?_
            refine ⟨_, rfl, a, _, 1, _, rfl, rfl, hs, rfl, _, rfl, _, _, rfl, rfl, _, rfl, _, _, rfl, rfl, rfl, _, rfl, ?_⟩
            rw [show decide (V.int lt = (fun i j => V.int (i + j)) (hd + 1) (0 + (i : Int))) = decide (lt = hd + i + 1) by
              show decide (V.int lt = V.int (hd + 1 + (0 + (i : Int)))) = _
              rw [dec_int, show hd + 1 + (0 + (i : Int)) = hd + i + 1 by omega]]
            by_cases d : lt = hd + i + 1
            · refine iteT' (decide_eq_true d) ?_
              refine ⟨_, rfl, .inl ⟨rfl, _, sq g4⟩, _, rfl, q, _, _, rfl, rfl, g4, sz (by simp; omega), ?_⟩
              generalize hH5 : upd H4 q _ = H5
              obtain ⟨f5, g5⟩ := gen_upd hH5
              refine ⟨sl ++ [j], _, _, rfl, f4.up1 f5 (.inr nq), ?_, by simp; omega, ?_⟩
              · rw [g5]
                simp
              · rcases hinv with ⟨e, hn⟩ | ⟨j0, rest, r0, e, hf⟩
                · refine .inr ⟨j, [], r, by rw [e]; rfl, ho, by rw [hm, decide_eq_true c, decide_eq_true d]; rfl, hn⟩
                · exact .inr ⟨j0, rest ++ [j], r0, by rw [e]; rfl, hf⟩
            · refine iteF' (decide_eq_false d) ?_
              exact ⟨sl, _, _, rfl, f4, g4, by omega, step (by rw [show isM (hd + i + 1) (some r) = isMk (hd + i + 1) r from rfl, hm, decide_eq_false d, Bool.and_false])⟩
          · refine iteF' (decide_eq_false c) (iteF ?_)
            exact ⟨sl, _, _, rfl, f4, g4, by omega, step (by rw [show isM (hd + i + 1) (some r) = isMk (hd + i + 1) r from rfl, hm, decide_eq_false c, Bool.false_and])⟩
      · rintro σ H4 ⟨sl, z, u, rfl, f4, g4, hsl, hinv⟩
        have f24 := f2.up0 f4
        have g4p := f4.get0 g2
        have hq4 := Paired.mapP hq fun _ _ q => FoundAt.ts (K := K) f4.ts0 q
        refine ⟨_, rfl, q, _, rfl, .inl (sq g4), rfl, _, rfl, ?_⟩
        rcases hinv with ⟨e, hn⟩ | ⟨j0, rest, r0, e, hf⟩
        · subst e
          refine iteT ?_
          refine ⟨_, rfl, k H4 p vs F f24 np g4p hq4 ⟨hF, ?_⟩⟩
          rw [hFl]
          exact fun m o h => hn m o (by have := getq_lt h; omega) h
        · subst e
          refine iteF' (by rw [dec_int]; exact decide_eq_false (by simp; omega)) ?_
          have hlt := cnt_lt hf
          have hlog4 := f24.get0 h0
          obtain ⟨v, hv, hor⟩ := paired_get' hp hf.at_
          have hor4 := RecAt.ts (K := K) f24.ts0 hor
          refine ⟨_, rfl, .inl ⟨rfl, _, sq g4p⟩, _, rfl, q, _, 0, _, rfl, rfl, sq g4, atI_nat (j := 0) rfl, _, rfl, _, rfl, q, _, 0, _, rfl, rfl, sq g4, atI_nat (j := 0) rfl, l, ws, _, v, rfl, rfl, sq hlog4, atI_nat hv, (by show 2 ≤ sizeLine; decide), fun t nt => ?_⟩
          generalize hH5 : upd H4 t _ = H5
          obtain ⟨f5, g5⟩ := gen_new nt hH5
          have g5p := f5.get0 g4p
          refine ⟨p, _, _, rfl, rfl, g5p, sz (by omega), ?_⟩
          generalize hH6 : upd H5 p _ = H6
          obtain ⟨f6, g6⟩ := gen_upd hH6
          have ts : TS K H5 H6 := f6.ts1 g5p rfl
          have e1 : hd + ((F ++ [(j0, r0)]).length : Int) + 1 = hd + i + 1 + 1 := by simp; omega
          refine ⟨_, F ++ [(j0, r0)], _, _, _, _, rfl, (f24.up0 f5).up1 f6 (.inr np), g6, Paired.snoc (Paired.mapP hq4 fun _ _ q => FoundAt.ts (f5.ts0.trans ts) q) ⟨t, v, rfl, ts _ _ (sqt g5), RecAt.ts (f5.ts0.trans ts) hor4⟩, by simp; omega, fun k' x hx => ?_, ?_⟩
          · by_cases c : k' < F.length
            · rw [List.getElem?_append_left c] at hx
              exact hF k' x hx
            · have ek : k' = F.length := by
                have := getq_lt hx
                simp at this
                omega
              subst ek
              rw [List.getElem?_concat_length] at hx
              cases hx
              rw [hFl]
              exact hf
          · rw [e1]
            rw [hFl] at hc
            simp
            omega
    · rintro σ H2 ⟨vs, F, x, y, z, u, rfl, f2, g2, hq, hFl, hF, hc⟩
      omega
end
section
variable {P : Program} {w : World} {K : PySem.W.Frag} {mg : Str → Option Value} {base : Heap}
def sp_law_same (K : PySem.W.Frag) : Sp := fun vs H Q _ => ∃ (p q : Addr) (us vs' : List V) (D : List (Nat × Rec)), vs = [.ref p, .ref q] ∧ H p = some (.lst us) ∧ H q = some (.lst vs') ∧ Paired (FoundAt K H) us D ∧ Paired (FoundAt K H) vs' D ∧ D.length ≤ 1000 ∧ Q (.bl true) H
theorem ok_law_same (T : Txt K mg) : FnOk P w K mg base CX0 1 T.a_law_same T.fd_law_same ["_law_found", "_law_due_here"] (sp_law_same K) := by
  refine T.F_law_same.ok sc_law_same (fun vs H Q E h => ?_) (fun cdv A outer s H vs Q E hr h => ?_)
  · obtain ⟨p, q, us, vs, D, rfl, _⟩ := h
    rfl
  · obtain ⟨p, q, us, vs, D, rfl, h1, h2, hp, hq, hl, k⟩ := h
    have l1 := hp.length
    have l2 := hq.length
    refine ⟨_, (pss_cons (ps_if (PW.pt (pw_or (pt_not (pt_val (pe_callB call_isi (by rfl) T.n_isinstance (by decide +kernel) (pa_cons (pv 0) (pa_cons (pe_bltn (v := .ty "list") (u := .type "list") (by rfl) T.n_list (by decide +kernel) rfl) pa_nil))))) (pw_or1 (pt_cmpR op_ne (pe_callB call_len_seq (by rfl) T.n_len (by decide +kernel) (pa_cons (pv 0) pa_nil)) (pe_callB call_len_seq (by rfl) T.n_len (by decide +kernel) (pa_cons (pv 1) pa_nil)) (nomark _))))) (pss_one (ps_ret pe_bl)) pss_nil)
        (pss_cons (ps_for PassesOwn.never rfl (pi_range1 rfl T.n_range (pa_cons (pe_callB call_len_seq (by rfl) T.n_len (by decide +kernel) (pa_cons (pv 1) pa_nil)) pa_nil)) (pg_name (i := 2) sc_law_same.nd rfl (Or.inl rfl))
        (pss_cons (ps_set (i := 3) sc_law_same.nd rfl (Or.inl rfl) (pe_ix ix_list (pv 0) (pv 2) (fun _ _ => rfl)))
        (pss_cons (ps_if (PW.pt (pw_or (pt_not (pt_val (pe_callB call_isi (by rfl) T.n_isinstance (by decide +kernel) (pa_cons (pv 3) (pa_cons (pe_bltn (v := .ty "tuple") (u := .type "tuple") (by rfl) T.n_tuple (by decide +kernel) rfl) pa_nil))))) (pw_or1 (pt_cmpR op_ne (pe_callB call_len_seq (by rfl) T.n_len (by decide +kernel) (pa_cons (pv 3) pa_nil)) pe_int (nomark _))))) (pss_one (ps_ret pe_bl)) pss_nil)
        (pss_cons (ps_if (PW.pt (pw_or (pt_not (pt_val (pe_callB call_isi (by rfl) T.n_isinstance (by decide +kernel) (pa_cons (pe_ix ix_tup (pv 3) pe_int (fun _ _ => rfl)) (pa_cons (pe_bltn (v := .ty "int") (u := .type "int") (by rfl) T.n_int (by decide +kernel) rfl) pa_nil))))) (pw_or (pt_val (pe_callB call_isi (by rfl) T.n_isinstance (by decide +kernel) (pa_cons (pe_ix ix_tup (pv 3) pe_int (fun _ _ => rfl)) (pa_cons (pe_bltn (v := .ty "bool") (u := .type "bool") (by rfl) T.n_bool (by decide +kernel) rfl) pa_nil)))) (pw_or1 (pt_cmpR op_ne (pe_ix ix_tup (pv 3) pe_int (fun _ _ => rfl)) (pe_ix ix_tup (pe_ix ix_list (pv 1) (pv 2) (fun _ _ => rfl)) pe_int (fun _ _ => rfl)) (nomark _)))))) (pss_one (ps_ret pe_bl)) pss_nil)
        (pss_one (ps_if (PW.pt (pw_or (pt_not (pt_val (pe_callB call_isi (by rfl) T.n_isinstance (by decide +kernel) (pa_cons (pe_ix ix_tup (pv 3) pe_int (fun _ _ => rfl)) (pa_cons (pe_bltn (v := .ty "tuple") (u := .type "tuple") (by rfl) T.n_tuple (by decide +kernel) rfl) pa_nil))))) (pw_or1 (pt_cmpR (op_neD hr.units) (pe_ix ix_tup (pv 3) pe_int (fun _ _ => rfl)) (pe_ix ix_tup (pe_ix ix_list (pv 1) (pv 2) (fun _ _ => rfl)) pe_int (fun _ _ => rfl)) (nomark _))))) (pss_one (ps_ret pe_bl)) pss_nil))))))
        (pss_one (ps_ret pe_bl)))), ?_⟩
    refine ⟨_, rfl, _, _, _, _, true, rfl, .ty "list", ty_lst (sq h1), kit_ty (by decide +kernel), _, rfl, iteF ?_⟩
    refine ⟨_, rfl, p, _, rfl, .inl (sq h1), _, rfl, q, _, rfl, .inl (sq h2), rfl, _, rfl, iteF' (by rw [dec_int, decide_eq_true (by omega)]; rfl) ?_⟩
    refine ⟨_, rfl, q, _, rfl, .inl (sq h2), _, rfl, by omega, by omega, for_range (n := ((vs.length : Nat) : Int).toNat) (fun i σ H2 => H = H2 ∧ ∃ x y, σ = [some (.ref p), some (.ref q), x, y]) ?_ ?_ ?_⟩
    · exact ⟨rfl, _, _, rfl⟩
    · rintro i σ H2 hi ⟨rfl, x, y, rfl⟩
      obtain ⟨d, hd⟩ : ∃ d, D[i]? = some d := ⟨D[i]'(by omega), List.getElem?_eq_getElem (by omega)⟩
      obtain ⟨u, hu, t, wu, rfl, ht, hr1⟩ := paired_get' hp hd
      obtain ⟨v, hv, t2, wv, rfl, ht2, hr2⟩ := paired_get' hq hd
      obtain ⟨au, su, lu, xu, yu, rfl, hsu, _⟩ := mk_head hr1
      refine ⟨_, rfl, _, rfl, p, _, _, _, rfl, rfl, sq h1, at_z hu, ?_⟩
      refine ⟨_, rfl, _, _, _, _, true, rfl, .ty "tuple", ty_tup ht, kit_ty (by decide +kernel), _, rfl, iteF ?_⟩
      refine ⟨_, rfl, t, _, rfl, .inr ht, rfl, _, rfl, iteF ?_⟩
      refine ⟨_, rfl, t, _, 0, _, rfl, rfl, ht, rfl, _, _, _, _, true, rfl, .ty "int", .base (.int _), kit_ty (by decide +kernel), _, rfl, iteF ?_⟩
      refine ⟨_, rfl, t, _, 0, _, rfl, rfl, ht, rfl, _, _, _, _, false, rfl, .ty "bool", .base (.int _), kit_ty (by decide +kernel), _, rfl, iteF ?_⟩
      refine ⟨_, rfl, t, _, 0, _, rfl, rfl, ht, rfl, _, rfl, _, rfl, q, _, _, _, rfl, rfl, sq h2, at_z hv, t2, _, 0, _, rfl, rfl, ht2, rfl, rfl, _, rfl, iteF' (by rw [dec_int, decide_eq_true rfl]; rfl) ?_⟩
      refine ⟨_, rfl, t, _, 1, _, rfl, rfl, ht, rfl, _, _, _, _, true, rfl, .ty "tuple", ty_tup hsu, kit_ty (by decide +kernel), _, rfl, iteF ?_⟩
      refine ⟨_, rfl, t, _, 1, _, rfl, rfl, ht, rfl, _, rfl, _, rfl, q, _, _, _, rfl, rfl, sq h2, at_z hv, t2, _, 1, _, rfl, rfl, ht2, rfl, d.2.data, d.2.data, hr1.dp, hr2.dp, ((Rec.sh d.2).mono (by decide)).shaped, ((Rec.sh d.2).mono (by decide)).shaped, _, rfl, iteF' (by rw [SeqAt.eqv_refl _ (Rec.sh d.2).1]; rfl) ?_⟩
      exact ⟨rfl, _, _, rfl⟩
    · rintro σ H2 ⟨rfl, x, y, rfl⟩
      exact k
def optData : Option Rec → PyData
  | none => .none
  | some r => r.data
theorem OptRec.dp {H : Hp} {v : V} {o : Option Rec} (h : OptRec K H v o) : Dp K H v (optData o) := by
  cases o with
  | none => cases (show v = .non from h); exact .non
  | some r => exact RecAt.dp h
theorem optSh (o : Option Rec) : Sh 4 (optData o) := by
  cases o with
  | none => exact .non
  | some r => exact r.sh
def sp_law_agrees (T : Txt K mg) : Sp := fun vs H Q _ => ∃ (dk l : Addr) (A : DA) (ws : List V) (log : List (Option Rec)) (hd la : Int) (kvs : List (Key × V)), vs = [.ref dk, .ref l, .int hd] ∧ DiskAt T H dk A log hd la kvs ∧ H l = some (.lst ws) ∧ Paired (OptRec K H) ws log ∧ log.length = 30 ∧ ∀ H', Fr [] H H' → Q (.bl true) H'
theorem ok_law_agrees (T : Txt K mg) : FnOk P w K mg base CX0 3 T.a_law_agrees T.fd_law_agrees ["_law_disk", "_law_log", "_law_head"] (sp_law_agrees T) := by
  refine T.F_law_agrees.ok sc_law_agrees (fun vs H Q E h => ?_) (fun cdv A outer s H vs Q E hr h => ?_)
  · obtain ⟨dk, l, A, ws, log, hd, la, kvs, rfl, _⟩ := h
    rfl
  · obtain ⟨dk, l, D, ws, log, hd, la, kvs, rfl, dd, h0, hp, hlen, k⟩ := h
    refine ⟨_, (pss_cons (ps_set (i := 3) sc_law_agrees.nd rfl (Or.inl rfl) (pe_call (ok_law_due T) (hr.mono (by decide)) rfl T.m_law_due T.F_law_due.kp T.b_law_due .nil pass0 (pa_cons (pv 1) (pa_cons (pv 2) pa_nil))))
        (pss_cons (ps_set (i := 4) sc_law_agrees.nd rfl (Or.inl rfl) (pe_call (ok_found_marks T) (hr.mono (by decide)) rfl T.m_found_marks T.F_found_marks.kp T.b_found_marks .nil pass0 (pa_cons (pv 0) pa_nil)))
        (pss_cons (ps_if (pt_not (pt_val (pe_call (ok_law_same T) (hr.mono (by decide)) rfl T.m_law_same T.F_law_same.kp T.b_law_same .nil pass0 (pa_cons (pv 4) (pa_cons (pv 3) pa_nil))))) (pss_one (ps_ret pe_bl)) pss_nil)
        (pss_cons (ps_expr (pe_bm PySem.F.plainAttrs_list PySem.F.slot_list_append PySem.F.type_list_append mt_append (pv 4) (pa_cons (pe_tup (pa_cons pe_int (pa_cons (pe_tup (pa_cons pe_str (pa_cons (pe_op op_add (pe_op op_add (pv 2) (pe_callB call_len_seq (by rfl) T.n_len (by decide +kernel) (pa_cons (pv 3) pa_nil))) pe_int) (pa_cons (pe_tup pa_nil) (pa_cons (pe_tup pa_nil) pa_nil))))) pa_nil))) pa_nil)))
        (pss_cons (ps_if (pt_not (pt_val (pe_call (ok_law_same T) (hr.mono (by decide)) rfl T.m_law_same T.F_law_same.kp T.b_law_same .nil pass0 (pa_cons (pe_call (ok_found_marks T) (hr.mono (by decide)) rfl T.m_found_marks T.F_found_marks.kp T.b_found_marks .nil pass0 (pa_cons (pv 0) pa_nil)) (pa_cons (pv 3) pa_nil))))) (pss_one (ps_ret pe_bl)) pss_nil)
        (pss_one (ps_ret (pe_and (pe_cmpR (op_eqD hr.units) (pe_callTy call_list_of (by rfl) T.n_list (by decide +kernel) (pa_cons (pe_fld (pv 0) rfl) pa_nil)) (pv 1) (nomark _)) (pe_one (pe_cmpR op_eq (pe_fld (pv 0) rfl) (pv 2) (nomark _))))))))))), ?_⟩
    refine ⟨_, rfl, _, rfl, l, ws, log, hd, rfl, h0, hp, hlen, fun H1 p us F f1 np g1 hF1 hM1 => ?_⟩
    have d1 := dd.fr0 f1
    refine ⟨_, rfl, dk, D, log, hd, la, kvs, rfl, d1, by omega, fun H2 q vs F2 f2 nq g2 hF2 hM2 => ?_⟩
    have eF := hM2.uniq hM1
    subst eF
    have g2p := f2.get0 g1
    have hF12 := Paired.mapP hF1 fun _ _ q => FoundAt.ts (K := K) f2.ts0 q
    have hlF : F2.length ≤ 1000 := by
      have h30 : F2.length ≤ log.length := by
        have : ∀ k, k ≤ F2.length → cnt (hd + k + 1) log + k ≤ log.length := by
          intro k
          induction k with
          | zero => intro _; exact cnt_le _ _
          | succ k ih =>
            intro hk
            have i1 := ih (by omega)
            have i2 := cnt_lt (hM1.1 k _ (List.getElem?_eq_getElem (by omega)))
            rw [show hd + ((k + 1 : Nat) : Int) + 1 = hd + k + 1 + 1 by omega]
            omega
        have := this F2.length (Nat.le_refl _)
        omega
      omega
    refine ⟨_, rfl, _, rfl, q, p, vs, us, F2, rfl, g2, g2p, hF2, hF12, hlF, _, rfl, iteF ?_⟩
    have hvl := hF2.length
    refine ⟨_, rfl, .inl ⟨rfl, _, sq g2⟩, _, rfl, _, rfl, p, _, rfl, .inl (sq g2p), _, _, rfl, rfl, _, _, rfl, rfl, (by show 0 ≤ sizeLine; decide), fun c1 nc1 => ?_⟩
    generalize hH3 : upd H2 c1 _ = H3
    obtain ⟨f3, g3⟩ := gen_new nc1 hH3
    refine ⟨(by show 0 ≤ sizeLine; decide), fun c2 nc2 => ?_⟩
    generalize hH4 : upd H3 c2 _ = H4
    obtain ⟨f4, g4⟩ := gen_new nc2 hH4
    refine ⟨(by show 4 ≤ sizeLine; decide), fun c3 nc3 => ?_⟩
    generalize hH5 : upd H4 c3 _ = H5
    obtain ⟨f5, g5⟩ := gen_new nc3 hH5
    refine ⟨(by show 2 ≤ sizeLine; decide), fun c4 nc4 => ?_⟩
    generalize hH6 : upd H5 c4 _ = H6
    obtain ⟨f6, g6⟩ := gen_new nc4 hH6
    have f26 : Fr [] H2 H6 := ((f3.up0 f4).up0 f5).up0 f6
    have g6q := f26.get0 g2
    refine ⟨q, _, _, rfl, rfl, g6q, sz (by omega), ?_⟩
    generalize hH7 : upd H6 q _ = H7
    obtain ⟨f7, g7⟩ := gen_upd hH7
    have npq : p ≠ q := ne_of_none g1 nq
    have nq0 : H q = none := f1.free nq
    have f07 : Fr [] H H7 := ((f1.up0 f2).up0 f26).up1 f7 (.inr nq0)
    have ts : TS K H2 H7 := f26.ts0.trans (f7.ts1 g6q rfl)
    have d7 := dd.fr0 f07
    have g7p := f7.get1 (f26.get0 g2p) npq
    refine ⟨_, rfl, dk, D, log, hd, la, kvs, rfl, d7, by omega, fun H8 q8 vs8 F8 f8 nq8 g8 hF8 hM8 => ?_⟩
    have eF := hM8.uniq hM1
    subst eF
    have hF18 := Paired.mapP hF12 fun _ _ q => FoundAt.ts (K := K) (ts.trans f8.ts0) q
    refine ⟨_, rfl, q8, p, vs8, us, F8, rfl, g8, f8.get0 g7p, hF8, hF18, hlF, _, rfl, iteF ?_⟩
    have d8 := d7.fr0 f8
    have f08 := f07.up0 f8
    obtain ⟨⟨dx8, o8⟩, _, ⟨lv, hlv, hpl⟩, _⟩ := id d8
    refine ⟨_, rfl, dk, _, dx8, _, _, rfl, o8, T.C_Disk, T.n_Disk_log, lk_Disk_log, D.lg, _, rfl, .inl (sq hlv), fun t nt => ?_⟩
    generalize hH9 : upd H8 t _ = H9
    obtain ⟨f9, g9⟩ := gen_new nt hH9
    have f09 := f08.up0 f9
    have sh : Sh 64 (.list (log.map optData)) := (Sh.lst (n := 4) (.map optSh)).mono (by decide)
    refine ⟨_, rfl, .list (log.map optData), .list (log.map optData), .lst (sq g9) (dp_paired (fun v o q => OptRec.dp (q.ts f9.ts0)) hpl), .lst (sq (f09.get0 h0)) (dp_paired (fun v o q => OptRec.dp (q.ts f09.ts0)) hp), sh.shaped, sh.shaped, _, rfl, ?_⟩
    rw [SeqAt.eqv_refl _ sh.1]
    refine iteT ?_
    refine ⟨_, rfl, dk, _, dx8, _, _, rfl, f9.get0 o8, T.C_Disk, T.n_Disk_head, lk_Disk_head, _, rfl, rfl, ?_⟩
    rw [dec_int, decide_eq_true rfl]
    exact k H9 f09
end
section
variable {P : Program} {w : World} {K : PySem.W.Frag} {mg : Str → Option Value} {base : Heap}
def somes (log : List (Option Rec)) : Nat := (log.filter Option.isSome).length
theorem somes_set : ∀ (log : List (Option Rec)) (i : Nat) (r : Rec), somes (log.set i (some r)) ≤ somes log + 1
  | [], i, r => by simp [somes]
  | o :: log, 0, r => by
    unfold somes
    rw [List.set_cons_zero, List.filter_cons, List.filter_cons]
    cases o <;> simp
  | o :: log, i + 1, r => by
    have := somes_set log i r
    unfold somes at this ⊢
    rw [List.set_cons_succ, List.filter_cons, List.filter_cons]
    cases o <;> simp at this ⊢ <;> omega
theorem some_none : ∀ (log : List (Option Rec)), somes log < log.length → ∃ i : Nat, log[i]? = some none
  | [], h => by simp [somes] at h
  | none :: log, h => ⟨0, rfl⟩
  | some r :: log, h => by
    have h2 : somes log < log.length := by
      unfold somes at h ⊢
      simp at h ⊢
      omega
    obtain ⟨i, hi⟩ := some_none log h2
    exact ⟨i + 1, hi⟩
/-- behind a mark for the first lot that is missing, the first lot is there -/
theorem marks_ne {log : List (Option Rec)} {hd : Int} {D E : List (Nat × Rec)} {i : Nat} {cs : List (Int × Int)} {rs : List Int} (hD : Marks log hd D) (hi : log[i]? = some none) (hE : Marks (log.set i (some (.mark (hd + D.length + 1) cs rs))) hd E) : E ≠ [] := fun e => by
  subst e
  have hN := hE.2
  rw [show hd + (([] : List (Nat × Rec)).length : Int) + 1 = hd + 1 by simp] at hN
  have hil := getq_lt hi
  cases D with
  | nil =>
    have := hN i (some (.mark (hd + 1) cs rs)) (by rw [List.getElem?_set_self hil]; simp)
    rw [show isM (hd + 1) (some (.mark (hd + 1) cs rs)) = decide (hd + 1 = hd + 1) from rfl, decide_eq_true rfl] at this
    cases this
  | cons x D =>
    have f := hD.1 0 x rfl
    have ne : i ≠ x.1 := fun e => by
      have := f.at_
      rw [← e, hi] at this
      cases this
    have := hN x.1 (some x.2) (by rw [List.getElem?_set_ne ne]; exact f.at_)
    have e2 : isMk (hd + 1) x.2 = true := by
      have := f.is_
      rw [show hd + ((0 : Nat) : Int) + 1 = hd + 1 by omega] at this
      exact this
    rw [show isM (hd + 1) (some x.2) = isMk (hd + 1) x.2 from rfl, e2] at this
    cases this
def spLaw (K : PySem.W.Frag) : Sp := fun vs H Q _ => ∃ (a : Addr) (ns : List Int), vs = [.ref a] ∧ SqL K H a (ns.map V.int) ∧ ns.length ≤ 63 ∧ ∀ H', Q (.bl true) H'
theorem ok_law (T : Txt K mg) : FnOk P w K mg base CX0 9 T.a_law T.fd_law ["_law_script"] (spLaw K) := by
  refine T.F_law.ok sc_law (fun vs H Q E h => ?_) (fun cdv A outer s H vs Q E hr h => ?_)
  · obtain ⟨a, ns, rfl, _⟩ := h
    rfl
  · obtain ⟨a, ns, rfl, hS, hl, k⟩ := h
    refine ⟨_, (pss_cons (ps_set (i := 1) sc_law.nd rfl (Or.inl rfl) (pe_call (ok_law_feed T) (hr.mono (by decide)) rfl T.m_law_feed T.F_law_feed.kp T.b_law_feed .nil pass0 (pa_cons (pv 0) pa_nil)))
        (pss_cons (ps_set (i := 2) sc_law.nd rfl (Or.inl rfl) (pe_make T.m_Disk_init (ok_Disk_init T) (hr.mono (by decide)) rfl T.g_Disk T.b_Disk_init .nil pass0 (pa_cons (pe_makeK T.m_Plan_init (ok_Plan_init T) (hr.mono (by decide)) rfl T.g_Plan T.b_Plan_init pass0 (pa_cons pe_int pa_nil) (pk_cons pe_int (pk_cons pe_int pk_nil))) pa_nil)))
        (pss_cons (ps_set (i := 3) sc_law.nd rfl (Or.inl rfl) (pe_call (ok_law_pick T) (hr.mono (by decide)) rfl T.m_law_pick T.F_law_pick.kp T.b_law_pick .nil pass0 (pa_cons (pv 1) (pa_cons pe_int pa_nil))))
        (pss_cons (ps_expr (pe_meth (pv 2) T.C_Disk T.m_Disk_move_head (ok_Disk_move_head T) (hr.mono (by decide)) T.b_Disk_move_head .nil pass0 (pa_cons (pv 3) pa_nil)))
        (pss_cons (ps_set (i := 4) sc_law.nd rfl (Or.inr rfl) (pe_lc (own := [("_law_slot", 5)]) (g := gName 5) (tt := tYes) (by rfl) sc_law.nd (pi_range1 rfl T.n_range (pa_cons pe_int pa_nil)) (blkOk_by (own := [("_law_slot", 5)]) (N := N_law) (sc := defScope s_law) (by decide +kernel)) (fun _ _ _ _ _ => pg_name (i := 5) sc_law.nd rfl (Or.inl rfl)) (fun _ _ _ _ _ => pts_nil) (fun _ _ _ _ _ => pe_non)))
        (pss_cons (ps_for PassesOwn.never rfl (pi_range1 rfl T.n_range (pa_cons (pe_call (ok_law_pick T) (hr.mono (by decide)) rfl T.m_law_pick T.F_law_pick.kp T.b_law_pick .nil pass0 (pa_cons (pv 1) (pa_cons pe_int pa_nil))) pa_nil)) (pg_name (i := 6) sc_law.nd rfl (Or.inl rfl))
        (pss_cons (ps_set (i := 5) sc_law.nd rfl (Or.inl rfl) (pe_call (ok_law_pick T) (hr.mono (by decide)) rfl T.m_law_pick T.F_law_pick.kp T.b_law_pick .nil pass0 (pa_cons (pv 1) (pa_cons pe_int pa_nil))))
        (pss_cons (ps_set (i := 7) sc_law.nd rfl (Or.inl rfl) (pe_callB (call_max2 rfl) (by rfl) T.n_max (by decide +kernel) (pa_cons pe_int (pa_cons (pe_op op_add (pv 3) (pe_call (ok_law_pick T) (hr.mono (by decide)) rfl T.m_law_pick T.F_law_pick.kp T.b_law_pick .nil pass0 (pa_cons (pv 1) (pa_cons pe_int pa_nil)))) pa_nil))))
        (pss_cons (ps_set (i := 8) sc_law.nd rfl (Or.inl rfl) (pe_call (ok_law_record T) (hr.mono (by decide)) rfl T.m_law_record T.F_law_record.kp T.b_law_record .nil pass0 (pa_cons (pv 1) (pa_cons (pv 7) pa_nil))))
        (pss_cons (ps_expr (pe_meth (pv 2) T.C_Disk T.m_Disk_sure (ok_Disk_sure T) (hr.mono (by decide)) T.b_Disk_sure .nil pass0 (pa_cons (pe_meth (pv 2) T.C_Disk T.m_Disk_issue (ok_Disk_issue T) (hr.mono (by decide)) T.b_Disk_issue .nil pass0 (pa_cons (pe_tup (pa_cons pe_str (pa_cons (pv 5) pa_nil))) (pa_cons (pv 8) pa_nil))) pa_nil)))
        (pss_cons (ps_asg (pv 8) (pg_sub (pv 4) (pv 5) set_list))
        (pss_one (ps_if (pt_not (pt_val (pe_call (ok_law_agrees T) (hr.mono (by decide)) rfl T.m_law_agrees T.F_law_agrees.kp T.b_law_agrees .nil pass0 (pa_cons (pv 2) (pa_cons (pv 4) (pa_cons (pv 3) pa_nil)))))) (pss_one (ps_ret pe_bl)) pss_nil))))))))
        (pss_cons (ps_if (pt_not (pt_val (pe_call (ok_law_agrees T) (hr.mono (by decide)) rfl T.m_law_agrees T.F_law_agrees.kp T.b_law_agrees .nil pass0 (pa_cons (pv 2) (pa_cons (pv 4) (pa_cons (pv 3) pa_nil)))))) (pss_one (ps_ret pe_bl)) pss_nil)
        (pss_cons (ps_setLc (i := 9) (own := [("_law_slot", 5)]) (g := gName 5)  (by rfl) sc_law.nd rfl rfl (sw_true rfl rfl rfl (by decide +kernel)) (pi_range1 rfl T.n_range (pa_cons pe_int pa_nil)) (blkOk_by (own := [("_law_slot", 5)]) (N := N_law) (sc := defScope s_law) (by decide +kernel)) (fun _ _ _ _ _ => pg_name (i := 5) sc_law.nd rfl (Or.inl rfl)) (fun _ _ _ _ _ => (pts_one (pt_cmpR op_isN (pe_ix (show IxR _ (rIxL K) from ix_list) (pv 4) (pv 5) (fun _ _ => rfl)) pe_non (nomark _)))) (fun _ _ _ _ _ => (pv 5)))
        (pss_cons (ps_set (i := 5) sc_law.nd rfl (Or.inl rfl) (pe_ix ix_list (pv 9) pe_int (fun _ _ => rfl)))
        (C8.pss_cut (ps_if (pt_cmpR op_eq (pe_call (ok_law_pick T) (hr.mono (by decide)) rfl T.m_law_pick T.F_law_pick.kp T.b_law_pick .nil pass0 (pa_cons (pv 1) (pa_cons pe_int pa_nil))) pe_int (nomark _)) (pss_one (ps_set (i := 5) sc_law.nd rfl (Or.inl rfl) (pe_ix ix_list (pv 9) (pe_un un_neg pe_int) (fun _ _ => rfl)))) pss_nil)
        (pss_cons (ps_set (i := 8) sc_law.nd rfl (Or.inl rfl) (pe_tup (pa_cons pe_str (pa_cons (pe_op op_add (pe_op op_add (pv 3) (pe_callB call_len_seq (by rfl) T.n_len (by decide +kernel) (pa_cons (pe_call (ok_law_due T) (hr.mono (by decide)) rfl T.m_law_due T.F_law_due.kp T.b_law_due .nil pass0 (pa_cons (pv 4) (pa_cons (pv 3) pa_nil))) pa_nil))) pe_int) (pa_cons (pe_tup (pa_cons (pe_tup (pa_cons pe_int (pa_cons (pv 5) pa_nil))) pa_nil)) (pa_cons (pe_tup pa_nil) pa_nil))))))
        (pss_cons (ps_set (i := 10) sc_law.nd rfl (Or.inl rfl) (pe_meth (pv 2) T.C_Disk T.m_Disk_issue (ok_Disk_issue T) (hr.mono (by decide)) T.b_Disk_issue .nil pass0 (pa_cons (pe_tup (pa_cons pe_str (pa_cons (pv 5) pa_nil))) (pa_cons (pv 8) pa_nil))))
        (pss_cons (ps_if (pt_not (pt_val (pe_call (ok_law_agrees T) (hr.mono (by decide)) rfl T.m_law_agrees T.F_law_agrees.kp T.b_law_agrees .nil pass0 (pa_cons (pv 2) (pa_cons (pv 4) (pa_cons (pv 3) pa_nil)))))) (pss_one (ps_ret pe_bl)) pss_nil)
        (pss_cons (ps_expr (pe_meth (pv 2) T.C_Disk T.m_Disk_sure (ok_Disk_sure T) (hr.mono (by decide)) T.b_Disk_sure .nil pass0 (pa_cons (pv 10) pa_nil)))
        (pss_cons (ps_asg (pv 8) (pg_sub (pv 4) (pv 5) set_list))
        (pss_cons (ps_if (PW.pt (pw_or (pt_not (pt_val (pe_call (ok_law_agrees T) (hr.mono (by decide)) rfl T.m_law_agrees T.F_law_agrees.kp T.b_law_agrees .nil pass0 (pa_cons (pv 2) (pa_cons (pv 4) (pa_cons (pv 3) pa_nil)))))) (pw_or1 (pt_cmpR op_lt (pe_callB call_len_seq (by rfl) T.n_len (by decide +kernel) (pa_cons (pe_call (ok_found_marks T) (hr.mono (by decide)) rfl T.m_found_marks T.F_found_marks.kp T.b_found_marks .nil pass0 (pa_cons (pv 2) pa_nil)) pa_nil)) pe_int (nomark _))))) (pss_one (ps_ret pe_bl)) pss_nil)
        (pss_cons (ps_expr (pe_meth (pv 2) T.C_Disk T.m_Disk_move_head (ok_Disk_move_head T) (hr.mono (by decide)) T.b_Disk_move_head .nil pass0 (pa_cons (pe_op op_add (pv 3) pe_int) pa_nil)))
        (pss_one (ps_ret (pe_call (ok_law_agrees T) (hr.mono (by decide)) rfl T.m_law_agrees T.F_law_agrees.kp T.b_law_agrees .nil pass0 (pa_cons (pv 2) (pa_cons (pv 4) (pa_cons (pe_op op_add (pv 3) pe_int) pa_nil))))))))))))))))))))))), ?_⟩
    refine ⟨_, rfl, a, ns, rfl, hS, hl, fun H1 p fs1 f1 np h1 hf1 => ?_⟩
    refine ⟨rfl, rfl, fun pl dp npl ndp nex => ?_⟩
    generalize hHp : upd (upd H1 dp _) pl _ = H2
    have f2 : Fr [] H1 H2 := by
      rw [← hHp]
      exact (Fr.new ndp).up0 (Fr.new (by rw [upd_ne nex.symm]; exact npl))
    have g2 : H2 pl = some (.ins T.c_Plan dp []) := by rw [← hHp]; exact upd_same
    refine ⟨pl, dp, 24, 5, 30, rfl, g2, by decide, by decide, by decide, by decide, by decide, by decide, by decide, fun H3 f3 P3 => ⟨rfl, ?_⟩⟩
    have h3 := f3.get1 (f2.get0 h1) (ne_of_none h1 npl)
    intro dk dxk nk ndk nex2
    generalize hHk : upd (upd H3 dxk _) dk _ = H4
    have f4 : Fr [] H3 H4 := by
      rw [← hHk]
      exact (Fr.new ndk).up0 (Fr.new (by rw [upd_ne nex2.symm]; exact nk))
    have g4 : H4 dk = some (.ins T.c_Disk dxk []) := by rw [← hHk]; exact upd_same
    have P4 : PlanAt T H4 pl 24 5 30 := by
      obtain ⟨q, hq⟩ := P3
      exact ⟨q, f4.get0 hq⟩
    have h4 := f4.get0 h3
    refine ⟨dk, dxk, pl, 24, 5, 30, rfl, g4, P4, by decide, by decide, by decide, by decide, fun H5 ho lg wr hs f5 o5 nho nlg nwr h5h p5h h5l h5w nehl => ⟨rfl, ?_⟩⟩
    have h5 := f5.get1 h4 (ne_of h4 g4 (by intro z; cases z))
    have d5 : DiskAt T H5 dk ⟨pl, ho, lg, wr⟩ (List.replicate 30 none) 0 0 [] := by
      refine ⟨⟨dxk, o5⟩, ?_, ⟨_, h5l, ?_⟩, h5w⟩
      · obtain ⟨q, hq⟩ := id P4
        exact ⟨q, f5.get1 hq (pl_ne g4 P4)⟩
      · have : ∀ n, Paired (OptRec K H5) (List.replicate n V.non) (List.replicate n none) := fun n => by
          induction n with
          | zero => exact .nil
          | succ n ih => exact .cons rfl ih
        exact this 30
    have nplg : lg ≠ p := (ne_of_none h4 nlg).symm
    generalize hA : (⟨pl, ho, lg, wr⟩ : DA) = A at d5
    have eA : A.lg = lg := by rw [← hA]
    have eW : A.wr = wr := by rw [← hA]

    refine ⟨_, rfl, p, fs1, 5, rfl, h5, hf1, by decide, fun H6 hd fs6 f6 h6 hf6 hd0 hd1 => ?_⟩
    have nlp : A.lg ≠ p := by rw [eA]; exact nplg
    have d6 := d5.frL f6 h5 nlp
    obtain ⟨⟨dx6, o6⟩, _⟩ := id d6
    refine ⟨_, rfl, dk, dx6, _, rfl, o6, no_Disk_move_head, _, rfl, dk, A, _, 0, 0, hd, [], rfl, d6, hd0, by omega, fun H7 f7 d7 ts7 => ?_⟩
    have h7 := f7.get1 h6 (ne_of h6 o6 (by intro z; cases z))
    refine ⟨30, rfl, by decide, by decide, fun l2 nl2 => lc_range (lo := 0) (n := 30) (fun i H3 => Fr [] H7 H3 ∧ i ≤ 30 ∧ H3 l2 = some (.lst (List.replicate i .non))) ?_ ?_ ?_⟩
    · exact ⟨Fr.new nl2, by decide, upd_same⟩
    · rintro i H3 hi ⟨f3, hi2, g3⟩
      refine ⟨rfl, _, g3, sz (by simp; omega), f3.up1 Fr.mut (.inr nl2), by omega, ?_⟩
      rw [upd_same, List.replicate_succ']
    rintro H8 ⟨f8, _, g8⟩
    have d8 := d7.fr0 f8
    have h8 := f8.get0 h7
    have npl2 : p ≠ l2 := ne_of_none h7 nl2
    have nlgl2 : A.lg ≠ l2 := by
      obtain ⟨vs, q, _⟩ := d7.lg
      exact ne_of_none q nl2
    have pr8 : Paired (OptRec K H8) (List.replicate 30 V.non) (List.replicate 30 none) := by
      have : ∀ n, Paired (OptRec K H8) (List.replicate n V.non) (List.replicate n none) := fun n => by
        induction n with
        | zero => exact .nil
        | succ n ih => exact .cons rfl ih
      exact this 30
    -- what stays at l2 and p over issue and sure
    have keep : ∀ {H H' : Hp} {x : Addr} {o : HO} {log : List (Option Rec)} {hd la : Int} {kvs : List (Key × V)}, DiskAt T H dk A log hd la kvs → Fr [dk, A.wr] H H' → H x = some o → (∃ xs, o = .lst xs) → H' x = some o := fun d f hx hk => by
      obtain ⟨xs, rfl⟩ := hk
      obtain ⟨⟨dx, h1⟩, _, _, h5⟩ := d
      exact f.get hx (by simp; exact ⟨ne_of hx h1 (by intro z; cases z), ne_of hx h5 (by intro z; cases z)⟩)
    have keep2 : ∀ {H H' : Hp} {x : Addr} {o : HO} {log : List (Option Rec)} {hd la : Int} {kvs : List (Key × V)}, DiskAt T H dk A log hd la kvs → Fr [A.wr, A.lg] H H' → H x = some o → (∃ xs, o = .lst xs) → x ≠ A.lg → H' x = some o := fun d f hx hk ne => by
      obtain ⟨xs, rfl⟩ := hk
      obtain ⟨⟨dx, h1⟩, _, _, h5⟩ := d
      exact f.get hx (by simp; exact ⟨ne_of hx h5 (by intro z; cases z), ne⟩)
    refine ⟨_, rfl, p, fs6, 15, rfl, h8, hf6, by decide, fun H9 n fs9 f9 h9 hf9 n0 n1 => ⟨n, rfl, by omega, by omega, for_range (n := n.toNat) (fun i σ H2 => ∃ (log : List (Option Rec)) (ws : List V) (fs : List Int) (la : Int) (x5 x6 x7 x8 : Option V), σ = [some (.ref a), some (.ref p), some (.ref dk), some (.int hd), some (.ref l2), x5, x6, x7, x8, none, none] ∧ DiskAt T H2 dk A log hd la [] ∧ H2 l2 = some (.lst ws) ∧ Paired (OptRec K H2) ws log ∧ log.length = 30 ∧ H2 p = some (.lst (fs.map V.int)) ∧ Feed fs ∧ somes log ≤ i) ?_ ?_ ?_⟩⟩
    · refine ⟨_, _, fs9, _, none, none, none, none, rfl, d8.frL f9 h8 nlp, f9.get1 g8 npl2.symm, Paired.mapP pr8 fun _ _ q => q.ts (f9.ts1 h8 rfl), by simp, h9, hf9, by decide⟩
    · rintro i σ H2 hi ⟨log, ws, fs, la, x5, x6, x7, x8, rfl, d2, g2, pr2, hlen, h2, hf2, hso⟩
      refine ⟨_, rfl, p, fs, 30, rfl, h2, hf2, by decide, fun H3 sl fs3 f3 h3 hf3 s0 s1 => ?_⟩
      refine ⟨_, rfl, _, rfl, p, fs3, 6, rfl, h3, hf3, by decide, fun H4 m fs4 f4 h4 hf4 m0 m1 => ⟨_, _, rfl, rfl, _, _, rfl, ?_⟩⟩
      have lot1 : 1 ≤ (if hd + m > 1 then hd + m else 1) ∧ (if hd + m > 1 then hd + m else 1) ≤ 999999 := by split <;> omega
      generalize (if hd + m > 1 then hd + m else 1) = lot at lot1
      refine ⟨_, rfl, _, rfl, p, fs4, lot, rfl, h4, hf4, lot1.1, lot1.2, fun H5 v r fs5 f5 h5 hf5 hrec hok => ?_⟩
      have d5 := ((d2.frL f3 h2 nlp).frL f4 h3 nlp).frL f5 h4 nlp
      have g5 := f5.get1 (f4.get1 (f3.get1 g2 npl2.symm) npl2.symm) npl2.symm
      have pr5 := Paired.mapP pr2 fun _ _ q => OptRec.ts (((f3.ts1 (K := K) h2 rfl).trans (f4.ts1 h3 rfl)).trans (f5.ts1 h4 rfl)) q
      obtain ⟨⟨dx5, o5⟩, _⟩ := id d5
      refine ⟨_, rfl, dk, dx5, _, rfl, o5, no_Disk_sure, _, rfl, dk, dx5, _, rfl, o5, no_Disk_issue, _, rfl, (by show 2 ≤ sizeLine; decide), fun t nt => ?_⟩
      generalize hH6 : upd H5 t _ = H6
      obtain ⟨f6, g6⟩ := gen_new nt hH6
      have d6 := d5.fr0 f6
      refine ⟨_, rfl, dk, t, v, A, log, hd, la, sl, r, rfl, d6, sqt g6, s0, s1, hrec.ts f6.ts0, hok, fun H7 t2 f7 st7 d7 ts7 => ?_⟩
      refine ⟨dk, t, t2, v, A, log, hd, la + 1, sl, la + 1, r, rfl, d7, st7, ts7 _ _ (sqt g6), s0, by omega, (hrec.ts f6.ts0).ts ts7, fun H8 f8 d8 ts8 => ?_⟩
      have g8 := keep2 d7 f8 (keep d6 f7 (f6.get0 g5) ⟨_, rfl⟩) ⟨_, rfl⟩ nlgl2.symm
      have h8 := keep2 d7 f8 (keep d6 f7 (f6.get0 h5) ⟨_, rfl⟩) ⟨_, rfl⟩ nlp.symm
      have ts58 : TS K H5 H8 := (f6.ts0.trans ts7).trans ts8
      have pr8 := Paired.mapP pr5 fun _ _ q => OptRec.ts ts58 q
      have wl := pr8.length
      refine ⟨_, rfl, _, rfl, _, rfl, l2, ws, sl, sl.toNat, rfl, rfl, g8, by unfold ixN; rw [if_pos s0, if_pos (by omega)], ?_⟩
      generalize hH9 : upd H8 l2 _ = H9
      obtain ⟨f9, g9⟩ := gen_upd hH9
      have ts9 : TS K H8 H9 := f9.ts1 g8 rfl
      have d9 := d8.frL f9 g8 nlgl2
      have pr9 : Paired (OptRec K H9) (ws.set sl.toNat v) (log.set sl.toNat (some r)) := paired_set (Paired.mapP pr8 fun _ _ q => OptRec.ts ts9 q) (RecAt.ts ts9 (hrec.ts ts58))
      have h9 := f9.get1 h8 npl2
      refine ⟨_, rfl, _, rfl, _, rfl, dk, l2, A, _, _, hd, _, [], rfl, d9, g9, pr9, by simp [hlen], fun Ha fa => ⟨_, rfl, iteF ?_⟩⟩
      exact ⟨_, _, fs5, _, _, _, _, _, rfl, d9.fr0 fa, fa.get0 g9, Paired.mapP pr9 fun _ _ q => OptRec.ts fa.ts0 q, by simp [hlen], fa.get0 h9, hf5, by have := somes_set log sl.toNat r; omega⟩
    · rintro σ H2 ⟨log, ws, fs, la, x5, x6, x7, x8, rfl, d2, g2, pr2, hlen, h2, hf2, hso⟩
      refine ⟨_, rfl, _, rfl, _, rfl, dk, l2, A, ws, log, hd, la, [], rfl, d2, g2, pr2, hlen, fun H3 f3 => ⟨_, rfl, iteF ?_⟩⟩
      have d3 := d2.fr0 f3
      have g3 := f3.get0 g2
      have h3 := f3.get0 h2
      have pr3 := Paired.mapP pr2 fun _ _ q => OptRec.ts (K := K) f3.ts0 q
      have wl := pr3.length
      refine ⟨30, rfl, by decide, by decide, fun fr nfr => lc_range (lo := 0) (n := 30) (fun i H4 => Fr [] H3 H4 ∧ ∃ sl : List Nat, H4 fr = some (.lst (sl.map fun (x : Nat) => V.int (x : Nat))) ∧ sl.length ≤ i ∧ i ≤ 30 ∧ (∀ j ∈ sl, log[j]? = some none) ∧ ∀ j, j < i → log[j]? = some none → j ∈ sl) ?_ ?_ ?_⟩
      · exact ⟨Fr.new nfr, [], upd_same, by decide, by decide, by simp, fun j h => absurd h (by omega)⟩
      · rintro i H4 hi ⟨f4, sl, g4, hsl, hi2, ha, hb⟩
        obtain ⟨o, ho⟩ : ∃ o, log[i]? = some o := ⟨log[i]'(by omega), List.getElem?_eq_getElem (by omega)⟩
        obtain ⟨v, hv, hor⟩ := paired_get' pr3 ho
        refine ⟨rfl, _, rfl, _, rfl, l2, ws, _, v, rfl, rfl, sq (f4.get0 g3), at_z hv, rfl, _, rfl, ?_⟩
        cases o with
        | none =>
          cases (show v = .non from hor)
          refine iteT ⟨_, rfl, _, g4, sz (by simp; omega), f4.up1 Fr.mut (.inr nfr), sl ++ [i], ?_, by simp; omega, by omega, ?_, ?_⟩
          · rw [upd_same]
            simp
          · intro j hj
            rcases List.mem_append.mp hj with q | q
            · exact ha j q
            · rw [List.mem_singleton.mp q]
              exact ho
          · intro j hj hq
            by_cases e : j = i
            · subst e
              simp
            · exact List.mem_append.mpr (.inl (hb j (by omega) hq))
        | some r =>
          obtain ⟨q, s, l, x, y, rfl, _⟩ := mk_head hor
          refine iteF ⟨f4, sl, g4, by omega, by omega, ha, ?_⟩
          intro j hj hq
          by_cases e : j = i
          · subst e
            rw [ho] at hq
            cases hq
          · exact hb j (by omega) hq
      rintro H4 ⟨f4, sl, g4, hsl, _, ha, hb⟩
      obtain ⟨jn, hjn⟩ := some_none log (by omega)
      have hmem := hb jn (by have := getq_lt hjn; omega) hjn
      obtain ⟨j0, rest, rfl⟩ : ∃ j0 rest, sl = j0 :: rest := by
        cases sl with
        | nil => exact absurd hmem (by simp)
        | cons x r => exact ⟨x, r, rfl⟩
      have d4 := d3.fr0 f4
      have g4l := f4.get0 g3
      have h4 := f4.get0 h3
      have pr4 := Paired.mapP pr3 fun _ _ q => OptRec.ts (K := K) f4.ts0 q
      refine ⟨_, rfl, fr, _, 0, _, rfl, rfl, sq g4, atI_nat (j := 0) rfl, ?_⟩
      refine ⟨fun σ H5 => ∃ (j : Nat) (fs : List Int), σ = [some (.ref a), some (.ref p), some (.ref dk), some (.int hd), some (.ref l2), some (.int (j : Nat)), x6, x7, x8, some (.ref fr), none] ∧ log[j]? = some none ∧ DiskAt T H5 dk A log hd la [] ∧ H5 l2 = some (.lst ws) ∧ Paired (OptRec K H5) ws log ∧ H5 p = some (.lst (fs.map V.int)) ∧ Feed fs, ?_, ?_⟩
      · refine ⟨_, rfl, p, fs, 2, rfl, h4, hf2, by decide, fun H5 b fs5 f5 h5 hf5 b0 b1 => ⟨rfl, _, rfl, ?_⟩⟩
        have d5 := d4.frL f5 h4 nlp
        have g5 := f5.get1 g4l npl2.symm
        have pr5 := Paired.mapP pr4 fun _ _ q => OptRec.ts (f5.ts1 (K := K) h4 rfl) q
        have nfp : fr ≠ p := (ne_of_none h3 nfr).symm
        refine ite2 (fun c => ?_) (fun c => ?_)
        · have hlast : atI ((j0 :: rest).map fun (x : Nat) => V.int (x : Nat)) (-1) = some (V.int (((j0 :: rest).getLast (by simp) : Nat) : Int)) := by
            unfold atI ixN
            rw [if_neg (by decide), if_pos (by simp; omega)]
            simp only [Option.bind_some]
            rw [List.getElem?_map]
            have : (-1 + (((j0 :: rest).map fun (x : Nat) => V.int (x : Nat)).length : Int)).toNat = (j0 :: rest).length - 1 := by simp; omega
            rw [this, ← List.getLast?_eq_getElem?, List.getLast?_eq_getLast (by simp)]
            rfl
          refine ⟨_, rfl, _, rfl, fr, _, _, _, rfl, rfl, sq (f5.get1 g4 nfp), hlast, ?_⟩
          exact ⟨_, fs5, rfl, ha _ (List.getLast_mem (by simp)), d5, g5, pr5, h5, hf5⟩
        · exact ⟨j0, fs5, rfl, ha _ List.mem_cons_self, d5, g5, pr5, h5, hf5⟩
      · rintro σ H5 ⟨j, fs5, rfl, hj, d5, g5, pr5, h5, hf5⟩
        have hjl := getq_lt hj
        refine ⟨_, rfl, _, rfl, _, rfl, l2, ws, log, hd, rfl, g5, pr5, hlen, fun H6 q vs D f6 nq g6 hF hM => ⟨q, _, rfl, .inl (sq g6), _, _, rfl, rfl, _, _, rfl, rfl, _, rfl, (by show 2 ≤ sizeLine; decide), fun t1 n1 => ?_⟩⟩
        have hD30 : D.length ≤ 30 := by
          have : ∀ k, k ≤ D.length → cnt (hd + k + 1) log + k ≤ log.length := by
            intro k
            induction k with
            | zero => intro _; exact cnt_le _ _
            | succ k ih =>
              intro hk
              have i1 := ih (by omega)
              have i2 := cnt_lt (hM.1 k _ (List.getElem?_eq_getElem (by omega)))
              rw [show hd + ((k + 1 : Nat) : Int) + 1 = hd + k + 1 + 1 by omega]
              omega
          have := this D.length (Nat.le_refl _)
          omega
        have hvD := hF.length
        generalize hH7 : upd H6 t1 _ = H7
        obtain ⟨f7, g7⟩ := gen_new n1 hH7
        refine ⟨(by show 1 ≤ sizeLine; decide), fun t2 n2 => ?_⟩
        generalize hH8 : upd H7 t2 _ = H8
        obtain ⟨f8, g8⟩ := gen_new n2 hH8
        refine ⟨(by show 0 ≤ sizeLine; decide), fun t3 n3 => ?_⟩
        generalize hH9 : upd H8 t3 _ = H9
        obtain ⟨f9, g9⟩ := gen_new n3 hH9
        refine ⟨(by show 4 ≤ sizeLine; decide), fun t4 n4 => ?_⟩
        generalize hHa : upd H9 t4 _ = Ha
        obtain ⟨fa, ga⟩ := gen_new n4 hHa
        have f5a : Fr [] H5 Ha := (((f6.up0 f7).up0 f8).up0 f9).up0 fa
        have da := d5.fr0 f5a
        have hra : RecAt K Ha (.ref t4) (.mark (hd + D.length + 1) [(12, (j : Int))] []) := by
          rw [← hvD]
          exact ⟨t4, t2, t3, _, rfl, sqt ga, sqt (fa.get0 (f9.get0 g8)), .cons ⟨t1, rfl, sqt (fa.get0 (f9.get0 (f8.get0 g7)))⟩ .nil, sqt (fa.get0 g9)⟩
        have hok : okR (.mark (hd + D.length + 1) [(12, (j : Int))] []) := by
          refine ⟨?_, ?_, fun _ _ _ e => by cases e; simp⟩
          · simp [recOk, cpsOk, asc, win]
            omega
          · simp [fits]
            omega
        obtain ⟨⟨dxa, oa⟩, _⟩ := id da
        refine ⟨_, rfl, dk, dxa, _, rfl, oa, no_Disk_issue, _, rfl, (by show 2 ≤ sizeLine; decide), fun tp ntp => ?_⟩
        generalize hHb : upd Ha tp _ = Hb
        obtain ⟨fb, gb⟩ := gen_new ntp hHb
        have db := da.fr0 fb
        have f5b := f5a.up0 fb
        refine ⟨_, rfl, dk, tp, _, A, log, hd, la, (j : Int), _, rfl, db, sqt gb, by omega, by omega, hra.ts fb.ts0, hok, fun Hc tw fc stc dc tsc => ?_⟩
        have gc := keep db fc (f5b.get0 g5) ⟨_, rfl⟩
        have hc := keep db fc (f5b.get0 h5) ⟨_, rfl⟩
        have prc := Paired.mapP pr5 fun _ _ q => OptRec.ts (f5b.ts0.trans tsc) q
        refine ⟨_, rfl, _, rfl, _, rfl, dk, l2, A, ws, log, hd, _, _, rfl, dc, gc, prc, hlen, fun Hd fd => ⟨_, rfl, iteF ?_⟩⟩
        have dd := dc.fr0 fd
        have rD : RecAt K Hd (.ref t4) (.mark (hd + D.length + 1) [(12, (j : Int))] []) := ((hra.ts fb.ts0).ts tsc).ts fd.ts0
        obtain ⟨⟨dxd, od⟩, _⟩ := id dd
        refine ⟨_, rfl, dk, dxd, _, rfl, od, no_Disk_sure, _, rfl, dk, tp, tw, _, A, log, hd, la + 1, (j : Int), la + 1, _, rfl, dd, fd.tup0 stc, fd.tup0 (tsc _ _ (sqt gb)), by omega, by omega, rD, fun He fe de tse => ?_⟩
        have ge := keep2 dd fe (fd.get0 gc) ⟨_, rfl⟩ nlgl2.symm
        have pre := Paired.mapP prc fun _ _ q => OptRec.ts (fd.ts0.trans tse) q
        have wl2 := pre.length
        refine ⟨_, rfl, _, rfl, _, rfl, l2, ws, _, j, rfl, rfl, ge, by unfold ixN; rw [if_pos (by omega), if_pos (by omega)]; simp, ?_⟩
        generalize hHf : upd He l2 _ = Hf
        obtain ⟨ff, gf⟩ := gen_upd hHf
        have tsf : TS K He Hf := ff.ts1 ge rfl
        have df := de.frL ff ge nlgl2
        rw [Int.toNat_natCast] at df
        have prf : Paired (OptRec K Hf) (ws.set j (.ref t4)) (log.set j (some (.mark (hd + D.length + 1) [(12, (j : Int))] []))) := paired_set (Paired.mapP pre fun _ _ q => OptRec.ts tsf q) (RecAt.ts tsf (rD.ts tse))
        refine ⟨_, rfl, _, rfl, _, rfl, dk, l2, A, _, _, hd, _, [], rfl, df, gf, prf, by simp [hlen], fun Hg fg => ⟨_, rfl, iteF ?_⟩⟩
        have dg := df.fr0 fg
        refine ⟨_, rfl, dk, A, _, hd, _, [], rfl, dg, by simp [hlen], fun Hh q2 vs2 D2 fh nq2 gh hF2 hM2 => ⟨q2, _, rfl, .inl (sq gh), _, _, rfl, rfl, _, rfl, ?_⟩⟩
        have hne := marks_ne hM hj hM2
        have hl2 := hF2.length
        have hpos : 0 < D2.length := by
          cases D2 with
          | nil => exact absurd rfl hne
          | cons x r => simp
        refine iteF' (decide_eq_false (by omega)) ?_
        have dh := dg.fr0 fh
        obtain ⟨⟨dxh, oh⟩, _⟩ := id dh
        refine ⟨_, rfl, dk, dxh, _, rfl, oh, no_Disk_move_head, _, rfl, _, _, rfl, rfl, dk, A, _, hd, _, hd + 1, [], rfl, dh, by omega, by omega, fun Hi fi di tsi => ?_⟩
        have gi := fi.get1 (fh.get0 (fg.get0 gf)) (ne_of (fh.get0 (fg.get0 gf)) oh (by intro z; cases z))
        have pri := Paired.mapP prf fun _ _ q => OptRec.ts ((fg.ts0.trans fh.ts0).trans tsi) q
        exact ⟨_, rfl, _, rfl, _, rfl, _, _, rfl, rfl, dk, l2, A, _, _, hd + 1, _, [], rfl, di, gi, pri, by simp [hlen], fun Hj _ => k Hj⟩
end
theorem Vals.app {vs zs : List V} {us ws : List Value} (h : Vals vs us) (k : Vals zs ws) : Vals (vs ++ zs) (us ++ ws) := by
  induction h with
  | nil => exact k
  | cons r _ ih => exact .cons r ih
theorem fun_kbn {K : PySem.W.Frag} {x qual : Str} {st : Stmt} {f : Addr} {fd : FuncData} {ps ks : List Str} {n : Nat} (F : Fun K x qual st f fd)
    (h : ∀ (kV doc pm : Value) (an : Option Addr) (cdv ct : Value) (us ws : List Value), us.length = n → ws.length = ks.length → bindArgs (PySem.W.fnOf x qual (defArgs st) (defBody st) (defScope st) .none kV doc pm an cdv ct) ⟨us, ks.zip ws⟩ = pure (ps.zip (us ++ ws))) :
    KBn K fd ps n ks (fun us ws => us ++ ws) (fun vs zs => vs ++ zs) := by
  obtain ⟨oc, od, kV, doc, pm, an, cdv, ct, osl, rfl, lk, hcd⟩ := F.ex
  exact ⟨fun s us ws _ l1 l2 => .of_eq (h kV doc pm an cdv ct us ws l1 l2), fun r1 r2 => Vals.app r1 r2⟩
theorem txt_mk {K : PySem.W.Frag} {h : Heap} {mg : Str → Option Value} (X : K.In h) (G : h.Ns mainGlobals mg)
    {c_Disk : Addr}
    {c_Plan : Addr}
    {f0 : Addr} {od0 an0 : Option Addr} {sl0 : Array (Option Value)} {oc0 kV0 dc0 pm0 cd0 ct0 : Value}
    {f1 : Addr} {od1 an1 : Option Addr} {sl1 : Array (Option Value)} {oc1 kV1 dc1 pm1 cd1 ct1 : Value}
    {f2 : Addr} {od2 an2 : Option Addr} {sl2 : Array (Option Value)} {oc2 kV2 dc2 pm2 cd2 ct2 : Value}
    {f3 : Addr} {od3 an3 : Option Addr} {sl3 : Array (Option Value)} {oc3 kV3 dc3 pm3 cd3 ct3 : Value}
    {f4 : Addr} {od4 an4 : Option Addr} {sl4 : Array (Option Value)} {oc4 kV4 dc4 pm4 cd4 ct4 : Value}
    {f5 : Addr} {od5 an5 : Option Addr} {sl5 : Array (Option Value)} {oc5 kV5 dc5 pm5 cd5 ct5 : Value}
    {f6 : Addr} {od6 an6 : Option Addr} {sl6 : Array (Option Value)} {oc6 kV6 dc6 pm6 cd6 ct6 : Value}
    {f7 : Addr} {od7 an7 : Option Addr} {sl7 : Array (Option Value)} {oc7 kV7 dc7 pm7 cd7 ct7 : Value}
    {f8 : Addr} {od8 an8 : Option Addr} {sl8 : Array (Option Value)} {oc8 kV8 dc8 pm8 cd8 ct8 : Value}
    {f9 : Addr} {od9 an9 : Option Addr} {sl9 : Array (Option Value)} {oc9 kV9 dc9 pm9 cd9 ct9 : Value}
    {f10 : Addr} {od10 an10 : Option Addr} {sl10 : Array (Option Value)} {oc10 kV10 dc10 pm10 cd10 ct10 : Value}
    {f11 : Addr} {od11 an11 : Option Addr} {sl11 : Array (Option Value)} {oc11 kV11 dc11 pm11 cd11 ct11 : Value}
    {f12 : Addr} {od12 an12 : Option Addr} {sl12 : Array (Option Value)} {oc12 kV12 dc12 pm12 cd12 ct12 : Value}
    {f13 : Addr} {od13 an13 : Option Addr} {sl13 : Array (Option Value)} {oc13 kV13 dc13 pm13 cd13 ct13 : Value}
    {f14 : Addr} {od14 an14 : Option Addr} {sl14 : Array (Option Value)} {oc14 kV14 dc14 pm14 cd14 ct14 : Value}
    {f15 : Addr} {od15 an15 : Option Addr} {sl15 : Array (Option Value)} {oc15 kV15 dc15 pm15 cd15 ct15 : Value}
    {f16 : Addr} {od16 an16 : Option Addr} {sl16 : Array (Option Value)} {oc16 kV16 dc16 pm16 cd16 ct16 : Value}
    {f17 : Addr} {od17 an17 : Option Addr} {sl17 : Array (Option Value)} {oc17 kV17 dc17 pm17 cd17 ct17 : Value}
    {f18 : Addr} {od18 an18 : Option Addr} {sl18 : Array (Option Value)} {oc18 kV18 dc18 pm18 cd18 ct18 : Value}
    {f19 : Addr} {od19 an19 : Option Addr} {sl19 : Array (Option Value)} {oc19 kV19 dc19 pm19 cd19 ct19 : Value}
    {f20 : Addr} {od20 an20 : Option Addr} {sl20 : Array (Option Value)} {oc20 kV20 dc20 pm20 cd20 ct20 : Value}
    {f21 : Addr} {od21 an21 : Option Addr} {sl21 : Array (Option Value)} {oc21 kV21 dc21 pm21 cd21 ct21 : Value}
    {f22 : Addr} {od22 an22 : Option Addr} {sl22 : Array (Option Value)} {oc22 kV22 dc22 pm22 cd22 ct22 : Value}
    {f23 : Addr} {od23 an23 : Option Addr} {sl23 : Array (Option Value)} {oc23 kV23 dc23 pm23 cd23 ct23 : Value}
    {t_MOST_CELL : Tok}
    {t_MOST_LOT : Tok}
    {t_LAST_BLOCK : Tok}
    {t_LAST_SLOT : Tok}
    {t_NO_SLOT : Tok}
    (aC_Disk : PySem.W.nsIn K mainGlobals "Disk" = some (some (.ref c_Disk)))
    (pg_Disk : PySem.W.plainGet K c_Disk Str.empty = true)
    (hd_Disk : PySem.W.hasDictIn K c_Disk = true)
    (po_Disk : PySem.W.plainOver K c_Disk = true)
    (sa_Disk : PySem.W.findIn K (.ref c_Disk) "__setattr__" = some (some (.builtin "object.__setattr__")))
    (mk_Disk : PySem.W.makesIn K c_Disk = true)
    (kc_Disk : PySem.W.keepIn K (.ref c_Disk) = true)
    (nf_Disk_plan : PySem.W.findIn K (.ref c_Disk) "plan" = some none)
    (nf_Disk_home : PySem.W.findIn K (.ref c_Disk) "home" = some none)
    (nf_Disk_log : PySem.W.findIn K (.ref c_Disk) "log" = some none)
    (nf_Disk_head : PySem.W.findIn K (.ref c_Disk) "head" = some none)
    (nf_Disk_last : PySem.W.findIn K (.ref c_Disk) "last" = some none)
    (nf_Disk_writes : PySem.W.findIn K (.ref c_Disk) "_writes" = some none)
    (aC_Plan : PySem.W.nsIn K mainGlobals "Plan" = some (some (.ref c_Plan)))
    (pg_Plan : PySem.W.plainGet K c_Plan Str.empty = true)
    (hd_Plan : PySem.W.hasDictIn K c_Plan = true)
    (po_Plan : PySem.W.plainOver K c_Plan = true)
    (sa_Plan : PySem.W.findIn K (.ref c_Plan) "__setattr__" = some (some (.builtin "object.__setattr__")))
    (mk_Plan : PySem.W.makesIn K c_Plan = true)
    (kc_Plan : PySem.W.keepIn K (.ref c_Plan) = true)
    (nf_Plan_blocks : PySem.W.findIn K (.ref c_Plan) "blocks" = some none)
    (nf_Plan_nodes : PySem.W.findIn K (.ref c_Plan) "nodes" = some none)
    (nf_Plan_slots : PySem.W.findIn K (.ref c_Plan) "slots" = some none)
    (nf_Plan_maps : PySem.W.findIn K (.ref c_Plan) "maps" = some none)
    (nf_Plan_first_node : PySem.W.findIn K (.ref c_Plan) "first_node" = some none)
    (nf_Plan_first_data : PySem.W.findIn K (.ref c_Plan) "first_data" = some none)
    (a0 : PySem.W.nsIn K mainGlobals "find_mark" = some (some (.ref f0)))
    (l0 : K.lookup f0 = some ⟨oc0, od0, .func (PySem.W.fnOf "find_mark" "find_mark" (defArgs s_find_mark) (defBody s_find_mark) (defScope s_find_mark) .none kV0 dc0 pm0 an0 cd0 ct0), sl0⟩)
    (c0 : PySem.W.codeIn K cd0 "find_mark" = true)
    (k0 : PySem.W.keepIn K (.ref f0) = true)
    (a1 : PySem.W.nsIn K mainGlobals "found_marks" = some (some (.ref f1)))
    (l1 : K.lookup f1 = some ⟨oc1, od1, .func (PySem.W.fnOf "found_marks" "found_marks" (defArgs s_found_marks) (defBody s_found_marks) (defScope s_found_marks) .none kV1 dc1 pm1 an1 cd1 ct1), sl1⟩)
    (c1 : PySem.W.codeIn K cd1 "found_marks" = true)
    (k1 : PySem.W.keepIn K (.ref f1) = true)
    (a2 : PySem.W.nsIn K mainGlobals "is_within" = some (some (.ref f2)))
    (l2 : K.lookup f2 = some ⟨oc2, od2, .func (PySem.W.fnOf "is_within" "is_within" (defArgs s_is_within) (defBody s_is_within) (defScope s_is_within) .none kV2 dc2 pm2 an2 cd2 ct2), sl2⟩)
    (c2 : PySem.W.codeIn K cd2 "is_within" = true)
    (k2 : PySem.W.keepIn K (.ref f2) = true)
    (a3 : PySem.W.nsIn K mainGlobals "is_row_of_cells" = some (some (.ref f3)))
    (l3 : K.lookup f3 = some ⟨oc3, od3, .func (PySem.W.fnOf "is_row_of_cells" "is_row_of_cells" (defArgs s_is_row_of_cells) (defBody s_is_row_of_cells) (defScope s_is_row_of_cells) .none kV3 dc3 pm3 an3 cd3 ct3), sl3⟩)
    (c3 : PySem.W.codeIn K cd3 "is_row_of_cells" = true)
    (k3 : PySem.W.keepIn K (.ref f3) = true)
    (a4 : PySem.W.nsIn K mainGlobals "are_blocks" = some (some (.ref f4)))
    (l4 : K.lookup f4 = some ⟨oc4, od4, .func (PySem.W.fnOf "are_blocks" "are_blocks" (defArgs s_are_blocks) (defBody s_are_blocks) (defScope s_are_blocks) .none kV4 dc4 pm4 an4 cd4 ct4), sl4⟩)
    (c4 : PySem.W.codeIn K cd4 "are_blocks" = true)
    (k4 : PySem.W.keepIn K (.ref f4) = true)
    (a5 : PySem.W.nsIn K mainGlobals "are_copies" = some (some (.ref f5)))
    (l5 : K.lookup f5 = some ⟨oc5, od5, .func (PySem.W.fnOf "are_copies" "are_copies" (defArgs s_are_copies) (defBody s_are_copies) (defScope s_are_copies) .none kV5 dc5 pm5 an5 cd5 ct5), sl5⟩)
    (c5 : PySem.W.codeIn K cd5 "are_copies" = true)
    (k5 : PySem.W.keepIn K (.ref f5) = true)
    (a6 : PySem.W.nsIn K mainGlobals "check_record" = some (some (.ref f6)))
    (l6 : K.lookup f6 = some ⟨oc6, od6, .func (PySem.W.fnOf "check_record" "check_record" (defArgs s_check_record) (defBody s_check_record) (defScope s_check_record) .none kV6 dc6 pm6 an6 cd6 ct6), sl6⟩)
    (c6 : PySem.W.codeIn K cd6 "check_record" = true)
    (k6 : PySem.W.keepIn K (.ref f6) = true)
    (a7 : PySem.W.nsIn K mainGlobals "fits_plan" = some (some (.ref f7)))
    (l7 : K.lookup f7 = some ⟨oc7, od7, .func (PySem.W.fnOf "fits_plan" "fits_plan" (defArgs s_fits_plan) (defBody s_fits_plan) (defScope s_fits_plan) .none kV7 dc7 pm7 an7 cd7 ct7), sl7⟩)
    (c7 : PySem.W.codeIn K cd7 "fits_plan" = true)
    (k7 : PySem.W.keepIn K (.ref f7) = true)
    (a8 : PySem.W.nsIn K mainGlobals "is_place" = some (some (.ref f8)))
    (l8 : K.lookup f8 = some ⟨oc8, od8, .func (PySem.W.fnOf "is_place" "is_place" (defArgs s_is_place) (defBody s_is_place) (defScope s_is_place) .none kV8 dc8 pm8 an8 cd8 ct8), sl8⟩)
    (c8 : PySem.W.codeIn K cd8 "is_place" = true)
    (k8 : PySem.W.keepIn K (.ref f8) = true)
    (a9 : PySem.W.nsIn K mainGlobals "log_content" = some (some (.ref f9)))
    (l9 : K.lookup f9 = some ⟨oc9, od9, .func (PySem.W.fnOf "log_content" "log_content" (defArgs s_log_content) (defBody s_log_content) (defScope s_log_content) .none kV9 dc9 pm9 an9 cd9 ct9), sl9⟩)
    (c9 : PySem.W.codeIn K cd9 "log_content" = true)
    (k9 : PySem.W.keepIn K (.ref f9) = true)
    (a10 : PySem.W.nsIn K mainGlobals "_law_feed" = some (some (.ref f10)))
    (l10 : K.lookup f10 = some ⟨oc10, od10, .func (PySem.W.fnOf "_law_feed" "_law_feed" (defArgs s_law_feed) (defBody s_law_feed) (defScope s_law_feed) .none kV10 dc10 pm10 an10 cd10 ct10), sl10⟩)
    (c10 : PySem.W.codeIn K cd10 "_law_feed" = true)
    (k10 : PySem.W.keepIn K (.ref f10) = true)
    (a11 : PySem.W.nsIn K mainGlobals "_law_pick" = some (some (.ref f11)))
    (l11 : K.lookup f11 = some ⟨oc11, od11, .func (PySem.W.fnOf "_law_pick" "_law_pick" (defArgs s_law_pick) (defBody s_law_pick) (defScope s_law_pick) .none kV11 dc11 pm11 an11 cd11 ct11), sl11⟩)
    (c11 : PySem.W.codeIn K cd11 "_law_pick" = true)
    (k11 : PySem.W.keepIn K (.ref f11) = true)
    (a12 : PySem.W.nsIn K mainGlobals "_law_record" = some (some (.ref f12)))
    (l12 : K.lookup f12 = some ⟨oc12, od12, .func (PySem.W.fnOf "_law_record" "_law_record" (defArgs s_law_record) (defBody s_law_record) (defScope s_law_record) .none kV12 dc12 pm12 an12 cd12 ct12), sl12⟩)
    (c12 : PySem.W.codeIn K cd12 "_law_record" = true)
    (k12 : PySem.W.keepIn K (.ref f12) = true)
    (a13 : PySem.W.nsIn K mainGlobals "_law_due" = some (some (.ref f13)))
    (l13 : K.lookup f13 = some ⟨oc13, od13, .func (PySem.W.fnOf "_law_due" "_law_due" (defArgs s_law_due) (defBody s_law_due) (defScope s_law_due) .none kV13 dc13 pm13 an13 cd13 ct13), sl13⟩)
    (c13 : PySem.W.codeIn K cd13 "_law_due" = true)
    (k13 : PySem.W.keepIn K (.ref f13) = true)
    (a14 : PySem.W.nsIn K mainGlobals "_law_same" = some (some (.ref f14)))
    (l14 : K.lookup f14 = some ⟨oc14, od14, .func (PySem.W.fnOf "_law_same" "_law_same" (defArgs s_law_same) (defBody s_law_same) (defScope s_law_same) .none kV14 dc14 pm14 an14 cd14 ct14), sl14⟩)
    (c14 : PySem.W.codeIn K cd14 "_law_same" = true)
    (k14 : PySem.W.keepIn K (.ref f14) = true)
    (a15 : PySem.W.nsIn K mainGlobals "_law_agrees" = some (some (.ref f15)))
    (l15 : K.lookup f15 = some ⟨oc15, od15, .func (PySem.W.fnOf "_law_agrees" "_law_agrees" (defArgs s_law_agrees) (defBody s_law_agrees) (defScope s_law_agrees) .none kV15 dc15 pm15 an15 cd15 ct15), sl15⟩)
    (c15 : PySem.W.codeIn K cd15 "_law_agrees" = true)
    (k15 : PySem.W.keepIn K (.ref f15) = true)
    (a16 : PySem.W.nsIn K mainGlobals "law" = some (some (.ref f16)))
    (l16 : K.lookup f16 = some ⟨oc16, od16, .func (PySem.W.fnOf "law" "law" (defArgs s_law) (defBody s_law) (defScope s_law) .none kV16 dc16 pm16 an16 cd16 ct16), sl16⟩)
    (c16 : PySem.W.codeIn K cd16 "law" = true)
    (k16 : PySem.W.keepIn K (.ref f16) = true)
    (a17 : PySem.W.findIn K (.ref c_Disk) "__init__" = some (some (.ref f17)))
    (i17 : PySem.W.isFn K (.ref f17) = true)
    (l17 : K.lookup f17 = some ⟨oc17, od17, .func (PySem.W.fnOf "__init__" "Disk.__init__" (defArgs s_Disk_init) (defBody s_Disk_init) (defScope s_Disk_init) .none kV17 dc17 pm17 an17 cd17 ct17), sl17⟩)
    (c17 : PySem.W.codeIn K cd17 "Disk.__init__" = true)
    (k17 : PySem.W.keepIn K (.ref f17) = true)
    (a18 : PySem.W.findIn K (.ref c_Disk) "issue" = some (some (.ref f18)))
    (i18 : PySem.W.isFn K (.ref f18) = true)
    (l18 : K.lookup f18 = some ⟨oc18, od18, .func (PySem.W.fnOf "issue" "Disk.issue" (defArgs s_Disk_issue) (defBody s_Disk_issue) (defScope s_Disk_issue) .none kV18 dc18 pm18 an18 cd18 ct18), sl18⟩)
    (c18 : PySem.W.codeIn K cd18 "Disk.issue" = true)
    (k18 : PySem.W.keepIn K (.ref f18) = true)
    (a19 : PySem.W.findIn K (.ref c_Disk) "busy" = some (some (.ref f19)))
    (i19 : PySem.W.isFn K (.ref f19) = true)
    (l19 : K.lookup f19 = some ⟨oc19, od19, .func (PySem.W.fnOf "busy" "Disk.busy" (defArgs s_Disk_busy) (defBody s_Disk_busy) (defScope s_Disk_busy) .none kV19 dc19 pm19 an19 cd19 ct19), sl19⟩)
    (c19 : PySem.W.codeIn K cd19 "Disk.busy" = true)
    (k19 : PySem.W.keepIn K (.ref f19) = true)
    (a20 : PySem.W.findIn K (.ref c_Disk) "_put" = some (some (.ref f20)))
    (i20 : PySem.W.isFn K (.ref f20) = true)
    (l20 : K.lookup f20 = some ⟨oc20, od20, .func (PySem.W.fnOf "_put" "Disk._put" (defArgs s_Disk_put) (defBody s_Disk_put) (defScope s_Disk_put) .none kV20 dc20 pm20 an20 cd20 ct20), sl20⟩)
    (c20 : PySem.W.codeIn K cd20 "Disk._put" = true)
    (k20 : PySem.W.keepIn K (.ref f20) = true)
    (a21 : PySem.W.findIn K (.ref c_Disk) "sure" = some (some (.ref f21)))
    (i21 : PySem.W.isFn K (.ref f21) = true)
    (l21 : K.lookup f21 = some ⟨oc21, od21, .func (PySem.W.fnOf "sure" "Disk.sure" (defArgs s_Disk_sure) (defBody s_Disk_sure) (defScope s_Disk_sure) .none kV21 dc21 pm21 an21 cd21 ct21), sl21⟩)
    (c21 : PySem.W.codeIn K cd21 "Disk.sure" = true)
    (k21 : PySem.W.keepIn K (.ref f21) = true)
    (a22 : PySem.W.findIn K (.ref c_Disk) "move_head" = some (some (.ref f22)))
    (i22 : PySem.W.isFn K (.ref f22) = true)
    (l22 : K.lookup f22 = some ⟨oc22, od22, .func (PySem.W.fnOf "move_head" "Disk.move_head" (defArgs s_Disk_move_head) (defBody s_Disk_move_head) (defScope s_Disk_move_head) .none kV22 dc22 pm22 an22 cd22 ct22), sl22⟩)
    (c22 : PySem.W.codeIn K cd22 "Disk.move_head" = true)
    (k22 : PySem.W.keepIn K (.ref f22) = true)
    (a23 : PySem.W.findIn K (.ref c_Plan) "__init__" = some (some (.ref f23)))
    (i23 : PySem.W.isFn K (.ref f23) = true)
    (l23 : K.lookup f23 = some ⟨oc23, od23, .func (PySem.W.fnOf "__init__" "Plan.__init__" (defArgs s_Plan_init) (defBody s_Plan_init) (defScope s_Plan_init) .none kV23 dc23 pm23 an23 cd23 ct23), sl23⟩)
    (c23 : PySem.W.codeIn K cd23 "Plan.__init__" = true)
    (k23 : PySem.W.keepIn K (.ref f23) = true)
    (z_abs : PySem.W.nsIn K mainGlobals "abs" = some none)
    (z_all : PySem.W.nsIn K mainGlobals "all" = some none)
    (z_bool : PySem.W.nsIn K mainGlobals "bool" = some none)
    (z_enumerate : PySem.W.nsIn K mainGlobals "enumerate" = some none)
    (z_int : PySem.W.nsIn K mainGlobals "int" = some none)
    (z_isinstance : PySem.W.nsIn K mainGlobals "isinstance" = some none)
    (z_len : PySem.W.nsIn K mainGlobals "len" = some none)
    (z_list : PySem.W.nsIn K mainGlobals "list" = some none)
    (z_max : PySem.W.nsIn K mainGlobals "max" = some none)
    (z_range : PySem.W.nsIn K mainGlobals "range" = some none)
    (z_tuple : PySem.W.nsIn K mainGlobals "tuple" = some none)
    (q_MOST_CELL : PySem.W.nsIn K mainGlobals "MOST_CELL" = some (some (.int 999999999 t_MOST_CELL)))
    (q_MOST_LOT : PySem.W.nsIn K mainGlobals "MOST_LOT" = some (some (.int 999999 t_MOST_LOT)))
    (q_LAST_BLOCK : PySem.W.nsIn K mainGlobals "LAST_BLOCK" = some (some (.int 63 t_LAST_BLOCK)))
    (q_LAST_SLOT : PySem.W.nsIn K mainGlobals "LAST_SLOT" = some (some (.int 199 t_LAST_SLOT)))
    (q_NO_SLOT : PySem.W.nsIn K mainGlobals "NO_SLOT" = some (some (.int (-1) t_NO_SLOT)))
    : ∃ T : Txt K mg, mg "law" = some (.ref T.a_law) ∧ (∀ (s : Shared) (v : Value), BindsTo s T.fd_law ⟨[v], []⟩ [("_law_script", v)]) := by
  have F0 := fun_mk (st := s_find_mark) l0 c0 k0
  have b0 := F0.binds (ps := ["disk", "lot"]) fun _ _ _ _ _ _ us hl => match us, hl with | [_, _], _ => rfl
  have F1 := fun_mk (st := s_found_marks) l1 c1 k1
  have b1 := F1.binds (ps := ["disk"]) fun _ _ _ _ _ _ us hl => match us, hl with | [_], _ => rfl
  have F2 := fun_mk (st := s_is_within) l2 c2 k2
  have b2 := F2.binds (ps := ["part", "low", "high"]) fun _ _ _ _ _ _ us hl => match us, hl with | [_, _, _], _ => rfl
  have F3 := fun_mk (st := s_is_row_of_cells) l3 c3 k3
  have b3 := F3.binds (ps := ["part"]) fun _ _ _ _ _ _ us hl => match us, hl with | [_], _ => rfl
  have F4 := fun_mk (st := s_are_blocks) l4 c4 k4
  have b4 := F4.binds (ps := ["part"]) fun _ _ _ _ _ _ us hl => match us, hl with | [_], _ => rfl
  have F5 := fun_mk (st := s_are_copies) l5 c5 k5
  have b5 := F5.binds (ps := ["part"]) fun _ _ _ _ _ _ us hl => match us, hl with | [_], _ => rfl
  have F6 := fun_mk (st := s_check_record) l6 c6 k6
  have b6 := F6.binds (ps := ["record"]) fun _ _ _ _ _ _ us hl => match us, hl with | [_], _ => rfl
  have F7 := fun_mk (st := s_fits_plan) l7 c7 k7
  have b7 := F7.binds (ps := ["record", "plan"]) fun _ _ _ _ _ _ us hl => match us, hl with | [_, _], _ => rfl
  have F8 := fun_mk (st := s_is_place) l8 c8 k8
  have b8 := F8.binds (ps := ["place", "plan"]) fun _ _ _ _ _ _ us hl => match us, hl with | [_, _], _ => rfl
  have F9 := fun_mk (st := s_log_content) l9 c9 k9
  have b9 := F9.binds (ps := ["what", "plan"]) fun _ _ _ _ _ _ us hl => match us, hl with | [_, _], _ => rfl
  have F10 := fun_mk (st := s_law_feed) l10 c10 k10
  have b10 := F10.binds (ps := ["_law_script"]) fun _ _ _ _ _ _ us hl => match us, hl with | [_], _ => rfl
  have F11 := fun_mk (st := s_law_pick) l11 c11 k11
  have b11 := F11.binds (ps := ["_law_feed_here", "_law_limit"]) fun _ _ _ _ _ _ us hl => match us, hl with | [_, _], _ => rfl
  have F12 := fun_mk (st := s_law_record) l12 c12 k12
  have b12 := F12.binds (ps := ["_law_feed_here", "_law_lot"]) fun _ _ _ _ _ _ us hl => match us, hl with | [_, _], _ => rfl
  have F13 := fun_mk (st := s_law_due) l13 c13 k13
  have b13 := F13.binds (ps := ["_law_log", "_law_head"]) fun _ _ _ _ _ _ us hl => match us, hl with | [_, _], _ => rfl
  have F14 := fun_mk (st := s_law_same) l14 c14 k14
  have b14 := F14.binds (ps := ["_law_found", "_law_due_here"]) fun _ _ _ _ _ _ us hl => match us, hl with | [_, _], _ => rfl
  have F15 := fun_mk (st := s_law_agrees) l15 c15 k15
  have b15 := F15.binds (ps := ["_law_disk", "_law_log", "_law_head"]) fun _ _ _ _ _ _ us hl => match us, hl with | [_, _, _], _ => rfl
  have F16 := fun_mk (st := s_law) l16 c16 k16
  have b16 := F16.binds (ps := ["_law_script"]) fun _ _ _ _ _ _ us hl => match us, hl with | [_], _ => rfl
  have F17 := fun_mk (st := s_Disk_init) l17 c17 k17
  have b17 := F17.binds (ps := ["self", "plan"]) fun _ _ _ _ _ _ us hl => match us, hl with | [_, _], _ => rfl
  have F18 := fun_mk (st := s_Disk_issue) l18 c18 k18
  have b18 := F18.binds (ps := ["self", "place", "what"]) fun _ _ _ _ _ _ us hl => match us, hl with | [_, _, _], _ => rfl
  have F19 := fun_mk (st := s_Disk_busy) l19 c19 k19
  have b19 := F19.binds (ps := ["self", "place"]) fun _ _ _ _ _ _ us hl => match us, hl with | [_, _], _ => rfl
  have F20 := fun_mk (st := s_Disk_put) l20 c20 k20
  have b20 := F20.binds (ps := ["self", "place", "what"]) fun _ _ _ _ _ _ us hl => match us, hl with | [_, _, _], _ => rfl
  have F21 := fun_mk (st := s_Disk_sure) l21 c21 k21
  have b21 := F21.binds (ps := ["self", "number"]) fun _ _ _ _ _ _ us hl => match us, hl with | [_, _], _ => rfl
  have F22 := fun_mk (st := s_Disk_move_head) l22 c22 k22
  have b22 := F22.binds (ps := ["self", "p"]) fun _ _ _ _ _ _ us hl => match us, hl with | [_, _], _ => rfl
  have F23 := fun_mk (st := s_Plan_init) l23 c23 k23
  have b23 := fun_kbn (ps := ["self", "blocks", "nodes", "slots"]) (n := 2) (ks := ["nodes", "slots"]) F23 fun _ _ _ _ _ _ us ws h1 h2 => match us, ws, h1, h2 with | [_, _], [_, _], _, _ => rfl
  exact ⟨{
    c_Disk := _
    C_Disk := ⟨pg_Disk, hd_Disk, po_Disk, sa_Disk⟩
    g_Disk := PySem.W.mg_of X G aC_Disk
    kp_Disk := kc_Disk
    mk_Disk := mk_Disk
    n_Disk_plan := nf_Disk_plan
    n_Disk_home := nf_Disk_home
    n_Disk_log := nf_Disk_log
    n_Disk_head := nf_Disk_head
    n_Disk_last := nf_Disk_last
    n_Disk_writes := nf_Disk_writes
    c_Plan := _
    C_Plan := ⟨pg_Plan, hd_Plan, po_Plan, sa_Plan⟩
    g_Plan := PySem.W.mg_of X G aC_Plan
    kp_Plan := kc_Plan
    mk_Plan := mk_Plan
    n_Plan_blocks := nf_Plan_blocks
    n_Plan_nodes := nf_Plan_nodes
    n_Plan_slots := nf_Plan_slots
    n_Plan_maps := nf_Plan_maps
    n_Plan_first_node := nf_Plan_first_node
    n_Plan_first_data := nf_Plan_first_data
    a_find_mark := _
    fd_find_mark := _
    F_find_mark := F0
    b_find_mark := b0
    m_find_mark := PySem.W.mg_of X G a0
    a_found_marks := _
    fd_found_marks := _
    F_found_marks := F1
    b_found_marks := b1
    m_found_marks := PySem.W.mg_of X G a1
    a_is_within := _
    fd_is_within := _
    F_is_within := F2
    b_is_within := b2
    m_is_within := PySem.W.mg_of X G a2
    a_is_row_of_cells := _
    fd_is_row_of_cells := _
    F_is_row_of_cells := F3
    b_is_row_of_cells := b3
    m_is_row_of_cells := PySem.W.mg_of X G a3
    a_are_blocks := _
    fd_are_blocks := _
    F_are_blocks := F4
    b_are_blocks := b4
    m_are_blocks := PySem.W.mg_of X G a4
    a_are_copies := _
    fd_are_copies := _
    F_are_copies := F5
    b_are_copies := b5
    m_are_copies := PySem.W.mg_of X G a5
    a_check_record := _
    fd_check_record := _
    F_check_record := F6
    b_check_record := b6
    m_check_record := PySem.W.mg_of X G a6
    a_fits_plan := _
    fd_fits_plan := _
    F_fits_plan := F7
    b_fits_plan := b7
    m_fits_plan := PySem.W.mg_of X G a7
    a_is_place := _
    fd_is_place := _
    F_is_place := F8
    b_is_place := b8
    m_is_place := PySem.W.mg_of X G a8
    a_log_content := _
    fd_log_content := _
    F_log_content := F9
    b_log_content := b9
    m_log_content := PySem.W.mg_of X G a9
    a_law_feed := _
    fd_law_feed := _
    F_law_feed := F10
    b_law_feed := b10
    m_law_feed := PySem.W.mg_of X G a10
    a_law_pick := _
    fd_law_pick := _
    F_law_pick := F11
    b_law_pick := b11
    m_law_pick := PySem.W.mg_of X G a11
    a_law_record := _
    fd_law_record := _
    F_law_record := F12
    b_law_record := b12
    m_law_record := PySem.W.mg_of X G a12
    a_law_due := _
    fd_law_due := _
    F_law_due := F13
    b_law_due := b13
    m_law_due := PySem.W.mg_of X G a13
    a_law_same := _
    fd_law_same := _
    F_law_same := F14
    b_law_same := b14
    m_law_same := PySem.W.mg_of X G a14
    a_law_agrees := _
    fd_law_agrees := _
    F_law_agrees := F15
    b_law_agrees := b15
    m_law_agrees := PySem.W.mg_of X G a15
    a_law := _
    fd_law := _
    F_law := F16
    b_law := b16
    m_law := PySem.W.mg_of X G a16
    a_Disk_init := _
    fd_Disk_init := _
    F_Disk_init := F17
    b_Disk_init := b17
    m_Disk_init := ⟨mk_Disk, a17, i17, kc_Disk⟩
    a_Disk_issue := _
    fd_Disk_issue := _
    F_Disk_issue := F18
    b_Disk_issue := b18
    m_Disk_issue := ⟨a18, i18, k18⟩
    a_Disk_busy := _
    fd_Disk_busy := _
    F_Disk_busy := F19
    b_Disk_busy := b19
    m_Disk_busy := ⟨a19, i19, k19⟩
    a_Disk_put := _
    fd_Disk_put := _
    F_Disk_put := F20
    b_Disk_put := b20
    m_Disk_put := ⟨a20, i20, k20⟩
    a_Disk_sure := _
    fd_Disk_sure := _
    F_Disk_sure := F21
    b_Disk_sure := b21
    m_Disk_sure := ⟨a21, i21, k21⟩
    a_Disk_move_head := _
    fd_Disk_move_head := _
    F_Disk_move_head := F22
    b_Disk_move_head := b22
    m_Disk_move_head := ⟨a22, i22, k22⟩
    a_Plan_init := _
    fd_Plan_init := _
    F_Plan_init := F23
    b_Plan_init := b23
    m_Plan_init := ⟨mk_Plan, a23, i23, kc_Plan⟩
    n_abs := PySem.W.mg_none_of X G z_abs
    n_all := PySem.W.mg_none_of X G z_all
    n_bool := PySem.W.mg_none_of X G z_bool
    n_enumerate := PySem.W.mg_none_of X G z_enumerate
    n_int := PySem.W.mg_none_of X G z_int
    n_isinstance := PySem.W.mg_none_of X G z_isinstance
    n_len := PySem.W.mg_none_of X G z_len
    n_list := PySem.W.mg_none_of X G z_list
    n_max := PySem.W.mg_none_of X G z_max
    n_range := PySem.W.mg_none_of X G z_range
    n_tuple := PySem.W.mg_none_of X G z_tuple
    t_MOST_CELL := _
    g_MOST_CELL := PySem.W.mg_of X G q_MOST_CELL
    t_MOST_LOT := _
    g_MOST_LOT := PySem.W.mg_of X G q_MOST_LOT
    t_LAST_BLOCK := _
    g_LAST_BLOCK := PySem.W.mg_of X G q_LAST_BLOCK
    t_LAST_SLOT := _
    g_LAST_SLOT := PySem.W.mg_of X G q_LAST_SLOT
    t_NO_SLOT := _
    g_NO_SLOT := PySem.W.mg_of X G q_NO_SLOT }, PySem.W.mg_of X G a16, fun s v => .of_eq rfl⟩
theorem walk {l : PySem.W.OpenLaw} {q : Program} {loose : List Str} {XP : (Str → Option Value) → Heap → Prop} {YP : World → Heap → Prop} {d : DefRec} {K : Params → PySem.W.Frag} (hn : l.most = some 63) (hdf : d.params.defaults = [])
    (hY : ∀ (w : World) (h : Heap), YP w h → (K w.params).In h)
    (F : ∀ (w : World) (mg : Str → Option Value) (fa : Addr) (h : Heap), (K w.params).In h → h.Ns mainGlobals mg → mg d.name = some (.ref fa) →
      ∃ fd : FuncData, (∀ (s : Shared) (u : Value), BindsTo s fd ⟨[u], []⟩ [("_law_script", u)]) ∧ ∀ base : Heap, (K w.params).In base → base.Ns mainGlobals mg → FnOk l.prog w (K w.params) mg base CX0 9 fa fd ["_law_script"] (spLaw (K w.params))) :
    PySem.W.WalkO q loose XP YP l.row.toRowW d [] (fun f vs => PySem.call f vs) :=
  L2.walk_of (n := 63) (k := 9) (x := "_law_script") (CX := fun _ => CX0) (sp := fun w => spLaw (K w.params)) hn (by decide) hdf ⟨rfl, by decide, by decide⟩ hY F (fun _ _ a ns hl _ hS => ⟨a, ns, rfl, hS, hl, fun _ => rfl⟩) fun _ _ _ _ _ z => z
end Mine
open PySem PySem.W PyProof.Rows
set_option maxRecDepth 100000 in
set_option maxHeartbeats 0 in
theorem PySem.Challenge.cw_lotsandties_k45_marks_found_holds : PySem.Challenge.rw_lotsandties_k45_marks_found.Holds := by
  w_on; o_law; k_head; (case hw => w_witness2)
  k_fill
  refine Mine.walk (l := PySem.Challenge.rw_lotsandties_k45_marks_found) rfl rfl (fun w h Y => PySem.W.kIn_of Y) ?F
  case F =>
    intro w mg fa h KX G hmg
    obtain ⟨T, e1, e2⟩ : ∃ T : Mine.Txt _ mg, mg "law" = some (.ref T.a_law) ∧ (∀ (s : Shared) (v : Value), BindsTo s T.fd_law ⟨[v], []⟩ [("_law_script", v)]) := by
      refine' Mine.txt_mk KX G ?aC_Disk ?pg_Disk ?hd_Disk ?po_Disk ?sa_Disk ?mk_Disk ?kc_Disk ?nf_Disk_plan ?nf_Disk_home ?nf_Disk_log ?nf_Disk_head ?nf_Disk_last ?nf_Disk_writes ?aC_Plan ?pg_Plan ?hd_Plan ?po_Plan ?sa_Plan ?mk_Plan ?kc_Plan ?nf_Plan_blocks ?nf_Plan_nodes ?nf_Plan_slots ?nf_Plan_maps ?nf_Plan_first_node ?nf_Plan_first_data ?a0 ?l0 ?c0 ?k0 ?a1 ?l1 ?c1 ?k1 ?a2 ?l2 ?c2 ?k2 ?a3 ?l3 ?c3 ?k3 ?a4 ?l4 ?c4 ?k4 ?a5 ?l5 ?c5 ?k5 ?a6 ?l6 ?c6 ?k6 ?a7 ?l7 ?c7 ?k7 ?a8 ?l8 ?c8 ?k8 ?a9 ?l9 ?c9 ?k9 ?a10 ?l10 ?c10 ?k10 ?a11 ?l11 ?c11 ?k11 ?a12 ?l12 ?c12 ?k12 ?a13 ?l13 ?c13 ?k13 ?a14 ?l14 ?c14 ?k14 ?a15 ?l15 ?c15 ?k15 ?a16 ?l16 ?c16 ?k16 ?a17 ?i17 ?l17 ?c17 ?k17 ?a18 ?i18 ?l18 ?c18 ?k18 ?a19 ?i19 ?l19 ?c19 ?k19 ?a20 ?i20 ?l20 ?c20 ?k20 ?a21 ?i21 ?l21 ?c21 ?k21 ?a22 ?i22 ?l22 ?c22 ?k22 ?a23 ?i23 ?l23 ?c23 ?k23 ?z_abs ?z_all ?z_bool ?z_enumerate ?z_int ?z_isinstance ?z_len ?z_list ?z_max ?z_range ?z_tuple ?q_MOST_CELL ?q_MOST_LOT ?q_LAST_BLOCK ?q_LAST_SLOT ?q_NO_SLOT
      (case aC_Disk => k_is); (case pg_Disk => k_is); (case hd_Disk => k_is); (case po_Disk => k_is); (case sa_Disk => k_is); (case mk_Disk => k_is)
      (case kc_Disk => k_is); (case nf_Disk_plan => k_is); (case nf_Disk_home => k_is); (case nf_Disk_log => k_is); (case nf_Disk_head => k_is); (case nf_Disk_last => k_is)
      (case nf_Disk_writes => k_is); (case aC_Plan => k_is); (case pg_Plan => k_is); (case hd_Plan => k_is); (case po_Plan => k_is); (case sa_Plan => k_is)
      (case mk_Plan => k_is); (case kc_Plan => k_is); (case nf_Plan_blocks => k_is); (case nf_Plan_nodes => k_is); (case nf_Plan_slots => k_is); (case nf_Plan_maps => k_is)
      (case nf_Plan_first_node => k_is); (case nf_Plan_first_data => k_is); (case a0 => k_is); (case l0 => k_is); (case c0 => k_is); (case k0 => k_is)
      (case a1 => k_is); (case l1 => k_is); (case c1 => k_is); (case k1 => k_is); (case a2 => k_is); (case l2 => k_is)
      (case c2 => k_is); (case k2 => k_is); (case a3 => k_is); (case l3 => k_is); (case c3 => k_is); (case k3 => k_is)
      (case a4 => k_is); (case l4 => k_is); (case c4 => k_is); (case k4 => k_is); (case a5 => k_is); (case l5 => k_is)
      (case c5 => k_is); (case k5 => k_is); (case a6 => k_is); (case l6 => k_is); (case c6 => k_is); (case k6 => k_is)
      (case a7 => k_is); (case l7 => k_is); (case c7 => k_is); (case k7 => k_is); (case a8 => k_is); (case l8 => k_is)
      (case c8 => k_is); (case k8 => k_is); (case a9 => k_is); (case l9 => k_is); (case c9 => k_is); (case k9 => k_is)
      (case a10 => k_is); (case l10 => k_is); (case c10 => k_is); (case k10 => k_is); (case a11 => k_is); (case l11 => k_is)
      (case c11 => k_is); (case k11 => k_is); (case a12 => k_is); (case l12 => k_is); (case c12 => k_is); (case k12 => k_is)
      (case a13 => k_is); (case l13 => k_is); (case c13 => k_is); (case k13 => k_is); (case a14 => k_is); (case l14 => k_is)
      (case c14 => k_is); (case k14 => k_is); (case a15 => k_is); (case l15 => k_is); (case c15 => k_is); (case k15 => k_is)
      (case a16 => k_is); (case l16 => k_is); (case c16 => k_is); (case k16 => k_is); (case a17 => k_is); (case i17 => k_is)
      (case l17 => k_is); (case c17 => k_is); (case k17 => k_is); (case a18 => k_is); (case i18 => k_is); (case l18 => k_is)
      (case c18 => k_is); (case k18 => k_is); (case a19 => k_is); (case i19 => k_is); (case l19 => k_is); (case c19 => k_is)
      (case k19 => k_is); (case a20 => k_is); (case i20 => k_is); (case l20 => k_is); (case c20 => k_is); (case k20 => k_is)
      (case a21 => k_is); (case i21 => k_is); (case l21 => k_is); (case c21 => k_is); (case k21 => k_is); (case a22 => k_is)
      (case i22 => k_is); (case l22 => k_is); (case c22 => k_is); (case k22 => k_is); (case a23 => k_is); (case i23 => k_is)
      (case l23 => k_is); (case c23 => k_is); (case k23 => k_is); (case z_abs => k_is); (case z_all => k_is); (case z_bool => k_is)
      (case z_enumerate => k_is); (case z_int => k_is); (case z_isinstance => k_is); (case z_len => k_is); (case z_list => k_is); (case z_max => k_is)
      (case z_range => k_is); (case z_tuple => k_is); (case q_MOST_CELL => k_is); (case q_MOST_LOT => k_is); (case q_LAST_BLOCK => k_is); (case q_LAST_SLOT => k_is)
      (case q_NO_SLOT => k_is)
    have e := hmg.symm.trans e1
    cases e
    exact ⟨T.fd_law, e2, fun base _ _ => Mine.ok_law T⟩
