import PyProof.Rows.All
import Wide.All
import OpenK.AllK
import Wide.FinOn
import HandS.ForMost
import HandS.More
import HandS.Codes
import HandS.TupLe
import HandS.IsInst
import HandS.Walk
import PySem.Challenge.RW_lotsandties_k86_names_and_codes
set_option Elab.async false
set_option linter.all false
set_option maxRecDepth 100000
set_option maxHeartbeats 4000000
namespace Mine
open PySem L2
/-! frames: what a call leaves as it was -/
abbrev tl (x : Str) : List Nat := x.cps.toList
def Fr (S : List Addr) (H H' : Hp) : Prop := ∀ b o, H b = some o → ∃ o', H' b = some o' ∧ (b ∉ S → o' = o)
section
variable {S : List Addr} {H H0 H1 H2 H' : Hp} {a b p : Addr} {o o' : HO} {K : PySem.W.Frag} {xs : List V}
theorem Fr.refl (S : List Addr) (H : Hp) : Fr S H H := fun _ o h => ⟨o, h, fun _ => rfl⟩
theorem Fr.trans (f : Fr S H0 H1) (g : Fr S H1 H2) : Fr S H0 H2 := fun b o h => by
  obtain ⟨o1, h1, e1⟩ := f b o h
  obtain ⟨o2, h2, e2⟩ := g b o1 h1
  exact ⟨o2, h2, fun n => (e2 n).trans (e1 n)⟩
theorem Fr.get (f : Fr S H H') (h : H b = some o) (n : b ∉ S) : H' b = some o := by
  obtain ⟨o1, h1, e1⟩ := f b o h
  rw [h1, e1 n]
theorem Fr.get0 (f : Fr [] H H') (h : H b = some o) : H' b = some o := f.get h (by simp)
theorem Fr.get1 (f : Fr [a] H H') (h : H b = some o) (n : b ≠ a) : H' b = some o := f.get h (by simpa using n)
theorem Fr.free (f : Fr S H H') (h : H' p = none) : H p = none := by
  cases q : H p with
  | none => rfl
  | some o =>
    obtain ⟨o1, h1, _⟩ := f p o q
    rw [h1] at h
    cases h
theorem Fr.up0 (f : Fr S H0 H1) (g : Fr [] H1 H2) : Fr S H0 H2 := fun b o h => by
  obtain ⟨o1, h1, e1⟩ := f b o h
  exact ⟨o1, g.get0 h1, e1⟩
theorem Fr.up1 (f : Fr S H0 H1) (g : Fr [a] H1 H2) (ha : a ∈ S ∨ H0 a = none) : Fr S H0 H2 := fun b o h => by
  obtain ⟨o1, h1, e1⟩ := f b o h
  obtain ⟨o2, h2, e2⟩ := g b o1 h1
  refine ⟨o2, h2, fun n => ?_⟩
  by_cases e : b = a
  · subst e
    rcases ha with ha | ha
    · exact absurd ha n
    · rw [ha] at h
      cases h
  · rw [e2 (by simpa using e), e1 n]
theorem Fr.upS (f : Fr [a] H0 H1) (g : Fr [a] H1 H2) : Fr [a] H0 H2 := f.up1 g (.inl (by simp))
theorem Fr.new (np : H p = none) : Fr [] H (upd H p o) := fun b u e => ⟨u, by rw [upd_ne (ne_of_none e np)]; exact e, fun _ => rfl⟩
theorem Fr.mut : Fr [a] H (upd H a o) := fun b u e => by
  by_cases h : b = a
  · subst h
    exact ⟨o, upd_same, fun n => absurd (by simp) n⟩
  · exact ⟨u, by rw [upd_ne h]; exact e, fun _ => rfl⟩
theorem gen_new (np : H p = none) (e : upd H p o = H2) : Fr [] H H2 ∧ H2 p = some o := by
  subst e
  exact ⟨Fr.new np, upd_same⟩
theorem gen_upd (e : upd H a o = H2) : Fr [a] H H2 ∧ H2 a = some o := by
  subst e
  exact ⟨Fr.mut, upd_same⟩
theorem Fr.seq (f : Fr S H H') (h : SqL K H a xs) (n : a ∉ S) : SqL K H' a xs := by
  rcases h with (h | ⟨o, h⟩) | h
  · exact .inl (.inl (f.get h n))
  · exact .inl (.inr ⟨o, f.get h n⟩)
  · exact .inr h
theorem Fr.seq0 (f : Fr [] H H') (h : SqL K H a xs) : SqL K H' a xs := f.seq h (by simp)
theorem sq (h : H a = some (.lst xs)) : SqL K H a xs := .inl (.inl h)
theorem sqt (h : H a = some (.tup xs)) : SqT K H a xs := .inl (.inl h)
theorem Fr.tup0 (f : Fr [] H H') (h : SqT K H a xs) : SqT K H' a xs := by
  rcases h with (h | ⟨o, h⟩) | h
  · exact .inl (.inl (f.get0 h))
  · exact .inl (.inr ⟨o, f.get0 h⟩)
  · exact .inr h
end
theorem sz {n : Nat} (h : n < 100000) : n < sizeLine := Nat.lt_of_lt_of_le h (by decide)
theorem szle {n : Nat} (h : n ≤ 100000) : n ≤ sizeLine := Nat.le_trans h (by decide)
theorem map_get {α β : Type} {f : α → β} {l : List α} {i : Nat} {y : β} (h : (l.map f)[i]? = some y) : ∃ x, l[i]? = some x ∧ y = f x := by
  rw [List.getElem?_map] at h
  cases e : l[i]? with
  | none =>
    rw [e] at h
    cases h
  | some x =>
    rw [e] at h
    exact ⟨x, rfl, (Option.some.inj h).symm⟩
theorem getq_lt {α : Type} {l : List α} {i : Nat} {x : α} (h : l[i]? = some x) : i < l.length := (List.getElem?_eq_some_iff.mp h).1
theorem iteF' {c : Bool} {A B : Prop} (hc : c = false) (h : B) : if c = true then A else B := by
  rw [hc]
  exact iteF h
theorem iteT' {c : Bool} {A B : Prop} (hc : c = true) (h : A) : if c = true then A else B := by
  rw [hc]
  exact iteT h

def top (i : Nat) : Stmt := PySem.Challenge.pw_lotsandties_k86_names_and_codes.main.body.getD i (.Pass ⟨0, 0, 0, 0⟩)
abbrev s_is_name : Stmt := top 2
abbrev N_is_name : List Str := ["text", "sign"]
theorem sc_is_name : FnScope ["text", "sign"] ["text"] (defScope s_is_name) := ⟨rfl, rfl, rfl, by decide +kernel, rfl, by decide +kernel, by decide +kernel⟩
abbrev s_is_path : Stmt := top 3
abbrev N_is_path : List Str := ["text", "names", "name"]
theorem sc_is_path : FnScope ["text", "names", "name"] ["text"] (defScope s_is_path) := ⟨rfl, rfl, rfl, by decide +kernel, rfl, by decide +kernel, by decide +kernel⟩
abbrev s_name_code : Stmt := top 4
abbrev N_name_code : List Str := ["name", "code", "sign"]
theorem sc_name_code : FnScope ["name", "code", "sign"] ["name"] (defScope s_name_code) := ⟨rfl, rfl, rfl, by decide +kernel, rfl, by decide +kernel, by decide +kernel⟩
abbrev s_code_name : Stmt := top 5
abbrev N_code_name : List Str := ["code", "name", "rest"]
theorem sc_code_name : FnScope ["code", "name", "rest"] ["code"] (defScope s_code_name) := ⟨rfl, rfl, rfl, by decide +kernel, rfl, by decide +kernel, by decide +kernel⟩
abbrev s_law_feed : Stmt := top 7
abbrev N_law_feed : List Str := ["_law_script", "_law_feed_here", "_law_cell", "_law_rest", "_law_k"]
theorem sc_law_feed : FnScope ["_law_script", "_law_feed_here", "_law_cell", "_law_rest", "_law_k"] ["_law_script"] (defScope s_law_feed) := ⟨rfl, rfl, rfl, by decide +kernel, rfl, by decide +kernel, by decide +kernel⟩
abbrev s_law_pick : Stmt := top 8
abbrev N_law_pick : List Str := ["_law_feed_here", "_law_limit"]
theorem sc_law_pick : FnScope ["_law_feed_here", "_law_limit"] ["_law_feed_here", "_law_limit"] (defScope s_law_pick) := ⟨rfl, rfl, rfl, by decide +kernel, rfl, by decide +kernel, by decide +kernel⟩
abbrev s_law_name : Stmt := top 9
abbrev N_law_name : List Str := ["_law_feed_here", "_law_letters", "_law_name_here", "_law_k"]
theorem sc_law_name : FnScope ["_law_feed_here", "_law_letters", "_law_name_here", "_law_k"] ["_law_feed_here"] (defScope s_law_name) := ⟨rfl, rfl, rfl, by decide +kernel, rfl, by decide +kernel, by decide +kernel⟩
abbrev s_law_code : Stmt := top 10
abbrev N_law_code : List Str := ["_law_name_here", "_law_code_here", "_law_sign"]
theorem sc_law_code : FnScope ["_law_name_here", "_law_code_here", "_law_sign"] ["_law_name_here"] (defScope s_law_code) := ⟨rfl, rfl, rfl, by decide +kernel, rfl, by decide +kernel, by decide +kernel⟩
abbrev s_law_decoded : Stmt := top 11
abbrev N_law_decoded : List Str := ["_law_number", "_law_digits", "_law_rest", "_law_k", "_law_digit"]
theorem sc_law_decoded : FnScope ["_law_number", "_law_digits", "_law_rest", "_law_k", "_law_digit"] ["_law_number"] (defScope s_law_decoded) := ⟨rfl, rfl, rfl, by decide +kernel, rfl, by decide +kernel, by decide +kernel⟩
abbrev s_law_integer : Stmt := top 12
abbrev N_law_integer : List Str := ["_law_actual", "_law_due"]
theorem sc_law_integer : FnScope ["_law_actual", "_law_due"] ["_law_actual", "_law_due"] (defScope s_law_integer) := ⟨rfl, rfl, rfl, by decide +kernel, rfl, by decide +kernel, by decide +kernel⟩
abbrev s_law_text : Stmt := top 13
abbrev N_law_text : List Str := ["_law_actual", "_law_due"]
theorem sc_law_text : FnScope ["_law_actual", "_law_due"] ["_law_actual", "_law_due"] (defScope s_law_text) := ⟨rfl, rfl, rfl, by decide +kernel, rfl, by decide +kernel, by decide +kernel⟩
abbrev s_law_names_good : Stmt := top 14
abbrev N_law_names_good : List Str := ["_law_names", "_law_name_here"]
theorem sc_law_names_good : FnScope ["_law_names", "_law_name_here"] ["_law_names"] (defScope s_law_names_good) := ⟨rfl, rfl, rfl, by decide +kernel, rfl, by decide +kernel, by decide +kernel⟩
abbrev s_law_bad_good : Stmt := top 15
abbrev N_law_bad_good : List Str := ["_law_name_here", "_law_other", "_law_long_name", "_law_text_here", "_law_good"]
theorem sc_law_bad_good : FnScope ["_law_name_here", "_law_other", "_law_long_name", "_law_text_here", "_law_good"] ["_law_name_here", "_law_other"] (defScope s_law_bad_good) := ⟨rfl, rfl, rfl, by decide +kernel, rfl, by decide +kernel, by decide +kernel⟩
abbrev s_law : Stmt := top 16
abbrev N_law : List Str := ["_law_script", "_law_feed_here", "_law_name_here", "_law_other", "_law_number", "_law_value", "_law_names", "_law_k"]
theorem sc_law : FnScope ["_law_script", "_law_feed_here", "_law_name_here", "_law_other", "_law_number", "_law_value", "_law_names", "_law_k"] ["_law_script"] (defScope s_law) := ⟨rfl, rfl, rfl, by decide +kernel, rfl, by decide +kernel, by decide +kernel⟩
/-- what the top has left -/
structure Txt (K : PySem.W.Frag) (mg : Str → Option Value) where
  a_is_name : Addr
  fd_is_name : FuncData
  F_is_name : Fun K "is_name" "is_name" s_is_name a_is_name fd_is_name
  m_is_name : mg "is_name" = some (.ref a_is_name)
  b_is_name : Binds K fd_is_name ["text"] []
  a_is_path : Addr
  fd_is_path : FuncData
  F_is_path : Fun K "is_path" "is_path" s_is_path a_is_path fd_is_path
  m_is_path : mg "is_path" = some (.ref a_is_path)
  b_is_path : Binds K fd_is_path ["text"] []
  a_name_code : Addr
  fd_name_code : FuncData
  F_name_code : Fun K "name_code" "name_code" s_name_code a_name_code fd_name_code
  m_name_code : mg "name_code" = some (.ref a_name_code)
  b_name_code : Binds K fd_name_code ["name"] []
  a_code_name : Addr
  fd_code_name : FuncData
  F_code_name : Fun K "code_name" "code_name" s_code_name a_code_name fd_code_name
  m_code_name : mg "code_name" = some (.ref a_code_name)
  b_code_name : Binds K fd_code_name ["code"] []
  a_law_feed : Addr
  fd_law_feed : FuncData
  F_law_feed : Fun K "_law_feed" "_law_feed" s_law_feed a_law_feed fd_law_feed
  m_law_feed : mg "_law_feed" = some (.ref a_law_feed)
  b_law_feed : Binds K fd_law_feed ["_law_script"] []
  a_law_pick : Addr
  fd_law_pick : FuncData
  F_law_pick : Fun K "_law_pick" "_law_pick" s_law_pick a_law_pick fd_law_pick
  m_law_pick : mg "_law_pick" = some (.ref a_law_pick)
  b_law_pick : Binds K fd_law_pick ["_law_feed_here", "_law_limit"] []
  a_law_name : Addr
  fd_law_name : FuncData
  F_law_name : Fun K "_law_name" "_law_name" s_law_name a_law_name fd_law_name
  m_law_name : mg "_law_name" = some (.ref a_law_name)
  b_law_name : Binds K fd_law_name ["_law_feed_here"] []
  a_law_code : Addr
  fd_law_code : FuncData
  F_law_code : Fun K "_law_code" "_law_code" s_law_code a_law_code fd_law_code
  m_law_code : mg "_law_code" = some (.ref a_law_code)
  b_law_code : Binds K fd_law_code ["_law_name_here"] []
  a_law_decoded : Addr
  fd_law_decoded : FuncData
  F_law_decoded : Fun K "_law_decoded" "_law_decoded" s_law_decoded a_law_decoded fd_law_decoded
  m_law_decoded : mg "_law_decoded" = some (.ref a_law_decoded)
  b_law_decoded : Binds K fd_law_decoded ["_law_number"] []
  a_law_integer : Addr
  fd_law_integer : FuncData
  F_law_integer : Fun K "_law_integer" "_law_integer" s_law_integer a_law_integer fd_law_integer
  m_law_integer : mg "_law_integer" = some (.ref a_law_integer)
  b_law_integer : Binds K fd_law_integer ["_law_actual", "_law_due"] []
  a_law_text : Addr
  fd_law_text : FuncData
  F_law_text : Fun K "_law_text" "_law_text" s_law_text a_law_text fd_law_text
  m_law_text : mg "_law_text" = some (.ref a_law_text)
  b_law_text : Binds K fd_law_text ["_law_actual", "_law_due"] []
  a_law_names_good : Addr
  fd_law_names_good : FuncData
  F_law_names_good : Fun K "_law_names_good" "_law_names_good" s_law_names_good a_law_names_good fd_law_names_good
  m_law_names_good : mg "_law_names_good" = some (.ref a_law_names_good)
  b_law_names_good : Binds K fd_law_names_good ["_law_names"] []
  a_law_bad_good : Addr
  fd_law_bad_good : FuncData
  F_law_bad_good : Fun K "_law_bad_good" "_law_bad_good" s_law_bad_good a_law_bad_good fd_law_bad_good
  m_law_bad_good : mg "_law_bad_good" = some (.ref a_law_bad_good)
  b_law_bad_good : Binds K fd_law_bad_good ["_law_name_here", "_law_other"] []
  a_law : Addr
  fd_law : FuncData
  F_law : Fun K "law" "law" s_law a_law fd_law
  m_law : mg "law" = some (.ref a_law)
  b_law : Binds K fd_law ["_law_script"] []
  n_abs : mg "abs" = none
  n_bool : mg "bool" = none
  n_int : mg "int" = none
  n_isinstance : mg "isinstance" = none
  n_len : mg "len" = none
  n_range : mg "range" = none
  n_str : mg "str" = none
  t_ALPHABET : Tok
  g_ALPHABET : mg "ALPHABET" = some (.str "abcdefghijklmnopqrstuvwxyz" t_ALPHABET)
/-! the drawn row, and what is drawn of it -/
def Feed (fs : List Int) : Prop := fs.length ≤ 5000 ∧ ∀ x ∈ fs, 0 ≤ x ∧ x < 1000000
theorem Feed.tail {x : Int} {fs : List Int} (h : Feed (x :: fs)) : Feed fs := ⟨by have := h.1; simp at this; omega, fun y hy => h.2 y (List.mem_cons_of_mem _ hy)⟩
def sp_law_feed (K : PySem.W.Frag) : Sp := fun vs H Q _ => ∃ (a : Addr) (ns : List Int), vs = [.ref a] ∧ SqL K H a (ns.map V.int) ∧ ns.length ≤ 63 ∧
  ∀ H' p fs, Fr [] H H' → H p = none → H' p = some (.lst (fs.map V.int)) → Feed fs → Q (.ref p) H'
def sp_law_pick : Sp := fun vs H Q _ => ∃ (a : Addr) (fs : List Int) (n : Int), vs = [.ref a, .int n] ∧ H a = some (.lst (fs.map V.int)) ∧ Feed fs ∧ 0 < n ∧
  ∀ H' r fs', Fr [a] H H' → H' a = some (.lst (fs'.map V.int)) → Feed fs' → 0 ≤ r → r < n → Q (.int r) H'
section
variable {P : Program} {w : World} {K : PySem.W.Frag} {mg : Str → Option Value} {base : Heap}
theorem mem_app1 {P : Int → Prop} {fs : List Int} {y : Int} (h : ∀ x ∈ fs, P x) (hy : P y) : ∀ x ∈ fs ++ [y], P x := fun x hx => by
  rcases List.mem_append.mp hx with q | q
  · exact h x q
  · rw [List.mem_singleton.mp q]
    exact hy
theorem map_app1 {fs : List Int} {y : Int} : fs.map V.int ++ [V.int y] = (fs ++ [y]).map V.int := by simp
theorem ok_law_feed (T : Txt K mg) : FnOk P w K mg base CX0 1 T.a_law_feed T.fd_law_feed ["_law_script"] (sp_law_feed K) := by
  refine T.F_law_feed.ok sc_law_feed (fun vs H Q E h => ?_) (fun cdv A outer s H vs Q E hr h => ?_)
  · obtain ⟨a, ns, rfl, _⟩ := h
    rfl
  · obtain ⟨a, ns, rfl, hS, hl, k⟩ := h
    refine ⟨_, (pss_cons (ps_set (i := 1) sc_law_feed.nd rfl (Or.inl rfl) (pe_lst pa_nil))
        (pss_cons (ps_for PassesOwn.never rfl (pi_list (pv 0)) (pg_name (i := 2) sc_law_feed.nd rfl (Or.inl rfl))
        (pss_cons (ps_set (i := 3) sc_law_feed.nd rfl (Or.inl rfl) (pe_callB call_abs (by rfl) T.n_abs (by decide +kernel) (pa_cons (pv 2) pa_nil)))
        (C8.pss_cut (ps_if (pt_cmpR op_lt (pv 3) (pe_op op_pow pe_int pe_int) (nomark _)) (pss_cons (ps_set (i := 3) sc_law_feed.nd rfl (Or.inl rfl) (pe_op op_mod (pe_callTy call_int1 (by rfl) T.n_int (by decide +kernel) (pa_cons (pe_op op_add (pe_op op_mul (pv 3) pe_int) pe_int) pa_nil)) pe_int))
        (pss_cons (ps_expr (pe_bm PySem.F.plainAttrs_list PySem.F.slot_list_append PySem.F.type_list_append mt_append (pv 1) (pa_cons (pe_op op_mod (pe_callTy call_int1 (by rfl) T.n_int (by decide +kernel) (pa_cons (pe_op op_add (pe_op op_mul (pv 3) pe_int) pe_int) pa_nil)) pe_int) pa_nil)))
        (pss_one (ps_set (i := 3) sc_law_feed.nd rfl (Or.inl rfl) pe_int)))) pss_nil)
        (pss_one (ps_for PassesOwn.never rfl (pi_range1 rfl T.n_range (pa_cons pe_int pa_nil)) (pg_name (i := 4) sc_law_feed.nd rfl (Or.inl rfl))
        (pss_one (ps_if (pt_cmpR op_gt (pv 3) pe_int (nomark _)) (pss_cons (ps_expr (pe_bm PySem.F.plainAttrs_list PySem.F.slot_list_append PySem.F.type_list_append mt_append (pv 1) (pa_cons (pe_op op_mod (pe_callTy call_int1 (by rfl) T.n_int (by decide +kernel) (pa_cons (pv 3) pa_nil)) pe_int) pa_nil)))
        (pss_one (ps_set (i := 3) sc_law_feed.nd rfl (Or.inl rfl) (pe_op op_fdiv (pv 3) pe_int)))) pss_nil)))))))
        (pss_one (ps_ret (pv 1))))), ?_⟩
    refine ⟨by decide, fun p np => ?_⟩
    generalize hH : upd H p _ = H1
    obtain ⟨f1, h1⟩ := gen_new np hH
    refine ⟨_, rfl, a, rfl, ⟨_, f1.seq0 hS⟩, for_list (K := K) (a := a) (xs := ns.map V.int) (fun i σ H2 => ∃ (fs : List Int) (u v x : Option V), σ = [some (.ref a), some (.ref p), u, v, x] ∧ Fr [] H H2 ∧ H2 p = some (.lst (fs.map V.int)) ∧ fs.length ≤ 61 * i ∧ ∀ x ∈ fs, 0 ≤ x ∧ x < 1000000) ?_ ?_ ?_ ?_⟩
    · exact ⟨[], none, none, none, rfl, f1, h1, by simp, by simp⟩
    · rintro i σ H2 _ ⟨fs, u, v, x, rfl, f2, _⟩
      exact f2.seq0 hS
    · rintro i y σ H2 hi ⟨fs, u, v, x, rfl, f2, h2, hf, hb⟩
      obtain ⟨z, hz, rfl⟩ := map_get hi
      have hil := getq_lt hz
      refine ⟨_, rfl, _, rfl, ?_⟩
      have hr0 : 0 ≤ (if z < 0 then -z else z) := by split <;> omega
      generalize (if z < 0 then -z else z) = r at hr0
      refine ⟨fun σ H3 => ∃ (r : Int) (fs : List Int), σ = [some (.ref a), some (.ref p), some (.int z), some (.int r), x] ∧ Fr [] H H3 ∧ H3 p = some (.lst (fs.map V.int)) ∧ 0 ≤ r ∧ fs.length ≤ 61 * i + 1 ∧ ∀ x ∈ fs, 0 ≤ x ∧ x < 1000000, ?_, ?_⟩
      · refine ⟨_, rfl, _, _, rfl, rfl, ⟨by decide, by decide, by decide⟩, _, _, rfl, rfl, _, rfl, ?_⟩
        refine ite2 (fun c => ?_) (fun c => ?_)
        · refine ⟨_, rfl, _, _, rfl, rfl, .inr ⟨by decide, by decide⟩, _, _, rfl, rfl, .inl ⟨_, rfl, _, _, rfl, rfl, (by show (0 : Int) < 2147483647; decide), ?_⟩⟩
          refine ⟨_, rfl, .inl ⟨rfl, _, sq h2⟩, _, rfl, _, _, rfl, rfl, .inr ⟨by decide, by decide⟩, _, _, rfl, rfl, .inl ⟨_, rfl, _, _, rfl, rfl, (by show (0 : Int) < 999983; decide), p, _, _, rfl, rfl, h2, sz (by simp; omega), ?_⟩⟩
          generalize hH3 : upd H2 p _ = H3
          obtain ⟨f3, h3⟩ := gen_upd hH3
          rw [map_app1] at h3
          refine ⟨0, _, rfl, f2.up1 f3 (.inr np), h3, by decide, by simp; omega, mem_app1 hb ?_⟩
          exact ⟨Int.emod_nonneg _ (by decide), Int.lt_trans (Int.emod_lt_of_pos _ (by decide)) (by decide)⟩
        · exact ⟨r, fs, rfl, f2, h2, hr0, by omega, hb⟩
      · rintro σ H3 ⟨r, fs, rfl, f3, h3, hr1, hf1, hb1⟩
        refine ⟨60, rfl, by decide, by decide, for_range (n := 60) (fun j σ H4 => ∃ (r : Int) (fs : List Int) (x : Option V), σ = [some (.ref a), some (.ref p), some (.int z), some (.int r), x] ∧ Fr [] H H4 ∧ H4 p = some (.lst (fs.map V.int)) ∧ 0 ≤ r ∧ fs.length ≤ 61 * i + 1 + j ∧ ∀ x ∈ fs, 0 ≤ x ∧ x < 1000000) ?_ ?_ ?_⟩
        · exact ⟨r, fs, x, rfl, f3, h3, hr1, by omega, hb1⟩
        · rintro j σ H4 hj ⟨r, fs, x, rfl, f4, h4, hr2, hf2, hb2⟩
          refine ⟨_, rfl, _, _, rfl, rfl, _, rfl, ?_⟩
          refine ite2 (fun c => ?_) (fun c => ?_)
          · refine ⟨_, rfl, .inl ⟨rfl, _, sq h4⟩, _, rfl, .inl ⟨_, rfl, _, _, rfl, rfl, (by show (0 : Int) < 1000; decide), p, _, _, rfl, rfl, h4, sz (by simp; omega), ?_⟩⟩
            generalize hH5 : upd H4 p _ = H5
            obtain ⟨f5, h5⟩ := gen_upd hH5
            rw [map_app1] at h5
            refine ⟨_, rfl, _, _, rfl, rfl, ⟨by decide, by decide⟩, _, _, _, rfl, f4.up1 f5 (.inr np), h5, Int.ediv_nonneg hr2 (by decide), by simp; omega, mem_app1 hb2 ?_⟩
            exact ⟨Int.emod_nonneg _ (by decide), Int.lt_trans (Int.emod_lt_of_pos _ (by decide)) (by decide)⟩
          · exact ⟨r, fs, _, rfl, f4, h4, hr2, by omega, hb2⟩
        · rintro σ H4 ⟨r, fs, x, rfl, f4, h4, hr2, hf2, hb2⟩
          exact ⟨fs, _, _, _, rfl, f4, h4, by omega, hb2⟩
    · rintro σ H2 ⟨fs, u, v, x, rfl, f2, h2, hf, hb⟩
      rw [List.length_map] at hf
      exact ⟨_, rfl, k H2 p fs f2 np h2 ⟨by omega, hb⟩⟩
theorem ok_law_pick (T : Txt K mg) : FnOk P w K mg base CX0 1 T.a_law_pick T.fd_law_pick ["_law_feed_here", "_law_limit"] sp_law_pick := by
  refine T.F_law_pick.ok sc_law_pick (fun vs H Q E h => ?_) (fun cdv A outer s H vs Q E hr h => ?_)
  · obtain ⟨a, fs, n, rfl, _⟩ := h
    rfl
  · obtain ⟨a, fs, n, rfl, h1, hf, hn, k⟩ := h
    refine ⟨_, (pss_cons (ps_if (pt_cmpR op_eq (pe_callB call_len_seq (by rfl) T.n_len (by decide +kernel) (pa_cons (pv 0) pa_nil)) pe_int (nomark _)) (pss_one (ps_ret pe_int)) pss_nil)
        (pss_one (ps_ret (pe_op op_mod (pe_callTy call_int1 (by rfl) T.n_int (by decide +kernel) (pa_cons (pe_bm PySem.F.plainAttrs_list PySem.F.slot_list_pop PySem.F.type_list_pop mt_popAt (pv 0) (pa_cons pe_int pa_nil)) pa_nil)) (pv 1))))), ?_⟩
    refine ⟨_, rfl, a, _, rfl, .inl (sq h1), rfl, _, rfl, ?_⟩
    cases fs with
    | nil => exact iteT (k H 0 [] (Fr.refl _ _) h1 hf (by decide) hn)
    | cons x fs =>
      refine iteF' (by simp; omega) ?_
      refine ⟨_, rfl, .inl ⟨rfl, _, sq h1⟩, a, _, 0, 0, _, rfl, rfl, h1, by decide, by decide, by simp [seqIndex?], rfl, .inl ⟨_, rfl, ?_⟩⟩
      refine ⟨_, rfl, _, _, rfl, rfl, hn, ?_⟩
      generalize hH3 : upd H a _ = H3
      obtain ⟨f3, h3⟩ := gen_upd hH3
      exact k H3 _ fs f3 h3 hf.tail (Int.emod_nonneg _ (by omega)) (Int.emod_lt_of_pos _ hn)
end
/-! letters and names -/
abbrev ALPH : Str := "abcdefghijklmnopqrstuvwxyz"
abbrev mkS (l : List Nat) : Str := ⟨l.toArray⟩
def let1 (c : Nat) : Bool := decide (97 ≤ c) && decide (c ≤ 122)
theorem alph_list : tl ALPH = [97, 98, 99, 100, 101, 102, 103, 104, 105, 106, 107, 108, 109, 110, 111, 112, 113, 114, 115, 116, 117, 118, 119, 120, 121, 122] := by decide +kernel
theorem alph_mem (c : Nat) : decide (c ∈ tl ALPH) = let1 c := by
  rw [alph_list]
  unfold let1
  by_cases h : 97 ≤ c ∧ c ≤ 122
  · have h1 : c ∈ [97, 98, 99, 100, 101, 102, 103, 104, 105, 106, 107, 108, 109, 110, 111, 112, 113, 114, 115, 116, 117, 118, 119, 120, 121, 122] := by
      simp only [List.mem_cons, List.not_mem_nil, or_false]
      omega
    simp only [decide_eq_true h1, decide_eq_true h.1, decide_eq_true h.2, Bool.and_self]
  · have h1 : ¬ c ∈ [97, 98, 99, 100, 101, 102, 103, 104, 105, 106, 107, 108, 109, 110, 111, 112, 113, 114, 115, 116, 117, 118, 119, 120, 121, 122] := by
      simp only [List.mem_cons, List.not_mem_nil, or_false]
      omega
    rw [decide_eq_false h1]
    by_cases h2 : 97 ≤ c
    · rw [decide_eq_false (show ¬ c ≤ 122 by omega), Bool.and_false]
    · rw [decide_eq_false h2, Bool.false_and]
theorem alph_at26 : ∀ n, n < 26 → (tl ALPH)[n]? = some (97 + n) := by decide +kernel
theorem alph_at {r : Int} (h0 : 0 ≤ r) (h1 : r < 26) : atI (tl ALPH) r = some (97 + r.toNat) := by
  have h := atI_nat (alph_at26 r.toNat (by omega))
  rw [Int.toNat_of_nonneg h0] at h
  exact h
theorem tl_get {z : Str} {i c : Nat} (h : z.cps[i]? = some c) : (tl z)[i]? = some c := by
  rw [Array.getElem?_toList]
  exact h
theorem drop_at {α : Type} {l : List α} {i : Nat} {c : α} (h : l[i]? = some c) : l.drop i = c :: l.drop (i + 1) := by
  obtain ⟨hi, e⟩ := List.getElem?_eq_some_iff.mp h
  rw [List.drop_eq_getElem_cons hi, e]
theorem drop_end (z : Str) : (tl z).drop z.cps.size = [] := by
  apply List.drop_eq_nil_of_le
  simp
theorem slen (z : Str) : z.length = (tl z).length := by simp [Str.length]
def isNm (l : List Nat) : Bool := decide (1 ≤ l.length) && decide (l.length ≤ 4) && l.all let1
def sp_is_name : Sp := fun vs H Q _ => ∃ z : Str, vs = [.str z] ∧ z.length ≤ sizeLine ∧ Q (.bl (isNm (tl z))) H
section
variable {P : Program} {w : World} {K : PySem.W.Frag} {mg : Str → Option Value} {base : Heap}
theorem ok_is_name (T : Txt K mg) : FnOk P w K mg base CX0 1 T.a_is_name T.fd_is_name ["text"] sp_is_name := by
  refine T.F_is_name.ok sc_is_name (fun vs H Q E h => ?_) (fun cdv A outer s H vs Q E hr h => ?_)
  · obtain ⟨z, rfl, _⟩ := h
    rfl
  · obtain ⟨z, rfl, hz, k⟩ := h
    refine ⟨_, (pss_cons (ps_if (pt_not (pt_chain op_le op_le pe_int (pe_callB call_len_str (by rfl) T.n_len (by decide +kernel) (pa_cons (pv 0) pa_nil)) pe_int)) (pss_one (ps_ret pe_bl)) pss_nil)
        (pss_cons (ps_for PassesOwn.never rfl (pi_str (pv 0)) (pg_name (i := 1) sc_is_name.nd rfl (Or.inl rfl))
        (pss_one (ps_if (pt_cmpR op_notIn_sign (pv 1) (pe_glob (v := .str "abcdefghijklmnopqrstuvwxyz") rfl T.g_ALPHABET ⟨_, rfl⟩) rfl) (pss_one (ps_ret pe_bl)) pss_nil)))
        (pss_one (ps_ret pe_bl)))), ?_⟩
    have hl := slen z
    refine ⟨_, rfl, z, rfl, hz, _, _, rfl, rfl, _, rfl, ?_⟩
    refine ite2 (fun c1 => ?_) (fun c1 => ?_)
    · refine ⟨_, _, rfl, rfl, _, rfl, ?_⟩
      have c1' := of_decide_eq_true c1
      by_cases c2 : ((z.length : Nat) : Int) ≤ 4
      · refine iteF' (by simp only [decide_eq_true c2]; rfl) ?_
        refine ⟨_, rfl, z, rfl, for_it walk_str (fun i σ H' => H' = H ∧ (∃ x, σ = [some (.str z), x]) ∧ ((tl z).drop i).all let1 = (tl z).all let1) ?_ (fun _ _ _ _ _ => trivial) ?_ ?_⟩
        · exact ⟨rfl, ⟨_, rfl⟩, rfl⟩
        · rintro i x σ H1 H2 hi ⟨rfl, ⟨x, rfl⟩, hd⟩ ⟨rfl, c, hc, rfl⟩
          rw [drop_at (tl_get hc), List.all_cons] at hd
          refine ⟨_, rfl, c, ALPH, rfl, rfl, _, rfl, ?_⟩
          rw [alph_mem]
          cases e : let1 c with
          | true =>
            rw [e, Bool.true_and] at hd
            exact iteF ⟨rfl, ⟨_, rfl⟩, hd⟩
          | false =>
            rw [e, Bool.false_and] at hd
            refine iteT ?_
            have e2 : isNm (tl z) = false := by rw [isNm, ← hd, Bool.and_false]
            rw [e2] at k
            exact k
        · rintro σ H1 ⟨rfl, ⟨x, rfl⟩, hd⟩
          rw [drop_end, List.all_nil] at hd
          have e2 : isNm (tl z) = true := by rw [isNm, ← hd, decide_eq_true (show 1 ≤ (tl z).length by omega), decide_eq_true (show (tl z).length ≤ 4 by omega)]; rfl
          rw [e2] at k
          exact k
      · refine iteT' (by simp only [decide_eq_false c2]; rfl) ?_
        have e2 : isNm (tl z) = false := by rw [isNm, decide_eq_false (show ¬ (tl z).length ≤ 4 by omega), Bool.and_false, Bool.false_and]
        rw [e2] at k
        exact k
    · refine ⟨_, rfl, iteT ?_⟩
      have c1' : ¬ (1 : Int) ≤ z.length := fun q => c1 (decide_eq_true q)
      have e2 : isNm (tl z) = false := by rw [isNm, decide_eq_false (show ¬ 1 ≤ (tl z).length by omega), Bool.false_and, Bool.false_and]
      rw [e2] at k
      exact k
/-! paths -/
theorem spl_len {S : List Nat} : ∀ (l : List Nat) (k : Nat) (acc : List Nat), ∀ p ∈ TL.spl S k acc l, p.length ≤ acc.length + l.length
  | [], k, acc, p, hp => by
    rw [TL.spl_nil] at hp
    rw [List.mem_singleton.mp hp]
    exact Nat.le_add_right _ _
  | c :: r, 0, acc, p, hp => by
    cases e : TL.pre S (c :: r) with
    | true =>
      rw [TL.spl_hit e] at hp
      rcases List.mem_cons.mp hp with q | q
      · rw [q]
        exact Nat.le_add_right _ _
      · have := spl_len r _ _ p q
        simp at this ⊢
        omega
    | false =>
      rw [TL.spl_miss e] at hp
      have := spl_len r _ _ p hp
      simp at this ⊢
      omega
  | c :: r, k + 1, acc, p, hp => by
    have := spl_len r k acc p hp
    simp at this ⊢
    omega
abbrev SL : Str := "/"
theorem split_len {z y : Str} (h : y ∈ Txt.split z SL) : y.length ≤ z.length := by
  have e := TL.split_spl z SL (by decide +kernel) (TL.kind_ok (by decide +kernel))
  have h2 : tl y ∈ (Txt.split z SL).map tl := List.mem_map_of_mem h
  have e3 : (Txt.split z SL).map tl = TL.spl (tl SL) 0 [] (tl z) := e
  rw [e3] at h2
  have := spl_len _ _ _ _ h2
  rw [slen, slen]
  simp at this ⊢
  omega
def isPt (z : Str) : Bool := if z = "." then true else decide ((Txt.split z SL).length ≤ 8) && (Txt.split z SL).all (fun y => isNm (tl y))
def sp_is_path : Sp := fun vs H Q _ => ∃ z : Str, vs = [.str z] ∧ z.length + 2 ≤ sizeLine ∧ ∀ H', Fr [] H H' → Q (.bl (isPt z)) H'
theorem ok_is_path (T : Txt K mg) : FnOk P w K mg base CX0 2 T.a_is_path T.fd_is_path ["text"] sp_is_path := by
  refine T.F_is_path.ok sc_is_path (fun vs H Q E h => ?_) (fun cdv A outer s H vs Q E hr h => ?_)
  · obtain ⟨z, rfl, _⟩ := h
    rfl
  · obtain ⟨z, rfl, hz, k⟩ := h
    refine ⟨_, (pss_cons (ps_if (pt_cmpR op_eq (pv 0) pe_str (nomark _)) (pss_one (ps_ret pe_bl)) pss_nil)
        (pss_cons (ps_set (i := 1) sc_is_path.nd rfl (Or.inl rfl) (pe_split (pv 0) pe_str))
        (pss_cons (ps_if (pt_cmpR op_gt (pe_callB call_len_seq (by rfl) T.n_len (by decide +kernel) (pa_cons (pv 1) pa_nil)) pe_int (nomark _)) (pss_one (ps_ret pe_bl)) pss_nil)
        (pss_cons (ps_for PassesOwn.never rfl (pi_list (pv 1)) (pg_name (i := 2) sc_is_path.nd rfl (Or.inl rfl))
        (pss_one (ps_if (pt_not (pt_val (pe_call (ok_is_name T) (hr.mono (by decide)) rfl T.m_is_name T.F_is_name.kp T.b_is_name .nil pass0 (pa_cons (pv 2) pa_nil)))) (pss_one (ps_ret pe_bl)) pss_nil)))
        (pss_one (ps_ret pe_bl)))))), ?_⟩
    refine ⟨_, rfl, rfl, _, rfl, ?_⟩
    refine ite2 (fun c => ?_) (fun c => ?_)
    · have c' := V.str.inj (of_decide_eq_true c)
      have e : isPt z = true := by rw [isPt, if_pos c']
      rw [e] at k
      exact k H (Fr.refl _ _)
    · have c' : ¬ z = "." := fun q => c (decide_eq_true (congrArg V.str q))
      have e : isPt z = (decide ((Txt.split z SL).length ≤ 8) && (Txt.split z SL).all (fun y => isNm (tl y))) := by rw [isPt, if_neg c']
      rw [e] at k
      refine ⟨_, rfl, ⟨_, rfl⟩, z, SL, rfl, rfl, by decide +kernel, hz, fun p np => ?_⟩
      generalize hH : upd H p _ = H1
      obtain ⟨f1, h1⟩ := gen_new np hH
      have hsl : ∀ y ∈ Txt.split z SL, y.length ≤ z.length := fun y hy => split_len hy
      generalize Txt.split z SL = ys at h1 k hsl
      refine ⟨_, rfl, p, _, rfl, .inl (sq h1), _, _, rfl, rfl, _, rfl, ?_⟩
      refine ite2 (fun c => ?_) (fun c => ?_)
      · have c2 := of_decide_eq_true c
        rw [List.length_map] at c2
        have e : (decide (ys.length ≤ 8) && ys.all (fun y => isNm (tl y))) = false := by rw [decide_eq_false (by omega), Bool.false_and]
        rw [e] at k
        exact k H1 f1
      · have c2 : ¬ (8 : Int) < (ys.map V.str).length := fun q => c (decide_eq_true q)
        rw [List.length_map] at c2
        have e : (decide (ys.length ≤ 8) && ys.all (fun y => isNm (tl y))) = ys.all (fun y => isNm (tl y)) := by rw [decide_eq_true (by omega), Bool.true_and]
        rw [e] at k
        refine ⟨_, rfl, p, rfl, ⟨_, sq h1⟩, for_list (K := K) (a := p) (xs := ys.map V.str) (fun i σ H2 => H2 = H1 ∧ (∃ x, σ = [some (.str z), some (.ref p), x]) ∧ (ys.drop i).all (fun y => isNm (tl y)) = ys.all (fun y => isNm (tl y))) ?_ ?_ ?_ ?_⟩
        · exact ⟨rfl, ⟨_, rfl⟩, rfl⟩
        · rintro i σ H2 _ ⟨rfl, _⟩
          exact sq h1
        · rintro i y σ H2 hi ⟨rfl, ⟨x, rfl⟩, hd⟩
          obtain ⟨y, hy, rfl⟩ := map_get hi
          have hm : y ∈ ys := List.mem_of_getElem? hy
          have hyl := hsl y hm
          rw [drop_at hy, List.all_cons] at hd
          refine ⟨_, rfl, y, rfl, by omega, _, rfl, ?_⟩
          cases e : isNm (tl y) with
          | true =>
            rw [e, Bool.true_and] at hd
            exact iteF ⟨rfl, ⟨_, rfl⟩, hd⟩
          | false =>
            rw [e, Bool.false_and] at hd
            rw [← hd] at k
            exact iteT (k _ f1)
        · rintro σ H2 ⟨rfl, ⟨x, rfl⟩, hd⟩
          rw [List.length_map, List.drop_length, List.all_nil] at hd
          rw [← hd] at k
          exact k _ f1
/-! codes -/
def fnd (c : Nat) : Int := Txt.find ALPH ⟨#[c]⟩
def codeF (a : Int) (c : Nat) : Int := a * 27 + fnd c + 1
def sp_code : Sp := fun vs H Q _ => ∃ z : Str, vs = [.str z] ∧ Q (.int ((tl z).foldl codeF 0)) H
theorem ok_name_code (T : Txt K mg) : FnOk P w K mg base CX0 1 T.a_name_code T.fd_name_code ["name"] sp_code := by
  refine T.F_name_code.ok sc_name_code (fun vs H Q E h => ?_) (fun cdv A outer s H vs Q E hr h => ?_)
  · obtain ⟨z, rfl, _⟩ := h
    rfl
  · obtain ⟨z, rfl, k⟩ := h
    refine ⟨_, (pss_cons (ps_set (i := 1) sc_name_code.nd rfl (Or.inl rfl) pe_int)
        (pss_cons (ps_for PassesOwn.never rfl (pi_str (pv 0)) (pg_name (i := 2) sc_name_code.nd rfl (Or.inl rfl))
        (pss_one (ps_set (i := 1) sc_name_code.nd rfl (Or.inl rfl) (pe_op op_add (pe_op op_add (pe_op op_mul (pv 1) pe_int) (pe_m1 PySem.F.slot_str_find PySem.F.type_str_find mt_find (pe_glob (v := .str "abcdefghijklmnopqrstuvwxyz") rfl T.g_ALPHABET ⟨_, rfl⟩) (pv 2))) pe_int))))
        (pss_one (ps_ret (pv 1))))), ?_⟩
    refine ⟨_, rfl, z, rfl, for_it walk_str (fun i σ H' => H' = H ∧ ∃ (a : Int) (x : Option V), σ = [some (.str z), some (.int a), x] ∧ ((tl z).drop i).foldl codeF a = (tl z).foldl codeF 0) ?_ (fun _ _ _ _ _ => trivial) ?_ ?_⟩
    · exact ⟨rfl, 0, _, rfl, rfl⟩
    · rintro i x σ H1 H2 hi ⟨rfl, a, x, rfl, hd⟩ ⟨rfl, c, hc, rfl⟩
      rw [drop_at (tl_get hc), List.foldl_cons] at hd
      exact ⟨_, rfl, _, _, rfl, rfl, .inr ⟨by decide, by decide⟩, ⟨_, rfl⟩, _, rfl, ALPH, _, rfl, rfl, _, _, rfl, rfl, _, _, rfl, rfl, rfl, _, _, rfl, hd⟩
    · rintro σ H1 ⟨rfl, a, x, rfl, hd⟩
      rw [drop_end, List.foldl_nil] at hd
      rw [← hd] at k
      exact ⟨_, rfl, k⟩
theorem ok_law_code (T : Txt K mg) : FnOk P w K mg base CX0 1 T.a_law_code T.fd_law_code ["_law_name_here"] sp_code := by
  refine T.F_law_code.ok sc_law_code (fun vs H Q E h => ?_) (fun cdv A outer s H vs Q E hr h => ?_)
  · obtain ⟨z, rfl, _⟩ := h
    rfl
  · obtain ⟨z, rfl, k⟩ := h
    refine ⟨_, (pss_cons (ps_set (i := 1) sc_law_code.nd rfl (Or.inl rfl) pe_int)
        (pss_cons (ps_for PassesOwn.never rfl (pi_str (pv 0)) (pg_name (i := 2) sc_law_code.nd rfl (Or.inl rfl))
        (pss_one (ps_set (i := 1) sc_law_code.nd rfl (Or.inl rfl) (pe_op op_add (pe_op op_add (pe_op op_mul (pv 1) pe_int) (pe_m1 PySem.F.slot_str_find PySem.F.type_str_find mt_find pe_str (pv 2))) pe_int))))
        (pss_one (ps_ret (pv 1))))), ?_⟩
    refine ⟨_, rfl, z, rfl, for_it walk_str (fun i σ H' => H' = H ∧ ∃ (a : Int) (x : Option V), σ = [some (.str z), some (.int a), x] ∧ ((tl z).drop i).foldl codeF a = (tl z).foldl codeF 0) ?_ (fun _ _ _ _ _ => trivial) ?_ ?_⟩
    · exact ⟨rfl, 0, _, rfl, rfl⟩
    · rintro i x σ H1 H2 hi ⟨rfl, a, x, rfl, hd⟩ ⟨rfl, c, hc, rfl⟩
      rw [drop_at (tl_get hc), List.foldl_cons] at hd
      exact ⟨_, rfl, _, _, rfl, rfl, .inr ⟨by decide, by decide⟩, ⟨_, rfl⟩, _, rfl, ALPH, _, rfl, rfl, _, _, rfl, rfl, _, _, rfl, rfl, rfl, _, _, rfl, hd⟩
    · rintro σ H1 ⟨rfl, a, x, rfl, hd⟩
      rw [drop_end, List.foldl_nil] at hd
      rw [← hd] at k
      exact ⟨_, rfl, k⟩
/-! names of codes -/
def cnL : Nat → Int → List Nat → List Nat
  | 0, _, _ => [63]
  | k + 1, r, n => if 0 < r then (if r % 27 = 0 ∨ n.length = 4 then [63] else cnL k (r / 27) ((96 + r % 27).toNat :: n)) else (if n = [] then [63] else n)
def sp_code_name : Sp := fun vs H Q _ => ∃ n : Int, vs = [.int n] ∧ Q (.str (mkS (cnL 6 n []))) H
theorem mkS_cat (a b : List Nat) : (mkS a ++ mkS b : Str) = mkS (a ++ b) := TL.ext_tl (by rw [TL.tl_append])
theorem ok_code_name (T : Txt K mg) : FnOk P w K mg base CX0 1 T.a_code_name T.fd_code_name ["code"] sp_code_name := by
  refine T.F_code_name.ok sc_code_name (fun vs H Q E h => ?_) (fun cdv A outer s H vs Q E hr h => ?_)
  · obtain ⟨z, rfl, _⟩ := h
    rfl
  · obtain ⟨n, rfl, k⟩ := h
    refine ⟨_, (pss_cons (ps_set (i := 1) sc_code_name.nd rfl (Or.inl rfl) pe_str)
        (pss_cons (ps_set (i := 2) sc_code_name.nd rfl (Or.inl rfl) (pv 0))
        (pss_cons (ps_while PassesOwn.never (pt_cmpR op_gt (pv 2) pe_int (nomark _))
        (pss_cons (ps_if (PW.pt (pw_or (pt_cmpR op_eq (pe_op op_mod (pv 2) pe_int) pe_int (nomark _)) (pw_or1 (pt_cmpR op_eq (pe_callB call_len_str (by rfl) T.n_len (by decide +kernel) (pa_cons (pv 1) pa_nil)) pe_int (nomark _))))) (pss_one (ps_ret pe_str)) pss_nil)
        (pss_cons (ps_set (i := 1) sc_code_name.nd rfl (Or.inl rfl) (pe_op op_add_str (pe_ix ix_str (pe_glob (v := .str "abcdefghijklmnopqrstuvwxyz") rfl T.g_ALPHABET ⟨_, rfl⟩) (pe_op op_sub (pe_op op_mod (pv 2) pe_int) pe_int) (fun _ _ => rfl)) (pv 1)))
        (pss_one (ps_set (i := 2) sc_code_name.nd rfl (Or.inl rfl) (pe_op op_fdiv (pv 2) pe_int))))))
        (pss_cons (ps_if (pt_cmpR op_eq (pv 1) pe_str (nomark _)) (pss_one (ps_ret pe_str)) pss_nil)
        (pss_one (ps_ret (pv 1))))))), ?_⟩
    refine ⟨_, rfl, fun m σ H' => H = H' ∧ ∃ (r : Int) (l : List Nat), σ = [some (.int n), some (.str (mkS l)), some (.int r)] ∧ (m + l.length = 5 ∧ l.length ≤ 4) ∧ cnL (m + 1) r l = cnL 6 n [], ⟨5, rfl, n, [], rfl, ⟨rfl, by decide⟩, rfl⟩, ?_⟩
    rintro m σ H' ⟨rfl, r, l, rfl, hm, hc⟩
    have hlen : (mkS l).length = l.length := by rw [slen]
    refine ⟨_, rfl, _, _, rfl, rfl, _, rfl, ?_⟩
    refine ite2 (fun c => ?_) (fun c => ?_)
    · have c1 : 0 < r := of_decide_eq_true c
      rw [cnL, if_pos c1] at hc
      refine ⟨fun σ' H' => ∃ m', m' < m ∧ (H = H' ∧ ∃ (r : Int) (l : List Nat), σ' = [some (.int n), some (.str (mkS l)), some (.int r)] ∧ (m' + l.length = 5 ∧ l.length ≤ 4) ∧ cnL (m' + 1) r l = cnL 6 n []), fun σ' H' q => q, ?_⟩
      refine ⟨_, rfl, _, _, rfl, rfl, (by show (0 : Int) < 27; decide), rfl, _, rfl, ?_⟩
      refine ite2 (fun c2 => ?_) (fun c2 => ?_)
      · refine iteT ?_
        have c2' : r % 27 = 0 := V.int.inj (of_decide_eq_true c2)
        rw [if_pos (.inl c2')] at hc
        rw [← hc] at k
        exact k
      · have c2' : ¬ r % 27 = 0 := fun q => c2 (decide_eq_true (congrArg V.int q))
        refine ⟨_, rfl, _, rfl, by rw [hlen]; exact szle (by omega), rfl, _, rfl, ?_⟩
        refine ite2 (fun c3 => ?_) (fun c3 => ?_)
        · have c3' : (((mkS l).length : Nat) : Int) = 4 := V.int.inj (of_decide_eq_true c3)
          rw [if_pos (.inr (by omega))] at hc
          rw [← hc] at k
          exact k
        · have c3' : ¬ (((mkS l).length : Nat) : Int) = 4 := fun q => c3 (decide_eq_true (congrArg V.int q))
          rw [if_neg (by omega)] at hc
          have hr1 : 0 ≤ r % 27 := Int.emod_nonneg _ (by decide)
          have hr2 : r % 27 < 27 := Int.emod_lt_of_pos _ (by decide)
          have hat := alph_at (r := r % 27 - 1) (by omega) (by omega)
          refine ⟨_, rfl, _, _, rfl, rfl, (by show (0 : Int) < 27; decide), _, _, rfl, rfl, ALPH, _, _, rfl, rfl, szle (by decide +kernel), hat, _, rfl, _, _, rfl, rfl, szle ?_, ?_⟩
          · rw [hlen]
            show 1 + _ ≤ _
            omega
          · refine ⟨_, rfl, _, _, rfl, rfl, ⟨by decide, by decide⟩, ?_⟩
            obtain ⟨m, rfl⟩ : ∃ m', m = m' + 1 := by
              cases m with
              | zero => exact absurd hm (by omega)
              | succ m => exact ⟨m, rfl⟩
            refine ⟨m, Nat.lt_succ_self m, rfl, r / 27, (96 + r % 27).toNat :: l, ?_, by simp; omega, hc⟩
            have e : (⟨#[97 + (r % 27 - 1).toNat]⟩ ++ mkS l : Str) = mkS ((96 + r % 27).toNat :: l) := by
              rw [show (⟨#[97 + (r % 27 - 1).toNat]⟩ : Str) = mkS [97 + (r % 27 - 1).toNat] from rfl, mkS_cat, show 97 + (r % 27 - 1).toNat = (96 + r % 27).toNat by omega]
              rfl
            show [some (V.int n), some (V.str (⟨#[97 + (r % 27 - 1).toNat]⟩ ++ mkS l)), some (V.int (r / 27))] = _
            rw [e]
    · have c1 : ¬ 0 < r := fun q => c (decide_eq_true q)
      rw [cnL, if_neg c1] at hc
      refine ⟨_, rfl, rfl, _, rfl, ?_⟩
      refine ite2 (fun c2 => ?_) (fun c2 => ?_)
      · have c2' : mkS l = "" := V.str.inj (of_decide_eq_true c2)
        have e : l = [] := congrArg tl c2'
        rw [if_pos e] at hc
        rw [← hc] at k
        exact k
      · have c2' : ¬ l = [] := fun q => c2 (decide_eq_true (congrArg (fun l => V.str (mkS l)) q))
        rw [if_neg c2'] at hc
        rw [← hc] at k
        exact ⟨_, rfl, k⟩
/-! a drawn name -/
def sp_law_name : Sp := fun vs H Q _ => ∃ (a : Addr) (fs : List Int), vs = [.ref a] ∧ H a = some (.lst (fs.map V.int)) ∧ Feed fs ∧
  ∀ H' l fs', Fr [a] H H' → H' a = some (.lst (fs'.map V.int)) → Feed fs' → isNm l = true → Q (.str (mkS l)) H'
theorem ok_law_name (T : Txt K mg) : FnOk P w K mg base CX0 2 T.a_law_name T.fd_law_name ["_law_feed_here"] sp_law_name := by
  refine T.F_law_name.ok sc_law_name (fun vs H Q E h => ?_) (fun cdv A outer s H vs Q E hr h => ?_)
  · obtain ⟨a, fs, rfl, _⟩ := h
    rfl
  · obtain ⟨a, fs, rfl, h0, hf, k⟩ := h
    refine ⟨_, (pss_cons (ps_set (i := 1) sc_law_name.nd rfl (Or.inl rfl) pe_str)
        (pss_cons (ps_set (i := 2) sc_law_name.nd rfl (Or.inl rfl) pe_str)
        (pss_cons (ps_for PassesOwn.never rfl (pi_range1 rfl T.n_range (pa_cons (pe_op op_add pe_int (pe_call (ok_law_pick T) (hr.mono (by decide)) rfl T.m_law_pick T.F_law_pick.kp T.b_law_pick .nil pass0 (pa_cons (pv 0) (pa_cons pe_int pa_nil)))) pa_nil)) (pg_name (i := 3) sc_law_name.nd rfl (Or.inl rfl))
        (pss_one (ps_set (i := 2) sc_law_name.nd rfl (Or.inl rfl) (pe_op op_add_str (pv 2) (pe_ix ix_str (pv 1) (pe_call (ok_law_pick T) (hr.mono (by decide)) rfl T.m_law_pick T.F_law_pick.kp T.b_law_pick .nil pass0 (pa_cons (pv 0) (pa_cons pe_int pa_nil))) (fun _ _ => rfl))))))
        (pss_one (ps_ret (pv 2)))))), ?_⟩
    refine ⟨_, rfl, a, fs, 4, rfl, h0, hf, by decide, fun H1 r fs1 f1 h1 hf1 r0 r4 => ⟨_, _, rfl, rfl, 1 + r, rfl, by omega, by omega, for_range (n := (1 + r).toNat) (fun i σ H2 => ∃ (l : List Nat) (fs : List Int) (x : Option V), σ = [some (.ref a), some (.str ALPH), some (.str (mkS l)), x] ∧ Fr [a] H H2 ∧ H2 a = some (.lst (fs.map V.int)) ∧ Feed fs ∧ l.length = i ∧ l.all let1 = true) ?_ ?_ ?_⟩⟩
    · exact ⟨[], fs1, _, rfl, f1, h1, hf1, rfl, rfl⟩
    · rintro i σ H2 hi ⟨l, fs, x, rfl, f2, h2, hf2, hl, ha⟩
      have hlen : (mkS l).length = l.length := by rw [slen]
      refine ⟨_, rfl, _, rfl, _, rfl, a, fs, 26, rfl, h2, hf2, by decide, fun H3 q fs3 f3 h3 hf3 q0 q1 => ?_⟩
      refine ⟨ALPH, _, _, rfl, rfl, szle (by decide +kernel), alph_at q0 q1, _, _, rfl, rfl, szle ?_, ?_⟩
      · rw [hlen]
        show _ + 1 ≤ _
        omega
      · refine ⟨l ++ [97 + q.toNat], fs3, some (.int (0 + (i : Int))), ?_, f2.upS f3, h3, hf3, by simp; omega, ?_⟩
        · show [some (V.ref a), some (V.str ALPH), some (V.str (mkS l ++ mkS [97 + q.toNat])), _] = _
          rw [mkS_cat]
        · rw [List.all_append, ha]
          show (true && (let1 (97 + q.toNat) && true)) = true
          unfold let1
          rw [decide_eq_true (show 97 ≤ 97 + q.toNat by omega), decide_eq_true (show 97 + q.toNat ≤ 122 by omega)]
          rfl
    · rintro σ H2 ⟨l, fs, x, rfl, f2, h2, hf2, hl, ha⟩
      refine ⟨_, rfl, k H2 l fs f2 h2 hf2 ?_⟩
      rw [isNm, ha, decide_eq_true (show 1 ≤ l.length by omega), decide_eq_true (show l.length ≤ 4 by omega)]
      rfl
def sp_law_integer : Sp := fun vs H Q _ => ∃ i j : Int, vs = [.int i, .int j] ∧ Q (.bl (decide (i = j))) H
def sp_law_text : Sp := fun vs H Q _ => ∃ i j : Str, vs = [.str i, .str j] ∧ Q (.bl (decide (i = j))) H
theorem dec_int {i j : Int} : decide (V.int i = V.int j) = decide (i = j) := by
  by_cases h : i = j
  · rw [decide_eq_true h, decide_eq_true (congrArg V.int h)]
  · rw [decide_eq_false h, decide_eq_false fun q => h (V.int.inj q)]
theorem dec_str {i j : Str} : decide (V.str i = V.str j) = decide (i = j) := by
  by_cases h : i = j
  · rw [decide_eq_true h, decide_eq_true (congrArg V.str h)]
  · rw [decide_eq_false h, decide_eq_false fun q => h (V.str.inj q)]
theorem ok_law_integer (T : Txt K mg) : FnOk P w K mg base CX0 1 T.a_law_integer T.fd_law_integer ["_law_actual", "_law_due"] sp_law_integer := by
  refine T.F_law_integer.ok sc_law_integer (fun vs H Q E h => ?_) (fun cdv A outer s H vs Q E hr h => ?_)
  · obtain ⟨i, j, rfl, _⟩ := h
    rfl
  · obtain ⟨i, j, rfl, k⟩ := h
    refine ⟨_, (pss_one (ps_ret (pe_and (pe_callB call_isi (by rfl) T.n_isinstance (by decide +kernel) (pa_cons (pv 0) (pa_cons (pe_bltn (v := .ty "int") (u := .type "int") (by rfl) T.n_int (by decide +kernel) rfl) pa_nil))) (pe_and (pe_not (pe_callB call_isi (by rfl) T.n_isinstance (by decide +kernel) (pa_cons (pv 0) (pa_cons (pe_bltn (v := .ty "bool") (u := .type "bool") (by rfl) T.n_bool (by decide +kernel) rfl) pa_nil)))) (pe_one (pe_cmpR op_eq (pv 0) (pv 1) (nomark _))))))), ?_⟩
    refine ⟨_, rfl, _, _, _, _, true, rfl, .ty "int", .base (.int i), kit_ty (by decide +kernel), _, rfl, iteT ?_⟩
    refine ⟨_, rfl, _, _, _, _, false, rfl, .ty "bool", .base (.int i), kit_ty (by decide +kernel), _, rfl, _, rfl, iteT ?_⟩
    refine ⟨_, rfl, _, rfl, rfl, ?_⟩
    rw [dec_int]
    exact k
theorem ok_law_text (T : Txt K mg) : FnOk P w K mg base CX0 1 T.a_law_text T.fd_law_text ["_law_actual", "_law_due"] sp_law_text := by
  refine T.F_law_text.ok sc_law_text (fun vs H Q E h => ?_) (fun cdv A outer s H vs Q E hr h => ?_)
  · obtain ⟨i, j, rfl, _⟩ := h
    rfl
  · obtain ⟨i, j, rfl, k⟩ := h
    refine ⟨_, (pss_one (ps_ret (pe_and (pe_callB call_isi (by rfl) T.n_isinstance (by decide +kernel) (pa_cons (pv 0) (pa_cons (pe_bltn (v := .ty "str") (u := .type "str") (by rfl) T.n_str (by decide +kernel) rfl) pa_nil))) (pe_one (pe_cmpR op_eq (pv 0) (pv 1) (nomark _)))))), ?_⟩
    refine ⟨_, rfl, _, _, _, _, true, rfl, .ty "str", .base (.str i), kit_ty (by decide +kernel), _, rfl, iteT ?_⟩
    refine ⟨_, rfl, _, rfl, rfl, ?_⟩
    rw [dec_str]
    exact k
end
/-! digits -/
def dg : Nat → Int → List Int → Int × List Int
  | 0, r, ds => (r, ds)
  | k + 1, r, ds => if 0 < r then dg k (r / 27) (r % 27 :: ds) else dg k r ds
def dfin (p : Int × List Int) : List Nat := if 0 < p.1 ∨ p.2.length < 1 ∨ 4 < p.2.length ∨ 0 ∈ p.2 then [63] else p.2.map fun d => (96 + d).toNat
theorem dfin_bad : ∀ (k : Nat) (r : Int) (ds : List Int), (0 ∈ ds ∨ 4 < ds.length) → dfin (dg k r ds) = [63]
  | 0, r, ds, h => by
    rw [dg, dfin, if_pos (by rcases h with h | h; exact .inr (.inr (.inr h)); exact .inr (.inr (.inl h)))]
  | k + 1, r, ds, h => by
    rw [dg]
    split
    · refine dfin_bad k _ _ ?_
      rcases h with h | h
      · exact .inl (List.mem_cons_of_mem _ h)
      · exact .inr (by simp; omega)
    · exact dfin_bad k _ _ h
theorem dg_stop : ∀ (k : Nat) (r : Int) (ds : List Int), ¬ 0 < r → dg k r ds = (r, ds)
  | 0, r, ds, h => rfl
  | k + 1, r, ds, h => by rw [dg, if_neg h, dg_stop k r ds h]
theorem cn_dg : ∀ (m k : Nat) (r : Int) (ds : List Int), ds.length + m = 5 → 1 ≤ m → m ≤ k → (∀ d ∈ ds, 1 ≤ d ∧ d ≤ 26) →
    cnL (m + 1) r (ds.map fun d => (96 + d).toNat) = dfin (dg k r ds)
  | 0, k, r, ds, hl, h1, hk, hd => by omega
  | m + 1, 0, r, ds, hl, h1, hk, hd => by omega
  | m + 1, k + 1, r, ds, hl, h1, hk, hd => by
    rw [cnL]
    by_cases h : 0 < r
    · rw [if_pos h, dg, if_pos h]
      by_cases c : r % 27 = 0
      · rw [if_pos (.inl c), dfin_bad _ _ _ (.inl (by rw [c]; exact List.mem_cons_self))]
      · by_cases c4 : ds.length = 4
        · rw [if_pos (.inr (by rw [List.length_map]; exact c4)), dfin_bad _ _ _ (.inr (by simp; omega))]
        · rw [if_neg (by rw [List.length_map]; omega)]
          have e := cn_dg m k (r / 27) (r % 27 :: ds) (by simp; omega) (by omega) (by omega) (fun d hm => by
            rcases List.mem_cons.mp hm with q | q
            · rw [q]
              have := Int.emod_nonneg r (show (27 : Int) ≠ 0 by decide)
              have := Int.emod_lt_of_pos r (show (0 : Int) < 27 by decide)
              omega
            · exact hd d q)
          rw [← e]
          rfl
    · rw [if_neg h, dg_stop _ _ _ h]
      by_cases c : ds = []
      · subst c
        rw [List.map_nil, if_pos rfl, dfin, if_pos (.inr (.inl (Nat.lt_succ_self 0)))]
      · have hn : ¬ 0 ∈ ds := fun q => by have := hd 0 q; omega
        have hl0 : ds.length ≠ 0 := fun q => c (List.eq_nil_of_length_eq_zero q)
        rw [if_neg (by intro q; exact c (List.map_eq_nil_iff.mp q)), dfin, if_neg (by
          rintro (q | q | q | q)
          · exact h q
          · simp only at q; omega
          · simp only at q; omega
          · exact hn q)]
def decL (n : Int) : List Nat := dfin (dg 12 n [])
theorem dec_cn (n : Int) : cnL 6 n [] = decL n := cn_dg 5 12 n [] rfl (by decide) (by decide) (fun d h => absurd h (by simp))
/-! codes of names -/
theorem fnd26 : ∀ n, n < 26 → fnd (97 + n) = (n : Int) := by decide +kernel
theorem fnd_let {c : Nat} (h : let1 c = true) : fnd c = (c : Int) - 97 := by
  unfold let1 at h
  rw [Bool.and_eq_true, decide_eq_true_eq, decide_eq_true_eq] at h
  have e := fnd26 (c - 97) (by omega)
  rw [show 97 + (c - 97) = c by omega] at e
  rw [e]
  omega
theorem let1_iff {c : Nat} : let1 c = true ↔ 97 ≤ c ∧ c ≤ 122 := by
  unfold let1
  rw [Bool.and_eq_true, decide_eq_true_eq, decide_eq_true_eq]
theorem cn_step {k c : Nat} {v : Int} {n : List Nat} (hv : 0 ≤ v) (hc : let1 c = true) (hn : n.length < 4) : cnL (k + 1) (codeF v c) n = cnL k v (c :: n) := by
  have h := let1_iff.mp hc
  have e : codeF v c = v * 27 + ((c : Int) - 96) := by
    unfold codeF
    rw [fnd_let hc]
    omega
  rw [e, cnL, if_pos (by omega), if_neg (by omega), show (v * 27 + ((c : Int) - 96)) / 27 = v by omega, show (96 + (v * 27 + ((c : Int) - 96)) % 27).toNat = c by omega]
theorem cn_end {k : Nat} {n : List Nat} (hn : n ≠ []) : cnL (k + 1) 0 n = n := by
  rw [cnL, if_neg (by decide), if_neg hn]
theorem code_nonneg : ∀ (l : List Nat) (a : Int), 0 ≤ a → l.all let1 = true → 0 ≤ l.foldl codeF a
  | [], a, h, _ => h
  | c :: r, a, h, hl => by
    rw [List.all_cons, Bool.and_eq_true] at hl
    refine code_nonneg r _ ?_ hl.2
    unfold codeF
    rw [fnd_let hl.1]
    have := let1_iff.mp hl.1
    omega
theorem cn_code : ∀ (l : List Nat) (k : Nat) (n : List Nat), l.all let1 = true → l.length + n.length ≤ 4 → l ≠ [] ∨ n ≠ [] → l.length < k → cnL k (l.reverse.foldl codeF 0) n = l.reverse ++ n
  | [], k, n, _, _, h, hk => by
    obtain ⟨k, rfl⟩ : ∃ j, k = j + 1 := ⟨k - 1, by simp at hk; omega⟩
    exact cn_end (by rcases h with h | h; exact absurd rfl h; exact h)
  | c :: l, k, n, hl, hn, h, hk => by
    obtain ⟨k, rfl⟩ : ∃ j, k = j + 1 := ⟨k - 1, by simp at hk; omega⟩
    rw [List.all_cons, Bool.and_eq_true] at hl
    rw [List.reverse_cons, List.foldl_append, List.foldl_cons, List.foldl_nil, cn_step (code_nonneg _ _ (by decide) (by rw [List.all_reverse]; exact hl.2)) hl.1 (by simp at hn; omega),
      cn_code l k (c :: n) hl.2 (by simp at hn ⊢; omega) (.inr (by simp)) (by simp at hk; omega), List.append_assoc]
    rfl
theorem nm_all {l : List Nat} (h : isNm l = true) : l.all let1 = true ∧ 1 ≤ l.length ∧ l.length ≤ 4 := by
  unfold isNm at h
  rw [Bool.and_eq_true, Bool.and_eq_true, decide_eq_true_eq, decide_eq_true_eq] at h
  exact ⟨h.2, h.1.1, h.1.2⟩
theorem cn_name {l : List Nat} (h : isNm l = true) : cnL 6 (l.foldl codeF 0) [] = l := by
  obtain ⟨h1, h2, h3⟩ := nm_all h
  have e := cn_code l.reverse 6 [] (by rw [List.all_reverse]; exact h1) (by simp; omega) (.inl (by intro q; rw [List.reverse_eq_nil_iff] at q; rw [q] at h2; simp at h2)) (by simp; omega)
  rw [List.reverse_reverse, List.append_nil] at e
  exact e
theorem nm_no {l : List Nat} {c : Nat} (hc : c ∈ l) (h : let1 c = false) : isNm l = false := by
  cases e : isNm l with
  | false => rfl
  | true =>
    have := List.all_eq_true.mp (nm_all e).1 c hc
    rw [h] at this
    cases this
theorem nm_long {l : List Nat} (h : 4 < l.length) : isNm l = false := by
  cases e : isNm l with
  | false => rfl
  | true => have := (nm_all e).2.2; omega
/-! paths of parts -/
theorem tl_SL : tl SL = [47] := by decide +kernel
theorem tl_mk (l : List Nat) : tl (mkS l) = l := rfl
theorem join_mk (parts : List (List Nat)) : Txt.join SL (parts.map mkS) = mkS (TL.joinL [47] parts) := by
  refine TL.ext_tl ?_
  rw [TL.join_eq, TL.tl_join]
  show TL.joinL (tl SL) _ = _
  rw [tl_SL, List.map_map]
  show TL.joinL [47] (parts.map fun l => TL.tl (mkS l)) = TL.joinL [47] parts
  rw [show (parts.map fun l => TL.tl (mkS l)) = parts from List.map_id' parts]
theorem split_mk {parts : List (List Nat)} (hne : parts ≠ []) (hp : ∀ p ∈ parts, 47 ∉ p) : Txt.split (mkS (TL.joinL [47] parts)) SL = parts.map mkS := by
  rw [← join_mk]
  refine TL.split_join (s := 47) (S := []) tl_SL (by decide +kernel) (by simpa using hne) fun p hm => ?_
  obtain ⟨q, hq, rfl⟩ := List.mem_map.mp hm
  exact hp q hq
theorem dot_tl : tl ("." : Str) = [46] := by decide +kernel
theorem pt_join {parts : List (List Nat)} (hne : parts ≠ []) (hp : ∀ p ∈ parts, 47 ∉ p) (hd : TL.joinL [47] parts ≠ [46]) :
    isPt (mkS (TL.joinL [47] parts)) = (decide (parts.length ≤ 8) && parts.all isNm) := by
  rw [isPt, if_neg (fun q => hd (by have e := congrArg tl q; rw [dot_tl] at e; exact e)), split_mk hne hp, List.length_map, List.all_map]
  rfl
theorem nm_slash {l : List Nat} (h : isNm l = true) : 47 ∉ l := fun q => by
  have := nm_no q (by decide)
  rw [h] at this
  cases this
theorem nm_dot {l : List Nat} (h : isNm l = true) : l ≠ [46] := fun q => by
  rw [q] at h
  exact absurd h (by decide)
theorem joinL_len : ∀ (p : List Nat) (ps : List (List Nat)), p.length ≤ (TL.joinL [47] (p :: ps)).length ∧ (ps ≠ [] → p.length < (TL.joinL [47] (p :: ps)).length)
  | p, [] => ⟨Nat.le_refl _, fun h => absurd rfl h⟩
  | p, q :: r => by
    rw [TL.joinL]
    simp
/-- a row of names is a path exactly if there are at most eight -/
theorem pt_names {ps : List (List Nat)} (hne : ps ≠ []) (h : ∀ p ∈ ps, isNm p = true) : isPt (mkS (TL.joinL [47] ps)) = decide (ps.length ≤ 8) := by
  rw [pt_join hne (fun p hp => nm_slash (h p hp)), show ps.all isNm = true from List.all_eq_true.mpr h, Bool.and_true]
  intro q
  cases ps with
  | nil => exact hne rfl
  | cons p r =>
    have hp := h p List.mem_cons_self
    cases r with
    | nil => exact nm_dot hp q
    | cons r0 rs =>
      have h1 := (joinL_len p (r0 :: rs)).2 (by simp)
      have h2 := (nm_all hp).2.1
      rw [q] at h1
      have h3 : p.length < 1 := h1
      omega
theorem pt_bad {ps : List (List Nat)} {p : List Nat} (hne : ps ≠ []) (hs : ∀ p ∈ ps, 47 ∉ p) (hd : TL.joinL [47] ps ≠ [46]) (hp : p ∈ ps) (hb : isNm p = false) : isPt (mkS (TL.joinL [47] ps)) = false := by
  rw [pt_join hne hs hd]
  have : ps.all isNm = false := by
    cases e : ps.all isNm with
    | false => rfl
    | true =>
      have := List.all_eq_true.mp e p hp
      rw [hb] at this
      cases this
  rw [this, Bool.and_false]
/-! the six texts that are no names, the six that are no paths -/
def long5 (a b : List Nat) : List Nat := (a ++ b ++ [97, 98, 99, 100, 101]).take 5
def badNames (a b : List Nat) : List (List Nat) := [[], long5 a b, a.take 3 ++ [65], a.take 3 ++ [49], a.take 2 ++ [32], [a.headD 0, 46, b.headD 0]]
theorem badNames_no {a b : List Nat} : ∀ l ∈ badNames a b, isNm l = false := by
  intro l hl
  simp only [badNames, List.mem_cons, List.not_mem_nil, or_false] at hl
  rcases hl with rfl | rfl | rfl | rfl | rfl | rfl
  · decide
  · refine nm_long ?_
    simp only [long5, List.length_take, List.length_append]
    simp
  · exact nm_no (c := 65) (by simp) (by decide)
  · exact nm_no (c := 49) (by simp) (by decide)
  · exact nm_no (c := 32) (by simp) (by decide)
  · exact nm_no (c := 46) (by simp) (by decide)
def badPaths (a b : List Nat) : List (List Nat) := [[], 47 :: (a ++ 47 :: b), a ++ [47, 47] ++ b, (a ++ 47 :: b) ++ [47], (a ++ 47 :: b) ++ [47, 46], b ++ 47 :: long5 a b]
theorem long5_slash {a b : List Nat} (ha : isNm a = true) (hb : isNm b = true) : 47 ∉ long5 a b := fun q => by
  have q2 := List.mem_of_mem_take q
  simp only [List.mem_append] at q2
  rcases q2 with (q2 | q2) | q2
  · exact nm_slash ha q2
  · exact nm_slash hb q2
  · revert q2
    decide
theorem joins (a b c : List Nat) : TL.joinL [47] [a, b, c] = a ++ 47 :: (b ++ 47 :: c) := rfl
theorem join2 (a b : List Nat) : TL.joinL [47] [a, b] = a ++ 47 :: b := rfl
theorem not_dot {l : List Nat} (h : 47 ∈ l) : l ≠ [46] := fun q => by
  rw [q] at h
  revert h
  decide
theorem badPaths_no {a b : List Nat} (ha : isNm a = true) (hb : isNm b = true) : ∀ l ∈ badPaths a b, isPt (mkS l) = false := by
  have sa := nm_slash ha
  have sb := nm_slash hb
  have s3 : ∀ x y z : List Nat, 47 ∉ x → 47 ∉ y → 47 ∉ z → ∀ p ∈ [x, y, z], 47 ∉ p := by
    intro x y z hx hy hz p hp
    simp only [List.mem_cons, List.not_mem_nil, or_false] at hp
    rcases hp with rfl | rfl | rfl <;> assumption
  intro l hl
  simp only [badPaths, List.mem_cons, List.not_mem_nil, or_false] at hl
  rcases hl with rfl | rfl | rfl | rfl | rfl | rfl
  · exact pt_bad (ps := [[]]) (p := []) (by simp) (by simp) (by decide) (by simp) (by decide)
  · refine pt_bad (ps := [[], a, b]) (p := []) (by simp) (s3 _ _ _ (by simp) sa sb) (not_dot (by rw [joins]; simp)) (by simp) (by decide)
  · have e : a ++ [47, 47] ++ b = TL.joinL [47] [a, [], b] := by rw [joins]; simp
    rw [e]
    exact pt_bad (p := []) (by simp) (s3 _ _ _ sa (by simp) sb) (not_dot (by rw [joins]; simp)) (by simp) (by decide)
  · have e : (a ++ 47 :: b) ++ [47] = TL.joinL [47] [a, b, []] := by rw [joins]; simp
    rw [e]
    exact pt_bad (p := []) (by simp) (s3 _ _ _ sa sb (by simp)) (not_dot (by rw [joins]; simp)) (by simp) (by decide)
  · have e : (a ++ 47 :: b) ++ [47, 46] = TL.joinL [47] [a, b, [46]] := by rw [joins]; simp
    rw [e]
    exact pt_bad (p := [46]) (by simp) (s3 _ _ _ sa sb (by decide)) (not_dot (by rw [joins]; simp)) (by simp) (by decide)
  · have e : b ++ 47 :: long5 a b = TL.joinL [47] [b, long5 a b] := rfl
    rw [e]
    refine pt_bad (p := long5 a b) (by simp) ?_ (not_dot (by rw [join2]; simp)) (by simp) (badNames_no (a := a) (b := b) _ (by simp [badNames]))
    intro p hp
    simp only [List.mem_cons, List.not_mem_nil, or_false] at hp
    rcases hp with rfl | rfl
    · exact sb
    · exact long5_slash ha hb
section
variable {P : Program} {w : World} {K : PySem.W.Frag} {mg : Str → Option Value} {base : Heap}
def sp_law_decoded : Sp := fun vs H Q _ => ∃ n : Int, vs = [.int n] ∧ ∀ H', Fr [] H H' → Q (.str (mkS (decL n))) H'
theorem inV_int {k : Int} : ∀ {ds : List Int}, inV (.int k) (ds.map V.int) = decide (k ∈ ds)
  | [] => rfl
  | d :: ds => by
    have e := inV_int (k := k) (ds := ds)
    unfold inV at e ⊢
    rw [List.map_cons, List.any_cons, e]
    show ((d == k) || _) = _
    by_cases h : d = k
    · rw [decide_eq_true (show k ∈ d :: ds by rw [h]; exact List.mem_cons_self), show (d == k) = true from beq_iff_eq.mpr h, Bool.true_or]
    · have h2 : (d == k) = false := by simpa using h
      rw [h2, Bool.false_or]
      by_cases h3 : k ∈ ds
      · rw [decide_eq_true h3, decide_eq_true (List.mem_cons_of_mem _ h3)]
      · rw [decide_eq_false h3, decide_eq_false (by simp; exact ⟨fun q => h q.symm, h3⟩)]
theorem flat_ints (ds : List Int) : (ds.map V.int).all flatV = true := by
  rw [List.all_map]
  exact List.all_eq_true.mpr fun _ _ => rfl
theorem joinL_nil : ∀ (l : List Nat), TL.joinL [] (l.map fun c => [c]) = l
  | [] => rfl
  | [c] => rfl
  | c :: d :: r => by
    show [c] ++ ([] ++ TL.joinL [] ((d :: r).map fun c => [c])) = _
    rw [joinL_nil (d :: r)]
    rfl
theorem join_signs (l : List Nat) : Txt.join ("" : Str) (l.map fun c => mkS [c]) = mkS l := by
  refine TL.ext_tl ?_
  rw [TL.join_eq, TL.tl_join]
  show TL.joinL [] _ = _
  rw [List.map_map]
  show TL.joinL [] (l.map fun c => [c]) = l
  exact joinL_nil l
theorem sum_ones (l : List Nat) : ((l.map fun c => mkS [c]).map (·.length)).sum = l.length := by
  rw [List.map_map]
  induction l with
  | nil => rfl
  | cons c r ih =>
    rw [List.map_cons, List.sum_cons, ih, List.length_cons, Nat.add_comm]
    rfl
theorem ok_law_decoded (T : Txt K mg) : FnOk P w K mg base CX0 1 T.a_law_decoded T.fd_law_decoded ["_law_number"] sp_law_decoded := by
  refine T.F_law_decoded.ok sc_law_decoded (fun vs H Q E h => ?_) (fun cdv A outer s H vs Q E hr h => ?_)
  · obtain ⟨n, rfl, _⟩ := h
    rfl
  · obtain ⟨n, rfl, k⟩ := h
    refine ⟨_, (pss_cons (ps_set (i := 1) sc_law_decoded.nd rfl (Or.inl rfl) (pe_lst pa_nil))
        (pss_cons (ps_set (i := 2) sc_law_decoded.nd rfl (Or.inl rfl) (pv 0))
        (pss_cons (ps_for PassesOwn.never rfl (pi_range1 rfl T.n_range (pa_cons pe_int pa_nil)) (pg_name (i := 3) sc_law_decoded.nd rfl (Or.inl rfl))
        (pss_one (ps_if (pt_cmpR op_gt (pv 2) pe_int (nomark _)) (pss_cons (ps_expr (pe_bm PySem.F.plainAttrs_list PySem.F.slot_list_insert PySem.F.type_list_insert mt_insert (pv 1) (pa_cons pe_int (pa_cons (pe_op op_mod (pe_callTy call_int1 (by rfl) T.n_int (by decide +kernel) (pa_cons (pv 2) pa_nil)) pe_int) pa_nil))))
        (pss_one (ps_set (i := 2) sc_law_decoded.nd rfl (Or.inl rfl) (pe_op op_fdiv (pv 2) pe_int)))) pss_nil)))
        (pss_cons (ps_if (PW.pt (pw_or (pt_cmpR op_gt (pv 2) pe_int (nomark _)) (pw_or (pt_cmpR op_lt (pe_callB call_len_seq (by rfl) T.n_len (by decide +kernel) (pa_cons (pv 1) pa_nil)) pe_int (nomark _)) (pw_or (pt_cmpR op_gt (pe_callB call_len_seq (by rfl) T.n_len (by decide +kernel) (pa_cons (pv 1) pa_nil)) pe_int (nomark _)) (pw_or1 (pt_cmpR op_in_seq pe_int (pv 1) rfl)))))) (pss_one (ps_ret pe_str)) pss_nil)
        (pss_one (ps_ret (pe_join pe_str (pe_lc (own := [("_law_digit", 4)]) (g := gName 4) (tt := tYes) (by rfl) sc_law_decoded.nd (pi_list (pv 1)) (blkOk_by (own := [("_law_digit", 4)]) (N := N_law_decoded) (sc := defScope s_law_decoded) (by decide +kernel)) (fun _ _ _ _ _ => pg_name (i := 4) sc_law_decoded.nd rfl (Or.inl rfl)) (fun _ _ _ _ _ => pts_nil) (fun _ _ _ _ _ => (pe_ix ix_str pe_str (pe_op op_sub (pv 4) pe_int) (fun _ _ => rfl))))))))))), ?_⟩
    refine ⟨by decide, fun p np => ?_⟩
    generalize hH : upd H p _ = H1
    obtain ⟨f1, h1⟩ := gen_new np hH
    refine ⟨_, rfl, 12, rfl, by decide, by decide, for_range (n := 12) (fun i σ H2 => ∃ (r : Int) (ds : List Int) (x : Option V), σ = [some (.int n), some (.ref p), some (.int r), x, none] ∧ Fr [] H H2 ∧ H2 p = some (.lst (ds.map V.int)) ∧ ds.length ≤ i ∧ i ≤ 12 ∧ (∀ d ∈ ds, 0 ≤ d ∧ d ≤ 26) ∧ dg (12 - i) r ds = dg 12 n []) ?_ ?_ ?_⟩
    · exact ⟨n, [], _, rfl, f1, h1, by decide, by decide, by simp, rfl⟩
    · rintro i σ H2 hi ⟨r, ds, x, rfl, f2, h2, hl, hi2, hb, hd⟩
      rw [show 12 - i = (12 - (i + 1)) + 1 by omega, dg] at hd
      refine ⟨_, rfl, _, _, rfl, rfl, _, rfl, ?_⟩
      refine ite2 (fun c => ?_) (fun c => ?_)
      · have c1 : 0 < r := of_decide_eq_true c
        rw [if_pos c1] at hd
        refine ⟨_, rfl, .inl ⟨rfl, _, sq h2⟩, _, rfl, .inl ⟨_, rfl, _, _, rfl, rfl, (by show (0 : Int) < 27; decide), p, _, 0, _, rfl, rfl, h2, sz (by simp; omega), by decide, by decide, ?_⟩⟩
        generalize hH5 : upd H2 p _ = H5
        obtain ⟨f5, h5⟩ := gen_upd hH5
        refine ⟨_, rfl, _, _, rfl, rfl, ⟨by decide, by decide⟩, _, r % 27 :: ds, _, rfl, f2.up1 f5 (.inr np), h5, by simp; omega, by omega, ?_, hd⟩
        intro d hm
        rcases List.mem_cons.mp hm with q | q
        · rw [q]
          have := Int.emod_nonneg r (show (27 : Int) ≠ 0 by decide)
          have := Int.emod_lt_of_pos r (show (0 : Int) < 27 by decide)
          omega
        · exact hb d q
      · have c1 : ¬ 0 < r := fun q => c (decide_eq_true q)
        rw [if_neg c1] at hd
        exact ⟨r, ds, _, rfl, f2, h2, by omega, by omega, hb, hd⟩
    · rintro σ H2 ⟨r, ds, x, rfl, f2, h2, hl, hi2, hb, hd⟩
      have hd2 : decL n = dfin (r, ds) := by rw [decL, ← hd]; rfl
      rw [hd2, dfin] at k
      simp only at k
      refine ⟨_, rfl, _, _, rfl, rfl, _, rfl, ?_⟩
      refine ite2 (fun c => iteT ?_) (fun c => ?_)
      · have c1 : 0 < r := of_decide_eq_true c
        rw [if_pos (.inl c1)] at k
        exact k H2 f2
      · have c1 : ¬ 0 < r := fun q => c (decide_eq_true q)
        refine ⟨_, rfl, p, _, rfl, .inl (sq h2), _, _, rfl, rfl, _, rfl, ?_⟩
        refine ite2 (fun c => iteT ?_) (fun c => ?_)
        · have c2 := of_decide_eq_true c
          rw [List.length_map] at c2
          rw [if_pos (.inr (.inl (by omega)))] at k
          exact k H2 f2
        · have c2 : ¬ ((ds.map V.int).length : Int) < 1 := fun q => c (decide_eq_true q)
          rw [List.length_map] at c2
          refine ⟨_, rfl, p, _, rfl, .inl (sq h2), _, _, rfl, rfl, _, rfl, ?_⟩
          refine ite2 (fun c => iteT ?_) (fun c => ?_)
          · have c3 := of_decide_eq_true c
            rw [List.length_map] at c3
            rw [if_pos (.inr (.inr (.inl (by omega))))] at k
            exact k H2 f2
          · have c3 : ¬ (4 : Int) < ((ds.map V.int).length : Int) := fun q => c (decide_eq_true q)
            rw [List.length_map] at c3
            refine ⟨_, rfl, p, _, rfl, .inl (sq h2), rfl, flat_ints ds, _, rfl, ?_⟩
            rw [inV_int]
            by_cases c4 : (0 : Int) ∈ ds
            · refine iteT' (by simp [c4]) ?_
              rw [if_pos (.inr (.inr (.inr c4)))] at k
              exact k H2 f2
            · refine iteF' (by simp [c4]) ?_
              rw [if_neg (by rintro (q | q | q | q); exact c1 q; omega; omega; exact c4 q)] at k
              refine ⟨⟨_, rfl⟩, _, rfl, p, rfl, ⟨_, sq h2⟩, fun D nD => lc_list (K := K) (a := p) (xs := ds.map V.int) (fun i H3 => Fr [] H2 H3 ∧ ∃ l : List Nat, H3 D = some (.lst ((l.map fun c => mkS [c]).map V.str)) ∧ l = (ds.take i).map fun d => (96 + d).toNat) ?_ ?_ ?_ ?_⟩
              · exact ⟨Fr.new nD, [], upd_same, rfl⟩
              · rintro i H3 _ ⟨f3, _⟩
                exact sq (f3.get0 h2)
              · rintro i y H3 hi ⟨f3, l, h3, rfl⟩
                obtain ⟨d, hd, rfl⟩ := map_get hi
                have hm : d ∈ ds := List.mem_of_getElem? hd
                have hb1 := hb d hm
                have hd0 : d ≠ 0 := fun q => c4 (q ▸ hm)
                refine ⟨rfl, _, rfl, _, _, rfl, rfl, ALPH, _, _, rfl, rfl, szle (by decide +kernel), alph_at (r := d - 1) (by omega) (by omega), _, h3, sz (by simp; omega), ?_⟩
                refine ⟨f3.up1 Fr.mut (.inr nD), (ds.take (i + 1)).map (fun d => (96 + d).toNat), ?_, rfl⟩
                rw [upd_same, List.take_add_one, hd]
                show some (HO.lst _) = some (HO.lst _)
                rw [show (97 + (d - 1).toNat) = (96 + d).toNat by omega]
                simp
              · rintro H3 ⟨f3, l, h3, rfl⟩
                rw [List.length_map, List.take_length] at h3
                refine ⟨"", D, _, rfl, rfl, .inl (sq h3), ?_, ?_⟩
                · rw [sum_ones, show ("" : Str).length = 0 by decide +kernel]
                  simp
                  omega
                · rw [join_signs]
                  exact k H3 (f2.up0 f3)
/-! what the law asks of names -/
def sp_law_names_good (K : PySem.W.Frag) : Sp := fun vs H Q _ => ∃ (a : Addr) (ls : List (List Nat)), vs = [.ref a] ∧ H a = some (.lst ((ls.map mkS).map V.str)) ∧ (∀ l ∈ ls, isNm l = true) ∧ ∀ H', Fr [] H H' → Q (.bl true) H'
theorem mkS_len (l : List Nat) : (mkS l).length = l.length := by rw [slen]
theorem nm_path {l : List Nat} (h : isNm l = true) : isPt (mkS l) = true := by
  have e := pt_names (ps := [l]) (by simp) (by simpa using h)
  exact e
theorem ok_law_names_good (T : Txt K mg) : FnOk P w K mg base CX0 3 T.a_law_names_good T.fd_law_names_good ["_law_names"] (sp_law_names_good K) := by
  refine T.F_law_names_good.ok sc_law_names_good (fun vs H Q E h => ?_) (fun cdv A outer s H vs Q E hr h => ?_)
  · obtain ⟨a, ls, rfl, _⟩ := h
    rfl
  · obtain ⟨a, ls, rfl, h0, hn, k⟩ := h
    refine ⟨_, (pss_cons (ps_for PassesOwn.never rfl (pi_list (pv 0)) (pg_name (i := 1) sc_law_names_good.nd rfl (Or.inl rfl))
        (pss_cons (ps_if (PW.pt (pw_or (pt_cmpR op_isnot_bl (pe_call (ok_is_name T) (hr.mono (by decide)) rfl T.m_is_name T.F_is_name.kp T.b_is_name .nil pass0 (pa_cons (pv 1) pa_nil)) pe_bl (nomark _)) (pw_or1 (pt_not (pt_val (pe_call (ok_law_integer T) (hr.mono (by decide)) rfl T.m_law_integer T.F_law_integer.kp T.b_law_integer .nil pass0 (pa_cons (pe_call (ok_name_code T) (hr.mono (by decide)) rfl T.m_name_code T.F_name_code.kp T.b_name_code .nil pass0 (pa_cons (pv 1) pa_nil)) (pa_cons (pe_call (ok_law_code T) (hr.mono (by decide)) rfl T.m_law_code T.F_law_code.kp T.b_law_code .nil pass0 (pa_cons (pv 1) pa_nil)) pa_nil)))))))) (pss_one (ps_ret pe_bl)) pss_nil)
        (pss_one (ps_if (PW.pt (pw_or (pt_not (pt_val (pe_call (ok_law_text T) (hr.mono (by decide)) rfl T.m_law_text T.F_law_text.kp T.b_law_text .nil pass0 (pa_cons (pe_call (ok_code_name T) (hr.mono (by decide)) rfl T.m_code_name T.F_code_name.kp T.b_code_name .nil pass0 (pa_cons (pe_call (ok_name_code T) (hr.mono (by decide)) rfl T.m_name_code T.F_name_code.kp T.b_name_code .nil pass0 (pa_cons (pv 1) pa_nil)) pa_nil)) (pa_cons (pv 1) pa_nil))))) (pw_or1 (pt_cmpR op_isnot_bl (pe_call (ok_is_path T) (hr.mono (by decide)) rfl T.m_is_path T.F_is_path.kp T.b_is_path .nil pass0 (pa_cons (pv 1) pa_nil)) pe_bl (nomark _))))) (pss_one (ps_ret pe_bl)) pss_nil))))
        (pss_one (ps_ret pe_bl))), ?_⟩
    refine ⟨_, rfl, a, rfl, ⟨_, sq h0⟩, for_list (K := K) (a := a) (xs := (ls.map mkS).map V.str) (fun i σ H2 => (∃ x, σ = [some (.ref a), x]) ∧ Fr [] H H2) ?_ ?_ ?_ ?_⟩
    · exact ⟨⟨_, rfl⟩, Fr.refl _ _⟩
    · rintro i σ H2 _ ⟨_, f2⟩
      exact sq (f2.get0 h0)
    · rintro i y σ H2 hi ⟨⟨x, rfl⟩, f2⟩
      obtain ⟨z, hz, rfl⟩ := map_get hi
      obtain ⟨l, hl, rfl⟩ := map_get hz
      have hnm := hn l (List.mem_of_getElem? hl)
      have h4 := (nm_all hnm).2.2
      have hlen := mkS_len l
      refine ⟨_, rfl, mkS l, rfl, szle (by omega), _, _, rfl, rfl, _, rfl, ?_⟩
      refine iteF' (by rw [tl_mk, hnm]; rfl) ?_
      refine ⟨_, rfl, mkS l, rfl, _, rfl, mkS l, rfl, _, _, rfl, _, rfl, ?_⟩
      refine iteF' (by simp) ?_
      refine ⟨_, rfl, mkS l, rfl, _, rfl, _, rfl, _, _, rfl, _, rfl, ?_⟩
      refine iteF' (by rw [tl_mk, cn_name hnm]; simp) ?_
      refine ⟨_, rfl, mkS l, rfl, szle (by omega), fun H3 f3 => ⟨_, _, rfl, rfl, _, rfl, ?_⟩⟩
      refine iteF' (by rw [nm_path hnm]; rfl) ?_
      exact ⟨⟨_, rfl⟩, f2.up0 f3⟩
    · rintro σ H2 ⟨⟨x, rfl⟩, f2⟩
      exact k H2 f2
def sp_law_bad_good : Sp := fun vs H Q _ => ∃ (a b : List Nat), vs = [.str (mkS a), .str (mkS b)] ∧ isNm a = true ∧ isNm b = true ∧ ∀ H', Fr [] H H' → Q (.bl true) H'
theorem cut_mk (l : List Nat) (n : Nat) : cutS (mkS l) none (some (n : Int)) = mkS (l.take n) := by
  unfold cutS
  rw [mkS_len, HT.sIx_none, HT.sIx_nat]
  show mkS ((l.drop 0).take (min n l.length - 0)) = mkS (l.take n)
  rw [List.drop_zero, Nat.sub_zero]
  congr 1
  by_cases h : n ≤ l.length
  · rw [Nat.min_eq_left h]
  · rw [Nat.min_eq_right (by omega), List.take_length, List.take_of_length_le (by omega)]
theorem str_e : ("" : Str) = mkS [] := by decide +kernel
theorem str_5 : ("abcde" : Str) = mkS [97, 98, 99, 100, 101] := by decide +kernel
theorem str_A : ("A" : Str) = mkS [65] := by decide +kernel
theorem str_1 : ("1" : Str) = mkS [49] := by decide +kernel
theorem str_s : (" " : Str) = mkS [32] := by decide +kernel
theorem str_d : ("." : Str) = mkS [46] := by decide +kernel
theorem str_l : ("/" : Str) = mkS [47] := by decide +kernel
theorem str_ll : ("//" : Str) = mkS [47, 47] := by decide +kernel
theorem str_ld : ("/." : Str) = mkS [47, 46] := by decide +kernel
theorem at0 (c : Nat) (r : List Nat) : atI (tl (mkS (c :: r))) 0 = some c := atI_nat (j := 0) rfl
theorem ok_law_bad_good (T : Txt K mg) : FnOk P w K mg base CX0 3 T.a_law_bad_good T.fd_law_bad_good ["_law_name_here", "_law_other"] sp_law_bad_good := by
  refine T.F_law_bad_good.ok sc_law_bad_good (fun vs H Q E h => ?_) (fun cdv A outer s H vs Q E hr h => ?_)
  · obtain ⟨a, b, rfl, _⟩ := h
    rfl
  · obtain ⟨a, b, rfl, ha, hb, k⟩ := h
    have la := (nm_all ha).2
    have lb := (nm_all hb).2
    have ma := mkS_len a
    have mb := mkS_len b
    have L : ∀ x y : Str, (x ++ y : Str).length = x.length + y.length := fun x y => by rw [slen, slen, slen, show tl (x ++ y) = _ from TL.tl_append x y, List.length_append]
    obtain ⟨ca, ra, ea⟩ : ∃ c r, a = c :: r := by
      cases a with
      | nil => exact absurd la.1 (by decide)
      | cons c r => exact ⟨c, r, rfl⟩
    obtain ⟨cb, rb, eb⟩ : ∃ c r, b = c :: r := by
      cases b with
      | nil => exact absurd lb.1 (by decide)
      | cons c r => exact ⟨c, r, rfl⟩
    have ata : atI (tl (mkS a)) 0 = some ca := by rw [ea]; exact at0 _ _
    have atb : atI (tl (mkS b)) 0 = some cb := by rw [eb]; exact at0 _ _
    refine ⟨_, (pss_cons (ps_set (i := 2) sc_law_bad_good.nd rfl (Or.inl rfl) (pe_slice sl_str (pe_op op_add_str (pe_op op_add_str (pv 0) (pv 1)) pe_str) po_none (po_some pe_int)))
        (pss_cons (ps_for PassesOwn.never rfl (pi_list (pe_lst (pa_cons pe_str (pa_cons (pv 2) (pa_cons (pe_op op_add_str (pe_slice sl_str (pv 0) po_none (po_some pe_int)) pe_str) (pa_cons (pe_op op_add_str (pe_slice sl_str (pv 0) po_none (po_some pe_int)) pe_str) (pa_cons (pe_op op_add_str (pe_slice sl_str (pv 0) po_none (po_some pe_int)) pe_str) (pa_cons (pe_op op_add_str (pe_op op_add_str (pe_ix ix_str (pv 0) pe_int (fun _ _ => rfl)) pe_str) (pe_ix ix_str (pv 1) pe_int (fun _ _ => rfl))) pa_nil)))))))) (pg_name (i := 3) sc_law_bad_good.nd rfl (Or.inl rfl))
        (pss_one (ps_if (pt_cmpR op_isnot_bl (pe_call (ok_is_name T) (hr.mono (by decide)) rfl T.m_is_name T.F_is_name.kp T.b_is_name .nil pass0 (pa_cons (pv 3) pa_nil)) pe_bl (nomark _)) (pss_one (ps_ret pe_bl)) pss_nil)))
        (pss_cons (ps_set (i := 4) sc_law_bad_good.nd rfl (Or.inl rfl) (pe_op op_add_str (pe_op op_add_str (pv 0) pe_str) (pv 1)))
        (pss_cons (ps_for PassesOwn.never rfl (pi_list (pe_lst (pa_cons pe_str (pa_cons (pe_op op_add_str pe_str (pv 4)) (pa_cons (pe_op op_add_str (pe_op op_add_str (pv 0) pe_str) (pv 1)) (pa_cons (pe_op op_add_str (pv 4) pe_str) (pa_cons (pe_op op_add_str (pv 4) pe_str) (pa_cons (pe_op op_add_str (pe_op op_add_str (pv 1) pe_str) (pv 2)) pa_nil)))))))) (pg_name (i := 3) sc_law_bad_good.nd rfl (Or.inl rfl))
        (pss_one (ps_if (pt_cmpR op_isnot_bl (pe_call (ok_is_path T) (hr.mono (by decide)) rfl T.m_is_path T.F_is_path.kp T.b_is_path .nil pass0 (pa_cons (pv 3) pa_nil)) pe_bl (nomark _)) (pss_one (ps_ret pe_bl)) pss_nil)))
        (pss_one (ps_ret pe_bl)))))), ?_⟩
    have l5 : ("abcde" : Str).length = 5 := by decide +kernel
    refine ⟨_, rfl, _, rfl, _, _, rfl, rfl, szle (by omega), _, _, rfl, rfl, szle (by rw [L]; omega), _, rfl, _, rfl, szle (by rw [L, L]; omega), ?_⟩
    have eL : cutS (mkS a ++ mkS b ++ "abcde") none (some 5) = mkS (long5 a b) := by
      rw [str_5, mkS_cat, mkS_cat]
      exact cut_mk _ 5
    have e3 : cutS (mkS a) none (some 3) = mkS (a.take 3) := cut_mk a 3
    have e2 : cutS (mkS a) none (some 2) = mkS (a.take 2) := cut_mk a 2
    have l3 : (mkS (a.take 3)).length ≤ 3 := by rw [mkS_len, List.length_take]; omega
    have l2 : (mkS (a.take 2)).length ≤ 2 := by rw [mkS_len, List.length_take]; omega
    have lL : (mkS (long5 a b)).length ≤ 5 := by rw [mkS_len]; simp only [long5, List.length_take]; omega
    have lA : ("A" : Str).length = 1 := by decide +kernel
    have lO : ("1" : Str).length = 1 := by decide +kernel
    have lS : (" " : Str).length = 1 := by decide +kernel
    have lD : ("." : Str).length = 1 := by decide +kernel
    have lone : ∀ c : Nat, (⟨#[c]⟩ : Str).length = 1 := fun _ => rfl
    refine ⟨_, rfl, _, rfl, _, rfl, _, rfl, szle (by omega), _, _, rfl, rfl, szle (by rw [e3]; omega), _, rfl, _, rfl, _, rfl, szle (by omega), _, _, rfl, rfl, szle (by rw [e3]; omega), _, rfl, _, rfl, _, rfl, szle (by omega), _, _, rfl, rfl, szle (by rw [e2]; omega), _, rfl, _, 0, ca, rfl, rfl, szle (by omega), ata, _, _, rfl, rfl, szle (by rw [lone]; omega), _, rfl, _, 0, cb, rfl, rfl, szle (by omega), atb, _, _, rfl, rfl, szle (by rw [L, lone, lone]; omega), (by show 6 ≤ sizeLine; decide), fun p np => ?_⟩
    generalize hH : upd H p _ = H1
    obtain ⟨f1, h1⟩ := gen_new np hH
    have h2 : H1 p = some (.lst (((badNames a b).map mkS).map V.str)) := by
      rw [h1, eL, e3, e2, str_e, str_A, str_1, str_s, str_d, mkS_cat, mkS_cat, mkS_cat, show (⟨#[ca]⟩ : Str) = mkS [ca] from rfl, show (⟨#[cb]⟩ : Str) = mkS [cb] from rfl, mkS_cat, mkS_cat, ea, eb]
      rfl
    refine ⟨p, rfl, ⟨_, sq h2⟩, for_list (K := K) (a := p) (xs := ((badNames a b).map mkS).map V.str) (fun i σ H2 => (∃ x, σ = [some (.str (mkS a)), some (.str (mkS b)), some (.str (mkS (long5 a b))), x, none]) ∧ Fr [] H H2 ∧ H2 p = some (.lst (((badNames a b).map mkS).map V.str))) ?_ ?_ ?_ ?_⟩
    · exact ⟨⟨none, by rw [← eL]; rfl⟩, f1, h2⟩
    · rintro i σ H2 _ ⟨_, _, h2⟩
      exact sq h2
    · rintro i y σ H2 hi ⟨⟨x, rfl⟩, f2, h2⟩
      obtain ⟨z, hz, rfl⟩ := map_get hi
      obtain ⟨l, hl, rfl⟩ := map_get hz
      have hm := List.mem_of_getElem? hl
      have hno := badNames_no l hm
      have hll : l.length ≤ 100 := by
        simp only [badNames, List.mem_cons, List.not_mem_nil, or_false] at hm
        rcases hm with rfl | rfl | rfl | rfl | rfl | rfl
        · decide
        · rw [mkS_len] at lL
          omega
        · simp
          omega
        · simp
          omega
        · simp
          omega
        · simp
      refine ⟨_, rfl, mkS l, rfl, szle (by rw [mkS_len]; omega), _, _, rfl, rfl, _, rfl, ?_⟩
      refine iteF' (by rw [tl_mk, hno]; rfl) ?_
      exact ⟨⟨_, rfl⟩, f2, h2⟩
    · rintro σ H2 ⟨⟨x, rfl⟩, f2, h2⟩
      have lSl : ("/" : Str).length = 1 := by decide +kernel
      have lSl2 : ("//" : Str).length = 2 := by decide +kernel
      have lSd : ("/." : Str).length = 2 := by decide +kernel
      refine ⟨_, rfl, _, _, rfl, rfl, szle (by omega), _, rfl, _, _, rfl, rfl, szle (by rw [L]; omega), ?_⟩
      refine ⟨_, rfl, _, _, rfl, rfl, szle (by rw [L, L]; omega), _, rfl, _, _, rfl, rfl, szle (by omega), _, rfl, _, _, rfl, rfl, szle (by rw [L]; omega), _, rfl, _, _, rfl, rfl, szle (by rw [L, L]; omega), _, rfl, _, _, rfl, rfl, szle (by rw [L, L]; omega), _, rfl, _, _, rfl, rfl, szle (by omega), _, rfl, _, _, rfl, rfl, szle (by rw [L]; omega), (by show 6 ≤ sizeLine; decide), fun p2 np2 => ?_⟩
      generalize hH : upd H2 p2 _ = H3
      obtain ⟨f3, h3⟩ := gen_new np2 hH
      have h4 : H3 p2 = some (.lst (((badPaths a b).map mkS).map V.str)) := by
        rw [h3, str_e, str_l, str_ll, str_ld, mkS_cat, mkS_cat, mkS_cat, mkS_cat, mkS_cat, mkS_cat, mkS_cat, mkS_cat, mkS_cat]
        simp [badPaths]
      refine ⟨p2, rfl, ⟨_, sq h4⟩, for_list (K := K) (a := p2) (xs := ((badPaths a b).map mkS).map V.str) (fun i σ H5 => (∃ x y z, σ = [some (.str (mkS a)), some (.str (mkS b)), x, y, z]) ∧ Fr [] H H5 ∧ H5 p2 = some (.lst (((badPaths a b).map mkS).map V.str))) ?_ ?_ ?_ ?_⟩
      · exact ⟨⟨_, _, _, rfl⟩, f2.up0 f3, h4⟩
      · rintro i σ H2 _ ⟨_, _, h2⟩
        exact sq h2
      · rintro i y σ H5 hi ⟨⟨x, y2, z2, rfl⟩, f5, h5⟩
        obtain ⟨z, hz, rfl⟩ := map_get hi
        obtain ⟨l, hl, rfl⟩ := map_get hz
        have hm := List.mem_of_getElem? hl
        have hno := badPaths_no ha hb l hm
        have hll : l.length ≤ 100 := by
          rw [mkS_len] at lL
          simp only [badPaths, List.mem_cons, List.not_mem_nil, or_false] at hm
          rcases hm with rfl | rfl | rfl | rfl | rfl | rfl <;> simp <;> omega
        refine ⟨_, rfl, mkS l, rfl, szle (by rw [mkS_len]; omega), fun H6 f6 => ⟨_, _, rfl, rfl, _, rfl, ?_⟩⟩
        refine iteF' (by rw [hno]; rfl) ?_
        exact ⟨⟨_, _, _, rfl⟩, f5.up0 f6, f6.get0 h5⟩
      · rintro σ H5 ⟨⟨x, y2, z2, rfl⟩, f5, h5⟩
        exact k H5 f5
/-! the law -/
def spLaw (K : PySem.W.Frag) : Sp := fun vs H Q _ => ∃ (a : Addr) (ns : List Int), vs = [.ref a] ∧ SqL K H a (ns.map V.int) ∧ ns.length ≤ 63 ∧ ∀ H', Q (.bl true) H'
theorem ok_law (T : Txt K mg) : FnOk P w K mg base CX0 4 T.a_law T.fd_law ["_law_script"] (spLaw K) := by
  refine T.F_law.ok sc_law (fun vs H Q E h => ?_) (fun cdv A outer s H vs Q E hr h => ?_)
  · obtain ⟨a, ns, rfl, _⟩ := h
    rfl
  · obtain ⟨a, ns, rfl, hS, hl, k⟩ := h
    refine ⟨_, (pss_cons (ps_set (i := 1) sc_law.nd rfl (Or.inl rfl) (pe_call (ok_law_feed T) (hr.mono (by decide)) rfl T.m_law_feed T.F_law_feed.kp T.b_law_feed .nil pass0 (pa_cons (pv 0) pa_nil)))
        (pss_cons (ps_set (i := 2) sc_law.nd rfl (Or.inl rfl) (pe_call (ok_law_name T) (hr.mono (by decide)) rfl T.m_law_name T.F_law_name.kp T.b_law_name .nil pass0 (pa_cons (pv 1) pa_nil)))
        (pss_cons (ps_set (i := 3) sc_law.nd rfl (Or.inl rfl) (pe_call (ok_law_name T) (hr.mono (by decide)) rfl T.m_law_name T.F_law_name.kp T.b_law_name .nil pass0 (pa_cons (pv 1) pa_nil)))
        (pss_cons (ps_if (PW.pt (pw_or (pt_not (pt_val (pe_call (ok_law_names_good T) (hr.mono (by decide)) rfl T.m_law_names_good T.F_law_names_good.kp T.b_law_names_good .nil pass0 (pa_cons (pe_lst (pa_cons (pv 2) (pa_cons (pv 3) pa_nil))) pa_nil)))) (pw_or1 (pt_not (pt_val (pe_call (ok_law_bad_good T) (hr.mono (by decide)) rfl T.m_law_bad_good T.F_law_bad_good.kp T.b_law_bad_good .nil pass0 (pa_cons (pv 2) (pa_cons (pv 3) pa_nil)))))))) (pss_one (ps_ret pe_bl)) pss_nil)
        (pss_cons (ps_set (i := 4) sc_law.nd rfl (Or.inl rfl) (pe_call (ok_law_pick T) (hr.mono (by decide)) rfl T.m_law_pick T.F_law_pick.kp T.b_law_pick .nil pass0 (pa_cons (pv 1) (pa_cons pe_int pa_nil))))
        (pss_cons (ps_for PassesOwn.never rfl (pi_list (pe_lst (pa_cons (pv 4) (pa_cons (pe_op op_mul pe_int (pv 4)) (pa_cons (pe_un un_neg (pv 4)) (pa_cons (pe_op op_fdiv (pv 4) pe_int) (pa_cons (pe_op op_add (pe_op op_pow pe_int pe_int) (pv 4)) (pa_cons (pe_op op_sub (pe_call (ok_law_code T) (hr.mono (by decide)) rfl T.m_law_code T.F_law_code.kp T.b_law_code .nil pass0 (pa_cons pe_str pa_nil)) (pe_op op_fdiv (pv 4) pe_int)) pa_nil)))))))) (pg_name (i := 5) sc_law.nd rfl (Or.inl rfl))
        (pss_one (ps_if (pt_not (pt_val (pe_call (ok_law_text T) (hr.mono (by decide)) rfl T.m_law_text T.F_law_text.kp T.b_law_text .nil pass0 (pa_cons (pe_call (ok_code_name T) (hr.mono (by decide)) rfl T.m_code_name T.F_code_name.kp T.b_code_name .nil pass0 (pa_cons (pv 5) pa_nil)) (pa_cons (pe_call (ok_law_decoded T) (hr.mono (by decide)) rfl T.m_law_decoded T.F_law_decoded.kp T.b_law_decoded .nil pass0 (pa_cons (pv 5) pa_nil)) pa_nil))))) (pss_one (ps_ret pe_bl)) pss_nil)))
        (pss_cons (ps_set (i := 6) sc_law.nd rfl (Or.inl rfl) (pe_lst (pa_cons (pv 2) pa_nil)))
        (pss_cons (ps_for PassesOwn.never rfl (pi_range1 rfl T.n_range (pa_cons (pe_call (ok_law_pick T) (hr.mono (by decide)) rfl T.m_law_pick T.F_law_pick.kp T.b_law_pick .nil pass0 (pa_cons (pv 1) (pa_cons pe_int pa_nil))) pa_nil)) (pg_name (i := 7) sc_law.nd rfl (Or.inl rfl))
        (pss_one (ps_expr (pe_bm PySem.F.plainAttrs_list PySem.F.slot_list_append PySem.F.type_list_append mt_append (pv 6) (pa_cons (pe_call (ok_law_name T) (hr.mono (by decide)) rfl T.m_law_name T.F_law_name.kp T.b_law_name .nil pass0 (pa_cons (pv 1) pa_nil)) pa_nil)))))
        (C8.pss_cut (ps_if (PW.pt (pw_and (pt_cmpR op_lt (pe_callB call_len_seq (by rfl) T.n_len (by decide +kernel) (pa_cons (pv 6) pa_nil)) pe_int (nomark _)) (pw_and1 (pt_cmpR op_isnot_bl (pe_call (ok_is_path T) (hr.mono (by decide)) rfl T.m_is_path T.F_is_path.kp T.b_is_path .nil pass0 (pa_cons (pe_join pe_str (pv 6)) pa_nil)) pe_bl (nomark _))))) (pss_one (ps_ret pe_bl)) pss_nil)
        (C8.pss_cut (ps_if (PW.pt (pw_and (pt_cmpR op_eq (pe_callB call_len_seq (by rfl) T.n_len (by decide +kernel) (pa_cons (pv 6) pa_nil)) pe_int (nomark _)) (pw_and1 (pt_cmpR op_isnot_bl (pe_call (ok_is_path T) (hr.mono (by decide)) rfl T.m_is_path T.F_is_path.kp T.b_is_path .nil pass0 (pa_cons (pe_join pe_str (pv 6)) pa_nil)) pe_bl (nomark _))))) (pss_one (ps_ret pe_bl)) pss_nil)
        (pss_one (ps_ret (pe_and (pe_cmpR op_is_bl (pe_call (ok_is_path T) (hr.mono (by decide)) rfl T.m_is_path T.F_is_path.kp T.b_is_path .nil pass0 (pa_cons pe_str pa_nil)) pe_bl (nomark _)) (pe_one (pe_cmpR op_is_bl (pe_call (ok_is_name T) (hr.mono (by decide)) rfl T.m_is_name T.F_is_name.kp T.b_is_name .nil pass0 (pa_cons pe_str pa_nil)) pe_bl (nomark _)))))))))))))))), ?_⟩
    refine ⟨_, rfl, a, ns, rfl, hS, hl, fun H1 p fs1 f1 np h1 hf1 => ?_⟩
    refine ⟨_, rfl, p, fs1, rfl, h1, hf1, fun H2 la fs2 f2 h2 hf2 ha => ?_⟩
    refine ⟨_, rfl, p, fs2, rfl, h2, hf2, fun H3 lb fs3 f3 h3 hf3 hb => ?_⟩
    have mb := mkS_len lb
    have ma := mkS_len la
    have la4 := (nm_all ha).2.2
    have lb4 := (nm_all hb).2.2
    refine ⟨_, rfl, _, rfl, (by show 2 ≤ sizeLine; decide), fun q nq => ?_⟩
    generalize hH : upd H3 q _ = H4
    obtain ⟨f4, h4⟩ := gen_new nq hH
    refine ⟨q, [la, lb], rfl, h4, by simpa using ⟨ha, hb⟩, fun H5 f5 => ⟨_, rfl, iteF ?_⟩⟩
    refine ⟨_, rfl, _, rfl, la, lb, rfl, ha, hb, fun H6 f6 => ⟨_, rfl, iteF ?_⟩⟩
    have h6 := f6.get0 (f5.get0 (f4.get0 h3))
    refine ⟨_, rfl, p, fs3, 999983, rfl, h6, hf3, by decide, fun H7 n fs7 f7 h7 hf7 n0 n1 => ?_⟩
    have lz : ("zzzz" : Str) = mkS [122, 122, 122, 122] := by decide +kernel
    refine ⟨_, rfl, _, rfl, _, _, rfl, rfl, .inl ⟨by decide, by decide⟩, _, rfl, _, rfl, _, rfl, _, _, rfl, rfl, ⟨by decide, by decide⟩, _, _, rfl, rfl, ⟨by decide, by decide, by decide⟩, _, rfl, _, _, rfl, rfl, _, rfl, _, rfl, _, _, rfl, rfl, ⟨by decide, by decide⟩, _, _, rfl, rfl, (by show 6 ≤ sizeLine; decide), fun v nv => ?_⟩
    generalize hH8 : upd H7 v _ = H8
    obtain ⟨f8, h8⟩ := gen_new nv hH8
    obtain ⟨vals, h8v⟩ : ∃ vals : List Int, H8 v = some (.lst (vals.map V.int)) := ⟨[_, _, _, _, _, _], h8⟩
    have h8p := f8.get0 h7
    refine ⟨v, rfl, ⟨_, sq h8v⟩, for_list (K := K) (a := v) (xs := vals.map V.int) (fun i σ H2 => (∃ x, σ = [some (.ref a), some (.ref p), some (.str (mkS la)), some (.str (mkS lb)), some (.int n), x, none, none]) ∧ Fr [] H8 H2) ?_ ?_ ?_ ?_⟩
    · exact ⟨⟨none, rfl⟩, Fr.refl _ _⟩
    · rintro i σ H2 _ ⟨_, f2⟩
      exact sq (f2.get0 h8v)
    · rintro i y σ H9 hi ⟨⟨x, rfl⟩, f9⟩
      obtain ⟨u, hu, rfl⟩ := map_get hi
      refine ⟨_, rfl, u, rfl, _, rfl, u, rfl, fun Ha fa => ⟨_, _, rfl, _, rfl, ?_⟩⟩
      refine iteF' (by rw [dec_cn]; simp) ?_
      exact ⟨⟨_, rfl⟩, f9.up0 fa⟩
    · rintro σ H9 ⟨⟨x, rfl⟩, f9⟩
      have h9p := f9.get0 h8p
      refine ⟨_, rfl, (by show 1 ≤ sizeLine; decide), fun q2 nq2 => ?_⟩
      generalize hHa : upd H9 q2 _ = Ha
      obtain ⟨fa, ha2⟩ := gen_new nq2 hHa
      have hap := fa.get0 h9p
      have npq : p ≠ q2 := ne_of_none h9p nq2
      refine ⟨_, rfl, p, fs7, 9, rfl, hap, hf7, by decide, fun Hb r fsb fb hbp hfb r0 r9 => ⟨r, rfl, by omega, by omega, for_range (n := r.toNat) (fun i σ H2 => ∃ (ls : List (List Nat)) (fs : List Int) (x y : Option V), σ = [some (.ref a), some (.ref p), some (.str (mkS la)), some (.str (mkS lb)), some (.int n), x, some (.ref q2), y] ∧ H2 p = some (.lst (fs.map V.int)) ∧ Feed fs ∧ H2 q2 = some (.lst ((ls.map mkS).map V.str)) ∧ ls.length = i + 1 ∧ ∀ l ∈ ls, isNm l = true) ?_ ?_ ?_⟩⟩
      · exact ⟨[la], fsb, _, _, rfl, hbp, hfb, fb.get1 ha2 (Ne.symm npq), rfl, by simpa using ha⟩
      · rintro i σ H2 hi ⟨ls, fs, x, y, rfl, hp2, hf2, hq2, hll, hnm⟩
        refine ⟨_, rfl, .inl ⟨rfl, _, sq hq2⟩, _, rfl, p, fs, rfl, hp2, hf2, fun H3 l fs3 f3 h3 hf3 hl3 => ?_⟩
        have hq3 := f3.get1 hq2 (Ne.symm npq)
        refine ⟨q2, _, _, rfl, rfl, hq3, sz (by simp; omega), ?_⟩
        generalize hH4 : upd H3 q2 _ = H4
        obtain ⟨f4, h4⟩ := gen_upd hH4
        refine ⟨ls ++ [l], fs3, _, _, rfl, f4.get1 h3 npq, hf3, ?_, by simp; omega, ?_⟩
        · rw [h4]
          simp
        · intro m hm
          rcases List.mem_append.mp hm with q | q
          · exact hnm m q
          · rw [List.mem_singleton.mp q]
            exact hl3
      · rintro σ H2 ⟨ls, fs, x, y, rfl, hp2, hf2, hq2, hll, hnm⟩
        have hsum : ((ls.map mkS).map (·.length)).sum ≤ 4 * ls.length := by
          clear hll hq2
          induction ls with
          | nil => exact Nat.le_refl _
          | cons l r ih =>
            have h1 := ih (fun m hm => hnm m (List.mem_cons_of_mem _ hm))
            have h2 := (nm_all (hnm l List.mem_cons_self)).2.2
            rw [List.map_cons, List.map_cons, List.sum_cons, mkS_len, List.length_cons]
            omega
        have hne : ls ≠ [] := fun q => by rw [q] at hll; simp at hll
        have hpt := pt_names hne hnm
        have hjl : (mkS (TL.joinL [47] ls)).length + 2 ≤ 1000 := by
          rw [mkS_len]
          have : ∀ ls : List (List Nat), (∀ l ∈ ls, isNm l = true) → (TL.joinL [47] ls).length ≤ 5 * ls.length := by
            intro ls
            induction ls with
            | nil => intro _; exact Nat.le_refl _
            | cons l r ih =>
              intro hnm
              have h1 := ih (fun m hm => hnm m (List.mem_cons_of_mem _ hm))
              have h2 := (nm_all (hnm l List.mem_cons_self)).2.2
              cases r with
              | nil =>
                rw [TL.joinL, List.length_cons, List.length_nil]
                omega
              | cons m r =>
                rw [TL.joinL, List.length_append, List.length_append, List.length_cons, List.length_nil, List.length_cons]
                omega
          have := this ls hnm
          omega
        have lSl : ("/" : Str).length = 1 := by decide +kernel
        have hle : ls.length ≤ 9 := by omega
        refine ⟨fun σ3 H3 => σ3 = [some (.ref a), some (.ref p), some (.str (mkS la)), some (.str (mkS lb)), some (.int n), x, some (.ref q2), y] ∧ H3 q2 = some (.lst ((ls.map mkS).map V.str)), ?_, ?_⟩
        · refine ⟨_, rfl, q2, _, rfl, .inl (sq hq2), _, _, rfl, rfl, _, rfl, ?_⟩
          refine ite2 (fun c => ?_) (fun c => ?_)
          · have c1 := of_decide_eq_true c
            rw [List.length_map, List.length_map] at c1
            refine ⟨⟨_, rfl⟩, _, rfl, SL, q2, _, rfl, rfl, .inl (sq hq2), by rw [List.length_map, lSl]; omega, ?_⟩
            rw [join_mk]
            refine ⟨_, rfl, szle (by omega), fun H3 f3 => ⟨_, _, rfl, rfl, _, rfl, ?_⟩⟩
            refine iteF' (by rw [hpt, decide_eq_true (show ls.length ≤ 8 by omega)]; rfl) ?_
            exact ⟨rfl, f3.get0 hq2⟩
          · exact iteF ⟨rfl, hq2⟩
        · rintro σ3 H3 ⟨rfl, hq3⟩
          refine ⟨fun σ3 H3 => σ3 = [some (.ref a), some (.ref p), some (.str (mkS la)), some (.str (mkS lb)), some (.int n), x, some (.ref q2), y], ?_, ?_⟩
          · refine ⟨_, rfl, q2, _, rfl, .inl (sq hq3), rfl, _, rfl, ?_⟩
            refine ite2 (fun c => ?_) (fun c => ?_)
            · have c1 := V.int.inj (of_decide_eq_true c)
              rw [List.length_map, List.length_map] at c1
              refine ⟨⟨_, rfl⟩, _, rfl, SL, q2, _, rfl, rfl, .inl (sq hq3), by rw [List.length_map, lSl]; omega, ?_⟩
              rw [join_mk]
              refine ⟨_, rfl, szle (by omega), fun H4 f4 => ⟨_, _, rfl, rfl, _, rfl, ?_⟩⟩
              refine iteF' (by rw [hpt, decide_eq_false (show ¬ ls.length ≤ 8 by omega)]; rfl) ?_
              rfl
            · exact iteF rfl
          · rintro σ4 H4 rfl
            refine ⟨".", rfl, szle (by decide +kernel), fun H5 f5 => ⟨_, _, rfl, rfl, _, rfl, ?_⟩⟩
            refine iteT' (by rw [show isPt "." = true from if_pos rfl]; rfl) ?_
            refine ⟨".", rfl, szle (by decide +kernel), _, _, rfl, rfl, ?_⟩
            rw [show isNm (tl ("." : Str)) = false by decide +kernel]
            exact k H5
end
theorem txt_mk {K : PySem.W.Frag} {h : Heap} {mg : Str → Option Value} (X : K.In h) (G : h.Ns mainGlobals mg)
    {f0 : Addr} {od0 an0 : Option Addr} {sl0 : Array (Option Value)} {oc0 kV0 dc0 pm0 cd0 ct0 : Value}
    {f1 : Addr} {od1 an1 : Option Addr} {sl1 : Array (Option Value)} {oc1 kV1 dc1 pm1 cd1 ct1 : Value}
    {f2 : Addr} {od2 an2 : Option Addr} {sl2 : Array (Option Value)} {oc2 kV2 dc2 pm2 cd2 ct2 : Value}
    {f3 : Addr} {od3 an3 : Option Addr} {sl3 : Array (Option Value)} {oc3 kV3 dc3 pm3 cd3 ct3 : Value}
    {f4 : Addr} {od4 an4 : Option Addr} {sl4 : Array (Option Value)} {oc4 kV4 dc4 pm4 cd4 ct4 : Value}
    {f5 : Addr} {od5 an5 : Option Addr} {sl5 : Array (Option Value)} {oc5 kV5 dc5 pm5 cd5 ct5 : Value}
    {f6 : Addr} {od6 an6 : Option Addr} {sl6 : Array (Option Value)} {oc6 kV6 dc6 pm6 cd6 ct6 : Value}
    {f7 : Addr} {od7 an7 : Option Addr} {sl7 : Array (Option Value)} {oc7 kV7 dc7 pm7 cd7 ct7 : Value}
    {f8 : Addr} {od8 an8 : Option Addr} {sl8 : Array (Option Value)} {oc8 kV8 dc8 pm8 cd8 ct8 : Value}
    {f9 : Addr} {od9 an9 : Option Addr} {sl9 : Array (Option Value)} {oc9 kV9 dc9 pm9 cd9 ct9 : Value}
    {f10 : Addr} {od10 an10 : Option Addr} {sl10 : Array (Option Value)} {oc10 kV10 dc10 pm10 cd10 ct10 : Value}
    {f11 : Addr} {od11 an11 : Option Addr} {sl11 : Array (Option Value)} {oc11 kV11 dc11 pm11 cd11 ct11 : Value}
    {f12 : Addr} {od12 an12 : Option Addr} {sl12 : Array (Option Value)} {oc12 kV12 dc12 pm12 cd12 ct12 : Value}
    {f13 : Addr} {od13 an13 : Option Addr} {sl13 : Array (Option Value)} {oc13 kV13 dc13 pm13 cd13 ct13 : Value}
    (a0 : PySem.W.nsIn K mainGlobals "is_name" = some (some (.ref f0))) (l0 : K.lookup f0 = some ⟨oc0, od0, .func (PySem.W.fnOf "is_name" "is_name" (defArgs s_is_name) (defBody s_is_name) (defScope s_is_name) .none kV0 dc0 pm0 an0 cd0 ct0), sl0⟩) (c0 : PySem.W.codeIn K cd0 "is_name" = true) (k0 : PySem.W.keepIn K (.ref f0) = true)
    (a1 : PySem.W.nsIn K mainGlobals "is_path" = some (some (.ref f1))) (l1 : K.lookup f1 = some ⟨oc1, od1, .func (PySem.W.fnOf "is_path" "is_path" (defArgs s_is_path) (defBody s_is_path) (defScope s_is_path) .none kV1 dc1 pm1 an1 cd1 ct1), sl1⟩) (c1 : PySem.W.codeIn K cd1 "is_path" = true) (k1 : PySem.W.keepIn K (.ref f1) = true)
    (a2 : PySem.W.nsIn K mainGlobals "name_code" = some (some (.ref f2))) (l2 : K.lookup f2 = some ⟨oc2, od2, .func (PySem.W.fnOf "name_code" "name_code" (defArgs s_name_code) (defBody s_name_code) (defScope s_name_code) .none kV2 dc2 pm2 an2 cd2 ct2), sl2⟩) (c2 : PySem.W.codeIn K cd2 "name_code" = true) (k2 : PySem.W.keepIn K (.ref f2) = true)
    (a3 : PySem.W.nsIn K mainGlobals "code_name" = some (some (.ref f3))) (l3 : K.lookup f3 = some ⟨oc3, od3, .func (PySem.W.fnOf "code_name" "code_name" (defArgs s_code_name) (defBody s_code_name) (defScope s_code_name) .none kV3 dc3 pm3 an3 cd3 ct3), sl3⟩) (c3 : PySem.W.codeIn K cd3 "code_name" = true) (k3 : PySem.W.keepIn K (.ref f3) = true)
    (a4 : PySem.W.nsIn K mainGlobals "_law_feed" = some (some (.ref f4))) (l4 : K.lookup f4 = some ⟨oc4, od4, .func (PySem.W.fnOf "_law_feed" "_law_feed" (defArgs s_law_feed) (defBody s_law_feed) (defScope s_law_feed) .none kV4 dc4 pm4 an4 cd4 ct4), sl4⟩) (c4 : PySem.W.codeIn K cd4 "_law_feed" = true) (k4 : PySem.W.keepIn K (.ref f4) = true)
    (a5 : PySem.W.nsIn K mainGlobals "_law_pick" = some (some (.ref f5))) (l5 : K.lookup f5 = some ⟨oc5, od5, .func (PySem.W.fnOf "_law_pick" "_law_pick" (defArgs s_law_pick) (defBody s_law_pick) (defScope s_law_pick) .none kV5 dc5 pm5 an5 cd5 ct5), sl5⟩) (c5 : PySem.W.codeIn K cd5 "_law_pick" = true) (k5 : PySem.W.keepIn K (.ref f5) = true)
    (a6 : PySem.W.nsIn K mainGlobals "_law_name" = some (some (.ref f6))) (l6 : K.lookup f6 = some ⟨oc6, od6, .func (PySem.W.fnOf "_law_name" "_law_name" (defArgs s_law_name) (defBody s_law_name) (defScope s_law_name) .none kV6 dc6 pm6 an6 cd6 ct6), sl6⟩) (c6 : PySem.W.codeIn K cd6 "_law_name" = true) (k6 : PySem.W.keepIn K (.ref f6) = true)
    (a7 : PySem.W.nsIn K mainGlobals "_law_code" = some (some (.ref f7))) (l7 : K.lookup f7 = some ⟨oc7, od7, .func (PySem.W.fnOf "_law_code" "_law_code" (defArgs s_law_code) (defBody s_law_code) (defScope s_law_code) .none kV7 dc7 pm7 an7 cd7 ct7), sl7⟩) (c7 : PySem.W.codeIn K cd7 "_law_code" = true) (k7 : PySem.W.keepIn K (.ref f7) = true)
    (a8 : PySem.W.nsIn K mainGlobals "_law_decoded" = some (some (.ref f8))) (l8 : K.lookup f8 = some ⟨oc8, od8, .func (PySem.W.fnOf "_law_decoded" "_law_decoded" (defArgs s_law_decoded) (defBody s_law_decoded) (defScope s_law_decoded) .none kV8 dc8 pm8 an8 cd8 ct8), sl8⟩) (c8 : PySem.W.codeIn K cd8 "_law_decoded" = true) (k8 : PySem.W.keepIn K (.ref f8) = true)
    (a9 : PySem.W.nsIn K mainGlobals "_law_integer" = some (some (.ref f9))) (l9 : K.lookup f9 = some ⟨oc9, od9, .func (PySem.W.fnOf "_law_integer" "_law_integer" (defArgs s_law_integer) (defBody s_law_integer) (defScope s_law_integer) .none kV9 dc9 pm9 an9 cd9 ct9), sl9⟩) (c9 : PySem.W.codeIn K cd9 "_law_integer" = true) (k9 : PySem.W.keepIn K (.ref f9) = true)
    (a10 : PySem.W.nsIn K mainGlobals "_law_text" = some (some (.ref f10))) (l10 : K.lookup f10 = some ⟨oc10, od10, .func (PySem.W.fnOf "_law_text" "_law_text" (defArgs s_law_text) (defBody s_law_text) (defScope s_law_text) .none kV10 dc10 pm10 an10 cd10 ct10), sl10⟩) (c10 : PySem.W.codeIn K cd10 "_law_text" = true) (k10 : PySem.W.keepIn K (.ref f10) = true)
    (a11 : PySem.W.nsIn K mainGlobals "_law_names_good" = some (some (.ref f11))) (l11 : K.lookup f11 = some ⟨oc11, od11, .func (PySem.W.fnOf "_law_names_good" "_law_names_good" (defArgs s_law_names_good) (defBody s_law_names_good) (defScope s_law_names_good) .none kV11 dc11 pm11 an11 cd11 ct11), sl11⟩) (c11 : PySem.W.codeIn K cd11 "_law_names_good" = true) (k11 : PySem.W.keepIn K (.ref f11) = true)
    (a12 : PySem.W.nsIn K mainGlobals "_law_bad_good" = some (some (.ref f12))) (l12 : K.lookup f12 = some ⟨oc12, od12, .func (PySem.W.fnOf "_law_bad_good" "_law_bad_good" (defArgs s_law_bad_good) (defBody s_law_bad_good) (defScope s_law_bad_good) .none kV12 dc12 pm12 an12 cd12 ct12), sl12⟩) (c12 : PySem.W.codeIn K cd12 "_law_bad_good" = true) (k12 : PySem.W.keepIn K (.ref f12) = true)
    (a13 : PySem.W.nsIn K mainGlobals "law" = some (some (.ref f13))) (l13 : K.lookup f13 = some ⟨oc13, od13, .func (PySem.W.fnOf "law" "law" (defArgs s_law) (defBody s_law) (defScope s_law) .none kV13 dc13 pm13 an13 cd13 ct13), sl13⟩) (c13 : PySem.W.codeIn K cd13 "law" = true) (k13 : PySem.W.keepIn K (.ref f13) = true)
    (z_abs : PySem.W.nsIn K mainGlobals "abs" = some none)
    (z_bool : PySem.W.nsIn K mainGlobals "bool" = some none)
    (z_int : PySem.W.nsIn K mainGlobals "int" = some none)
    (z_isinstance : PySem.W.nsIn K mainGlobals "isinstance" = some none)
    (z_len : PySem.W.nsIn K mainGlobals "len" = some none)
    (z_range : PySem.W.nsIn K mainGlobals "range" = some none)
    (z_str : PySem.W.nsIn K mainGlobals "str" = some none)
    {t_ALPHABET : Tok} (q_ALPHABET : PySem.W.nsIn K mainGlobals "ALPHABET" = some (some (.str "abcdefghijklmnopqrstuvwxyz" t_ALPHABET)))
    : ∃ T : Txt K mg, mg "law" = some (.ref T.a_law) ∧ (∀ (s : Shared) (v : Value), BindsTo s T.fd_law ⟨[v], []⟩ [("_law_script", v)]) := by
  have F0 := fun_mk (st := s_is_name) l0 c0 k0
  have b0 := F0.binds (ps := ["text"]) fun _ _ _ _ _ _ us hl => match us, hl with | [_], _ => rfl
  have F1 := fun_mk (st := s_is_path) l1 c1 k1
  have b1 := F1.binds (ps := ["text"]) fun _ _ _ _ _ _ us hl => match us, hl with | [_], _ => rfl
  have F2 := fun_mk (st := s_name_code) l2 c2 k2
  have b2 := F2.binds (ps := ["name"]) fun _ _ _ _ _ _ us hl => match us, hl with | [_], _ => rfl
  have F3 := fun_mk (st := s_code_name) l3 c3 k3
  have b3 := F3.binds (ps := ["code"]) fun _ _ _ _ _ _ us hl => match us, hl with | [_], _ => rfl
  have F4 := fun_mk (st := s_law_feed) l4 c4 k4
  have b4 := F4.binds (ps := ["_law_script"]) fun _ _ _ _ _ _ us hl => match us, hl with | [_], _ => rfl
  have F5 := fun_mk (st := s_law_pick) l5 c5 k5
  have b5 := F5.binds (ps := ["_law_feed_here", "_law_limit"]) fun _ _ _ _ _ _ us hl => match us, hl with | [_, _], _ => rfl
  have F6 := fun_mk (st := s_law_name) l6 c6 k6
  have b6 := F6.binds (ps := ["_law_feed_here"]) fun _ _ _ _ _ _ us hl => match us, hl with | [_], _ => rfl
  have F7 := fun_mk (st := s_law_code) l7 c7 k7
  have b7 := F7.binds (ps := ["_law_name_here"]) fun _ _ _ _ _ _ us hl => match us, hl with | [_], _ => rfl
  have F8 := fun_mk (st := s_law_decoded) l8 c8 k8
  have b8 := F8.binds (ps := ["_law_number"]) fun _ _ _ _ _ _ us hl => match us, hl with | [_], _ => rfl
  have F9 := fun_mk (st := s_law_integer) l9 c9 k9
  have b9 := F9.binds (ps := ["_law_actual", "_law_due"]) fun _ _ _ _ _ _ us hl => match us, hl with | [_, _], _ => rfl
  have F10 := fun_mk (st := s_law_text) l10 c10 k10
  have b10 := F10.binds (ps := ["_law_actual", "_law_due"]) fun _ _ _ _ _ _ us hl => match us, hl with | [_, _], _ => rfl
  have F11 := fun_mk (st := s_law_names_good) l11 c11 k11
  have b11 := F11.binds (ps := ["_law_names"]) fun _ _ _ _ _ _ us hl => match us, hl with | [_], _ => rfl
  have F12 := fun_mk (st := s_law_bad_good) l12 c12 k12
  have b12 := F12.binds (ps := ["_law_name_here", "_law_other"]) fun _ _ _ _ _ _ us hl => match us, hl with | [_, _], _ => rfl
  have F13 := fun_mk (st := s_law) l13 c13 k13
  have b13 := F13.binds (ps := ["_law_script"]) fun _ _ _ _ _ _ us hl => match us, hl with | [_], _ => rfl
  exact ⟨⟨_, _, F0, PySem.W.mg_of X G a0, b0,
    _, _, F1, PySem.W.mg_of X G a1, b1,
    _, _, F2, PySem.W.mg_of X G a2, b2,
    _, _, F3, PySem.W.mg_of X G a3, b3,
    _, _, F4, PySem.W.mg_of X G a4, b4,
    _, _, F5, PySem.W.mg_of X G a5, b5,
    _, _, F6, PySem.W.mg_of X G a6, b6,
    _, _, F7, PySem.W.mg_of X G a7, b7,
    _, _, F8, PySem.W.mg_of X G a8, b8,
    _, _, F9, PySem.W.mg_of X G a9, b9,
    _, _, F10, PySem.W.mg_of X G a10, b10,
    _, _, F11, PySem.W.mg_of X G a11, b11,
    _, _, F12, PySem.W.mg_of X G a12, b12,
    _, _, F13, PySem.W.mg_of X G a13, b13,
    PySem.W.mg_none_of X G z_abs,
    PySem.W.mg_none_of X G z_bool,
    PySem.W.mg_none_of X G z_int,
    PySem.W.mg_none_of X G z_isinstance,
    PySem.W.mg_none_of X G z_len,
    PySem.W.mg_none_of X G z_range,
    PySem.W.mg_none_of X G z_str,
    _, PySem.W.mg_of X G q_ALPHABET⟩, PySem.W.mg_of X G a13, fun s v => .of_eq rfl⟩
theorem walk {l : PySem.W.OpenLaw} {q : Program} {loose : List Str} {XP : (Str → Option Value) → Heap → Prop} {YP : World → Heap → Prop} {d : DefRec} {K : Params → PySem.W.Frag} (hn : l.most = some 63) (hdf : d.params.defaults = [])
    (hY : ∀ (w : World) (h : Heap), YP w h → (K w.params).In h)
    (F : ∀ (w : World) (mg : Str → Option Value) (fa : Addr) (h : Heap), (K w.params).In h → h.Ns mainGlobals mg → mg d.name = some (.ref fa) →
      ∃ fd : FuncData, (∀ (s : Shared) (u : Value), BindsTo s fd ⟨[u], []⟩ [("_law_script", u)]) ∧ ∀ base : Heap, (K w.params).In base → base.Ns mainGlobals mg → FnOk l.prog w (K w.params) mg base CX0 4 fa fd ["_law_script"] (spLaw (K w.params))) :
    PySem.W.WalkO q loose XP YP l.row.toRowW d [] (fun f vs => PySem.call f vs) :=
  L2.walk_of (n := 63) (k := 4) (x := "_law_script") (CX := fun _ => CX0) (sp := fun w => spLaw (K w.params)) hn (by decide) hdf ⟨rfl, by decide, by decide⟩ hY F (fun _ _ a ns hl _ hS => ⟨a, ns, rfl, hS, hl, fun _ => rfl⟩) fun _ _ _ _ _ z => z
end Mine
open PySem PySem.W PyProof.Rows
set_option maxRecDepth 100000 in
set_option maxHeartbeats 0 in
theorem PySem.Challenge.cw_lotsandties_k86_names_and_codes_holds : PySem.Challenge.rw_lotsandties_k86_names_and_codes.Holds := by
  w_on; o_law; k_head; (case hw => w_witness2)
  k_fill
  refine Mine.walk (l := PySem.Challenge.rw_lotsandties_k86_names_and_codes) rfl rfl (fun w h Y => PySem.W.kIn_of Y) ?F
  case F =>
    intro w mg fa h KX G hmg
    obtain ⟨T, e1, e2⟩ : ∃ T : Mine.Txt _ mg, mg "law" = some (.ref T.a_law) ∧ (∀ (s : Shared) (v : Value), BindsTo s T.fd_law ⟨[v], []⟩ [("_law_script", v)]) := by
      refine' Mine.txt_mk KX G ?a0 ?l0 ?c0 ?k0 ?a1 ?l1 ?c1 ?k1 ?a2 ?l2 ?c2 ?k2 ?a3 ?l3 ?c3 ?k3 ?a4 ?l4 ?c4 ?k4 ?a5 ?l5 ?c5 ?k5 ?a6 ?l6 ?c6 ?k6 ?a7 ?l7 ?c7 ?k7 ?a8 ?l8 ?c8 ?k8 ?a9 ?l9 ?c9 ?k9 ?a10 ?l10 ?c10 ?k10 ?a11 ?l11 ?c11 ?k11 ?a12 ?l12 ?c12 ?k12 ?a13 ?l13 ?c13 ?k13 ?z_abs ?z_bool ?z_int ?z_isinstance ?z_len ?z_range ?z_str ?q_ALPHABET
      (case a0 => k_is); (case l0 => k_is); (case c0 => k_is); (case k0 => k_is); (case a1 => k_is); (case l1 => k_is)
      (case c1 => k_is); (case k1 => k_is); (case a2 => k_is); (case l2 => k_is); (case c2 => k_is); (case k2 => k_is)
      (case a3 => k_is); (case l3 => k_is); (case c3 => k_is); (case k3 => k_is); (case a4 => k_is); (case l4 => k_is)
      (case c4 => k_is); (case k4 => k_is); (case a5 => k_is); (case l5 => k_is); (case c5 => k_is); (case k5 => k_is)
      (case a6 => k_is); (case l6 => k_is); (case c6 => k_is); (case k6 => k_is); (case a7 => k_is); (case l7 => k_is)
      (case c7 => k_is); (case k7 => k_is); (case a8 => k_is); (case l8 => k_is); (case c8 => k_is); (case k8 => k_is)
      (case a9 => k_is); (case l9 => k_is); (case c9 => k_is); (case k9 => k_is); (case a10 => k_is); (case l10 => k_is)
      (case c10 => k_is); (case k10 => k_is); (case a11 => k_is); (case l11 => k_is); (case c11 => k_is); (case k11 => k_is)
      (case a12 => k_is); (case l12 => k_is); (case c12 => k_is); (case k12 => k_is); (case a13 => k_is); (case l13 => k_is)
      (case c13 => k_is); (case k13 => k_is); (case z_abs => k_is); (case z_bool => k_is); (case z_int => k_is); (case z_isinstance => k_is)
      (case z_len => k_is); (case z_range => k_is); (case z_str => k_is); (case q_ALPHABET => k_is)
    have e := hmg.symm.trans e1
    cases e
    exact ⟨T.fd_law, e2, fun base _ _ => Mine.ok_law T⟩
