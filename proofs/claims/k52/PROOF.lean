import PyProof.Rows.All
import Wide.All
import OpenK.AllK
import Wide.FinOn
import HandS.ForMost
import HandS.More
import HandS.Codes
import HandS.TupLe
import HandS.IsInst
import HandS.Walk
import HandS.Deep
import HandS.MakeKwOnly
import HandS.Style
import HandS.ClsMeth
import HandS.DictComp
import HandS.Exc
import HandS.ExcOwn
import HandS.ExcInit
import HandS.ExcField
import HandS.TryOnly
import HandS.ExcIs
import HandS.WordsExc
import HandS.CallSlots
import HandS.DeepEq
import HandS.DictTup
import HandS.Property
import HandS.TupAny
import HandS.TupMul
import HandS.NoneIn
import HandS.SortInts
import HandS.SortRule
import HandS.Rev
import HandS.RevRange
import HandS.SetFor
import HandS.TryMany
import HandS.SuiteRaise
import HandS.Star
import HandS.HotCalls
import HandS.Hot
import KE.KExcRaise
import KE.GoesEnum
import KE.DataFind
import KE.KDictDisplayH
import HandS.CallLocal
import HandS.StrMore
import HandS.StrSplit
import HandS.IterVal
import HandS.FStr
import KE.SortData
import KE.DataCmp
import HandS.GenCall
import HandS.GenList
import PyProof.RulesMatchSeq
import PyProof.Rows.MatchSeqLen
import KE.KeyNested
import HandS.ReplaceDef
import HandS.ReplaceLit
import HandS.Head0
import HandS.Head1
import HandS.Head2
import HandS.HeadEnd
import HandS.HeadHook1
import PySem.Challenge.RW_lotsandties_k52_one_letter
set_option Elab.async false
set_option linter.all false
set_option maxRecDepth 100000
set_option maxHeartbeats 4000000
namespace Mine
open PySem L2
section
set_option maxHeartbeats 0
open PySem PySem.W PyProof.Rows L2
def top (i : Nat) : Stmt := PySem.Challenge.pw_lotsandties_k52_one_letter.main.body.getD i (.Pass ⟨0, 0, 0, 0⟩)
abbrev s_kind_c : Stmt := top 10
abbrev s_kind_r : Stmt := top 11
abbrev s_content_c : Stmt := top 12
abbrev s_content_r : Stmt := top 13
abbrev s_is_due : Stmt := top 14
abbrev s_is_standing : Stmt := top 15
abbrev s_after_takel : Stmt := top 17
abbrev s_after_takep : Stmt := top 18
abbrev s_waits : Stmt := top 19
abbrev s_home_without_r : Stmt := top 20
abbrev s_after_change : Stmt := top 21
abbrev s_after_free : Stmt := top 22
abbrev s_after_close : Stmt := top 23
abbrev s_after_copy : Stmt := top 24
abbrev s_log_after_mark : Stmt := top 25
abbrev s_after_mark : Stmt := top 26
abbrev s_after_home : Stmt := top 27
abbrev s_after_early : Stmt := top 28
abbrev s_after_words : Stmt := top 29
abbrev s_after_room : Stmt := top 30
abbrev s_after_told : Stmt := top 31
abbrev s_after : Stmt := top 33
abbrev s_let_letters : Stmt := top 34
abbrev s_law_feed : Stmt := top 40
abbrev s_law_pick : Stmt := top 41
abbrev s_law_rules : Stmt := top 42
abbrev s_law_names : Stmt := top 43
abbrev s_law_letters : Stmt := top 44
abbrev s_law_kind_c : Stmt := top 45
abbrev s_law_kind_r : Stmt := top 46
abbrev s_law_one : Stmt := top 47
abbrev s_law_drawn : Stmt := top 48
abbrev s_law_content_c : Stmt := top 49
abbrev s_law_content_r : Stmt := top 50
abbrev s_law_words_let : Stmt := top 51
abbrev s_law_let : Stmt := top 52
abbrev s_law_log : Stmt := top 53
abbrev s_law_marked : Stmt := top 54
abbrev s_law_behind : Stmt := top 55
abbrev s_law_same : Stmt := top 56
abbrev s_law_letter_good : Stmt := top 57
abbrev s_law_raises : Stmt := top 58
abbrev s_law_spoilt : Stmt := top 59
abbrev s_law : Stmt := top 60
abbrev s_Book_init : Stmt := inClass (top 36) 1
abbrev s_Book_contains : Stmt := inClass (top 36) 2
abbrev s_Book_of_number : Stmt := inClass (top 38) 2
abbrev HdF : Type := Option (Str × Str × Arguments × FuncBody × Scope × Addr × List (Str × Addr) × Value × Value × Addr)
def hdFn (K : PySem.W.Frag) (a : Addr) : HdF := match K.lookup a with
  | some ⟨_, _, .func fd, _⟩ => some (fd.name, fd.qualname, fd.params, fd.body, fd.scope, fd.globals, fd.closure, fd.defaults, fd.kwdefaults, fd.builtins)
  | _ => none
def hdCd (K : PySem.W.Frag) (a : Addr) (q : Str) : Bool := match K.lookup a with
  | some ⟨_, _, .func fd, _⟩ => PySem.W.codeIn K fd.code q
  | _ => false
theorem hdFn_ok {K : PySem.W.Frag} {a : Addr} {x q : Str} {ps : Arguments} {b : List Stmt} {sc : Scope} {dV kV : Value} (e : hdFn K a = some (x, q, ps, .stmts b, sc, mainGlobals, [], dV, kV, builtinsNs)) (c : hdCd K a q = true) :
    ∃ oc od osl doc pm an cdv ct, K.lookup a = some ⟨oc, od, .func (PySem.W.fnOf x q ps b sc dV kV doc pm an cdv ct), osl⟩ ∧ PySem.W.codeIn K cdv q = true := by
  unfold hdCd at c
  unfold hdFn at e
  cases hq : K.lookup a with
  | none =>
    rw [hq] at c
    cases c
  | some o =>
    obtain ⟨oc, od, dt, osl⟩ := o
    rw [hq] at c e
    cases dt with
    | func fd =>
      obtain ⟨n1, n2, n3, n4, n5, n6, n7, n8, n9, n10, n11, n12, n13, n14, n15⟩ := fd
      have e2 : (some (n1, n2, n3, n4, n5, n6, n7, n8, n9, n15) : HdF) = some (x, q, ps, .stmts b, sc, mainGlobals, [], dV, kV, builtinsNs) := e
      simp only [Option.some.injEq, Prod.mk.injEq] at e2
      obtain ⟨h1, h2, h3, h4, h5, h6, h7, h8, h9, h10⟩ := e2
      subst h1 h2 h3 h4 h5 h6 h7 h8 h9 h10
      exact ⟨oc, od, osl, n10, n11, n12, n13, n14, rfl, c⟩
    | _ => cases c
def hdN0 : List Str := ["_wall", "__name__", "StoreError", "BadText", "BadValue", "LETTERS", "LOST", "NEW", "SIGNS", "kind_c", "kind_r", "content_c"]
def hdN1 : List Str := ["content_r", "is_due", "is_standing", "after_takel", "after_takep", "waits", "home_without_r", "after_change", "after_free", "after_close", "after_copy", "log_after_mark"]
def hdN2 : List Str := ["after_mark", "after_home", "after_early", "after_words", "after_room", "after_told", "STEPS", "after", "let_letters", "RuleSet", "Book", "_law_feed"]
def hdN3 : List Str := ["_law_pick", "_law_rules", "_law_names", "_law_letters", "_law_kind_c", "_law_kind_r", "_law_one", "_law_drawn", "_law_content_c", "_law_content_r", "_law_words_let", "_law_let"]
def hdN4 : List Str := ["_law_log", "_law_marked", "_law_behind", "_law_same", "_law_letter_good", "_law_raises", "_law_spoilt"]
def hdN : List Str := hdN0 ++ hdN1 ++ hdN2 ++ hdN3 ++ hdN4
def hdA0 : List Addr := [3, 2, 31, 44, 56, 267, 324, 30, 43, 55, 266, 323, 59, 60, 61, 62, 63, 64, 65, 66, 67, 68, 69, 70, 71, 72, 73, 74, 75, 76]
def hdA1 : List Addr := [77, 78, 79, 80, 81, 82, 83, 84, 85, 86, 87, 88, 89, 90, 91, 92, 93, 94, 95, 96, 97, 98, 99, 100, 101, 102, 103, 104, 105, 106]
def hdA2 : List Addr := [107, 108, 109, 110, 111, 112, 113, 114, 115, 116, 117, 118, 119, 120, 121, 122, 123, 124, 125, 126, 127, 128, 129, 130, 131, 132, 133, 134, 135, 136]
def hdA3 : List Addr := [137, 138, 139, 140, 141, 142, 143, 144, 145, 146, 147, 148, 149, 150, 151, 152, 153, 154, 155, 156, 157, 158, 159, 160, 161, 162, 163, 164, 165, 166]
def hdA4 : List Addr := [167, 168, 169, 170, 171, 172, 173, 174, 175, 176, 177, 178, 179, 180, 181, 182, 183, 184, 185, 186, 187, 188, 189, 190, 191, 192, 193, 194, 195, 196]
def hdA5 : List Addr := [197, 198, 199, 200, 201, 202, 203, 204, 205, 206, 207, 208, 209, 210, 211, 212, 213, 214, 215, 216, 217, 218, 219, 220, 221, 222, 223, 224, 225, 226]
def hdA6 : List Addr := [227, 228, 237, 238, 239, 240, 241, 242, 243, 244, 245, 246, 247, 248, 249, 250, 279, 290, 291, 292, 293, 294, 295, 296, 298, 327, 328, 329, 330, 331]
def hdA7 : List Addr := [332, 333, 334, 335, 336, 337, 338, 339, 340, 341, 342, 343, 344, 345, 346, 347, 348, 349, 350, 351, 352, 353, 354, 355, 356, 357, 358, 359, 360, 361]
def hdA8 : List Addr := [362, 363, 364, 365, 366, 367, 368, 369, 370, 371, 372, 373, 374, 375, 376, 377, 378, 379, 380, 381, 382, 383, 384, 385, 386, 387, 388, 389, 390, 391]
def hdA9 : List Addr := [392, 393, 394, 395, 396, 397, 398, 399, 400, 401, 402, 403, 404, 405, 406, 407, 408, 409, 410, 411, 412, 413, 414, 415, 416, 417, 418, 419, 420, 421]
def hdA10 : List Addr := [422, 423, 424, 425, 426, 427, 428, 429, 430, 431, 432, 433, 434, 435, 436, 437, 438, 439, 440, 441, 442, 443, 444, 445, 446, 447, 448, 449, 450, 451]
def hdA11 : List Addr := [452, 453, 454, 455, 456, 457, 458, 459, 460, 461, 462, 463, 464, 465, 466, 467, 468, 469]
def hdA : List Addr := hdA0 ++ hdA1 ++ hdA2 ++ hdA3 ++ hdA4 ++ hdA5 ++ hdA6 ++ hdA7 ++ hdA8 ++ hdA9 ++ hdA10 ++ hdA11
abbrev hdRow : OpenRow := OpenLaw.row PySem.Challenge.rw_lotsandties_k52_one_letter
abbrev hdQ : Program := view hdRow.prog [60]
noncomputable abbrev hdE (w : World) (os : OsState) : Option SharedT := HandSHeadRun.endF (HandSHeadRun.stepQ (HandSHeadRun.denQ HandSHeadRun.tabQ) hdRow.prog w) 3868 hdRow.prog w os
abbrev hdK (s : SharedT) : Frag := He.frG (HandSHeadRun.getT s) hdA
theorem hdL_f (w : World) (os : OsState) : (hdE (w.withFollow "special-get-raises" false) os).map (fun s => (HandSHeadRun.looksF hdRow.prog (boot_heap (w.withFollow "special-get-raises" false).params) s.abs, HandSHeadRun.seenQ hdQ hdN (importedModules hdRow.prog.main.body) (fun s => xlAt hdQ [] s && recOk hdRow.toRowW.records s) s.abs)) = some (true, openGood hdQ hdN) := by
  kernel_rfl
theorem hdL_t (w : World) (os : OsState) : (hdE (w.withFollow "special-get-raises" true) os).map (fun s => (HandSHeadRun.looksF hdRow.prog (boot_heap (w.withFollow "special-get-raises" true).params) s.abs, HandSHeadRun.seenQ hdQ hdN (importedModules hdRow.prog.main.body) (fun s => xlAt hdQ [] s && recOk hdRow.toRowW.records s) s.abs)) = some (true, openGood hdQ hdN) := by
  kernel_rfl
theorem hdL (w : World) : ∀ os : OsState, (hdE w os).map (fun s => (HandSHeadRun.looksF hdRow.prog (boot_heap w.params) s.abs, HandSHeadRun.seenQ hdQ hdN (importedModules hdRow.prog.main.body) (fun s => xlAt hdQ [] s && recOk hdRow.toRowW.records s) s.abs)) = some (true, openGood hdQ hdN) := byRow2 "special-get-raises" (P := fun w => ∀ os : OsState, (hdE w os).map (fun s => (HandSHeadRun.looksF hdRow.prog (boot_heap w.params) s.abs, HandSHeadRun.seenQ hdQ hdN (importedModules hdRow.prog.main.body) (fun s => xlAt hdQ [] s && recOk hdRow.toRowW.records s) s.abs)) = some (true, openGood hdQ hdN)) hdL_f hdL_t w
abbrev HdT0 : Type := (Option (Option Value)) × (Bool) × (Bool) × (Bool) × (Option (Option Value)) × (Bool) × (Bool) × (Option (Option Value)) × (Option (Option Value)) × (Bool) × (Option (Option Value)) × (Option Obj) × (Option PySem.W.CFound) × (Option (Option Value)) × (Option (Option Value)) × (Option (Option Value)) × (HdF) × (Bool) × (Bool) × (Option (Option Value)) × (HdF) × (Bool) × (Bool) × (Option (Option Value)) × (HdF) × (Bool) × (Bool) × (Option (Option Value)) × (HdF) × (Bool) × (Bool) × (Option (Option Value)) × (HdF) × (Bool) × (Bool) × (Option (Option Value)) × (HdF) × (Bool) × (Bool) × (Option (Option Value)) × (HdF) × (Bool) × (Bool) × (Option (Option Value)) × (HdF) × (Bool) × (Bool) × (Option (Option Value)) × (HdF) × (Bool) × (Bool) × (Option (Option Value)) × (HdF) × (Bool) × (Bool) × (Option (Option Value)) × (HdF) × (Bool) × (Bool) × (Option (Option Value)) × (HdF) × (Bool) × (Bool) × (Option (Option Value)) × (HdF) × (Bool) × (Bool) × (Option (Option Value)) × (HdF) × (Bool) × (Bool) × (Option (Option Value)) × (HdF) × (Bool) × (Bool) × (Option (Option Value)) × (HdF) × (Bool) × (Bool) × (Option (Option Value)) × (HdF) × (Bool) × (Bool) × (Option (Option Value)) × (HdF) × (Bool) × (Bool) × (Option (Option Value)) × (HdF) × (Bool) × (Bool) × (Option (Option Value)) × (HdF) × (Bool) × (Bool) × (Option (Option Value)) × (HdF) × (Bool) × (Bool) × (Option (Option Value)) × (HdF) × (Bool) × (Bool) × (Option (Option Value)) × (HdF) × (Bool) × (Bool) × (Option (Option Value)) × (HdF) × (Bool)
def hdO0 (K : Frag) : HdT0 := (PySem.W.nsIn K mainGlobals "Book", PySem.W.plainGet K 324 Str.empty, PySem.W.hasDictIn K 324, PySem.W.plainOver K 324, PySem.W.findIn K (.ref 324) "__setattr__", PySem.W.makesIn K 324, PySem.W.keepIn K (.ref 324), PySem.W.findIn K (.ref 324) "names", PySem.W.findIn K (.ref 324) "number", PySem.W.readsIn K 324 (.type "type"), PySem.W.specialIn K (.ref 324) "__getattribute__", K.lookup 279, PySem.W.findCls K (.ref 324) (.type "type") "RULES", PySem.W.findIn K (.ref 324) "RULES", PySem.W.specialIn K (.ref 279) "__get__", PySem.W.nsIn K mainGlobals "kind_c", hdFn K 75, hdCd K 75 "kind_c", PySem.W.keepIn K (.ref 75), PySem.W.nsIn K mainGlobals "kind_r", hdFn K 82, hdCd K 82 "kind_r", PySem.W.keepIn K (.ref 82), PySem.W.nsIn K mainGlobals "content_c", hdFn K 89, hdCd K 89 "content_c", PySem.W.keepIn K (.ref 89), PySem.W.nsIn K mainGlobals "content_r", hdFn K 96, hdCd K 96 "content_r", PySem.W.keepIn K (.ref 96), PySem.W.nsIn K mainGlobals "is_due", hdFn K 103, hdCd K 103 "is_due", PySem.W.keepIn K (.ref 103), PySem.W.nsIn K mainGlobals "is_standing", hdFn K 110, hdCd K 110 "is_standing", PySem.W.keepIn K (.ref 110), PySem.W.nsIn K mainGlobals "after_takel", hdFn K 117, hdCd K 117 "after_takel", PySem.W.keepIn K (.ref 117), PySem.W.nsIn K mainGlobals "after_takep", hdFn K 124, hdCd K 124 "after_takep", PySem.W.keepIn K (.ref 124), PySem.W.nsIn K mainGlobals "waits", hdFn K 131, hdCd K 131 "waits", PySem.W.keepIn K (.ref 131), PySem.W.nsIn K mainGlobals "home_without_r", hdFn K 138, hdCd K 138 "home_without_r", PySem.W.keepIn K (.ref 138), PySem.W.nsIn K mainGlobals "after_change", hdFn K 145, hdCd K 145 "after_change", PySem.W.keepIn K (.ref 145), PySem.W.nsIn K mainGlobals "after_free", hdFn K 152, hdCd K 152 "after_free", PySem.W.keepIn K (.ref 152), PySem.W.nsIn K mainGlobals "after_close", hdFn K 159, hdCd K 159 "after_close", PySem.W.keepIn K (.ref 159), PySem.W.nsIn K mainGlobals "after_copy", hdFn K 166, hdCd K 166 "after_copy", PySem.W.keepIn K (.ref 166), PySem.W.nsIn K mainGlobals "log_after_mark", hdFn K 173, hdCd K 173 "log_after_mark", PySem.W.keepIn K (.ref 173), PySem.W.nsIn K mainGlobals "after_mark", hdFn K 180, hdCd K 180 "after_mark", PySem.W.keepIn K (.ref 180), PySem.W.nsIn K mainGlobals "after_home", hdFn K 187, hdCd K 187 "after_home", PySem.W.keepIn K (.ref 187), PySem.W.nsIn K mainGlobals "after_early", hdFn K 194, hdCd K 194 "after_early", PySem.W.keepIn K (.ref 194), PySem.W.nsIn K mainGlobals "after_words", hdFn K 201, hdCd K 201 "after_words", PySem.W.keepIn K (.ref 201), PySem.W.nsIn K mainGlobals "after_room", hdFn K 208, hdCd K 208 "after_room", PySem.W.keepIn K (.ref 208), PySem.W.nsIn K mainGlobals "after_told", hdFn K 215, hdCd K 215 "after_told", PySem.W.keepIn K (.ref 215), PySem.W.nsIn K mainGlobals "after", hdFn K 223, hdCd K 223 "after", PySem.W.keepIn K (.ref 223), PySem.W.nsIn K mainGlobals "let_letters", hdFn K 228, hdCd K 228 "let_letters", PySem.W.keepIn K (.ref 228), PySem.W.nsIn K mainGlobals "_law_feed", hdFn K 333, hdCd K 333 "_law_feed")
def hdV0 (w : World) : HdT0 := (some (some (.ref 324)), true, true, true, some (some (.builtin "object.__setattr__")), true, true, some none, some none, true, some (some (.builtin "type.__getattribute__")), some ⟨.type "tuple", none, .seq #[.str "copies" 657, .str "mark" 658, .str "words" 659, .str "reuse" 660, .str "late" 661, .str "revoke" 662, .str "lapse" 663, .str "shelve" 664, .str "frozen" 665, .str "wait" 666, .str "room" 667, .str "told" 668] 0, #[]⟩, some (.val (.ref 279)), some (some (.ref 279)), some none, some (some (.ref 75)), (some ("kind_c", "kind_c", (defArgs s_kind_c), .stmts (defBody s_kind_c), (defScope s_kind_c), mainGlobals, [], .none, .none, builtinsNs)), true, true, some (some (.ref 82)), (some ("kind_r", "kind_r", (defArgs s_kind_r), .stmts (defBody s_kind_r), (defScope s_kind_r), mainGlobals, [], .none, .none, builtinsNs)), true, true, some (some (.ref 89)), (some ("content_c", "content_c", (defArgs s_content_c), .stmts (defBody s_content_c), (defScope s_content_c), mainGlobals, [], .none, .none, builtinsNs)), true, true, some (some (.ref 96)), (some ("content_r", "content_r", (defArgs s_content_r), .stmts (defBody s_content_r), (defScope s_content_r), mainGlobals, [], .none, .none, builtinsNs)), true, true, some (some (.ref 103)), (some ("is_due", "is_due", (defArgs s_is_due), .stmts (defBody s_is_due), (defScope s_is_due), mainGlobals, [], .none, .none, builtinsNs)), true, true, some (some (.ref 110)), (some ("is_standing", "is_standing", (defArgs s_is_standing), .stmts (defBody s_is_standing), (defScope s_is_standing), mainGlobals, [], .none, .none, builtinsNs)), true, true, some (some (.ref 117)), (some ("after_takel", "after_takel", (defArgs s_after_takel), .stmts (defBody s_after_takel), (defScope s_after_takel), mainGlobals, [], .none, .none, builtinsNs)), true, true, some (some (.ref 124)), (some ("after_takep", "after_takep", (defArgs s_after_takep), .stmts (defBody s_after_takep), (defScope s_after_takep), mainGlobals, [], .none, .none, builtinsNs)), true, true, some (some (.ref 131)), (some ("waits", "waits", (defArgs s_waits), .stmts (defBody s_waits), (defScope s_waits), mainGlobals, [], .none, .none, builtinsNs)), true, true, some (some (.ref 138)), (some ("home_without_r", "home_without_r", (defArgs s_home_without_r), .stmts (defBody s_home_without_r), (defScope s_home_without_r), mainGlobals, [], .none, .none, builtinsNs)), true, true, some (some (.ref 145)), (some ("after_change", "after_change", (defArgs s_after_change), .stmts (defBody s_after_change), (defScope s_after_change), mainGlobals, [], .none, .none, builtinsNs)), true, true, some (some (.ref 152)), (some ("after_free", "after_free", (defArgs s_after_free), .stmts (defBody s_after_free), (defScope s_after_free), mainGlobals, [], .none, .none, builtinsNs)), true, true, some (some (.ref 159)), (some ("after_close", "after_close", (defArgs s_after_close), .stmts (defBody s_after_close), (defScope s_after_close), mainGlobals, [], .none, .none, builtinsNs)), true, true, some (some (.ref 166)), (some ("after_copy", "after_copy", (defArgs s_after_copy), .stmts (defBody s_after_copy), (defScope s_after_copy), mainGlobals, [], .none, .none, builtinsNs)), true, true, some (some (.ref 173)), (some ("log_after_mark", "log_after_mark", (defArgs s_log_after_mark), .stmts (defBody s_log_after_mark), (defScope s_log_after_mark), mainGlobals, [], .none, .none, builtinsNs)), true, true, some (some (.ref 180)), (some ("after_mark", "after_mark", (defArgs s_after_mark), .stmts (defBody s_after_mark), (defScope s_after_mark), mainGlobals, [], .none, .none, builtinsNs)), true, true, some (some (.ref 187)), (some ("after_home", "after_home", (defArgs s_after_home), .stmts (defBody s_after_home), (defScope s_after_home), mainGlobals, [], .none, .none, builtinsNs)), true, true, some (some (.ref 194)), (some ("after_early", "after_early", (defArgs s_after_early), .stmts (defBody s_after_early), (defScope s_after_early), mainGlobals, [], .none, .none, builtinsNs)), true, true, some (some (.ref 201)), (some ("after_words", "after_words", (defArgs s_after_words), .stmts (defBody s_after_words), (defScope s_after_words), mainGlobals, [], .none, .none, builtinsNs)), true, true, some (some (.ref 208)), (some ("after_room", "after_room", (defArgs s_after_room), .stmts (defBody s_after_room), (defScope s_after_room), mainGlobals, [], .none, .none, builtinsNs)), true, true, some (some (.ref 215)), (some ("after_told", "after_told", (defArgs s_after_told), .stmts (defBody s_after_told), (defScope s_after_told), mainGlobals, [], .none, .none, builtinsNs)), true, true, some (some (.ref 223)), (some ("after", "after", (defArgs s_after), .stmts (defBody s_after), (defScope s_after), mainGlobals, [], .none, .none, builtinsNs)), true, true, some (some (.ref 228)), (some ("let_letters", "let_letters", (defArgs s_let_letters), .stmts (defBody s_let_letters), (defScope s_let_letters), mainGlobals, [], .none, .none, builtinsNs)), true, true, some (some (.ref 333)), (some ("_law_feed", "_law_feed", (defArgs s_law_feed), .stmts (defBody s_law_feed), (defScope s_law_feed), mainGlobals, [], .none, .none, builtinsNs)), true)
theorem hdR0_f (w : World) (os : OsState) : (hdE (w.withFollow "special-get-raises" false) os).map (fun s => hdO0 (hdK s)) = some (hdV0 (w.withFollow "special-get-raises" false)) := by
  kernel_rfl
theorem hdR0_t (w : World) (os : OsState) : (hdE (w.withFollow "special-get-raises" true) os).map (fun s => hdO0 (hdK s)) = some (hdV0 (w.withFollow "special-get-raises" true)) := by
  kernel_rfl
theorem hdR0 (w : World) : ∀ os : OsState, (hdE w os).map (fun s => hdO0 (hdK s)) = some (hdV0 w) := byRow2 "special-get-raises" (P := fun w => ∀ os : OsState, (hdE w os).map (fun s => hdO0 (hdK s)) = some (hdV0 w)) hdR0_f hdR0_t w
abbrev HdT1 : Type := (Bool) × (Option (Option Value)) × (HdF) × (Bool) × (Bool) × (Option (Option Value)) × (HdF) × (Bool) × (Bool) × (Option (Option Value)) × (HdF) × (Bool) × (Bool) × (Option (Option Value)) × (HdF) × (Bool) × (Bool) × (Option (Option Value)) × (HdF) × (Bool) × (Bool) × (Option (Option Value)) × (HdF) × (Bool) × (Bool) × (Option (Option Value)) × (HdF) × (Bool) × (Bool) × (Option (Option Value)) × (HdF) × (Bool) × (Bool) × (Option (Option Value)) × (HdF) × (Bool) × (Bool) × (Option (Option Value)) × (HdF) × (Bool) × (Bool) × (Option (Option Value)) × (HdF) × (Bool) × (Bool) × (Option (Option Value)) × (HdF) × (Bool) × (Bool) × (Option (Option Value)) × (HdF) × (Bool) × (Bool) × (Option (Option Value)) × (HdF) × (Bool) × (Bool) × (Option (Option Value)) × (HdF) × (Bool) × (Bool) × (Option (Option Value)) × (HdF) × (Bool) × (Bool) × (Option (Option Value)) × (HdF) × (Bool) × (Bool) × (Option (Option Value)) × (HdF) × (Bool) × (Bool) × (Option (Option Value)) × (HdF) × (Bool) × (Bool) × (Option (Option Value)) × (HdF) × (Bool) × (Bool) × (Option (Option Value)) × (Bool) × (HdF) × (Bool) × (Bool) × (Option (Option Value)) × (Bool) × (HdF) × (Bool) × (Bool) × (Option PySem.W.CFound) × (Option (List Value)) × (HdF) × (Bool) × (Bool) × (Option (Option Value)) × (Option (Option Value)) × (Option (Option Value)) × (Option (Option Value)) × (Option (Option Value)) × (Option (Option Value)) × (Option (Option Value)) × (Option (Option Value)) × (Option (Option Value)) × (Option (Option Value)) × (Option Obj) × (Option (Option Value)) × (Option Obj) × (Option (Option Value))
def hdO1 (K : Frag) : HdT1 := (PySem.W.keepIn K (.ref 333), PySem.W.nsIn K mainGlobals "_law_pick", hdFn K 340, hdCd K 340 "_law_pick", PySem.W.keepIn K (.ref 340), PySem.W.nsIn K mainGlobals "_law_rules", hdFn K 347, hdCd K 347 "_law_rules", PySem.W.keepIn K (.ref 347), PySem.W.nsIn K mainGlobals "_law_names", hdFn K 354, hdCd K 354 "_law_names", PySem.W.keepIn K (.ref 354), PySem.W.nsIn K mainGlobals "_law_letters", hdFn K 361, hdCd K 361 "_law_letters", PySem.W.keepIn K (.ref 361), PySem.W.nsIn K mainGlobals "_law_kind_c", hdFn K 368, hdCd K 368 "_law_kind_c", PySem.W.keepIn K (.ref 368), PySem.W.nsIn K mainGlobals "_law_kind_r", hdFn K 375, hdCd K 375 "_law_kind_r", PySem.W.keepIn K (.ref 375), PySem.W.nsIn K mainGlobals "_law_one", hdFn K 382, hdCd K 382 "_law_one", PySem.W.keepIn K (.ref 382), PySem.W.nsIn K mainGlobals "_law_drawn", hdFn K 387, hdCd K 387 "_law_drawn", PySem.W.keepIn K (.ref 387), PySem.W.nsIn K mainGlobals "_law_content_c", hdFn K 394, hdCd K 394 "_law_content_c", PySem.W.keepIn K (.ref 394), PySem.W.nsIn K mainGlobals "_law_content_r", hdFn K 401, hdCd K 401 "_law_content_r", PySem.W.keepIn K (.ref 401), PySem.W.nsIn K mainGlobals "_law_words_let", hdFn K 408, hdCd K 408 "_law_words_let", PySem.W.keepIn K (.ref 408), PySem.W.nsIn K mainGlobals "_law_let", hdFn K 415, hdCd K 415 "_law_let", PySem.W.keepIn K (.ref 415), PySem.W.nsIn K mainGlobals "_law_log", hdFn K 422, hdCd K 422 "_law_log", PySem.W.keepIn K (.ref 422), PySem.W.nsIn K mainGlobals "_law_marked", hdFn K 429, hdCd K 429 "_law_marked", PySem.W.keepIn K (.ref 429), PySem.W.nsIn K mainGlobals "_law_behind", hdFn K 436, hdCd K 436 "_law_behind", PySem.W.keepIn K (.ref 436), PySem.W.nsIn K mainGlobals "_law_same", hdFn K 443, hdCd K 443 "_law_same", PySem.W.keepIn K (.ref 443), PySem.W.nsIn K mainGlobals "_law_letter_good", hdFn K 450, hdCd K 450 "_law_letter_good", PySem.W.keepIn K (.ref 450), PySem.W.nsIn K mainGlobals "_law_raises", hdFn K 457, hdCd K 457 "_law_raises", PySem.W.keepIn K (.ref 457), PySem.W.nsIn K mainGlobals "_law_spoilt", hdFn K 464, hdCd K 464 "_law_spoilt", PySem.W.keepIn K (.ref 464), PySem.W.nsIn K mainGlobals "law", hdFn K 469, hdCd K 469 "law", PySem.W.keepIn K (.ref 469), PySem.W.findIn K (.ref 324) "__init__", PySem.W.isFn K (.ref 243), hdFn K 243, hdCd K 243 "RuleSet.__init__", PySem.W.keepIn K (.ref 243), PySem.W.findIn K (.ref 324) "__contains__", PySem.W.isFn K (.ref 250), hdFn K 250, hdCd K 250 "RuleSet.__contains__", PySem.W.keepIn K (.ref 250), PySem.W.findCls K (.ref 324) (.type "type") "of_number", PySem.W.recIn K 298 "staticmethod", hdFn K 296, hdCd K 296 "Book.of_number", PySem.W.keepIn K (.ref 296), PySem.W.nsIn K mainGlobals "abs", PySem.W.nsIn K mainGlobals "enumerate", PySem.W.nsIn K mainGlobals "int", PySem.W.nsIn K mainGlobals "isinstance", PySem.W.nsIn K mainGlobals "len", PySem.W.nsIn K mainGlobals "list", PySem.W.nsIn K mainGlobals "range", PySem.W.nsIn K mainGlobals "staticmethod", PySem.W.nsIn K mainGlobals "str", PySem.W.nsIn K mainGlobals "tuple", K.lookup 59, PySem.W.nsIn K mainGlobals "LETTERS", K.lookup 60, PySem.W.nsIn K mainGlobals "LOST")
def hdV1 (w : World) : HdT1 := (true, some (some (.ref 340)), (some ("_law_pick", "_law_pick", (defArgs s_law_pick), .stmts (defBody s_law_pick), (defScope s_law_pick), mainGlobals, [], .none, .none, builtinsNs)), true, true, some (some (.ref 347)), (some ("_law_rules", "_law_rules", (defArgs s_law_rules), .stmts (defBody s_law_rules), (defScope s_law_rules), mainGlobals, [], .none, .none, builtinsNs)), true, true, some (some (.ref 354)), (some ("_law_names", "_law_names", (defArgs s_law_names), .stmts (defBody s_law_names), (defScope s_law_names), mainGlobals, [], .none, .none, builtinsNs)), true, true, some (some (.ref 361)), (some ("_law_letters", "_law_letters", (defArgs s_law_letters), .stmts (defBody s_law_letters), (defScope s_law_letters), mainGlobals, [], .none, .none, builtinsNs)), true, true, some (some (.ref 368)), (some ("_law_kind_c", "_law_kind_c", (defArgs s_law_kind_c), .stmts (defBody s_law_kind_c), (defScope s_law_kind_c), mainGlobals, [], .none, .none, builtinsNs)), true, true, some (some (.ref 375)), (some ("_law_kind_r", "_law_kind_r", (defArgs s_law_kind_r), .stmts (defBody s_law_kind_r), (defScope s_law_kind_r), mainGlobals, [], .none, .none, builtinsNs)), true, true, some (some (.ref 382)), (some ("_law_one", "_law_one", (defArgs s_law_one), .stmts (defBody s_law_one), (defScope s_law_one), mainGlobals, [], .none, .none, builtinsNs)), true, true, some (some (.ref 387)), (some ("_law_drawn", "_law_drawn", (defArgs s_law_drawn), .stmts (defBody s_law_drawn), (defScope s_law_drawn), mainGlobals, [], .none, .none, builtinsNs)), true, true, some (some (.ref 394)), (some ("_law_content_c", "_law_content_c", (defArgs s_law_content_c), .stmts (defBody s_law_content_c), (defScope s_law_content_c), mainGlobals, [], .none, .none, builtinsNs)), true, true, some (some (.ref 401)), (some ("_law_content_r", "_law_content_r", (defArgs s_law_content_r), .stmts (defBody s_law_content_r), (defScope s_law_content_r), mainGlobals, [], .none, .none, builtinsNs)), true, true, some (some (.ref 408)), (some ("_law_words_let", "_law_words_let", (defArgs s_law_words_let), .stmts (defBody s_law_words_let), (defScope s_law_words_let), mainGlobals, [], .none, .none, builtinsNs)), true, true, some (some (.ref 415)), (some ("_law_let", "_law_let", (defArgs s_law_let), .stmts (defBody s_law_let), (defScope s_law_let), mainGlobals, [], .none, .none, builtinsNs)), true, true, some (some (.ref 422)), (some ("_law_log", "_law_log", (defArgs s_law_log), .stmts (defBody s_law_log), (defScope s_law_log), mainGlobals, [], .none, .none, builtinsNs)), true, true, some (some (.ref 429)), (some ("_law_marked", "_law_marked", (defArgs s_law_marked), .stmts (defBody s_law_marked), (defScope s_law_marked), mainGlobals, [], .none, .none, builtinsNs)), true, true, some (some (.ref 436)), (some ("_law_behind", "_law_behind", (defArgs s_law_behind), .stmts (defBody s_law_behind), (defScope s_law_behind), mainGlobals, [], .none, .none, builtinsNs)), true, true, some (some (.ref 443)), (some ("_law_same", "_law_same", (defArgs s_law_same), .stmts (defBody s_law_same), (defScope s_law_same), mainGlobals, [], .none, .none, builtinsNs)), true, true, some (some (.ref 450)), (some ("_law_letter_good", "_law_letter_good", (defArgs s_law_letter_good), .stmts (defBody s_law_letter_good), (defScope s_law_letter_good), mainGlobals, [], .none, .none, builtinsNs)), true, true, some (some (.ref 457)), (some ("_law_raises", "_law_raises", (defArgs s_law_raises), .stmts (defBody s_law_raises), (defScope s_law_raises), mainGlobals, [], .none, .none, builtinsNs)), true, true, some (some (.ref 464)), (some ("_law_spoilt", "_law_spoilt", (defArgs s_law_spoilt), .stmts (defBody s_law_spoilt), (defScope s_law_spoilt), mainGlobals, [], .none, .none, builtinsNs)), true, true, some (some (.ref 469)), (some ("law", "law", (defArgs s_law), .stmts (defBody s_law), (defScope s_law), mainGlobals, [], .none, .none, builtinsNs)), true, true, some (some (.ref 243)), true, (some ("__init__", "RuleSet.__init__", (defArgs s_Book_init), .stmts (defBody s_Book_init), (defScope s_Book_init), mainGlobals, [], .none, .none, builtinsNs)), true, true, some (some (.ref 250)), true, (some ("__contains__", "RuleSet.__contains__", (defArgs s_Book_contains), .stmts (defBody s_Book_contains), (defScope s_Book_contains), mainGlobals, [], .none, .none, builtinsNs)), true, true, some (.get (.builtin "staticmethod.__get__") (.ref 298) .none (.ref 324)), some (.ref 296 :: [(.bool false)]), (some ("of_number", "Book.of_number", (defArgs s_Book_of_number), .stmts (defBody s_Book_of_number), (defScope s_Book_of_number), mainGlobals, [], .none, .none, builtinsNs)), true, true, some none, some none, some none, some none, some none, some none, some none, some none, some none, some none, some ⟨.type "tuple", none, .seq #[.str "takel" 248, .str "takep" 249, .str "change" 250, .str "free" 251, .str "close" 252, .str "copy" 253, .str "mark" 254, .str "home" 255, .str "early" 256, .str "words" 257, .str "room" 258, .str "told" 259] 0, #[]⟩, some (some (.ref 59)), some ⟨.type "tuple", none, .seq #[.str "lost" 261] 0, #[]⟩, some (some (.ref 60)))
theorem hdR1_f (w : World) (os : OsState) : (hdE (w.withFollow "special-get-raises" false) os).map (fun s => hdO1 (hdK s)) = some (hdV1 (w.withFollow "special-get-raises" false)) := by
  kernel_rfl
theorem hdR1_t (w : World) (os : OsState) : (hdE (w.withFollow "special-get-raises" true) os).map (fun s => hdO1 (hdK s)) = some (hdV1 (w.withFollow "special-get-raises" true)) := by
  kernel_rfl
theorem hdR1 (w : World) : ∀ os : OsState, (hdE w os).map (fun s => hdO1 (hdK s)) = some (hdV1 w) := byRow2 "special-get-raises" (P := fun w => ∀ os : OsState, (hdE w os).map (fun s => hdO1 (hdK s)) = some (hdV1 w)) hdR1_f hdR1_t w
abbrev HdT2 : Type := (Option Obj) × (Option (Option Value)) × (Option Obj) × (Option Obj) × (Option Obj) × (Option Obj) × (Option Obj) × (Option Obj) × (Option Obj) × (Option (Option Value)) × (Option (Option Value)) × (Option Obj) × (Option (Option Value)) × (Bool) × (Bool) × (Option Bool) × (Option Value) × (Option (Option Value)) × (Option (Option Value)) × (Bool) × (Option (Option Value)) × (Option (Option Value)) × (Option Bool) × (Option Bool) × (Option (Option Value)) × (Bool) × (Bool) × (Option Bool) × (Option Value) × (Option (Option Value)) × (Option (Option Value)) × (Bool) × (Option (Option Value)) × (Option Bool) × (Option (Option Value)) × (Bool) × (Bool) × (Option Bool) × (Option Value) × (Option (Option Value)) × (Option (Option Value)) × (Bool) × (Option (Option Value)) × (Option Bool) × (Option Bool) × (Option Bool) × (Option Bool)
def hdO2 (K : Frag) : HdT2 := (K.lookup 61, PySem.W.nsIn K mainGlobals "NEW", K.lookup 62, K.lookup 63, K.lookup 64, K.lookup 65, K.lookup 66, K.lookup 67, K.lookup 68, PySem.W.nsIn K mainGlobals "SIGNS", PySem.W.nsIn K mainGlobals "STEPS", K.lookup 216, PySem.W.nsIn K mainGlobals "BadValue", PySem.W.excIn K 56 [.type "ValueError", .type "Exception", .type "BaseException", .type "object"] "ValueError.__new__", PySem.W.keepIn K (.ref 56), PySem.W.subIn K (.ref 56) (.type "BaseException"), PySem.W.typeIn K (.ref 56), PySem.W.findIn K (.ref 56) "__getattribute__", PySem.W.findIn K (.ref 56) "__getattr__", PySem.W.hasDictIn K 56, PySem.W.findIn K (.ref 56) "__class__", PySem.W.specialIn K (.builtin "object.__class__") "__get__", PySem.W.takesIn K (.builtin "object.__class__"), PySem.W.mroIn K 56 (.type "object"), PySem.W.nsIn K mainGlobals "StoreError", PySem.W.excIn K 31 [.type "ValueError", .type "Exception", .type "BaseException", .type "object"] "ValueError.__new__", PySem.W.keepIn K (.ref 31), PySem.W.subIn K (.ref 31) (.type "BaseException"), PySem.W.typeIn K (.ref 31), PySem.W.findIn K (.ref 31) "__getattribute__", PySem.W.findIn K (.ref 31) "__getattr__", PySem.W.hasDictIn K 31, PySem.W.findIn K (.ref 31) "__class__", PySem.W.mroIn K 31 (.type "object"), PySem.W.nsIn K mainGlobals "BadText", PySem.W.excIn K 44 [.type "ValueError", .type "Exception", .type "BaseException", .type "object"] "ValueError.__new__", PySem.W.keepIn K (.ref 44), PySem.W.subIn K (.ref 44) (.type "BaseException"), PySem.W.typeIn K (.ref 44), PySem.W.findIn K (.ref 44) "__getattribute__", PySem.W.findIn K (.ref 44) "__getattr__", PySem.W.hasDictIn K 44, PySem.W.findIn K (.ref 44) "__class__", PySem.W.mroIn K 44 (.type "object"), PySem.W.subIn K (.ref 56) (.ref 31), PySem.W.subIn K (.ref 56) (.ref 56), PySem.W.subIn K (.ref 56) (.ref 44))
def hdV2 (w : World) : HdT2 := (some ⟨.type "tuple", none, .seq #[.str "~" 263, .str "L" 264, .str "P" 265] 0, #[]⟩, some (some (.ref 61)), some ⟨.type "tuple", none, .seq #[.str "F" 267, .str "L" 268, .str "P" 269] 0, #[]⟩, some ⟨.type "tuple", none, .seq #[.str "-" 270, .str "=" 271, .str "~" 272, .str "F" 273, .str "L" 274, .str "P" 275] 0, #[]⟩, some ⟨.type "tuple", none, .seq #[.str "=" 276, .str "~" 277, .str "F" 278, .str "L" 279, .str "P" 280] 0, #[]⟩, some ⟨.type "tuple", none, .seq #[.str "K" 281, .str "C" 282, .str "R" 283, .str "o" 284] 0, #[]⟩, some ⟨.type "tuple", none, .seq #[.str "-" 285, .str "K" 286, .str "o" 287] 0, #[]⟩, some ⟨.type "tuple", none, .seq #[.str "-" 288, .str "+" 289, .str "!" 290] 0, #[]⟩, some ⟨.type "tuple", none, .seq #[.ref 62, .ref 63, .ref 64, .ref 65, .ref 66, .ref 67] 0, #[]⟩, some (some (.ref 68)), some (some (.ref 216)), some ⟨.type "dict", none, .dict #[⟨(PyData.keyHash w.params "takel"), .str "takel" 543, .ref 117⟩, ⟨(PyData.keyHash w.params "takep"), .str "takep" 544, .ref 124⟩, ⟨(PyData.keyHash w.params "change"), .str "change" 545, .ref 145⟩, ⟨(PyData.keyHash w.params "free"), .str "free" 546, .ref 152⟩, ⟨(PyData.keyHash w.params "close"), .str "close" 547, .ref 159⟩, ⟨(PyData.keyHash w.params "copy"), .str "copy" 548, .ref 166⟩, ⟨(PyData.keyHash w.params "mark"), .str "mark" 549, .ref 180⟩, ⟨(PyData.keyHash w.params "home"), .str "home" 550, .ref 187⟩, ⟨(PyData.keyHash w.params "early"), .str "early" 551, .ref 194⟩, ⟨(PyData.keyHash w.params "words"), .str "words" 552, .ref 201⟩, ⟨(PyData.keyHash w.params "room"), .str "room" 553, .ref 208⟩, ⟨(PyData.keyHash w.params "told"), .str "told" 554, .ref 215⟩] 12, #[]⟩, some (some (.ref 56)), true, true, some true, some (.type "type"), some (some (.builtin "BaseException.__getattribute__")), some none, true, some (some (.builtin "object.__class__")), some (some (.builtin "getset_descriptor.__get__")), some true, some true, some (some (.ref 31)), true, true, some true, some (.type "type"), some (some (.builtin "BaseException.__getattribute__")), some none, true, some (some (.builtin "object.__class__")), some true, some (some (.ref 44)), true, true, some true, some (.type "type"), some (some (.builtin "BaseException.__getattribute__")), some none, true, some (some (.builtin "object.__class__")), some true, some true, some true, some false)
theorem hdR2_f (w : World) (os : OsState) : (hdE (w.withFollow "special-get-raises" false) os).map (fun s => hdO2 (hdK s)) = some (hdV2 (w.withFollow "special-get-raises" false)) := by
  kernel_rfl
theorem hdR2_t (w : World) (os : OsState) : (hdE (w.withFollow "special-get-raises" true) os).map (fun s => hdO2 (hdK s)) = some (hdV2 (w.withFollow "special-get-raises" true)) := by
  kernel_rfl
theorem hdR2 (w : World) : ∀ os : OsState, (hdE w os).map (fun s => hdO2 (hdK s)) = some (hdV2 w) := byRow2 "special-get-raises" (P := fun w => ∀ os : OsState, (hdE w os).map (fun s => hdO2 (hdK s)) = some (hdV2 w)) hdR2_f hdR2_t w
abbrev HdT : Type := HdT0 × HdT1 × HdT2
def hdO (K : Frag) : HdT := (hdO0 K, hdO1 K, hdO2 K)
def hdV (w : World) : HdT := (hdV0 w, hdV1 w, hdV2 w)
def hdH : Hook where
  α := HdT
  obs := fun s => hdO (He.frG s.heap.get? hdA)
  val := hdV
  says := fun w h => ∃ K : Frag, K.In h ∧ hdO K = hdV w
  of := fun _ _ e => ⟨_, He.frG_in, e⟩
  keeps := fun _ _ _ ⟨K, hK, c⟩ k => ⟨K, Frag.In.keeps hK k, c⟩
noncomputable def hdOb (s : SharedT) : HdT := hdO (hdK s)
theorem hdOb_eq (s : SharedT) : hdOb s = hdH.obs s.abs := by
  have e : HandSHeadRun.getT s = s.abs.heap.get? := funext (HandSHeadRun.getT_eq s)
  show hdO (He.frG (HandSHeadRun.getT s) hdA) = hdO (He.frG s.abs.heap.get? hdA)
  rw [e]
theorem hdRun (w : World) : HandSHeadRun.RunEq hdRow hdQ hdH hdOb 3868 hdN w := by
  intro os
  obtain ⟨s, hs, hl⟩ := Option.map_eq_some_iff.mp (hdL w os)
  have hl := Prod.mk.inj hl
  obtain ⟨s0, hs0, h0⟩ := Option.map_eq_some_iff.mp (hdR0 w os)
  cases hs.symm.trans hs0
  obtain ⟨s1, hs1, h1⟩ := Option.map_eq_some_iff.mp (hdR1 w os)
  cases hs.symm.trans hs1
  obtain ⟨s2, hs2, h2⟩ := Option.map_eq_some_iff.mp (hdR2 w os)
  cases hs.symm.trans hs2
  show (hdE w os).map _ = _
  rw [hs]
  refine congrArg some (Prod.ext hl.1 (Prod.ext hl.2 ?_))
  show hdO (hdK s) = hdV w
  unfold hdO hdV
  rw [h0, h1, h2]
end
/-! Trees: what an object of the heap holds, without addresses. own: this place alone has it and may change it; frz: nobody changes it any more;
lnt: lent for the time of this def. -/
inductive Ow | own | frz | lnt
  deriving DecidableEq
/-- the written part; the classes by number, their fields' names in the order in which they come; the errors' classes by number -/
structure KC where
  K : PySem.W.Frag
  P : Program
  w : World
  ct : Nat → Addr
  nm : Nat → List Str
  et : Nat → Addr
  ef : Nat → Option (Str × Str)
/-- ins n k: an instance of class n with its first k fields -/
inductive Nk | lst | tup | ins (n k : Nat) | dct (ks : List Key) | dcT (ks : List NestedKey) | sti (l : List Int) | xd (d : Addr) (f x : Str)
  deriving DecidableEq
inductive Tr | any | a (v : V) | nd (k : Nk) (o : Ow) (ts : List Tr)
def eff : Ow → Ow → Ow
  | .own, o => o
  | .lnt, .frz => .frz
  | .lnt, _ => .lnt
  | .frz, _ => .frz
mutual
/-- a child as seen from its parent; a tuple hands the flag on to its items -/
def kid : Ow → Tr → Tr
  | o, .nd .tup o' ts => .nd .tup .own (kidL (eff o o') ts)
  | o, .nd .lst o' ts => .nd .lst (eff o o') ts
  | o, .nd (.ins n k) o' ts => .nd (.ins n k) (eff o o') ts
  | o, .nd (.dct ks) o' ts => .nd (.dct ks) (eff o o') ts
  | o, .nd (.dcT ks) o' ts => .nd (.dcT ks) (eff o o') ts
  | o, .nd (.sti l) o' ts => .nd (.sti l) (eff o o') ts
  | o, .nd (.xd d f x) o' ts => .nd (.xd d f x) (eff o o') ts
  | _, .any => .any
  | _, .a v => .a v
def kidL : Ow → List Tr → List Tr
  | _, [] => []
  | o, t :: ts => kid o t :: kidL o ts
end
mutual
/-- may be read twice: nothing in it is own -/
def cp : Tr → Bool
  | .any => false
  | .a _ => true
  | .nd .tup .own ts => cpL ts
  | .nd _ .own _ => false
  | .nd _ _ _ => true
def cpL : List Tr → Bool
  | [] => true
  | t :: ts => cp t && cpL ts
end
mutual
/-- may leave the def: nothing in it is lent -/
def esc : Tr → Bool
  | .any => true
  | .a _ => true
  | .nd .tup .own ts => escL ts
  | .nd _ .lnt _ => false
  | .nd _ _ _ => true
def escL : List Tr → Bool
  | [] => true
  | t :: ts => esc t && escL ts
end
abbrev Ps := Addr → Prop
structure Zn where
  fz : Ps
  ln : Ps
def TSK (K : KC) (H H' : Hp) : Prop := ∀ a xs, H a = some (.tup xs) → H' a = some (.tup xs)
mutual
/-- what is a key: numbers, texts, None, and tuples of such (new ones or ones of the written part) -/
def KeyV (K : PySem.W.Frag) (H : Hp) : NestedKey → V → Prop
  | .none, v => v = .non
  | .num i, v => v = .int i
  | .text x, v => v = .str x
  | .tup ks, v => ∃ b vs, v = .ref b ∧ (H b = some (.tup vs) ∨ SqT K (fun _ => none) b vs) ∧ KeyVs K H ks vs
def KeyVs (K : PySem.W.Frag) (H : Hp) : List NestedKey → List V → Prop
  | [], vs => vs = []
  | k :: ks, vs => ∃ v vs', vs = v :: vs' ∧ KeyV K H k v ∧ KeyVs K H ks vs'
end
/-- a tuple that is a key -/
def KeyAt (K : PySem.W.Frag) (H : Hp) (b : Addr) (k : NestedKey) : Prop := KeyV K H k (.ref b) ∧ k.depth ≤ 8
mutual
theorem KeyV.imp {K : PySem.W.Frag} {H H' : Hp} (tp : ∀ a xs, H a = some (.tup xs) → H' a = some (.tup xs)) : ∀ {k : NestedKey} {v : V}, KeyV K H k v → KeyV K H' k v
  | .none, _, h => by simp only [KeyV] at h ⊢; exact h
  | .num _, _, h => by simp only [KeyV] at h ⊢; exact h
  | .text _, _, h => by simp only [KeyV] at h ⊢; exact h
  | .tup ks, _, h => by
    simp only [KeyV] at h ⊢
    obtain ⟨b, vs, e, h1, h2⟩ := h
    exact ⟨b, vs, e, h1.imp (tp _ _) id, KeyVs.imp tp h2⟩
theorem KeyVs.imp {K : PySem.W.Frag} {H H' : Hp} (tp : ∀ a xs, H a = some (.tup xs) → H' a = some (.tup xs)) : ∀ {ks : List NestedKey} {vs : List V}, KeyVs K H ks vs → KeyVs K H' ks vs
  | [], _, h => by simp only [KeyVs] at h ⊢; exact h
  | _ :: _, _, h => by
    simp only [KeyVs] at h ⊢
    obtain ⟨v, vs', e, h1, h2⟩ := h
    exact ⟨v, vs', e, KeyV.imp tp h1, KeyVs.imp tp h2⟩
end
theorem KeyAt.imp {K : PySem.W.Frag} {H H' : Hp} {b : Addr} {k : NestedKey} (tp : ∀ a xs, H a = some (.tup xs) → H' a = some (.tup xs)) (h : KeyAt K H b k) : KeyAt K H' b k := ⟨h.1.imp tp, h.2⟩
/-- a dict with tuples as keys: the keys, their places, the values -/
def dphi (P : Program) (w : World) (a : Addr) (l : List (NestedKey × Addr × V)) : Heap → Prop := fun h => ∃ xs : List (NestedKey × Addr × Value),
  Paired (fun (p : NestedKey × Addr × V) (q : NestedKey × Addr × Value) => p.1 = q.1 ∧ p.2.1 = q.2.1 ∧ RelV p.2.2 q.2.2) l xs ∧
  ∃ o es ep, h.get? a = some o ∧ o.ExactDict ∧ o.data = .dict es ep ∧ es.toList = xs.map (entryOfKey (nestedKind P w))
def ObjAt (K : KC) : Nk → Ow → Hp → Addr → List V → Prop
  | .lst, _, H, a, vs => H a = some (.lst vs)
  | .tup, _, H, a, vs => H a = some (.tup vs) ∨ SqT K.K (fun _ => none) a vs
  | .ins n k, _, H, a, vs => ((K.nm n).take k).length = vs.length ∧ ∃ dx, H a = some (.ins (K.ct n) dx (((K.nm n).take k).zip vs))
  | .dct ks, .own, H, a, vs => ks.length = vs.length ∧ H a = some (.dK (ks.zip vs))
  | .dct ks, _, H, a, vs => ks.length = vs.length ∧ Rd H a (.dK (ks.zip vs))
  | .dcT ks, _, H, a, vs => ∃ bs : List Addr, ks.length = vs.length ∧ bs.length = vs.length ∧ ks.Nodup ∧ vs.length ≤ sizeLine ∧ (a == sysModules) = false ∧ (∀ p ∈ ks.zip bs, KeyAt K.K H p.2 p.1) ∧ H a = some (.ext (dphi K.P K.w a (ks.zip (bs.zip vs))))
  | .sti l, _, H, a, vs => vs = [] ∧ l.Nodup ∧ H a = some (.set (fun i => decide (i ∈ l)) l.length)
  | .xd d f x, _, H, a, vs => vs = [] ∧ a = d ∧ H a = some (.xd [(f, .str x)])
/-- a node's own address and what it owns -/
def Nod (Z : Zn) : Nk → Ow → Addr → List Tr → Ps → Ps → Prop
  | .tup, .own, _, _, Ψ, Φ => ∀ b, Φ b ↔ Ψ b
  | .tup, _, _, _, _, Φ => ∀ b, ¬ Φ b
  | _, .own, a, ts, Ψ, Φ => (∀ b, Φ b ↔ b = a ∨ Ψ b) ∧ ¬ Ψ a ∧ escL ts = true
  | _, .frz, a, _, _, Φ => (∀ b, ¬ Φ b) ∧ Z.fz a
  | _, .lnt, a, _, _, Φ => (∀ b, ¬ Φ b) ∧ Z.ln a
mutual
def Rep (K : KC) (Z : Zn) (H : Hp) : Ow → Tr → V → Ps → Prop
  | _, .any, _, Φ => ∀ b, ¬ Φ b
  | _, .a u, v, Φ => v = u ∧ ∀ b, ¬ Φ b
  | m, .nd k o ts, v, Φ => ∃ a vs Ψ, v = .ref a ∧ ObjAt K k (eff m o) H a vs ∧ RepL K Z H (eff m o) ts vs Ψ ∧ Nod Z k (eff m o) a ts Ψ Φ
def RepL (K : KC) (Z : Zn) (H : Hp) : Ow → List Tr → List V → Ps → Prop
  | _, [], vs, Φ => vs = [] ∧ ∀ b, ¬ Φ b
  | m, t :: ts, vs, Φ => ∃ v vs' Φ1 Φ2, vs = v :: vs' ∧ Rep K Z H m t v Φ1 ∧ RepL K Z H m ts vs' Φ2 ∧ (∀ b, ¬ (Φ1 b ∧ Φ2 b)) ∧ ∀ b, Φ b ↔ Φ1 b ∨ Φ2 b
end
section
variable {K : KC} {Z Z' : Zn} {H H' : Hp} {m : Ow} {t : Tr} {ts : List Tr} {v : V} {vs : List V} {Φ Ψ : Ps} {a : Addr} {k : Nk} {o : Ow}
theorem eff_nown {m o : Ow} (h : m ≠ .own) : eff m o ≠ .own := by cases m <;> cases o <;> simp_all [eff]
/-- what is seen stays, where what it rests on stays -/
structure Kp (K : KC) (Z Z' : Zn) (H H' : Hp) (Φ : Ps) : Prop where
  fz : ∀ b, Z.fz b → Z'.fz b
  ln : ∀ b, Z.ln b → Z'.ln b
  ob : ∀ b ob, (Φ b ∨ Z.fz b ∨ Z.ln b) → H b = some ob → H' b = some ob
  tp : TSK K H H'
theorem Kp.sub {Ψ : Ps} (h : Kp K Z Z' H H' Φ) (s : ∀ b, Ψ b → Φ b) : Kp K Z Z' H H' Ψ := ⟨h.fz, h.ln, fun b ob q e => h.ob b ob (by grind) e, h.tp⟩
theorem Kp.refl (K : KC) (Z : Zn) (H : Hp) (Φ : Ps) : Kp K Z Z H H Φ := ⟨fun _ h => h, fun _ h => h, fun _ _ _ h => h, fun _ _ h => h⟩
theorem ObjAt.fr (h : ObjAt K k o H a vs) (hk : k ≠ .tup → ∀ ob, H a = some ob → H' a = some ob) (tp : TSK K H H') : ObjAt K k o H' a vs := by
  cases k with
  | tup => exact h.imp (tp _ _) id
  | lst => exact hk (by simp) _ h
  | ins n j =>
    obtain ⟨l, dx, e⟩ := h
    exact ⟨l, dx, hk (by simp) _ e⟩
  | dct ks =>
    cases o with
    | own => exact ⟨h.1, hk (by simp) _ h.2⟩
    | frz => exact ⟨h.1, h.2.imp (hk (by simp) _) fun ⟨ob, e⟩ => ⟨ob, hk (by simp) _ e⟩⟩
    | lnt => exact ⟨h.1, h.2.imp (hk (by simp) _) fun ⟨ob, e⟩ => ⟨ob, hk (by simp) _ e⟩⟩
  | dcT ks =>
    obtain ⟨bs, h1, h2, h3, h4, h5, h6, h7⟩ := h
    exact ⟨bs, h1, h2, h3, h4, h5, fun p hp => (h6 p hp).imp tp, hk (by simp) _ h7⟩
  | sti l => exact ⟨h.1, h.2.1, hk (by simp) _ h.2.2⟩
  | xd d f x => exact ⟨h.1, h.2.1, hk (by simp) _ h.2.2⟩
/-- what is seen of a thing, whatever the flag -/
theorem ObjAt.weak {o' : Ow} (h : ObjAt K k o H a vs) (ho : o' ≠ .own) : ObjAt K k o' H a vs := by
  cases k with
  | dct ks => cases o <;> cases o' <;> first | exact absurd rfl ho | exact h | exact ⟨h.1, .inl h.2⟩
  | _ => exact h
theorem ObjAt.rd {ks : List Key} (h : ObjAt K (.dct ks) o H a vs) : ks.length = vs.length ∧ Rd H a (.dK (ks.zip vs)) := by
  cases o
  · exact ⟨h.1, .inl h.2⟩
  · exact h
  · exact h
theorem Nod.zone (h : Nod Z k o a ts Ψ Φ) (hk : k ≠ .tup) : (o = .own ∧ Φ a) ∨ Z.fz a ∨ Z.ln a := by
  cases k <;> cases o <;> simp_all [Nod]
theorem Nod.mono (h : Nod Z k o a ts Ψ Φ) (f : ∀ b, Z.fz b → Z'.fz b) (l : ∀ b, Z.ln b → Z'.ln b) : Nod Z' k o a ts Ψ Φ := by
  cases k <;> cases o <;> simp_all [Nod]
theorem Nod.sub (h : Nod Z k o a ts Ψ Φ) (ho : o = .own) : ∀ b, Ψ b → Φ b := by
  cases k <;> cases o <;> simp_all [Nod]
/-- what is not own owns nothing -/
theorem Rep.no0 : ∀ (t : Tr) {m : Ow} {v : V} {Φ : Ps}, m ≠ .own → Rep K Z H m t v Φ → ∀ b, ¬ Φ b
  | .any, _, _, _, _, h => h
  | .a _, _, _, _, _, h => h.2
  | .nd k o ts, m, v, Φ, hm, h => by
    obtain ⟨a, vs, Ψ, _, _, hl, hn⟩ := h
    have e := eff_nown (o := o) hm
    cases k <;> cases eo : eff m o <;> simp_all [Nod]
theorem RepL.no0 : ∀ (ts : List Tr) {m : Ow} {vs : List V} {Φ : Ps}, m ≠ .own → RepL K Z H m ts vs Φ → ∀ b, ¬ Φ b
  | [], _, _, _, _, h => h.2
  | t :: ts, m, vs, Φ, hm, h => by
    obtain ⟨v, vs', Φ1, Φ2, e, h1, h2, d, u⟩ := h
    intro b q
    rcases (u b).mp q with z | z
    · exact Rep.no0 t hm h1 b z
    · exact RepL.no0 ts hm h2 b z
mutual
theorem Rep.fr : ∀ (t : Tr) {m : Ow} {v : V} {Φ : Ps}, Rep K Z H m t v Φ → Kp K Z Z' H H' Φ → Rep K Z' H' m t v Φ
  | .any, _, _, _, h, _ => h
  | .a _, _, _, _, h, _ => h
  | .nd k o ts, m, v, Φ, h, kp => by
    obtain ⟨a, vs, Ψ, e, ho, hl, hn⟩ := h
    refine ⟨a, vs, Ψ, e, ho.fr (fun hk ob q => kp.ob a ob ?_ q) kp.tp, RepL.fr ts hl (kp.sub ?_), hn.mono kp.fz kp.ln⟩
    · rcases hn.zone hk with z | z
      · exact .inl z.2
      · exact .inr z
    · intro b hb
      by_cases eo : eff m o = .own
      · exact hn.sub eo b hb
      · exact absurd hb (RepL.no0 ts eo hl b)
theorem RepL.fr : ∀ (ts : List Tr) {m : Ow} {vs : List V} {Φ : Ps}, RepL K Z H m ts vs Φ → Kp K Z Z' H H' Φ → RepL K Z' H' m ts vs Φ
  | [], _, _, _, h, _ => h
  | t :: ts, m, vs, Φ, h, kp => by
    obtain ⟨v, vs', Φ1, Φ2, e, h1, h2, d, u⟩ := h
    exact ⟨v, vs', Φ1, Φ2, e, Rep.fr t h1 (kp.sub fun b q => (u b).mpr (.inl q)), RepL.fr ts h2 (kp.sub fun b q => (u b).mpr (.inr q)), d, u⟩
end
mutual
theorem rep_kid : ∀ {t : Tr} {m : Ow} {v : V} {Φ : Ps}, Rep K Z H .own (kid m t) v Φ ↔ Rep K Z H m t v Φ
  | .any, _, _, _ => Iff.rfl
  | .a _, _, _, _ => Iff.rfl
  | .nd .lst o ts, m, v, Φ => by simp [kid, Rep, eff]
  | .nd (.ins _ _) o ts, m, v, Φ => by simp [kid, Rep, eff]
  | .nd (.dct _) o ts, m, v, Φ => by simp [kid, Rep, eff]
  | .nd (.dcT _) o ts, m, v, Φ => by simp [kid, Rep, eff]
  | .nd (.sti _) o ts, m, v, Φ => by simp [kid, Rep, eff]
  | .nd (.xd _ _ _) o ts, m, v, Φ => by simp [kid, Rep, eff]
  | .nd .tup o ts, m, v, Φ => by
    show (∃ a vs Ψ, v = .ref a ∧ ObjAt K .tup .own H a vs ∧ RepL K Z H .own (kidL (eff m o) ts) vs Ψ ∧ Nod Z .tup .own a (kidL (eff m o) ts) Ψ Φ) ↔ (∃ a vs Ψ, v = .ref a ∧ ObjAt K .tup (eff m o) H a vs ∧ RepL K Z H (eff m o) ts vs Ψ ∧ Nod Z .tup (eff m o) a ts Ψ Φ)
    constructor
    · rintro ⟨a, vs, Ψ, e, ho, hl, hn⟩
      have hl := (repL_kid (ts := ts) (m := eff m o)).mp hl
      refine ⟨a, vs, Ψ, e, ho, hl, ?_⟩
      have hn : ∀ b, Φ b ↔ Ψ b := hn
      cases eo : eff m o with
      | own => exact hn
      | frz => exact fun b q => RepL.no0 ts (by rw [eo]; simp) hl b ((hn b).mp q)
      | lnt => exact fun b q => RepL.no0 ts (by rw [eo]; simp) hl b ((hn b).mp q)
    · rintro ⟨a, vs, Ψ, e, ho, hl, hn⟩
      refine ⟨a, vs, Ψ, e, ho, (repL_kid (ts := ts) (m := eff m o)).mpr hl, ?_⟩
      show ∀ b, Φ b ↔ Ψ b
      cases eo : eff m o with
      | own =>
        rw [eo] at hn
        exact hn
      | frz =>
        rw [eo] at hn hl
        exact fun b => ⟨fun q => absurd q (hn b), fun q => absurd q (RepL.no0 ts (by simp) hl b)⟩
      | lnt =>
        rw [eo] at hn hl
        exact fun b => ⟨fun q => absurd q (hn b), fun q => absurd q (RepL.no0 ts (by simp) hl b)⟩
theorem repL_kid : ∀ {ts : List Tr} {m : Ow} {vs : List V} {Φ : Ps}, RepL K Z H .own (kidL m ts) vs Φ ↔ RepL K Z H m ts vs Φ
  | [], _, _, _ => Iff.rfl
  | t :: ts, m, vs, Φ => by
    simp only [kidL, RepL]
    constructor
    · rintro ⟨v, vs', Φ1, Φ2, e, h1, h2, d, u⟩
      exact ⟨v, vs', Φ1, Φ2, e, rep_kid.mp h1, repL_kid.mp h2, d, u⟩
    · rintro ⟨v, vs', Φ1, Φ2, e, h1, h2, d, u⟩
      exact ⟨v, vs', Φ1, Φ2, e, rep_kid.mpr h1, repL_kid.mpr h2, d, u⟩
end
end
section
variable {K : KC} {Z Z' : Zn} {H H' : Hp} {m : Ow} {t t' : Tr} {ts : List Tr} {v w : V} {vs us : List V} {Φ Ψ : Ps} {a : Addr} {k : Nk} {o : Ow} {i : Nat}
theorem getq_lt' {α : Type} {l : List α} {i : Nat} {x : α} (h : l[i]? = some x) : i < l.length := (List.getElem?_eq_some_iff.mp h).1
theorem RepL.len : ∀ (ts : List Tr) {vs : List V} {Φ : Ps}, RepL K Z H m ts vs Φ → ts.length = vs.length
  | [], _, _, h => by rw [h.1]; rfl
  | t :: ts, vs, Φ, h => by
    obtain ⟨v, vs', Φ1, Φ2, e, h1, h2, d, u⟩ := h
    rw [e, List.length_cons, List.length_cons, RepL.len ts h2]
theorem RepL.cast {Ψ : Ps} : ∀ (ts : List Tr) {vs : List V} {Φ : Ps}, RepL K Z H m ts vs Φ → (∀ b, Ψ b ↔ Φ b) → RepL K Z H m ts vs Ψ
  | [], _, _, h, e => ⟨h.1, fun b q => h.2 b ((e b).mp q)⟩
  | t :: ts, vs, Φ, h, e => by
    obtain ⟨v, vs', Φ1, Φ2, e1, h1, h2, d, u⟩ := h
    exact ⟨v, vs', Φ1, Φ2, e1, h1, h2, d, fun b => (e b).trans (u b)⟩
theorem Nod.cast {Ψ' Φ' : Ps} (h : Nod Z k o a ts Ψ Φ) (e1 : ∀ b, Ψ' b ↔ Ψ b) (e2 : ∀ b, Φ' b ↔ Φ b) : Nod Z k o a ts Ψ' Φ' := by
  cases k <;> cases o <;> simp_all [Nod]
theorem Rep.cast {Ψ : Ps} : ∀ (t : Tr) {v : V} {Φ : Ps}, Rep K Z H m t v Φ → (∀ b, Ψ b ↔ Φ b) → Rep K Z H m t v Ψ
  | .any, _, _, h, e => fun b q => h b ((e b).mp q)
  | .a _, _, _, h, e => ⟨h.1, fun b q => h.2 b ((e b).mp q)⟩
  | .nd k o ts, v, Φ, h, e => by
    obtain ⟨a, vs, Ψ', e1, ho, hl, hn⟩ := h
    exact ⟨a, vs, Ψ', e1, ho, hl, hn.cast (fun _ => Iff.rfl) e⟩
/-- one item of a row, and how another one takes its place -/
theorem RepL.at_ : ∀ (ts : List Tr) {vs : List V} {Φ : Ps} {i : Nat} {t : Tr}, RepL K Z H m ts vs Φ → ts[i]? = some t → ∃ v Φ1 Φ2, vs[i]? = some v ∧ Rep K Z H m t v Φ1 ∧ (∀ b, ¬ (Φ1 b ∧ Φ2 b)) ∧ (∀ b, Φ b ↔ Φ1 b ∨ Φ2 b) ∧
    RepL K Z H m (ts.set i .any) vs Φ2 ∧ RepL K Z H m (ts.eraseIdx i) (vs.eraseIdx i) Φ2
  | [], _, _, _, _, _, q => by simp at q
  | x :: ts, vs, Φ, 0, t, h, q => by
    obtain ⟨v, vs', Φ1, Φ2, e, h1, h2, d, u⟩ := h
    cases q
    subst e
    exact ⟨v, Φ1, Φ2, rfl, h1, d, u, ⟨v, vs', fun _ => False, Φ2, rfl, fun _ h => h, h2, fun _ h => h.1, by simp⟩, h2⟩
  | x :: ts, vs, Φ, i + 1, t, h, q => by
    obtain ⟨v, vs', Φ1, Φ2, e, h1, h2, d, u⟩ := h
    subst e
    obtain ⟨w, Θ1, Θ2, e2, r1, d2, u2, r2, r3⟩ := RepL.at_ ts (i := i) (t := t) h2 (by simpa using q)
    exact ⟨w, Θ1, fun b => Φ1 b ∨ Θ2 b, by simpa using e2, r1, by grind, by grind, ⟨v, vs', Φ1, Θ2, rfl, h1, r2, by grind, fun _ => Iff.rfl⟩, ⟨v, _, Φ1, Θ2, rfl, h1, r3, by grind, fun _ => Iff.rfl⟩⟩
/-- something comes to a place that is known to be nothing -/
theorem RepL.put : ∀ (ts : List Tr) {vs : List V} {Φ Ψ : Ps} {i : Nat} {t : Tr} {v : V}, RepL K Z H m ts vs Φ → ts[i]? = some .any → vs[i]? = some v → Rep K Z H m t v Ψ → (∀ b, ¬ (Ψ b ∧ Φ b)) → RepL K Z H m (ts.set i t) vs (fun b => Ψ b ∨ Φ b)
  | [], _, _, _, _, _, _, _, q, _, _, _ => by simp at q
  | x :: ts, vs, Φ, Ψ, 0, t, v, h, q, e, r, d => by
    obtain ⟨v', vs', Φ1, Φ2, e1, h1, h2, d1, u⟩ := h
    cases q
    subst e1
    cases e
    have h1' : ∀ b, ¬ Φ1 b := h1
    exact ⟨v, vs', Ψ, Φ2, rfl, r, h2, by grind, by grind⟩
  | x :: ts, vs, Φ, Ψ, i + 1, t, v, h, q, e, r, d => by
    obtain ⟨v', vs', Φ1, Φ2, e1, h1, h2, d1, u⟩ := h
    subst e1
    have := RepL.put ts (i := i) (t := t) (v := v) (Ψ := Ψ) h2 (by simpa using q) (by simpa using e) r (by grind)
    exact ⟨v', vs', Φ1, fun b => Ψ b ∨ Φ2 b, rfl, h1, this, by grind, by grind⟩
theorem RepL.append : ∀ (ts : List Tr) {us : List Tr} {vs ws : List V} {Φ Ψ : Ps}, RepL K Z H m ts vs Φ → RepL K Z H m us ws Ψ → (∀ b, ¬ (Φ b ∧ Ψ b)) → RepL K Z H m (ts ++ us) (vs ++ ws) (fun b => Φ b ∨ Ψ b)
  | [], us, vs, ws, Φ, Ψ, h, r, d => by
    obtain ⟨rfl, h2⟩ := h
    exact r.cast us (by grind)
  | t :: ts, us, vs, ws, Φ, Ψ, h, r, d => by
    obtain ⟨v, vs', Φ1, Φ2, e1, h1, h2, d1, u⟩ := h
    subst e1
    exact ⟨v, vs' ++ ws, Φ1, fun b => Φ2 b ∨ Ψ b, rfl, h1, RepL.append ts h2 r (by grind), by grind, by grind⟩
theorem RepL.split : ∀ (ts : List Tr) {us : List Tr} {vs : List V} {Φ : Ps}, RepL K Z H m (ts ++ us) vs Φ → ∃ v1 v2 Φ1 Φ2, vs = v1 ++ v2 ∧ RepL K Z H m ts v1 Φ1 ∧ RepL K Z H m us v2 Φ2 ∧ (∀ b, ¬ (Φ1 b ∧ Φ2 b)) ∧ ∀ b, Φ b ↔ Φ1 b ∨ Φ2 b
  | [], us, vs, Φ, h => ⟨[], vs, fun _ => False, Φ, rfl, ⟨rfl, fun _ h => h⟩, h, by grind, by grind⟩
  | t :: ts, us, vs, Φ, h => by
    obtain ⟨v, vs', Φ1, Φ2, e1, h1, h2, d1, u⟩ := h
    obtain ⟨v1, v2, Θ1, Θ2, e, r1, r2, d, u2⟩ := RepL.split ts h2
    subst e1 e
    exact ⟨v :: v1, v2, fun b => Φ1 b ∨ Θ1 b, Θ2, rfl, ⟨v, v1, Φ1, Θ1, rfl, h1, r1, by grind, fun _ => Iff.rfl⟩, r2, by grind, by grind⟩
theorem escL_all : ∀ {ts : List Tr}, escL ts = true ↔ ∀ t ∈ ts, esc t = true
  | [] => by simp [escL]
  | t :: ts => by simp [escL, escL_all (ts := ts)]
theorem escL_set {ts : List Tr} (h : escL ts = true) (e : esc t = true) : escL (ts.set i t) = true := by
  rw [escL_all] at h ⊢
  intro x hx
  rcases List.mem_or_eq_of_mem_set hx with z | z
  · exact h x z
  · rw [z]; exact e
/-! paths -/
def getP : List Tr → List Nat → Option Tr
  | _, [] => none
  | ts, [i] => ts[i]?
  | ts, i :: j :: p => match ts[i]? with
    | some (.nd .tup _ _) => none
    | some (.nd _ .own us) => getP us (j :: p)
    | _ => none
def setP : List Tr → List Nat → Tr → List Tr
  | ts, [], _ => ts
  | ts, [i], t => ts.set i t
  | ts, i :: j :: p, t => match ts[i]? with
    | some (.nd k o us) => ts.set i (.nd k o (setP us (j :: p) t))
    | _ => ts
theorem relV_ex : ∀ v : V, ∃ u, RelV v u
  | .non => ⟨_, rfl⟩
  | .bl _ => ⟨_, rfl⟩
  | .int i => ⟨.int i 0, 0, rfl⟩
  | .str x => ⟨.str x 0, 0, rfl⟩
  | .byt b => ⟨.bytes b 0, 0, rfl⟩
  | .flt b => ⟨.float b 0, 0, rfl⟩
  | .ref _ => ⟨_, rfl⟩
  | .ty _ => ⟨_, rfl⟩
theorem relV_inj : ∀ {v v' : V} {u : Value}, RelV v u → RelV v' u → v = v' := by
  intro v v' u h h'
  cases v <;> cases v' <;> simp only [RelV] at h h' <;> grind
abbrev DR : NestedKey × Addr × V → NestedKey × Addr × Value → Prop := fun p q => p.1 = q.1 ∧ p.2.1 = q.2.1 ∧ RelV p.2.2 q.2.2
theorem dr_ex : ∀ l : List (NestedKey × Addr × V), ∃ xs, Paired DR l xs
  | [] => ⟨[], .nil⟩
  | p :: l => by
    obtain ⟨u, hu⟩ := relV_ex p.2.2
    obtain ⟨xs, h⟩ := dr_ex l
    exact ⟨(p.1, p.2.1, u) :: xs, .cons ⟨rfl, rfl, hu⟩ h⟩
theorem dr_inj {P P' : Program} {w w' : World} {l : List (NestedKey × Addr × V)} {xs : List (NestedKey × Addr × Value)} (h : Paired DR l xs) : ∀ {l' : List (NestedKey × Addr × V)} {xs' : List (NestedKey × Addr × Value)}, Paired DR l' xs' →
    xs.map (entryOfKey (nestedKind P w)) = xs'.map (entryOfKey (nestedKind P' w')) → l.map (·.2.2) = l'.map (·.2.2) := by
  induction h with
  | nil =>
    intro l' xs' h' e
    cases h' with
    | nil => rfl
    | cons _ _ => cases e
  | cons a t ih =>
    intro l' xs' h' e
    cases h' with
    | nil => cases e
    | cons a' t' =>
      rw [List.map_cons, List.map_cons] at e
      have e1 := (List.cons.inj e).1
      have e2 := (List.cons.inj e).2
      have e3 := congrArg DictEntry.val e1
      simp only [entryOfKey] at e3
      rw [List.map_cons, List.map_cons, ih t' e2, relV_inj a.2.2 (e3 ▸ a'.2.2)]
theorem dphi_inj {P P' : Program} {w w' : World} {a : Addr} {l l' : List (NestedKey × Addr × V)} (e : dphi P w a l = dphi P' w' a l') : l.map (·.2.2) = l'.map (·.2.2) := by
  obtain ⟨xs, h⟩ := dr_ex l
  let o : Obj := { cls := .type "dict", data := .dict (xs.map (entryOfKey (nestedKind P w))).toArray 0 }
  let hp : Heap := ⟨Array.replicate (a + 1) o, {}⟩
  have hg : hp.get? a = some o := by
    unfold Heap.get?
    have : hp.objs[a]? = some o := by
      show (Array.replicate (a + 1) o)[a]? = some o
      rw [Array.getElem?_replicate, if_pos (by omega)]
    rw [this]
  have h1 : dphi P w a l hp := ⟨xs, h, o, _, _, hg, ⟨rfl, rfl, rfl⟩, rfl, by simp⟩
  rw [e] at h1
  obtain ⟨xs', h', o', es, ep, hg', _, hd, he⟩ := h1
  rw [hg] at hg'
  cases hg'
  have hd : Data.dict (xs.map (entryOfKey (nestedKind P w))).toArray 0 = Data.dict es ep := hd
  injection hd with hd1 _
  subst hd1
  exact dr_inj h h' (by simpa using he)
def Kids (H : Hp) (v : V) (vs : List V) : Prop := ∃ a, v = .ref a ∧ (H a = some (.lst vs) ∨ (∃ C dx ns, H a = some (.ins C dx (List.zip ns vs)) ∧ ns.length = vs.length) ∨ (∃ ks, H a = some (.dK (List.zip ks vs)) ∧ ks.length = vs.length) ∨
  (∃ P w l, H a = some (.ext (dphi P w a l)) ∧ l.map (·.2.2) = vs) ∨ (∃ S n, H a = some (.set S n) ∧ vs = []) ∨ ∃ f, H a = some (.xd f) ∧ vs = [])
theorem Kids.fn (h : Kids H v vs) (h' : Kids H v us) : vs = us := by
  obtain ⟨a, e, h⟩ := h
  obtain ⟨b, e', h'⟩ := h'
  subst e
  cases e'
  have key : ∀ {α : Type} {x y : List α} {p q : List V}, x.zip p = y.zip q → x.length = p.length → y.length = q.length → p = q := by
    intro α x y p q e h1 h2
    have e1 := congrArg (List.map Prod.snd) e
    rwa [List.map_snd_zip (by omega), List.map_snd_zip (by omega)] at e1
  rcases h with h | ⟨C, dx, ns, h, l⟩ | ⟨ks, h, l⟩ | ⟨P, w, m, h, l⟩ | ⟨S, n, h, l⟩ | ⟨S, h, l⟩ <;> rcases h' with h' | ⟨C', dx', ns', h', l'⟩ | ⟨ks', h', l'⟩ | ⟨P', w', m', h', l'⟩ | ⟨S', n', h', l'⟩ | ⟨S', h', l'⟩ <;> rw [h] at h' <;> first
    | exact HO.noConfusion (Option.some.inj h')
    | exact HO.lst.inj (Option.some.inj h')
    | exact key (HO.ins.inj (Option.some.inj h')).2.2 l l'
    | exact key (HO.dK.inj (Option.some.inj h')) l l'
    | rw [l, l']
    | exact l.symm.trans ((dphi_inj (HO.ext.inj (Option.some.inj h'))).trans l')
def Raw (H : Hp) : List V → List Nat → V → Prop
  | _, [], _ => False
  | vs, [i], w => vs[i]? = some w
  | vs, i :: j :: p, w => ∃ v us, vs[i]? = some v ∧ Kids H v us ∧ Raw H us (j :: p) w
theorem Raw.fn : ∀ {p : List Nat} {vs : List V} {w w' : V}, Raw H vs p w → Raw H vs p w' → w = w'
  | [], _, _, _, h, _ => h.elim
  | [i], vs, w, w', h, h' => by
    have h1 : vs[i]? = some w := h
    have h2 : vs[i]? = some w' := h'
    rw [h1] at h2
    exact Option.some.inj h2
  | i :: j :: p, vs, w, w', h, h' => by
    obtain ⟨v, us, e, k1, r⟩ := h
    obtain ⟨v', us', e', k2, r'⟩ := h'
    rw [e] at e'
    cases e'
    cases k1.fn k2
    exact Raw.fn r r'
theorem objKids (h : ObjAt K k .own H a vs) (hk : k ≠ .tup) : Kids H (.ref a) vs := by
  cases k with
  | tup => exact absurd rfl hk
  | lst => exact ⟨a, rfl, .inl h⟩
  | ins n j =>
    obtain ⟨l, dx, e⟩ := h
    exact ⟨a, rfl, .inr (.inl ⟨_, dx, _, e, l⟩)⟩
  | dct ks => exact ⟨a, rfl, .inr (.inr (.inl ⟨ks, h.2, h.1⟩))⟩
  | dcT ks =>
    obtain ⟨bs, h1, h2, _, _, _, _, h7⟩ := h
    refine ⟨a, rfl, .inr (.inr (.inr (.inl ⟨_, _, _, h7, ?_⟩)))⟩
    rw [show (fun p : NestedKey × Addr × V => p.2.2) = Prod.snd ∘ Prod.snd from rfl, ← List.map_map, List.map_snd_zip (by simp; omega), List.map_snd_zip (by omega)]
  | sti l => exact ⟨a, rfl, .inr (.inr (.inr (.inr (.inl ⟨_, _, h.2.2, h.1⟩))))⟩
  | xd d f x => exact ⟨a, rfl, .inr (.inr (.inr (.inr (.inr ⟨_, h.2.2, h.1⟩))))⟩
theorem Kids.fr (h : Kids H (.ref a) vs) (hk : ∀ ob, H a = some ob → H' a = some ob) : Kids H' (.ref a) vs := by
  obtain ⟨b, e, h⟩ := h
  cases e
  refine ⟨a, rfl, ?_⟩
  rcases h with h | ⟨C, dx, ns, h, l⟩ | ⟨ks, h, l⟩ | ⟨P, w, m, h, l⟩ | ⟨S, n, h, l⟩ | ⟨S, h, l⟩
  · exact .inl (hk _ h)
  · exact .inr (.inl ⟨C, dx, ns, hk _ h, l⟩)
  · exact .inr (.inr (.inl ⟨ks, hk _ h, l⟩))
  · exact .inr (.inr (.inr (.inl ⟨P, w, m, hk _ h, l⟩)))
  · exact .inr (.inr (.inr (.inr (.inl ⟨S, n, hk _ h, l⟩))))
  · exact .inr (.inr (.inr (.inr (.inr ⟨S, hk _ h, l⟩))))
/-- q does not lead into what stands at p -/
def nbel : List Nat → List Nat → Bool
  | [], [] => true
  | [], _ :: _ => false
  | _, [] => true
  | i :: p, j :: q => if i = j then nbel p q else true
theorem getP_cons {j : Nat} {p : List Nat} (h : getP ts (i :: j :: p) = some t) : ∃ k us, ts[i]? = some (.nd k .own us) ∧ k ≠ .tup ∧ getP us (j :: p) = some t := by
  simp only [getP] at h
  split at h
  · cases h
  · rename_i k us hne e
    exact ⟨_, _, e, fun hk => hne hk, h⟩
  · cases h
end
section
variable {K : KC} {Z Z' : Zn} {H H' : Hp} {m : Ow} {t t' : Tr} {ts : List Tr} {v w : V} {vs us : List V} {Φ Ψ : Ps} {a : Addr} {k : Nk} {o : Ow} {i : Nat}
theorem Nod.own (h : Nod Z k .own a ts Ψ Φ) (hk : k ≠ .tup) : (∀ b, Φ b ↔ b = a ∨ Ψ b) ∧ ¬ Ψ a ∧ escL ts = true := by
  cases k <;> first | exact absurd rfl hk | exact h
theorem Nod.mk (hk : k ≠ .tup) (h1 : ∀ b, Φ b ↔ b = a ∨ Ψ b) (h2 : ¬ Ψ a) (h3 : escL ts = true) : Nod Z k .own a ts Ψ Φ := by
  cases k <;> first | exact absurd rfl hk | exact ⟨h1, h2, h3⟩
/-- the addresses on the way to q, where a path of own things leads there -/
theorem Raw.keep : ∀ {q : List Nat} {ts : List Tr} {vs : List V} {Φ : Ps} {w : V}, RepL K Z H .own ts vs Φ → (getP ts q).isSome = true → Raw H vs q w → (∀ b ob, Φ b → H b = some ob → H' b = some ob) → Raw H' vs q w
  | [], _, _, _, _, _, _, r, _ => r
  | [i], _, _, _, _, _, _, r, _ => r
  | i :: j :: p, ts, vs, Φ, w, h, g, r, kp => by
    obtain ⟨t, g⟩ := Option.isSome_iff_exists.mp g
    obtain ⟨k, us, e, hk, g⟩ := getP_cons g
    obtain ⟨v, us', e2, kd, r⟩ := r
    obtain ⟨v', Φ1, Φ2, e3, r1, d, u, _⟩ := h.at_ ts e
    rw [e2] at e3
    cases e3
    obtain ⟨a, vs2, Ψ, rfl, ho, hl, hn⟩ := r1
    have ho : ObjAt K k .own H a vs2 := ho
    have hl : RepL K Z H .own us vs2 Ψ := hl
    have hn : Nod Z k .own a us Ψ Φ1 := hn
    cases (objKids ho hk).fn kd
    have hn := hn.own hk
    exact ⟨_, _, e2, kd.fr (kp a · (by grind)), Raw.keep hl (by rw [g]; rfl) r fun b ob hb => kp b ob (by grind)⟩
theorem escL_setP (ht : esc t = true) : ∀ (p : List Nat) (us : List Tr), escL us = true → escL (setP us p t) = true
  | [], us, h => by simpa [setP] using h
  | [i], us, h => by simp only [setP]; exact escL_set h ht
  | i :: j :: p, us, h => by
    simp only [setP]
    split
    · rename_i k o us2 e
      refine escL_set h ?_
      have h1 := escL_all.mp h _ (List.mem_of_getElem? e)
      have ih := escL_setP ht (j :: p) us2
      cases k <;> cases o <;> simp_all [esc]
    · exact h
theorem RepL.path : ∀ {p : List Nat} {ts : List Tr} {vs : List V} {Φ : Ps} {t : Tr}, RepL K Z H .own ts vs Φ → getP ts p = some t → ∃ w Φ1 Φ2, Raw H vs p w ∧ Rep K Z H .own t w Φ1 ∧ (∀ b, ¬ (Φ1 b ∧ Φ2 b)) ∧ (∀ b, Φ b ↔ Φ1 b ∨ Φ2 b) ∧
    RepL K Z H .own (setP ts p .any) vs Φ2 ∧
    (∀ q w' H', nbel p q = true → (getP ts q).isSome = true → Raw H vs q w' → (∀ b ob, ¬ Φ1 b → H b = some ob → H' b = some ob) → Raw H' vs q w')
  | [], _, _, _, _, _, g => by simp [getP] at g
  | [i], ts, vs, Φ, t, h, g => by
    obtain ⟨v, Φ1, Φ2, e, r, d, u, r2, _⟩ := h.at_ ts (i := i) g
    refine ⟨v, Φ1, Φ2, e, r, d, u, r2, fun q w' H' nb gq rq kp => ?_⟩
    match q with
    | [] => exact rq
    | [j] => exact rq
    | j :: j2 :: q =>
      have hij : i ≠ j := by
        intro e
        subst e
        simp [nbel] at nb
      have g2 : (getP (ts.set i .any) (j :: j2 :: q)).isSome = true := by
        obtain ⟨t2, gq⟩ := Option.isSome_iff_exists.mp gq
        obtain ⟨k, us, e, hk, g⟩ := getP_cons gq
        unfold getP at gq ⊢
        rw [List.getElem?_set_ne hij, gq]
        rfl
      exact Raw.keep r2 g2 rq fun b ob hb => kp b ob (by grind)
  | i :: j :: p, ts, vs, Φ, t, h, g => by
    obtain ⟨k, us, e, hk, g⟩ := getP_cons g
    obtain ⟨v, Φ1, Φ2, e2, r, d, u, r2, _⟩ := h.at_ ts e
    obtain ⟨a, vs2, Ψ, rfl, ho, hl, hn⟩ := r
    have ho : ObjAt K k .own H a vs2 := ho
    have hl : RepL K Z H .own us vs2 Ψ := hl
    have hn : Nod Z k .own a us Ψ Φ1 := hn
    have hn := hn.own hk
    obtain ⟨w, Θ1, Θ2, raw, rt, d2, u2, rs, st⟩ := RepL.path hl g
    have kd := objKids ho hk
    have hset : setP ts (i :: j :: p) .any = ts.set i (.nd k .own (setP us (j :: p) .any)) := by simp only [setP, e]
    have hes : escL (setP us (j :: p) .any) = true := by
      exact escL_setP rfl _ _ hn.2.2
    refine ⟨w, Θ1, fun b => Φ2 b ∨ b = a ∨ Θ2 b, ⟨_, _, e2, kd, raw⟩, rt, by grind, by grind, ?_, fun q w' H' nb gq rq kp => ?_⟩
    · rw [hset]
      have r3 := r2.put (ts := ts.set i .any) (i := i) (t := .nd k .own (setP us (j :: p) .any)) (v := .ref a) (Ψ := fun b => b = a ∨ Θ2 b) (by rw [List.getElem?_set_self (getq_lt' e)]) e2 ⟨a, vs2, Θ2, rfl, ho, rs, .mk hk (fun _ => Iff.rfl) (by grind) hes⟩ (by grind)
      rw [List.set_set] at r3
      exact r3.cast _ (by grind)
    · match q with
      | [] => exact rq
      | [_] => exact rq
      | i2 :: j2 :: q =>
        by_cases hi : i = i2
        · subst hi
          have nb : nbel (j :: p) (j2 :: q) = true := by simpa [nbel] using nb
          obtain ⟨t2, gq⟩ := Option.isSome_iff_exists.mp gq
          obtain ⟨k', us', e', hk', gq⟩ := getP_cons gq
          rw [e] at e'
          cases e'
          obtain ⟨v', us2, e3, kd2, rq⟩ := rq
          rw [e2] at e3
          cases e3
          cases kd.fn kd2
          exact ⟨_, _, e2, kd.fr (kp a · (by grind)), st (j2 :: q) w' H' nb (by rw [gq]; rfl) rq kp⟩
        · have g2 : (getP (ts.set i .any) (i2 :: j2 :: q)).isSome = true := by
            obtain ⟨t2, gq⟩ := Option.isSome_iff_exists.mp gq
            unfold getP at gq ⊢
            rw [List.getElem?_set_ne hi, gq]
            rfl
          exact Raw.keep r2 g2 rq fun b ob hb => kp b ob (by grind)
/-- something comes to a place, at the end of a path, that is known to be nothing -/
theorem RepL.putP : ∀ {p : List Nat} {ts : List Tr} {vs : List V} {Φ Ψ : Ps} {t : Tr} {w : V}, RepL K Z H .own ts vs Φ → getP ts p = some .any → Raw H vs p w → Rep K Z H .own t w Ψ → (∀ b, ¬ (Ψ b ∧ Φ b)) → esc t = true → RepL K Z H .own (setP ts p t) vs (fun b => Ψ b ∨ Φ b)
  | [], _, _, _, _, _, _, _, g, _, _, _, _ => by simp [getP] at g
  | [i], ts, vs, Φ, Ψ, t, w, h, g, r, rt, d, _ => h.put ts (i := i) g r rt d
  | i :: j :: p, ts, vs, Φ, Ψ, t, w, h, g, r, rt, d, he => by
    obtain ⟨k, us, e, hk, g⟩ := getP_cons g
    obtain ⟨v, Φ1, Φ2, e2, r1, d1, u, r2, _⟩ := h.at_ ts e
    obtain ⟨a, vs2, Ψ', rfl, ho, hl, hn⟩ := r1
    have ho : ObjAt K k .own H a vs2 := ho
    have hl : RepL K Z H .own us vs2 Ψ' := hl
    have hn : Nod Z k .own a us Ψ' Φ1 := hn
    have hn := hn.own hk
    obtain ⟨v', us2, e3, kd, raw⟩ := r
    rw [e2] at e3
    cases e3
    cases (objKids ho hk).fn kd
    have r3 := RepL.putP hl g raw rt (by grind) he
    have hset : setP ts (i :: j :: p) t = ts.set i (.nd k .own (setP us (j :: p) t)) := by simp only [setP, e]
    rw [hset]
    have r4 := r2.put (ts := ts.set i .any) (i := i) (t := .nd k .own (setP us (j :: p) t)) (v := .ref a) (Ψ := fun b => b = a ∨ Ψ b ∨ Ψ' b) (by rw [List.getElem?_set_self (getq_lt' e)]) e2 ⟨a, vs2, fun b => Ψ b ∨ Ψ' b, rfl, ho, r3, .mk hk (fun _ => Iff.rfl) ?_ (escL_setP he _ _ hn.2.2)⟩ ?_
    · rw [List.set_set] at r4
      exact r4.cast _ (by grind)
    · intro q
      rcases q with q | q
      · exact d a ⟨q, by grind⟩
      · exact hn.2.1 q
    · grind
theorem getP_setP_same : ∀ {p : List Nat} {ts : List Tr}, (getP ts p).isSome = true → getP (setP ts p t) p = some t
  | [], _, g => by simp [getP] at g
  | [i], ts, g => by
    obtain ⟨x, g⟩ := Option.isSome_iff_exists.mp g
    show (ts.set i t)[i]? = some t
    rw [List.getElem?_set_self (getq_lt' (show ts[i]? = some x from g))]
  | i :: j :: p, ts, g => by
    obtain ⟨x, g⟩ := Option.isSome_iff_exists.mp g
    obtain ⟨k, us, e, hk, g⟩ := getP_cons g
    simp only [setP, e]
    unfold getP
    rw [List.getElem?_set_self (getq_lt' e)]
    have := getP_setP_same (p := j :: p) (ts := us) (by rw [g]; rfl)
    cases k <;> simp_all
theorem getP_setP : ∀ {p q : List Nat} {ts : List Tr}, nbel p q = true → (getP ts q).isSome = true → (getP (setP ts p t) q).isSome = true
  | _, [], ts, _, g => by simp [getP] at g
  | [], q, ts, _, g => by simpa [setP] using g
  | [i], j :: q, ts, nb, g => by
    by_cases e : i = j
    · subst e
      match q, nb, g with
      | [], _, g =>
        obtain ⟨x, g⟩ := Option.isSome_iff_exists.mp g
        show ((ts.set i t)[i]?).isSome = true
        rw [List.getElem?_set_self (getq_lt' (show ts[i]? = some x from g))]
        rfl
      | _ :: _, nb, _ => simp [nbel] at nb
    · match q, nb, g with
      | [], _, g =>
        show ((ts.set i t)[j]?).isSome = true
        rw [List.getElem?_set_ne e]
        exact g
      | _ :: _, _, g =>
        simp only [setP]
        unfold getP at g ⊢
        rw [List.getElem?_set_ne e]
        exact g
  | i :: i2 :: p, j :: q, ts, nb, g => by
    simp only [setP]
    split
    · rename_i k o us e
      by_cases hij : i = j
      · subst hij
        match q, nb, g with
        | [], _, g =>
          show ((ts.set i _)[i]?).isSome = true
          rw [List.getElem?_set_self (getq_lt' e)]
          rfl
        | j2 :: q, nb, g =>
          obtain ⟨x, g⟩ := Option.isSome_iff_exists.mp g
          obtain ⟨k', us', e', hk, g⟩ := getP_cons g
          rw [e] at e'
          cases e'
          have nb : nbel (i2 :: p) (j2 :: q) = true := by simpa [nbel] using nb
          have ih := getP_setP (p := i2 :: p) (q := j2 :: q) (ts := us) nb (by rw [g]; rfl)
          unfold getP
          rw [List.getElem?_set_self (getq_lt' e)]
          cases k <;> simp_all
      · match q, g with
        | [], g =>
          show ((ts.set i _)[j]?).isSome = true
          rw [List.getElem?_set_ne hij]
          exact g
        | _ :: _, g =>
          unfold getP at g ⊢
          rw [List.getElem?_set_ne hij]
          exact g
    · exact g
/-- a path through nothing changed -/
theorem setP_setP {t' : Tr} : ∀ {p : List Nat} {ts : List Tr}, setP (setP ts p t) p t' = setP ts p t'
  | [], _ => rfl
  | [i], ts => by simp [setP]
  | i :: j :: p, ts => by
    cases e : ts[i]? with
    | none => simp only [setP, e]
    | some x =>
      cases x with
      | nd k o us =>
        simp only [setP, e, List.getElem?_set_self (getq_lt' e)]
        rw [List.set_set, setP_setP]
      | any => simp only [setP, e]
      | a v => simp only [setP, e]
end
inductive Ent | no | tr (t : Tr) | al (p : List Nat)
def Ent.tree : Ent → Tr
  | .tr t => t
  | _ => .any
def getT : Tr → List Nat → Option Tr
  | t, [] => some t
  | .nd .tup _ _, _ :: _ => none
  | .nd _ .own us, j :: p => match us[j]? with
    | some y => getT y p
    | none => none
  | _, _ :: _ => none
def setT : Tr → List Nat → Tr → Tr
  | _, [], x => x
  | .nd k o us, j :: p, x => match us[j]? with
    | some y => .nd k o (us.set j (setT y p x))
    | none => .nd k o us
  | t, _ :: _, _ => t
def getG (Γ : List Ent) : List Nat → Option Tr
  | [] => none
  | i :: p => match Γ[i]? with
    | some (.tr t) => getT t p
    | _ => none
def setG (Γ : List Ent) : List Nat → Tr → List Ent
  | [], _ => Γ
  | i :: p, x => match Γ[i]? with
    | some (.tr t) => Γ.set i (.tr (setT t p x))
    | _ => Γ
/-- an alias that leads into what stands at p is forgotten -/
def killE (p : List Nat) : Ent → Ent
  | .al q => if nbel p q = true then .al q else .no
  | e => e
abbrev trees (Γ : List Ent) : List Tr := Γ.map Ent.tree
section
variable {K : KC} {Z Z' : Zn} {H H' : Hp} {m : Ow} {t t' : Tr} {ts : List Tr} {v w : V} {vs us ws : List V} {Φ Ψ : Ps} {a : Addr} {k : Nk} {o : Ow} {i : Nat} {p q : List Nat} {Γ τ : List Ent} {σ : St}
theorem set_same {α : Type} : ∀ {l : List α} {i : Nat} {x : α}, l[i]? = some x → l.set i x = l
  | [], _, _, h => by simp at h
  | y :: l, 0, x, h => by cases h; rfl
  | y :: l, i + 1, x, h => by rw [List.set_cons_succ, set_same (by simpa using h)]
theorem getP_getT : ∀ {p : List Nat} {i : Nat} {ts : List Tr} {t : Tr}, ts[i]? = some t → getP ts (i :: p) = getT t p
  | [], i, ts, t, e => by simp [getP, getT, e]
  | j :: p, i, ts, t, e => by
    unfold getP
    rw [e]
    cases t with
    | any => simp [getT]
    | a v => simp [getT]
    | nd k o us =>
      have key : getP us (j :: p) = match us[j]? with
          | some y => getT y p
          | none => none := by
        cases e2 : us[j]? with
        | none => cases p <;> simp [getP, e2]
        | some y => exact getP_getT e2
      cases k <;> cases o <;> simp_all [getT]
theorem setP_setT : ∀ {p : List Nat} {i : Nat} {ts : List Tr} {t x : Tr}, ts[i]? = some t → setP ts (i :: p) x = ts.set i (setT t p x)
  | [], i, ts, t, x, e => by simp [setP, setT]
  | j :: p, i, ts, t, x, e => by
    simp only [setP, e]
    cases t with
    | any => simp only [setT]; rw [set_same e]
    | a v => simp only [setT]; rw [set_same e]
    | nd k o us =>
      simp only [setT]
      cases e2 : us[j]? with
      | none =>
        simp only []
        congr 2
        have : us.length ≤ j := List.getElem?_eq_none_iff.mp e2
        cases p with
        | nil => simp only [setP]; exact List.set_eq_of_length_le this
        | cons j2 p => simp only [setP, e2]
      | some y =>
        simp only []
        rw [setP_setT e2]
end
/-- what a def was called with: the heap, what it may change, what is frozen, which parameters are its own, their values -/
structure Cz where
  H0 : Hp
  F0 : Ps
  S0 : Ps
  md : List Bool
  vs : List V
def SlotOk (H : Hp) (Γ : List Ent) (ws : List V) (σ : St) (i : Nat) : Ent → Prop
  | .no => True
  | .tr _ => ∃ v, ws[i]? = some v ∧ σ[i]? = some (some v)
  | .al p => ∃ w, σ[i]? = some (some w) ∧ Raw H ws p w ∧ (getG Γ p).isSome = true
structure Ev (K : KC) (c : Cz) (Z : Zn) (ws : List V) (Φ Ψ : Ps) (σ : St) (H : Hp) (Γ τ : List Ent) (us : List V) : Prop where
  sl : RepL K Z H .own (trees Γ) ws Φ
  tm : RepL K Z H .own (trees τ) us Ψ
  dj : ∀ b, ¬ (Φ b ∧ Ψ b)
  so : ∀ (i : Nat) (e : Ent), Γ[i]? = some e → SlotOk H Γ ws σ i e
  to : ∀ (i : Nat) (p : List Nat), τ[i]? = some (Ent.al p) → ∃ w, us[i]? = some w ∧ Raw H ws p w ∧ (getG Γ p).isSome = true
  ln : σ.length = Γ.length
  zo : ∀ b, Φ b ∨ Ψ b → (c.F0 b ∨ c.H0 b = none) ∧ ¬ Z.fz b ∧ ¬ Z.ln b
  zf : ∀ b, Z.fz b → c.S0 b ∨ c.F0 b ∨ c.H0 b = none
  z0 : ∀ b, c.S0 b → Z.fz b
  zs : ∀ b, Z.fz b ∨ Z.ln b → (H b).isSome = true
  st : ∀ b o, c.H0 b = some o → ∃ o', H b = some o' ∧ (¬ c.F0 b → o' = o)
  pv : ∀ i : Nat, c.md[i]? = some true → ws[i]? = c.vs[i]?
def EnvOk (K : KC) (c : Cz) (σ : St) (H : Hp) (Γ τ : List Ent) (us : List V) : Prop := ∃ Z ws Φ Ψ, Ev K c Z ws Φ Ψ σ H Γ τ us
section
variable {K : KC} {Z Z' : Zn} {H H' : Hp} {m : Ow} {t t' : Tr} {ts : List Tr} {v w : V} {vs us ws : List V} {Φ Ψ : Ps} {a : Addr} {k : Nk} {o : Ow} {i : Nat} {p q : List Nat} {Γ τ : List Ent} {σ : St} {c : Cz}
theorem getG_getP (h : (getG Γ p).isSome = true) : getP (trees Γ) p = getG Γ p := by
  cases p with
  | nil => simp [getG] at h
  | cons i p =>
    simp only [getG] at h ⊢
    cases e : Γ[i]? with
    | none => simp [e] at h
    | some x =>
      cases x with
      | no => simp [e] at h
      | al _ => simp [e] at h
      | tr t =>
        simp only []
        exact getP_getT (by simp [e, Ent.tree])
theorem trees_setG (h : (getG Γ p).isSome = true) : trees (setG Γ p t) = setP (trees Γ) p t := by
  cases p with
  | nil => simp [getG] at h
  | cons i p =>
    simp only [getG, setG] at h ⊢
    cases e : Γ[i]? with
    | none => simp [e] at h
    | some x =>
      cases x with
      | no => simp [e] at h
      | al _ => simp [e] at h
      | tr t' =>
        simp only []
        rw [setP_setT (t := t') (by simp [e, Ent.tree])]
        simp [trees, List.map_set, Ent.tree]
mutual
theorem Rep.isS : ∀ (t : Tr) {m : Ow} {v : V} {Φ : Ps}, Rep K Z H m t v Φ → ∀ b, Φ b → (H b).isSome = true
  | .any, _, _, _, h, b, q => absurd q (h b)
  | .a _, _, _, _, h, b, q => absurd q (h.2 b)
  | .nd k o ts, m, v, Φ, h, b, q => by
    obtain ⟨a, vs, Ψ, e, ho, hl, hn⟩ := h
    have ih := RepL.isS ts hl b
    cases k with
    | tup => cases eo : eff m o <;> simp_all [Nod]
    | lst =>
      cases eo : eff m o <;> simp_all [Nod, ObjAt]
      rcases hn with ⟨h1, h2, h3⟩
      rcases q with rfl | q <;> simp_all
    | ins n j =>
      obtain ⟨l, dx, ho⟩ := ho
      cases eo : eff m o <;> simp_all [Nod]
      rcases q with rfl | q <;> simp_all
    | dct ks =>
      cases eo : eff m o <;> simp_all [Nod, ObjAt]
      rcases hn with ⟨h1, h2, h3⟩
      rcases q with rfl | q <;> simp_all
    | dcT ks =>
      obtain ⟨bs, _, _, _, _, _, _, ho⟩ := ho
      cases eo : eff m o <;> simp_all [Nod]
      rcases q with rfl | q <;> simp_all
    | sti l =>
      obtain ⟨_, _, ho⟩ := ho
      cases eo : eff m o <;> simp_all [Nod]
      rcases q with rfl | q <;> simp_all
    | xd d f x =>
      obtain ⟨_, _, ho⟩ := ho
      cases eo : eff m o <;> simp_all [Nod]
      rcases q with rfl | q <;> simp_all
theorem RepL.isS : ∀ (ts : List Tr) {m : Ow} {vs : List V} {Φ : Ps}, RepL K Z H m ts vs Φ → ∀ b, Φ b → (H b).isSome = true
  | [], _, _, _, h, b, q => absurd q (h.2 b)
  | t :: ts, m, vs, Φ, h, b, q => by
    obtain ⟨v, vs', Φ1, Φ2, e, h1, h2, d, u⟩ := h
    rcases (u b).mp q with z | z
    · exact Rep.isS t h1 b z
    · exact RepL.isS ts h2 b z
end
/-- no tuple is owned -/
def nt' : HO → Bool
  | .tup _ => false
  | .frz _ _ => false
  | _ => true
theorem tsk (h : ∀ b ob, H b = some ob → nt' ob = false → H' b = some ob) : TSK K H H' := fun a xs q => h a _ q rfl
mutual
theorem Rep.nt : ∀ (t : Tr) {m : Ow} {v : V} {Φ : Ps}, Rep K Z H m t v Φ → ∀ b ob, Φ b → H b = some ob → nt' ob = true
  | .any, _, _, _, h, b, _, q, _ => absurd q (h b)
  | .a _, _, _, _, h, b, _, q, _ => absurd q (h.2 b)
  | .nd k o ts, m, v, Φ, h, b, ob, q, hb => by
    obtain ⟨a, vs, Ψ, e, ho, hl, hn⟩ := h
    have ih := RepL.nt ts hl b ob
    cases k with
    | tup => cases eo : eff m o <;> simp_all [Nod]
    | lst =>
      cases eo : eff m o <;> simp_all [Nod, ObjAt]
      rcases q with rfl | q
      · simp_all; subst hb; rfl
      · exact ih q
    | ins n j =>
      obtain ⟨l, dx, ho⟩ := ho
      cases eo : eff m o <;> simp_all [Nod]
      rcases q with rfl | q
      · simp_all; subst hb; rfl
      · exact ih q
    | dct ks =>
      cases eo : eff m o <;> simp_all [Nod, ObjAt]
      rcases q with rfl | q
      · simp_all; subst hb; rfl
      · exact ih q
    | dcT ks =>
      obtain ⟨bs, _, _, _, _, _, _, ho⟩ := ho
      cases eo : eff m o <;> simp_all [Nod]
      rcases q with rfl | q
      · simp_all; subst hb; rfl
      · exact ih q
    | sti l =>
      obtain ⟨_, _, ho⟩ := ho
      cases eo : eff m o <;> simp_all [Nod]
      rcases q with rfl | q
      · simp_all; subst hb; rfl
      · exact ih q
    | xd d f x =>
      obtain ⟨_, _, ho⟩ := ho
      cases eo : eff m o <;> simp_all [Nod]
      rcases q with rfl | q
      · simp_all; subst hb; rfl
      · exact ih q
theorem RepL.nt : ∀ (ts : List Tr) {m : Ow} {vs : List V} {Φ : Ps}, RepL K Z H m ts vs Φ → ∀ b ob, Φ b → H b = some ob → nt' ob = true
  | [], _, _, _, h, b, _, q, _ => absurd q (h.2 b)
  | t :: ts, m, vs, Φ, h, b, ob, q, hb => by
    obtain ⟨v, vs', Φ1, Φ2, e, h1, h2, d, u⟩ := h
    rcases (u b).mp q with z | z
    · exact Rep.nt t h1 b ob z hb
    · exact RepL.nt ts h2 b ob z hb
end
/-- the upper temps change: what they own may change, new things may come -/
structure Chg (Z Z' : Zn) (H H' : Hp) (Ψ Ψ' : Ps) : Prop where
  fz : ∀ b, Z.fz b → Z'.fz b
  ln : ∀ b, Z.ln b → Z'.ln b
  fz' : ∀ b, Z'.fz b → Z.fz b ∨ Ψ b ∨ H b = none
  ln' : ∀ b, Z'.ln b → Z.ln b ∨ Ψ b ∨ H b = none
  zs : ∀ b, Z'.fz b ∨ Z'.ln b → (H' b).isSome = true
  ob : ∀ b ob, H b = some ob → ¬ Ψ b → H' b = some ob
  oc : ∀ b, Ψ b → (H' b).isSome = true
  nw : ∀ b, Ψ' b → (Ψ b ∨ H b = none) ∧ ¬ Z'.fz b ∧ ¬ Z'.ln b
theorem Ev.swapX {τ1 τ1' : List Ent} {us1 us1' : List V} {Ψ1 Ψ2 Ψ1' : Ps} (E : Ev K c Z ws Φ Ψ σ H Γ (τ1 ++ τ) (us1 ++ us)) (hl : τ1.length = us1.length) (hal : ∀ e ∈ τ1', ∀ p, e ≠ .al p)
    (r1 : RepL K Z H .own (trees τ1) us1 Ψ1) (r2 : RepL K Z H .own (trees τ) us Ψ2) (d : ∀ b, ¬ (Ψ1 b ∧ Ψ2 b)) (u : ∀ b, Ψ b ↔ Ψ1 b ∨ Ψ2 b)
    (n1 : RepL K Z' H' .own (trees τ1') us1' Ψ1') (ch : Chg Z Z' H H' Ψ1 Ψ1') (hl' : τ1'.length = us1'.length) : EnvOk K c σ H' Γ (τ1' ++ τ) (us1' ++ us) := by
  obtain ⟨sl, tm, dj, so, to, ln, zo, zf, z0, zs, st, pv⟩ := E
  have nt1 := RepL.nt _ r1
  have tp : TSK K H H' := tsk fun b ob e n => ch.ob b ob e fun q => by
    have := nt1 b ob q e
    rw [n] at this
    cases this
  have kpF : Kp K Z Z' H H' Φ := ⟨ch.fz, ch.ln, fun b ob q e => ch.ob b ob e (by grind), tp⟩
  have kpT : Kp K Z Z' H H' Ψ2 := ⟨ch.fz, ch.ln, fun b ob q e => ch.ob b ob e (by grind), tp⟩
  have hsome := RepL.isS _ sl
  have hsome2 := RepL.isS _ r2
  have rk : ∀ {p : List Nat} {w : V}, (getG Γ p).isSome = true → Raw H ws p w → Raw H' ws p w := fun {p w} g r => Raw.keep sl (by rw [getG_getP g]; exact g) r fun b ob hb e => ch.ob b ob e (by grind)
  refine ⟨Z', ws, Φ, fun b => Ψ1' b ∨ Ψ2 b, ⟨RepL.fr _ sl kpF, ?_, ?_, ?_, ?_, ln, ?_, ?_, fun b q => ch.fz b (z0 b q), ch.zs, ?_, pv⟩⟩
  · have := RepL.append _ n1 (RepL.fr _ r2 kpT) (by
      intro b ⟨q1, q2⟩
      have h1 := ch.nw b q1
      have h2 := hsome2 b q2
      rcases h1.1 with z | z
      · exact d b ⟨z, q2⟩
      · rw [z] at h2; cases h2)
    simpa [trees] using this
  · intro b ⟨q1, q2⟩
    have h2 := hsome b q1
    rcases q2 with q2 | q2
    · have h1 := ch.nw b q2
      rcases h1.1 with z | z
      · exact dj b ⟨q1, (u b).mpr (.inl z)⟩
      · rw [z] at h2; cases h2
    · exact dj b ⟨q1, (u b).mpr (.inr q2)⟩
  · intro i e he
    have := so i e he
    cases e with
    | no => trivial
    | tr t => exact this
    | al p =>
      obtain ⟨w, h1, h2, h3⟩ := this
      exact ⟨w, h1, rk h3 h2, h3⟩
  · intro i p hp
    by_cases hi : i < τ1'.length
    · rw [List.getElem?_append_left hi] at hp
      exact absurd rfl (hal _ (List.mem_of_getElem? hp) p)
    · rw [List.getElem?_append_right (by omega)] at hp
      have := to (i - τ1'.length + τ1.length) p (by rw [List.getElem?_append_right (by omega)]; rw [show i - τ1'.length + τ1.length - τ1.length = i - τ1'.length by omega]; exact hp)
      obtain ⟨w, h1, h2, h3⟩ := this
      refine ⟨w, ?_, rk h3 h2, h3⟩
      rw [List.getElem?_append_right (by omega)] at h1 ⊢
      rw [show i - us1'.length = i - τ1'.length + τ1.length - us1.length by omega]
      exact h1
  · intro b q
    rcases q with q | q | q
    · have h1 := zo b (.inl q)
      have h2 := hsome b q
      refine ⟨h1.1, fun z => ?_, fun z => ?_⟩
      · rcases ch.fz' b z with z | z | z
        · exact h1.2.1 z
        · exact dj b ⟨q, (u b).mpr (.inl z)⟩
        · rw [z] at h2; cases h2
      · rcases ch.ln' b z with z | z | z
        · exact h1.2.2 z
        · exact dj b ⟨q, (u b).mpr (.inl z)⟩
        · rw [z] at h2; cases h2
    · have h1 := ch.nw b q
      refine ⟨?_, h1.2⟩
      rcases h1.1 with z | z
      · exact (zo b (.inr ((u b).mpr (.inl z)))).1
      · cases e0 : c.H0 b with
        | none => exact .inr rfl
        | some o0 =>
          obtain ⟨o', h', _⟩ := st b o0 e0
          rw [z] at h'; cases h'
    · have h1 := zo b (.inr ((u b).mpr (.inr q)))
      have h2 := hsome2 b q
      refine ⟨h1.1, fun z => ?_, fun z => ?_⟩
      · rcases ch.fz' b z with z | z | z
        · exact h1.2.1 z
        · exact d b ⟨z, q⟩
        · rw [z] at h2; cases h2
      · rcases ch.ln' b z with z | z | z
        · exact h1.2.2 z
        · exact d b ⟨z, q⟩
        · rw [z] at h2; cases h2
  · intro b z
    rcases ch.fz' b z with z | z | z
    · exact zf b z
    · exact .inr (zo b (.inr ((u b).mpr (.inl z)))).1
    · cases e0 : c.H0 b with
      | none => exact .inr (.inr rfl)
      | some o0 =>
        obtain ⟨o', h', _⟩ := st b o0 e0
        rw [z] at h'; cases h'
  · intro b o0 e0
    obtain ⟨o', h', hn⟩ := st b o0 e0
    by_cases q : Ψ1 b
    · obtain ⟨o2, e2⟩ := Option.isSome_iff_exists.mp (ch.oc b q)
      refine ⟨o2, e2, fun nf => ?_⟩
      rcases (zo b (.inr ((u b).mpr (.inl q)))).1 with z | z
      · exact absurd z nf
      · rw [z] at e0; cases e0
    · exact ⟨o', ch.ob b o' h' q, hn⟩
theorem Ev.swap {τ1 τ1' : List Ent} {us1 us1' : List V} {Ψ1' : Ps} (E : Ev K c Z ws Φ Ψ σ H Γ (τ1 ++ τ) (us1 ++ us)) (hl : τ1.length = us1.length) (hal : ∀ e ∈ τ1', ∀ p, e ≠ .al p)
    (step : ∀ Ψ1, RepL K Z H .own (trees τ1) us1 Ψ1 → RepL K Z' H' .own (trees τ1') us1' Ψ1' ∧ Chg Z Z' H H' Ψ1 Ψ1') (hl' : τ1'.length = us1'.length) : EnvOk K c σ H' Γ (τ1' ++ τ) (us1' ++ us) := by
  have tm' : RepL K Z H .own (trees τ1 ++ trees τ) (us1 ++ us) Ψ := by simpa [trees] using E.tm
  obtain ⟨v1, v2, Ψ1, Ψ2, e, r1, r2, d, u⟩ := RepL.split _ tm'
  have hl1 := RepL.len _ r1
  have hlt : (trees τ1).length = τ1.length := by simp [trees]
  obtain ⟨rfl, rfl⟩ := List.append_inj e (by omega)
  obtain ⟨n1, ch⟩ := step Ψ1 r1
  exact E.swapX hl hal r1 r2 d u n1 ch hl'
end
section
variable {K : KC} {Z Z' : Zn} {H H' : Hp} {m : Ow} {t t' : Tr} {ts : List Tr} {v w : V} {vs us ws : List V} {Φ Ψ : Ps} {a : Addr} {k : Nk} {o : Ow} {i : Nat} {p q : List Nat} {Γ τ : List Ent} {σ : St} {c : Cz} {e : Ent}
mutual
theorem Rep.cp0 : ∀ (t : Tr) {v : V} {Φ : Ps}, Rep K Z H .own t v Φ → cp t = true → ∀ b, ¬ Φ b
  | .any, _, _, h, _ => h
  | .a _, _, _, h, _ => h.2
  | .nd k o ts, v, Φ, h, q => by
    obtain ⟨a, vs, Ψ, _, _, hl, hn⟩ := h
    cases o with
    | own =>
      cases k with
      | tup => 
        have ih := RepL.cp0 ts hl (by simpa [cp] using q)
        have hn : ∀ b, Φ b ↔ Ψ b := hn
        exact fun b z => ih b ((hn b).mp z)
      | _ => simp [cp] at q
    | frz => cases k <;> simp_all [Nod, eff]
    | lnt => cases k <;> simp_all [Nod, eff]
theorem RepL.cp0 : ∀ (ts : List Tr) {vs : List V} {Φ : Ps}, RepL K Z H .own ts vs Φ → cpL ts = true → ∀ b, ¬ Φ b
  | [], _, _, h, _ => h.2
  | t :: ts, vs, Φ, h, q => by
    obtain ⟨v, vs', Φ1, Φ2, _, h1, h2, _, u⟩ := h
    simp only [cpL, Bool.and_eq_true] at q
    intro b z
    rcases (u b).mp z with z | z
    · exact Rep.cp0 t h1 q.1 b z
    · exact RepL.cp0 ts h2 q.2 b z
end
def kill (p : List Nat) (Γ : List Ent) : List Ent := Γ.map (killE p)
/-- every alias of the slot i is forgotten -/
def killR (i : Nat) : Ent → Ent
  | .al q => if q.head? = some i then .no else .al q
  | e => e
theorem trees_kill : trees (kill p Γ) = trees Γ := by
  simp only [trees, kill, List.map_map]
  congr 1
  funext e
  cases e with
  | al q => by_cases h : nbel p q = true <;> simp [killE, h, Ent.tree]
  | _ => rfl
theorem trees_killR : trees (Γ.map (killR i)) = trees Γ := by
  simp only [trees, List.map_map]
  congr 1
  funext e
  cases e with
  | al q => by_cases h : q.head? = some i <;> simp [killR, h, Ent.tree]
  | _ => rfl
theorem kill_at (h : (kill p Γ)[i]? = some e) : ∃ e', Γ[i]? = some e' ∧ e = killE p e' := by
  rw [kill, List.getElem?_map] at h
  cases q : Γ[i]? with
  | none => simp [q] at h
  | some x => exact ⟨x, rfl, by simpa [q, eq_comm] using h⟩
theorem getG_kill : getG (kill p Γ) q = getG Γ q := by
  cases q with
  | nil => rfl
  | cons j q =>
    simp only [getG, kill, List.getElem?_map]
    cases Γ[j]? with
    | none => rfl
    | some x =>
      cases x with
      | al r => by_cases h : nbel p r = true <;> simp [killE, h]
      | _ => rfl
theorem getG_isP (h : (getG Γ p).isSome = true) : (getP (trees Γ) p).isSome = true := by rw [getG_getP h]; exact h
theorem head_tr (h : (getG Γ (i :: p)).isSome = true) : ∃ t, Γ[i]? = some (.tr t) := by
  simp only [getG] at h
  cases e : Γ[i]? with
  | none => simp [e] at h
  | some x =>
    cases x with
    | no => simp [e] at h
    | al _ => simp [e] at h
    | tr t => exact ⟨t, rfl⟩
theorem setG_len : (setG Γ p t).length = Γ.length := by
  cases p with
  | nil => rfl
  | cons i p =>
    simp only [setG]
    split <;> simp
theorem getG_setG (h : (getG Γ q).isSome = true) (hp : (getG Γ p).isSome = true) (nb : nbel p q = true) : (getG (setG Γ p t) q).isSome = true := by
  have h2 := getP_setP (t := t) nb (getG_isP h)
  rw [← trees_setG hp] at h2
  cases q with
  | nil => simp [getG] at h
  | cons j q =>
    obtain ⟨x, hx⟩ := head_tr h
    have : ∃ y, (setG Γ p t)[j]? = some (.tr y) := by
      cases p with
      | nil => exact ⟨x, hx⟩
      | cons i p =>
        obtain ⟨z, hz⟩ := head_tr hp
        simp only [setG, hz]
        by_cases e : i = j
        · subst e
          exact ⟨_, List.getElem?_set_self (getq_lt' hz)⟩
        · exact ⟨x, by rw [List.getElem?_set_ne e]; exact hx⟩
    obtain ⟨y, hy⟩ := this
    have e1 : getP (trees (setG Γ p t)) (j :: q) = getT y q := getP_getT (by simp [trees, hy, Ent.tree])
    simp only [getG, hy]
    rw [← e1]
    exact h2
theorem nbel_any : ∀ {p q : List Nat} {ts : List Tr}, getP ts p = some .any → (getP ts q).isSome = true → nbel p q = true
  | [], _, _, h, _ => by simp [getP] at h
  | _, [], _, _, h => by simp [getP] at h
  | [i], [j], ts, _, _ => by simp [nbel]
  | [i], j :: j2 :: q, ts, h, g => by
    by_cases e : i = j
    · subst e
      have h : ts[i]? = some .any := h
      simp [getP, h] at g
    · simp [nbel, e]
  | i :: i2 :: p, [j], ts, _, _ => by simp [nbel]
  | i :: i2 :: p, j :: j2 :: q, ts, h, g => by
    by_cases e : i = j
    · subst e
      obtain ⟨k, us, e1, hk, h⟩ := getP_cons h
      obtain ⟨x, g⟩ := Option.isSome_iff_exists.mp g
      obtain ⟨k', us', e2, hk', g⟩ := getP_cons g
      rw [e1] at e2
      cases e2
      have := nbel_any h (show (getP us (j2 :: q)).isSome = true by rw [g]; rfl)
      simpa [nbel] using this
    · simp [nbel, e]
theorem setG_at {j : Nat} (h : (setG Γ p t)[j]? = some e) : (∃ x y, Γ[j]? = some (.tr x) ∧ e = .tr y) ∨ Γ[j]? = some e := by
  cases p with
  | nil => exact .inr h
  | cons i p =>
    simp only [setG] at h
    split at h
    · rename_i x hx
      by_cases q : i = j
      · subst q
        rw [List.getElem?_set_self (getq_lt' hx)] at h
        exact .inl ⟨x, _, hx, (Option.some.inj h).symm⟩
      · rw [List.getElem?_set_ne q] at h
        exact .inr h
    · exact .inr h
/-- what stands at a place is taken out and held by hand -/
theorem EnvOk.ext (E : EnvOk K c σ H Γ (.al p :: τ) (w :: us)) (g : getG Γ p = some t) : EnvOk K c σ H (kill p (setG Γ p .any)) (.tr t :: .al p :: kill p τ) (w :: w :: us) := by
  obtain ⟨Z, ws, Φ, Ψ, sl, tm, dj, so, to, ln, zo, zf, z0, zs, st, pv⟩ := E
  have gs : (getG Γ p).isSome = true := by rw [g]; rfl
  have g2 : getP (trees Γ) p = some t := by rw [getG_getP gs, g]
  obtain ⟨w', Φ1, Φ2, raw, r, d, u, r2, _⟩ := RepL.path sl g2
  obtain ⟨w0, e0, raw0, _⟩ := to 0 p rfl
  have e0 : w = w0 := Option.some.inj e0
  subst e0
  cases raw.fn raw0
  obtain ⟨v0, vs0, Θ1, Θ2, e1, a1, a2, ad, au⟩ := tm
  cases e1
  have a1 : ∀ b, ¬ Θ1 b := a1
  have npp : ∀ {p : List Nat}, nbel p p = true := by
    intro p
    induction p with
    | nil => rfl
    | cons i p ih => simp [nbel, ih]
  refine ⟨Z, ws, Φ2, fun b => Φ1 b ∨ Ψ b, ⟨?_, ?_, by grind, ?_, ?_, ?_, by grind, zf, z0, zs, st, pv⟩⟩
  · rw [trees_kill, trees_setG gs]
    exact r2
  · refine ⟨w, _, Φ1, Ψ, rfl, r, ⟨w, us, Θ1, Θ2, rfl, a1, ?_, ad, au⟩, by grind, fun _ => Iff.rfl⟩
    show RepL K Z H .own (trees (kill p τ)) us Θ2
    rw [trees_kill]
    exact a2
  · intro j e he
    obtain ⟨e', he', rfl⟩ := kill_at he
    rcases setG_at he' with ⟨x, y, hx, rfl⟩ | he'
    · exact so j _ hx
    · have h1 := so j e' he'
      cases e' with
      | no => trivial
      | tr x => exact h1
      | al q =>
        obtain ⟨w1, s1, s2, s3⟩ := h1
        by_cases nb : nbel p q = true
        · simp only [killE, nb, if_true]
          exact ⟨w1, s1, s2, by rw [getG_kill]; exact getG_setG s3 gs nb⟩
        · simp only [killE, nb]
          trivial
  · intro j q hj
    match j with
    | 0 => simp at hj
    | 1 =>
      simp at hj
      subst hj
      exact ⟨w, rfl, raw, by rw [getG_kill]; exact getG_setG gs gs npp⟩
    | j + 2 =>
      have hj : (kill p τ)[j]? = some (.al q) := by simpa using hj
      obtain ⟨e', he', hk⟩ := kill_at hj
      cases e' with
      | no => simp [killE] at hk
      | tr _ => simp [killE] at hk
      | al r =>
        by_cases nb : nbel p r = true
        · simp only [killE, nb, if_true] at hk
          cases hk
          obtain ⟨w1, s1, s2, s3⟩ := to (j + 1) q (by simpa using he')
          exact ⟨w1, by simpa using s1, s2, by rw [getG_kill]; exact getG_setG s3 gs nb⟩
        · simp [killE, nb] at hk
  · rw [ln]; simp [kill, setG_len]
/-- it is put back -/
theorem EnvOk.back (E : EnvOk K c σ H Γ (.tr t :: .al p :: τ) (w :: w :: us)) (g : getG Γ p = some .any) (he : esc t = true) : EnvOk K c σ H (setG Γ p t) (.al p :: τ) (w :: us) := by
  obtain ⟨Z, ws, Φ, Ψ, sl, tm, dj, so, to, ln, zo, zf, z0, zs, st, pv⟩ := E
  have gs : (getG Γ p).isSome = true := by rw [g]; rfl
  have g2 : getP (trees Γ) p = some .any := by rw [getG_getP gs, g]
  obtain ⟨w0, e0, raw0, _⟩ := to 1 p rfl
  have e0 : w = w0 := Option.some.inj e0
  subst e0
  obtain ⟨v0, vs0, Θ1, Θ2, e1, a1, a2, ad, au⟩ := tm
  cases e1
  have r3 := RepL.putP sl g2 raw0 a1 (by grind) he
  have nb : ∀ {q : List Nat}, (getG Γ q).isSome = true → nbel p q = true := fun h => nbel_any g2 (getG_isP h)
  refine ⟨Z, ws, fun b => Θ1 b ∨ Φ b, Θ2, ⟨by rw [trees_setG gs]; exact r3, a2, by grind, ?_, ?_, by rw [ln]; simp [setG_len], by grind, zf, z0, zs, st, pv⟩⟩
  · intro j e he
    rcases setG_at he with ⟨x, y, hx, rfl⟩ | he'
    · exact so j _ hx
    · have h1 := so j e he'
      cases e with
      | no => trivial
      | tr x => exact h1
      | al q =>
        obtain ⟨w1, s1, s2, s3⟩ := h1
        exact ⟨w1, s1, s2, getG_setG s3 gs (nb s3)⟩
  · intro j q hj
    obtain ⟨w1, s1, s2, s3⟩ := to (j + 1) q (by simpa using hj)
    exact ⟨w1, by simpa using s1, s2, getG_setG s3 gs (nb s3)⟩
end
def viewE (Γ : List Ent) : Ent → Option Tr
  | .tr t => some t
  | .al p => getG Γ p
  | .no => none
/-- the j-th item of what stands there -/
def kidE (e : Ent) (k : Nk) (o : Ow) (ts : List Tr) (j : Nat) : Option Ent := match ts[j]? with
  | none => none
  | some t => if cp (kid o t) = true then some (.tr (kid o t)) else match e, k with
    | .tr _, _ => some (.tr (kid o t))
    | .al _, .tup => none
    | .al p, _ => if o = .own then some (.al (p ++ [j])) else none
    | .no, _ => none
section
variable {K : KC} {Z Z' : Zn} {H H' : Hp} {m : Ow} {t t' : Tr} {ts : List Tr} {v w : V} {vs us ws : List V} {Φ Ψ : Ps} {a : Addr} {k : Nk} {o : Ow} {i j : Nat} {p q : List Nat} {Γ τ : List Ent} {σ : St} {c : Cz} {e e' : Ent}
theorem EnvOk.var (E : EnvOk K c σ H Γ τ us) (h : Γ[i]? = some (.tr t)) (hc : cp t = true) : ∃ v, σ[i]? = some (some v) ∧ EnvOk K c σ H Γ (.tr t :: τ) (v :: us) := by
  obtain ⟨Z, ws, Φ, Ψ, sl, tm, dj, so, to, ln, zo, zf, z0, zs, st, pv⟩ := E
  obtain ⟨v, hv, hs⟩ := so i _ h
  obtain ⟨v', Φ1, Φ2, e1, r, _⟩ := RepL.at_ _ sl (i := i) (t := t) (by simp [trees, h, Ent.tree])
  rw [hv] at e1
  cases e1
  have n0 := Rep.cp0 t r hc
  refine ⟨v, hs, Z, ws, Φ, Ψ, ⟨sl, ⟨v, us, Φ1, Ψ, rfl, r, tm, by grind, by grind⟩, dj, so, ?_, ln, zo, zf, z0, zs, st, pv⟩⟩
  intro j p hj
  match j with
  | 0 => simp at hj
  | j + 1 => exact to j p (by simpa using hj)
theorem EnvOk.pushA (E : EnvOk K c σ H Γ τ us) (h : ∀ ws, (∀ Z Φ Ψ, Ev K c Z ws Φ Ψ σ H Γ τ us → Raw H ws p v)) (g : (getG Γ p).isSome = true) : EnvOk K c σ H Γ (.al p :: τ) (v :: us) := by
  obtain ⟨Z, ws, Φ, Ψ, EE⟩ := E
  have raw := h ws Z Φ Ψ EE
  obtain ⟨sl, tm, dj, so, to, ln, zo, zf, z0, zs, st, pv⟩ := EE
  refine ⟨Z, ws, Φ, Ψ, ⟨sl, ⟨v, us, fun _ => False, Ψ, rfl, fun _ h => h, tm, by grind, by grind⟩, dj, so, ?_, ln, zo, zf, z0, zs, st, pv⟩⟩
  intro j q hj
  match j with
  | 0 =>
    simp at hj
    subst hj
    exact ⟨v, rfl, raw, g⟩
  | j + 1 => exact to j q (by simpa using hj)
theorem EnvOk.varP (E : EnvOk K c σ H Γ τ us) (h : Γ[i]? = some (.tr t)) : ∃ v, σ[i]? = some (some v) ∧ EnvOk K c σ H Γ (.al [i] :: τ) (v :: us) := by
  obtain ⟨Z, ws, Φ, Ψ, EE⟩ := id E
  obtain ⟨v, hv, hs⟩ := EE.so i _ h
  refine ⟨v, hs, E.pushA (fun ws2 Z2 Φ2 Ψ2 EE2 => ?_) (by simp [getG, h, getT])⟩
  obtain ⟨v2, hv2, hs2⟩ := EE2.so i _ h
  rw [hs] at hs2
  cases hs2
  exact hv2
theorem EnvOk.varA (E : EnvOk K c σ H Γ τ us) (h : Γ[i]? = some (.al p)) : ∃ v, σ[i]? = some (some v) ∧ EnvOk K c σ H Γ (.al p :: τ) (v :: us) := by
  obtain ⟨Z, ws, Φ, Ψ, EE⟩ := id E
  obtain ⟨v, hs, raw, g⟩ := EE.so i _ h
  refine ⟨v, hs, E.pushA (fun ws2 Z2 Φ2 Ψ2 EE2 => ?_) g⟩
  obtain ⟨v2, hs2, raw2, _⟩ := EE2.so i _ h
  rw [hs] at hs2
  cases hs2
  exact raw2
theorem Ev.view (E : Ev K c Z ws Φ Ψ σ H Γ τ us) {n : Nat} (h1 : τ[n]? = some e) (h2 : us[n]? = some v) (hv : viewE Γ e = some t) : ∃ Θ, Rep K Z H .own t v Θ := by
  cases e with
  | no => simp [viewE] at hv
  | tr x =>
    obtain ⟨v', Φ1, Φ2, e1, r, _⟩ := RepL.at_ _ E.tm (i := n) (t := x) (by simp [trees, h1, Ent.tree])
    rw [h2] at e1
    cases e1
    simp only [viewE] at hv
    cases hv
    exact ⟨Φ1, r⟩
  | al p =>
    obtain ⟨w, e1, raw, g⟩ := E.to n p h1
    rw [h2] at e1
    cases e1
    obtain ⟨w', Φ1, Φ2, raw', r, _⟩ := RepL.path E.sl (p := p) (t := t) (by rw [getG_getP g]; exact hv)
    cases raw.fn raw'
    exact ⟨Φ1, r⟩
theorem Chg.same (Z : Zn) (H : Hp) (Ψ : Ps) (zs : ∀ b, Z.fz b ∨ Z.ln b → (H b).isSome = true) (hs : ∀ b, Ψ b → (H b).isSome = true) (Ψ' : Ps) (n : ∀ b, Ψ' b → Ψ b ∧ ¬ Z.fz b ∧ ¬ Z.ln b) : Chg Z Z H H Ψ Ψ' :=
  ⟨fun _ h => h, fun _ h => h, fun _ h => .inl h, fun _ h => .inl h, zs, fun _ _ h _ => h, hs, fun b q => ⟨.inl (n b q).1, (n b q).2⟩⟩
/-- the top is dropped -/
theorem EnvOk.drop (E : EnvOk K c σ H Γ (e :: τ) (v :: us)) : EnvOk K c σ H Γ τ us := by
  obtain ⟨Z, ws, Φ, Ψ, EE⟩ := E
  exact EE.swap (τ1 := [e]) (us1 := [v]) (τ1' := []) (us1' := []) (Ψ1' := fun _ => False) rfl (by simp) (fun Ψ1 r => ⟨⟨rfl, fun _ h => h⟩, .same _ _ _ EE.zs (fun b q => RepL.isS _ r b q) _ (by simp)⟩) rfl
theorem EnvOk.atom (E : EnvOk K c σ H Γ τ us) (v : V) : EnvOk K c σ H Γ (.tr (.a v) :: τ) (v :: us) := by
  obtain ⟨Z, ws, Φ, Ψ, EE⟩ := E
  exact EE.swap (τ1 := []) (us1 := []) (τ1' := [.tr (.a v)]) (us1' := [v]) (Ψ1' := fun _ => False) rfl (by simp) (fun Ψ1 r => ⟨⟨v, [], fun _ => False, fun _ => False, rfl, ⟨rfl, fun _ h => h⟩, ⟨rfl, fun _ h => h⟩, by simp, by simp⟩, .same _ _ _ EE.zs (fun b q => RepL.isS _ r b q) _ (by simp)⟩) rfl
theorem Raw.snoc : ∀ {p : List Nat} {vs us : List V} {w w' : V}, Raw H vs p w → Kids H w us → us[j]? = some w' → Raw H vs (p ++ [j]) w'
  | [], _, _, _, _, r, _, _ => r.elim
  | [i], vs, us, w, w', r, kd, e => ⟨w, us, r, kd, e⟩
  | i :: i2 :: p, vs, us, w, w', r, kd, e => by
    obtain ⟨v, us2, e1, k1, r⟩ := r
    exact ⟨v, us2, e1, k1, r.snoc kd e⟩
theorem getT_snoc : ∀ {p : List Nat} {t : Tr}, getT t p = some (.nd k .own ts) → k ≠ .tup → getT t (p ++ [j]) = ts[j]?
  | [], t, h, hk => by
    cases h
    show getT _ [j] = _
    cases k <;> simp_all [getT] <;> cases ts[j]? <;> rfl
  | i :: p, t, h, hk => by
    cases t with
    | any => simp [getT] at h
    | a v => simp [getT] at h
    | nd k' o us =>
      cases k' <;> cases o <;> simp_all [getT]
      all_goals
        cases e : us[i]? with
        | none => simp [e] at h
        | some y =>
          simp only [e] at h ⊢
          exact getT_snoc h hk
theorem getG_snoc (h : getG Γ p = some (.nd k .own ts)) (hk : k ≠ .tup) : getG Γ (p ++ [j]) = ts[j]? := by
  cases p with
  | nil => simp [getG] at h
  | cons i p =>
    simp only [getG, List.cons_append] at h ⊢
    cases e : Γ[i]? with
    | none => simp [e] at h
    | some x =>
      cases x with
      | no => simp [e] at h
      | al _ => simp [e] at h
      | tr t =>
        simp only [e] at h ⊢
        exact getT_snoc h hk
theorem EnvOk.kidOf (E : EnvOk K c σ H Γ (e :: τ) (w :: us)) (hv : viewE Γ e = some (.nd k o ts)) (hk : kidE e k o ts j = some e') :
    ∃ a vs w', w = .ref a ∧ ObjAt K k o H a vs ∧ ts.length = vs.length ∧ vs[j]? = some w' ∧ EnvOk K c σ H Γ (e' :: τ) (w' :: us) := by
  obtain ⟨Z, ws, Φ, Ψ, EE⟩ := id E
  have view : ∃ Θ, Rep K Z H .own (.nd k o ts) w Θ ∧ ∀ x, e = .tr x → ∃ Ψ2, RepL K Z H .own (trees τ) us Ψ2 ∧ (∀ b, ¬ (Θ b ∧ Ψ2 b)) ∧ ∀ b, Ψ b ↔ Θ b ∨ Ψ2 b := by
    cases e with
    | tr x =>
      obtain ⟨v0, vs0, Θ1, Θ2, e1, a1, a2, ad, au⟩ := EE.tm
      cases e1
      simp only [viewE] at hv
      cases hv
      exact ⟨Θ1, a1, fun _ _ => ⟨Θ2, a2, ad, au⟩⟩
    | no => simp [viewE] at hv
    | al p =>
      obtain ⟨Θ, r⟩ := EE.view (n := 0) rfl rfl hv
      exact ⟨Θ, r, fun _ h => by cases h⟩
  obtain ⟨Θ, rT, rX⟩ := view
  obtain ⟨a, vs, Ξ, rfl, ho, hl, hn⟩ := id rT
  have ho : ObjAt K k o H a vs := ho
  have hl : RepL K Z H o ts vs Ξ := hl
  have hn : Nod Z k o a ts Ξ Θ := hn
  unfold kidE at hk
  cases ht : ts[j]? with
  | none => simp [ht] at hk
  | some t =>
    simp only [ht] at hk
    obtain ⟨w', Ξ1, Ξ2, e1, r1, d1, u1, _⟩ := RepL.at_ _ hl ht
    refine ⟨a, vs, w', rfl, ho, RepL.len _ hl, e1, ?_⟩
    have r1' : Rep K Z H .own (kid o t) w' Ξ1 := rep_kid.mpr r1
    by_cases hc : cp (kid o t) = true
    · rw [if_pos hc] at hk
      cases hk
      have n0 := Rep.cp0 _ r1' hc
      exact EE.swap (τ1 := [e]) (us1 := [.ref a]) (τ1' := [.tr (kid o t)]) (us1' := [w']) (Ψ1' := Ξ1) rfl (by simp) (fun Ψ1 r => ⟨⟨w', [], Ξ1, fun _ => False, rfl, r1', ⟨rfl, fun _ h => h⟩, by grind, by grind⟩, .same _ _ _ EE.zs (fun b q => RepL.isS _ r b q) _ (by grind)⟩) rfl
    · rw [if_neg hc] at hk
      cases e with
      | no => simp [viewE] at hv
      | tr x =>
        simp only at hk
        cases hk
        simp only [viewE] at hv
        cases hv
        obtain ⟨Ψ2, rR, rD, rU⟩ := rX _ rfl
        exact EE.swapX (τ1 := [.tr (.nd k o ts)]) (us1 := [.ref a]) (τ1' := [.tr (kid o t)]) (us1' := [w']) (Ψ1 := Θ) (Ψ1' := Ξ1) rfl (by simp) ⟨.ref a, [], Θ, fun _ => False, rfl, rT, ⟨rfl, fun _ h => h⟩, by grind, by grind⟩ rR rD rU ⟨w', [], Ξ1, fun _ => False, rfl, r1', ⟨rfl, fun _ h => h⟩, by grind, by grind⟩ (.same _ _ _ EE.zs (Rep.isS _ rT) _ (by
          intro b q
          have hb : Θ b := by
            by_cases eo : o = .own
            · exact hn.sub eo b ((u1 b).mpr (.inl q))
            · exact absurd ((u1 b).mpr (.inl q)) (RepL.no0 _ eo hl b)
          exact ⟨hb, (EE.zo b (.inr ((rU b).mpr (.inl hb)))).2⟩)) rfl
      | al p =>
        have g : getG Γ p = some (.nd k o ts) := hv
        obtain ⟨w0, e0, raw, gg⟩ := EE.to 0 p rfl
        cases e0
        have : k ≠ .tup ∧ o = .own ∧ e' = .al (p ++ [j]) := by
          cases k <;> simp_all
          all_goals grind
        obtain ⟨h1, rfl, rfl⟩ := this
        have gs2 : (getG Γ (p ++ [j])).isSome = true := by rw [getG_snoc g h1, ht]; rfl
        have raw2 := raw.snoc (objKids ho h1) e1
        obtain ⟨sl, tm, dj, so, to, ln, zo, zf, z0, zs, st, pv⟩ := EE
        obtain ⟨v0, vs0, Θ1, Θ2, e2, a1, a2, ad, au⟩ := tm
        cases e2
        refine ⟨Z, ws, Φ, Ψ, ⟨sl, ⟨w', us, Θ1, Θ2, rfl, a1, a2, ad, au⟩, dj, so, ?_, ln, zo, zf, z0, zs, st, pv⟩⟩
        intro i q hi
        match i with
        | 0 =>
          simp at hi
          subst hi
          exact ⟨w', rfl, raw2, gs2⟩
        | i + 1 =>
          obtain ⟨w1, s1, s2, s3⟩ := to (i + 1) q (by simpa using hi)
          exact ⟨w1, by simpa using s1, s2, s3⟩
end
section
variable {K : KC} {Z Z' : Zn} {H H' : Hp} {m : Ow} {t t' : Tr} {ts : List Tr} {v w : V} {vs us ws : List V} {Φ Ψ : Ps} {a : Addr} {k : Nk} {o : Ow} {i j : Nat} {p q : List Nat} {Γ τ : List Ent} {σ : St} {c : Cz} {e e' : Ent}
theorem RepL.anyv : ∀ (ts : List Tr) {vs : List V} {Φ : Ps} {i : Nat}, RepL K Z H m ts vs Φ → ts[i]? = some .any → RepL K Z H m ts (vs.set i v) Φ
  | [], _, _, _, _, q => by simp at q
  | x :: ts, vs, Φ, 0, h, q => by
    obtain ⟨v', vs', Φ1, Φ2, e1, h1, h2, d1, u⟩ := h
    cases q
    subst e1
    exact ⟨v, vs', Φ1, Φ2, rfl, h1, h2, d1, u⟩
  | x :: ts, vs, Φ, i + 1, h, q => by
    obtain ⟨v', vs', Φ1, Φ2, e1, h1, h2, d1, u⟩ := h
    subst e1
    exact ⟨v', vs'.set i v, Φ1, Φ2, rfl, h1, RepL.anyv ts h2 (by simpa using q), d1, u⟩
theorem Raw.setv (h : q.head? ≠ some i) (r : Raw H ws q w) : Raw H (ws.set i v) q w := by
  match q with
  | [] => exact r
  | [j] =>
    have : i ≠ j := fun e => h (by rw [e]; rfl)
    show (ws.set i v)[j]? = some w
    rw [List.getElem?_set_ne this]
    exact r
  | j :: j2 :: q =>
    have : i ≠ j := fun e => h (by rw [e]; rfl)
    obtain ⟨v', us, e1, k1, r⟩ := r
    exact ⟨v', us, by rw [List.getElem?_set_ne this]; exact e1, k1, r⟩
theorem getG_ne (h : q.head? ≠ some i) : getG ((Γ.map (killR i)).set i e) q = getG Γ q := by
  match q with
  | [] => rfl
  | j :: q =>
    have : i ≠ j := fun e => h (by rw [e]; rfl)
    simp only [getG]
    rw [List.getElem?_set_ne this, List.getElem?_map]
    cases Γ[j]? with
    | none => rfl
    | some x =>
      cases x with
      | al r => by_cases h : r.head? = some i <;> simp [killR, h]
      | _ => rfl
theorem killR_at (h : (Γ.map (killR i))[j]? = some e) : ∃ e', Γ[j]? = some e' ∧ e = killR i e' := by
  rw [List.getElem?_map] at h
  cases q : Γ[j]? with
  | none => simp [q] at h
  | some x => exact ⟨x, rfl, by simpa [q, eq_comm] using h⟩
theorem EnvOk.setT (E : EnvOk K c σ H Γ (.tr t :: τ) (v :: us)) (hi : i < Γ.length) (hm : c.md[i]? ≠ some true) : EnvOk K c (σ.set i (some v)) H ((Γ.map (killR i)).set i (.tr t)) (τ.map (killR i)) us := by
  obtain ⟨Z, ws, Φ, Ψ, sl, tm, dj, so, to, ln, zo, zf, z0, zs, st, pv⟩ := E
  obtain ⟨v0, vs0, Θ1, Θ2, e1, a1, a2, ad, au⟩ := tm
  cases e1
  have hlt : i < (trees Γ).length := by simpa [trees] using hi
  obtain ⟨v', Φ1, Φ2, e2, r, d, u, r2, _⟩ := RepL.at_ _ sl (i := i) (t := (trees Γ)[i]) (List.getElem?_eq_getElem hlt)
  have hw : i < ws.length := getq_lt' e2
  have g1 : ((trees Γ).set i .any)[i]? = some .any := List.getElem?_set_self hlt
  have r3 := RepL.put _ (RepL.anyv (v := v) _ r2 g1) g1 (List.getElem?_set_self hw) a1 (by grind)
  rw [List.set_set] at r3
  have et : trees ((Γ.map (killR i)).set i (.tr t)) = (trees Γ).set i t := by
    have := trees_killR (Γ := Γ) (i := i)
    simp only [trees, List.map_set] at this ⊢
    rw [this]
    rfl
  refine ⟨Z, ws.set i v, fun b => Θ1 b ∨ Φ2 b, Θ2, ⟨by rw [et]; exact r3, ?_, by grind, ?_, ?_, by simp [ln], by grind, zf, z0, zs, st, ?_⟩⟩
  · show RepL K Z H .own (trees (τ.map (killR i))) us Θ2
    rw [trees_killR]
    exact a2
  · intro j e he
    by_cases hj : i = j
    · subst hj
      rw [List.getElem?_set_self (by simpa using hi)] at he
      cases he
      exact ⟨v, List.getElem?_set_self hw, List.getElem?_set_self (by omega)⟩
    · rw [List.getElem?_set_ne hj] at he
      obtain ⟨e', he', rfl⟩ := killR_at he
      have h1 := so j e' he'
      cases e' with
      | no => trivial
      | tr x =>
        obtain ⟨x1, x2, x3⟩ := h1
        exact ⟨x1, by rw [List.getElem?_set_ne hj]; exact x2, by rw [List.getElem?_set_ne hj]; exact x3⟩
      | al q =>
        obtain ⟨x1, x2, x3, x4⟩ := h1
        by_cases hq : q.head? = some i
        · simp only [killR, hq, if_true]
          trivial
        · simp only [killR, hq, if_false]
          exact ⟨x1, by rw [List.getElem?_set_ne hj]; exact x2, x3.setv hq, by rw [getG_ne hq]; exact x4⟩
  · intro j q hj
    obtain ⟨e', he', hk⟩ := killR_at hj
    cases e' with
    | no => simp [killR] at hk
    | tr _ => simp [killR] at hk
    | al r =>
      by_cases hq : r.head? = some i
      · simp [killR, hq] at hk
      · simp only [killR, hq, if_false] at hk
        cases hk
        obtain ⟨w1, s1, s2, s3⟩ := to (j + 1) q (by simpa using he')
        exact ⟨w1, by simpa using s1, s2.setv hq, by rw [getG_ne hq]; exact s3⟩
  · intro j hj
    have : i ≠ j := fun e => hm (by rw [e]; exact hj)
    rw [List.getElem?_set_ne this]
    exact pv j hj
theorem EnvOk.setA (E : EnvOk K c σ H Γ (.al p :: τ) (v :: us)) (hi : i < Γ.length) (hm : c.md[i]? ≠ some true) (hp : p.head? ≠ some i) : EnvOk K c (σ.set i (some v)) H ((Γ.map (killR i)).set i (.al p)) (τ.map (killR i)) us := by
  obtain ⟨Z, ws, Φ, Ψ, sl, tm, dj, so, to, ln, zo, zf, z0, zs, st, pv⟩ := E
  obtain ⟨w0, e0, raw0, g0⟩ := to 0 p rfl
  cases e0
  obtain ⟨v0, vs0, Θ1, Θ2, e1, a1, a2, ad, au⟩ := tm
  cases e1
  have a1 : ∀ b, ¬ Θ1 b := a1
  have hlt : i < (trees Γ).length := by simpa [trees] using hi
  obtain ⟨v', Φ1, Φ2, e2, r, d, u, r2, _⟩ := RepL.at_ _ sl (i := i) (t := (trees Γ)[i]) (List.getElem?_eq_getElem hlt)
  have et : trees ((Γ.map (killR i)).set i (.al p)) = (trees Γ).set i .any := by
    have := trees_killR (Γ := Γ) (i := i)
    simp only [trees, List.map_set] at this ⊢
    rw [this]
    rfl
  refine ⟨Z, ws, Φ2, Θ2, ⟨by rw [et]; exact r2, ?_, by grind, ?_, ?_, by simp [ln], by grind, zf, z0, zs, st, pv⟩⟩
  · show RepL K Z H .own (trees (τ.map (killR i))) us Θ2
    rw [trees_killR]
    exact a2
  · intro j e he
    by_cases hj : i = j
    · subst hj
      rw [List.getElem?_set_self (by simpa using hi)] at he
      cases he
      exact ⟨v, List.getElem?_set_self (by omega), raw0, by rw [getG_ne hp]; exact g0⟩
    · rw [List.getElem?_set_ne hj] at he
      obtain ⟨e', he', rfl⟩ := killR_at he
      have h1 := so j e' he'
      cases e' with
      | no => trivial
      | tr x =>
        obtain ⟨x1, x2, x3⟩ := h1
        exact ⟨x1, x2, by rw [List.getElem?_set_ne hj]; exact x3⟩
      | al q =>
        obtain ⟨x1, x2, x3, x4⟩ := h1
        by_cases hq : q.head? = some i
        · simp only [killR, hq, if_true]
          trivial
        · simp only [killR, hq, if_false]
          exact ⟨x1, by rw [List.getElem?_set_ne hj]; exact x2, x3, by rw [getG_ne hq]; exact x4⟩
  · intro j q hj
    obtain ⟨e', he', hk⟩ := killR_at hj
    cases e' with
    | no => simp [killR] at hk
    | tr _ => simp [killR] at hk
    | al r =>
      by_cases hq : r.head? = some i
      · simp [killR, hq] at hk
      · simp only [killR, hq, if_false] at hk
        cases hk
        obtain ⟨w1, s1, s2, s3⟩ := to (j + 1) q (by simpa using he')
        exact ⟨w1, by simpa using s1, s2, by rw [getG_ne hq]; exact s3⟩
theorem RepL.reverse : ∀ (ts : List Tr) {vs : List V} {Φ : Ps}, RepL K Z H m ts vs Φ → RepL K Z H m ts.reverse vs.reverse Φ
  | [], vs, Φ, h => by
    obtain ⟨rfl, h2⟩ := h
    exact ⟨rfl, h2⟩
  | t :: ts, vs, Φ, h => by
    obtain ⟨v', vs', Φ1, Φ2, e1, h1, h2, d1, u⟩ := h
    subst e1
    rw [List.reverse_cons, List.reverse_cons]
    have r1 : RepL K Z H m [t] [v'] Φ1 := ⟨v', [], Φ1, fun _ => False, rfl, h1, ⟨rfl, fun _ h => h⟩, by grind, by grind⟩
    exact (RepL.append _ (RepL.reverse ts h2) r1 (by grind)).cast _ (by grind)
/-- how a new node is marked -/
def mkN (k : Nk) (ts : List Tr) : Option Tr := if k = .tup then some (.nd .tup .own ts) else if escL ts = true then some (.nd k .own ts) else if cpL ts = true then some (.nd k .lnt ts) else none
mutual
theorem Rep.lend : ∀ (t : Tr) {m : Ow} {v : V} {Φ : Ps}, Rep K Z H m t v Φ → (∀ b, Z.fz b → Z'.fz b) → (∀ b, Z.ln b ∨ Φ b → Z'.ln b) → Rep K Z' H (eff .lnt m) t v (fun _ => False)
  | .any, _, _, _, h, _, _ => fun _ h => h
  | .a _, _, _, _, h, _, _ => ⟨h.1, fun _ h => h⟩
  | .nd k o ts, m, v, Φ, h, f, l => by
    obtain ⟨a, vs, Ψ, e1, ho, hl, hn⟩ := h
    have ee : eff (eff .lnt m) o = eff .lnt (eff m o) := by cases m <;> cases o <;> rfl
    have sub : ∀ b, Ψ b → Φ b := by
      intro b q
      by_cases eo : eff m o = .own
      · exact hn.sub eo b q
      · exact absurd q (RepL.no0 ts eo hl b)
    refine ⟨a, vs, fun _ => False, e1, ?_, ?_, ?_⟩
    · rw [ee]
      exact ho.weak (by cases eff m o <;> simp [eff])
    · rw [ee]
      exact RepL.lend ts hl f fun b q => l b (q.imp id (sub b))
    · rw [ee]
      cases k <;> cases eo : eff m o <;> simp_all [Nod, eff]
theorem RepL.lend : ∀ (ts : List Tr) {m : Ow} {vs : List V} {Φ : Ps}, RepL K Z H m ts vs Φ → (∀ b, Z.fz b → Z'.fz b) → (∀ b, Z.ln b ∨ Φ b → Z'.ln b) → RepL K Z' H (eff .lnt m) ts vs (fun _ => False)
  | [], _, _, _, h, _, _ => ⟨h.1, fun _ h => h⟩
  | t :: ts, m, vs, Φ, h, f, l => by
    obtain ⟨v', vs', Φ1, Φ2, e1, h1, h2, d1, u⟩ := h
    exact ⟨v', vs', _, _, e1, Rep.lend t h1 f (by grind), RepL.lend ts h2 f (by grind), by simp, by simp⟩
end
mutual
theorem Rep.freeze : ∀ (t : Tr) {m : Ow} {v : V} {Φ : Ps}, Rep K Z H m t v Φ → m ≠ .lnt → (m = .own → esc t = true) → (∀ b, Z.fz b ∨ Φ b → Z'.fz b) → Rep K Z' H .frz t v (fun _ => False)
  | .any, _, _, _, h, _, _, _ => fun _ h => h
  | .a _, _, _, _, h, _, _, _ => ⟨h.1, fun _ h => h⟩
  | .nd k o ts, m, v, Φ, h, hm, he, f => by
    obtain ⟨a, vs, Ψ, e1, ho, hl, hn⟩ := h
    have sub : ∀ b, Ψ b → Φ b := by
      intro b q
      by_cases eo : eff m o = .own
      · exact hn.sub eo b q
      · exact absurd q (RepL.no0 ts eo hl b)
    have nl : eff m o ≠ .lnt := by
      cases m with
      | lnt => exact absurd rfl hm
      | frz => simp [eff]
      | own =>
        have := he rfl
        cases k <;> cases o <;> simp_all [esc, eff]
    have ee : eff .frz o = .frz := rfl
    refine ⟨a, vs, fun _ => False, e1, ?_, ?_, ?_⟩
    · rw [ee]
      exact ho.weak (by simp)
    · rw [ee]
      refine RepL.freeze ts hl nl (fun q => ?_) fun b q => f b (q.imp id (sub b))
      cases m with
      | lnt => exact absurd rfl hm
      | frz => simp [eff] at q
      | own =>
        have := he rfl
        cases k <;> cases o <;> simp_all [esc, eff, Nod]
    · rw [ee]
      cases k <;> cases eo : eff m o <;> simp_all [Nod]
theorem RepL.freeze : ∀ (ts : List Tr) {m : Ow} {vs : List V} {Φ : Ps}, RepL K Z H m ts vs Φ → m ≠ .lnt → (m = .own → escL ts = true) → (∀ b, Z.fz b ∨ Φ b → Z'.fz b) → RepL K Z' H .frz ts vs (fun _ => False)
  | [], _, _, _, h, _, _, _ => ⟨h.1, fun _ h => h⟩
  | t :: ts, m, vs, Φ, h, hm, he, f => by
    obtain ⟨v', vs', Φ1, Φ2, e1, h1, h2, d1, u⟩ := h
    exact ⟨v', vs', _, _, e1, Rep.freeze t h1 hm (fun q => by have := he q; simp_all [escL]) (by grind), RepL.freeze ts h2 hm (fun q => by have := he q; simp_all [escL]) (by grind), by simp, by simp⟩
end
end
section
variable {K : KC} {Z Z' : Zn} {H H' : Hp} {m : Ow} {t t' : Tr} {ts : List Tr} {v w : V} {vs us ws : List V} {Φ Ψ : Ps} {a : Addr} {k k' : Nk} {o : Ow} {i j : Nat} {p q : List Nat} {Γ τ τ1 τ1' : List Ent} {σ : St} {c : Cz} {e e' : Ent}
theorem Ev.swapE {us1 us1' : List V} (E : Ev K c Z ws Φ Ψ σ H Γ (τ1 ++ τ) (us1 ++ us)) (hl : τ1.length = us1.length) (hal : ∀ e ∈ τ1', ∀ p, e ≠ .al p)
    (step : ∀ Ψ1, RepL K Z H .own (trees τ1) us1 Ψ1 → (∀ b, Ψ1 b → ¬ Z.fz b ∧ ¬ Z.ln b) → ∃ Z' Ψ1', RepL K Z' H' .own (trees τ1') us1' Ψ1' ∧ Chg Z Z' H H' Ψ1 Ψ1') (hl' : τ1'.length = us1'.length) : EnvOk K c σ H' Γ (τ1' ++ τ) (us1' ++ us) := by
  have tm' : RepL K Z H .own (trees τ1 ++ trees τ) (us1 ++ us) Ψ := by simpa [trees] using E.tm
  obtain ⟨v1, v2, Ψ1, Ψ2, e, r1, r2, d, u⟩ := RepL.split _ tm'
  have hl1 := RepL.len _ r1
  have hlt : (trees τ1).length = τ1.length := by simp [trees]
  obtain ⟨rfl, rfl⟩ := List.append_inj e (by omega)
  obtain ⟨Z', Ψ1', n1, ch⟩ := step Ψ1 r1 fun b q => (E.zo b (.inr ((u b).mpr (.inl q)))).2
  exact E.swapX hl hal r1 r2 d u n1 ch hl'
theorem upd_kp {pa : Addr} {ob : HO} (hp : H pa = none) (Φ : Ps) : Kp K Z Z H (upd H pa ob) Φ :=
  ⟨fun _ h => h, fun _ h => h, fun b o _ e => by rw [upd_ne (ne_of_none e hp)]; exact e, tsk fun b o e _ => by rw [upd_ne (ne_of_none e hp)]; exact e⟩
theorem trees_tr : trees (ts.map Ent.tr) = ts := by
  simp only [trees, List.map_map]
  exact List.map_id' ts
theorem EnvOk.new {pa : Addr} {ob : HO} (E : EnvOk K c σ H Γ (ts.reverse.map Ent.tr ++ τ) (vs.reverse ++ us)) (hl : ts.length = vs.length) (hp : H pa = none) (hk : mkN k ts = some t) (ho : ∀ o, ObjAt K k o (upd H pa ob) pa vs) : EnvOk K c σ (upd H pa ob) Γ (.tr t :: τ) (.ref pa :: us) := by
  obtain ⟨Z, ws, Φ, Ψ, EE⟩ := E
  refine EE.swapE (τ1' := [.tr t]) (us1' := [.ref pa]) (by simp [hl]) (by simp) (fun Ψ1 r zo => ?_) rfl
  rw [trees_tr] at r
  have r := RepL.reverse _ r
  rw [List.reverse_reverse, List.reverse_reverse] at r
  have r2 := RepL.fr _ r (upd_kp (K := K) (Z := Z) (ob := ob) hp Ψ1)
  have hs := RepL.isS _ r
  have np : ¬ Ψ1 pa := fun q => by have := hs pa q; rw [hp] at this; cases this
  have nz : ∀ b, Z.fz b ∨ Z.ln b → b ≠ pa := fun b q e => by have := EE.zs b q; rw [e, hp] at this; cases this
  have kb : ∀ b, (H b).isSome = true → (upd H pa ob b).isSome = true := fun b q => by
    by_cases e : b = pa
    · rw [e, upd_same]; rfl
    · rw [upd_ne e]; exact q
  have one : ∀ {Z' : Zn} {Θ : Ps}, Rep K Z' (upd H pa ob) .own t (.ref pa) Θ → RepL K Z' (upd H pa ob) .own (trees [.tr t]) [.ref pa] Θ := fun {Z' Θ} h => ⟨.ref pa, [], Θ, fun _ => False, rfl, h, ⟨rfl, fun _ h => h⟩, by simp, by simp⟩
  unfold mkN at hk
  by_cases h1 : k = .tup
  · rw [if_pos h1] at hk
    cases hk
    subst h1
    refine ⟨Z, Ψ1, one ⟨pa, vs, Ψ1, rfl, ho _, r2, fun _ => Iff.rfl⟩, ⟨fun _ h => h, fun _ h => h, fun _ h => .inl h, fun _ h => .inl h, fun b q => kb b (EE.zs b q), fun b o e _ => by rw [upd_ne (ne_of_none e hp)]; exact e, fun b q => kb b (hs b q), fun b q => ⟨.inl q, zo b q⟩⟩⟩
  · rw [if_neg h1] at hk
    by_cases h2 : escL ts = true
    · rw [if_pos h2] at hk
      cases hk
      refine ⟨Z, fun b => b = pa ∨ Ψ1 b, one ⟨pa, vs, Ψ1, rfl, ho _, r2, .mk h1 (fun _ => Iff.rfl) np h2⟩, ⟨fun _ h => h, fun _ h => h, fun _ h => .inl h, fun _ h => .inl h, fun b q => kb b (EE.zs b q), fun b o e _ => by rw [upd_ne (ne_of_none e hp)]; exact e, fun b q => kb b (hs b q), fun b q => ?_⟩⟩
      rcases q with q | q
      · subst q
        exact ⟨.inr hp, fun z => nz b (.inl z) rfl, fun z => nz b (.inr z) rfl⟩
      · exact ⟨.inl q, zo b q⟩
    · rw [if_neg h2] at hk
      by_cases h3 : cpL ts = true
      · rw [if_pos h3] at hk
        cases hk
        have n0 := RepL.cp0 _ r h3
        refine ⟨⟨Z.fz, fun b => b = pa ∨ Z.ln b⟩, fun _ => False, one ⟨pa, vs, fun _ => False, rfl, ho _, ?_, ?_⟩, ⟨fun _ h => h, fun _ h => .inr h, fun _ h => .inl h, fun b h => ?_, fun b q => ?_, fun b o e _ => by rw [upd_ne (ne_of_none e hp)]; exact e, fun b q => kb b (hs b q), fun b q => q.elim⟩⟩
        · exact RepL.lend (m := .own) ts r2 (fun _ h => h) fun b q => .inr (q.elim id fun z => absurd z (n0 b))
        · cases k with
          | tup => exact absurd rfl h1
          | _ => exact ⟨fun _ h => h, .inl rfl⟩
        · rcases h with h | h
          · exact .inr (.inr (by rw [h]; exact hp))
          · exact .inl h
        · rcases q with q | q | q
          · exact kb b (EE.zs b (.inl q))
          · rw [q, upd_same]; rfl
          · exact kb b (EE.zs b (.inr q))
      · rw [if_neg h3] at hk
        cases hk
theorem EnvOk.lend (E : EnvOk K c σ H Γ (.tr t :: τ) (v :: us)) : EnvOk K c σ H Γ (.tr (kid .lnt t) :: τ) (v :: us) := by
  obtain ⟨Z, ws, Φ, Ψ, EE⟩ := E
  refine EE.swapE (τ1 := [.tr t]) (us1 := [v]) (τ1' := [.tr (kid .lnt t)]) (us1' := [v]) rfl (by simp) (fun Ψ1 r zo => ?_) rfl
  have hs := RepL.isS _ r
  obtain ⟨v0, vs0, Θ1, Θ2, e1, a1, a2, ad, au⟩ := r
  cases e1
  refine ⟨⟨Z.fz, fun b => Z.ln b ∨ Ψ1 b⟩, fun _ => False, ⟨v, [], fun _ => False, fun _ => False, rfl, rep_kid.mpr (Rep.lend (m := .own) t a1 (fun _ h => h) fun b q => q.imp id fun z => (au b).mpr (.inl z)), ⟨rfl, fun _ h => h⟩, by simp, by simp⟩,
    ⟨fun _ h => h, fun _ h => .inl h, fun _ h => .inl h, fun b h => h.imp id .inl, fun b q => ?_, fun b o e _ => e, hs, fun b q => q.elim⟩⟩
  rcases q with q | q | q
  · exact EE.zs b (.inl q)
  · exact EE.zs b (.inr q)
  · exact hs b q
theorem EnvOk.freeze (E : EnvOk K c σ H Γ (.tr t :: τ) (v :: us)) (he : esc t = true) : EnvOk K c σ H Γ (.tr (kid .frz t) :: τ) (v :: us) := by
  obtain ⟨Z, ws, Φ, Ψ, EE⟩ := E
  refine EE.swapE (τ1 := [.tr t]) (us1 := [v]) (τ1' := [.tr (kid .frz t)]) (us1' := [v]) rfl (by simp) (fun Ψ1 r zo => ?_) rfl
  have hs := RepL.isS _ r
  obtain ⟨v0, vs0, Θ1, Θ2, e1, a1, a2, ad, au⟩ := r
  cases e1
  refine ⟨⟨fun b => Z.fz b ∨ Ψ1 b, Z.ln⟩, fun _ => False, ⟨v, [], fun _ => False, fun _ => False, rfl, rep_kid.mpr (Rep.freeze (m := .own) t a1 (by simp) (fun _ => he) fun b q => q.imp id fun z => (au b).mpr (.inl z)), ⟨rfl, fun _ h => h⟩, by simp, by simp⟩,
    ⟨fun _ h => .inl h, fun _ h => h, fun b h => h.imp id .inl, fun _ h => .inl h, fun b q => ?_, fun b o e _ => e, hs, fun b q => q.elim⟩⟩
  rcases q with (q | q) | q
  · exact EE.zs b (.inl q)
  · exact hs b q
  · exact EE.zs b (.inr q)
/-- an own node that is held changes in place; items may come out of it -/
theorem EnvOk.mut {us1 vs' vouts : List V} {ts' outs : List Tr} {ob : HO} (E : EnvOk K c σ H Γ (.tr (.nd k .own ts) :: (τ1 ++ τ)) (.ref a :: (us1 ++ us))) (hk : k ≠ .tup) (hk' : k' ≠ .tup) (hl : τ1.length = us1.length) (ho : ObjAt K k .own H a vs)
    (step : ∀ Z Ψa Ψb, RepL K Z H .own ts vs Ψa → RepL K Z H .own (trees τ1) us1 Ψb → (∀ b, ¬ (Ψa b ∧ Ψb b)) → ∃ Ψ', RepL K Z H .own (ts' ++ outs) (vs' ++ vouts) Ψ' ∧ ∀ b, Ψ' b → Ψa b ∨ Ψb b)
    (hl2 : ts'.length = vs'.length) (hl3 : outs.length = vouts.length) (he : escL ts' = true) (ho' : ObjAt K k' .own (upd H a ob) a vs') :
    EnvOk K c σ (upd H a ob) Γ (.tr (.nd k' .own ts') :: (outs.map .tr ++ τ)) (.ref a :: (vouts ++ us)) := by
  obtain ⟨Z, ws, Φ, Ψ, EE⟩ := E
  refine EE.swapE (τ1 := .tr (.nd k .own ts) :: τ1) (us1 := .ref a :: us1) (τ1' := .tr (.nd k' .own ts') :: outs.map .tr) (us1' := .ref a :: vouts) (by simp [hl]) (by simp) (fun Ψ1 r zo => ?_) (by simp [hl3])
  have hs := RepL.isS _ r
  have nt := RepL.nt _ r
  obtain ⟨v0, vs0, Θ1, Θ2, e1, a1, a2, ad, au⟩ := r
  cases e1
  obtain ⟨a', vs2, Ξ, e2, ho2, hl4, hn⟩ := a1
  cases e2
  have ho2 : ObjAt K k .own H a vs2 := ho2
  have hl4 : RepL K Z H .own ts vs2 Ξ := hl4
  have hn : Nod Z k .own a ts Ξ Θ1 := hn
  cases (objKids ho hk).fn (objKids ho2 hk)
  have hn := hn.own hk
  obtain ⟨Ψ', r', sub⟩ := step Z Ξ Θ2 hl4 a2 (by grind)
  have na : ¬ Ψ' a := by grind
  have aΨ : Ψ1 a := by grind
  have nz := zo a aΨ
  have kp : Kp K Z Z H (upd H a ob) Ψ' := ⟨fun _ h => h, fun _ h => h, fun b o q e => by rw [upd_ne (by grind)]; exact e, tsk fun b o e n => by
    rw [upd_ne (fun q => by subst q; have := nt b o aΨ e; rw [n] at this; cases this)]; exact e⟩
  have r' := RepL.fr _ r' kp
  obtain ⟨w1, w2, Ξ1, Ξ2, e3, b1, b2, bd, bu⟩ := RepL.split _ r'
  have hlen := RepL.len _ b1
  obtain ⟨rfl, rfl⟩ := List.append_inj e3 (by omega)
  refine ⟨Z, fun b => b = a ∨ Ψ' b, ⟨.ref a, vouts, fun b => b = a ∨ Ξ1 b, Ξ2, rfl, ⟨a, vs', Ξ1, rfl, ho', b1, .mk hk' (fun _ => Iff.rfl) (by grind) he⟩, ?_, by grind, by grind⟩, ⟨fun _ h => h, fun _ h => h, fun _ h => .inl h, fun _ h => .inl h, fun b q => ?_, fun b o e n => by rw [upd_ne (by grind)]; exact e, fun b q => ?_, fun b q => ?_⟩⟩
  · show RepL K Z (upd H a ob) .own (trees (outs.map .tr)) vouts Ξ2
    rw [trees_tr]
    exact b2
  · rw [upd_ne (by grind)]; exact EE.zs b q
  · by_cases e : b = a
    · rw [e, upd_same]; rfl
    · rw [upd_ne e]; exact hs b q
  · have : Ψ1 b := by grind
    exact ⟨.inl this, zo b this⟩
end
/-! the machine: readings as functions on trees -/
structure KT where
  P : Program
  w : World
  ct : Nat → Addr
  nm : Nat → List Str
  et : Nat → Addr
  ef : Nat → Option (Str × Str)
abbrev kcm (K : PySem.W.Frag) (T : KT) : KC := ⟨K, T.P, T.w, T.ct, T.nm, T.et, T.ef⟩
/-- a heap behind an error, and where the error's own dict lies (if it has one) -/
abbrev HX := Hp × Option Addr
abbrev xdT (d : Addr) (f x : Str) : Tr := .nd (.xd d f x) .own []
/-- behind an error of the kind C: if it has a field, its own dict lies on top -/
def EnvX (K : KC) (c : Cz) (C : Nat) (σ : St) (H : HX) (Γ s : List Ent) (us : List V) : Prop := match K.ef C with
  | none => H.2 = none ∧ EnvOk K c σ H.1 Γ s us
  | some (f, x) => ∃ d, H.2 = some d ∧ EnvOk K c σ H.1 Γ (.tr (xdT d f x) :: s) (.ref d :: us)
theorem EnvX.imp {K : KC} {c c' : Cz} {C : Nat} {σ σ' : St} {H : HX} {Γ Γ' s s' : List Ent} {us us' : List V} (h : EnvX K c C σ H Γ s us) (f : ∀ H t vs, EnvOk K c σ H Γ (t ++ s) (vs ++ us) → EnvOk K c' σ' H Γ' (t ++ s') (vs ++ us')) : EnvX K c' C σ' H Γ' s' us' := by
  unfold EnvX at h ⊢
  cases e : K.ef C with
  | none =>
    rw [e] at h
    exact ⟨h.1, f H.1 [] [] h.2⟩
  | some p =>
    rw [e] at h
    obtain ⟨d, h1, h2⟩ := h
    exact ⟨d, h1, f H.1 [_] [_] h2⟩
theorem EnvX.mk0 {K : KC} {c : Cz} {C : Nat} {σ : St} {H : Hp} {Γ s : List Ent} {us : List V} (hC : K.ef C = none) (h : EnvOk K c σ H Γ s us) : EnvX K c C σ (H, none) Γ s us := by
  unfold EnvX
  rw [hC]
  exact ⟨rfl, h⟩
theorem EnvX.no {K : KC} {c : Cz} {C : Nat} {σ : St} {H : HX} {Γ s : List Ent} {us : List V} (hC : K.ef C = none) (E : EnvX K c C σ H Γ s us) : H.2 = none ∧ EnvOk K c σ H.1 Γ s us := by
  unfold EnvX at E
  rw [hC] at E
  exact E
structure Ms where
  g : List Ent
  s : List Ent
inductive Rs | ok (m : Ms) | ex (C : Nat) (g : List Ent)
abbrev GE := Ms → Option Rs
def PostE (K : KC) (c : Cz) (W : WX) (σ : St) (us : List V) (Q : VK) : Rs → Prop
  | .ok m' => ∀ v H', EnvOk K c σ H' m'.g m'.s (v :: us) → Q v H'
  | .ex C g' => ∀ H' : HX, EnvX K c C σ H' g' [] [] → W (.ref (K.et C)) H'.2 σ H'.1
def SE (K : KC) (md : List Bool) (W : WX) (t : TE) (g : GE) : Prop := ∀ (c : Cz) (σ : St) (H : Hp) (m : Ms) (us : List V) (Q : VK) (r : Rs), c.md = md → EnvOk K c σ H m.g m.s us → g m = some r → PostE K c W σ us Q r → t σ H Q
def PostA (K : KC) (c : Cz) (W : WX) (σ : St) (us : List V) (n : Nat) (Q : List V → Hp → Prop) : Rs → Prop
  | .ok m' => ∀ vs H', vs.length = n → EnvOk K c σ H' m'.g m'.s (vs.reverse ++ us) → Q vs H'
  | .ex C g' => ∀ H' : HX, EnvX K c C σ H' g' [] [] → W (.ref (K.et C)) H'.2 σ H'.1
def SA (K : KC) (md : List Bool) (W : WX) (n : Nat) (t : TA) (g : GE) : Prop := ∀ (c : Cz) (σ : St) (H : Hp) (m : Ms) (us : List V) (Q : List V → Hp → Prop) (r : Rs), c.md = md → EnvOk K c σ H m.g m.s us → g m = some r → PostA K c W σ us n Q r → t σ H Q
/-- a test leaves a truth value on top -/
def PostT (K : KC) (c : Cz) (W : WX) (σ : St) (us : List V) (Q : Bool → Hp → Prop) : Rs → Prop
  | .ok ⟨g', .tr (.a (.bl b)) :: s'⟩ => ∀ H', EnvOk K c σ H' g' s' us → Q b H'
  | .ok _ => False
  | .ex C g' => ∀ H' : HX, EnvX K c C σ H' g' [] [] → W (.ref (K.et C)) H'.2 σ H'.1
def ST (K : KC) (md : List Bool) (W : WX) (t : TT) (g : GE) : Prop := ∀ (c : Cz) (σ : St) (H : Hp) (m : Ms) (us : List V) (Q : Bool → Hp → Prop) (r : Rs), c.md = md → EnvOk K c σ H m.g m.s us → g m = some r → PostT K c W σ us Q r → t σ H Q
def ME (X : Cx) (T : KT) (md : List Bool) (W : WX) (e : Expr) (g : GE) : Prop := ∃ t, PE X e t ∧ SE (kcm X.K T) md W t g
def MA (X : Cx) (T : KT) (md : List Bool) (W : WX) (es : List Expr) (g : GE) : Prop := ∃ t, PA X es t ∧ SA (kcm X.K T) md W es.length t g
def MT (X : Cx) (T : KT) (md : List Bool) (W : WX) (e : Expr) (g : GE) : Prop := ∃ t, PT X e t ∧ ST (kcm X.K T) md W t g
def MW (X : Cx) (T : KT) (md : List Bool) (W : WX) (e : Expr) (g : GE) : Prop := ∃ t, PW X e t ∧ ST (kcm X.K T) md W t g
def gSeq (a b : GE) : GE := fun m => match a m with
  | some (.ok m') => b m'
  | r => r
/-- what an operation on n values of the stack does -/
def RA (K : KC) (md : List Bool) (W : WX) (n : Nat) (r : St → List V → Hp → VK → Prop) (f : GE) : Prop := ∀ (c : Cz) (σ : St) (H : Hp) (m : Ms) (us vs : List V) (Q : VK) (rr : Rs), c.md = md → vs.length = n → EnvOk K c σ H m.g m.s (vs.reverse ++ us) → f m = some rr → PostE K c W σ us Q rr → r σ vs H Q
abbrev RA2 (K : KC) (md : List Bool) (W : WX) (r : R2) (f : GE) : Prop := RA K md W 2 (fun _ vs H Q => ∃ x y, vs = [x, y] ∧ r x y H Q) f
section
variable {K : KC} {X : Cx} {T : KT} {md : List Bool} {W : WX} {t ta tb : TE} {g ga gb f f' : GE} {e a b : Expr} {es : List Expr} {pos : Pos} {n : Nat} {r r' : R2} {v : V}
theorem RA2.mk (h : ∀ (c : Cz) (σ : St) (H : Hp) (m : Ms) (us : List V) (x y : V) (Q : VK) (rr : Rs), c.md = md → EnvOk K c σ H m.g m.s (y :: x :: us) → f m = some rr → PostE K c W σ us Q rr → r x y H Q) : RA2 K md W r f := by
  intro c σ H m us vs Q rr hc hl E hf hp
  match vs, hl with
  | [x, y], _ => exact ⟨x, y, rfl, h c σ H m us x y Q rr hc E hf hp⟩
theorem RA2.use (h : RA2 K md W r f) {c : Cz} {σ : St} {H : Hp} {m : Ms} {us : List V} {x y : V} {Q : VK} {rr : Rs} (hc : c.md = md) (E : EnvOk K c σ H m.g m.s (y :: x :: us)) (hf : f m = some rr) (hp : PostE K c W σ us Q rr) : r x y H Q := by
  obtain ⟨x', y', e, q⟩ := h c σ H m us [x, y] Q rr hc rfl E hf hp
  cases e
  exact q
theorem se_op (hr : RA2 K md W r f) (ha : SE K md W ta ga) (hb : SE K md W tb gb) : SE K md W (tOp r ta tb) (gSeq (gSeq ga gb) f) := by
  intro c σ H m us Q rr hc E hg hp
  simp only [gSeq] at hg
  cases e1 : ga m with
  | none => simp [e1] at hg
  | some r1 =>
    cases r1 with
    | ex C g' =>
      simp only [e1] at hg
      cases hg
      exact ha c σ H m us _ _ hc E e1 hp
    | ok m1 =>
      simp only [e1] at hg
      refine ha c σ H m us _ _ hc E e1 fun x H1 E1 => ?_
      cases e2 : gb m1 with
      | none => simp [e2] at hg
      | some r2 =>
        cases r2 with
        | ex C g' =>
          simp only [e2] at hg
          cases hg
          exact hb c σ H1 m1 _ _ _ hc E1 e2 hp
        | ok m2 =>
          simp only [e2] at hg
          exact hb c σ H1 m1 _ _ _ hc E1 e2 fun y H2 E2 => hr.use hc E2 hg hp
theorem OpR.or {f : Value → Value → Sem Value} (h : OpR X f r) (h' : OpR X f r') : OpR X f (fun x y H Q => r x y H Q ∨ r' x y H Q) := by
  intro pins s σ H x y v u Q I rx ry q
  rcases q with q | q
  · exact h pins s σ H x y v u Q I rx ry q
  · exact h' pins s σ H x y v u Q I rx ry q
def gOr (f f' : GE) : GE := fun m => match f m with
  | none => f' m
  | r => r
theorem RA2.or (h : RA2 K md W r f) (h' : RA2 K md W r' f') : RA2 K md W (fun x y H Q => r x y H Q ∨ r' x y H Q) (gOr f f') := by
  refine .mk fun c σ H m us x y Q rr hc E hf hp => ?_
  simp only [gOr] at hf
  cases e1 : f m with
  | none =>
    simp only [e1] at hf
    exact .inr (h'.use hc E hf hp)
  | some r1 =>
    simp only [e1] at hf
    exact .inl (h.use hc E (by rw [e1]; exact hf) hp)
/-- an operation that looks at two things and gives a plain value -/
def fP2 (F : Tr → Tr → Option V) : GE := fun m => match m.s with
  | y :: x :: s => match viewE m.g x, viewE m.g y with
    | some tx, some ty => match F tx ty with
      | some v => some (.ok ⟨m.g, .tr (.a v) :: s⟩)
      | none => none
    | _, _ => none
  | _ => none
theorem fP2_ok {F : Tr → Tr → Option V} (hF : ∀ (Z : Zn) (H : Hp) (x y : V) (tx ty : Tr) (u : V) (Φ Ψ : Ps) (Q : VK), Rep K Z H .own tx x Φ → Rep K Z H .own ty y Ψ → F tx ty = some u → Q u H → r x y H Q) : RA2 K md W r (fP2 F) := by
  refine .mk fun c σ H m us x y Q rr hc E hf hp => ?_
  simp only [fP2] at hf
  split at hf
  · rename_i ey ex s hs
    split at hf
    · rename_i tx ty h1 h2
      split at hf
      · rename_i u hu
        cases hf
        rw [hs] at E
        obtain ⟨Z, ws, Φ, Ψ, EE⟩ := id E
        obtain ⟨Θ1, r1⟩ := EE.view (n := 1) rfl rfl h1
        obtain ⟨Θ2, r2⟩ := EE.view (n := 0) rfl rfl h2
        exact hF Z H x y tx ty u Θ1 Θ2 Q r1 r2 hu (hp u H (E.drop.drop.atom u))
      · cases hf
    · cases hf
  · cases hf
/-- the same of one thing -/
def fP1 (F : Tr → Option V) : GE := fun m => match m.s with
  | x :: s => match viewE m.g x with
    | some tx => match F tx with
      | some v => some (.ok ⟨m.g, .tr (.a v) :: s⟩)
      | none => none
    | _ => none
  | _ => none
theorem fP1_ok {F : Tr → Option V} {r : St → List V → Hp → VK → Prop} (hF : ∀ (σ : St) (Z : Zn) (H : Hp) (x : V) (tx : Tr) (u : V) (Φ : Ps) (Q : VK), Rep K Z H .own tx x Φ → F tx = some u → Q u H → r σ [x] H Q) : RA K md W 1 r (fP1 F) := by
  intro c σ H m us vs Q rr hc hl E hf hp
  match vs, hl with
  | [x], _ =>
    simp only [fP1] at hf
    split at hf
    · rename_i ex s hs
      split at hf
      · rename_i tx h1
        split at hf
        · rename_i u hu
          cases hf
          rw [hs] at E
          obtain ⟨Z, ws, Φ, Ψ, EE⟩ := id E
          obtain ⟨Θ1, r1⟩ := EE.view (n := 0) rfl rfl h1
          exact hF σ Z H x tx u Θ1 Q r1 hu (hp u H (E.drop.atom u))
        · cases hf
      · cases hf
    · cases hf
def gC (v : V) : GE := fun m => some (.ok ⟨m.g, .tr (.a v) :: m.s⟩)
theorem se_c : SE K md W (tC v) (gC v) := by
  intro c σ H m us Q rr hc E hg hp
  cases hg
  exact hp v H (E.atom v)
theorem me_c (h : PE X e (tC v)) : ME X T md W e (gC v) := ⟨_, h, se_c⟩
def gVar (i : Nat) : GE := fun m => match m.g[i]? with
  | some (.tr t) => if cp t = true then some (.ok ⟨m.g, .tr t :: m.s⟩) else some (.ok ⟨m.g, .al [i] :: m.s⟩)
  | some (.al p) => some (.ok ⟨m.g, .al p :: m.s⟩)
  | _ => none
theorem se_var {i : Nat} : SE K md W (tVar i) (gVar i) := by
  intro c σ H m us Q rr hc E hg hp
  simp only [gVar] at hg
  split at hg
  · rename_i t ht
    by_cases h : cp t = true
    · rw [if_pos h] at hg
      cases hg
      obtain ⟨v, h1, E1⟩ := E.var ht h
      exact ⟨v, h1, hp v H E1⟩
    · rw [if_neg h] at hg
      cases hg
      obtain ⟨v, h1, E1⟩ := E.varP ht
      exact ⟨v, h1, hp v H E1⟩
  · rename_i p ht
    cases hg
    obtain ⟨v, h1, E1⟩ := E.varA ht
    exact ⟨v, h1, hp v H E1⟩
  · cases hg
theorem me_var {i : Nat} (h : PE X e (tVar i)) : ME X T md W e (gVar i) := ⟨_, h, se_var⟩
theorem me_bin {op : Operator} (ho : OpR X (binaryOp op) r) (hf : RA2 (kcm X.K T) md W r f) (ha : ME X T md W a ga) (hb : ME X T md W b gb) : ME X T md W (.BinOp a op b pos) (gSeq (gSeq ga gb) f) := by
  obtain ⟨ta, pa, sa⟩ := ha
  obtain ⟨tb, pb, sb⟩ := hb
  exact ⟨_, pe_op ho pa pb, se_op hf sa sb⟩
theorem me_cmp {op : CmpOp} (ho : OpR X (compareOp op) r) (hf : RA2 (kcm X.K T) md W r f) (ha : ME X T md W a ga) (hb : ME X T md W b gb) (hm : behindInMarks op b = false) : ME X T md W (.Compare a [op] [b] pos) (gSeq (gSeq ga gb) f) := by
  obtain ⟨ta, pa, sa⟩ := ha
  obtain ⟨tb, pb, sb⟩ := hb
  exact ⟨_, pe_cmpR ho pa pb hm, se_op hf sa sb⟩
theorem me_ix (ho : IxR X r) (hf : RA2 (kcm X.K T) md W r f) (ha : ME X T md W a ga) (hb : ME X T md W b gb) (hs : PlainIx b) : ME X T md W (.Subscript a b pos) (gSeq (gSeq ga gb) f) := by
  obtain ⟨ta, pa, sa⟩ := ha
  obtain ⟨tb, pb, sb⟩ := hb
  exact ⟨_, pe_ix ho pa pb hs, se_op hf sa sb⟩
/-! tests -/
theorem st_of (hs : SE K md W t g) : ST K md W (fun σ H Q => t σ H fun x H' => ∃ k, x = .bl k ∧ Q k H') g := by
  intro c σ H m us Q rr hc E hg hp
  refine hs c σ H m us _ rr hc E hg ?_
  cases rr with
  | ex C g' => exact hp
  | ok m' =>
    intro v H' E'
    obtain ⟨g', s'⟩ := m'
    match s', hp with
    | .tr (.a (.bl b)) :: s', hp =>
      obtain ⟨Z, ws, Φ, Ψ, EE⟩ := id E'
      obtain ⟨Θ1, r1⟩ := EE.view (n := 0) (e := .tr (.a (.bl b))) rfl rfl rfl
      obtain ⟨rfl, _⟩ := r1
      exact ⟨b, rfl, hp H' E'.drop⟩
theorem mt_val (h : ME X T md W e g) (he : ∀ whole, isTrue e X.env whole = (do let v ← whole; standAt e.pos; holding [v] (truthy v)) := by intro _; rfl) : MT X T md W e g := by
  obtain ⟨t, p, s⟩ := h
  exact ⟨_, pt_val p he, st_of s⟩
theorem mt_cmp {op : CmpOp} (ho : OpR X (compareOp op) r) (hf : RA2 (kcm X.K T) md W r f) (ha : ME X T md W a ga) (hb : ME X T md W b gb) (hm : behindInMarks op b = false) : MT X T md W (.Compare a [op] [b] pos) (gSeq (gSeq ga gb) f) := by
  obtain ⟨ta, pa, sa⟩ := ha
  obtain ⟨tb, pb, sb⟩ := hb
  exact ⟨_, pt_cmpR ho pa pb hm, st_of (se_op hf sa sb)⟩
def gNot (g : GE) : GE := fun m => match g m with
  | some (.ok ⟨g', .tr (.a (.bl b)) :: s'⟩) => some (.ok ⟨g', .tr (.a (.bl (!b))) :: s'⟩)
  | some (.ex C g') => some (.ex C g')
  | _ => none
theorem st_not {t : TT} (hs : ST K md W t g) : ST K md W (tNot t) (gNot g) := by
  intro c σ H m us Q rr hc E hg hp
  simp only [gNot] at hg
  split at hg
  · rename_i g' b s' h1
    cases hg
    exact hs c σ H m us _ _ hc E h1 hp
  · rename_i C g' h1
    cases hg
    exact hs c σ H m us _ _ hc E h1 hp
  · cases hg
theorem mt_not (h : MT X T md W e g) : MT X T md W (.UnaryOp .Not e pos) (gNot g) := by
  obtain ⟨t, p, s⟩ := h
  exact ⟨_, pt_not p, st_not s⟩
def gAnd (g h : GE) : GE := fun m => match g m with
  | some (.ok ⟨g', .tr (.a (.bl true)) :: s'⟩) => h ⟨g', s'⟩
  | some (.ok ⟨g', .tr (.a (.bl false)) :: s'⟩) => some (.ok ⟨g', .tr (.a (.bl false)) :: s'⟩)
  | some (.ex C g') => some (.ex C g')
  | _ => none
def gOrB (g h : GE) : GE := fun m => match g m with
  | some (.ok ⟨g', .tr (.a (.bl false)) :: s'⟩) => h ⟨g', s'⟩
  | some (.ok ⟨g', .tr (.a (.bl true)) :: s'⟩) => some (.ok ⟨g', .tr (.a (.bl true)) :: s'⟩)
  | some (.ex C g') => some (.ex C g')
  | _ => none
theorem top_bl {c : Cz} {σ : St} {H : Hp} {g' s' : List Ent} {x : V} {us : List V} {b : Bool} (E : EnvOk K c σ H g' (.tr (.a (.bl b)) :: s') (x :: us)) : x = .bl b := by
  obtain ⟨Z, ws, Φ, Ψ, EE⟩ := E
  obtain ⟨Θ1, r1⟩ := EE.view (n := 0) (e := .tr (.a (.bl b))) rfl rfl rfl
  exact r1.1
theorem st_and {t u : TT} {h : GE} (hs : ST K md W t g) (hu : ST K md W u h) : ST K md W (tAnd t u) (gAnd g h) := by
  intro c σ H m us Q rr hc E hg hp
  simp only [gAnd] at hg
  split at hg
  · rename_i g' s' h1
    exact hs c σ H m us _ _ hc E h1 fun H' E' => iteT (hu c σ H' _ us _ _ hc E' hg hp)
  · rename_i g' s' h1
    cases hg
    exact hs c σ H m us _ _ hc E h1 fun H' E' => iteF (hp H' E')
  · rename_i C g' h1
    cases hg
    exact hs c σ H m us _ _ hc E h1 hp
  · cases hg
theorem st_or {t u : TT} {h : GE} (hs : ST K md W t g) (hu : ST K md W u h) : ST K md W (tOr t u) (gOrB g h) := by
  intro c σ H m us Q rr hc E hg hp
  simp only [gOrB] at hg
  split at hg
  · rename_i g' s' h1
    exact hs c σ H m us _ _ hc E h1 fun H' E' => iteF (hu c σ H' _ us _ _ hc E' hg hp)
  · rename_i g' s' h1
    cases hg
    exact hs c σ H m us _ _ hc E h1 fun H' E' => iteT (hp H' E')
  · rename_i C g' h1
    cases hg
    exact hs c σ H m us _ _ hc E h1 hp
  · cases hg
theorem se_and {h : GE} (hs : SE K md W ta g) (hu : SE K md W tb h) : SE K md W (tAndV ta tb) (gAnd g h) := by
  intro c σ H m us Q rr hc E hg hp
  simp only [gAnd] at hg
  split at hg
  · rename_i g' s' h1
    exact hs c σ H m us _ _ hc E h1 fun x H' E' => ⟨true, top_bl E', iteT (hu c σ H' _ us _ _ hc E'.drop hg hp)⟩
  · rename_i g' s' h1
    cases hg
    exact hs c σ H m us _ _ hc E h1 fun x H' E' => ⟨false, top_bl E', iteF (hp _ H' (top_bl E' ▸ E'))⟩
  · rename_i C g' h1
    cases hg
    exact hs c σ H m us _ _ hc E h1 hp
  · cases hg
theorem se_or {h : GE} (hs : SE K md W ta g) (hu : SE K md W tb h) : SE K md W (tOrV ta tb) (gOrB g h) := by
  intro c σ H m us Q rr hc E hg hp
  simp only [gOrB] at hg
  split at hg
  · rename_i g' s' h1
    exact hs c σ H m us _ _ hc E h1 fun x H' E' => ⟨false, top_bl E', iteF (hu c σ H' _ us _ _ hc E'.drop hg hp)⟩
  · rename_i g' s' h1
    cases hg
    exact hs c σ H m us _ _ hc E h1 fun x H' E' => ⟨true, top_bl E', iteT (hp _ H' (top_bl E' ▸ E'))⟩
  · rename_i C g' h1
    cases hg
    exact hs c σ H m us _ _ hc E h1 hp
  · cases hg
theorem se_not (hs : SE K md W ta g) : SE K md W (tNotV ta) (gNot g) := by
  intro c σ H m us Q rr hc E hg hp
  simp only [gNot] at hg
  split at hg
  · rename_i g' b s' h1
    cases hg
    exact hs c σ H m us _ _ hc E h1 fun x H' E' => ⟨b, top_bl E', hp _ H' (E'.drop.atom _)⟩
  · rename_i C g' h1
    cases hg
    exact hs c σ H m us _ _ hc E h1 hp
  · cases hg
theorem me_one {op : BoolOp} (h : ME X T md W a g) : ME X T md W (.BoolOp op [a] pos) g := by
  obtain ⟨t, p, s⟩ := h
  exact ⟨_, pe_one p, s⟩
theorem me_and {h : GE} {rest : List Expr} (ha : ME X T md W a g) (hb : ME X T md W (.BoolOp .And (b :: rest) pos) h) : ME X T md W (.BoolOp .And (a :: b :: rest) pos) (gAnd g h) := by
  obtain ⟨t, p, s⟩ := ha
  obtain ⟨t', p', s'⟩ := hb
  exact ⟨_, pe_and p p', se_and s s'⟩
theorem me_or {h : GE} {rest : List Expr} (ha : ME X T md W a g) (hb : ME X T md W (.BoolOp .Or (b :: rest) pos) h) : ME X T md W (.BoolOp .Or (a :: b :: rest) pos) (gOrB g h) := by
  obtain ⟨t, p, s⟩ := ha
  obtain ⟨t', p', s'⟩ := hb
  exact ⟨_, pe_or p p', se_or s s'⟩
theorem me_not (h : ME X T md W a g) : ME X T md W (.UnaryOp .Not a pos) (gNot g) := by
  obtain ⟨t, p, s⟩ := h
  exact ⟨_, pe_not p, se_not s⟩
def gIf (c g h : GE) : GE := fun m => match c m with
  | some (.ok ⟨g', .tr (.a (.bl true)) :: s'⟩) => g ⟨g', s'⟩
  | some (.ok ⟨g', .tr (.a (.bl false)) :: s'⟩) => h ⟨g', s'⟩
  | some (.ex C g') => some (.ex C g')
  | _ => none
theorem mw_and1 (h : MT X T md W a g) : MW X T md W (.BoolOp .And [a] pos) g := by
  obtain ⟨t, p, s⟩ := h
  exact ⟨_, pw_and1 p, s⟩
theorem mw_or1 (h : MT X T md W a g) : MW X T md W (.BoolOp .Or [a] pos) g := by
  obtain ⟨t, p, s⟩ := h
  exact ⟨_, pw_or1 p, s⟩
theorem mw_and {h : GE} {rest : List Expr} (ha : MT X T md W a g) (hb : MW X T md W (.BoolOp .And (b :: rest) pos) h) : MW X T md W (.BoolOp .And (a :: b :: rest) pos) (gAnd g h) := by
  obtain ⟨t, p, s⟩ := ha
  obtain ⟨t', p', s'⟩ := hb
  exact ⟨_, pw_and p p', st_and s s'⟩
theorem mw_or {h : GE} {rest : List Expr} (ha : MT X T md W a g) (hb : MW X T md W (.BoolOp .Or (b :: rest) pos) h) : MW X T md W (.BoolOp .Or (a :: b :: rest) pos) (gOrB g h) := by
  obtain ⟨t, p, s⟩ := ha
  obtain ⟨t', p', s'⟩ := hb
  exact ⟨_, pw_or p p', st_or s s'⟩
theorem mw_pt (h : MW X T md W e g) : MT X T md W e g := by
  obtain ⟨t, p, s⟩ := h
  exact ⟨_, PW.pt p, s⟩
end
section
variable {K : KC} {X : Cx} {T : KT} {md : List Bool} {W : WX} {t ta tb : TE} {g ga gb f f' : GE} {e a b : Expr} {es : List Expr} {pos : Pos} {n : Nat} {r r' : R2} {v : V}
/-! arguments, displays -/
def gNil : GE := fun m => some (.ok m)
theorem ma_nil : MA X T md W [] gNil := ⟨_, pa_nil, fun c σ H m us Q rr hc E hg hp => by
  cases hg
  exact hp [] H rfl E⟩
theorem ma_cons (ha : ME X T md W e g) (hr : MA X T md W es f) (hs : starEach (e :: es) X.env = (false, eval e X.env) :: starEach es X.env := by rfl) : MA X T md W (e :: es) (gSeq g f) := by
  obtain ⟨t, p, s⟩ := ha
  obtain ⟨t', p', s'⟩ := hr
  refine ⟨_, pa_cons p p' hs, fun c σ H m us Q rr hc E hg hp => ?_⟩
  simp only [gSeq] at hg
  split at hg
  · rename_i m1 h1
    refine s c σ H m us _ _ hc E h1 fun x H1 E1 => s' c σ H1 m1 _ _ _ hc E1 hg ?_
    cases rr with
    | ex C g' => exact hp
    | ok m2 => exact fun vs H2 hl E2 => hp (x :: vs) H2 (by simp [hl]) (by simpa using E2)
  · rename_i h1
    refine s c σ H m us _ _ hc E hg ?_
    cases rr with
    | ex C g' => exact hp
    | ok m2 => exact absurd hg (h1 m2)
def popN : Nat → List Ent → Option (List Tr × List Ent)
  | 0, s => some ([], s)
  | n + 1, .tr t :: s => match popN n s with
    | some (ts, s') => some (ts ++ [t], s')
    | none => none
  | _, _ => none
theorem popN_eq : ∀ {n : Nat} {s s' : List Ent} {ts : List Tr}, popN n s = some (ts, s') → s = ts.reverse.map Ent.tr ++ s' ∧ ts.length = n
  | 0, s, s', ts, h => by
    simp only [popN] at h
    cases h
    exact ⟨rfl, rfl⟩
  | n + 1, s, s', ts, h => by
    match s, h with
    | .tr t :: s, h =>
      simp only [popN] at h
      split at h
      · rename_i ts1 s1 h1
        cases h
        obtain ⟨rfl, rfl⟩ := popN_eq h1
        exact ⟨by simp, by simp⟩
      · cases h
/-- a new object of the n values on top -/
def fNew (k : Nk) (n : Nat) : GE := fun m => match popN n m.s with
  | some (ts, s') => match mkN k ts with
    | some t => some (.ok ⟨m.g, .tr t :: s'⟩)
    | none => none
  | none => none
theorem fNew_ok {c : Cz} {σ : St} {H : Hp} {m : Ms} {us vs : List V} {Q : VK} {rr : Rs} {k : Nk} {ob : HO} (E : EnvOk K c σ H m.g m.s (vs.reverse ++ us)) (hl : vs.length = n) (hf : fNew k n m = some rr) (hp : PostE K c W σ us Q rr) (ho : ∀ o pa, ObjAt K k o (upd H pa ob) pa vs) : ∀ pa, H pa = none → Q (.ref pa) (upd H pa ob) := by
  intro pa np
  simp only [fNew] at hf
  split at hf
  · rename_i ts s' h1
    split at hf
    · rename_i t h2
      cases hf
      obtain ⟨e1, e2⟩ := popN_eq h1
      rw [e1] at E
      exact hp _ _ (E.new (by omega) np h2 fun o => ho o pa)
    · cases hf
  · cases hf
theorem me_lst (h : MA X T md W es g) (hl : es.length ≤ sizeLine) : ME X T md W (.List es pos) (gSeq g (fNew .lst es.length)) := by
  obtain ⟨t, p, s⟩ := h
  refine ⟨_, pe_lst p, fun c σ H m us Q rr hc E hg hp => ?_⟩
  simp only [gSeq] at hg
  split at hg
  · rename_i m1 h1
    exact s c σ H m us _ _ hc E h1 fun vs H1 hv E1 => ⟨by omega, fNew_ok E1 hv hg hp fun o pa => upd_same⟩
  · rename_i h1
    refine s c σ H m us _ _ hc E hg ?_
    cases rr with
    | ex C g' => exact hp
    | ok m2 => exact absurd hg (h1 m2)
theorem me_tup {x1 : Nat} (h : MA X T md W es g) (hl : es.length ≤ sizeLine) : ME X T md W (.Tuple es x1 pos) (gSeq g (fNew .tup es.length)) := by
  obtain ⟨t, p, s⟩ := h
  refine ⟨_, pe_tup p, fun c σ H m us Q rr hc E hg hp => ?_⟩
  simp only [gSeq] at hg
  split at hg
  · rename_i m1 h1
    exact s c σ H m us _ _ hc E h1 fun vs H1 hv E1 => ⟨by omega, fNew_ok E1 hv hg hp fun o pa => .inl upd_same⟩
  · rename_i h1
    refine s c σ H m us _ _ hc E hg ?_
    cases rr with
    | ex C g' => exact hp
    | ok m2 => exact absurd hg (h1 m2)
/-! a thing is handed on: what a name held alone goes out of it -/
def fMv (md : List Bool) : GE := fun m => match m.s with
  | .tr t :: s => some (.ok ⟨m.g, .tr t :: s⟩)
  | .al [j] :: s => if md.getD j false = true then none else match m.g[j]? with
    | some (.tr t) => some (.ok ⟨kill [j] (m.g.set j (.tr .any)), .tr t :: kill [j] s⟩)
    | _ => none
  | _ => none
theorem EnvOk.drop2 {c : Cz} {σ : St} {H : Hp} {Γ τ : List Ent} {tr : Tr} {p : List Nat} {us : List V} {x y : V} (E : EnvOk K c σ H Γ (.tr tr :: .al p :: τ) (x :: y :: us)) : EnvOk K c σ H Γ (.tr tr :: τ) (x :: us) := by
  obtain ⟨Z, ws, Φ, Ψ, EE⟩ := E
  refine EE.swapE (τ1 := [.tr tr, .al p]) (us1 := [x, y]) (τ1' := [.tr tr]) (us1' := [x]) rfl (by simp) (fun Ψ1 r zo => ?_) rfl
  have hs := RepL.isS _ r
  obtain ⟨v0, vs0, Θ1, Θ2, e1, a1, a2, ad, au⟩ := r
  cases e1
  exact ⟨Z, Θ1, ⟨x, [], Θ1, fun _ => False, rfl, a1, ⟨rfl, fun _ h => h⟩, by simp, by simp⟩, .same _ _ _ EE.zs hs _ fun b q => ⟨(au b).mpr (.inl q), zo b ((au b).mpr (.inl q))⟩⟩
theorem fMv_ok {c : Cz} {σ : St} {H : Hp} {m m' : Ms} {us : List V} {x : V} (E : EnvOk K c σ H m.g m.s (x :: us)) (hf : fMv md m = some (.ok m')) : EnvOk K c σ H m'.g m'.s (x :: us) := by
  simp only [fMv] at hf
  split at hf
  · rename_i t s hs
    cases hf
    rw [hs] at E
    exact E
  · rename_i j s hs
    split at hf
    · cases hf
    · split at hf
      · rename_i t ht
        cases hf
        rw [hs] at E
        have := EnvOk.drop2 (E.ext (t := t) (by simp [getG, ht, getT]))
        simpa [setG, ht, setT] using this
      · cases hf
  · cases hf
theorem fMv_ex {m : Ms} {C : Nat} {g' : List Ent} : fMv md m ≠ some (.ex C g') := by
  intro h
  simp only [fMv] at h
  split at h
  · cases h
  · split at h
    · cases h
    · split at h <;> cases h
  · cases h
theorem me_mv (h : ME X T md W e g) : ME X T md W e (gSeq g (fMv md)) := by
  obtain ⟨t, p, s⟩ := h
  refine ⟨_, p, fun c σ H m us Q rr hc E hg hp => ?_⟩
  simp only [gSeq] at hg
  split at hg
  · rename_i m1 h1
    cases rr with
    | ex C g' => exact absurd hg fMv_ex
    | ok m2 => exact s c σ H m us _ _ hc E h1 fun x H1 E1 => hp x H1 (fMv_ok E1 hg)
  · rename_i h1
    refine s c σ H m us _ _ hc E hg ?_
    cases rr with
    | ex C g' => exact hp
    | ok m2 => exact absurd hg (h1 m2)
/-- what is on top is never changed any more -/
def fFrz : GE := fun m => match m.s with
  | .tr t :: s => if esc t = true then some (.ok ⟨m.g, .tr (kid .frz t) :: s⟩) else none
  | _ => none
theorem me_frz (h : ME X T md W e g) : ME X T md W e (gSeq g fFrz) := by
  obtain ⟨t, p, s⟩ := h
  refine ⟨_, p, fun c σ H m us Q rr hc E hg hp => ?_⟩
  simp only [gSeq] at hg
  split at hg
  · rename_i m1 h1
    simp only [fFrz] at hg
    split at hg
    · rename_i t s1 hs
      split at hg
      · rename_i he
        cases hg
        exact s c σ H m us _ _ hc E h1 fun x H1 E1 => hp x H1 (EnvOk.freeze (hs ▸ E1) he)
      · cases hg
    · cases hg
  · rename_i h1
    refine s c σ H m us _ _ hc E hg ?_
    cases rr with
    | ex C g' => exact hp
    | ok m2 => exact absurd hg (h1 m2)
/-! fields -/
theorem lookup_zip {f : Str} : ∀ {ns : List Str} {vs : List V} {j : Nat}, ns.idxOf? f = some j → ns.length = vs.length → (ns.zip vs).lookup f = vs[j]?
  | [], _, _, h, _ => by simp at h
  | n :: ns, [], _, _, l => by simp at l
  | n :: ns, v :: vs, j, h, l => by
    rw [List.idxOf?_cons] at h
    rw [List.zip_cons_cons, List.lookup_cons]
    by_cases e : n = f
    · subst e
      simp at h
      subst h
      simp
    · have e1 : (n == f) = false := by simpa using e
      have e2 : (f == n) = false := by simpa using fun q : f = n => e q.symm
      rw [e1] at h
      simp only [Bool.false_eq_true, if_false, Option.map_eq_some_iff] at h
      obtain ⟨j', h1, rfl⟩ := h
      rw [e2]
      simpa using lookup_zip h1 (by simpa using l)
theorem idx_take {f : Str} : ∀ {ns : List Str} {j k : Nat}, ns.idxOf? f = some j → j < k → (ns.take k).idxOf? f = some j
  | [], _, _, h, _ => by simp at h
  | n :: ns, j, 0, h, l => by omega
  | n :: ns, j, k + 1, h, l => by
    rw [List.take_succ_cons]
    rw [List.idxOf?_cons] at h ⊢
    by_cases e : (n == f) = true
    · rw [if_pos e] at h ⊢
      exact h
    · rw [if_neg e] at h ⊢
      simp only [Option.map_eq_some_iff] at h ⊢
      obtain ⟨j', h1, rfl⟩ := h
      exact ⟨j', idx_take h1 (by omega), rfl⟩
/-- the classes that have a field f, with its place -/
def FldOk (K : PySem.W.Frag) (T : KT) (f : Str) (tab : List (Nat × Nat)) : Prop := ∀ n j, (n, j) ∈ tab → Cls K (T.ct n) ∧ NoAttr K (T.ct n) f ∧ (T.nm n).idxOf? f = some j
def fFld (tab : List (Nat × Nat)) : GE := fun m => match m.s with
  | e :: s => match viewE m.g e with
    | some (.nd (.ins n k) o ts) => match tab.lookup n with
      | some j => match kidE e (.ins n k) o ts j with
        | some e' => some (.ok ⟨m.g, e' :: s⟩)
        | none => none
      | none => none
    | _ => none
  | _ => none
theorem mem_lookup {α : Type} : ∀ {tab : List (Nat × α)} {n : Nat} {j : α}, tab.lookup n = some j → (n, j) ∈ tab
  | [], _, _, h => by simp at h
  | (n', j') :: tab, n, j, h => by
    rw [List.lookup_cons] at h
    by_cases e : (n == n') = true
    · rw [e] at h
      simp only [Option.some.injEq] at h
      have : n = n' := by simpa using e
      subst this h
      exact List.mem_cons_self
    · have e : (n == n') = false := by simpa using e
      rw [e] at h
      exact List.mem_cons_of_mem _ (mem_lookup h)
theorem me_fld {fl : Str} {tab : List (Nat × Nat)} (h : ME X T md W e g) (ht : FldOk X.K T fl tab) (hb : attributeBase e fl X.env (eval e X.env) = eval e X.env := by rfl) : ME X T md W (.Attribute e fl pos) (gSeq g (fFld tab)) := by
  obtain ⟨t, p, s⟩ := h
  refine ⟨_, pe_fld p hb, fun c σ H m us Q rr hc E hg hp => ?_⟩
  simp only [gSeq] at hg
  split at hg
  · rename_i m1 h1
    refine s c σ H m us _ _ hc E h1 fun x H1 E1 => ?_
    simp only [fFld] at hg
    split at hg
    · rename_i en s1 hs
      split at hg
      · rename_i nn k o ts hv
        split at hg
        · rename_i j hj
          split at hg
          · rename_i e' hk
            cases hg
            rw [hs] at E1
            obtain ⟨ad, vs, w', rfl, ho, hl, hw, E2⟩ := E1.kidOf hv hk
            obtain ⟨l, dx, ho⟩ := ho
            obtain ⟨c1, c2, c3⟩ := ht nn j (mem_lookup hj)
            have hjk : j < k := by
              have h1 := getq_lt' hw
              have h2 : ((T.nm nn).take k).length = vs.length := l
              rw [List.length_take] at h2
              omega
            refine ⟨ad, T.ct nn, dx, _, w', rfl, ho, c1, c2, ?_, hp w' H1 E2⟩
            rw [lookup_zip (idx_take c3 hjk) l]
            exact hw
          · cases hg
        · cases hg
      · cases hg
    · cases hg
  · rename_i h1
    refine s c σ H m us _ _ hc E hg ?_
    cases rr with
    | ex C g' => exact hp
    | ok m2 => exact absurd hg (h1 m2)
/-! subscripts of lists and tuples -/
def fIx : GE := fun m => match m.s with
  | .tr (.a (.int i)) :: e :: s => match viewE m.g e with
    | some (.nd .lst o ts) => match ixN ts.length i with
      | some j => match kidE e .lst o ts j with
        | some e' => some (.ok ⟨m.g, e' :: s⟩)
        | none => none
      | none => none
    | some (.nd .tup o ts) => match ixN ts.length i with
      | some j => match kidE e .tup o ts j with
        | some e' => some (.ok ⟨m.g, e' :: s⟩)
        | none => none
      | none => none
    | _ => none
  | _ => none
theorem objL {H : Hp} {ad : Addr} {vs : List V} {o : Ow} (h : ObjAt K .lst o H ad vs) : SqL K.K H ad vs := .inl (.inl h)
theorem objT {H : Hp} {ad : Addr} {vs : List V} {o : Ow} (h : ObjAt K .tup o H ad vs) : SqT K.K H ad vs := by
  rcases h with h | (h | ⟨_, h⟩) | h
  · exact .inl (.inl h)
  · cases h
  · cases h
  · exact .inr h
theorem top_a {c : Cz} {σ : St} {H : Hp} {g' s' : List Ent} {x u : V} {us : List V} (E : EnvOk K c σ H g' (.tr (.a u) :: s') (x :: us)) : x = u := by
  obtain ⟨Z, ws, Φ, Ψ, EE⟩ := E
  obtain ⟨Θ1, r1⟩ := EE.view (n := 0) (e := .tr (.a u)) rfl rfl rfl
  exact r1.1
theorem fIx_ok : RA2 K md W (fun x y H Q => rIxL K.K x y H Q ∨ rIxT K.K x y H Q) fIx := by
  refine .mk fun c σ H m us x y Q rr hc E hf hp => ?_
  simp only [fIx] at hf
  split at hf
  · rename_i i e s hs
    rw [hs] at E
    have ey := top_a E
    subst ey
    have E1 := E.drop
    split at hf
    · rename_i o ts hv
      split at hf
      · rename_i j hj
        split at hf
        · rename_i e' hk
          cases hf
          obtain ⟨ad, vs, w', rfl, ho, hl, hw, E2⟩ := E1.kidOf hv hk
          refine .inl ⟨ad, vs, i, w', rfl, rfl, objL ho, ?_, hp w' H E2⟩
          unfold atI
          rw [← hl, hj]
          exact hw
        · cases hf
      · cases hf
    · rename_i o ts hv
      split at hf
      · rename_i j hj
        split at hf
        · rename_i e' hk
          cases hf
          obtain ⟨ad, vs, w', rfl, ho, hl, hw, E2⟩ := E1.kidOf hv hk
          refine .inr ⟨ad, vs, i, w', rfl, rfl, objT ho, ?_, hp w' H E2⟩
          unfold atI
          rw [← hl, hj]
          exact hw
        · cases hf
      · cases hf
    · cases hf
  · cases hf
end
section
variable {K : KC} {X : Cx} {T : KT} {md : List Bool} {W : WX} {t ta tb : TE} {g ga gb f f' : GE} {e a b : Expr} {es : List Expr} {pos : Pos} {n : Nat} {r r' : R2} {v : V}
/-! numbers -/
def FI (C : Int → Int → Bool) (h : Int → Int → V) : Tr → Tr → Option V
  | .a (.int i), .a (.int j) => if C i j = true then some (h i j) else none
  | _, _ => none
def cT : Int → Int → Bool := fun _ _ => true
theorem FI_eq {C : Int → Int → Bool} {h : Int → Int → V} {tx ty : Tr} {u : V} (e : FI C h tx ty = some u) : ∃ i j, tx = .a (.int i) ∧ ty = .a (.int j) ∧ C i j = true ∧ u = h i j := by
  unfold FI at e
  split at e
  · rename_i i j
    split at e
    · rename_i hc
      exact ⟨i, j, rfl, rfl, hc, (Option.some.inj e).symm⟩
    · cases e
  · cases e
theorem fI_ok0 {h : Int → Int → V} : RA2 K md W (rI0 h) (fP2 (FI cT h)) := fP2_ok fun Z H x y tx ty u Φ Ψ Q r1 r2 e q => by
  obtain ⟨i, j, rfl, rfl, _, rfl⟩ := FI_eq e
  exact ⟨i, j, r1.1, r2.1, q⟩
theorem fI_ok {C : Int → Int → Bool} {P : Int → Int → Prop} {h : Int → Int → V} (hC : ∀ i j, C i j = true → P i j) : RA2 K md W (rI P h) (fP2 (FI C h)) := fP2_ok fun Z H x y tx ty u Φ Ψ Q r1 r2 e q => by
  obtain ⟨i, j, rfl, rfl, hc, rfl⟩ := FI_eq e
  exact ⟨i, j, r1.1, r2.1, hC i j hc, q⟩
def FS : Tr → Tr → Option V
  | .a (.str i), .a (.str j) => if i.length + j.length ≤ sizeLine then some (.str (i ++ j)) else none
  | _, _ => none
theorem fS_ok : RA2 K md W (fun x y H Q => ∃ i j, x = .str i ∧ y = .str j ∧ i.length + j.length ≤ sizeLine ∧ Q (.str (i ++ j)) H) (fP2 FS) := fP2_ok fun Z H x y tx ty u Φ Ψ Q r1 r2 e q => by
  unfold FS at e
  split at e
  · split at e
    · rename_i i j hc
      cases e
      exact ⟨i, j, r1.1, r2.1, hc, q⟩
    · cases e
  · cases e
/-! lists: + and * -/
/-- the items of a list that is read, to be put into a new one -/
def itemsE (e : Ent) (o : Ow) (ts : List Tr) : Option (List Tr) := match e with
  | .tr _ => some (ts.map (kid o))
  | _ => if cpL (ts.map (kid o)) = true then some (ts.map (kid o)) else none
def fCat : GE := fun m => match m.s with
  | y :: x :: s => match viewE m.g x, viewE m.g y with
    | some (.nd .lst o ts), some (.nd .lst o' us) => match itemsE x o ts, itemsE y o' us with
      | some ts', some us' => if ts.length + us.length ≤ sizeLine then match mkN .lst (ts' ++ us') with
          | some t => some (.ok ⟨m.g, .tr t :: s⟩)
          | none => none
        else none
      | _, _ => none
    | _, _ => none
  | _ => none
theorem RepL.kids {Z : Zn} {H : Hp} {o : Ow} : ∀ (ts : List Tr) {vs : List V} {Φ : Ps}, RepL K Z H o ts vs Φ → RepL K Z H .own (ts.map (kid o)) vs Φ
  | [], _, _, h => h
  | t :: ts, vs, Φ, h => by
    obtain ⟨v, vs', Φ1, Φ2, e, h1, h2, d, u⟩ := h
    exact ⟨v, vs', Φ1, Φ2, e, rep_kid.mpr h1, RepL.kids ts h2, d, u⟩
/-- the items of the thing on top, held by hand in its place -/
theorem EnvOk.items {c : Cz} {σ : St} {H : Hp} {Γ τ : List Ent} {us : List V} {w : V} {en : Ent} {k : Nk} {o : Ow} {ts ts' : List Tr} (E : EnvOk K c σ H Γ (en :: τ) (w :: us)) (hv : viewE Γ en = some (.nd k o ts)) (hi : itemsE en o ts = some ts') :
    ∃ ad vs, w = .ref ad ∧ ObjAt K k o H ad vs ∧ ts.length = vs.length ∧ ts' = ts.map (kid o) ∧ EnvOk K c σ H Γ (ts'.reverse.map Ent.tr ++ τ) (vs.reverse ++ us) := by
  obtain ⟨Z, ws, Φ, Ψ, EE⟩ := E
  have view : ∃ Θ, Rep K Z H .own (.nd k o ts) w Θ ∧ ((cpL (ts.map (kid o)) = true) ∨ ∃ Ψ2, RepL K Z H .own (trees [en]) [w] Θ ∧ RepL K Z H .own (trees τ) us Ψ2 ∧ (∀ b, ¬ (Θ b ∧ Ψ2 b)) ∧ ∀ b, Ψ b ↔ Θ b ∨ Ψ2 b) ∧ ts' = ts.map (kid o) := by
    cases en with
    | tr x =>
      obtain ⟨v0, vs0, Θ1, Θ2, e1, a1, a2, ad, au⟩ := EE.tm
      cases e1
      simp only [viewE] at hv
      cases hv
      simp only [itemsE] at hi
      exact ⟨Θ1, a1, .inr ⟨Θ2, ⟨w, [], Θ1, fun _ => False, rfl, a1, ⟨rfl, fun _ h => h⟩, by simp, by simp⟩, a2, ad, au⟩, (Option.some.inj hi).symm⟩
    | no => simp [viewE] at hv
    | al p =>
      obtain ⟨Θ, r⟩ := EE.view (n := 0) rfl rfl hv
      simp only [itemsE] at hi
      split at hi
      · rename_i hc
        exact ⟨Θ, r, .inl hc, (Option.some.inj hi).symm⟩
      · cases hi
  obtain ⟨Θ, r, hor, ets⟩ := view
  obtain ⟨ad, vs, Ξ, rfl, ho, hl, hn⟩ := id r
  have ho : ObjAt K k o H ad vs := ho
  have hl : RepL K Z H o ts vs Ξ := hl
  have hn : Nod Z k o ad ts Ξ Θ := hn
  have hsub : ∀ b, Ξ b → Θ b := fun b q => by
    by_cases eo : o = .own
    · exact hn.sub eo b q
    · exact absurd q (RepL.no0 _ eo hl b)
  have r2 := RepL.reverse _ (RepL.kids _ hl)
  refine ⟨ad, vs, rfl, ho, RepL.len _ hl, ets, ?_⟩
  have hlen := RepL.len _ hl
  subst ets
  rcases hor with hc | ⟨Ψ2, r3, r4, d, u⟩
  · have n0 := RepL.cp0 _ (RepL.kids _ hl) hc
    refine EE.swapE (τ1 := [en]) (us1 := [.ref ad]) (us1' := vs.reverse) rfl (by simp) (fun Ψ1 r zo => ⟨Z, Ξ, by rw [trees_tr]; exact r2, .same _ _ _ EE.zs (fun b q => RepL.isS _ r b q) _ fun b q => absurd q (n0 b)⟩) (by simp [hlen])
  · exact EE.swapX (τ1 := [en]) (us1 := [.ref ad]) (us1' := vs.reverse) rfl (by simp) r3 r4 d u (by rw [trees_tr]; exact r2) (.same _ _ _ EE.zs (Rep.isS _ r) _ fun b q => ⟨hsub b q, (EE.zo b (.inr ((u b).mpr (.inl (hsub b q))))).2⟩) (by simp [hlen])
/-- the second thing comes on top -/
theorem RepL.swap2 {Z : Zn} {H : Hp} {m : Ow} {t1 t2 : Tr} {ts : List Tr} {v1 v2 : V} {vs : List V} {Φ : Ps} (h : RepL K Z H m (t1 :: t2 :: ts) (v1 :: v2 :: vs) Φ) : RepL K Z H m (t2 :: t1 :: ts) (v2 :: v1 :: vs) Φ := by
  obtain ⟨_, _, Φ1, Φ2, e, h1, ⟨_, _, Φ3, Φ4, e', h2, h3, d', u'⟩, d, u⟩ := h
  cases e
  cases e'
  exact ⟨_, _, Φ3, fun b => Φ1 b ∨ Φ4 b, rfl, h2, ⟨_, _, Φ1, Φ4, rfl, h1, h3, by grind, fun _ => Iff.rfl⟩, by grind, by grind⟩
theorem EnvOk.swap2 {c : Cz} {σ : St} {H : Hp} {Γ τ : List Ent} {us : List V} {v1 v2 : V} {e1 e2 : Ent} (E : EnvOk K c σ H Γ (e1 :: e2 :: τ) (v1 :: v2 :: us)) : EnvOk K c σ H Γ (e2 :: e1 :: τ) (v2 :: v1 :: us) := by
  obtain ⟨Z, ws, Φ, Ψ, sl, tm, dj, so, to, ln, zo, zf, z0, zs, st, pv⟩ := E
  refine ⟨Z, ws, Φ, Ψ, ⟨sl, RepL.swap2 tm, dj, so, ?_, ln, zo, zf, z0, zs, st, pv⟩⟩
  intro i p hi
  match i with
  | 0 => exact to 1 p (by simpa using hi)
  | 1 => exact to 0 p (by simpa using hi)
  | i + 2 => exact to (i + 2) p (by simpa using hi)
/-- the order of what is held by hand does not matter -/
theorem RepL.perm {Z : Zn} {H : Hp} {m : Ow} {l l' : List (Ent × V)} (h : l.Perm l') : ∀ {Φ : Ps}, RepL K Z H m (l.map (·.1.tree)) (l.map (·.2)) Φ → RepL K Z H m (l'.map (·.1.tree)) (l'.map (·.2)) Φ := by
  induction h with
  | nil => intro Φ h; exact h
  | cons x _ ih =>
    intro Φ h
    obtain ⟨v, vs', Φ1, Φ2, e, h1, h2, d, u⟩ := h
    cases e
    exact ⟨_, _, Φ1, Φ2, rfl, h1, ih h2, d, u⟩
  | swap x y l => intro Φ h; exact RepL.swap2 h
  | trans _ _ ih1 ih2 => intro Φ h; exact ih2 (ih1 h)
theorem EnvOk.perm {c : Cz} {σ : St} {H : Hp} {Γ : List Ent} {l l' : List (Ent × V)} (h : l.Perm l') (E : EnvOk K c σ H Γ (l.map (·.1)) (l.map (·.2))) : EnvOk K c σ H Γ (l'.map (·.1)) (l'.map (·.2)) := by
  obtain ⟨Z, ws, Φ, Ψ, sl, tm, dj, so, to, ln, zo, zf, z0, zs, st, pv⟩ := E
  have et : ∀ l : List (Ent × V), trees (l.map (·.1)) = l.map (·.1.tree) := fun l => by simp [trees, List.map_map]
  have tm : RepL K Z H .own (l.map (·.1.tree)) (l.map (·.2)) Ψ := by rw [← et]; exact tm
  refine ⟨Z, ws, Φ, Ψ, ⟨sl, by rw [et]; exact RepL.perm h tm, dj, so, ?_, ln, zo, zf, z0, zs, st, pv⟩⟩
  intro i p hi
  rw [List.getElem?_map] at hi ⊢
  cases q : l'[i]? with
  | none => simp [q] at hi
  | some x =>
    obtain ⟨j, hj⟩ := List.getElem?_of_mem (h.mem_iff.mpr (List.mem_of_getElem? q))
    have := to j p (by rw [List.getElem?_map, hj]; simpa [q] using hi)
    rw [List.getElem?_map, hj] at this
    simpa using this
theorem EnvOk.permA {c : Cz} {σ : St} {H : Hp} {Γ A B τ : List Ent} {va vb us : List V} (la : A.length = va.length) (lb : B.length = vb.length) (E : EnvOk K c σ H Γ (A ++ (B ++ τ)) (va ++ (vb ++ us))) : EnvOk K c σ H Γ (B ++ (A ++ τ)) (vb ++ (va ++ us)) := by
  have lt : τ.length = us.length := by
    obtain ⟨Z, ws, Φ, Ψ, EE⟩ := E
    have := RepL.len _ EE.tm
    simp [trees] at this
    omega
  have h := EnvOk.perm (K := K) (c := c) (σ := σ) (H := H) (Γ := Γ) (l := A.zip va ++ (B.zip vb ++ τ.zip us)) (l' := B.zip vb ++ (A.zip va ++ τ.zip us)) (by
    rw [← List.append_assoc, ← List.append_assoc]
    exact List.Perm.append_right _ List.perm_append_comm)
  simp only [List.map_append, List.map_fst_zip (Nat.le_of_eq la), List.map_snd_zip (Nat.le_of_eq la.symm), List.map_fst_zip (Nat.le_of_eq lb), List.map_snd_zip (Nat.le_of_eq lb.symm), List.map_fst_zip (Nat.le_of_eq lt), List.map_snd_zip (Nat.le_of_eq lt.symm)] at h
  exact h E
theorem fCat_ok : RA2 K md W rCat fCat := by
  refine .mk fun c σ H m us x y Q rr hc E hf hp => ?_
  simp only [fCat] at hf
  split at hf
  · rename_i ey ex s hs
    split at hf
    · rename_i o ts o' us' hx hy
      split at hf
      · rename_i ts' us2 h1 h2
        split at hf
        · rename_i hlen
          split at hf
          · rename_i tn hn
            cases hf
            rw [hs] at E
            obtain ⟨ad, vs, rfl, ho, hl, e1, E1⟩ := E.items hy h2
            have l2 : us2.length = vs.length := by rw [e1]; simpa using hl
            have E2 := EnvOk.permA (B := [ex]) (vb := [x]) (by simp [l2]) rfl E1
            obtain ⟨ad2, vs2, rfl, ho2, hl2, e2, E3⟩ := EnvOk.items (τ := us2.reverse.map Ent.tr ++ s) (us := vs.reverse ++ us) E2 hx h1
            have l1 : ts'.length = vs2.length := by rw [e2]; simpa using hl2
            refine ⟨ad2, ad, vs2, vs, rfl, rfl, ho2, ho, by omega, fun p np => hp _ _ ?_⟩
            have E4 := EnvOk.permA (A := ts'.reverse.map Ent.tr) (B := us2.reverse.map Ent.tr) (va := vs2.reverse) (vb := vs.reverse) (by simp [l1]) (by simp [l2]) E3
            refine EnvOk.new (ts := ts' ++ us2) (vs := vs2 ++ vs) (by simpa using E4) (by simp [l1, l2]) np hn fun o => upd_same
          · cases hf
        · cases hf
      · cases hf
    · cases hf
  · cases hf
def fRep : GE := fun m => match m.s with
  | .tr (.a (.int k)) :: x :: s => match viewE m.g x with
    | some (.nd .lst o ts) => if cpL (ts.map (kid o)) = true ∧ -(2 ^ 63) ≤ k ∧ k < 2 ^ 63 ∧ ts.length * k.toNat ≤ sizeLine then match mkN .lst (List.replicate k.toNat (ts.map (kid o))).flatten with
        | some t => some (.ok ⟨m.g, .tr t :: s⟩)
        | none => none
      else none
    | _ => none
  | _ => none
theorem RepL.rep {Z : Zn} {H : Hp} {ts : List Tr} {vs : List V} {Φ : Ps} (h : RepL K Z H .own ts vs Φ) (hc : cpL ts = true) : ∀ k : Nat, ∃ Ψ, RepL K Z H .own (List.replicate k ts).flatten (List.replicate k vs).flatten Ψ ∧ ∀ b, ¬ Ψ b
  | 0 => ⟨fun _ => False, ⟨rfl, fun _ h => h⟩, fun _ h => h⟩
  | k + 1 => by
    obtain ⟨Ψ, r, n⟩ := RepL.rep h hc k
    have n0 := RepL.cp0 _ h hc
    refine ⟨fun b => Φ b ∨ Ψ b, ?_, by grind⟩
    rw [List.replicate_succ, List.replicate_succ, List.flatten_cons, List.flatten_cons]
    exact RepL.append _ h r (by grind)
theorem fRep_ok : RA2 K md W rRep fRep := by
  refine .mk fun c σ H m us x y Q rr hc E hf hp => ?_
  simp only [fRep] at hf
  split at hf
  · rename_i k ex s hs
    split at hf
    · rename_i o ts hx
      split at hf
      · rename_i hg
        split at hf
        · rename_i tn hn
          cases hf
          rw [hs] at E
          have ey := top_a E
          subst ey
          obtain ⟨ad, vs, rfl, ho, hl, _, E1⟩ := E.drop.items (ts' := ts.map (kid o)) hx (by
            cases ex with
            | tr _ => rfl
            | no => simp [viewE] at hx
            | al p => simp only [itemsE]; rw [if_pos hg.1])
          refine ⟨ad, k, vs, rfl, rfl, ho, hg.2.1, hg.2.2.1, by rw [← hl]; exact hg.2.2.2, fun p np => hp _ _ ?_⟩
          obtain ⟨Z, ws, Φ, Ψ, EE⟩ := E1
          refine EnvOk.new (ts := (List.replicate k.toNat (ts.map (kid o))).flatten) (vs := (List.replicate k.toNat vs).flatten) ?_ (by simp [hl]) np hn fun o => upd_same
          refine EE.swapE (by simp [hl]) (fun e he p => by obtain ⟨x, _, rfl⟩ := List.mem_map.mp he; exact fun q => by cases q) (fun Ψ1 r zo => ?_) (by simp [hl])
          rw [trees_tr] at r ⊢
          have r0 := RepL.reverse _ r
          rw [List.reverse_reverse, List.reverse_reverse] at r0
          obtain ⟨Ψ2, r2, n2⟩ := RepL.rep r0 hg.1 k.toNat
          exact ⟨Z, Ψ2, RepL.reverse _ r2, .same _ _ _ EE.zs (RepL.isS _ r) _ fun b q => absurd q (n2 b)⟩
        · cases hf
      · cases hf
    · cases hf
  · cases hf
/-! + - * // % -/
instance (i j : Int) : Decidable (CMul i j) := by unfold CMul; infer_instance
def cMul : Int → Int → Bool := fun i j => decide (CMul i j)
def cPos : Int → Int → Bool := fun _ j => decide (0 < j)
def cDiv : Int → Int → Bool := fun i j => decide (0 < j ∧ j < 1073741824)
def fAdd : GE := gOr (fP2 (FI cT fun i j => .int (i + j))) (gOr (fP2 FS) fCat)
def fSub : GE := fP2 (FI cT fun i j => .int (i - j))
def fMul : GE := gOr (fP2 (FI cMul fun i j => .int (i * j))) fRep
def fMod : GE := fP2 (FI cPos fun i j => .int (i % j))
def fDiv : GE := fP2 (FI cDiv fun i j => .int (i / j))
theorem me_add (ha : ME X T md W a ga) (hb : ME X T md W b gb) : ME X T md W (.BinOp a .Add b pos) (gSeq (gSeq ga gb) fAdd) := me_bin (op_add.or (op_add_str.or op_cat)) (fI_ok0.or (fS_ok.or fCat_ok)) ha hb
theorem me_mul (ha : ME X T md W a ga) (hb : ME X T md W b gb) : ME X T md W (.BinOp a .Mult b pos) (gSeq (gSeq ga gb) fMul) := me_bin (op_mul.or op_rep) ((fI_ok (C := cMul) fun _ _ h => of_decide_eq_true h).or fRep_ok) ha hb
theorem me_mod (ha : ME X T md W a ga) (hb : ME X T md W b gb) : ME X T md W (.BinOp a .Mod b pos) (gSeq (gSeq ga gb) fMod) := me_bin op_mod (fI_ok (C := cPos) fun _ _ h => of_decide_eq_true h) ha hb
theorem me_div (ha : ME X T md W a ga) (hb : ME X T md W b gb) : ME X T md W (.BinOp a .FloorDiv b pos) (gSeq (gSeq ga gb) fDiv) := me_bin op_fdiv (fI_ok (C := cDiv) fun i j h => (of_decide_eq_true h : 0 < j ∧ j < 1073741824)) ha hb
/-! comparisons -/
def fLt : GE := fP2 (FI cT fun i j => .bl (decide (i < j)))
def fLe : GE := fP2 (FI cT fun i j => .bl (decide (i ≤ j)))
def fGt : GE := fP2 (FI cT fun i j => .bl (decide (j < i)))
def fGe : GE := fP2 (FI cT fun i j => .bl (decide (j ≤ i)))
mutual
def toD : Tr → Option PyData
  | .a .non => some .none
  | .a (.bl b) => some (.bool b)
  | .a (.int i) => some (.int i)
  | .a (.str x) => some (.str x)
  | .nd .lst _ ts => match toDL ts with
    | some ds => some (.list ds)
    | none => none
  | .nd .tup _ ts => match toDL ts with
    | some ds => some (.tuple ds)
    | none => none
  | _ => none
def toDL : List Tr → Option (List PyData)
  | [] => some []
  | t :: ts => match toD t, toDL ts with
    | some d, some ds => some (d :: ds)
    | _, _ => none
end
mutual
theorem toD_ok {Z : Zn} {H : Hp} : ∀ (t : Tr) {m : Ow} {v : V} {Φ : Ps} {d : PyData}, Rep K Z H m t v Φ → toD t = some d → Dp K.K H v d
  | .any, _, _, _, _, _, e => by simp [toD] at e
  | .a u, _, v, _, d, h, e => by
    obtain ⟨rfl, _⟩ := h
    cases v <;> simp [toD] at e <;> subst e <;> constructor
  | .nd k o ts, m, v, Φ, d, h, e => by
    obtain ⟨ad, vs, Ψ, rfl, ho, hl, hn⟩ := h
    cases k with
    | lst =>
      simp only [toD] at e
      split at e
      · rename_i ds hd
        cases e
        exact .lst (objL ho) (toDL_ok ts hl hd)
      · cases e
    | tup =>
      simp only [toD] at e
      split at e
      · rename_i ds hd
        cases e
        exact .tup (objT ho) (toDL_ok ts hl hd)
      · cases e
    | ins _ _ => simp [toD] at e
    | dct _ => simp [toD] at e
    | dcT _ => simp [toD] at e
    | sti _ => simp [toD] at e
    | xd _ _ _ => simp [toD] at e
theorem toDL_ok {Z : Zn} {H : Hp} : ∀ (ts : List Tr) {m : Ow} {vs : List V} {Φ : Ps} {ds : List PyData}, RepL K Z H m ts vs Φ → toDL ts = some ds → DpAll K.K H vs ds
  | [], _, vs, _, ds, h, e => by
    obtain ⟨rfl, _⟩ := h
    simp only [toDL] at e
    cases e
    exact .nil
  | t :: ts, m, vs, Φ, ds, h, e => by
    obtain ⟨v, vs', Φ1, Φ2, rfl, h1, h2, _, _⟩ := h
    simp only [toDL] at e
    split at e
    · rename_i d ds' hd hds
      cases e
      exact .cons (toD_ok t h1 hd) (toDL_ok ts h2 hds)
    · cases e
end
def FEq (neg : Bool) : Tr → Tr → Option V
  | .a u, .a v => if scal u v = true then some (.bl (if neg then !decide (u = v) else decide (u = v))) else none
  | tx, ty => match toD tx, toD ty with
    | some d, some e => if SeqAt.shaped d = true ∧ SeqAt.shaped e = true then some (.bl (if neg then !PyData.eqv d e else PyData.eqv d e)) else none
    | _, _ => none
def fEq : GE := fP2 (FEq false)
def fNe : GE := fP2 (FEq true)
theorem FEq_eq {neg : Bool} {tx ty : Tr} {u : V} (h : FEq neg tx ty = some u) : (∃ x y, tx = .a x ∧ ty = .a y ∧ scal x y = true ∧ u = .bl (if neg then !decide (x = y) else decide (x = y))) ∨ ∃ d e, toD tx = some d ∧ toD ty = some e ∧ SeqAt.shaped d = true ∧ SeqAt.shaped e = true ∧ u = .bl (if neg then !PyData.eqv d e else PyData.eqv d e) := by
  unfold FEq at h
  split at h
  · rename_i x y
    split at h
    · rename_i hc
      exact .inl ⟨x, y, rfl, rfl, hc, (Option.some.inj h).symm⟩
    · cases h
  · split at h
    · rename_i d e hd he
      split at h
      · rename_i hc
        exact .inr ⟨d, e, hd, he, hc.1, hc.2, (Option.some.inj h).symm⟩
      · cases h
    · cases h
theorem fEq_ok : RA2 K md W (fun x y H Q => rEq x y H Q ∨ rEqD K.K x y H Q) fEq := fP2_ok fun Z H x y tx ty u Φ Ψ Q r1 r2 e q => by
  rcases FEq_eq e with ⟨x', y', rfl, rfl, hc, rfl⟩ | ⟨d, e', hd, he, s1, s2, rfl⟩
  · obtain ⟨rfl, _⟩ := r1
    obtain ⟨rfl, _⟩ := r2
    exact .inl ⟨hc, q⟩
  · exact .inr ⟨d, e', toD_ok _ r1 hd, toD_ok _ r2 he, s1, s2, q⟩
theorem fNe_ok : RA2 K md W (fun x y H Q => rNe x y H Q ∨ rNeD K.K x y H Q) fNe := fP2_ok fun Z H x y tx ty u Φ Ψ Q r1 r2 e q => by
  rcases FEq_eq e with ⟨x', y', rfl, rfl, hc, rfl⟩ | ⟨d, e', hd, he, s1, s2, rfl⟩
  · obtain ⟨rfl, _⟩ := r1
    obtain ⟨rfl, _⟩ := r2
    exact .inl ⟨hc, q⟩
  · exact .inr ⟨d, e', toD_ok _ r1 hd, toD_ok _ r2 he, s1, s2, q⟩
/-- is None -/
def FIs (neg : Bool) : Tr → Tr → Option V
  | .a u, .a .non => some (.bl (if neg then !decide (u = .non) else decide (u = .non)))
  | .nd _ _ _, .a .non => some (.bl neg)
  | _, _ => none
def fIsN : GE := fP2 (FIs false)
def fNotN : GE := fP2 (FIs true)
theorem fIsN_ok : RA2 K md W (fun x y H Q => y = .non ∧ Q (.bl (decide (x = .non))) H) fIsN := fP2_ok fun Z H x y tx ty u Φ Ψ Q r1 r2 e q => by
  unfold FIs at e
  split at e
  · cases e
    obtain ⟨rfl, _⟩ := r1
    exact ⟨r2.1, q⟩
  · cases e
    obtain ⟨ad, vs, Ξ, rfl, _⟩ := r1
    exact ⟨r2.1, q⟩
  · cases e
theorem fNotN_ok : RA2 K md W (fun x y H Q => y = .non ∧ Q (.bl (!decide (x = .non))) H) fNotN := fP2_ok fun Z H x y tx ty u Φ Ψ Q r1 r2 e q => by
  unfold FIs at e
  split at e
  · cases e
    obtain ⟨rfl, _⟩ := r1
    exact ⟨r2.1, q⟩
  · cases e
    obtain ⟨ad, vs, Ξ, rfl, _⟩ := r1
    exact ⟨r2.1, q⟩
  · cases e
def FIsB (neg : Bool) : Tr → Tr → Option V
  | .a (.bl a), .a (.bl b) => some (.bl (if neg then !decide (a = b) else decide (a = b)))
  | _, _ => none
def fIsB : GE := fP2 (FIsB false)
/-- in, of flat things -/
def atoms : List Tr → Option (List V)
  | [] => some []
  | .a v :: ts => match atoms ts with
    | some vs => some (v :: vs)
    | none => none
  | _ => none
theorem atoms_ok {Z : Zn} {H : Hp} {m : Ow} : ∀ {ts : List Tr} {vs us : List V} {Φ : Ps}, RepL K Z H m ts vs Φ → atoms ts = some us → vs = us
  | [], _, _, _, h, e => by
    obtain ⟨rfl, _⟩ := h
    simp only [atoms] at e
    cases e
    rfl
  | t :: ts, vs, us, Φ, h, e => by
    obtain ⟨v, vs', Φ1, Φ2, rfl, h1, h2, _, _⟩ := h
    cases t with
    | a w =>
      simp only [atoms] at e
      split at e
      · rename_i us' he
        cases e
        rw [atoms_ok h2 he, h1.1]
      · cases e
    | any => simp [atoms] at e
    | nd _ _ _ => simp [atoms] at e
def FIn (neg : Bool) : Tr → Tr → Option V
  | .a x, .nd .lst _ ts => match atoms ts with
    | some vs => if flatV x = true ∧ vs.all flatV = true then some (.bl (if neg then !inV x vs else inV x vs)) else none
    | none => none
  | .a x, .nd .tup _ ts => match atoms ts with
    | some vs => if flatV x = true ∧ vs.all flatV = true then some (.bl (if neg then !inV x vs else inV x vs)) else none
    | none => none
  | _, _ => none
theorem fIn_ok {neg : Bool} : RA2 K md W (rIn K.K neg) (fP2 (FIn neg)) := fP2_ok fun Z H x y tx ty u Φ Ψ Q r1 r2 e q => by
  unfold FIn at e
  split at e
  · split at e
    · rename_i vs hv
      split at e
      · rename_i hc
        cases e
        obtain ⟨rfl, _⟩ := r1
        obtain ⟨ad, vs', Ξ, rfl, ho, hl, _⟩ := r2
        cases atoms_ok hl hv
        exact ⟨ad, vs, rfl, .inl (objL ho), hc.1, hc.2, q⟩
      · cases e
    · cases e
  · split at e
    · rename_i vs hv
      split at e
      · rename_i hc
        cases e
        obtain ⟨rfl, _⟩ := r1
        obtain ⟨ad, vs', Ξ, rfl, ho, hl, _⟩ := r2
        cases atoms_ok hl hv
        exact ⟨ad, vs, rfl, .inr (objT ho), hc.1, hc.2, q⟩
      · cases e
    · cases e
  · cases e
def fIn : GE := fP2 (FIn false)
def fNotIn : GE := fP2 (FIn true)
end
section
variable {K : KC} {X : Cx} {T : KT} {md : List Bool} {W : WX} {g ga gb f f' : GE} {e a b : Expr} {es : List Expr} {pos p : Pos} {n : Nat} {v : V} {x : Str} {id Ty : String} {q q' : List V → Hp → VK → Prop}
theorem se_cb {t : TA} (ha : SA K md W n t g) (hf : RA K md W n (fun _ => q) f) : SE K md W (tCB q t) (gSeq g f) := by
  intro c σ H m us Q rr hc E hg hp
  simp only [gSeq] at hg
  split at hg
  · rename_i m1 h1
    exact ha c σ H m us _ _ hc E h1 fun vs H1 hl E1 => hf c σ H1 m1 us vs Q rr hc hl E1 hg hp
  · rename_i h1
    refine ha c σ H m us _ _ hc E hg ?_
    cases rr with
    | ex C g' => exact hp
    | ok m2 => exact absurd hg (h1 m2)
theorem me_callB (hc : CallR X (.builtin id) q) (hf : RA (kcm X.K T) md W (e :: es).length (fun _ => q) f) (hg : Gl X x) (hm : X.mg x = none) (hv : bootBuiltins x = some (.builtin id)) (ha : MA X T md W (e :: es) g) (hn : x ≠ "__name__" := by decide) (hdb : (x == ("__debug__" : Str)) = false := by decide)
    (he : starEach (e :: es) X.env = (false, eval e X.env) :: starEach es X.env := by rfl) (hpl : (backTo pos (starEach es X.env)).any (·.1) = false := by rfl) : ME X T md W (.Call (.Name x p) (e :: es) [] pos) (gSeq g f) := by
  obtain ⟨t, pa, sa⟩ := ha
  exact ⟨_, pe_callB hc hg hm hv pa hn hdb he hpl, se_cb sa hf⟩
theorem me_callTy (hc : CallR X (.type Ty) q) (hf : RA (kcm X.K T) md W (e :: es).length (fun _ => q) f) (hg : Gl X x) (hm : X.mg x = none) (hv : bootBuiltins x = some (.type Ty)) (ha : MA X T md W (e :: es) g) (hn : x ≠ "__name__" := by decide) (hdb : (x == ("__debug__" : Str)) = false := by decide)
    (he : starEach (e :: es) X.env = (false, eval e X.env) :: starEach es X.env := by rfl) (hpl : (backTo pos (starEach es X.env)).any (·.1) = false := by rfl) : ME X T md W (.Call (.Name x p) (e :: es) [] pos) (gSeq g f) := by
  obtain ⟨t, pa, sa⟩ := ha
  exact ⟨_, pe_callTy hc hg hm hv pa hn hdb he hpl, se_cb sa hf⟩
theorem CallR.or {f : Value} (h : CallR X f q) (h' : CallR X f q') : CallR X f (fun xs H Q => q xs H Q ∨ q' xs H Q) := by
  intro pins s σ H xs us Q I r z
  rcases z with z | z
  · exact h pins s σ H xs us Q I r z
  · exact h' pins s σ H xs us Q I r z
theorem RA.or {r r' : St → List V → Hp → VK → Prop} (h : RA K md W n r f) (h' : RA K md W n r' f') : RA K md W n (fun σ xs H Q => r σ xs H Q ∨ r' σ xs H Q) (gOr f f') := by
  intro c σ H m us vs Q rr hc hl E hf hp
  simp only [gOr] at hf
  cases e1 : f m with
  | none =>
    simp only [e1] at hf
    exact .inr (h' c σ H m us vs Q rr hc hl E hf hp)
  | some r1 =>
    simp only [e1] at hf
    exact .inl (h c σ H m us vs Q rr hc hl E (by rw [e1]; exact hf) hp)
/-! len -/
def FLen : Tr → Option V
  | .a (.str z) => if z.length ≤ sizeLine then some (.int z.length) else none
  | .nd .lst _ ts => some (.int ts.length)
  | .nd .tup _ ts => some (.int ts.length)
  | .nd (.dct ks) _ ts => some (.int ts.length)
  | _ => none
def fLen : GE := fP1 FLen
theorem call_lenR : CallR X (.builtin "len") (fun xs H Q => ∃ a kvs, xs = [V.ref a] ∧ Rd H a (.dK kvs) ∧ Q (.int kvs.length) H) := by
  intro pins s σ H xs us Q I r h
  obtain ⟨a, kvs, rfl, ha, q⟩ := h
  obtain ⟨u, rfl, ru⟩ := vals1 r
  cases ru
  exact d_len I ha fun t s' I' => ⟨.int kvs.length, H, I', ⟨t, rfl⟩, q⟩
theorem fLen_ok : RA K md W 1 (fun _ xs H Q => (∃ x n, xs = [x] ∧ LenV K.K x H n ∧ Q (.int n) H) ∨ ∃ a kvs, xs = [V.ref a] ∧ Rd H a (.dK kvs) ∧ Q (.int kvs.length) H) fLen := fP1_ok fun σ Z H x tx u Φ Q r e q => by
  unfold FLen at e
  split at e
  · split at e
    · rename_i z hz
      cases e
      obtain ⟨rfl, _⟩ := r
      exact .inl ⟨_, _, rfl, ⟨hz, rfl⟩, q⟩
    · cases e
  · cases e
    obtain ⟨ad, vs, Ξ, rfl, ho, hl, _⟩ := r
    rw [RepL.len _ hl] at q
    exact .inl ⟨_, _, rfl, .inl ⟨vs, objL ho, rfl⟩, q⟩
  · cases e
    obtain ⟨ad, vs, Ξ, rfl, ho, hl, _⟩ := r
    rw [RepL.len _ hl] at q
    exact .inl ⟨_, _, rfl, .inr ⟨vs, objT ho, rfl⟩, q⟩
  · cases e
    obtain ⟨ad, vs, Ξ, rfl, ho, hl, _⟩ := r
    rw [RepL.len _ hl] at q
    have ho := ObjAt.rd ho
    refine .inr ⟨ad, _, rfl, ho.2, ?_⟩
    rw [List.length_zip, ho.1, Nat.min_self]
    exact q
  · cases e
/-! list(x), tuple(x) -/
def fLst : GE := fun m => match m.s with
  | e :: s => match viewE m.g e with
    | some (.nd .lst o ts) => match itemsE e o ts with
      | some ts' => match mkN .lst ts' with
        | some t => some (.ok ⟨m.g, .tr t :: s⟩)
        | none => none
      | none => none
    | some (.nd .tup o ts) => match itemsE e o ts with
      | some ts' => match mkN .lst ts' with
        | some t => some (.ok ⟨m.g, .tr t :: s⟩)
        | none => none
      | none => none
    | _ => none
  | _ => none
theorem fLst_ok : RA K md W 1 (fun _ xs H Q => ∃ p ys, xs = [.ref p] ∧ (SqL K.K H p ys ∨ SqT K.K H p ys) ∧ ∀ l, H l = none → Q (.ref l) (upd H l (.lst ys))) fLst := by
  intro c σ H m us vs Q rr hc hl E hf hp
  match vs, hl with
  | [x], _ =>
    simp only [fLst] at hf
    split at hf
    · rename_i ex s hs
      rw [hs] at E
      split at hf
      · rename_i o ts hv
        split at hf
        · rename_i ts' h2
          split at hf
          · rename_i tn hn
            cases hf
            obtain ⟨ad, vs, rfl, ho, hl, e1, E1⟩ := EnvOk.items E hv h2
            exact ⟨ad, vs, rfl, .inl (objL ho), fun l nl => hp _ _ (E1.new (by rw [e1]; simpa using hl) nl hn fun o => upd_same)⟩
          · cases hf
        · cases hf
      · rename_i o ts hv
        split at hf
        · rename_i ts' h2
          split at hf
          · rename_i tn hn
            cases hf
            obtain ⟨ad, vs, rfl, ho, hl, e1, E1⟩ := EnvOk.items E hv h2
            exact ⟨ad, vs, rfl, .inr (objT ho), fun l nl => hp _ _ (E1.new (by rw [e1]; simpa using hl) nl hn fun o => upd_same)⟩
          · cases hf
        · cases hf
      · cases hf
    · cases hf
def fTup : GE := fun m => match m.s with
  | e :: s => match viewE m.g e with
    | some (.nd .lst o ts) => match itemsE e o ts with
      | some ts' => some (.ok ⟨m.g, .tr (.nd .tup .own ts') :: s⟩)
      | none => none
    | some (.nd .tup _ _) => some (.ok ⟨m.g, e :: s⟩)
    | _ => none
  | _ => none
theorem fTup_ok : RA K md W 1 (fun _ xs H Q => ∃ p ys, xs = [.ref p] ∧ ((SqL K.K H p ys ∧ ∀ l, H l = none → Q (.ref l) (upd H l (.tup ys))) ∨ (SqT K.K H p ys ∧ Q (.ref p) H))) fTup := by
  intro c σ H m us vs Q rr hc hl E hf hp
  match vs, hl with
  | [x], _ =>
    simp only [fTup] at hf
    split at hf
    · rename_i ex s hs
      rw [hs] at E
      split at hf
      · rename_i o ts hv
        split at hf
        · rename_i ts' h2
          cases hf
          obtain ⟨ad, vs, rfl, ho, hl, e1, E1⟩ := EnvOk.items E hv h2
          exact ⟨ad, vs, rfl, .inl ⟨objL ho, fun l nl => hp _ _ (EnvOk.new (k := .tup) E1 (by rw [e1]; simpa using hl) nl (by simp [mkN]) fun o => .inl upd_same)⟩⟩
        · cases hf
      · rename_i o ts hv
        cases hf
        obtain ⟨Z, ws, Φ, Ψ, EE⟩ := id E
        obtain ⟨Θ1, ad, vs, Ξ, rfl, ho, _⟩ := EE.view (n := 0) rfl rfl hv
        exact ⟨ad, vs, rfl, .inr ⟨objT ho, hp _ _ E⟩⟩
      · cases hf
    · cases hf
/-! int, abs, min, max -/
def FInt : Tr → Option V
  | .a (.int i) => some (.int i)
  | .a (.bl k) => some (.int (if k then 1 else 0))
  | _ => none
def fInt : GE := fP1 FInt
theorem fInt_ok : RA K md W 1 (fun _ xs H Q => (∃ i, xs = [.int i] ∧ Q (.int i) H) ∨ ∃ k, xs = [.bl k] ∧ Q (.int (if k then 1 else 0)) H) fInt := fP1_ok fun σ Z H x tx u Φ Q r e q => by
  unfold FInt at e
  split at e
  · cases e
    exact .inl ⟨_, by rw [r.1], q⟩
  · cases e
    exact .inr ⟨_, by rw [r.1], q⟩
  · cases e
def FNeg : Tr → Option V
  | .a (.int i) => some (.int (-i))
  | _ => none
def fNeg : GE := fP1 FNeg
/-! isinstance of built-in classes -/
def tyN : Tr → Option String
  | .a .non => some "NoneType"
  | .a (.bl _) => some "bool"
  | .a (.int _) => some "int"
  | .a (.str _) => some "str"
  | .nd .lst _ _ => some "list"
  | .nd .tup _ _ => some "tuple"
  | .nd (.dct _) .own _ => some "dict"
  | _ => none
theorem tyN_ok {Z : Zn} {H : Hp} {t : Tr} {v : V} {Φ : Ps} {s : String} (r : Rep K Z H .own t v Φ) (h : tyN t = some s) : TyX K.K H v (.type s) := by
  unfold tyN at h
  split at h <;> cases h
  · rw [r.1]; exact .base .non
  · rw [r.1]; exact .base (.bl _)
  · rw [r.1]; exact .base (.int _)
  · rw [r.1]; exact .base (.str _)
  · obtain ⟨ad, vs, Ξ, rfl, ho, _⟩ := r
    exact .base (.lst ho)
  · obtain ⟨ad, vs, Ξ, rfl, ho, _⟩ := r
    rcases ho with ho | (ho | ⟨_, ho⟩) | ⟨o, its, k, h1, h2, _⟩
    · exact .base (.tup ho)
    · cases ho
    · cases ho
    · exact .kTuple h1 h2
  · obtain ⟨ad, vs, Ξ, rfl, ho, _⟩ := r
    exact .base (.dK ho.2)
def kitAnyB (a : String) : List String → Option Bool
  | [] => some false
  | b :: bs => match kitB a b with
    | some true => some true
    | some false => kitAnyB a bs
    | none => none
def tyNames : List Tr → Option (List String)
  | [] => some []
  | .a (.ty n) :: ts => match tyNames ts with
    | some ns => some (n :: ns)
    | none => none
  | _ => none
def FIsi : Tr → Tr → Option V
  | tx, .a (.ty n) => match tyN tx with
    | some s => match kitB s n with
      | some b => some (.bl b)
      | none => none
    | none => none
  | tx, .nd .tup .own ts => match tyN tx, tyNames ts with
    | some s, some ns => match kitAnyB s ns with
      | some b => some (.bl b)
      | none => none
    | _, _ => none
  | _, _ => none
def fIsi : GE := fP2 FIsi
theorem kitAnyB_ok {K : PySem.W.Frag} {a : String} : ∀ {ns : List String} {b : Bool}, kitAnyB a ns = some b → PySem.W.kitAny K (.type a) (ns.map Value.type) = some b
  | [], b, h => by
    simp only [kitAnyB] at h
    rw [← h]
    rfl
  | n :: ns, b, h => by
    simp only [kitAnyB] at h
    split at h
    · rename_i h1
      cases h
      exact kitAny_cons (kit_ty h1) (fun q => by cases q) (fun _ => rfl)
    · rename_i h1
      exact kitAny_cons (kit_ty h1) (fun _ => kitAnyB_ok h) (fun q => by cases q)
    · cases h
theorem tyNames_ok {Z : Zn} {H : Hp} {m : Ow} : ∀ {ts : List Tr} {vs : List V} {Φ : Ps} {ns : List String}, RepL K Z H m ts vs Φ → tyNames ts = some ns → Paired ClsV vs (ns.map Value.type)
  | [], _, _, _, h, e => by
    obtain ⟨rfl, _⟩ := h
    simp only [tyNames] at e
    cases e
    exact .nil
  | t :: ts, vs, Φ, ns, h, e => by
    obtain ⟨v, vs', Φ1, Φ2, rfl, h1, h2, _, _⟩ := h
    unfold tyNames at e
    split at e
    · rename_i heq
      cases heq
    · rename_i n ts2 heq
      cases heq
      split at e
      · rename_i ns' hn
        cases e
        rw [h1.1]
        exact .cons (.ty n) (tyNames_ok h2 hn)
      · cases e
    · cases e
theorem fIsi_ok : RA K md W 2 (fun _ xs H Q => rIsi K.K xs H Q ∨ (rIsiT K.K xs H Q ∨ rIsiK K.K xs H Q)) fIsi := by
  intro c σ H m us vs Q rr hc hl E hf hp
  have := fP2_ok (K := K) (md := md) (W := W) (F := FIsi) (r := fun x y H Q => rIsi K.K [x, y] H Q ∨ (rIsiT K.K [x, y] H Q ∨ rIsiK K.K [x, y] H Q)) (fun Z H x y tx ty u Φ Ψ Q r1 r2 e q => by
    unfold FIsi at e
    split at e
    · split at e
      · rename_i n _ s hs
        split at e
        · rename_i b hb
          cases e
          rw [r2.1]
          exact .inl ⟨x, _, _, _, b, rfl, .ty n, tyN_ok r1 hs, kit_ty hb, q⟩
        · cases e
      · cases e
    · split at e
      · rename_i ts s ns hs hn
        split at e
        · rename_i b hb
          cases e
          obtain ⟨ad, vs, Ξ, rfl, ho, hl, _⟩ := r2
          rcases ho with ho | ho
          · exact .inr (.inl ⟨x, ad, vs, _, _, b, rfl, ho, tyNames_ok hl hn, tyN_ok r1 hs, kitAnyB_ok hb, q⟩)
          · rcases ho with (ho | ⟨_, ho⟩) | ⟨o, its, k, h1, h2, h3, h4, h5⟩
            · cases ho
            · cases ho
            · have e3 := ClsV.all (tyNames_ok hl hn) h5
              obtain ⟨oc, od, dt, sl⟩ := o
              simp only at h2 h3
              subst h2 h3
              exact .inr (.inr ⟨x, ad, od, its.toList, k, sl, _, b, rfl, by rw [Array.toArray_toList]; exact h1, tyN_ok r1 hs, by rw [e3]; exact kitAnyB_ok hb, q⟩)
        · cases e
      · cases e
    · cases e) c σ H m us vs Q rr hc hl E hf hp
  obtain ⟨x, y, rfl, z⟩ := this
  exact z
end
section
variable {K : KC} {X : Cx} {T : KT} {md : List Bool} {W : WX} {c : Cz} {σ : St} {H H' : Hp} {Γ τ τ1 : List Ent} {us us1 vs vs' : List V} {v w : V} {p q : List Nat} {t : Tr} {ts ts' : List Tr} {k k' : Nk} {i j : Nat} {a : Addr}
theorem kill_set {e : Ent} : kill p (Γ.set i e) = (kill p Γ).set i (killE p e) := by simp [kill, List.map_set]
theorem setG_kill : setG (kill p Γ) q t = kill p (setG Γ q t) := by
  cases q with
  | nil => rfl
  | cons i q =>
    simp only [setG]
    cases e : Γ[i]? with
    | none => simp [kill, e]
    | some x =>
      have e2 : (kill p Γ)[i]? = some (killE p x) := by simp [kill, e]
      cases x with
      | no => simp [e2, killE]
      | tr y => simp only [e2, killE, kill_set]
      | al r =>
        by_cases nb : nbel p r = true
        · simp [e2, killE, nb]
        · simp [e2, killE, nb]
theorem setT_setT : ∀ {p : List Nat} {t x y : Tr}, setT (setT t p x) p y = setT t p y
  | [], _, _, _ => rfl
  | j :: p, t, x, y => by
    cases t with
    | any => rfl
    | a v => rfl
    | nd k o us =>
      simp only [setT]
      cases e : us[j]? with
      | none => simp [e, setT]
      | some z =>
        simp only [setT, List.getElem?_set_self (getq_lt' e), List.set_set]
        rw [setT_setT]
theorem setG_setG {x y : Tr} : setG (setG Γ p x) p y = setG Γ p y := by
  cases p with
  | nil => rfl
  | cons i p =>
    simp only [setG]
    cases e : Γ[i]? with
    | none => simp [e]
    | some z =>
      cases z with
      | no => simp [e]
      | al _ => simp [e]
      | tr t => simp only [List.getElem?_set_self (getq_lt' e), List.set_set, setT_setT]
theorem kill_trs : kill p (ts.map Ent.tr) = ts.map Ent.tr := by
  simp [kill, killE]
theorem getG_setG_same {x : Tr} (h : (getG Γ p).isSome = true) : getG (setG Γ p x) p = some x := by
  have h1 := getG_setG (t := x) h h (by
    have npp : ∀ {p : List Nat}, nbel p p = true := by
      intro p
      induction p with
      | nil => rfl
      | cons i p ih => simp [nbel, ih]
    exact npp)
  rw [← getG_getP h1, trees_setG h]
  exact getP_setP_same (getG_isP h)
/-- the things on top of a place go into it, or change it: the node at the place becomes another one -/
theorem EnvOk.modP {ins outs : List Tr} {vouts : List V} {ob : HO} (E : EnvOk K c σ H Γ (.al p :: (ins.map Ent.tr ++ τ)) (w :: (us1 ++ us))) (hl : ins.length = us1.length) (g : getG Γ p = some (.nd k .own ts)) (hk : k ≠ .tup) (hk' : k' ≠ .tup)
    (step : ∀ a vs, w = .ref a → ObjAt K k .own H a vs → ts.length = vs.length → ∃ vs', ts'.length = vs'.length ∧ ObjAt K k' .own (upd H a ob) a vs' ∧ ∀ Z Ψa Ψb, RepL K Z H .own ts vs Ψa → RepL K Z H .own ins us1 Ψb → (∀ b, ¬ (Ψa b ∧ Ψb b)) → ∃ Ψ', RepL K Z H .own (ts' ++ outs) (vs' ++ vouts) Ψ' ∧ ∀ b, Ψ' b → Ψa b ∨ Ψb b)
    (hl3 : outs.length = vouts.length) (he : escL ts' = true) : ∃ a, w = .ref a ∧ EnvOk K c σ (upd H a ob) (kill p (setG Γ p (.nd k' .own ts'))) (outs.map .tr ++ kill p τ) (vouts ++ us) := by
  have gs : (getG Γ p).isSome = true := by rw [g]; rfl
  have E1 := E.ext g
  obtain ⟨Z, ws, Φ, Ψ, EE⟩ := id E1
  obtain ⟨Θ, a, vs, Ξ, rfl, ho, hlr, hn⟩ := EE.view (n := 0) (e := .tr (.nd k .own ts)) rfl rfl rfl
  have ho : ObjAt K k .own H a vs := ho
  obtain ⟨vs', l2, ho', st⟩ := step a vs rfl ho (RepL.len _ hlr)
  refine ⟨a, rfl, ?_⟩
  have ek : kill p (ins.map Ent.tr ++ τ) = ins.map Ent.tr ++ kill p τ := by
    have := kill_trs (p := p) (ts := ins)
    simp only [kill, List.map_append] at this ⊢
    rw [this]
  rw [ek] at E1
  have E2 : EnvOk K c σ H (kill p (setG Γ p .any)) ([.tr (.nd k .own ts)] ++ (ins.map Ent.tr ++ (.al p :: kill p τ))) ([.ref a] ++ (us1 ++ (.ref a :: us))) := by
    have h1 := EnvOk.permA (A := [.tr (.nd k .own ts)]) (B := [.al p] ++ ins.map Ent.tr) (τ := kill p τ) (va := [.ref a]) (vb := [.ref a] ++ us1) (us := us) rfl (by simp [hl]) (by simpa using E1)
    have h2 := EnvOk.permA (A := [.al p]) (B := ins.map Ent.tr) (τ := .tr (.nd k .own ts) :: kill p τ) (va := [.ref a]) (vb := us1) (us := .ref a :: us) rfl (by simp [hl]) (by simpa using h1)
    have h3 := EnvOk.permA (A := ins.map Ent.tr ++ [.al p]) (B := [.tr (.nd k .own ts)]) (τ := kill p τ) (va := us1 ++ [.ref a]) (vb := [.ref a]) (us := us) (by simp [hl]) rfl (by simpa using h2)
    simpa using h3
  have E3 := EnvOk.mut (τ1 := ins.map Ent.tr) (τ := .al p :: kill p τ) (us1 := us1) (us := .ref a :: us) (k' := k') (ts' := ts') (outs := outs) (vs' := vs') (vouts := vouts) (ob := ob) E2 hk hk' (by simp [hl]) ho (fun Z Ψa Ψb r1 r2 => by rw [trees_tr] at r2; exact st Z Ψa Ψb r1 r2) l2 hl3 he ho'
  have E4 : EnvOk K c σ (upd H a ob) (kill p (setG Γ p .any)) (.tr (.nd k' .own ts') :: .al p :: (outs.map .tr ++ kill p τ)) (.ref a :: .ref a :: (vouts ++ us)) := by
    have h1 := EnvOk.permA (A := [.tr (.nd k' .own ts')] ++ outs.map Ent.tr) (B := [.al p]) (τ := kill p τ) (va := [.ref a] ++ vouts) (vb := [.ref a]) (us := us) (by simp [hl3]) rfl (by simpa using E3)
    exact EnvOk.swap2 (by simpa using h1)
  have gk : getG (kill p (setG Γ p .any)) p = some .any := by rw [getG_kill]; exact getG_setG_same gs
  have E5 := (E4.back gk (by
    cases k' <;> first | exact absurd rfl hk' | rfl)).drop
  rw [setG_kill, setG_setG] at E5
  exact E5
/-! statements -/
inductive Os | nx (m : Ms) | rt (t : Tr) (m : Ms) | bk (m : Ms) | ct (m : Ms) | ex (C : Nat) (g : List Ent)
abbrev GS := Ms → Option Os
def PostS (K : KC) (c : Cz) (W : WX) (us : List V) (D : Ends) : Os → Prop
  | .nx m => ∀ σ' H', EnvOk K c σ' H' m.g m.s us → D.nx σ' H'
  | .rt t m => ∀ σ' v H', EnvOk K c σ' H' m.g (.tr t :: m.s) (v :: us) → D.rt v H'
  | .bk m => ∀ σ' H', EnvOk K c σ' H' m.g m.s us → D.bk σ' H'
  | .ct m => ∀ σ' H', EnvOk K c σ' H' m.g m.s us → D.ct σ' H'
  | .ex C g => ∀ σ' (H' : HX), EnvX K c C σ' H' g [] [] → W (.ref (K.et C)) H'.2 σ' H'.1
def SS (K : KC) (md : List Bool) (W : WX) (t : L2.TS) (g : GS) : Prop := ∀ (c : Cz) (σ : St) (H : Hp) (m : Ms) (us : List V) (D : Ends) (o : Os), c.md = md → EnvOk K c σ H m.g m.s us → g m = some o → PostS K c W us D o → t D σ H
def MS (X : Cx) (T : KT) (md : List Bool) (W : WX) (st : Stmt) (g : GS) : Prop := ∃ t, PS X st t ∧ SS (kcm X.K T) md W t g
def MSs (X : Cx) (T : KT) (md : List Bool) (W : WX) (sts : List Stmt) (g : GS) : Prop := ∃ t, PSs X sts t ∧ SS (kcm X.K T) md W t g
variable {st : Stmt} {rest sts sts' : List Stmt} {g g' : GS} {ge gf gt : GE} {e b o : Expr} {pos pos' : Pos}
def sNil : GS := fun m => some (.nx m)
def sSeq (g h : GS) : GS := fun m => match g m with
  | some (.nx m') => h m'
  | r => r
theorem mss_nil : MSs X T md W [] sNil := ⟨_, pss_nil, fun c σ H m us D o hc E hg hp => by
  cases hg
  exact hp σ H E⟩
theorem mss_cons (h1 : MS X T md W st g) (h2 : MSs X T md W rest g') : MSs X T md W (st :: rest) (sSeq g g') := by
  obtain ⟨t, p, s⟩ := h1
  obtain ⟨t', p', s'⟩ := h2
  refine ⟨_, pss_cons p p', fun c σ H m us D o hc E hg hp => ?_⟩
  simp only [sSeq] at hg
  split at hg
  · rename_i m1 h1
    exact s c σ H m us _ _ hc E h1 fun σ' H' E' => s' c σ' H' m1 us D o hc E' hg hp
  · rename_i h1
    refine s c σ H m us _ _ hc E hg ?_
    cases o with
    | nx m' => exact absurd hg (h1 m')
    | rt t m' => exact hp
    | bk m' => exact hp
    | ct m' => exact hp
    | ex C g => exact hp
theorem mss_one (h1 : MS X T md W st g) : MSs X T md W [st] g := by
  obtain ⟨t, p, s⟩ := h1
  exact ⟨_, pss_one p, s⟩
def sExpr (ge : GE) : GS := fun m => match ge m with
  | some (.ok ⟨g, _ :: s⟩) => some (.nx ⟨g, s⟩)
  | some (.ex C g) => some (.ex C g)
  | _ => none
theorem ms_expr (h : ME X T md W e ge) (hs : swapsWith e none pos.line X.env = pure false := by rfl) : MS X T md W (.Expr e pos) (sExpr ge) := by
  obtain ⟨t, p, s⟩ := h
  refine ⟨_, ps_expr p hs, fun c σ H m us D o hc E hg hp => ?_⟩
  simp only [sExpr] at hg
  split at hg
  · rename_i h1
    cases hg
    exact s c σ H m us _ _ hc E h1 fun x H1 E1 => hp σ H1 E1.drop
  · rename_i h1
    cases hg
    exact s c σ H m us _ _ hc E h1 fun H1 E1 => hp σ H1 E1
  · cases hg
def sRet (ge : GE) : GS := fun m => match ge m with
  | some (.ok ⟨g, .tr t :: s⟩) => some (.rt t ⟨g, s⟩)
  | some (.ex C g) => some (.ex C g)
  | _ => none
theorem ms_ret (h : ME X T md W e ge) : MS X T md W (.Return (some e) pos) (sRet ge) := by
  obtain ⟨t, p, s⟩ := h
  refine ⟨_, ps_ret p, fun c σ H m us D o hc E hg hp => ?_⟩
  simp only [sRet] at hg
  split at hg
  · rename_i h1
    cases hg
    exact s c σ H m us _ _ hc E h1 fun x H1 E1 => hp σ x H1 E1
  · rename_i h1
    cases hg
    exact s c σ H m us _ _ hc E h1 fun H1 E1 => hp σ H1 E1
  · cases hg
def sRetN : GS := fun m => some (.rt (.a .non) m)
def sIf (gt : GE) (g h : GS) : GS := fun m => match gt m with
  | some (.ok ⟨g', .tr (.a (.bl true)) :: s'⟩) => g ⟨g', s'⟩
  | some (.ok ⟨g', .tr (.a (.bl false)) :: s'⟩) => h ⟨g', s'⟩
  | some (.ex C g') => some (.ex C g')
  | _ => none
theorem ms_if (hc : MT X T md W e gt) (ha : MSs X T md W sts g) (hb : MSs X T md W sts' g') : MS X T md W (.If e sts sts' pos) (sIf gt g g') := by
  obtain ⟨tc, pc, sc⟩ := hc
  obtain ⟨t, p, s⟩ := ha
  obtain ⟨t', p', s'⟩ := hb
  refine ⟨_, ps_if pc p p', fun c σ H m us D o hm E hg hp => ?_⟩
  simp only [sIf] at hg
  split at hg
  · rename_i h1
    exact sc c σ H m us _ _ hm E h1 fun H' E' => iteT (s c σ H' _ us D o hm E' hg hp)
  · rename_i h1
    exact sc c σ H m us _ _ hm E h1 fun H' E' => iteF (s' c σ H' _ us D o hm E' hg hp)
  · rename_i h1
    cases hg
    exact sc c σ H m us _ _ hm E h1 fun H' E' => hp σ H' E'
  · cases hg
/-- a name gets what is on top -/
def bind (md : List Bool) (i : Nat) (m : Ms) : Option Ms := if md.getD i false = true ∨ ¬ i < m.g.length then none else match m.s with
  | .tr t :: s => some ⟨(m.g.map (killR i)).set i (.tr t), s.map (killR i)⟩
  | .al p :: s => if p.head? = some i then none else some ⟨(m.g.map (killR i)).set i (.al p), s.map (killR i)⟩
  | _ => none
theorem bind_ok {m m' : Ms} {x : V} (hc : c.md = md) (E : EnvOk K c σ H m.g m.s (x :: us)) (h : bind md i m = some m') : EnvOk K c (σ.set i (some x)) H m'.g m'.s us := by
  unfold bind at h
  split at h
  · cases h
  · rename_i hn
    have h1 : i < m.g.length := Classical.byContradiction fun q => hn (.inr q)
    have h2 : c.md[i]? ≠ some true := fun q => hn (.inl (by rw [← hc, List.getD_eq_getElem?_getD, q]; rfl))
    split at h
    · rename_i t s hs
      cases h
      rw [hs] at E
      exact E.setT h1 h2
    · rename_i p s hs
      split at h
      · cases h
      · rename_i hp
        cases h
        rw [hs] at E
        exact E.setA h1 h2 hp
    · cases h
def sSet (md : List Bool) (i : Nat) (ge : GE) : GS := fun m => match ge m with
  | some (.ok m') => match bind md i m' with
    | some m2 => some (.nx m2)
    | none => none
  | some (.ex C g) => some (.ex C g)
  | none => none
theorem ss_set {t : TE} (s : SE K md W t ge) : SS K md W (tAsg t (gName i)) (sSet md i ge) := by
  intro c σ H m us D o hc E hg hp
  simp only [sSet] at hg
  split at hg
  · rename_i m1 h1
    split at hg
    · rename_i m2 h2
      cases hg
      exact s c σ H m us _ _ hc E h1 fun x H1 E1 => hp _ H1 (bind_ok hc E1 h2)
    · cases hg
  · rename_i h1
    cases hg
    exact s c σ H m us _ _ hc E h1 fun H1 E1 => hp σ H1 E1
  · cases hg
theorem ms_set {x : Str} (hN : X.N.Nodup) (hi : X.N[i]? = some x) (hx : Loc X.env.scope x) (h : ME X T md W e ge) (hs : swapsWith e (some (.Name x pos')) pos.line X.env = pure false := by rfl)
    (hf : X.fn x = true ∨ X.env.scope.names.lookup x = some .local := by first | exact .inl rfl | exact .inr rfl | assumption) : MS X T md W (.Assign [.Name x pos'] e pos) (sSet md i ge) := by
  obtain ⟨t, p, s⟩ := h
  exact ⟨_, ps_set hN hi hx p hs hf, ss_set s⟩
end
section
variable {K : KC} {X : Cx} {T : KT} {md : List Bool} {W : WX} {c : Cz} {σ : St} {H H' : Hp} {Γ τ : List Ent} {us vs ws : List V} {v w wp : V} {p q r : List Nat} {t : Tr} {ts : List Tr} {k : Nk} {i j j' : Nat} {a : Addr} {Z : Zn} {Φ Ψ : Ps} {ob : HO}
theorem RepL.set1 {Z : Zn} {Ψa Ψb : Ps} (h : RepL K Z H .own ts vs Ψa) (hj : j < ts.length) (h2 : RepL K Z H .own [t] [v] Ψb) (d : ∀ b, ¬ (Ψa b ∧ Ψb b)) : ∃ Ψ', RepL K Z H .own (ts.set j t) (vs.set j v) Ψ' ∧ ∀ b, Ψ' b → Ψa b ∨ Ψb b := by
  obtain ⟨v', Φ1, Φ2, e1, r, d1, u, r2, _⟩ := RepL.at_ _ h (i := j) (t := ts[j]) (List.getElem?_eq_getElem hj)
  obtain ⟨_, _, Θ1, Θ2, e2, a1, a2, ad, au⟩ := h2
  cases e2
  have n2 : ∀ b, ¬ Θ2 b := a2.2
  have hw := getq_lt' e1
  have g1 : (ts.set j .any)[j]? = some .any := List.getElem?_set_self hj
  have r3 := RepL.put _ (RepL.anyv (v := v) _ r2 g1) g1 (List.getElem?_set_self hw) a1 (by grind)
  rw [List.set_set] at r3
  exact ⟨_, r3, by grind⟩
/-- p leads into or to what stands at q -/
def pre : List Nat → List Nat → Bool
  | [], _ => true
  | _, [] => false
  | i :: p, j :: q => decide (i = j) && pre p q
def killJ (p : List Nat) : Ent → Ent
  | .al q => if pre p q = true then .no else .al q
  | e => e
theorem Raw.split : ∀ {p : List Nat} {ws : List V} {j : Nat} {r : List Nat} {w : V}, p ≠ [] → Raw H ws (p ++ j :: r) w → ∃ wp us, Raw H ws p wp ∧ Kids H wp us ∧ Raw H us (j :: r) w
  | [], _, _, _, _, h, _ => absurd rfl h
  | [i], ws, j, r, w, _, h => by
    obtain ⟨v, us, e, kd, h⟩ := h
    exact ⟨v, us, e, kd, h⟩
  | i :: i2 :: p, ws, j, r, w, _, h => by
    obtain ⟨v, us, e, kd, h⟩ := h
    obtain ⟨wp, us2, h1, h2, h3⟩ := Raw.split (p := i2 :: p) (by simp) h
    exact ⟨wp, us2, ⟨v, us, e, kd, h1⟩, h2, h3⟩
theorem Raw.join : ∀ {p : List Nat} {ws : List V} {j : Nat} {r : List Nat} {wp w : V} {us : List V}, Raw H ws p wp → Kids H wp us → Raw H us (j :: r) w → Raw H ws (p ++ j :: r) w
  | [], _, _, _, _, _, _, h, _, _ => h.elim
  | [i], ws, j, r, wp, w, us, h, kd, h2 => ⟨wp, us, h, kd, h2⟩
  | i :: i2 :: p, ws, j, r, wp, w, us, h, kd, h2 => by
    obtain ⟨v, us2, e, kd2, h⟩ := h
    exact ⟨v, us2, e, kd2, Raw.join h kd h2⟩
theorem nbel_or : ∀ {p q : List Nat}, nbel p q = true ∨ ∃ j r, q = p ++ j :: r
  | [], [] => .inl rfl
  | [], j :: q => .inr ⟨j, q, rfl⟩
  | i :: p, [] => .inl rfl
  | i :: p, j :: q => by
    by_cases e : i = j
    · subst e
      rcases nbel_or (p := p) (q := q) with h | ⟨j, r, h⟩
      · exact .inl (by simpa [nbel] using h)
      · exact .inr ⟨j, r, by rw [h]; rfl⟩
    · exact .inl (by simp [nbel, e])
theorem pre_app : ∀ {p : List Nat} {j j' : Nat} {r : List Nat}, pre (p ++ [j]) (p ++ j' :: r) = decide (j = j')
  | [], j, j', r => by simp [pre]
  | i :: p, j, j', r => by simp [pre, pre_app (p := p)]
theorem getT_app : ∀ {p : List Nat} {t : Tr} {j : Nat} {r : List Nat}, getT t p = some (.nd k .own ts) → k ≠ .tup → getT t (p ++ j :: r) = match ts[j]? with
    | some y => getT y r
    | none => none
  | [], t, j, r, h, hk => by
    cases h
    show getT (.nd k .own ts) (j :: r) = _
    cases k <;> simp_all [getT] <;> rfl
  | i :: p, t, j, r, h, hk => by
    cases t with
    | any => simp [getT] at h
    | a v => simp [getT] at h
    | nd k' o us =>
      cases k' <;> cases o <;> simp_all [getT]
      all_goals
        cases e : us[i]? with
        | none => simp [e] at h
        | some y =>
          simp only [e] at h ⊢
          exact getT_app h hk
theorem getG_app (h : getG Γ p = some (.nd k .own ts)) (hk : k ≠ .tup) : getG Γ (p ++ j :: r) = match ts[j]? with
    | some y => getT y r
    | none => none := by
  cases p with
  | nil => simp [getG] at h
  | cons i p =>
    simp only [getG, List.cons_append] at h ⊢
    cases e : Γ[i]? with
    | none => simp [e] at h
    | some x =>
      cases x with
      | no => simp [e] at h
      | al _ => simp [e] at h
      | tr t =>
        simp only [e] at h ⊢
        exact getT_app h hk
theorem getG_ne_nil (h : (getG Γ p).isSome = true) : p ≠ [] := fun e => by subst e; simp [getG] at h
/-- an item of a list, dict or instance that stands at a place is replaced; aliases of the other items stay -/
theorem EnvOk.setIn (E : EnvOk K c σ H Γ (.al p :: .tr t :: τ) (w :: v :: us)) (g : getG Γ p = some (.nd k .own ts)) (hk : k ≠ .tup) (hj : j < ts.length) (he : esc t = true) (hob : ∀ a vs, ObjAt K k .own H a vs → w = .ref a → ObjAt K k .own (upd H a ob) a (vs.set j v)) :
    ∃ a, w = .ref a ∧ EnvOk K c σ (upd H a ob) ((setG Γ p (.nd k .own (ts.set j t))).map (killJ (p ++ [j]))) (τ.map (killJ (p ++ [j]))) us := by
  obtain ⟨Z, ws, Φ, Ψ, sl, tm, dj, so, to, ln, zo, zf, z0, zs, st, pv⟩ := E
  have gs : (getG Γ p).isSome = true := by rw [g]; rfl
  have g2 : getP (trees Γ) p = some (.nd k .own ts) := by rw [getG_getP gs, g]
  obtain ⟨w', Φ1, Φ2, raw, rp, d, u, r2, stab⟩ := RepL.path sl g2
  obtain ⟨w0, e0, raw0, _⟩ := to 0 p rfl
  cases e0
  cases raw.fn raw0
  obtain ⟨a, vs, Ξ, rfl, ho, hl, hn⟩ := id rp
  have ho : ObjAt K k .own H a vs := ho
  have hl : RepL K Z H .own ts vs Ξ := hl
  have hn : Nod Z k .own a ts Ξ Φ1 := hn
  have hn' := hn.own hk
  obtain ⟨_, _, Θ1, Θ2, e1, a1, a2, ad, au⟩ := tm
  cases e1
  obtain ⟨_, _, Θ3, Θ4, e2, a3, a4, ad2, au2⟩ := a2
  cases e2
  have a1 : ∀ b, ¬ Θ1 b := a1
  have ho' := hob a vs ho rfl
  have hsome : (H a).isSome = true := Rep.isS _ rp a (by grind)
  have nta : ∀ ob, H a = some ob → nt' ob = true := fun ob e => Rep.nt _ rp a ob (by grind) e
  have tp : TSK K H (upd H a ob) := tsk fun b o' e n => by
    rw [upd_ne (fun q => by subst q; have := nta o' e; rw [n] at this; cases this)]; exact e
  have kpo : ∀ {Θ : Ps}, (∀ b, Θ b → b ≠ a) → (∀ b, Z.fz b ∨ Z.ln b → b ≠ a) → Kp K Z Z H (upd H a ob) Θ := fun {Θ} h1 h2 => ⟨fun _ h => h, fun _ h => h, fun b o' q e => by rw [upd_ne (by rcases q with q | q; exact h1 b q; exact h2 b q)]; exact e, tp⟩
  have za : ∀ b, Z.fz b ∨ Z.ln b → b ≠ a := fun b q e => by
    subst e
    have := (zo b (.inl ((u b).mpr (.inl (by grind))))).2
    rcases q with q | q
    · exact this.1 q
    · exact this.2 q
  have one : RepL K Z H .own [t] [v] Θ3 := ⟨v, [], Θ3, fun _ => False, rfl, a3, ⟨rfl, fun _ h => h⟩, by simp, by simp⟩
  obtain ⟨Ξ', rk, subk⟩ := RepL.set1 hl hj one (by grind)
  have rk' := RepL.fr _ rk (kpo (Θ := Ξ') (by grind) za)
  have node : Rep K Z (upd H a ob) .own (.nd k .own (ts.set j t)) (.ref a) (fun b => b = a ∨ Ξ' b) := ⟨a, vs.set j v, Ξ', rfl, ho', rk', .mk hk (fun _ => Iff.rfl) (by grind) (escL_set hn'.2.2 he)⟩
  have r3 := RepL.fr _ r2 (kpo (Θ := Φ2) (by grind) za)
  have keepR : ∀ b ob', ¬ Φ1 b → H b = some ob' → upd H a ob b = some ob' := fun b ob' nb e => by rw [upd_ne (by grind)]; exact e
  have npp : ∀ {p : List Nat}, nbel p p = true := by
    intro p
    induction p with
    | nil => rfl
    | cons i p ih => simp [nbel, ih]
  have rawp : Raw (upd H a ob) ws p (.ref a) := stab p (.ref a) _ npp (by rw [g2]; rfl) raw keepR
  have gset : getP (setP (trees Γ) p .any) p = some .any := getP_setP_same (by rw [g2]; rfl)
  have r4 := RepL.putP r3 gset rawp node (by grind) (by cases k <;> first | exact absurd rfl hk | rfl)
  rw [setP_setP] at r4
  have lenv := RepL.len _ hl
  -- aliases
  have rawq : ∀ {q : List Nat} {x : V}, (getG Γ q).isSome = true → pre (p ++ [j]) q = false → Raw H ws q x → Raw (upd H a ob) ws q x ∧ (getG (setG Γ p (.nd k .own (ts.set j t))) q).isSome = true := fun {q x} gq hpre rq => by
    rcases nbel_or (p := p) (q := q) with nb | ⟨j', r, rfl⟩
    · exact ⟨stab q x _ nb (getG_isP gq) rq keepR, getG_setG gq gs nb⟩
    · rw [pre_app] at hpre
      have hjj : j ≠ j' := by simpa using hpre
      obtain ⟨wq, us2, h1, h2, h3⟩ := Raw.split (getG_ne_nil gs) rq
      cases raw.fn h1
      cases (objKids ho hk).fn h2
      have gk : getG Γ (p ++ j' :: r) = match ts[j']? with
          | some y => getT y r
          | none => none := getG_app g hk
      have gk2 : (getP ts (j' :: r)).isSome = true := by
        cases e : ts[j']? with
        | none => rw [gk, e] at gq; cases gq
        | some y => rw [getP_getT e]; rw [gk, e] at gq; exact gq
      have h3' : Raw (upd H a ob) vs (j' :: r) x := Raw.keep hl gk2 h3 fun b ob' hb e => by rw [upd_ne (by grind)]; exact e
      refine ⟨Raw.join rawp (objKids ho' hk) ?_, ?_⟩
      · match r, h3' with
        | [], h3' =>
          show (vs.set j v)[j']? = some x
          rw [List.getElem?_set_ne hjj]
          exact h3'
        | j2 :: r, h3' =>
          obtain ⟨v2, us3, e3, k3, h4⟩ := h3'
          exact ⟨v2, us3, by rw [List.getElem?_set_ne hjj]; exact e3, k3, h4⟩
      · have : getG (setG Γ p (.nd k .own (ts.set j t))) p = some (.nd k .own (ts.set j t)) := getG_setG_same gs
        rw [getG_app this hk, List.getElem?_set_ne hjj]
        rw [gk] at gq
        exact gq
  have trk : ∀ (L : List Ent), trees (L.map (killJ (p ++ [j]))) = trees L := fun L => by
    simp only [trees, List.map_map]
    congr 1
    funext e
    cases e with
    | al q => by_cases h : pre (p ++ [j]) q = true <;> simp [killJ, h, Ent.tree]
    | _ => rfl
  have gkj : ∀ {Γ : List Ent} {q : List Nat}, getG (Γ.map (killJ (p ++ [j]))) q = getG Γ q := fun {Γ q} => by
    cases q with
    | nil => rfl
    | cons i q =>
      simp only [getG, List.getElem?_map]
      cases Γ[i]? with
      | none => rfl
      | some x =>
        cases x with
        | al r => by_cases h : pre (p ++ [j]) r = true <;> simp [killJ, h]
        | _ => rfl
  refine ⟨a, rfl, Z, ws, fun b => (b = a ∨ Ξ' b) ∨ Φ2 b, Θ4, ⟨by rw [trk, trees_setG gs]; exact r4, by rw [trk]; exact RepL.fr _ a4 (kpo (Θ := Θ4) (by grind) za), by grind, ?_, ?_, by rw [ln]; simp [setG_len], by grind, zf, z0, fun b q => ?_, fun b o0 e0 => ?_, pv⟩⟩
  · intro i e he
    rw [List.getElem?_map] at he
    cases hx : (setG Γ p (.nd k .own (ts.set j t)))[i]? with
    | none => simp [hx] at he
    | some x =>
      simp only [hx, Option.map_some, Option.some.injEq] at he
      subst he
      rcases setG_at hx with ⟨y, z, hy, rfl⟩ | hx'
      · exact so i _ hy
      · have h1 := so i x hx'
        cases x with
        | no => trivial
        | tr y => exact h1
        | al q =>
          obtain ⟨x1, x2, x3, x4⟩ := h1
          by_cases hq : pre (p ++ [j]) q = true
          · simp only [killJ, hq, if_true]
            trivial
          · simp only [killJ, hq, if_false]
            have := rawq x4 (by simpa using hq) x3
            exact ⟨x1, x2, this.1, by rw [gkj]; exact this.2⟩
  · intro i q hi
    rw [List.getElem?_map] at hi
    cases hx : τ[i]? with
    | none => simp [hx] at hi
    | some x =>
      simp only [hx, Option.map_some, Option.some.injEq] at hi
      cases x with
      | no => simp [killJ] at hi
      | tr _ => simp [killJ] at hi
      | al q' =>
        by_cases hq : pre (p ++ [j]) q' = true
        · simp [killJ, hq] at hi
        · simp only [killJ, hq, if_false] at hi
          cases hi
          obtain ⟨w1, s1, s2, s3⟩ := to (i + 2) q (by simpa using hx)
          have := rawq s3 (by simpa using hq) s2
          exact ⟨w1, by simpa using s1, this.1, by rw [gkj]; exact this.2⟩
  · rw [upd_ne (za b q)]
    exact zs b q
  · obtain ⟨o', e', hno⟩ := st b o0 e0
    by_cases hb : b = a
    · subst hb
      refine ⟨ob, upd_same, fun nf => ?_⟩
      rcases (zo b (.inl ((u b).mpr (.inl (by grind))))).1 with z | z
      · exact absurd z nf
      · rw [z] at e0; cases e0
    · exact ⟨o', by rw [upd_ne hb]; exact e', hno⟩
end
section
variable {K : KC} {X : Cx} {T : KT} {md : List Bool} {W : WX} {c : Cz} {σ : St} {H H' : Hp} {Γ τ τ1 : List Ent} {us us1 vs vs' : List V} {v w : V} {p q : List Nat} {t : Tr} {ts ts' : List Tr} {k k' : Nk} {i j : Nat} {a : Addr}
variable {st : Stmt} {rest sts sts' : List Stmt} {g g' : GS} {ge gf gt gi go gv : GE} {e b o ie : Expr} {pos pos' : Pos}
/-- o[i] = v, of a list -/
def stSub : Ms → Option Ms := fun m => match m.s with
  | .tr (.a (.int x)) :: .al p :: .tr t :: s => match getG m.g p with
    | some (.nd .lst .own ts) => match ixN ts.length x with
      | some j => if esc t = true then some ⟨(setG m.g p (.nd .lst .own (ts.set j t))).map (killJ (p ++ [j])), s.map (killJ (p ++ [j]))⟩ else none
      | none => none
    | _ => none
  | _ => none
theorem nodE (hk : k ≠ .tup) : ∀ {ts : List Tr}, (∀ {Z : Zn} {H : Hp} {v : V} {Φ : Ps}, Rep K Z H .own (.nd k .own ts) v Φ → escL ts = true) := fun {ts Z H v Φ} r => by
  obtain ⟨a, vs, Ψ, _, _, _, hn⟩ := r
  have hn : Nod Z k .own a ts Ψ Φ := hn
  exact (hn.own hk).2.2
theorem EnvOk.escAt (E : EnvOk K c σ H Γ (.al p :: τ) (w :: us)) (g : getG Γ p = some (.nd k .own ts)) (hk : k ≠ .tup) : escL ts = true := by
  obtain ⟨Z, ws, Φ, Ψ, EE⟩ := E
  obtain ⟨Θ, r⟩ := EE.view (n := 0) (e := .al p) rfl rfl g
  exact nodE hk r
/-- o.f = v -/
def stFld (tab : List (Nat × Nat)) : Ms → Option Ms := fun m => match m.s with
  | .al p :: .tr t :: s => match getG m.g p with
    | some (.nd (.ins n k) .own ts) => match tab.lookup n with
      | some j => if esc t = true ∧ k < 900 then
          if j < k then some ⟨(setG m.g p (.nd (.ins n k) .own (ts.set j t))).map (killJ (p ++ [j])), s.map (killJ (p ++ [j]))⟩
          else if j = k then some ⟨kill p (setG m.g p (.nd (.ins n (k + 1)) .own (ts ++ [t]))), kill p s⟩ else none
        else none
      | none => none
    | _ => none
  | _ => none
theorem putF_set {f : Str} : ∀ {ns : List Str} {vs : List V} {j : Nat}, ns.idxOf? f = some j → ns.length = vs.length → putF f v (ns.zip vs) = ns.zip (vs.set j v)
  | [], _, _, h, _ => by simp at h
  | n :: ns, [], _, _, l => by simp at l
  | n :: ns, x :: vs, j, h, l => by
    rw [List.idxOf?_cons] at h
    rw [List.zip_cons_cons]
    unfold putF
    by_cases e : n = f
    · subst e
      simp at h
      subst h
      simp
    · have e1 : (n == f) = false := by simpa using e
      rw [e1] at h
      simp only [Bool.false_eq_true, if_false, Option.map_eq_some_iff] at h
      obtain ⟨j', h1, rfl⟩ := h
      rw [if_neg e, putF_set h1 (by simpa using l)]
      simp
theorem putF_app {f : Str} : ∀ {ns : List Str} {vs : List V} {k : Nat}, ns.idxOf? f = some k → (ns.take k).length = vs.length → putF f v ((ns.take k).zip vs) = (ns.take (k + 1)).zip (vs ++ [v])
  | [], _, _, h, _ => by simp at h
  | n :: ns, [], k, h, l => by
    have : k = 0 := by
      cases k with
      | zero => rfl
      | succ k => simp at l
    subst this
    rw [List.idxOf?_cons] at h
    by_cases e : (n == f) = true
    · have : n = f := by simpa using e
      subst this
      simp [putF]
    · simp [e] at h
  | n :: ns, x :: vs, k, h, l => by
    cases k with
    | zero => simp at l
    | succ k =>
      rw [List.idxOf?_cons] at h
      by_cases e : (n == f) = true
      · simp [e] at h
      · rw [if_neg e] at h
        simp only [Option.map_eq_some_iff] at h
        obtain ⟨j', h1, h2⟩ := h
        have : j' = k := by omega
        subst this
        have ne : n ≠ f := by simpa using e
        rw [List.take_succ_cons, List.zip_cons_cons]
        unfold putF
        rw [if_neg ne, putF_app h1 (by simpa using l)]
        simp
theorem stFld_ok {m m' : Ms} {x y : V} {fl : Str} {tab : List (Nat × Nat)} {Q : Hp → Prop} (ht : FldOk K.K ⟨K.P, K.w, K.ct, K.nm, K.et, K.ef⟩ fl tab) (E : EnvOk K c σ H m.g m.s (y :: x :: us)) (h : stFld tab m = some m') (hq : ∀ H', EnvOk K c σ H' m'.g m'.s us → Q H') :
    ∃ a C dx fs, y = .ref a ∧ H a = some (.ins C dx fs) ∧ Cls K.K C ∧ NoAttr K.K C fl ∧ fs.length < 1000 ∧ Q (upd H a (.ins C dx (putF fl x fs))) ∧ ∀ n k o ts e s', m.s = e :: s' → viewE m.g e = some (.nd (.ins n k) o ts) → C = K.ct n := by
  unfold stFld at h
  split at h
  · rename_i p t s hs
    split at h
    · rename_i n k ts hg
      split at h
      · rename_i j hj
        split at h
        · rename_i he
          rw [hs] at E
          have hes := E.escAt hg (by simp)
          obtain ⟨Z, ws, Φ, Ψ, EE⟩ := id E
          obtain ⟨Θ, a, vs, Ξ, rfl, ho, hlr, hn⟩ := EE.view (n := 0) (e := .al p) rfl rfl hg
          obtain ⟨l, dx, ho⟩ := ho
          have hlen := RepL.len _ hlr
          obtain ⟨c1, c2, c3⟩ := ht n j (mem_lookup hj)
          have c3 : (K.nm n).idxOf? fl = some j := c3
          have c1 : Cls K.K (K.ct n) := c1
          have c2 : NoAttr K.K (K.ct n) fl := c2
          have lt : (((K.nm n).take k).zip vs).length < 1000 := by
            rw [List.length_zip, List.length_take]
            have := he.2
            omega
          refine ⟨a, _, dx, _, rfl, ho, c1, c2, lt, ?_, fun n' k' o' ts' e' s' q1 q2 => by
            rw [hs] at q1
            cases q1
            rw [show viewE m.g (.al p) = getG m.g p from rfl, hg] at q2
            cases q2
            rfl⟩
          split at h
          · rename_i hjk
            cases h
            refine hq _ ?_
            have hjt : j < ts.length := by
              rw [hlen, ← l, List.length_take]
              have : j < (K.nm n).length := by
                have h3 := c3
                rw [List.idxOf?_eq_some_iff] at h3
                exact h3.1
              omega
            rw [putF_set (idx_take c3 hjk) l]
            obtain ⟨a', e, E2⟩ := EnvOk.setIn (j := j) (ob := .ins (K.ct n) dx (((K.nm n).take k).zip (vs.set j x))) E hg (by simp) hjt he.1 (fun a2 vs2 ho2 e2 => by
              cases e2
              obtain ⟨l3, dx2, ho2⟩ := ho2
              have ev : vs = vs2 := Kids.fn (H := H) (v := .ref a) ⟨a, rfl, .inr (.inl ⟨_, dx, _, ho, l⟩)⟩ ⟨a, rfl, .inr (.inl ⟨_, dx2, _, ho2, l3⟩)⟩
              subst ev
              exact ⟨by simpa using l, dx, upd_same⟩)
            cases e
            exact E2
          · split at h
            · rename_i hjk hjk2
              cases h
              subst hjk2
              refine hq _ ?_
              rw [putF_app c3 l]
              have hjn : j < (K.nm n).length := by
                have h3 := c3
                rw [List.idxOf?_eq_some_iff] at h3
                exact h3.1
              obtain ⟨a', e, E2⟩ := EnvOk.modP (ins := [t]) (us1 := [x]) (outs := []) (vouts := []) (k' := .ins n (j + 1)) (ts' := ts ++ [t]) (ob := .ins (K.ct n) dx (((K.nm n).take (j + 1)).zip (vs ++ [x]))) (τ := s) (us := us) E rfl hg (by simp) (by simp) (fun a2 vs2 e2 ho2 l2 => by
                cases e2
                obtain ⟨l3, dx2, ho2⟩ := ho2
                have ev : vs = vs2 := Kids.fn (H := H) (v := .ref a) ⟨a, rfl, .inr (.inl ⟨_, dx, _, ho, l⟩)⟩ ⟨a, rfl, .inr (.inl ⟨_, dx2, _, ho2, l3⟩)⟩
                subst ev
                refine ⟨vs ++ [x], by simpa using l2, ⟨by rw [List.length_take] at l ⊢; simp; omega, dx, upd_same⟩, fun Z Ψa Ψb r1 r2 d => ⟨_, by simpa using RepL.append _ r1 r2 d, fun b q => q⟩⟩) rfl (by
                  rw [escL_all] at hes ⊢
                  intro y hy
                  rcases List.mem_append.mp hy with z | z
                  · exact hes y z
                  · rw [List.mem_singleton.mp z]; exact he.1)
              cases e
              simpa using E2
            · cases h
        · cases h
      · cases h
    · cases h
  · cases h
def sFldS (tab : List (Nat × Nat)) (gv go : GE) : GS := fun m => match gSeq gv go m with
  | some (.ok m') => match stFld tab m' with
    | some m2 => some (.nx m2)
    | none => none
  | some (.ex C g) => some (.ex C g)
  | none => none
theorem ms_fld {fl : Str} {tab : List (Nat × Nat)} {spos tpos : Pos} (hv : ME X T md W e gv) (ho : ME X T md W o go) (ht : FldOk X.K T fl tab) (hs : swapsWith e (some (.Attribute o fl spos)) tpos.line X.env = pure false := by rfl) : MS X T md W (.Assign [.Attribute o fl spos] e tpos) (sFldS tab gv go) := by
  obtain ⟨tv, pv, sv⟩ := hv
  obtain ⟨to, po, so⟩ := ho
  refine ⟨_, ps_fld po pv hs, fun c σ H m us D oo hc E hg hp => ?_⟩
  simp only [sFldS, gSeq] at hg
  cases e1 : gv m with
  | none => simp [e1] at hg
  | some r1 =>
    cases r1 with
    | ex C g' =>
      simp only [e1] at hg
      cases hg
      exact sv c σ H m us _ _ hc E e1 fun H1 E1 => hp σ H1 E1
    | ok m1 =>
      simp only [e1] at hg
      refine sv c σ H m us _ _ hc E e1 fun x H1 E1 => ?_
      cases e2 : go m1 with
      | none => simp [e2] at hg
      | some r2 =>
        cases r2 with
        | ex C g' =>
          simp only [e2] at hg
          cases hg
          exact so c σ H1 m1 _ _ _ hc E1 e2 fun H2 E2 => hp σ H2 E2
        | ok m2 =>
          simp only [e2] at hg
          refine so c σ H1 m1 _ _ _ hc E1 e2 fun y H2 E2 => ?_
          split at hg
          · rename_i m4 h4
            cases hg
            obtain ⟨a, C, dx, fs, z1, z2, z3, z4, z5, z6, _⟩ := stFld_ok ht E2 h4 fun H4 E4 => hp σ H4 E4
            exact ⟨a, C, dx, fs, z1, z2, z3, z4, z5, z6⟩
          · cases hg
end
section
variable {K : KC} {X : Cx} {T : KT} {md : List Bool} {W : WX} {c : Cz} {σ : St} {H H' : Hp} {Γ τ τ1 : List Ent} {us us1 vs vs' : List V} {v w : V} {p q : List Nat} {t : Tr} {ts ts' : List Tr} {k k' : Nk} {i j n : Nat} {a : Addr} {en en' : Ent} {o : Ow}
variable {st : Stmt} {rest sts sts' body : List Stmt} {g g' gb : GS} {ge gf gt gi go gv ga gs f : GE} {e b oe ie tg iter : Expr} {es : List Expr} {pos pos' : Pos}
/-! methods of lists -/
def chkL : GE := fun m => match m.s with
  | e :: _ => match viewE m.g e with
    | some (.nd .lst _ _) => some (.ok m)
    | _ => none
  | _ => none
def RM (K : KC) (md : List Bool) (W : WX) (n : Nat) (r : V → List V → Hp → VK → Prop) (f : GE) : Prop := ∀ (c : Cz) (σ : St) (H : Hp) (m : Ms) (us vs : List V) (x : V) (Q : VK) (rr : Rs), c.md = md → vs.length = n → EnvOk K c σ H m.g m.s (vs.reverse ++ x :: us) → f m = some rr → PostE K c W σ us Q rr → r x vs H Q
theorem chkL_ok {m : Ms} {x : V} {rr : Rs} (E : EnvOk K c σ H m.g m.s (x :: us)) (h : chkL m = some rr) : rr = .ok m ∧ tyV K.K "list" x H := by
  unfold chkL at h
  split at h
  · rename_i e s hs
    split at h
    · rename_i o ts hv
      cases h
      rw [hs] at E
      obtain ⟨Z, ws, Φ, Ψ, EE⟩ := E
      obtain ⟨Θ, a, vs, Ξ, rfl, ho, _⟩ := EE.view (n := 0) rfl rfl hv
      exact ⟨rfl, .inl ⟨rfl, vs, objL ho⟩⟩
    · cases h
  · cases h
theorem me_bm {r : V → List V → Hp → VK → Prop} {nmm : Str} {apos : Pos} (ho : ME X T md W oe go) (ha : MA X T md W es ga) (hf : RM (kcm X.K T) md W es.length r f) (h : ∀ {to : TE} {t : TA}, PE X oe to → PA X es t → PE X (.Call (.Attribute oe nmm apos) es [] pos) (tBM X.K "list" r to t)) : ME X T md W (.Call (.Attribute oe nmm apos) es [] pos) (gSeq go (gSeq chkL (gSeq ga f))) := by
  obtain ⟨to, po, so⟩ := ho
  obtain ⟨t, pa, sa⟩ := ha
  refine ⟨_, h po pa, fun c σ H m us Q rr hc E hg hp => ?_⟩
  simp only [gSeq] at hg
  split at hg
  · rename_i m1 h1
    refine so c σ H m us _ _ hc E h1 fun x H1 E1 => ?_
    split at hg
    · rename_i m2 h2
      obtain ⟨e2, ty⟩ := chkL_ok E1 h2
      cases e2
      refine ⟨ty, ?_⟩
      split at hg
      · rename_i m3 h3
        exact sa c σ H1 m1 _ _ _ hc E1 h3 fun vs H2 hl E2 => hf c σ H2 m3 us vs x Q rr hc hl E2 hg hp
      · rename_i h3
        refine sa c σ H1 m1 _ _ _ hc E1 hg ?_
        cases rr with
        | ex C g' => exact hp
        | ok m2 => exact absurd hg (h3 m2)
    · rename_i h2
      obtain ⟨e2, ty⟩ := chkL_ok E1 hg
      exact absurd (e2 ▸ hg) (h2 m1)
  · rename_i h1
    refine so c σ H m us _ _ hc E hg ?_
    cases rr with
    | ex C g' => exact hp
    | ok m2 => exact absurd hg (h1 m2)
def fApp : GE := fun m => match m.s with
  | .tr t :: .al p :: s => match getG m.g p with
    | some (.nd .lst .own ts) => if esc t = true ∧ ts.length < sizeLine then some (.ok ⟨kill p (setG m.g p (.nd .lst .own (ts ++ [t]))), .tr (.a .non) :: kill p s⟩) else none
    | _ => none
  | _ => none
theorem escL_app (h : escL ts = true) (he : esc t = true) : escL (ts ++ [t]) = true := by
  rw [escL_all] at h ⊢
  intro y hy
  rcases List.mem_append.mp hy with z | z
  · exact h y z
  · rw [List.mem_singleton.mp z]; exact he
theorem fApp_ok : RM K md W 1 rAppend fApp := by
  intro c σ H m us vs x Q rr hc hl E hf hp
  match vs, hl with
  | [y], _ =>
    unfold fApp at hf
    split at hf
    · rename_i t p s hs
      split at hf
      · rename_i ts hg
        split at hf
        · rename_i he
          cases hf
          rw [hs] at E
          have E1 : EnvOk K c σ H m.g (.al p :: .tr t :: s) (x :: y :: us) := EnvOk.swap2 E
          have hes := E1.escAt hg (by simp)
          obtain ⟨Z, ws, Φ, Ψ, EE⟩ := id E1
          obtain ⟨Θ, a, vs, Ξ, rfl, ho, hlr, hn⟩ := EE.view (n := 0) (e := .al p) rfl rfl hg
          have ho : H a = some (.lst vs) := ho
          have hlen := RepL.len _ hlr
          refine ⟨a, vs, y, rfl, rfl, ho, by rw [← hlen]; exact he.2, hp _ _ ?_⟩
          obtain ⟨a', e, E2⟩ := EnvOk.modP (ins := [t]) (us1 := [y]) (outs := []) (vouts := []) (k' := .lst) (ts' := ts ++ [t]) (ob := .lst (vs ++ [y])) (τ := s) (us := us) E1 rfl hg (by simp) (by simp) (fun a2 vs2 e2 ho2 l2 => by
            cases e2
            have ho2 : H a = some (.lst vs2) := ho2
            rw [ho] at ho2
            cases ho2
            exact ⟨vs ++ [y], by simpa using l2, upd_same, fun Z Ψa Ψb r1 r2 d => ⟨_, by simpa using RepL.append _ r1 r2 d, fun b q => q⟩⟩) rfl (escL_app hes he.1)
          cases e
          exact EnvOk.atom (by simpa using E2) .non
        · cases hf
      · cases hf
    · cases hf
def fPopA : GE := fun m => match m.s with
  | .tr (.a (.int x)) :: .al p :: s => match getG m.g p with
    | some (.nd .lst .own ts) => if -(2 ^ 63) ≤ x ∧ x < 2 ^ 63 then match seqIndex? x ts.length with
        | some j => match ts[j]? with
          | some t => some (.ok ⟨kill p (setG m.g p (.nd .lst .own (ts.eraseIdx j))), .tr t :: kill p s⟩)
          | none => none
        | none => none
      else none
    | _ => none
  | _ => none
theorem escL_erase (h : escL ts = true) : escL (ts.eraseIdx j) = true := by
  rw [escL_all] at h ⊢
  exact fun y hy => h y (List.mem_of_mem_eraseIdx hy)
theorem popStep {ad : Addr} {E1 : EnvOk K c σ H Γ (.al p :: τ) (.ref ad :: us)} (hg : getG Γ p = some (.nd .lst .own ts)) (ho : H ad = some (.lst vs)) (ht : ts[j]? = some t) (hv : vs[j]? = some v) : EnvOk K c σ (upd H ad (.lst (vs.eraseIdx j))) (kill p (setG Γ p (.nd .lst .own (ts.eraseIdx j)))) (.tr t :: kill p τ) (v :: us) := by
  obtain ⟨a', e, E2⟩ := EnvOk.modP (ins := []) (us1 := []) (outs := [t]) (vouts := [v]) (k' := .lst) (ts' := ts.eraseIdx j) (ob := .lst (vs.eraseIdx j)) (τ := τ) (us := us) E1 rfl hg (by simp) (by simp) (fun a2 vs2 e2 ho2 l2 => by
    cases e2
    have ho2 : H ad = some (.lst vs2) := ho2
    rw [ho] at ho2
    cases ho2
    refine ⟨vs.eraseIdx j, by rw [List.length_eraseIdx, List.length_eraseIdx, l2], upd_same, fun Z Ψa Ψb r1 r2 d => ?_⟩
    obtain ⟨v', Φ1, Φ2, e1, r, d1, u, _, r3⟩ := RepL.at_ _ r1 ht
    rw [hv] at e1
    cases e1
    have one : RepL K Z H .own [t] [v] Φ1 := ⟨v, [], Φ1, fun _ => False, rfl, r, ⟨rfl, fun _ h => h⟩, by simp, by simp⟩
    exact ⟨_, RepL.append _ r3 one (by grind), by grind⟩) rfl (escL_erase (E1.escAt hg (by simp)))
  cases e
  simpa using E2
theorem fPopA_ok : RM K md W 1 rPopAt fPopA := by
  intro c σ H m us vs x Q rr hc hl E hf hp
  match vs, hl with
  | [y], _ =>
    unfold fPopA at hf
    split at hf
    · rename_i xi p s hs
      split at hf
      · rename_i ts hg
        split at hf
        · rename_i hb
          split at hf
          · rename_i j hj
            split at hf
            · rename_i t ht
              cases hf
              rw [hs] at E
              have ey := top_a E
              subst ey
              have E1 := E.drop
              obtain ⟨Z, ws, Φ, Ψ, EE⟩ := id E1
              obtain ⟨Θ, a, vs, Ξ, rfl, ho, hlr, hn⟩ := EE.view (n := 0) (e := .al p) rfl rfl hg
              have ho : H a = some (.lst vs) := ho
              have hlen := RepL.len _ hlr
              have hjv : j < vs.length := by rw [← hlen]; exact getq_lt' ht
              exact ⟨a, vs, xi, j, vs[j], rfl, rfl, ho, hb.1, hb.2, by rw [← hlen]; exact hj, List.getElem?_eq_getElem hjv, hp _ _ (popStep (E1 := E1) hg ho ht (List.getElem?_eq_getElem hjv))⟩
            · cases hf
          · cases hf
        · cases hf
      · cases hf
    · cases hf
def fPop : GE := fun m => match m.s with
  | .al p :: s => match getG m.g p with
    | some (.nd .lst .own ts) => match ts[ts.length - 1]? with
      | some t => some (.ok ⟨kill p (setG m.g p (.nd .lst .own (ts.eraseIdx (ts.length - 1)))), .tr t :: kill p s⟩)
      | none => none
    | _ => none
  | _ => none
/-! x op= e -/
def sAug (md : List Bool) (i : Nat) (ge f : GE) : GS := sSet md i (gSeq (gSeq (gVar i) ge) f)
/-! targets -/
def SG (K : KC) (md : List Bool) (t : TG) (b : Ms → Option Ms) : Prop := ∀ (c : Cz) (σ : St) (H : Hp) (m m' : Ms) (us : List V) (x : V) (Q : St → Hp → Prop), c.md = md → EnvOk K c σ H m.g m.s (x :: us) → b m = some m' → (∀ σ' H', EnvOk K c σ' H' m'.g m'.s us → Q σ' H') → t x σ H Q
def MG (X : Cx) (T : KT) (md : List Bool) (tg : Expr) (b : Ms → Option Ms) : Prop := ∃ t, PG X tg t ∧ SG (kcm X.K T) md t b
theorem sg_name : SG K md (gName i) (bind md i) := fun c σ H m m' us x Q hc E h hq => hq _ _ (bind_ok hc E h)
theorem mg_name {x : Str} (hN : X.N.Nodup) (hi : X.N[i]? = some x) (hx : Loc X.env.scope x) (hf : X.fn x = true ∨ X.env.scope.names.lookup x = some .local := by first | exact .inl rfl | exact .inr rfl | assumption) : MG X T md (.Name x pos) (bind md i) := ⟨_, pg_name hN hi hx hf, sg_name⟩
end
section
variable {K : KC} {X : Cx} {T : KT} {md : List Bool} {W : WX} {c : Cz} {σ : St} {H H' : Hp} {Γ τ τ1 : List Ent} {us us1 vs vs' : List V} {v w : V} {p q : List Nat} {t : Tr} {ts ts' : List Tr} {k k' : Nk} {i j n : Nat} {a : Addr} {en en' : Ent} {o : Ow}
variable {st : Stmt} {rest sts sts' body : List Stmt} {g g' gb : GS} {ge gf gt gi go gv ga gs f : GE} {e b oe ie tg iter : Expr} {es : List Expr} {pos pos' : Pos} {bd : Ms → Option Ms}
/-- the j-th item beside the thing itself -/
def kidX (e : Ent) (k : Nk) (o : Ow) (ts : List Tr) (j : Nat) : Option Ent := match ts[j]? with
  | none => none
  | some t => if cp (kid o t) = true then some (.tr (kid o t)) else match e, k with
    | .al _, .tup => none
    | .al p, _ => if o = .own then some (.al (p ++ [j])) else none
    | _, _ => none
theorem EnvOk.dup (E : EnvOk K c σ H Γ (.al p :: τ) (w :: us)) : EnvOk K c σ H Γ (.al p :: .al p :: τ) (w :: w :: us) := by
  obtain ⟨Z, ws, Φ, Ψ, EE⟩ := id E
  obtain ⟨w0, e0, raw, g⟩ := EE.to 0 p rfl
  cases e0
  refine E.pushA (fun ws2 Z2 Φ2 Ψ2 EE2 => ?_) g
  obtain ⟨w1, e1, raw1, _⟩ := EE2.to 0 p rfl
  cases e1
  exact raw1
theorem EnvOk.dupC (E : EnvOk K c σ H Γ (.tr t :: τ) (w :: us)) (hc : cp t = true) : EnvOk K c σ H Γ (.tr t :: .tr t :: τ) (w :: w :: us) := by
  obtain ⟨Z, ws, Φ, Ψ, EE⟩ := E
  refine EE.swapE (τ1 := [.tr t]) (us1 := [w]) (τ1' := [.tr t, .tr t]) (us1' := [w, w]) rfl (by simp) (fun Ψ1 r zo => ?_) rfl
  have hs := RepL.isS _ r
  obtain ⟨v0, vs0, Θ1, Θ2, e1, a1, a2, ad, au⟩ := id r
  cases e1
  have n0 := Rep.cp0 _ a1 hc
  have n2 : ∀ b, ¬ Θ2 b := a2.2
  exact ⟨Z, Θ1, ⟨w, [w], Θ1, Θ1, rfl, a1, ⟨w, [], Θ1, Θ2, rfl, a1, a2, by grind, by grind⟩, by grind, by grind⟩, .same _ _ _ EE.zs hs _ fun b q => absurd q (n0 b)⟩
theorem EnvOk.kidX (E : EnvOk K c σ H Γ (en :: τ) (w :: us)) (hc : ∀ t, en = .tr t → cp t = true) (hv : viewE Γ en = some (.nd k o ts)) (hk : kidX en k o ts j = some en') :
    ∃ a vs w', w = .ref a ∧ ObjAt K k o H a vs ∧ ts.length = vs.length ∧ vs[j]? = some w' ∧ EnvOk K c σ H Γ (en' :: en :: τ) (w' :: w :: us) := by
  have hE : kidE en k o ts j = some en' := by
    unfold Mine.kidX at hk
    unfold kidE
    split at hk
    · cases hk
    · rename_i t ht
      try simp only [ht]
      split at hk
      · rename_i hcp
        rw [if_pos hcp]
        exact hk
      · rename_i hcp
        rw [if_neg hcp]
        split at hk
        · cases hk
        · rename_i p hne
          split at hk
          · rename_i ho
            cases hk
            cases k <;> simp_all
          · cases hk
        · cases hk
  have E2 : EnvOk K c σ H Γ (en :: en :: τ) (w :: w :: us) := by
    cases en with
    | no => simp [viewE] at hv
    | tr t => exact E.dupC (hc t rfl)
    | al p => exact E.dup
  exact E2.kidOf hv hE
def cpE : Ent → Bool
  | .tr t => cp t
  | _ => true
/-- for over the thing on top, which stays there -/
def loopE (k : Nk) (bd : Ms → Option Ms) (body : GS) : Nat → Nat → Ms → Option Os
  | 0, i, m => match m.s with
    | e :: s => match viewE m.g e with
      | some (.nd k' _ ts) => if k' = k ∧ ts.length = i then some (.nx ⟨m.g, s⟩) else none
      | _ => none
    | _ => none
  | r + 1, i, m => match m.s with
    | e :: s => match viewE m.g e with
      | some (.nd k' o ts) => if k' = k ∧ cpE e = true ∧ ts.length = i + (r + 1) then match kidX e k o ts i with
          | some e' => match bd ⟨m.g, e' :: e :: s⟩ with
            | some m1 => match body m1 with
              | some (.nx m2) => loopE k bd body r (i + 1) m2
              | some (.ct m2) => loopE k bd body r (i + 1) m2
              | some (.bk m2) => some (.nx ⟨m2.g, m2.s.tail⟩)
              | some (.rt t m2) => some (.rt t ⟨m2.g, m2.s.tail⟩)
              | some (.ex C g) => some (.ex C g)
              | none => none
            | none => none
          | none => none
        else none
      | _ => none
    | _ => none
/-- what a for walks: made ready, with its length -/
def ready : Ms → Option (Ms × Nk × Nat) := fun m => match m.s with
  | .tr (.nd k o ts) :: s => if k = .lst ∨ k = .tup then some (⟨m.g, .tr (kid .lnt (.nd k o ts)) :: s⟩, k, ts.length) else none
  | .al p :: s => match getG m.g p with
    | some (.nd .lst .own ts) => some (⟨m.g, .al p :: s⟩, .lst, ts.length)
    | _ => none
  | _ => none
def sFor (gs : GE) (bd : Ms → Option Ms) (body : GS) : GS := fun m => match gs m with
  | some (.ok m1) => match ready m1 with
    | some (m2, k, n) => loopE k bd body n 0 m2
    | none => none
  | some (.ex C g) => some (.ex C g)
  | none => none
theorem tail_len {s : List Ent} (E : EnvOk K c σ H Γ s us) : s.length = us.length := by
  obtain ⟨Z, ws, Φ, Ψ, EE⟩ := E
  have := RepL.len _ EE.tm
  simpa [trees] using this
theorem EnvOk.tail {s : List Ent} {x : V} (E : EnvOk K c σ H Γ s (x :: us)) : EnvOk K c σ H Γ s.tail us := by
  have := tail_len E
  match s, this with
  | e :: s, _ => exact E.drop
theorem EnvOk.tail2 {s : List Ent} {x y : V} (E : EnvOk K c σ H Γ (.tr t :: s) (y :: x :: us)) : EnvOk K c σ H Γ (.tr t :: s.tail) (y :: us) := by
  have := tail_len E
  match s, this with
  | e :: s, _ => exact (EnvOk.swap2 E).drop
/-- the abstract loop: J walks, the items come as the machine has them -/
theorem loop_ok {J : It} {tb : L2.TS} {gT : TG} {D : Ends} {w : V} {oo : Os} (hm : c.md = md) (hT : SG K md gT bd) (hB : SS K md W tb gb)
    (stop : ∀ i H Γ τ σ us e ts o, EnvOk K c σ H Γ (e :: τ) (w :: us) → viewE Γ e = some (.nd k o ts) → ts.length = i → J.stop i H)
    (step : ∀ i H Γ τ σ us e ts o e', EnvOk K c σ H Γ (e :: τ) (w :: us) → cpE e = true → viewE Γ e = some (.nd k o ts) → kidX e k o ts i = some e' → i < ts.length → J.go i H ∧ ∀ x H', J.yld i H x H' → H' = H ∧ EnvOk K c σ H Γ (e' :: e :: τ) (x :: w :: us))
    (hp : PostS K c W us D oo) : ∀ {σ : St} {H : Hp} {m : Ms} {n : Nat}, EnvOk K c σ H m.g m.s (w :: us) → loopE k bd gb n 0 m = some oo →
    ∃ Wv : Nat → Nat → St → Hp → Prop, (∃ mm, Wv 0 mm σ H) ∧ ∀ i mm σ H, Wv i mm σ H →
      (J.stop i H ∧ D.nx σ H) ∨ (J.go i H ∧ ∃ N : St → Hp → Prop, (∀ σ' H', N σ' H' → ∃ m', m' < mm ∧ Wv (i + 1) m' σ' H') ∧ ∀ x H', J.yld i H x H' → gT x σ H' fun σ2 H2 => tb { D with nx := N, ct := N, bk := D.nx } σ2 H2) := by
  intro σ H m n E hg
  refine ⟨fun i r σ H => ∃ m : Ms, EnvOk K c σ H m.g m.s (w :: us) ∧ loopE k bd gb r i m = some oo, ⟨n, m, E, hg⟩, ?_⟩
  rintro i r σ H ⟨m, E, hg⟩
  cases r with
  | zero =>
    simp only [loopE] at hg
    split at hg
    · rename_i e s hs
      split at hg
      · rename_i k' o ts hv
        split at hg
        · rename_i hl
          cases hg
          rw [hs] at E
          obtain ⟨rfl, hl⟩ := hl
          exact .inl ⟨stop i H m.g s σ us e ts o E hv hl, hp σ H E.drop⟩
        · cases hg
      · cases hg
    · cases hg
  | succ r =>
    simp only [loopE] at hg
    split at hg
    · rename_i e s hs
      split at hg
      · rename_i k' o ts hv
        split at hg
        · rename_i hl
          obtain ⟨rfl, hl⟩ := hl
          split at hg
          · rename_i e' hk
            split at hg
            · rename_i m1 h1
              rw [hs] at E
              obtain ⟨go, yld⟩ := step i H m.g s σ us e ts o e' E hl.1 hv hk (by have := hl.2; omega)
              refine .inr ⟨go, fun σ' H' => ∃ m : Ms, EnvOk K c σ' H' m.g m.s (w :: us) ∧ loopE k' bd gb r (i + 1) m = some oo, fun σ' H' z => ⟨r, by omega, z⟩, fun x H' y => ?_⟩
              obtain ⟨rfl, E1⟩ := yld x H' y
              refine hT c σ H' ⟨m.g, e' :: e :: s⟩ m1 _ x _ hm E1 h1 fun σ2 H2 E2 => ?_
              cases h2 : gb m1 with
              | none => simp [h2] at hg
              | some o2 =>
                refine hB c σ2 H2 m1 _ _ o2 hm E2 h2 ?_
                cases o2 with
                | nx m2 =>
                  simp only [h2] at hg
                  exact fun σ3 H3 E3 => ⟨m2, E3, hg⟩
                | ct m2 =>
                  simp only [h2] at hg
                  exact fun σ3 H3 E3 => ⟨m2, E3, hg⟩
                | bk m2 =>
                  simp only [h2] at hg
                  cases hg
                  exact fun σ3 H3 E3 => hp σ3 H3 E3.tail
                | rt t m2 =>
                  simp only [h2] at hg
                  cases hg
                  exact fun σ3 x3 H3 E3 => hp σ3 x3 H3 E3.tail2
                | ex C g' =>
                  simp only [h2] at hg
                  cases hg
                  exact hp
            · cases hg
          · cases hg
        · cases hg
      · cases hg
    · cases hg
theorem PI.or {tg iter : Expr} {w1 w2 : TI} (h1 : PI X tg iter w1) (h2 : PI X tg iter w2) : PI X tg iter (fun σ H R => w1 σ H R ∨ w2 σ H R) := by
  refine ⟨fun pins s σ H R I h => ?_⟩
  rcases h with h | h
  · exact h1.run pins s σ H R I h
  · exact h2.run pins s σ H R I h
theorem ready_ok {m m' : Ms} {k : Nk} {x : V} (E : EnvOk K c σ H m.g m.s (x :: us)) (h : ready m = some (m', k, n)) : EnvOk K c σ H m'.g m'.s (x :: us) ∧ ∃ e s o ts, m'.s = e :: s ∧ viewE m'.g e = some (.nd k o ts) ∧ (k = .lst ∨ k = .tup) := by
  unfold ready at h
  split at h
  · rename_i k2 o ts s hs
    split at h
    · rename_i hk
      cases h
      rw [hs] at E
      rcases hk with rfl | rfl
      · exact ⟨E.lend, _, _, _, _, rfl, rfl, .inl rfl⟩
      · exact ⟨E.lend, _, _, _, _, rfl, rfl, .inr rfl⟩
    · cases h
  · rename_i p s hs
    split at h
    · rename_i ts hg
      cases h
      rw [hs] at E
      exact ⟨E, _, _, _, _, rfl, hg, .inl rfl⟩
    · cases h
  · cases h
theorem viewObj (E : EnvOk K c σ H Γ (en :: τ) (w :: us)) (hv : viewE Γ en = some (.nd k o ts)) : ∃ a vs, w = .ref a ∧ ObjAt K k o H a vs ∧ ts.length = vs.length := by
  obtain ⟨Z, ws, Φ, Ψ, EE⟩ := E
  obtain ⟨Θ, a, vs, Ξ, rfl, ho, hl, _⟩ := EE.view (n := 0) rfl rfl hv
  exact ⟨a, vs, rfl, ho, RepL.len _ hl⟩
theorem cpE_tr (h : cpE en = true) : ∀ t, en = .tr t → cp t = true := fun t e => by subst e; exact h
theorem ms_for (hs : ME X T md W iter gs) (hT : MG X T md tg bd) (hB : MSs X T md W body gb) (hp : PassesOwn (model X.prog X.w) X.A X.env X.xe) (hc : X.calm = true)
    (hf : ∀ x, foldedSetIterable iter X.env x = pure x := by intro _; rfl) : MS X T md W (.For tg iter body [] pos) (sFor gs bd gb) := by
  obtain ⟨ti, pi, si⟩ := hs
  obtain ⟨tt, pt, st⟩ := hT
  obtain ⟨tb, pb, sb⟩ := hB
  refine ⟨_, ps_for hp hc (PI.or (pi_list pi) (pi_tup pi)) pt pb hf, fun c σ H m us D oo hm E hg hpo => ?_⟩
  simp only [sFor] at hg
  split at hg
  · rename_i m1 h1
    split at hg
    · rename_i m2 k n h2
      -- the kind is known ahead
      have hk : k = .lst ∨ k = .tup := by
        unfold ready at h2
        split at h2
        · split at h2
          · rename_i hk
            cases h2
            exact hk
          · cases h2
        · split at h2
          · cases h2
            exact .inl rfl
          · cases h2
        · cases h2
      rcases hk with rfl | rfl
      · refine .inl (si c σ H m us _ _ hm E h1 fun x H1 E1 => ?_)
        obtain ⟨E2, e, s, o, ts, hs2, hv, _⟩ := ready_ok E1 h2
        obtain ⟨a, vs, rfl, ho, _⟩ := viewObj (hs2 ▸ E2) hv
        refine ⟨a, rfl, ⟨vs, objL ho⟩, ?_⟩
        refine loop_ok hm st sb (fun i H Γ τ σ us e ts o E hv hl => ?_) (fun i H Γ τ σ us e ts o e' E hcp hv hk hi => ?_) hpo E2 hg
        · obtain ⟨a', vs', e, ho, hl2⟩ := viewObj E hv
          cases e
          exact ⟨vs', objL ho, by omega⟩
        · obtain ⟨a', vs', w', e, ho, hl2, hw, E3⟩ := EnvOk.kidX E (cpE_tr hcp) hv hk
          cases e
          refine ⟨⟨vs', w', objL ho, hw⟩, fun x H' y => ?_⟩
          obtain ⟨rfl, y⟩ := y
          have := y vs' (objL ho)
          rw [hw] at this
          cases this
          exact ⟨rfl, E3⟩
      · refine .inr (si c σ H m us _ _ hm E h1 fun x H1 E1 => ?_)
        obtain ⟨E2, e, s, o, ts, hs2, hv, _⟩ := ready_ok E1 h2
        obtain ⟨a, vs, rfl, ho, _⟩ := viewObj (hs2 ▸ E2) hv
        refine ⟨a, rfl, ⟨vs, objT ho⟩, ?_⟩
        refine loop_ok hm st sb (fun i H Γ τ σ us e ts o E hv hl => ?_) (fun i H Γ τ σ us e ts o e' E hcp hv hk hi => ?_) hpo E2 hg
        · obtain ⟨a', vs', e, ho, hl2⟩ := viewObj E hv
          cases e
          exact ⟨vs', objT ho, by omega⟩
        · obtain ⟨a', vs', w', e, ho, hl2, hw, E3⟩ := EnvOk.kidX E (cpE_tr hcp) hv hk
          cases e
          refine ⟨⟨vs', w', objT ho, hw⟩, fun x H' y => ?_⟩
          obtain ⟨rfl, y⟩ := y
          have := y vs' (objT ho)
          rw [hw] at this
          cases this
          exact ⟨rfl, E3⟩
    · cases hg
  · rename_i h1
    cases hg
    exact .inl (si c σ H m us _ _ hm E h1 fun H1 E1 => hpo σ H1 E1)
  · cases hg
/-! for over a range: no object is on the stack -/
def loopR (bd : Ms → Option Ms) (body : GS) (lo : Int) : Nat → Nat → Ms → Option Os
  | 0, _, m => some (.nx m)
  | r + 1, i, m => match bd ⟨m.g, .tr (.a (.int (lo + i))) :: m.s⟩ with
    | some m1 => match body m1 with
      | some (.nx m2) => loopR bd body lo r (i + 1) m2
      | some (.ct m2) => loopR bd body lo r (i + 1) m2
      | some (.bk m2) => some (.nx m2)
      | some (.rt t m2) => some (.rt t m2)
      | some (.ex C g) => some (.ex C g)
      | none => none
    | none => none
theorem loopR_ok {lo : Int} {tb : L2.TS} {gT : TG} {D : Ends} {oo : Os} (hm : c.md = md) (hT : SG K md gT bd) (hB : SS K md W tb gb) (hp : PostS K c W us D oo) {m : Ms} (E : EnvOk K c σ H m.g m.s us) (hg : loopR bd gb lo n 0 m = some oo) :
    ∃ Wv : Nat → Nat → St → Hp → Prop, (∃ mm, Wv 0 mm σ H) ∧ ∀ i mm σ H, Wv i mm σ H →
      ((Itr lo n).stop i H ∧ D.nx σ H) ∨ ((Itr lo n).go i H ∧ ∃ N : St → Hp → Prop, (∀ σ' H', N σ' H' → ∃ m', m' < mm ∧ Wv (i + 1) m' σ' H') ∧ ∀ x H', (Itr lo n).yld i H x H' → gT x σ H' fun σ2 H2 => tb { D with nx := N, ct := N, bk := D.nx } σ2 H2) := by
  refine ⟨fun i r σ H => i + r = n ∧ ∃ m : Ms, EnvOk K c σ H m.g m.s us ∧ loopR bd gb lo r i m = some oo, ⟨n, by omega, m, E, hg⟩, ?_⟩
  rintro i r σ H ⟨hir, m, E, hg⟩
  cases r with
  | zero =>
    simp only [loopR] at hg
    cases hg
    exact .inl ⟨by show n ≤ i; omega, hp σ H E⟩
  | succ r =>
    simp only [loopR] at hg
    split at hg
    · rename_i m1 h1
      refine .inr ⟨by show i < n; omega, fun σ' H' => i + 1 + r = n ∧ ∃ m : Ms, EnvOk K c σ' H' m.g m.s us ∧ loopR bd gb lo r (i + 1) m = some oo, fun σ' H' z => ⟨r, by omega, z⟩, fun x H' y => ?_⟩
      obtain ⟨rfl, rfl⟩ := y
      refine hT c σ H' ⟨m.g, _ :: m.s⟩ m1 _ _ _ hm (E.atom _) h1 fun σ2 H2 E2 => ?_
      cases h2 : gb m1 with
      | none => simp [h2] at hg
      | some o2 =>
        refine hB c σ2 H2 m1 _ _ o2 hm E2 h2 ?_
        cases o2 with
        | nx m2 =>
          simp only [h2] at hg
          exact fun σ3 H3 E3 => ⟨by omega, m2, E3, hg⟩
        | ct m2 =>
          simp only [h2] at hg
          exact fun σ3 H3 E3 => ⟨by omega, m2, E3, hg⟩
        | bk m2 =>
          simp only [h2] at hg
          cases hg
          exact hp
        | rt t m2 =>
          simp only [h2] at hg
          cases hg
          exact hp
        | ex C g' =>
          simp only [h2] at hg
          cases hg
          exact hp
    · cases hg
def sForR1 (ga : GE) (bd : Ms → Option Ms) (body : GS) : GS := fun m => match ga m with
  | some (.ok ⟨g', .tr (.a (.int j)) :: s⟩) => if -(2 ^ 62) ≤ j ∧ j < 2 ^ 62 then loopR bd body 0 j.toNat 0 ⟨g', s⟩ else none
  | some (.ex C g) => some (.ex C g)
  | _ => none
theorem ms_forR1 {rp : Pos} (ha : MA X T md W [e] ga) (hT : MG X T md tg bd) (hB : MSs X T md W body gb) (hgl : Gl X "range") (hmg : X.mg "range" = none) (hp : PassesOwn (model X.prog X.w) X.A X.env X.xe) (hc : X.calm = true)
    (hs : starEach [e] X.env = [(false, eval e X.env)] := by rfl) (hf : ∀ x, foldedSetIterable (.Call (.Name "range" rp) [e] [] pos') X.env x = pure x := by intro _; rfl) : MS X T md W (.For tg (.Call (.Name "range" rp) [e] [] pos') body [] pos) (sForR1 ga bd gb) := by
  obtain ⟨ta, pa, sa⟩ := ha
  obtain ⟨tt, pt, st⟩ := hT
  obtain ⟨tb, pb, sb⟩ := hB
  refine ⟨_, ps_for hp hc (pi_range1 hgl hmg pa hs) pt pb hf, fun c σ H m us D oo hm E hg hpo => ?_⟩
  simp only [sForR1] at hg
  split at hg
  · rename_i g' j s h1
    split at hg
    · rename_i hb
      refine sa c σ H m us _ _ hm E h1 fun vs H1 hl E1 => ?_
      match vs, hl with
      | [x], _ =>
        have E1 : EnvOk (kcm X.K T) c σ H1 g' (.tr (.a (.int j)) :: s) (x :: us) := E1
        cases top_a E1
        exact ⟨j, rfl, hb.1, hb.2, loopR_ok hm st sb hpo (m := ⟨g', s⟩) E1.drop hg⟩
    · cases hg
  · rename_i h1
    cases hg
    exact sa c σ H m us _ _ hm E h1 fun H1 E1 => hpo σ H1 E1
  · cases hg
end
/-! errors whose context is None (they are raised where nothing is handled): the names of ExcCtx in place of Exc's -/
section
variable {X : Cx} {W : WX} {E : XK}
abbrev Takes (X : Cx) (W : WX) : Prop := L2N.Takes X W
abbrev PMk := L2N.PMk
theorem passAt (tk : Takes X W) (σ : L2.St) : PassesAt (L2N.CX X.prog X.w) X σ (WE W σ) := L2N.passAt tk σ
theorem takes0 : Takes X (fun _ _ _ _ => False) := by
  rintro u s ⟨_, _, _, _, _, _, _, _, _, _, _, _, _, _, _, _, z⟩
  exact z.elim
theorem passL : Passes (L2N.CX X.prog X.w) X E0 := by
  rintro _ _ _ _ _ _ _ ⟨_, _, _, _, _, _, _, _, _, _, _, _, z⟩
  exact z.elim
theorem takes_of (hs : X.stack = X.env :: X.outer) (hf : X.env.frame = some X.env.locals) (hex : X.ex = []) {E₁ : Value → Shared → Prop} (hx : X.xe = fun e s' => wpAny (model X.prog X.w) X.A (leaving X.env e) (fun _ s'' => L2N.CX X.prog X.w X.outer X.H_0 X.s_0 E e s'') E₁ s') :
    Takes X (fun cls d _ H => E cls d H) := L2N.takes_of hs hf hex hx
theorem pmk_own {x m : Str} {j : Nat} {p p2 pos : Pos} {C : Addr} {bmB : List Value} {B newId initId : String} (F : ExcBaseFacts B newId initId bmB) (q : PySem.W.excIn X.K C bmB newId = true) (gC : X.mg x = some (.ref C)) (kC : PySem.W.keepIn X.K (.ref C) = true) (r : Raises X (.ref C)) (hg : Gl X x)
    (notDb : (x == ("__debug__" : Str)) = false := by decide) : PMk X (.Call (.Name x p) [.Constant (.str m) j p2] [] pos) (fun _ H Q => Q (.ref C) none H) := L2N.pmk_own F q gC kC r hg notDb
end
section
variable {K : KC} {X : Cx} {T : KT} {md mdc : List Bool} {W : WX} {c : Cz} {σ : St} {H H' : Hp} {Γ τ τ1 : List Ent} {us us1 vs vs' : List V} {v w : V} {p q : List Nat} {t : Tr} {ts ts' : List Tr} {k k' : Nk} {i j n d : Nat} {a : Addr} {en en' : Ent} {o : Ow}
/-! a def's promise by a function on trees -/
inductive Rt | rt (r : Tr) (ts : List Tr) | ex (C : Nat) (ts : List Tr)
abbrev GF := List Tr → Option Rt
structure Cl (H H' : Hp) (F S S' F1 : Ps) : Prop where
  ob : ∀ b ob, H b = some ob → ¬ F b → H' b = some ob
  oc : ∀ b, F b → (H' b).isSome = true
  nw : ∀ b, F1 b → (F b ∨ H b = none) ∧ ¬ S' b
  s0 : ∀ b, S b → S' b
  s1 : ∀ b, S' b → S b ∨ F b ∨ H b = none
  ss : ∀ b, S' b → (H' b).isSome = true
/-- the parameters behind an error, ahead of them the error's own dict -/
def RepX (K : KC) (C : Nat) (S : Ps) (H : HX) (ts : List Tr) (vs : List V) (F : Ps) : Prop := match K.ef C with
  | none => H.2 = none ∧ RepL K ⟨S, fun _ => False⟩ H.1 .own ts vs F
  | some (f, x) => ∃ d, H.2 = some d ∧ RepL K ⟨S, fun _ => False⟩ H.1 .own (xdT d f x :: ts) (.ref d :: vs) F
def PostF (K : KC) (vs : List V) (H : Hp) (F S : Ps) (Q : VK) (E : XK) : Rt → Prop
  | .rt r ts' => ∀ v H' S' F1, RepL K ⟨S', fun _ => False⟩ H' .own (r :: ts') (v :: vs) F1 → Cl H H' F S S' F1 → Q v H'
  | .ex C ts' => ∀ (H' : HX) S' F1, RepX K C S' H' ts' vs F1 → Cl H H'.1 F S S' F1 → E (.ref (K.et C)) H'.2 H'.1
/-- only what is a parameter of its own comes back -/
def outP : List Bool → List Ent → List Tr
  | [], _ => []
  | true :: bs, e :: es => e.tree :: outP bs es
  | false :: bs, _ :: es => .any :: outP bs es
  | _ :: bs, [] => .any :: outP bs []
def mdOk : List Bool → List Tr → Bool
  | [], [] => true
  | b :: bs, t :: ts => (b || cp t) && mdOk bs ts
  | _, _ => false
def spOf (K : KC) (md : List Bool) (G : GF) : Sp := fun vs H Q E => ∃ (ts : List Tr) (Z : Zn) (F : Ps) (o : Rt), RepL K Z H .own ts vs F ∧ mdOk md ts = true ∧ (∀ b, F b → ¬ Z.fz b ∧ ¬ Z.ln b) ∧ (∀ b, Z.fz b ∨ Z.ln b → (H b).isSome = true) ∧ G ts = some o ∧ PostF K vs H F Z.fz Q E o
def runF (md : List Bool) (N : Nat) (g : GS) : GF := fun ts => match g ⟨ts.map Ent.tr ++ List.replicate (N - ts.length) .no, []⟩ with
  | some (.nx m) => if escL (outP md m.g) = true then some (.rt (.a .non) (outP md m.g)) else none
  | some (.rt t m) => if esc t = true ∧ escL (outP md m.g) = true then some (.rt t (outP md m.g)) else none
  | some (.ex C g') => if escL (outP md g') = true then some (.ex C (outP md g')) else none
  | _ => none
mutual
theorem Rep.esc0 {Z : Zn} {H : Hp} : ∀ (t : Tr) {m : Ow} {v : V} {Φ : Ps}, Rep K Z H m t v Φ → m ≠ .lnt → (m = .own → esc t = true) → Rep K ⟨Z.fz, fun _ => False⟩ H m t v Φ
  | .any, _, _, _, h, _, _ => h
  | .a _, _, _, _, h, _, _ => h
  | .nd k o ts, m, v, Φ, h, hm, he => by
    obtain ⟨a, vs, Ψ, e1, ho, hl, hn⟩ := h
    have nl : eff m o ≠ .lnt := by
      cases m with
      | lnt => exact absurd rfl hm
      | frz => simp [eff]
      | own =>
        have := he rfl
        cases k <;> cases o <;> simp_all [esc, eff]
    refine ⟨a, vs, Ψ, e1, ho, RepL.esc0 ts hl nl fun q => ?_, ?_⟩
    · cases m with
      | lnt => exact absurd rfl hm
      | frz => simp [eff] at q
      | own =>
        have := he rfl
        cases k <;> cases o <;> simp_all [esc, eff, Nod]
    · cases k <;> cases eo : eff m o <;> simp_all [Nod]
theorem RepL.esc0 {Z : Zn} {H : Hp} : ∀ (ts : List Tr) {m : Ow} {vs : List V} {Φ : Ps}, RepL K Z H m ts vs Φ → m ≠ .lnt → (m = .own → escL ts = true) → RepL K ⟨Z.fz, fun _ => False⟩ H m ts vs Φ
  | [], _, _, _, h, _, _ => h
  | t :: ts, m, vs, Φ, h, hm, he => by
    obtain ⟨v', vs', Φ1, Φ2, e1, h1, h2, d1, u⟩ := h
    exact ⟨v', vs', Φ1, Φ2, e1, Rep.esc0 t h1 hm (fun q => by have := he q; simp_all [escL]), RepL.esc0 ts h2 hm (fun q => by have := he q; simp_all [escL]), d1, u⟩
end
theorem outP_ok {Z : Zn} {H : Hp} : ∀ {md : List Bool} {Γ : List Ent} {ws vs : List V} {Φ : Ps}, RepL K Z H .own (trees Γ) ws Φ → vs.length = md.length → (∀ i : Nat, md[i]? = some true → ws[i]? = vs[i]?) → ∃ Φ', RepL K Z H .own (outP md Γ) vs Φ' ∧ ∀ b, Φ' b → Φ b
  | [], Γ, ws, vs, Φ, h, l, _ => by
    match vs, l with
    | [], _ => exact ⟨fun _ => False, ⟨rfl, fun _ h => h⟩, fun _ h => h.elim⟩
  | b :: md, [], ws, vs, Φ, h, l, e => by
    match vs, l with
    | x :: vs, l =>
      obtain ⟨Φ', r, s⟩ := outP_ok (md := md) (Γ := []) (ws := []) (vs := vs) (Φ := fun _ => False) ⟨rfl, fun _ h => h⟩ (by simpa using l) (fun i hi => by
        have := e (i + 1) (by simpa using hi)
        rw [h.1] at this
        simpa using this)
      have hb : outP (b :: md) [] = .any :: outP md [] := by cases b <;> rfl
      rw [hb]
      exact ⟨Φ', ⟨x, vs, fun _ => False, Φ', rfl, fun _ h => h, r, by simp, by simp⟩, fun b q => (s b q).elim⟩
  | b :: md, en :: Γ, ws, vs, Φ, h, l, e => by
    match vs, l with
    | x :: vs, l =>
      obtain ⟨v0, ws', Φ1, Φ2, e1, h1, h2, d, u⟩ := h
      subst e1
      obtain ⟨Φ', r, s⟩ := outP_ok (md := md) (Γ := Γ) (ws := ws') (vs := vs) h2 (by simpa using l) (fun i hi => by simpa using e (i + 1) (by simpa using hi))
      cases b with
      | false => exact ⟨Φ', ⟨x, vs, fun _ => False, Φ', rfl, fun _ h => h, r, by simp, by simp⟩, fun b q => (u b).mpr (.inr (s b q))⟩
      | true =>
        have : v0 = x := by simpa using e 0 rfl
        subst this
        exact ⟨fun b => Φ1 b ∨ Φ' b, ⟨v0, vs, Φ1, Φ', rfl, h1, r, by grind, fun _ => Iff.rfl⟩, by grind⟩
theorem mdOk_len : ∀ {md : List Bool} {ts : List Tr}, mdOk md ts = true → md.length = ts.length
  | [], [], _ => rfl
  | b :: bs, t :: ts, h => by
    simp only [mdOk, Bool.and_eq_true] at h
    simp [mdOk_len h.2]
  | [], _ :: _, h => by simp [mdOk] at h
  | _ :: _, [], h => by simp [mdOk] at h
theorem RepL.anys : ∀ (n : Nat) {Z : Zn} {H : Hp}, RepL K Z H .own (List.replicate n .any) (List.replicate n .non) (fun _ => False)
  | 0, _, _ => ⟨rfl, fun _ h => h⟩
  | n + 1, _, _ => ⟨.non, _, fun _ => False, fun _ => False, rfl, fun _ h => h, RepL.anys n, by simp, by simp⟩
theorem start_ok {N : List Str} {Z : Zn} {F : Ps} (r : RepL K Z H .own ts vs F) (hl : ts.length ≤ N.length) (hmd : md.length = ts.length) (zo : ∀ b, F b → ¬ Z.fz b ∧ ¬ Z.ln b) (zs : ∀ b, Z.fz b ∨ Z.ln b → (H b).isSome = true) :
    EnvOk K ⟨H, F, Z.fz, md, vs⟩ (start N vs) H (ts.map Ent.tr ++ List.replicate (N.length - ts.length) .no) [] [] := by
  have lt := RepL.len _ r
  have es : start N vs = vs.map some ++ List.replicate (N.length - vs.length) none := by
    first | rfl | (unfold start; rfl) | (unfold start; simp)
  refine ⟨Z, vs ++ List.replicate (N.length - ts.length) .non, F, fun _ => False, ⟨?_, ⟨rfl, fun _ h => h⟩, by simp, ?_, by simp, ?_, ?_, fun b q => .inl q, fun b q => q, zs, fun b o e => ⟨o, e, fun _ => rfl⟩, ?_⟩⟩
  · have := RepL.append _ r (RepL.anys (K := K) (Z := Z) (H := H) (N.length - ts.length)) (by simp)
    have et : trees (ts.map Ent.tr ++ List.replicate (N.length - ts.length) .no) = ts ++ List.replicate (N.length - ts.length) .any := by
      have := trees_tr (ts := ts)
      simp only [trees, List.map_append, List.map_replicate] at this ⊢
      rw [this]
      rfl
    rw [et]
    exact this.cast _ (by simp)
  · intro i e he
    by_cases hi : i < ts.length
    · rw [List.getElem?_append_left (by simpa using hi)] at he
      have : ∃ t, e = .tr t := by
        simp at he
        obtain ⟨_, _, he⟩ := he
        exact ⟨_, he.symm⟩
      obtain ⟨t, rfl⟩ := this
      have hiv : i < vs.length := by omega
      refine ⟨vs[i], by rw [List.getElem?_append_left hiv, List.getElem?_eq_getElem hiv], ?_⟩
      rw [es, List.getElem?_append_left (by simpa using hiv)]
      simp [hiv]
    · rw [List.getElem?_append_right (by simpa using hi)] at he
      have := List.mem_of_getElem? he
      simp at this
      rw [this.2]
      trivial
  · rw [es]
    simp
    omega
  · intro b q
    rcases q with q | q
    · exact ⟨.inl q, zo b q⟩
    · exact q.elim
  · intro i hi
    have h1 : i < md.length := getq_lt' hi
    rw [List.getElem?_append_left (by omega)]
theorem exit_ok {Z0 : Zn} {F : Ps} {s : List Ent} (hF : ∀ b, F b → (H b).isSome = true) (hmd : md.length = vs.length) (E : EnvOk K ⟨H, F, Z0.fz, md, vs⟩ σ H' Γ s us) (he : escL (trees s) = true) (ho : escL (outP md Γ) = true) : ∃ S' F1, RepL K ⟨S', fun _ => False⟩ H' .own (trees s ++ outP md Γ) (us ++ vs) F1 ∧ Cl H H' F Z0.fz S' F1 := by
  obtain ⟨Z, ws, Φ, Ψ, sl, tm, dj, so, to, ln, zo, zf, z0, zs, st, pv⟩ := E
  obtain ⟨Φ', r, sub⟩ := outP_ok (md := md) (vs := vs) sl hmd.symm pv
  have r1 := RepL.esc0 _ r (by simp) fun _ => ho
  have r2 := RepL.esc0 _ tm (by simp) fun _ => he
  have hs1 := RepL.isS _ sl
  have hs2 := RepL.isS _ tm
  refine ⟨Z.fz, fun b => Ψ b ∨ Φ' b, RepL.append _ r2 r1 (by grind), ⟨fun b ob e n => ?_, fun b q => ?_, fun b q => ?_, z0, fun b q => zf b q, fun b q => zs b (.inl q)⟩⟩
  · obtain ⟨o', e', h⟩ := st b ob e
    rw [e', h n]
  · obtain ⟨ob, e⟩ := Option.isSome_iff_exists.mp (hF b q)
    obtain ⟨o', e', _⟩ := st b ob e
    rw [e']; rfl
  · have h := zo b (by grind)
    exact ⟨h.1, h.2.1⟩
theorem exitX_ok {C : Nat} {Hd : HX} {Z0 : Zn} {F : Ps} (hF : ∀ b, F b → (H b).isSome = true) (hmd : md.length = vs.length) (E : EnvX K ⟨H, F, Z0.fz, md, vs⟩ C σ Hd Γ [] []) (ho : escL (outP md Γ) = true) : ∃ S' F1, RepX K C S' Hd (outP md Γ) vs F1 ∧ Cl H Hd.1 F Z0.fz S' F1 := by
  unfold EnvX at E
  unfold RepX
  cases e : K.ef C with
  | none =>
    rw [e] at E
    obtain ⟨S', F1, r1, cl⟩ := exit_ok hF hmd E.2 (by simp [escL]) ho
    exact ⟨S', F1, ⟨E.1, r1⟩, cl⟩
  | some p =>
    rw [e] at E
    obtain ⟨d, h1, E2⟩ := E
    obtain ⟨S', F1, r1, cl⟩ := exit_ok hF hmd E2 (by simp [escL, esc, Ent.tree]) ho
    exact ⟨S', F1, ⟨d, h1, r1⟩, cl⟩
variable {P : Program} {Wd : World} {Kf : PySem.W.Frag} {mg : Str → Option Value} {base : Heap}
/-- a def whose body is a term of the machine -/
theorem fn_sim {x qual : Str} {st : Stmt} {f : Addr} {fd : FuncData} {N ps : List Str} {k : Nat} {g : GS} (F : Fun Kf x qual st f fd) (S : FnScope N ps (defScope st)) (hps : ps.length = md.length) (hN : ps.length ≤ N.length)
    (body : ∀ (cdv : Value) (A : Around) (outer : List Env) (s : Shared) (H : Hp) (E : XK), Room k (A.deeper (PyProof.Rows.envOfC qual (defScope st) s.heap.objs.size f cdv)) →
      MSs (cxOf (L2N.CX P Wd) P Wd Kf mg base N qual (defScope st) f cdv A outer s H E) T md (fun cls d _ H => E cls d H) (defBody st) g) :
    FnOk P Wd Kf mg base (L2N.CX P Wd) (k + 1) f fd ps (spOf (kcm Kf T) md (runF md N.length g)) := by
  obtain ⟨oc, od, kV, doc, pm, an, cdv, ct, osl, rfl, inK, cdOk⟩ := F.ex
  refine fn_of inK cdOk S (fun vs H Q E h => ?_) (fun A outer s H vs Q E hr h => ?_)
  · obtain ⟨ts, Z, F, o, r, hm, _⟩ := h
    have h1 := RepL.len _ r
    have h2 := mdOk_len hm
    omega
  · obtain ⟨ts, Z, F, o, r, hm, zo, zs, hG, hp⟩ := h
    have h1 := RepL.len _ r
    have h2 := mdOk_len hm
    obtain ⟨t, pt, sim⟩ := body cdv A outer s H E hr
    refine ⟨t, pt, ?_⟩
    have E0 := start_ok (K := kcm Kf T) (N := N) (md := md) r (by omega) h2 zo zs
    simp only [runF] at hG
    cases hg : g ⟨ts.map Ent.tr ++ List.replicate (N.length - ts.length) .no, []⟩ with
    | none => simp [hg] at hG
    | some oo =>
      refine sim ⟨H, F, Z.fz, md, vs⟩ (start N vs) H ⟨ts.map Ent.tr ++ List.replicate (N.length - ts.length) Ent.no, []⟩ [] _ oo rfl E0 hg ?_
      cases oo with
      | nx m =>
        simp only [hg] at hG
        split at hG
        · rename_i he
          cases hG
          intro σ' H' E1
          have hnil : m.s = [] := by have := tail_len E1; simpa using this
          rw [hnil] at E1
          obtain ⟨S', F1, r1, cl⟩ := exit_ok (RepL.isS _ r) (by omega) (E1.atom .non) (by simp [escL, esc, Ent.tree]) he
          exact hp .non H' S' F1 r1 cl
        · cases hG
      | rt tt m =>
        simp only [hg] at hG
        split at hG
        · rename_i he
          cases hG
          intro σ' v H' E1
          have hnil : m.s = [] := by have := tail_len E1; simpa using this
          rw [hnil] at E1
          obtain ⟨S', F1, r1, cl⟩ := exit_ok (RepL.isS _ r) (by omega) E1 (by simp [escL, Ent.tree, he.1]) he.2
          exact hp v H' S' F1 r1 cl
        · cases hG
      | ex C g' =>
        simp only [hg] at hG
        split at hG
        · rename_i he
          cases hG
          intro σ' H' E1
          obtain ⟨S', F1, r1, cl⟩ := exitX_ok (RepL.isS _ r) (by omega) E1 he
          exact hp H' S' F1 r1 cl
        · cases hG
      | bk m => simp [hg] at hG
      | ct m => simp [hg] at hG
end
section
variable {K : KC} {X : Cx} {T : KT} {md mdc : List Bool} {W : WX} {c : Cz} {σ : St} {H H' : Hp} {Γ τ τ1 A B P : List Ent} {us us1 vs vs' va vb vp : List V} {v w : V} {p q : List Nat} {t : Tr} {ts ts' : List Tr} {k k' : Nk} {i j n d : Nat} {a : Addr} {en en' : Ent} {o : Ow} {Z : Zn} {ws : List V} {Φ Ψ : Ps} {G : GF}
def argT (Γ : List Ent) : List Bool → List Ent → Option (List Tr)
  | [], [] => some []
  | true :: bs, .tr t :: es => match argT Γ bs es with
    | some ts => some (t :: ts)
    | none => none
  | false :: bs, e :: es => match viewE Γ e with
    | some t => if cp (kid .lnt t) = true then match argT Γ bs es with
        | some ts => some (kid .lnt t :: ts)
        | none => none
      else none
    | none => none
  | _, _ => none
theorem argT_ok : ∀ {mdc : List Bool} {ents : List Ent} {vs : List V} {Ψa : Ps} {ts : List Tr}, RepL K Z H .own (trees ents) vs Ψa → (∀ (i : Nat) (p : List Nat) (v : V) (t : Tr), ents[i]? = some (.al p) → vs[i]? = some v → getG Γ p = some t → ∃ Θ, Rep K Z H .own t v Θ ∧ ∀ b, Θ b → Φ b) →
    argT Γ mdc ents = some ts → mdOk mdc ts = true ∧ ∃ F R : Ps, (∀ b, Ψa b ↔ F b ∨ R b) ∧ (∀ b, ¬ (F b ∧ R b)) ∧ ∀ Zc : Zn, (∀ b, Z.fz b → Zc.fz b) → (∀ b, Z.ln b ∨ R b ∨ Φ b → Zc.ln b) → RepL K Zc H .own ts vs F
  | [], [], vs, Ψa, ts, r, _, h => by
    simp only [argT] at h
    cases h
    exact ⟨rfl, fun _ => False, fun _ => False, fun b => ⟨fun q => (r.2 b q).elim, fun q => by simp at q⟩, by simp, fun Zc _ _ => ⟨r.1, fun _ h => h⟩⟩
  | [], _ :: _, _, _, _, _, _, h => by simp [argT] at h
  | true :: bs, [], _, _, _, _, _, h => by simp [argT] at h
  | false :: bs, [], _, _, _, _, _, h => by simp [argT] at h
  | true :: bs, e :: es, vs, Ψa, ts, r, hv, h => by
    obtain ⟨v, vs', Φ1, Φ2, e1, h1, h2, d, u⟩ := r
    subst e1
    cases e with
    | no => simp [argT] at h
    | al _ => simp [argT] at h
    | tr t =>
      simp only [argT] at h
      split at h
      · rename_i ts' h3
        cases h
        obtain ⟨m1, F, R, u2, d2, bld⟩ := argT_ok (mdc := bs) (ents := es) (vs := vs') h2 (fun i p v t a b => hv (i + 1) p v t (by simpa using a) (by simpa using b)) h3
        refine ⟨by simp [mdOk, m1], fun b => Φ1 b ∨ F b, R, by grind, by grind, fun Zc hf hl => ⟨v, vs', Φ1, F, rfl, Rep.fr t h1 ⟨hf, fun b q => hl b (.inl q), fun b o _ e => e, fun _ _ h => h⟩, bld Zc hf hl, by grind, fun _ => Iff.rfl⟩⟩
      · cases h
  | false :: bs, e :: es, vs, Ψa, ts, r, hv, h => by
    obtain ⟨v, vs', Φ1, Φ2, e1, h1, h2, d, u⟩ := r
    subst e1
    simp only [argT] at h
    split at h
    · rename_i t ht
      split at h
      · rename_i hc
        split at h
        · rename_i ts' h3
          cases h
          obtain ⟨m1, F, R, u2, d2, bld⟩ := argT_ok (mdc := bs) (ents := es) (vs := vs') h2 (fun i p v t a b => hv (i + 1) p v t (by simpa using a) (by simpa using b)) h3
          have vw : ∃ Θ, Rep K Z H .own t v Θ ∧ ∀ b, Θ b → Φ b ∨ Φ1 b := by
            cases e with
            | no => simp [viewE] at ht
            | tr x =>
              simp only [viewE] at ht
              cases ht
              exact ⟨Φ1, h1, fun b q => .inr q⟩
            | al p =>
              obtain ⟨Θ, z1, z2⟩ := hv 0 p v t rfl rfl ht
              exact ⟨Θ, z1, fun b q => .inl (z2 b q)⟩
          obtain ⟨Θ, z1, z2⟩ := vw
          refine ⟨by simp [mdOk, m1, hc], F, fun b => Φ1 b ∨ R b, by grind, by grind, fun Zc hf hl => ⟨v, vs', fun _ => False, F, rfl, rep_kid.mpr (Rep.lend (m := .own) t z1 hf fun b q => hl b (by grind)), bld Zc hf (fun b q => hl b (by grind)), by simp, by simp⟩⟩
        · cases h
      · cases h
    · cases h
theorem call_ok {ents s : List Ent} {G : GF} {o : Rt} {Q : VK} {E : XK} (EE : Ev K c Z ws Φ Ψ σ H Γ (ents.reverse ++ s) (vs.reverse ++ us)) (l : ents.length = vs.length) (h : argT Γ mdc ents = some ts) (hG : G ts = some o)
    (post : match o with
      | .rt r ts' => ∀ v H', ts'.length = vs.length → EnvOk K c σ H' Γ (.tr r :: (ts'.map .tr ++ s)) (v :: (vs ++ us)) → Q v H'
      | .ex C ts' => ∀ H' : HX, ts'.length = vs.length → EnvX K c C σ H' Γ (ts'.map .tr ++ s) (vs ++ us) → E (.ref (K.et C)) H'.2 H'.1) : spOf K mdc G vs H Q E := by
  have tm' : RepL K Z H .own (trees ents.reverse ++ trees s) (vs.reverse ++ us) Ψ := by simpa [trees] using EE.tm
  obtain ⟨v1, v2, Ψ1, Ψ2, e, r1, r2, d, u⟩ := RepL.split _ tm'
  have hl1 := RepL.len _ r1
  have hlt : (trees ents.reverse).length = ents.length := by simp [trees]
  obtain ⟨rfl, rfl⟩ := List.append_inj e (by simp; omega)
  have r0 : RepL K Z H .own (trees ents) vs Ψ1 := by
    have := RepL.reverse _ r1
    have e2 : (trees ents.reverse).reverse = trees ents := by simp [trees]
    rwa [e2, List.reverse_reverse] at this
  obtain ⟨m1, F, R, u2, d2, bld⟩ := argT_ok (Φ := Φ) (Γ := Γ) r0 (fun i p v t a b g => by
    have hi : i < ents.length := getq_lt' a
    have a' : (ents.reverse ++ s)[ents.length - 1 - i]? = some (.al p) := by
      rw [List.getElem?_append_left (by simp; omega), List.getElem?_reverse (by omega), show ents.length - 1 - (ents.length - 1 - i) = i by omega]
      exact a
    obtain ⟨w, b', raw, gs⟩ := EE.to _ p a'
    rw [List.getElem?_append_left (by simp; omega), List.getElem?_reverse (by omega), show vs.length - 1 - (ents.length - 1 - i) = i by omega, b] at b'
    cases b'
    obtain ⟨w', Φ1, Φ2, raw', r, _, uu, _⟩ := RepL.path EE.sl (p := p) (t := t) (by rw [getG_getP gs]; exact g)
    cases raw.fn raw'
    exact ⟨Φ1, r, fun b q => (uu b).mpr (.inl q)⟩) h
  have hsF := RepL.isS _ EE.sl
  have hsT := RepL.isS _ EE.tm
  refine ⟨ts, ⟨Z.fz, fun b => Z.ln b ∨ R b ∨ Φ b⟩, F, o, bld _ (fun _ h => h) (fun _ h => h), m1, fun b q => ?_, fun b q => ?_, hG, ?_⟩
  · have h1 := EE.zo b (.inr ((u b).mpr (.inl ((u2 b).mpr (.inl q)))))
    refine ⟨h1.2.1, fun z => ?_⟩
    rcases z with z | z | z
    · exact h1.2.2 z
    · exact d2 b ⟨q, z⟩
    · exact EE.dj b ⟨z, (u b).mpr (.inl ((u2 b).mpr (.inl q)))⟩
  · rcases q with q | q | q | q
    · exact EE.zs b (.inl q)
    · exact EE.zs b (.inr q)
    · exact hsT b ((u b).mpr (.inl ((u2 b).mpr (.inr q))))
    · exact hsF b q
  · have chg : ∀ {H' : Hp} {S' F1 : Ps}, Cl H H' F Z.fz S' F1 → Chg Z ⟨S', Z.ln⟩ H H' Ψ1 F1 := fun {H' S' F1} cl => by
      have zF : ∀ b, F b → ¬ Z.fz b ∧ ¬ Z.ln b := fun b q => (EE.zo b (.inr ((u b).mpr (.inl ((u2 b).mpr (.inl q)))))).2
      refine ⟨cl.s0, fun _ h => h, fun b q => ?_, fun b q => .inl q, fun b q => ?_, fun b ob e n => cl.ob b ob e (fun q => n ((u2 b).mpr (.inl q))), fun b q => ?_, fun b q => ?_⟩
      · rcases cl.s1 b q with z | z | z
        · exact .inl z
        · exact .inr (.inl ((u2 b).mpr (.inl z)))
        · exact .inr (.inr z)
      · rcases q with q | q
        · exact cl.ss b q
        · obtain ⟨ob, e⟩ := Option.isSome_iff_exists.mp (EE.zs b (.inr q))
          rw [cl.ob b ob e fun z => (zF b z).2 q]
          rfl
      · by_cases z : F b
        · exact cl.oc b z
        · obtain ⟨ob, e⟩ := Option.isSome_iff_exists.mp (hsT b ((u b).mpr (.inl q)))
          rw [cl.ob b ob e z]
          rfl
      · have h1 := cl.nw b q
        refine ⟨h1.1.imp (fun z => (u2 b).mpr (.inl z)) id, h1.2, fun z => ?_⟩
        rcases h1.1 with y | y
        · exact (zF b y).2 z
        · have := EE.zs b (.inr z)
          rw [y] at this
          cases this
    have mono : ∀ {H' : Hp} {S' F1 : Ps} {xs : List Tr} {ys : List V}, RepL K ⟨S', fun _ => False⟩ H' .own xs ys F1 → RepL K ⟨S', Z.ln⟩ H' .own xs ys F1 := fun {H' S' F1 xs ys} r => RepL.fr _ r ⟨fun _ h => h, fun _ h => h.elim, fun _ _ _ h => h, fun _ _ h => h⟩
    cases o with
    | rt r ts' =>
      intro v H' S' F1 rr cl
      have hlen : ts'.length = vs.length := by have := RepL.len _ rr; simpa using this
      refine post v H' hlen ?_
      exact EE.swapX (τ1' := .tr r :: ts'.map .tr) (us1' := v :: vs) (by simp; omega) (by simp) r1 r2 d u (by
        have := mono rr
        have et : trees (.tr r :: ts'.map .tr) = r :: ts' := by
          have := trees_tr (ts := ts')
          simp only [trees, List.map_cons] at this ⊢
          rw [this]
          rfl
        rw [et]
        exact this) (chg cl) (by simp [hlen])
    | ex C ts' =>
      intro H' S' F1 rr cl
      unfold RepX at rr
      unfold EnvX at post
      cases eC : K.ef C with
      | none =>
        rw [eC] at rr
        simp only [eC] at post
        obtain ⟨h0, rr⟩ := rr
        have hlen : ts'.length = vs.length := by have := RepL.len _ rr; simpa using this
        refine post H' hlen ⟨h0, ?_⟩
        exact EE.swapX (τ1' := ts'.map .tr) (us1' := vs) (by simp; omega) (by simp) r1 r2 d u (by rw [trees_tr]; exact mono rr) (chg cl) (by simp [hlen])
      | some p =>
        rw [eC] at rr
        simp only [eC] at post
        obtain ⟨d0, h0, rr⟩ := rr
        have hlen : ts'.length = vs.length := by have := RepL.len _ rr; simpa using this
        refine post H' hlen ⟨d0, h0, ?_⟩
        exact EE.swapX (τ1' := .tr (xdT d0 p.1 p.2) :: ts'.map .tr) (us1' := .ref d0 :: vs) (by simp; omega) (by simp) r1 r2 d u (by
          have := mono rr
          have et : trees (.tr (xdT d0 p.1 p.2) :: ts'.map .tr) = xdT d0 p.1 p.2 :: ts' := by
            have := trees_tr (ts := ts')
            simp only [trees, List.map_cons] at this ⊢
            rw [this]
            rfl
          rw [et]
          exact this) (chg cl) (by simp [hlen])
theorem EnvOk.permM (lp : P.length = vp.length) (la : A.length = va.length) (lb : B.length = vb.length) (E : EnvOk K c σ H Γ (P ++ (A ++ (B ++ τ))) (vp ++ (va ++ (vb ++ us)))) : EnvOk K c σ H Γ (P ++ (B ++ (A ++ τ))) (vp ++ (vb ++ (va ++ us))) := by
  have lt : τ.length = us.length := by
    have := tail_len E
    simp at this
    omega
  have h := EnvOk.perm (K := K) (c := c) (σ := σ) (H := H) (Γ := Γ) (l := P.zip vp ++ (A.zip va ++ (B.zip vb ++ τ.zip us))) (l' := P.zip vp ++ (B.zip vb ++ (A.zip va ++ τ.zip us))) (by
    refine List.Perm.append_left _ ?_
    rw [← List.append_assoc, ← List.append_assoc]
    exact List.Perm.append_right _ List.perm_append_comm)
  simp only [List.map_append, List.map_fst_zip (Nat.le_of_eq lp), List.map_snd_zip (Nat.le_of_eq lp.symm), List.map_fst_zip (Nat.le_of_eq la), List.map_snd_zip (Nat.le_of_eq la.symm), List.map_fst_zip (Nat.le_of_eq lb), List.map_snd_zip (Nat.le_of_eq lb.symm), List.map_fst_zip (Nat.le_of_eq lt), List.map_snd_zip (Nat.le_of_eq lt.symm)] at h
  exact h E
end
section
variable {K : KC} {X : Cx} {T : KT} {md mdc : List Bool} {W : WX} {c : Cz} {σ : St} {H H' : Hp} {Γ τ τ1 A B P : List Ent} {us us1 vs vs' va vb vp : List V} {v w : V} {p q : List Nat} {t : Tr} {ts ts' : List Tr} {k k' : Nk} {i j n d h : Nat} {a : Addr} {en en' : Ent} {o : Ow} {Z : Zn} {ws : List V} {Φ Ψ : Ps} {G : GF} {m m' : Ms}
/-- an own argument at depth d of n is taken out of its place; the place is kept below the arguments -/
def extAt (d n : Nat) (m : Ms) : Option Ms := match m.s[d]? with
  | some (.al p) => match getG m.g p with
    | some t => some ⟨kill p (setG m.g p .any), (kill p (m.s.eraseIdx d)).take d ++ .tr t :: (((kill p (m.s.eraseIdx d)).drop d).take (n - 1 - d) ++ .al p :: (kill p (m.s.eraseIdx d)).drop (n - 1))⟩
    | none => none
  | some (.tr _) => some ⟨m.g, m.s.take n ++ .no :: m.s.drop n⟩
  | _ => none
theorem split_at {α : Type} {l : List α} {d : Nat} {x : α} (h : l[d]? = some x) : l = l.take d ++ ([x] ++ l.drop (d + 1)) := by
  have hlt := getq_lt' h
  have e := (List.getElem?_eq_some_iff.mp h).2
  have h1 : l.drop d = [x] ++ l.drop (d + 1) := by rw [List.drop_eq_getElem_cons hlt, e]; rfl
  rw [← h1, List.take_append_drop]
theorem erase_split {α : Type} {l : List α} {d : Nat} : l.eraseIdx d = l.take d ++ l.drop (d + 1) := List.eraseIdx_eq_take_drop_succ _ _
theorem EnvOk.pushNo (E : EnvOk K c σ H Γ τ us) (v : V) : EnvOk K c σ H Γ (.no :: τ) (v :: us) := by
  obtain ⟨Z, ws, Φ, Ψ, EE⟩ := E
  exact EE.swap (τ1 := []) (us1 := []) (τ1' := [.no]) (us1' := [v]) (Ψ1' := fun _ => False) rfl (by simp) (fun Ψ1 r => ⟨⟨v, [], fun _ => False, fun _ => False, rfl, fun _ h => h, ⟨rfl, fun _ h => h⟩, by simp, by simp⟩, .same _ _ _ EE.zs (fun b q => RepL.isS _ r b q) _ (by simp)⟩) rfl
theorem extAt_ok (E : EnvOk K c σ H m.g m.s us) (hd : d < n) (hn : n ≤ us.length) (h : extAt d n m = some m') : ∃ w, us[d]? = some w ∧ EnvOk K c σ H m'.g m'.s (us.take n ++ w :: us.drop n) := by
  have hl := tail_len E
  have hdu : d < us.length := by omega
  refine ⟨us[d], List.getElem?_eq_getElem hdu, ?_⟩
  have eu := split_at (List.getElem?_eq_getElem hdu)
  unfold extAt at h
  split at h
  · rename_i p hp
    split at h
    · rename_i t ht
      cases h
      have es := split_at hp
      have E1 : EnvOk K c σ H m.g (m.s.take d ++ ([.al p] ++ m.s.drop (d + 1))) (us.take d ++ ([us[d]] ++ us.drop (d + 1))) := by rw [← es, ← eu]; exact E
      have E2 := EnvOk.permA (by simp; omega) rfl E1
      rw [← erase_split, ← erase_split] at E2
      have E3 := EnvOk.ext (p := p) (t := t) (τ := m.s.eraseIdx d) (us := us.eraseIdx d) E2 ht
      -- lengths
      generalize hs' : kill p (m.s.eraseIdx d) = s' at *
      generalize hu' : us.eraseIdx d = u' at *
      have ls : s'.length = m.s.length - 1 := by rw [← hs']; simp [kill, List.length_eraseIdx]; omega
      have lu : u'.length = us.length - 1 := by rw [← hu', List.length_eraseIdx]; simp; omega
      have sp : ∀ {α : Type} (l : List α), l = l.take d ++ ((l.drop d).take (n - 1 - d) ++ l.drop (n - 1)) := fun l => by
        have : l.drop (n - 1) = (l.drop d).drop (n - 1 - d) := by rw [List.drop_drop]; congr 1; omega
        rw [this, List.take_append_drop, List.take_append_drop]
      have E4 : EnvOk K c σ H (kill p (setG m.g p .any)) ([.tr t] ++ ([.al p] ++ ((s'.take d ++ (s'.drop d).take (n - 1 - d)) ++ s'.drop (n - 1)))) ([us[d]] ++ ([us[d]] ++ ((u'.take d ++ (u'.drop d).take (n - 1 - d)) ++ u'.drop (n - 1)))) := by
        rw [List.append_assoc (s'.take d), List.append_assoc (u'.take d), ← sp s', ← sp u']
        exact E3
      have E5 := EnvOk.permM (P := [.tr t]) (vp := [us[d]]) rfl rfl (by simp; omega) E4
      rw [List.append_assoc (s'.take d), List.append_assoc (u'.take d)] at E5
      have E6 := EnvOk.permA (A := [.tr t]) (va := [us[d]]) rfl (by simp; omega) E5
      have ev : us.take n ++ us[d] :: us.drop n = u'.take d ++ ([us[d]] ++ ((u'.drop d).take (n - 1 - d) ++ ([us[d]] ++ u'.drop (n - 1)))) := by
        have h1 : u'.take d = us.take d := by rw [← hu', erase_split, List.take_append_of_le_length (by simp; omega), List.take_take]; simp
        have h2 : u'.drop d = us.drop (d + 1) := by
          rw [← hu', erase_split, List.drop_append]
          have : (us.take d).length = d := by simp; omega
          rw [this]
          simp
        have h3 : u'.drop (n - 1) = us.drop n := by
          have : u'.drop (n - 1) = (u'.drop d).drop (n - 1 - d) := by rw [List.drop_drop]; congr 1; omega
          rw [this, h2, List.drop_drop]
          congr 1
          omega
        have h4 : us.take n = us.take d ++ ([us[d]] ++ (us.drop (d + 1)).take (n - 1 - d)) := by
          have : n = d + (1 + (n - 1 - d)) := by omega
          conv => lhs; rw [this, List.take_add]
          congr 1
          rw [List.drop_eq_getElem_cons hdu, Nat.add_comm 1, List.take_succ_cons]
          rfl
        rw [h1, h2, h3, h4]
        simp
      rw [ev]
      exact E6
    · cases h
  · cases h
    have E1 := E.pushNo us[d]
    have E2 : EnvOk K c σ H m.g ([.no] ++ (m.s.take n ++ m.s.drop n)) ([us[d]] ++ (us.take n ++ us.drop n)) := by rw [List.take_append_drop, List.take_append_drop]; exact E1
    exact EnvOk.permA (A := [.no]) (va := [us[d]]) rfl (by simp; omega) E2
  · cases h
/-- behind the call: what came back at index i of n goes to its place; h things lie above -/
def resAt (h i n : Nat) (m : Ms) : Option Ms := match m.s[h + i]?, m.s[h + n]? with
  | some (.tr t), some (.al p) => match getG m.g p with
    | some .any => if esc t = true then some ⟨setG m.g p t, (m.s.eraseIdx (h + n)).eraseIdx (h + i)⟩ else none
    | _ => none
  | some (.tr _), some .no => some ⟨m.g, (m.s.eraseIdx (h + n)).eraseIdx (h + i)⟩
  | _, _ => none
theorem two_split {α : Type} {l : List α} {x y : Nat} {a b : α} (hx : l[x]? = some a) (hy : l[y]? = some b) (hxy : x < y) : l = l.take x ++ ([a] ++ ((l.drop (x + 1)).take (y - x - 1) ++ ([b] ++ l.drop (y + 1)))) ∧ (l.eraseIdx y).eraseIdx x = l.take x ++ ((l.drop (x + 1)).take (y - x - 1) ++ l.drop (y + 1)) := by
  have h1 := split_at hx
  have hyl := getq_lt' hy
  have h2 : (l.drop (x + 1))[y - x - 1]? = some b := by rw [List.getElem?_drop, show x + 1 + (y - x - 1) = y by omega]; exact hy
  have h3 := split_at h2
  have h4 : (l.drop (x + 1)).drop (y - x - 1 + 1) = l.drop (y + 1) := by rw [List.drop_drop]; congr 1; omega
  rw [h4] at h3
  refine ⟨by rw [← h3]; exact h1, ?_⟩
  rw [erase_split (l := l.eraseIdx y)]
  have e1 : (l.eraseIdx y).take x = l.take x := by rw [erase_split, List.take_append_of_le_length (by simp; omega), List.take_take]; congr 1; omega
  have e2 : (l.eraseIdx y).drop (x + 1) = (l.drop (x + 1)).take (y - x - 1) ++ l.drop (y + 1) := by
    rw [erase_split, List.drop_append]
    have hlen : (l.take y).length = y := by simp; omega
    rw [hlen, show x + 1 - y = 0 by omega, List.drop_zero]
    congr 1
    rw [List.drop_take]
    congr 1
  rw [e1, e2]
theorem resAt_ok (E : EnvOk K c σ H m.g m.s us) (hi : i < n) (hu : us[h + i]? = us[h + n]?) (hh : resAt h i n m = some m') : EnvOk K c σ H m'.g m'.s ((us.eraseIdx (h + n)).eraseIdx (h + i)) := by
  have hl := tail_len E
  unfold resAt at hh
  split at hh
  · rename_i t p h1 h2
    split at hh
    · rename_i hg
      split at hh
      · rename_i he
        cases hh
        have hlt := getq_lt' h2
        have hlt1 := getq_lt' h1
        obtain ⟨w, hw⟩ : ∃ w, us[h + n]? = some w := ⟨_, List.getElem?_eq_getElem (by omega)⟩
        have hw2 : us[h + i]? = some w := by rw [hu]; exact hw
        obtain ⟨s1, s2⟩ := two_split h1 h2 (by omega)
        obtain ⟨u1, u2⟩ := two_split hw2 hw (by omega)
        rw [s1, u1] at E
        have E1 := EnvOk.permA (A := m.s.take (h + i)) (B := [.tr t]) (va := us.take (h + i)) (vb := [w]) (by simp; omega) rfl E
        have E2 := EnvOk.permM (P := [.tr t]) (vp := [w]) (A := m.s.take (h + i) ++ (m.s.drop (h + i + 1)).take (h + n - (h + i) - 1)) (va := us.take (h + i) ++ (us.drop (h + i + 1)).take (h + n - (h + i) - 1)) (B := [.al p]) (vb := [w]) rfl (by simp; omega) rfl (by simpa [List.append_assoc] using E1)
        have E3 := (EnvOk.back E2 hg he).drop
        rw [s2, u2]
        simpa [List.append_assoc] using E3
      · cases hh
    · cases hh
  · rename_i t h1 h2
    cases hh
    have hlt := getq_lt' h2
    have hlt1 := getq_lt' h1
    obtain ⟨w, hw⟩ : ∃ w, us[h + n]? = some w := ⟨_, List.getElem?_eq_getElem (by omega)⟩
    have hw2 : us[h + i]? = some w := by rw [hu]; exact hw
    obtain ⟨s1, s2⟩ := two_split h1 h2 (by omega)
    obtain ⟨u1, u2⟩ := two_split hw2 hw (by omega)
    rw [s1, u1] at E
    have E1 := EnvOk.permA (A := m.s.take (h + i)) (B := [.tr t]) (va := us.take (h + i)) (vb := [w]) (by simp; omega) rfl E
    have E2 := EnvOk.permM (P := [.tr t]) (vp := [w]) (A := m.s.take (h + i) ++ (m.s.drop (h + i + 1)).take (h + n - (h + i) - 1)) (va := us.take (h + i) ++ (us.drop (h + i + 1)).take (h + n - (h + i) - 1)) (B := [.no]) (vb := [w]) rfl (by simp; omega) rfl (by simpa [List.append_assoc] using E1)
    have E3 := E2.drop.drop
    rw [s2, u2]
    simpa [List.append_assoc] using E3
  · cases hh
end
section
variable {K : KC} {X : Cx} {T : KT} {md mdc : List Bool} {W : WX} {c : Cz} {σ : St} {H H' : Hp} {Γ τ τ1 A B P : List Ent} {us us0 us1 vs vs' va vb vp : List V} {v w : V} {p q : List Nat} {t : Tr} {ts ts' : List Tr} {k k' : Nk} {i j n d h : Nat} {a : Addr} {en en' : Ent} {o : Ow} {Z : Zn} {ws : List V} {Φ Ψ : Ps} {G : GF} {m m' : Ms} {is : List Nat}
def extAll (n : Nat) : List Nat → Ms → Option Ms
  | [], m => some m
  | i :: is, m => match extAt (n - 1 - i) n m with
    | some m' => extAll n is m'
    | none => none
theorem extAll_ok : ∀ {is : List Nat} {m m' : Ms} {us0 : List V}, EnvOk K c σ H m.g m.s (vs.reverse ++ us0) → vs.length = n → (∀ i ∈ is, i < n) → extAll n is m = some m' → EnvOk K c σ H m'.g m'.s (vs.reverse ++ (is.reverse.map (vs.getD · .non) ++ us0))
  | [], m, m', us0, E, hl, hi, h => by
    simp only [extAll] at h
    cases h
    simpa using E
  | i :: is, m, m', us0, E, hl, hi, h => by
    simp only [extAll] at h
    split at h
    · rename_i m1 h1
      have hin := hi i List.mem_cons_self
      obtain ⟨w, hw, E1⟩ := extAt_ok E (by omega) (by simp; omega) h1
      rw [List.getElem?_append_left (by simp; omega), List.getElem?_reverse (by omega), show vs.length - 1 - (n - 1 - i) = i by omega] at hw
      have e1 : (vs.reverse ++ us0).take n = vs.reverse := by rw [List.take_append_of_le_length (by simp; omega)]; exact List.take_of_length_le (by simp; omega)
      have e2 : (vs.reverse ++ us0).drop n = us0 := by rw [List.drop_append_of_le_length (by simp; omega), List.drop_of_length_le (by simp; omega)]; rfl
      rw [e1, e2] at E1
      have := extAll_ok (is := is) (us0 := w :: us0) E1 hl (fun i h => hi i (List.mem_cons_of_mem _ h)) h
      simpa [hw] using this
    · cases h
def resAll (h : Nat) : Nat → List Nat → Ms → Option Ms
  | _, [], m => some m
  | n, i :: is, m => match resAt h i n m with
    | some m' => resAll h (n - 1) is m'
    | none => none
theorem resAll_ok {hv : List V} (hh : hv.length = h) : ∀ {is : List Nat} {n : Nat} {m m' : Ms} {vals : List V}, vals.length = n → (∀ i ∈ is, i < n) → is.Pairwise (· > ·) → EnvOk K c σ H m.g m.s (hv ++ (vals ++ (is.map (vals.getD · .non) ++ us0))) → resAll h n is m = some m' → ∃ vals' : List V, vals'.length = n - is.length ∧ EnvOk K c σ H m'.g m'.s (hv ++ (vals' ++ us0))
  | [], n, m, m', vals, hl, hi, hp, E, hr => by
    simp only [resAll] at hr
    cases hr
    exact ⟨vals, by simpa using hl, by simpa using E⟩
  | i :: is, n, m, m', vals, hl, hi, hp, E, hr => by
    simp only [resAll] at hr
    split at hr
    · rename_i m1 h1
      have hin := hi i List.mem_cons_self
      have hpw := List.pairwise_cons.mp hp
      have g1 : (hv ++ (vals ++ ((i :: is).map (vals.getD · .non) ++ us0)))[h + i]? = vals[i]? := by
        rw [List.getElem?_append_right (by omega), show h + i - hv.length = i by omega, List.getElem?_append_left (by omega)]
      have g2 : (hv ++ (vals ++ ((i :: is).map (vals.getD · .non) ++ us0)))[h + n]? = some (vals.getD i .non) := by
        rw [List.getElem?_append_right (by omega), show h + n - hv.length = n by omega, List.getElem?_append_right (by omega), show n - vals.length = 0 by omega]
        rfl
      have E1 := resAt_ok (n := n) E hin (by rw [g1, g2, List.getD_eq_getElem?_getD, List.getElem?_eq_getElem (by omega)]; rfl) h1
      have ev : ((hv ++ (vals ++ ((i :: is).map (vals.getD · .non) ++ us0))).eraseIdx (h + n)).eraseIdx (h + i) = hv ++ (vals.eraseIdx i ++ (is.map ((vals.eraseIdx i).getD · .non) ++ us0)) := by
        have e1 : (hv ++ (vals ++ ((i :: is).map (vals.getD · .non) ++ us0))).eraseIdx (h + n) = hv ++ (vals ++ (is.map (vals.getD · .non) ++ us0)) := by
          rw [List.eraseIdx_append_of_length_le (by omega), show h + n - hv.length = n by omega, List.eraseIdx_append_of_length_le (by omega), show n - vals.length = 0 by omega]
          rfl
        rw [e1, List.eraseIdx_append_of_length_le (by omega), show h + i - hv.length = i by omega, List.eraseIdx_append_of_lt_length (by omega)]
        congr 3
        refine List.map_congr_left fun x hx => ?_
        have : x < i := hpw.1 x hx
        rw [List.getD_eq_getElem?_getD, List.getD_eq_getElem?_getD, List.getElem?_eraseIdx_of_lt this]
      rw [ev] at E1
      obtain ⟨vals', l', E2⟩ := resAll_ok hh (is := is) (n := n - 1) (vals := vals.eraseIdx i) (by rw [List.length_eraseIdx, if_pos (by omega)]; omega) (fun x hx => by have := hpw.1 x hx; omega) hpw.2 E1 hr
      exact ⟨vals', by simp; omega, E2⟩
    · cases hr
theorem EnvOk.dropN : ∀ {A : List Ent} {va : List V}, A.length = va.length → EnvOk K c σ H Γ (A ++ τ) (va ++ us) → EnvOk K c σ H Γ τ us
  | [], [], _, E => E
  | e :: A, v :: va, l, E => EnvOk.dropN (by simpa using l) (EnvOk.drop E)
theorem EnvOk.dropAll {s : List Ent} (E : EnvOk K c σ H Γ s us) : EnvOk K c σ H Γ [] [] := by
  have := tail_len E
  exact EnvOk.dropN (A := s) (va := us) (τ := []) (us := []) this (by simpa using E)
theorem EnvX.dropAll {C : Nat} {Hd : HX} {s : List Ent} (E : EnvX K c C σ Hd Γ s us) : EnvX K c C σ Hd Γ [] [] := E.imp fun H t vs E1 => by
  have l1 := tail_len E1
  unfold EnvX at E
  cases e : K.ef C with
  | none =>
    rw [e] at E
    have l2 := tail_len E.2
    have E2 := EnvOk.permA (A := t) (B := s) (τ := []) (va := vs) (vb := us) (us := []) (by simp at l1; omega) l2 (by simpa using E1)
    exact EnvOk.dropN l2 E2
  | some p =>
    rw [e] at E
    obtain ⟨d, _, E0⟩ := E
    have l2 := tail_len E0
    have l2 : s.length = us.length := by simpa using l2
    have E2 := EnvOk.permA (A := t) (B := s) (τ := []) (va := vs) (vb := us) (us := []) (by simp at l1; omega) l2 (by simpa using E1)
    exact EnvOk.dropN l2 E2
theorem resAt_top {e : Ent} {g : List Ent} {s : List Ent} {m' : Ms} (hr : resAt h i n ⟨g, s⟩ = some m') : resAt (h + 1) i n ⟨g, e :: s⟩ = some ⟨m'.g, e :: m'.s⟩ := by
  have e1 : h + 1 + i = (h + i) + 1 := by omega
  have e2 : h + 1 + n = (h + n) + 1 := by omega
  unfold resAt at hr ⊢
  rw [e1, e2]
  have q : ∀ k, (Ms.mk g (e :: s)).s[k + 1]? = s[k]? := fun k => List.getElem?_cons_succ
  have q2 : ∀ k l, ((Ms.mk g (e :: s)).s.eraseIdx (k + 1)).eraseIdx (l + 1) = e :: ((s.eraseIdx k).eraseIdx l) := fun k l => rfl
  rw [q, q, q2]
  change (match s[h + i]?, s[h + n]? with
    | some (.tr t), some (.al p) => match getG g p with
      | some .any => if esc t = true then some (Ms.mk (setG g p t) ((s.eraseIdx (h + n)).eraseIdx (h + i))) else none
      | _ => none
    | some (.tr _), some .no => some (Ms.mk g ((s.eraseIdx (h + n)).eraseIdx (h + i)))
    | _, _ => none) = some m' at hr
  cases h1 : s[h + i]? with
  | none => rw [h1] at hr; cases hr
  | some x =>
    cases h2 : s[h + n]? with
    | none => rw [h1, h2] at hr; cases x <;> cases hr
    | some y =>
      rw [h1, h2] at hr
      cases x with
      | no => cases hr
      | al p => cases hr
      | tr t =>
        cases y with
        | tr _ => cases hr
        | no => cases hr; rfl
        | al p =>
          simp only at hr ⊢
          cases h3 : getG g p with
          | none => rw [h3] at hr; cases hr
          | some u =>
            rw [h3] at hr
            cases u with
            | a _ => cases hr
            | nd _ _ _ => cases hr
            | any =>
              simp only at hr ⊢
              by_cases h4 : esc t = true
              · rw [if_pos h4] at hr ⊢
                cases hr
                rfl
              · rw [if_neg h4] at hr
                cases hr
theorem resAll_top {e : Ent} : ∀ {is : List Nat} {n : Nat} {m m' : Ms}, resAll h n is m = some m' → resAll (h + 1) n is ⟨m.g, e :: m.s⟩ = some ⟨m'.g, e :: m'.s⟩
  | [], n, m, m', hr => by
    simp only [resAll] at hr ⊢
    cases hr
    rfl
  | i :: is, n, m, m', hr => by
    simp only [resAll] at hr ⊢
    split at hr
    · rename_i m1 h1
      rw [resAt_top h1]
      exact resAll_top hr
    · cases hr
theorem resAllX_ok {C : Nat} {Hd : HX} {vals : List V} (hl : vals.length = n) (hi : ∀ i ∈ is, i < n) (hp : is.Pairwise (· > ·)) (E : EnvX K c C σ Hd m.g m.s (vals ++ (is.map (vals.getD · .non) ++ us0))) (hr : resAll 0 n is m = some m') : EnvX K c C σ Hd m'.g [] [] := by
  unfold EnvX at E
  cases e : K.ef C with
  | none =>
    rw [e] at E
    obtain ⟨vals', lv, E3⟩ := resAll_ok (hv := []) (h := 0) rfl hl hi hp (by simpa using E.2) hr
    unfold EnvX
    rw [e]
    exact ⟨E.1, E3.dropAll⟩
  | some p =>
    rw [e] at E
    obtain ⟨d, h1, E0⟩ := E
    obtain ⟨vals', lv, E3⟩ := resAll_ok (hv := [.ref d]) (h := 0 + 1) rfl (m := ⟨m.g, .tr (xdT d p.1 p.2) :: m.s⟩) hl hi hp (by simpa using E0) (resAll_top hr)
    have l3 := tail_len E3
    refine EnvX.dropAll (s := m'.s) (us := vals' ++ us0) ?_
    unfold EnvX
    rw [e]
    exact ⟨d, h1, E3⟩
/-- a call of a def by its function on trees; is: the arguments that are its own and stand at places -/
def gCall (is : List Nat) (mdc : List Bool) (G : GF) (n : Nat) : GE := fun m => match extAll n is m with
  | none => none
  | some m1 => match argT m1.g mdc (m1.s.take n).reverse with
    | none => none
    | some ts => match G ts with
      | some (.rt r ts') => match resAll 1 n is.reverse ⟨m1.g, .tr r :: (ts'.map .tr ++ m1.s.drop n)⟩ with
        | some m2 => some (.ok ⟨m2.g, m2.s.take 1 ++ m2.s.drop (1 + (n - is.length))⟩)
        | none => none
      | some (.ex C ts') => match resAll 0 n is.reverse ⟨m1.g, ts'.map .tr ++ m1.s.drop n⟩ with
        | some m2 => some (.ex C m2.g)
        | none => none
      | none => none
theorem gCall_ok (hin : ∀ i ∈ is, i < n) (hpw : is.reverse.Pairwise (· > ·)) : RA K md W n (fun σ vs H Q => spOf K mdc G vs H Q (fun cls d H => W cls d σ H)) (gCall is mdc G n) := by
  intro c σ H m us vs Q rr hc hl E hf hp
  unfold gCall at hf
  split at hf
  · cases hf
  · rename_i m1 h1
    have E1 := extAll_ok E hl hin h1
    split at hf
    · cases hf
    · rename_i ts hts
      have hlen := tail_len E1
      have hn : n ≤ m1.s.length := by rw [hlen]; simp; omega
      obtain ⟨Z, ws, Φ, Ψ, EE⟩ := E1
      have es : m1.s = (m1.s.take n).reverse.reverse ++ m1.s.drop n := by rw [List.reverse_reverse, List.take_append_drop]
      split at hf
      · rename_i r ts' hG
        split at hf
        · rename_i m2 h2
          cases hf
          refine call_ok (ents := (m1.s.take n).reverse) (s := m1.s.drop n) (o := .rt r ts') (es ▸ EE) (by simp; omega) hts hG ?_
          intro v H' l' E2
          obtain ⟨vals', lv, E3⟩ := resAll_ok (hv := [v]) (h := 1) rfl (is := is.reverse) (n := n) (m := ⟨m1.g, .tr r :: (ts'.map .tr ++ m1.s.drop n)⟩) (vals := vs) hl (fun i hi => hin i (List.mem_reverse.mp hi)) hpw E2 h2
          have lm := tail_len E3
          simp only [List.length_append, List.length_cons, List.length_nil, List.length_reverse] at lm lv
          refine hp v H' ?_
          have e3 : m2.s = m2.s.take 1 ++ ((m2.s.drop 1).take (n - is.length) ++ m2.s.drop (1 + (n - is.length))) := by
            have : m2.s.drop (1 + (n - is.length)) = (m2.s.drop 1).drop (n - is.length) := by rw [List.drop_drop]
            rw [this, List.take_append_drop, List.take_append_drop]
          rw [e3] at E3
          have E4 := EnvOk.permA (A := m2.s.take 1) (va := [v]) (by simp; omega) (by simp; omega) E3
          exact EnvOk.dropN (by simp; omega) E4
        · cases hf
      · rename_i C ts' hG
        split at hf
        · rename_i m2 h2
          cases hf
          refine call_ok (ents := (m1.s.take n).reverse) (s := m1.s.drop n) (o := .ex C ts') (es ▸ EE) (by simp; omega) hts hG ?_
          intro H' l' E2
          exact hp H' (resAllX_ok (is := is.reverse) (n := n) (m := ⟨m1.g, ts'.map .tr ++ m1.s.drop n⟩) (vals := vs) hl (fun i hi => hin i (List.mem_reverse.mp hi)) hpw E2 h2)
        · cases hf
      · cases hf
variable {x : Str} {pp pos apos : Pos} {e oe : Expr} {es : List Expr} {ga go : GE} {kk : Nat} {f : Addr} {fd : FuncData} {ps : List Str}
theorem seqA {tA : TA} {R : St → List V → Hp → VK → Prop} {fg : GE} (sa : SA K md W n tA ga) (hf : RA K md W n R fg) : SE K md W (fun σ H Q => tA σ H fun vs H1 => R σ vs H1 Q) (gSeq ga fg) := by
  intro c σ H m us Q rr hc E hg hp
  simp only [gSeq] at hg
  split at hg
  · rename_i m1 h1
    exact sa c σ H m us _ _ hc E h1 fun vs H1 hl E1 => hf c σ H1 m1 us vs Q rr hc hl E1 hg hp
  · rename_i h1
    refine sa c σ H m us _ _ hc E hg ?_
    cases rr with
    | ex C g' => exact hp
    | ok m2 => exact absurd hg (h1 m2)
theorem me_call (F : FnOk X.prog X.w X.K X.mg X.base (L2N.CX X.prog X.w) kk f fd ps (spOf (kcm X.K T) mdc G)) (hr : Room kk X.A) (tk : Takes X W) (hg : Gl X x) (hm : X.mg x = some (.ref f)) (hk : PySem.W.keepIn X.K (.ref f) = true) (hb : Binds X.K fd ps [])
    (ha : MA X T md W (e :: es) ga) (hin : ∀ i ∈ is, i < (e :: es).length) (hpw : is.reverse.Pairwise (· > ·)) (hdb : (x == ("__debug__" : Str)) = false := by decide)
    (he : starEach (e :: es) X.env = (false, eval e X.env) :: starEach es X.env := by rfl) (hpl : (backTo pos (starEach es X.env)).any (·.1) = false := by rfl) : ME X T md W (.Call (.Name x pp) (e :: es) [] pos) (gSeq ga (gCall is mdc G (e :: es).length)) := by
  obtain ⟨t, pa, sa⟩ := ha
  exact ⟨_, pe_callS (E := WE W) F hr hg hm hk hb (fun σ => passAt tk σ) pa hdb he hpl, seqA sa (gCall_ok hin hpw)⟩
end
section
variable {K : KC} {X : Cx} {T : KT} {md mdc : List Bool} {W : WX} {c : Cz} {σ : St} {H H' : Hp} {Γ τ τ1 A B P : List Ent} {us us0 us1 vs vs' va vb vp : List V} {v w : V} {p q : List Nat} {t : Tr} {ts ts' : List Tr} {k k' : Nk} {i j n d h : Nat} {a : Addr} {en en' : Ent} {o : Ow} {Z : Zn} {ws : List V} {Φ Ψ : Ps} {G : GF} {m m' : Ms} {is : List Nat}
variable {x me : Str} {pp pos apos : Pos} {e oe : Expr} {es : List Expr} {ga go : GE} {kk : Nat} {f C : Addr} {fd : FuncData} {ps : List Str} {CXk : CXT} {sp : Sp} {ta : TE} {tA : TA} {Ew : St → XK} {pl : Sem Bool}
/-- on top stands an instance of the class n -/
def chkI (n : Nat) : GE := fun m => match m.s with
  | e :: _ => match viewE m.g e with
    | some (.nd (.ins n' _) _ _) => if n' = n then some (.ok m) else none
    | _ => none
  | _ => none
theorem lookup_none {fl : Str} : ∀ {ns : List Str} {vs : List V}, ns.idxOf? fl = none → (ns.zip vs).lookup fl = none
  | [], _, _ => rfl
  | n :: ns, [], _ => rfl
  | n :: ns, v :: vs, h => by
    rw [List.idxOf?_cons] at h
    by_cases e : (n == fl) = true
    · simp [e] at h
    · rw [if_neg e] at h
      have e2 : (fl == n) = false := by
        have : n ≠ fl := by simpa using e
        simpa using fun q : fl = n => this q.symm
      rw [List.zip_cons_cons, List.lookup_cons, e2]
      exact lookup_none (by simpa using h)
theorem take_none {fl : Str} {ns : List Str} {k : Nat} (h : ns.idxOf? fl = none) : (ns.take k).idxOf? fl = none := by
  rw [List.idxOf?_eq_none_iff] at h ⊢
  exact fun q => h (List.mem_of_mem_take q)
/-! a new instance -/
def gMake (n : Nat) (mdc : List Bool) (G : GF) (l : Nat) : GE := fun m => match argT m.g (true :: mdc) (.tr (.nd (.ins n 0) .own []) :: (m.s.take l).reverse) with
  | none => none
  | some ts => match G ts with
    | some (.rt (.a .non) (t :: _)) => some (.ok ⟨m.g, .tr t :: m.s.drop l⟩)
    | some (.ex C _) => some (.ex C m.g)
    | _ => none
theorem EnvOk.newIns {pa dx : Addr} (E : EnvOk K c σ H Γ τ us) (hp : H pa = none) (hd : H dx = none) (ne : dx ≠ pa) : EnvOk K c σ (upd (upd H dx (.own pa)) pa (.ins (K.ct n) dx [])) Γ (.tr (.nd (.ins n 0) .own []) :: τ) (.ref pa :: us) := by
  obtain ⟨Z, ws, Φ, Ψ, EE⟩ := E
  have hk : ∀ b ob, H b = some ob → upd (upd H dx (.own pa)) pa (.ins (K.ct n) dx []) b = some ob := fun b ob e => by
    rw [upd_ne (ne_of_none e hp), upd_ne (ne_of_none e hd)]
    exact e
  have hs : ∀ b, (H b).isSome = true → (upd (upd H dx (.own pa)) pa (.ins (K.ct n) dx []) b).isSome = true := fun b q => by
    obtain ⟨ob, e⟩ := Option.isSome_iff_exists.mp q
    rw [hk b ob e]
    rfl
  have nz : ∀ b, Z.fz b ∨ Z.ln b → b ≠ pa := fun b q e => by have := EE.zs b q; rw [e, hp] at this; cases this
  refine EE.swapE (τ1 := []) (us1 := []) (τ1' := [.tr (.nd (.ins n 0) .own [])]) (us1' := [.ref pa]) rfl (by simp) (fun Ψ1 r zo => ?_) rfl
  have n0 : ∀ b, ¬ Ψ1 b := r.2
  refine ⟨Z, fun b => b = pa, ⟨.ref pa, [], fun b => b = pa, fun _ => False, rfl, ⟨pa, [], fun _ => False, rfl, ⟨by simp, dx, by simp [upd_same]⟩, ⟨rfl, fun _ h => h⟩, .mk (by simp) (by simp) (by simp) rfl⟩, ⟨rfl, fun _ h => h⟩, by simp, by simp⟩, ⟨fun _ h => h, fun _ h => h, fun _ h => .inl h, fun _ h => .inl h, fun b q => hs b (EE.zs b q), fun b ob e _ => hk b ob e, fun b q => absurd q (n0 b), fun b q => ?_⟩⟩
  have : b = pa := q
  subst this
  exact ⟨.inr hp, fun z => nz b (.inl z) rfl, fun z => nz b (.inr z) rfl⟩
theorem gMake_ok {xa dx : Addr} {l : Nat} {Q : VK} {rr : Rs} {Ex : XK} (E : EnvOk K c σ H m.g m.s (vs.reverse ++ us)) (hl : vs.length = l) (hf : gMake n mdc G l m = some rr) (hp : PostE K c W σ us Q rr) (hE : ∀ C (H' : HX), W (.ref (K.et C)) H'.2 σ H'.1 → Ex (.ref (K.et C)) H'.2 H'.1) (hx : H xa = none) (hd : H dx = none) (ne : dx ≠ xa) :
    spOf K (true :: mdc) G (.ref xa :: vs) (upd (upd H dx (.own xa)) xa (.ins (K.ct n) dx [])) (fun v H2 => v = .non ∧ Q (.ref xa) H2) Ex := by
  unfold gMake at hf
  split at hf
  · cases hf
  · rename_i ts hts
    have hlen := tail_len E
    have hn : l ≤ m.s.length := by rw [hlen]; simp; omega
    have E1 := E.newIns (n := n) hx hd ne
    have es : m.s = (m.s.take l).reverse.reverse ++ m.s.drop l := by rw [List.reverse_reverse, List.take_append_drop]
    rw [es] at E1
    have E2 := EnvOk.permA (A := [.tr (.nd (.ins n 0) .own [])]) (B := (m.s.take l).reverse.reverse) (va := [.ref xa]) (vb := vs.reverse) rfl (by simp; omega) E1
    obtain ⟨Z, ws, Φ, Ψ, EE⟩ := E2
    split at hf
    · rename_i t rest hG
      cases hf
      refine call_ok (ents := .tr (.nd (.ins n 0) .own []) :: (m.s.take l).reverse) (s := m.s.drop l) (vs := .ref xa :: vs) (us := us) (o := .rt (.a .non) (t :: rest)) (by simpa using EE) (by simp; omega) hts hG ?_
      intro v H' l' E3
      have ev := top_a E3
      refine ⟨ev, hp _ _ ?_⟩
      have E4 := E3.drop
      have E5 : EnvOk K c σ H' m.g ([.tr t] ++ (rest.map .tr ++ m.s.drop l)) ([.ref xa] ++ (vs ++ us)) := by simpa using E4
      have E6 := EnvOk.permA (A := [.tr t]) (va := [.ref xa]) rfl (by simp at l' ⊢; omega) E5
      exact EnvOk.dropN (by simp at l' ⊢; omega) E6
    · rename_i C rest hG
      cases hf
      refine call_ok (ents := .tr (.nd (.ins n 0) .own []) :: (m.s.take l).reverse) (s := m.s.drop l) (vs := .ref xa :: vs) (us := us) (o := .ex C rest) (by simpa using EE) (by simp; omega) hts hG ?_
      intro H' l' E3
      exact hE C H' (hp H' E3.dropAll)
    · cases hf
end
section
variable {K : KC} {X : Cx} {T : KT} {md mdc : List Bool} {W : WX} {c : Cz} {σ σ' : St} {H H' : Hp} {Γ τ τ1 A B P : List Ent} {us us0 us1 vs vs' : List V} {v w : V} {p q : List Nat} {t : Tr} {ts ts' : List Tr} {k k' : Nk} {i j n d h : Nat} {a : Addr} {en en' : Ent} {o : Ow} {Z : Zn} {ws : List V} {Φ Ψ : Ps} {m m' : Ms} {g ge gt gs ga : GE} {e tg iter elt : Expr} {bd : Ms → Option Ms}
/-! the machine's own reading: the same in every context -/
def wpE (K : KC) (md : List Bool) (W : WX) (g : GE) : TE := fun σ H Q => ∃ c m us r, c.md = md ∧ EnvOk K c σ H m.g m.s us ∧ g m = some r ∧ PostE K c W σ us Q r
theorem ME.pe (h : ME X T md W e g) : PE X e (wpE (kcm X.K T) md W g) := by
  obtain ⟨t, p, s⟩ := h
  exact ⟨fun pins st σ H Q I ⟨c, m, us, r, hc, E, hg, hp⟩ => p.run pins st σ H Q I (s c σ H m us Q r hc E hg hp)⟩
def wpT (K : KC) (md : List Bool) (W : WX) (g : GE) : TT := fun σ H Q => ∃ c m us r, c.md = md ∧ EnvOk K c σ H m.g m.s us ∧ g m = some r ∧ PostT K c W σ us Q r
theorem MT.pt (h : MT X T md W e g) : PT X e (wpT (kcm X.K T) md W g) := by
  obtain ⟨t, p, s⟩ := h
  exact ⟨fun pins st σ H Q I ⟨c, m, us, r, hc, E, hg, hp⟩ => p.run pins st σ H Q I (s c σ H m us Q r hc E hg hp)⟩
abbrev WF : WX := fun _ _ _ _ => False
theorem EnvOk.reσ (E : EnvOk K c σ H Γ τ us) (hl : σ'.length = σ.length) (h : ∀ (i : Nat) (e : Ent), Γ[i]? = some e → e = .no ∨ σ'[i]? = σ[i]?) : EnvOk K c σ' H Γ τ us := by
  obtain ⟨Z, ws, Φ, Ψ, sl, tm, dj, so, to, ln, zo, zf, z0, zs, st, pv⟩ := E
  refine ⟨Z, ws, Φ, Ψ, ⟨sl, tm, dj, fun i e he => ?_, to, by rw [hl]; exact ln, zo, zf, z0, zs, st, pv⟩⟩
  have h1 := so i e he
  rcases h i e he with h2 | h2
  · subst h2
    trivial
  · cases e with
    | no => trivial
    | tr t =>
      obtain ⟨x, a, b⟩ := h1
      exact ⟨x, a, by rw [h2]; exact b⟩
    | al p =>
      obtain ⟨x, a, b⟩ := h1
      exact ⟨x, by rw [h2]; exact a, b⟩
/-- a slot is forgotten -/
def clr (i : Nat) (m : Ms) : Ms := ⟨(m.g.map (killR i)).set i .no, m.s.map (killR i)⟩
theorem EnvOk.clr (E : EnvOk K c σ H m.g m.s us) (hi : i < m.g.length) : EnvOk K c σ H (clr i m).g (clr i m).s us := by
  obtain ⟨Z, ws, Φ, Ψ, sl, tm, dj, so, to, ln, zo, zf, z0, zs, st, pv⟩ := E
  have hlt : i < (trees m.g).length := by simpa [trees] using hi
  obtain ⟨v', Φ1, Φ2, e2, r, d, u, r2, _⟩ := RepL.at_ _ sl (i := i) (t := (trees m.g)[i]) (List.getElem?_eq_getElem hlt)
  have et : trees ((m.g.map (killR i)).set i .no) = (trees m.g).set i .any := by
    have := trees_killR (Γ := m.g) (i := i)
    simp only [trees, List.map_set] at this ⊢
    rw [this]
    rfl
  refine ⟨Z, ws, Φ2, Ψ, ⟨by show RepL _ _ _ _ (trees ((m.g.map (killR i)).set i .no)) _ _; rw [et]; exact r2, ?_, by grind, ?_, ?_, by simp [Mine.clr, ln], by grind, zf, z0, zs, st, pv⟩⟩
  · show RepL K Z H .own (trees (m.s.map (killR i))) us Ψ
    rw [trees_killR]
    exact tm
  · intro j e he
    by_cases hj : i = j
    · subst hj
      have he : ((m.g.map (killR i)).set i .no)[i]? = some e := he
      rw [List.getElem?_set_self (by simpa using hi)] at he
      cases he
      trivial
    · have he : ((m.g.map (killR i)).set i .no)[j]? = some e := he
      rw [List.getElem?_set_ne hj] at he
      obtain ⟨e', he', rfl⟩ := killR_at he
      have h1 := so j e' he'
      cases e' with
      | no => trivial
      | tr x => exact h1
      | al q =>
        obtain ⟨x1, x2, x3, x4⟩ := h1
        by_cases hq : q.head? = some i
        · simp only [killR, hq, if_true]
          trivial
        · simp only [killR, hq, if_false]
          exact ⟨x1, x2, x3, by show (getG ((m.g.map (killR i)).set i .no) q).isSome = true; rw [getG_ne hq]; exact x4⟩
  · intro j q hj
    obtain ⟨e', he', hk⟩ := killR_at hj
    cases e' with
    | no => simp [killR] at hk
    | tr _ => simp [killR] at hk
    | al r =>
      by_cases hq : r.head? = some i
      · simp [killR, hq] at hk
      · simp only [killR, hq, if_false] at hk
        cases hk
        obtain ⟨w1, s1, s2, s3⟩ := to j q he'
        exact ⟨w1, s1, s2, by show (getG ((m.g.map (killR i)).set i .no) q).isSome = true; rw [getG_ne hq]; exact s3⟩
/-- a target of a comprehension whose names are the slots cv -/
def SGW (K : KC) (md : List Bool) (cv : List Nat) (t : TG) (b : Ms → Option Ms) : Prop := ∀ (c : Cz) (σ : St) (H : Hp) (m m' : Ms) (us : List V) (x : V) (Q : St → Hp → Prop), c.md = md → EnvOk K c (wipe σ cv) H m.g m.s (x :: us) → b m = some m' → (∀ σ2, wipe σ2 cv = wipe σ cv → EnvOk K c σ2 H m'.g m'.s us → Q σ2 H) → t x (wipe σ cv) H Q
theorem sgw_name : SGW K md [i] (gName i) (bind md i) := fun c σ H m m' us x Q hc E h hq => by
  refine hq _ ?_ (bind_ok hc E h)
  simp [wipe, List.set_set]
def clrs : List Nat → Ms → Ms
  | [], m => m
  | i :: is, m => clrs is (clr i m)
def allNo (Γ : List Ent) : List Nat → Bool
  | [] => true
  | i :: is => (match Γ[i]? with
    | some .no => true
    | _ => false) && allNo Γ is
/-- one turn: the item is on top, the new list at depth d below it -/
def lcTurn (cv : List Nat) (bd : Ms → Option Ms) (gt ge : GE) (d : Nat) (m : Ms) : Option Ms := match bd m with
  | none => none
  | some m1 => match gt m1 with
    | some (.ok ⟨g2, .tr (.a (.bl true)) :: s2⟩) => match ge ⟨g2, s2⟩ with
      | some (.ok ⟨g3, .tr y :: s3⟩) => match s3[d]? with
        | some (.tr (.nd .lst .own acc)) => if esc y = true ∧ acc.length < sizeLine ∧ (∀ i ∈ cv, i < g3.length) then some (clrs cv ⟨g3, s3.set d (.tr (.nd .lst .own (acc ++ [y])))⟩) else none
        | _ => none
      | _ => none
    | some (.ok ⟨g2, .tr (.a (.bl false)) :: s2⟩) => if ∀ i ∈ cv, i < g2.length then some (clrs cv ⟨g2, s2⟩) else none
    | _ => none
theorem clrs_ok : ∀ {cv : List Nat} {m : Ms}, EnvOk K c σ H m.g m.s us → (∀ i ∈ cv, i < m.g.length) → EnvOk K c σ H (clrs cv m).g (clrs cv m).s us
  | [], m, E, _ => E
  | i :: cv, m, E, h => clrs_ok (cv := cv) (m := clr i m) (E.clr (h i List.mem_cons_self)) (fun j hj => by simpa [clr] using h j (List.mem_cons_of_mem _ hj))
end
section
variable {K : KC} {X : Cx} {T : KT} {md mdc : List Bool} {W : WX} {c : Cz} {σ σ' σ2 : St} {H H' : Hp} {Γ τ τ1 A B P : List Ent} {us us0 us1 vs vs' : List V} {v w : V} {p q : List Nat} {t : Tr} {ts ts' : List Tr} {k k' : Nk} {i j n d h : Nat} {a D : Addr} {en en' : Ent} {o : Ow} {Z : Zn} {ws : List V} {Φ Ψ : Ps} {m m' : Ms} {g ge gt gs ga : GE} {e b tg iter elt : Expr} {bd : Ms → Option Ms} {cv : List Nat}
theorem wipe_get : ∀ {cv : List Nat} {i : Nat}, i ∉ cv → (wipe σ cv)[i]? = σ[i]?
  | [], _, _ => rfl
  | v :: cv, i, h => by
    simp only [List.mem_cons, not_or] at h
    unfold wipe
    rw [List.getElem?_set_ne (fun e => h.1 e.symm), wipe_get h.2]
theorem clr_no {m : Ms} (h : (clr j m).g[i]? = some e') (hm : m.g[i]? = some .no ∨ i = j) : e' = .no := by
  unfold clr at h
  simp only at h
  by_cases hj : j = i
  · subst hj
    by_cases hl : j < (m.g.map (killR j)).length
    · rw [List.getElem?_set_self hl] at h
      cases h
      rfl
    · rw [List.getElem?_eq_none (by simpa using hl)] at h
      cases h
  · rw [List.getElem?_set_ne hj] at h
    obtain ⟨x, hx, rfl⟩ := killR_at h
    rcases hm with hm | hm
    · rw [hm] at hx
      cases hx
      rfl
    · exact absurd hm.symm hj
theorem clrs_no : ∀ {cv : List Nat} {m : Ms} {i : Nat} {e : Ent}, (clrs cv m).g[i]? = some e → (m.g[i]? = some .no ∨ i ∈ cv) → e = .no
  | [], m, i, e, h, hm => by
    rcases hm with hm | hm
    · rw [show (clrs [] m).g = m.g from rfl, hm] at h
      cases h
      rfl
    · simp at hm
  | j :: cv, m, i, e, h, hm => by
    refine clrs_no (cv := cv) (m := clr j m) h ?_
    by_cases hi : i ∈ cv
    · exact .inr hi
    · left
      have hj : m.g[i]? = some .no ∨ i = j := by
        rcases hm with hm | hm
        · exact .inl hm
        · rcases List.mem_cons.mp hm with hm | hm
          · exact .inr hm
          · exact absurd hm hi
      have hlen : ∀ {cv : List Nat} {m : Ms}, (clrs cv m).g.length = m.g.length := by
        intro cv
        induction cv with
        | nil => intro m; rfl
        | cons x cv ih => intro m; rw [show clrs (x :: cv) m = clrs cv (clr x m) from rfl, ih]; simp [clr]
      have hlt := getq_lt' h
      rw [hlen] at hlt
      have : i < (clr j m).g.length := by simpa [clr] using hlt
      have h2 := List.getElem?_eq_getElem this
      rw [h2, clr_no h2 hj]
theorem backσ (E : EnvOk K c σ2 H (clrs cv m).g (clrs cv m).s us) (hw : wipe σ2 cv = wipe σ cv) : EnvOk K c (wipe σ cv) H (clrs cv m).g (clrs cv m).s us := by
  refine E.reσ (by rw [← hw, wipe_length]) fun i e he => ?_
  by_cases hi : i ∈ cv
  · exact .inl (clrs_no he (.inr hi))
  · right
    rw [← hw, wipe_get hi]
/-- the list at depth d gets one more item, that on top -/
theorem EnvOk.appAt {s : List Ent} {y : Tr} {yv : V} {acc : List Tr} (E : EnvOk K c σ H Γ (.tr y :: s) (yv :: us)) (hs : s[d]? = some (.tr (.nd .lst .own acc))) (hu : us[d]? = some (.ref D)) (he : esc y = true) :
    ∃ vs, H D = some (.lst vs) ∧ acc.length = vs.length ∧ EnvOk K c σ (upd H D (.lst (vs ++ [yv]))) Γ (s.set d (.tr (.nd .lst .own (acc ++ [y])))) us := by
  obtain ⟨Z, ws, Φ, Ψ, EE⟩ := id E
  obtain ⟨Θ, a, vs, Ξ, ea, ho, hlr, hn⟩ := EE.view (n := d + 1) (e := .tr (.nd .lst .own acc)) (v := .ref D) (by simpa using hs) (by simpa using hu) rfl
  cases ea
  have ho : H D = some (.lst vs) := ho
  have hn : Nod Z .lst .own D acc Ξ Θ := hn
  have hesc := (hn.own (by simp)).2.2
  refine ⟨vs, ho, RepL.len _ hlr, ?_⟩
  have s1 := split_at hs
  have u1 := split_at hu
  have hl := tail_len E
  have lus : s.length = us.length := by simpa using hl
  have hds := getq_lt' hs
  have E1 : EnvOk K c σ H Γ ([.tr y] ++ (s.take d ++ ([.tr (.nd .lst .own acc)] ++ s.drop (d + 1)))) ([yv] ++ (us.take d ++ ([.ref D] ++ us.drop (d + 1)))) := by rw [← s1, ← u1]; exact E
  have E2 := EnvOk.permM (P := [.tr y]) (vp := [yv]) rfl (by simp; omega) rfl E1
  have E3 := EnvOk.permA (A := [.tr y]) (B := [.tr (.nd .lst .own acc)]) (va := [yv]) (vb := [.ref D]) rfl rfl E2
  have E4 := EnvOk.mut (k := .lst) (k' := .lst) (ts := acc) (ts' := acc ++ [y]) (outs := []) (vouts := []) (vs' := vs ++ [yv]) (ob := .lst (vs ++ [yv])) (τ1 := [.tr y]) (us1 := [yv]) (τ := s.take d ++ s.drop (d + 1)) (us := us.take d ++ us.drop (d + 1)) E3 (by simp) (by simp) rfl ho
    (fun Z Ψa Ψb r1 r2 dd => ⟨_, by simpa [Ent.tree] using RepL.append _ r1 r2 dd, fun b q => q⟩) (by simpa using RepL.len _ hlr) rfl (escL_app hesc he) upd_same
  have E5 := EnvOk.permA (A := [.tr (.nd .lst .own (acc ++ [y]))]) (B := s.take d) (τ := s.drop (d + 1)) (va := [.ref D]) (vb := us.take d) (us := us.drop (d + 1)) rfl (by simp; omega) (by simpa using E4)
  have e6 : s.set d (.tr (.nd .lst .own (acc ++ [y]))) = s.take d ++ ([.tr (.nd .lst .own (acc ++ [y]))] ++ s.drop (d + 1)) := by
    rw [List.set_eq_take_append_cons_drop, if_pos hds]
    rfl
  rw [e6, u1]
  simpa using E5
theorem lcTurn_ok {gT : TG} {tt : TT} {te : TE} {s : List Ent} {x : V} {Nx : Hp → Prop} (hm : c.md = md) (hT : SGW K md cv gT bd) (hTt : ST K md WF tt gt) (hTe : SE K md WF te ge) (E : EnvOk K c (wipe σ cv) H Γ s (x :: us)) (hD : us[d]? = some (.ref D))
    (ht : lcTurn cv bd gt ge d ⟨Γ, s⟩ = some m') (hN : ∀ H', EnvOk K c (wipe σ cv) H' m'.g m'.s us → Nx H') :
    gT x (wipe σ cv) H fun σ2 H2 => wipe σ2 cv = wipe σ cv ∧ tt σ2 H2 fun b H3 => if b = true then te σ2 H3 fun y H4 => ∃ acc, H4 D = some (.lst acc) ∧ acc.length < sizeLine ∧ Nx (upd H4 D (.lst (acc ++ [y]))) else Nx H3 := by
  unfold lcTurn at ht
  split at ht
  · cases ht
  · rename_i m1 h1
    refine hT c σ H ⟨Γ, s⟩ m1 us x _ hm E h1 fun σ2 hw E2 => ⟨hw, ?_⟩
    split at ht
    · rename_i g2 s2 h2
      refine hTt c σ2 H m1 us _ _ hm E2 h2 fun H3 E3 => iteT ?_
      split at ht
      · rename_i g3 y s3 h3
        refine hTe c σ2 H3 ⟨g2, s2⟩ us _ _ hm E3 h3 fun yv H4 E4 => ?_
        split at ht
        · rename_i acc hacc
          split at ht
          · rename_i hc
            cases ht
            obtain ⟨vs, ho, hl, E5⟩ := EnvOk.appAt E4 hacc hD hc.1
            refine ⟨vs, ho, by rw [← hl]; exact hc.2.1, hN _ ?_⟩
            exact backσ (clrs_ok (m := ⟨g3, s3.set d (.tr (.nd .lst .own (acc ++ [y])))⟩) E5 hc.2.2) hw
          · cases ht
        · cases ht
      · cases ht
    · rename_i g2 s2 h2
      refine hTt c σ2 H m1 us _ _ hm E2 h2 fun H3 E3 => iteF ?_
      split at ht
      · rename_i hc
        cases ht
        exact hN _ (backσ (clrs_ok (m := ⟨g2, s2⟩) E3 hc) hw)
      · cases ht
    · cases ht
/-! over a list or tuple -/
def lcL (k : Nk) (cv : List Nat) (bd : Ms → Option Ms) (gt ge : GE) : Nat → Nat → Ms → Option Ms
  | 0, i, m => match m.s with
    | e :: _ => match viewE m.g e with
      | some (.nd k' _ ts) => if k' = k ∧ ts.length = i then some m else none
      | _ => none
    | _ => none
  | r + 1, i, m => match m.s with
    | e :: s => match viewE m.g e with
      | some (.nd k' o ts) => if k' = k ∧ cpE e = true ∧ ts.length = i + (r + 1) then match kidX e k o ts i with
          | some e' => match lcTurn cv bd gt ge 1 ⟨m.g, e' :: e :: s⟩ with
            | some m' => lcL k cv bd gt ge r (i + 1) m'
            | none => none
          | none => none
        else none
      | _ => none
    | _ => none
theorem lcL_ok {J : It} {gT : TG} {tt : TT} {te : TE} {Q : VK} {w : V} (hm : c.md = md) (hT : SGW K md cv gT bd) (hTt : ST K md WF tt gt) (hTe : SE K md WF te ge)
    (stop : ∀ i H Γ τ σ us e ts o, EnvOk K c σ H Γ (e :: τ) (w :: us) → viewE Γ e = some (.nd k o ts) → ts.length = i → J.stop i H)
    (step : ∀ i H Γ τ σ us e ts o e', EnvOk K c σ H Γ (e :: τ) (w :: us) → cpE e = true → viewE Γ e = some (.nd k o ts) → kidX e k o ts i = some e' → i < ts.length → J.go i H ∧ ∀ x H', J.yld i H x H' → H' = H ∧ EnvOk K c σ H Γ (e' :: e :: τ) (x :: w :: us))
    {m : Ms} (E : EnvOk K c (wipe σ cv) H m.g m.s (w :: .ref D :: us)) (hg : lcL k cv bd gt ge n 0 m = some m') (hQ : ∀ H', EnvOk K c (wipe σ cv) H' m'.g m'.s (w :: .ref D :: us) → Q (.ref D) H') :
    ∃ Wv : Nat → Nat → Hp → Prop, (∃ mm, Wv 0 mm H) ∧ ∀ i mm H, Wv i mm H →
      (J.stop i H ∧ Q (.ref D) H) ∨ (J.go i H ∧ ∃ Nx : Hp → Prop, (∀ H', Nx H' → ∃ m', m' < mm ∧ Wv (i + 1) m' H') ∧ ∀ x H', J.yld i H x H' → gT x (wipe σ cv) H' fun σ2 H2 => wipe σ2 cv = wipe σ cv ∧ tt σ2 H2 fun b H3 =>
        if b = true then te σ2 H3 fun y H4 => ∃ acc, H4 D = some (.lst acc) ∧ acc.length < sizeLine ∧ Nx (upd H4 D (.lst (acc ++ [y]))) else Nx H3) := by
  refine ⟨fun i r H => ∃ m : Ms, EnvOk K c (wipe σ cv) H m.g m.s (w :: .ref D :: us) ∧ lcL k cv bd gt ge r i m = some m', ⟨n, m, E, hg⟩, ?_⟩
  rintro i r H ⟨m, E, hg⟩
  cases r with
  | zero =>
    simp only [lcL] at hg
    split at hg
    · rename_i e s hs
      split at hg
      · rename_i k' o ts hv
        split at hg
        · rename_i hl
          cases hg
          obtain ⟨rfl, hl⟩ := hl
          exact .inl ⟨stop i H m'.g s (wipe σ cv) _ e ts o (hs ▸ E) hv hl, hQ H E⟩
        · cases hg
      · cases hg
    · cases hg
  | succ r =>
    simp only [lcL] at hg
    split at hg
    · rename_i e s hs
      split at hg
      · rename_i k' o ts hv
        split at hg
        · rename_i hl
          obtain ⟨rfl, hl⟩ := hl
          split at hg
          · rename_i e' hk
            split at hg
            · rename_i m1 h1
              obtain ⟨go, yld⟩ := step i H m.g s (wipe σ cv) _ e ts o e' (hs ▸ E) hl.1 hv hk (by have := hl.2; omega)
              refine .inr ⟨go, fun H' => ∃ m : Ms, EnvOk K c (wipe σ cv) H' m.g m.s (w :: .ref D :: us) ∧ lcL k' cv bd gt ge r (i + 1) m = some m', fun H' z => ⟨r, by omega, z⟩, fun x H' y => ?_⟩
              obtain ⟨rfl, E1⟩ := yld x H' y
              exact lcTurn_ok (d := 1) hm hT hTt hTe E1 rfl h1 fun H2 E2 => ⟨m1, E2, hg⟩
            · cases hg
          · cases hg
        · cases hg
      · cases hg
    · cases hg
end
section
variable {K : KC} {X : Cx} {T : KT} {md mdc : List Bool} {W : WX} {c : Cz} {σ σ' σ2 : St} {H H' : Hp} {Γ τ τ1 A B P : List Ent} {us us0 us1 vs vs' : List V} {v w : V} {p q : List Nat} {t : Tr} {ts ts' : List Tr} {k k' : Nk} {i j n d h : Nat} {a D : Addr} {en en' : Ent} {o : Ow} {Z : Zn} {ws : List V} {Φ Ψ : Ps} {m m' : Ms} {g ge gt gs ga : GE} {e b tg iter elt : Expr} {ifs : List Expr} {bd : Ms → Option Ms} {cv : List Nat} {gT : TG} {tt : TT} {te : TE} {pos pos' rp : Pos} {scope : Scope} {own : List (Str × Nat)}
theorem allNo_ok : ∀ {cv : List Nat}, allNo Γ cv = true → ∀ i ∈ cv, Γ[i]? = some .no
  | [], _, i, hi => by simp at hi
  | j :: cv, h, i, hi => by
    simp only [allNo, Bool.and_eq_true] at h
    rcases List.mem_cons.mp hi with z | z
    · subst z
      have := h.1
      split at this
      · rename_i h1
        exact h1
      · cases this
    · exact allNo_ok h.2 i z
theorem toW (E : EnvOk K c σ H Γ τ us) (h : allNo Γ cv = true) : EnvOk K c (wipe σ cv) H Γ τ us := by
  refine E.reσ (by rw [wipe_length]) fun i e he => ?_
  by_cases hi : i ∈ cv
  · have := allNo_ok h i hi
    rw [this] at he
    cases he
    exact .inl rfl
  · exact .inr (wipe_get hi)
theorem fromW (E : EnvOk K c (wipe σ cv) H Γ τ us) (h : allNo Γ cv = true) : EnvOk K c σ H Γ τ us := by
  refine E.reσ (by rw [wipe_length]) fun i e he => ?_
  by_cases hi : i ∈ cv
  · have := allNo_ok h i hi
    rw [this] at he
    cases he
    exact .inl rfl
  · exact .inr (wipe_get hi).symm
/-- [elt for tg in iter if ..]: over a list or tuple -/
def gLc (cv : List Nat) (gs : GE) (bd : Ms → Option Ms) (gt ge : GE) : GE := fun m => match gs m with
  | some (.ok m1) => match ready m1 with
    | some (m2, k, n) => match m2.s with
      | e :: s => if allNo m2.g cv = true then match lcL k cv bd gt ge n 0 ⟨m2.g, e :: .tr (.nd .lst .own []) :: s⟩ with
          | some m3 => if allNo m3.g cv = true then some (.ok ⟨m3.g, m3.s.tail⟩) else none
          | none => none
        else none
      | _ => none
    | none => none
  | some (.ex C g) => some (.ex C g)
  | none => none
theorem EnvOk.empty {s : List Ent} (E : EnvOk K c σ H Γ s us) (hD : H D = none) : EnvOk K c σ (upd H D (.lst [])) Γ (.tr (.nd .lst .own []) :: s) (.ref D :: us) :=
  EnvOk.new (ts := []) (vs := []) (k := .lst) E rfl hD rfl fun o => upd_same
theorem ready_kind {m m' : Ms} (h : ready m = some (m', k, n)) : k = .lst ∨ k = .tup := by
  unfold ready at h
  split at h
  · split at h
    · rename_i hk
      cases h
      exact hk
    · cases h
  · split at h
    · cases h
      exact .inl rfl
    · cases h
  · cases h
theorem stopL {aa : Addr} : ∀ i H Γ τ σ us e ts o, EnvOk K c σ H Γ (e :: τ) (.ref aa :: us) → viewE Γ e = some (.nd .lst o ts) → ts.length = i → (Itl K.K aa).stop i H := fun i H Γ τ σ us e ts o E hv hl => by
  obtain ⟨a', vs', e, ho, hl2⟩ := viewObj E hv
  cases e
  exact ⟨vs', objL ho, by omega⟩
theorem stepL {aa : Addr} : ∀ i H Γ τ σ us e ts o e', EnvOk K c σ H Γ (e :: τ) (.ref aa :: us) → cpE e = true → viewE Γ e = some (.nd .lst o ts) → kidX e .lst o ts i = some e' → i < ts.length → (Itl K.K aa).go i H ∧ ∀ x H', (Itl K.K aa).yld i H x H' → H' = H ∧ EnvOk K c σ H Γ (e' :: e :: τ) (x :: .ref aa :: us) := fun i H Γ τ σ us e ts o e' E hcp hv hk hi => by
  obtain ⟨a', vs', w', e, ho, hl2, hw, E3⟩ := EnvOk.kidX E (cpE_tr hcp) hv hk
  cases e
  refine ⟨⟨vs', w', objL ho, hw⟩, fun x H' y => ?_⟩
  obtain ⟨rfl, y⟩ := y
  have := y vs' (objL ho)
  rw [hw] at this
  cases this
  exact ⟨rfl, E3⟩
theorem stopT {aa : Addr} : ∀ i H Γ τ σ us e ts o, EnvOk K c σ H Γ (e :: τ) (.ref aa :: us) → viewE Γ e = some (.nd .tup o ts) → ts.length = i → (Itt K.K aa).stop i H := fun i H Γ τ σ us e ts o E hv hl => by
  obtain ⟨a', vs', e, ho, hl2⟩ := viewObj E hv
  cases e
  exact ⟨vs', objT ho, by omega⟩
theorem stepT {aa : Addr} : ∀ i H Γ τ σ us e ts o e', EnvOk K c σ H Γ (e :: τ) (.ref aa :: us) → cpE e = true → viewE Γ e = some (.nd .tup o ts) → kidX e .tup o ts i = some e' → i < ts.length → (Itt K.K aa).go i H ∧ ∀ x H', (Itt K.K aa).yld i H x H' → H' = H ∧ EnvOk K c σ H Γ (e' :: e :: τ) (x :: .ref aa :: us) := fun i H Γ τ σ us e ts o e' E hcp hv hk hi => by
  obtain ⟨a', vs', w', e, ho, hl2, hw, E3⟩ := EnvOk.kidX E (cpE_tr hcp) hv hk
  cases e
  refine ⟨⟨vs', w', objT ho, hw⟩, fun x H' y => ?_⟩
  obtain ⟨rfl, y⟩ := y
  have := y vs' (objT ho)
  rw [hw] at this
  cases this
  exact ⟨rfl, E3⟩
theorem se_lc {tl : TE} (si : SE K md W tl gs) (hT : SGW K md cv gT bd) (hTt : ST K md WF tt gt) (hTe : SE K md WF te ge) : SE K md W (tLc (fun σ H R => iList K.K tl σ H R ∨ iTup K.K tl σ H R) gT tt te cv) (gLc cv gs bd gt ge) := by
  intro c σ H m us Q rr hm E hg hp
  simp only [gLc] at hg
  split at hg
  · rename_i m1 h1
    split at hg
    · rename_i m2 k n h2
      split at hg
      · rename_i e s hs
        split at hg
        · rename_i hn1
          split at hg
          · rename_i m3 h3
            split at hg
            · rename_i hn2
              cases hg
              rcases ready_kind h2 with rfl | rfl
              · refine .inl (si c σ H m us _ _ hm E h1 fun x H1 E1 => ?_)
                obtain ⟨E2, e2, s2, o, ts, hs2, hv, _⟩ := ready_ok E1 h2
                rw [hs] at hs2
                cases hs2
                rw [hs] at E2
                obtain ⟨aa, vs, rfl, ho, _⟩ := viewObj E2 hv
                refine ⟨aa, rfl, ⟨vs, objL ho⟩, fun D hD => ?_⟩
                have E3 := EnvOk.swap2 ((toW E2 hn1).empty hD)
                exact lcL_ok hm hT hTt hTe stopL stepL (m := ⟨m2.g, e :: .tr (.nd .lst .own []) :: s⟩) E3 h3 fun H' E4 => hp _ H' (fromW E4 hn2).tail
              · refine .inr (si c σ H m us _ _ hm E h1 fun x H1 E1 => ?_)
                obtain ⟨E2, e2, s2, o, ts, hs2, hv, _⟩ := ready_ok E1 h2
                rw [hs] at hs2
                cases hs2
                rw [hs] at E2
                obtain ⟨aa, vs, rfl, ho, _⟩ := viewObj E2 hv
                refine ⟨aa, rfl, ⟨vs, objT ho⟩, fun D hD => ?_⟩
                have E3 := EnvOk.swap2 ((toW E2 hn1).empty hD)
                exact lcL_ok hm hT hTt hTe stopT stepT (m := ⟨m2.g, e :: .tr (.nd .lst .own []) :: s⟩) E3 h3 fun H' E4 => hp _ H' (fromW E4 hn2).tail
            · cases hg
          · cases hg
        · cases hg
      · cases hg
    · cases hg
  · rename_i h1
    cases hg
    exact .inl (si c σ H m us _ _ hm E h1 hp)
  · cases hg
end
section
variable {K : KC} {X : Cx} {T : KT} {md mdc : List Bool} {W : WX} {c : Cz} {σ σ' σ2 : St} {H H' : Hp} {Γ τ : List Ent} {us vs : List V} {v w : V} {i j n : Nat} {m m' : Ms} {g ge gt gs ga gk : GE} {e b tg iter elt cnd : Expr} {es : List Expr} {pos pos' rp : Pos} {scope : Scope} {x y : Str} {G : GF} {kk : Nat} {f C : Addr} {fd : FuncData} {ps : List Str} {pp apos : Pos} {me : Str} {is : List Nat}
theorem se_wp : SE K md W (wpE K md W g) g := fun c σ H m us Q r hc E hg hp => ⟨c, m, us, r, hc, E, hg, hp⟩
theorem st_wp : ST K md W (wpT K md W g) g := fun c σ H m us Q r hc E hg hp => ⟨c, m, us, r, hc, E, hg, hp⟩
/-! comprehensions -/
theorem me_lc (hs : ME X T md W iter gs) (ok : BlkOk X.N X.env.scope scope [(x, i)]) (hg : ∀ (s : Shared) (H : Hp) (C : Addr) (cl : List (Str × Addr)) (fp : List Addr), PG (X.blk s H scope (compEnvC scope cl C X.env) fp) tg (gName i))
    (ht : ∀ (s : Shared) (H : Hp) (C : Addr) (cl : List (Str × Addr)) (fp : List Addr), MT (X.blk s H scope (compEnvC scope cl C X.env) fp) T md WF cnd gt) (he : ∀ (s : Shared) (H : Hp) (C : Addr) (cl : List (Str × Addr)) (fp : List Addr), ME (X.blk s H scope (compEnvC scope cl C X.env) fp) T md WF elt ge)
    (hc : X.calm = true) (hN : X.N.Nodup) (hf : ∀ x, foldedSetIterable iter X.env x = pure x := by intro _; rfl) : ME X T md W (.ListComp elt [⟨tg, iter, [cnd], 0⟩] scope pos) (gLc [i] gs (bind md i) gt ge) := by
  obtain ⟨ti, pi, si⟩ := hs
  exact ⟨_, pe_lc (te := wpE (kcm X.K T) md WF ge) (tt := wpT (kcm X.K T) md WF gt) hc hN (PI.or (pi_list pi) (pi_tup pi)) ok hg (fun s H C cl fp => pts_one (ht s H C cl fp).pt) (fun s H C cl fp => (he s H C cl fp).pe) hf, se_lc si sgw_name st_wp se_wp⟩
/-! calls that let nothing out -/
def noEx (g : GE) : GE := fun m => match g m with
  | some (.ok m') => some (.ok m')
  | _ => none
theorem noEx_ok {R : St → List V → Hp → VK → Prop} (h : RA K md WF n R g) : RA K md W n R (noEx g) := by
  intro c σ H m us vs Q rr hc hl E hf hp
  unfold noEx at hf
  split at hf
  · rename_i m2 h2
    cases hf
    exact h c σ H m us vs Q (.ok m2) hc hl E h2 hp
  · cases hf
theorem spOf_E0 (hin : ∀ i ∈ is, i < n) (hpw : is.reverse.Pairwise (· > ·)) : RA K md W n (fun _ vs H Q => spOf K mdc G vs H Q E0) (noEx (gCall is mdc G n)) := noEx_ok (gCall_ok (W := WF) hin hpw)
theorem me_call0 (F : FnOk X.prog X.w X.K X.mg X.base (L2N.CX X.prog X.w) kk f fd ps (spOf (kcm X.K T) mdc G)) (hr : Room kk X.A) (hg : Gl X x) (hm : X.mg x = some (.ref f)) (hk : PySem.W.keepIn X.K (.ref f) = true) (hb : Binds X.K fd ps [])
    (hdb : (x == ("__debug__" : Str)) = false := by decide) : ME X T md W (.Call (.Name x pp) [] [] pos) (noEx (gCall [] mdc G 0)) := by
  refine ⟨_, pe_call0 F hr hg hm hk hb .nil passL hdb, fun c σ H m us Q rr hc E hg hp => ?_⟩
  exact spOf_E0 (by simp) (by simp) c σ H m us [] Q rr hc rfl E hg hp
theorem me_make (M : Mk X.K (T.ct n) f) (F : FnOk X.prog X.w X.K X.mg X.base (L2N.CX X.prog X.w) kk f fd ps (spOf (kcm X.K T) (true :: mdc) G)) (hr : Room (kk + 1) X.A) (hg : Gl X x) (hm : X.mg x = some (.ref (T.ct n))) (hb : Binds X.K fd ps []) (ha : MA X T md W (e :: es) ga)
    (hdb : (x == ("__debug__" : Str)) = false := by decide) (he : starEach (e :: es) X.env = (false, eval e X.env) :: starEach es X.env := by rfl) (hpl : (backTo pos (starEach es X.env)).any (·.1) = false := by rfl) :
    ME X T md W (.Call (.Name x pp) (e :: es) [] pos) (gSeq ga (noEx (gMake n mdc G (e :: es).length))) := by
  obtain ⟨t, pa, sa⟩ := ha
  refine ⟨_, pe_make M F hr hg hm hb .nil passL pa hdb he hpl, ?_⟩
  refine seqA sa (noEx_ok (R := fun _ vs H1 Q => ∀ x dx, H1 x = none → H1 dx = none → dx ≠ x → spOf (kcm X.K T) (true :: mdc) G (.ref x :: (vs ++ [])) (upd (upd H1 dx (.own x)) x (.ins (T.ct n) dx [])) (fun v H2 => v = .non ∧ Q (.ref x) H2) E0) ?_)
  intro c σ H m us vs Q rr hc hl E hf hp xa dx h1 h2 h3
  rw [List.append_nil]
  exact gMake_ok E hl hf hp (fun _ _ h => h) h1 h2 h3
end
/-! static methods and class constants, read off the class -/
structure SMet (K : PySem.W.Frag) (C : Addr) (m : Str) (g : Addr) : Prop where
  rd : ClX.CRead K C (.type "type")
  at_ : ∃ p rest, PySem.W.findCls K (.ref C) (.type "type") m = some (.get (.builtin "staticmethod.__get__") (.ref p) .none (.ref C)) ∧ PySem.W.recIn K p "staticmethod" = some (.ref g :: rest)
  kp : PySem.W.keepIn K (.ref g) = true
def tSMeth (C : Addr) (sp : Sp) (dvs : List V) (E : XK) (ta : TE) (t : TA) : TE := fun σ H Q => ta σ H fun x H1 => x = .ref C ∧ t σ H1 fun vs H2 => sp (vs ++ dvs) H2 Q E
section
variable {X : Cx} {CX : CXT} {k : Nat} {C g : Addr} {sp : Sp} {E : XK} {o e : Expr} {es : List Expr} {m : Str} {pos apos : Pos} {ta : TE} {t : TA} {pl : Sem Bool} {fd : FuncData} {ps : List Str} {ds : List Value} {dvs : List V}
theorem pe_smeth (he : PE X o ta) (c : SMet X.K C m g) (F : FnOk X.prog X.w X.K X.mg X.base CX k g fd ps sp) (hr : Room k X.A) (hb : Binds X.K fd ps ds) (hd : Vals dvs ds) (hx : Passes CX X E) (ha : PA X (e :: es) t)
    (hst : starEach (e :: es) X.env = (false, eval e X.env) :: starEach es X.env := by rfl) (hpl : (backTo pos (starEach es X.env)).any (·.1) = false := by rfl)
    (ht : eval (.Call (.Attribute o m apos) (e :: es) [] pos) X.env = (do
      let ov ← eval o X.env
      standAt apos.atName
      let (f, first) ← holding [ov] (getMethod ov m pl)
      callWith pos f first (backTo pos (starEach (e :: es) X.env)) (backToKw pos (keywordEach [] X.env))) := by rfl) :
    PE X (.Call (.Attribute o m apos) (e :: es) [] pos) (tSMeth C sp dvs E ta t) := by
  refine ⟨fun pins s σ H Q I h => ?_⟩
  refine PySem.W.methodCall_KW (pl := pl) (thn (he.run pins s σ H _ I h) fun u s1 ⟨x, H1, I1, rx, ex, q⟩ => ?_) ht
  subst ex
  obtain rfl : u = Value.ref C := rx
  obtain ⟨p, rest, h1, h2⟩ := c.at_
  refine PySem.W.method_cls I1.kIn c.rd.ga (PySem.W.cls_bind I1.kIn c.rd.rd h1 (wpAny_call (PySem.W.sm_get (s := { s1 with toks := s1.toks + 1 }) I1.kIn h2 (PySem.W.handed_on rfl ?_))))
  have I2 := I1.tok (s1.toks + 1)
  refine PySem.W.callWith_K (h₀ := X.base) I2.ok.mod.kin c.kp (thn (ha.run pos pins _ σ H1 _ I2 q) fun us s3 ⟨vs, H2, I3, rv, q2⟩ => ⟨I3.kIn, ?_⟩) hst hpl
  exact run_fn F hr hb hd hx I3 rv q2
end
theorem kit_true {K : PySem.W.Frag} {C D : Addr} (hd : PySem.W.hasDictIn K D = true) (ht : PySem.W.typeIn K (.ref D) = some (.type "type")) (h : PySem.W.subIn K (.ref C) (.ref D) = some true) : PySem.W.kitOne K (.ref C) (.ref D) = some true := by
  unfold PySem.W.kitOne
  split
  · rfl
  · obtain ⟨cd, hc, _⟩ := PySem.W.any_some hd
    show (if ((PySem.W.clsIn K D).isSome && PySem.W.typeIn K (.ref D) == some (.type "type")) = true then PySem.W.subIn K (.ref C) (.ref D) else none) = _
    have e2 : ((PySem.W.clsIn K D).isSome && PySem.W.typeIn K (.ref D) == some (.type "type")) = true := by rw [hc, ht] <;> rfl
    rw [if_pos e2]
    exact h
theorem kit_false {K : PySem.W.Frag} {C D : Addr} (hd : PySem.W.hasDictIn K D = true) (ht : PySem.W.typeIn K (.ref D) = some (.type "type")) (h : PySem.W.subIn K (.ref C) (.ref D) = some false) (hs : PySem.W.subIn K (.ref C) (.ref C) = some true) : PySem.W.kitOne K (.ref C) (.ref D) = some false := by
  unfold PySem.W.kitOne
  split
  · rename_i q
    have e : C = D := Value.ref.inj (beq_iff_eq.mp q)
    rw [← e, hs] at h
    cases h
  · obtain ⟨cd, hc, _⟩ := PySem.W.any_some hd
    show (if ((PySem.W.clsIn K D).isSome && PySem.W.typeIn K (.ref D) == some (.type "type")) = true then PySem.W.subIn K (.ref C) (.ref D) else none) = _
    have e2 : ((PySem.W.clsIn K D).isSome && PySem.W.typeIn K (.ref D) == some (.type "type")) = true := by rw [hc, ht] <;> rfl
    rw [if_pos e2]
    exact h
section
variable {K : KC} {X : Cx} {T : KT} {md mdc : List Bool} {W : WX} {c : Cz} {σ σ' σ2 : St} {H H' : Hp} {Γ τ : List Ent} {us vs : List V} {v w : V} {i j n : Nat} {m m' : Ms} {g ge gt gs ga gk gv go gi fo : GE} {gb : GS} {e b tg iter elt cnd oe ie : Expr} {es : List Expr} {pos pos' rp tpos : Pos} {x y : Str} {G : GF} {kk : Nat} {f C : Addr} {fd : FuncData} {ps : List Str} {pp apos : Pos} {me fl : Str} {is : List Nat} {pl : Sem Bool} {ts : List Tr} {t : Tr} {sts : List Stmt} {st : Stmt}
/-! static methods -/
theorem me_smeth (he : PE X oe (tC (.ref C))) (cm : SMet X.K C me f) (F : FnOk X.prog X.w X.K X.mg X.base (L2N.CX X.prog X.w) kk f fd ps (spOf (kcm X.K T) mdc G)) (hr : Room kk X.A) (hb : Binds X.K fd ps []) (ha : MA X T md W (e :: es) ga) (hin : ∀ i ∈ is, i < (e :: es).length) (hpw : is.reverse.Pairwise (· > ·))
    (hst : starEach (e :: es) X.env = (false, eval e X.env) :: starEach es X.env := by rfl) (hpl : (backTo pos (starEach es X.env)).any (·.1) = false := by rfl)
    (ht : eval (.Call (.Attribute oe me apos) (e :: es) [] pos) X.env = (do let ov ← eval oe X.env; standAt apos.atName; let (f, first) ← holding [ov] (getMethod ov me pl); callWith pos f first (backTo pos (starEach (e :: es) X.env)) (backToKw pos (keywordEach [] X.env))) := by rfl) :
    ME X T md W (.Call (.Attribute oe me apos) (e :: es) [] pos) (gSeq ga (noEx (gCall is mdc G (e :: es).length))) := by
  obtain ⟨t, pa, sa⟩ := ha
  refine ⟨_, pe_smeth he cm F hr hb .nil passL pa hst hpl ht, fun c σ H m us Q rr hc E hg hp => ⟨rfl, ?_⟩⟩
  have := seqA sa (spOf_E0 (mdc := mdc) (G := G) (W := W) hin hpw) c σ H m us Q rr hc E hg hp
  simpa using this
/-! several names at once -/
def bindAll (md : List Bool) : List Nat → Ms → Option Ms
  | [], m => some m
  | i :: is, m => match bind md i m with
    | some m' => bindAll md is m'
    | none => none
def tNames : List Nat → TGs
  | [] => L2.gNil
  | i :: is => gCons (gName i) (tNames is)
theorem bindAll_ok (hc : c.md = md) : ∀ {is : List Nat} {xs : List V} {m m' : Ms} {σ : St} {Q : St → Hp → Prop}, xs.length = is.length → EnvOk K c σ H m.g m.s (xs ++ us) → bindAll md is m = some m' → (∀ σ', EnvOk K c σ' H m'.g m'.s us → Q σ' H) → tNames is xs σ H Q
  | [], [], m, m', σ, Q, _, E, h, hq => by
    simp only [bindAll] at h
    cases h
    exact ⟨rfl, hq σ E⟩
  | i :: is, x :: xs, m, m', σ, Q, hl, E, h, hq => by
    simp only [bindAll] at h
    split at h
    · rename_i m1 h1
      exact ⟨x, xs, rfl, bindAll_ok hc (by simpa using hl) (bind_ok hc E h1) h hq⟩
    · cases h
  | [], _ :: _, _, _, _, _, hl, _, _, _ => by simp at hl
  | _ :: _, [], _, _, _, _, hl, _, _, _ => by simp at hl
def unpkP (md : List Bool) : List Nat → Nat → Ms → Option Ms
  | [], _, m => some ⟨m.g, m.s.tail⟩
  | i :: is, j, m => match m.s with
    | .al p :: s => match getG m.g p with
      | some (.nd .lst .own ts) => match kidX (.al p) .lst .own ts j with
        | some e' => match bind md i ⟨m.g, e' :: .al p :: s⟩ with
          | some m' => unpkP md is (j + 1) m'
          | none => none
        | none => none
      | _ => none
    | _ => none
def unpk (md : List Bool) (is : List Nat) : Ms → Option Ms := fun m => match m.s with
  | .tr (.nd k o ts) :: s => if (k = .lst ∨ k = .tup) ∧ ts.length = is.length then bindAll md is ⟨m.g, (ts.map (kid o)).map Ent.tr ++ s⟩ else none
  | .al p :: s => match getG m.g p with
    | some (.nd .lst .own ts) => if ts.length = is.length then unpkP md is 0 ⟨m.g, .al p :: s⟩ else none
    | _ => none
  | _ => none
theorem unpkP_ok {aa : Addr} (hc : c.md = md) (hH : H aa = some (.lst vs)) : ∀ {is : List Nat} {j : Nat} {m m' : Ms} {σ : St} {Q : St → Hp → Prop}, j + is.length = vs.length → EnvOk K c σ H m.g m.s (.ref aa :: us) → unpkP md is j m = some m' → (∀ σ', EnvOk K c σ' H m'.g m'.s us → Q σ' H) → tNames is (vs.drop j) σ H Q
  | [], j, m, m', σ, Q, hl, E, h, hq => by
    simp only [unpkP] at h
    cases h
    exact ⟨List.drop_of_length_le (by simp at hl; omega), hq σ E.tail⟩
  | i :: is, j, m, m', σ, Q, hl, E, h, hq => by
    simp only [unpkP] at h
    split at h
    · rename_i p s hs
      split at h
      · rename_i ts hg
        split at h
        · rename_i e' hk
          split at h
          · rename_i m1 h1
            rw [hs] at E
            obtain ⟨a', vs', w', ea, ho, hl2, hw, E1⟩ := EnvOk.kidX E (fun t q => by cases q) (k := .lst) (o := .own) (ts := ts) hg hk
            cases ea
            have ho : H aa = some (.lst vs') := ho
            rw [hH] at ho
            cases ho
            have hjl := getq_lt' hw
            have ed : vs.drop j = w' :: vs.drop (j + 1) := by rw [List.drop_eq_getElem_cons hjl, (List.getElem?_eq_some_iff.mp hw).2]
            rw [ed]
            exact ⟨w', _, rfl, unpkP_ok hc hH (by simp at hl; omega) (bind_ok hc E1 h1) h hq⟩
          · cases h
        · cases h
      · cases h
    · cases h
theorem zip_rev {α β : Type} : ∀ {l : List α} {r : List β}, l.length = r.length → l.reverse.zip r.reverse = (l.zip r).reverse
  | [], [], _ => rfl
  | a :: l, b :: r, h => by
    rw [List.reverse_cons, List.reverse_cons, List.zip_cons_cons, List.reverse_cons, List.zip_append (by simpa using h), zip_rev (by simpa using h)]
    rfl
theorem EnvOk.revs {s : List Ent} (hl : ts.length = vs.length) (E : EnvOk K c σ H Γ (ts.reverse.map Ent.tr ++ s) (vs.reverse ++ us)) : EnvOk K c σ H Γ (ts.map Ent.tr ++ s) (vs ++ us) := by
  have lt : s.length = us.length := by
    have := tail_len E
    simp at this
    omega
  have h := EnvOk.perm (K := K) (c := c) (σ := σ) (H := H) (Γ := Γ) (l := (ts.map Ent.tr).reverse.zip vs.reverse ++ s.zip us) (l' := (ts.map Ent.tr).zip vs ++ s.zip us) (by
    refine List.Perm.append_right _ ?_
    rw [zip_rev (by simpa using hl)]
    exact List.reverse_perm _)
  have l1 : (ts.map Ent.tr).length = vs.length := by simpa using hl
  simp only [List.map_append, List.map_fst_zip (Nat.le_of_eq l1), List.map_snd_zip (Nat.le_of_eq l1.symm), List.map_fst_zip (Nat.le_of_eq lt), List.map_snd_zip (Nat.le_of_eq lt.symm)] at h
  rw [List.map_fst_zip (by simp; omega), List.map_snd_zip (by simp; omega)] at h
  exact h (by simpa using E)
theorem PG.or {t1 t2 : TG} (h1 : PG X tg t1) (h2 : PG X tg t2) : PG X tg (fun v σ H Q => t1 v σ H Q ∨ t2 v σ H Q) := by
  refine ⟨fun pins s σ H v u Q I r h => ?_⟩
  rcases h with h | h
  · exact h1.run pins s σ H v u Q I r h
  · exact h2.run pins s σ H v u Q I r h
theorem sg_unp : SG K md (fun v σ H Q => gTup K.K is.length (tNames is) v σ H Q ∨ gLst K.K is.length (tNames is) v σ H Q) (unpk md is) := by
  intro c σ H m m' us x Q hc E h hq
  unfold unpk at h
  split at h
  · rename_i k o ts s hs
    split at h
    · rename_i hk
      rw [hs] at E
      obtain ⟨ad, vs, rfl, ho, hl, _, E1⟩ := EnvOk.items (ts' := ts.map (kid o)) E (by rfl) (by rfl)
      have E2 := EnvOk.revs (ts := ts.map (kid o)) (by simpa using hl) E1
      rcases hk.1 with rfl | rfl
      · exact .inr ⟨ad, vs, rfl, objL ho, by omega, bindAll_ok (m := ⟨m.g, (ts.map (kid o)).map Ent.tr ++ s⟩) hc (by omega) E2 h fun σ' E3 => hq σ' H E3⟩
      · exact .inl ⟨ad, vs, rfl, objT ho, by omega, bindAll_ok (m := ⟨m.g, (ts.map (kid o)).map Ent.tr ++ s⟩) hc (by omega) E2 h fun σ' E3 => hq σ' H E3⟩
    · cases h
  · rename_i p s hs
    split at h
    · rename_i ts hg
      split at h
      · rename_i hl
        rw [hs] at E
        obtain ⟨ad, vs, rfl, ho, hl2⟩ := viewObj E (k := .lst) (o := .own) (ts := ts) hg
        have hb := unpkP_ok (m := ⟨m.g, .al p :: s⟩) (j := 0) hc ho (by omega) E h (fun σ' E3 => hq σ' H E3)
        exact .inr ⟨ad, vs, rfl, objL ho, by omega, by simpa using hb⟩
      · cases h
    · cases h
  · cases h
theorem mg_unp (h1 : PG X tg (gTup X.K is.length (tNames is))) (h2 : PG X tg (gLst X.K is.length (tNames is))) : MG X T md tg (unpk md is) := ⟨_, PG.or h1 h2, sg_unp⟩
/-- target = e, by the target's machine -/
def sAsg (ge : GE) (bd : Ms → Option Ms) : GS := fun m => match ge m with
  | some (.ok m1) => match bd m1 with
    | some m2 => some (.nx m2)
    | none => none
  | some (.ex C g) => some (.ex C g)
  | none => none
theorem ms_asg {bd : Ms → Option Ms} (h : ME X T md W e ge) (hT : MG X T md tg bd) (hp : ∀ {te : TE} {g : TG}, PE X e te → PG X tg g → PS X (.Assign [tg] e pos) (tAsg te g)) : MS X T md W (.Assign [tg] e pos) (sAsg ge bd) := by
  obtain ⟨t, p, s⟩ := h
  obtain ⟨tt, pt, stt⟩ := hT
  refine ⟨_, hp p pt, fun c σ H m us D o hc E hg hp => ?_⟩
  simp only [sAsg] at hg
  split at hg
  · rename_i m1 h1
    split at hg
    · rename_i m2 h2
      cases hg
      exact s c σ H m us _ _ hc E h1 fun x H1 E1 => stt c σ H1 m1 m2 us x _ hc E1 h2 fun σ' H' E2 => hp σ' H' E2
    · cases hg
  · rename_i h1
    cases hg
    exact s c σ H m us _ _ hc E h1 fun H1 E1 => hp σ H1 E1
  · cases hg
/-- a, b = x, y -/
def sPar (md : List Bool) (i j : Nat) (ga : GE) : GS := fun m => match ga m with
  | some (.ok ⟨g', y :: x :: s⟩) => match bindAll md [i, j] ⟨g', x :: y :: s⟩ with
    | some m2 => some (.nx m2)
    | none => none
  | some (.ex C g) => some (.ex C g)
  | _ => none
theorem ms_par {a b : Expr} (ha : MA X T md W [a, b] ga) (hp : ∀ {ta : TA}, PA X [a, b] ta → PS X st (tPar i j ta)) : MS X T md W st (sPar md i j ga) := by
  obtain ⟨t, p, s⟩ := ha
  refine ⟨_, hp p, fun c σ H m us D o hc E hg hp => ?_⟩
  simp only [sPar] at hg
  split at hg
  · rename_i g' ey ex s1 h1
    split at hg
    · rename_i m2 h2
      cases hg
      refine s c σ H m us _ _ hc E h1 fun vs H1 hl E1 => ?_
      match vs, hl with
      | [xv, yv], _ =>
        have E2 : EnvOk (kcm X.K T) c σ H1 g' (ex :: ey :: s1) (xv :: yv :: us) := EnvOk.swap2 E1
        simp only [bindAll] at h2
        split at h2
        · rename_i m3 h3
          split at h2
          · rename_i m4 h4
            cases h2
            exact ⟨xv, yv, rfl, hp _ _ (bind_ok hc (bind_ok (m := ⟨g', ex :: ey :: s1⟩) hc E2 h3) h4)⟩
          · cases h2
        · cases h2
    · cases hg
  · rename_i h1
    cases hg
    exact s c σ H m us _ _ hc E h1 fun H1 E1 => hp σ H1 E1
  · cases hg
/-! raise -/
def sRaise (C : Nat) : GS := fun m => some (.ex C m.g)
theorem ms_raise {n : Nat} (hc : X.calm = true) (tk : Takes X W) (he : PMk X e (fun _ H Q => Q (.ref (T.et n)) none H)) (hf : T.ef n = none := by rfl) : MS X T md W (.Raise (some e) none pos) (sRaise n) := by
  refine ⟨_, L2N.ps_raise hc tk he, fun c σ H m us D o hc E hg hp => ?_⟩
  cases hg
  exact hp σ (H, none) (EnvX.mk0 hf E.dropAll)
end
section
variable {K : KC} {X : Cx} {T : KT} {md mdc : List Bool} {W : WX} {c : Cz} {σ σ' σ2 : St} {H H' : Hp} {Γ τ : List Ent} {us vs : List V} {v w : V} {i j n : Nat} {m m' : Ms} {g ge gt gs ga gk gv go gi fo : GE} {gb : GS} {e b oe ie : Expr} {es : List Expr} {pos pos' rp tpos : Pos} {fl : Str} {tab : List (Nat × Nat)} {op : Operator}
/-! o.f op= e -/
def sFAug (tab : List (Nat × Nat)) (go gv fo : GE) : GS := fun m => match go m with
  | some (.ok ⟨g1, .al p :: s1⟩) => match getG g1 p with
    | some (.nd (.ins n k) .own ts) => match tab.lookup n with
      | some j => match ts[j]? with
        | some (.a u) => match gv ⟨g1, .tr (.a u) :: .al p :: s1⟩ with
          | some (.ok m2) => match fo m2 with
            | some (.ok ⟨g3, .tr (.a z) :: e3 :: s3⟩) => match viewE g3 e3 with
              | some (.nd (.ins n' _) _ _) => if n' = n then match stFld tab ⟨g3, e3 :: .tr (.a z) :: s3⟩ with
                  | some m4 => some (.nx m4)
                  | none => none
                else none
              | _ => none
            | _ => none
          | some (.ex C g) => some (.ex C g)
          | none => none
        | _ => none
      | none => none
    | _ => none
  | some (.ex C g) => some (.ex C g)
  | _ => none
/-! o[i] op= e, of a list -/
def sSAug (go gi gv fo : GE) : GS := fun m => match gSeq go gi m with
  | some (.ok ⟨g1, .tr (.a (.int x)) :: .al p :: s1⟩) => match getG g1 p with
    | some (.nd .lst .own ts) => match ixN ts.length x with
      | some j => match ts[j]? with
        | some (.a u) => match gv ⟨g1, .tr (.a u) :: .tr (.a (.int x)) :: .al p :: s1⟩ with
          | some (.ok m2) => match fo m2 with
            | some (.ok ⟨g3, .tr (.a z) :: e3 :: e4 :: s3⟩) => match stSub ⟨g3, e3 :: e4 :: .tr (.a z) :: s3⟩ with
              | some m4 => some (.nx m4)
              | none => none
            | _ => none
          | some (.ex C g) => some (.ex C g)
          | none => none
        | _ => none
      | none => none
    | _ => none
  | some (.ex C g) => some (.ex C g)
  | _ => none
end
section
variable {K : KC} {X : Cx} {T : KT} {md mdc : List Bool} {W : WX} {c : Cz} {σ : St} {H : Hp} {us : List V} {i n j : Nat} {m : Ms} {g ga gb gc ge gt gs f f' : GE} {e a b cc tg iter elt cnd : Expr} {pos pos' rp py spos : Pos} {scope : Scope} {x y fl : Str} {r r' : R2} {tab : List (Nat × Nat)} {Kf : PySem.W.Frag}
theorem FldOk.nil : FldOk Kf T fl [] := fun n j h => by simp at h
theorem FldOk.cons (h1 : Cls Kf (T.ct n)) (h2 : NoAttr Kf (T.ct n) fl) (h3 : (T.nm n).idxOf? fl = some j) (h : FldOk Kf T fl tab) : FldOk Kf T fl ((n, j) :: tab) := fun n' j' q => by
  rcases List.mem_cons.mp q with z | z
  · cases z
    exact ⟨h1, h2, h3⟩
  · exact h n' j' z
/-! a < b < c -/
def gChain (ga gb f gc f' : GE) : GE := fun m => match gSeq ga gb m with
  | some (.ok ⟨g1, .tr (.a v) :: s1⟩) => match f ⟨g1, .tr (.a v) :: s1⟩ with
    | some (.ok ⟨g2, .tr (.a (.bl true)) :: s2⟩) => match gc ⟨g2, .tr (.a v) :: s2⟩ with
      | some (.ok m3) => f' m3
      | some (.ex C g) => some (.ex C g)
      | none => none
    | some (.ok ⟨g2, .tr (.a (.bl false)) :: s2⟩) => some (.ok ⟨g2, .tr (.a (.bl false)) :: s2⟩)
    | _ => none
  | some (.ex C g) => some (.ex C g)
  | _ => none
theorem se_chain {ta tb tc : TE} (sa : SE K md W ta ga) (sb : SE K md W tb gb) (hf : RA2 K md W r f) (sc : SE K md W tc gc) (hf' : RA2 K md W r' f') : SE K md W (tChain r r' ta tb tc) (gChain ga gb f gc f') := by
  intro c σ H m us Q rr hc E hg hp
  simp only [gChain] at hg
  cases e1 : ga m with
  | none => simp [gSeq, e1] at hg
  | some r1 =>
    cases r1 with
    | ex C g' =>
      simp only [gSeq, e1] at hg
      cases hg
      exact sa c σ H m us _ _ hc E e1 hp
    | ok m1 =>
      simp only [gSeq, e1] at hg
      refine sa c σ H m us _ _ hc E e1 fun x H1 E1 => ?_
      split at hg
      · rename_i g1 v s1 h1
        refine sb c σ H1 m1 _ _ _ hc E1 h1 fun y H2 E2 => ?_
        have E2 : EnvOk K c σ H2 g1 (.tr (.a v) :: s1) (y :: x :: us) := E2
        have ey := top_a E2
        subst ey
        split at hg
        · rename_i g2 s2 h2
          refine hf.use hc E2 h2 fun z H3 E3 => ⟨true, top_bl E3, iteT ?_⟩
          have E4 : EnvOk K c σ H3 g2 (.tr (.a y) :: s2) (y :: us) := E3.drop.atom y
          split at hg
          · rename_i m3 h3
            exact sc c σ H3 ⟨g2, _⟩ _ _ _ hc E4 h3 fun w H4 E5 => hf'.use hc E5 hg hp
          · rename_i h3
            cases hg
            exact sc c σ H3 ⟨g2, _⟩ _ _ _ hc E4 h3 hp
          · cases hg
        · rename_i g2 s2 h2
          cases hg
          exact hf.use hc E2 h2 fun z H3 E3 => ⟨false, top_bl E3, iteF (hp _ _ (top_bl E3 ▸ E3))⟩
        · cases hg
      · rename_i h1
        cases hg
        exact sb c σ H1 m1 _ _ _ hc E1 h1 hp
      · cases hg
theorem mt_chain (ha : ME X T md W a ga) (hb : ME X T md W b gb) (hf : RA2 (kcm X.K T) md W r f) (hcc : ME X T md W cc gc) (hf' : RA2 (kcm X.K T) md W r' f') (hp : ∀ {ta tb tc : TE}, PE X a ta → PE X b tb → PE X cc tc → PT X e (tTest (tChain r r' ta tb tc))) : MT X T md W e (gChain ga gb f gc f') := by
  obtain ⟨ta, pa, sa⟩ := ha
  obtain ⟨tb, pb, sb⟩ := hb
  obtain ⟨tc, pc, sc⟩ := hcc
  exact ⟨_, hp pa pb pc, st_of (se_chain sa sb hf sc hf')⟩
def fAddI : GE := fP2 (FI cT fun i j => .int (i + j))
def fSubI : GE := fP2 (FI cT fun i j => .int (i - j))
end
section
variable {K : KC} {X : Cx} {T : KT} {md mdc : List Bool} {W : WX} {c : Cz} {σ : St} {H : Hp} {us : List V} {i n j : Nat} {m : Ms} {g : GE} {e : Expr} {fl : Str} {tab : List (Nat × Nat)} {gT : TG} {tt : TT} {tk tv : TE} {cv : List Nat}
theorem PE.or {t1 t2 : TE} (h1 : PE X e t1) (h2 : PE X e t2) : PE X e (fun σ H Q => t1 σ H Q ∨ t2 σ H Q) := by
  refine ⟨fun pins s σ H Q I h => ?_⟩
  rcases h with h | h
  · exact h1.run pins s σ H Q I h
  · exact h2.run pins s σ H Q I h
/-- {.. for n in x.f}, the dict x.f being empty -/
def gDc0 (i : Nat) (tab : List (Nat × Nat)) : GE := fun m => match gSeq (gVar i) (fFld tab) m with
  | some (.ok ⟨_, e :: _⟩) => match viewE m.g e with
    | some (.nd (.dct []) _ []) => some (.ok ⟨m.g, .tr (.nd (.dct []) .own []) :: m.s⟩)
    | _ => none
  | _ => none
/-- {} -/
def gD0 : GE := fun m => some (.ok ⟨m.g, .tr (.nd (.dct []) .own []) :: m.s⟩)
end
section
variable {K : KC} {X : Cx} {T : KT} {md mdc : List Bool} {W : WX} {c : Cz} {σ : St} {H H' : Hp} {Γ τ : List Ent} {us vs ws wq : List V} {v w wp : V} {p q r : List Nat} {t : Tr} {ts : List Tr} {i j n : Nat} {Z : Zn} {qs : List (List Nat)}
/-! defs that keep the addresses below a parameter of their own: ghosts are aliases that lie at the bottom of the stack -/
abbrev GG := List Tr → List (List Nat) → Option (Rt × List Ent)
variable {P : Program} {Wd : World} {Kf : PySem.W.Frag} {mg : Str → Option Value} {base : Heap}
end
section
variable {K : KC} {X : Cx} {T : KT} {md mdc : List Bool} {W : WX} {c : Cz} {σ : St} {H H' : Hp} {Γ τ : List Ent} {us vs ws wq : List V} {v w wp : V} {p q r : List Nat} {t : Tr} {ts : List Tr} {i j n : Nat} {Z : Zn} {qs : List (List Nat)} {Φ Ψ : Ps} {m m' : Ms} {G : GG}
variable {x me : Str} {pp pos apos : Pos} {e oe : Expr} {es : List Expr} {ga go : GE} {kk : Nat} {f C : Addr} {fd : FuncData} {ps : List Str} {pl : Sem Bool}
end
section
variable {K : KC} {X : Cx} {T : KT} {md : List Bool} {W : WX} {c : Cz} {σ : St} {H H' : Hp} {Γ τ : List Ent} {us vs : List V} {v w : V} {p q : List Nat} {t : Tr} {ts ts' : List Tr} {i j : Nat} {ks : List Key} {k : Key}
variable {g : GS} {gi go gv ga gb : GE} {e a b o ie : Expr} {pos pos' : Pos}
/-! dicts by int and str keys: reads and stores -/
def keyOf : V → Option Key
  | .int i => some (.inl i)
  | .str s => some (.inr s)
  | _ => none
theorem keyOf_kV (h : keyOf v = some k) : v = kV k := by
  cases v <;> simp [keyOf] at h <;> subst h <;> rfl
def kix (k : Key) : List Key → Option Nat
  | [] => none
  | x :: ks => if x = k then some 0 else (kix k ks).map (· + 1)
theorem kix_at : ∀ {ks : List Key} {j : Nat}, kix k ks = some j → ks[j]? = some k
  | [], _, h => by simp [kix] at h
  | x :: ks, j, h => by
    simp only [kix] at h
    split at h
    · rename_i e
      cases h
      simp [e]
    · simp only [Option.map_eq_some_iff] at h
      obtain ⟨j', h1, rfl⟩ := h
      simpa using kix_at h1
theorem kix_none : ∀ {ks : List Key}, kix k ks = none → k ∉ ks
  | [], _ => by simp
  | x :: ks, h => by
    simp only [kix] at h
    split at h
    · cases h
    · rename_i e
      have := kix_none (by simpa using h)
      simp [this, Ne.symm e]
theorem valV_zip : ∀ {ks : List Key} {vs : List V} {j : Nat}, kix k ks = some j → ks.length = vs.length → valV (ks.zip vs) k = vs[j]?
  | [], _, _, h, _ => by simp [kix] at h
  | x :: ks, [], _, _, l => by simp at l
  | x :: ks, y :: vs, j, h, l => by
    simp only [kix] at h
    rw [List.zip_cons_cons]
    by_cases e : x = k
    · rw [if_pos e] at h
      cases h
      rw [valV_pos e]
      rfl
    · rw [if_neg e] at h
      simp only [Option.map_eq_some_iff] at h
      obtain ⟨j', h1, rfl⟩ := h
      rw [valV_neg e, valV_zip h1 (by simpa using l)]
      simp
def rIxD : R2 := fun x y H Q => ∃ a v, x = .ref a ∧ DGet H a y (some v) ∧ Q v H
theorem ix_dict (hu : X.A.units + 1 < cLine) : IxR X rIxD := by
  intro value slice pins s σ H x y v u Q I rx ry h hs
  obtain ⟨a, w, rfl, g, q⟩ := h
  cases rx
  exact PyProof.Rows.tail_any (dict_typeIs I g) PySem.F.slot_dict_getitem.lookup (d_getItem hu I g ry fun w' s3 I3 rw' => ⟨w, H, I3, rw', q⟩) hs
def fIxK : GE := fun m => match m.s with
  | .tr (.a y) :: e :: s => match viewE m.g e with
    | some (.nd (.dct ks) o ts) => match keyOf y with
      | some k => match kix k ks with
        | some j => match kidE e (.dct ks) o ts j with
          | some e' => some (.ok ⟨m.g, e' :: s⟩)
          | none => none
        | none => none
      | none => none
    | _ => none
  | _ => none
theorem fIxK_ok : RA2 K md W rIxD fIxK := by
  refine .mk fun c σ H m us x y Q rr hc E hf hp => ?_
  simp only [fIxK] at hf
  split at hf
  · rename_i y e s hs
    rw [hs] at E
    have ey := top_a E
    subst ey
    have E1 := E.drop
    split at hf
    · rename_i ks o ts hv
      split at hf
      · rename_i k hk0
        split at hf
        · rename_i j hj
          split at hf
          · rename_i e' hk
            cases hf
            obtain ⟨ad, vs, w', rfl, ho, hl, hw, E2⟩ := E1.kidOf hv hk
            have ho := ObjAt.rd ho
            refine ⟨ad, w', rfl, ?_, hp w' H E2⟩
            rw [keyOf_kV hk0]
            have e : valV (ks.zip vs) k = some w' := by rw [valV_zip hj ho.1, hw]
            exact .inl ⟨_, k, ho.2, rfl, e.symm⟩
          · cases hf
        · cases hf
      · cases hf
    · cases hf
  · cases hf
/-- o[i]: lists, tuples, dicts -/
def fIxA : GE := gOr fIx fIxK
theorem me_ixA (hu : X.A.units + 64 < cLine) (ha : ME X T md W a ga) (hb : ME X T md W b gb) (hs : PlainIx b) : ME X T md W (.Subscript a b pos) (gSeq (gSeq ga gb) fIxA) := me_ix ((ix_list.or ix_tup).or (ix_dict (by omega))) (fIx_ok.or fIxK_ok) ha hb hs
theorem PSet.or {t t' : TSet} (h : PSet X t) (h' : PSet X t') : PSet X (fun o i v H Q => t o i v H Q ∨ t' o i v H Q) := by
  intro pins s σ H o i v ov iv u Q I ro ri rv q
  rcases q with q | q
  · exact h pins s σ H o i v ov iv u Q I ro ri rv q
  · exact h' pins s σ H o i v ov iv u Q I ro ri rv q
def stSubK : Ms → Option Ms := fun m => match m.s with
  | .tr (.a y) :: .al p :: .tr t :: s => match getG m.g p, keyOf y with
    | some (.nd (.dct ks) .own ts), some k => if esc t = true ∧ ks.Nodup ∧ ks.length < 100000 then match kix k ks with
        | some j => some ⟨(setG m.g p (.nd (.dct ks) .own (ts.set j t))).map (killJ (p ++ [j])), s.map (killJ (p ++ [j]))⟩
        | none => some ⟨kill p (setG m.g p (.nd (.dct (ks ++ [k])) .own (ts ++ [t]))), kill p s⟩
      else none
    | _, _ => none
  | _ => none
/-- o[i] = v: lists, dicts -/
def stSubA : Ms → Option Ms := fun m => match stSub m with
  | none => stSubK m
  | r => r
def sSubA (gv go gi : GE) : GS := fun m => match gSeq (gSeq gv go) gi m with
  | some (.ok m') => match stSubA m' with
    | some m2 => some (.nx m2)
    | none => none
  | some (.ex C g) => some (.ex C g)
  | none => none
end
section
variable {K : KC} {X : Cx} {T : KT} {W : WX} {c : Cz} {σ : St} {H H' : Hp} {a p : Addr} {fs : List Int} {n : Nat} {N : List Str} {t : L2.TS} {g : GS} {m : Ms} {Q : VK} {D : Ends}
/-! the law itself: behind its first row the drawn row is a list of its own -/
abbrev iT (i : Int) : Tr := .a (.int i)
abbrev bT (b : Bool) : Tr := .a (.bl b)
def feedT (fs : List Int) : Tr := .nd .lst .own (fs.map iT)
def feedG (n : Nat) (fs : List Int) : Ms := ⟨.no :: .tr (feedT fs) :: List.replicate n .no, []⟩
abbrev cLaw : Cz := ⟨fun _ => none, fun _ => False, fun _ => False, [false], []⟩
theorem repL_atoms {Z : Zn} : ∀ {us : List V}, RepL K Z H .own (us.map Tr.a) us fun _ => False
  | [] => ⟨rfl, fun _ h => h⟩
  | u :: us => ⟨u, us, fun _ => False, fun _ => False, rfl, ⟨rfl, fun _ h => h⟩, repL_atoms, by simp, by simp⟩
theorem feed_ok (hN : N.length = n + 2) (h : H p = some (.lst (fs.map V.int))) : EnvOk K cLaw ((start N [.ref a]).set 1 (some (.ref p))) H (feedG n fs).g (feedG n fs).s [] := by
  have es : start N [.ref a] = [some (.ref a)] ++ List.replicate (n + 1) none := by
    show [V.ref a].map some ++ List.replicate (N.length - [V.ref a].length) none = _
    simp [hN]
  have ess : (start N [.ref a]).set 1 (some (.ref p)) = some (.ref a) :: some (.ref p) :: List.replicate n none := by
    rw [es]
    rfl
  rw [ess]
  have em : fs.map iT = (fs.map V.int).map Tr.a := by simp
  have rf : Rep K ⟨fun _ => False, fun _ => False⟩ H .own (feedT fs) (.ref p) fun b => b = p := by
    refine ⟨p, fs.map V.int, fun _ => False, rfl, h, by rw [em]; exact repL_atoms, ?_⟩
    refine ⟨by simp, fun q => q, ?_⟩
    rw [escL_all, em]
    intro y hy
    obtain ⟨z, _, rfl⟩ := List.mem_map.mp hy
    rfl
  have tr : trees (feedG n fs).g = .any :: feedT fs :: List.replicate n .any := by
    simp [feedG, trees, Ent.tree]
  refine ⟨⟨fun _ => False, fun _ => False⟩, .ref a :: .ref p :: List.replicate n .non, fun b => b = p, fun _ => False, ⟨?_, ⟨rfl, fun _ h => h⟩, by simp, ?_, ?_, by simp [feedG], fun b _ => ⟨.inr rfl, fun q => q, fun q => q⟩, fun b q => q.elim, fun b q => q, fun b q => (by simp at q), fun b o q => (by cases q), ?_⟩⟩
  · rw [tr]
    exact ⟨_, _, fun _ => False, fun b => b = p, rfl, fun _ h => h, ⟨_, _, fun b => b = p, fun _ => False, rfl, rf, RepL.anys n, by simp, by simp⟩, by simp, by simp⟩
  · intro i e he
    match i with
    | 0 => cases he; trivial
    | 1 => cases he; exact ⟨_, rfl, rfl⟩
    | i + 2 =>
      have he : (List.replicate n Ent.no)[i]? = some e := he
      have := List.mem_of_getElem? he
      simp at this
      rw [this.2]
      trivial
  · intro i q hi
    simp [feedG] at hi
  · intro i hi
    match i with
    | 0 => cases hi
    | i + 1 => simp at hi
theorem law_end (s : SS K [false] WF t g) (hN : N.length = n + 2) (h : H p = some (.lst (fs.map V.int))) (hg : g (feedG n fs) = some (.rt (bT true) m)) (hq : ∀ H', Q (.bl true) H') : t { nx := fun _ H' => Q .non H', rt := Q } ((start N [.ref a]).set 1 (some (.ref p))) H := by
  refine s cLaw _ H (feedG n fs) [] _ _ rfl (feed_ok hN h) hg ?_
  intro σ' v H' E
  have := top_a E
  subst this
  exact hq H'
end
section
variable {T : KT} {P : Program} {Wd : World} {Kf : PySem.W.Frag} {mg : Str → Option Value} {base : Heap} {Fe : List Int → Prop} {n k : Nat} {N : List Str}
def spLaw (K : PySem.W.Frag) : Sp := fun vs H Q _ => ∃ (a : Addr) (ns : List Int), vs = [.ref a] ∧ SqL K H a (ns.map V.int) ∧ ns.length ≤ 63 ∧ ∀ H', Q (.bl true) H'
theorem law_sim {x qual y : Str} {st st0 : Stmt} {rest : List Stmt} {f : Addr} {fd : FuncData} {g : GS} (F : Fun Kf x qual st f fd) (S : FnScope N [y] (defScope st)) (hN : N.length = n + 2) (hb : defBody st = st0 :: rest)
    (body : ∀ (cdv : Value) (A : Around) (outer : List Env) (s : Shared) (H : Hp) (E : XK), Room k (A.deeper (PyProof.Rows.envOfC qual (defScope st) s.heap.objs.size f cdv)) →
      (∃ t0, PS (cxOf CX0 P Wd Kf mg base N qual (defScope st) f cdv A outer s H E).nox st0 t0 ∧ ∀ (a : Addr) (ns : List Int) (H : Hp) (D : Ends), SqL Kf H a (ns.map V.int) → ns.length ≤ 63 →
        (∀ H' p fs, H' p = some (.lst (fs.map V.int)) → Fe fs → D.nx ((start N [.ref a]).set 1 (some (.ref p))) H') → t0 D (start N [.ref a]) H) ∧
      MSs (cxOf CX0 P Wd Kf mg base N qual (defScope st) f cdv A outer s H E).nox T [false] WF rest g)
    (pl : ∀ fs, Fe fs → ∃ m, g (feedG n fs) = some (.rt (bT true) m)) : FnOk P Wd Kf mg base CX0 (k + 1) f fd [y] (spLaw Kf) := by
  refine F.ok S (fun vs H Q E h => ?_) (fun cdv A outer s H vs Q E hr h => ?_)
  · obtain ⟨a, ns, rfl, _⟩ := h
    rfl
  · obtain ⟨a, ns, rfl, hS, hl, kk⟩ := h
    obtain ⟨⟨t0, p0, s0⟩, t, pt, st⟩ := body cdv A outer s H E hr
    rw [hb]
    refine ⟨_, pss_cons p0 pt, ?_⟩
    refine s0 a ns H _ hS hl fun H' p fs h1 hf => ?_
    obtain ⟨m, hm⟩ := pl fs hf
    exact law_end st hN h1 hm kk
end
/-! frames: what a call leaves as it was -/
abbrev tl (x : Str) : List Nat := x.cps.toList
def Fr (S : List Addr) (H H' : Hp) : Prop := ∀ b o, H b = some o → ∃ o', H' b = some o' ∧ (b ∉ S → o' = o)
section
variable {S : List Addr} {H H0 H1 H2 H' : Hp} {a b p : Addr} {o o' : HO} {K : PySem.W.Frag} {xs : List V}
theorem Fr.refl (S : List Addr) (H : Hp) : Fr S H H := fun _ o h => ⟨o, h, fun _ => rfl⟩
theorem Fr.trans (f : Fr S H0 H1) (g : Fr S H1 H2) : Fr S H0 H2 := fun b o h => by
  obtain ⟨o1, h1, e1⟩ := f b o h
  obtain ⟨o2, h2, e2⟩ := g b o1 h1
  exact ⟨o2, h2, fun n => (e2 n).trans (e1 n)⟩
theorem Fr.get (f : Fr S H H') (h : H b = some o) (n : b ∉ S) : H' b = some o := by
  obtain ⟨o1, h1, e1⟩ := f b o h
  rw [h1, e1 n]
theorem Fr.free (f : Fr S H H') (h : H' p = none) : H p = none := by
  cases q : H p with
  | none => rfl
  | some o =>
    obtain ⟨o1, h1, _⟩ := f p o q
    rw [h1] at h
    cases h
theorem Fr.up1 (f : Fr S H0 H1) (g : Fr [a] H1 H2) (ha : a ∈ S ∨ H0 a = none) : Fr S H0 H2 := fun b o h => by
  obtain ⟨o1, h1, e1⟩ := f b o h
  obtain ⟨o2, h2, e2⟩ := g b o1 h1
  refine ⟨o2, h2, fun n => ?_⟩
  by_cases e : b = a
  · subst e
    rcases ha with ha | ha
    · exact absurd ha n
    · rw [ha] at h
      cases h
  · rw [e2 (by simpa using e), e1 n]
theorem Fr.new (np : H p = none) : Fr [] H (upd H p o) := fun b u e => ⟨u, by rw [upd_ne (ne_of_none e np)]; exact e, fun _ => rfl⟩
theorem Fr.mut : Fr [a] H (upd H a o) := fun b u e => by
  by_cases h : b = a
  · subst h
    exact ⟨o, upd_same, fun n => absurd (by simp) n⟩
  · exact ⟨u, by rw [upd_ne h]; exact e, fun _ => rfl⟩
theorem gen_new (np : H p = none) (e : upd H p o = H2) : Fr [] H H2 ∧ H2 p = some o := by
  subst e
  exact ⟨Fr.new np, upd_same⟩
theorem gen_upd (e : upd H a o = H2) : Fr [a] H H2 ∧ H2 a = some o := by
  subst e
  exact ⟨Fr.mut, upd_same⟩
theorem Fr.seq (f : Fr S H H') (h : SqL K H a xs) (n : a ∉ S) : SqL K H' a xs := by
  rcases h with (h | ⟨o, h⟩) | h
  · exact .inl (.inl (f.get h n))
  · exact .inl (.inr ⟨o, f.get h n⟩)
  · exact .inr h
theorem Fr.seq0 (f : Fr [] H H') (h : SqL K H a xs) : SqL K H' a xs := f.seq h (by simp)
theorem sq (h : H a = some (.lst xs)) : SqL K H a xs := .inl (.inl h)
end
theorem sz {n : Nat} (h : n < 100000) : n < sizeLine := Nat.lt_of_lt_of_le h (by decide)
theorem map_get {α β : Type} {f : α → β} {l : List α} {i : Nat} {y : β} (h : (l.map f)[i]? = some y) : ∃ x, l[i]? = some x ∧ y = f x := by
  rw [List.getElem?_map] at h
  cases e : l[i]? with
  | none =>
    rw [e] at h
    cases h
  | some x =>
    rw [e] at h
    exact ⟨x, rfl, (Option.some.inj h).symm⟩
theorem getq_lt {α : Type} {l : List α} {i : Nat} {x : α} (h : l[i]? = some x) : i < l.length := (List.getElem?_eq_some_iff.mp h).1
theorem inV_int {k : Int} : ∀ {ds : List Int}, inV (.int k) (ds.map V.int) = decide (k ∈ ds)
  | [] => rfl
  | d :: ds => by
    have e := inV_int (k := k) (ds := ds)
    unfold inV at e ⊢
    rw [List.map_cons, List.any_cons, e]
    show ((d == k) || _) = _
    by_cases h : d = k
    · rw [decide_eq_true (show k ∈ d :: ds by rw [h]; exact List.mem_cons_self), show (d == k) = true from beq_iff_eq.mpr h, Bool.true_or]
    · have h2 : (d == k) = false := by simpa using h
      rw [h2, Bool.false_or]
      by_cases h3 : k ∈ ds
      · rw [decide_eq_true h3, decide_eq_true (List.mem_cons_of_mem _ h3)]
      · rw [decide_eq_false h3, decide_eq_false (by simp; exact ⟨fun q => h q.symm, h3⟩)]
theorem Fr.sub {S S' : List Addr} {H H' : Hp} (f : Fr S' H H') (h : ∀ a ∈ S', a ∈ S) : Fr S H H' := fun b o e => by
  obtain ⟨o', h1, h2⟩ := f b o e
  exact ⟨o', h1, fun n => h2 fun q => n (h b q)⟩
/-! pure lemmas: trees of plain data, comprehensions that change nothing -/
section
variable {cv : List Nat} {bd : Ms → Option Ms} {gt ge : GE} {lo : Int} {g s : List Ent} {n : Nat} {k : Nk} {o : Ow} {ts : List Tr} {e : Ent} {α : Type}
@[simp] theorem escL_iT (xs : List Int) : escL (xs.map iT) = true := by
  rw [escL_all]
  intro y hy
  obtain ⟨z, _, rfl⟩ := List.mem_map.mp hy
  rfl
@[simp] theorem cpL_iT : ∀ (xs : List Int), cpL (xs.map iT) = true
  | [] => rfl
  | x :: xs => by
    show (cp (iT x) && cpL (xs.map iT)) = true
    rw [cpL_iT xs]
    rfl
theorem escL_map {f : α → Tr} {xs : List α} (h : ∀ x, esc (f x) = true) : escL (xs.map f) = true := by
  rw [escL_all]
  intro y hy
  obtain ⟨z, _, rfl⟩ := List.mem_map.mp hy
  exact h z
/-- [F x for x in a list if P x] -/
theorem lcL_go (P : Nat → Bool) (F : Nat → Tr) (hv : viewE g e = some (.nd k o ts)) (hc : cpE e = true) (turn : ∀ i acc, i < ts.length → acc.length ≤ i → ∃ e', kidX e k o ts i = some e' ∧ lcTurn cv bd gt ge 1 ⟨g, e' :: e :: .tr (.nd .lst .own acc) :: s⟩ = some ⟨g, e :: .tr (.nd .lst .own (if P i = true then acc ++ [F i] else acc)) :: s⟩) :
    ∀ r i acc, i + r = ts.length → acc.length ≤ i → lcL k cv bd gt ge r i ⟨g, e :: .tr (.nd .lst .own acc) :: s⟩ = some ⟨g, e :: .tr (.nd .lst .own (acc ++ ((List.range' i r).filter P).map F)) :: s⟩
  | 0, i, acc, h, _ => by
    simp only [lcL, hv]
    rw [if_pos ⟨trivial, by omega⟩]
    simp
  | r + 1, i, acc, h, hl => by
    obtain ⟨e', h1, h2⟩ := turn i acc (by omega) hl
    simp only [lcL, hv]
    rw [if_pos ⟨trivial, hc, by omega⟩, h1]
    simp only
    rw [h2]
    simp only
    rw [lcL_go P F hv hc turn r (i + 1) _ (by omega) (by split <;> (try simp) <;> omega)]
    rw [List.range'_succ, List.filter_cons]
    split <;> simp
end
/-! the machine's functions as rewriting rules: each step first looks at what stands before it -/
section
variable {a a' : Option Rs} {b g h : GE} {m : Ms} {Γ s : List Ent} {C : Nat} {p : Prop} [Decidable p] {x y : Bool} {t : Tr} {v : V} {md : List Bool} {i : Nat} {gs gs' : GS} {o o' : Option Os}
def bE (a : Option Rs) (b : GE) : Option Rs := match a with
  | some (.ok m) => b m
  | r => r
theorem gSeq_e : gSeq g b m = bE (g m) b := rfl
theorem bE_ok : bE (some (.ok m)) b = b m := rfl
theorem bE_ex : bE (some (.ex C Γ)) b = some (.ex C Γ) := rfl
theorem bE_ite : bE (if p then a else a') b = if p then bE a b else bE a' b := by split <;> rfl
theorem gNil_e : gNil m = some (.ok m) := rfl
theorem gC_e : gC v m = some (.ok ⟨m.g, .tr (.a v) :: m.s⟩) := rfl
/-- two ways that leave two truth values are one -/
theorem ok_ite : (if p then some (Rs.ok ⟨Γ, .tr (.a (.bl x)) :: s⟩) else some (Rs.ok ⟨Γ, .tr (.a (.bl y)) :: s⟩)) = some (Rs.ok ⟨Γ, .tr (.a (.bl (if p then x else y))) :: s⟩) := by split <;> rfl
def varE (e : Option Ent) (i : Nat) (Γ s : List Ent) : Option Rs := match e with
  | some (.tr t) => if cp t = true then some (.ok ⟨Γ, .tr t :: s⟩) else some (.ok ⟨Γ, .al [i] :: s⟩)
  | some (.al p) => some (.ok ⟨Γ, .al p :: s⟩)
  | _ => none
theorem gVar_e : gVar i m = varE m.g[i]? i m.g m.s := rfl
theorem varE_tr : varE (some (.tr t)) i Γ s = some (.ok ⟨Γ, (if cp t = true then .tr t else .al [i]) :: s⟩) := by
  unfold varE
  split
  · split <;> simp_all
  · simp_all
  · simp_all
theorem varE_al {q : List Nat} : varE (some (.al q)) i Γ s = some (.ok ⟨Γ, .al q :: s⟩) := rfl
def nE (a : Option Rs) : Option Rs := match a with
  | some (.ok ⟨g', .tr (.a (.bl b)) :: s'⟩) => some (.ok ⟨g', .tr (.a (.bl (!b))) :: s'⟩)
  | some (.ex C g') => some (.ex C g')
  | _ => none
theorem gNot_e : gNot g m = nE (g m) := rfl
theorem nE_ok : nE (some (.ok ⟨Γ, .tr (.a (.bl x)) :: s⟩)) = some (.ok ⟨Γ, .tr (.a (.bl (!x))) :: s⟩) := rfl
theorem nE_ite : nE (if p then a else a') = if p then nE a else nE a' := by split <;> rfl
def aE (a : Option Rs) (h : GE) : Option Rs := match a with
  | some (.ok ⟨g', .tr (.a (.bl true)) :: s'⟩) => h ⟨g', s'⟩
  | some (.ok ⟨g', .tr (.a (.bl false)) :: s'⟩) => some (.ok ⟨g', .tr (.a (.bl false)) :: s'⟩)
  | some (.ex C g') => some (.ex C g')
  | _ => none
theorem gAnd_e : gAnd g h m = aE (g m) h := rfl
theorem aE_ok : aE (some (.ok ⟨Γ, .tr (.a (.bl x)) :: s⟩)) h = if x = true then h ⟨Γ, s⟩ else some (.ok ⟨Γ, .tr (.a (.bl false)) :: s⟩) := by cases x <;> rfl
theorem aE_ite : aE (if p then a else a') h = if p then aE a h else aE a' h := by split <;> rfl
theorem aE_ex : aE (some (.ex C Γ)) h = some (.ex C Γ) := rfl
def oE (a : Option Rs) (h : GE) : Option Rs := match a with
  | some (.ok ⟨g', .tr (.a (.bl false)) :: s'⟩) => h ⟨g', s'⟩
  | some (.ok ⟨g', .tr (.a (.bl true)) :: s'⟩) => some (.ok ⟨g', .tr (.a (.bl true)) :: s'⟩)
  | some (.ex C g') => some (.ex C g')
  | _ => none
theorem gOrB_e : gOrB g h m = oE (g m) h := rfl
theorem oE_ok : oE (some (.ok ⟨Γ, .tr (.a (.bl x)) :: s⟩)) h = if x = true then some (.ok ⟨Γ, .tr (.a (.bl true)) :: s⟩) else h ⟨Γ, s⟩ := by cases x <;> rfl
theorem oE_ite : oE (if p then a else a') h = if p then oE a h else oE a' h := by split <;> rfl
theorem oE_ex : oE (some (.ex C Γ)) h = some (.ex C Γ) := rfl
def iE (a : Option Rs) (g h : GE) : Option Rs := match a with
  | some (.ok ⟨g', .tr (.a (.bl true)) :: s'⟩) => g ⟨g', s'⟩
  | some (.ok ⟨g', .tr (.a (.bl false)) :: s'⟩) => h ⟨g', s'⟩
  | some (.ex C g') => some (.ex C g')
  | _ => none
theorem gIf_e : gIf b g h m = iE (b m) g h := rfl
theorem iE_ok : iE (some (.ok ⟨Γ, .tr (.a (.bl x)) :: s⟩)) g h = if x = true then g ⟨Γ, s⟩ else h ⟨Γ, s⟩ := by cases x <;> rfl
theorem iE_ite : iE (if p then a else a') g h = if p then iE a g h else iE a' g h := by split <;> rfl
def xE (a : Option Rs) : Option Rs := match a with
  | some (.ok m') => some (.ok m')
  | _ => none
theorem noEx_e : noEx g m = xE (g m) := rfl
theorem xE_ok : xE (some (.ok m)) = some (.ok m) := rfl
/-! statements -/
def bS (o : Option Os) (g : GS) : Option Os := match o with
  | some (.nx m') => g m'
  | r => r
theorem sSeq_e : sSeq gs gs' m = bS (gs m) gs' := rfl
theorem bS_nx : bS (some (.nx m)) gs = gs m := rfl
theorem bS_rt : bS (some (.rt t m)) gs = some (.rt t m) := rfl
theorem bS_bk : bS (some (.bk m)) gs = some (.bk m) := rfl
theorem bS_ct : bS (some (.ct m)) gs = some (.ct m) := rfl
theorem bS_ex : bS (some (.ex C Γ)) gs = some (.ex C Γ) := rfl
theorem bS_ite : bS (if p then o else o') gs = if p then bS o gs else bS o' gs := by split <;> rfl
theorem sNil_e : sNil m = some (.nx m) := rfl
def iS (a : Option Rs) (g h : GS) : Option Os := match a with
  | some (.ok ⟨g', .tr (.a (.bl true)) :: s'⟩) => g ⟨g', s'⟩
  | some (.ok ⟨g', .tr (.a (.bl false)) :: s'⟩) => h ⟨g', s'⟩
  | some (.ex C g') => some (.ex C g')
  | _ => none
theorem sIf_e : sIf g gs gs' m = iS (g m) gs gs' := rfl
theorem iS_ok : iS (some (.ok ⟨Γ, .tr (.a (.bl x)) :: s⟩)) gs gs' = if x = true then gs ⟨Γ, s⟩ else gs' ⟨Γ, s⟩ := by cases x <;> rfl
theorem iS_ex : iS (some (.ex C Γ)) gs gs' = some (.ex C Γ) := rfl
theorem iS_ite : iS (if p then a else a') gs gs' = if p then iS a gs gs' else iS a' gs gs' := by split <;> rfl
def rS (a : Option Rs) : Option Os := match a with
  | some (.ok ⟨g, .tr t :: s⟩) => some (.rt t ⟨g, s⟩)
  | some (.ex C g) => some (.ex C g)
  | _ => none
theorem sRet_e : sRet g m = rS (g m) := rfl
theorem rS_ok : rS (some (.ok ⟨Γ, .tr t :: s⟩)) = some (.rt t ⟨Γ, s⟩) := rfl
theorem rS_ex : rS (some (.ex C Γ)) = some (.ex C Γ) := rfl
theorem rS_ite : rS (if p then a else a') = if p then rS a else rS a' := by split <;> rfl
def eS (a : Option Rs) : Option Os := match a with
  | some (.ok ⟨g, _ :: s⟩) => some (.nx ⟨g, s⟩)
  | some (.ex C g) => some (.ex C g)
  | _ => none
theorem sExpr_e : sExpr g m = eS (g m) := rfl
theorem eS_ok {e : Ent} : eS (some (.ok ⟨Γ, e :: s⟩)) = some (.nx ⟨Γ, s⟩) := rfl
theorem eS_ex : eS (some (.ex C Γ)) = some (.ex C Γ) := rfl
theorem eS_ite : eS (if p then a else a') = if p then eS a else eS a' := by split <;> rfl
def nxO (m : Option Ms) : Option Os := match m with
  | some m' => some (.nx m')
  | none => none
theorem nxO_some : nxO (some m) = some (.nx m) := rfl
/-- an expression, then something with the state -/
def kS (a : Option Rs) (f : Ms → Option Ms) : Option Os := match a with
  | some (.ok m1) => nxO (f m1)
  | some (.ex C g) => some (.ex C g)
  | none => none
theorem kS_ok {f : Ms → Option Ms} : kS (some (.ok m)) f = nxO (f m) := rfl
theorem kS_ex {f : Ms → Option Ms} : kS (some (.ex C Γ)) f = some (.ex C Γ) := rfl
theorem kS_ite {f : Ms → Option Ms} : kS (if p then a else a') f = if p then kS a f else kS a' f := by split <;> rfl
theorem sSet_e : sSet md i g m = kS (g m) (bind md i) := by
  unfold sSet kS nxO
  cases g m with
  | none => rfl
  | some r => cases r <;> rfl
theorem sAsg_e {f : Ms → Option Ms} : sAsg g f m = kS (g m) f := by
  unfold sAsg kS nxO
  cases g m with
  | none => rfl
  | some r => cases r <;> rfl
theorem sSubA_e : sSubA g b h m = kS (gSeq (gSeq g b) h m) stSubA := by
  unfold sSubA kS nxO
  cases gSeq (gSeq g b) h m with
  | none => rfl
  | some r => cases r <;> rfl
theorem sFldS_e {tab : List (Nat × Nat)} : sFldS tab g b m = kS (gSeq g b m) (stFld tab) := by
  unfold sFldS kS nxO
  cases gSeq g b m with
  | none => rfl
  | some r => cases r <;> rfl
theorem bind_tr (h1 : md.getD i false = false) (h2 : i < Γ.length) : bind md i ⟨Γ, .tr t :: s⟩ = some ⟨(Γ.map (killR i)).set i (.tr t), s.map (killR i)⟩ := by
  unfold bind
  rw [if_neg (by rw [h1]; simpa using h2)]
theorem bind_al {q : List Nat} (h1 : md.getD i false = false) (h2 : i < Γ.length) (h3 : q.head? ≠ some i) : bind md i ⟨Γ, .al q :: s⟩ = some ⟨(Γ.map (killR i)).set i (.al q), s.map (killR i)⟩ := by
  unfold bind
  rw [if_neg (by rw [h1]; simpa using h2)]
  simp only
  rw [if_neg h3]
/-! loops -/
theorem sForR1_e {bd : Ms → Option Ms} {n : Int} (e : g m = some (.ok ⟨Γ, .tr (.a (.int n)) :: s⟩)) (h1 : -(2 ^ 62) ≤ n) (h2 : n < 2 ^ 62) : sForR1 g bd gs m = loopR bd gs 0 n.toNat 0 ⟨Γ, s⟩ := by
  unfold sForR1
  rw [e]
  simp only
  rw [if_pos ⟨h1, h2⟩]
end
/-! calls and comprehensions as rewriting rules -/
section
variable {is : List Nat} {mdc md : List Bool} {G : GF} {n k : Nat} {m m1 : Ms} {Γ s : List Ent} {ts : List Tr} {gs ga gt ge gb gc f f' : GE} {v : V} {p : Prop} [Decidable p] {b : Bool}
def c3 (x : Option Rt) (is : List Nat) (n : Nat) (m1 : Ms) : Option Rs := match x with
  | some (.rt r ts') => match resAll 1 n is.reverse ⟨m1.g, .tr r :: (ts'.map .tr ++ m1.s.drop n)⟩ with
    | some m2 => some (.ok ⟨m2.g, m2.s.take 1 ++ m2.s.drop (1 + (n - is.length))⟩)
    | none => none
  | some (.ex C ts') => match resAll 0 n is.reverse ⟨m1.g, ts'.map .tr ++ m1.s.drop n⟩ with
    | some m2 => some (.ex C m2.g)
    | none => none
  | none => none
theorem c3_ite {x x' : Option Rt} : c3 (if p then x else x') is n m1 = if p then c3 x is n m1 else c3 x' is n m1 := by split <;> rfl
theorem c3_rt {r : Tr} : c3 (some (.rt r ts)) is n m1 = match resAll 1 n is.reverse ⟨m1.g, .tr r :: (ts.map .tr ++ m1.s.drop n)⟩ with
    | some m2 => some (.ok ⟨m2.g, m2.s.take 1 ++ m2.s.drop (1 + (n - is.length))⟩)
    | none => none := by
  rfl
theorem c3_ex {C : Nat} : c3 (some (.ex C ts)) is n m1 = match resAll 0 n is.reverse ⟨m1.g, ts.map .tr ++ m1.s.drop n⟩ with
    | some m2 => some (.ex C m2.g)
    | none => none := by
  rfl
def c2 (x : Option (List Tr)) (is : List Nat) (G : GF) (n : Nat) (m1 : Ms) : Option Rs := match x with
  | none => none
  | some ts => c3 (G ts) is n m1
theorem c2_some : c2 (some ts) is G n m1 = c3 (G ts) is n m1 := rfl
def c1 (x : Option Ms) (is : List Nat) (mdc : List Bool) (G : GF) (n : Nat) : Option Rs := match x with
  | none => none
  | some m1 => c2 (argT m1.g mdc (m1.s.take n).reverse) is G n m1
theorem c1_some : c1 (some m1) is mdc G n = c2 (argT m1.g mdc (m1.s.take n).reverse) is G n m1 := rfl
theorem gCall_e : gCall is mdc G n m = c1 (extAll n is m) is mdc G n := by
  unfold gCall c1
  cases extAll n is m with
  | none => rfl
  | some m1 =>
    simp only
    unfold c2
    cases argT m1.g mdc (m1.s.take n).reverse with
    | none => rfl
    | some ts =>
      simp only
      unfold c3
      cases G ts with
      | none => rfl
      | some r =>
        cases r with
        | rt r ts' => first | rfl | (simp only; done) | (simp only; split <;> simp_all)
        | ex C ts' => first | rfl | (simp only; done) | (simp only; split <;> simp_all)
def k2 (x : Option Rt) (l : Nat) (m : Ms) : Option Rs := match x with
  | some (.rt (.a .non) (t :: _)) => some (.ok ⟨m.g, .tr t :: m.s.drop l⟩)
  | some (.ex C _) => some (.ex C m.g)
  | _ => none
theorem k2_rt {t : Tr} {l : Nat} : k2 (some (.rt (.a .non) (t :: ts))) l m = some (.ok ⟨m.g, .tr t :: m.s.drop l⟩) := rfl
theorem k2_ex {C : Nat} {l : Nat} : k2 (some (.ex C ts)) l m = some (.ex C m.g) := rfl
theorem k2_ite {x x' : Option Rt} {l : Nat} : k2 (if p then x else x') l m = if p then k2 x l m else k2 x' l m := by split <;> rfl
def k1 (x : Option (List Tr)) (G : GF) (l : Nat) (m : Ms) : Option Rs := match x with
  | none => none
  | some ts => k2 (G ts) l m
theorem k1_some {l : Nat} : k1 (some ts) G l m = k2 (G ts) l m := rfl
theorem gMake_e {l : Nat} : gMake n mdc G l m = k1 (argT m.g (true :: mdc) (.tr (.nd (.ins n 0) .own []) :: (m.s.take l).reverse)) G l m := by
  unfold gMake k1
  generalize argT m.g (true :: mdc) (.tr (.nd (.ins n 0) .own []) :: (m.s.take l).reverse) = q
  cases q with
  | none => rfl
  | some ts => first | rfl | (simp only; unfold k2; rfl)
/-! chains of comparisons of plain values -/
def h2 (x : Option Rs) (v : V) (gc f' : GE) : Option Rs := match x with
  | some (.ok ⟨g2, .tr (.a (.bl true)) :: s2⟩) => match gc ⟨g2, .tr (.a v) :: s2⟩ with
    | some (.ok m3) => f' m3
    | some (.ex C g) => some (.ex C g)
    | none => none
  | some (.ok ⟨g2, .tr (.a (.bl false)) :: s2⟩) => some (.ok ⟨g2, .tr (.a (.bl false)) :: s2⟩)
  | _ => none
theorem h2_ok : h2 (some (.ok ⟨Γ, .tr (.a (.bl b)) :: s⟩)) v gc f' = if b = true then bE (gc ⟨Γ, .tr (.a v) :: s⟩) f' else some (.ok ⟨Γ, .tr (.a (.bl false)) :: s⟩) := by
  cases b
  · rfl
  · simp only [h2, bE, if_true]
    cases gc ⟨Γ, .tr (.a v) :: s⟩ with
    | none => rfl
    | some r => cases r <;> rfl
def h1 (x : Option Rs) (f gc f' : GE) : Option Rs := match x with
  | some (.ok ⟨g1, .tr (.a v) :: s1⟩) => h2 (f ⟨g1, .tr (.a v) :: s1⟩) v gc f'
  | some (.ex C g) => some (.ex C g)
  | _ => none
theorem h1_ok : h1 (some (.ok ⟨Γ, .tr (.a v) :: s⟩)) f gc f' = h2 (f ⟨Γ, .tr (.a v) :: s⟩) v gc f' := rfl
theorem gChain_e : gChain ga gb f gc f' m = h1 (bE (ga m) gb) f gc f' := by
  unfold gChain h1
  rw [gSeq_e]
  rfl
/-! comprehensions that change nothing but the new list -/
theorem clr_set (h1 : Γ[k]? = some .no) (h2 : Γ.map (killR k) = Γ) {e : Ent} : ((Γ.set k e).map (killR k)).set k .no = Γ := by
  rw [List.map_set, h2, List.set_set]
  exact set_same h1
/-- one turn: the name k gets e -/
theorem lcTurn_is {e : Ent} {d : Nat} {acc : List Tr} {y : Tr} (hmd : md.getD k false = false) (hk : Γ[k]? = some .no) (hΓ : Γ.map (killR k) = Γ) (hs : s.map (killR k) = s) (hne : (∃ t, e = .tr t) ∨ ∃ q, e = .al q ∧ q.head? ≠ some k)
    (hd : s[d]? = some (.tr (.nd .lst .own acc))) (hl : acc.length < sizeLine) (ht : gt ⟨Γ.set k e, s⟩ = some (.ok ⟨Γ.set k e, .tr (.a (.bl b)) :: s⟩)) (he : b = true → ge ⟨Γ.set k e, s⟩ = some (.ok ⟨Γ.set k e, .tr y :: s⟩) ∧ esc y = true) :
    lcTurn [k] (bind md k) gt ge d ⟨Γ, e :: s⟩ = some ⟨Γ, if b = true then s.set d (.tr (.nd .lst .own (acc ++ [y]))) else s⟩ := by
  have hlt := getq_lt' hk
  have hb : bind md k ⟨Γ, e :: s⟩ = some ⟨Γ.set k e, s⟩ := by
    rcases hne with ⟨t, rfl⟩ | ⟨q, rfl, hq⟩
    · rw [bind_tr hmd hlt, hΓ, hs]
    · rw [bind_al hmd hlt hq, hΓ, hs]
  unfold lcTurn
  rw [hb]
  simp only
  rw [ht]
  cases b with
  | false =>
    simp only
    rw [if_pos (by intro i hi; rw [List.mem_singleton.mp hi, List.length_set]; exact hlt)]
    simp only [clrs, clr]
    rw [clr_set hk hΓ, hs]
    simp
  | true =>
    obtain ⟨h1, h2⟩ := he rfl
    simp only
    rw [h1]
    simp only
    rw [hd]
    simp only
    rw [if_pos ⟨h2, hl, by intro i hi; rw [List.mem_singleton.mp hi, List.length_set]; exact hlt⟩]
    simp only [clrs, clr]
    rw [clr_set hk hΓ, List.map_set, hs]
    simp [killR]
theorem allNo1 (hk : Γ[k]? = some .no) : allNo Γ [k] = true := by simp [allNo, hk]
/-- over a list or tuple; X j: how its j-th item comes -/
theorem gLcW_is {e : Ent} {kd : Nk} {o : Ow} {s1 : List Ent} (hg : gs m = some (.ok m1)) (hr : ready m1 = some (⟨Γ, e :: s⟩, kd, ts.length)) (hv : viewE Γ e = some (.nd kd o ts)) (hc : cpE e = true) (hl : ts.length ≤ 100000)
    (hmd : md.getD k false = false) (hk : Γ[k]? = some .no) (hΓ : Γ.map (killR k) = Γ) (hs : s.map (killR k) = s) (hke : killR k e = e) (X : Nat → Ent) (P : Nat → Bool) (F : Nat → Tr)
    (hX : ∀ j, j < ts.length → kidX e kd o ts j = some (X j) ∧ ((∃ t, X j = .tr t) ∨ ∃ q, X j = .al q ∧ q.head? ≠ some k))
    (R : List Ent → Prop) (hR : ∀ acc, R (e :: .tr (.nd .lst .own acc) :: s))
    (ht : ∀ j s', R s' → j < ts.length → gt ⟨Γ.set k (X j), s'⟩ = some (.ok ⟨Γ.set k (X j), .tr (.a (.bl (P j))) :: s'⟩))
    (he : ∀ j s', R s' → j < ts.length → P j = true → ge ⟨Γ.set k (X j), s'⟩ = some (.ok ⟨Γ.set k (X j), .tr (F j) :: s'⟩) ∧ esc (F j) = true) :
    gLc [k] gs (bind md k) gt ge m = some (.ok ⟨Γ, .tr (.nd .lst .own (((List.range ts.length).filter P).map F)) :: s⟩) := by
  unfold gLc
  rw [hg]
  simp only
  rw [hr]
  simp only
  rw [if_pos (allNo1 hk)]
  have key := lcL_go (cv := [k]) (bd := bind md k) (gt := gt) (ge := ge) (g := Γ) (s := s) (k := kd) (o := o) (ts := ts) (e := e) P F hv hc (fun j acc hj hacc => by
    obtain ⟨h1, h2⟩ := hX j hj
    refine ⟨X j, h1, ?_⟩
    rw [lcTurn_is (y := F j) (b := P j) (acc := acc) hmd hk hΓ (by rw [List.map_cons, List.map_cons, hs, hke]; rfl) h2 rfl (Nat.lt_of_lt_of_le (by omega : acc.length < 100000) (by decide)) (ht j _ (hR acc) hj) (fun q => he j _ (hR acc) hj q)]
    split <;> rfl) ts.length 0 [] (by omega) (by simp)
  rw [key]
  simp only
  rw [if_pos (allNo1 hk), List.nil_append, List.tail_cons, ← List.range_eq_range']
end
/-! a def's end -/
def fR (md : List Bool) (o : Option Os) : Option Rt := match o with
  | some (.nx m) => if escL (outP md m.g) = true then some (.rt (.a .non) (outP md m.g)) else none
  | some (.rt t m) => if esc t = true ∧ escL (outP md m.g) = true then some (.rt t (outP md m.g)) else none
  | some (.ex C g') => if escL (outP md g') = true then some (.ex C (outP md g')) else none
  | _ => none
section
variable {md : List Bool} {o o' : Option Os} {p : Prop} [Decidable p] {m : Ms} {t : Tr} {C N : Nat} {g : List Ent} {gs : GS} {ts : List Tr}
def nos : Nat → List Ent
  | 0 => []
  | n + 1 => .no :: nos n
theorem nos_e : ∀ n, nos n = List.replicate n .no
  | 0 => rfl
  | n + 1 => by
    rw [nos, nos_e n]
    rfl
theorem runF_e : runF md N gs ts = fR md (gs ⟨ts.map Ent.tr ++ nos (N - ts.length), []⟩) := by
  rw [nos_e]
  unfold runF fR
  rfl
theorem fR_ite : fR md (if p then o else o') = if p then fR md o else fR md o' := by split <;> rfl
theorem fR_nx : fR md (some (.nx m)) = if escL (outP md m.g) = true then some (.rt (.a .non) (outP md m.g)) else none := rfl
theorem fR_rt : fR md (some (.rt t m)) = if esc t = true ∧ escL (outP md m.g) = true then some (.rt t (outP md m.g)) else none := rfl
theorem fR_ex : fR md (some (.ex C g)) = if escL (outP md g) = true then some (.ex C (outP md g)) else none := rfl
theorem rt_ite {x y : V} : (if p then some (Rt.rt (.a x) ts) else some (Rt.rt (.a y) ts)) = some (Rt.rt (.a (if p then x else y)) ts) := by split <;> rfl
theorem int_ite {x y : Int} : (if p then V.int x else V.int y) = V.int (if p then x else y) := by split <;> rfl
theorem bl_ite {x y : Bool} : (if p then V.bl x else V.bl y) = V.bl (if p then x else y) := by split <;> rfl
end
/-! an argument that is handed on after all of them have been read -/
section
variable {K : KC} {X : Cx} {T : KT} {md : List Bool} {W : WX} {g : GE} {es : List Expr} {d : Nat}
def fMvD (md : List Bool) (d : Nat) : GE := fun m => match m.s[d]? with
  | some (.tr _) => some (.ok m)
  | some e => match fMv md ⟨m.g, e :: m.s.eraseIdx d⟩ with
    | some (.ok ⟨g', e' :: s'⟩) => some (.ok ⟨g', s'.take d ++ e' :: s'.drop d⟩)
    | _ => none
  | none => none
end
/-! comprehensions over a list of encoded things, steps of statements -/
section
variable {md : List Bool} {k n : Nat} {m m1 : Ms} {Γ s : List Ent} {gs gt ge : GE} {e : Ent} {kd : Nk} {o : Ow} {α : Type}
def atO (xs : List α) (f : α → β) (d : β) (j : Nat) : β := match xs[j]? with
  | some x => f x
  | none => d
theorem atO_map {β : Type} (xs : List α) (p : α → Bool) (F : α → β) (d : β) : ((List.range xs.length).filter (atO xs p false)).map (atO xs F d) = (xs.filter p).map F := by
  have key : ∀ (ys pre : List α), xs = pre ++ ys → ((List.range' pre.length ys.length).filter (atO xs p false)).map (atO xs F d) = (ys.filter p).map F := by
    intro ys
    induction ys with
    | nil => intro pre _; simp
    | cons y ys ih =>
      intro pre hx
      have h1 : ∀ {γ : Type} (f : α → γ) (d : γ), atO xs f d pre.length = f y := fun {γ} f d => by
        unfold atO
        rw [hx]
        simp
      have h2 := ih (pre ++ [y]) (by simp [hx])
      rw [List.length_append, List.length_singleton] at h2
      rw [List.length_cons, List.range'_succ, List.filter_cons, List.filter_cons, h1]
      split
      · rw [List.map_cons, List.map_cons, h1, h2]
      · exact h2
  have := key xs [] rfl
  rw [List.range_eq_range']
  exact this
theorem gLcAW_is {xs : List α} {enc : α → Tr} (hg : gs m = some (.ok m1)) (hr : ready m1 = some (⟨Γ, e :: s⟩, kd, xs.length)) (hv : viewE Γ e = some (.nd kd o (xs.map enc))) (hc : cpE e = true) (hl : xs.length ≤ 100000)
    (hmd : md.getD k false = false) (hk : Γ[k]? = some .no) (hΓ : Γ.map (killR k) = Γ) (hs : s.map (killR k) = s) (hke : killR k e = e) (hcp : ∀ x ∈ xs, cp (kid o (enc x)) = true) (p : α → Bool) (F : α → Tr)
    (R : List Ent → Prop) (hR : ∀ acc, R (e :: .tr (.nd .lst .own acc) :: s))
    (ht : ∀ x ∈ xs, ∀ s', R s' → gt ⟨Γ.set k (.tr (kid o (enc x))), s'⟩ = some (.ok ⟨Γ.set k (.tr (kid o (enc x))), .tr (.a (.bl (p x))) :: s'⟩))
    (he : ∀ x ∈ xs, ∀ s', R s' → p x = true → ge ⟨Γ.set k (.tr (kid o (enc x))), s'⟩ = some (.ok ⟨Γ.set k (.tr (kid o (enc x))), .tr (F x) :: s'⟩) ∧ esc (F x) = true) :
    gLc [k] gs (bind md k) gt ge m = some (.ok ⟨Γ, .tr (.nd .lst .own ((xs.filter p).map F)) :: s⟩) := by
  have at_ : ∀ {γ : Type} (f : α → γ) (d : γ) {j : Nat} {x : α}, xs[j]? = some x → atO xs f d j = f x := fun {γ} f d {j x} h => by unfold atO; rw [h]
  have hx : ∀ j, j < (xs.map enc).length → ∃ x ∈ xs, xs[j]? = some x := fun j hj => by
    have hj' : j < xs.length := by simpa using hj
    exact ⟨xs[j], List.getElem_mem hj', List.getElem?_eq_getElem hj'⟩
  rw [gLcW_is (s1 := []) (s := s) (Γ := Γ) (e := e) (kd := kd) (ts := xs.map enc) hg (by rw [List.length_map]; exact hr) hv hc (by simpa using hl) hmd hk hΓ hs hke (fun j => .tr (atO xs (fun x => kid o (enc x)) .any j)) (atO xs p false) (atO xs F .any)
    (fun j hj => by
      obtain ⟨x, hm, hx⟩ := hx j hj
      refine ⟨?_, .inl ⟨_, rfl⟩⟩
      rw [at_ _ _ hx]
      unfold kidX
      rw [List.getElem?_map, hx]
      simp only [Option.map_some]
      rw [if_pos (hcp x hm)])
    R hR (fun j s' hr hj => by
      obtain ⟨x, hm, hx⟩ := hx j hj
      rw [at_ _ _ hx, at_ _ _ hx]
      exact ht x hm s' hr)
    (fun j s' hr hj hp => by
      obtain ⟨x, hm, hx⟩ := hx j hj
      rw [at_ _ _ hx] at hp ⊢
      rw [at_ _ _ hx]
      exact he x hm s' hr hp)]
  rw [List.length_map, atO_map]
theorem gLcA_is {xs : List α} {enc : α → Tr} (hg : gs m = some (.ok m1)) (hr : ready m1 = some (⟨Γ, e :: s⟩, kd, xs.length)) (hv : viewE Γ e = some (.nd kd o (xs.map enc))) (hc : cpE e = true) (hl : xs.length ≤ 100000)
    (hmd : md.getD k false = false) (hk : Γ[k]? = some .no) (hΓ : Γ.map (killR k) = Γ) (hs : s.map (killR k) = s) (hke : killR k e = e) (hcp : ∀ x ∈ xs, cp (kid o (enc x)) = true) (p : α → Bool) (F : α → Tr)
    (ht : ∀ x ∈ xs, ∀ s', gt ⟨Γ.set k (.tr (kid o (enc x))), s'⟩ = some (.ok ⟨Γ.set k (.tr (kid o (enc x))), .tr (.a (.bl (p x))) :: s'⟩))
    (he : ∀ x ∈ xs, ∀ s', p x = true → ge ⟨Γ.set k (.tr (kid o (enc x))), s'⟩ = some (.ok ⟨Γ.set k (.tr (kid o (enc x))), .tr (F x) :: s'⟩) ∧ esc (F x) = true) :
    gLc [k] gs (bind md k) gt ge m = some (.ok ⟨Γ, .tr (.nd .lst .own ((xs.filter p).map F)) :: s⟩) := gLcAW_is hg hr hv hc hl hmd hk hΓ hs hke hcp p F (fun _ => True) (fun _ => trivial) (fun x h s' _ => ht x h s') (fun x h s' _ => he x h s')
/-- the same where the source changes nothing -/
theorem gLcP_is {xs : List α} {enc : α → Tr} (e0 e : Ent) (kd : Nk) (o : Ow) (hg : gs ⟨Γ, s⟩ = some (.ok ⟨Γ, e0 :: s⟩)) (hr : ready ⟨Γ, e0 :: s⟩ = some (⟨Γ, e :: s⟩, kd, xs.length)) (hv : viewE Γ e = some (.nd kd o (xs.map enc))) (hc : cpE e = true) (hl : xs.length ≤ 100000)
    (hmd : md.getD k false = false) (hk : Γ[k]? = some .no) (hΓ : Γ.map (killR k) = Γ) (hs : s.map (killR k) = s) (hke : killR k e = e) (hcp : ∀ x ∈ xs, cp (kid o (enc x)) = true) (p : α → Bool) (F : α → Tr)
    (ht : ∀ x ∈ xs, ∀ s', gt ⟨Γ.set k (.tr (kid o (enc x))), s'⟩ = some (.ok ⟨Γ.set k (.tr (kid o (enc x))), .tr (.a (.bl (p x))) :: s'⟩))
    (he : ∀ x ∈ xs, ∀ s', p x = true → ge ⟨Γ.set k (.tr (kid o (enc x))), s'⟩ = some (.ok ⟨Γ.set k (.tr (kid o (enc x))), .tr (F x) :: s'⟩) ∧ esc (F x) = true) :
    gLc [k] gs (bind md k) gt ge ⟨Γ, s⟩ = some (.ok ⟨Γ, .tr (.nd .lst .own ((xs.filter p).map F)) :: s⟩) := gLcA_is hg hr hv hc hl hmd hk hΓ hs hke hcp p F ht he
end
/-! lists of ints as trees -/
abbrev rowT (r : List Int) : Tr := .nd .lst .own (r.map iT)
theorem ixN_len {n : Nat} {i : Int} (h0 : 0 ≤ i) (h : i < n) : ixN n i = some i.toNat := by
  unfold ixN
  rw [if_pos h0, if_pos (by omega)]
theorem set_iT (xs : List Int) (i : Nat) (v : Int) : (xs.map iT).set i (.a (.int v)) = (xs.set i v).map iT := by simp
theorem mapk_iT (o : Ow) (xs : List Int) : (xs.map iT).map (kid o) = xs.map iT := by
  rw [List.map_map]
  rfl
theorem kidc_iT (o : Ow) : (kid o ∘ iT) = iT := rfl
theorem set_rowT (M : List (List Int)) (i : Nat) (r : List Int) : (M.map rowT).set i (.nd .lst .own (r.map iT)) = (M.set i r).map rowT := by simp
@[simp] theorem escL_row (M : List (List Int)) : escL (M.map rowT) = true := escL_map fun _ => rfl
theorem app_iT (xs : List Int) (x : Int) : xs.map iT ++ [.a (.int x)] = (xs ++ [x]).map iT := by simp
theorem app_map (xs ys : List Int) : xs.map iT ++ ys.map iT = (xs ++ ys).map iT := by simp
theorem kidL_iT (o : Ow) : ∀ xs : List Int, kidL o (xs.map iT) = xs.map iT
  | [] => rfl
  | x :: xs => by
    show kid o (iT x) :: kidL o (xs.map iT) = _
    rw [kidL_iT o xs]
    rfl
section
variable {Γ s : List Ent} {m : Ms} {x y z : Int} {n : Nat} {xs : List Int} {o : Ow}
theorem fMul_int (h : cMul x y = true) : fMul ⟨Γ, .tr (.a (.int y)) :: .tr (.a (.int x)) :: s⟩ = some (.ok ⟨Γ, .tr (.a (.int (x * y))) :: s⟩) := by
  simp [fMul, gOr, fP2, viewE, FI, h]
end
/-! data that may be compared -/
def Sh (n : Nat) (d : PyData) : Prop := d.canLay0 = true ∧ d.depth ≤ n
def ShAll (n : Nat) (ds : List PyData) : Prop := ∀ d ∈ ds, Sh n d
theorem canLayAll_of : ∀ (ds : List PyData), (∀ d ∈ ds, d.canLay0 = true) → PyData.canLayAll0 ds = true
  | [], _ => by simp only [PyData.canLayAll0]
  | d :: ds, h => by
    rw [PyData.canLayAll0, h d List.mem_cons_self, canLayAll_of ds fun x hx => h x (List.mem_cons_of_mem _ hx)]
    rfl
theorem depthAll_le {n : Nat} : ∀ (ds : List PyData), (∀ d ∈ ds, d.depth ≤ n) → PyData.depthAll ds ≤ n
  | [], _ => by simp only [PyData.depthAll]; exact Nat.zero_le _
  | d :: ds, h => by
    rw [PyData.depthAll]
    have h1 := h d List.mem_cons_self
    have h2 := depthAll_le ds fun x hx => h x (List.mem_cons_of_mem _ hx)
    omega
theorem Sh.tup {n : Nat} {ds : List PyData} (h : ShAll n ds) : Sh (n + 1) (.tuple ds) := by
  refine ⟨by rw [PyData.canLay0]; exact canLayAll_of ds fun d hd => (h d hd).1, ?_⟩
  rw [PyData.depth]
  have := depthAll_le ds fun d hd => (h d hd).2
  omega
theorem Sh.lst {n : Nat} {ds : List PyData} (h : ShAll n ds) : Sh (n + 1) (.list ds) := by
  refine ⟨by rw [PyData.canLay0]; exact canLayAll_of ds fun d hd => (h d hd).1, ?_⟩
  rw [PyData.depth]
  have := depthAll_le ds fun d hd => (h d hd).2
  omega
theorem Sh.int {n : Nat} (i : Int) : Sh n (.int i) := ⟨by simp only [PyData.canLay0], by simp only [PyData.depth]; exact Nat.zero_le _⟩
theorem Sh.bool {n : Nat} (b : Bool) : Sh n (.bool b) := ⟨by simp only [PyData.canLay0], by simp only [PyData.depth]; exact Nat.zero_le _⟩
theorem Sh.non {n : Nat} : Sh n .none := ⟨by simp only [PyData.canLay0], by simp only [PyData.depth]; exact Nat.zero_le _⟩
theorem Sh.str {n : Nat} {x : Str} (h : PyData.strOk x = true) : Sh n (.str x) := ⟨by simp only [PyData.canLay0]; exact h, by simp only [PyData.depth]; exact Nat.zero_le _⟩
theorem Sh.mono {n m : Nat} {d : PyData} (h : Sh n d) (l : n ≤ m) : Sh m d := ⟨h.1, Nat.le_trans h.2 l⟩
theorem ShAll.nil {n : Nat} : ShAll n [] := fun _ h => absurd h (by simp)
theorem ShAll.cons {n : Nat} {d : PyData} {ds : List PyData} (h : Sh n d) (k : ShAll n ds) : ShAll n (d :: ds) := fun x hx => by
  rcases List.mem_cons.mp hx with q | q
  · rw [q]
    exact h
  · exact k x q
theorem ShAll.map {α : Type} {n : Nat} {f : α → PyData} {l : List α} (h : ∀ x, Sh n (f x)) : ShAll n (l.map f) := fun d hd => by
  obtain ⟨x, _, rfl⟩ := List.mem_map.mp hd
  exact h x
theorem Sh.shaped {d : PyData} (h : Sh 64 d) : SeqAt.shaped d = true := by
  unfold SeqAt.shaped
  rw [h.1, decide_eq_true h.2]
  rfl
/-! comparing plain data -/
structure DD {α : Type} [DecidableEq α] (n : Nat) (dd : α → PyData) : Prop where
  sh : ∀ x, Sh n (dd x)
  eq : ∀ x y, PyData.eqv (dd x) (dd y) = decide (x = y)
theorem dd_int : DD 0 PyData.int := ⟨fun i => .int i, fun x y => by
  simp only [PyData.eqv]
  by_cases h : x = y <;> simp [h]⟩
section
variable {α : Type} [DecidableEq α] {n : Nat} {dd : α → PyData} {neg : Bool} {o o' : Ow}
theorem dd_all (h : DD n dd) : ∀ xs ys : List α, PyData.eqvAll (xs.map dd) (ys.map dd) = decide (xs = ys)
  | [], [] => by simp [PyData.eqvAll]
  | [], _ :: _ => by simp [PyData.eqvAll]
  | _ :: _, [] => by simp [PyData.eqvAll]
  | a :: r, b :: t => by
    simp only [List.map_cons, PyData.eqvAll, h.eq, dd_all h r t]
    by_cases h1 : a = b <;> by_cases h2 : r = t <;> simp [h1, h2]
theorem dd_list (h : DD n dd) : DD (n + 1) (fun xs : List α => .list (xs.map dd)) := ⟨fun _ => .lst (.map h.sh), fun x y => by
  simp only [PyData.eqv]
  exact dd_all h x y⟩
theorem dd_tup (h : DD n dd) : DD (n + 1) (fun xs : List α => .tuple (xs.map dd)) := ⟨fun _ => .tup (.map h.sh), fun x y => by
  simp only [PyData.eqv]
  exact dd_all h x y⟩
theorem toDL_map {enc : α → Tr} (h : ∀ x, toD (enc x) = some (dd x)) : ∀ xs : List α, toDL (xs.map enc) = some (xs.map dd)
  | [] => rfl
  | x :: xs => by
    rw [List.map_cons, toDL, h x, toDL_map h xs]
    rfl
theorem toD_iT (x : Int) : toD (iT x) = some (.int x) := rfl
theorem toD_row (r : List Int) : toD (.nd .lst o (r.map iT)) = some (.list (r.map .int)) := by
  rw [toD, toDL_map toD_iT]
theorem toD_tup (r : List Int) : toD (.nd .tup o (r.map iT)) = some (.tuple (r.map .int)) := by
  rw [toD, toDL_map toD_iT]
theorem toD_mat (M : List (List Int)) : toD (.nd .lst o (M.map rowT)) = some (.list (M.map fun r => .list (r.map .int))) := by
  rw [toD, toDL_map (dd := fun r => .list (r.map .int)) fun r => toD_row r]
theorem feq_of {k k' : Nk} {ts us : List Tr} {x y : α} (h : DD n dd) (hn : n ≤ 64) (h1 : toD (.nd k o ts) = some (dd x)) (h2 : toD (.nd k' o' us) = some (dd y)) : FEq neg (.nd k o ts) (.nd k' o' us) = some (.bl (if neg then !decide (x = y) else decide (x = y))) := by
  unfold FEq
  simp only [h1, h2, ((h.sh x).mono hn).shaped, ((h.sh y).mono hn).shaped, h.eq, true_and, if_true]
end
section
variable {neg : Bool} {o o' : Ow} {Γ s : List Ent} {e : Ent}
theorem FEq_row (r q : List Int) : FEq neg (.nd .lst o (r.map iT)) (.nd .lst o' (q.map iT)) = some (.bl (if neg then !decide (r = q) else decide (r = q))) := feq_of (dd_list dd_int) (by decide) (toD_row r) (toD_row q)
theorem FEq_tup (r q : List Int) : FEq neg (.nd .tup o (r.map iT)) (.nd .tup o' (q.map iT)) = some (.bl (if neg then !decide (r = q) else decide (r = q))) := feq_of (dd_tup dd_int) (by decide) (toD_tup r) (toD_tup q)
theorem FEq_mat (r q : List (List Int)) : FEq neg (.nd .lst o (r.map rowT)) (.nd .lst o' (q.map rowT)) = some (.bl (if neg then !decide (r = q) else decide (r = q))) := feq_of (dd_list (dd_list dd_int)) (by decide) (toD_mat r) (toD_mat q)
theorem FEq_pair (a b c d : Int) : FEq neg (.nd .tup o [.a (.int a), .a (.int b)]) (.nd .tup o' [.a (.int c), .a (.int d)]) = some (.bl (if neg then !decide (a = c ∧ b = d) else decide (a = c ∧ b = d))) := by
  have := FEq_tup (neg := neg) (o := o) (o' := o') [a, b] [c, d]
  simpa using this
theorem FEq_int (a b : Int) : FEq neg (.a (.int a)) (.a (.int b)) = some (.bl (if neg then !decide (a = b) else decide (a = b))) := by
  unfold FEq
  simp [scal]
theorem FEq_str (a b : Str) : FEq neg (.a (.str a)) (.a (.str b)) = some (.bl (if neg then !decide (a = b) else decide (a = b))) := by
  unfold FEq
  simp [scal]
theorem FEq_bl (a b : Bool) : FEq neg (.a (.bl a)) (.a (.bl b)) = some (.bl (if neg then !decide (a = b) else decide (a = b))) := by
  unfold FEq
  simp [scal]
theorem atoms_map {α : Type} {f : α → V} : ∀ xs : List α, atoms (xs.map fun x => Tr.a (f x)) = some (xs.map f)
  | [] => rfl
  | x :: xs => by
    rw [List.map_cons, atoms, atoms_map xs]
    rfl
theorem FIn_int (x : Int) (xs : List Int) (k : Nk) (hk : k = .lst ∨ k = .tup) : FIn neg (.a (.int x)) (.nd k o (xs.map iT)) = some (.bl (if neg then !decide (x ∈ xs) else decide (x ∈ xs))) := by
  have h1 : atoms (xs.map iT) = some (xs.map V.int) := atoms_map (f := V.int) xs
  have h2 : (xs.map V.int).all flatV = true := by simp [flatV]
  rcases hk with rfl | rfl
  all_goals
    unfold FIn
    simp only [h1]
    rw [if_pos ⟨rfl, h2⟩, inV_int]
theorem FIn_l (x : Int) (xs : List Int) : FIn neg (.a (.int x)) (.nd .lst o (xs.map iT)) = some (.bl (if neg then !decide (x ∈ xs) else decide (x ∈ xs))) := FIn_int x xs _ (.inl rfl)
theorem FIn_t (x : Int) (xs : List Int) : FIn neg (.a (.int x)) (.nd .tup o (xs.map iT)) = some (.bl (if neg then !decide (x ∈ xs) else decide (x ∈ xs))) := FIn_int x xs _ (.inr rfl)
end
/-! loops that look through things and may leave with an answer -/
section
variable {md : List Bool} {k n : Nat} {Γ s : List Ent} {gs : GS} {lo : Int} {t : Tr} {α : Type}
end
/-! isinstance of plain things -/
theorem kit_int_int : kitB "int" "int" = some true := by decide +kernel
theorem kit_int_bool : kitB "int" "bool" = some false := by decide +kernel
theorem kit_int_str : kitB "int" "str" = some false := by decide +kernel
theorem kit_int_list : kitB "int" "list" = some false := by decide +kernel
theorem kit_int_tuple : kitB "int" "tuple" = some false := by decide +kernel
theorem kit_int_dict : kitB "int" "dict" = some false := by decide +kernel
theorem kit_bool_int : kitB "bool" "int" = some true := by decide +kernel
theorem kit_bool_bool : kitB "bool" "bool" = some true := by decide +kernel
theorem kit_bool_str : kitB "bool" "str" = some false := by decide +kernel
theorem kit_bool_list : kitB "bool" "list" = some false := by decide +kernel
theorem kit_bool_tuple : kitB "bool" "tuple" = some false := by decide +kernel
theorem kit_bool_dict : kitB "bool" "dict" = some false := by decide +kernel
theorem kit_str_int : kitB "str" "int" = some false := by decide +kernel
theorem kit_str_bool : kitB "str" "bool" = some false := by decide +kernel
theorem kit_str_str : kitB "str" "str" = some true := by decide +kernel
theorem kit_str_list : kitB "str" "list" = some false := by decide +kernel
theorem kit_str_tuple : kitB "str" "tuple" = some false := by decide +kernel
theorem kit_str_dict : kitB "str" "dict" = some false := by decide +kernel
theorem kit_list_int : kitB "list" "int" = some false := by decide +kernel
theorem kit_list_bool : kitB "list" "bool" = some false := by decide +kernel
theorem kit_list_str : kitB "list" "str" = some false := by decide +kernel
theorem kit_list_list : kitB "list" "list" = some true := by decide +kernel
theorem kit_list_tuple : kitB "list" "tuple" = some false := by decide +kernel
theorem kit_list_dict : kitB "list" "dict" = some false := by decide +kernel
theorem kit_tuple_int : kitB "tuple" "int" = some false := by decide +kernel
theorem kit_tuple_bool : kitB "tuple" "bool" = some false := by decide +kernel
theorem kit_tuple_str : kitB "tuple" "str" = some false := by decide +kernel
theorem kit_tuple_list : kitB "tuple" "list" = some false := by decide +kernel
theorem kit_tuple_tuple : kitB "tuple" "tuple" = some true := by decide +kernel
theorem kit_tuple_dict : kitB "tuple" "dict" = some false := by decide +kernel
theorem kit_dict_int : kitB "dict" "int" = some false := by decide +kernel
theorem kit_dict_bool : kitB "dict" "bool" = some false := by decide +kernel
theorem kit_dict_str : kitB "dict" "str" = some false := by decide +kernel
theorem kit_dict_list : kitB "dict" "list" = some false := by decide +kernel
theorem kit_dict_tuple : kitB "dict" "tuple" = some false := by decide +kernel
theorem kit_dict_dict : kitB "dict" "dict" = some true := by decide +kernel
theorem kit_NoneType_int : kitB "NoneType" "int" = some false := by decide +kernel
theorem kit_NoneType_bool : kitB "NoneType" "bool" = some false := by decide +kernel
theorem kit_NoneType_str : kitB "NoneType" "str" = some false := by decide +kernel
theorem kit_NoneType_list : kitB "NoneType" "list" = some false := by decide +kernel
theorem kit_NoneType_tuple : kitB "NoneType" "tuple" = some false := by decide +kernel
theorem kit_NoneType_dict : kitB "NoneType" "dict" = some false := by decide +kernel
/-! places in short lists -/
theorem ixL_1_0 : ixN 1 0 = some 0 := rfl
theorem ixL_2_0 : ixN 2 0 = some 0 := rfl
theorem ixL_2_1 : ixN 2 1 = some 1 := rfl
theorem ixL_3_0 : ixN 3 0 = some 0 := rfl
theorem ixL_3_1 : ixN 3 1 = some 1 := rfl
theorem ixL_3_2 : ixN 3 2 = some 2 := rfl
theorem ixL_4_0 : ixN 4 0 = some 0 := rfl
theorem ixL_4_1 : ixN 4 1 = some 1 := rfl
theorem ixL_4_2 : ixN 4 2 = some 2 := rfl
theorem ixL_4_3 : ixN 4 3 = some 3 := rfl
theorem ixL_5_0 : ixN 5 0 = some 0 := rfl
theorem ixL_5_1 : ixN 5 1 = some 1 := rfl
theorem ixL_5_2 : ixN 5 2 = some 2 := rfl
theorem ixL_5_3 : ixN 5 3 = some 3 := rfl
theorem ixL_5_4 : ixN 5 4 = some 4 := rfl
theorem ixL_6_0 : ixN 6 0 = some 0 := rfl
theorem ixL_6_1 : ixN 6 1 = some 1 := rfl
theorem ixL_6_2 : ixN 6 2 = some 2 := rfl
theorem ixL_6_3 : ixN 6 3 = some 3 := rfl
theorem ixL_6_4 : ixN 6 4 = some 4 := rfl
theorem ixL_6_5 : ixN 6 5 = some 5 := rfl
theorem ixL_7_0 : ixN 7 0 = some 0 := rfl
theorem ixL_7_1 : ixN 7 1 = some 1 := rfl
theorem ixL_7_2 : ixN 7 2 = some 2 := rfl
theorem ixL_7_3 : ixN 7 3 = some 3 := rfl
theorem ixL_7_4 : ixN 7 4 = some 4 := rfl
theorem ixL_7_5 : ixN 7 5 = some 5 := rfl
theorem ixL_7_6 : ixN 7 6 = some 6 := rfl
theorem ixL_8_0 : ixN 8 0 = some 0 := rfl
theorem ixL_8_1 : ixN 8 1 = some 1 := rfl
theorem ixL_8_2 : ixN 8 2 = some 2 := rfl
theorem ixL_8_3 : ixN 8 3 = some 3 := rfl
theorem ixL_8_4 : ixN 8 4 = some 4 := rfl
theorem ixL_8_5 : ixN 8 5 = some 5 := rfl
theorem ixL_8_6 : ixN 8 6 = some 6 := rfl
theorem ixL_8_7 : ixN 8 7 = some 7 := rfl
theorem ixL_9_0 : ixN 9 0 = some 0 := rfl
theorem ixL_9_1 : ixN 9 1 = some 1 := rfl
theorem ixL_9_2 : ixN 9 2 = some 2 := rfl
theorem ixL_9_3 : ixN 9 3 = some 3 := rfl
theorem ixL_9_4 : ixN 9 4 = some 4 := rfl
theorem ixL_9_5 : ixN 9 5 = some 5 := rfl
theorem ixL_9_6 : ixN 9 6 = some 6 := rfl
theorem ixL_9_7 : ixN 9 7 = some 7 := rfl
theorem ixL_9_8 : ixN 9 8 = some 8 := rfl
theorem ixL_10_0 : ixN 10 0 = some 0 := rfl
theorem ixL_10_1 : ixN 10 1 = some 1 := rfl
theorem ixL_10_2 : ixN 10 2 = some 2 := rfl
theorem ixL_10_3 : ixN 10 3 = some 3 := rfl
theorem ixL_10_4 : ixN 10 4 = some 4 := rfl
theorem ixL_10_5 : ixN 10 5 = some 5 := rfl
theorem ixL_10_6 : ixN 10 6 = some 6 := rfl
theorem ixL_10_7 : ixN 10 7 = some 7 := rfl
theorem ixL_10_8 : ixN 10 8 = some 8 := rfl
theorem ixL_10_9 : ixN 10 9 = some 9 := rfl
theorem ixL_11_0 : ixN 11 0 = some 0 := rfl
theorem ixL_11_1 : ixN 11 1 = some 1 := rfl
theorem ixL_11_2 : ixN 11 2 = some 2 := rfl
theorem ixL_11_3 : ixN 11 3 = some 3 := rfl
theorem ixL_11_4 : ixN 11 4 = some 4 := rfl
theorem ixL_11_5 : ixN 11 5 = some 5 := rfl
theorem ixL_11_6 : ixN 11 6 = some 6 := rfl
theorem ixL_11_7 : ixN 11 7 = some 7 := rfl
theorem ixL_11_8 : ixN 11 8 = some 8 := rfl
theorem ixL_11_9 : ixN 11 9 = some 9 := rfl
theorem ixL_11_10 : ixN 11 10 = some 10 := rfl
theorem ixL_12_0 : ixN 12 0 = some 0 := rfl
theorem ixL_12_1 : ixN 12 1 = some 1 := rfl
theorem ixL_12_2 : ixN 12 2 = some 2 := rfl
theorem ixL_12_3 : ixN 12 3 = some 3 := rfl
theorem ixL_12_4 : ixN 12 4 = some 4 := rfl
theorem ixL_12_5 : ixN 12 5 = some 5 := rfl
theorem ixL_12_6 : ixN 12 6 = some 6 := rfl
theorem ixL_12_7 : ixN 12 7 = some 7 := rfl
theorem ixL_12_8 : ixN 12 8 = some 8 := rfl
theorem ixL_12_9 : ixN 12 9 = some 9 := rfl
theorem ixL_12_10 : ixN 12 10 = some 10 := rfl
theorem ixL_12_11 : ixN 12 11 = some 11 := rfl
/-! try .. except X as e, and isinstance(e, Y) in its suite -/
section
variable {X : Cx} {T : KT} {md : List Bool} {W Wout : WX} {c : Value} {i : Nat} {x n : Str} {body suite : List Stmt} {b₀ : Stmt} {np pos pos' : Pos} {gb : GS} {tab : List (Nat × Bool)} {gsu : Nat → Addr → GS}
def wpS (K : KC) (md : List Bool) (W : WX) (g : GS) : L2.TS := fun D σ H => ∃ c m us o, c.md = md ∧ EnvOk K c σ H m.g m.s us ∧ g m = some o ∧ PostS K c W us D o
theorem MSs.ps {sts : List Stmt} {g : GS} (h : MSs X T md W sts g) : PSs X sts (wpS (kcm X.K T) md W g) := by
  obtain ⟨t, p, s⟩ := h
  exact ⟨fun pins st σ H D I ⟨c, m, us, o, hc, E, hg, hp⟩ => p.run pins st σ H D I (s c σ H m us D o hc E hg hp)⟩
/-- the suite, run with the error a in slot i; what slot i held is forgotten at its end -/
def suR (md : List Bool) (i : Nat) (g : GS) (a : Addr) (Γ : List Ent) : Option Os := match bind md i ⟨Γ, [.tr (.a (.ref a))]⟩ with
  | some m1 => match g m1 with
    | some (.nx m2) => if i < m2.g.length then some (.nx (clr i m2)) else none
    | some (.rt t m2) => if i < m2.g.length then some (.rt t (clr i m2)) else none
    | _ => none
  | none => none
open Classical in
/-- tab: which errors are caught -/
noncomputable def sTry (md : List Bool) (i : Nat) (tab : List (Nat × Bool)) (gb : GS) (gsu : Nat → Addr → GS) : GS := fun m => match m.s with
  | _ :: _ => none
  | [] => match gb m with
    | some (.ex C g') => match tab.lookup C with
      | some true => if h : ∃ o, ∀ a, suR md i (gsu C a) a g' = some o then some (choose h) else none
      | some false => some (.ex C g')
      | none => none
    | r => r
theorem sTry_ex {m : Ms} {C : Nat} {g' : List Ent} {o : Os} (hs : m.s = []) (h1 : gb m = some (.ex C g')) (h2 : tab.lookup C = some true) (h3 : ∀ a, suR md i (gsu C a) a g' = some o) : sTry md i tab gb gsu m = some o := by
  unfold sTry
  rw [hs]
  simp only [h1, h2]
  have h : ∃ o, ∀ a, suR md i (gsu C a) a g' = some o := ⟨o, h3⟩
  rw [dif_pos h]
  have h4 := Classical.choose_spec h 0
  rw [h3 0] at h4
  exact h4.symm
def suN : Nat → Addr → GS := fun _ _ _ => none
def suC (k : Nat) (g : Addr → GS) (r : Nat → Addr → GS) : Nat → Addr → GS := fun C => if C = k then g else r C
structure SuOk (X : Cx) (T : KT) (md : List Bool) (c : Value) (sts : List Stmt) (tab : List (Nat × Bool)) (gsu : Nat → Addr → GS) : Prop where
  ma : ∀ C b, tab.lookup C = some b → PySem.W.exmOne X.K (.ref (T.et C)) c = some b
  su : ∀ C, tab.lookup C = some true → ∀ (a : Addr) (oe : Obj) (pn : List (Addr × Obj)), L2N.Zn (.ref (T.et C)) none oe → (∃ vs, oe.data = .fields vs) → MSs (X.suite a ((a, oe) :: pn)) T md WF sts (gsu C a)
  nf : ∀ C, tab.lookup C = some true → T.ef C = none
theorem su_nil {sts : List Stmt} : SuOk X T md c sts [] suN := ⟨fun C b h => by simp at h, fun C h => by simp at h, fun C h => by simp at h⟩
theorem su_T {sts : List Stmt} {k : Nat} {g : Addr → GS} (h : PySem.W.exmOne X.K (.ref (T.et k)) c = some true) (hs : ∀ (a : Addr) (oe : Obj) (pn : List (Addr × Obj)), L2N.Zn (.ref (T.et k)) none oe → (∃ vs, oe.data = .fields vs) → MSs (X.suite a ((a, oe) :: pn)) T md WF sts (g a)) (r : SuOk X T md c sts tab gsu) (hf : T.ef k = none := by rfl) :
    SuOk X T md c sts ((k, true) :: tab) (suC k g gsu) := by
  refine ⟨fun C b e => ?_, fun C e => ?_, fun C e => ?_⟩
  · by_cases q : C = k
    · subst q
      simp at e
      rw [e]
      exact h
    · rw [List.lookup_cons, beq_false_of_ne q] at e
      exact r.ma C b e
  · by_cases q : C = k
    · subst q
      unfold suC
      rw [if_pos rfl]
      exact hs
    · rw [List.lookup_cons, beq_false_of_ne q] at e
      unfold suC
      rw [if_neg q]
      exact r.su C e
  · by_cases q : C = k
    · rw [q]
      exact hf
    · rw [List.lookup_cons, beq_false_of_ne q] at e
      exact r.nf C e
theorem clr_post {K : KC} {cz : Cz} {σ' : St} {H' : Hp} {m2 : Ms} {us : List V} (E : EnvOk K cz σ' H' m2.g m2.s us) (hi : i < m2.g.length) : EnvOk K cz (σ'.set i none) H' (clr i m2).g (clr i m2).s us := by
  refine (E.clr hi).reσ (by simp) fun j e he => ?_
  by_cases q : j = i
  · subst q
    left
    have he : ((m2.g.map (killR j)).set j .no)[j]? = some e := he
    rw [List.getElem?_set_self (by simpa using hi)] at he
    cases he
    rfl
  · right
    rw [List.getElem?_set_ne (fun z => q z.symm)]
theorem ms_try (hs : X.stack = X.env :: X.outer) (hf : X.env.frame = some X.env.locals) (hN : X.N.Nodup) (hi : X.N[i]? = some n) (hln : X.env.kindOf n = some .local) (hc : Names X x c) (tk : Takes X W)
    (hb : ∀ (W' : WX) (pn : List (Addr × Obj)) (xe : Value → Shared → Prop), Takes (X.tr pn xe) W' → PassesOwn (model X.prog X.w) X.A X.env xe → MSs (X.tr pn xe) T md W' body gb)
    (su : SuOk X T md c (b₀ :: suite) tab gsu) : MS X T md W (.Try body [.ExceptHandler (some (.Name x np)) (some n) (b₀ :: suite) pos'] [] [] pos) (sTry md i tab gb gsu) := by
  refine ⟨_, L2N.ps_try_as (tb := fun W' => wpS (kcm X.K T) md W' gb) (ts := fun a cls d D σ H => ∃ C, tab.lookup C = some true ∧ cls = .ref (T.et C) ∧ d = none ∧ wpS (kcm X.K T) md WF (gsu C a) D σ H) (Wout := W) hs hf hN hi hln hc tk (fun W' pn xe tk' po => (hb W' pn xe tk' po).ps) ?_, ?_⟩
  · intro a oe cls d pn hz hfl
    refine ⟨fun pins s σ H D I h => ?_⟩
    obtain ⟨C, hC, rfl, rfl, h⟩ := h
    exact (su.su C hC a oe pn hz hfl).ps.run pins s σ H D I h
  · intro cz σ H m us D o hmd E hg hp
    have hl := tail_len E
    unfold sTry at hg
    cases hms : m.s with
    | cons e s => rw [hms] at hg; cases hg
    | nil =>
      rw [hms] at hg hl
      simp only at hg
      have hus : us = [] := List.length_eq_zero_iff.mp hl.symm
      subst hus
      cases h1 : gb m with
      | none => rw [h1] at hg; cases hg
      | some o1 =>
        refine ⟨cz, m, [], o1, hmd, E, h1, ?_⟩
        rw [h1] at hg
        cases o1 with
        | nx m1 => cases hg; exact hp
        | rt t m1 => cases hg; exact hp
        | bk m1 => cases hg; exact hp
        | ct m1 => cases hg; exact hp
        | ex C g' =>
          simp only at hg
          cases hq : tab.lookup C with
          | none => rw [hq] at hg; cases hg
          | some b =>
            rw [hq] at hg
            cases b with
            | false =>
              cases hg
              exact fun σ' H' E' => ⟨false, su.ma C false hq, fun (z : false = true) => (Bool.false_ne_true z).elim, fun _ => hp σ' H' E'⟩
            | true =>
              simp only at hg
              split at hg
              · rename_i h
                cases hg
                have h3 := Classical.choose_spec h
                generalize Classical.choose h = o at *
                refine fun σ' H' E' => ⟨true, su.ma C true hq, fun _ a na => ?_, fun (z : true = false) => (Bool.false_ne_true z.symm).elim⟩
                obtain ⟨e0, E'⟩ := EnvX.no (su.nf C hq) E'
                refine ⟨C, hq, rfl, e0, ?_⟩
                have h4 := h3 a
                unfold suR at h4
                split at h4
                · rename_i m1 hb1
                  have E2 : EnvOk (kcm X.K T) cz (σ'.set i (some (.ref a))) H'.1 m1.g m1.s [] := bind_ok (m := ⟨g', [.tr (.a (.ref a))]⟩) hmd (E'.atom (.ref a)) hb1
                  split at h4
                  · rename_i m2 hg2
                    split at h4
                    · rename_i hlt
                      cases h4
                      exact ⟨cz, m1, [], _, hmd, E2, hg2, fun σ3 H3 E3 => hp _ H3 (clr_post E3 hlt)⟩
                    · cases h4
                  · rename_i t m2 hg2
                    split at h4
                    · rename_i hlt
                      cases h4
                      exact ⟨cz, m1, [], _, hmd, E2, hg2, fun σ3 v H3 E3 => hp _ v H3 (clr_post (m2 := ⟨m2.g, .tr t :: m2.s⟩) E3 hlt)⟩
                    · cases h4
                  · cases h4
                · cases h4
              · cases hg
/-- isinstance(e, Y), e the error a in slot i -/
def gIsE (i : Nat) (a : Addr) (b : Bool) : GE := fun m => match m.g[i]? with
  | some (.tr (.a (.ref y))) => if y = a then some (.ok ⟨m.g, .tr (.a (.bl b)) :: m.s⟩) else none
  | _ => none
theorem me_isE {a D Y : Addr} {oe : Obj} {pn : List (Addr × Obj)} {en dn : Str} {pe pd pi ps : Pos} {b : Bool} (hex : ExcC X.K D) (hz : L2N.Zn (.ref D) none oe) (hfl : ∃ vs, oe.data = .fields vs) (hk : PySem.W.kitOne X.K (.ref D) (.ref Y) = some b) (hg : Gl (X.suite a ((a, oe) :: pn)) "isinstance") (hm : X.mg "isinstance" = none)
    (hv : bootBuiltins "isinstance" = some (.builtin "isinstance")) (he : PE (X.suite a ((a, oe) :: pn)) (.Name en pe) (tVar i)) (hd : PE (X.suite a ((a, oe) :: pn)) (.Name dn pd) (tC (.ref Y)))
    (hst1 : starEach [.Name en pe, .Name dn pd] (X.suite a ((a, oe) :: pn)).env = (false, eval (.Name en pe) (X.suite a ((a, oe) :: pn)).env) :: starEach [.Name dn pd] (X.suite a ((a, oe) :: pn)).env := by rfl)
    (hst2 : starEach [.Name dn pd] (X.suite a ((a, oe) :: pn)).env = (false, eval (.Name dn pd) (X.suite a ((a, oe) :: pn)).env) :: starEach [] (X.suite a ((a, oe) :: pn)).env := by rfl)
    (hpl : (backTo ps (starEach [.Name dn pd] (X.suite a ((a, oe) :: pn)).env)).any (·.1) = false := by rfl) :
    ME (X.suite a ((a, oe) :: pn)) T md W (.Call (.Name "isinstance" pi) [.Name en pe, .Name dn pd] [] ps) (gIsE i a b) := by
  refine ⟨_, pe_callB (call_isE hex hz.zc hfl) hg hm hv (pa_cons he (pa_cons hd pa_nil hst2) hst1) (by decide) (by rfl) hst1 hpl, ?_⟩
  intro cz σ H m us Q r hmd E hg' hp
  unfold gIsE at hg'
  split at hg'
  · rename_i y hy
    split at hg'
    · rename_i hya
      cases hg'
      subst hya
      obtain ⟨v, hv1, E1⟩ := E.var hy rfl
      have hv2 : v = .ref y := top_a E1
      subst hv2
      exact ⟨_, hv1, _, _, b, rfl, fun u hu => by cases hu; rfl, hk, hp _ _ (E.atom (.bl b))⟩
    · cases hg'
  · cases hg'
end
/-! a name that a comprehension takes for its own: what it held is forgotten -/
section
variable {X : Cx} {T : KT} {md : List Bool} {W : WX} {i : Nat} {e : Expr} {st : Stmt} {g : GE} {gs : GS}
def gClr (i : Nat) (g : GE) : GE := fun m => if i < m.g.length then g (clr i m) else none
def sClr (i : Nat) (g : GS) : GS := fun m => if i < m.g.length then g (clr i m) else none
theorem me_clr (h : ME X T md W e g) : ME X T md W e (gClr i g) := by
  obtain ⟨t, p, s⟩ := h
  refine ⟨t, p, fun c σ H m us Q r hc E hg hp => ?_⟩
  unfold gClr at hg
  split at hg
  · rename_i hi
    exact s c σ H (clr i m) us Q r hc (E.clr hi) hg hp
  · cases hg
end
/-! two dicts without entries are equal -/
section
variable {K : KC} {md : List Bool} {W : WX}
def FEqE : Tr → Tr → Option V
  | .nd (.dct []) .own [], .nd (.dct []) .own [] => some (.bl true)
  | _, _ => none
def fEqE : GE := fP2 FEqE
end
/-! a loop that leaves at the first that it looks for -/
section
variable {md : List Bool} {k n : Nat} {Γ s : List Ent} {gs : GS} {lo : Int}
end
/-! things that no store can forget -/
theorem killR_tr {i : Nat} {t : Tr} : killR i (.tr t) = .tr t := rfl
theorem killR_no {i : Nat} : killR i .no = .no := rfl
theorem killR_al {i : Nat} {q : List Nat} : killR i (.al q) = if q.head? = some i then .no else .al q := rfl
theorem killE_tr {p : List Nat} {t : Tr} : killE p (.tr t) = .tr t := rfl
theorem killE_no {p : List Nat} : killE p .no = .no := rfl
theorem killE_al {p q : List Nat} : killE p (.al q) = if nbel p q = true then .al q else .no := rfl
theorem killJ_tr {p : List Nat} {t : Tr} : killJ p (.tr t) = .tr t := rfl
theorem killJ_no {p : List Nat} : killJ p .no = .no := rfl
theorem killJ_al {p q : List Nat} : killJ p (.al q) = if pre p q = true then .no else .al q := rfl
structure Nal (x : Ent) : Prop where
  kr : ∀ i, killR i x = x
  ke : ∀ p, killE p x = x
  kj : ∀ p, killJ p x = x
theorem nal_no : Nal .no := ⟨fun _ => rfl, fun _ => rfl, fun _ => rfl⟩
theorem nal_tr {t : Tr} : Nal (.tr t) := ⟨fun _ => rfl, fun _ => rfl, fun _ => rfl⟩
/-! slices -/
def prt : Bool → List Ent → Option (Option Int × List Ent)
  | false, s => some (none, s)
  | true, .tr (.a (.int i)) :: s => some (some i, s)
  | _, _ => none
def cutT {α : Type} (ts : List α) (lo hi : Option Int) : List α := (ts.drop (HT.sIx ts.length 0 lo)).take (HT.sIx ts.length ts.length hi - HT.sIx ts.length 0 lo)
section
variable {K : KC} {X : Cx} {T : KT} {md : List Bool} {W : WX} {g ge : GE} {te t : TE} {e : Expr} {pos p p2 : Pos} {lo hi : Option Expr}
theorem EnvOk.cut {c : Cz} {σ : St} {H : Hp} {Γ τ : List Ent} {us vs : List V} {ts : List Tr} (E : EnvOk K c σ H Γ (ts.reverse.map Ent.tr ++ τ) (vs.reverse ++ us)) (hl : ts.length = vs.length) (i n : Nat) :
    EnvOk K c σ H Γ (((ts.drop i).take n).reverse.map Ent.tr ++ τ) (((vs.drop i).take n).reverse ++ us) := by
  have e1 : ts.reverse.map Ent.tr = ((ts.drop i).drop n).reverse.map Ent.tr ++ (((ts.drop i).take n).reverse.map Ent.tr ++ (ts.take i).reverse.map Ent.tr) := by
    rw [← List.map_append, ← List.reverse_append, ← List.map_append, ← List.reverse_append, List.append_assoc, List.take_append_drop, List.take_append_drop]
  have e2 : vs.reverse = ((vs.drop i).drop n).reverse ++ (((vs.drop i).take n).reverse ++ (vs.take i).reverse) := by
    rw [← List.reverse_append, ← List.reverse_append, List.append_assoc, List.take_append_drop, List.take_append_drop]
  rw [e1, e2, List.append_assoc, List.append_assoc, List.append_assoc, List.append_assoc] at E
  have E1 := EnvOk.dropN (by simp [hl]) E
  exact EnvOk.dropN (by simp [hl]) (EnvOk.permA (by simp [hl]) (by simp [hl]) E1)
theorem cutV_eq {ts : List Tr} {vs : List V} (hl : ts.length = vs.length) (lo hi : Option Int) : cutV vs lo hi = (vs.drop (HT.sIx ts.length 0 lo)).take (HT.sIx ts.length ts.length hi - HT.sIx ts.length 0 lo) := by
  unfold cutV
  rw [hl]
/-- what stands between lo and hi of the thing on top -/
def cutG (lo hi : Option Int) : GE := fun m => match m.s with
  | e :: s => match viewE m.g e with
    | some (.nd .lst o ts) => match itemsE e o ts with
      | some ts' => match mkN .lst (cutT ts' lo hi) with
        | some t => some (.ok ⟨m.g, .tr t :: s⟩)
        | none => none
      | none => none
    | some (.nd .tup o ts) => if HT.sIx ts.length 0 lo = 0 ∧ HT.sIx ts.length ts.length hi = ts.length then some (.ok m) else match itemsE e o ts with
      | some ts' => some (.ok ⟨m.g, .tr (.nd .tup .own (cutT ts' lo hi)) :: s⟩)
      | none => none
    | some (.a (.str z)) => if z.length ≤ sizeLine then some (.ok ⟨m.g, .tr (.a (.str (cutS z lo hi))) :: s⟩) else none
    | _ => none
  | _ => none
def RCut (K : PySem.W.Frag) : V → Option Int → Option Int → Hp → VK → Prop := fun x lo hi H Q => (rSlL K x lo hi H Q ∨ rSlA K x lo hi H Q) ∨ rSlS x lo hi H Q
theorem sl_any {X : Cx} : SlR X (RCut X.K) := (sl_list.or sl_tupA).or sl_str
theorem cutG_ok {c : Cz} {σ : St} {H : Hp} {m : Ms} {us : List V} {x : V} {Q : VK} {rr : Rs} {lo hi : Option Int} (E : EnvOk K c σ H m.g m.s (x :: us)) (hf : cutG lo hi m = some rr) (hp : PostE K c W σ us Q rr) : RCut K.K x lo hi H Q := by
  unfold cutG at hf
  split at hf
  · rename_i ex s hs
    rw [hs] at E
    split at hf
    · rename_i o ts hv
      split at hf
      · rename_i ts' h2
        split at hf
        · rename_i tn hn
          cases hf
          obtain ⟨ad, vs, rfl, ho, hl, e1, E1⟩ := EnvOk.items E hv h2
          have hl' : ts'.length = vs.length := by rw [e1]; simpa using hl
          refine .inl (.inl ⟨ad, vs, rfl, objL ho, fun l nl => hp _ _ ?_⟩)
          rw [cutV_eq hl']
          exact (E1.cut hl' _ _).new (by simp [hl']) nl hn fun o => upd_same
        · cases hf
      · cases hf
    · rename_i o ts hv
      split at hf
      · rename_i hw
        cases hf
        obtain ⟨Z, ws, Φ, Ψ, EE⟩ := id E
        obtain ⟨Θ1, ad, vs, Ξ, rfl, ho, hl, _⟩ := EE.view (n := 0) rfl rfl hv
        have hlen := RepL.len _ hl
        refine .inl (.inr ⟨ad, vs, rfl, objT ho, fun _ => hp _ _ (by rw [hs]; exact E), fun hn => absurd ?_ hn⟩)
        rw [← hlen]
        exact hw
      · rename_i hw
        split at hf
        · rename_i ts' h2
          cases hf
          obtain ⟨ad, vs, rfl, ho, hl, e1, E1⟩ := EnvOk.items E hv h2
          have hl' : ts'.length = vs.length := by rw [e1]; simpa using hl
          refine .inl (.inr ⟨ad, vs, rfl, objT ho, fun hn => absurd (by rw [hl]; exact hn) hw, fun _ l nl => hp _ _ ?_⟩)
          rw [cutV_eq hl']
          exact EnvOk.new (k := .tup) (E1.cut hl' _ _) (by simp [hl']) nl (by simp [mkN, cutT]) fun o => .inl upd_same
        · cases hf
    · rename_i z hv
      split at hf
      · rename_i hz
        cases hf
        obtain ⟨Z, ws, Φ, Ψ, EE⟩ := id E
        obtain ⟨Θ1, r1⟩ := EE.view (n := 0) rfl rfl hv
        exact .inr ⟨z, r1.1, hz, hp _ _ (E.drop.atom _)⟩
      · cases hf
    · cases hf
  · cases hf
def fSl (a b : Bool) : GE := fun m => match prt b m.s with
  | some (hi, s1) => match prt a s1 with
    | some (lo, s2) => cutG lo hi ⟨m.g, s2⟩
    | none => none
  | none => none
def PartV (b : Bool) (o : Option Int) (vs : List V) : Prop := match b with
  | false => o = none ∧ vs = []
  | true => ∃ i, o = some i ∧ vs = [V.int i]
theorem prt_ok {c : Cz} {σ : St} {H : Hp} {Γ s s' : List Ent} {us vs : List V} {b : Bool} {o o' : Option Int} (E : EnvOk K c σ H Γ s (vs ++ us)) (hv : PartV b o vs) (h : prt b s = some (o', s')) : o' = o ∧ EnvOk K c σ H Γ s' us := by
  cases b with
  | false =>
    obtain ⟨rfl, rfl⟩ := hv
    simp only [prt] at h
    cases h
    exact ⟨rfl, E⟩
  | true =>
    obtain ⟨i, rfl, rfl⟩ := hv
    unfold prt at h
    split at h
    · rename_i e; cases e
    · cases h
      have := top_a E
      cases this
      exact ⟨rfl, E.drop⟩
    · cases h
def PostO (K : KC) (c : Cz) (W : WX) (σ : St) (us : List V) (b : Bool) (Q : Option Int → Hp → Prop) : Rs → Prop
  | .ok m' => ∀ o vs H', PartV b o vs → EnvOk K c σ H' m'.g m'.s (vs ++ us) → Q o H'
  | .ex C g' => ∀ H' : HX, EnvX K c C σ H' g' [] [] → W (.ref (K.et C)) H'.2 σ H'.1
def SO (K : KC) (md : List Bool) (W : WX) (b : Bool) (t : TO) (g : GE) : Prop := ∀ (c : Cz) (σ : St) (H : Hp) (m : Ms) (us : List V) (Q : Option Int → Hp → Prop) (r : Rs), c.md = md → EnvOk K c σ H m.g m.s us → g m = some r → PostO K c W σ us b Q r → t σ H Q
/-- a part of a slice, and what the machine does for it -/
def MO (X : Cx) (T : KT) (md : List Bool) (W : WX) (e : Option Expr) (b : Bool) (g : GE) : Prop := ∃ t, PO X e t ∧ SO (kcm X.K T) md W b t g
def gNoP : GE := fun m => some (.ok m)
theorem mo_none : MO X T md W none false gNoP := ⟨_, po_none, fun c σ H m us Q r hc E hg hp => by
  cases hg
  exact hp none [] H ⟨rfl, rfl⟩ E⟩
def chkInt : GE := fun m => match m.s with
  | .tr (.a (.int _)) :: _ => some (.ok m)
  | _ => none
theorem mo_some (he : ME X T md W e g) : MO X T md W (some e) true (gSeq g chkInt) := by
  obtain ⟨t, pe, se⟩ := he
  refine ⟨_, po_some pe, fun c σ H m us Q r hc E hg hp => ?_⟩
  simp only [gSeq] at hg
  split at hg
  · rename_i m1 h1
    refine se c σ H m us _ _ hc E h1 fun x H1 E1 => ?_
    unfold chkInt at hg
    split at hg
    · rename_i i s hs
      cases hg
      have E2 := E1
      rw [hs] at E2
      have := top_a E2
      exact ⟨i, this, hp (some i) [.int i] H1 ⟨i, rfl, rfl⟩ (by rw [← this]; exact E1)⟩
    · cases hg
  · rename_i h1
    refine se c σ H m us _ _ hc E hg ?_
    cases r with
    | ex C g' => exact hp
    | ok m2 => exact absurd hg (h1 m2)
theorem me_sl {a b : Bool} {gl gh : GE} (he : ME X T md W e ge) (hl : MO X T md W lo a gl) (hh : MO X T md W hi b gh) : ME X T md W (.Subscript e (.Slice lo hi none p2) pos) (gSeq (gSeq (gSeq ge gl) gh) (fSl a b)) := by
  obtain ⟨te, pe, se⟩ := he
  obtain ⟨tl, pl, sl⟩ := hl
  obtain ⟨th, ph, sh⟩ := hh
  refine ⟨_, pe_slice sl_any pe pl ph, fun c σ H m us Q r hc E hg hp => ?_⟩
  simp only [gSeq] at hg
  cases e1 : ge m with
  | none => simp [e1] at hg
  | some r1 =>
    cases r1 with
    | ex C g' =>
      simp only [e1] at hg
      cases hg
      exact se c σ H m us _ _ hc E e1 hp
    | ok m1 =>
      simp only [e1] at hg
      refine se c σ H m us _ _ hc E e1 fun x H1 E1 => ?_
      cases e2 : gl m1 with
      | none => simp [e2] at hg
      | some r2 =>
        cases r2 with
        | ex C g' =>
          simp only [e2] at hg
          cases hg
          exact sl c σ H1 m1 _ _ _ hc E1 e2 hp
        | ok m2 =>
          simp only [e2] at hg
          refine sl c σ H1 m1 _ _ _ hc E1 e2 fun o1 v1 H2 p1 E2 => ?_
          cases e3 : gh m2 with
          | none => simp [e3] at hg
          | some r3 =>
            cases r3 with
            | ex C g' =>
              simp only [e3] at hg
              cases hg
              exact sh c σ H2 m2 _ _ _ hc E2 e3 hp
            | ok m3 =>
              simp only [e3] at hg
              refine sh c σ H2 m2 _ _ _ hc E2 e3 fun o2 v2 H3 p2 E3 => ?_
              unfold fSl at hg
              split at hg
              · rename_i hi' s1 h1
                split at hg
                · rename_i lo' s2 h2
                  obtain ⟨rfl, E4⟩ := prt_ok E3 p2 h1
                  obtain ⟨rfl, E5⟩ := prt_ok E4 p1 h2
                  exact cutG_ok (m := ⟨m3.g, s2⟩) E5 hg hp
                · cases hg
              · cases hg
end
section
variable {K : KC} {X : Cx} {T : KT} {md : List Bool} {W : WX} {c : Cz} {σ : St} {H : Hp} {Γ τ : List Ent} {us : List V}
theorem EnvOk.atoms : ∀ (xs : List V), EnvOk K c σ H Γ τ us → EnvOk K c σ H Γ (xs.map (fun v => Ent.tr (.a v)) ++ τ) (xs ++ us)
  | [], E => E
  | x :: xs, E => (EnvOk.atoms xs E).atom x
/-! xs.extend(ys) -/
def fExt : GE := fun m => match m.s with
  | e :: .al p :: s => match viewE m.g e with
    | some (.nd .lst o us) => match itemsE e o us, getG m.g p with
      | some us', some (.nd .lst .own ts) => if escL us' = true ∧ ts.length + us.length ≤ sizeLine then some (.ok ⟨kill p (setG m.g p (.nd .lst .own (ts ++ us'))), .tr (.a .non) :: kill p s⟩) else none
      | _, _ => none
    | _ => none
  | _ => none
theorem escL_app2 {ts us : List Tr} (h : escL ts = true) (he : escL us = true) : escL (ts ++ us) = true := by
  rw [escL_all] at h he ⊢
  intro y hy
  rcases List.mem_append.mp hy with z | z
  · exact h y z
  · exact he y z
theorem fExt_ok : RM K md W 1 rExtend fExt := by
  intro c σ H m us vs x Q rr hc hl E hf hp
  match vs, hl with
  | [y], _ =>
    unfold fExt at hf
    split at hf
    · rename_i e p s hs
      split at hf
      · rename_i o ws hv
        split at hf
        · rename_i us' ts hi hg
          split at hf
          · rename_i he
            cases hf
            rw [hs] at E
            obtain ⟨b, zs, rfl, hb, hlz, eus, E1⟩ := EnvOk.items E hv hi
            have hb : H b = some (.lst zs) := hb
            have hl' : us'.length = zs.length := by rw [eus]; simpa using hlz
            have E2 := EnvOk.revs (ts := us') (vs := zs) hl' E1
            have E3 : EnvOk K c σ H m.g (.al p :: (us'.map Ent.tr ++ s)) (x :: (zs ++ us)) := EnvOk.permA (A := us'.map Ent.tr) (B := [.al p]) (vb := [x]) (by simpa using hl') rfl E2
            have hes := E3.escAt hg (by simp)
            obtain ⟨Z, ws', Φ, Ψ, EE⟩ := id E3
            obtain ⟨Θ, a, vs, Ξ, rfl, ho, hlr, hn⟩ := EE.view (n := 0) (e := .al p) rfl rfl hg
            have ho : H a = some (.lst vs) := ho
            have hlen := RepL.len _ hlr
            refine ⟨a, b, vs, zs, rfl, rfl, ho, hb, by rw [← hlen, ← hlz]; exact he.2, hp _ _ ?_⟩
            obtain ⟨a', e', E4⟩ := EnvOk.modP (ins := us') (us1 := zs) (outs := []) (vouts := []) (k' := .lst) (ts' := ts ++ us') (ob := .lst (vs ++ zs)) (τ := s) (us := us) E3 hl' hg (by simp) (by simp) (fun a2 vs2 e2 ho2 l2 => by
              cases e2
              have ho2 : H a = some (.lst vs2) := ho2
              rw [ho] at ho2
              cases ho2
              exact ⟨vs ++ zs, by simp [l2, hl'], upd_same, fun Z Ψa Ψb r1 r2 d => ⟨_, by simpa using RepL.append _ r1 r2 d, fun b q => q⟩⟩) rfl (escL_app2 hes he.1)
            cases e'
            exact EnvOk.atom (by simpa using E4) .non
          · cases hf
        · cases hf
      · cases hf
    · cases hf
end
/-! a dict that is lent or frozen, locked while it is walked -/
/-- the same call, the thing at d being ob all the while -/
def Cz.pin (c : Cz) (d : Addr) (ob : HO) (z : Prop) : Cz := ⟨fun b => if b = d then some ob else c.H0 b, fun b => b ≠ d ∧ c.F0 b, fun b => c.S0 b ∨ (b = d ∧ z), c.md, c.vs⟩
section
variable {K : KC} {Z : Zn} {H : Hp} {d : Addr} {ob ob' : HO} {od : Obj} {kvs : List (Key × V)} {c : Cz} {ws us : List V} {Φ Ψ : Ps} {σ : St} {Γ τ : List Ent}
def LkP (ob ob' : HO) (od : Obj) (kvs : List (Key × V)) : Prop := (ob = .dK kvs ∧ ob' = .frz od (.dK kvs)) ∨ (ob = .frz od (.dK kvs) ∧ ob' = .dK kvs)
theorem LkP.rd {kv : List (Key × V)} (h : LkP ob ob' od kvs) (e : H d = some ob) (r : Rd H d (.dK kv)) : Rd (upd H d ob') d (.dK kv) := by
  have ek : kv = kvs := by
    rcases r with r | ⟨o, r⟩ <;> rw [e] at r <;> rcases h with ⟨rfl, _⟩ | ⟨rfl, _⟩ <;> cases r <;> rfl
  subst ek
  rcases h with ⟨_, rfl⟩ | ⟨_, rfl⟩
  · exact .inr ⟨od, upd_same⟩
  · exact .inl upd_same
theorem LkP.tsk (h : LkP ob ob' od kvs) (e : H d = some ob) : TSK K H (upd H d ob') := fun a xs q => by
  by_cases ea : a = d
  · rw [ea, e] at q
    rcases h with ⟨rfl, _⟩ | ⟨rfl, _⟩ <;> cases q
  · rw [upd_ne ea]; exact q
theorem LkP.obj {k : Nk} {o : Ow} {a : Addr} {vs : List V} (h : LkP ob ob' od kvs) (e : H d = some ob) (ho : ObjAt K k o H a vs) (hn : k ≠ .tup → o = .own → a ≠ d) : ObjAt K k o (upd H d ob') a vs := by
  by_cases ea : a = d
  · subst ea
    have no : k ≠ .tup → o ≠ .own := fun hk q => hn hk q rfl
    cases k with
    | lst =>
      have ho : H a = some (.lst vs) := ho
      rw [e] at ho
      rcases h with ⟨rfl, _⟩ | ⟨rfl, _⟩ <;> cases ho
    | tup => exact ho.imp (h.tsk (K := K) e a vs) id
    | ins n j =>
      obtain ⟨_, dx, ho⟩ := ho
      rw [e] at ho
      rcases h with ⟨rfl, _⟩ | ⟨rfl, _⟩ <;> cases ho
    | dcT ks =>
      obtain ⟨bs, _, _, _, _, _, _, ho⟩ := ho
      rw [e] at ho
      rcases h with ⟨rfl, _⟩ | ⟨rfl, _⟩ <;> cases ho
    | sti l =>
      obtain ⟨_, _, ho⟩ := ho
      rw [e] at ho
      rcases h with ⟨rfl, _⟩ | ⟨rfl, _⟩ <;> cases ho
    | xd d2 f x =>
      obtain ⟨_, _, ho⟩ := ho
      rw [e] at ho
      rcases h with ⟨rfl, _⟩ | ⟨rfl, _⟩ <;> cases ho
    | dct ks =>
      have := no (by simp)
      cases o with
      | own => exact absurd rfl this
      | frz => exact ⟨ho.1, h.rd e ho.2⟩
      | lnt => exact ⟨ho.1, h.rd e ho.2⟩
  · exact ho.fr (fun _ ob q => by rw [upd_ne ea]; exact q) (h.tsk e)
theorem Ev.at_ (E : Ev K (c.pin d ob z) Z ws Φ Ψ σ H Γ τ us) : H d = some ob := by
  obtain ⟨o', h1, h2⟩ := E.st d ob (by show (if d = d then some ob else c.H0 d) = some ob; rw [if_pos rfl])
  rw [h1, h2 fun q => q.1 rfl]
end
/-! x in d; for x in d -/
section
variable {K : KC} {X : Cx} {T : KT} {md : List Bool} {W : WX} {c : Cz} {σ : St} {H : Hp} {us : List V} {i : Nat} {bd : Ms → Option Ms} {gb : GS} {gs g : GE} {te : TE} {tg iter : Expr} {body : List Stmt} {pos : Pos} {oo : Os}
theorem valV_zip0 : ∀ {ks : List Key} {vs : List V} {k : Key}, kix k ks = none → valV (ks.zip vs) k = none
  | [], _, _, _ => rfl
  | x :: ks, [], _, _ => rfl
  | x :: ks, y :: vs, k, h => by
    have h0 := kix_none h
    have ne : ¬ x = k := fun e => h0 (by simp [e])
    simp only [kix, if_neg ne, Option.map_eq_none_iff] at h
    rw [List.zip_cons_cons, valV_neg ne, valV_zip0 h]
def FInD (neg : Bool) : Tr → Tr → Option V
  | .a x, .nd (.dct ks) _ _ => match keyOf x with
    | some k => some (.bl (if neg then !(kix k ks).isSome else (kix k ks).isSome))
    | none => none
  | _, _ => none
def rInK (neg : Bool) : R2 := fun x y H Q => ∃ a o, y = .ref a ∧ DGet H a x o ∧ Q (.bl (if neg then !o.isSome else o.isSome)) H
theorem op_inK (hu : X.A.units + 1 < cLine) : OpR X (compareOp .In) (rInK false) := by
  intro pins s σ H x y v u Q I rx ry h
  obtain ⟨a, o, rfl, g, q⟩ := h
  cases ry
  exact d_in hu I g rx fun s' I' => ⟨.bl o.isSome, H, I', rfl, q⟩
theorem op_notInK (hu : X.A.units + 1 < cLine) : OpR X (compareOp .NotIn) (rInK true) := by
  intro pins s σ H x y v u Q I rx ry h
  obtain ⟨a, o, rfl, g, q⟩ := h
  cases ry
  exact d_notIn hu I g rx fun s' I' => ⟨.bl (!o.isSome), H, I', rfl, q⟩
theorem fInD_ok {neg : Bool} : RA2 K md W (rInK neg) (fP2 (FInD neg)) := fP2_ok fun Z H x y tx ty u Φ Ψ Q r1 r2 e q => by
  unfold FInD at e
  split at e
  · rename_i v ks o ts
    split at e
    · rename_i k hk
      cases e
      obtain ⟨rfl, _⟩ := r1
      obtain ⟨ad, vs', Ξ, rfl, ho, hl, _⟩ := r2
      obtain ⟨l, hr⟩ := ObjAt.rd ho
      have e : (valV (ks.zip vs') k).isSome = (kix k ks).isSome := by
        cases hj : kix k ks with
        | none => rw [valV_zip0 hj]; rfl
        | some j =>
          rw [valV_zip hj l]
          have := getq_lt' (kix_at hj)
          rw [List.getElem?_eq_getElem (by omega)]
          rfl
      rw [← e] at q
      exact ⟨ad, _, rfl, .inl ⟨_, k, hr, keyOf_kV hk, rfl⟩, q⟩
    · cases e
  · cases e
def fInA : GE := gOr fIn (fP2 (FInD false))
def fNotInA : GE := gOr fNotIn (fP2 (FInD true))
theorem op_inA (hu : X.A.units + 64 < cLine) : OpR X (compareOp .In) (fun x y H Q => rIn X.K false x y H Q ∨ rInK false x y H Q) := op_in_seq.or (op_inK (by omega))
theorem op_notInA (hu : X.A.units + 64 < cLine) : OpR X (compareOp .NotIn) (fun x y H Q => rIn X.K true x y H Q ∨ rInK true x y H Q) := op_notIn_seq.or (op_notInK (by omega))
theorem fInA_ok : RA2 K md W (fun x y H Q => rIn K.K false x y H Q ∨ rInK false x y H Q) fInA := fIn_ok.or fInD_ok
theorem fNotInA_ok : RA2 K md W (fun x y H Q => rIn K.K true x y H Q ∨ rInK true x y H Q) fNotInA := fIn_ok.or fInD_ok
theorem PS.or {st : Stmt} {t1 t2 : L2.TS} (h1 : PS X st t1) (h2 : PS X st t2) : PS X st (fun D σ H => t1 D σ H ∨ t2 D σ H) := by
  refine ⟨fun pins s σ H D I h => ?_⟩
  rcases h with h | h
  · exact h1.run pins s σ H D I h
  · exact h2.run pins s σ H D I h
end
/-! walks: more general laws; keys that are walked; slices -/
section
variable {bd : Ms → Option Ms} {gs : GS} {lo : Int} {n : Nat} {t : Tr}
end
section
variable {α : Type}
end
section
variable {α : Type} {gs : GS} {bd : Ms → Option Ms} {t : Tr} {s : List Ent}
/-- the walk over a list: an invariant, look and maybe leave -/
theorem loopE_allI {xs : List α} {enc : α → Tr} (e : Ent) (kd : Nk) (o : Ow) (I : List Ent → Prop) (hv : ∀ Γ, I Γ → viewE Γ e = some (.nd kd o (xs.map enc))) (hc : cpE e = true) (hcp : ∀ x ∈ xs, cp (kid o (enc x)) = true) (p : α → Bool)
    (turn : ∀ x ∈ xs, ∀ Γ, I Γ → ∃ Γ1 Γ2, bd ⟨Γ, .tr (kid o (enc x)) :: e :: s⟩ = some ⟨Γ1, e :: s⟩ ∧ I Γ2 ∧ gs ⟨Γ1, e :: s⟩ = some (if p x = true then .nx ⟨Γ2, e :: s⟩ else .rt t ⟨Γ2, e :: s⟩)) {Γ : List Ent} (h0 : I Γ) :
    ∃ Γ', I Γ' ∧ loopE kd bd gs xs.length 0 ⟨Γ, e :: s⟩ = some (if xs.all p = true then .nx ⟨Γ', s⟩ else .rt t ⟨Γ', s⟩) := by
  have key : ∀ ys pre Γ, xs = pre ++ ys → I Γ → ∃ Γ', I Γ' ∧ loopE kd bd gs ys.length pre.length ⟨Γ, e :: s⟩ = some (if ys.all p = true then .nx ⟨Γ', s⟩ else .rt t ⟨Γ', s⟩) := by
    intro ys
    induction ys with
    | nil =>
      intro pre Γ hx h
      refine ⟨Γ, h, ?_⟩
      show loopE kd bd gs 0 pre.length ⟨Γ, e :: s⟩ = _
      unfold loopE
      simp only [hv Γ h]
      rw [if_pos ⟨trivial, by rw [hx]; simp⟩]
      rfl
    | cons y ys ih =>
      intro pre Γ hx h
      have hmem : y ∈ xs := by rw [hx]; simp
      obtain ⟨Γ1, Γ2, e1, h2, e2⟩ := turn y hmem Γ h
      show ∃ Γ', I Γ' ∧ loopE kd bd gs (ys.length + 1) pre.length ⟨Γ, e :: s⟩ = _
      have hk1 : kidX e kd o (xs.map enc) pre.length = some (.tr (kid o (enc y))) := by
        unfold kidX
        rw [hx]
        simp [hcp y hmem]
      unfold loopE
      simp only [hv Γ h]
      rw [if_pos ⟨trivial, hc, by rw [hx]; simp⟩, hk1]
      simp only [e1]
      by_cases hp : p y = true
      · rw [if_pos hp] at e2
        obtain ⟨Γ', h3, e3⟩ := ih (pre ++ [y]) Γ2 (by simp [hx]) h2
        rw [List.length_append, List.length_singleton] at e3
        refine ⟨Γ', h3, ?_⟩
        rw [e2]
        simp only
        rw [e3]
        simp [hp]
      · rw [if_neg hp] at e2
        refine ⟨Γ2, h2, ?_⟩
        rw [e2]
        simp [hp]
  exact key xs [] Γ rfl h0
end
/-! try with several clauses, no names; is not True -/
section
variable {X : Cx} {T : KT} {md : List Bool} {W : WX} {body : List Stmt} {pos : Pos} {gb : GS}
end
section
variable {K : KC} {md : List Bool} {W : WX}
def fNotB : GE := fP2 (FIsB true)
end
/-! tuples of the written part; x in o by an own __contains__ -/
section
variable {K : KC} {X : Cx} {T : KT} {md : List Bool} {W : WX} {t : Tr} {ts : List Tr} {v : V} {vs : List V} {a : Addr} {e : Expr} {pos : Pos}
def ConM (K : KC) (t : Tr) (v : V) : Prop := ∀ (m : Ow) (Z : Zn) (H : Hp), Rep K Z H m t v (fun _ => False)
def ConL (K : KC) (ts : List Tr) (vs : List V) : Prop := ∀ (m : Ow) (Z : Zn) (H : Hp), RepL K Z H m ts vs (fun _ => False)
theorem con_a : ConM K (.a v) v := fun _ _ _ => ⟨rfl, fun _ h => h⟩
theorem con_nil : ConL K [] [] := fun _ _ _ => ⟨rfl, fun _ h => h⟩
theorem con_cons (h : ConM K t v) (r : ConL K ts vs) : ConL K (t :: ts) (v :: vs) := fun m Z H => ⟨v, vs, _, _, rfl, h m Z H, r m Z H, by simp, by simp⟩
theorem eff_frz (m : Ow) : eff m .frz = .frz := by cases m <;> rfl
theorem con_tup (h : SqT K.K (fun _ => none) a vs) (r : ConL K ts vs) : ConM K (.nd .tup .frz ts) (.ref a) := fun m Z H => by
  refine ⟨a, vs, fun _ => False, rfl, .inr h, r _ Z H, ?_⟩
  rw [eff_frz]
  exact fun b h => h
/-- a tuple of the written part -/
theorem sqt_w {K : PySem.W.Frag} {a : Addr} {its : Array Value} {n : Nat} {od : Option Addr} {sl : Array (Option Value)} {vs : List V} (h : K.lookup a = some ⟨.type "tuple", od, .seq its n, sl⟩) (hs : its.size ≤ sizeLine) (r : Vals vs its.toList) : SqT K (fun _ => none) a vs := .inr ⟨_, its, n, h, rfl, rfl, hs, r⟩
def gCon (t : Tr) : GE := fun m => some (.ok ⟨m.g, .tr t :: m.s⟩)
theorem EnvOk.con {c : Cz} {σ : St} {H : Hp} {Γ τ : List Ent} {us : List V} (E : EnvOk K c σ H Γ τ us) (h : ConM K t v) : EnvOk K c σ H Γ (.tr t :: τ) (v :: us) := by
  obtain ⟨Z, ws, Φ, Ψ, EE⟩ := E
  refine EE.swapE (τ1 := []) (us1 := []) (τ1' := [.tr t]) (us1' := [v]) rfl (by simp) (fun Ψ1 r zo => ?_) rfl
  have n0 : ∀ b, ¬ Ψ1 b := r.2
  exact ⟨Z, fun _ => False, ⟨v, [], _, _, rfl, h .own Z H, ⟨rfl, fun _ h => h⟩, by simp, by simp⟩, ⟨fun _ h => h, fun _ h => h, fun _ h => .inl h, fun _ h => .inl h, fun b q => EE.zs b q, fun b ob e _ => e, fun b q => absurd q (n0 b), fun b q => q.elim⟩⟩
theorem me_con (h : PE X e (tC v)) (r : ConM (kcm X.K T) t v) : ME X T md W e (gCon t) := by
  refine ⟨_, h, fun c σ H m us Q rr hc E hg hp => ?_⟩
  cases hg
  exact hp v H (E.con r)
/-- C.f, a tuple of the written part -/
theorem me_cvalT {u : Value} {mc : Value} {C : Addr} {me : Str} (he : PE X e (tC (.ref C))) (r : ClX.CRead X.K C mc) (k : ClX.CVal X.K C mc me v u) (rt : ConM (kcm X.K T) t v) (hb : attributeBase e me X.env (eval e X.env) = eval e X.env := by rfl) : ME X T md W (.Attribute e me pos) (gCon t) := by
  refine ⟨_, ClX.pe_cval he hb, fun c σ H m us Q rr hc E hg hp => ?_⟩
  cases hg
  exact ⟨C, mc, v, u, rfl, r, k, hp v H (E.con rt)⟩
/-- o.f, a constant of o's class -/
inductive ConTab (K : PySem.W.Frag) (T : KT) (f : Str) : List (Nat × Tr) → Prop
  | nil : ConTab K T f []
  | cons {n : Nat} {t : Tr} {v : V} {u : Value} {l : List (Nat × Tr)} (c : Cls K (T.ct n)) (k : Con K (T.ct n) f v u) (h : ConM (kcm K T) t v) (no : (T.nm n).idxOf? f = none) (r : ConTab K T f l) : ConTab K T f ((n, t) :: l)
def fCon (tab : List (Nat × Tr)) : GE := fun m => match m.s with
  | e :: s => match viewE m.g e with
    | some (.nd (.ins n _) _ _) => match tab.lookup n with
      | some t => some (.ok ⟨m.g, .tr t :: s⟩)
      | none => none
    | _ => none
  | _ => none
theorem ConTab.get {K : PySem.W.Frag} {f : Str} {tab : List (Nat × Tr)} (h : ConTab K T f tab) {n : Nat} {t : Tr} (e : tab.lookup n = some t) : ∃ v u, Cls K (T.ct n) ∧ Con K (T.ct n) f v u ∧ ConM (kcm K T) t v ∧ (T.nm n).idxOf? f = none := by
  induction h with
  | nil => simp at e
  | @cons n' t' v u l c k h no r ih =>
    by_cases q : n = n'
    · subst q
      simp at e
      subst e
      exact ⟨v, u, c, k, h, no⟩
    · rw [List.lookup_cons, beq_false_of_ne q] at e
      exact ih e
theorem me_iCon {f : Str} {tab : List (Nat × Tr)} {go : GE} (ho : ME X T md W e go) (ht : ConTab X.K T f tab) (hb : attributeBase e f X.env (eval e X.env) = eval e X.env := by rfl) : ME X T md W (.Attribute e f pos) (gSeq go (fCon tab)) := by
  obtain ⟨te, pe, se⟩ := ho
  refine ⟨_, pe_con pe hb, fun c σ H m us Q rr hc E hg hp => ?_⟩
  simp only [gSeq] at hg
  split at hg
  · rename_i m1 h1
    refine se c σ H m us _ _ hc E h1 fun x H1 E1 => ?_
    unfold fCon at hg
    split at hg
    · rename_i en s hs
      split at hg
      · rename_i n k o ts hv
        split at hg
        · rename_i t hl
          cases hg
          rw [hs] at E1
          obtain ⟨a, vs, rfl, ⟨l, dx, hob⟩, _⟩ := viewObj E1 hv
          obtain ⟨v, u, c1, k1, cm, no⟩ := ht.get hl
          exact ⟨a, _, dx, _, v, u, rfl, hob, c1, k1, lookup_none (take_none no), hp v H1 (E1.drop.con cm)⟩
        · cases hg
      · cases hg
    · cases hg
  · rename_i h1
    refine se c σ H m us _ _ hc E hg ?_
    cases rr with
    | ex C g' => exact hp
    | ok m2 => exact absurd hg (h1 m2)
end
/-! own __contains__ -/
section
variable {X : Cx} {pins : List (Addr × Obj)} {σ : St} {H : Hp} {s : Shared} {a C dx f : Addr} {fs : List (Str × V)}
theorem inst_of (I : Inv X pins σ H s) (e : H a = some (.ins C dx fs)) : ∃ od, PySem.W.InstAt s.heap a (PySem.W.instObj C dx) C (some od) := by
  obtain ⟨mA, O, r, _, _, _⟩ := ins_get I.hok e
  obtain ⟨od, ho, _⟩ := lookIn_ns O.ns
  exact ⟨od, O.obj, rfl, rfl, ho⟩
theorem contains_own {u : Value} {Q : Bool → Shared → Prop} {E : Value → Shared → Prop} (I : Inv X pins σ H s) (e : H a = some (.ins C dx fs)) (m : Meth X.K C "__contains__" f)
    (h : wpAny (model X.prog X.w) X.A (call (.ref f) [.ref a, u]) (fun v s' => ∃ b, v = .bool b ∧ Q b s') E s) : wpAny (model X.prog X.w) X.A (contains (.ref a) u) Q E s := by
  obtain ⟨od, IA⟩ := inst_of I e
  have LS := IA.type (M := model X.prog X.w)
  have LF := PySem.W.looks_findIn (M := model X.prog X.w) I.kIn m.at_
  have hf : PySem.W.typeIn X.K (.ref f) = some (.type "function") := beq_iff_eq.mp m.fn
  unfold contains
  refine wpAny_holding ?_
  dsimp only [stdlibNamesSay?]
  refine wpAny_bind (wpAny_bind (LS.here (LF.here ?_)))
  rw [if_neg (by simp)]
  unfold callSpecialUnlessNone?
  refine wpAny_bind (wpAny_bind (wpAny_bind (LS.here (LF.here ?_))))
  refine wpAny_holding (wpAny_bind ((PySem.W.bind_fn I.kIn _ hf).here ?_))
  dsimp only
  rw [if_neg (by simp)]
  refine wpAny_bind (wpAny_mono h (fun v s' hv => ?_) fun _ _ z => z)
  obtain ⟨b, rfl, q⟩ := hv
  exact wpAny_pure (wpAny_truthy_bool q)
end
section
variable {K : KC} {X : Cx} {T : KT} {md mdc : List Bool} {W : WX} {a C dx f : Addr} {fd : FuncData} {ps : List Str} {kk n : Nat} {sp : Sp} {G : GF}
def rInO (C : Addr) (sp : Sp) (neg : Bool) : R2 := fun x y H Q => ∃ a dx fs, y = .ref a ∧ H a = some (.ins C dx fs) ∧ sp [y, x] H (fun v H' => ∃ b, v = .bl b ∧ Q (.bl (if neg then !b else b)) H') (fun _ _ _ => False)
theorem op_inO (m : Meth X.K C "__contains__" f) (F : FnOk X.prog X.w X.K X.mg X.base (L2N.CX X.prog X.w) kk f fd ps sp) (hr : Room kk X.A) (hb : Binds X.K fd ps []) : OpR X (compareOp .In) (rInO C sp false) := by
  intro pins s σ H x y v u Q I rx ry h
  obtain ⟨a, dx, fs, rfl, e, h⟩ := h
  obtain rfl : u = .ref a := ry
  show wpAny _ _ (contains (.ref a) v >>= fun b => pure (Value.bool b)) _ _ _
  refine wpAny_bind (contains_own I e m (wpAny_mono (run_fnS F hr hb (passAt (W := WF) takes0 σ) I (.cons (show RelV (.ref a) (.ref a) from rfl) (.cons rx .nil)) h) (fun w s' hw => ?_) fun _ _ z => z))
  obtain ⟨v', H', I', rv, b, rfl, q⟩ := hw
  obtain rfl : w = .bool b := rv
  exact ⟨b, rfl, wpAny_pure ⟨.bl b, _, I', rfl, q⟩⟩
theorem op_notInO (m : Meth X.K C "__contains__" f) (F : FnOk X.prog X.w X.K X.mg X.base (L2N.CX X.prog X.w) kk f fd ps sp) (hr : Room kk X.A) (hb : Binds X.K fd ps []) : OpR X (compareOp .NotIn) (rInO C sp true) := by
  intro pins s σ H x y v u Q I rx ry h
  obtain ⟨a, dx, fs, rfl, e, h⟩ := h
  obtain rfl : u = .ref a := ry
  show wpAny _ _ (contains (.ref a) v >>= fun b => pure (Value.bool (!b))) _ _ _
  refine wpAny_bind (contains_own I e m (wpAny_mono (run_fnS F hr hb (passAt (W := WF) takes0 σ) I (.cons (show RelV (.ref a) (.ref a) from rfl) (.cons rx .nil)) h) (fun w s' hw => ?_) fun _ _ z => z))
  obtain ⟨v', H', I', rv, b, rfl, q⟩ := hw
  obtain rfl : w = .bool b := rv
  exact ⟨b, rfl, wpAny_pure ⟨.bl (!b), _, I', rfl, q⟩⟩
/-- x in o: o of the class n, its __contains__ by its function on trees -/
def fInO (n : Nat) (mdc : List Bool) (G : GF) (neg : Bool) : GE := fun m => match m.s with
  | y :: x :: s => match chkI n ⟨m.g, y :: x :: s⟩ with
    | some _ => match gCall [] mdc G 2 ⟨m.g, x :: y :: s⟩ with
      | some (.ok ⟨g', .tr (.a (.bl b)) :: s'⟩) => some (.ok ⟨g', .tr (.a (.bl (if neg then !b else b))) :: s'⟩)
      | _ => none
    | none => none
  | _ => none
theorem fInO_ok {neg : Bool} : RA2 K md W (rInO (K.ct n) (spOf K mdc G) neg) (fInO n mdc G neg) := by
  refine .mk fun c σ H m us x y Q rr hc E hf hp => ?_
  unfold fInO at hf
  split at hf
  · rename_i ey ex s hs
    rw [hs] at E
    split at hf
    · rename_i r1 h1
      have E0 := E
      unfold chkI at h1
      dsimp only at h1
      split at h1
      · rename_i n' kf o ts hv
        split at h1
        · rename_i hn
          subst hn
          obtain ⟨a, vs, rfl, ⟨l, dx, ho⟩, _⟩ := viewObj E0 hv
          refine ⟨a, dx, _, rfl, ho, ?_⟩
          have E1 : EnvOk K c σ H m.g ([ex] ++ ([ey] ++ s)) ([x] ++ ([.ref a] ++ us)) := EnvOk.permA (A := [ey]) (B := [ex]) (va := [.ref a]) (vb := [x]) rfl rfl E
          split at hf
          · rename_i g' b s' h2
            cases hf
            refine gCall_ok (W := WF) (is := []) (by simp) (by simp) c σ H ⟨m.g, ex :: ey :: s⟩ us [.ref a, x] _ _ hc rfl E1 h2 ?_
            intro v H' E3
            obtain rfl := top_a E3
            exact ⟨b, rfl, hp _ _ (E3.drop.atom _)⟩
          · cases hf
        · cases h1
      · cases h1
    · cases hf
  · cases hf
end
/-! defs called in an except suite: the promises of HotCalls by functions on trees -/
section
variable {K : KC} {X : Cx} {T : KT} {md mdc : List Bool} {W : WX} {is : List Nat} {G : GF} {n : Nat}
variable {x me : Str} {pp pos apos : Pos} {e oe : Expr} {es : List Expr} {ga go : GE} {kk : Nat} {f : Addr} {fd : FuncData} {ps : List Str} {pl : Sem Bool}
end
section
variable {md : List Bool} {T : KT}
variable {P : Program} {Wd : World} {Kf : PySem.W.Frag} {mg : Str → Option Value} {base : Heap}
end
/-! try: body, except X: one statement; raise -/
section
open PySem.Spec PyProof.Rows
variable {X : Cx} {pins : List (Addr × Obj)} {σ : L2.St} {H : Hp} {s : Shared}
variable {x : Str} {c : Value} {body : List Stmt} {st : Stmt} {np pos pos' rpos : Pos} {tb : WX → L2.TS} {ts : Addr → Value → Option Addr → L2.TS} {Wout : WX}
end
/-! try: body, except X: one statement; raise, by the machine; targets that are tuples alone -/
section
variable {K : KC} {X : Cx} {T : KT} {md : List Bool} {W : WX} {c : Value} {x : Str} {body : List Stmt} {st : Stmt} {np pos pos' rpos : Pos} {gb gs : GS} {tab : List (Nat × Bool)} {k : Nat} {is : List Nat} {tg : Expr}
def sTryRe (tab : List (Nat × Bool)) (gb gs : GS) : GS := fun m => match m.s with
  | _ :: _ => none
  | [] => match gb m with
    | some (.ex C g') => match tab.lookup C with
      | some true => match gs ⟨g', []⟩ with
        | some (.nx m2) => some (.ex C m2.g)
        | _ => none
      | some false => some (.ex C g')
      | none => none
    | r => r
/-- a, b = a tuple -/
def unpkT (md : List Bool) (is : List Nat) : Ms → Option Ms := fun m => match m.s with
  | .tr (.nd .tup o ts) :: s => if ts.length = is.length then bindAll md is ⟨m.g, (ts.map (kid o)).map Ent.tr ++ s⟩ else none
  | _ => none
end
/-! defs with a star parameter, called without stars -/
section
open PySem.Spec PyProof.Rows
variable {X : Cx} {CX : CXT} {kk : Nat} {f : Addr} {sp : Sp} {E : XK} {x : Str} {pp pos : Pos} {e : Expr} {es : List Expr} {t : TA}
end
section
variable {K : KC} {X : Cx} {T : KT} {md mdc : List Bool} {W : WX} {is : List Nat} {G : GF} {n k : Nat}
variable {x : Str} {pp pos : Pos} {e : Expr} {es : List Expr} {ga : GE} {kk : Nat} {f : Addr}
end
section
variable {md : List Bool} {T : KT}
variable {P : Program} {Wd : World} {Kf : PySem.W.Frag} {mg : Str → Option Value} {base : Heap}
end
/-! xs[a:] = ys -/
section
open PySem.Spec PyProof.Rows PySem.F
section
variable {prog : Program} {w : World} {A : Around} {E : Value → Shared → Prop} {s : Shared}
end
section
variable {X : Cx}
end
end
section
variable {K : KC} {X : Cx} {T : KT} {md : List Bool} {W : WX} {c : Cz} {σ : St} {H : Hp} {Γ τ : List Ent} {us vs : List V} {v w : V} {p : List Nat} {gv go gi : GE} {e o ie : Expr}
theorem RepL.take {Z : Zn} {m : Ow} {ts : List Tr} {vs : List V} {Φ : Ps} (n : Nat) (h : RepL K Z H m ts vs Φ) : ∃ Φ', RepL K Z H m (ts.take n) (vs.take n) Φ' ∧ ∀ b, Φ' b → Φ b := by
  have l := RepL.len _ h
  rw [← List.take_append_drop n ts] at h
  obtain ⟨v1, v2, Φ1, Φ2, e, h1, h2, d, u⟩ := RepL.split _ h
  have l1 := RepL.len _ h1
  have l2 := RepL.len _ h2
  have e1 : vs.take n = v1 := by
    rw [e, List.take_append]
    simp at l1 l2 l
    by_cases q : n ≤ ts.length
    · rw [show v1.length = n by omega, Nat.sub_self, List.take_zero, List.append_nil, List.take_of_length_le (by omega)]
    · have : v2 = [] := List.length_eq_zero_iff.mp (by omega)
      rw [this, List.take_nil, List.append_nil, List.take_of_length_le (by omega)]
  rw [e1]
  exact ⟨Φ1, h1, fun b q => (u b).mpr (.inl q)⟩
end
/-! a, b = a tuple, where an error is handled -/
section
open PySem.Spec PyProof.Rows
section
variable {prog : Program} {w : World} {A : Around} {E : Value → Shared → Prop} {s : Shared}
end
variable {X : Cx} {pos : Pos}
end
/-! walks by a supplier of items: enumerate, reversed; range with a step -/
section
variable {K : KC} {X : Cx} {T : KT} {md : List Bool} {W : WX} {c : Cz} {σ : St} {H H' : Hp} {Γ τ : List Ent} {us vs : List V} {v w : V} {n i : Nat} {gb : GS} {gs ga : GE} {tg iter e : Expr} {body : List Stmt} {pos pos' rp : Pos} {bd : Ms → Option Ms} {nx : Nat → Ms → Option Ms} {fin : Nat → Ms → Option Ms}
/-- nx i: the i-th item is put upon the thing walked; fin i: the thing walked goes, behind i items -/
def loopN (nx fin : Nat → Ms → Option Ms) (bd : Ms → Option Ms) (body : GS) : Nat → Nat → Ms → Option Os
  | 0, i, m => match fin i m with
    | some m' => some (.nx m')
    | none => none
  | r + 1, i, m => match nx i m with
    | some m0 => match bd m0 with
      | some m1 => match body m1 with
        | some (.nx m2) => loopN nx fin bd body r (i + 1) m2
        | some (.ct m2) => loopN nx fin bd body r (i + 1) m2
        | some (.bk m2) => some (.nx ⟨m2.g, m2.s.tail⟩)
        | some (.rt t m2) => some (.rt t ⟨m2.g, m2.s.tail⟩)
        | some (.ex C g) => some (.ex C g)
        | none => none
      | none => none
    | none => none
theorem loopN_ok {J : It} {tb : L2.TS} {gT : TG} {D : Ends} {w : V} {oo : Os} (hm : c.md = md) (hT : SG K md gT bd) (hB : SS K md W tb gb)
    (stop : ∀ i H σ (m m' : Ms), EnvOk K c σ H m.g m.s (w :: us) → fin i m = some m' → J.stop i H ∧ EnvOk K c σ H m'.g m'.s us)
    (step : ∀ i H σ (m m0 : Ms), EnvOk K c σ H m.g m.s (w :: us) → nx i m = some m0 → J.go i H ∧ ∀ x H', J.yld i H x H' → EnvOk K c σ H' m0.g m0.s (x :: w :: us))
    (hp : PostS K c W us D oo) : ∀ {σ : St} {H : Hp} {m : Ms} {n : Nat}, EnvOk K c σ H m.g m.s (w :: us) → loopN nx fin bd gb n 0 m = some oo →
    ∃ Wv : Nat → Nat → St → Hp → Prop, (∃ mm, Wv 0 mm σ H) ∧ ∀ i mm σ H, Wv i mm σ H →
      (J.stop i H ∧ D.nx σ H) ∨ (J.go i H ∧ ∃ N : St → Hp → Prop, (∀ σ' H', N σ' H' → ∃ m', m' < mm ∧ Wv (i + 1) m' σ' H') ∧ ∀ x H', J.yld i H x H' → gT x σ H' fun σ2 H2 => tb { D with nx := N, ct := N, bk := D.nx } σ2 H2) := by
  intro σ H m n E hg
  refine ⟨fun i r σ H => ∃ m : Ms, EnvOk K c σ H m.g m.s (w :: us) ∧ loopN nx fin bd gb r i m = some oo, ⟨n, m, E, hg⟩, ?_⟩
  rintro i r σ H ⟨m, E, hg⟩
  cases r with
  | zero =>
    simp only [loopN] at hg
    split at hg
    · rename_i m' h1
      cases hg
      obtain ⟨q1, q2⟩ := stop i H σ m m' E h1
      exact .inl ⟨q1, hp σ H q2⟩
    · cases hg
  | succ r =>
    simp only [loopN] at hg
    split at hg
    · rename_i m0 h0
      split at hg
      · rename_i m1 h1
        obtain ⟨go, yld⟩ := step i H σ m m0 E h0
        refine .inr ⟨go, fun σ' H' => ∃ m : Ms, EnvOk K c σ' H' m.g m.s (w :: us) ∧ loopN nx fin bd gb r (i + 1) m = some oo, fun σ' H' z => ⟨r, by omega, z⟩, fun x H' y => ?_⟩
        refine hT c σ H' m0 m1 _ x _ hm (yld x H' y) h1 fun σ2 H2 E2 => ?_
        cases h2 : gb m1 with
        | none => simp [h2] at hg
        | some o2 =>
          refine hB c σ2 H2 m1 _ _ o2 hm E2 h2 ?_
          cases o2 with
          | nx m2 =>
            simp only [h2] at hg
            exact fun σ3 H3 E3 => ⟨m2, E3, hg⟩
          | ct m2 =>
            simp only [h2] at hg
            exact fun σ3 H3 E3 => ⟨m2, E3, hg⟩
          | bk m2 =>
            simp only [h2] at hg
            cases hg
            exact fun σ3 H3 E3 => hp σ3 H3 E3.tail
          | rt t m2 =>
            simp only [h2] at hg
            cases hg
            exact fun σ3 x3 H3 E3 => hp σ3 x3 H3 E3.tail2
          | ex C g' =>
            simp only [h2] at hg
            cases hg
            exact hp
      · cases hg
    · cases hg
def finN (k : Nk) (off : Nat → Nat → Bool) (i : Nat) (m : Ms) : Option Ms := match m.s with
  | e :: s => match viewE m.g e with
    | some (.nd k' _ ts) => if k' = k ∧ off ts.length i = true then some ⟨m.g, s⟩ else none
    | _ => none
  | _ => none
theorem finN_ok {k : Nk} {off : Nat → Nat → Bool} {m m' : Ms} (E : EnvOk K c σ H m.g m.s (w :: us)) (h : finN k off i m = some m') : (∃ a vs o, w = .ref a ∧ ObjAt K k o H a vs ∧ off vs.length i = true) ∧ EnvOk K c σ H m'.g m'.s us := by
  unfold finN at h
  split at h
  · rename_i e s hs
    split at h
    · rename_i k' o ts hv
      split at h
      · rename_i hk
        cases h
        obtain ⟨rfl, hk⟩ := hk
        rw [hs] at E
        obtain ⟨a, vs, rfl, ho, hl⟩ := viewObj E hv
        exact ⟨⟨a, vs, o, rfl, ho, by rw [← hl]; exact hk⟩, E.drop⟩
      · cases h
    · cases h
  · cases h
/-- the item with its number -/
def nxEn (i : Nat) (m : Ms) : Option Ms := match m.s with
  | e :: s => match viewE m.g e with
    | some (.nd .lst o ts) => if cpE e = true ∧ i < ts.length then match kidX e .lst o ts i with
        | some (.tr t) => if cp t = true then some ⟨m.g, .tr (.nd .tup .own [.a (.int i), t]) :: e :: s⟩ else none
        | _ => none
      else none
    | _ => none
  | _ => none
theorem nxEn_ok {m m0 : Ms} (E : EnvOk K c σ H m.g m.s (w :: us)) (h : nxEn i m = some m0) : ∃ a, w = .ref a ∧ (∃ xs x, SqL K.K H a xs ∧ xs[i]? = some x) ∧ ∀ v H', (∃ Tt x, v = .ref Tt ∧ H Tt = none ∧ H' = upd H Tt (.tup [.int (i : Nat), x]) ∧ ∀ xs, SqL K.K H a xs → xs[i]? = some x) → EnvOk K c σ H' m0.g m0.s (v :: w :: us) := by
  unfold nxEn at h
  split at h
  · rename_i e s hs
    split at h
    · rename_i o ts hv
      split at h
      · rename_i hi
        split at h
        · rename_i t hk
          split at h
          · rename_i hcp
            cases h
            rw [hs] at E
            obtain ⟨a, vs', w', rfl, ho, hl2, hw, E3⟩ := EnvOk.kidX E (cpE_tr hi.1) hv hk
            refine ⟨a, rfl, ⟨vs', w', objL ho, hw⟩, ?_⟩
            rintro v H' ⟨Tt, x, rfl, hT, rfl, hx⟩
            have := hx vs' (objL ho)
            rw [hw] at this
            cases this
            have E4 : EnvOk K c σ H m.g ([.tr t] ++ ([.tr (.a (.int i))] ++ (e :: s))) ([w'] ++ ([.int i] ++ (.ref a :: us))) := EnvOk.permA (A := [.tr (.a (.int i))]) (B := [.tr t]) (va := [.int i]) (vb := [w']) rfl rfl (E3.atom (.int i))
            exact EnvOk.new (k := .tup) (ts := [.a (.int i), t]) (vs := [.int i, w']) (ob := .tup [.int i, w']) E4 rfl hT rfl fun o => .inl upd_same
          · cases h
        · cases h
      · cases h
    · cases h
  · cases h
end
/-! a def that keeps the addresses below its first parameter, called -/
section
variable {K : KC} {X : Cx} {T : KT} {md mdc : List Bool} {W : WX} {G : GG} {x : Str} {pp pos : Pos} {e : Expr} {es : List Expr} {ga : GE} {kk : Nat} {f : Addr} {fd : FuncData} {ps : List Str}
end
/-! sum of a list where an error is handled; defs that keep addresses, called there -/
section
open PySem.Spec PyProof.Rows
section
variable {prog : Program} {w : World} {A : Around} {E : Value → Shared → Prop} {s : Shared}
end
variable {X : Cx}
end
section
variable {K : KC} {X : Cx} {T : KT} {md mdc : List Bool} {W : WX} {G : GG} {n : Nat}
variable {me : Str} {pos apos : Pos} {e oe : Expr} {es : List Expr} {ga go : GE} {kk : Nat} {f : Addr} {fd : FuncData} {ps : List Str} {pl : Sem Bool}
end
section
variable {K : KC} {md : List Bool} {T : KT}
variable {P : Program} {Wd : World} {Kf : PySem.W.Frag} {mg : Str → Option Value} {base : Heap}
end
/-! a comprehension over an own list of rows: its item is a place -/
section
variable {md : List Bool} {k n : Nat} {m m1 : Ms} {Γ s : List Ent} {gs gt ge : GE} {α : Type}
end
/-! a def that calls itself: no promise at depth 0 -/
section
variable {P : Program} {Wd : World} {Kf : PySem.W.Frag} {mg : Str → Option Value} {base : Heap} {T : KT} {md : List Bool}
end
/-! a caught error handed to a def -/
section
variable {K : KC} {X : Cx} {T : KT} {md mdc : List Bool} {W : WX} {is : List Nat}
end
/-! defs that are handed an error: from the body, and the call -/
section
open PySem.Spec PyProof.Rows HotX
variable {CX : CXT} {P : Program} {w : World} {Kf : PySem.W.Frag} {mg : Str → Option Value} {base : Heap} {k : Nat} {f : Addr} {T : KT} {md mdc : List Bool}
end
/-! the call of a def that is handed the error -/
section
open PySem.Spec PyProof.Rows HotX
variable {X : Cx} {T : KT} {md mdc : List Bool} {W : WX} {is : List Nat} {p : Addr × Obj} {kk : Nat} {f D : Addr} {fd : FuncData} {ps : List Str} {G : Addr → GF} {x : Str} {pp pos : Pos} {e : Expr} {es : List Expr} {ga : GE}
end
/-! list(d): the keys of a dict -/
section
variable {K : KC} {X : Cx} {T : KT} {md : List Bool} {W : WX}
end
/-! x is True, x is False, of anything -/
section
open PySem.Spec PyProof.Rows
variable {K : KC} {X : Cx} {T : KT} {md : List Bool} {W : WX}
theorem same_bl {M : Model} {A : Around} {E : Value → Shared → Prop} {s : Shared} {x : V} {u : Value} {b : Bool} {R : Bool → Shared → Prop} (r : RelV x u) (q : R (decide (x = .bl b)) s) : wpAny M A (isSame u (.bool b)) R E s := by
  have far : ∀ {u : Value}, plainIs u (.bool b) = true → (u == Value.bool b) = false → x ≠ .bl b → wpAny M A (isSame u (.bool b)) R E s := fun h1 h2 h3 => wpAny_isSame_plain h1 (by rw [h2]; rwa [decide_eq_false h3] at q)
  cases x with
  | bl c =>
    cases r
    by_cases e : c = b
    · subst e
      rw [decide_eq_true rfl] at q
      exact wpAny_isSame_plain rfl (by rw [show (Value.bool c == Value.bool c) = true from by cases c <;> rfl]; exact q)
    · have h3 : (V.bl c) ≠ .bl b := fun z => e (by cases z; rfl)
      exact far rfl (by cases c <;> cases b <;> first | rfl | exact absurd rfl e) h3
  | ref a => cases r; exact far rfl rfl (fun z => by cases z)
  | non => cases r; exact far rfl rfl (fun z => by cases z)
  | int i => obtain ⟨t, rfl⟩ := r; exact far rfl rfl (fun z => by cases z)
  | str i => obtain ⟨t, rfl⟩ := r; exact far rfl rfl (fun z => by cases z)
  | byt i => obtain ⟨t, rfl⟩ := r; exact far rfl rfl (fun z => by cases z)
  | flt i => obtain ⟨t, rfl⟩ := r; exact far rfl rfl (fun z => by cases z)
  | ty i => cases r; exact far rfl rfl (fun z => by cases z)
theorem op_isBV : OpR X (compareOp .Is) (fun x y H Q => ∃ b, y = .bl b ∧ Q (.bl (decide (x = .bl b))) H) := by
  rintro pins s σ H x y v u Q I rx ry ⟨b, rfl, q⟩
  cases ry
  show wpAny _ _ ((isSame v (Value.bool b)) >>= fun z => pure (Value.bool z)) _ _ s
  exact wpAny_bind (same_bl rx (wpAny_pure ⟨.bl (decide (x = .bl b)), H, I, rfl, q⟩))
theorem op_notBV : OpR X (compareOp .IsNot) (fun x y H Q => ∃ b, y = .bl b ∧ Q (.bl (!decide (x = .bl b))) H) := by
  rintro pins s σ H x y v u Q I rx ry ⟨b, rfl, q⟩
  cases ry
  show wpAny _ _ ((isSame v (Value.bool b)) >>= fun z => pure (Value.bool (!z))) _ _ s
  exact wpAny_bind (same_bl rx (wpAny_pure ⟨.bl (!decide (x = .bl b)), H, I, rfl, q⟩))
def FIsBV (neg : Bool) : Tr → Tr → Option V
  | .a u, .a (.bl b) => some (.bl (if neg then !decide (u = .bl b) else decide (u = .bl b)))
  | .nd _ _ _, .a (.bl b) => some (.bl neg)
  | _, _ => none
def fIsBV : GE := fP2 (FIsBV false)
def fNotBV : GE := fP2 (FIsBV true)
theorem FIsBV_ok {neg : Bool} {Z : Zn} {H : Hp} {tx ty : Tr} {x y u : V} {Φ Ψ : Ps} (r1 : Rep K Z H .own tx x Φ) (r2 : Rep K Z H .own ty y Ψ) (e : FIsBV neg tx ty = some u) : ∃ b, y = .bl b ∧ u = .bl (if neg then !decide (x = .bl b) else decide (x = .bl b)) := by
  unfold FIsBV at e
  split at e
  · cases e
    obtain ⟨rfl, _⟩ := r1
    exact ⟨_, r2.1, rfl⟩
  · cases e
    obtain ⟨ad, vs, Ξ, rfl, _⟩ := r1
    refine ⟨_, r2.1, ?_⟩
    cases neg <;> rfl
  · cases e
theorem fIsBV_ok : RA2 K md W (fun x y H Q => ∃ b, y = .bl b ∧ Q (.bl (decide (x = .bl b))) H) fIsBV := fP2_ok fun Z H x y tx ty u Φ Ψ Q r1 r2 e q => by
  obtain ⟨b, h1, rfl⟩ := FIsBV_ok r1 r2 e
  exact ⟨b, h1, q⟩
theorem fNotBV_ok : RA2 K md W (fun x y H Q => ∃ b, y = .bl b ∧ Q (.bl (!decide (x = .bl b))) H) fNotBV := fP2_ok fun Z H x y tx ty u Φ Ψ Q r1 r2 e q => by
  obtain ⟨b, h1, rfl⟩ := FIsBV_ok r1 r2 e
  exact ⟨b, h1, q⟩
end
/-! a walk over a list where an error is handled -/
section
open PySem.Spec PyProof.Rows HotX
section
variable {prog : Program} {w : World} {A : Around} {E : Value → Shared → Prop} {s : Shared}
end
end
section
variable {X : Cx} {T : KT} {md : List Bool} {W : WX} {gs : GE} {bd : Ms → Option Ms} {gb : GS} {iter tg : Expr} {body : List Stmt} {pos : Pos}
end
section
open PySem.Spec
variable {X : Cx} {T : KT} {md : List Bool} {W : WX} {ga : GE} {bd : Ms → Option Ms} {gb : GS} {tg : Expr} {body : List Stmt} {pos pos' rp : Pos}
end
/-! enumerate of a tuple -/
section
open PySem.Spec PyProof.Rows
open PySem.Sem (wp)
set_option maxHeartbeats 4000000 in
theorem meets_enumOne {v : Value} {o : Obj} {H : Heap → Prop} (B : Begins v o H) : Meets (Builtin.«enumerate.__new__» ⟨[.type "enumerate", v], []⟩) (fun _ R s => H s.heap ∧
      R (.ok (.ret (.ref (s.heap.push o).objs.size))) { s with heap := (s.heap.push o).push { cls := .type "enumerate", data := .fields #[.none, .bool false, .ref s.heap.objs.size, rawInt 0, .none, .none] } }) :=
  .of_wp fun prog w A R s h => by
    rcases s with ⟨hp, g, d, tk, os⟩
    rcases h with ⟨h1, h⟩
    have hsub := sub_enumerate
    have begin_ : ∀ {A' : Around} {E : Value → Shared → Prop} {Q : Value → Shared → Prop}, Q (.ref hp.objs.size) ⟨hp.push o, g, d, tk, os⟩ → wpAny (model prog w) A' (pyIter v) Q E ⟨hp, g, d, tk, os⟩ := fun q => B.iter prog w _ _ ⟨hp, g, d, tk, os⟩ _ h1 q
    wp_walk using begin_
    refine wpAny_stack_any fun st => wpAny_pure ?_
    split
    · rename_i c _ _ _ _ _
      cases (c == Value.type "enumerate") <;> (wp_walk using begin_; exact ⟨_, rfl, h⟩)
    · wp_walk using begin_
      exact ⟨_, rfl, h⟩
section
variable {prog : Program} {w : World} {A : Around} {E : Value → Shared → Prop} {s : Shared}
theorem enum_one {v : Value} {o : Obj} {H : Heap → Prop} {Q : Value → Shared → Prop} (B : Begins v o H) (h1 : H s.heap)
    (k : ∀ h', IsEnum h' (s.heap.objs.size + 1) s.heap.objs.size 0 .none → h'.get? s.heap.objs.size = some o → (∀ b u, s.heap.get? b = some u → h'.get? b = some u) → Q (.ref (s.heap.objs.size + 1)) { s with heap := h' }) : wpAny (model prog w) A (call (.type "enumerate") [v]) Q E s := by
  apply callType_new F.called_enumerate (by decide) (F.typeCall_enumerate_1 _) (F.newCall_enumerate_1 _) (fun obj => F.args_object_init_2 obj _) F.entry_enumerate_new (meets_enumOne B)
  refine ⟨h1, ?_⟩
  have one : (s.heap.push o).objs.size = s.heap.objs.size + 1 := Heap.size_push ..
  show _ ∧ _
  rw [one]
  have two := Heap.get?_push_size (s.heap.push o) (o := { cls := .type "enumerate", data := .fields #[.none, .bool false, .ref s.heap.objs.size, rawInt 0, .none, .none] }) rfl
  rw [one] at two
  exact ⟨⟨_, two, rfl⟩, k _ two (Heap.get?_push_of_some _ (Heap.get?_push_size _ B.free)) fun b u x => Heap.get?_push_of_some _ (Heap.get?_push_of_some _ x)⟩
end
def IteT (K : PySem.W.Frag) (a : Addr) : It :=
  ⟨fun i H => ∃ (xs : List V) (x : V), SqT K H a xs ∧ xs[i]? = some x, fun i H v H' => ∃ T x, v = .ref T ∧ H T = none ∧ H' = upd H T (.tup [.int (i : Nat), x]) ∧ ∀ xs, SqT K H a xs → xs[i]? = some x, fun i H => ∃ xs : List V, SqT K H a xs ∧ xs.length = i⟩
theorem turn_enumT {P : Program} {w : World} {K : PySem.W.Frag} {elts : List Expr} {kk : Nat} {tpos : Pos} (a e it : Addr) :
    Turn P w K (.Tuple elts kk tpos) (IteT K a) [e, it] e (fun i h => (∃ old, IsEnum h e it ((i : Nat) : Int) old) ∧ h.IsTupleIter it a i ∧ e ≠ it ∧ a ≠ it ∧ e ≠ a) := by
  constructor
  case mem => simp
  case obj =>
    rintro i h ⟨⟨old, he⟩, ⟨o, ho, hc, hd⟩, _⟩ b hb
    rcases (show b = e ∨ b = it by simpa using hb) with rfl | rfl
    · exact ⟨_, he, fun v q => by cases q⟩
    · exact ⟨o, ho, fun v q => by rw [hd] at q; cases q⟩
  case keep =>
    rintro i h h' ⟨⟨old, he⟩, hi, hne⟩ k
    exact ⟨⟨old, k e (by simp) _ he⟩, hi.at fun o q => k it (by simp) o q, hne⟩
  case item =>
    rintro X rfl rfl rfl hc i pins s σ H E I hf ⟨⟨old, he⟩, hit, hne, hat, hea⟩ ⟨xs, x, hq, hx⟩
    obtain ⟨its, rv, p, hz⟩ := I.tuple hq
    obtain ⟨u, hu, ru⟩ := rv.get hx
    have lt_e : e < s.heap.objs.size := Heap.lt_size he
    have lt_it : it < s.heap.objs.size := by obtain ⟨_, q, _⟩ := hit; exact Heap.lt_size q
    have D := Draws.tuple (prog := X.prog) (w := X.w) (A := X.A.in1) (I.ok.hd hc) it a hat its.toArray
    have small : i < its.toArray.size := by
      have := rv.length
      have := getq_lt' hx
      simp
      omega
    refine wpAny_pyNext_enum_itemC D he ⟨hit, p⟩ small hne (by simp [hne, hea]) fun y h' tk hy out st' hT hsz hk => ?_
    have hy : u = y := by
      have hu' : its.toArray[i]? = some u := by simpa using hu
      rw [hu'] at hy
      cases hy
      rfl
    subst hy
    refine ⟨_, rfl, wpAny_letOwnedTupleGo_enum (s := { s with heap := h', toks := tk + 1 }) out fun h'' he' sb => ?_⟩
    have hT2 : h''.get? s.heap.objs.size = some { cls := .type "tuple", data := .seq #[.int i tk, u] } := (sb.2 _ (Nat.ne_of_gt lt_e)).trans hT
    have new : ObjOk X.prog X.w (upd H s.heap.objs.size (.tup [.int (i : Nat), x])) h'' s.heap.objs.size (.tup [.int (i : Nat), x]) := by
      refine ⟨by show 2 ≤ sizeLine; decide, [.int i tk, u], .cons ⟨_, rfl⟩ (.cons ru .nil), ⟨_, hT2, rfl, _, rfl⟩⟩
    have J : Inv X pins σ (upd H s.heap.objs.size (.tup [.int (i : Nat), x])) { s with heap := h'', toks := tk + 1 } :=
      I.turnedNew (ch := [e, it]) (fun b ob hb q => (sb.2 b (fun z => hb (by simp [z]))).trans (hk b ob (fun z => hb (by simp [z])) (fun z => hb (by simp [z])) q)) hf (Nat.le_refl _) new
    have step : ((i + 1 : Nat) : Int) = (i : Int) + 1 := by omega
    refine ⟨.ref s.heap.objs.size, _, J, rfl, ⟨_, x, rfl, I.hok.fresh (Nat.le_refl _), rfl, fun ys hy => by rw [I.tuple_inj hy hq]; exact hx⟩, ⟨⟨u, by rw [step]; exact he'⟩, st'.1.at fun o q => (sb.2 it (Ne.symm hne)).trans q, hne, hat, hea⟩, fun b hb => ?_⟩
    have there : b < s.heap.objs.size := by
      rcases (show b = e ∨ b = it by simpa using hb) with z | z
      · rw [z]; exact lt_e
      · rw [z]; exact lt_it
    rw [upd_ne (Nat.ne_of_lt there)]
    exact (hf b hb).1
  case done =>
    rintro X rfl rfl rfl hc i pins s σ H E I hf ⟨⟨old, he⟩, hit, hne, hat, hea⟩ ⟨xs, hq, hx⟩
    obtain ⟨its, rv, p, hz⟩ := I.tuple hq
    have D := Draws.tuple (prog := X.prog) (w := X.w) (A := X.A.in1) (I.ok.hd hc) it a hat its.toArray
    have size : its.toArray.size = i := by
      have := rv.length
      simp
      omega
    obtain ⟨f0, f1, f2, f3, f4, f5⟩ := hf it (by simp)
    exact wpAny_pyNext_enum_endD D he (by rw [size]; exact ⟨hit, p⟩) fun h' eb => ⟨rfl, I.turned (t' := s.toks) (fun b o hb q => eb b o hb q) f0 f1 f3 f4 f5⟩
  case self =>
    rintro A i s Q E ⟨⟨_, he⟩, _⟩ h
    exact wpAny_pyIter_enum he h
def iEnumT (K : PySem.W.Frag) (ta : TA) : TI := fun σ H R => ta σ H fun vs H1 => ∃ a xs, vs = [.ref a] ∧ SqT K H1 a xs ∧ R (IteT K a) H1
theorem pi_enumT {X : Cx} {e : Expr} {ta : TA} {p pos tpos : Pos} {elts : List Expr} {kk : Nat} (hg : Gl X "enumerate") (hm : X.mg "enumerate" = none) (ha : PA X [e] ta) (hs : starEach [e] X.env = [(false, eval e X.env)] := by rfl) :
    PI X (.Tuple elts kk tpos) (.Call (.Name "enumerate" p) [e] [] pos) (iEnumT X.K ta) := by
  constructor
  intro pins s σ H R I h
  refine Call_ (ld_blt I hg hm boot_enumerate ?_)
  refine PyProof.Rows.callWith_type1 (thn (ha.run pos pins s σ H _ I h) ?_) hs rfl
  rintro us s1 ⟨vs, H1, I1, r1, a, xs, rfl, hq, q⟩
  match us, r1 with
  | [_], .cons r .nil =>
    cases r
    obtain ⟨its, rv, pt, hz⟩ := I1.tuple hq
    have la : a < s1.heap.objs.size := by
      obtain ⟨o, ho, _⟩ := pt
      exact Heap.lt_size ho
    refine enum_one (begins_tuple a its.toArray) pt fun h' he hit hk => wpAny_pyIter_enum he ?_
    have J : Inv X pins σ H1 { s1 with heap := h' } := I1.kept (t' := s1.toks) hk
    refine ⟨s1.heap.objs.size + 1, [s1.heap.objs.size + 1, s1.heap.objs.size], _, _, H1, rfl, J, turn_enumT a (s1.heap.objs.size + 1) s1.heap.objs.size, ⟨⟨.none, he⟩, ⟨_, hit, rfl, rfl⟩, Nat.succ_ne_self _, Nat.ne_of_lt la, Nat.ne_of_gt (Nat.lt_succ_of_lt la)⟩, fun b hb => ?_, q⟩
    have above : s1.heap.objs.size ≤ b := by
      rcases (show b = s1.heap.objs.size + 1 ∨ b = s1.heap.objs.size by simpa using hb) with z | z
      · rw [z]; exact Nat.le_add_right _ _
      · rw [z]; exact Nat.le_refl _
    exact I1.fpOk above (I1.hok.fresh above)
end
section
variable {K : KC} {X : Cx} {T : KT} {md : List Bool} {W : WX} {c : Cz} {σ : St} {H : Hp} {us : List V} {w : V} {i : Nat} {ga : GE} {bd : Ms → Option Ms} {gb : GS} {e : Expr} {body : List Stmt} {pos pos' rp : Pos}
/-- the item of a tuple with its number -/
def nxEnT (i : Nat) (m : Ms) : Option Ms := match m.s with
  | e :: s => match viewE m.g e with
    | some (.nd .tup o ts) => if cpE e = true ∧ i < ts.length then match kidX e .tup o ts i with
        | some (.tr t) => if cp t = true then some ⟨m.g, .tr (.nd .tup .own [.a (.int i), t]) :: e :: s⟩ else none
        | _ => none
      else none
    | _ => none
  | _ => none
theorem nxEnT_ok {m m0 : Ms} (E : EnvOk K c σ H m.g m.s (w :: us)) (h : nxEnT i m = some m0) : ∃ a, w = .ref a ∧ (∃ xs x, SqT K.K H a xs ∧ xs[i]? = some x) ∧ ∀ v H', (∃ Tt x, v = .ref Tt ∧ H Tt = none ∧ H' = upd H Tt (.tup [.int (i : Nat), x]) ∧ ∀ xs, SqT K.K H a xs → xs[i]? = some x) → EnvOk K c σ H' m0.g m0.s (v :: w :: us) := by
  unfold nxEnT at h
  split at h
  · rename_i e s hs
    split at h
    · rename_i o ts hv
      split at h
      · rename_i hi
        split at h
        · rename_i t hk
          split at h
          · rename_i hcp
            cases h
            rw [hs] at E
            obtain ⟨a, vs', w', rfl, ho, hl2, hw, E3⟩ := EnvOk.kidX E (cpE_tr hi.1) hv hk
            refine ⟨a, rfl, ⟨vs', w', objT ho, hw⟩, ?_⟩
            rintro v H' ⟨Tt, x, rfl, hT, rfl, hx⟩
            have := hx vs' (objT ho)
            rw [hw] at this
            cases this
            have E4 : EnvOk K c σ H m.g ([.tr t] ++ ([.tr (.a (.int i))] ++ (e :: s))) ([w'] ++ ([.int i] ++ (.ref a :: us))) := EnvOk.permA (A := [.tr (.a (.int i))]) (B := [.tr t]) (va := [.int i]) (vb := [w']) rfl rfl (E3.atom (.int i))
            exact EnvOk.new (k := .tup) (ts := [.a (.int i), t]) (vs := [.int i, w']) (ob := .tup [.int i, w']) E4 rfl hT rfl fun o => .inl upd_same
          · cases h
        · cases h
      · cases h
    · cases h
  · cases h
/-- for (i, x) in enumerate(xs), xs a list or a tuple -/
def sForEnA (gs : GE) (bd : Ms → Option Ms) (body : GS) : GS := fun m => match gs m with
  | some (.ok m1) => match ready m1 with
    | some (m2, .lst, n) => loopN nxEn (finN .lst fun l i => decide (l ≤ i)) bd body n 0 m2
    | some (m2, .tup, n) => loopN nxEnT (finN .tup fun l i => decide (l = i)) bd body n 0 m2
    | _ => none
  | some (.ex C g) => some (.ex C g)
  | none => none
theorem ms_forEnA {elts : List Expr} {kk : Nat} {tpos : Pos} (ha : MA X T md W [e] ga) (hT : MG X T md (.Tuple elts kk tpos) bd) (hB : MSs X T md W body gb) (hgl : Gl X "enumerate") (hmg : X.mg "enumerate" = none) (hp : PassesOwn (model X.prog X.w) X.A X.env X.xe) (hc : X.calm = true)
    (hs : starEach [e] X.env = [(false, eval e X.env)] := by rfl) (hf : ∀ x, foldedSetIterable (.Call (.Name "enumerate" rp) [e] [] pos') X.env x = pure x := by intro _; rfl) : MS X T md W (.For (.Tuple elts kk tpos) (.Call (.Name "enumerate" rp) [e] [] pos') body [] pos) (sForEnA ga bd gb) := by
  obtain ⟨ti, pi, si⟩ := ha
  obtain ⟨tt, pt, st⟩ := hT
  obtain ⟨tb, pb, sb⟩ := hB
  refine ⟨_, ps_for hp hc (PI.or (pi_enum hgl hmg pi hs) (pi_enumT hgl hmg pi hs)) pt pb hf, fun c σ H m us D oo hm E hg hpo => ?_⟩
  simp only [sForEnA] at hg
  split at hg
  · rename_i m1 h1
    split at hg
    · rename_i m2 n h2
      refine .inl (si c σ H m us _ _ hm E h1 fun vs H1 hl E1 => ?_)
      match vs, hl with
      | [x], _ =>
        obtain ⟨E2, e, s, o, ts, hs2, hv, _⟩ := ready_ok (x := x) (us := us) E1 h2
        obtain ⟨a, vs, rfl, ho, _⟩ := viewObj (hs2 ▸ E2) hv
        refine ⟨a, vs, rfl, objL ho, ?_⟩
        refine loopN_ok hm st sb (fun i H σ m m' E h => ?_) (fun i H σ m m0 E h => ?_) hpo E2 hg
        · obtain ⟨⟨a', vs', o', e', ho', hd⟩, E'⟩ := finN_ok E h
          cases e'
          exact ⟨⟨vs', objL ho', by simpa using hd⟩, E'⟩
        · obtain ⟨a', e', go, yl⟩ := nxEn_ok E h
          cases e'
          exact ⟨go, yl⟩
    · rename_i m2 n h2
      refine .inr (si c σ H m us _ _ hm E h1 fun vs H1 hl E1 => ?_)
      match vs, hl with
      | [x], _ =>
        obtain ⟨E2, e, s, o, ts, hs2, hv, _⟩ := ready_ok (x := x) (us := us) E1 h2
        obtain ⟨a, vs, rfl, ho, _⟩ := viewObj (hs2 ▸ E2) hv
        refine ⟨a, vs, rfl, objT ho, ?_⟩
        refine loopN_ok hm st sb (fun i H σ m m' E h => ?_) (fun i H σ m m0 E h => ?_) hpo E2 hg
        · obtain ⟨⟨a', vs', o', e', ho', hd⟩, E'⟩ := finN_ok E h
          cases e'
          exact ⟨⟨vs', objT ho', by simpa using hd⟩, E'⟩
        · obtain ⟨a', e', go, yl⟩ := nxEnT_ok E h
          cases e'
          exact ⟨go, yl⟩
    · cases hg
  · rename_i h1
    cases hg
    exact .inl (si c σ H m us _ _ hm E h1 fun H1 E1 => hpo σ H1 E1)
  · cases hg
end
/-! a look at things that are all lent for its time; a def that returns a new list of what it was lent -/
section
variable {K : KC} {X : Cx} {T : KT} {md : List Bool} {W : WX} {c : Cz} {σ : St} {H H' : Hp} {Γ τ : List Ent} {us ws : List V} {Z : Zn} {Φ Ψ : Ps} {t : TE} {g : GE}
end
section
variable {K : KC} {X : Cx} {T : KT} {md : List Bool} {W : WX} {ga : GE} {f : Addr} {fd : FuncData} {ps : List Str} {kk : Nat} {x : Str} {pp pos : Pos} {e : Expr}
end
section
variable {K : KC} {X : Cx} {T : KT} {md : List Bool} {W : WX} {ge : GE} {e : Expr}
end
section
variable {K : KC} {X : Cx} {T : KT} {md : List Bool} {W : WX} {i j d : Nat} {e : Expr} {es : List Expr} {ga g : GE} {pos pos' lp : Pos}
end
/-! a call of a def that keeps addresses, where aliases at the place itself and aliases at the bottom of the stack live on, too -/
section
variable {K : KC} {X : Cx} {T : KT} {md mdc : List Bool} {W : WX} {c : Cz} {σ : St} {H H' : Hp} {Γ τ : List Ent} {us vs ws wq : List V} {v w wp : V} {p q r : List Nat} {t : Tr} {ts : List Tr} {i j n k : Nat} {Z : Zn} {Φ Ψ : Ps} {qs : List (List Nat)} {G : GG}
end
section
variable {K : KC} {X : Cx} {T : KT} {md mdc : List Bool} {W : WX} {G : GG} {x : Str} {pp pos : Pos} {e : Expr} {es : List Expr} {ga : GE} {kk : Nat} {f : Addr} {fd : FuncData} {ps : List Str}
end
/-! xs.remove(x), deep -/
section
variable {X : Cx}
end
section
variable {K : KC} {X : Cx} {T : KT} {md : List Bool} {W : WX} {c : Cz} {σ : St} {H : Hp} {Γ s : List Ent} {L : List Tr} {ts : List Tr} {t x : Tr} {j : Nat} {p : List Nat}
end
/-! xs.count(k) -/
section
variable {K : KC} {X : Cx} {T : KT} {md : List Bool} {W : WX}
end
/-! a value of which nothing is known any more -/
section
variable {K : KC} {X : Cx} {T : KT} {md : List Bool} {W : WX} {e : Expr} {g : GE}
def fHid : GE := fun m => match m.s with
  | _ :: s => some (.ok ⟨m.g, .tr .any :: s⟩)
  | _ => none
theorem con_any {v : V} : ConM K .any v := fun _ _ _ _ h => h
end
section
variable {K : KC} {X : Cx} {T : KT} {md mdc : List Bool} {W : WX} {c : Cz} {σ : St} {H H' : Hp} {Γ τ : List Ent} {us vs ws wq : List V} {v w wp w0 : V} {p q r q0 : List Nat} {t : Tr} {ts : List Tr} {i j n r0 : Nat} {Z : Zn} {qs : List (List Nat)} {Φ Ψ : Ps} {m m' : Ms} {G : GG}
variable {P : Program} {Wd : World} {Kf : PySem.W.Frag} {mg : Str → Option Value} {base : Heap}

variable {x : Str} {pp pos : Pos} {e : Expr} {es : List Expr} {ga : GE} {kk : Nat} {f : Addr} {fd : FuncData} {ps : List Str}
end
/-! dicts whose keys are tuples of ints and texts (new ones or ones of the written part): in, read, store, a display of one pair -/
section
variable {X : Cx} {pins : List (Addr × Obj)} {σ : St} {H : Hp} {s : Shared} {a b : Addr} {k : NestedKey} {v : V} {r : Value} {l : List (NestedKey × Addr × V)} {A : Around} {E : Value → Shared → Prop}
end
section
variable {K : KC} {X : Cx} {T : KT} {md : List Bool} {W : WX} {c : Cz} {σ : St} {H H' : Hp} {Γ τ : List Ent} {us vs : List V} {v w : V} {p q : List Nat} {t : Tr} {ts ts' : List Tr} {i j : Nat} {ks : List NestedKey} {k : NestedKey}
variable {g : GS} {gi go gv ga gb : GE} {e a b o ie : Expr} {pos pos' : Pos}
/-! on trees -/
mutual
def keyN : Tr → Option NestedKey
  | .a v => match v with
    | .int i => some (.num i)
    | .str x => some (.text x)
    | .non => some .none
    | _ => none
  | .nd .tup _ ts => match keysA ts with
    | some ks => some (.tup ks)
    | none => none
  | _ => none
def keysA : List Tr → Option (List NestedKey)
  | [] => some []
  | t :: ts => match keyN t, keysA ts with
    | some k, some ks => some (k :: ks)
    | _, _ => none
end
def keyT (t : Tr) : Option NestedKey := match keyN t with
  | some (.tup ks) => if (NestedKey.tup ks).depth ≤ 8 then some (.tup ks) else none
  | _ => none
def kixT (k : NestedKey) : List NestedKey → Option Nat
  | [] => none
  | x :: ks => if x = k then some 0 else (kixT k ks).map (· + 1)
def FInT (neg : Bool) : Tr → Tr → Option V
  | tx, .nd (.dcT ks) _ _ => match keyT tx with
    | some k => some (.bl (if neg then !(kixT k ks).isSome else (kixT k ks).isSome))
    | none => none
  | _, _ => none
def fInB : GE := gOr fInA (fP2 (FInT false))
def fNotInB : GE := gOr fNotInA (fP2 (FInT true))
end
/-! dicts with tuple keys: stores, displays of one pair -/
section
variable {K : KC} {X : Cx} {T : KT} {md : List Bool} {W : WX} {c : Cz} {σ : St} {H H' : Hp} {Γ τ : List Ent} {us vs : List V} {v w : V} {p q : List Nat} {t : Tr} {ts ts' : List Tr} {i j : Nat} {ks : List NestedKey} {k : NestedKey}
variable {g : GS} {gi go gv ga gb : GE} {e a b o ie : Expr} {pos pos' : Pos}
def stSubT : Ms → Option Ms := fun m => match m.s with
  | .tr y :: .al p :: .tr t :: s => match getG m.g p, keyT y with
    | some (.nd (.dcT ks) .own ts), some k => if esc t = true ∧ ks.length < 100000 then match kixT k ks with
        | some j => some ⟨(setG m.g p (.nd (.dcT ks) .own (ts.set j t))).map (killJ (p ++ [j])), s.map (killJ (p ++ [j]))⟩
        | none => some ⟨kill p (setG m.g p (.nd (.dcT (ks ++ [k])) .own (ts ++ [t]))), kill p s⟩
      else none
    | _, _ => none
  | _ => none
def stSubB : Ms → Option Ms := fun m => match stSubA m with
  | none => stSubT m
  | r => r
def sSubB (gv go gi : GE) : GS := fun m => match gSeq (gSeq gv go) gi m with
  | some (.ok m') => match stSubB m' with
    | some m2 => some (.nx m2)
    | none => none
  | some (.ex C g) => some (.ex C g)
  | none => none
end
/-! {k: v}, k a tuple -/
section
variable {K : KC} {X : Cx} {T : KT} {md : List Bool} {W : WX} {tk tv : TE} {gk gv : GE} {ke ve : Expr} {dpos : Pos}
end
section
variable {X : Cx} {T : KT} {md : List Bool} {W : WX} {gk gv : GE} {ke ve : Expr} {dpos : Pos}
def gK0 : GE := fun m => some (.ok ⟨m.g, .tr (.nd (.dcT []) .own []) :: m.s⟩)
def fPut1 : GE := fun m => match m.s with
  | .tr t :: .tr y :: .tr (.nd (.dcT []) .own []) :: s => match keyT y with
    | some k => if esc t = true then some (.ok ⟨m.g, .tr (.nd (.dcT [k]) .own [t]) :: s⟩) else none
    | none => none
  | _ => none
end
/-! written dicts of defs by texts; a property; xs[::-1] -/
section
variable {K : KC} {X : Cx} {T : KT} {md mdc : List Bool} {W : WX} {c : Cz} {σ : St} {H H' : Hp} {Γ τ : List Ent} {us vs : List V} {v w : V} {i j n kk : Nat} {m m' : Ms} {ga ge : GE} {a b e oe : Expr} {es : List Expr} {pos p1 p2 p3 p4 p5 p6 p7 p8 : Pos} {x dn z : Str} {G : GF} {d f : Addr}
/-- a def by its promise on trees -/
def DefAt (X : Cx) (T : KT) (kk : Nat) (f : Addr) (mdc : List Bool) (G : GF) : Prop :=
  PySem.W.keepIn X.K (.ref f) = true ∧ ∃ fd ps, FnOk X.prog X.w X.K X.mg X.base (L2N.CX X.prog X.w) kk f fd ps (spOf (kcm X.K T) mdc G) ∧ Binds X.K fd ps []
/-- what stands in a written dict: texts and defs -/
inductive DTab (X : Cx) (T : KT) (kk : Nat) : List DictEntry → List (Str × List Bool × GF) → Prop
  | nil : DTab X T kk [] []
  | cons {h : Int} {z : Str} {t : Tok} {f : Addr} {mdc : List Bool} {G : GF} {es : List DictEntry} {l : List (Str × List Bool × GF)} (D : DefAt X T kk f mdc G) (r : DTab X T kk es l) : DTab X T kk (⟨h, .str z t, .ref f⟩ :: es) ((z, mdc, G) :: l)
structure KDefs (X : Cx) (T : KT) (kk : Nat) (d : Addr) (es : List DictEntry) (nn : Nat) (l : List (Str × List Bool × GF)) : Prop where
  D : KDict X.K X.w d es.toArray nn
  tb : DTab X T kk es l
theorem DTab.find {es : List DictEntry} {l : List (Str × List Bool × GF)} (h : DTab X T kk es l) (z : Str) : (∀ en ∈ es, en.refKey = false) ∧ match l.lookup z with
    | some (mdc, G) => ∃ en f, es.find? (·.key.isStr z) = some en ∧ en.val = .ref f ∧ DefAt X T kk f mdc G
    | none => es.find? (·.key.isStr z) = none := by
  induction h with
  | nil => exact ⟨by simp, rfl⟩
  | @cons h z' t f mdc G es l D r ih =>
    obtain ⟨ih1, ih2⟩ := ih
    refine ⟨fun en hen => ?_, ?_⟩
    · rcases List.mem_cons.mp hen with q | q
      · subst q; rfl
      · exact ih1 en q
    · rw [List.lookup_cons, List.find?_cons]
      by_cases q : z = z'
      · subst q
        have e1 : (z == z) = true := beq_self_eq_true z
        rw [e1]
        have e2 : (⟨h, .str z t, .ref f⟩ : DictEntry).key.isStr z = true := beq_self_eq_true z
        rw [e2]
        exact ⟨_, f, rfl, rfl, D⟩
      · rw [beq_false_of_ne q]
        have e2 : (⟨h, .str z' t, .ref f⟩ : DictEntry).key.isStr z = false := beq_false_of_ne (Ne.symm q)
        rw [e2]
        exact ih2
theorem KDefs.ns {es : List DictEntry} {nn : Nat} {l : List (Str × List Bool × GF)} (D : KDefs X T kk d es nn l) (z : Str) : ∃ r, PySem.W.nsIn X.K d z = some r ∧ r.isSome = (l.lookup z).isSome ∧ ∀ mdc G, l.lookup z = some (mdc, G) → ∃ f, r = some (.ref f) ∧ DefAt X T kk f mdc G := by
  obtain ⟨h1, h2⟩ := D.tb.find z
  have hl := D.D.at_
  unfold PySem.W.nsIn
  rw [hl]
  simp only
  cases e : l.lookup z with
  | none =>
    rw [e] at h2
    simp only at h2
    rw [h2]
    simp only
    have : es.any (·.refKey) = false := by
      rw [List.any_eq_false]
      intro en hen
      simp [h1 en hen]
    rw [this]
    exact ⟨none, rfl, rfl, fun _ _ q => by cases q⟩
  | some q =>
    obtain ⟨mdc, G⟩ := q
    rw [e] at h2
    obtain ⟨en, f, h3, h4, h5⟩ := h2
    rw [h3]
    refine ⟨some en.val, rfl, rfl, fun mdc' G' q => ?_⟩
    cases q
    exact ⟨f, by rw [h4], h5⟩
def fKD (neg : Bool) (keys : List Str) : GE := fun m => match m.s with
  | .tr (.a (.str z)) :: s => some (.ok ⟨m.g, .tr (.a (.bl (if neg then !decide (z ∈ keys) else decide (z ∈ keys)))) :: s⟩)
  | _ => none
theorem lookup_keys {α : Type} : ∀ {l : List (Str × α)} {z : Str}, (l.lookup z).isSome = decide (z ∈ l.map (·.1))
  | [], z => by simp
  | (y, _) :: l, z => by
    rw [List.lookup_cons]
    by_cases q : z = y
    · subst q
      simp
    · rw [beq_false_of_ne q]
      simp only [List.map_cons, List.mem_cons, q, false_or]
      exact lookup_keys
def rKD (X : Cx) (d : Addr) (neg : Bool) : R2 := fun x y H Q => ∃ (z : Str) (r : Option Value), x = .str z ∧ y = .ref d ∧ PySem.W.nsIn X.K d z = some r ∧ Q (.bl (if neg then !r.isSome else r.isSome)) H
theorem fKD_ok {neg : Bool} {es : List DictEntry} {nn : Nat} {l : List (Str × List Bool × GF)} (D : KDefs X T kk d es nn l) {ta : TE} (sa : SE (kcm X.K T) md W ta ga) : SE (kcm X.K T) md W (tOp (rKD X d neg) ta (tC (.ref d))) (gSeq ga (fKD neg (l.map (·.1)))) := by
  intro c σ H m us Q rr hc E hg hp
  simp only [gSeq] at hg
  split at hg
  · rename_i m1 h1
    refine sa c σ H m us _ _ hc E h1 fun x H1 E1 => ?_
    unfold fKD at hg
    split at hg
    · rename_i z s hs
      cases hg
      rw [hs] at E1
      obtain rfl := top_a E1
      obtain ⟨r, h2, h3, _⟩ := D.ns z
      refine ⟨z, r, rfl, rfl, h2, ?_⟩
      rw [h3, lookup_keys]
      exact hp _ _ (E1.drop.atom _)
    · cases hg
  · rename_i h1
    refine sa c σ H m us _ _ hc E hg ?_
    cases rr with
    | ex C g' => exact hp
    | ok m2 => exact absurd hg (h1 m2)
theorem mt_notInKD {es : List DictEntry} {nn : Nat} {l : List (Str × List Bool × GF)} (D : KDefs X T kk d es nn l) (hd : PE X (.Name dn p2) (tC (.ref d))) (ha : ME X T md W a ga) : MT X T md W (.Compare a [.NotIn] [.Name dn p2] pos) (gSeq ga (fKD true (l.map (·.1)))) := by
  obtain ⟨ta, pa, sa⟩ := ha
  exact ⟨_, pt_cmpR (r := rKD X d true) (fun pins s σ H x y v u Q I rx ry h => op_notIn_kd D.D pins s σ H x y v u Q I rx ry h) pa hd rfl, st_of (fKD_ok D sa)⟩
def tCT (X : Cx) (T : KT) (kk i : Nat) (t : TA) : TE := fun σ H Q => ∃ f mdc G, DefAt X T kk f mdc G ∧ σ[i]? = some (some (.ref f)) ∧ t σ H fun vs H1 => spOf (kcm X.K T) mdc G vs H1 Q E0
theorem pe_CT {t : TA} (hr : Room kk X.A) (hN : X.N[i]? = some x) (hv : Vis X.env.scope x) (ha : PA X (e :: es) t)
    (hdb : (x == ("__debug__" : Str)) = false := by decide) (hcd : (x == ("__classdict__" : Str)) = false := by decide)
    (he : starEach (e :: es) X.env = (false, eval e X.env) :: starEach es X.env := by rfl) (hpl : (backTo pos (starEach es X.env)).any (·.1) = false := by rfl) : PE X (.Call (.Name x p6) (e :: es) [] pos) (tCT X T kk i t) := by
  refine ⟨fun pins s σ H Q I h => ?_⟩
  obtain ⟨f, mdc, G, ⟨kp, fd, ps, F, hb⟩, hs, ht⟩ := h
  exact (pe_callL F hr hN hv kp hb .nil passL ha hdb hcd he hpl).run pins s σ H Q I ⟨hs, by simpa using ht⟩
def sKD (md : List Bool) (i j : Nat) (tab : List (Str × List Bool × GF)) (ga : GE) (n : Nat) : GS := fun m => match m.g[j]? with
  | some (.tr (.a (.str z))) => match tab.lookup z with
    | some (mdc, G) => match bind md i ⟨m.g, .tr .any :: m.s⟩ with
      | some m1 => sRet (gSeq ga (noEx (gCall [] mdc G n))) m1
      | none => none
    | none => none
  | _ => none
theorem mss_kd {es' : List DictEntry} {nn : Nat} {l : List (Str × List Bool × GF)} (D : KDefs X T kk d es' nn l) (hN : X.N.Nodup) (hi : X.N[i]? = some x) (hx : Loc X.env.scope x) (hvi : Vis X.env.scope x) (hd : PE X (.Name dn p2) (tC (.ref d))) (hz : PE X (.Name z p3) (tVar j)) (hr : Room kk X.A) (ha : MA X T md W (e :: es) ga)
    (hsl : PlainIx (.Name z p3)) (hs : swapsWith (.Subscript (.Name dn p2) (.Name z p3) p4) (some (.Name x p1)) p5.line X.env = pure false := by rfl)
    (hf : X.fn x = true ∨ X.env.scope.names.lookup x = some .local := by first | exact .inl rfl | exact .inr rfl | assumption)
    (hdb : (x == ("__debug__" : Str)) = false := by decide) (hcd : (x == ("__classdict__" : Str)) = false := by decide)
    (he : starEach (e :: es) X.env = (false, eval e X.env) :: starEach es X.env := by rfl) (hpl : (backTo p7 (starEach es X.env)).any (·.1) = false := by rfl) :
    MSs X T md W [.Assign [.Name x p1] (.Subscript (.Name dn p2) (.Name z p3) p4) p5, .Return (some (.Call (.Name x p6) (e :: es) [] p7)) p8] (sKD md i j l ga (e :: es).length) := by
  obtain ⟨t, pa, sa⟩ := ha
  refine ⟨_, pss_cons (ps_set hN hi hx (pe_ix ix_kdict hd hz hsl) hs hf) (pss_one (ps_ret (pe_CT (T := T) (kk := kk) (i := i) hr hi hvi pa hdb hcd he hpl))), fun c σ H m us Dd o hc E hg hp => ?_⟩
  unfold sKD at hg
  split at hg
  · rename_i zz hj
    split at hg
    · rename_i mdc G hl
      split at hg
      · rename_i m1 hb
        obtain ⟨r, h2, h3, h4⟩ := D.ns zz
        obtain ⟨f, rfl, DA⟩ := h4 mdc G hl
        obtain ⟨v0, hv0, E0'⟩ := E.var hj rfl
        obtain rfl := top_a E0'
        refine ⟨.str zz, hv0, d, zz, .ref f, rfl, rfl, ⟨_, nn, .ref f, D.D.at_, D.D.lit, h2, rfl⟩, ?_⟩
        have E2 := bind_ok hc (E.con (t := .any) (v := .ref f) con_any) hb
        have hsl : (σ.set i (some (.ref f)))[i]? = some (some (.ref f)) := by
          obtain ⟨Z, ws, Φ, Ψ, EE⟩ := id E
          unfold bind at hb
          split at hb
          · cases hb
          · rename_i hc2
            have hlt : i < m.g.length := by
              by_cases q : i < m.g.length
              · exact q
              · exact absurd (.inr q) hc2
            rw [List.getElem?_set_self]
            have := EE.ln
            omega
        refine ⟨f, mdc, G, DA, hsl, ?_⟩
        unfold sRet at hg
        have fin : ∀ (rr : Rs), gSeq ga (noEx (gCall [] mdc G (e :: es).length)) m1 = some rr → ∀ Q, PostE (kcm X.K T) c W (σ.set i (some (.ref f))) us Q rr → t (σ.set i (some (.ref f))) H fun vs H1 => spOf (kcm X.K T) mdc G vs H1 Q E0 := fun rr h Q hq =>
          seqA sa (spOf_E0 (mdc := mdc) (G := G) (W := W) (is := []) (by simp) (by simp)) c _ H m1 us Q rr hc E2 h hq
        split at hg
        · rename_i h1
          cases hg
          exact fin _ h1 _ fun y H1 E1 => hp _ y H1 E1
        · rename_i h1
          cases hg
          exact fin _ h1 _ fun H1 E1 => hp _ H1 E1
        · cases hg
      · cases hg
    · cases hg
  · cases hg
end
/-! a property read; xs[::-1] of a list of plain values -/
section
variable {K : KC} {X : Cx} {T : KT} {md mdc : List Bool} {W : WX} {c : Cz} {σ : St} {H H' : Hp} {Γ τ : List Ent} {us vs : List V} {v w : V} {i j n kk : Nat} {m m' : Ms} {ga ge : GE} {a b e oe : Expr} {pos p1 p2 p3 : Pos} {f : Str} {G : GF} {g p : Addr} {fd : FuncData} {ps : List Str}
def fRevL : GE := fun m => match m.s with
  | e :: s => match viewE m.g e with
    | some (.nd .lst o ts) => match atoms ts with
      | some us => some (.ok ⟨m.g, .tr (.nd .lst .own (us.reverse.map .a)) :: s⟩)
      | none => none
    | _ => none
  | _ => none
/-! a, b, c = x, y, z -/
def sPar3 (md : List Bool) (i j l : Nat) (ga : GE) : GS := fun m => match ga m with
  | some (.ok ⟨g', ez :: ey :: ex :: s⟩) => match bindAll md [i, j, l] ⟨g', ex :: ey :: ez :: s⟩ with
    | some m2 => some (.nx m2)
    | none => none
  | some (.ex C g') => some (.ex C g')
  | _ => none
end
/-! rules for pure proofs: several names at once, dicts with tuple keys, tables of defs -/
section
variable {md : List Bool} {i j l : Nat} {ga g b h : GE} {m m' : Ms} {Γ s : List Ent} {ex ey ez : Ent} {C : Nat}
def pS2 (a : Option Rs) (md : List Bool) (i j : Nat) : Option Os := match a with
  | some (.ok ⟨g', ey :: ex :: s⟩) => nxO (bindAll md [i, j] ⟨g', ex :: ey :: s⟩)
  | some (.ex C g') => some (.ex C g')
  | _ => none
theorem sPar_e : sPar md i j ga m = pS2 (ga m) md i j := by
  unfold sPar pS2 nxO
  rcases ga m with _ | (⟨g', _ | ⟨a, _ | ⟨b, s⟩⟩⟩ | _) <;> rfl
theorem pS2_ok : pS2 (some (.ok ⟨Γ, ey :: ex :: s⟩)) md i j = nxO (bindAll md [i, j] ⟨Γ, ex :: ey :: s⟩) := rfl
def pS3 (a : Option Rs) (md : List Bool) (i j l : Nat) : Option Os := match a with
  | some (.ok ⟨g', ez :: ey :: ex :: s⟩) => nxO (bindAll md [i, j, l] ⟨g', ex :: ey :: ez :: s⟩)
  | some (.ex C g') => some (.ex C g')
  | _ => none
theorem sPar3_e : sPar3 md i j l ga m = pS3 (ga m) md i j l := by
  unfold sPar3 pS3 nxO
  rcases ga m with _ | (⟨g', _ | ⟨a, _ | ⟨b, _ | ⟨d, s⟩⟩⟩⟩ | _) <;> rfl
theorem pS3_ok : pS3 (some (.ok ⟨Γ, ez :: ey :: ex :: s⟩)) md i j l = nxO (bindAll md [i, j, l] ⟨Γ, ex :: ey :: ez :: s⟩) := rfl
theorem sSubB_e : sSubB g b h m = kS (gSeq (gSeq g b) h m) stSubB := by
  unfold sSubB kS nxO
  split <;> first | rfl | (split <;> simp_all) | simp_all
theorem gCon_e {t : Tr} : gCon t m = some (.ok ⟨m.g, .tr t :: m.s⟩) := rfl
theorem gK0_e : gK0 m = some (.ok ⟨m.g, .tr (.nd (.dcT []) .own []) :: m.s⟩) := rfl
theorem fKD_e {neg : Bool} {keys : List Str} {z : Str} : fKD neg keys ⟨Γ, .tr (.a (.str z)) :: s⟩ = some (.ok ⟨Γ, .tr (.a (.bl (if neg then !decide (z ∈ keys) else decide (z ∈ keys)))) :: s⟩) := rfl
end
/-! the walk over a list: an invariant that speaks of what has been walked -/
section
variable {α : Type} {gs : GS} {bd : Ms → Option Ms} {s : List Ent}
theorem loopE_pre {xs : List α} {enc : α → Tr} (e : Ent) (kd : Nk) (o : Ow) (I : List α → List Ent → Prop) (hv : ∀ p Γ, I p Γ → viewE Γ e = some (.nd kd o (xs.map enc))) (hc : cpE e = true) (hcp : ∀ x ∈ xs, cp (kid o (enc x)) = true)
    (turn : ∀ p x q Γ, xs = p ++ x :: q → I p Γ → ∃ Γ1 Γ2, bd ⟨Γ, .tr (kid o (enc x)) :: e :: s⟩ = some ⟨Γ1, e :: s⟩ ∧ I (p ++ [x]) Γ2 ∧ (gs ⟨Γ1, e :: s⟩ = some (.nx ⟨Γ2, e :: s⟩) ∨ gs ⟨Γ1, e :: s⟩ = some (.ct ⟨Γ2, e :: s⟩))) {Γ : List Ent} (h0 : I [] Γ) :
    ∃ Γ', I xs Γ' ∧ loopE kd bd gs xs.length 0 ⟨Γ, e :: s⟩ = some (.nx ⟨Γ', s⟩) := by
  have key : ∀ ys pre Γ, xs = pre ++ ys → I pre Γ → ∃ Γ', I xs Γ' ∧ loopE kd bd gs ys.length pre.length ⟨Γ, e :: s⟩ = some (.nx ⟨Γ', s⟩) := by
    intro ys
    induction ys with
    | nil =>
      intro pre Γ hx h
      have hx' : pre = xs := by rw [hx, List.append_nil]
      refine ⟨Γ, hx' ▸ h, ?_⟩
      show loopE kd bd gs 0 pre.length ⟨Γ, e :: s⟩ = _
      unfold loopE
      simp only [hv pre Γ h]
      rw [if_pos ⟨trivial, by rw [hx']; simp⟩]
    | cons y ys ih =>
      intro pre Γ hx h
      have hmem : y ∈ xs := by rw [hx]; simp
      obtain ⟨Γ1, Γ2, e1, h2, e2⟩ := turn pre y ys Γ hx h
      show ∃ Γ', I xs Γ' ∧ loopE kd bd gs (ys.length + 1) pre.length ⟨Γ, e :: s⟩ = _
      have hk1 : kidX e kd o (xs.map enc) pre.length = some (.tr (kid o (enc y))) := by
        unfold kidX
        rw [hx]
        simp [hcp y hmem]
      obtain ⟨Γ', h3, e3⟩ := ih (pre ++ [y]) Γ2 (by simp [hx]) h2
      rw [List.length_append, List.length_singleton] at e3
      refine ⟨Γ', h3, ?_⟩
      unfold loopE
      simp only [hv pre Γ h]
      rw [if_pos ⟨trivial, hc, by rw [hx]; simp⟩, hk1]
      simp only [e1]
      rcases e2 with e2 | e2 <;> rw [e2] <;> exact e3
  exact key xs [] Γ rfl h0
end
/-! own operators between two things of one class; isinstance of an own class -/
section
variable {K : KC} {X : Cx} {T : KT} {md mdc : List Bool} {W : WX} {a C dx f : Addr} {fd : FuncData} {ps : List Str} {kk n : Nat} {sp : Sp} {G : GF}
end
/-! things that are walked by their own __iter__, which hands out the iterator of a field -/
section
section
variable {X : Cx}
end
section
variable {X : Cx} {tg e : Expr} {te : TE} {C f : Addr} {fd : FuncData} {j : Str} {kk : Nat} {pins : List (Addr × Obj)} {σ : St} {H : Hp} {s : Shared}
end
section
variable {K : KC} {X : Cx} {T : KT} {md mdc : List Bool} {W : WX} {c : Cz} {σ σ' σ2 : St} {H H' : Hp} {Γ τ : List Ent} {us vs : List V} {v w : V} {i n k : Nat} {m m' : Ms} {g ge gt gs ga gk : GE} {e tg iter elt cnd : Expr} {es : List Expr} {pos : Pos} {scope : Scope} {x : Str} {kk : Nat} {f : Addr} {fd : FuncData}
end
end
section
variable {K : KC} {X : Cx} {T : KT} {md : List Bool} {W : WX} {c : Cz} {σ : St} {H : Hp} {Γ τ : List Ent} {us : List V} {m : Ms} {x y : V} {go ge f : GE} {o e cl : Expr} {rr : Rs}
end
/-! isinstance of a class above -/
section
variable {K : KC} {X : Cx} {T : KT} {md mdc : List Bool} {W : WX} {n : Nat}
end
/-! list(reversed(xs)) -/
section
open PySem.Spec PyProof.Rows
end
section
open PySem.Spec PyProof.Rows
variable {X : Cx}
end
section
variable {K : KC} {X : Cx} {T : KT} {md : List Bool} {W : WX} {g : GE}
end
/-! t + u, tuples of plain values -/
section
variable {K : KC} {X : Cx} {T : KT} {md : List Bool} {W : WX} {c : Cz} {σ : St} {H : Hp} {Γ τ : List Ent} {us : List V} {ga gb : GE}
def fCatT : GE := fun m => match m.s with
  | .tr (.nd .tup .own us) :: .tr (.nd .tup .own ts) :: s => match atoms ts, atoms us with
    | some vs, some ws => if ts.length + us.length ≤ 100000 then some (.ok ⟨m.g, .tr (.nd .tup .own ((vs ++ ws).map Tr.a)) :: s⟩) else none
    | _, _ => none
  | _ => none
theorem atoms_back : ∀ {ts : List Tr} {vs : List V}, atoms ts = some vs → ts = vs.map Tr.a
  | [], vs, h => by
    simp only [atoms] at h
    cases h
    rfl
  | t :: ts, vs, h => by
    cases t with
    | a w =>
      simp only [atoms] at h
      split at h
      · rename_i us he
        cases h
        rw [List.map_cons, ← atoms_back he]
      · cases h
    | any => cases h
    | nd k o us => cases h
theorem EnvOk.newTup {pa : Addr} (E : EnvOk K c σ H Γ τ us) (vs : List V) (hp : H pa = none) : EnvOk K c σ (upd H pa (.tup vs)) Γ (.tr (.nd .tup .own (vs.map Tr.a)) :: τ) (.ref pa :: us) := by
  have E1 := EnvOk.atoms vs.reverse E
  have e : (fun v => Ent.tr (Tr.a v)) = Ent.tr ∘ Tr.a := rfl
  refine EnvOk.new (ts := vs.map Tr.a) (vs := vs) (k := .tup) ?_ (by simp) hp (by simp [mkN]) fun o => .inl upd_same
  simpa [List.map_reverse, e] using E1
theorem fCatT_ok : RA2 K md W (rCatA K.K) fCatT := by
  refine .mk fun c σ H m zs x y Q rr hc E hf hp => ?_
  unfold fCatT at hf
  split at hf
  · rename_i us ts s hs
    split at hf
    · rename_i vs ws h1 h2
      split at hf
      · rename_i hl
        cases hf
        rw [hs] at E
        have e1 := atoms_back h1
        have e2 := atoms_back h2
        subst e1 e2
        obtain ⟨b, bs, rfl, hb, _⟩ := viewObj E (show viewE m.g (.tr (.nd .tup .own (ws.map Tr.a))) = some _ from rfl)
        obtain ⟨a, as, rfl, ha, _⟩ := viewObj (EnvOk.swap2 E) (show viewE m.g (.tr (.nd .tup .own (vs.map Tr.a))) = some _ from rfl)
        obtain ⟨Z, zz, Φ, Ψ, EE⟩ := id E
        obtain ⟨Θ1, b', bs', Ξ1, q1, ob1, rl1, _⟩ := EE.view (n := 0) rfl rfl (show viewE m.g (.tr (.nd .tup .own (ws.map Tr.a))) = some _ from rfl)
        obtain ⟨Θ2, a', as', Ξ2, q2, ob2, rl2, _⟩ := EE.view (n := 1) rfl rfl (show viewE m.g (.tr (.nd .tup .own (vs.map Tr.a))) = some _ from rfl)
        cases q1
        cases q2
        have r1 := atoms_ok rl1 h2
        have r2 := atoms_ok rl2 h1
        subst r1 r2
        rw [List.length_map, List.length_map] at hl
        refine ⟨a, b, as', bs', rfl, rfl, objT ob2, objT ob1, Nat.le_trans hl (by decide), fun z => hp _ _ ?_, fun _ z => hp _ _ ?_, fun _ _ p hn => hp _ _ ?_⟩
        · subst z
          exact (EnvOk.swap2 E).drop
        · subst z
          rw [List.append_nil]
          exact E.drop
        · exact EnvOk.newTup (E.drop.drop) _ hn
      · cases hf
    · cases hf
  · cases hf
theorem me_catT {a b : Expr} {pos : Pos} (ha : ME X T md W a ga) (hb : ME X T md W b gb) : ME X T md W (.BinOp a .Add b pos) (gSeq (gSeq ga gb) fCatT) := me_bin op_catA fCatT_ok ha hb
end
/-! static methods and new things that may raise -/
section
variable {K : KC} {X : Cx} {T : KT} {md mdc : List Bool} {W : WX} {g ga : GE} {e oe : Expr} {es : List Expr} {pos pp apos : Pos} {x me : Str} {G : GF} {kk n : Nat} {f C : Addr} {fd : FuncData} {ps : List Str} {is : List Nat} {sp : Sp} {ta : TE} {tA : TA} {pl : Sem Bool} {CXk : CXT} {Ew : St → XK}
end
/-! isinstance(e, T), isinstance(e, (A, B)): e the error of a suite -/
section
variable {X : Cx} {T : KT} {md : List Bool} {W : WX} {i : Nat} {a D : Addr} {oe : Obj} {pn : List (Addr × Obj)}
end
section
variable {K : KC} {X : Cx} {T : KT} {md mdc : List Bool} {W : WX} {oe : Expr} {pos apos : Pos} {me : Str} {G : GF} {kk : Nat} {f C : Addr} {fd : FuncData} {ps : List Str} {sp : Sp} {ta : TE} {pl : Sem Bool} {CXk : CXT} {Ew : St → XK}
end
/-! sorted(xs): items that are data (tuples) -/
section
variable {X : Cx}
end
section
variable {K : KC} {X : Cx} {T : KT} {md : List Bool} {W : WX} {g : GE}
end
/-! list(range(i, j)) -/
section
variable {X : Cx} {T : KT} {md : List Bool} {W : WX} {ga gb : GE}
end
/-! sorted(set(xs)) of a list of ints -/
section
open PySem.Spec PyProof.Rows
variable {P : Program} {w : World} {A : Around} {E : Value → Shared → Prop} {s : Shared}
end
section
variable {X : Cx}
variable {T : KT} {md : List Bool} {W : WX} {ga gs : GE} {te : TE} {i j : Nat}
end
/-! x < y of data; xs.index(text) -/
section
variable {X : Cx}
variable {K : KC} {T : KT} {md : List Bool} {W : WX}
end
/-! {} whose keys will be tuples -/
section
variable {X : Cx} {T : KT} {md : List Bool} {W : WX}
end
/-! text[i] -/
section
variable {K : KC} {X : Cx} {T : KT} {md : List Bool} {W : WX} {ga gb : GE} {a b : Expr} {pos : Pos}
def FIxS : Tr → Tr → Option V
  | .a (.str z), .a (.int i) => if 0 ≤ i ∧ i < 2 ^ 63 ∧ i < z.length then match z.cps[i.toNat]? with
    | some c => some (.str ⟨#[c]⟩)
    | none => none
    else none
  | _, _ => none
def fIxS : GE := fP2 FIxS
theorem fIxS_ok : RA2 K md W (fun x y H Q => ∃ z i c, x = .str z ∧ y = .int i ∧ 0 ≤ i ∧ i < 2 ^ 63 ∧ i < z.length ∧ z.cps[i.toNat]? = some c ∧ Q (.str ⟨#[c]⟩) H) fIxS := fP2_ok fun Z H x y tx ty u Φ Ψ Q r1 r2 e q => by
  unfold FIxS at e
  split at e
  · rename_i z i
    split at e
    · rename_i hb
      split at e
      · rename_i c hc
        cases e
        obtain ⟨rfl, _⟩ := r1
        obtain ⟨rfl, _⟩ := r2
        exact ⟨z, i, c, rfl, rfl, hb.1, hb.2.1, hb.2.2, hc, q⟩
      · cases e
    · cases e
  · cases e
theorem me_ixS (ha : ME X T md W a ga) (hb : ME X T md W b gb) (hs : PlainIxT b) : ME X T md W (.Subscript a b pos) (gSeq (gSeq ga gb) fIxS) := by
  obtain ⟨ta, pa, sa⟩ := ha
  obtain ⟨tb, pb, sb⟩ := hb
  exact ⟨_, pe_item_str pa pb hs, se_op fIxS_ok sa sb⟩
end
/-! for and if in a generator's body -/
section
open PySem.Spec PyProof.Rows GenW
section
variable {M : Model} {A : Around} {R : GenEnd} {Y : Protocol} {n : Nat} {s₀ : Shared} {c : Code} {fs : List Frame} {s : Shared} {env : Env} {K : Flow → Sem PySem.Fin} {J : Value → Sem PySem.Fin} {gd : Bool → Bool} {lv : List Value → List Value}
end
section
variable {prog : Program} {w : World} {A : Around} {R : GenEnd} {Y : Protocol} {n : Nat} {s₀ : Shared} {fs : List Frame} {s : Shared} {env : Env}
end
section
variable {X : Cx} {tg iter test : Expr} {body orelse : List Stmt} {pos : Pos} {wi : TI} {g : TG} {tb tc : TGn} {tt : TT}
end
end
/-! a generator's body: what it hands out stays on the stack, the rows that it walks lie below -/
section
variable {K : KC} {X : Cx} {T : KT} {md mdc : List Bool} {W : WX} {c : Cz} {σ : St} {H H' : Hp} {Γ τ : List Ent} {us bs ys vs : List V} {e b : Expr} {st : Stmt} {rest sts sts' : List Stmt} {g g' gb : GS} {ge gt gs ga : GE} {pos pos' : Pos} {n : Nat} {k : Nk} {tg iter : Expr} {bd : Ms → Option Ms} {body : List Stmt} {ts : List Tr}
end
/-! a generator def, and list(f(..)) of it -/
section
variable {K : KC} {X : Cx} {T : KT} {md mdc : List Bool} {W : WX} {c : Cz} {σ : St} {H H' : Hp} {Γ τ : List Ent} {us vs ws : List V} {n : Nat} {ts : List Tr}
variable {P : Program} {Wd : World} {Kf : PySem.W.Frag} {mg : Str → Option Value} {base : Heap}
variable {x nm : Str} {pp p0 pos pos0 : Pos} {e : Expr} {es : List Expr} {ga : GE} {kk : Nat} {f : Addr} {fd : FuncData} {ps : List Str} {G : GF} {is : List Nat}
end
/-! match over tuples: texts, names and _ -/
section
inductive Pit | tx (z : Str) | nm (i : Nat) | wl
variable {X : Cx}
inductive PtsR (X : Cx) : List Pattern → List Pit → Prop
  | nil : PtsR X [] []
  | tx {z : Str} {i : Nat} {p pos : Pos} {ps : List Pattern} {qs : List Pit} : PtsR X ps qs → PtsR X (.MatchValue (.Constant (.str z) i p) pos :: ps) (.tx z :: qs)
  | nm {x : Str} {i : Nat} {pos : Pos} {ps : List Pattern} {qs : List Pit} : X.N[i]? = some x → Loc X.env.scope x → (X.fn x = true ∨ X.env.scope.names.lookup x = some .local) → PtsR X ps qs → PtsR X (.MatchAs none (some x) pos :: ps) (.nm i :: qs)
  | wl {pos : Pos} {ps : List Pattern} {qs : List Pit} : PtsR X ps qs → PtsR X (.MatchAs none none pos :: ps) (.wl :: qs)
theorem PtsR.len {ps : List Pattern} {qs : List Pit} (h : PtsR X ps qs) : ps.length = qs.length := by
  induction h with
  | nil => rfl
  | tx _ ih => simp [ih]
  | nm _ _ _ _ ih => simp [ih]
  | wl _ ih => simp [ih]
/-! in the machine -/
variable {T : KT} {K : KC} {md : List Bool} {W : WX} {c : Cz} {σ : St} {H H' : Hp} {Γ τ : List Ent} {us vs : List V} {ts : List Tr}
end
/-! t * n, a tuple of plain values, once or more often -/
section
open PySem.Spec PyProof.Rows
variable {X : Cx}
end
section
variable {K : KC} {X : Cx} {T : KT} {md : List Bool} {W : WX} {c : Cz} {σ : St} {H : Hp} {Γ τ : List Ent} {us : List V} {ga gb : GE}
end
/-! list.clear, list.insert -/
section
variable {K : KC} {md : List Bool} {W : WX} {c : Cz} {σ : St} {H : Hp} {ts : List Tr} {t : Tr}
end
/-! f(e, ..) where one keyword-only parameter lacks: its default is a plain value -/
section
variable {K : KC} {X : Cx} {T : KT} {md mdc : List Bool} {W : WX} {is : List Nat} {G : GF} {n : Nat} {d : V}
variable {x : Str} {pp pos : Pos} {e : Expr} {es : List Expr} {ga : GE} {kk : Nat} {f : Addr} {fd : FuncData} {ps : List Str}
end
/-! calls with keywords that may raise; isinstance(e, (A, B)) of an error that was handed on -/
section
variable {K : KC} {X : Cx} {T : KT} {md mdc : List Bool} {W : WX} {is : List Nat} {G : GF} {n : Nat}
variable {x : Str} {pp pos : Pos} {e : Expr} {es : List Expr} {ga gk : GE} {kk : Nat} {f : Addr} {fd : FuncData} {ps ks : List Str} {kws : List Keyword} {sp : Sp} {CX : CXT}
end
/-! [a for a, b in xs]; sorted(set(xs)), any ints; [w[0] for w in d.values()] -/
section
variable {X : Cx} {T : KT} {md : List Bool} {W : WX} {ga gs : GE} {te : TE} {i j : Nat}
end
/-! sorted(set(xs)) of any whole numbers -/
section
variable {X : Cx}
variable {T : KT} {md : List Bool} {W : WX} {ga : GE}
end
/-! [w[0] for w in d.values()]: the values are tuples -/
section
variable {K : KC} {X : Cx} {T : KT} {md : List Bool} {W : WX} {gs : GE} {te : TE} {i : Nat} {c : Cz} {σ : St} {H : Hp} {Γ τ : List Ent} {us : List V}
end
/-! x in a list, both plain data (tuples of ints and texts at any depth) -/
section
variable {K : KC} {X : Cx} {md : List Bool} {W : WX}
end
/-! d.pop(k): d an own dict with int or text keys, k is there -/
section
variable {K : KC} {X : Cx} {T : KT} {md : List Bool} {W : WX} {c : Cz} {σ : St} {H : Hp} {Γ τ : List Ent} {us : List V} {go ga : GE} {oe e : Expr} {p : List Nat} {ks : List Key} {ts : List Tr} {vs : List V} {j : Nat} {t : Tr} {v : V}
end
/-! y = [a for a, b in xs] -/
section
variable {K : KC} {X : Cx} {T : KT} {md : List Bool} {W : WX} {gs : GE} {i j : Nat}
end
/-! targets that are tuples, as a machine; [e for k, v in d.items()], d lent or frozen -/
section
variable {K : KC} {X : Cx} {T : KT} {md : List Bool} {W : WX} {c : Cz} {σ : St} {H : Hp} {Γ τ : List Ent} {us : List V} {cv cv1 cv2 : List Nat} {i n : Nat} {t : TG} {u : TGs} {b b1 b2 bd : Ms → Option Ms} {gs gt ge : GE} {te : TE} {tt : TT}
end
/-! f-strings of texts and whole numbers; len(set(xs)) of whole numbers -/
section
variable {K : KC} {X : Cx} {T : KT} {md : List Bool} {W : WX} {ga g : GE} {e : Expr} {pos : Pos}
def gJs : List GE → Str → GE
  | [], acc => fun m => some (.ok ⟨m.g, .tr (.a (.str acc)) :: m.s⟩)
  | g :: gs, acc => fun m => match g m with
    | some (.ok ⟨g1, .tr (.a (.str y)) :: s1⟩) => if (acc ++ y).length ≤ sizeLine then gJs gs (acc ++ y) ⟨g1, s1⟩ else none
    | some (.ex C g1) => some (.ex C g1)
    | _ => none
inductive MJ (X : Cx) (T : KT) (md : List Bool) (W : WX) : List Expr → List GE → Prop where
  | nil : MJ X T md W [] []
  | cons {e : Expr} {g : GE} {es : List Expr} {gs : List GE} (h : ME X T md W e g) (r : MJ X T md W es gs) : MJ X T md W (e :: es) (g :: gs)
theorem MJ.run {es : List Expr} {gs : List GE} (h : MJ X T md W es gs) : ∃ ts, PJ X es ts ∧ ∀ (acc : Str) (c : Cz) (σ : St) (H : Hp) (m : Ms) (us : List V) (Q : Str → Hp → Prop) (rr : Rs), c.md = md → EnvOk (kcm X.K T) c σ H m.g m.s us → gJs gs acc m = some rr →
    PostE (kcm X.K T) c W σ us (fun v H1 => ∃ y, v = .str y ∧ Q y H1) rr → tJs ts acc σ H Q := by
  induction h with
  | nil =>
    refine ⟨[], .nil, fun acc c σ H m us Q rr hc E hg hp => ?_⟩
    simp only [gJs] at hg
    cases hg
    obtain ⟨y, e, q⟩ := hp _ _ (E.atom (.str acc))
    cases e
    exact q
  | @cons e g es gs he r ih =>
    obtain ⟨te, pe, se⟩ := he
    obtain ⟨ts, pj, ih⟩ := ih
    refine ⟨te :: ts, .cons pe pj, fun acc c σ H m us Q rr hc E hg hp => ?_⟩
    simp only [gJs] at hg
    split at hg
    · rename_i g1 y s1 h1
      split at hg
      · rename_i hb
        refine se c σ H m us _ _ hc E h1 fun x H1 E1 => ?_
        cases top_a E1
        exact ⟨y, rfl, hb, ih (acc ++ y) c σ H1 ⟨g1, s1⟩ us Q rr hc (E1.drop) hg hp⟩
      · cases hg
    · rename_i C g1 h1
      cases hg
      exact se c σ H m us _ _ hc E h1 hp
    · cases hg
end
section
variable {X : Cx} {T : KT} {md : List Bool} {W : WX} {ga : GE}
end
/-! defs with positional defaults -/
section
variable {K : KC} {X : Cx} {T : KT} {md mdc : List Bool} {W : WX} {c : Cz} {σ : St} {H H' : Hp} {Γ τ τ1 : List Ent} {us us1 vs vs' : List V} {v w : V} {p q : List Nat} {t : Tr} {ts ts' : List Tr} {k k' : Nk} {i j n d : Nat} {a : Addr} {en en' : Ent} {o : Ow}
variable {P : Program} {Wd : World} {Kf : PySem.W.Frag} {mg : Str → Option Value} {base : Heap}
end
section
variable {K : KC} {X : Cx} {T : KT} {md mdc : List Bool} {W : WX} {is : List Nat} {G : GF} {n : Nat} {d : V} {t : Tr}
variable {me : Str} {pos apos : Pos} {oe : Expr} {go : GE} {kk : Nat} {f C : Addr} {fd : FuncData} {ps : List Str} {CXk : CXT} {sp : Sp} {ta : TE} {Ew : St → XK} {pl : Sem Bool}
end
/-! x not in a list, both plain data at any depth -/
section
variable {K : KC} {X : Cx} {md : List Bool} {W : WX}
end
/-! list(reversed(xs)), any things that nobody owns -/
section
variable {K : KC} {X : Cx} {T : KT} {md : List Bool} {W : WX} {g : GE}
end
/-! classmethods: the class is a value, handed to the def as its first argument -/
section
variable {K : KC} {X : Cx} {CX : CXT} {T : KT} {md mdc : List Bool} {W : WX} {c : Cz} {σ : St} {H : Hp} {us : List V} {v : V} {i n kk : Nat} {g ga : GE} {e oe : Expr} {es : List Expr} {pos p apos : Pos} {x me : Str} {G : GF} {f C q : Addr} {mc : Value} {fd : FuncData} {ps : List Str} {is : List Nat} {t : TA} {E : XK} {sp : Sp} {dvs : List V} {ds : List Value} {pl : Sem Bool} {Γ τ : List Ent}
end
/-! list.reverse -/
section
variable {K : KC} {md : List Bool} {W : WX}
end
/-! {k: d[k] for k in d}, d a field, of things that may be copied -/
section
variable {K : KC} {X : Cx} {T : KT} {md mdc : List Bool} {W : WX} {c : Cz} {σ : St} {H : Hp} {us : List V} {i n j : Nat} {m : Ms} {g1 : List Ent} {en : Ent} {s1 : List Ent} {g : GE} {e : Expr} {fl : Str} {tab : List (Nat × Nat)}
end
/-! targets o[i], and tuples of any targets; del d[k] -/
section
variable {K : KC} {X : Cx} {T : KT} {md : List Bool} {W : WX} {c : Cz} {σ : St} {H : Hp} {us : List V} {i n : Nat} {t : TG} {u : TGs} {b b1 b2 : Ms → Option Ms} {go gi : GE} {to ti : TE} {o ie : Expr} {es : List Expr} {e : Expr} {pos : Pos}
end
/-! del d[k]: d an own dict, k is there -/
section
variable {K : KC} {X : Cx} {T : KT} {md : List Bool} {W : WX} {c : Cz} {σ : St} {H : Hp} {us : List V} {go gi : GE} {o ie : Expr} {pos tpos : Pos}
end
/-! errors with a field of their own: made, caught by clauses with and without names, their field read -/
section
open PySem.Spec PyProof.Rows L2N
variable {X : Cx} {pins : List (Addr × Obj)} {σ : L2.St} {H : Hp} {s : Shared}
variable {body : List Stmt} {h1 : ExceptHandler} {hr : List ExceptHandler} {pos : Pos} {tb : WX → L2.TS} {Wo : WX}
end
/-! the same by the machine -/
section
variable {X : Cx} {T : KT} {md : List Bool} {W : WX} {c : Value} {gb : GS} {body : List Stmt} {pos : Pos}
/-- an error's own dict on the stack -/
def exS (ef : Nat → Option (Str × Str)) (C : Nat) (d : Addr) : List Ent := match ef C with
  | none => []
  | some (f, x) => [.tr (xdT d f x)]
def exU (ef : Nat → Option (Str × Str)) (C : Nat) (d : Addr) : List V := match ef C with
  | none => []
  | some _ => [.ref d]
def exD (ef : Nat → Option (Str × Str)) (C : Nat) (d : Addr) : Option Addr := match ef C with
  | none => none
  | some _ => some d
theorem EnvX.put {K : KC} {cz : Cz} {C : Nat} {σ : St} {H : HX} {Γ : List Ent} (E : EnvX K cz C σ H Γ [] []) : ∃ d, H.2 = exD K.ef C d ∧ EnvOk K cz σ H.1 Γ (exS K.ef C d) (exU K.ef C d) := by
  unfold EnvX at E
  unfold exD exS exU
  cases e : K.ef C with
  | none =>
    rw [e] at E
    exact ⟨0, E⟩
  | some p =>
    rw [e] at E
    obtain ⟨d, h1, h2⟩ := E
    exact ⟨d, h1, h2⟩
structure SxOk (X : Cx) (T : KT) (md : List Bool) (c : Value) (sts : List Stmt) (tab : List (Nat × Bool)) (gsu : Nat → Addr → Addr → GS) : Prop where
  ma : ∀ C b, tab.lookup C = some b → PySem.W.exmOne X.K (.ref (T.et C)) c = some b
  su : ∀ C, tab.lookup C = some true → ∀ (a d : Addr) (oe : Obj) (pn : List (Addr × Obj)), L2N.Zn (.ref (T.et C)) (exD T.ef C d) oe → (∃ vs, oe.data = .fields vs) → MSs (X.suite a ((a, oe) :: pn)) T md WF sts (gsu C a d)
/-- what a suite does, as the wish of a clause -/
def tsX (X : Cx) (T : KT) (md : List Bool) (tab : List (Nat × Bool)) (gsu : Nat → Addr → Addr → GS) : Addr → Value → Option Addr → L2.TS := fun a cls d D σ H => ∃ C da, tab.lookup C = some true ∧ cls = .ref (T.et C) ∧ d = exD T.ef C da ∧ wpS (kcm X.K T) md WF (gsu C a da) D σ H
inductive ClX (X : Cx) (T : KT) (md : List Bool) : List ExceptHandler → List (Value × Option Nat × (Addr → Value → Option Addr → L2.TS)) → List (List (Nat × Bool) × Option Nat × (Nat → Addr → Addr → GS)) → Prop
  | nil : ClX X T md [] [] []
  | no {x : Str} {c : Value} {tab : List (Nat × Bool)} {gsu : Nat → Addr → Addr → GS} {b0 : Stmt} {bs : List Stmt} {p1 p2 : Pos} {hs : List ExceptHandler} {l : List (Value × Option Nat × (Addr → Value → Option Addr → L2.TS))} {cl : List (List (Nat × Bool) × Option Nat × (Nat → Addr → Addr → GS))} (hc : Names X x c)
      (su : SxOk X T md c (b0 :: bs) tab gsu) (r : ClX X T md hs l cl) : ClX X T md (.ExceptHandler (some (.Name x p1)) none (b0 :: bs) p2 :: hs) ((c, none, tsX X T md tab gsu) :: l) ((tab, none, gsu) :: cl)
  | as {x n : Str} {i : Nat} {c : Value} {tab : List (Nat × Bool)} {gsu : Nat → Addr → Addr → GS} {b0 : Stmt} {bs : List Stmt} {p1 p2 : Pos} {hs : List ExceptHandler} {l : List (Value × Option Nat × (Addr → Value → Option Addr → L2.TS))} {cl : List (List (Nat × Bool) × Option Nat × (Nat → Addr → Addr → GS))} (hc : Names X x c)
      (hN : X.N.Nodup) (hi : X.N[i]? = some n) (hln : X.env.kindOf n = some .local)
      (su : SxOk X T md c (b0 :: bs) tab gsu) (r : ClX X T md hs l cl) : ClX X T md (.ExceptHandler (some (.Name x p1)) (some n) (b0 :: bs) p2 :: hs) ((c, some i, tsX X T md tab gsu) :: l) ((tab, some i, gsu) :: cl)
end
/-! an error with a field is made and raised; its field is read in a suite -/
section
open PySem.Spec PyProof.Rows L2N
variable {X : Cx} {pins : List (Addr × Obj)} {σ : L2.St} {H : Hp} {s : Shared}
variable {P : Program} {Wd : World} {Kf : PySem.W.Frag} {mg : Str → Option Value} {base : Heap}
end
section
variable {K : KC} {X : Cx} {T : KT} {md : List Bool} {W : WX} {c : Cz} {σ : St} {H : Hp} {Γ τ : List Ent} {us : List V} {e : Expr} {pos : Pos}
end
/-! methods called with keywords, and methods whose one keyword-only parameter lacks -/
section
variable {K : KC} {X : Cx} {T : KT} {md mdc : List Bool} {W : WX} {is : List Nat} {G : GF} {n : Nat} {d : V}
variable {me : Str} {pos apos : Pos} {oe e : Expr} {es : List Expr} {go ga gk : GE} {kk : Nat} {f C : Addr} {fd : FuncData} {ps ks : List Str} {kws : List Keyword} {CXk : CXT} {sp : Sp} {ta : TE} {tA tK : TA} {Ew : St → XK} {pl : Sem Bool}
end
/-! a method with ghosts, aliases on the stack live on too -/
section
variable {K : KC} {X : Cx} {T : KT} {md mdc : List Bool} {W : WX} {G : GG} {n : Nat}
variable {me : Str} {pos apos : Pos} {oe e : Expr} {es : List Expr} {go ga : GE} {kk : Nat} {f : Addr} {fd : FuncData} {ps : List Str} {pl : Sem Bool}
end
/-! for c in a text -/
section
variable {X : Cx} {T : KT} {md : List Bool} {W : WX} {ga : GE} {bd : Ms → Option Ms} {gb : GS} {tg e : Expr} {body : List Stmt} {pos : Pos} {K : KC} {c : Cz} {us : List V} {σ : St} {H : Hp}
/-- the signs of a text, each a text -/
def signsT (x : Str) : List Str := x.cps.toList.map fun c => ⟨#[c]⟩
end
/-! equal dicts of plain values, whatever the order of their keys -/
section
open PySem.Spec PyProof.Rows
variable {X : Cx} {K : KC} {md : List Bool} {W : WX}
end
/-! what is not looked into: the value on top is forgotten, its place stays -/
section
variable {K : KC} {X : Cx} {T : KT} {md : List Bool} {W : WX} {e : Expr} {g : GE} {c : Cz} {σ : St} {H : Hp} {Γ τ : List Ent} {us : List V}
end
/-! powers of whole numbers -/
section
variable {X : Cx} {T : KT} {md : List Bool} {W : WX} {a b : Expr} {ga gb : GE} {pos : Pos}
end
/-! str(i), i a whole number -/
section
variable {K : KC} {md : List Bool} {W : WX}
end
/-! C(e, .., k = v, ..) whose __init__ may raise -/
section
variable {K : KC} {X : Cx} {T : KT} {md mdc : List Bool} {W : WX} {g ga gk : GE} {e oe : Expr} {es : List Expr} {kws : List Keyword} {pos pp p : Pos} {x : Str} {G : GF} {kk n : Nat} {f C : Addr} {fd : FuncData} {ps ks : List Str} {sp : Sp} {t tk : TA} {CXk : CXT} {Ew : St → XK} {gg : List Value → List Value → List Value} {gV : List V → List V → List V}
end
/-! one sign in a text -/
section
variable {K : KC} {md : List Bool} {W : WX}
def rSgn (neg : Bool) : R2 := fun x y H Q => ∃ (c : Nat) (z : Str), x = .str ⟨#[c]⟩ ∧ y = .str z ∧ Q (.bl (if neg then !decide (c ∈ z.cps.toList) else decide (c ∈ z.cps.toList))) H
def FInSg (neg : Bool) : Tr → Tr → Option V
  | .a (.str ⟨⟨[c]⟩⟩), .a (.str z) => some (.bl (if neg then !decide (c ∈ z.cps.toList) else decide (c ∈ z.cps.toList)))
  | _, _ => none
def fInSg : GE := fP2 (FInSg false)
theorem fInSg_ok {neg : Bool} : RA2 K md W (rSgn neg) (fP2 (FInSg neg)) := fP2_ok fun Z H x y tx ty u Φ Ψ Q r1 r2 e q => by
  unfold FInSg at e
  split at e
  · rename_i c z
    cases e
    exact ⟨c, z, r1.1, r2.1, q⟩
  · cases e
theorem op_insg {X : Cx} : OpR X (compareOp .In) (rSgn false) := op_in_sign
end
/-! int(text) -/
section
variable {K : KC} {md : List Bool} {W : WX}
end
/-! a tuple that is not looked into -/
section
variable {K : KC} {X : Cx} {T : KT} {md : List Bool} {W : WX} {e : Expr} {g : GE}
end
/-! a text times a whole number -/
section
variable {K : KC} {X : Cx} {T : KT} {md : List Bool} {W : WX} {a b : Expr} {ga gb : GE} {pos : Pos}
end
/-! s.replace("a", "b") of written texts in a def's body: a token is out there -/
section
variable {K : KC} {X : Cx} {T : KT} {md : List Bool} {W : WX} {c : Cz} {σ : St} {H : Hp} {us : List V} {m : Ms} {go ge g f gt : GE} {g1 g2 : GS} {o e : Expr} {es : List Expr} {st : Stmt} {sts sts' rest : List Stmt} {pos pos' apos c0 c1 : Pos} {y z : Str} {j k : Nat} {rr : Rs} {x : V}
def MET (X : Cx) (T : KT) (md : List Bool) (W : WX) (e : Expr) (g : GE) : Prop := ∃ t, PET X e t ∧ SE (kcm X.K T) md W t g
def MAT (X : Cx) (T : KT) (md : List Bool) (W : WX) (es : List Expr) (g : GE) : Prop := ∃ t, PAT X es t ∧ SA (kcm X.K T) md W es.length t g
def MST (X : Cx) (T : KT) (md : List Bool) (W : WX) (st : Stmt) (g : GS) : Prop := ∃ t, PST X st t ∧ SS (kcm X.K T) md W t g
def MSsT (X : Cx) (T : KT) (md : List Bool) (W : WX) (sts : List Stmt) (g : GS) : Prop := ∃ t, PSsT X sts t ∧ SS (kcm X.K T) md W t g
theorem met_of (h : ME X T md W e g) : MET X T md W e g := by
  obtain ⟨t, p, s⟩ := h
  exact ⟨t, CwR.PET.of p, s⟩
theorem mst_of (h : MS X T md W st g1) : MST X T md W st g1 := by
  obtain ⟨t, p, s⟩ := h
  exact ⟨t, PST.of p, s⟩
theorem msst_of (h : MSs X T md W sts g1) : MSsT X T md W sts g1 := by
  obtain ⟨t, p, s⟩ := h
  exact ⟨t, PSsT.of p, s⟩
theorem topA147 {v : V} {τ : List Ent} (E : EnvOk K c σ H m.g (.tr (.a v) :: τ) (x :: us)) : x = v := by
  obtain ⟨Z, ws, Φ, Ψ, EE⟩ := id E
  obtain ⟨Θ, h1, h2⟩ := EE.view (n := 0) rfl rfl (show viewE m.g (.tr (.a v)) = some _ from rfl)
  exact h1
def fRepl (y z : Str) : GE := fun m => match m.s with
  | .tr (.a (.str x)) :: s => if x.length + (x.length + 1) * z.length ≤ 16777216 then some (.ok ⟨m.g, .tr (.a (.str (Txt.replace x y z))) :: s⟩) else none
  | _ => none
theorem met_repl (ho : ME X T md W o go) (hyz : (y == z) = false := by decide)
    (hst : starEach [.Constant (.str y) j c0, .Constant (.str z) k c1] X.env = [(false, eval (.Constant (.str y) j c0) X.env), (false, eval (.Constant (.str z) k c1) X.env)] := by rfl)
    (hbase : attributeBase o "replace" X.env (eval o X.env) = eval o X.env := by rfl) (hline : (apos.endLine == pos.line) = true := by rfl) :
    MET X T md W (.Call (.Attribute o "replace" apos) [.Constant (.str y) j c0, .Constant (.str z) k c1] [] pos) (gSeq go (fRepl y z)) := by
  obtain ⟨t, p, s⟩ := ho
  refine ⟨_, CwR.pet_replC p hyz hst hbase hline, fun c σ H m us Q rr hc E hg hp => ?_⟩
  simp only [gSeq] at hg
  split at hg
  · rename_i m1 h1
    refine s c σ H m us _ _ hc E h1 fun x H1 E1 => ?_
    unfold fRepl at hg
    split at hg
    · rename_i x' s' hs
      split at hg
      · rename_i hb
        cases hg
        rw [hs] at E1
        have hx := topA147 E1
        subst hx
        exact ⟨x', rfl, hb, hp _ H1 (E1.drop.atom _)⟩
      · cases hg
    · cases hg
  · rename_i h1
    refine s c σ H m us _ _ hc E hg ?_
    cases rr with
    | ex C g' => exact hp
    | ok m2 => exact absurd hg (h1 m2)
theorem mat_nil : MAT X T md W [] gNil := ⟨_, pat_nil, fun c σ H m us Q rr hc E hg hp => by
  cases hg
  exact hp [] H rfl E⟩
theorem mat_cons (ha : MET X T md W e g) (hr : MAT X T md W es f) (hs : starEach (e :: es) X.env = (false, eval e X.env) :: starEach es X.env := by rfl) : MAT X T md W (e :: es) (gSeq g f) := by
  obtain ⟨t, p, s⟩ := ha
  obtain ⟨t', p', s'⟩ := hr
  refine ⟨_, pat_cons p p' hs, fun c σ H m us Q rr hc E hg hp => ?_⟩
  simp only [gSeq] at hg
  split at hg
  · rename_i m1 h1
    refine s c σ H m us _ _ hc E h1 fun x H1 E1 => s' c σ H1 m1 _ _ _ hc E1 hg ?_
    cases rr with
    | ex C g' => exact hp
    | ok m2 => exact fun vs H2 hl E2 => hp (x :: vs) H2 (by simp [hl]) (by simpa using E2)
  · rename_i h1
    refine s c σ H m us _ _ hc E hg ?_
    cases rr with
    | ex C g' => exact hp
    | ok m2 => exact absurd hg (h1 m2)
theorem pet_tup {x1 : Nat} {t : TA} (h : PAT X es t) : PET X (.Tuple es x1 pos) (tTup t) := by
  intro pins s σ H Q h0 I hq
  refine wpAny_Tuple_spliced (thn (h pos pins s σ H _ h0 I hq) fun us s1 ⟨xs, H1, I1, r, z, q⟩ => ⟨by rw [← r.length]; exact z, ?_⟩)
  have hf : H1 s1.heap.objs.size = none := I1.hok.fresh (Nat.le_refl _)
  refine ⟨.ref s1.heap.objs.size, upd H1 s1.heap.objs.size (.tup xs), I1.laid (t' := s1.toks) (fun b u e => Heap.get?_push_of_some _ e) (Nat.le_refl _) ?_, rfl, q _ hf⟩
  exact ⟨z, us, r, ⟨_, Heap.get?_push_size _ rfl, rfl, _, rfl⟩⟩
theorem met_tup {x1 : Nat} (h : MAT X T md W es g) (hl : es.length ≤ sizeLine) : MET X T md W (.Tuple es x1 pos) (gSeq g (fNew .tup es.length)) := by
  obtain ⟨t, p, s⟩ := h
  refine ⟨_, pet_tup p, fun c σ H m us Q rr hc E hg hp => ?_⟩
  simp only [gSeq] at hg
  split at hg
  · rename_i m1 h1
    exact s c σ H m us _ _ hc E h1 fun vs H1 hv E1 => ⟨by omega, fNew_ok E1 hv hg hp fun o pa => .inl upd_same⟩
  · rename_i h1
    refine s c σ H m us _ _ hc E hg ?_
    cases rr with
    | ex C g' => exact hp
    | ok m2 => exact absurd hg (h1 m2)
theorem msst_cons (h1 : MST X T md W st g1) (h2 : MSsT X T md W rest g2) : MSsT X T md W (st :: rest) (sSeq g1 g2) := by
  obtain ⟨t, p, s⟩ := h1
  obtain ⟨t', p', s'⟩ := h2
  refine ⟨_, psst_cons p p', fun c σ H m us D o hc E hg hp => ?_⟩
  simp only [sSeq] at hg
  split at hg
  · rename_i m1 h1
    exact s c σ H m us _ _ hc E h1 fun σ' H' E' => s' c σ' H' m1 us D o hc E' hg hp
  · rename_i h1
    refine s c σ H m us _ _ hc E hg ?_
    cases o with
    | nx m' => exact absurd hg (h1 m')
    | rt t m' => exact hp
    | bk m' => exact hp
    | ct m' => exact hp
    | ex C g => exact hp
theorem mst_ret (h : MET X T md W e ge) : MST X T md W (.Return (some e) pos) (sRet ge) := by
  obtain ⟨t, p, s⟩ := h
  refine ⟨_, CwR.pst_ret p, fun c σ H m us D o hc E hg hp => ?_⟩
  simp only [sRet] at hg
  split at hg
  · rename_i h1
    cases hg
    exact s c σ H m us _ _ hc E h1 fun x H1 E1 => hp σ x H1 E1
  · rename_i h1
    cases hg
    exact s c σ H m us _ _ hc E h1 fun H1 E1 => hp σ H1 E1
  · cases hg
theorem mst_if (hc : MT X T md W e gt) (ha : MSsT X T md W sts g1) (hb : MSsT X T md W sts' g2) : MST X T md W (.If e sts sts' pos) (sIf gt g1 g2) := by
  obtain ⟨tc, pc, sc⟩ := hc
  obtain ⟨t, p, s⟩ := ha
  obtain ⟨t', p', s'⟩ := hb
  refine ⟨_, CwR.pst_if pc p p', fun c σ H m us D o hm E hg hp => ?_⟩
  simp only [sIf] at hg
  split at hg
  · rename_i h1
    exact sc c σ H m us _ _ hm E h1 fun H' E' => iteT (s c σ H' _ us D o hm E' hg hp)
  · rename_i h1
    exact sc c σ H m us _ _ hm E h1 fun H' E' => iteF (s' c σ H' _ us D o hm E' hg hp)
  · rename_i h1
    cases hg
    exact sc c σ H m us _ _ hm E h1 fun H' E' => hp σ H' E'
  · cases hg
theorem mst_set {i : Nat} {x : Str} (hN : X.N.Nodup) (hi : X.N[i]? = some x) (hx : Loc X.env.scope x) (h : MET X T md W e ge) (hs : swapsWith e (some (.Name x pos')) pos.line X.env = pure false := by rfl)
    (hf : X.fn x = true ∨ X.env.scope.names.lookup x = some .local := by first | exact .inl rfl | exact .inr rfl | assumption) : MST X T md W (.Assign [.Name x pos'] e pos) (sSet md i ge) := by
  obtain ⟨t, p, s⟩ := h
  refine ⟨_, fun pins sh σ H D h0 I hq => ?_, ss_set s⟩
  refine wpAny_Assign_Name (thn (p pins sh σ H _ h0 I hq) fun v s1 ⟨y, H1, I1, r1, q1⟩ => ?_) hs
  exact store_ok I1 hN hi hx r1 (fun s2 I2 => ⟨_, H1, I2, q1⟩) hf
end
section
variable {P : Program} {Wd : World} {Kf : PySem.W.Frag} {mg : Str → Option Value} {base : Heap} {T : KT} {md : List Bool} {W : WX}
theorem fn_simT {x qual : Str} {st : Stmt} {f : Addr} {fd : FuncData} {N ps : List Str} {k : Nat} {g : GS} (F : Fun Kf x qual st f fd) (S : FnScope N ps (defScope st)) (hps : ps.length = md.length) (hN : ps.length ≤ N.length) (h1 : 1 ≤ ps.length) (hnc : ∀ y ∈ (defScope st).names, y.2 ≠ .cell)
    (body : ∀ (cdv : Value) (A : Around) (outer : List Env) (s : Shared) (H : Hp) (E : XK), Room k (A.deeper (PyProof.Rows.envOfC qual (defScope st) s.heap.objs.size f cdv)) →
      MSsT (cxOf (L2N.CX P Wd) P Wd Kf mg base N qual (defScope st) f cdv A outer s H E) T md (fun cls d _ H => E cls d H) (defBody st) g) :
    FnOk P Wd Kf mg base (L2N.CX P Wd) (k + 1) f fd ps (spOf (kcm Kf T) md (runF md N.length g)) := by
  obtain ⟨oc, od, kV, doc, pm, an, cdv, ct, osl, rfl, inK, cdOk⟩ := F.ex
  refine L2.fn_ofT inK cdOk S hnc h1 (fun vs H Q E h => ?_) (fun A outer s H vs Q E hr h => ?_)
  · obtain ⟨ts, Z, F, o, r, hm, _⟩ := h
    have h1 := RepL.len _ r
    have h2 := mdOk_len hm
    omega
  · obtain ⟨ts, Z, F, o, r, hm, zo, zs, hG, hp⟩ := h
    have h1 := RepL.len _ r
    have h2 := mdOk_len hm
    obtain ⟨t, pt, sim⟩ := body cdv A outer s H E hr
    refine ⟨t, pt, ?_⟩
    have E0 := start_ok (K := kcm Kf T) (N := N) (md := md) r (by omega) h2 zo zs
    simp only [runF] at hG
    cases hg : g ⟨ts.map Ent.tr ++ List.replicate (N.length - ts.length) .no, []⟩ with
    | none => simp [hg] at hG
    | some oo =>
      refine sim ⟨H, F, Z.fz, md, vs⟩ (start N vs) H ⟨ts.map Ent.tr ++ List.replicate (N.length - ts.length) Ent.no, []⟩ [] _ oo rfl E0 hg ?_
      cases oo with
      | nx m =>
        simp only [hg] at hG
        split at hG
        · rename_i he
          cases hG
          intro σ' H' E1
          have hnil : m.s = [] := by have := tail_len E1; simpa using this
          rw [hnil] at E1
          obtain ⟨S', F1, r1, cl⟩ := exit_ok (RepL.isS _ r) (by omega) (E1.atom .non) (by simp [escL, esc, Ent.tree]) he
          exact hp .non H' S' F1 r1 cl
        · cases hG
      | rt tt m =>
        simp only [hg] at hG
        split at hG
        · rename_i he
          cases hG
          intro σ' v H' E1
          have hnil : m.s = [] := by have := tail_len E1; simpa using this
          rw [hnil] at E1
          obtain ⟨S', F1, r1, cl⟩ := exit_ok (RepL.isS _ r) (by omega) E1 (by simp [escL, Ent.tree, he.1]) he.2
          exact hp v H' S' F1 r1 cl
        · cases hG
      | ex C g' =>
        simp only [hg] at hG
        split at hG
        · rename_i he
          cases hG
          intro σ' H' E1
          obtain ⟨S', F1, r1, cl⟩ := exitX_ok (RepL.isS _ r) (by omega) E1 he
          exact hp H' S' F1 r1 cl
        · cases hG
      | bk m => simp [hg] at hG
      | ct m => simp [hg] at hG
end
/-! [elt for c in a text if ..] -/
section
variable {K : KC} {X : Cx} {T : KT} {md : List Bool} {W : WX} {c : Cz} {σ : St} {H : Hp} {us : List V} {D : Addr} {n i : Nat} {m m' : Ms} {ge gt ga : GE} {e elt cnd tg : Expr} {bd : Ms → Option Ms} {cv : List Nat} {gT : TG} {tt : TT} {te : TE} {pos : Pos} {scope : Scope} {x : Str}
def lcS (cv : List Nat) (bd : Ms → Option Ms) (gt ge : GE) : List Str → Ms → Option Ms
  | [], m => some m
  | k :: ks, m => match lcTurn cv bd gt ge 0 ⟨m.g, .tr (.a (.str k)) :: m.s⟩ with
    | some m' => lcS cv bd gt ge ks m'
    | none => none
theorem lcS_ok {y : Str} {Q : VK} (hm : c.md = md) (hT : SGW K md cv gT bd) (hTt : ST K md WF tt gt) (hTe : SE K md WF te ge) {m : Ms} (E : EnvOk K c (wipe σ cv) H m.g m.s (.ref D :: us)) (hg : lcS cv bd gt ge (signsT y) m = some m') (hQ : ∀ H', EnvOk K c (wipe σ cv) H' m'.g m'.s (.ref D :: us) → Q (.ref D) H') :
    ∃ Wv : Nat → Nat → Hp → Prop, (∃ mm, Wv 0 mm H) ∧ ∀ i mm H, Wv i mm H →
      ((Its y).stop i H ∧ Q (.ref D) H) ∨ ((Its y).go i H ∧ ∃ Nx : Hp → Prop, (∀ H', Nx H' → ∃ m', m' < mm ∧ Wv (i + 1) m' H') ∧ ∀ x H', (Its y).yld i H x H' → gT x (wipe σ cv) H' fun σ2 H2 => wipe σ2 cv = wipe σ cv ∧ tt σ2 H2 fun b H3 =>
        if b = true then te σ2 H3 fun y H4 => ∃ acc, H4 D = some (.lst acc) ∧ acc.length < sizeLine ∧ Nx (upd H4 D (.lst (acc ++ [y]))) else Nx H3) := by
  have hlen : (signsT y).length = y.cps.size := by unfold signsT; rw [List.length_map, Array.length_toList]
  refine ⟨fun i r H => i + r = y.cps.size ∧ ∃ m : Ms, EnvOk K c (wipe σ cv) H m.g m.s (.ref D :: us) ∧ lcS cv bd gt ge ((signsT y).drop i) m = some m', ⟨y.cps.size, by omega, m, E, by simpa using hg⟩, ?_⟩
  rintro i r H ⟨hir, m, E, hg⟩
  cases r with
  | zero =>
    rw [List.drop_eq_nil_of_le (by omega)] at hg
    cases hg
    exact .inl ⟨by show y.cps.size ≤ i; omega, hQ H E⟩
  | succ r =>
    have hi : i < (signsT y).length := by omega
    rw [List.drop_eq_getElem_cons hi] at hg
    simp only [lcS] at hg
    split at hg
    · rename_i m1 h1
      refine .inr ⟨by show i < y.cps.size; omega, fun H' => i + 1 + r = y.cps.size ∧ ∃ m : Ms, EnvOk K c (wipe σ cv) H' m.g m.s (.ref D :: us) ∧ lcS cv bd gt ge ((signsT y).drop (i + 1)) m = some m', fun H' z => ⟨r, by omega, z⟩, fun x H' hy => ?_⟩
      obtain ⟨rfl, cp, hcp, rfl⟩ := hy
      have ek : (signsT y)[i] = ⟨#[cp]⟩ := by
        have h3 : (signsT y)[i]? = some ⟨#[cp]⟩ := by
          unfold signsT
          rw [List.getElem?_map, Array.getElem?_toList, hcp]
          rfl
        rw [List.getElem?_eq_getElem hi] at h3
        exact Option.some.inj h3
      rw [ek] at h1
      exact lcTurn_ok (d := 0) hm hT hTt hTe (E.atom _) rfl h1 fun H2 E2 => ⟨by omega, m1, E2, hg⟩
    · cases hg
def gLcS (cv : List Nat) (ga : GE) (bd : Ms → Option Ms) (gt ge : GE) : GE := fun m => match ga m with
  | some (.ok ⟨g', .tr (.a (.str x)) :: s⟩) => if allNo g' cv = true then match lcS cv bd gt ge (signsT x) ⟨g', .tr (.nd .lst .own []) :: s⟩ with
      | some m3 => if allNo m3.g cv = true then some (.ok m3) else none
      | none => none
    else none
  | some (.ex C g) => some (.ex C g)
  | _ => none
theorem se_lcS {ta : TE} (sa : SE K md W ta ga) (hT : SGW K md cv gT bd) (hTt : ST K md WF tt gt) (hTe : SE K md WF te ge) : SE K md W (tLc (iStr ta) gT tt te cv) (gLcS cv ga bd gt ge) := by
  intro c σ H m us Q rr hm E hg hp
  simp only [gLcS] at hg
  split at hg
  · rename_i g' x s h1
    split at hg
    · rename_i hb
      split at hg
      · rename_i m3 h3
        split at hg
        · rename_i hn2
          cases hg
          refine sa c σ H m us _ _ hm E h1 fun v H1 E1 => ?_
          have E1 : EnvOk K c σ H1 g' (.tr (.a (.str x)) :: s) (v :: us) := E1
          cases top_a E1
          refine ⟨x, rfl, fun D hD => ?_⟩
          exact lcS_ok hm hT hTt hTe (m := ⟨g', .tr (.nd .lst .own []) :: s⟩) ((toW E1.drop hb).empty hD) h3 fun H' E4 => hp _ H' (fromW E4 hn2)
        · cases hg
      · cases hg
    · cases hg
  · rename_i h1
    cases hg
    exact sa c σ H m us _ _ hm E h1 hp
  · cases hg
theorem me_lcS {i : Nat} {x : Str} (ha : ME X T md W e ga) (ok : BlkOk X.N X.env.scope scope [(x, i)]) (hg : ∀ (s : Shared) (H : Hp) (C : Addr) (cl : List (Str × Addr)) (fp : List Addr), PG (X.blk s H scope (compEnvC scope cl C X.env) fp) tg (gName i))
    (ht : ∀ (s : Shared) (H : Hp) (C : Addr) (cl : List (Str × Addr)) (fp : List Addr), MT (X.blk s H scope (compEnvC scope cl C X.env) fp) T md WF cnd gt) (he : ∀ (s : Shared) (H : Hp) (C : Addr) (cl : List (Str × Addr)) (fp : List Addr), ME (X.blk s H scope (compEnvC scope cl C X.env) fp) T md WF elt ge)
    (hc : X.calm = true) (hN : X.N.Nodup) (hf : ∀ x, foldedSetIterable e X.env x = pure x := by intro _; rfl) : ME X T md W (.ListComp elt [⟨tg, e, [cnd], 0⟩] scope pos) (gLcS [i] ga (bind md i) gt ge) := by
  obtain ⟨ti, pi, si⟩ := ha
  exact ⟨_, pe_lc (te := wpE (kcm X.K T) md WF ge) (tt := wpT (kcm X.K T) md WF gt) hc hN (pi_str pi) ok hg (fun s H C cl fp => pts_one (ht s H C cl fp).pt) (fun s H C cl fp => (he s H C cl fp).pe) hf, se_lcS si sgw_name st_wp se_wp⟩
end
theorem sc_kind_c : FnScope ["standing", "k", "c"] ["standing"] (defScope s_kind_c) := ⟨rfl, rfl, rfl, by decide +kernel, rfl, by decide +kernel, by decide +kernel⟩
theorem sc_kind_r : FnScope ["standing", "r"] ["standing"] (defScope s_kind_r) := ⟨rfl, rfl, rfl, by decide +kernel, rfl, by decide +kernel, by decide +kernel⟩
theorem sc_content_c : FnScope ["standing"] ["standing"] (defScope s_content_c) := ⟨rfl, rfl, rfl, by decide +kernel, rfl, by decide +kernel, by decide +kernel⟩
theorem sc_content_r : FnScope ["standing"] ["standing"] (defScope s_content_r) := ⟨rfl, rfl, rfl, by decide +kernel, rfl, by decide +kernel, by decide +kernel⟩
theorem sc_is_due : FnScope ["standing"] ["standing"] (defScope s_is_due) := ⟨rfl, rfl, rfl, by decide +kernel, rfl, by decide +kernel, by decide +kernel⟩
theorem sc_is_standing : FnScope ["signs", "at", "sign", "k", "c", "r", "h", "g", "y", "base"] ["signs"] (defScope s_is_standing) := ⟨rfl, rfl, rfl, by decide +kernel, rfl, by decide +kernel, by decide +kernel⟩
theorem sc_after_takel : FnScope ["standing", "book", "k", "c", "r", "h", "g", "y"] ["standing", "book"] (defScope s_after_takel) := ⟨rfl, rfl, rfl, by decide +kernel, rfl, by decide +kernel, by decide +kernel⟩
theorem sc_after_takep : FnScope ["standing", "book", "k", "c", "r", "h", "g", "y"] ["standing", "book"] (defScope s_after_takep) := ⟨rfl, rfl, rfl, by decide +kernel, rfl, by decide +kernel, by decide +kernel⟩
theorem sc_waits : FnScope ["standing", "book"] ["standing", "book"] (defScope s_waits) := ⟨rfl, rfl, rfl, by decide +kernel, rfl, by decide +kernel, by decide +kernel⟩
theorem sc_home_without_r : FnScope ["h"] ["h"] (defScope s_home_without_r) := ⟨rfl, rfl, rfl, by decide +kernel, rfl, by decide +kernel, by decide +kernel⟩
theorem sc_after_change : FnScope ["standing", "book", "k", "c", "r", "h", "g", "y"] ["standing", "book"] (defScope s_after_change) := ⟨rfl, rfl, rfl, by decide +kernel, rfl, by decide +kernel, by decide +kernel⟩
theorem sc_after_free : FnScope ["standing", "book", "k", "c", "r", "h", "g", "y"] ["standing", "book"] (defScope s_after_free) := ⟨rfl, rfl, rfl, by decide +kernel, rfl, by decide +kernel, by decide +kernel⟩
theorem sc_after_close : FnScope ["standing", "book", "k", "c", "r", "h", "g", "y"] ["standing", "book"] (defScope s_after_close) := ⟨rfl, rfl, rfl, by decide +kernel, rfl, by decide +kernel, by decide +kernel⟩
theorem sc_after_copy : FnScope ["standing", "book", "k", "c", "r", "h", "g", "y"] ["standing", "book"] (defScope s_after_copy) := ⟨rfl, rfl, rfl, by decide +kernel, rfl, by decide +kernel, by decide +kernel⟩
theorem sc_log_after_mark : FnScope ["standing", "book", "k", "c", "r", "h", "g", "y", "struck"] ["standing", "book"] (defScope s_log_after_mark) := ⟨rfl, rfl, rfl, by decide +kernel, rfl, by decide +kernel, by decide +kernel⟩
theorem sc_after_mark : FnScope ["standing", "book", "k", "c", "r", "h", "g", "y"] ["standing", "book"] (defScope s_after_mark) := ⟨rfl, rfl, rfl, by decide +kernel, rfl, by decide +kernel, by decide +kernel⟩
theorem sc_after_home : FnScope ["standing", "book", "k", "c", "r", "h", "g", "y"] ["standing", "book"] (defScope s_after_home) := ⟨rfl, rfl, rfl, by decide +kernel, rfl, by decide +kernel, by decide +kernel⟩
theorem sc_after_early : FnScope ["standing", "book", "k", "c", "r", "h", "g", "y", "content"] ["standing", "book"] (defScope s_after_early) := ⟨rfl, rfl, rfl, by decide +kernel, rfl, by decide +kernel, by decide +kernel⟩
theorem sc_after_words : FnScope ["standing", "book", "k", "c", "r", "h", "g", "y", "content", "kept"] ["standing", "book"] (defScope s_after_words) := ⟨rfl, rfl, rfl, by decide +kernel, rfl, by decide +kernel, by decide +kernel⟩
theorem sc_after_room : FnScope ["standing", "book", "k", "c", "r", "h", "g", "y"] ["standing", "book"] (defScope s_after_room) := ⟨rfl, rfl, rfl, by decide +kernel, rfl, by decide +kernel, by decide +kernel⟩
theorem sc_after_told : FnScope ["standing", "book"] ["standing", "book"] (defScope s_after_told) := ⟨rfl, rfl, rfl, by decide +kernel, rfl, by decide +kernel, by decide +kernel⟩
theorem sc_after : FnScope ["standing", "letter", "book", "step"] ["standing", "letter", "book"] (defScope s_after) := ⟨rfl, rfl, rfl, by decide +kernel, rfl, by decide +kernel, by decide +kernel⟩
abbrev N_let_letters : List Str := ["standing", "book", "letter"]
theorem sc_let_letters : FnScope ["standing", "book", "letter"] ["standing", "book"] (defScope s_let_letters) := ⟨rfl, rfl, rfl, by decide +kernel, rfl, by decide +kernel, by decide +kernel⟩
theorem sc_law_feed : FnScope ["_law_script", "_law_feed_here", "_law_cell", "_law_rest", "_law_k"] ["_law_script"] (defScope s_law_feed) := ⟨rfl, rfl, rfl, by decide +kernel, rfl, by decide +kernel, by decide +kernel⟩
theorem sc_law_pick : FnScope ["_law_feed_here", "_law_limit"] ["_law_feed_here", "_law_limit"] (defScope s_law_pick) := ⟨rfl, rfl, rfl, by decide +kernel, rfl, by decide +kernel, by decide +kernel⟩
theorem sc_law_rules : FnScope ["_law_row"] [] (defScope s_law_rules) := ⟨rfl, rfl, rfl, by decide +kernel, rfl, by decide +kernel, by decide +kernel⟩
theorem sc_law_names : FnScope ["_law_number", "_law_names_here", "_law_rest", "_law_name"] ["_law_number"] (defScope s_law_names) := ⟨rfl, rfl, rfl, by decide +kernel, rfl, by decide +kernel, by decide +kernel⟩
theorem sc_law_letters : FnScope ["_law_first"] [] (defScope s_law_letters) := ⟨rfl, rfl, rfl, by decide +kernel, rfl, by decide +kernel, by decide +kernel⟩
theorem sc_law_kind_c : FnScope ["_law_k", "_law_c"] ["_law_k", "_law_c"] (defScope s_law_kind_c) := ⟨rfl, rfl, rfl, by decide +kernel, rfl, by decide +kernel, by decide +kernel⟩
theorem sc_law_kind_r : FnScope ["_law_k", "_law_c", "_law_r"] ["_law_k", "_law_c", "_law_r"] (defScope s_law_kind_r) := ⟨rfl, rfl, rfl, by decide +kernel, rfl, by decide +kernel, by decide +kernel⟩
theorem sc_law_one : FnScope ["_law_feed_here", "_law_signs"] ["_law_feed_here", "_law_signs"] (defScope s_law_one) := ⟨rfl, rfl, rfl, by decide +kernel, rfl, by decide +kernel, by decide +kernel⟩
abbrev N_law_drawn : List Str := ["_law_feed_here", "_law_k", "_law_c", "_law_x", "_law_base", "_law_r", "_law_homes", "_law_h", "_law_g", "_law_y", "_law_sign"]
theorem sc_law_drawn : FnScope ["_law_feed_here", "_law_k", "_law_c", "_law_x", "_law_base", "_law_r", "_law_homes", "_law_h", "_law_g", "_law_y", "_law_sign"] ["_law_feed_here"] (defScope s_law_drawn) := ⟨rfl, rfl, rfl, by decide +kernel, rfl, by decide +kernel, by decide +kernel⟩
theorem sc_law_content_c : FnScope ["_law_s"] ["_law_s"] (defScope s_law_content_c) := ⟨rfl, rfl, rfl, by decide +kernel, rfl, by decide +kernel, by decide +kernel⟩
theorem sc_law_content_r : FnScope ["_law_s"] ["_law_s"] (defScope s_law_content_r) := ⟨rfl, rfl, rfl, by decide +kernel, rfl, by decide +kernel, by decide +kernel⟩
theorem sc_law_words_let : FnScope ["_law_s", "_law_names_here", "_law_committed", "_law_closing", "_law_content", "_law_good"] ["_law_s", "_law_names_here"] (defScope s_law_words_let) := ⟨rfl, rfl, rfl, by decide +kernel, rfl, by decide +kernel, by decide +kernel⟩
theorem sc_law_let : FnScope ["_law_s", "_law_letter", "_law_names_here", "_law_k", "_law_c", "_law_r", "_law_h", "_law_g", "_law_y", "_law_base", "_law_kind", "_law_due", "_law_held_back", "_law_let_here"] ["_law_s", "_law_letter", "_law_names_here"] (defScope s_law_let) := ⟨rfl, rfl, rfl, by decide +kernel, rfl, by decide +kernel, by decide +kernel⟩
theorem sc_law_log : FnScope ["_law_s", "_law_names_here", "_law_k", "_law_c", "_law_r", "_law_h", "_law_g", "_law_y", "_law_struck"] ["_law_s", "_law_names_here"] (defScope s_law_log) := ⟨rfl, rfl, rfl, by decide +kernel, rfl, by decide +kernel, by decide +kernel⟩
theorem sc_law_marked : FnScope ["_law_s", "_law_names_here", "_law_k", "_law_c", "_law_r", "_law_h", "_law_g", "_law_y", "_law_home"] ["_law_s", "_law_names_here"] (defScope s_law_marked) := ⟨rfl, rfl, rfl, by decide +kernel, rfl, by decide +kernel, by decide +kernel⟩
theorem sc_law_behind : FnScope ["_law_s", "_law_letter", "_law_names_here", "_law_k", "_law_c", "_law_r", "_law_h", "_law_g", "_law_y", "_law_spoilt_here"] ["_law_s", "_law_letter", "_law_names_here"] (defScope s_law_behind) := ⟨rfl, rfl, rfl, by decide +kernel, rfl, by decide +kernel, by decide +kernel⟩
theorem sc_law_same : FnScope ["_law_actual", "_law_due", "_law_k"] ["_law_actual", "_law_due"] (defScope s_law_same) := ⟨rfl, rfl, rfl, by decide +kernel, rfl, by decide +kernel, by decide +kernel⟩
theorem sc_law_letter_good : FnScope ["_law_s", "_law_letter", "_law_names_here", "_law_book", "_law_actual"] ["_law_s", "_law_letter", "_law_names_here", "_law_book"] (defScope s_law_letter_good) := ⟨rfl, rfl, rfl, by decide +kernel, rfl, by decide +kernel, by decide +kernel⟩
theorem sc_law_raises : FnScope ["_law_s", "_law_letter", "_law_book", "e"] ["_law_s", "_law_letter", "_law_book"] (defScope s_law_raises) := ⟨rfl, rfl, rfl, by decide +kernel, rfl, by decide +kernel, by decide +kernel⟩
theorem sc_law_spoilt : FnScope ["_law_s", "_law_k", "_law_c", "_law_r", "_law_h", "_law_g", "_law_y", "_law_rows"] ["_law_s"] (defScope s_law_spoilt) := ⟨rfl, rfl, rfl, by decide +kernel, rfl, by decide +kernel, by decide +kernel⟩
abbrev N_law : List Str := ["_law_script", "_law_feed_here", "_law_number", "_law_s", "_law_names_here", "_law_book", "_law_letter", "_law_let_here", "_law_signs"]
theorem sc_law : FnScope ["_law_script", "_law_feed_here", "_law_number", "_law_s", "_law_names_here", "_law_book", "_law_letter", "_law_let_here", "_law_signs"] ["_law_script"] (defScope s_law) := ⟨rfl, rfl, rfl, by decide +kernel, rfl, by decide +kernel, by decide +kernel⟩
theorem sc_Book_init : FnScope ["self", "names", "name", "chosen", "number", "weight"] ["self", "names"] (defScope s_Book_init) := ⟨rfl, rfl, rfl, by decide +kernel, rfl, by decide +kernel, by decide +kernel⟩
theorem sc_Book_contains : FnScope ["self", "name"] ["self", "name"] (defScope s_Book_contains) := ⟨rfl, rfl, rfl, by decide +kernel, rfl, by decide +kernel, by decide +kernel⟩
theorem sc_Book_of_number : FnScope ["number", "names", "rest", "name"] ["number"] (defScope s_Book_of_number) := ⟨rfl, rfl, rfl, by decide +kernel, rfl, by decide +kernel, by decide +kernel⟩
/-- what the top has left -/
structure Txt (K : PySem.W.Frag) (mg : Str → Option Value) (w : World) where
  c_Book : Addr
  C_Book : Cls K c_Book
  g_Book : mg "Book" = some (.ref c_Book)
  kp_Book : PySem.W.keepIn K (.ref c_Book) = true
  mk_Book : PySem.W.makesIn K c_Book = true
  n_Book_names : NoAttr K c_Book "names"
  n_Book_number : NoAttr K c_Book "number"
  r_Book : ClX.CRead K c_Book (.type "type")
  c_Book_RULES : Addr
  w_Book_RULES : SqT K (fun _ => none) c_Book_RULES [(.str "copies"), (.str "mark"), (.str "words"), (.str "reuse"), (.str "late"), (.str "revoke"), (.str "lapse"), (.str "shelve"), (.str "frozen"), (.str "wait"), (.str "room"), (.str "told")]
  k_Book_RULES : ClX.CVal K c_Book (.type "type") "RULES" (.ref c_Book_RULES) (.ref c_Book_RULES)
  ki_Book_RULES : Con K c_Book "RULES" (.ref c_Book_RULES) (.ref c_Book_RULES)
  a_kind_c : Addr
  fd_kind_c : FuncData
  F_kind_c : Fun K "kind_c" "kind_c" s_kind_c a_kind_c fd_kind_c
  b_kind_c : Binds K fd_kind_c ["standing"] []
  m_kind_c : mg "kind_c" = some (.ref a_kind_c)
  a_kind_r : Addr
  fd_kind_r : FuncData
  F_kind_r : Fun K "kind_r" "kind_r" s_kind_r a_kind_r fd_kind_r
  b_kind_r : Binds K fd_kind_r ["standing"] []
  m_kind_r : mg "kind_r" = some (.ref a_kind_r)
  a_content_c : Addr
  fd_content_c : FuncData
  F_content_c : Fun K "content_c" "content_c" s_content_c a_content_c fd_content_c
  b_content_c : Binds K fd_content_c ["standing"] []
  m_content_c : mg "content_c" = some (.ref a_content_c)
  a_content_r : Addr
  fd_content_r : FuncData
  F_content_r : Fun K "content_r" "content_r" s_content_r a_content_r fd_content_r
  b_content_r : Binds K fd_content_r ["standing"] []
  m_content_r : mg "content_r" = some (.ref a_content_r)
  a_is_due : Addr
  fd_is_due : FuncData
  F_is_due : Fun K "is_due" "is_due" s_is_due a_is_due fd_is_due
  b_is_due : Binds K fd_is_due ["standing"] []
  m_is_due : mg "is_due" = some (.ref a_is_due)
  a_is_standing : Addr
  fd_is_standing : FuncData
  F_is_standing : Fun K "is_standing" "is_standing" s_is_standing a_is_standing fd_is_standing
  b_is_standing : Binds K fd_is_standing ["signs"] []
  m_is_standing : mg "is_standing" = some (.ref a_is_standing)
  a_after_takel : Addr
  fd_after_takel : FuncData
  F_after_takel : Fun K "after_takel" "after_takel" s_after_takel a_after_takel fd_after_takel
  b_after_takel : Binds K fd_after_takel ["standing", "book"] []
  m_after_takel : mg "after_takel" = some (.ref a_after_takel)
  a_after_takep : Addr
  fd_after_takep : FuncData
  F_after_takep : Fun K "after_takep" "after_takep" s_after_takep a_after_takep fd_after_takep
  b_after_takep : Binds K fd_after_takep ["standing", "book"] []
  m_after_takep : mg "after_takep" = some (.ref a_after_takep)
  a_waits : Addr
  fd_waits : FuncData
  F_waits : Fun K "waits" "waits" s_waits a_waits fd_waits
  b_waits : Binds K fd_waits ["standing", "book"] []
  m_waits : mg "waits" = some (.ref a_waits)
  a_home_without_r : Addr
  fd_home_without_r : FuncData
  F_home_without_r : Fun K "home_without_r" "home_without_r" s_home_without_r a_home_without_r fd_home_without_r
  b_home_without_r : Binds K fd_home_without_r ["h"] []
  m_home_without_r : mg "home_without_r" = some (.ref a_home_without_r)
  a_after_change : Addr
  fd_after_change : FuncData
  F_after_change : Fun K "after_change" "after_change" s_after_change a_after_change fd_after_change
  b_after_change : Binds K fd_after_change ["standing", "book"] []
  m_after_change : mg "after_change" = some (.ref a_after_change)
  a_after_free : Addr
  fd_after_free : FuncData
  F_after_free : Fun K "after_free" "after_free" s_after_free a_after_free fd_after_free
  b_after_free : Binds K fd_after_free ["standing", "book"] []
  m_after_free : mg "after_free" = some (.ref a_after_free)
  a_after_close : Addr
  fd_after_close : FuncData
  F_after_close : Fun K "after_close" "after_close" s_after_close a_after_close fd_after_close
  b_after_close : Binds K fd_after_close ["standing", "book"] []
  m_after_close : mg "after_close" = some (.ref a_after_close)
  a_after_copy : Addr
  fd_after_copy : FuncData
  F_after_copy : Fun K "after_copy" "after_copy" s_after_copy a_after_copy fd_after_copy
  b_after_copy : Binds K fd_after_copy ["standing", "book"] []
  m_after_copy : mg "after_copy" = some (.ref a_after_copy)
  a_log_after_mark : Addr
  fd_log_after_mark : FuncData
  F_log_after_mark : Fun K "log_after_mark" "log_after_mark" s_log_after_mark a_log_after_mark fd_log_after_mark
  b_log_after_mark : Binds K fd_log_after_mark ["standing", "book"] []
  m_log_after_mark : mg "log_after_mark" = some (.ref a_log_after_mark)
  a_after_mark : Addr
  fd_after_mark : FuncData
  F_after_mark : Fun K "after_mark" "after_mark" s_after_mark a_after_mark fd_after_mark
  b_after_mark : Binds K fd_after_mark ["standing", "book"] []
  m_after_mark : mg "after_mark" = some (.ref a_after_mark)
  a_after_home : Addr
  fd_after_home : FuncData
  F_after_home : Fun K "after_home" "after_home" s_after_home a_after_home fd_after_home
  b_after_home : Binds K fd_after_home ["standing", "book"] []
  m_after_home : mg "after_home" = some (.ref a_after_home)
  a_after_early : Addr
  fd_after_early : FuncData
  F_after_early : Fun K "after_early" "after_early" s_after_early a_after_early fd_after_early
  b_after_early : Binds K fd_after_early ["standing", "book"] []
  m_after_early : mg "after_early" = some (.ref a_after_early)
  a_after_words : Addr
  fd_after_words : FuncData
  F_after_words : Fun K "after_words" "after_words" s_after_words a_after_words fd_after_words
  b_after_words : Binds K fd_after_words ["standing", "book"] []
  m_after_words : mg "after_words" = some (.ref a_after_words)
  a_after_room : Addr
  fd_after_room : FuncData
  F_after_room : Fun K "after_room" "after_room" s_after_room a_after_room fd_after_room
  b_after_room : Binds K fd_after_room ["standing", "book"] []
  m_after_room : mg "after_room" = some (.ref a_after_room)
  a_after_told : Addr
  fd_after_told : FuncData
  F_after_told : Fun K "after_told" "after_told" s_after_told a_after_told fd_after_told
  b_after_told : Binds K fd_after_told ["standing", "book"] []
  m_after_told : mg "after_told" = some (.ref a_after_told)
  a_after : Addr
  fd_after : FuncData
  F_after : Fun K "after" "after" s_after a_after fd_after
  b_after : Binds K fd_after ["standing", "letter", "book"] []
  m_after : mg "after" = some (.ref a_after)
  a_let_letters : Addr
  fd_let_letters : FuncData
  F_let_letters : Fun K "let_letters" "let_letters" s_let_letters a_let_letters fd_let_letters
  b_let_letters : Binds K fd_let_letters ["standing", "book"] []
  m_let_letters : mg "let_letters" = some (.ref a_let_letters)
  a_law_feed : Addr
  fd_law_feed : FuncData
  F_law_feed : Fun K "_law_feed" "_law_feed" s_law_feed a_law_feed fd_law_feed
  b_law_feed : Binds K fd_law_feed ["_law_script"] []
  m_law_feed : mg "_law_feed" = some (.ref a_law_feed)
  a_law_pick : Addr
  fd_law_pick : FuncData
  F_law_pick : Fun K "_law_pick" "_law_pick" s_law_pick a_law_pick fd_law_pick
  b_law_pick : Binds K fd_law_pick ["_law_feed_here", "_law_limit"] []
  m_law_pick : mg "_law_pick" = some (.ref a_law_pick)
  a_law_rules : Addr
  fd_law_rules : FuncData
  F_law_rules : Fun K "_law_rules" "_law_rules" s_law_rules a_law_rules fd_law_rules
  b_law_rules : Binds K fd_law_rules [] []
  m_law_rules : mg "_law_rules" = some (.ref a_law_rules)
  a_law_names : Addr
  fd_law_names : FuncData
  F_law_names : Fun K "_law_names" "_law_names" s_law_names a_law_names fd_law_names
  b_law_names : Binds K fd_law_names ["_law_number"] []
  m_law_names : mg "_law_names" = some (.ref a_law_names)
  a_law_letters : Addr
  fd_law_letters : FuncData
  F_law_letters : Fun K "_law_letters" "_law_letters" s_law_letters a_law_letters fd_law_letters
  b_law_letters : Binds K fd_law_letters [] []
  m_law_letters : mg "_law_letters" = some (.ref a_law_letters)
  a_law_kind_c : Addr
  fd_law_kind_c : FuncData
  F_law_kind_c : Fun K "_law_kind_c" "_law_kind_c" s_law_kind_c a_law_kind_c fd_law_kind_c
  b_law_kind_c : Binds K fd_law_kind_c ["_law_k", "_law_c"] []
  m_law_kind_c : mg "_law_kind_c" = some (.ref a_law_kind_c)
  a_law_kind_r : Addr
  fd_law_kind_r : FuncData
  F_law_kind_r : Fun K "_law_kind_r" "_law_kind_r" s_law_kind_r a_law_kind_r fd_law_kind_r
  b_law_kind_r : Binds K fd_law_kind_r ["_law_k", "_law_c", "_law_r"] []
  m_law_kind_r : mg "_law_kind_r" = some (.ref a_law_kind_r)
  a_law_one : Addr
  fd_law_one : FuncData
  F_law_one : Fun K "_law_one" "_law_one" s_law_one a_law_one fd_law_one
  b_law_one : Binds K fd_law_one ["_law_feed_here", "_law_signs"] []
  m_law_one : mg "_law_one" = some (.ref a_law_one)
  a_law_drawn : Addr
  fd_law_drawn : FuncData
  F_law_drawn : Fun K "_law_drawn" "_law_drawn" s_law_drawn a_law_drawn fd_law_drawn
  b_law_drawn : Binds K fd_law_drawn ["_law_feed_here"] []
  m_law_drawn : mg "_law_drawn" = some (.ref a_law_drawn)
  a_law_content_c : Addr
  fd_law_content_c : FuncData
  F_law_content_c : Fun K "_law_content_c" "_law_content_c" s_law_content_c a_law_content_c fd_law_content_c
  b_law_content_c : Binds K fd_law_content_c ["_law_s"] []
  m_law_content_c : mg "_law_content_c" = some (.ref a_law_content_c)
  a_law_content_r : Addr
  fd_law_content_r : FuncData
  F_law_content_r : Fun K "_law_content_r" "_law_content_r" s_law_content_r a_law_content_r fd_law_content_r
  b_law_content_r : Binds K fd_law_content_r ["_law_s"] []
  m_law_content_r : mg "_law_content_r" = some (.ref a_law_content_r)
  a_law_words_let : Addr
  fd_law_words_let : FuncData
  F_law_words_let : Fun K "_law_words_let" "_law_words_let" s_law_words_let a_law_words_let fd_law_words_let
  b_law_words_let : Binds K fd_law_words_let ["_law_s", "_law_names_here"] []
  m_law_words_let : mg "_law_words_let" = some (.ref a_law_words_let)
  a_law_let : Addr
  fd_law_let : FuncData
  F_law_let : Fun K "_law_let" "_law_let" s_law_let a_law_let fd_law_let
  b_law_let : Binds K fd_law_let ["_law_s", "_law_letter", "_law_names_here"] []
  m_law_let : mg "_law_let" = some (.ref a_law_let)
  a_law_log : Addr
  fd_law_log : FuncData
  F_law_log : Fun K "_law_log" "_law_log" s_law_log a_law_log fd_law_log
  b_law_log : Binds K fd_law_log ["_law_s", "_law_names_here"] []
  m_law_log : mg "_law_log" = some (.ref a_law_log)
  a_law_marked : Addr
  fd_law_marked : FuncData
  F_law_marked : Fun K "_law_marked" "_law_marked" s_law_marked a_law_marked fd_law_marked
  b_law_marked : Binds K fd_law_marked ["_law_s", "_law_names_here"] []
  m_law_marked : mg "_law_marked" = some (.ref a_law_marked)
  a_law_behind : Addr
  fd_law_behind : FuncData
  F_law_behind : Fun K "_law_behind" "_law_behind" s_law_behind a_law_behind fd_law_behind
  b_law_behind : Binds K fd_law_behind ["_law_s", "_law_letter", "_law_names_here"] []
  m_law_behind : mg "_law_behind" = some (.ref a_law_behind)
  a_law_same : Addr
  fd_law_same : FuncData
  F_law_same : Fun K "_law_same" "_law_same" s_law_same a_law_same fd_law_same
  b_law_same : Binds K fd_law_same ["_law_actual", "_law_due"] []
  m_law_same : mg "_law_same" = some (.ref a_law_same)
  a_law_letter_good : Addr
  fd_law_letter_good : FuncData
  F_law_letter_good : Fun K "_law_letter_good" "_law_letter_good" s_law_letter_good a_law_letter_good fd_law_letter_good
  b_law_letter_good : Binds K fd_law_letter_good ["_law_s", "_law_letter", "_law_names_here", "_law_book"] []
  m_law_letter_good : mg "_law_letter_good" = some (.ref a_law_letter_good)
  a_law_raises : Addr
  fd_law_raises : FuncData
  F_law_raises : Fun K "_law_raises" "_law_raises" s_law_raises a_law_raises fd_law_raises
  b_law_raises : Binds K fd_law_raises ["_law_s", "_law_letter", "_law_book"] []
  m_law_raises : mg "_law_raises" = some (.ref a_law_raises)
  a_law_spoilt : Addr
  fd_law_spoilt : FuncData
  F_law_spoilt : Fun K "_law_spoilt" "_law_spoilt" s_law_spoilt a_law_spoilt fd_law_spoilt
  b_law_spoilt : Binds K fd_law_spoilt ["_law_s"] []
  m_law_spoilt : mg "_law_spoilt" = some (.ref a_law_spoilt)
  a_law : Addr
  fd_law : FuncData
  F_law : Fun K "law" "law" s_law a_law fd_law
  b_law : Binds K fd_law ["_law_script"] []
  m_law : mg "law" = some (.ref a_law)
  a_Book_init : Addr
  fd_Book_init : FuncData
  F_Book_init : Fun K "__init__" "RuleSet.__init__" s_Book_init a_Book_init fd_Book_init
  b_Book_init : Binds K fd_Book_init ["self", "names"] []
  m_Book_init : Mk K c_Book a_Book_init
  a_Book_contains : Addr
  fd_Book_contains : FuncData
  F_Book_contains : Fun K "__contains__" "RuleSet.__contains__" s_Book_contains a_Book_contains fd_Book_contains
  b_Book_contains : Binds K fd_Book_contains ["self", "name"] []
  m_Book_contains : Meth K c_Book "__contains__" a_Book_contains
  a_Book_of_number : Addr
  fd_Book_of_number : FuncData
  F_Book_of_number : Fun K "of_number" "Book.of_number" s_Book_of_number a_Book_of_number fd_Book_of_number
  b_Book_of_number : Binds K fd_Book_of_number ["number"] []
  m_Book_of_number : SMet K c_Book "of_number" a_Book_of_number
  n_abs : mg "abs" = none
  n_enumerate : mg "enumerate" = none
  n_int : mg "int" = none
  n_isinstance : mg "isinstance" = none
  n_len : mg "len" = none
  n_list : mg "list" = none
  n_range : mg "range" = none
  n_staticmethod : mg "staticmethod" = none
  n_str : mg "str" = none
  n_tuple : mg "tuple" = none
  c_LETTERS : Addr
  w_LETTERS : SqT K (fun _ => none) c_LETTERS [(.str "takel"), (.str "takep"), (.str "change"), (.str "free"), (.str "close"), (.str "copy"), (.str "mark"), (.str "home"), (.str "early"), (.str "words"), (.str "room"), (.str "told")]
  g_LETTERS : mg "LETTERS" = some (.ref c_LETTERS)
  c_LOST : Addr
  w_LOST : SqT K (fun _ => none) c_LOST [(.str "lost")]
  g_LOST : mg "LOST" = some (.ref c_LOST)
  c_NEW : Addr
  w_NEW : SqT K (fun _ => none) c_NEW [(.str "~"), (.str "L"), (.str "P")]
  g_NEW : mg "NEW" = some (.ref c_NEW)
  c_SIGNS_0 : Addr
  w_SIGNS_0 : SqT K (fun _ => none) c_SIGNS_0 [(.str "F"), (.str "L"), (.str "P")]
  c_SIGNS_1 : Addr
  w_SIGNS_1 : SqT K (fun _ => none) c_SIGNS_1 [(.str "-"), (.str "="), (.str "~"), (.str "F"), (.str "L"), (.str "P")]
  c_SIGNS_2 : Addr
  w_SIGNS_2 : SqT K (fun _ => none) c_SIGNS_2 [(.str "="), (.str "~"), (.str "F"), (.str "L"), (.str "P")]
  c_SIGNS_3 : Addr
  w_SIGNS_3 : SqT K (fun _ => none) c_SIGNS_3 [(.str "K"), (.str "C"), (.str "R"), (.str "o")]
  c_SIGNS_4 : Addr
  w_SIGNS_4 : SqT K (fun _ => none) c_SIGNS_4 [(.str "-"), (.str "K"), (.str "o")]
  c_SIGNS_5 : Addr
  w_SIGNS_5 : SqT K (fun _ => none) c_SIGNS_5 [(.str "-"), (.str "+"), (.str "!")]
  c_SIGNS : Addr
  w_SIGNS : SqT K (fun _ => none) c_SIGNS [.ref c_SIGNS_0, .ref c_SIGNS_1, .ref c_SIGNS_2, .ref c_SIGNS_3, .ref c_SIGNS_4, .ref c_SIGNS_5]
  g_SIGNS : mg "SIGNS" = some (.ref c_SIGNS)
  c_STEPS : Addr
  g_STEPS : mg "STEPS" = some (.ref c_STEPS)
  n_STEPS : Nat
  low_STEPS : (c_STEPS == sysModules) = false
  h_STEPS_0 : Int
  t_STEPS_0 : Tok
  h_STEPS_1 : Int
  t_STEPS_1 : Tok
  h_STEPS_2 : Int
  t_STEPS_2 : Tok
  h_STEPS_3 : Int
  t_STEPS_3 : Tok
  h_STEPS_4 : Int
  t_STEPS_4 : Tok
  h_STEPS_5 : Int
  t_STEPS_5 : Tok
  h_STEPS_6 : Int
  t_STEPS_6 : Tok
  h_STEPS_7 : Int
  t_STEPS_7 : Tok
  h_STEPS_8 : Int
  t_STEPS_8 : Tok
  h_STEPS_9 : Int
  t_STEPS_9 : Tok
  h_STEPS_10 : Int
  t_STEPS_10 : Tok
  h_STEPS_11 : Int
  t_STEPS_11 : Tok
  lk_STEPS : K.lookup c_STEPS = some ⟨.type "dict", none, .dict #[⟨h_STEPS_0, .str "takel" t_STEPS_0, .ref a_after_takel⟩, ⟨h_STEPS_1, .str "takep" t_STEPS_1, .ref a_after_takep⟩, ⟨h_STEPS_2, .str "change" t_STEPS_2, .ref a_after_change⟩, ⟨h_STEPS_3, .str "free" t_STEPS_3, .ref a_after_free⟩, ⟨h_STEPS_4, .str "close" t_STEPS_4, .ref a_after_close⟩, ⟨h_STEPS_5, .str "copy" t_STEPS_5, .ref a_after_copy⟩, ⟨h_STEPS_6, .str "mark" t_STEPS_6, .ref a_after_mark⟩, ⟨h_STEPS_7, .str "home" t_STEPS_7, .ref a_after_home⟩, ⟨h_STEPS_8, .str "early" t_STEPS_8, .ref a_after_early⟩, ⟨h_STEPS_9, .str "words" t_STEPS_9, .ref a_after_words⟩, ⟨h_STEPS_10, .str "room" t_STEPS_10, .ref a_after_room⟩, ⟨h_STEPS_11, .str "told" t_STEPS_11, .ref a_after_told⟩] n_STEPS, #[]⟩
  lit_STEPS : PySem.W.KeysLit w.params [⟨h_STEPS_0, .str "takel" t_STEPS_0, .ref a_after_takel⟩, ⟨h_STEPS_1, .str "takep" t_STEPS_1, .ref a_after_takep⟩, ⟨h_STEPS_2, .str "change" t_STEPS_2, .ref a_after_change⟩, ⟨h_STEPS_3, .str "free" t_STEPS_3, .ref a_after_free⟩, ⟨h_STEPS_4, .str "close" t_STEPS_4, .ref a_after_close⟩, ⟨h_STEPS_5, .str "copy" t_STEPS_5, .ref a_after_copy⟩, ⟨h_STEPS_6, .str "mark" t_STEPS_6, .ref a_after_mark⟩, ⟨h_STEPS_7, .str "home" t_STEPS_7, .ref a_after_home⟩, ⟨h_STEPS_8, .str "early" t_STEPS_8, .ref a_after_early⟩, ⟨h_STEPS_9, .str "words" t_STEPS_9, .ref a_after_words⟩, ⟨h_STEPS_10, .str "room" t_STEPS_10, .ref a_after_room⟩, ⟨h_STEPS_11, .str "told" t_STEPS_11, .ref a_after_told⟩]
  e_BadValue : Addr
  g_BadValue : mg "BadValue" = some (.ref e_BadValue)
  x_BadValue : PySem.W.excIn K e_BadValue [.type "ValueError", .type "Exception", .type "BaseException", .type "object"] "ValueError.__new__" = true
  k_BadValue : PySem.W.keepIn K (.ref e_BadValue) = true
  sb_BadValue : PySem.W.subIn K (.ref e_BadValue) (.type "BaseException") = some true
  ty_BadValue : PySem.W.typeIn K (.ref e_BadValue) = some (.type "type")
  is_BadValue : ExcC K e_BadValue
  e_StoreError : Addr
  g_StoreError : mg "StoreError" = some (.ref e_StoreError)
  x_StoreError : PySem.W.excIn K e_StoreError [.type "ValueError", .type "Exception", .type "BaseException", .type "object"] "ValueError.__new__" = true
  k_StoreError : PySem.W.keepIn K (.ref e_StoreError) = true
  sb_StoreError : PySem.W.subIn K (.ref e_StoreError) (.type "BaseException") = some true
  ty_StoreError : PySem.W.typeIn K (.ref e_StoreError) = some (.type "type")
  is_StoreError : ExcC K e_StoreError
  e_BadText : Addr
  g_BadText : mg "BadText" = some (.ref e_BadText)
  x_BadText : PySem.W.excIn K e_BadText [.type "ValueError", .type "Exception", .type "BaseException", .type "object"] "ValueError.__new__" = true
  k_BadText : PySem.W.keepIn K (.ref e_BadText) = true
  sb_BadText : PySem.W.subIn K (.ref e_BadText) (.type "BaseException") = some true
  ty_BadText : PySem.W.typeIn K (.ref e_BadText) = some (.type "type")
  is_BadText : ExcC K e_BadText
  m_BadValue_StoreError : PySem.W.exmOne K (.ref e_BadValue) (.ref e_StoreError) = some true
  i_BadValue_BadValue : PySem.W.kitOne K (.ref e_BadValue) (.ref e_BadValue) = some true
  i_BadValue_BadText : PySem.W.kitOne K (.ref e_BadValue) (.ref e_BadText) = some false
-- excs BadValue StoreError BadText
-- classes Book
def cnm : Nat → List Str
  | 0 => ["names", "number"]
  | _ => []
noncomputable section
variable {P : Program} {w : World} {K : PySem.W.Frag} {mg : Str → Option Value} {base : Heap}
def kct (T : Txt K mg w) : Nat → Addr
  | 0 => T.c_Book
  | _ => 0
def ket (T : Txt K mg w) : Nat → Addr
  | 0 => T.e_BadValue
  | 1 => T.e_StoreError
  | 2 => T.e_BadText
  | _ => 0
def efs : Nat → Option (Str × Str)
  | _ => none
abbrev kt (P : Program) (w : World) (T : Txt K mg w) : KT := ⟨P, w, kct T, cnm, ket T, efs⟩
abbrev tab_names : List (Nat × Nat) := [(0, 0)]
theorem fo_names (T : Txt K mg w) : FldOk K (kt P w T) "names" tab_names := (.cons T.C_Book T.n_Book_names (show (cnm 0).idxOf? ("names" : Str) = some 0 by decide +kernel) .nil)
abbrev tab_number : List (Nat × Nat) := [(0, 1)]
theorem fo_number (T : Txt K mg w) : FldOk K (kt P w T) "number" tab_number := (.cons T.C_Book T.n_Book_number (show (cnm 0).idxOf? ("number" : Str) = some 1 by decide +kernel) .nil)
abbrev tabc_RULES : List (Nat × Tr) := [(0, (.nd .tup .frz [(.a (.str "copies")), (.a (.str "mark")), (.a (.str "words")), (.a (.str "reuse")), (.a (.str "late")), (.a (.str "revoke")), (.a (.str "lapse")), (.a (.str "shelve")), (.a (.str "frozen")), (.a (.str "wait")), (.a (.str "room")), (.a (.str "told"))]))]
theorem ct_RULES (T : Txt K mg w) : ConTab K (kt P w T) "RULES" tabc_RULES := (.cons T.C_Book T.ki_Book_RULES (con_tup T.w_Book_RULES (con_cons con_a (con_cons con_a (con_cons con_a (con_cons con_a (con_cons con_a (con_cons con_a (con_cons con_a (con_cons con_a (con_cons con_a (con_cons con_a (con_cons con_a (con_cons con_a con_nil))))))))))))) (show (cnm 0).idxOf? ("RULES" : Str) = none by decide +kernel) .nil)
abbrev md_kind_c : List Bool := [false]
def g_kind_c : GS := (sSeq (sPar md_kind_c 1 2 (gSeq (gSeq (gSeq (gVar 0) (gC (.int 0))) fIxA) (gSeq (gSeq (gSeq (gVar 0) (gC (.int 1))) fIxA) gNil)))
    (sSeq (sIf (gOrB (gSeq (gSeq (gVar 2) (gC (.str "-"))) fEq) (gSeq (gSeq (gVar 2) (gC (.str "="))) fEq)) (sRet (gSeq (gVar 1) (fMv md_kind_c))) sNil)
    (sSeq (sIf (gSeq (gSeq (gVar 2) (gC (.str "~"))) fEq) (sRet (gC (.str "L"))) sNil)
    (sRet (gSeq (gVar 2) (fMv md_kind_c))))))
def G_kind_c : GF := runF md_kind_c 3 g_kind_c
theorem sim_kind_c (T : Txt K mg w) : FnOk P w K mg base (L2N.CX P w) 1 T.a_kind_c T.fd_kind_c ["standing"] (spOf (kcm K (kt P w T)) md_kind_c G_kind_c) :=
  fn_sim T.F_kind_c sc_kind_c rfl (by decide) fun cdv A outer s H E hr =>
  (mss_cons (ms_par (ma_cons (me_ixA hr.units (me_var (pv 0)) (me_c pe_int) (fun _ _ => rfl)) (ma_cons (me_ixA hr.units (me_var (pv 0)) (me_c pe_int) (fun _ _ => rfl)) ma_nil)) (fun a => ps_par (i := 1) (j := 2) (by rfl) sc_kind_c.nd rfl rfl (by decide) rfl rfl a (by rfl)))
    (mss_cons (ms_if (mw_pt (mw_or (mt_cmp (OpR.or op_eq (op_eqD hr.units)) fEq_ok (me_var (pv 2)) (me_c pe_str) (nomark _)) (mw_or1 (mt_cmp (OpR.or op_eq (op_eqD hr.units)) fEq_ok (me_var (pv 2)) (me_c pe_str) (nomark _))))) (mss_one (ms_ret (me_mv (me_var (pv 1)))))
    mss_nil)
    (mss_cons (ms_if (mt_cmp (OpR.or op_eq (op_eqD hr.units)) fEq_ok (me_var (pv 2)) (me_c pe_str) (nomark _)) (mss_one (ms_ret (me_c pe_str)))
    mss_nil)
    (mss_one (ms_ret (me_mv (me_var (pv 2))))))))
abbrev md_kind_r : List Bool := [false]
def g_kind_r : GS := (sSeq (sSet md_kind_r 1 (gSeq (gSeq (gVar 0) (gC (.int 2))) fIxA))
    (sSeq (sIf (gSeq (gSeq (gVar 1) (gC (.str "="))) fEq) (sRet (gSeq (gSeq (gVar 0) gNil) (gCall [] md_kind_c G_kind_c 1))) sNil)
    (sSeq (sIf (gSeq (gSeq (gVar 1) (gC (.str "~"))) fEq) (sRet (gC (.str "L"))) sNil)
    (sRet (gSeq (gVar 1) (fMv md_kind_r))))))
def G_kind_r : GF := runF md_kind_r 2 g_kind_r
theorem sim_kind_r (T : Txt K mg w) : FnOk P w K mg base (L2N.CX P w) 2 T.a_kind_r T.fd_kind_r ["standing"] (spOf (kcm K (kt P w T)) md_kind_r G_kind_r) :=
  fn_sim T.F_kind_r sc_kind_r rfl (by decide) fun cdv A outer s H E hr =>
  (mss_cons (ms_set (i := 1) sc_kind_r.nd rfl (Or.inl rfl) (me_ixA hr.units (me_var (pv 0)) (me_c pe_int) (fun _ _ => rfl)))
    (mss_cons (ms_if (mt_cmp (OpR.or op_eq (op_eqD hr.units)) fEq_ok (me_var (pv 1)) (me_c pe_str) (nomark _)) (mss_one (ms_ret (me_call (is := []) (sim_kind_c T) (hr.mono (by decide)) (takes_of rfl rfl rfl rfl) rfl T.m_kind_c T.F_kind_c.kp T.b_kind_c (ma_cons (me_var (pv 0)) ma_nil) (by decide) (by decide))))
    mss_nil)
    (mss_cons (ms_if (mt_cmp (OpR.or op_eq (op_eqD hr.units)) fEq_ok (me_var (pv 1)) (me_c pe_str) (nomark _)) (mss_one (ms_ret (me_c pe_str)))
    mss_nil)
    (mss_one (ms_ret (me_mv (me_var (pv 1))))))))
abbrev md_content_c : List Bool := [false]
def g_content_c : GS := (sSeq (sIf (gSeq (gSeq (gSeq (gSeq (gVar 0) gNil) (gCall [] md_kind_c G_kind_c 1)) (gC (.str "F"))) fEq) (sRet (gC (.str "-"))) sNil)
    (sSeq (sIf (gSeq (gSeq (gSeq (gSeq (gVar 0) (gC (.int 1))) fIxA) (gCon (.nd .tup .frz [(.a (.str "~")), (.a (.str "L")), (.a (.str "P"))]))) fInA) (sRet (gC (.str "C"))) sNil)
    (sRet (gC (.str "K")))))
def G_content_c : GF := runF md_content_c 1 g_content_c
theorem sim_content_c (T : Txt K mg w) : FnOk P w K mg base (L2N.CX P w) 2 T.a_content_c T.fd_content_c ["standing"] (spOf (kcm K (kt P w T)) md_content_c G_content_c) :=
  fn_sim T.F_content_c sc_content_c rfl (by decide) fun cdv A outer s H E hr =>
  (mss_cons (ms_if (mt_cmp (OpR.or op_eq (op_eqD hr.units)) fEq_ok (me_call (is := []) (sim_kind_c T) (hr.mono (by decide)) (takes_of rfl rfl rfl rfl) rfl T.m_kind_c T.F_kind_c.kp T.b_kind_c (ma_cons (me_var (pv 0)) ma_nil) (by decide) (by decide)) (me_c pe_str) (nomark _)) (mss_one (ms_ret (me_c pe_str)))
    mss_nil)
    (mss_cons (ms_if (mt_cmp (op_inA hr.units) fInA_ok (me_ixA hr.units (me_var (pv 0)) (me_c pe_int) (fun _ _ => rfl)) (me_con (pe_glob (v := .ref T.c_NEW) rfl T.g_NEW rfl) (con_tup T.w_NEW (con_cons con_a (con_cons con_a (con_cons con_a con_nil))))) rfl) (mss_one (ms_ret (me_c pe_str)))
    mss_nil)
    (mss_one (ms_ret (me_c pe_str)))))
abbrev md_content_r : List Bool := [false]
def g_content_r : GS := (sSeq (sIf (gSeq (gSeq (gSeq (gSeq (gVar 0) gNil) (gCall [] md_kind_r G_kind_r 1)) (gC (.str "F"))) fEq) (sRet (gC (.str "-"))) sNil)
    (sSeq (sIf (gSeq (gSeq (gSeq (gSeq (gVar 0) (gC (.int 2))) fIxA) (gCon (.nd .tup .frz [(.a (.str "~")), (.a (.str "L")), (.a (.str "P"))]))) fInA) (sRet (gC (.str "R"))) sNil)
    (sRet (gSeq (gSeq (gVar 0) gNil) (gCall [] md_content_c G_content_c 1)))))
def G_content_r : GF := runF md_content_r 1 g_content_r
theorem sim_content_r (T : Txt K mg w) : FnOk P w K mg base (L2N.CX P w) 3 T.a_content_r T.fd_content_r ["standing"] (spOf (kcm K (kt P w T)) md_content_r G_content_r) :=
  fn_sim T.F_content_r sc_content_r rfl (by decide) fun cdv A outer s H E hr =>
  (mss_cons (ms_if (mt_cmp (OpR.or op_eq (op_eqD hr.units)) fEq_ok (me_call (is := []) (sim_kind_r T) (hr.mono (by decide)) (takes_of rfl rfl rfl rfl) rfl T.m_kind_r T.F_kind_r.kp T.b_kind_r (ma_cons (me_var (pv 0)) ma_nil) (by decide) (by decide)) (me_c pe_str) (nomark _)) (mss_one (ms_ret (me_c pe_str)))
    mss_nil)
    (mss_cons (ms_if (mt_cmp (op_inA hr.units) fInA_ok (me_ixA hr.units (me_var (pv 0)) (me_c pe_int) (fun _ _ => rfl)) (me_con (pe_glob (v := .ref T.c_NEW) rfl T.g_NEW rfl) (con_tup T.w_NEW (con_cons con_a (con_cons con_a (con_cons con_a con_nil))))) rfl) (mss_one (ms_ret (me_c pe_str)))
    mss_nil)
    (mss_one (ms_ret (me_call (is := []) (sim_content_c T) (hr.mono (by decide)) (takes_of rfl rfl rfl rfl) rfl T.m_content_c T.F_content_c.kp T.b_content_c (ma_cons (me_var (pv 0)) ma_nil) (by decide) (by decide))))))
abbrev md_is_due : List Bool := [false]
def g_is_due : GS := (sRet (gOrB (gSeq (gSeq (gSeq (gSeq (gVar 0) (gC (.int 1))) fIxA) (gC (.str "~"))) fEq) (gSeq (gSeq (gSeq (gSeq (gVar 0) (gC (.int 1))) fIxA) (gC (.str "L"))) fEq)))
def G_is_due : GF := runF md_is_due 1 g_is_due
theorem sim_is_due (T : Txt K mg w) : FnOk P w K mg base (L2N.CX P w) 1 T.a_is_due T.fd_is_due ["standing"] (spOf (kcm K (kt P w T)) md_is_due G_is_due) :=
  fn_sim T.F_is_due sc_is_due rfl (by decide) fun cdv A outer s H E hr =>
  (mss_one (ms_ret (me_or (me_cmp (OpR.or op_eq (op_eqD hr.units)) fEq_ok (me_ixA hr.units (me_var (pv 0)) (me_c pe_int) (fun _ _ => rfl)) (me_c pe_str) (nomark _)) (me_one (me_cmp (OpR.or op_eq (op_eqD hr.units)) fEq_ok (me_ixA hr.units (me_var (pv 0)) (me_c pe_int) (fun _ _ => rfl)) (me_c pe_str) (nomark _))))))
abbrev md_is_standing : List Bool := [false]
def b_is_standing_1 : GS := (sIf (gSeq (gSeq (gVar 2) (gSeq (gSeq (gCon (.nd .tup .frz [(.nd .tup .frz [(.a (.str "F")), (.a (.str "L")), (.a (.str "P"))]), (.nd .tup .frz [(.a (.str "-")), (.a (.str "=")), (.a (.str "~")), (.a (.str "F")), (.a (.str "L")), (.a (.str "P"))]), (.nd .tup .frz [(.a (.str "=")), (.a (.str "~")), (.a (.str "F")), (.a (.str "L")), (.a (.str "P"))]), (.nd .tup .frz [(.a (.str "K")), (.a (.str "C")), (.a (.str "R")), (.a (.str "o"))]), (.nd .tup .frz [(.a (.str "-")), (.a (.str "K")), (.a (.str "o"))]), (.nd .tup .frz [(.a (.str "-")), (.a (.str "+")), (.a (.str "!"))])])) (gVar 1)) fIxA)) fNotInA) (sRet (gC (.bl false))) sNil)
def g_is_standing : GS := (sSeq (sIf (gSeq (gSeq (gVar 0) (gCon (.nd .tup .frz [(.a (.str "lost"))]))) fEq) (sRet (gC (.bl true))) sNil)
    (sSeq (sIf (gSeq (gSeq (gSeq (gSeq (gVar 0) gNil) fLen) (gC (.int 6))) fNe) (sRet (gC (.bl false))) sNil)
    (sSeq (sForEnA (gSeq (gVar 0) gNil) (unpk md_is_standing [1, 2]) b_is_standing_1)
    (sSeq (sAsg (gVar 0) (unpk md_is_standing [3, 4, 5, 6, 7, 8]))
    (sSeq (sIf (gOrB (gAnd (gSeq (gSeq (gVar 4) (gC (.str "~"))) fEq) (gSeq (gSeq (gVar 3) (gC (.str "L"))) fNe)) (gAnd (gSeq (gSeq (gVar 4) (gC (.str "F"))) fEq) (gSeq (gSeq (gVar 3) (gC (.str "F"))) fEq))) (sRet (gC (.bl false))) sNil)
    (sSeq (sSet md_is_standing 9 (gSeq (gSeq (gVar 0) gNil) (gCall [] md_kind_c G_kind_c 1)))
    (sSeq (sIf (gOrB (gAnd (gSeq (gSeq (gVar 5) (gC (.str "~"))) fEq) (gSeq (gSeq (gVar 9) (gC (.str "L"))) fNe)) (gAnd (gSeq (gSeq (gVar 5) (gC (.str "F"))) fEq) (gSeq (gSeq (gVar 9) (gC (.str "F"))) fEq))) (sRet (gC (.bl false))) sNil)
    (sSeq (sIf (gOrB (gAnd (gSeq (gSeq (gVar 6) (gC (.str "K"))) fEq) (gSeq (gSeq (gVar 3) (gC (.str "F"))) fEq)) (gOrB (gAnd (gSeq (gSeq (gVar 6) (gC (.str "C"))) fEq) (gSeq (gSeq (gVar 4) (gCon (.nd .tup .frz [(.a (.str "~")), (.a (.str "L")), (.a (.str "P"))]))) fNotInA)) (gAnd (gSeq (gSeq (gVar 6) (gC (.str "R"))) fEq) (gSeq (gSeq (gVar 5) (gCon (.nd .tup .frz [(.a (.str "~")), (.a (.str "L")), (.a (.str "P"))]))) fNotInA)))) (sRet (gC (.bl false))) sNil)
    (sSeq (sIf (gAnd (gSeq (gSeq (gVar 7) (gC (.str "K"))) fEq) (gSeq (gSeq (gVar 3) (gC (.str "L"))) fNe)) (sRet (gC (.bl false))) sNil)
    (sRet (gOrB (gSeq (gSeq (gVar 8) (gC (.str "-"))) fEq) (gSeq (gSeq (gVar 0) gNil) (gCall [] md_is_due G_is_due 1)))))))))))))
def G_is_standing : GF := runF md_is_standing 10 g_is_standing
theorem sim_is_standing (T : Txt K mg w) : FnOk P w K mg base (L2N.CX P w) 2 T.a_is_standing T.fd_is_standing ["signs"] (spOf (kcm K (kt P w T)) md_is_standing G_is_standing) :=
  fn_sim T.F_is_standing sc_is_standing rfl (by decide) fun cdv A outer s H E hr =>
  (mss_cons (ms_if (mt_cmp (OpR.or op_eq (op_eqD hr.units)) fEq_ok (me_var (pv 0)) (me_con (pe_glob (v := .ref T.c_LOST) rfl T.g_LOST rfl) (con_tup T.w_LOST (con_cons con_a con_nil))) (nomark _)) (mss_one (ms_ret (me_c pe_bl)))
    mss_nil)
    (mss_cons (ms_if (mt_cmp (OpR.or op_ne (op_neD hr.units)) fNe_ok (me_callB (CallR.or call_len call_lenR) fLen_ok (by rfl) T.n_len (by decide +kernel) (ma_cons (me_var (pv 0)) ma_nil)) (me_c pe_int) (nomark _)) (mss_one (ms_ret (me_c pe_bl)))
    mss_nil)
    (mss_cons (ms_forEnA (ma_cons (me_var (pv 0)) ma_nil) (mg_unp (is := [1, 2]) (pg_tup (by rfl) (pgs_cons (pg_name (i := 1) sc_is_standing.nd rfl (Or.inl rfl)) (pgs_cons (pg_name (i := 2) sc_is_standing.nd rfl (Or.inl rfl)) pgs_nil))) (pg_lst (by rfl) (pgs_cons (pg_name (i := 1) sc_is_standing.nd rfl (Or.inl rfl)) (pgs_cons (pg_name (i := 2) sc_is_standing.nd rfl (Or.inl rfl)) pgs_nil))))
    (mss_one (ms_if (mt_cmp (op_notInA hr.units) fNotInA_ok (me_var (pv 2)) (me_ixA hr.units (me_con (pe_glob (v := .ref T.c_SIGNS) rfl T.g_SIGNS rfl) (con_tup T.w_SIGNS (con_cons (con_tup T.w_SIGNS_0 (con_cons con_a (con_cons con_a (con_cons con_a con_nil)))) (con_cons (con_tup T.w_SIGNS_1 (con_cons con_a (con_cons con_a (con_cons con_a (con_cons con_a (con_cons con_a (con_cons con_a con_nil))))))) (con_cons (con_tup T.w_SIGNS_2 (con_cons con_a (con_cons con_a (con_cons con_a (con_cons con_a (con_cons con_a con_nil)))))) (con_cons (con_tup T.w_SIGNS_3 (con_cons con_a (con_cons con_a (con_cons con_a (con_cons con_a con_nil))))) (con_cons (con_tup T.w_SIGNS_4 (con_cons con_a (con_cons con_a (con_cons con_a con_nil)))) (con_cons (con_tup T.w_SIGNS_5 (con_cons con_a (con_cons con_a (con_cons con_a con_nil)))) con_nil)))))))) (me_var (pv 1)) (fun _ _ => rfl)) rfl) (mss_one (ms_ret (me_c pe_bl)))
    mss_nil)) rfl T.n_enumerate (passes_of rfl) rfl)
    (mss_cons (ms_asg (me_var (pv 0)) (mg_unp (is := [3, 4, 5, 6, 7, 8]) (pg_tup (by rfl) (pgs_cons (pg_name (i := 3) sc_is_standing.nd rfl (Or.inl rfl)) (pgs_cons (pg_name (i := 4) sc_is_standing.nd rfl (Or.inl rfl)) (pgs_cons (pg_name (i := 5) sc_is_standing.nd rfl (Or.inl rfl)) (pgs_cons (pg_name (i := 6) sc_is_standing.nd rfl (Or.inl rfl)) (pgs_cons (pg_name (i := 7) sc_is_standing.nd rfl (Or.inl rfl)) (pgs_cons (pg_name (i := 8) sc_is_standing.nd rfl (Or.inl rfl)) pgs_nil))))))) (pg_lst (by rfl) (pgs_cons (pg_name (i := 3) sc_is_standing.nd rfl (Or.inl rfl)) (pgs_cons (pg_name (i := 4) sc_is_standing.nd rfl (Or.inl rfl)) (pgs_cons (pg_name (i := 5) sc_is_standing.nd rfl (Or.inl rfl)) (pgs_cons (pg_name (i := 6) sc_is_standing.nd rfl (Or.inl rfl)) (pgs_cons (pg_name (i := 7) sc_is_standing.nd rfl (Or.inl rfl)) (pgs_cons (pg_name (i := 8) sc_is_standing.nd rfl (Or.inl rfl)) pgs_nil)))))))) (fun a b => ps_asg a b))
    (mss_cons (ms_if (mw_pt (mw_or (mw_pt (mw_and (mt_cmp (OpR.or op_eq (op_eqD hr.units)) fEq_ok (me_var (pv 4)) (me_c pe_str) (nomark _)) (mw_and1 (mt_cmp (OpR.or op_ne (op_neD hr.units)) fNe_ok (me_var (pv 3)) (me_c pe_str) (nomark _))))) (mw_or1 (mw_pt (mw_and (mt_cmp (OpR.or op_eq (op_eqD hr.units)) fEq_ok (me_var (pv 4)) (me_c pe_str) (nomark _)) (mw_and1 (mt_cmp (OpR.or op_eq (op_eqD hr.units)) fEq_ok (me_var (pv 3)) (me_c pe_str) (nomark _)))))))) (mss_one (ms_ret (me_c pe_bl)))
    mss_nil)
    (mss_cons (ms_set (i := 9) sc_is_standing.nd rfl (Or.inl rfl) (me_call (is := []) (sim_kind_c T) (hr.mono (by decide)) (takes_of rfl rfl rfl rfl) rfl T.m_kind_c T.F_kind_c.kp T.b_kind_c (ma_cons (me_var (pv 0)) ma_nil) (by decide) (by decide)))
    (mss_cons (ms_if (mw_pt (mw_or (mw_pt (mw_and (mt_cmp (OpR.or op_eq (op_eqD hr.units)) fEq_ok (me_var (pv 5)) (me_c pe_str) (nomark _)) (mw_and1 (mt_cmp (OpR.or op_ne (op_neD hr.units)) fNe_ok (me_var (pv 9)) (me_c pe_str) (nomark _))))) (mw_or1 (mw_pt (mw_and (mt_cmp (OpR.or op_eq (op_eqD hr.units)) fEq_ok (me_var (pv 5)) (me_c pe_str) (nomark _)) (mw_and1 (mt_cmp (OpR.or op_eq (op_eqD hr.units)) fEq_ok (me_var (pv 9)) (me_c pe_str) (nomark _)))))))) (mss_one (ms_ret (me_c pe_bl)))
    mss_nil)
    (mss_cons (ms_if (mw_pt (mw_or (mw_pt (mw_and (mt_cmp (OpR.or op_eq (op_eqD hr.units)) fEq_ok (me_var (pv 6)) (me_c pe_str) (nomark _)) (mw_and1 (mt_cmp (OpR.or op_eq (op_eqD hr.units)) fEq_ok (me_var (pv 3)) (me_c pe_str) (nomark _))))) (mw_or (mw_pt (mw_and (mt_cmp (OpR.or op_eq (op_eqD hr.units)) fEq_ok (me_var (pv 6)) (me_c pe_str) (nomark _)) (mw_and1 (mt_cmp (op_notInA hr.units) fNotInA_ok (me_var (pv 4)) (me_con (pe_glob (v := .ref T.c_NEW) rfl T.g_NEW rfl) (con_tup T.w_NEW (con_cons con_a (con_cons con_a (con_cons con_a con_nil))))) rfl)))) (mw_or1 (mw_pt (mw_and (mt_cmp (OpR.or op_eq (op_eqD hr.units)) fEq_ok (me_var (pv 6)) (me_c pe_str) (nomark _)) (mw_and1 (mt_cmp (op_notInA hr.units) fNotInA_ok (me_var (pv 5)) (me_con (pe_glob (v := .ref T.c_NEW) rfl T.g_NEW rfl) (con_tup T.w_NEW (con_cons con_a (con_cons con_a (con_cons con_a con_nil))))) rfl)))))))) (mss_one (ms_ret (me_c pe_bl)))
    mss_nil)
    (mss_cons (ms_if (mw_pt (mw_and (mt_cmp (OpR.or op_eq (op_eqD hr.units)) fEq_ok (me_var (pv 7)) (me_c pe_str) (nomark _)) (mw_and1 (mt_cmp (OpR.or op_ne (op_neD hr.units)) fNe_ok (me_var (pv 3)) (me_c pe_str) (nomark _))))) (mss_one (ms_ret (me_c pe_bl)))
    mss_nil)
    (mss_one (ms_ret (me_or (me_cmp (OpR.or op_eq (op_eqD hr.units)) fEq_ok (me_var (pv 8)) (me_c pe_str) (nomark _)) (me_one (me_call (is := []) (sim_is_due T) (hr.mono (by decide)) (takes_of rfl rfl rfl rfl) rfl T.m_is_due T.F_is_due.kp T.b_is_due (ma_cons (me_var (pv 0)) ma_nil) (by decide) (by decide)))))))))))))))
abbrev md_after_takel : List Bool := [false, false]
def g_after_takel : GS := (sSeq (sIf (gSeq (gSeq (gSeq (gSeq (gVar 0) gNil) (gCall [] md_kind_r G_kind_r 1)) (gC (.str "F"))) fNe) (sRet (gC .non)) sNil)
    (sSeq (sAsg (gVar 0) (unpk md_after_takel [2, 3, 4, 5, 6, 7]))
    (sRet (gSeq (gSeq (gSeq (gVar 2) (fMv md_after_takel)) (gSeq (gSeq (gVar 3) (fMv md_after_takel)) (gSeq (gC (.str "L")) (gSeq (gSeq (gVar 5) (fMv md_after_takel)) (gSeq (gSeq (gVar 6) (fMv md_after_takel)) (gSeq (gSeq (gVar 7) (fMv md_after_takel)) gNil)))))) (fNew .tup 6)))))
def G_after_takel : GF := runF md_after_takel 8 g_after_takel
theorem sim_after_takel (T : Txt K mg w) : FnOk P w K mg base (L2N.CX P w) 3 T.a_after_takel T.fd_after_takel ["standing", "book"] (spOf (kcm K (kt P w T)) md_after_takel G_after_takel) :=
  fn_sim T.F_after_takel sc_after_takel rfl (by decide) fun cdv A outer s H E hr =>
  (mss_cons (ms_if (mt_cmp (OpR.or op_ne (op_neD hr.units)) fNe_ok (me_call (is := []) (sim_kind_r T) (hr.mono (by decide)) (takes_of rfl rfl rfl rfl) rfl T.m_kind_r T.F_kind_r.kp T.b_kind_r (ma_cons (me_var (pv 0)) ma_nil) (by decide) (by decide)) (me_c pe_str) (nomark _)) (mss_one (ms_ret (me_c pe_non)))
    mss_nil)
    (mss_cons (ms_asg (me_var (pv 0)) (mg_unp (is := [2, 3, 4, 5, 6, 7]) (pg_tup (by rfl) (pgs_cons (pg_name (i := 2) sc_after_takel.nd rfl (Or.inl rfl)) (pgs_cons (pg_name (i := 3) sc_after_takel.nd rfl (Or.inl rfl)) (pgs_cons (pg_name (i := 4) sc_after_takel.nd rfl (Or.inl rfl)) (pgs_cons (pg_name (i := 5) sc_after_takel.nd rfl (Or.inl rfl)) (pgs_cons (pg_name (i := 6) sc_after_takel.nd rfl (Or.inl rfl)) (pgs_cons (pg_name (i := 7) sc_after_takel.nd rfl (Or.inl rfl)) pgs_nil))))))) (pg_lst (by rfl) (pgs_cons (pg_name (i := 2) sc_after_takel.nd rfl (Or.inl rfl)) (pgs_cons (pg_name (i := 3) sc_after_takel.nd rfl (Or.inl rfl)) (pgs_cons (pg_name (i := 4) sc_after_takel.nd rfl (Or.inl rfl)) (pgs_cons (pg_name (i := 5) sc_after_takel.nd rfl (Or.inl rfl)) (pgs_cons (pg_name (i := 6) sc_after_takel.nd rfl (Or.inl rfl)) (pgs_cons (pg_name (i := 7) sc_after_takel.nd rfl (Or.inl rfl)) pgs_nil)))))))) (fun a b => ps_asg a b))
    (mss_one (ms_ret (me_tup (ma_cons (me_mv (me_var (pv 2))) (ma_cons (me_mv (me_var (pv 3))) (ma_cons (me_c pe_str) (ma_cons (me_mv (me_var (pv 5))) (ma_cons (me_mv (me_var (pv 6))) (ma_cons (me_mv (me_var (pv 7))) ma_nil)))))) (by show 6 ≤ sizeLine; decide))))))
abbrev md_Book_contains : List Bool := [false, false]
def g_Book_contains : GS := (sRet (gSeq (gSeq (gVar 1) (gSeq (gVar 0) (fFld tab_names))) fInA))
def G_Book_contains : GF := runF md_Book_contains 2 g_Book_contains
theorem sim_Book_contains (T : Txt K mg w) : FnOk P w K mg base (L2N.CX P w) 1 T.a_Book_contains T.fd_Book_contains ["self", "name"] (spOf (kcm K (kt P w T)) md_Book_contains G_Book_contains) :=
  fn_sim T.F_Book_contains sc_Book_contains rfl (by decide) fun cdv A outer s H E hr =>
  (mss_one (ms_ret (me_cmp (op_inA hr.units) fInA_ok (me_var (pv 1)) (me_fld (me_var (pv 0)) (fo_names T)) rfl)))
abbrev md_after_takep : List Bool := [false, false]
def g_after_takep : GS := (sSeq (sIf (gSeq (gSeq (gSeq (gSeq (gVar 0) gNil) (gCall [] md_kind_r G_kind_r 1)) (gC (.str "F"))) fNe) (sRet (gC .non)) sNil)
    (sSeq (sAsg (gVar 0) (unpk md_after_takep [2, 3, 4, 5, 6, 7]))
    (sSeq (sIf (gAnd (gSeq (gSeq (gC (.str "reuse")) (gVar 1)) (fInO 0 md_Book_contains G_Book_contains false)) (gOrB (gSeq (gSeq (gVar 2) (gC (.str "F"))) fNe) (gSeq (gSeq (gSeq (gSeq (gVar 0) gNil) (gCall [] md_kind_c G_kind_c 1)) (gC (.str "F"))) fNe))) (sRet (gC .non)) sNil)
    (sSeq (sIf (gAnd (gSeq (gSeq (gC (.str "shelve")) (gVar 1)) (fInO 0 md_Book_contains G_Book_contains false)) (gSeq (gSeq (gVar 6) (gC (.str "-"))) fNe)) (sRet (gC .non)) sNil)
    (sRet (gSeq (gSeq (gSeq (gVar 2) (fMv md_after_takep)) (gSeq (gSeq (gVar 3) (fMv md_after_takep)) (gSeq (gC (.str "P")) (gSeq (gSeq (gVar 5) (fMv md_after_takep)) (gSeq (gSeq (gVar 6) (fMv md_after_takep)) (gSeq (gSeq (gVar 7) (fMv md_after_takep)) gNil)))))) (fNew .tup 6)))))))
def G_after_takep : GF := runF md_after_takep 8 g_after_takep
theorem sim_after_takep (T : Txt K mg w) : FnOk P w K mg base (L2N.CX P w) 3 T.a_after_takep T.fd_after_takep ["standing", "book"] (spOf (kcm K (kt P w T)) md_after_takep G_after_takep) :=
  fn_sim T.F_after_takep sc_after_takep rfl (by decide) fun cdv A outer s H E hr =>
  (mss_cons (ms_if (mt_cmp (OpR.or op_ne (op_neD hr.units)) fNe_ok (me_call (is := []) (sim_kind_r T) (hr.mono (by decide)) (takes_of rfl rfl rfl rfl) rfl T.m_kind_r T.F_kind_r.kp T.b_kind_r (ma_cons (me_var (pv 0)) ma_nil) (by decide) (by decide)) (me_c pe_str) (nomark _)) (mss_one (ms_ret (me_c pe_non)))
    mss_nil)
    (mss_cons (ms_asg (me_var (pv 0)) (mg_unp (is := [2, 3, 4, 5, 6, 7]) (pg_tup (by rfl) (pgs_cons (pg_name (i := 2) sc_after_takep.nd rfl (Or.inl rfl)) (pgs_cons (pg_name (i := 3) sc_after_takep.nd rfl (Or.inl rfl)) (pgs_cons (pg_name (i := 4) sc_after_takep.nd rfl (Or.inl rfl)) (pgs_cons (pg_name (i := 5) sc_after_takep.nd rfl (Or.inl rfl)) (pgs_cons (pg_name (i := 6) sc_after_takep.nd rfl (Or.inl rfl)) (pgs_cons (pg_name (i := 7) sc_after_takep.nd rfl (Or.inl rfl)) pgs_nil))))))) (pg_lst (by rfl) (pgs_cons (pg_name (i := 2) sc_after_takep.nd rfl (Or.inl rfl)) (pgs_cons (pg_name (i := 3) sc_after_takep.nd rfl (Or.inl rfl)) (pgs_cons (pg_name (i := 4) sc_after_takep.nd rfl (Or.inl rfl)) (pgs_cons (pg_name (i := 5) sc_after_takep.nd rfl (Or.inl rfl)) (pgs_cons (pg_name (i := 6) sc_after_takep.nd rfl (Or.inl rfl)) (pgs_cons (pg_name (i := 7) sc_after_takep.nd rfl (Or.inl rfl)) pgs_nil)))))))) (fun a b => ps_asg a b))
    (mss_cons (ms_if (mw_pt (mw_and (mt_cmp (op_inO T.m_Book_contains (sim_Book_contains T) (hr.mono (by decide)) T.b_Book_contains) fInO_ok (me_c pe_str) (me_var (pv 1)) rfl) (mw_and1 (mw_pt (mw_or (mt_cmp (OpR.or op_ne (op_neD hr.units)) fNe_ok (me_var (pv 2)) (me_c pe_str) (nomark _)) (mw_or1 (mt_cmp (OpR.or op_ne (op_neD hr.units)) fNe_ok (me_call (is := []) (sim_kind_c T) (hr.mono (by decide)) (takes_of rfl rfl rfl rfl) rfl T.m_kind_c T.F_kind_c.kp T.b_kind_c (ma_cons (me_var (pv 0)) ma_nil) (by decide) (by decide)) (me_c pe_str) (nomark _)))))))) (mss_one (ms_ret (me_c pe_non)))
    mss_nil)
    (mss_cons (ms_if (mw_pt (mw_and (mt_cmp (op_inO T.m_Book_contains (sim_Book_contains T) (hr.mono (by decide)) T.b_Book_contains) fInO_ok (me_c pe_str) (me_var (pv 1)) rfl) (mw_and1 (mt_cmp (OpR.or op_ne (op_neD hr.units)) fNe_ok (me_var (pv 6)) (me_c pe_str) (nomark _))))) (mss_one (ms_ret (me_c pe_non)))
    mss_nil)
    (mss_one (ms_ret (me_tup (ma_cons (me_mv (me_var (pv 2))) (ma_cons (me_mv (me_var (pv 3))) (ma_cons (me_c pe_str) (ma_cons (me_mv (me_var (pv 5))) (ma_cons (me_mv (me_var (pv 6))) (ma_cons (me_mv (me_var (pv 7))) ma_nil)))))) (by show 6 ≤ sizeLine; decide))))))))
abbrev md_waits : List Bool := [false, false]
def g_waits : GS := (sRet (gAnd (gSeq (gSeq (gC (.str "wait")) (gVar 1)) (fInO 0 md_Book_contains G_Book_contains false)) (gAnd (gSeq (gSeq (gVar 0) gNil) (gCall [] md_is_due G_is_due 1)) (gSeq (gSeq (gSeq (gSeq (gVar 0) (gC (.int 5))) fIxA) (gC (.str "-"))) fEq))))
def G_waits : GF := runF md_waits 2 g_waits
theorem sim_waits (T : Txt K mg w) : FnOk P w K mg base (L2N.CX P w) 2 T.a_waits T.fd_waits ["standing", "book"] (spOf (kcm K (kt P w T)) md_waits G_waits) :=
  fn_sim T.F_waits sc_waits rfl (by decide) fun cdv A outer s H E hr =>
  (mss_one (ms_ret (me_and (me_cmp (op_inO T.m_Book_contains (sim_Book_contains T) (hr.mono (by decide)) T.b_Book_contains) fInO_ok (me_c pe_str) (me_var (pv 1)) rfl) (me_and (me_call (is := []) (sim_is_due T) (hr.mono (by decide)) (takes_of rfl rfl rfl rfl) rfl T.m_is_due T.F_is_due.kp T.b_is_due (ma_cons (me_var (pv 0)) ma_nil) (by decide) (by decide)) (me_one (me_cmp (OpR.or op_eq (op_eqD hr.units)) fEq_ok (me_ixA hr.units (me_var (pv 0)) (me_c pe_int) (fun _ _ => rfl)) (me_c pe_str) (nomark _)))))))
abbrev md_home_without_r : List Bool := [false]
def g_home_without_r : GS := (sSeq (sIf (gSeq (gSeq (gVar 0) (gC (.str "R"))) fEq) (sRet (gC (.str "o"))) sNil)
    (sRet (gVar 0)))
def G_home_without_r : GF := runF md_home_without_r 1 g_home_without_r
theorem sim_home_without_r (T : Txt K mg w) : FnOk P w K mg base (L2N.CX P w) 1 T.a_home_without_r T.fd_home_without_r ["h"] (spOf (kcm K (kt P w T)) md_home_without_r G_home_without_r) :=
  fn_sim T.F_home_without_r sc_home_without_r rfl (by decide) fun cdv A outer s H E hr =>
  (mss_cons (ms_if (mt_cmp (OpR.or op_eq (op_eqD hr.units)) fEq_ok (me_var (pv 0)) (me_c pe_str) (nomark _)) (mss_one (ms_ret (me_c pe_str)))
    mss_nil)
    (mss_one (ms_ret (me_var (pv 0)))))
abbrev md_after_change : List Bool := [false, false]
def g_after_change : GS := (sSeq (sIf (gOrB (gSeq (gSeq (gSeq (gSeq (gVar 0) gNil) (gCall [] md_kind_r G_kind_r 1)) (gC (.str "L"))) fNe) (gSeq (gSeq (gVar 0) (gSeq (gVar 1) gNil)) (gCall [] md_waits G_waits 2))) (sRet (gC .non)) sNil)
    (sSeq (sAsg (gVar 0) (unpk md_after_change [2, 3, 4, 5, 6, 7]))
    (sSeq (sIf (gSeq (gSeq (gVar 4) (gC (.str "="))) fEq) (sSet md_after_change 4 (gC (.str "~"))) sNil)
    (sRet (gSeq (gSeq (gSeq (gVar 2) (fMv md_after_change)) (gSeq (gSeq (gVar 3) (fMv md_after_change)) (gSeq (gSeq (gVar 4) (fMv md_after_change)) (gSeq (gSeq (gSeq (gVar 5) gNil) (gCall [] md_home_without_r G_home_without_r 1)) (gSeq (gSeq (gVar 6) (fMv md_after_change)) (gSeq (gSeq (gVar 7) (fMv md_after_change)) gNil)))))) (fNew .tup 6))))))
def G_after_change : GF := runF md_after_change 8 g_after_change
theorem sim_after_change (T : Txt K mg w) : FnOk P w K mg base (L2N.CX P w) 3 T.a_after_change T.fd_after_change ["standing", "book"] (spOf (kcm K (kt P w T)) md_after_change G_after_change) :=
  fn_sim T.F_after_change sc_after_change rfl (by decide) fun cdv A outer s H E hr =>
  (mss_cons (ms_if (mw_pt (mw_or (mt_cmp (OpR.or op_ne (op_neD hr.units)) fNe_ok (me_call (is := []) (sim_kind_r T) (hr.mono (by decide)) (takes_of rfl rfl rfl rfl) rfl T.m_kind_r T.F_kind_r.kp T.b_kind_r (ma_cons (me_var (pv 0)) ma_nil) (by decide) (by decide)) (me_c pe_str) (nomark _)) (mw_or1 (mt_val (me_call (is := []) (sim_waits T) (hr.mono (by decide)) (takes_of rfl rfl rfl rfl) rfl T.m_waits T.F_waits.kp T.b_waits (ma_cons (me_var (pv 0)) (ma_cons (me_var (pv 1)) ma_nil)) (by decide) (by decide)))))) (mss_one (ms_ret (me_c pe_non)))
    mss_nil)
    (mss_cons (ms_asg (me_var (pv 0)) (mg_unp (is := [2, 3, 4, 5, 6, 7]) (pg_tup (by rfl) (pgs_cons (pg_name (i := 2) sc_after_change.nd rfl (Or.inl rfl)) (pgs_cons (pg_name (i := 3) sc_after_change.nd rfl (Or.inl rfl)) (pgs_cons (pg_name (i := 4) sc_after_change.nd rfl (Or.inl rfl)) (pgs_cons (pg_name (i := 5) sc_after_change.nd rfl (Or.inl rfl)) (pgs_cons (pg_name (i := 6) sc_after_change.nd rfl (Or.inl rfl)) (pgs_cons (pg_name (i := 7) sc_after_change.nd rfl (Or.inl rfl)) pgs_nil))))))) (pg_lst (by rfl) (pgs_cons (pg_name (i := 2) sc_after_change.nd rfl (Or.inl rfl)) (pgs_cons (pg_name (i := 3) sc_after_change.nd rfl (Or.inl rfl)) (pgs_cons (pg_name (i := 4) sc_after_change.nd rfl (Or.inl rfl)) (pgs_cons (pg_name (i := 5) sc_after_change.nd rfl (Or.inl rfl)) (pgs_cons (pg_name (i := 6) sc_after_change.nd rfl (Or.inl rfl)) (pgs_cons (pg_name (i := 7) sc_after_change.nd rfl (Or.inl rfl)) pgs_nil)))))))) (fun a b => ps_asg a b))
    (mss_cons (ms_if (mt_cmp (OpR.or op_eq (op_eqD hr.units)) fEq_ok (me_var (pv 4)) (me_c pe_str) (nomark _)) (mss_one (ms_set (i := 4) sc_after_change.nd rfl (Or.inl rfl) (me_c pe_str)))
    mss_nil)
    (mss_one (ms_ret (me_tup (ma_cons (me_mv (me_var (pv 2))) (ma_cons (me_mv (me_var (pv 3))) (ma_cons (me_mv (me_var (pv 4))) (ma_cons (me_call (is := []) (sim_home_without_r T) (hr.mono (by decide)) (takes_of rfl rfl rfl rfl) rfl T.m_home_without_r T.F_home_without_r.kp T.b_home_without_r (ma_cons (me_var (pv 5)) ma_nil) (by decide) (by decide)) (ma_cons (me_mv (me_var (pv 6))) (ma_cons (me_mv (me_var (pv 7))) ma_nil)))))) (by show 6 ≤ sizeLine; decide)))))))
abbrev md_after_free : List Bool := [false, false]
def g_after_free : GS := (sSeq (sIf (gOrB (gSeq (gSeq (gSeq (gSeq (gVar 0) gNil) (gCall [] md_kind_r G_kind_r 1)) (gC (.str "F"))) fEq) (gSeq (gSeq (gVar 0) (gSeq (gVar 1) gNil)) (gCall [] md_waits G_waits 2))) (sRet (gC .non)) sNil)
    (sSeq (sAsg (gVar 0) (unpk md_after_free [2, 3, 4, 5, 6, 7]))
    (sSeq (sSet md_after_free 4 (gC (.str "F")))
    (sSeq (sIf (gSeq (gSeq (gSeq (gSeq (gVar 0) gNil) (gCall [] md_kind_c G_kind_c 1)) (gC (.str "F"))) fEq) (sSet md_after_free 4 (gC (.str "="))) sNil)
    (sRet (gSeq (gSeq (gSeq (gVar 2) (fMv md_after_free)) (gSeq (gSeq (gVar 3) (fMv md_after_free)) (gSeq (gSeq (gVar 4) (fMv md_after_free)) (gSeq (gSeq (gSeq (gVar 5) gNil) (gCall [] md_home_without_r G_home_without_r 1)) (gSeq (gSeq (gVar 6) (fMv md_after_free)) (gSeq (gSeq (gVar 7) (fMv md_after_free)) gNil)))))) (fNew .tup 6)))))))
def G_after_free : GF := runF md_after_free 8 g_after_free
theorem sim_after_free (T : Txt K mg w) : FnOk P w K mg base (L2N.CX P w) 3 T.a_after_free T.fd_after_free ["standing", "book"] (spOf (kcm K (kt P w T)) md_after_free G_after_free) :=
  fn_sim T.F_after_free sc_after_free rfl (by decide) fun cdv A outer s H E hr =>
  (mss_cons (ms_if (mw_pt (mw_or (mt_cmp (OpR.or op_eq (op_eqD hr.units)) fEq_ok (me_call (is := []) (sim_kind_r T) (hr.mono (by decide)) (takes_of rfl rfl rfl rfl) rfl T.m_kind_r T.F_kind_r.kp T.b_kind_r (ma_cons (me_var (pv 0)) ma_nil) (by decide) (by decide)) (me_c pe_str) (nomark _)) (mw_or1 (mt_val (me_call (is := []) (sim_waits T) (hr.mono (by decide)) (takes_of rfl rfl rfl rfl) rfl T.m_waits T.F_waits.kp T.b_waits (ma_cons (me_var (pv 0)) (ma_cons (me_var (pv 1)) ma_nil)) (by decide) (by decide)))))) (mss_one (ms_ret (me_c pe_non)))
    mss_nil)
    (mss_cons (ms_asg (me_var (pv 0)) (mg_unp (is := [2, 3, 4, 5, 6, 7]) (pg_tup (by rfl) (pgs_cons (pg_name (i := 2) sc_after_free.nd rfl (Or.inl rfl)) (pgs_cons (pg_name (i := 3) sc_after_free.nd rfl (Or.inl rfl)) (pgs_cons (pg_name (i := 4) sc_after_free.nd rfl (Or.inl rfl)) (pgs_cons (pg_name (i := 5) sc_after_free.nd rfl (Or.inl rfl)) (pgs_cons (pg_name (i := 6) sc_after_free.nd rfl (Or.inl rfl)) (pgs_cons (pg_name (i := 7) sc_after_free.nd rfl (Or.inl rfl)) pgs_nil))))))) (pg_lst (by rfl) (pgs_cons (pg_name (i := 2) sc_after_free.nd rfl (Or.inl rfl)) (pgs_cons (pg_name (i := 3) sc_after_free.nd rfl (Or.inl rfl)) (pgs_cons (pg_name (i := 4) sc_after_free.nd rfl (Or.inl rfl)) (pgs_cons (pg_name (i := 5) sc_after_free.nd rfl (Or.inl rfl)) (pgs_cons (pg_name (i := 6) sc_after_free.nd rfl (Or.inl rfl)) (pgs_cons (pg_name (i := 7) sc_after_free.nd rfl (Or.inl rfl)) pgs_nil)))))))) (fun a b => ps_asg a b))
    (mss_cons (ms_set (i := 4) sc_after_free.nd rfl (Or.inl rfl) (me_c pe_str))
    (mss_cons (ms_if (mt_cmp (OpR.or op_eq (op_eqD hr.units)) fEq_ok (me_call (is := []) (sim_kind_c T) (hr.mono (by decide)) (takes_of rfl rfl rfl rfl) rfl T.m_kind_c T.F_kind_c.kp T.b_kind_c (ma_cons (me_var (pv 0)) ma_nil) (by decide) (by decide)) (me_c pe_str) (nomark _)) (mss_one (ms_set (i := 4) sc_after_free.nd rfl (Or.inl rfl) (me_c pe_str)))
    mss_nil)
    (mss_one (ms_ret (me_tup (ma_cons (me_mv (me_var (pv 2))) (ma_cons (me_mv (me_var (pv 3))) (ma_cons (me_mv (me_var (pv 4))) (ma_cons (me_call (is := []) (sim_home_without_r T) (hr.mono (by decide)) (takes_of rfl rfl rfl rfl) rfl T.m_home_without_r T.F_home_without_r.kp T.b_home_without_r (ma_cons (me_var (pv 5)) ma_nil) (by decide) (by decide)) (ma_cons (me_mv (me_var (pv 6))) (ma_cons (me_mv (me_var (pv 7))) ma_nil)))))) (by show 6 ≤ sizeLine; decide))))))))
abbrev md_after_close : List Bool := [false, false]
def g_after_close : GS := (sSeq (sAsg (gVar 0) (unpk md_after_close [2, 3, 4, 5, 6, 7]))
    (sSeq (sIf (gSeq (gSeq (gVar 3) (gC (.str "-"))) fNe) (sRet (gC .non)) sNil)
    (sSeq (sIf (gSeq (gSeq (gVar 5) (gC (.str "R"))) fEq) (sSet md_after_close 5 (gC (.str "C"))) sNil)
    (sRet (gSeq (gSeq (gSeq (gVar 2) (fMv md_after_close)) (gSeq (gSeq (gVar 4) (fMv md_after_close)) (gSeq (gC (.str "=")) (gSeq (gSeq (gVar 5) (fMv md_after_close)) (gSeq (gSeq (gVar 6) (fMv md_after_close)) (gSeq (gC (.str "-")) gNil)))))) (fNew .tup 6))))))
def G_after_close : GF := runF md_after_close 8 g_after_close
theorem sim_after_close (T : Txt K mg w) : FnOk P w K mg base (L2N.CX P w) 1 T.a_after_close T.fd_after_close ["standing", "book"] (spOf (kcm K (kt P w T)) md_after_close G_after_close) :=
  fn_sim T.F_after_close sc_after_close rfl (by decide) fun cdv A outer s H E hr =>
  (mss_cons (ms_asg (me_var (pv 0)) (mg_unp (is := [2, 3, 4, 5, 6, 7]) (pg_tup (by rfl) (pgs_cons (pg_name (i := 2) sc_after_close.nd rfl (Or.inl rfl)) (pgs_cons (pg_name (i := 3) sc_after_close.nd rfl (Or.inl rfl)) (pgs_cons (pg_name (i := 4) sc_after_close.nd rfl (Or.inl rfl)) (pgs_cons (pg_name (i := 5) sc_after_close.nd rfl (Or.inl rfl)) (pgs_cons (pg_name (i := 6) sc_after_close.nd rfl (Or.inl rfl)) (pgs_cons (pg_name (i := 7) sc_after_close.nd rfl (Or.inl rfl)) pgs_nil))))))) (pg_lst (by rfl) (pgs_cons (pg_name (i := 2) sc_after_close.nd rfl (Or.inl rfl)) (pgs_cons (pg_name (i := 3) sc_after_close.nd rfl (Or.inl rfl)) (pgs_cons (pg_name (i := 4) sc_after_close.nd rfl (Or.inl rfl)) (pgs_cons (pg_name (i := 5) sc_after_close.nd rfl (Or.inl rfl)) (pgs_cons (pg_name (i := 6) sc_after_close.nd rfl (Or.inl rfl)) (pgs_cons (pg_name (i := 7) sc_after_close.nd rfl (Or.inl rfl)) pgs_nil)))))))) (fun a b => ps_asg a b))
    (mss_cons (ms_if (mt_cmp (OpR.or op_ne (op_neD hr.units)) fNe_ok (me_var (pv 3)) (me_c pe_str) (nomark _)) (mss_one (ms_ret (me_c pe_non)))
    mss_nil)
    (mss_cons (ms_if (mt_cmp (OpR.or op_eq (op_eqD hr.units)) fEq_ok (me_var (pv 5)) (me_c pe_str) (nomark _)) (mss_one (ms_set (i := 5) sc_after_close.nd rfl (Or.inl rfl) (me_c pe_str)))
    mss_nil)
    (mss_one (ms_ret (me_tup (ma_cons (me_mv (me_var (pv 2))) (ma_cons (me_mv (me_var (pv 4))) (ma_cons (me_c pe_str) (ma_cons (me_mv (me_var (pv 5))) (ma_cons (me_mv (me_var (pv 6))) (ma_cons (me_c pe_str) ma_nil)))))) (by show 6 ≤ sizeLine; decide)))))))
abbrev md_after_copy : List Bool := [false, false]
def g_after_copy : GS := (sSeq (sAsg (gVar 0) (unpk md_after_copy [2, 3, 4, 5, 6, 7]))
    (sSeq (sIf (gOrB (gNot (gSeq (gSeq (gVar 0) gNil) (gCall [] md_is_due G_is_due 1))) (gSeq (gSeq (gVar 7) (gC (.str "-"))) fNe)) (sRet (gC .non)) sNil)
    (sSeq (sSet md_after_copy 7 (gC (.str "!")))
    (sSeq (sIf (gOrB (gSeq (gSeq (gC (.str "frozen")) (gVar 1)) (fInO 0 md_Book_contains G_Book_contains false)) (gSeq (gSeq (gVar 4) (gC (.str "="))) fEq)) (sSet md_after_copy 7 (gC (.str "+"))) sNil)
    (sRet (gSeq (gSeq (gSeq (gVar 2) (fMv md_after_copy)) (gSeq (gSeq (gVar 3) (fMv md_after_copy)) (gSeq (gSeq (gVar 4) (fMv md_after_copy)) (gSeq (gSeq (gVar 5) (fMv md_after_copy)) (gSeq (gSeq (gVar 6) (fMv md_after_copy)) (gSeq (gSeq (gVar 7) (fMv md_after_copy)) gNil)))))) (fNew .tup 6)))))))
def G_after_copy : GF := runF md_after_copy 8 g_after_copy
theorem sim_after_copy (T : Txt K mg w) : FnOk P w K mg base (L2N.CX P w) 2 T.a_after_copy T.fd_after_copy ["standing", "book"] (spOf (kcm K (kt P w T)) md_after_copy G_after_copy) :=
  fn_sim T.F_after_copy sc_after_copy rfl (by decide) fun cdv A outer s H E hr =>
  (mss_cons (ms_asg (me_var (pv 0)) (mg_unp (is := [2, 3, 4, 5, 6, 7]) (pg_tup (by rfl) (pgs_cons (pg_name (i := 2) sc_after_copy.nd rfl (Or.inl rfl)) (pgs_cons (pg_name (i := 3) sc_after_copy.nd rfl (Or.inl rfl)) (pgs_cons (pg_name (i := 4) sc_after_copy.nd rfl (Or.inl rfl)) (pgs_cons (pg_name (i := 5) sc_after_copy.nd rfl (Or.inl rfl)) (pgs_cons (pg_name (i := 6) sc_after_copy.nd rfl (Or.inl rfl)) (pgs_cons (pg_name (i := 7) sc_after_copy.nd rfl (Or.inl rfl)) pgs_nil))))))) (pg_lst (by rfl) (pgs_cons (pg_name (i := 2) sc_after_copy.nd rfl (Or.inl rfl)) (pgs_cons (pg_name (i := 3) sc_after_copy.nd rfl (Or.inl rfl)) (pgs_cons (pg_name (i := 4) sc_after_copy.nd rfl (Or.inl rfl)) (pgs_cons (pg_name (i := 5) sc_after_copy.nd rfl (Or.inl rfl)) (pgs_cons (pg_name (i := 6) sc_after_copy.nd rfl (Or.inl rfl)) (pgs_cons (pg_name (i := 7) sc_after_copy.nd rfl (Or.inl rfl)) pgs_nil)))))))) (fun a b => ps_asg a b))
    (mss_cons (ms_if (mw_pt (mw_or (mt_not (mt_val (me_call (is := []) (sim_is_due T) (hr.mono (by decide)) (takes_of rfl rfl rfl rfl) rfl T.m_is_due T.F_is_due.kp T.b_is_due (ma_cons (me_var (pv 0)) ma_nil) (by decide) (by decide)))) (mw_or1 (mt_cmp (OpR.or op_ne (op_neD hr.units)) fNe_ok (me_var (pv 7)) (me_c pe_str) (nomark _))))) (mss_one (ms_ret (me_c pe_non)))
    mss_nil)
    (mss_cons (ms_set (i := 7) sc_after_copy.nd rfl (Or.inl rfl) (me_c pe_str))
    (mss_cons (ms_if (mw_pt (mw_or (mt_cmp (op_inO T.m_Book_contains (sim_Book_contains T) (hr.mono (by decide)) T.b_Book_contains) fInO_ok (me_c pe_str) (me_var (pv 1)) rfl) (mw_or1 (mt_cmp (OpR.or op_eq (op_eqD hr.units)) fEq_ok (me_var (pv 4)) (me_c pe_str) (nomark _))))) (mss_one (ms_set (i := 7) sc_after_copy.nd rfl (Or.inl rfl) (me_c pe_str)))
    mss_nil)
    (mss_one (ms_ret (me_tup (ma_cons (me_mv (me_var (pv 2))) (ma_cons (me_mv (me_var (pv 3))) (ma_cons (me_mv (me_var (pv 4))) (ma_cons (me_mv (me_var (pv 5))) (ma_cons (me_mv (me_var (pv 6))) (ma_cons (me_mv (me_var (pv 7))) ma_nil)))))) (by show 6 ≤ sizeLine; decide))))))))
abbrev md_log_after_mark : List Bool := [false, false]
def g_log_after_mark : GS := (sSeq (sAsg (gVar 0) (unpk md_log_after_mark [2, 3, 4, 5, 6, 7]))
    (sSeq (sIf (gSeq (gSeq (gVar 3) (gC (.str "="))) fEq) (sRet (gSeq (gVar 6) (fMv md_log_after_mark))) sNil)
    (sSeq (sSet md_log_after_mark 8 (gAnd (gSeq (gSeq (gVar 2) (gC (.str "L"))) fEq) (gAnd (gSeq (gSeq (gVar 3) (gC (.str "~"))) fNe) (gSeq (gSeq (gC (.str "revoke")) (gVar 1)) (fInO 0 md_Book_contains G_Book_contains false)))))
    (sSeq (sIf (gSeq (gSeq (gVar 0) gNil) (gCall [] md_is_due G_is_due 1)) (sSeq (sIf (gAnd (gVar 8) (gSeq (gSeq (gC (.str "lapse")) (gVar 1)) (fInO 0 md_Book_contains G_Book_contains true))) (sRet (gC (.str "-"))) sNil)
    (sSeq (sIf (gSeq (gSeq (gVar 7) (gC (.str "+"))) fEq) (sRet (gC (.str "K"))) sNil)
    (sRet (gC (.str "o"))))) sNil)
    (sSeq (sIf (gVar 8) (sRet (gC (.str "-"))) sNil)
    (sSeq (sIf (gSeq (gSeq (gVar 6) (gC (.str "K"))) fEq) (sRet (gC (.str "o"))) sNil)
    (sRet (gSeq (gVar 6) (fMv md_log_after_mark)))))))))
def G_log_after_mark : GF := runF md_log_after_mark 9 g_log_after_mark
theorem sim_log_after_mark (T : Txt K mg w) : FnOk P w K mg base (L2N.CX P w) 2 T.a_log_after_mark T.fd_log_after_mark ["standing", "book"] (spOf (kcm K (kt P w T)) md_log_after_mark G_log_after_mark) :=
  fn_sim T.F_log_after_mark sc_log_after_mark rfl (by decide) fun cdv A outer s H E hr =>
  (mss_cons (ms_asg (me_var (pv 0)) (mg_unp (is := [2, 3, 4, 5, 6, 7]) (pg_tup (by rfl) (pgs_cons (pg_name (i := 2) sc_log_after_mark.nd rfl (Or.inl rfl)) (pgs_cons (pg_name (i := 3) sc_log_after_mark.nd rfl (Or.inl rfl)) (pgs_cons (pg_name (i := 4) sc_log_after_mark.nd rfl (Or.inl rfl)) (pgs_cons (pg_name (i := 5) sc_log_after_mark.nd rfl (Or.inl rfl)) (pgs_cons (pg_name (i := 6) sc_log_after_mark.nd rfl (Or.inl rfl)) (pgs_cons (pg_name (i := 7) sc_log_after_mark.nd rfl (Or.inl rfl)) pgs_nil))))))) (pg_lst (by rfl) (pgs_cons (pg_name (i := 2) sc_log_after_mark.nd rfl (Or.inl rfl)) (pgs_cons (pg_name (i := 3) sc_log_after_mark.nd rfl (Or.inl rfl)) (pgs_cons (pg_name (i := 4) sc_log_after_mark.nd rfl (Or.inl rfl)) (pgs_cons (pg_name (i := 5) sc_log_after_mark.nd rfl (Or.inl rfl)) (pgs_cons (pg_name (i := 6) sc_log_after_mark.nd rfl (Or.inl rfl)) (pgs_cons (pg_name (i := 7) sc_log_after_mark.nd rfl (Or.inl rfl)) pgs_nil)))))))) (fun a b => ps_asg a b))
    (mss_cons (ms_if (mt_cmp (OpR.or op_eq (op_eqD hr.units)) fEq_ok (me_var (pv 3)) (me_c pe_str) (nomark _)) (mss_one (ms_ret (me_mv (me_var (pv 6)))))
    mss_nil)
    (mss_cons (ms_set (i := 8) sc_log_after_mark.nd rfl (Or.inl rfl) (me_and (me_cmp (OpR.or op_eq (op_eqD hr.units)) fEq_ok (me_var (pv 2)) (me_c pe_str) (nomark _)) (me_and (me_cmp (OpR.or op_ne (op_neD hr.units)) fNe_ok (me_var (pv 3)) (me_c pe_str) (nomark _)) (me_one (me_cmp (op_inO T.m_Book_contains (sim_Book_contains T) (hr.mono (by decide)) T.b_Book_contains) fInO_ok (me_c pe_str) (me_var (pv 1)) rfl)))))
    (mss_cons (ms_if (mt_val (me_call (is := []) (sim_is_due T) (hr.mono (by decide)) (takes_of rfl rfl rfl rfl) rfl T.m_is_due T.F_is_due.kp T.b_is_due (ma_cons (me_var (pv 0)) ma_nil) (by decide) (by decide))) (mss_cons (ms_if (mw_pt (mw_and (mt_val (me_var (pv 8))) (mw_and1 (mt_cmp (op_notInO T.m_Book_contains (sim_Book_contains T) (hr.mono (by decide)) T.b_Book_contains) fInO_ok (me_c pe_str) (me_var (pv 1)) rfl)))) (mss_one (ms_ret (me_c pe_str)))
    mss_nil)
    (mss_cons (ms_if (mt_cmp (OpR.or op_eq (op_eqD hr.units)) fEq_ok (me_var (pv 7)) (me_c pe_str) (nomark _)) (mss_one (ms_ret (me_c pe_str)))
    mss_nil)
    (mss_one (ms_ret (me_c pe_str)))))
    mss_nil)
    (mss_cons (ms_if (mt_val (me_var (pv 8))) (mss_one (ms_ret (me_c pe_str)))
    mss_nil)
    (mss_cons (ms_if (mt_cmp (OpR.or op_eq (op_eqD hr.units)) fEq_ok (me_var (pv 6)) (me_c pe_str) (nomark _)) (mss_one (ms_ret (me_c pe_str)))
    mss_nil)
    (mss_one (ms_ret (me_mv (me_var (pv 6)))))))))))
abbrev md_after_mark : List Bool := [false, false]
def g_after_mark : GS := (sSeq (sAsg (gVar 0) (unpk md_after_mark [2, 3, 4, 5, 6, 7]))
    (sSeq (sIf (gSeq (gSeq (gVar 3) (gC (.str "-"))) fEq) (sRet (gC .non)) sNil)
    (sSeq (sIf (gAnd (gSeq (gSeq (gC (.str "copies")) (gVar 1)) (fInO 0 md_Book_contains G_Book_contains false)) (gAnd (gSeq (gSeq (gVar 0) gNil) (gCall [] md_is_due G_is_due 1)) (gSeq (gSeq (gVar 7) (gC (.str "-"))) fEq))) (sRet (gC .non)) sNil)
    (sSeq (sIf (gAnd (gSeq (gSeq (gC (.str "words")) (gVar 1)) (fInO 0 md_Book_contains G_Book_contains false)) (gAnd (gSeq (gSeq (gVar 3) (gC (.str "P"))) fEq) (gSeq (gSeq (gVar 5) (gC (.str "C"))) fNe))) (sRet (gC .non)) sNil)
    (sSeq (sIf (gSeq (gSeq (gVar 5) (gC (.str "C"))) fEq) (sSet md_after_mark 5 (gC (.str "K"))) (sIf (gAnd (gSeq (gSeq (gVar 5) (gC (.str "K"))) fEq) (gSeq (gSeq (gVar 3) (gC (.str "="))) fNe)) (sSet md_after_mark 5 (gC (.str "o"))) sNil))
    (sRet (gSeq (gSeq (gSeq (gSeq (gVar 0) gNil) (gCall [] md_kind_c G_kind_c 1)) (gSeq (gC (.str "-")) (gSeq (gSeq (gVar 4) (fMv md_after_mark)) (gSeq (gSeq (gVar 5) (fMv md_after_mark)) (gSeq (gSeq (gSeq (gVar 0) (gSeq (gVar 1) gNil)) (gCall [] md_log_after_mark G_log_after_mark 2)) (gSeq (gC (.str "-")) gNil)))))) (fNew .tup 6))))))))
def G_after_mark : GF := runF md_after_mark 8 g_after_mark
theorem sim_after_mark (T : Txt K mg w) : FnOk P w K mg base (L2N.CX P w) 3 T.a_after_mark T.fd_after_mark ["standing", "book"] (spOf (kcm K (kt P w T)) md_after_mark G_after_mark) :=
  fn_sim T.F_after_mark sc_after_mark rfl (by decide) fun cdv A outer s H E hr =>
  (mss_cons (ms_asg (me_var (pv 0)) (mg_unp (is := [2, 3, 4, 5, 6, 7]) (pg_tup (by rfl) (pgs_cons (pg_name (i := 2) sc_after_mark.nd rfl (Or.inl rfl)) (pgs_cons (pg_name (i := 3) sc_after_mark.nd rfl (Or.inl rfl)) (pgs_cons (pg_name (i := 4) sc_after_mark.nd rfl (Or.inl rfl)) (pgs_cons (pg_name (i := 5) sc_after_mark.nd rfl (Or.inl rfl)) (pgs_cons (pg_name (i := 6) sc_after_mark.nd rfl (Or.inl rfl)) (pgs_cons (pg_name (i := 7) sc_after_mark.nd rfl (Or.inl rfl)) pgs_nil))))))) (pg_lst (by rfl) (pgs_cons (pg_name (i := 2) sc_after_mark.nd rfl (Or.inl rfl)) (pgs_cons (pg_name (i := 3) sc_after_mark.nd rfl (Or.inl rfl)) (pgs_cons (pg_name (i := 4) sc_after_mark.nd rfl (Or.inl rfl)) (pgs_cons (pg_name (i := 5) sc_after_mark.nd rfl (Or.inl rfl)) (pgs_cons (pg_name (i := 6) sc_after_mark.nd rfl (Or.inl rfl)) (pgs_cons (pg_name (i := 7) sc_after_mark.nd rfl (Or.inl rfl)) pgs_nil)))))))) (fun a b => ps_asg a b))
    (mss_cons (ms_if (mt_cmp (OpR.or op_eq (op_eqD hr.units)) fEq_ok (me_var (pv 3)) (me_c pe_str) (nomark _)) (mss_one (ms_ret (me_c pe_non)))
    mss_nil)
    (mss_cons (ms_if (mw_pt (mw_and (mt_cmp (op_inO T.m_Book_contains (sim_Book_contains T) (hr.mono (by decide)) T.b_Book_contains) fInO_ok (me_c pe_str) (me_var (pv 1)) rfl) (mw_and (mt_val (me_call (is := []) (sim_is_due T) (hr.mono (by decide)) (takes_of rfl rfl rfl rfl) rfl T.m_is_due T.F_is_due.kp T.b_is_due (ma_cons (me_var (pv 0)) ma_nil) (by decide) (by decide))) (mw_and1 (mt_cmp (OpR.or op_eq (op_eqD hr.units)) fEq_ok (me_var (pv 7)) (me_c pe_str) (nomark _)))))) (mss_one (ms_ret (me_c pe_non)))
    mss_nil)
    (mss_cons (ms_if (mw_pt (mw_and (mt_cmp (op_inO T.m_Book_contains (sim_Book_contains T) (hr.mono (by decide)) T.b_Book_contains) fInO_ok (me_c pe_str) (me_var (pv 1)) rfl) (mw_and (mt_cmp (OpR.or op_eq (op_eqD hr.units)) fEq_ok (me_var (pv 3)) (me_c pe_str) (nomark _)) (mw_and1 (mt_cmp (OpR.or op_ne (op_neD hr.units)) fNe_ok (me_var (pv 5)) (me_c pe_str) (nomark _)))))) (mss_one (ms_ret (me_c pe_non)))
    mss_nil)
    (mss_cons (ms_if (mt_cmp (OpR.or op_eq (op_eqD hr.units)) fEq_ok (me_var (pv 5)) (me_c pe_str) (nomark _)) (mss_one (ms_set (i := 5) sc_after_mark.nd rfl (Or.inl rfl) (me_c pe_str)))
    (mss_one (ms_if (mw_pt (mw_and (mt_cmp (OpR.or op_eq (op_eqD hr.units)) fEq_ok (me_var (pv 5)) (me_c pe_str) (nomark _)) (mw_and1 (mt_cmp (OpR.or op_ne (op_neD hr.units)) fNe_ok (me_var (pv 3)) (me_c pe_str) (nomark _))))) (mss_one (ms_set (i := 5) sc_after_mark.nd rfl (Or.inl rfl) (me_c pe_str)))
    mss_nil)))
    (mss_one (ms_ret (me_tup (ma_cons (me_call (is := []) (sim_kind_c T) (hr.mono (by decide)) (takes_of rfl rfl rfl rfl) rfl T.m_kind_c T.F_kind_c.kp T.b_kind_c (ma_cons (me_var (pv 0)) ma_nil) (by decide) (by decide)) (ma_cons (me_c pe_str) (ma_cons (me_mv (me_var (pv 4))) (ma_cons (me_mv (me_var (pv 5))) (ma_cons (me_call (is := []) (sim_log_after_mark T) (hr.mono (by decide)) (takes_of rfl rfl rfl rfl) rfl T.m_log_after_mark T.F_log_after_mark.kp T.b_log_after_mark (ma_cons (me_var (pv 0)) (ma_cons (me_var (pv 1)) ma_nil)) (by decide) (by decide)) (ma_cons (me_c pe_str) ma_nil)))))) (by show 6 ≤ sizeLine; decide)))))))))
abbrev md_after_home : List Bool := [false, false]
def g_after_home : GS := (sSeq (sAsg (gVar 0) (unpk md_after_home [2, 3, 4, 5, 6, 7]))
    (sSeq (sIf (gSeq (gSeq (gVar 2) (gC (.str "L"))) fNe) (sRet (gC .non)) sNil)
    (sRet (gSeq (gSeq (gSeq (gVar 2) (fMv md_after_home)) (gSeq (gSeq (gVar 3) (fMv md_after_home)) (gSeq (gSeq (gVar 4) (fMv md_after_home)) (gSeq (gC (.str "K")) (gSeq (gSeq (gVar 6) (fMv md_after_home)) (gSeq (gSeq (gVar 7) (fMv md_after_home)) gNil)))))) (fNew .tup 6)))))
def G_after_home : GF := runF md_after_home 8 g_after_home
theorem sim_after_home (T : Txt K mg w) : FnOk P w K mg base (L2N.CX P w) 1 T.a_after_home T.fd_after_home ["standing", "book"] (spOf (kcm K (kt P w T)) md_after_home G_after_home) :=
  fn_sim T.F_after_home sc_after_home rfl (by decide) fun cdv A outer s H E hr =>
  (mss_cons (ms_asg (me_var (pv 0)) (mg_unp (is := [2, 3, 4, 5, 6, 7]) (pg_tup (by rfl) (pgs_cons (pg_name (i := 2) sc_after_home.nd rfl (Or.inl rfl)) (pgs_cons (pg_name (i := 3) sc_after_home.nd rfl (Or.inl rfl)) (pgs_cons (pg_name (i := 4) sc_after_home.nd rfl (Or.inl rfl)) (pgs_cons (pg_name (i := 5) sc_after_home.nd rfl (Or.inl rfl)) (pgs_cons (pg_name (i := 6) sc_after_home.nd rfl (Or.inl rfl)) (pgs_cons (pg_name (i := 7) sc_after_home.nd rfl (Or.inl rfl)) pgs_nil))))))) (pg_lst (by rfl) (pgs_cons (pg_name (i := 2) sc_after_home.nd rfl (Or.inl rfl)) (pgs_cons (pg_name (i := 3) sc_after_home.nd rfl (Or.inl rfl)) (pgs_cons (pg_name (i := 4) sc_after_home.nd rfl (Or.inl rfl)) (pgs_cons (pg_name (i := 5) sc_after_home.nd rfl (Or.inl rfl)) (pgs_cons (pg_name (i := 6) sc_after_home.nd rfl (Or.inl rfl)) (pgs_cons (pg_name (i := 7) sc_after_home.nd rfl (Or.inl rfl)) pgs_nil)))))))) (fun a b => ps_asg a b))
    (mss_cons (ms_if (mt_cmp (OpR.or op_ne (op_neD hr.units)) fNe_ok (me_var (pv 2)) (me_c pe_str) (nomark _)) (mss_one (ms_ret (me_c pe_non)))
    mss_nil)
    (mss_one (ms_ret (me_tup (ma_cons (me_mv (me_var (pv 2))) (ma_cons (me_mv (me_var (pv 3))) (ma_cons (me_mv (me_var (pv 4))) (ma_cons (me_c pe_str) (ma_cons (me_mv (me_var (pv 6))) (ma_cons (me_mv (me_var (pv 7))) ma_nil)))))) (by show 6 ≤ sizeLine; decide))))))
abbrev md_after_early : List Bool := [false, false]
def g_after_early : GS := (sSeq (sAsg (gVar 0) (unpk md_after_early [2, 3, 4, 5, 6, 7]))
    (sSeq (sSet md_after_early 8 (gSeq (gSeq (gVar 0) gNil) (gCall [] md_content_r G_content_r 1)))
    (sSeq (sIf (gOrB (gSeq (gSeq (gSeq (gSeq (gVar 0) gNil) (gCall [] md_kind_r G_kind_r 1)) (gC (.str "L"))) fNe) (gOrB (gSeq (gSeq (gVar 8) (gC (.str "K"))) fEq) (gSeq (gSeq (gC (.str "mark")) (gVar 1)) (fInO 0 md_Book_contains G_Book_contains false)))) (sRet (gC .non)) sNil)
    (sRet (gSeq (gSeq (gSeq (gVar 2) (fMv md_after_early)) (gSeq (gSeq (gVar 3) (fMv md_after_early)) (gSeq (gSeq (gVar 4) (fMv md_after_early)) (gSeq (gSeq (gVar 8) (fMv md_after_early)) (gSeq (gSeq (gVar 6) (fMv md_after_early)) (gSeq (gSeq (gVar 7) (fMv md_after_early)) gNil)))))) (fNew .tup 6))))))
def G_after_early : GF := runF md_after_early 9 g_after_early
theorem sim_after_early (T : Txt K mg w) : FnOk P w K mg base (L2N.CX P w) 4 T.a_after_early T.fd_after_early ["standing", "book"] (spOf (kcm K (kt P w T)) md_after_early G_after_early) :=
  fn_sim T.F_after_early sc_after_early rfl (by decide) fun cdv A outer s H E hr =>
  (mss_cons (ms_asg (me_var (pv 0)) (mg_unp (is := [2, 3, 4, 5, 6, 7]) (pg_tup (by rfl) (pgs_cons (pg_name (i := 2) sc_after_early.nd rfl (Or.inl rfl)) (pgs_cons (pg_name (i := 3) sc_after_early.nd rfl (Or.inl rfl)) (pgs_cons (pg_name (i := 4) sc_after_early.nd rfl (Or.inl rfl)) (pgs_cons (pg_name (i := 5) sc_after_early.nd rfl (Or.inl rfl)) (pgs_cons (pg_name (i := 6) sc_after_early.nd rfl (Or.inl rfl)) (pgs_cons (pg_name (i := 7) sc_after_early.nd rfl (Or.inl rfl)) pgs_nil))))))) (pg_lst (by rfl) (pgs_cons (pg_name (i := 2) sc_after_early.nd rfl (Or.inl rfl)) (pgs_cons (pg_name (i := 3) sc_after_early.nd rfl (Or.inl rfl)) (pgs_cons (pg_name (i := 4) sc_after_early.nd rfl (Or.inl rfl)) (pgs_cons (pg_name (i := 5) sc_after_early.nd rfl (Or.inl rfl)) (pgs_cons (pg_name (i := 6) sc_after_early.nd rfl (Or.inl rfl)) (pgs_cons (pg_name (i := 7) sc_after_early.nd rfl (Or.inl rfl)) pgs_nil)))))))) (fun a b => ps_asg a b))
    (mss_cons (ms_set (i := 8) sc_after_early.nd rfl (Or.inl rfl) (me_call (is := []) (sim_content_r T) (hr.mono (by decide)) (takes_of rfl rfl rfl rfl) rfl T.m_content_r T.F_content_r.kp T.b_content_r (ma_cons (me_var (pv 0)) ma_nil) (by decide) (by decide)))
    (mss_cons (ms_if (mw_pt (mw_or (mt_cmp (OpR.or op_ne (op_neD hr.units)) fNe_ok (me_call (is := []) (sim_kind_r T) (hr.mono (by decide)) (takes_of rfl rfl rfl rfl) rfl T.m_kind_r T.F_kind_r.kp T.b_kind_r (ma_cons (me_var (pv 0)) ma_nil) (by decide) (by decide)) (me_c pe_str) (nomark _)) (mw_or (mt_cmp (OpR.or op_eq (op_eqD hr.units)) fEq_ok (me_var (pv 8)) (me_c pe_str) (nomark _)) (mw_or1 (mt_cmp (op_inO T.m_Book_contains (sim_Book_contains T) (hr.mono (by decide)) T.b_Book_contains) fInO_ok (me_c pe_str) (me_var (pv 1)) rfl))))) (mss_one (ms_ret (me_c pe_non)))
    mss_nil)
    (mss_one (ms_ret (me_tup (ma_cons (me_mv (me_var (pv 2))) (ma_cons (me_mv (me_var (pv 3))) (ma_cons (me_mv (me_var (pv 4))) (ma_cons (me_mv (me_var (pv 8))) (ma_cons (me_mv (me_var (pv 6))) (ma_cons (me_mv (me_var (pv 7))) ma_nil)))))) (by show 6 ≤ sizeLine; decide)))))))
abbrev md_after_words : List Bool := [false, false]
def g_after_words : GS := (sSeq (sAsg (gVar 0) (unpk md_after_words [2, 3, 4, 5, 6, 7]))
    (sSeq (sSet md_after_words 8 (gSeq (gSeq (gVar 0) gNil) (gCall [] md_content_r G_content_r 1)))
    (sSeq (sIf (gSeq (gSeq (gSeq (gSeq (gVar 0) gNil) (gCall [] md_kind_r G_kind_r 1)) (gC (.str "P"))) fEq) (sSeq (sSet md_after_words 9 (gOrB (gSeq (gSeq (gVar 2) (gC (.str "F"))) fEq) (gSeq (gSeq (gVar 8) (gC (.str "K"))) fEq)))
    (sIf (gAnd (gSeq (gSeq (gVar 3) (gC (.str "-"))) fNe) (gAnd (gSeq (gSeq (gSeq (gSeq (gVar 0) gNil) (gCall [] md_kind_c G_kind_c 1)) (gC (.str "F"))) fNe) (gSeq (gSeq (gVar 8) (gSeq (gSeq (gVar 0) gNil) (gCall [] md_content_c G_content_c 1))) fNe))) (sSet md_after_words 9 (gC (.bl false))) sNil)) (sIf (gAnd (gSeq (gSeq (gVar 3) (gC (.str "-"))) fNe) (gSeq (gSeq (gSeq (gSeq (gVar 0) gNil) (gCall [] md_kind_c G_kind_c 1)) (gC (.str "P"))) fEq)) (sSeq (sSet md_after_words 8 (gSeq (gSeq (gVar 0) gNil) (gCall [] md_content_c G_content_c 1)))
    (sSet md_after_words 9 (gOrB (gSeq (gSeq (gVar 2) (gC (.str "F"))) fEq) (gSeq (gSeq (gVar 3) (gC (.str "="))) fEq)))) (sRet (gC .non))))
    (sSeq (sIf (gAnd (gSeq (gSeq (gC (.str "late")) (gVar 1)) (fInO 0 md_Book_contains G_Book_contains false)) (gNot (gVar 9))) (sRet (gC .non)) sNil)
    (sRet (gSeq (gSeq (gSeq (gVar 2) (fMv md_after_words)) (gSeq (gSeq (gVar 3) (fMv md_after_words)) (gSeq (gSeq (gVar 4) (fMv md_after_words)) (gSeq (gSeq (gVar 8) (fMv md_after_words)) (gSeq (gSeq (gVar 6) (fMv md_after_words)) (gSeq (gSeq (gVar 7) (fMv md_after_words)) gNil)))))) (fNew .tup 6)))))))
def G_after_words : GF := runF md_after_words 10 g_after_words
theorem sim_after_words (T : Txt K mg w) : FnOk P w K mg base (L2N.CX P w) 4 T.a_after_words T.fd_after_words ["standing", "book"] (spOf (kcm K (kt P w T)) md_after_words G_after_words) :=
  fn_sim T.F_after_words sc_after_words rfl (by decide) fun cdv A outer s H E hr =>
  (mss_cons (ms_asg (me_var (pv 0)) (mg_unp (is := [2, 3, 4, 5, 6, 7]) (pg_tup (by rfl) (pgs_cons (pg_name (i := 2) sc_after_words.nd rfl (Or.inl rfl)) (pgs_cons (pg_name (i := 3) sc_after_words.nd rfl (Or.inl rfl)) (pgs_cons (pg_name (i := 4) sc_after_words.nd rfl (Or.inl rfl)) (pgs_cons (pg_name (i := 5) sc_after_words.nd rfl (Or.inl rfl)) (pgs_cons (pg_name (i := 6) sc_after_words.nd rfl (Or.inl rfl)) (pgs_cons (pg_name (i := 7) sc_after_words.nd rfl (Or.inl rfl)) pgs_nil))))))) (pg_lst (by rfl) (pgs_cons (pg_name (i := 2) sc_after_words.nd rfl (Or.inl rfl)) (pgs_cons (pg_name (i := 3) sc_after_words.nd rfl (Or.inl rfl)) (pgs_cons (pg_name (i := 4) sc_after_words.nd rfl (Or.inl rfl)) (pgs_cons (pg_name (i := 5) sc_after_words.nd rfl (Or.inl rfl)) (pgs_cons (pg_name (i := 6) sc_after_words.nd rfl (Or.inl rfl)) (pgs_cons (pg_name (i := 7) sc_after_words.nd rfl (Or.inl rfl)) pgs_nil)))))))) (fun a b => ps_asg a b))
    (mss_cons (ms_set (i := 8) sc_after_words.nd rfl (Or.inl rfl) (me_call (is := []) (sim_content_r T) (hr.mono (by decide)) (takes_of rfl rfl rfl rfl) rfl T.m_content_r T.F_content_r.kp T.b_content_r (ma_cons (me_var (pv 0)) ma_nil) (by decide) (by decide)))
    (mss_cons (ms_if (mt_cmp (OpR.or op_eq (op_eqD hr.units)) fEq_ok (me_call (is := []) (sim_kind_r T) (hr.mono (by decide)) (takes_of rfl rfl rfl rfl) rfl T.m_kind_r T.F_kind_r.kp T.b_kind_r (ma_cons (me_var (pv 0)) ma_nil) (by decide) (by decide)) (me_c pe_str) (nomark _)) (mss_cons (ms_set (i := 9) sc_after_words.nd rfl (Or.inl rfl) (me_or (me_cmp (OpR.or op_eq (op_eqD hr.units)) fEq_ok (me_var (pv 2)) (me_c pe_str) (nomark _)) (me_one (me_cmp (OpR.or op_eq (op_eqD hr.units)) fEq_ok (me_var (pv 8)) (me_c pe_str) (nomark _)))))
    (mss_one (ms_if (mw_pt (mw_and (mt_cmp (OpR.or op_ne (op_neD hr.units)) fNe_ok (me_var (pv 3)) (me_c pe_str) (nomark _)) (mw_and (mt_cmp (OpR.or op_ne (op_neD hr.units)) fNe_ok (me_call (is := []) (sim_kind_c T) (hr.mono (by decide)) (takes_of rfl rfl rfl rfl) rfl T.m_kind_c T.F_kind_c.kp T.b_kind_c (ma_cons (me_var (pv 0)) ma_nil) (by decide) (by decide)) (me_c pe_str) (nomark _)) (mw_and1 (mt_cmp (OpR.or op_ne (op_neD hr.units)) fNe_ok (me_var (pv 8)) (me_call (is := []) (sim_content_c T) (hr.mono (by decide)) (takes_of rfl rfl rfl rfl) rfl T.m_content_c T.F_content_c.kp T.b_content_c (ma_cons (me_var (pv 0)) ma_nil) (by decide) (by decide)) (nomark _)))))) (mss_one (ms_set (i := 9) sc_after_words.nd rfl (Or.inl rfl) (me_c pe_bl)))
    mss_nil)))
    (mss_one (ms_if (mw_pt (mw_and (mt_cmp (OpR.or op_ne (op_neD hr.units)) fNe_ok (me_var (pv 3)) (me_c pe_str) (nomark _)) (mw_and1 (mt_cmp (OpR.or op_eq (op_eqD hr.units)) fEq_ok (me_call (is := []) (sim_kind_c T) (hr.mono (by decide)) (takes_of rfl rfl rfl rfl) rfl T.m_kind_c T.F_kind_c.kp T.b_kind_c (ma_cons (me_var (pv 0)) ma_nil) (by decide) (by decide)) (me_c pe_str) (nomark _))))) (mss_cons (ms_set (i := 8) sc_after_words.nd rfl (Or.inl rfl) (me_call (is := []) (sim_content_c T) (hr.mono (by decide)) (takes_of rfl rfl rfl rfl) rfl T.m_content_c T.F_content_c.kp T.b_content_c (ma_cons (me_var (pv 0)) ma_nil) (by decide) (by decide)))
    (mss_one (ms_set (i := 9) sc_after_words.nd rfl (Or.inl rfl) (me_or (me_cmp (OpR.or op_eq (op_eqD hr.units)) fEq_ok (me_var (pv 2)) (me_c pe_str) (nomark _)) (me_one (me_cmp (OpR.or op_eq (op_eqD hr.units)) fEq_ok (me_var (pv 3)) (me_c pe_str) (nomark _)))))))
    (mss_one (ms_ret (me_c pe_non))))))
    (mss_cons (ms_if (mw_pt (mw_and (mt_cmp (op_inO T.m_Book_contains (sim_Book_contains T) (hr.mono (by decide)) T.b_Book_contains) fInO_ok (me_c pe_str) (me_var (pv 1)) rfl) (mw_and1 (mt_not (mt_val (me_var (pv 9))))))) (mss_one (ms_ret (me_c pe_non)))
    mss_nil)
    (mss_one (ms_ret (me_tup (ma_cons (me_mv (me_var (pv 2))) (ma_cons (me_mv (me_var (pv 3))) (ma_cons (me_mv (me_var (pv 4))) (ma_cons (me_mv (me_var (pv 8))) (ma_cons (me_mv (me_var (pv 6))) (ma_cons (me_mv (me_var (pv 7))) ma_nil)))))) (by show 6 ≤ sizeLine; decide))))))))
abbrev md_after_room : List Bool := [false, false]
def g_after_room : GS := (sSeq (sAsg (gVar 0) (unpk md_after_room [2, 3, 4, 5, 6, 7]))
    (sSeq (sIf (gOrB (gSeq (gSeq (gVar 6) (gC (.str "-"))) fEq) (gAnd (gSeq (gSeq (gC (.str "room")) (gVar 1)) (fInO 0 md_Book_contains G_Book_contains false)) (gAnd (gSeq (gSeq (gVar 6) (gC (.str "K"))) fEq) (gSeq (gSeq (gVar 5) (gC (.str "K"))) fNe)))) (sRet (gC .non)) sNil)
    (sRet (gSeq (gSeq (gSeq (gVar 2) (fMv md_after_room)) (gSeq (gSeq (gVar 3) (fMv md_after_room)) (gSeq (gSeq (gVar 4) (fMv md_after_room)) (gSeq (gSeq (gVar 5) (fMv md_after_room)) (gSeq (gC (.str "-")) (gSeq (gSeq (gVar 7) (fMv md_after_room)) gNil)))))) (fNew .tup 6)))))
def G_after_room : GF := runF md_after_room 8 g_after_room
theorem sim_after_room (T : Txt K mg w) : FnOk P w K mg base (L2N.CX P w) 2 T.a_after_room T.fd_after_room ["standing", "book"] (spOf (kcm K (kt P w T)) md_after_room G_after_room) :=
  fn_sim T.F_after_room sc_after_room rfl (by decide) fun cdv A outer s H E hr =>
  (mss_cons (ms_asg (me_var (pv 0)) (mg_unp (is := [2, 3, 4, 5, 6, 7]) (pg_tup (by rfl) (pgs_cons (pg_name (i := 2) sc_after_room.nd rfl (Or.inl rfl)) (pgs_cons (pg_name (i := 3) sc_after_room.nd rfl (Or.inl rfl)) (pgs_cons (pg_name (i := 4) sc_after_room.nd rfl (Or.inl rfl)) (pgs_cons (pg_name (i := 5) sc_after_room.nd rfl (Or.inl rfl)) (pgs_cons (pg_name (i := 6) sc_after_room.nd rfl (Or.inl rfl)) (pgs_cons (pg_name (i := 7) sc_after_room.nd rfl (Or.inl rfl)) pgs_nil))))))) (pg_lst (by rfl) (pgs_cons (pg_name (i := 2) sc_after_room.nd rfl (Or.inl rfl)) (pgs_cons (pg_name (i := 3) sc_after_room.nd rfl (Or.inl rfl)) (pgs_cons (pg_name (i := 4) sc_after_room.nd rfl (Or.inl rfl)) (pgs_cons (pg_name (i := 5) sc_after_room.nd rfl (Or.inl rfl)) (pgs_cons (pg_name (i := 6) sc_after_room.nd rfl (Or.inl rfl)) (pgs_cons (pg_name (i := 7) sc_after_room.nd rfl (Or.inl rfl)) pgs_nil)))))))) (fun a b => ps_asg a b))
    (mss_cons (ms_if (mw_pt (mw_or (mt_cmp (OpR.or op_eq (op_eqD hr.units)) fEq_ok (me_var (pv 6)) (me_c pe_str) (nomark _)) (mw_or1 (mw_pt (mw_and (mt_cmp (op_inO T.m_Book_contains (sim_Book_contains T) (hr.mono (by decide)) T.b_Book_contains) fInO_ok (me_c pe_str) (me_var (pv 1)) rfl) (mw_and (mt_cmp (OpR.or op_eq (op_eqD hr.units)) fEq_ok (me_var (pv 6)) (me_c pe_str) (nomark _)) (mw_and1 (mt_cmp (OpR.or op_ne (op_neD hr.units)) fNe_ok (me_var (pv 5)) (me_c pe_str) (nomark _))))))))) (mss_one (ms_ret (me_c pe_non)))
    mss_nil)
    (mss_one (ms_ret (me_tup (ma_cons (me_mv (me_var (pv 2))) (ma_cons (me_mv (me_var (pv 3))) (ma_cons (me_mv (me_var (pv 4))) (ma_cons (me_mv (me_var (pv 5))) (ma_cons (me_c pe_str) (ma_cons (me_mv (me_var (pv 7))) ma_nil)))))) (by show 6 ≤ sizeLine; decide))))))
abbrev md_after_told : List Bool := [false, false]
def g_after_told : GS := (sSeq (sIf (gAnd (gSeq (gSeq (gSeq (gSeq (gVar 0) (gC (.int 1))) fIxA) (gC (.str "-"))) fEq) (gSeq (gSeq (gSeq (gSeq (gVar 0) (gC (.int 2))) fIxA) (gC (.str "="))) fEq)) (sRet (gVar 0)) sNil)
    (sSeq (sIf (gSeq (gSeq (gC (.str "told")) (gVar 1)) (fInO 0 md_Book_contains G_Book_contains false)) (sRet (gC .non)) sNil)
    (sRet (gCon (.nd .tup .frz [(.a (.str "lost"))])))))
def G_after_told : GF := runF md_after_told 2 g_after_told
theorem sim_after_told (T : Txt K mg w) : FnOk P w K mg base (L2N.CX P w) 2 T.a_after_told T.fd_after_told ["standing", "book"] (spOf (kcm K (kt P w T)) md_after_told G_after_told) :=
  fn_sim T.F_after_told sc_after_told rfl (by decide) fun cdv A outer s H E hr =>
  (mss_cons (ms_if (mw_pt (mw_and (mt_cmp (OpR.or op_eq (op_eqD hr.units)) fEq_ok (me_ixA hr.units (me_var (pv 0)) (me_c pe_int) (fun _ _ => rfl)) (me_c pe_str) (nomark _)) (mw_and1 (mt_cmp (OpR.or op_eq (op_eqD hr.units)) fEq_ok (me_ixA hr.units (me_var (pv 0)) (me_c pe_int) (fun _ _ => rfl)) (me_c pe_str) (nomark _))))) (mss_one (ms_ret (me_var (pv 0))))
    mss_nil)
    (mss_cons (ms_if (mt_cmp (op_inO T.m_Book_contains (sim_Book_contains T) (hr.mono (by decide)) T.b_Book_contains) fInO_ok (me_c pe_str) (me_var (pv 1)) rfl) (mss_one (ms_ret (me_c pe_non)))
    mss_nil)
    (mss_one (ms_ret (me_con (pe_glob (v := .ref T.c_LOST) rfl T.g_LOST rfl) (con_tup T.w_LOST (con_cons con_a con_nil)))))))
def kdt_STEPS : List (Str × List Bool × GF) := [("takel", md_after_takel, G_after_takel), ("takep", md_after_takep, G_after_takep), ("change", md_after_change, G_after_change), ("free", md_after_free, G_after_free), ("close", md_after_close, G_after_close), ("copy", md_after_copy, G_after_copy), ("mark", md_after_mark, G_after_mark), ("home", md_after_home, G_after_home), ("early", md_after_early, G_after_early), ("words", md_after_words, G_after_words), ("room", md_after_room, G_after_room), ("told", md_after_told, G_after_told)]
abbrev md_after : List Bool := [false, false, false]
def g_after : GS := (sSeq (sIf (gSeq (gVar 1) (fKD true (kdt_STEPS.map (·.1)))) (sRaise 0) sNil)
    (sSeq (sIf (gSeq (gSeq (gVar 0) (gCon (.nd .tup .frz [(.a (.str "lost"))]))) fEq) (sRet (gC .non)) sNil)
    (sKD md_after 3 1 kdt_STEPS (gSeq (gVar 0) (gSeq (gVar 2) gNil)) 2)))
def G_after : GF := runF md_after 4 g_after
theorem sim_after (T : Txt K mg w) : FnOk P w K mg base (L2N.CX P w) 5 T.a_after T.fd_after ["standing", "letter", "book"] (spOf (kcm K (kt P w T)) md_after G_after) :=
  fn_sim T.F_after sc_after rfl (by decide) fun cdv A outer s H E hr =>
  (mss_cons (ms_if (mt_notInKD (⟨⟨T.lk_STEPS, T.lit_STEPS, T.low_STEPS⟩, (.cons ⟨T.F_after_takel.kp, _, _, (sim_after_takel T).mono (by decide), T.b_after_takel⟩ (.cons ⟨T.F_after_takep.kp, _, _, (sim_after_takep T).mono (by decide), T.b_after_takep⟩ (.cons ⟨T.F_after_change.kp, _, _, (sim_after_change T).mono (by decide), T.b_after_change⟩ (.cons ⟨T.F_after_free.kp, _, _, (sim_after_free T).mono (by decide), T.b_after_free⟩ (.cons ⟨T.F_after_close.kp, _, _, (sim_after_close T).mono (by decide), T.b_after_close⟩ (.cons ⟨T.F_after_copy.kp, _, _, (sim_after_copy T).mono (by decide), T.b_after_copy⟩ (.cons ⟨T.F_after_mark.kp, _, _, (sim_after_mark T).mono (by decide), T.b_after_mark⟩ (.cons ⟨T.F_after_home.kp, _, _, (sim_after_home T).mono (by decide), T.b_after_home⟩ (.cons ⟨T.F_after_early.kp, _, _, (sim_after_early T).mono (by decide), T.b_after_early⟩ (.cons ⟨T.F_after_words.kp, _, _, (sim_after_words T).mono (by decide), T.b_after_words⟩ (.cons ⟨T.F_after_room.kp, _, _, (sim_after_room T).mono (by decide), T.b_after_room⟩ (.cons ⟨T.F_after_told.kp, _, _, (sim_after_told T).mono (by decide), T.b_after_told⟩ .nil))))))))))))⟩ : KDefs _ _ 4 _ _ _ kdt_STEPS) (pe_glob (v := .ref T.c_STEPS) rfl T.g_STEPS rfl) (me_var (pv 1))) (mss_one (ms_raise (n := 0) rfl (takes_of rfl rfl rfl rfl) (pmk_own PySem.F.excBase_ValueError T.x_BadValue T.g_BadValue T.k_BadValue (raises_own T.sb_BadValue T.ty_BadValue) rfl)))
    mss_nil)
    (mss_cons (ms_if (mt_cmp (OpR.or op_eq (op_eqD hr.units)) fEq_ok (me_var (pv 0)) (me_con (pe_glob (v := .ref T.c_LOST) rfl T.g_LOST rfl) (con_tup T.w_LOST (con_cons con_a con_nil))) (nomark _)) (mss_one (ms_ret (me_c pe_non)))
    mss_nil)
    (mss_kd (i := 3) (j := 1) (⟨⟨T.lk_STEPS, T.lit_STEPS, T.low_STEPS⟩, (.cons ⟨T.F_after_takel.kp, _, _, (sim_after_takel T).mono (by decide), T.b_after_takel⟩ (.cons ⟨T.F_after_takep.kp, _, _, (sim_after_takep T).mono (by decide), T.b_after_takep⟩ (.cons ⟨T.F_after_change.kp, _, _, (sim_after_change T).mono (by decide), T.b_after_change⟩ (.cons ⟨T.F_after_free.kp, _, _, (sim_after_free T).mono (by decide), T.b_after_free⟩ (.cons ⟨T.F_after_close.kp, _, _, (sim_after_close T).mono (by decide), T.b_after_close⟩ (.cons ⟨T.F_after_copy.kp, _, _, (sim_after_copy T).mono (by decide), T.b_after_copy⟩ (.cons ⟨T.F_after_mark.kp, _, _, (sim_after_mark T).mono (by decide), T.b_after_mark⟩ (.cons ⟨T.F_after_home.kp, _, _, (sim_after_home T).mono (by decide), T.b_after_home⟩ (.cons ⟨T.F_after_early.kp, _, _, (sim_after_early T).mono (by decide), T.b_after_early⟩ (.cons ⟨T.F_after_words.kp, _, _, (sim_after_words T).mono (by decide), T.b_after_words⟩ (.cons ⟨T.F_after_room.kp, _, _, (sim_after_room T).mono (by decide), T.b_after_room⟩ (.cons ⟨T.F_after_told.kp, _, _, (sim_after_told T).mono (by decide), T.b_after_told⟩ .nil))))))))))))⟩ : KDefs _ _ 4 _ _ _ kdt_STEPS) sc_after.nd rfl (Or.inl rfl) (Or.inl rfl) (pe_glob (v := .ref T.c_STEPS) rfl T.g_STEPS rfl) (pv 1) (hr.mono (by decide)) (ma_cons (me_var (pv 0)) (ma_cons (me_var (pv 2)) ma_nil)) (fun _ _ => rfl))))
abbrev md_let_letters : List Bool := [false, false]
def t_let_letters_1 : GE := (gSeq (gSeq (gSeq (gSeq (gVar 0) (gSeq (gVar 2) (gSeq (gVar 1) gNil))) (gCall [] md_after G_after 3)) (gC .non)) fNotN)
def e_let_letters_1 : GE := (gVar 2)
def g_let_letters : GS := (sRet (gLc [2] (gCon (.nd .tup .frz [(.a (.str "takel")), (.a (.str "takep")), (.a (.str "change")), (.a (.str "free")), (.a (.str "close")), (.a (.str "copy")), (.a (.str "mark")), (.a (.str "home")), (.a (.str "early")), (.a (.str "words")), (.a (.str "room")), (.a (.str "told"))])) (bind md_let_letters 2) t_let_letters_1 e_let_letters_1))
def G_let_letters : GF := runF md_let_letters 3 g_let_letters
theorem sim_let_letters (T : Txt K mg w) : FnOk P w K mg base (L2N.CX P w) 6 T.a_let_letters T.fd_let_letters ["standing", "book"] (spOf (kcm K (kt P w T)) md_let_letters G_let_letters) :=
  fn_sim T.F_let_letters sc_let_letters rfl (by decide) fun cdv A outer s H E hr =>
  (mss_one (ms_ret (me_lc (me_con (pe_glob (v := .ref T.c_LETTERS) rfl T.g_LETTERS rfl) (con_tup T.w_LETTERS (con_cons con_a (con_cons con_a (con_cons con_a (con_cons con_a (con_cons con_a (con_cons con_a (con_cons con_a (con_cons con_a (con_cons con_a (con_cons con_a (con_cons con_a (con_cons con_a con_nil)))))))))))))) (blkOk_by (own := [("letter", 2)]) (N := N_let_letters) (sc := defScope s_let_letters) (by decide +kernel)) (fun _ _ _ _ _ => pg_name (i := 2) sc_let_letters.nd rfl (Or.inl rfl)) (fun _ _ _ _ _ => (mt_cmp op_notN fNotN_ok (me_call (is := []) (sim_after T) (hr.mono (by decide)) takes0 rfl T.m_after T.F_after.kp T.b_after (ma_cons (me_var (pv 0)) (ma_cons (me_var (pv 2)) (ma_cons (me_var (pv 1)) ma_nil))) (by decide) (by decide)) (me_c pe_non) (nomark _))) (fun _ _ _ _ _ => (me_var (pv 2))) rfl sc_let_letters.nd)))
abbrev md_law_pick : List Bool := [true, false]
def g_law_pick : GS := (sSeq (sIf (gSeq (gSeq (gSeq (gSeq (gVar 0) gNil) fLen) (gC (.int 0))) fEq) (sRet (gC (.int 0))) sNil)
    (sRet (gSeq (gSeq (gSeq (gSeq (gSeq (gVar 0) (gSeq chkL (gSeq (gSeq (gC (.int 0)) gNil) fPopA))) gNil) fInt) (gVar 1)) fMod)))
def G_law_pick : GF := runF md_law_pick 2 g_law_pick
theorem sim_law_pick (T : Txt K mg w) : FnOk P w K mg base (L2N.CX P w) 1 T.a_law_pick T.fd_law_pick ["_law_feed_here", "_law_limit"] (spOf (kcm K (kt P w T)) md_law_pick G_law_pick) :=
  fn_sim T.F_law_pick sc_law_pick rfl (by decide) fun cdv A outer s H E hr =>
  (mss_cons (ms_if (mt_cmp (OpR.or op_eq (op_eqD hr.units)) fEq_ok (me_callB (CallR.or call_len call_lenR) fLen_ok (by rfl) T.n_len (by decide +kernel) (ma_cons (me_var (pv 0)) ma_nil)) (me_c pe_int) (nomark _)) (mss_one (ms_ret (me_c pe_int)))
    mss_nil)
    (mss_one (ms_ret (me_mod (me_callTy call_int1 fInt_ok (by rfl) T.n_int (by decide +kernel) (ma_cons (me_bm (me_var (pv 0)) (ma_cons (me_c pe_int) ma_nil) fPopA_ok (fun a b => pe_bm PySem.F.plainAttrs_list PySem.F.slot_list_pop PySem.F.type_list_pop mt_popAt a b)) ma_nil)) (me_var (pv 1))))))
abbrev md_law_rules : List Bool := []
def g_law_rules : GS := (sSeq (sSet md_law_rules 0 (gSeq (gSeq (gC (.str "copies")) (gSeq (gC (.str "mark")) (gSeq (gC (.str "words")) (gSeq (gC (.str "reuse")) (gSeq (gC (.str "late")) (gSeq (gC (.str "revoke")) (gSeq (gC (.str "lapse")) (gSeq (gC (.str "shelve")) (gSeq (gC (.str "frozen")) (gSeq (gC (.str "wait")) (gSeq (gC (.str "room")) (gSeq (gC (.str "told")) gNil)))))))))))) (fNew .lst 12)))
    (sRet (gSeq (gVar 0) (fMv md_law_rules))))
def G_law_rules : GF := runF md_law_rules 1 g_law_rules
theorem sim_law_rules (T : Txt K mg w) : FnOk P w K mg base (L2N.CX P w) 1 T.a_law_rules T.fd_law_rules [] (spOf (kcm K (kt P w T)) md_law_rules G_law_rules) :=
  fn_sim T.F_law_rules sc_law_rules rfl (by decide) fun cdv A outer s H E hr =>
  (mss_cons (ms_set (i := 0) sc_law_rules.nd rfl (Or.inl rfl) (me_lst (ma_cons (me_c pe_str) (ma_cons (me_c pe_str) (ma_cons (me_c pe_str) (ma_cons (me_c pe_str) (ma_cons (me_c pe_str) (ma_cons (me_c pe_str) (ma_cons (me_c pe_str) (ma_cons (me_c pe_str) (ma_cons (me_c pe_str) (ma_cons (me_c pe_str) (ma_cons (me_c pe_str) (ma_cons (me_c pe_str) ma_nil)))))))))))) (by show 12 ≤ sizeLine; decide)))
    (mss_one (ms_ret (me_mv (me_var (pv 0))))))
abbrev md_law_names : List Bool := [false]
def b_law_names_1 : GS := (sSeq (sIf (gSeq (gSeq (gSeq (gSeq (gSeq (gSeq (gVar 2) gNil) fInt) (gC (.int 2))) fMod) (gC (.int 1))) fEq) (sExpr (gSeq (gVar 1) (gSeq chkL (gSeq (gSeq (gVar 3) gNil) fApp)))) sNil)
    (sSet md_law_names 2 (gSeq (gSeq (gVar 2) (gC (.int 2))) fDiv)))
def g_law_names : GS := (sSeq (sSet md_law_names 1 (gSeq gNil (fNew .lst 0)))
    (sSeq (sSet md_law_names 2 (gVar 0))
    (sSeq (sFor (noEx (gCall [] md_law_rules G_law_rules 0)) (bind md_law_names 3) b_law_names_1)
    (sRet (gSeq (gVar 1) (fMv md_law_names))))))
def G_law_names : GF := runF md_law_names 4 g_law_names
theorem sim_law_names (T : Txt K mg w) : FnOk P w K mg base (L2N.CX P w) 2 T.a_law_names T.fd_law_names ["_law_number"] (spOf (kcm K (kt P w T)) md_law_names G_law_names) :=
  fn_sim T.F_law_names sc_law_names rfl (by decide) fun cdv A outer s H E hr =>
  (mss_cons (ms_set (i := 1) sc_law_names.nd rfl (Or.inl rfl) (me_lst ma_nil (by show 0 ≤ sizeLine; decide)))
    (mss_cons (ms_set (i := 2) sc_law_names.nd rfl (Or.inl rfl) (me_var (pv 0)))
    (mss_cons (ms_for (me_call0 (sim_law_rules T) (hr.mono (by decide)) rfl T.m_law_rules T.F_law_rules.kp T.b_law_rules) (mg_name (i := 3) sc_law_names.nd rfl (Or.inl rfl))
    (mss_cons (ms_if (mt_cmp (OpR.or op_eq (op_eqD hr.units)) fEq_ok (me_mod (me_callTy call_int1 fInt_ok (by rfl) T.n_int (by decide +kernel) (ma_cons (me_var (pv 2)) ma_nil)) (me_c pe_int)) (me_c pe_int) (nomark _)) (mss_one (ms_expr (me_bm (me_var (pv 1)) (ma_cons (me_var (pv 3)) ma_nil) fApp_ok (fun a b => pe_bm PySem.F.plainAttrs_list PySem.F.slot_list_append PySem.F.type_list_append mt_append a b))))
    mss_nil)
    (mss_one (ms_set (i := 2) sc_law_names.nd rfl (Or.inl rfl) (me_div (me_var (pv 2)) (me_c pe_int))))) (passes_of rfl) rfl)
    (mss_one (ms_ret (me_mv (me_var (pv 1))))))))
abbrev md_law_letters : List Bool := []
def g_law_letters : GS := (sSeq (sSet md_law_letters 0 (gSeq (gSeq (gC (.str "takel")) (gSeq (gC (.str "takep")) (gSeq (gC (.str "change")) (gSeq (gC (.str "free")) (gSeq (gC (.str "close")) (gSeq (gC (.str "copy")) gNil)))))) (fNew .lst 6)))
    (sRet (gSeq (gSeq (gVar 0) (gSeq (gSeq (gC (.str "mark")) (gSeq (gC (.str "home")) (gSeq (gC (.str "early")) (gSeq (gC (.str "words")) (gSeq (gC (.str "room")) (gSeq (gC (.str "told")) gNil)))))) (fNew .lst 6))) fAdd)))
def G_law_letters : GF := runF md_law_letters 1 g_law_letters
theorem sim_law_letters (T : Txt K mg w) : FnOk P w K mg base (L2N.CX P w) 1 T.a_law_letters T.fd_law_letters [] (spOf (kcm K (kt P w T)) md_law_letters G_law_letters) :=
  fn_sim T.F_law_letters sc_law_letters rfl (by decide) fun cdv A outer s H E hr =>
  (mss_cons (ms_set (i := 0) sc_law_letters.nd rfl (Or.inl rfl) (me_lst (ma_cons (me_c pe_str) (ma_cons (me_c pe_str) (ma_cons (me_c pe_str) (ma_cons (me_c pe_str) (ma_cons (me_c pe_str) (ma_cons (me_c pe_str) ma_nil)))))) (by show 6 ≤ sizeLine; decide)))
    (mss_one (ms_ret (me_add (me_var (pv 0)) (me_lst (ma_cons (me_c pe_str) (ma_cons (me_c pe_str) (ma_cons (me_c pe_str) (ma_cons (me_c pe_str) (ma_cons (me_c pe_str) (ma_cons (me_c pe_str) ma_nil)))))) (by show 6 ≤ sizeLine; decide))))))
abbrev md_law_kind_c : List Bool := [false, false]
def g_law_kind_c : GS := (sSeq (sIf (gOrB (gSeq (gSeq (gVar 1) (gC (.str "-"))) fEq) (gSeq (gSeq (gVar 1) (gC (.str "="))) fEq)) (sRet (gVar 0)) sNil)
    (sSeq (sRet (gSeq (gVar 1) (fRepl "~" "L")))
    sNil))
def G_law_kind_c : GF := runF md_law_kind_c 2 g_law_kind_c
theorem sim_law_kind_c (T : Txt K mg w) : FnOk P w K mg base (L2N.CX P w) 1 T.a_law_kind_c T.fd_law_kind_c ["_law_k", "_law_c"] (spOf (kcm K (kt P w T)) md_law_kind_c G_law_kind_c) :=
  fn_simT T.F_law_kind_c sc_law_kind_c rfl (by decide) (by decide) (by decide +kernel) fun cdv A outer s H E hr =>
  (msst_cons (mst_of (ms_if (mw_pt (mw_or (mt_cmp (OpR.or op_eq (op_eqD hr.units)) fEq_ok (me_var (pv 1)) (me_c pe_str) (nomark _)) (mw_or1 (mt_cmp (OpR.or op_eq (op_eqD hr.units)) fEq_ok (me_var (pv 1)) (me_c pe_str) (nomark _))))) (mss_one (ms_ret (me_var (pv 0))))
    mss_nil))
    (msst_cons (mst_ret (met_repl (me_var (pv 1)) (by decide +kernel)))
    (msst_of mss_nil)))
abbrev md_law_kind_r : List Bool := [false, false, false]
def g_law_kind_r : GS := (sSeq (sIf (gSeq (gSeq (gVar 2) (gC (.str "="))) fEq) (sRet (gSeq (gSeq (gVar 0) (gSeq (gVar 1) gNil)) (gCall [] md_law_kind_c G_law_kind_c 2))) sNil)
    (sSeq (sRet (gSeq (gVar 2) (fRepl "~" "L")))
    sNil))
def G_law_kind_r : GF := runF md_law_kind_r 3 g_law_kind_r
theorem sim_law_kind_r (T : Txt K mg w) : FnOk P w K mg base (L2N.CX P w) 2 T.a_law_kind_r T.fd_law_kind_r ["_law_k", "_law_c", "_law_r"] (spOf (kcm K (kt P w T)) md_law_kind_r G_law_kind_r) :=
  fn_simT T.F_law_kind_r sc_law_kind_r rfl (by decide) (by decide) (by decide +kernel) fun cdv A outer s H E hr =>
  (msst_cons (mst_of (ms_if (mt_cmp (OpR.or op_eq (op_eqD hr.units)) fEq_ok (me_var (pv 2)) (me_c pe_str) (nomark _)) (mss_one (ms_ret (me_call (is := []) (sim_law_kind_c T) (hr.mono (by decide)) (takes_of rfl rfl rfl rfl) rfl T.m_law_kind_c T.F_law_kind_c.kp T.b_law_kind_c (ma_cons (me_var (pv 0)) (ma_cons (me_var (pv 1)) ma_nil)) (by decide) (by decide))))
    mss_nil))
    (msst_cons (mst_ret (met_repl (me_var (pv 2)) (by decide +kernel)))
    (msst_of mss_nil)))
abbrev md_law_one : List Bool := [true, false]
def g_law_one : GS := (sRet (gSeq (gSeq (gVar 1) (gSeq (gSeq (gVar 0) (gSeq (gSeq (gSeq (gVar 1) gNil) fLen) gNil)) (gCall [0] md_law_pick G_law_pick 2))) fIxA))
def G_law_one : GF := runF md_law_one 2 g_law_one
theorem sim_law_one (T : Txt K mg w) : FnOk P w K mg base (L2N.CX P w) 2 T.a_law_one T.fd_law_one ["_law_feed_here", "_law_signs"] (spOf (kcm K (kt P w T)) md_law_one G_law_one) :=
  fn_sim T.F_law_one sc_law_one rfl (by decide) fun cdv A outer s H E hr =>
  (mss_one (ms_ret (me_ixA hr.units (me_var (pv 1)) (me_call (is := [0]) (sim_law_pick T) (hr.mono (by decide)) (takes_of rfl rfl rfl rfl) rfl T.m_law_pick T.F_law_pick.kp T.b_law_pick (ma_cons (me_var (pv 0)) (ma_cons (me_callB (CallR.or call_len call_lenR) fLen_ok (by rfl) T.n_len (by decide +kernel) (ma_cons (me_var (pv 1)) ma_nil)) ma_nil)) (by decide) (by decide)) (fun _ _ => rfl))))
abbrev md_law_drawn : List Bool := [true]
def t_law_drawn_1 : GE := (gSeq (gSeq (gVar 3) (gC (.str "F"))) fNe)
def e_law_drawn_1 : GE := (gC (.str "F"))
def t_law_drawn_2 : GE := (gSeq (gSeq (gVar 3) (gC (.str "L"))) fEq)
def e_law_drawn_2 : GE := (gC (.str "~"))
def t_law_drawn_3 : GE := (gSeq (gSeq (gVar 3) (gC (.str "F"))) fNe)
def e_law_drawn_3 : GE := (gC (.str "F"))
def t_law_drawn_4 : GE := (gSeq (gSeq (gVar 3) (gC (.str "L"))) fEq)
def e_law_drawn_4 : GE := (gC (.str "~"))
def t_law_drawn_5 : GE := (gSeq (gSeq (gVar 3) (gC (.str "F"))) fNe)
def e_law_drawn_5 : GE := (gC (.str "K"))
def t_law_drawn_6 : GE := (gSeq (gSeq (gVar 3) (gC (.str "~LP"))) fInSg)
def e_law_drawn_6 : GE := (gC (.str "C"))
def t_law_drawn_7 : GE := (gSeq (gSeq (gVar 3) (gC (.str "~LP"))) fInSg)
def e_law_drawn_7 : GE := (gC (.str "R"))
def t_law_drawn_8 : GE := (gSeq (gSeq (gVar 3) (gC (.str "L"))) fEq)
def e_law_drawn_8 : GE := (gC (.str "K"))
def t_law_drawn_9 : GE := (gOrB (gSeq (gSeq (gVar 2) (gC (.str "~"))) fEq) (gSeq (gSeq (gVar 2) (gC (.str "L"))) fEq))
def e_law_drawn_9 : GE := (gVar 10)
def g_law_drawn : GS := (sSeq (sSet md_law_drawn 1 (gSeq (gSeq (gC (.str "FLP")) (gSeq (gSeq (gVar 0) (gSeq (gC (.int 3)) gNil)) (gCall [0] md_law_pick G_law_pick 2))) fIxS))
    (sSeq (sSet md_law_drawn 2 (gSeq (gSeq (gVar 0) (gSeq (gSeq (gSeq (gSeq (gSeq (gSeq (gSeq (gC (.str "-")) (gSeq (gC (.str "=")) (gSeq (gC (.str "L")) (gSeq (gC (.str "P")) gNil)))) (fNew .lst 4)) (gLc [3] (gSeq (gSeq (gSeq (gVar 1) (fMv md_law_drawn)) gNil) (fNew .lst 1)) (bind md_law_drawn 3) t_law_drawn_1 e_law_drawn_1)) fAdd) (gLc [3] (gSeq (gSeq (gSeq (gVar 1) (fMv md_law_drawn)) gNil) (fNew .lst 1)) (bind md_law_drawn 3) t_law_drawn_2 e_law_drawn_2)) fAdd) gNil)) (gCall [0] md_law_one G_law_one 2)))
    (sSeq (sSet md_law_drawn 4 (gSeq (gSeq (gVar 1) (gSeq (gVar 2) gNil)) (gCall [] md_law_kind_c G_law_kind_c 2)))
    (sSeq (sSet md_law_drawn 5 (gSeq (gSeq (gVar 0) (gSeq (gSeq (gSeq (gSeq (gSeq (gSeq (gSeq (gC (.str "=")) (gSeq (gC (.str "L")) (gSeq (gC (.str "P")) gNil))) (fNew .lst 3)) (gLc [3] (gSeq (gSeq (gSeq (gVar 4) (fMv md_law_drawn)) gNil) (fNew .lst 1)) (bind md_law_drawn 3) t_law_drawn_3 e_law_drawn_3)) fAdd) (gLc [3] (gSeq (gSeq (gSeq (gVar 4) (fMv md_law_drawn)) gNil) (fNew .lst 1)) (bind md_law_drawn 3) t_law_drawn_4 e_law_drawn_4)) fAdd) gNil)) (gCall [0] md_law_one G_law_one 2)))
    (sSeq (sSet md_law_drawn 6 (gSeq (gSeq (gSeq (gSeq (gSeq (gSeq (gSeq (gSeq (gC (.str "o")) gNil) (fNew .lst 1)) (gLc [3] (gSeq (gSeq (gSeq (gVar 1) (fMv md_law_drawn)) gNil) (fNew .lst 1)) (bind md_law_drawn 3) t_law_drawn_5 e_law_drawn_5)) fAdd) (gLc [3] (gSeq (gSeq (gSeq (gVar 2) (fMv md_law_drawn)) gNil) (fNew .lst 1)) (bind md_law_drawn 3) t_law_drawn_6 e_law_drawn_6)) fAdd) (gLc [3] (gSeq (gSeq (gSeq (gVar 5) (fMv md_law_drawn)) gNil) (fNew .lst 1)) (bind md_law_drawn 3) t_law_drawn_7 e_law_drawn_7)) fAdd))
    (sSeq (sSet md_law_drawn 7 (gSeq (gSeq (gVar 0) (gSeq (gVar 6) gNil)) (gCall [0] md_law_one G_law_one 2)))
    (sSeq (sSet md_law_drawn 8 (gSeq (gSeq (gVar 0) (gSeq (gSeq (gSeq (gSeq (gSeq (gC (.str "-")) (gSeq (gC (.str "o")) gNil)) (fNew .lst 2)) (gLc [3] (gSeq (gSeq (gSeq (gVar 1) (fMv md_law_drawn)) gNil) (fNew .lst 1)) (bind md_law_drawn 3) t_law_drawn_8 e_law_drawn_8)) fAdd) gNil)) (gCall [0] md_law_one G_law_one 2)))
    (sSeq (sSet md_law_drawn 9 (gSeq (gSeq (gVar 0) (gSeq (gSeq (gSeq (gSeq (gSeq (gC (.str "-")) gNil) (fNew .lst 1)) (gLcS [10] (gC (.str "+!")) (bind md_law_drawn 10) t_law_drawn_9 e_law_drawn_9)) fAdd) gNil)) (gCall [0] md_law_one G_law_one 2)))
    (sRet (gSeq (gSeq (gSeq (gVar 1) (fMv md_law_drawn)) (gSeq (gSeq (gVar 2) (fMv md_law_drawn)) (gSeq (gSeq (gVar 5) (fMv md_law_drawn)) (gSeq (gSeq (gVar 7) (fMv md_law_drawn)) (gSeq (gSeq (gVar 8) (fMv md_law_drawn)) (gSeq (gSeq (gVar 9) (fMv md_law_drawn)) gNil)))))) (fNew .tup 6)))))))))))
def G_law_drawn : GF := runF md_law_drawn 11 g_law_drawn
theorem sim_law_drawn (T : Txt K mg w) : FnOk P w K mg base (L2N.CX P w) 3 T.a_law_drawn T.fd_law_drawn ["_law_feed_here"] (spOf (kcm K (kt P w T)) md_law_drawn G_law_drawn) :=
  fn_sim T.F_law_drawn sc_law_drawn rfl (by decide) fun cdv A outer s H E hr =>
  (mss_cons (ms_set (i := 1) sc_law_drawn.nd rfl (Or.inl rfl) (me_ixS (me_c pe_str) (me_call (is := [0]) (sim_law_pick T) (hr.mono (by decide)) (takes_of rfl rfl rfl rfl) rfl T.m_law_pick T.F_law_pick.kp T.b_law_pick (ma_cons (me_var (pv 0)) (ma_cons (me_c pe_int) ma_nil)) (by decide) (by decide)) (fun _ _ => rfl)))
    (mss_cons (ms_set (i := 2) sc_law_drawn.nd rfl (Or.inr rfl) (me_call (is := [0]) (sim_law_one T) (hr.mono (by decide)) (takes_of rfl rfl rfl rfl) rfl T.m_law_one T.F_law_one.kp T.b_law_one (ma_cons (me_var (pv 0)) (ma_cons (me_add (me_add (me_lst (ma_cons (me_c pe_str) (ma_cons (me_c pe_str) (ma_cons (me_c pe_str) (ma_cons (me_c pe_str) ma_nil)))) (by show 4 ≤ sizeLine; decide)) (me_lc (me_lst (ma_cons (me_mv (me_var (pv 1))) ma_nil) (by show 1 ≤ sizeLine; decide)) (blkOk_by (own := [("_law_x", 3)]) (N := N_law_drawn) (sc := defScope s_law_drawn) (by decide +kernel)) (fun _ _ _ _ _ => pg_name (i := 3) sc_law_drawn.nd rfl (Or.inl rfl)) (fun _ _ _ _ _ => (mt_cmp (OpR.or op_ne (op_neD hr.units)) fNe_ok (me_var (pv 3)) (me_c pe_str) (nomark _))) (fun _ _ _ _ _ => (me_c pe_str)) rfl sc_law_drawn.nd)) (me_lc (me_lst (ma_cons (me_mv (me_var (pv 1))) ma_nil) (by show 1 ≤ sizeLine; decide)) (blkOk_by (own := [("_law_x", 3)]) (N := N_law_drawn) (sc := defScope s_law_drawn) (by decide +kernel)) (fun _ _ _ _ _ => pg_name (i := 3) sc_law_drawn.nd rfl (Or.inl rfl)) (fun _ _ _ _ _ => (mt_cmp (OpR.or op_eq (op_eqD hr.units)) fEq_ok (me_var (pv 3)) (me_c pe_str) (nomark _))) (fun _ _ _ _ _ => (me_c pe_str)) rfl sc_law_drawn.nd)) ma_nil)) (by decide) (by decide)))
    (mss_cons (ms_set (i := 4) sc_law_drawn.nd rfl (Or.inl rfl) (me_call (is := []) (sim_law_kind_c T) (hr.mono (by decide)) (takes_of rfl rfl rfl rfl) rfl T.m_law_kind_c T.F_law_kind_c.kp T.b_law_kind_c (ma_cons (me_var (pv 1)) (ma_cons (me_var (pv 2)) ma_nil)) (by decide) (by decide)))
    (mss_cons (ms_set (i := 5) sc_law_drawn.nd rfl (Or.inl rfl) (me_call (is := [0]) (sim_law_one T) (hr.mono (by decide)) (takes_of rfl rfl rfl rfl) rfl T.m_law_one T.F_law_one.kp T.b_law_one (ma_cons (me_var (pv 0)) (ma_cons (me_add (me_add (me_lst (ma_cons (me_c pe_str) (ma_cons (me_c pe_str) (ma_cons (me_c pe_str) ma_nil))) (by show 3 ≤ sizeLine; decide)) (me_lc (me_lst (ma_cons (me_mv (me_var (pv 4))) ma_nil) (by show 1 ≤ sizeLine; decide)) (blkOk_by (own := [("_law_x", 3)]) (N := N_law_drawn) (sc := defScope s_law_drawn) (by decide +kernel)) (fun _ _ _ _ _ => pg_name (i := 3) sc_law_drawn.nd rfl (Or.inl rfl)) (fun _ _ _ _ _ => (mt_cmp (OpR.or op_ne (op_neD hr.units)) fNe_ok (me_var (pv 3)) (me_c pe_str) (nomark _))) (fun _ _ _ _ _ => (me_c pe_str)) rfl sc_law_drawn.nd)) (me_lc (me_lst (ma_cons (me_mv (me_var (pv 4))) ma_nil) (by show 1 ≤ sizeLine; decide)) (blkOk_by (own := [("_law_x", 3)]) (N := N_law_drawn) (sc := defScope s_law_drawn) (by decide +kernel)) (fun _ _ _ _ _ => pg_name (i := 3) sc_law_drawn.nd rfl (Or.inl rfl)) (fun _ _ _ _ _ => (mt_cmp (OpR.or op_eq (op_eqD hr.units)) fEq_ok (me_var (pv 3)) (me_c pe_str) (nomark _))) (fun _ _ _ _ _ => (me_c pe_str)) rfl sc_law_drawn.nd)) ma_nil)) (by decide) (by decide)))
    (mss_cons (ms_set (i := 6) sc_law_drawn.nd rfl (Or.inl rfl) (me_add (me_add (me_add (me_lst (ma_cons (me_c pe_str) ma_nil) (by show 1 ≤ sizeLine; decide)) (me_lc (me_lst (ma_cons (me_mv (me_var (pv 1))) ma_nil) (by show 1 ≤ sizeLine; decide)) (blkOk_by (own := [("_law_x", 3)]) (N := N_law_drawn) (sc := defScope s_law_drawn) (by decide +kernel)) (fun _ _ _ _ _ => pg_name (i := 3) sc_law_drawn.nd rfl (Or.inl rfl)) (fun _ _ _ _ _ => (mt_cmp (OpR.or op_ne (op_neD hr.units)) fNe_ok (me_var (pv 3)) (me_c pe_str) (nomark _))) (fun _ _ _ _ _ => (me_c pe_str)) rfl sc_law_drawn.nd)) (me_lc (me_lst (ma_cons (me_mv (me_var (pv 2))) ma_nil) (by show 1 ≤ sizeLine; decide)) (blkOk_by (own := [("_law_x", 3)]) (N := N_law_drawn) (sc := defScope s_law_drawn) (by decide +kernel)) (fun _ _ _ _ _ => pg_name (i := 3) sc_law_drawn.nd rfl (Or.inl rfl)) (fun _ _ _ _ _ => (mt_cmp op_insg fInSg_ok (me_var (pv 3)) (me_c pe_str) rfl)) (fun _ _ _ _ _ => (me_c pe_str)) rfl sc_law_drawn.nd)) (me_lc (me_lst (ma_cons (me_mv (me_var (pv 5))) ma_nil) (by show 1 ≤ sizeLine; decide)) (blkOk_by (own := [("_law_x", 3)]) (N := N_law_drawn) (sc := defScope s_law_drawn) (by decide +kernel)) (fun _ _ _ _ _ => pg_name (i := 3) sc_law_drawn.nd rfl (Or.inl rfl)) (fun _ _ _ _ _ => (mt_cmp op_insg fInSg_ok (me_var (pv 3)) (me_c pe_str) rfl)) (fun _ _ _ _ _ => (me_c pe_str)) rfl sc_law_drawn.nd)))
    (mss_cons (ms_set (i := 7) sc_law_drawn.nd rfl (Or.inl rfl) (me_call (is := [0]) (sim_law_one T) (hr.mono (by decide)) (takes_of rfl rfl rfl rfl) rfl T.m_law_one T.F_law_one.kp T.b_law_one (ma_cons (me_var (pv 0)) (ma_cons (me_var (pv 6)) ma_nil)) (by decide) (by decide)))
    (mss_cons (ms_set (i := 8) sc_law_drawn.nd rfl (Or.inl rfl) (me_call (is := [0]) (sim_law_one T) (hr.mono (by decide)) (takes_of rfl rfl rfl rfl) rfl T.m_law_one T.F_law_one.kp T.b_law_one (ma_cons (me_var (pv 0)) (ma_cons (me_add (me_lst (ma_cons (me_c pe_str) (ma_cons (me_c pe_str) ma_nil)) (by show 2 ≤ sizeLine; decide)) (me_lc (me_lst (ma_cons (me_mv (me_var (pv 1))) ma_nil) (by show 1 ≤ sizeLine; decide)) (blkOk_by (own := [("_law_x", 3)]) (N := N_law_drawn) (sc := defScope s_law_drawn) (by decide +kernel)) (fun _ _ _ _ _ => pg_name (i := 3) sc_law_drawn.nd rfl (Or.inl rfl)) (fun _ _ _ _ _ => (mt_cmp (OpR.or op_eq (op_eqD hr.units)) fEq_ok (me_var (pv 3)) (me_c pe_str) (nomark _))) (fun _ _ _ _ _ => (me_c pe_str)) rfl sc_law_drawn.nd)) ma_nil)) (by decide) (by decide)))
    (mss_cons (ms_set (i := 9) sc_law_drawn.nd rfl (Or.inl rfl) (me_call (is := [0]) (sim_law_one T) (hr.mono (by decide)) (takes_of rfl rfl rfl rfl) rfl T.m_law_one T.F_law_one.kp T.b_law_one (ma_cons (me_var (pv 0)) (ma_cons (me_add (me_lst (ma_cons (me_c pe_str) ma_nil) (by show 1 ≤ sizeLine; decide)) (me_lcS (me_c pe_str) (blkOk_by (own := [("_law_sign", 10)]) (N := N_law_drawn) (sc := defScope s_law_drawn) (by decide +kernel)) (fun _ _ _ _ _ => pg_name (i := 10) sc_law_drawn.nd rfl (Or.inl rfl)) (fun _ _ _ _ _ => (mw_pt (mw_or (mt_cmp (OpR.or op_eq (op_eqD hr.units)) fEq_ok (me_var (pv 2)) (me_c pe_str) (nomark _)) (mw_or1 (mt_cmp (OpR.or op_eq (op_eqD hr.units)) fEq_ok (me_var (pv 2)) (me_c pe_str) (nomark _)))))) (fun _ _ _ _ _ => (me_var (pv 10))) rfl sc_law_drawn.nd)) ma_nil)) (by decide) (by decide)))
    (mss_one (ms_ret (me_tup (ma_cons (me_mv (me_var (pv 1))) (ma_cons (me_mv (me_var (pv 2))) (ma_cons (me_mv (me_var (pv 5))) (ma_cons (me_mv (me_var (pv 7))) (ma_cons (me_mv (me_var (pv 8))) (ma_cons (me_mv (me_var (pv 9))) ma_nil)))))) (by show 6 ≤ sizeLine; decide))))))))))))
abbrev md_law_content_c : List Bool := [false]
def g_law_content_c : GS := (sSeq (sIf (gSeq (gSeq (gSeq (gSeq (gSeq (gSeq (gVar 0) (gC (.int 0))) fIxA) (gSeq (gSeq (gSeq (gVar 0) (gC (.int 1))) fIxA) gNil)) (gCall [] md_law_kind_c G_law_kind_c 2)) (gC (.str "F"))) fEq) (sRet (gC (.str "-"))) sNil)
    (sSeq (sIf (gSeq (gSeq (gSeq (gSeq (gVar 0) (gC (.int 1))) fIxA) (gC (.str "~LP"))) fInSg) (sRet (gC (.str "C"))) sNil)
    (sRet (gC (.str "K")))))
def G_law_content_c : GF := runF md_law_content_c 1 g_law_content_c
theorem sim_law_content_c (T : Txt K mg w) : FnOk P w K mg base (L2N.CX P w) 2 T.a_law_content_c T.fd_law_content_c ["_law_s"] (spOf (kcm K (kt P w T)) md_law_content_c G_law_content_c) :=
  fn_sim T.F_law_content_c sc_law_content_c rfl (by decide) fun cdv A outer s H E hr =>
  (mss_cons (ms_if (mt_cmp (OpR.or op_eq (op_eqD hr.units)) fEq_ok (me_call (is := []) (sim_law_kind_c T) (hr.mono (by decide)) (takes_of rfl rfl rfl rfl) rfl T.m_law_kind_c T.F_law_kind_c.kp T.b_law_kind_c (ma_cons (me_ixA hr.units (me_var (pv 0)) (me_c pe_int) (fun _ _ => rfl)) (ma_cons (me_ixA hr.units (me_var (pv 0)) (me_c pe_int) (fun _ _ => rfl)) ma_nil)) (by decide) (by decide)) (me_c pe_str) (nomark _)) (mss_one (ms_ret (me_c pe_str)))
    mss_nil)
    (mss_cons (ms_if (mt_cmp op_insg fInSg_ok (me_ixA hr.units (me_var (pv 0)) (me_c pe_int) (fun _ _ => rfl)) (me_c pe_str) rfl) (mss_one (ms_ret (me_c pe_str)))
    mss_nil)
    (mss_one (ms_ret (me_c pe_str)))))
abbrev md_law_content_r : List Bool := [false]
def g_law_content_r : GS := (sSeq (sIf (gSeq (gSeq (gSeq (gSeq (gSeq (gSeq (gVar 0) (gC (.int 0))) fIxA) (gSeq (gSeq (gSeq (gVar 0) (gC (.int 1))) fIxA) (gSeq (gSeq (gSeq (gVar 0) (gC (.int 2))) fIxA) gNil))) (gCall [] md_law_kind_r G_law_kind_r 3)) (gC (.str "F"))) fEq) (sRet (gC (.str "-"))) sNil)
    (sSeq (sIf (gSeq (gSeq (gSeq (gSeq (gVar 0) (gC (.int 2))) fIxA) (gC (.str "~LP"))) fInSg) (sRet (gC (.str "R"))) sNil)
    (sRet (gSeq (gSeq (gVar 0) gNil) (gCall [] md_law_content_c G_law_content_c 1)))))
def G_law_content_r : GF := runF md_law_content_r 1 g_law_content_r
theorem sim_law_content_r (T : Txt K mg w) : FnOk P w K mg base (L2N.CX P w) 3 T.a_law_content_r T.fd_law_content_r ["_law_s"] (spOf (kcm K (kt P w T)) md_law_content_r G_law_content_r) :=
  fn_sim T.F_law_content_r sc_law_content_r rfl (by decide) fun cdv A outer s H E hr =>
  (mss_cons (ms_if (mt_cmp (OpR.or op_eq (op_eqD hr.units)) fEq_ok (me_call (is := []) (sim_law_kind_r T) (hr.mono (by decide)) (takes_of rfl rfl rfl rfl) rfl T.m_law_kind_r T.F_law_kind_r.kp T.b_law_kind_r (ma_cons (me_ixA hr.units (me_var (pv 0)) (me_c pe_int) (fun _ _ => rfl)) (ma_cons (me_ixA hr.units (me_var (pv 0)) (me_c pe_int) (fun _ _ => rfl)) (ma_cons (me_ixA hr.units (me_var (pv 0)) (me_c pe_int) (fun _ _ => rfl)) ma_nil))) (by decide) (by decide)) (me_c pe_str) (nomark _)) (mss_one (ms_ret (me_c pe_str)))
    mss_nil)
    (mss_cons (ms_if (mt_cmp op_insg fInSg_ok (me_ixA hr.units (me_var (pv 0)) (me_c pe_int) (fun _ _ => rfl)) (me_c pe_str) rfl) (mss_one (ms_ret (me_c pe_str)))
    mss_nil)
    (mss_one (ms_ret (me_call (is := []) (sim_law_content_c T) (hr.mono (by decide)) (takes_of rfl rfl rfl rfl) rfl T.m_law_content_c T.F_law_content_c.kp T.b_law_content_c (ma_cons (me_var (pv 0)) ma_nil) (by decide) (by decide))))))
abbrev md_law_words_let : List Bool := [false, false]
def g_law_words_let : GS := (sSeq (sSet md_law_words_let 2 (gSeq (gSeq (gVar 0) (gC (.int 0))) fIxA))
    (sSeq (sSet md_law_words_let 3 (gSeq (gSeq (gSeq (gSeq (gVar 0) (gC (.int 0))) fIxA) (gSeq (gSeq (gSeq (gVar 0) (gC (.int 1))) fIxA) gNil)) (gCall [] md_law_kind_c G_law_kind_c 2)))
    (sSeq (sIf (gSeq (gSeq (gSeq (gSeq (gSeq (gSeq (gVar 0) (gC (.int 0))) fIxA) (gSeq (gSeq (gSeq (gVar 0) (gC (.int 1))) fIxA) (gSeq (gSeq (gSeq (gVar 0) (gC (.int 2))) fIxA) gNil))) (gCall [] md_law_kind_r G_law_kind_r 3)) (gC (.str "P"))) fEq) (sSeq (sSet md_law_words_let 4 (gSeq (gSeq (gVar 0) gNil) (gCall [] md_law_content_r G_law_content_r 1)))
    (sSeq (sSet md_law_words_let 5 (gAnd (gOrB (gSeq (gSeq (gVar 2) (gC (.str "F"))) fEq) (gSeq (gSeq (gVar 4) (gC (.str "K"))) fEq)) (gOrB (gSeq (gSeq (gVar 3) (gC (.str "F"))) fEq) (gSeq (gSeq (gVar 4) (gSeq (gSeq (gVar 0) gNil) (gCall [] md_law_content_c G_law_content_c 1))) fEq))))
    (sRet (gOrB (gVar 5) (gSeq (gSeq (gC (.str "late")) (gVar 1)) fNotInA))))) sNil)
    (sSeq (sIf (gOrB (gSeq (gSeq (gSeq (gSeq (gVar 0) (gC (.int 1))) fIxA) (gC (.str "-"))) fEq) (gSeq (gSeq (gVar 3) (gC (.str "P"))) fNe)) (sRet (gC (.bl false))) sNil)
    (sRet (gOrB (gSeq (gSeq (gVar 2) (gC (.str "F"))) fEq) (gOrB (gSeq (gSeq (gSeq (gSeq (gVar 0) (gC (.int 1))) fIxA) (gC (.str "="))) fEq) (gSeq (gSeq (gC (.str "late")) (gVar 1)) fNotInA))))))))
def G_law_words_let : GF := runF md_law_words_let 6 g_law_words_let
theorem sim_law_words_let (T : Txt K mg w) : FnOk P w K mg base (L2N.CX P w) 4 T.a_law_words_let T.fd_law_words_let ["_law_s", "_law_names_here"] (spOf (kcm K (kt P w T)) md_law_words_let G_law_words_let) :=
  fn_sim T.F_law_words_let sc_law_words_let rfl (by decide) fun cdv A outer s H E hr =>
  (mss_cons (ms_set (i := 2) sc_law_words_let.nd rfl (Or.inl rfl) (me_ixA hr.units (me_var (pv 0)) (me_c pe_int) (fun _ _ => rfl)))
    (mss_cons (ms_set (i := 3) sc_law_words_let.nd rfl (Or.inl rfl) (me_call (is := []) (sim_law_kind_c T) (hr.mono (by decide)) (takes_of rfl rfl rfl rfl) rfl T.m_law_kind_c T.F_law_kind_c.kp T.b_law_kind_c (ma_cons (me_ixA hr.units (me_var (pv 0)) (me_c pe_int) (fun _ _ => rfl)) (ma_cons (me_ixA hr.units (me_var (pv 0)) (me_c pe_int) (fun _ _ => rfl)) ma_nil)) (by decide) (by decide)))
    (mss_cons (ms_if (mt_cmp (OpR.or op_eq (op_eqD hr.units)) fEq_ok (me_call (is := []) (sim_law_kind_r T) (hr.mono (by decide)) (takes_of rfl rfl rfl rfl) rfl T.m_law_kind_r T.F_law_kind_r.kp T.b_law_kind_r (ma_cons (me_ixA hr.units (me_var (pv 0)) (me_c pe_int) (fun _ _ => rfl)) (ma_cons (me_ixA hr.units (me_var (pv 0)) (me_c pe_int) (fun _ _ => rfl)) (ma_cons (me_ixA hr.units (me_var (pv 0)) (me_c pe_int) (fun _ _ => rfl)) ma_nil))) (by decide) (by decide)) (me_c pe_str) (nomark _)) (mss_cons (ms_set (i := 4) sc_law_words_let.nd rfl (Or.inl rfl) (me_call (is := []) (sim_law_content_r T) (hr.mono (by decide)) (takes_of rfl rfl rfl rfl) rfl T.m_law_content_r T.F_law_content_r.kp T.b_law_content_r (ma_cons (me_var (pv 0)) ma_nil) (by decide) (by decide)))
    (mss_cons (ms_set (i := 5) sc_law_words_let.nd rfl (Or.inl rfl) (me_and (me_or (me_cmp (OpR.or op_eq (op_eqD hr.units)) fEq_ok (me_var (pv 2)) (me_c pe_str) (nomark _)) (me_one (me_cmp (OpR.or op_eq (op_eqD hr.units)) fEq_ok (me_var (pv 4)) (me_c pe_str) (nomark _)))) (me_one (me_or (me_cmp (OpR.or op_eq (op_eqD hr.units)) fEq_ok (me_var (pv 3)) (me_c pe_str) (nomark _)) (me_one (me_cmp (OpR.or op_eq (op_eqD hr.units)) fEq_ok (me_var (pv 4)) (me_call (is := []) (sim_law_content_c T) (hr.mono (by decide)) (takes_of rfl rfl rfl rfl) rfl T.m_law_content_c T.F_law_content_c.kp T.b_law_content_c (ma_cons (me_var (pv 0)) ma_nil) (by decide) (by decide)) (nomark _)))))))
    (mss_one (ms_ret (me_or (me_var (pv 5)) (me_one (me_cmp (op_notInA hr.units) fNotInA_ok (me_c pe_str) (me_var (pv 1)) rfl)))))))
    mss_nil)
    (mss_cons (ms_if (mw_pt (mw_or (mt_cmp (OpR.or op_eq (op_eqD hr.units)) fEq_ok (me_ixA hr.units (me_var (pv 0)) (me_c pe_int) (fun _ _ => rfl)) (me_c pe_str) (nomark _)) (mw_or1 (mt_cmp (OpR.or op_ne (op_neD hr.units)) fNe_ok (me_var (pv 3)) (me_c pe_str) (nomark _))))) (mss_one (ms_ret (me_c pe_bl)))
    mss_nil)
    (mss_one (ms_ret (me_or (me_cmp (OpR.or op_eq (op_eqD hr.units)) fEq_ok (me_var (pv 2)) (me_c pe_str) (nomark _)) (me_or (me_cmp (OpR.or op_eq (op_eqD hr.units)) fEq_ok (me_ixA hr.units (me_var (pv 0)) (me_c pe_int) (fun _ _ => rfl)) (me_c pe_str) (nomark _)) (me_one (me_cmp (op_notInA hr.units) fNotInA_ok (me_c pe_str) (me_var (pv 1)) rfl))))))))))
abbrev md_law_let : List Bool := [false, false, false]
def g_law_let : GS := (sSeq (sAsg (gVar 0) (unpk md_law_let [3, 4, 5, 6, 7, 8]))
    (sSeq (sSet md_law_let 9 (gSeq (gSeq (gVar 3) (gSeq (gVar 4) gNil)) (gCall [] md_law_kind_c G_law_kind_c 2)))
    (sSeq (sSet md_law_let 10 (gSeq (gSeq (gVar 3) (gSeq (gVar 4) (gSeq (gVar 5) gNil))) (gCall [] md_law_kind_r G_law_kind_r 3)))
    (sSeq (sSet md_law_let 11 (gOrB (gSeq (gSeq (gVar 4) (gC (.str "~"))) fEq) (gSeq (gSeq (gVar 4) (gC (.str "L"))) fEq)))
    (sSeq (sSet md_law_let 12 (gAnd (gSeq (gSeq (gC (.str "wait")) (gVar 2)) fInA) (gAnd (gVar 11) (gSeq (gSeq (gVar 8) (gC (.str "-"))) fEq))))
    (sSeq (sIf (gSeq (gSeq (gVar 1) (gC (.str "takel"))) fEq) (sRet (gSeq (gSeq (gVar 10) (gC (.str "F"))) fEq)) sNil)
    (sSeq (sIf (gSeq (gSeq (gVar 1) (gC (.str "takep"))) fEq) (sSeq (sSet md_law_let 13 (gOrB (gSeq (gSeq (gC (.str "reuse")) (gVar 2)) fNotInA) (gAnd (gSeq (gSeq (gVar 3) (gC (.str "F"))) fEq) (gSeq (gSeq (gVar 9) (gC (.str "F"))) fEq))))
    (sRet (gAnd (gSeq (gSeq (gVar 10) (gC (.str "F"))) fEq) (gAnd (gVar 13) (gOrB (gSeq (gSeq (gC (.str "shelve")) (gVar 2)) fNotInA) (gSeq (gSeq (gVar 7) (gC (.str "-"))) fEq)))))) sNil)
    (sSeq (sIf (gSeq (gSeq (gVar 1) (gC (.str "change"))) fEq) (sRet (gAnd (gSeq (gSeq (gVar 10) (gC (.str "L"))) fEq) (gNot (gVar 12)))) sNil)
    (sSeq (sIf (gSeq (gSeq (gVar 1) (gC (.str "free"))) fEq) (sRet (gAnd (gSeq (gSeq (gVar 10) (gC (.str "F"))) fNe) (gNot (gVar 12)))) sNil)
    (sSeq (sIf (gSeq (gSeq (gVar 1) (gC (.str "close"))) fEq) (sRet (gSeq (gSeq (gVar 4) (gC (.str "-"))) fEq)) sNil)
    (sSeq (sIf (gSeq (gSeq (gVar 1) (gC (.str "copy"))) fEq) (sRet (gAnd (gVar 11) (gSeq (gSeq (gVar 8) (gC (.str "-"))) fEq))) sNil)
    (sSeq (sIf (gSeq (gSeq (gVar 1) (gC (.str "mark"))) fEq) (sSeq (sSet md_law_let 13 (gAnd (gOrB (gSeq (gSeq (gC (.str "copies")) (gVar 2)) fNotInA) (gOrB (gNot (gVar 11)) (gSeq (gSeq (gVar 8) (gC (.str "-"))) fNe))) (gOrB (gSeq (gSeq (gC (.str "words")) (gVar 2)) fNotInA) (gOrB (gSeq (gSeq (gVar 4) (gC (.str "P"))) fNe) (gSeq (gSeq (gVar 6) (gC (.str "C"))) fEq)))))
    (sRet (gAnd (gSeq (gSeq (gVar 4) (gC (.str "-"))) fNe) (gVar 13)))) sNil)
    (sSeq (sIf (gSeq (gSeq (gVar 1) (gC (.str "home"))) fEq) (sRet (gSeq (gSeq (gVar 3) (gC (.str "L"))) fEq)) sNil)
    (sSeq (sIf (gSeq (gSeq (gVar 1) (gC (.str "early"))) fEq) (sRet (gAnd (gSeq (gSeq (gVar 10) (gC (.str "L"))) fEq) (gAnd (gSeq (gSeq (gSeq (gSeq (gVar 0) gNil) (gCall [] md_law_content_r G_law_content_r 1)) (gC (.str "K"))) fNe) (gSeq (gSeq (gC (.str "mark")) (gVar 2)) fNotInA)))) sNil)
    (sSeq (sIf (gSeq (gSeq (gVar 1) (gC (.str "words"))) fEq) (sRet (gSeq (gSeq (gVar 0) (gSeq (gVar 2) gNil)) (gCall [] md_law_words_let G_law_words_let 2))) sNil)
    (sSeq (sIf (gSeq (gSeq (gVar 1) (gC (.str "room"))) fEq) (sRet (gAnd (gSeq (gSeq (gVar 7) (gC (.str "-"))) fNe) (gOrB (gSeq (gSeq (gC (.str "room")) (gVar 2)) fNotInA) (gOrB (gSeq (gSeq (gVar 7) (gC (.str "K"))) fNe) (gSeq (gSeq (gVar 6) (gC (.str "K"))) fEq))))) sNil)
    (sRet (gOrB (gSeq (gSeq (gC (.str "told")) (gVar 2)) fNotInA) (gAnd (gSeq (gSeq (gVar 4) (gC (.str "-"))) fEq) (gSeq (gSeq (gVar 5) (gC (.str "="))) fEq))))))))))))))))))))
def G_law_let : GF := runF md_law_let 14 g_law_let
theorem sim_law_let (T : Txt K mg w) : FnOk P w K mg base (L2N.CX P w) 5 T.a_law_let T.fd_law_let ["_law_s", "_law_letter", "_law_names_here"] (spOf (kcm K (kt P w T)) md_law_let G_law_let) :=
  fn_sim T.F_law_let sc_law_let rfl (by decide) fun cdv A outer s H E hr =>
  (mss_cons (ms_asg (me_var (pv 0)) (mg_unp (is := [3, 4, 5, 6, 7, 8]) (pg_tup (by rfl) (pgs_cons (pg_name (i := 3) sc_law_let.nd rfl (Or.inl rfl)) (pgs_cons (pg_name (i := 4) sc_law_let.nd rfl (Or.inl rfl)) (pgs_cons (pg_name (i := 5) sc_law_let.nd rfl (Or.inl rfl)) (pgs_cons (pg_name (i := 6) sc_law_let.nd rfl (Or.inl rfl)) (pgs_cons (pg_name (i := 7) sc_law_let.nd rfl (Or.inl rfl)) (pgs_cons (pg_name (i := 8) sc_law_let.nd rfl (Or.inl rfl)) pgs_nil))))))) (pg_lst (by rfl) (pgs_cons (pg_name (i := 3) sc_law_let.nd rfl (Or.inl rfl)) (pgs_cons (pg_name (i := 4) sc_law_let.nd rfl (Or.inl rfl)) (pgs_cons (pg_name (i := 5) sc_law_let.nd rfl (Or.inl rfl)) (pgs_cons (pg_name (i := 6) sc_law_let.nd rfl (Or.inl rfl)) (pgs_cons (pg_name (i := 7) sc_law_let.nd rfl (Or.inl rfl)) (pgs_cons (pg_name (i := 8) sc_law_let.nd rfl (Or.inl rfl)) pgs_nil)))))))) (fun a b => ps_asg a b))
    (mss_cons (ms_set (i := 9) sc_law_let.nd rfl (Or.inl rfl) (me_call (is := []) (sim_law_kind_c T) (hr.mono (by decide)) (takes_of rfl rfl rfl rfl) rfl T.m_law_kind_c T.F_law_kind_c.kp T.b_law_kind_c (ma_cons (me_var (pv 3)) (ma_cons (me_var (pv 4)) ma_nil)) (by decide) (by decide)))
    (mss_cons (ms_set (i := 10) sc_law_let.nd rfl (Or.inl rfl) (me_call (is := []) (sim_law_kind_r T) (hr.mono (by decide)) (takes_of rfl rfl rfl rfl) rfl T.m_law_kind_r T.F_law_kind_r.kp T.b_law_kind_r (ma_cons (me_var (pv 3)) (ma_cons (me_var (pv 4)) (ma_cons (me_var (pv 5)) ma_nil))) (by decide) (by decide)))
    (mss_cons (ms_set (i := 11) sc_law_let.nd rfl (Or.inl rfl) (me_or (me_cmp (OpR.or op_eq (op_eqD hr.units)) fEq_ok (me_var (pv 4)) (me_c pe_str) (nomark _)) (me_one (me_cmp (OpR.or op_eq (op_eqD hr.units)) fEq_ok (me_var (pv 4)) (me_c pe_str) (nomark _)))))
    (mss_cons (ms_set (i := 12) sc_law_let.nd rfl (Or.inl rfl) (me_and (me_cmp (op_inA hr.units) fInA_ok (me_c pe_str) (me_var (pv 2)) rfl) (me_and (me_var (pv 11)) (me_one (me_cmp (OpR.or op_eq (op_eqD hr.units)) fEq_ok (me_var (pv 8)) (me_c pe_str) (nomark _))))))
    (mss_cons (ms_if (mt_cmp (OpR.or op_eq (op_eqD hr.units)) fEq_ok (me_var (pv 1)) (me_c pe_str) (nomark _)) (mss_one (ms_ret (me_cmp (OpR.or op_eq (op_eqD hr.units)) fEq_ok (me_var (pv 10)) (me_c pe_str) (nomark _))))
    mss_nil)
    (mss_cons (ms_if (mt_cmp (OpR.or op_eq (op_eqD hr.units)) fEq_ok (me_var (pv 1)) (me_c pe_str) (nomark _)) (mss_cons (ms_set (i := 13) sc_law_let.nd rfl (Or.inl rfl) (me_or (me_cmp (op_notInA hr.units) fNotInA_ok (me_c pe_str) (me_var (pv 2)) rfl) (me_one (me_and (me_cmp (OpR.or op_eq (op_eqD hr.units)) fEq_ok (me_var (pv 3)) (me_c pe_str) (nomark _)) (me_one (me_cmp (OpR.or op_eq (op_eqD hr.units)) fEq_ok (me_var (pv 9)) (me_c pe_str) (nomark _)))))))
    (mss_one (ms_ret (me_and (me_cmp (OpR.or op_eq (op_eqD hr.units)) fEq_ok (me_var (pv 10)) (me_c pe_str) (nomark _)) (me_and (me_var (pv 13)) (me_one (me_or (me_cmp (op_notInA hr.units) fNotInA_ok (me_c pe_str) (me_var (pv 2)) rfl) (me_one (me_cmp (OpR.or op_eq (op_eqD hr.units)) fEq_ok (me_var (pv 7)) (me_c pe_str) (nomark _))))))))))
    mss_nil)
    (mss_cons (ms_if (mt_cmp (OpR.or op_eq (op_eqD hr.units)) fEq_ok (me_var (pv 1)) (me_c pe_str) (nomark _)) (mss_one (ms_ret (me_and (me_cmp (OpR.or op_eq (op_eqD hr.units)) fEq_ok (me_var (pv 10)) (me_c pe_str) (nomark _)) (me_one (me_not (me_var (pv 12)))))))
    mss_nil)
    (mss_cons (ms_if (mt_cmp (OpR.or op_eq (op_eqD hr.units)) fEq_ok (me_var (pv 1)) (me_c pe_str) (nomark _)) (mss_one (ms_ret (me_and (me_cmp (OpR.or op_ne (op_neD hr.units)) fNe_ok (me_var (pv 10)) (me_c pe_str) (nomark _)) (me_one (me_not (me_var (pv 12)))))))
    mss_nil)
    (mss_cons (ms_if (mt_cmp (OpR.or op_eq (op_eqD hr.units)) fEq_ok (me_var (pv 1)) (me_c pe_str) (nomark _)) (mss_one (ms_ret (me_cmp (OpR.or op_eq (op_eqD hr.units)) fEq_ok (me_var (pv 4)) (me_c pe_str) (nomark _))))
    mss_nil)
    (mss_cons (ms_if (mt_cmp (OpR.or op_eq (op_eqD hr.units)) fEq_ok (me_var (pv 1)) (me_c pe_str) (nomark _)) (mss_one (ms_ret (me_and (me_var (pv 11)) (me_one (me_cmp (OpR.or op_eq (op_eqD hr.units)) fEq_ok (me_var (pv 8)) (me_c pe_str) (nomark _))))))
    mss_nil)
    (mss_cons (ms_if (mt_cmp (OpR.or op_eq (op_eqD hr.units)) fEq_ok (me_var (pv 1)) (me_c pe_str) (nomark _)) (mss_cons (ms_set (i := 13) sc_law_let.nd rfl (Or.inl rfl) (me_and (me_or (me_cmp (op_notInA hr.units) fNotInA_ok (me_c pe_str) (me_var (pv 2)) rfl) (me_or (me_not (me_var (pv 11))) (me_one (me_cmp (OpR.or op_ne (op_neD hr.units)) fNe_ok (me_var (pv 8)) (me_c pe_str) (nomark _))))) (me_one (me_or (me_cmp (op_notInA hr.units) fNotInA_ok (me_c pe_str) (me_var (pv 2)) rfl) (me_or (me_cmp (OpR.or op_ne (op_neD hr.units)) fNe_ok (me_var (pv 4)) (me_c pe_str) (nomark _)) (me_one (me_cmp (OpR.or op_eq (op_eqD hr.units)) fEq_ok (me_var (pv 6)) (me_c pe_str) (nomark _))))))))
    (mss_one (ms_ret (me_and (me_cmp (OpR.or op_ne (op_neD hr.units)) fNe_ok (me_var (pv 4)) (me_c pe_str) (nomark _)) (me_one (me_var (pv 13)))))))
    mss_nil)
    (mss_cons (ms_if (mt_cmp (OpR.or op_eq (op_eqD hr.units)) fEq_ok (me_var (pv 1)) (me_c pe_str) (nomark _)) (mss_one (ms_ret (me_cmp (OpR.or op_eq (op_eqD hr.units)) fEq_ok (me_var (pv 3)) (me_c pe_str) (nomark _))))
    mss_nil)
    (mss_cons (ms_if (mt_cmp (OpR.or op_eq (op_eqD hr.units)) fEq_ok (me_var (pv 1)) (me_c pe_str) (nomark _)) (mss_one (ms_ret (me_and (me_cmp (OpR.or op_eq (op_eqD hr.units)) fEq_ok (me_var (pv 10)) (me_c pe_str) (nomark _)) (me_and (me_cmp (OpR.or op_ne (op_neD hr.units)) fNe_ok (me_call (is := []) (sim_law_content_r T) (hr.mono (by decide)) (takes_of rfl rfl rfl rfl) rfl T.m_law_content_r T.F_law_content_r.kp T.b_law_content_r (ma_cons (me_var (pv 0)) ma_nil) (by decide) (by decide)) (me_c pe_str) (nomark _)) (me_one (me_cmp (op_notInA hr.units) fNotInA_ok (me_c pe_str) (me_var (pv 2)) rfl))))))
    mss_nil)
    (mss_cons (ms_if (mt_cmp (OpR.or op_eq (op_eqD hr.units)) fEq_ok (me_var (pv 1)) (me_c pe_str) (nomark _)) (mss_one (ms_ret (me_call (is := []) (sim_law_words_let T) (hr.mono (by decide)) (takes_of rfl rfl rfl rfl) rfl T.m_law_words_let T.F_law_words_let.kp T.b_law_words_let (ma_cons (me_var (pv 0)) (ma_cons (me_var (pv 2)) ma_nil)) (by decide) (by decide))))
    mss_nil)
    (mss_cons (ms_if (mt_cmp (OpR.or op_eq (op_eqD hr.units)) fEq_ok (me_var (pv 1)) (me_c pe_str) (nomark _)) (mss_one (ms_ret (me_and (me_cmp (OpR.or op_ne (op_neD hr.units)) fNe_ok (me_var (pv 7)) (me_c pe_str) (nomark _)) (me_one (me_or (me_cmp (op_notInA hr.units) fNotInA_ok (me_c pe_str) (me_var (pv 2)) rfl) (me_or (me_cmp (OpR.or op_ne (op_neD hr.units)) fNe_ok (me_var (pv 7)) (me_c pe_str) (nomark _)) (me_one (me_cmp (OpR.or op_eq (op_eqD hr.units)) fEq_ok (me_var (pv 6)) (me_c pe_str) (nomark _)))))))))
    mss_nil)
    (mss_one (ms_ret (me_or (me_cmp (op_notInA hr.units) fNotInA_ok (me_c pe_str) (me_var (pv 2)) rfl) (me_one (me_and (me_cmp (OpR.or op_eq (op_eqD hr.units)) fEq_ok (me_var (pv 4)) (me_c pe_str) (nomark _)) (me_one (me_cmp (OpR.or op_eq (op_eqD hr.units)) fEq_ok (me_var (pv 5)) (me_c pe_str) (nomark _))))))))))))))))))))))))
abbrev md_law_log : List Bool := [false, false]
def g_law_log : GS := (sSeq (sAsg (gVar 0) (unpk md_law_log [2, 3, 4, 5, 6, 7]))
    (sSeq (sSet md_law_log 8 (gAnd (gSeq (gSeq (gVar 2) (gC (.str "L"))) fEq) (gAnd (gSeq (gSeq (gVar 3) (gC (.str "FLP"))) fInSg) (gSeq (gSeq (gC (.str "revoke")) (gVar 1)) fInA))))
    (sSeq (sIf (gSeq (gSeq (gVar 3) (gC (.str "="))) fEq) (sRet (gSeq (gVar 6) (fMv md_law_log))) sNil)
    (sSeq (sIf (gOrB (gSeq (gSeq (gVar 3) (gC (.str "~"))) fEq) (gSeq (gSeq (gVar 3) (gC (.str "L"))) fEq)) (sSeq (sIf (gAnd (gVar 8) (gSeq (gSeq (gC (.str "lapse")) (gVar 1)) fNotInA)) (sRet (gC (.str "-"))) sNil)
    (sSeq (sIf (gSeq (gSeq (gVar 7) (gC (.str "+"))) fEq) (sRet (gC (.str "K"))) sNil)
    (sRet (gC (.str "o"))))) sNil)
    (sSeq (sIf (gVar 8) (sRet (gC (.str "-"))) sNil)
    (sSeq (sRet (gSeq (gVar 6) (fRepl "K" "o")))
    sNil))))))
def G_law_log : GF := runF md_law_log 9 g_law_log
theorem sim_law_log (T : Txt K mg w) : FnOk P w K mg base (L2N.CX P w) 1 T.a_law_log T.fd_law_log ["_law_s", "_law_names_here"] (spOf (kcm K (kt P w T)) md_law_log G_law_log) :=
  fn_simT T.F_law_log sc_law_log rfl (by decide) (by decide) (by decide +kernel) fun cdv A outer s H E hr =>
  (msst_cons (mst_of (ms_asg (me_var (pv 0)) (mg_unp (is := [2, 3, 4, 5, 6, 7]) (pg_tup (by rfl) (pgs_cons (pg_name (i := 2) sc_law_log.nd rfl (Or.inl rfl)) (pgs_cons (pg_name (i := 3) sc_law_log.nd rfl (Or.inl rfl)) (pgs_cons (pg_name (i := 4) sc_law_log.nd rfl (Or.inl rfl)) (pgs_cons (pg_name (i := 5) sc_law_log.nd rfl (Or.inl rfl)) (pgs_cons (pg_name (i := 6) sc_law_log.nd rfl (Or.inl rfl)) (pgs_cons (pg_name (i := 7) sc_law_log.nd rfl (Or.inl rfl)) pgs_nil))))))) (pg_lst (by rfl) (pgs_cons (pg_name (i := 2) sc_law_log.nd rfl (Or.inl rfl)) (pgs_cons (pg_name (i := 3) sc_law_log.nd rfl (Or.inl rfl)) (pgs_cons (pg_name (i := 4) sc_law_log.nd rfl (Or.inl rfl)) (pgs_cons (pg_name (i := 5) sc_law_log.nd rfl (Or.inl rfl)) (pgs_cons (pg_name (i := 6) sc_law_log.nd rfl (Or.inl rfl)) (pgs_cons (pg_name (i := 7) sc_law_log.nd rfl (Or.inl rfl)) pgs_nil)))))))) (fun a b => ps_asg a b)))
    (msst_cons (mst_of (ms_set (i := 8) sc_law_log.nd rfl (Or.inl rfl) (me_and (me_cmp (OpR.or op_eq (op_eqD hr.units)) fEq_ok (me_var (pv 2)) (me_c pe_str) (nomark _)) (me_and (me_cmp op_insg fInSg_ok (me_var (pv 3)) (me_c pe_str) rfl) (me_one (me_cmp (op_inA hr.units) fInA_ok (me_c pe_str) (me_var (pv 1)) rfl))))))
    (msst_cons (mst_of (ms_if (mt_cmp (OpR.or op_eq (op_eqD hr.units)) fEq_ok (me_var (pv 3)) (me_c pe_str) (nomark _)) (mss_one (ms_ret (me_mv (me_var (pv 6)))))
    mss_nil))
    (msst_cons (mst_of (ms_if (mw_pt (mw_or (mt_cmp (OpR.or op_eq (op_eqD hr.units)) fEq_ok (me_var (pv 3)) (me_c pe_str) (nomark _)) (mw_or1 (mt_cmp (OpR.or op_eq (op_eqD hr.units)) fEq_ok (me_var (pv 3)) (me_c pe_str) (nomark _))))) (mss_cons (ms_if (mw_pt (mw_and (mt_val (me_var (pv 8))) (mw_and1 (mt_cmp (op_notInA hr.units) fNotInA_ok (me_c pe_str) (me_var (pv 1)) rfl)))) (mss_one (ms_ret (me_c pe_str)))
    mss_nil)
    (mss_cons (ms_if (mt_cmp (OpR.or op_eq (op_eqD hr.units)) fEq_ok (me_var (pv 7)) (me_c pe_str) (nomark _)) (mss_one (ms_ret (me_c pe_str)))
    mss_nil)
    (mss_one (ms_ret (me_c pe_str)))))
    mss_nil))
    (msst_cons (mst_of (ms_if (mt_val (me_var (pv 8))) (mss_one (ms_ret (me_c pe_str)))
    mss_nil))
    (msst_cons (mst_ret (met_repl (me_var (pv 6)) (by decide +kernel)))
    (msst_of mss_nil)))))))
abbrev md_law_marked : List Bool := [false, false]
def g_law_marked : GS := (sSeq (sAsg (gVar 0) (unpk md_law_marked [2, 3, 4, 5, 6, 7]))
    (sSeq (sSet md_law_marked 8 (gVar 5))
    (sSeq (sIf (gSeq (gSeq (gVar 5) (gC (.str "C"))) fEq) (sSet md_law_marked 8 (gC (.str "K"))) sNil)
    (sSeq (sIf (gAnd (gSeq (gSeq (gVar 5) (gC (.str "K"))) fEq) (gSeq (gSeq (gVar 3) (gC (.str "="))) fNe)) (sSet md_law_marked 8 (gC (.str "o"))) sNil)
    (sRet (gSeq (gSeq (gSeq (gSeq (gVar 2) (gSeq (gVar 3) gNil)) (gCall [] md_law_kind_c G_law_kind_c 2)) (gSeq (gC (.str "-")) (gSeq (gSeq (gVar 4) (fMv md_law_marked)) (gSeq (gSeq (gVar 8) (fMv md_law_marked)) (gSeq (gSeq (gSeq (gVar 0) (gSeq (gVar 1) gNil)) (gCall [] md_law_log G_law_log 2)) (gSeq (gC (.str "-")) gNil)))))) (fNew .tup 6)))))))
def G_law_marked : GF := runF md_law_marked 9 g_law_marked
theorem sim_law_marked (T : Txt K mg w) : FnOk P w K mg base (L2N.CX P w) 2 T.a_law_marked T.fd_law_marked ["_law_s", "_law_names_here"] (spOf (kcm K (kt P w T)) md_law_marked G_law_marked) :=
  fn_sim T.F_law_marked sc_law_marked rfl (by decide) fun cdv A outer s H E hr =>
  (mss_cons (ms_asg (me_var (pv 0)) (mg_unp (is := [2, 3, 4, 5, 6, 7]) (pg_tup (by rfl) (pgs_cons (pg_name (i := 2) sc_law_marked.nd rfl (Or.inl rfl)) (pgs_cons (pg_name (i := 3) sc_law_marked.nd rfl (Or.inl rfl)) (pgs_cons (pg_name (i := 4) sc_law_marked.nd rfl (Or.inl rfl)) (pgs_cons (pg_name (i := 5) sc_law_marked.nd rfl (Or.inl rfl)) (pgs_cons (pg_name (i := 6) sc_law_marked.nd rfl (Or.inl rfl)) (pgs_cons (pg_name (i := 7) sc_law_marked.nd rfl (Or.inl rfl)) pgs_nil))))))) (pg_lst (by rfl) (pgs_cons (pg_name (i := 2) sc_law_marked.nd rfl (Or.inl rfl)) (pgs_cons (pg_name (i := 3) sc_law_marked.nd rfl (Or.inl rfl)) (pgs_cons (pg_name (i := 4) sc_law_marked.nd rfl (Or.inl rfl)) (pgs_cons (pg_name (i := 5) sc_law_marked.nd rfl (Or.inl rfl)) (pgs_cons (pg_name (i := 6) sc_law_marked.nd rfl (Or.inl rfl)) (pgs_cons (pg_name (i := 7) sc_law_marked.nd rfl (Or.inl rfl)) pgs_nil)))))))) (fun a b => ps_asg a b))
    (mss_cons (ms_set (i := 8) sc_law_marked.nd rfl (Or.inl rfl) (me_var (pv 5)))
    (mss_cons (ms_if (mt_cmp (OpR.or op_eq (op_eqD hr.units)) fEq_ok (me_var (pv 5)) (me_c pe_str) (nomark _)) (mss_one (ms_set (i := 8) sc_law_marked.nd rfl (Or.inl rfl) (me_c pe_str)))
    mss_nil)
    (mss_cons (ms_if (mw_pt (mw_and (mt_cmp (OpR.or op_eq (op_eqD hr.units)) fEq_ok (me_var (pv 5)) (me_c pe_str) (nomark _)) (mw_and1 (mt_cmp (OpR.or op_ne (op_neD hr.units)) fNe_ok (me_var (pv 3)) (me_c pe_str) (nomark _))))) (mss_one (ms_set (i := 8) sc_law_marked.nd rfl (Or.inl rfl) (me_c pe_str)))
    mss_nil)
    (mss_one (ms_ret (me_tup (ma_cons (me_call (is := []) (sim_law_kind_c T) (hr.mono (by decide)) (takes_of rfl rfl rfl rfl) rfl T.m_law_kind_c T.F_law_kind_c.kp T.b_law_kind_c (ma_cons (me_var (pv 2)) (ma_cons (me_var (pv 3)) ma_nil)) (by decide) (by decide)) (ma_cons (me_c pe_str) (ma_cons (me_mv (me_var (pv 4))) (ma_cons (me_mv (me_var (pv 8))) (ma_cons (me_call (is := []) (sim_law_log T) (hr.mono (by decide)) (takes_of rfl rfl rfl rfl) rfl T.m_law_log T.F_law_log.kp T.b_law_log (ma_cons (me_var (pv 0)) (ma_cons (me_var (pv 1)) ma_nil)) (by decide) (by decide)) (ma_cons (me_c pe_str) ma_nil)))))) (by show 6 ≤ sizeLine; decide))))))))
abbrev md_law_behind : List Bool := [false, false, false]
def g_law_behind : GS := (sSeq (sAsg (gVar 0) (unpk md_law_behind [3, 4, 5, 6, 7, 8]))
    (sSeq (sSet md_law_behind 9 (gSeq (gVar 6) (fRepl "R" "o")))
    (sSeq (sIf (gSeq (gSeq (gVar 1) (gC (.str "takel"))) fEq) (sRet (gSeq (gSeq (gSeq (gVar 3) (fMv md_law_behind)) (gSeq (gSeq (gVar 4) (fMv md_law_behind)) (gSeq (gC (.str "L")) (gSeq (gSeq (gVar 6) (fMv md_law_behind)) (gSeq (gSeq (gVar 7) (fMv md_law_behind)) (gSeq (gSeq (gVar 8) (fMv md_law_behind)) gNil)))))) (fNew .tup 6))) sNil)
    (sSeq (sIf (gSeq (gSeq (gVar 1) (gC (.str "takep"))) fEq) (sRet (gSeq (gSeq (gSeq (gVar 3) (fMv md_law_behind)) (gSeq (gSeq (gVar 4) (fMv md_law_behind)) (gSeq (gC (.str "P")) (gSeq (gSeq (gVar 6) (fMv md_law_behind)) (gSeq (gSeq (gVar 7) (fMv md_law_behind)) (gSeq (gSeq (gVar 8) (fMv md_law_behind)) gNil)))))) (fNew .tup 6))) sNil)
    (sSeq (sIf (gSeq (gSeq (gVar 1) (gC (.str "change"))) fEq) (sSeq (sRet (gSeq (gSeq (gSeq (gVar 3) (fMv md_law_behind)) (gSeq (gSeq (gVar 4) (fMv md_law_behind)) (gSeq (gSeq (gVar 5) (fRepl "=" "~")) (gSeq (gSeq (gVar 9) (fMv md_law_behind)) (gSeq (gSeq (gVar 7) (fMv md_law_behind)) (gSeq (gSeq (gVar 8) (fMv md_law_behind)) gNil)))))) (fNew .tup 6)))
    sNil) sNil)
    (sSeq (sIf (gAnd (gSeq (gSeq (gVar 1) (gC (.str "free"))) fEq) (gSeq (gSeq (gSeq (gSeq (gVar 3) (gSeq (gVar 4) gNil)) (gCall [] md_law_kind_c G_law_kind_c 2)) (gC (.str "F"))) fEq)) (sRet (gSeq (gSeq (gSeq (gVar 3) (fMv md_law_behind)) (gSeq (gSeq (gVar 4) (fMv md_law_behind)) (gSeq (gC (.str "=")) (gSeq (gSeq (gVar 9) (fMv md_law_behind)) (gSeq (gSeq (gVar 7) (fMv md_law_behind)) (gSeq (gSeq (gVar 8) (fMv md_law_behind)) gNil)))))) (fNew .tup 6))) sNil)
    (sSeq (sIf (gSeq (gSeq (gVar 1) (gC (.str "free"))) fEq) (sRet (gSeq (gSeq (gSeq (gVar 3) (fMv md_law_behind)) (gSeq (gSeq (gVar 4) (fMv md_law_behind)) (gSeq (gC (.str "F")) (gSeq (gSeq (gVar 9) (fMv md_law_behind)) (gSeq (gSeq (gVar 7) (fMv md_law_behind)) (gSeq (gSeq (gVar 8) (fMv md_law_behind)) gNil)))))) (fNew .tup 6))) sNil)
    (sSeq (sIf (gSeq (gSeq (gVar 1) (gC (.str "close"))) fEq) (sSeq (sRet (gSeq (gSeq (gSeq (gVar 3) (fMv md_law_behind)) (gSeq (gSeq (gVar 5) (fMv md_law_behind)) (gSeq (gC (.str "=")) (gSeq (gSeq (gVar 6) (fRepl "R" "C")) (gSeq (gSeq (gVar 7) (fMv md_law_behind)) (gSeq (gC (.str "-")) gNil)))))) (fNew .tup 6)))
    sNil) sNil)
    (sSeq (sIf (gAnd (gSeq (gSeq (gVar 1) (gC (.str "copy"))) fEq) (gOrB (gSeq (gSeq (gC (.str "frozen")) (gVar 2)) fInA) (gSeq (gSeq (gVar 5) (gC (.str "="))) fEq))) (sRet (gSeq (gSeq (gSeq (gVar 3) (fMv md_law_behind)) (gSeq (gSeq (gVar 4) (fMv md_law_behind)) (gSeq (gSeq (gVar 5) (fMv md_law_behind)) (gSeq (gSeq (gVar 6) (fMv md_law_behind)) (gSeq (gSeq (gVar 7) (fMv md_law_behind)) (gSeq (gC (.str "+")) gNil)))))) (fNew .tup 6))) sNil)
    (sSeq (sIf (gSeq (gSeq (gVar 1) (gC (.str "copy"))) fEq) (sRet (gSeq (gSeq (gSeq (gVar 3) (fMv md_law_behind)) (gSeq (gSeq (gVar 4) (fMv md_law_behind)) (gSeq (gSeq (gVar 5) (fMv md_law_behind)) (gSeq (gSeq (gVar 6) (fMv md_law_behind)) (gSeq (gSeq (gVar 7) (fMv md_law_behind)) (gSeq (gC (.str "!")) gNil)))))) (fNew .tup 6))) sNil)
    (sSeq (sIf (gSeq (gSeq (gVar 1) (gC (.str "mark"))) fEq) (sRet (gSeq (gSeq (gVar 0) (gSeq (gVar 2) gNil)) (gCall [] md_law_marked G_law_marked 2))) sNil)
    (sSeq (sIf (gSeq (gSeq (gVar 1) (gC (.str "home"))) fEq) (sRet (gSeq (gSeq (gSeq (gVar 3) (fMv md_law_behind)) (gSeq (gSeq (gVar 4) (fMv md_law_behind)) (gSeq (gSeq (gVar 5) (fMv md_law_behind)) (gSeq (gC (.str "K")) (gSeq (gSeq (gVar 7) (fMv md_law_behind)) (gSeq (gSeq (gVar 8) (fMv md_law_behind)) gNil)))))) (fNew .tup 6))) sNil)
    (sSeq (sIf (gOrB (gSeq (gSeq (gVar 1) (gC (.str "early"))) fEq) (gAnd (gSeq (gSeq (gVar 1) (gC (.str "words"))) fEq) (gSeq (gSeq (gSeq (gSeq (gVar 3) (gSeq (gVar 4) (gSeq (gVar 5) gNil))) (gCall [] md_law_kind_r G_law_kind_r 3)) (gC (.str "P"))) fEq))) (sRet (gSeq (gSeq (gSeq (gVar 3) (fMv md_law_behind)) (gSeq (gSeq (gVar 4) (fMv md_law_behind)) (gSeq (gSeq (gVar 5) (fMv md_law_behind)) (gSeq (gSeq (gSeq (gVar 0) gNil) (gCall [] md_law_content_r G_law_content_r 1)) (gSeq (gSeq (gVar 7) (fMv md_law_behind)) (gSeq (gSeq (gVar 8) (fMv md_law_behind)) gNil)))))) (fNew .tup 6))) sNil)
    (sSeq (sIf (gSeq (gSeq (gVar 1) (gC (.str "words"))) fEq) (sRet (gSeq (gSeq (gSeq (gVar 3) (fMv md_law_behind)) (gSeq (gSeq (gVar 4) (fMv md_law_behind)) (gSeq (gSeq (gVar 5) (fMv md_law_behind)) (gSeq (gSeq (gSeq (gVar 0) gNil) (gCall [] md_law_content_c G_law_content_c 1)) (gSeq (gSeq (gVar 7) (fMv md_law_behind)) (gSeq (gSeq (gVar 8) (fMv md_law_behind)) gNil)))))) (fNew .tup 6))) sNil)
    (sSeq (sIf (gSeq (gSeq (gVar 1) (gC (.str "room"))) fEq) (sRet (gSeq (gSeq (gSeq (gVar 3) (fMv md_law_behind)) (gSeq (gSeq (gVar 4) (fMv md_law_behind)) (gSeq (gSeq (gVar 5) (fMv md_law_behind)) (gSeq (gSeq (gVar 6) (fMv md_law_behind)) (gSeq (gC (.str "-")) (gSeq (gSeq (gVar 8) (fMv md_law_behind)) gNil)))))) (fNew .tup 6))) sNil)
    (sSeq (sIf (gAnd (gSeq (gSeq (gVar 4) (gC (.str "-"))) fEq) (gSeq (gSeq (gVar 5) (gC (.str "="))) fEq)) (sRet (gVar 0)) sNil)
    (sRet (gSeq (gSeq (gC (.str "lost")) gNil) (fNew .tup 1)))))))))))))))))))
def G_law_behind : GF := runF md_law_behind 10 g_law_behind
theorem sim_law_behind (T : Txt K mg w) : FnOk P w K mg base (L2N.CX P w) 4 T.a_law_behind T.fd_law_behind ["_law_s", "_law_letter", "_law_names_here"] (spOf (kcm K (kt P w T)) md_law_behind G_law_behind) :=
  fn_simT T.F_law_behind sc_law_behind rfl (by decide) (by decide) (by decide +kernel) fun cdv A outer s H E hr =>
  (msst_cons (mst_of (ms_asg (me_var (pv 0)) (mg_unp (is := [3, 4, 5, 6, 7, 8]) (pg_tup (by rfl) (pgs_cons (pg_name (i := 3) sc_law_behind.nd rfl (Or.inl rfl)) (pgs_cons (pg_name (i := 4) sc_law_behind.nd rfl (Or.inl rfl)) (pgs_cons (pg_name (i := 5) sc_law_behind.nd rfl (Or.inl rfl)) (pgs_cons (pg_name (i := 6) sc_law_behind.nd rfl (Or.inl rfl)) (pgs_cons (pg_name (i := 7) sc_law_behind.nd rfl (Or.inl rfl)) (pgs_cons (pg_name (i := 8) sc_law_behind.nd rfl (Or.inl rfl)) pgs_nil))))))) (pg_lst (by rfl) (pgs_cons (pg_name (i := 3) sc_law_behind.nd rfl (Or.inl rfl)) (pgs_cons (pg_name (i := 4) sc_law_behind.nd rfl (Or.inl rfl)) (pgs_cons (pg_name (i := 5) sc_law_behind.nd rfl (Or.inl rfl)) (pgs_cons (pg_name (i := 6) sc_law_behind.nd rfl (Or.inl rfl)) (pgs_cons (pg_name (i := 7) sc_law_behind.nd rfl (Or.inl rfl)) (pgs_cons (pg_name (i := 8) sc_law_behind.nd rfl (Or.inl rfl)) pgs_nil)))))))) (fun a b => ps_asg a b)))
    (msst_cons (mst_set (i := 9) sc_law_behind.nd rfl (Or.inl rfl) (met_repl (me_var (pv 6)) (by decide +kernel)))
    (msst_cons (mst_of (ms_if (mt_cmp (OpR.or op_eq (op_eqD hr.units)) fEq_ok (me_var (pv 1)) (me_c pe_str) (nomark _)) (mss_one (ms_ret (me_tup (ma_cons (me_mv (me_var (pv 3))) (ma_cons (me_mv (me_var (pv 4))) (ma_cons (me_c pe_str) (ma_cons (me_mv (me_var (pv 6))) (ma_cons (me_mv (me_var (pv 7))) (ma_cons (me_mv (me_var (pv 8))) ma_nil)))))) (by show 6 ≤ sizeLine; decide))))
    mss_nil))
    (msst_cons (mst_of (ms_if (mt_cmp (OpR.or op_eq (op_eqD hr.units)) fEq_ok (me_var (pv 1)) (me_c pe_str) (nomark _)) (mss_one (ms_ret (me_tup (ma_cons (me_mv (me_var (pv 3))) (ma_cons (me_mv (me_var (pv 4))) (ma_cons (me_c pe_str) (ma_cons (me_mv (me_var (pv 6))) (ma_cons (me_mv (me_var (pv 7))) (ma_cons (me_mv (me_var (pv 8))) ma_nil)))))) (by show 6 ≤ sizeLine; decide))))
    mss_nil))
    (msst_cons (mst_if (mt_cmp (OpR.or op_eq (op_eqD hr.units)) fEq_ok (me_var (pv 1)) (me_c pe_str) (nomark _)) (msst_cons (mst_ret (met_tup (mat_cons (met_of (me_mv (me_var (pv 3)))) (mat_cons (met_of (me_mv (me_var (pv 4)))) (mat_cons (met_repl (me_var (pv 5)) (by decide +kernel)) (mat_cons (met_of (me_mv (me_var (pv 9)))) (mat_cons (met_of (me_mv (me_var (pv 7)))) (mat_cons (met_of (me_mv (me_var (pv 8)))) mat_nil)))))) (by show 6 ≤ sizeLine; decide)))
    (msst_of mss_nil))
    (msst_of mss_nil))
    (msst_cons (mst_of (ms_if (mw_pt (mw_and (mt_cmp (OpR.or op_eq (op_eqD hr.units)) fEq_ok (me_var (pv 1)) (me_c pe_str) (nomark _)) (mw_and1 (mt_cmp (OpR.or op_eq (op_eqD hr.units)) fEq_ok (me_call (is := []) (sim_law_kind_c T) (hr.mono (by decide)) (takes_of rfl rfl rfl rfl) rfl T.m_law_kind_c T.F_law_kind_c.kp T.b_law_kind_c (ma_cons (me_var (pv 3)) (ma_cons (me_var (pv 4)) ma_nil)) (by decide) (by decide)) (me_c pe_str) (nomark _))))) (mss_one (ms_ret (me_tup (ma_cons (me_mv (me_var (pv 3))) (ma_cons (me_mv (me_var (pv 4))) (ma_cons (me_c pe_str) (ma_cons (me_mv (me_var (pv 9))) (ma_cons (me_mv (me_var (pv 7))) (ma_cons (me_mv (me_var (pv 8))) ma_nil)))))) (by show 6 ≤ sizeLine; decide))))
    mss_nil))
    (msst_cons (mst_of (ms_if (mt_cmp (OpR.or op_eq (op_eqD hr.units)) fEq_ok (me_var (pv 1)) (me_c pe_str) (nomark _)) (mss_one (ms_ret (me_tup (ma_cons (me_mv (me_var (pv 3))) (ma_cons (me_mv (me_var (pv 4))) (ma_cons (me_c pe_str) (ma_cons (me_mv (me_var (pv 9))) (ma_cons (me_mv (me_var (pv 7))) (ma_cons (me_mv (me_var (pv 8))) ma_nil)))))) (by show 6 ≤ sizeLine; decide))))
    mss_nil))
    (msst_cons (mst_if (mt_cmp (OpR.or op_eq (op_eqD hr.units)) fEq_ok (me_var (pv 1)) (me_c pe_str) (nomark _)) (msst_cons (mst_ret (met_tup (mat_cons (met_of (me_mv (me_var (pv 3)))) (mat_cons (met_of (me_mv (me_var (pv 5)))) (mat_cons (met_of (me_c pe_str)) (mat_cons (met_repl (me_var (pv 6)) (by decide +kernel)) (mat_cons (met_of (me_mv (me_var (pv 7)))) (mat_cons (met_of (me_c pe_str)) mat_nil)))))) (by show 6 ≤ sizeLine; decide)))
    (msst_of mss_nil))
    (msst_of mss_nil))
    (msst_of (mss_cons (ms_if (mw_pt (mw_and (mt_cmp (OpR.or op_eq (op_eqD hr.units)) fEq_ok (me_var (pv 1)) (me_c pe_str) (nomark _)) (mw_and1 (mw_pt (mw_or (mt_cmp (op_inA hr.units) fInA_ok (me_c pe_str) (me_var (pv 2)) rfl) (mw_or1 (mt_cmp (OpR.or op_eq (op_eqD hr.units)) fEq_ok (me_var (pv 5)) (me_c pe_str) (nomark _)))))))) (mss_one (ms_ret (me_tup (ma_cons (me_mv (me_var (pv 3))) (ma_cons (me_mv (me_var (pv 4))) (ma_cons (me_mv (me_var (pv 5))) (ma_cons (me_mv (me_var (pv 6))) (ma_cons (me_mv (me_var (pv 7))) (ma_cons (me_c pe_str) ma_nil)))))) (by show 6 ≤ sizeLine; decide))))
    mss_nil)
    (mss_cons (ms_if (mt_cmp (OpR.or op_eq (op_eqD hr.units)) fEq_ok (me_var (pv 1)) (me_c pe_str) (nomark _)) (mss_one (ms_ret (me_tup (ma_cons (me_mv (me_var (pv 3))) (ma_cons (me_mv (me_var (pv 4))) (ma_cons (me_mv (me_var (pv 5))) (ma_cons (me_mv (me_var (pv 6))) (ma_cons (me_mv (me_var (pv 7))) (ma_cons (me_c pe_str) ma_nil)))))) (by show 6 ≤ sizeLine; decide))))
    mss_nil)
    (mss_cons (ms_if (mt_cmp (OpR.or op_eq (op_eqD hr.units)) fEq_ok (me_var (pv 1)) (me_c pe_str) (nomark _)) (mss_one (ms_ret (me_call (is := []) (sim_law_marked T) (hr.mono (by decide)) (takes_of rfl rfl rfl rfl) rfl T.m_law_marked T.F_law_marked.kp T.b_law_marked (ma_cons (me_var (pv 0)) (ma_cons (me_var (pv 2)) ma_nil)) (by decide) (by decide))))
    mss_nil)
    (mss_cons (ms_if (mt_cmp (OpR.or op_eq (op_eqD hr.units)) fEq_ok (me_var (pv 1)) (me_c pe_str) (nomark _)) (mss_one (ms_ret (me_tup (ma_cons (me_mv (me_var (pv 3))) (ma_cons (me_mv (me_var (pv 4))) (ma_cons (me_mv (me_var (pv 5))) (ma_cons (me_c pe_str) (ma_cons (me_mv (me_var (pv 7))) (ma_cons (me_mv (me_var (pv 8))) ma_nil)))))) (by show 6 ≤ sizeLine; decide))))
    mss_nil)
    (mss_cons (ms_if (mw_pt (mw_or (mt_cmp (OpR.or op_eq (op_eqD hr.units)) fEq_ok (me_var (pv 1)) (me_c pe_str) (nomark _)) (mw_or1 (mw_pt (mw_and (mt_cmp (OpR.or op_eq (op_eqD hr.units)) fEq_ok (me_var (pv 1)) (me_c pe_str) (nomark _)) (mw_and1 (mt_cmp (OpR.or op_eq (op_eqD hr.units)) fEq_ok (me_call (is := []) (sim_law_kind_r T) (hr.mono (by decide)) (takes_of rfl rfl rfl rfl) rfl T.m_law_kind_r T.F_law_kind_r.kp T.b_law_kind_r (ma_cons (me_var (pv 3)) (ma_cons (me_var (pv 4)) (ma_cons (me_var (pv 5)) ma_nil))) (by decide) (by decide)) (me_c pe_str) (nomark _)))))))) (mss_one (ms_ret (me_tup (ma_cons (me_mv (me_var (pv 3))) (ma_cons (me_mv (me_var (pv 4))) (ma_cons (me_mv (me_var (pv 5))) (ma_cons (me_call (is := []) (sim_law_content_r T) (hr.mono (by decide)) (takes_of rfl rfl rfl rfl) rfl T.m_law_content_r T.F_law_content_r.kp T.b_law_content_r (ma_cons (me_var (pv 0)) ma_nil) (by decide) (by decide)) (ma_cons (me_mv (me_var (pv 7))) (ma_cons (me_mv (me_var (pv 8))) ma_nil)))))) (by show 6 ≤ sizeLine; decide))))
    mss_nil)
    (mss_cons (ms_if (mt_cmp (OpR.or op_eq (op_eqD hr.units)) fEq_ok (me_var (pv 1)) (me_c pe_str) (nomark _)) (mss_one (ms_ret (me_tup (ma_cons (me_mv (me_var (pv 3))) (ma_cons (me_mv (me_var (pv 4))) (ma_cons (me_mv (me_var (pv 5))) (ma_cons (me_call (is := []) (sim_law_content_c T) (hr.mono (by decide)) (takes_of rfl rfl rfl rfl) rfl T.m_law_content_c T.F_law_content_c.kp T.b_law_content_c (ma_cons (me_var (pv 0)) ma_nil) (by decide) (by decide)) (ma_cons (me_mv (me_var (pv 7))) (ma_cons (me_mv (me_var (pv 8))) ma_nil)))))) (by show 6 ≤ sizeLine; decide))))
    mss_nil)
    (mss_cons (ms_if (mt_cmp (OpR.or op_eq (op_eqD hr.units)) fEq_ok (me_var (pv 1)) (me_c pe_str) (nomark _)) (mss_one (ms_ret (me_tup (ma_cons (me_mv (me_var (pv 3))) (ma_cons (me_mv (me_var (pv 4))) (ma_cons (me_mv (me_var (pv 5))) (ma_cons (me_mv (me_var (pv 6))) (ma_cons (me_c pe_str) (ma_cons (me_mv (me_var (pv 8))) ma_nil)))))) (by show 6 ≤ sizeLine; decide))))
    mss_nil)
    (mss_cons (ms_if (mw_pt (mw_and (mt_cmp (OpR.or op_eq (op_eqD hr.units)) fEq_ok (me_var (pv 4)) (me_c pe_str) (nomark _)) (mw_and1 (mt_cmp (OpR.or op_eq (op_eqD hr.units)) fEq_ok (me_var (pv 5)) (me_c pe_str) (nomark _))))) (mss_one (ms_ret (me_var (pv 0))))
    mss_nil)
    (mss_one (ms_ret (me_tup (ma_cons (me_c pe_str) ma_nil) (by show 1 ≤ sizeLine; decide)))))))))))))))))))))
abbrev md_law_same : List Bool := [false, false]
def b_law_same_1 : GS := (sIf (gOrB (gNot (gSeq (gSeq (gSeq (gSeq (gVar 0) (gVar 2)) fIxA) (gSeq (gC (.ty "str")) gNil)) fIsi)) (gSeq (gSeq (gSeq (gSeq (gVar 0) (gVar 2)) fIxA) (gSeq (gSeq (gVar 1) (gVar 2)) fIxA)) fNe)) (sRet (gC (.bl false))) sNil)
def g_law_same : GS := (sSeq (sIf (gOrB (gNot (gSeq (gSeq (gVar 0) (gSeq (gC (.ty "tuple")) gNil)) fIsi)) (gSeq (gSeq (gSeq (gSeq (gVar 0) gNil) fLen) (gSeq (gSeq (gVar 1) gNil) fLen)) fNe)) (sRet (gC (.bl false))) sNil)
    (sSeq (sForR1 (gSeq (gSeq (gSeq (gVar 1) gNil) fLen) gNil) (bind md_law_same 2) b_law_same_1)
    (sRet (gSeq (gSeq (gSeq (gSeq (gVar 0) gNil) (gCall [] md_is_standing G_is_standing 1)) (gC (.bl true))) fIsBV))))
def G_law_same : GF := runF md_law_same 3 g_law_same
theorem sim_law_same (T : Txt K mg w) : FnOk P w K mg base (L2N.CX P w) 3 T.a_law_same T.fd_law_same ["_law_actual", "_law_due"] (spOf (kcm K (kt P w T)) md_law_same G_law_same) :=
  fn_sim T.F_law_same sc_law_same rfl (by decide) fun cdv A outer s H E hr =>
  (mss_cons (ms_if (mw_pt (mw_or (mt_not (mt_val (me_callB (CallR.or call_isi (CallR.or call_isiT call_isiK)) fIsi_ok (by rfl) T.n_isinstance (by decide +kernel) (ma_cons (me_var (pv 0)) (ma_cons (me_c (pe_bltn (v := .ty "tuple") (u := .type "tuple") (by rfl) T.n_tuple (by decide +kernel) rfl)) ma_nil))))) (mw_or1 (mt_cmp (OpR.or op_ne (op_neD hr.units)) fNe_ok (me_callB (CallR.or call_len call_lenR) fLen_ok (by rfl) T.n_len (by decide +kernel) (ma_cons (me_var (pv 0)) ma_nil)) (me_callB (CallR.or call_len call_lenR) fLen_ok (by rfl) T.n_len (by decide +kernel) (ma_cons (me_var (pv 1)) ma_nil)) (nomark _))))) (mss_one (ms_ret (me_c pe_bl)))
    mss_nil)
    (mss_cons (ms_forR1 (ma_cons (me_callB (CallR.or call_len call_lenR) fLen_ok (by rfl) T.n_len (by decide +kernel) (ma_cons (me_var (pv 1)) ma_nil)) ma_nil) (mg_name (i := 2) sc_law_same.nd rfl (Or.inl rfl))
    (mss_one (ms_if (mw_pt (mw_or (mt_not (mt_val (me_callB (CallR.or call_isi (CallR.or call_isiT call_isiK)) fIsi_ok (by rfl) T.n_isinstance (by decide +kernel) (ma_cons (me_ixA hr.units (me_var (pv 0)) (me_var (pv 2)) (fun _ _ => rfl)) (ma_cons (me_c (pe_bltn (v := .ty "str") (u := .type "str") (by rfl) T.n_str (by decide +kernel) rfl)) ma_nil))))) (mw_or1 (mt_cmp (OpR.or op_ne (op_neD hr.units)) fNe_ok (me_ixA hr.units (me_var (pv 0)) (me_var (pv 2)) (fun _ _ => rfl)) (me_ixA hr.units (me_var (pv 1)) (me_var (pv 2)) (fun _ _ => rfl)) (nomark _))))) (mss_one (ms_ret (me_c pe_bl)))
    mss_nil)) rfl T.n_range (passes_of rfl) rfl)
    (mss_one (ms_ret (me_cmp op_isBV fIsBV_ok (me_call (is := []) (sim_is_standing T) (hr.mono (by decide)) (takes_of rfl rfl rfl rfl) rfl T.m_is_standing T.F_is_standing.kp T.b_is_standing (ma_cons (me_var (pv 0)) ma_nil) (by decide) (by decide)) (me_c pe_bl) (nomark _))))))
abbrev md_law_letter_good : List Bool := [false, false, false, false]
def g_law_letter_good : GS := (sSeq (sSet md_law_letter_good 4 (gSeq (gSeq (gVar 0) (gSeq (gVar 1) (gSeq (gVar 3) gNil))) (gCall [] md_after G_after 3)))
    (sSeq (sIf (gNot (gSeq (gSeq (gVar 0) (gSeq (gVar 1) (gSeq (gVar 2) gNil))) (gCall [] md_law_let G_law_let 3))) (sRet (gSeq (gSeq (gVar 4) (gC .non)) fIsN)) sNil)
    (sRet (gSeq (gSeq (gVar 4) (gSeq (gSeq (gSeq (gVar 0) (gSeq (gVar 1) (gSeq (gVar 2) gNil))) (gCall [] md_law_behind G_law_behind 3)) gNil)) (gCall [] md_law_same G_law_same 2)))))
def G_law_letter_good : GF := runF md_law_letter_good 5 g_law_letter_good
theorem sim_law_letter_good (T : Txt K mg w) : FnOk P w K mg base (L2N.CX P w) 6 T.a_law_letter_good T.fd_law_letter_good ["_law_s", "_law_letter", "_law_names_here", "_law_book"] (spOf (kcm K (kt P w T)) md_law_letter_good G_law_letter_good) :=
  fn_sim T.F_law_letter_good sc_law_letter_good rfl (by decide) fun cdv A outer s H E hr =>
  (mss_cons (ms_set (i := 4) sc_law_letter_good.nd rfl (Or.inl rfl) (me_call (is := []) (sim_after T) (hr.mono (by decide)) (takes_of rfl rfl rfl rfl) rfl T.m_after T.F_after.kp T.b_after (ma_cons (me_var (pv 0)) (ma_cons (me_var (pv 1)) (ma_cons (me_var (pv 3)) ma_nil))) (by decide) (by decide)))
    (mss_cons (ms_if (mt_not (mt_val (me_call (is := []) (sim_law_let T) (hr.mono (by decide)) (takes_of rfl rfl rfl rfl) rfl T.m_law_let T.F_law_let.kp T.b_law_let (ma_cons (me_var (pv 0)) (ma_cons (me_var (pv 1)) (ma_cons (me_var (pv 2)) ma_nil))) (by decide) (by decide)))) (mss_one (ms_ret (me_cmp op_isN fIsN_ok (me_var (pv 4)) (me_c pe_non) (nomark _))))
    mss_nil)
    (mss_one (ms_ret (me_call (is := []) (sim_law_same T) (hr.mono (by decide)) (takes_of rfl rfl rfl rfl) rfl T.m_law_same T.F_law_same.kp T.b_law_same (ma_cons (me_var (pv 4)) (ma_cons (me_call (is := []) (sim_law_behind T) (hr.mono (by decide)) (takes_of rfl rfl rfl rfl) rfl T.m_law_behind T.F_law_behind.kp T.b_law_behind (ma_cons (me_var (pv 0)) (ma_cons (me_var (pv 1)) (ma_cons (me_var (pv 2)) ma_nil))) (by decide) (by decide)) ma_nil)) (by decide) (by decide))))))
abbrev md_law_raises : List Bool := [false, false, false]
def g_law_raises : GS := (sSeq (sTry md_law_raises 3 [(0, true)] (sExpr (gSeq (gSeq (gVar 0) (gSeq (gVar 1) (gSeq (gVar 2) gNil))) (gCall [] md_after G_after 3))) (suC 0 (fun a => (sRet (gAnd (gIsE 3 a true) (gNot (gIsE 3 a false))))) suN))
    (sRet (gC (.bl false))))
def G_law_raises : GF := runF md_law_raises 4 g_law_raises
theorem sim_law_raises (T : Txt K mg w) : FnOk P w K mg base (L2N.CX P w) 6 T.a_law_raises T.fd_law_raises ["_law_s", "_law_letter", "_law_book"] (spOf (kcm K (kt P w T)) md_law_raises G_law_raises) :=
  fn_sim T.F_law_raises sc_law_raises rfl (by decide) fun cdv A outer s H E hr =>
  (mss_cons (ms_try (i := 3) rfl rfl sc_law_raises.nd rfl rfl ⟨rfl, by decide, .inl T.g_StoreError⟩ (takes_of rfl rfl rfl rfl) (fun W pn xe tk po => (mss_one (ms_expr (me_call (is := []) (sim_after T) (hr.mono (by decide)) tk rfl T.m_after T.F_after.kp T.b_after (ma_cons (me_var (pv 0)) (ma_cons (me_var (pv 1)) (ma_cons (me_var (pv 2)) ma_nil))) (by decide) (by decide))))) (su_T (k := 0) T.m_BadValue_StoreError (fun a oe pn hz hf => (mss_one (ms_ret (me_and (me_isE T.is_BadValue hz hf T.i_BadValue_BadValue (by rfl) T.n_isinstance (by decide +kernel) (pv 3) (pe_glob (v := .ref T.e_BadValue) rfl T.g_BadValue rfl)) (me_one (me_not (me_isE T.is_BadValue hz hf T.i_BadValue_BadText (by rfl) T.n_isinstance (by decide +kernel) (pv 3) (pe_glob (v := .ref T.e_BadText) rfl T.g_BadText rfl)))))))) su_nil))
    (mss_one (ms_ret (me_c pe_bl))))
abbrev md_law_spoilt : List Bool := [false]
def g_law_spoilt : GS := (sSeq (sAsg (gVar 0) (unpk md_law_spoilt [1, 2, 3, 4, 5, 6]))
    (sSeq (sSet md_law_spoilt 7 (gSeq (gSeq (gSeq (gSeq (gSeq (gVar 0) gNoP) (gSeq (gC (.int 5)) chkInt)) (fSl false true)) (gSeq (gSeq (gSeq (gVar 0) (gSeq (gSeq (gC (.str "-")) gNil) (fNew .tup 1))) fCatT) (gSeq (gSeq gNil (fNew .tup 0)) (gSeq (gSeq (gSeq (gC (.str "lost")) (gSeq (gC (.str "-")) gNil)) (fNew .tup 2)) (gSeq (gSeq (gSeq (gC (.str "L")) (gSeq (gC (.str "-")) (gSeq (gC (.str "=")) (gSeq (gC (.str "K")) (gSeq (gC (.str "-")) (gSeq (gC (.str "x")) gNil)))))) (fNew .tup 6)) (gSeq (gSeq (gSeq (gC (.str "X")) (gSeq (gC (.str "-")) (gSeq (gC (.str "=")) (gSeq (gC (.str "o")) (gSeq (gC (.str "-")) (gSeq (gC (.str "-")) gNil)))))) (fNew .tup 6)) gNil)))))) (fNew .lst 6)))
    (sSeq (sExpr (gSeq (gVar 7) (gSeq chkL (gSeq (gSeq (gSeq (gSeq (gSeq (gSeq (gC (.str "P")) (gSeq (gC (.str "~")) (gSeq (gC (.str "=")) (gSeq (gC (.str "o")) (gSeq (gC (.str "-")) (gSeq (gC (.str "-")) gNil)))))) (fNew .tup 6)) (gSeq (gSeq (gSeq (gC (.str "F")) (gSeq (gC (.str "F")) (gSeq (gSeq (gVar 3) (fMv md_law_spoilt)) (gSeq (gC (.str "o")) (gSeq (gC (.str "-")) (gSeq (gC (.str "-")) gNil)))))) (fNew .tup 6)) (gSeq (gSeq (gSeq (gC (.str "F")) (gSeq (gC (.str "-")) (gSeq (gC (.str "F")) (gSeq (gC (.str "o")) (gSeq (gC (.str "-")) (gSeq (gC (.str "-")) gNil)))))) (fNew .tup 6)) gNil))) (fNew .lst 3)) gNil) fExt))))
    (sSeq (sExpr (gSeq (gVar 7) (gSeq chkL (gSeq (gSeq (gSeq (gSeq (gSeq (gSeq (gC (.str "F")) (gSeq (gC (.str "-")) (gSeq (gSeq (gVar 3) (fMv md_law_spoilt)) (gSeq (gC (.str "K")) (gSeq (gC (.str "-")) (gSeq (gC (.str "-")) gNil)))))) (fNew .tup 6)) (gSeq (gSeq (gSeq (gSeq (gVar 1) (fMv md_law_spoilt)) (gSeq (gC (.str "-")) (gSeq (gC (.str "=")) (gSeq (gC (.str "C")) (gSeq (gC (.str "-")) (gSeq (gC (.str "-")) gNil)))))) (fNew .tup 6)) (gSeq (gSeq (gSeq (gSeq (gVar 1) (fMv md_law_spoilt)) (gSeq (gC (.str "=")) (gSeq (gC (.str "=")) (gSeq (gC (.str "R")) (gSeq (gC (.str "-")) (gSeq (gC (.str "-")) gNil)))))) (fNew .tup 6)) gNil))) (fNew .lst 3)) gNil) fExt))))
    (sSeq (sExpr (gSeq (gVar 7) (gSeq chkL (gSeq (gSeq (gSeq (gSeq (gSeq (gSeq (gC (.str "F")) (gSeq (gC (.str "-")) (gSeq (gC (.str "=")) (gSeq (gC (.str "o")) (gSeq (gC (.str "K")) (gSeq (gC (.str "-")) gNil)))))) (fNew .tup 6)) (gSeq (gSeq (gSeq (gC (.str "P")) (gSeq (gC (.str "-")) (gSeq (gC (.str "=")) (gSeq (gC (.str "K")) (gSeq (gC (.str "K")) (gSeq (gC (.str "-")) gNil)))))) (fNew .tup 6)) (gSeq (gSeq (gSeq (gSeq (gVar 1) (fMv md_law_spoilt)) (gSeq (gC (.str "=")) (gSeq (gC (.str "=")) (gSeq (gSeq (gVar 4) (fMv md_law_spoilt)) (gSeq (gSeq (gVar 5) (fMv md_law_spoilt)) (gSeq (gC (.str "+")) gNil)))))) (fNew .tup 6)) gNil))) (fNew .lst 3)) gNil) fExt))))
    (sSeq (sExpr (gSeq (gVar 7) (gSeq chkL (gSeq (gSeq (gSeq (gSeq (gSeq (gSeq (gC (.str "P")) (gSeq (gC (.str "=")) (gSeq (gC (.str "~")) (gSeq (gC (.str "o")) (gSeq (gC (.str "-")) (gSeq (gC (.str "-")) gNil)))))) (fNew .tup 6)) (gSeq (gSeq (gSeq (gC (.str "L")) (gSeq (gC (.str "F")) (gSeq (gC (.str "F")) (gSeq (gC (.str "o")) (gSeq (gC (.str "-")) (gSeq (gC (.str "-")) gNil)))))) (fNew .tup 6)) (gSeq (gSeq (gSeq (gSeq (gVar 1) (fMv md_law_spoilt)) (gSeq (gC (.str "-")) (gSeq (gC (.str "=")) (gSeq (gC (.str "o")) (gSeq (gC (.str "-")) (gSeq (gC (.str "!")) gNil)))))) (fNew .tup 6)) gNil))) (fNew .lst 3)) gNil) fExt))))
    (sRet (gSeq (gVar 7) (fMv md_law_spoilt)))))))))
def G_law_spoilt : GF := runF md_law_spoilt 8 g_law_spoilt
theorem sim_law_spoilt (T : Txt K mg w) : FnOk P w K mg base (L2N.CX P w) 1 T.a_law_spoilt T.fd_law_spoilt ["_law_s"] (spOf (kcm K (kt P w T)) md_law_spoilt G_law_spoilt) :=
  fn_sim T.F_law_spoilt sc_law_spoilt rfl (by decide) fun cdv A outer s H E hr =>
  (mss_cons (ms_asg (me_var (pv 0)) (mg_unp (is := [1, 2, 3, 4, 5, 6]) (pg_tup (by rfl) (pgs_cons (pg_name (i := 1) sc_law_spoilt.nd rfl (Or.inl rfl)) (pgs_cons (pg_name (i := 2) sc_law_spoilt.nd rfl (Or.inl rfl)) (pgs_cons (pg_name (i := 3) sc_law_spoilt.nd rfl (Or.inl rfl)) (pgs_cons (pg_name (i := 4) sc_law_spoilt.nd rfl (Or.inl rfl)) (pgs_cons (pg_name (i := 5) sc_law_spoilt.nd rfl (Or.inl rfl)) (pgs_cons (pg_name (i := 6) sc_law_spoilt.nd rfl (Or.inl rfl)) pgs_nil))))))) (pg_lst (by rfl) (pgs_cons (pg_name (i := 1) sc_law_spoilt.nd rfl (Or.inl rfl)) (pgs_cons (pg_name (i := 2) sc_law_spoilt.nd rfl (Or.inl rfl)) (pgs_cons (pg_name (i := 3) sc_law_spoilt.nd rfl (Or.inl rfl)) (pgs_cons (pg_name (i := 4) sc_law_spoilt.nd rfl (Or.inl rfl)) (pgs_cons (pg_name (i := 5) sc_law_spoilt.nd rfl (Or.inl rfl)) (pgs_cons (pg_name (i := 6) sc_law_spoilt.nd rfl (Or.inl rfl)) pgs_nil)))))))) (fun a b => ps_asg a b))
    (mss_cons (ms_set (i := 7) sc_law_spoilt.nd rfl (Or.inl rfl) (me_lst (ma_cons (me_sl (me_var (pv 0)) mo_none (mo_some (me_c pe_int))) (ma_cons (me_catT (me_var (pv 0)) (me_tup (ma_cons (me_c pe_str) ma_nil) (by show 1 ≤ sizeLine; decide))) (ma_cons (me_tup ma_nil (by show 0 ≤ sizeLine; decide)) (ma_cons (me_tup (ma_cons (me_c pe_str) (ma_cons (me_c pe_str) ma_nil)) (by show 2 ≤ sizeLine; decide)) (ma_cons (me_tup (ma_cons (me_c pe_str) (ma_cons (me_c pe_str) (ma_cons (me_c pe_str) (ma_cons (me_c pe_str) (ma_cons (me_c pe_str) (ma_cons (me_c pe_str) ma_nil)))))) (by show 6 ≤ sizeLine; decide)) (ma_cons (me_tup (ma_cons (me_c pe_str) (ma_cons (me_c pe_str) (ma_cons (me_c pe_str) (ma_cons (me_c pe_str) (ma_cons (me_c pe_str) (ma_cons (me_c pe_str) ma_nil)))))) (by show 6 ≤ sizeLine; decide)) ma_nil)))))) (by show 6 ≤ sizeLine; decide)))
    (mss_cons (ms_expr (me_bm (me_var (pv 7)) (ma_cons (me_lst (ma_cons (me_tup (ma_cons (me_c pe_str) (ma_cons (me_c pe_str) (ma_cons (me_c pe_str) (ma_cons (me_c pe_str) (ma_cons (me_c pe_str) (ma_cons (me_c pe_str) ma_nil)))))) (by show 6 ≤ sizeLine; decide)) (ma_cons (me_tup (ma_cons (me_c pe_str) (ma_cons (me_c pe_str) (ma_cons (me_mv (me_var (pv 3))) (ma_cons (me_c pe_str) (ma_cons (me_c pe_str) (ma_cons (me_c pe_str) ma_nil)))))) (by show 6 ≤ sizeLine; decide)) (ma_cons (me_tup (ma_cons (me_c pe_str) (ma_cons (me_c pe_str) (ma_cons (me_c pe_str) (ma_cons (me_c pe_str) (ma_cons (me_c pe_str) (ma_cons (me_c pe_str) ma_nil)))))) (by show 6 ≤ sizeLine; decide)) ma_nil))) (by show 3 ≤ sizeLine; decide)) ma_nil) fExt_ok (fun a b => pe_bm PySem.F.plainAttrs_list PySem.F.slot_list_extend PySem.F.type_list_extend mt_extend a b)))
    (mss_cons (ms_expr (me_bm (me_var (pv 7)) (ma_cons (me_lst (ma_cons (me_tup (ma_cons (me_c pe_str) (ma_cons (me_c pe_str) (ma_cons (me_mv (me_var (pv 3))) (ma_cons (me_c pe_str) (ma_cons (me_c pe_str) (ma_cons (me_c pe_str) ma_nil)))))) (by show 6 ≤ sizeLine; decide)) (ma_cons (me_tup (ma_cons (me_mv (me_var (pv 1))) (ma_cons (me_c pe_str) (ma_cons (me_c pe_str) (ma_cons (me_c pe_str) (ma_cons (me_c pe_str) (ma_cons (me_c pe_str) ma_nil)))))) (by show 6 ≤ sizeLine; decide)) (ma_cons (me_tup (ma_cons (me_mv (me_var (pv 1))) (ma_cons (me_c pe_str) (ma_cons (me_c pe_str) (ma_cons (me_c pe_str) (ma_cons (me_c pe_str) (ma_cons (me_c pe_str) ma_nil)))))) (by show 6 ≤ sizeLine; decide)) ma_nil))) (by show 3 ≤ sizeLine; decide)) ma_nil) fExt_ok (fun a b => pe_bm PySem.F.plainAttrs_list PySem.F.slot_list_extend PySem.F.type_list_extend mt_extend a b)))
    (mss_cons (ms_expr (me_bm (me_var (pv 7)) (ma_cons (me_lst (ma_cons (me_tup (ma_cons (me_c pe_str) (ma_cons (me_c pe_str) (ma_cons (me_c pe_str) (ma_cons (me_c pe_str) (ma_cons (me_c pe_str) (ma_cons (me_c pe_str) ma_nil)))))) (by show 6 ≤ sizeLine; decide)) (ma_cons (me_tup (ma_cons (me_c pe_str) (ma_cons (me_c pe_str) (ma_cons (me_c pe_str) (ma_cons (me_c pe_str) (ma_cons (me_c pe_str) (ma_cons (me_c pe_str) ma_nil)))))) (by show 6 ≤ sizeLine; decide)) (ma_cons (me_tup (ma_cons (me_mv (me_var (pv 1))) (ma_cons (me_c pe_str) (ma_cons (me_c pe_str) (ma_cons (me_mv (me_var (pv 4))) (ma_cons (me_mv (me_var (pv 5))) (ma_cons (me_c pe_str) ma_nil)))))) (by show 6 ≤ sizeLine; decide)) ma_nil))) (by show 3 ≤ sizeLine; decide)) ma_nil) fExt_ok (fun a b => pe_bm PySem.F.plainAttrs_list PySem.F.slot_list_extend PySem.F.type_list_extend mt_extend a b)))
    (mss_cons (ms_expr (me_bm (me_var (pv 7)) (ma_cons (me_lst (ma_cons (me_tup (ma_cons (me_c pe_str) (ma_cons (me_c pe_str) (ma_cons (me_c pe_str) (ma_cons (me_c pe_str) (ma_cons (me_c pe_str) (ma_cons (me_c pe_str) ma_nil)))))) (by show 6 ≤ sizeLine; decide)) (ma_cons (me_tup (ma_cons (me_c pe_str) (ma_cons (me_c pe_str) (ma_cons (me_c pe_str) (ma_cons (me_c pe_str) (ma_cons (me_c pe_str) (ma_cons (me_c pe_str) ma_nil)))))) (by show 6 ≤ sizeLine; decide)) (ma_cons (me_tup (ma_cons (me_mv (me_var (pv 1))) (ma_cons (me_c pe_str) (ma_cons (me_c pe_str) (ma_cons (me_c pe_str) (ma_cons (me_c pe_str) (ma_cons (me_c pe_str) ma_nil)))))) (by show 6 ≤ sizeLine; decide)) ma_nil))) (by show 3 ≤ sizeLine; decide)) ma_nil) fExt_ok (fun a b => pe_bm PySem.F.plainAttrs_list PySem.F.slot_list_extend PySem.F.type_list_extend mt_extend a b)))
    (mss_one (ms_ret (me_mv (me_var (pv 7)))))))))))
abbrev md_Book_init : List Bool := [true, false]
def b_Book_init_1 : GS := (sIf (gSeq (gSeq (gVar 2) (gSeq (gVar 0) (fCon tabc_RULES))) fNotInA) (sRaise 0) sNil)
def b_Book_init_2 : GS := (sSeq (sIf (gSeq (gSeq (gVar 2) (gVar 1)) fInA) (sSeq (sExpr (gSeq (gVar 3) (gSeq chkL (gSeq (gSeq (gVar 2) gNil) fApp))))
    (sSet md_Book_init 4 (gSeq (gSeq (gVar 4) (gVar 5)) fAdd))) sNil)
    (sSet md_Book_init 5 (gSeq (gSeq (gVar 5) (gC (.int 2))) fMul)))
def g_Book_init : GS := (sSeq (sFor (gVar 1) (bind md_Book_init 2) b_Book_init_1)
    (sSeq (sSet md_Book_init 3 (gSeq gNil (fNew .lst 0)))
    (sSeq (sSet md_Book_init 4 (gC (.int 0)))
    (sSeq (sSet md_Book_init 5 (gC (.int 1)))
    (sSeq (sFor (gSeq (gVar 0) (fCon tabc_RULES)) (bind md_Book_init 2) b_Book_init_2)
    (sSeq (sFldS tab_names (gSeq (gSeq (gVar 3) gNil) fTup) (gVar 0))
    (sFldS tab_number (gSeq (gVar 4) (fMv md_Book_init)) (gVar 0))))))))
def G_Book_init : GF := runF md_Book_init 6 g_Book_init
theorem sim_Book_init (T : Txt K mg w) : FnOk P w K mg base (L2N.CX P w) 1 T.a_Book_init T.fd_Book_init ["self", "names"] (spOf (kcm K (kt P w T)) md_Book_init G_Book_init) :=
  fn_sim T.F_Book_init sc_Book_init rfl (by decide) fun cdv A outer s H E hr =>
  (mss_cons (ms_for (me_var (pv 1)) (mg_name (i := 2) sc_Book_init.nd rfl (Or.inl rfl))
    (mss_one (ms_if (mt_cmp (op_notInA hr.units) fNotInA_ok (me_var (pv 2)) (me_iCon (me_var (pv 0)) (ct_RULES T)) rfl) (mss_one (ms_raise (n := 0) rfl (takes_of rfl rfl rfl rfl) (pmk_own PySem.F.excBase_ValueError T.x_BadValue T.g_BadValue T.k_BadValue (raises_own T.sb_BadValue T.ty_BadValue) rfl)))
    mss_nil)) (passes_of rfl) rfl)
    (mss_cons (ms_set (i := 3) sc_Book_init.nd rfl (Or.inl rfl) (me_lst ma_nil (by show 0 ≤ sizeLine; decide)))
    (mss_cons (ms_set (i := 4) sc_Book_init.nd rfl (Or.inl rfl) (me_c pe_int))
    (mss_cons (ms_set (i := 5) sc_Book_init.nd rfl (Or.inl rfl) (me_c pe_int))
    (mss_cons (ms_for (me_iCon (me_var (pv 0)) (ct_RULES T)) (mg_name (i := 2) sc_Book_init.nd rfl (Or.inl rfl))
    (mss_cons (ms_if (mt_cmp (op_inA hr.units) fInA_ok (me_var (pv 2)) (me_var (pv 1)) rfl) (mss_cons (ms_expr (me_bm (me_var (pv 3)) (ma_cons (me_var (pv 2)) ma_nil) fApp_ok (fun a b => pe_bm PySem.F.plainAttrs_list PySem.F.slot_list_append PySem.F.type_list_append mt_append a b)))
    (mss_one (ms_set (i := 4) sc_Book_init.nd rfl (Or.inl rfl) (me_add (me_var (pv 4)) (me_var (pv 5))))))
    mss_nil)
    (mss_one (ms_set (i := 5) sc_Book_init.nd rfl (Or.inl rfl) (me_mul (me_var (pv 5)) (me_c pe_int))))) (passes_of rfl) rfl)
    (mss_cons (ms_fld (me_callTy call_tuple_of fTup_ok (by rfl) T.n_tuple (by decide +kernel) (ma_cons (me_var (pv 3)) ma_nil)) (me_var (pv 0)) (fo_names T))
    (mss_one (ms_fld (me_mv (me_var (pv 4))) (me_var (pv 0)) (fo_number T)))))))))
abbrev md_Book_of_number : List Bool := [false]
def b_Book_of_number_1 : GS := (sSeq (sIf (gSeq (gSeq (gSeq (gSeq (gVar 2) (gC (.int 2))) fMod) (gC (.int 1))) fEq) (sExpr (gSeq (gVar 1) (gSeq chkL (gSeq (gSeq (gVar 3) gNil) fApp)))) sNil)
    (sSet md_Book_of_number 2 (gSeq (gSeq (gVar 2) (gC (.int 2))) fDiv)))
def g_Book_of_number : GS := (sSeq (sIf (gNot (gChain (gC (.int 0)) (gVar 0) fLe (gC (.int 4096)) fLt)) (sRaise 0) sNil)
    (sSeq (sSet md_Book_of_number 1 (gSeq gNil (fNew .lst 0)))
    (sSeq (sSet md_Book_of_number 2 (gVar 0))
    (sSeq (sFor (gCon (.nd .tup .frz [(.a (.str "copies")), (.a (.str "mark")), (.a (.str "words")), (.a (.str "reuse")), (.a (.str "late")), (.a (.str "revoke")), (.a (.str "lapse")), (.a (.str "shelve")), (.a (.str "frozen")), (.a (.str "wait")), (.a (.str "room")), (.a (.str "told"))])) (bind md_Book_of_number 3) b_Book_of_number_1)
    (sRet (gSeq (gSeq (gSeq (gVar 1) gNil) (noEx (gMake 0 (md_Book_init).tail G_Book_init 1))) fFrz))))))
def G_Book_of_number : GF := runF md_Book_of_number 4 g_Book_of_number
theorem sim_Book_of_number (T : Txt K mg w) : FnOk P w K mg base (L2N.CX P w) 3 T.a_Book_of_number T.fd_Book_of_number ["number"] (spOf (kcm K (kt P w T)) md_Book_of_number G_Book_of_number) :=
  fn_sim T.F_Book_of_number sc_Book_of_number rfl (by decide) fun cdv A outer s H E hr =>
  (mss_cons (ms_if (mt_not (mt_chain (me_c pe_int) (me_var (pv 0)) fI_ok0 (me_c pe_int) fI_ok0 (fun a b c => pt_chain op_le op_lt a b c))) (mss_one (ms_raise (n := 0) rfl (takes_of rfl rfl rfl rfl) (pmk_own PySem.F.excBase_ValueError T.x_BadValue T.g_BadValue T.k_BadValue (raises_own T.sb_BadValue T.ty_BadValue) rfl)))
    mss_nil)
    (mss_cons (ms_set (i := 1) sc_Book_of_number.nd rfl (Or.inl rfl) (me_lst ma_nil (by show 0 ≤ sizeLine; decide)))
    (mss_cons (ms_set (i := 2) sc_Book_of_number.nd rfl (Or.inl rfl) (me_var (pv 0)))
    (mss_cons (ms_for (me_cvalT (pe_glob (v := .ref T.c_Book) rfl T.g_Book rfl) T.r_Book T.k_Book_RULES (con_tup T.w_Book_RULES (con_cons con_a (con_cons con_a (con_cons con_a (con_cons con_a (con_cons con_a (con_cons con_a (con_cons con_a (con_cons con_a (con_cons con_a (con_cons con_a (con_cons con_a (con_cons con_a con_nil)))))))))))))) (mg_name (i := 3) sc_Book_of_number.nd rfl (Or.inl rfl))
    (mss_cons (ms_if (mt_cmp (OpR.or op_eq (op_eqD hr.units)) fEq_ok (me_mod (me_var (pv 2)) (me_c pe_int)) (me_c pe_int) (nomark _)) (mss_one (ms_expr (me_bm (me_var (pv 1)) (ma_cons (me_var (pv 3)) ma_nil) fApp_ok (fun a b => pe_bm PySem.F.plainAttrs_list PySem.F.slot_list_append PySem.F.type_list_append mt_append a b))))
    mss_nil)
    (mss_one (ms_set (i := 2) sc_Book_of_number.nd rfl (Or.inl rfl) (me_div (me_var (pv 2)) (me_c pe_int))))) (passes_of rfl) rfl)
    (mss_one (ms_ret (me_frz (me_make (n := 0) T.m_Book_init (sim_Book_init T) (hr.mono (by decide)) rfl T.g_Book T.b_Book_init (ma_cons (me_var (pv 1)) ma_nil)))))))))
abbrev md_law : List Bool := [false]
def b_law_1 : GS := (sIf (gOrB (gNot (gSeq (gSeq (gVar 3) (gSeq (gVar 6) (gSeq (gVar 4) (gSeq (gVar 5) gNil)))) (gCall [] md_law_letter_good G_law_letter_good 4))) (gSeq (gSeq (gSeq (gSeq (gCon (.nd .tup .frz [(.a (.str "lost"))])) (gSeq (gVar 6) (gSeq (gVar 5) gNil))) (gCall [] md_after G_after 3)) (gC .non)) fNotN)) (sRet (gC (.bl false))) sNil)
def t_law_1 : GE := (gSeq (gSeq (gVar 3) (gSeq (gVar 6) (gSeq (gVar 4) gNil))) (gCall [] md_law_let G_law_let 3))
def e_law_1 : GE := (gVar 6)
def b_law_2 : GS := (sIf (gOrB (gNot (gSeq (gSeq (gVar 3) (gSeq (gVar 6) (gSeq (gVar 5) gNil))) (gCall [] md_law_raises G_law_raises 3))) (gNot (gSeq (gSeq (gCon (.nd .tup .frz [(.a (.str "lost"))])) (gSeq (gVar 6) (gSeq (gVar 5) gNil))) (gCall [] md_law_raises G_law_raises 3)))) (sRet (gC (.bl false))) sNil)
def b_law_3 : GS := (sIf (gSeq (gSeq (gSeq (gSeq (gVar 8) gNil) (gCall [] md_is_standing G_is_standing 1)) (gC (.bl false))) fNotBV) (sRet (gC (.bl false))) sNil)
def g_law : GS := (sSeq (sSet md_law 2 (gSeq (gSeq (gSeq (gSeq (gVar 1) (gSeq (gC (.int 64)) gNil)) (gCall [0] md_law_pick G_law_pick 2)) (gSeq (gSeq (gC (.int 64)) (gSeq (gSeq (gVar 1) (gSeq (gC (.int 64)) gNil)) (gCall [0] md_law_pick G_law_pick 2))) fMul)) fAdd))
    (sSeq (sSet md_law 3 (gSeq (gSeq (gVar 1) gNil) (gCall [0] md_law_drawn G_law_drawn 1)))
    (sSeq (sSet md_law 4 (gSeq (gSeq (gVar 2) gNil) (gCall [] md_law_names G_law_names 1)))
    (sSeq (sSet md_law 5 (gSeq (gSeq (gVar 2) gNil) (noEx (gCall [] md_Book_of_number G_Book_of_number 1))))
    (sSeq (sIf (gOrB (gSeq (gSeq (gSeq (gSeq (gCon (.nd .tup .frz [(.a (.str "takel")), (.a (.str "takep")), (.a (.str "change")), (.a (.str "free")), (.a (.str "close")), (.a (.str "copy")), (.a (.str "mark")), (.a (.str "home")), (.a (.str "early")), (.a (.str "words")), (.a (.str "room")), (.a (.str "told"))])) gNil) fLst) (noEx (gCall [] md_law_letters G_law_letters 0))) fNe) (gOrB (gSeq (gSeq (gCon (.nd .tup .frz [(.a (.str "lost"))])) (gSeq (gSeq (gC (.str "lost")) gNil) (fNew .tup 1))) fNe) (gOrB (gSeq (gSeq (gSeq (gSeq (gVar 3) gNil) (gCall [] md_is_standing G_is_standing 1)) (gC (.bl true))) fNotBV) (gSeq (gSeq (gSeq (gSeq (gCon (.nd .tup .frz [(.a (.str "lost"))])) gNil) (gCall [] md_is_standing G_is_standing 1)) (gC (.bl true))) fNotBV)))) (sRet (gC (.bl false))) sNil)
    (sSeq (sIf (gOrB (gSeq (gSeq (gSeq (gSeq (gVar 3) gNil) (gCall [] md_kind_c G_kind_c 1)) (gSeq (gSeq (gSeq (gSeq (gVar 3) (gC (.int 0))) fIxA) (gSeq (gSeq (gSeq (gVar 3) (gC (.int 1))) fIxA) gNil)) (gCall [] md_law_kind_c G_law_kind_c 2))) fNe) (gSeq (gSeq (gSeq (gSeq (gVar 3) gNil) (gCall [] md_kind_r G_kind_r 1)) (gSeq (gSeq (gSeq (gSeq (gVar 3) (gC (.int 0))) fIxA) (gSeq (gSeq (gSeq (gVar 3) (gC (.int 1))) fIxA) (gSeq (gSeq (gSeq (gVar 3) (gC (.int 2))) fIxA) gNil))) (gCall [] md_law_kind_r G_law_kind_r 3))) fNe)) (sRet (gC (.bl false))) sNil)
    (sSeq (sIf (gOrB (gSeq (gSeq (gSeq (gSeq (gVar 3) gNil) (gCall [] md_content_c G_content_c 1)) (gSeq (gSeq (gVar 3) gNil) (gCall [] md_law_content_c G_law_content_c 1))) fNe) (gSeq (gSeq (gSeq (gSeq (gVar 3) gNil) (gCall [] md_content_r G_content_r 1)) (gSeq (gSeq (gVar 3) gNil) (gCall [] md_law_content_r G_law_content_r 1))) fNe)) (sRet (gC (.bl false))) sNil)
    (sSeq (sIf (gOrB (gAnd (gSeq (gSeq (gSeq (gSeq (gVar 3) gNil) (gCall [] md_is_due G_is_due 1)) (gC (.bl true))) fNotBV) (gSeq (gSeq (gSeq (gSeq (gVar 3) gNil) (gCall [] md_is_due G_is_due 1)) (gC (.bl false))) fNotBV)) (gSeq (gSeq (gSeq (gSeq (gVar 3) gNil) (gCall [] md_is_due G_is_due 1)) (gOrB (gSeq (gSeq (gSeq (gSeq (gVar 3) (gC (.int 1))) fIxA) (gC (.str "~"))) fEq) (gSeq (gSeq (gSeq (gSeq (gVar 3) (gC (.int 1))) fIxA) (gC (.str "L"))) fEq))) fNe)) (sRet (gC (.bl false))) sNil)
    (sSeq (sFor (noEx (gCall [] md_law_letters G_law_letters 0)) (bind md_law 6) b_law_1)
    (sSeq (sSet md_law 7 (gSeq (gSeq (gVar 3) (gSeq (gVar 5) gNil)) (gCall [] md_let_letters G_let_letters 2)))
    (sSeq (sIf (gOrB (gNot (gSeq (gSeq (gVar 7) (gSeq (gC (.ty "list")) gNil)) fIsi)) (gSeq (gSeq (gVar 7) (gClr 6 (gLc [6] (noEx (gCall [] md_law_letters G_law_letters 0)) (bind md_law 6) t_law_1 e_law_1))) fNe)) (sRet (gC (.bl false))) sNil)
    (sSeq (sFor (gSeq (gSeq (gC (.str "")) (gSeq (gC (.str "takes")) (gSeq (gC (.str "Close")) (gSeq (gC (.str "close ")) (gSeq (gC (.str "lost")) (gSeq (gC (.str "copies")) (gSeq (gC (.str "take")) gNil))))))) (fNew .lst 7)) (bind md_law 6) b_law_2)
    (sSeq (sFor (gSeq (gSeq (gVar 3) gNil) (gCall [] md_law_spoilt G_law_spoilt 1)) (bind md_law 8) b_law_3)
    (sRet (gC (.bl true))))))))))))))))
/-! the drawn row, and what is drawn of it -/
def Feed (fs : List Int) : Prop := fs.length ≤ 5000 ∧ ∀ x ∈ fs, 0 ≤ x ∧ x < 1000000
theorem Feed.tail {x : Int} {fs : List Int} (h : Feed (x :: fs)) : Feed fs := ⟨by have := h.1; simp at this; omega, fun y hy => h.2 y (List.mem_cons_of_mem _ hy)⟩
def sp_law_feed (K : PySem.W.Frag) : Sp := fun vs H Q _ => ∃ (a : Addr) (ns : List Int), vs = [.ref a] ∧ SqL K H a (ns.map V.int) ∧ ns.length ≤ 63 ∧
  ∀ H' p fs, Fr [] H H' → H p = none → H' p = some (.lst (fs.map V.int)) → Feed fs → Q (.ref p) H'
theorem mem_app1 {P : Int → Prop} {fs : List Int} {y : Int} (h : ∀ x ∈ fs, P x) (hy : P y) : ∀ x ∈ fs ++ [y], P x := fun x hx => by
  rcases List.mem_append.mp hx with q | q
  · exact h x q
  · rw [List.mem_singleton.mp q]
    exact hy
theorem map_app1 {fs : List Int} {y : Int} : fs.map V.int ++ [V.int y] = (fs ++ [y]).map V.int := by simp
theorem ok_law_feed (T : Txt K mg w) : FnOk P w K mg base CX0 1 T.a_law_feed T.fd_law_feed ["_law_script"] (sp_law_feed K) := by
  refine T.F_law_feed.ok sc_law_feed (fun vs H Q E h => ?_) (fun cdv A outer s H vs Q E hr h => ?_)
  · obtain ⟨a, ns, rfl, _⟩ := h
    rfl
  · obtain ⟨a, ns, rfl, hS, hl, k⟩ := h
    refine ⟨_, (pss_cons (ps_set (i := 1) sc_law_feed.nd rfl (Or.inl rfl) (pe_lst pa_nil))
        (pss_cons (ps_for PassesOwn.never rfl (pi_list (pv 0)) (pg_name (i := 2) sc_law_feed.nd rfl (Or.inl rfl))
        (pss_cons (ps_set (i := 3) sc_law_feed.nd rfl (Or.inl rfl) (pe_callB call_abs (by rfl) T.n_abs (by decide +kernel) (pa_cons (pv 2) pa_nil)))
        (C8.pss_cut (ps_if (pt_cmpR op_lt (pv 3) (pe_op op_pow pe_int pe_int) (nomark _)) (pss_cons (ps_set (i := 3) sc_law_feed.nd rfl (Or.inl rfl) (pe_op op_mod (pe_callTy call_int1 (by rfl) T.n_int (by decide +kernel) (pa_cons (pe_op op_add (pe_op op_mul (pv 3) pe_int) pe_int) pa_nil)) pe_int))
        (pss_cons (ps_expr (pe_bm PySem.F.plainAttrs_list PySem.F.slot_list_append PySem.F.type_list_append mt_append (pv 1) (pa_cons (pe_op op_mod (pe_callTy call_int1 (by rfl) T.n_int (by decide +kernel) (pa_cons (pe_op op_add (pe_op op_mul (pv 3) pe_int) pe_int) pa_nil)) pe_int) pa_nil)))
        (pss_one (ps_set (i := 3) sc_law_feed.nd rfl (Or.inl rfl) pe_int)))) pss_nil)
        (pss_one (ps_for PassesOwn.never rfl (pi_range1 rfl T.n_range (pa_cons pe_int pa_nil)) (pg_name (i := 4) sc_law_feed.nd rfl (Or.inl rfl))
        (pss_one (ps_if (pt_cmpR op_gt (pv 3) pe_int (nomark _)) (pss_cons (ps_expr (pe_bm PySem.F.plainAttrs_list PySem.F.slot_list_append PySem.F.type_list_append mt_append (pv 1) (pa_cons (pe_op op_mod (pe_callTy call_int1 (by rfl) T.n_int (by decide +kernel) (pa_cons (pv 3) pa_nil)) pe_int) pa_nil)))
        (pss_one (ps_set (i := 3) sc_law_feed.nd rfl (Or.inl rfl) (pe_op op_fdiv (pv 3) pe_int)))) pss_nil)))))))
        (pss_one (ps_ret (pv 1))))), ?_⟩
    refine ⟨by decide, fun p np => ?_⟩
    generalize hH : upd H p _ = H1
    obtain ⟨f1, h1⟩ := gen_new np hH
    refine ⟨_, rfl, a, rfl, ⟨_, f1.seq0 hS⟩, for_list (K := K) (a := a) (xs := ns.map V.int) (fun i σ H2 => ∃ (fs : List Int) (u v x : Option V), σ = [some (.ref a), some (.ref p), u, v, x] ∧ Fr [] H H2 ∧ H2 p = some (.lst (fs.map V.int)) ∧ fs.length ≤ 61 * i ∧ ∀ x ∈ fs, 0 ≤ x ∧ x < 1000000) ?_ ?_ ?_ ?_⟩
    · exact ⟨[], none, none, none, rfl, f1, h1, by simp, by simp⟩
    · rintro i σ H2 _ ⟨fs, u, v, x, rfl, f2, _⟩
      exact f2.seq0 hS
    · rintro i y σ H2 hi ⟨fs, u, v, x, rfl, f2, h2, hf, hb⟩
      obtain ⟨z, hz, rfl⟩ := map_get hi
      have hil := getq_lt hz
      refine ⟨_, rfl, _, rfl, ?_⟩
      have hr0 : 0 ≤ (if z < 0 then -z else z) := by split <;> omega
      generalize (if z < 0 then -z else z) = r at hr0
      refine ⟨fun σ H3 => ∃ (r : Int) (fs : List Int), σ = [some (.ref a), some (.ref p), some (.int z), some (.int r), x] ∧ Fr [] H H3 ∧ H3 p = some (.lst (fs.map V.int)) ∧ 0 ≤ r ∧ fs.length ≤ 61 * i + 1 ∧ ∀ x ∈ fs, 0 ≤ x ∧ x < 1000000, ?_, ?_⟩
      · refine ⟨_, rfl, _, _, rfl, rfl, ⟨by decide, by decide, by decide⟩, _, _, rfl, rfl, _, rfl, ?_⟩
        refine ite2 (fun c => ?_) (fun c => ?_)
        · refine ⟨_, rfl, _, _, rfl, rfl, .inr ⟨by decide, by decide⟩, _, _, rfl, rfl, .inl ⟨_, rfl, _, _, rfl, rfl, (by show (0 : Int) < 2147483647; decide), ?_⟩⟩
          refine ⟨_, rfl, .inl ⟨rfl, _, sq h2⟩, _, rfl, _, _, rfl, rfl, .inr ⟨by decide, by decide⟩, _, _, rfl, rfl, .inl ⟨_, rfl, _, _, rfl, rfl, (by show (0 : Int) < 999983; decide), p, _, _, rfl, rfl, h2, sz (by simp; omega), ?_⟩⟩
          generalize hH3 : upd H2 p _ = H3
          obtain ⟨f3, h3⟩ := gen_upd hH3
          rw [map_app1] at h3
          refine ⟨0, _, rfl, f2.up1 f3 (.inr np), h3, by decide, by simp; omega, mem_app1 hb ?_⟩
          exact ⟨Int.emod_nonneg _ (by decide), Int.lt_trans (Int.emod_lt_of_pos _ (by decide)) (by decide)⟩
        · exact ⟨r, fs, rfl, f2, h2, hr0, by omega, hb⟩
      · rintro σ H3 ⟨r, fs, rfl, f3, h3, hr1, hf1, hb1⟩
        refine ⟨60, rfl, by decide, by decide, for_range (n := 60) (fun j σ H4 => ∃ (r : Int) (fs : List Int) (x : Option V), σ = [some (.ref a), some (.ref p), some (.int z), some (.int r), x] ∧ Fr [] H H4 ∧ H4 p = some (.lst (fs.map V.int)) ∧ 0 ≤ r ∧ fs.length ≤ 61 * i + 1 + j ∧ ∀ x ∈ fs, 0 ≤ x ∧ x < 1000000) ?_ ?_ ?_⟩
        · exact ⟨r, fs, x, rfl, f3, h3, hr1, by omega, hb1⟩
        · rintro j σ H4 hj ⟨r, fs, x, rfl, f4, h4, hr2, hf2, hb2⟩
          refine ⟨_, rfl, _, _, rfl, rfl, _, rfl, ?_⟩
          refine ite2 (fun c => ?_) (fun c => ?_)
          · refine ⟨_, rfl, .inl ⟨rfl, _, sq h4⟩, _, rfl, .inl ⟨_, rfl, _, _, rfl, rfl, (by show (0 : Int) < 1000; decide), p, _, _, rfl, rfl, h4, sz (by simp; omega), ?_⟩⟩
            generalize hH5 : upd H4 p _ = H5
            obtain ⟨f5, h5⟩ := gen_upd hH5
            rw [map_app1] at h5
            refine ⟨_, rfl, _, _, rfl, rfl, ⟨by decide, by decide⟩, _, _, _, rfl, f4.up1 f5 (.inr np), h5, Int.ediv_nonneg hr2 (by decide), by simp; omega, mem_app1 hb2 ?_⟩
            exact ⟨Int.emod_nonneg _ (by decide), Int.lt_trans (Int.emod_lt_of_pos _ (by decide)) (by decide)⟩
          · exact ⟨r, fs, _, rfl, f4, h4, hr2, by omega, hb2⟩
        · rintro σ H4 ⟨r, fs, x, rfl, f4, h4, hr2, hf2, hb2⟩
          exact ⟨fs, _, _, _, rfl, f4, h4, by omega, hb2⟩
    · rintro σ H2 ⟨fs, u, v, x, rfl, f2, h2, hf, hb⟩
      rw [List.length_map] at hf
      exact ⟨_, rfl, k H2 p fs f2 np h2 ⟨by omega, hb⟩⟩

def LawIs : Prop := ∀ fs, Feed fs → ∃ m, g_law (feedG 7 fs) = some (.rt (bT true) m)
theorem ok_law_of (pl : LawIs) (T : Txt K mg w) : FnOk P w K mg base CX0 7 T.a_law T.fd_law ["_law_script"] (spLaw K) :=
  law_sim (Fe := Feed) (T := kt P w T) (n := 7) (g := g_law) T.F_law sc_law rfl rfl (fun cdv A outer s H E hr =>
  ⟨⟨_, (ps_set (i := 1) sc_law.nd rfl (Or.inl rfl) (pe_call (ok_law_feed T) (hr.mono (by decide)) rfl T.m_law_feed T.F_law_feed.kp T.b_law_feed .nil pass0 (pa_cons (pv 0) pa_nil))), fun a ns H D hS hl k => ⟨_, rfl, a, ns, rfl, hS, hl, fun H1 p fs1 _ _ h1 hf1 => k H1 p fs1 h1 hf1⟩⟩,
  (mss_cons (ms_set (i := 2) sc_law.nd rfl (Or.inl rfl) (me_add (me_call (is := [0]) (sim_law_pick T) (hr.mono (by decide)) takes0 rfl T.m_law_pick T.F_law_pick.kp T.b_law_pick (ma_cons (me_var (pv 1)) (ma_cons (me_c pe_int) ma_nil)) (by decide) (by decide)) (me_mul (me_c pe_int) (me_call (is := [0]) (sim_law_pick T) (hr.mono (by decide)) takes0 rfl T.m_law_pick T.F_law_pick.kp T.b_law_pick (ma_cons (me_var (pv 1)) (ma_cons (me_c pe_int) ma_nil)) (by decide) (by decide)))))
    (mss_cons (ms_set (i := 3) sc_law.nd rfl (Or.inr rfl) (me_call (is := [0]) (sim_law_drawn T) (hr.mono (by decide)) takes0 rfl T.m_law_drawn T.F_law_drawn.kp T.b_law_drawn (ma_cons (me_var (pv 1)) ma_nil) (by decide) (by decide)))
    (mss_cons (ms_set (i := 4) sc_law.nd rfl (Or.inr rfl) (me_call (is := []) (sim_law_names T) (hr.mono (by decide)) takes0 rfl T.m_law_names T.F_law_names.kp T.b_law_names (ma_cons (me_var (pv 2)) ma_nil) (by decide) (by decide)))
    (mss_cons (ms_set (i := 5) sc_law.nd rfl (Or.inl rfl) (me_smeth (is := []) (pe_glob (v := .ref T.c_Book) rfl T.g_Book rfl) T.m_Book_of_number (sim_Book_of_number T) (hr.mono (by decide)) T.b_Book_of_number (ma_cons (me_var (pv 2)) ma_nil) (by decide) (by decide)))
    (mss_cons (ms_if (mw_pt (mw_or (mt_cmp (OpR.or op_ne (op_neD hr.units)) fNe_ok (me_callTy call_list_of fLst_ok (by rfl) T.n_list (by decide +kernel) (ma_cons (me_con (pe_glob (v := .ref T.c_LETTERS) rfl T.g_LETTERS rfl) (con_tup T.w_LETTERS (con_cons con_a (con_cons con_a (con_cons con_a (con_cons con_a (con_cons con_a (con_cons con_a (con_cons con_a (con_cons con_a (con_cons con_a (con_cons con_a (con_cons con_a (con_cons con_a con_nil)))))))))))))) ma_nil)) (me_call0 (sim_law_letters T) (hr.mono (by decide)) rfl T.m_law_letters T.F_law_letters.kp T.b_law_letters) (nomark _)) (mw_or (mt_cmp (OpR.or op_ne (op_neD hr.units)) fNe_ok (me_con (pe_glob (v := .ref T.c_LOST) rfl T.g_LOST rfl) (con_tup T.w_LOST (con_cons con_a con_nil))) (me_tup (ma_cons (me_c pe_str) ma_nil) (by show 1 ≤ sizeLine; decide)) (nomark _)) (mw_or (mt_cmp op_notBV fNotBV_ok (me_call (is := []) (sim_is_standing T) (hr.mono (by decide)) takes0 rfl T.m_is_standing T.F_is_standing.kp T.b_is_standing (ma_cons (me_var (pv 3)) ma_nil) (by decide) (by decide)) (me_c pe_bl) (nomark _)) (mw_or1 (mt_cmp op_notBV fNotBV_ok (me_call (is := []) (sim_is_standing T) (hr.mono (by decide)) takes0 rfl T.m_is_standing T.F_is_standing.kp T.b_is_standing (ma_cons (me_con (pe_glob (v := .ref T.c_LOST) rfl T.g_LOST rfl) (con_tup T.w_LOST (con_cons con_a con_nil))) ma_nil) (by decide) (by decide)) (me_c pe_bl) (nomark _))))))) (mss_one (ms_ret (me_c pe_bl)))
    mss_nil)
    (mss_cons (ms_if (mw_pt (mw_or (mt_cmp (OpR.or op_ne (op_neD hr.units)) fNe_ok (me_call (is := []) (sim_kind_c T) (hr.mono (by decide)) takes0 rfl T.m_kind_c T.F_kind_c.kp T.b_kind_c (ma_cons (me_var (pv 3)) ma_nil) (by decide) (by decide)) (me_call (is := []) (sim_law_kind_c T) (hr.mono (by decide)) takes0 rfl T.m_law_kind_c T.F_law_kind_c.kp T.b_law_kind_c (ma_cons (me_ixA hr.units (me_var (pv 3)) (me_c pe_int) (fun _ _ => rfl)) (ma_cons (me_ixA hr.units (me_var (pv 3)) (me_c pe_int) (fun _ _ => rfl)) ma_nil)) (by decide) (by decide)) (nomark _)) (mw_or1 (mt_cmp (OpR.or op_ne (op_neD hr.units)) fNe_ok (me_call (is := []) (sim_kind_r T) (hr.mono (by decide)) takes0 rfl T.m_kind_r T.F_kind_r.kp T.b_kind_r (ma_cons (me_var (pv 3)) ma_nil) (by decide) (by decide)) (me_call (is := []) (sim_law_kind_r T) (hr.mono (by decide)) takes0 rfl T.m_law_kind_r T.F_law_kind_r.kp T.b_law_kind_r (ma_cons (me_ixA hr.units (me_var (pv 3)) (me_c pe_int) (fun _ _ => rfl)) (ma_cons (me_ixA hr.units (me_var (pv 3)) (me_c pe_int) (fun _ _ => rfl)) (ma_cons (me_ixA hr.units (me_var (pv 3)) (me_c pe_int) (fun _ _ => rfl)) ma_nil))) (by decide) (by decide)) (nomark _))))) (mss_one (ms_ret (me_c pe_bl)))
    mss_nil)
    (mss_cons (ms_if (mw_pt (mw_or (mt_cmp (OpR.or op_ne (op_neD hr.units)) fNe_ok (me_call (is := []) (sim_content_c T) (hr.mono (by decide)) takes0 rfl T.m_content_c T.F_content_c.kp T.b_content_c (ma_cons (me_var (pv 3)) ma_nil) (by decide) (by decide)) (me_call (is := []) (sim_law_content_c T) (hr.mono (by decide)) takes0 rfl T.m_law_content_c T.F_law_content_c.kp T.b_law_content_c (ma_cons (me_var (pv 3)) ma_nil) (by decide) (by decide)) (nomark _)) (mw_or1 (mt_cmp (OpR.or op_ne (op_neD hr.units)) fNe_ok (me_call (is := []) (sim_content_r T) (hr.mono (by decide)) takes0 rfl T.m_content_r T.F_content_r.kp T.b_content_r (ma_cons (me_var (pv 3)) ma_nil) (by decide) (by decide)) (me_call (is := []) (sim_law_content_r T) (hr.mono (by decide)) takes0 rfl T.m_law_content_r T.F_law_content_r.kp T.b_law_content_r (ma_cons (me_var (pv 3)) ma_nil) (by decide) (by decide)) (nomark _))))) (mss_one (ms_ret (me_c pe_bl)))
    mss_nil)
    (mss_cons (ms_if (mw_pt (mw_or (mw_pt (mw_and (mt_cmp op_notBV fNotBV_ok (me_call (is := []) (sim_is_due T) (hr.mono (by decide)) takes0 rfl T.m_is_due T.F_is_due.kp T.b_is_due (ma_cons (me_var (pv 3)) ma_nil) (by decide) (by decide)) (me_c pe_bl) (nomark _)) (mw_and1 (mt_cmp op_notBV fNotBV_ok (me_call (is := []) (sim_is_due T) (hr.mono (by decide)) takes0 rfl T.m_is_due T.F_is_due.kp T.b_is_due (ma_cons (me_var (pv 3)) ma_nil) (by decide) (by decide)) (me_c pe_bl) (nomark _))))) (mw_or1 (mt_cmp (OpR.or op_ne (op_neD hr.units)) fNe_ok (me_call (is := []) (sim_is_due T) (hr.mono (by decide)) takes0 rfl T.m_is_due T.F_is_due.kp T.b_is_due (ma_cons (me_var (pv 3)) ma_nil) (by decide) (by decide)) (me_or (me_cmp (OpR.or op_eq (op_eqD hr.units)) fEq_ok (me_ixA hr.units (me_var (pv 3)) (me_c pe_int) (fun _ _ => rfl)) (me_c pe_str) (nomark _)) (me_one (me_cmp (OpR.or op_eq (op_eqD hr.units)) fEq_ok (me_ixA hr.units (me_var (pv 3)) (me_c pe_int) (fun _ _ => rfl)) (me_c pe_str) (nomark _)))) (nomark _))))) (mss_one (ms_ret (me_c pe_bl)))
    mss_nil)
    (mss_cons (ms_for (me_call0 (sim_law_letters T) (hr.mono (by decide)) rfl T.m_law_letters T.F_law_letters.kp T.b_law_letters) (mg_name (i := 6) sc_law.nd rfl (Or.inl rfl))
    (mss_one (ms_if (mw_pt (mw_or (mt_not (mt_val (me_call (is := []) (sim_law_letter_good T) (hr.mono (by decide)) takes0 rfl T.m_law_letter_good T.F_law_letter_good.kp T.b_law_letter_good (ma_cons (me_var (pv 3)) (ma_cons (me_var (pv 6)) (ma_cons (me_var (pv 4)) (ma_cons (me_var (pv 5)) ma_nil)))) (by decide) (by decide)))) (mw_or1 (mt_cmp op_notN fNotN_ok (me_call (is := []) (sim_after T) (hr.mono (by decide)) takes0 rfl T.m_after T.F_after.kp T.b_after (ma_cons (me_con (pe_glob (v := .ref T.c_LOST) rfl T.g_LOST rfl) (con_tup T.w_LOST (con_cons con_a con_nil))) (ma_cons (me_var (pv 6)) (ma_cons (me_var (pv 5)) ma_nil))) (by decide) (by decide)) (me_c pe_non) (nomark _))))) (mss_one (ms_ret (me_c pe_bl)))
    mss_nil)) PassesOwn.never rfl)
    (mss_cons (ms_set (i := 7) sc_law.nd rfl (Or.inl rfl) (me_call (is := []) (sim_let_letters T) (hr.mono (by decide)) takes0 rfl T.m_let_letters T.F_let_letters.kp T.b_let_letters (ma_cons (me_var (pv 3)) (ma_cons (me_var (pv 5)) ma_nil)) (by decide) (by decide)))
    (mss_cons (ms_if (mw_pt (mw_or (mt_not (mt_val (me_callB (CallR.or call_isi (CallR.or call_isiT call_isiK)) fIsi_ok (by rfl) T.n_isinstance (by decide +kernel) (ma_cons (me_var (pv 7)) (ma_cons (me_c (pe_bltn (v := .ty "list") (u := .type "list") (by rfl) T.n_list (by decide +kernel) rfl)) ma_nil))))) (mw_or1 (mt_cmp (OpR.or op_ne (op_neD hr.units)) fNe_ok (me_var (pv 7)) (me_clr (i := 6) (me_lc (me_call0 (sim_law_letters T) (hr.mono (by decide)) rfl T.m_law_letters T.F_law_letters.kp T.b_law_letters) (blkOk_by (own := [("_law_letter", 6)]) (N := N_law) (sc := defScope s_law) (by decide +kernel)) (fun _ _ _ _ _ => pg_name (i := 6) sc_law.nd rfl (Or.inl rfl)) (fun _ _ _ _ _ => (mt_val (me_call (is := []) (sim_law_let T) (hr.mono (by decide)) takes0 rfl T.m_law_let T.F_law_let.kp T.b_law_let (ma_cons (me_var (pv 3)) (ma_cons (me_var (pv 6)) (ma_cons (me_var (pv 4)) ma_nil))) (by decide) (by decide)))) (fun _ _ _ _ _ => (me_var (pv 6))) rfl sc_law.nd)) (nomark _))))) (mss_one (ms_ret (me_c pe_bl)))
    mss_nil)
    (mss_cons (ms_for (me_lst (ma_cons (me_c pe_str) (ma_cons (me_c pe_str) (ma_cons (me_c pe_str) (ma_cons (me_c pe_str) (ma_cons (me_c pe_str) (ma_cons (me_c pe_str) (ma_cons (me_c pe_str) ma_nil))))))) (by show 7 ≤ sizeLine; decide)) (mg_name (i := 6) sc_law.nd rfl (Or.inl rfl))
    (mss_one (ms_if (mw_pt (mw_or (mt_not (mt_val (me_call (is := []) (sim_law_raises T) (hr.mono (by decide)) takes0 rfl T.m_law_raises T.F_law_raises.kp T.b_law_raises (ma_cons (me_var (pv 3)) (ma_cons (me_var (pv 6)) (ma_cons (me_var (pv 5)) ma_nil))) (by decide) (by decide)))) (mw_or1 (mt_not (mt_val (me_call (is := []) (sim_law_raises T) (hr.mono (by decide)) takes0 rfl T.m_law_raises T.F_law_raises.kp T.b_law_raises (ma_cons (me_con (pe_glob (v := .ref T.c_LOST) rfl T.g_LOST rfl) (con_tup T.w_LOST (con_cons con_a con_nil))) (ma_cons (me_var (pv 6)) (ma_cons (me_var (pv 5)) ma_nil))) (by decide) (by decide))))))) (mss_one (ms_ret (me_c pe_bl)))
    mss_nil)) PassesOwn.never rfl)
    (mss_cons (ms_for (me_call (is := []) (sim_law_spoilt T) (hr.mono (by decide)) takes0 rfl T.m_law_spoilt T.F_law_spoilt.kp T.b_law_spoilt (ma_cons (me_var (pv 3)) ma_nil) (by decide) (by decide)) (mg_name (i := 8) sc_law.nd rfl (Or.inl rfl))
    (mss_one (ms_if (mt_cmp op_notBV fNotBV_ok (me_call (is := []) (sim_is_standing T) (hr.mono (by decide)) takes0 rfl T.m_is_standing T.F_is_standing.kp T.b_is_standing (ma_cons (me_var (pv 8)) ma_nil) (by decide) (by decide)) (me_c pe_bl) (nomark _)) (mss_one (ms_ret (me_c pe_bl)))
    mss_nil)) PassesOwn.never rfl)
    (mss_one (ms_ret (me_c pe_bl))))))))))))))))⟩) pl
-- level 7
end
local macro_rules | `(tactic| simp! [$xs,*]) => `(tactic| simp [gSeq_e, bE_ok, bE_ex, bE_ite, gNil_e, gC_e, ok_ite, gVar_e, varE_tr, varE_al, gNot_e, nE_ok, nE_ite, gAnd_e, aE_ok, aE_ite, aE_ex, gOrB_e, oE_ok, oE_ite, oE_ex, gIf_e, iE_ok, iE_ite, noEx_e, xE_ok, sSeq_e, bS_nx, bS_rt, bS_bk, bS_ct, bS_ex, bS_ite, sNil_e, sIf_e, iS_ok, iS_ex, iS_ite, sRet_e, rS_ok, rS_ex, rS_ite, sExpr_e, eS_ok, eS_ex, eS_ite, nxO_some, kS_ok, kS_ex, kS_ite, sSet_e, sAsg_e, sSubA_e, sFldS_e, gCall_e, c1_some, c2_some, c3_rt, c3_ex, c3_ite, gMake_e, k1_some, k2_rt, k2_ex, k2_ite, gChain_e, h1_ok, h2_ok, sPar_e, pS2_ok, sPar3_e, pS3_ok, sSubB_e, gCon_e, gK0_e, fKD_e, runF_e, fR_ite, fR_nx, fR_rt, fR_ex, rt_ite, int_ite, bl_ite, nos, fP1, fP2, FI, cT, viewE, kidE, kidX, kid, eff, cp, cpL, esc, escL, fFld, fIxA, fIx, fIxK, gOr, fNew, popN, mkN, fMv, fFrz, outP, Ent.tree, extAll, extAt, argT, resAll, resAt, getG, getT, getP, setG, setT, kill, killR_tr, killR_no, killR_al, killE_tr, killE_no, killE_al, killJ_tr, killJ_no, killJ_al, pre, nbel, chkI, chkL, List.lookup, fAdd, fSub, fDiv, fMod, fLt, fLe, fGt, fGe, cMul, cPos, cDiv, fEq, fNe, FEq_int, FEq_row, FEq_tup, FEq_pair, FEq_mat, FEq_str, FEq_bl, fIn, fNotIn, fInA, fNotInA, FInD, kit_int_int, kit_int_bool, kit_int_str, kit_int_list, kit_int_tuple, kit_int_dict, kit_bool_int, kit_bool_bool, kit_bool_str, kit_bool_list, kit_bool_tuple, kit_bool_dict, kit_str_int, kit_str_bool, kit_str_str, kit_str_list, kit_str_tuple, kit_str_dict, kit_list_int, kit_list_bool, kit_list_str, kit_list_list, kit_list_tuple, kit_list_dict, kit_tuple_int, kit_tuple_bool, kit_tuple_str, kit_tuple_list, kit_tuple_tuple, kit_tuple_dict, kit_dict_int, kit_dict_bool, kit_dict_str, kit_dict_list, kit_dict_tuple, kit_dict_dict, kit_NoneType_int, kit_NoneType_bool, kit_NoneType_str, kit_NoneType_list, kit_NoneType_tuple, kit_NoneType_dict, FIn_l, FIn_t, ixL_1_0, ixL_2_0, ixL_2_1, ixL_3_0, ixL_3_1, ixL_3_2, ixL_4_0, ixL_4_1, ixL_4_2, ixL_4_3, ixL_5_0, ixL_5_1, ixL_5_2, ixL_5_3, ixL_5_4, ixL_6_0, ixL_6_1, ixL_6_2, ixL_6_3, ixL_6_4, ixL_6_5, ixL_7_0, ixL_7_1, ixL_7_2, ixL_7_3, ixL_7_4, ixL_7_5, ixL_7_6, ixL_8_0, ixL_8_1, ixL_8_2, ixL_8_3, ixL_8_4, ixL_8_5, ixL_8_6, ixL_8_7, ixL_9_0, ixL_9_1, ixL_9_2, ixL_9_3, ixL_9_4, ixL_9_5, ixL_9_6, ixL_9_7, ixL_9_8, ixL_10_0, ixL_10_1, ixL_10_2, ixL_10_3, ixL_10_4, ixL_10_5, ixL_10_6, ixL_10_7, ixL_10_8, ixL_10_9, ixL_11_0, ixL_11_1, ixL_11_2, ixL_11_3, ixL_11_4, ixL_11_5, ixL_11_6, ixL_11_7, ixL_11_8, ixL_11_9, ixL_11_10, ixL_12_0, ixL_12_1, ixL_12_2, ixL_12_3, ixL_12_4, ixL_12_5, ixL_12_6, ixL_12_7, ixL_12_8, ixL_12_9, ixL_12_10, ixL_12_11, fIsN, fNotN, FIs, fIsB, FIsB, fIsBV, FIsBV, fNotBV, fNotB, fLen, FLen, fInt, FInt, fIsi, FIsi, tyN, fApp, fPopA, fPop, stSubA, stSub, stSubK, stFld, unpk, unpkT, sTryRe, bindAll, unpkP, sRaise, sRetN, sFAug, sSAug, sAug, fAddI, fSubI, bind, fNeg, FNeg, fTup, fLst, itemsE, kidL, kidL_iT, gClr, sClr, clr, fEqE, FEqE, mapk_iT, kidc_iT, set_iT, set_rowT, -List.map_set, -List.map_append, app_iT, app_map, FS, fCat, -getElem?_pos, List.getElem?_cons_zero, fMvD, fHid, CMul, gDc0, gD0, ready, cpE, fInB, fNotInB, FInT, keyT, keysA, keyOf, stSubB, stSubT, fPut1, fInO, fCon, fRevL, atoms, $xs,*])
local macro_rules | `(tactic| simp! []) => `(tactic| simp [gSeq_e, bE_ok, bE_ex, bE_ite, gNil_e, gC_e, ok_ite, gVar_e, varE_tr, varE_al, gNot_e, nE_ok, nE_ite, gAnd_e, aE_ok, aE_ite, aE_ex, gOrB_e, oE_ok, oE_ite, oE_ex, gIf_e, iE_ok, iE_ite, noEx_e, xE_ok, sSeq_e, bS_nx, bS_rt, bS_bk, bS_ct, bS_ex, bS_ite, sNil_e, sIf_e, iS_ok, iS_ex, iS_ite, sRet_e, rS_ok, rS_ex, rS_ite, sExpr_e, eS_ok, eS_ex, eS_ite, nxO_some, kS_ok, kS_ex, kS_ite, sSet_e, sAsg_e, sSubA_e, sFldS_e, gCall_e, c1_some, c2_some, c3_rt, c3_ex, c3_ite, gMake_e, k1_some, k2_rt, k2_ex, k2_ite, gChain_e, h1_ok, h2_ok, sPar_e, pS2_ok, sPar3_e, pS3_ok, sSubB_e, gCon_e, gK0_e, fKD_e, runF_e, fR_ite, fR_nx, fR_rt, fR_ex, rt_ite, int_ite, bl_ite, nos, fP1, fP2, FI, cT, viewE, kidE, kidX, kid, eff, cp, cpL, esc, escL, fFld, fIxA, fIx, fIxK, gOr, fNew, popN, mkN, fMv, fFrz, outP, Ent.tree, extAll, extAt, argT, resAll, resAt, getG, getT, getP, setG, setT, kill, killR_tr, killR_no, killR_al, killE_tr, killE_no, killE_al, killJ_tr, killJ_no, killJ_al, pre, nbel, chkI, chkL, List.lookup, fAdd, fSub, fDiv, fMod, fLt, fLe, fGt, fGe, cMul, cPos, cDiv, fEq, fNe, FEq_int, FEq_row, FEq_tup, FEq_pair, FEq_mat, FEq_str, FEq_bl, fIn, fNotIn, fInA, fNotInA, FInD, kit_int_int, kit_int_bool, kit_int_str, kit_int_list, kit_int_tuple, kit_int_dict, kit_bool_int, kit_bool_bool, kit_bool_str, kit_bool_list, kit_bool_tuple, kit_bool_dict, kit_str_int, kit_str_bool, kit_str_str, kit_str_list, kit_str_tuple, kit_str_dict, kit_list_int, kit_list_bool, kit_list_str, kit_list_list, kit_list_tuple, kit_list_dict, kit_tuple_int, kit_tuple_bool, kit_tuple_str, kit_tuple_list, kit_tuple_tuple, kit_tuple_dict, kit_dict_int, kit_dict_bool, kit_dict_str, kit_dict_list, kit_dict_tuple, kit_dict_dict, kit_NoneType_int, kit_NoneType_bool, kit_NoneType_str, kit_NoneType_list, kit_NoneType_tuple, kit_NoneType_dict, FIn_l, FIn_t, ixL_1_0, ixL_2_0, ixL_2_1, ixL_3_0, ixL_3_1, ixL_3_2, ixL_4_0, ixL_4_1, ixL_4_2, ixL_4_3, ixL_5_0, ixL_5_1, ixL_5_2, ixL_5_3, ixL_5_4, ixL_6_0, ixL_6_1, ixL_6_2, ixL_6_3, ixL_6_4, ixL_6_5, ixL_7_0, ixL_7_1, ixL_7_2, ixL_7_3, ixL_7_4, ixL_7_5, ixL_7_6, ixL_8_0, ixL_8_1, ixL_8_2, ixL_8_3, ixL_8_4, ixL_8_5, ixL_8_6, ixL_8_7, ixL_9_0, ixL_9_1, ixL_9_2, ixL_9_3, ixL_9_4, ixL_9_5, ixL_9_6, ixL_9_7, ixL_9_8, ixL_10_0, ixL_10_1, ixL_10_2, ixL_10_3, ixL_10_4, ixL_10_5, ixL_10_6, ixL_10_7, ixL_10_8, ixL_10_9, ixL_11_0, ixL_11_1, ixL_11_2, ixL_11_3, ixL_11_4, ixL_11_5, ixL_11_6, ixL_11_7, ixL_11_8, ixL_11_9, ixL_11_10, ixL_12_0, ixL_12_1, ixL_12_2, ixL_12_3, ixL_12_4, ixL_12_5, ixL_12_6, ixL_12_7, ixL_12_8, ixL_12_9, ixL_12_10, ixL_12_11, fIsN, fNotN, FIs, fIsB, FIsB, fIsBV, FIsBV, fNotBV, fNotB, fLen, FLen, fInt, FInt, fIsi, FIsi, tyN, fApp, fPopA, fPop, stSubA, stSub, stSubK, stFld, unpk, unpkT, sTryRe, bindAll, unpkP, sRaise, sRetN, sFAug, sSAug, sAug, fAddI, fSubI, bind, fNeg, FNeg, fTup, fLst, itemsE, kidL, kidL_iT, gClr, sClr, clr, fEqE, FEqE, mapk_iT, kidc_iT, set_iT, set_rowT, -List.map_set, -List.map_append, app_iT, app_map, FS, fCat, -getElem?_pos, List.getElem?_cons_zero, fMvD, fHid, CMul, gDc0, gD0, ready, cpE, fInB, fNotInB, FInT, keyT, keysA, keyOf, stSubB, stSubT, fPut1, fInO, fCon, fRevL, atoms])
/-! standings by their signs -/
section
variable {neg : Bool} {o : Ow}
abbrev aS (x : Str) : Tr := .a (.str x)
theorem kidL_str : ∀ (xs : List Str), kidL o (xs.map aS) = xs.map aS
  | [] => rfl
  | x :: xs => by rw [List.map_cons, kidL, kidL_str xs]; rfl
theorem cpL_str : ∀ (xs : List Str), cpL (xs.map aS) = true
  | [] => rfl
  | x :: xs => by rw [List.map_cons, cpL, cpL_str xs]; rfl
theorem escL_str : ∀ (xs : List Str), escL (xs.map aS) = true
  | [] => rfl
  | x :: xs => by rw [List.map_cons, escL, escL_str xs]; rfl
theorem inV_str : ∀ (x : Str) (xs : List Str), inV (.str x) (xs.map V.str) = decide (x ∈ xs)
  | x, [] => by simp [inV]
  | x, y :: xs => by
    have ih := inV_str x xs
    simp only [inV, List.map_cons, List.any_cons] at ih ⊢
    rw [ih]
    by_cases h : x = y
    · simp [h, eqV]
    · have h2 : y ≠ x := fun q => h q.symm
      simp [h, h2, eqV]
theorem FIn_ts (x : Str) (xs : List Str) : FIn neg (.a (.str x)) (.nd .tup o (xs.map aS)) = some (.bl (if neg then !decide (x ∈ xs) else decide (x ∈ xs))) := by
  have h1 : atoms (xs.map aS) = some (xs.map V.str) := atoms_map (f := V.str) xs
  have h2 : (xs.map V.str).all flatV = true := by simp [flatV]
  unfold FIn
  simp only [h1]
  rw [if_pos ⟨rfl, h2⟩, inV_str]
theorem FIn_ls (x : Str) (xs : List Str) : FIn neg (.a (.str x)) (.nd .lst o (xs.map aS)) = some (.bl (if neg then !decide (x ∈ xs) else decide (x ∈ xs))) := by
  have h1 : atoms (xs.map aS) = some (xs.map V.str) := atoms_map (f := V.str) xs
  have h2 : (xs.map V.str).all flatV = true := by simp [flatV]
  unfold FIn
  simp only [h1]
  rw [if_pos ⟨rfl, h2⟩, inV_str]
inductive QK | F | L | P
  deriving DecidableEq
inductive QC | d | e | t | F | L | P
  deriving DecidableEq
inductive QR | e | t | F | L | P
  deriving DecidableEq
inductive QH | K | C | R | o
  deriving DecidableEq
inductive QG | d | K | o
  deriving DecidableEq
inductive QY | d | p | x
  deriving DecidableEq
inductive QX | K | C | R | d
  deriving DecidableEq
structure Sx where
  k : QK
  c : QC
  r : QR
  h : QH
  g : QG
  y : QY
  deriving DecidableEq
def nK : QK → Str | .F => "F" | .L => "L" | .P => "P"
def nC : QC → Str | .d => "-" | .e => "=" | .t => "~" | .F => "F" | .L => "L" | .P => "P"
def nR : QR → Str | .e => "=" | .t => "~" | .F => "F" | .L => "L" | .P => "P"
def nH : QH → Str | .K => "K" | .C => "C" | .R => "R" | .o => "o"
def nG : QG → Str | .d => "-" | .K => "K" | .o => "o"
def nY : QY → Str | .d => "-" | .p => "+" | .x => "!"
def nX : QX → Str | .K => "K" | .C => "C" | .R => "R" | .d => "-"
theorem nK_F (s : QK) : (nK s = ("F" : Str)) ↔ s = .F := by cases s <;> decide
theorem nK_L (s : QK) : (nK s = ("L" : Str)) ↔ s = .L := by cases s <;> decide
theorem nK_P (s : QK) : (nK s = ("P" : Str)) ↔ s = .P := by cases s <;> decide
theorem nC_d (s : QC) : (nC s = ("-" : Str)) ↔ s = .d := by cases s <;> decide
theorem nC_e (s : QC) : (nC s = ("=" : Str)) ↔ s = .e := by cases s <;> decide
theorem nC_t (s : QC) : (nC s = ("~" : Str)) ↔ s = .t := by cases s <;> decide
theorem nC_F (s : QC) : (nC s = ("F" : Str)) ↔ s = .F := by cases s <;> decide
theorem nC_L (s : QC) : (nC s = ("L" : Str)) ↔ s = .L := by cases s <;> decide
theorem nC_P (s : QC) : (nC s = ("P" : Str)) ↔ s = .P := by cases s <;> decide
theorem nR_e (s : QR) : (nR s = ("=" : Str)) ↔ s = .e := by cases s <;> decide
theorem nR_t (s : QR) : (nR s = ("~" : Str)) ↔ s = .t := by cases s <;> decide
theorem nR_L (s : QR) : (nR s = ("L" : Str)) ↔ s = .L := by cases s <;> decide
theorem nR_P (s : QR) : (nR s = ("P" : Str)) ↔ s = .P := by cases s <;> decide
theorem nR_F (s : QR) : (nR s = ("F" : Str)) ↔ s = .F := by cases s <;> decide
theorem nH_K (s : QH) : (nH s = ("K" : Str)) ↔ s = .K := by cases s <;> decide
theorem nH_C (s : QH) : (nH s = ("C" : Str)) ↔ s = .C := by cases s <;> decide
theorem nH_R (s : QH) : (nH s = ("R" : Str)) ↔ s = .R := by cases s <;> decide
theorem nG_d (s : QG) : (nG s = ("-" : Str)) ↔ s = .d := by cases s <;> decide
theorem nG_K (s : QG) : (nG s = ("K" : Str)) ↔ s = .K := by cases s <;> decide
theorem nY_d (s : QY) : (nY s = ("-" : Str)) ↔ s = .d := by cases s <;> decide
theorem nY_p (s : QY) : (nY s = ("+" : Str)) ↔ s = .p := by cases s <;> decide
theorem nX_K (s : QX) : (nX s = ("K" : Str)) ↔ s = .K := by cases s <;> decide
abbrev rowS (s : Sx) : List Tr := [aS (nK s.k), aS (nC s.c), aS (nR s.r), aS (nH s.h), aS (nG s.g), aS (nY s.y)]
abbrev sT (s : Sx) : Tr := .nd .tup .own (rowS s)
def kindC (s : Sx) : QK := match s.c with
  | .d => s.k
  | .e => s.k
  | .t => .L
  | .F => .F
  | .L => .L
  | .P => .P
def kindR (s : Sx) : QK := match s.r with
  | .e => kindC s
  | .t => .L
  | .F => .F
  | .L => .L
  | .P => .P
def due (s : Sx) : Bool := s.c = .t ∨ s.c = .L
def newC (c : QC) : Bool := c = .t ∨ c = .L ∨ c = .P
def newR (r : QR) : Bool := r = .t ∨ r = .L ∨ r = .P
def contC (s : Sx) : QX := if kindC s = .F then .d else if newC s.c then .C else .K
def contR (s : Sx) : QX := if kindR s = .F then .d else if newR s.r then .R else contC s
theorem nX_inj (s t : QX) : nX s = nX t ↔ s = t := by cases s <;> cases t <;> decide
def tC (r : QR) : QC := match r with | .e => .e | .t => .t | .F => .F | .L => .L | .P => .P
def xH (x : QX) : QH := match x with | .K => .K | .C => .C | .R => .R | .d => .o
theorem nC_tC (r : QR) : nC (tC r) = nR r := by cases r <;> rfl
theorem nH_xH (x : QX) (h : x ≠ .d) : nH (xH x) = nX x := by cases x <;> first | rfl | exact absurd rfl h
theorem contR_d (s : Sx) : contR s = .d ↔ kindR s = .F := by
  obtain ⟨k, c, r, h, g, y⟩ := s
  cases k <;> cases c <;> cases r <;> simp [contR, contC, kindR, kindC, newR, newC]
theorem contC_d (s : Sx) : contC s = .d ↔ kindC s = .F := by
  obtain ⟨k, c, r, h, g, y⟩ := s
  cases k <;> cases c <;> simp [contC, kindC, newC]
theorem P_kind_c (s : Sx) : G_kind_c [sT s] = some (.rt (aS (nK (kindC s))) [.any]) := by
  simp! [G_kind_c, g_kind_c, nC_d, nC_e, nC_t]
  unfold kindC
  cases s.c <;> rfl
theorem P_kind_r (s : Sx) : G_kind_r [sT s] = some (.rt (aS (nK (kindR s))) [.any]) := by
  simp! [G_kind_r, g_kind_r, P_kind_c, nR_e, nR_t]
  unfold kindR
  cases s.r <;> rfl
theorem inv_new (x : Str) : FIn neg (aS x) (.nd .tup o [aS "~", aS "L", aS "P"]) = some (.bl (if neg then !decide (x = "~" ∨ x = "L" ∨ x = "P") else decide (x = "~" ∨ x = "L" ∨ x = "P"))) := by
  have h := FIn_ts (neg := neg) (o := o) x ["~", "L", "P"]
  simpa using h
theorem P_content_c (s : Sx) : G_content_c [sT s] = some (.rt (aS (nX (contC s))) [.any]) := by
  simp! [G_content_c, g_content_c, P_kind_c, nK_F, inv_new, nC_t, nC_L, nC_P]
  unfold contC newC
  by_cases h1 : kindC s = .F <;> by_cases h2 : s.c = .t ∨ s.c = .L ∨ s.c = .P <;> simp [h1, h2, nX]
theorem P_content_r (s : Sx) : G_content_r [sT s] = some (.rt (aS (nX (contR s))) [.any]) := by
  simp! [G_content_r, g_content_r, P_kind_r, P_content_c, nK_F, inv_new, nR_t, nR_L, nR_P]
  unfold contR newR
  by_cases h1 : kindR s = .F <;> by_cases h2 : s.r = .t ∨ s.r = .L ∨ s.r = .P <;> simp [h1, h2, nX]
theorem P_is_due (s : Sx) : G_is_due [sT s] = some (.rt (.a (.bl (due s))) [.any]) := by
  simp! [G_is_due, g_is_due, nC_t, nC_L]
  simp [due]
/-- what a letter gives -/
inductive Rz | no | lost | st (s : Sx)
  deriving DecidableEq
abbrev lostT : Tr := .nd .tup .frz [aS "lost"]
def rzT : Rz → Tr
  | .no => .a .non
  | .lost => lostT
  | .st s => sT s
abbrev namesT (ns : List Str) : Tr := .nd .tup .own (ns.map aS)
abbrev bkT (ns : List Str) (num : Int) : Tr := .nd (.ins 0 2) .frz [namesT ns, .a (.int num)]
theorem P_contains (ns : List Str) (num : Int) (x : Str) : G_Book_contains [bkT ns num, aS x] = some (.rt (.a (.bl (decide (x ∈ ns)))) [.any, .any]) := by
  simp! [G_Book_contains, g_Book_contains, kidL_str, FIn_ts]
abbrev pr (ns : List Str) (x : Str) : Bool := decide (x ∈ ns)
def noR (h : QH) : QH := if h = .R then .o else h
def waits (p : Str → Bool) (s : Sx) : Bool := p "wait" && due s && decide (s.y = .d)
def aTakel (s : Sx) : Rz := if kindR s = .F then .st { s with r := .L } else .no
def aTakep (p : Str → Bool) (s : Sx) : Rz := if kindR s ≠ .F then .no else if p "reuse" ∧ (s.k ≠ .F ∨ kindC s ≠ .F) then .no else if p "shelve" ∧ s.g ≠ .d then .no else .st { s with r := .P }
def aChange (p : Str → Bool) (s : Sx) : Rz := if kindR s ≠ .L ∨ waits p s then .no else .st { s with r := if s.r = .e then .t else s.r, h := noR s.h }
def aFree (p : Str → Bool) (s : Sx) : Rz := if kindR s = .F ∨ waits p s then .no else .st { s with r := if kindC s = .F then .e else .F, h := noR s.h }
def aClose (s : Sx) : Rz := if s.c ≠ .d then .no else .st ⟨s.k, tC s.r, .e, if s.h = .R then .C else s.h, s.g, .d⟩
def aCopy (p : Str → Bool) (s : Sx) : Rz := if ¬ due s ∨ s.y ≠ .d then .no else .st { s with y := if p "frozen" ∨ s.r = .e then .p else .x }
def struck (p : Str → Bool) (s : Sx) : Bool := decide (s.k = .L) && decide (s.c ≠ .t) && p "revoke"
def logM (p : Str → Bool) (s : Sx) : QG :=
  if s.c = .e then s.g else if due s then (if struck p s ∧ ¬ p "lapse" then .d else if s.y = .p then .K else .o) else if struck p s then .d else if s.g = .K then .o else s.g
def aMark (p : Str → Bool) (s : Sx) : Rz := if s.c = .d then .no else if p "copies" ∧ due s ∧ s.y = .d then .no else if p "words" ∧ s.c = .P ∧ s.h ≠ .C then .no
  else .st ⟨kindC s, .d, s.r, if s.h = .C then .K else if s.h = .K ∧ s.c ≠ .e then .o else s.h, logM p s, .d⟩
def aHome (s : Sx) : Rz := if s.k ≠ .L then .no else .st { s with h := .K }
def aEarly (p : Str → Bool) (s : Sx) : Rz := if kindR s ≠ .L ∨ contR s = .K ∨ p "mark" then .no else .st { s with h := xH (contR s) }
def keptR (s : Sx) : Bool := if s.c ≠ .d ∧ kindC s ≠ .F ∧ contR s ≠ contC s then false else decide (s.k = .F ∨ contR s = .K)
def aWords (p : Str → Bool) (s : Sx) : Rz :=
  if kindR s = .P then (if p "late" ∧ ¬ keptR s then .no else .st { s with h := xH (contR s) })
  else if s.c ≠ .d ∧ kindC s = .P then (if p "late" ∧ ¬ (s.k = .F ∨ s.c = .e) then .no else .st { s with h := xH (contC s) }) else .no
def aRoom (p : Str → Bool) (s : Sx) : Rz := if s.g = .d ∨ (p "room" ∧ s.g = .K ∧ s.h ≠ .K) then .no else .st { s with g := .d }
def aTold (p : Str → Bool) (s : Sx) : Rz := if s.c = .d ∧ s.r = .e then .st s else if p "told" then .no else .lost
variable (ns : List Str) (num : Int) (s : Sx)
theorem P_takel : G_after_takel [sT s, bkT ns num] = some (.rt (rzT (aTakel s)) [.any, .any]) := by
  simp! [G_after_takel, g_after_takel, P_kind_r, nK_F]
  unfold aTakel
  by_cases h : kindR s = .F <;> simp [h, rzT, nR]
theorem P_takep : G_after_takep [sT s, bkT ns num] = some (.rt (rzT (aTakep (pr ns) s)) [.any, .any]) := by
  simp! [G_after_takep, g_after_takep, P_kind_r, P_kind_c, P_contains, nK_F, nG_d]
  unfold aTakep
  (repeat' split) <;> simp_all [rzT, nR]
theorem P_waits : G_waits [sT s, bkT ns num] = some (.rt (.a (.bl (waits (pr ns) s))) [.any, .any]) := by
  simp! [G_waits, g_waits, P_contains, P_is_due, nY_d]
  unfold waits
  by_cases h1 : ("wait" : Str) ∈ ns <;> by_cases h2 : due s <;> simp [h1, h2]
theorem P_home_without_r (h : QH) : G_home_without_r [aS (nH h)] = some (.rt (aS (nH (noR h))) [.any]) := by
  simp! [G_home_without_r, g_home_without_r, nH_R]
  unfold noR
  split <;> rfl
theorem P_change : G_after_change [sT s, bkT ns num] = some (.rt (rzT (aChange (pr ns) s)) [.any, .any]) := by
  simp! [G_after_change, g_after_change, P_kind_r, P_waits, P_home_without_r, nK_L, nR_e]
  unfold aChange
  (repeat' split) <;> simp_all [rzT, nR]
theorem P_free : G_after_free [sT s, bkT ns num] = some (.rt (rzT (aFree (pr ns) s)) [.any, .any]) := by
  simp! [G_after_free, g_after_free, P_kind_r, P_kind_c, P_waits, P_home_without_r, nK_F]
  unfold aFree
  (repeat' split) <;> simp_all [rzT, nR]
theorem P_close : G_after_close [sT s, bkT ns num] = some (.rt (rzT (aClose s)) [.any, .any]) := by
  simp! [G_after_close, g_after_close, nC_d, nH_R]
  unfold aClose
  (repeat' split) <;> simp_all [rzT, nR, nC_tC, nH, nY]
theorem P_copy : G_after_copy [sT s, bkT ns num] = some (.rt (rzT (aCopy (pr ns) s)) [.any, .any]) := by
  simp! [G_after_copy, g_after_copy, P_is_due, P_contains, nY_d, nR_e]
  unfold aCopy
  (repeat' split) <;> simp_all [rzT, nR, nY]
theorem P_log : G_log_after_mark [sT s, bkT ns num] = some (.rt (aS (nG (logM (pr ns) s))) [.any, .any]) := by
  simp! [G_log_after_mark, g_log_after_mark, P_is_due, P_contains, nC_e, nC_t, nK_L, nY_p, nG_K]
  unfold logM struck
  (repeat' split) <;> simp_all [nG]
theorem P_mark : G_after_mark [sT s, bkT ns num] = some (.rt (rzT (aMark (pr ns) s)) [.any, .any]) := by
  simp! [G_after_mark, g_after_mark, P_is_due, P_kind_c, P_log, P_contains, nC_d, nC_P, nC_e, nH_C, nH_K, nY_d]
  unfold aMark
  (repeat' split) <;> simp_all [rzT, nC, nY, nH]
theorem P_home : G_after_home [sT s, bkT ns num] = some (.rt (rzT (aHome s)) [.any, .any]) := by
  simp! [G_after_home, g_after_home, nK_L]
  unfold aHome
  (repeat' split) <;> simp_all [rzT, nH]
theorem P_early : G_after_early [sT s, bkT ns num] = some (.rt (rzT (aEarly (pr ns) s)) [.any, .any]) := by
  simp! [G_after_early, g_after_early, P_kind_r, P_content_r, P_contains, nK_L, nX_K]
  unfold aEarly
  have hx : kindR s = .L → nH (xH (contR s)) = nX (contR s) := fun h => nH_xH _ fun q => by rw [contR_d] at q; rw [h] at q; cases q
  (repeat' split) <;> simp_all [rzT]
theorem P_words : G_after_words [sT s, bkT ns num] = some (.rt (rzT (aWords (pr ns) s)) [.any, .any]) := by
  have hx : kindR s = .P → nH (xH (contR s)) = nX (contR s) := fun h => nH_xH _ fun q => by rw [contR_d] at q; rw [h] at q; cases q
  have hc : kindC s = .P → nH (xH (contC s)) = nX (contC s) := fun h => nH_xH _ fun q => by rw [contC_d] at q; rw [h] at q; cases q
  simp! [G_after_words, g_after_words, P_kind_r, P_kind_c, P_content_r, P_content_c, P_contains, nK_P, nK_F, nC_d, nC_e, nX_K, nX_inj]
  unfold aWords keptR
  (repeat' split) <;> simp_all [rzT]
theorem P_room : G_after_room [sT s, bkT ns num] = some (.rt (rzT (aRoom (pr ns) s)) [.any, .any]) := by
  simp! [G_after_room, g_after_room, P_contains, nG_d, nG_K, nH_K]
  unfold aRoom
  (repeat' split) <;> simp_all [rzT, nG]
theorem P_told : G_after_told [sT s, bkT ns num] = some (.rt (rzT (aTold (pr ns) s)) [.any, .any]) := by
  simp! [G_after_told, g_after_told, P_contains, nC_d, nR_e]
  unfold aTold
  (repeat' split) <;> simp_all [rzT]
end
/-! a letter -/
section
inductive Lt | takel | takep | change | free | close | copy | mark | home | early | words | room | told
  deriving DecidableEq
def nL : Lt → Str | .takel => "takel" | .takep => "takep" | .change => "change" | .free => "free" | .close => "close" | .copy => "copy" | .mark => "mark" | .home => "home" | .early => "early" | .words => "words" | .room => "room" | .told => "told"
def aft (p : Str → Bool) (l : Lt) (s : Sx) : Rz := match l with
  | .takel => aTakel s
  | .takep => aTakep p s
  | .change => aChange p s
  | .free => aFree p s
  | .close => aClose s
  | .copy => aCopy p s
  | .mark => aMark p s
  | .home => aHome s
  | .early => aEarly p s
  | .words => aWords p s
  | .room => aRoom p s
  | .told => aTold p s
theorem ok_nK (s : QK) : PyData.strOk (nK s) = true := by cases s <;> decide +kernel
theorem ok_nC (s : QC) : PyData.strOk (nC s) = true := by cases s <;> decide +kernel
theorem ok_nR (s : QR) : PyData.strOk (nR s) = true := by cases s <;> decide +kernel
theorem ok_nH (s : QH) : PyData.strOk (nH s) = true := by cases s <;> decide +kernel
theorem ok_nG (s : QG) : PyData.strOk (nG s) = true := by cases s <;> decide +kernel
theorem ok_nY (s : QY) : PyData.strOk (nY s) = true := by cases s <;> decide +kernel
abbrev dS (s : Sx) : PyData := .tuple [.str (nK s.k), .str (nC s.c), .str (nR s.r), .str (nH s.h), .str (nG s.g), .str (nY s.y)]
theorem sh_dS (s : Sx) : Sh 1 (dS s) := .tup (.cons (.str (ok_nK _)) (.cons (.str (ok_nC _)) (.cons (.str (ok_nR _)) (.cons (.str (ok_nH _)) (.cons (.str (ok_nG _)) (.cons (.str (ok_nY _)) .nil))))))
theorem sh_lost : Sh 1 (.tuple [.str "lost"]) := .tup (.cons (.str (by decide +kernel)) .nil)
theorem FEq_lost (neg : Bool) (s : Sx) : FEq neg (sT s) lostT = some (.bl neg) := by
  have e1 : toD (sT s) = some (dS s) := rfl
  have e2 : toD lostT = some (.tuple [.str "lost"]) := rfl
  unfold FEq
  simp only [e1, e2, ((sh_dS s).mono (by decide : 1 ≤ 64)).shaped, (sh_lost.mono (by decide : 1 ≤ 64)).shaped, PyData.eqv, PyData.eqvAll]
  cases neg <;> simp
theorem FEq_lost2 (neg : Bool) (o : Ow) : FEq neg (.nd .tup o [aS "lost"]) lostT = some (.bl (!neg)) := by
  have e2 : ∀ o, toD (.nd .tup o [aS "lost"]) = some (.tuple [.str "lost"]) := fun _ => rfl
  unfold FEq
  simp only [e2, (sh_lost.mono (by decide : 1 ≤ 64)).shaped, PyData.eqv, PyData.eqvAll]
  cases neg <;> simp
theorem kd_mem (l : Lt) : nL l ∈ kdt_STEPS.map (·.1) := by
  cases l <;> simp [nL, kdt_STEPS]
theorem esc_rz (r : Rz) : esc (rzT r) = true := by cases r <;> rfl
variable (ns : List Str) (num : Int) (s : Sx)
theorem P_after (l : Lt) : G_after [sT s, aS (nL l), bkT ns num] = some (.rt (rzT (aft (pr ns) l s)) [.any, .any, .any]) := by
  have hm := kd_mem l
  cases l
  · have hl : kdt_STEPS.lookup (nL .takel) = some (md_after_takel, G_after_takel) := by rfl
    simp! [G_after, g_after, hm, FEq_lost, sKD, hl, esc_rz, P_takel, aft]
  · have hl : kdt_STEPS.lookup (nL .takep) = some (md_after_takep, G_after_takep) := by rfl
    simp! [G_after, g_after, hm, FEq_lost, sKD, hl, esc_rz, P_takep, aft]
  · have hl : kdt_STEPS.lookup (nL .change) = some (md_after_change, G_after_change) := by rfl
    simp! [G_after, g_after, hm, FEq_lost, sKD, hl, esc_rz, P_change, aft]
  · have hl : kdt_STEPS.lookup (nL .free) = some (md_after_free, G_after_free) := by rfl
    simp! [G_after, g_after, hm, FEq_lost, sKD, hl, esc_rz, P_free, aft]
  · have hl : kdt_STEPS.lookup (nL .close) = some (md_after_close, G_after_close) := by rfl
    simp! [G_after, g_after, hm, FEq_lost, sKD, hl, esc_rz, P_close, aft]
  · have hl : kdt_STEPS.lookup (nL .copy) = some (md_after_copy, G_after_copy) := by rfl
    simp! [G_after, g_after, hm, FEq_lost, sKD, hl, esc_rz, P_copy, aft]
  · have hl : kdt_STEPS.lookup (nL .mark) = some (md_after_mark, G_after_mark) := by rfl
    simp! [G_after, g_after, hm, FEq_lost, sKD, hl, esc_rz, P_mark, aft]
  · have hl : kdt_STEPS.lookup (nL .home) = some (md_after_home, G_after_home) := by rfl
    simp! [G_after, g_after, hm, FEq_lost, sKD, hl, esc_rz, P_home, aft]
  · have hl : kdt_STEPS.lookup (nL .early) = some (md_after_early, G_after_early) := by rfl
    simp! [G_after, g_after, hm, FEq_lost, sKD, hl, esc_rz, P_early, aft]
  · have hl : kdt_STEPS.lookup (nL .words) = some (md_after_words, G_after_words) := by rfl
    simp! [G_after, g_after, hm, FEq_lost, sKD, hl, esc_rz, P_words, aft]
  · have hl : kdt_STEPS.lookup (nL .room) = some (md_after_room, G_after_room) := by rfl
    simp! [G_after, g_after, hm, FEq_lost, sKD, hl, esc_rz, P_room, aft]
  · have hl : kdt_STEPS.lookup (nL .told) = some (md_after_told, G_after_told) := by rfl
    simp! [G_after, g_after, hm, FEq_lost, sKD, hl, esc_rz, P_told, aft]
end
/-! books, drawn numbers (printed from k53i) -/
section
theorem G_pick {fs : List Int} {n : Int} (hf : Feed fs) (hn : 0 < n) : ∃ c fs', G_law_pick [rowT fs, iT n] = some (.rt (iT c) [rowT fs', .any]) ∧ 0 ≤ c ∧ c < n ∧ Feed fs' := by
  cases fs with
  | nil => exact ⟨0, [], by simp! [G_law_pick, g_law_pick], by omega, hn, hf⟩
  | cons x fs =>
    have h0 := (hf.2 x List.mem_cons_self)
    have hp : seqIndex? 0 (fs.length + 1) = some 0 := by simp [seqIndex?]
    have h1 : ¬ ((fs.length : Int) + 1 = 0) := by omega
    exact ⟨x % n, fs, by simp! [G_law_pick, g_law_pick, hp, hn, h1], Int.emod_nonneg _ (by omega), Int.emod_lt_of_pos _ hn, hf.tail⟩
abbrev RL : List Str := ["copies", "mark", "words", "reuse", "late", "revoke", "lapse", "shelve", "frozen", "wait", "room", "told"]
theorem nodup_RL : RL.Nodup := by decide +kernel
theorem sub_filter {α : Type} [DecidableEq α] {l r : List α} (h : List.Sublist l r) : r.Nodup → r.filter (fun x => decide (x ∈ l)) = l := by
  induction h with
  | slnil => intro _; rfl
  | cons a hs ih =>
    intro hn
    rw [List.nodup_cons] at hn
    rw [List.filter_cons_of_neg (by simpa using fun hm => hn.1 (hs.subset hm))]
    exact ih hn.2
  | cons_cons a hs ih =>
    rename_i l1 l2
    intro hn
    rw [List.nodup_cons] at hn
    rw [List.filter_cons_of_pos (by simp)]
    congr 1
    rw [show l2.filter (fun x => decide (x ∈ a :: l1)) = l2.filter (fun x => decide (x ∈ l1)) from List.filter_congr fun x hx => by
      have : x ≠ a := fun e => hn.1 (e ▸ hx)
      simp [this]]
    exact ih hn.2
theorem sub_len {ns : List Str} (h : List.Sublist ns RL) : ns.length ≤ 12 := h.length_le
abbrev lsT (o : Ow) (ns : List Str) : Tr := .nd .lst o (ns.map aS)
theorem kidc_aS (o : Ow) : kid o ∘ aS = aS := rfl
abbrev rlT (o : Ow) : Tr := .nd .tup o [aS "copies", aS "mark", aS "words", aS "reuse", aS "late", aS "revoke", aS "lapse", aS "shelve", aS "frozen", aS "wait", aS "room", aS "told"]
theorem P_law_rules : G_law_rules [] = some (.rt (lsT .own RL) []) := by
  simp! [G_law_rules, g_law_rules]
theorem eqs_all : ∀ xs ys : List Str, PyData.eqvAll (xs.map PyData.str) (ys.map PyData.str) = decide (xs = ys)
  | [], [] => by simp [PyData.eqvAll]
  | [], _ :: _ => by simp [PyData.eqvAll]
  | _ :: _, [] => by simp [PyData.eqvAll]
  | a :: r, b :: t => by
    simp only [List.map_cons, PyData.eqvAll, PyData.eqv, eqs_all r t]
    by_cases h1 : a = b <;> by_cases h2 : r = t <;> simp [h1, h2]
theorem toD_strs (k : Nk) (hk : k = .lst) {o : Ow} (r : List Str) : toD (.nd .lst o (r.map aS)) = some (.list (r.map .str)) := by
  rw [toD, toDL_map (dd := PyData.str) fun x => rfl]
theorem sh_strs {xs : List Str} (h : ∀ x ∈ xs, PyData.strOk x = true) : Sh 1 (.list (xs.map PyData.str)) := .lst fun d hd => by
  obtain ⟨x, hx, rfl⟩ := List.mem_map.mp hd
  exact .str (h x hx)
theorem FEq_strs {neg : Bool} {o o' : Ow} {xs ys : List Str} (hx : ∀ x ∈ xs, PyData.strOk x = true) (hy : ∀ x ∈ ys, PyData.strOk x = true) : FEq neg (.nd .lst o (xs.map aS)) (.nd .lst o' (ys.map aS)) = some (.bl (if neg then !decide (xs = ys) else decide (xs = ys))) := by
  unfold FEq
  simp only [toD_strs .lst rfl, ((sh_strs hx).mono (by decide : 1 ≤ 64)).shaped, ((sh_strs hy).mono (by decide : 1 ≤ 64)).shaped, PyData.eqv, eqs_all, true_and, if_true]
end
/-! books by their names -/
section
def bits : List Str → Int → List Str
  | [], _ => []
  | x :: r, n => if n % 2 = 1 then x :: bits r (n / 2) else bits r (n / 2)
theorem bits_sub : ∀ (xs : List Str) (n : Int), List.Sublist (bits xs n) xs
  | [], _ => List.Sublist.refl _
  | x :: r, n => by
    unfold bits
    split
    · exact (bits_sub r (n / 2)).cons_cons x
    · exact (bits_sub r (n / 2)).cons x
/-- the number of the rules for which p holds; w: the weight of the next one -/
def nB (p : Str → Bool) : List Str → Int → Int → Int
  | [], _, n => n
  | x :: r, w, n => nB p r (w * 2) (if p x then n + w else n)
def dbN (w : Int) : Nat → Int
  | 0 => w
  | n + 1 => dbN (w * 2) n
theorem dbN_s : ∀ (n : Nat) (w : Int), dbN w (n + 1) = dbN w n * 2
  | 0, _ => rfl
  | n + 1, w => by
    show dbN (w * 2) (n + 1) = dbN (w * 2) n * 2
    exact dbN_s n (w * 2)
theorem dbN_le : ∀ n : Nat, n ≤ 11 → 0 ≤ dbN 1 n ∧ dbN 1 n ≤ 2048 := by decide
theorem nB_app (p : Str → Bool) : ∀ (xs : List Str) (x : Str) (w n : Int), nB p (xs ++ [x]) w n = (if p x then nB p xs w n + dbN w xs.length else nB p xs w n)
  | [], x, w, n => by simp [nB, dbN]
  | y :: r, x, w, n => by
    show nB p (r ++ [x]) (w * 2) _ = _
    rw [nB_app p r x]
    rfl
abbrev prs (xs : List Str) (x : Str) : Bool := decide (x ∈ xs)
abbrev numB (xs : List Str) : Int := nB (prs xs) RL 1 0
theorem P_init_l {xs : List Str} (hR : ∀ x ∈ xs, x ∈ RL) (hl : xs.length ≤ 100000) : G_Book_init [.nd (.ins 0 0) .own [], .nd .lst .lnt (xs.map aS)] = some (.rt (.a .non) [.nd (.ins 0 2) .own [namesT (RL.filter fun x => decide (x ∈ xs)), .a (.int (numB xs))], .any]) := by
  obtain ⟨Γ1, ⟨e1, n1, rfl⟩, h1⟩ := loopE_pre (gs := b_Book_init_1) (bd := bind md_Book_init 2) (s := []) (xs := xs) (enc := aS) (.tr (.nd .lst .lnt (xs.map aS))) .lst .lnt
    (fun p Γ => ∃ (e2 : Ent), Nal e2 ∧ Γ = [.tr (.nd (.ins 0 0) .own []), .tr (.nd .lst .lnt (xs.map aS)), e2, .no, .no, .no])
    (fun p Γ ⟨_, _, e⟩ => by rw [e]; rfl) rfl (fun x _ => rfl) (Γ := [.tr (.nd (.ins 0 0) .own []), .tr (.nd .lst .lnt (xs.map aS)), .no, .no, .no, .no])
    (by
      rintro p x q Γ hx ⟨e2, n2, rfl⟩
      have hx : x ∈ RL := hR x (by rw [hx]; simp)
      have hf : FIn true (aS x) (rlT .frz) = some (.bl false) := (FIn_ts (neg := true) (o := .frz) x RL).trans (by rw [decide_eq_true hx]; rfl)
      have hf2 : FIn true (aS x) (rlT .own) = some (.bl false) := (FIn_ts (neg := true) (o := .own) x RL).trans (by rw [decide_eq_true hx]; rfl)
      refine ⟨_, _, by simp! [n2.kr]; rfl, ⟨.tr (aS x), nal_tr, rfl⟩, .inl ?_⟩
      simp! [b_Book_init_1, hf, hf2])
    ⟨.no, nal_no, rfl⟩
  obtain ⟨Γ', ⟨e2, n2, rfl⟩, h2⟩ := loopE_pre (gs := b_Book_init_2) (bd := bind md_Book_init 2) (s := []) (xs := RL) (enc := aS) (.tr (rlT .own)) .tup .own
    (fun p Γ => ∃ (e2 : Ent), Nal e2 ∧ Γ = [.tr (.nd (.ins 0 0) .own []), .tr (.nd .lst .lnt (xs.map aS)), e2, .tr (lsT .own (p.filter fun x => decide (x ∈ xs))), .tr (.a (.int (nB (prs xs) p 1 0))), .tr (.a (.int (dbN 1 p.length)))])
    (fun p Γ ⟨_, _, e⟩ => by rw [e]; rfl) rfl (fun x _ => rfl) (Γ := [.tr (.nd (.ins 0 0) .own []), .tr (.nd .lst .lnt (xs.map aS)), e1, .tr (lsT .own []), .tr (.a (.int 0)), .tr (.a (.int 1))])
    (by
      rintro p x q Γ hx ⟨e2, n2, rfl⟩
      have hl : p.length ≤ 11 := by have := congrArg List.length hx; simp at this; omega
      have hw := dbN_le p.length hl
      have hm : cMul (dbN 1 p.length) 2 = true := decide_eq_true (by unfold CMul; omega)
      have hp : (p.filter fun x => decide (x ∈ xs)).length < sizeLine := by
        have := List.length_filter_le (fun x => decide (x ∈ xs)) p
        have : (100000 : Nat) < sizeLine := by decide
        omega
      have w2 : dbN 1 (p ++ [x]).length = dbN 1 p.length * 2 := by
        rw [List.length_append, List.length_singleton, dbN_s]
      have hnb := nB_app (prs xs) p x 1 0
      rw [List.filter_append, hnb, w2]
      generalize dbN 1 p.length = wt at *
      generalize nB (prs xs) p 1 0 = num at *
      generalize p.filter (fun x => decide (x ∈ xs)) = acc at hp
      by_cases z : x ∈ xs
      · refine ⟨_, _, by simp! [n2.kr]; rfl, ⟨.tr (aS x), nal_tr, rfl⟩, .inl ?_⟩
        simp! [b_Book_init_2, FIn_ls, z, hp, fMul_int hm]
        rw [List.map_append]
        rfl
      · refine ⟨_, _, by simp! [n2.kr]; rfl, ⟨.tr (aS x), nal_tr, rfl⟩, .inl ?_⟩
        simp! [b_Book_init_2, FIn_ls, z, fMul_int hm])
    ⟨e1, n1, rfl⟩
  have h2 : loopE .tup (bind md_Book_init 2) b_Book_init_2 12 0 ⟨[.tr (.nd (.ins 0 0) .own []), .tr (.nd .lst .lnt (xs.map aS)), e1, .tr (.nd .lst .own []), .tr (.a (.int 0)), .tr (.a (.int 1))], [.tr (rlT .own)]⟩ = _ := h2
  rw [show numB xs = nB (prs xs) RL 1 0 from rfl]
  generalize (RL.filter fun x => decide (x ∈ xs)) = R at *
  generalize nB (prs xs) RL 1 0 = N at *
  have hk := kidL_str (o := .lnt) xs
  have hk2 := kidL_str (o := .own) xs
  simp! [G_Book_init, g_Book_init, sFor, h1, h2, n1.kr, n2.kr, kidc_aS, cpL_str, escL_str, hk, hk2]
end
/-! the law's helpers -/
section
def dvN (n : Int) : Nat → Int
  | 0 => n
  | k + 1 => dvN (n / 2) k
theorem dvN_s : ∀ (k : Nat) (n : Int), dvN n (k + 1) = dvN n k / 2
  | 0, _ => rfl
  | k + 1, n => by
    show dvN (n / 2) (k + 1) = dvN (n / 2) k / 2
    exact dvN_s k (n / 2)
theorem bits_app : ∀ (xs : List Str) (x : Str) (n : Int), bits (xs ++ [x]) n = if dvN n xs.length % 2 = 1 then bits xs n ++ [x] else bits xs n
  | [], x, n => by simp [bits, dvN]
  | y :: r, x, n => by
    show bits (y :: (r ++ [x])) n = _
    unfold bits
    rw [bits_app r x]
    show _ = if dvN (n / 2) r.length % 2 = 1 then _ else _
    split <;> split <;> rfl
theorem P_law_names (n : Int) : G_law_names [.a (.int n)] = some (.rt (lsT .own (bits RL n)) [.any]) := by
  obtain ⟨Γ', ⟨e3, n3, rfl⟩, h2⟩ := loopE_pre (gs := b_law_names_1) (bd := bind md_law_names 3) (s := []) (xs := RL) (enc := aS) (.tr (lsT .lnt RL)) .lst .lnt
    (fun p Γ => ∃ e3 : Ent, Nal e3 ∧ Γ = [.tr (.a (.int n)), .tr (lsT .own (bits p n)), .tr (.a (.int (dvN n p.length))), e3])
    (fun p Γ ⟨_, _, e⟩ => by rw [e]; rfl) rfl (fun x _ => rfl) (Γ := [.tr (.a (.int n)), .tr (lsT .own []), .tr (.a (.int n)), .no])
    (by
      rintro p x q Γ hx ⟨e3, n3, rfl⟩
      have hp : (bits p n).length < sizeLine := by
        have h100 : (100000 : Nat) < sizeLine := by decide
        have := (bits_sub p n).length_le
        have := congrArg List.length hx
        simp at this
        omega
      rw [List.length_append, List.length_singleton, dvN_s, bits_app]
      generalize bits p n = acc at *
      generalize dvN n p.length = rest at *
      by_cases z : rest % 2 = 1
      · refine ⟨_, _, by simp! [n3.kr]; rfl, ⟨.tr (aS x), nal_tr, rfl⟩, .inl ?_⟩
        simp! [b_law_names_1, z, hp]
        rw [List.map_append]
        rfl
      · refine ⟨_, _, by simp! [n3.kr]; rfl, ⟨.tr (aS x), nal_tr, rfl⟩, .inl ?_⟩
        simp! [b_law_names_1, z])
    ⟨.no, nal_no, rfl⟩
  have h2 : loopE .lst (bind md_law_names 3) b_law_names_1 12 0 ⟨[.tr (.a (.int n)), .tr (.nd .lst .own []), .tr (.a (.int n)), .no], [.tr (.nd .lst .lnt [aS "copies", aS "mark", aS "words", aS "reuse", aS "late", aS "revoke", aS "lapse", aS "shelve", aS "frozen", aS "wait", aS "room", aS "told"])]⟩ = _ := h2
  generalize bits RL n = R at *
  simp! [G_law_names, g_law_names, P_law_rules, sFor, h2, escL_str]
theorem P_of_number {n : Int} (h0 : 0 ≤ n) (h1 : n < 4096) : G_Book_of_number [.a (.int n)] = some (.rt (bkT (bits RL n) (numB (bits RL n))) [.any]) := by
  obtain ⟨Γ', ⟨e3, n3, rfl⟩, h2⟩ := loopE_pre (gs := b_Book_of_number_1) (bd := bind md_Book_of_number 3) (s := []) (xs := RL) (enc := aS) (.tr (rlT .own)) .tup .own
    (fun p Γ => ∃ e3 : Ent, Nal e3 ∧ Γ = [.tr (.a (.int n)), .tr (lsT .own (bits p n)), .tr (.a (.int (dvN n p.length))), e3])
    (fun p Γ ⟨_, _, e⟩ => by rw [e]; rfl) rfl (fun x _ => rfl) (Γ := [.tr (.a (.int n)), .tr (lsT .own []), .tr (.a (.int n)), .no])
    (by
      rintro p x q Γ hx ⟨e3, n3, rfl⟩
      have hp : (bits p n).length < sizeLine := by
        have h100 : (100000 : Nat) < sizeLine := by decide
        have := (bits_sub p n).length_le
        have := congrArg List.length hx
        simp at this
        omega
      rw [List.length_append, List.length_singleton, dvN_s, bits_app]
      generalize bits p n = acc at *
      generalize dvN n p.length = rest at *
      by_cases z : rest % 2 = 1
      · refine ⟨_, _, by simp! [n3.kr]; rfl, ⟨.tr (aS x), nal_tr, rfl⟩, .inl ?_⟩
        simp! [b_Book_of_number_1, z, hp]
        rw [List.map_append]
        rfl
      · refine ⟨_, _, by simp! [n3.kr]; rfl, ⟨.tr (aS x), nal_tr, rfl⟩, .inl ?_⟩
        simp! [b_Book_of_number_1, z])
    ⟨.no, nal_no, rfl⟩
  have h2 : loopE .tup (bind md_Book_of_number 3) b_Book_of_number_1 12 0 ⟨[.tr (.a (.int n)), .tr (.nd .lst .own []), .tr (.a (.int n)), .no], [.tr (rlT .own)]⟩ = _ := h2
  have hs := bits_sub RL n
  have hi := P_init_l (xs := bits RL n) (fun x hx => hs.subset hx) (by have := sub_len hs; omega)
  rw [sub_filter hs nodup_RL] at hi
  have hk := kidL_str (o := .frz) (bits RL n)
  generalize numB (bits RL n) = N at *
  generalize bits RL n = R at *
  simp! [G_Book_of_number, g_Book_of_number, sFor, h0, h1, h2, hi, hk, kidc_aS, escL_str, cpL_str]
end
/-! the law: kinds, contents -/
section
theorem L_kind_c (s : Sx) : G_law_kind_c [aS (nK s.k), aS (nC s.c)] = some (.rt (aS (nK (kindC s))) [.any, .any]) := by
  obtain ⟨k, c, r, h, g, y⟩ := s
  cases k <;> cases c <;> kernel_rfl
theorem L_kind_r (s : Sx) : G_law_kind_r [aS (nK s.k), aS (nC s.c), aS (nR s.r)] = some (.rt (aS (nK (kindR s))) [.any, .any, .any]) := by
  obtain ⟨k, c, r, h, g, y⟩ := s
  cases k <;> cases c <;> cases r <;> kernel_rfl
theorem L_content_c (s : Sx) : G_law_content_c [sT s] = some (.rt (aS (nX (contC s))) [.any]) := by
  obtain ⟨k, c, r, h, g, y⟩ := s
  cases k <;> cases c <;> kernel_rfl
theorem L_content_r (s : Sx) : G_law_content_r [sT s] = some (.rt (aS (nX (contR s))) [.any]) := by
  obtain ⟨k, c, r, h, g, y⟩ := s
  cases k <;> cases c <;> cases r <;> kernel_rfl
theorem ofs {a b : String} : (Str.ofString a = Str.ofString b) ↔ a = b := by
  constructor
  · intro h
    rw [PySem.Str.ofString_eq_toList, PySem.Str.ofString_eq_toList] at h
    injection h with h1
    have h1 : a.toList.map Char.toNat = b.toList.map Char.toNat := by simpa using h1
    have key : ∀ l l' : List Char, l.map Char.toNat = l'.map Char.toNat → l = l' := by
      intro l
      induction l with
      | nil => intro l' h; cases l' with
        | nil => rfl
        | cons x r => cases h
      | cons x r ih => intro l' h; cases l' with
        | nil => cases h
        | cons y r' =>
          rw [List.map_cons, List.map_cons] at h
          injection h with h3 h4
          rw [ih r' h4, Char.toNat_inj.mp h3]
    exact String.toList_inj.mp (key _ _ h1)
  · intro h
    rw [h]
variable (ns : List Str) (s : Sx)
theorem in_ls (neg : Bool) (o : Ow) (x : Str) : FIn neg (aS x) (lsT o ns) = some (.bl (if neg then !(pr ns x) else pr ns x)) := FIn_ls (neg := neg) (o := o) x ns
def letB (p : Str → Bool) (l : Lt) (s : Sx) : Bool := match aft p l s with
  | .no => false
  | _ => true
theorem L_words_let : G_law_words_let [sT s, lsT .lnt ns] = some (.rt (bT (letB (pr ns) .words s)) [.any, .any]) := by
  have h1 := L_kind_c s
  have h2 := L_kind_r s
  have h3 := L_content_c s
  have h4 := L_content_r s
  have h5 := in_ls ns true .lnt "late"
  simp! [G_law_words_let, g_law_words_let, h1, h2, h3, h4, h5, nK_F, nK_P, nX_K, nX_inj, nC_d, nC_e]
  unfold letB aft aWords keptR
  generalize pr ns "late" = b at *
  clear h1 h2 h3 h4 h5
  obtain ⟨k, c, r, h, g, y⟩ := s
  cases b <;> cases k <;> cases c <;> cases r <;> rfl
theorem L_let (l : Lt) : G_law_let [sT s, aS (nL l), lsT .lnt ns] = some (.rt (bT (letB (pr ns) l s)) [.any, .any, .any]) := by
  have h1 := L_kind_c s
  have h2 := L_kind_r s
  have h4 := L_content_r s
  have hw := L_words_let ns s
  have f1 := in_ls ns true .lnt
  have f2 := in_ls ns false .lnt
  cases l <;> simp! [G_law_let, g_law_let, h1, h2, h4, hw, f1, f2, nK_F, nK_P, nK_L, nX_K, nC_d, nC_t, nC_L, nC_P, nR_e, nH_C, nH_K, nG_d, nG_K, nY_d, nL, ofs]
  all_goals clear h1 h2 h4 hw f1 f2
  all_goals simp only [letB, aft]
  · unfold aTakel
    generalize kindR s = a
    cases a <;> rfl
  · unfold aTakep pr
    generalize kindR s = a
    generalize kindC s = b
    generalize s.k = k
    generalize s.g = g
    generalize decide (("reuse" : Str) ∈ ns) = u
    generalize decide (("shelve" : Str) ∈ ns) = v
    cases a <;> cases b <;> cases k <;> cases g <;> cases u <;> cases v <;> rfl
  · unfold aChange waits due pr
    generalize kindR s = a
    generalize s.c = c
    generalize s.y = y
    generalize decide (("wait" : Str) ∈ ns) = u
    cases a <;> cases c <;> cases y <;> cases u <;> rfl
  · unfold aFree waits due pr
    generalize kindR s = a
    generalize s.c = c
    generalize s.y = y
    generalize decide (("wait" : Str) ∈ ns) = u
    cases a <;> cases c <;> cases y <;> cases u <;> rfl
  · unfold aClose
    generalize s.c = c
    cases c <;> rfl
  · unfold aCopy due
    generalize s.c = c
    generalize s.y = y
    cases c <;> cases y <;> rfl
  · unfold aMark due pr
    generalize s.c = c
    generalize s.y = y
    generalize s.h = h
    generalize decide (("copies" : Str) ∈ ns) = u
    generalize decide (("words" : Str) ∈ ns) = v
    cases c <;> cases y <;> cases h <;> cases u <;> cases v <;> rfl
  · unfold aHome
    generalize s.k = k
    cases k <;> rfl
  · unfold aEarly pr
    generalize kindR s = a
    generalize contR s = x
    generalize decide (("mark" : Str) ∈ ns) = u
    cases a <;> cases x <;> cases u <;> rfl
  · unfold aRoom pr
    generalize s.g = g
    generalize s.h = h
    generalize decide (("room" : Str) ∈ ns) = u
    cases g <;> cases h <;> cases u <;> rfl
  · unfold aTold pr
    generalize s.c = c
    generalize s.r = r
    generalize decide (("told" : Str) ∈ ns) = u
    cases c <;> cases r <;> cases u <;> rfl
end
/-! which signs fit -/
section
def fit (s : Sx) : Bool :=
  ((!decide (s.c = QC.t) || decide (s.k = QK.L)) && (!decide (s.c = QC.F) || !decide (s.k = QK.F)) &&
      ((!decide (s.r = QR.t) || decide (kindC s = QK.L)) && (!decide (s.r = QR.F) || !decide (kindC s = QK.F)) &&
        ((!decide (s.h = QH.K) || !decide (s.k = QK.F)) &&
            ((!decide (s.h = QH.C) || (decide (s.c = QC.t) || (decide (s.c = QC.L) || decide (s.c = QC.P)))) &&
              (!decide (s.h = QH.R) || (decide (s.r = QR.t) || (decide (s.r = QR.L) || decide (s.r = QR.P))))) &&
          ((!decide (s.g = QG.K) || decide (s.k = QK.L)) && (decide (s.y = QY.d) || due s)))))
theorem i_k (o : Ow) (k : QK) : FIn true (aS (nK k)) (.nd .tup o [aS "F", aS "L", aS "P"]) = some (.bl false) := by cases k <;> kernel_rfl
theorem i_c (o : Ow) (c : QC) : FIn true (aS (nC c)) (.nd .tup o [aS "-", aS "=", aS "~", aS "F", aS "L", aS "P"]) = some (.bl false) := by cases c <;> kernel_rfl
theorem i_r (o : Ow) (r : QR) : FIn true (aS (nR r)) (.nd .tup o [aS "=", aS "~", aS "F", aS "L", aS "P"]) = some (.bl false) := by cases r <;> kernel_rfl
theorem i_h (o : Ow) (h : QH) : FIn true (aS (nH h)) (.nd .tup o [aS "K", aS "C", aS "R", aS "o"]) = some (.bl false) := by cases h <;> kernel_rfl
theorem i_g (o : Ow) (g : QG) : FIn true (aS (nG g)) (.nd .tup o [aS "-", aS "K", aS "o"]) = some (.bl false) := by cases g <;> kernel_rfl
theorem i_y (o : Ow) (y : QY) : FIn true (aS (nY y)) (.nd .tup o [aS "-", aS "+", aS "!"]) = some (.bl false) := by cases y <;> kernel_rfl
variable (s : Sx)
theorem P_is_standing : G_is_standing [sT s] = some (.rt (bT (fit s)) [.any]) := by
  have h1 := i_k .own s.k
  have h2 := i_c .own s.c
  have h3 := i_r .own s.r
  have h4 := i_h .own s.h
  have h5 := i_g .own s.g
  have h6 := i_y .own s.y
  have e := P_kind_c s
  have d := P_is_due s
  simp! [G_is_standing, g_is_standing, FEq_lost, sForEnA, loopN, nxEnT, finN, b_is_standing_1, h1, h2, h3, h4, h5, h6, e, d, nK_L, nK_F, nC_t, nC_F, nC_L, nC_P, nR_t, nR_F, nR_L, nR_P, nH_K, nH_C, nH_R, nG_K, nY_d, inv_new]
  rfl
theorem P_st_lost (o : Ow) : G_is_standing [.nd .tup o [aS "lost"]] = some (.rt (bT true) [.any]) := by cases o <;> kernel_rfl
theorem L_same : G_law_same [sT s, sT s] = some (.rt (bT (fit s)) [.any, .any]) := by
  have e := P_is_standing s
  have hs : tyN (.a (.str (nK s.k))) = tyN (aS "x") := rfl
  simp! [G_law_same, g_law_same]
  rw [sForR1_e (n := 6) (Γ := [.tr (sT s), .tr (sT s), .no]) (s := []) (by simp! []) (by decide) (by decide), show (6 : Int).toNat = 6 from rfl]
  simp! [loopR, b_law_same_1, e]
theorem L_same_lost (o : Ow) : G_law_same [.nd .tup o [aS "lost"], .nd .tup .own [aS "lost"]] = some (.rt (bT true) [.any, .any]) := by cases o <;> kernel_rfl
end
/-! what fits stays fit; what the law tells behind a letter -/
section
def allS (P : Sx → Bool) : Bool := [QK.F, .L, .P].all fun k => [QC.d, .e, .t, .F, .L, .P].all fun c => [QR.e, .t, .F, .L, .P].all fun r => [QH.K, .C, .R, .o].all fun h => [QG.d, .K, .o].all fun g => [QY.d, .p, .x].all fun y => P ⟨k, c, r, h, g, y⟩
theorem allS_all {P : Sx → Bool} (h : allS P = true) (s : Sx) : P s = true := by
  obtain ⟨k, c, r, h', g, y⟩ := s
  unfold allS at h
  have h1 := List.all_eq_true.mp h k (by cases k <;> decide)
  have h2 := List.all_eq_true.mp h1 c (by cases c <;> decide)
  have h3 := List.all_eq_true.mp h2 r (by cases r <;> decide)
  have h4 := List.all_eq_true.mp h3 h' (by cases h' <;> decide)
  have h5 := List.all_eq_true.mp h4 g (by cases g <;> decide)
  exact List.all_eq_true.mp h5 y (by cases y <;> decide)
def okR : Rz → Bool
  | .st b => fit b
  | _ => true
def ckF (f : Sx → Rz) : Bool := allS fun s => !fit s || okR (f s)
theorem ckF_use {f : Sx → Rz} (h : ckF f = true) {s : Sx} (hs : fit s = true) : okR (f s) = true := by
  have := allS_all h s
  simpa [hs] using this
def takepB (u v : Bool) (s : Sx) : Rz := if kindR s ≠ .F then .no else if u ∧ (s.k ≠ .F ∨ kindC s ≠ .F) then .no else if v ∧ s.g ≠ .d then .no else .st { s with r := .P }
def waitsB (u : Bool) (s : Sx) : Bool := u && due s && decide (s.y = .d)
def changeB (u : Bool) (s : Sx) : Rz := if kindR s ≠ .L ∨ waitsB u s then .no else .st { s with r := if s.r = .e then .t else s.r, h := noR s.h }
def freeB (u : Bool) (s : Sx) : Rz := if kindR s = .F ∨ waitsB u s then .no else .st { s with r := if kindC s = .F then .e else .F, h := noR s.h }
def copyB (u : Bool) (s : Sx) : Rz := if ¬ due s ∨ s.y ≠ .d then .no else .st { s with y := if u ∨ s.r = .e then .p else .x }
def earlyB (u : Bool) (s : Sx) : Rz := if kindR s ≠ .L ∨ contR s = .K ∨ u then .no else .st { s with h := xH (contR s) }
def wordsB (u : Bool) (s : Sx) : Rz :=
  if kindR s = .P then (if u ∧ ¬ keptR s then .no else .st { s with h := xH (contR s) })
  else if s.c ≠ .d ∧ kindC s = .P then (if u ∧ ¬ (s.k = .F ∨ s.c = .e) then .no else .st { s with h := xH (contC s) }) else .no
def roomB (u : Bool) (s : Sx) : Rz := if s.g = .d ∨ (u ∧ s.g = .K ∧ s.h ≠ .K) then .no else .st { s with g := .d }
def toldB (u : Bool) (s : Sx) : Rz := if s.c = .d ∧ s.r = .e then .st s else if u then .no else .lost
def struckB (w : Bool) (s : Sx) : Bool := decide (s.k = .L) && decide (s.c ≠ .t) && w
def logB (w x : Bool) (s : Sx) : QG := if s.c = .e then s.g else if due s then (if struckB w s ∧ ¬ x then .d else if s.y = .p then .K else .o) else if struckB w s then .d else if s.g = .K then .o else s.g
def markB (w x : Bool) (s : Sx) : Rz := if s.c = .d then .no else .st ⟨kindC s, .d, s.r, if s.h = .C then .K else if s.h = .K ∧ s.c ≠ .e then .o else s.h, logB w x s, .d⟩
theorem k_takel : ckF aTakel = true := by decide +kernel
theorem k_takep : ∀ u v, ckF (takepB u v) = true := by decide +kernel
theorem k_change : ∀ u, ckF (changeB u) = true := by decide +kernel
theorem k_free : ∀ u, ckF (freeB u) = true := by decide +kernel
theorem k_close : ckF aClose = true := by decide +kernel
theorem k_copy : ∀ u, ckF (copyB u) = true := by decide +kernel
theorem k_mark : ∀ w x, ckF (markB w x) = true := by decide +kernel
theorem k_home : ckF aHome = true := by decide +kernel
theorem k_early : ∀ u, ckF (earlyB u) = true := by decide +kernel
theorem k_words : ∀ u, ckF (wordsB u) = true := by decide +kernel
theorem k_room : ∀ u, ckF (roomB u) = true := by decide +kernel
theorem k_told : ∀ u, ckF (toldB u) = true := by decide +kernel
variable (p : Str → Bool) (l : Lt) (s : Sx)
theorem mark_of : okR (markB (p "revoke") (p "lapse") s) = true → okR (aMark p s) = true := by
  intro h
  unfold aMark
  by_cases c : s.c = .d
  · rw [if_pos c]; rfl
  · rw [if_neg c]
    split
    · rfl
    · split
      · rfl
      · unfold markB at h
        rw [if_neg c] at h
        exact h
theorem fit_aft (hs : fit s = true) : okR (aft p l s) = true := by
  cases l
  · exact ckF_use k_takel hs
  · exact ckF_use (k_takep (p "reuse") (p "shelve")) hs
  · exact ckF_use (k_change (p "wait")) hs
  · exact ckF_use (k_free (p "wait")) hs
  · exact ckF_use k_close hs
  · exact ckF_use (k_copy (p "frozen")) hs
  · exact mark_of p s (ckF_use (k_mark (p "revoke") (p "lapse")) hs)
  · exact ckF_use k_home hs
  · exact ckF_use (k_early (p "mark")) hs
  · exact ckF_use (k_words (p "late")) hs
  · exact ckF_use (k_room (p "room")) hs
  · exact ckF_use (k_told (p "told")) hs
end
/-! the law: what is told behind a letter -/
section
variable {Γ S : List Ent}
theorem rp_hR (h : QH) : fRepl "R" "o" ⟨Γ, .tr (aS (nH h)) :: S⟩ = some (.ok ⟨Γ, .tr (aS (nH (noR h))) :: S⟩) := by cases h <;> kernel_rfl
theorem rp_hC (h : QH) : fRepl "R" "C" ⟨Γ, .tr (aS (nH h)) :: S⟩ = some (.ok ⟨Γ, .tr (aS (nH (if h = .R then .C else h))) :: S⟩) := by cases h <;> kernel_rfl
theorem rp_r (r : QR) : fRepl "=" "~" ⟨Γ, .tr (aS (nR r)) :: S⟩ = some (.ok ⟨Γ, .tr (aS (nR (if r = .e then .t else r))) :: S⟩) := by cases r <;> kernel_rfl
theorem rp_g (g : QG) : fRepl "K" "o" ⟨Γ, .tr (aS (nG g)) :: S⟩ = some (.ok ⟨Γ, .tr (aS (nG (if g = .K then .o else g))) :: S⟩) := by cases g <;> kernel_rfl
theorem in_flp (c : QC) : fInSg ⟨Γ, .tr (aS "FLP") :: .tr (aS (nC c)) :: S⟩ = some (.ok ⟨Γ, .tr (bT (decide (c = .F) || (decide (c = .L) || decide (c = .P)))) :: S⟩) := by cases c <;> kernel_rfl
variable (ns : List Str) (s : Sx)
theorem L_log (hc : s.c ≠ .d) : G_law_log [sT s, lsT .lnt ns] = some (.rt (aS (nG (logM (pr ns) s))) [.any, .any]) := by
  have f1 := in_ls ns true .lnt
  have f2 := in_ls ns false .lnt
  simp! [G_law_log, g_law_log, f1, f2, rp_g, in_flp, nK_L, nC_e, nC_t, nC_L, nY_p, ofs]
  unfold logM struck due pr
  obtain ⟨k, c, r, h, g, y⟩ := s
  by_cases hu : ("revoke" : Str) ∈ ns <;> by_cases hv : ("lapse" : Str) ∈ ns <;> cases k <;> cases c <;> cases y <;> first | exact absurd rfl hc | simp [hu, hv, nG] | (cases g <;> simp [hu, hv, nG])
theorem L_marked (hc : s.c ≠ .d) : G_law_marked [sT s, lsT .lnt ns] = some (.rt (sT ⟨kindC s, .d, s.r, if s.h = .C then .K else if s.h = .K ∧ s.c ≠ .e then .o else s.h, logM (pr ns) s, .d⟩) [.any, .any]) := by
  have h1 := L_kind_c s
  have h2 := L_log ns s hc
  simp! [G_law_marked, g_law_marked, h1, h2, nH_C, nH_K, nC_e, ofs]
  by_cases a : s.h = .C
  · simp [a, nH, nC, nY]
  · by_cases b : s.h = .K ∧ s.c ≠ .e
    · simp [a, b, nH, nC, nY]
    · simp [a, b, nH, nC, nY]
theorem xHR (h : kindR s ≠ .F) : nX (contR s) = nH (xH (contR s)) := (nH_xH _ fun q => h ((contR_d s).mp q)).symm
theorem xHC (h : kindC s ≠ .F) : nX (contC s) = nH (xH (contC s)) := (nH_xH _ fun q => h ((contC_d s).mp q)).symm
def rzB : Rz → Tr
  | .no => .any
  | .lost => .nd .tup .own [aS "lost"]
  | .st b => sT b
theorem L_behind (l : Lt) (h : letB (pr ns) l s = true) : G_law_behind [sT s, aS (nL l), lsT .lnt ns] = some (.rt (rzB (aft (pr ns) l s)) [.any, .any, .any]) := by
  have h1 := L_kind_c s
  have h2 := L_kind_r s
  have h3 := L_content_c s
  have h4 := L_content_r s
  have f2 := in_ls ns false .lnt
  have lg := L_marked ns s
  have xr := xHR s
  have xc := xHC s
  cases l
  · simp! [G_law_behind, g_law_behind, rp_hR, ofs, nL]
    simp only [letB, aft, aTakel] at h ⊢
    (repeat' split) <;> simp_all [rzB, nR]
  · simp! [G_law_behind, g_law_behind, rp_hR, ofs, nL]
    simp only [letB, aft, aTakep] at h ⊢
    (repeat' split) <;> simp_all [rzB, nR]
  · simp! [G_law_behind, g_law_behind, rp_hR, rp_r, ofs, nL]
    simp only [letB, aft, aChange] at h ⊢
    (repeat' split) <;> simp_all [rzB, nR]
  · simp! [G_law_behind, g_law_behind, rp_hR, ofs, nL, h1, nK_F]
    simp only [letB, aft, aFree] at h ⊢
    (repeat' split) <;> simp_all [rzB, nR]
  · simp! [G_law_behind, g_law_behind, rp_hR, rp_hC, ofs, nL]
    simp only [letB, aft, aClose] at h ⊢
    (repeat' split) <;> simp_all [rzB, nR, nC_tC, nY]
  · simp! [G_law_behind, g_law_behind, rp_hR, ofs, nL, f2, nR_e]
    simp only [letB, aft, aCopy] at h ⊢
    (repeat' split) <;> simp_all [rzB, nR, nY]
  · have hc : s.c ≠ .d := fun q => by
      simp [letB, aft, aMark, q] at h
    have lg := lg hc
    simp! [G_law_behind, g_law_behind, rp_hR, ofs, nL, lg]
    simp only [letB, aft, aMark] at h ⊢
    (repeat' split) <;> simp_all [rzB, nR, nY]
  · simp! [G_law_behind, g_law_behind, rp_hR, ofs, nL]
    simp only [letB, aft, aHome] at h ⊢
    (repeat' split) <;> simp_all [rzB, nR, nH]
  · simp! [G_law_behind, g_law_behind, rp_hR, ofs, nL, h4]
    simp only [letB, aft, aEarly] at h ⊢
    (repeat' split) <;> simp_all [rzB, nR, nH]
  · simp! [G_law_behind, g_law_behind, rp_hR, ofs, nL, h2, h3, h4, nK_P]
    simp only [letB, aft, aWords] at h ⊢
    (repeat' split) <;> simp_all [rzB, nR, nH]
  · simp! [G_law_behind, g_law_behind, rp_hR, ofs, nL]
    simp only [letB, aft, aRoom] at h ⊢
    (repeat' split) <;> simp_all [rzB, nG]
  · simp! [G_law_behind, g_law_behind, rp_hR, ofs, nL, nC_d, nR_e]
    simp only [letB, aft, aTold] at h ⊢
    (repeat' split) <;> simp_all [rzB, nG]
end
/-! each letter is good; unknown letters -/
section
variable (ns : List Str) (num : Int) (s : Sx) (l : Lt)
theorem L_letter_good (hs : fit s = true) : G_law_letter_good [sT s, aS (nL l), lsT .lnt ns, bkT ns num] = some (.rt (bT true) [.any, .any, .any, .any]) := by
  have pa := P_after ns num s l
  have pl := L_let ns s l
  have pf := fit_aft (pr ns) l s hs
  cases hz : aft (pr ns) l s with
  | no =>
    have hl : letB (pr ns) l s = false := by unfold letB; rw [hz]
    rw [hz] at pa
    rw [hl] at pl
    simp! [G_law_letter_good, g_law_letter_good, pa, pl, rzT]
  | lost =>
    have hl : letB (pr ns) l s = true := by unfold letB; rw [hz]
    have pb := L_behind ns s l hl
    rw [hz] at pa pb
    rw [hl] at pl
    have ls := L_same_lost .own
    have ls2 := L_same_lost .frz
    simp only [rzT] at pa
    simp only [rzB] at pb
    simp! [G_law_letter_good, g_law_letter_good, pa, pl, pb, ls, ls2]
  | st b =>
    have hl : letB (pr ns) l s = true := by unfold letB; rw [hz]
    have pb := L_behind ns s l hl
    rw [hz] at pa pb pf
    rw [hl] at pl
    have ls := L_same b
    have hf : fit b = true := pf
    rw [hf] at ls
    simp only [rzT] at pa
    simp only [rzB] at pb
    simp! [G_law_letter_good, g_law_letter_good, pa, pl, pb, ls]
abbrev lostO : Tr := .nd .tup .own [aS "lost"]
theorem P_after_lost : G_after [lostO, aS (nL l), bkT ns num] = some (.rt (.a .non) [.any, .any, .any]) := by
  have hm := kd_mem l
  have h := FEq_lost2 false .own
  simp! [G_after, g_after, hm, h]
def badL : List Str := ["", "takes", "Close", "close ", "lost", "copies", "take"]
theorem bad_no : ∀ x ∈ badL, x ∉ kdt_STEPS.map (·.1) := by
  unfold badL kdt_STEPS
  decide +kernel
theorem P_after_bad {t : Tr} {x : Str} (hx : x ∈ badL) : G_after [t, aS x, bkT ns num] = some (.ex 0 [.any, .any, .any]) := by
  have hm := bad_no x hx
  simp! [G_after, g_after, hm]
theorem L_raises {x : Str} (hx : x ∈ badL) : G_law_raises [sT s, aS x, bkT ns num] = some (.rt (bT true) [.any, .any, .any]) := by
  have h := P_after_bad ns num (t := sT s) hx
  simp! [G_law_raises, g_law_raises]
  rw [sTry_ex (C := 0) (g' := [.tr (sT s), .tr (aS x), .tr (bkT ns num), .no]) (o := .rt (bT true) ⟨[.tr (sT s), .tr (aS x), .tr (bkT ns num), .no], []⟩) rfl (by simp! [h]) rfl (fun a => by simp! [suR, suC, gIsE])]
  simp! []
theorem L_raises2 {x : Str} (hx : x ∈ badL) : G_law_raises [lostO, aS x, bkT ns num] = some (.rt (bT true) [.any, .any, .any]) := by
  have h := P_after_bad ns num (t := lostO) hx
  simp! [G_law_raises, g_law_raises]
  rw [sTry_ex (C := 0) (g' := [.tr lostO, .tr (aS x), .tr (bkT ns num), .no]) (o := .rt (bT true) ⟨[.tr lostO, .tr (aS x), .tr (bkT ns num), .no], []⟩) rfl (by simp! [h]) rfl (fun a => by simp! [suR, suC, gIsE])]
  simp! []
def letL : List Str := ["takel", "takep", "change", "free", "close", "copy", "mark", "home", "early", "words", "room", "told"]
def letS : List Lt := [.takel, .takep, .change, .free, .close, .copy, .mark, .home, .early, .words, .room, .told]
theorem G_letters : G_law_letters [] = some (.rt (lsT .own letL) []) := by kernel_rfl
theorem P_let_letters : G_let_letters [sT s, bkT ns num] = some (.rt (lsT .own ((letS.filter fun l => letB (pr ns) l s).map nL)) [.any, .any]) := by
  unfold G_let_letters g_let_letters
  simp! []
  have hg : ∀ Γ S, gCon (.nd .tup .frz [(.a (.str "takel")), (.a (.str "takep")), (.a (.str "change")), (.a (.str "free")), (.a (.str "close")), (.a (.str "copy")), (.a (.str "mark")), (.a (.str "home")), (.a (.str "early")), (.a (.str "words")), (.a (.str "room")), (.a (.str "told"))]) ⟨Γ, S⟩ = some (.ok ⟨Γ, .tr (.nd .tup .frz (letS.map fun l => aS (nL l))) :: S⟩) := fun Γ S => rfl
  rw [gLcP_is (xs := letS) (enc := fun l => aS (nL l)) (.tr (.nd .tup .frz (letS.map fun l => aS (nL l)))) (.tr (.nd .tup .own (letS.map fun l => aS (nL l)))) .tup .own (hg _ _) (by rfl) (by rfl) (by rfl) (by decide) rfl rfl rfl rfl rfl (fun x _ => rfl) (fun l => letB (pr ns) l s) (fun l => aS (nL l))
    (fun x _ s' => by
      have pa := P_after ns num s x
      simp! [t_let_letters_1, pa]
      unfold letB
      cases aft (pr ns) x s <;> rfl)
    (fun x _ s' _ => ⟨by simp! [e_let_letters_1], rfl⟩)]
  simp! []
end
/-! the law: what is drawn (printed by gen_k52f.py) -/
section
def cL (k : QK) : List QC := [.d, .e, .L, .P] ++ (if k ≠ .F then [.F] else []) ++ (if k = .L then [.t] else [])
def rL (b : QK) : List QR := [.e, .L, .P] ++ (if b ≠ .F then [.F] else []) ++ (if b = .L then [.t] else [])
def hL (k : QK) (c : QC) (r : QR) : List QH := [.o] ++ (if k ≠ .F then [.K] else []) ++ (if newC c = true then [.C] else []) ++ (if newR r = true then [.R] else [])
def gL (k : QK) : List QG := [.d, .o] ++ (if k = .L then [.K] else [])
def yL (c : QC) : List QY := [.d] ++ (if c = .t ∨ c = .L then [.p, .x] else [])
variable {fs : List Int}
theorem L_one {α : Type} (f : α → Str) (xs : List α) (hf : Feed fs) (h : 0 < xs.length) (hl : xs.length ≤ 100) : ∃ x fs', x ∈ xs ∧ G_law_one [rowT fs, .nd .lst .lnt (xs.map (aS ∘ f))] = some (.rt (aS (f x)) [rowT fs', .any]) ∧ Feed fs' := by
  obtain ⟨c, fs', hp, c0, c1, hf'⟩ := G_pick (n := (xs.length : Int)) hf (by omega)
  have hi := ixN_len (n := xs.length) (i := c) c0 c1
  have hx : xs[c.toNat]? = some (xs[c.toNat]'(by omega)) := List.getElem?_eq_getElem (by omega)
  refine ⟨xs[c.toNat]'(by omega), fs', List.getElem_mem _, ?_, hf'⟩
  have hx2 : (xs.map (aS ∘ f))[c.toNat]? = some (aS (f (xs[c.toNat]'(by omega)))) := by rw [List.getElem?_map, hx]; rfl
  have hlen : (xs.map (aS ∘ f)).length = xs.length := by rw [List.length_map]
  generalize xs.map (aS ∘ f) = ts at *
  simp! [G_law_one, g_law_one, hlen, hp, hi, hx2]
def dE0 : GS := (sSet md_law_drawn 1 (gSeq (gSeq (gC (.str "FLP")) (gSeq (gSeq (gVar 0) (gSeq (gC (.int 3)) gNil)) (gCall [0] md_law_pick G_law_pick 2))) fIxS))
def lE1 : GE := (gSeq (gSeq (gSeq (gSeq (gSeq (gSeq (gC (.str "-")) (gSeq (gC (.str "=")) (gSeq (gC (.str "L")) (gSeq (gC (.str "P")) gNil)))) (fNew .lst 4)) (gLc [3] (gSeq (gSeq (gSeq (gVar 1) (fMv md_law_drawn)) gNil) (fNew .lst 1)) (bind md_law_drawn 3) t_law_drawn_1 e_law_drawn_1)) fAdd) (gLc [3] (gSeq (gSeq (gSeq (gVar 1) (fMv md_law_drawn)) gNil) (fNew .lst 1)) (bind md_law_drawn 3) t_law_drawn_2 e_law_drawn_2)) fAdd)
def dE1 : GS := (sSet md_law_drawn 2 (gSeq (gSeq (gVar 0) (gSeq lE1 gNil)) (gCall [0] md_law_one G_law_one 2)))
def dE2 : GS := (sSet md_law_drawn 4 (gSeq (gSeq (gVar 1) (gSeq (gVar 2) gNil)) (gCall [] md_law_kind_c G_law_kind_c 2)))
def lE3 : GE := (gSeq (gSeq (gSeq (gSeq (gSeq (gSeq (gC (.str "=")) (gSeq (gC (.str "L")) (gSeq (gC (.str "P")) gNil))) (fNew .lst 3)) (gLc [3] (gSeq (gSeq (gSeq (gVar 4) (fMv md_law_drawn)) gNil) (fNew .lst 1)) (bind md_law_drawn 3) t_law_drawn_3 e_law_drawn_3)) fAdd) (gLc [3] (gSeq (gSeq (gSeq (gVar 4) (fMv md_law_drawn)) gNil) (fNew .lst 1)) (bind md_law_drawn 3) t_law_drawn_4 e_law_drawn_4)) fAdd)
def dE3 : GS := (sSet md_law_drawn 5 (gSeq (gSeq (gVar 0) (gSeq lE3 gNil)) (gCall [0] md_law_one G_law_one 2)))
def lE4 : GE := (gSeq (gSeq (gSeq (gSeq (gSeq (gSeq (gSeq (gSeq (gC (.str "o")) gNil) (fNew .lst 1)) (gLc [3] (gSeq (gSeq (gSeq (gVar 1) (fMv md_law_drawn)) gNil) (fNew .lst 1)) (bind md_law_drawn 3) t_law_drawn_5 e_law_drawn_5)) fAdd) (gLc [3] (gSeq (gSeq (gSeq (gVar 2) (fMv md_law_drawn)) gNil) (fNew .lst 1)) (bind md_law_drawn 3) t_law_drawn_6 e_law_drawn_6)) fAdd) (gLc [3] (gSeq (gSeq (gSeq (gVar 5) (fMv md_law_drawn)) gNil) (fNew .lst 1)) (bind md_law_drawn 3) t_law_drawn_7 e_law_drawn_7)) fAdd)
def dE4 : GS := (sSet md_law_drawn 6 lE4)
def dE5 : GS := (sSet md_law_drawn 7 (gSeq (gSeq (gVar 0) (gSeq (gVar 6) gNil)) (gCall [0] md_law_one G_law_one 2)))
def lE6 : GE := (gSeq (gSeq (gSeq (gSeq (gC (.str "-")) (gSeq (gC (.str "o")) gNil)) (fNew .lst 2)) (gLc [3] (gSeq (gSeq (gSeq (gVar 1) (fMv md_law_drawn)) gNil) (fNew .lst 1)) (bind md_law_drawn 3) t_law_drawn_8 e_law_drawn_8)) fAdd)
def dE6 : GS := (sSet md_law_drawn 8 (gSeq (gSeq (gVar 0) (gSeq lE6 gNil)) (gCall [0] md_law_one G_law_one 2)))
def lE7 : GE := (gSeq (gSeq (gSeq (gSeq (gC (.str "-")) gNil) (fNew .lst 1)) (gLcS [10] (gC (.str "+!")) (bind md_law_drawn 10) t_law_drawn_9 e_law_drawn_9)) fAdd)
def dE7 : GS := (sSet md_law_drawn 9 (gSeq (gSeq (gVar 0) (gSeq lE7 gNil)) (gCall [0] md_law_one G_law_one 2)))
def dE8 : GS := (sRet (gSeq (gSeq (gSeq (gVar 1) (fMv md_law_drawn)) (gSeq (gSeq (gVar 2) (fMv md_law_drawn)) (gSeq (gSeq (gVar 5) (fMv md_law_drawn)) (gSeq (gSeq (gVar 7) (fMv md_law_drawn)) (gSeq (gSeq (gVar 8) (fMv md_law_drawn)) (gSeq (gSeq (gVar 9) (fMv md_law_drawn)) gNil)))))) (fNew .tup 6)))
theorem e_drawn : g_law_drawn = (sSeq dE0 (sSeq dE1 (sSeq dE2 (sSeq dE3 (sSeq dE4 (sSeq dE5 (sSeq dE6 (sSeq dE7 dE8)))))))) := rfl
variable {k b : QK} {c : QC} {r : QR} {h : QH} {g : QG} {y : QY} {S : List Ent}
theorem dE0_e (hf : Feed fs) : ∃ k fs', dE0 ⟨[.tr (rowT fs), .no, .no, .no, .no, .no, .no, .no, .no, .no, .no], []⟩ = some (.nx ⟨[.tr (rowT fs'), .tr (aS (nK k)), .no, .no, .no, .no, .no, .no, .no, .no, .no], []⟩) ∧ Feed fs' := by
  obtain ⟨i, fs', hp, i0, i1, hf'⟩ := G_pick (n := 3) hf (by decide)
  have hh : i = 0 ∨ i = 1 ∨ i = 2 := by omega
  have x0 : ∀ {Γ S}, fIxS ⟨Γ, .tr (iT 0) :: .tr (aS "FLP") :: S⟩ = some (.ok ⟨Γ, .tr (aS (nK .F)) :: S⟩) := fun {Γ S} => by kernel_rfl
  have x1 : ∀ {Γ S}, fIxS ⟨Γ, .tr (iT 1) :: .tr (aS "FLP") :: S⟩ = some (.ok ⟨Γ, .tr (aS (nK .L)) :: S⟩) := fun {Γ S} => by kernel_rfl
  have x2 : ∀ {Γ S}, fIxS ⟨Γ, .tr (iT 2) :: .tr (aS "FLP") :: S⟩ = some (.ok ⟨Γ, .tr (aS (nK .P)) :: S⟩) := fun {Γ S} => by kernel_rfl
  rcases hh with rfl | rfl | rfl
  · exact ⟨.F, fs', by simp! [dE0, hp, x0], hf'⟩
  · exact ⟨.L, fs', by simp! [dE0, hp, x1], hf'⟩
  · exact ⟨.P, fs', by simp! [dE0, hp, x2], hf'⟩
theorem lE1_e : lE1 ⟨[.tr (rowT fs), .tr (aS (nK k)), .no, .no, .no, .no, .no, .no, .no, .no, .no], [.al [0]]⟩ = some (.ok ⟨[.tr (rowT fs), .tr (aS (nK k)), .no, .no, .no, .no, .no, .no, .no, .no, .no], .tr (.nd .lst .own ((cL k).map (aS ∘ nC))) :: [.al [0]]⟩) := by
  cases k <;> kernel_rfl
theorem dE1_e (hf : Feed fs) : ∃ c fs', c ∈ cL k ∧ dE1 ⟨[.tr (rowT fs), .tr (aS (nK k)), .no, .no, .no, .no, .no, .no, .no, .no, .no], []⟩ = some (.nx ⟨[.tr (rowT fs'), .tr (aS (nK k)), .tr (aS (nC c)), .no, .no, .no, .no, .no, .no, .no, .no], []⟩) ∧ Feed fs' := by
  obtain ⟨c, fs', h1, hp, hf'⟩ := L_one nC (cL k) hf (by cases k <;> decide) (by cases k <;> decide)
  refine ⟨c, fs', h1, ?_, hf'⟩
  have hl := @lE1_e fs k
  simp! [dE1, hl, hp]
theorem dE2_e (s : Sx) (hk : s.k = k) (hc : s.c = c) : dE2 ⟨[.tr (rowT fs), .tr (aS (nK k)), .tr (aS (nC c)), .no, .no, .no, .no, .no, .no, .no, .no], []⟩ = some (.nx ⟨[.tr (rowT fs), .tr (aS (nK k)), .tr (aS (nC c)), .no, .tr (aS (nK (kindC s))), .no, .no, .no, .no, .no, .no], []⟩) := by
  subst hk hc
  have h1 := L_kind_c s
  simp! [dE2, h1]
theorem lE3_e : lE3 ⟨[.tr (rowT fs), .tr (aS (nK k)), .tr (aS (nC c)), .no, .tr (aS (nK b)), .no, .no, .no, .no, .no, .no], [.al [0]]⟩ = some (.ok ⟨[.tr (rowT fs), .tr (aS (nK k)), .tr (aS (nC c)), .no, .tr (aS (nK b)), .no, .no, .no, .no, .no, .no], .tr (.nd .lst .own ((rL b).map (aS ∘ nR))) :: [.al [0]]⟩) := by
  cases b <;> kernel_rfl
theorem dE3_e (hf : Feed fs) : ∃ r fs', r ∈ rL b ∧ dE3 ⟨[.tr (rowT fs), .tr (aS (nK k)), .tr (aS (nC c)), .no, .tr (aS (nK b)), .no, .no, .no, .no, .no, .no], []⟩ = some (.nx ⟨[.tr (rowT fs'), .tr (aS (nK k)), .tr (aS (nC c)), .no, .tr (aS (nK b)), .tr (aS (nR r)), .no, .no, .no, .no, .no], []⟩) ∧ Feed fs' := by
  obtain ⟨r, fs', h1, hp, hf'⟩ := L_one nR (rL b) hf (by cases b <;> decide) (by cases b <;> decide)
  refine ⟨r, fs', h1, ?_, hf'⟩
  have hl := @lE3_e fs k b c
  simp! [dE3, hl, hp]
theorem lE4_e : lE4 ⟨[.tr (rowT fs), .tr (aS (nK k)), .tr (aS (nC c)), .no, .tr (aS (nK b)), .tr (aS (nR r)), .no, .no, .no, .no, .no], []⟩ = some (.ok ⟨[.tr (rowT fs), .tr (aS (nK k)), .tr (aS (nC c)), .no, .tr (aS (nK b)), .tr (aS (nR r)), .no, .no, .no, .no, .no], .tr (.nd .lst .own ((hL k c r).map (aS ∘ nH))) :: []⟩) := by
  cases k <;> cases c <;> cases r <;> kernel_rfl
theorem dE4_e : dE4 ⟨[.tr (rowT fs), .tr (aS (nK k)), .tr (aS (nC c)), .no, .tr (aS (nK b)), .tr (aS (nR r)), .no, .no, .no, .no, .no], []⟩ = some (.nx ⟨[.tr (rowT fs), .tr (aS (nK k)), .tr (aS (nC c)), .no, .tr (aS (nK b)), .tr (aS (nR r)), .tr (.nd .lst .own ((hL k c r).map (aS ∘ nH))), .no, .no, .no, .no], []⟩) := by
  have hl := @lE4_e fs k b c r
  simp! [dE4, hl]
theorem dE5_e (hf : Feed fs) : ∃ h fs', h ∈ hL k c r ∧ dE5 ⟨[.tr (rowT fs), .tr (aS (nK k)), .tr (aS (nC c)), .no, .tr (aS (nK b)), .tr (aS (nR r)), .tr (.nd .lst .own ((hL k c r).map (aS ∘ nH))), .no, .no, .no, .no], []⟩ = some (.nx ⟨[.tr (rowT fs'), .tr (aS (nK k)), .tr (aS (nC c)), .no, .tr (aS (nK b)), .tr (aS (nR r)), .tr (.nd .lst .own ((hL k c r).map (aS ∘ nH))), .tr (aS (nH h)), .no, .no, .no], []⟩) ∧ Feed fs' := by
  obtain ⟨h, fs', h1, hp, hf'⟩ := L_one nH (hL k c r) hf (by cases k <;> cases c <;> cases r <;> decide) (by cases k <;> cases c <;> cases r <;> decide)
  refine ⟨h, fs', h1, ?_, hf'⟩
  simp! [dE5, hp]
theorem lE6_e : lE6 ⟨[.tr (rowT fs), .tr (aS (nK k)), .tr (aS (nC c)), .no, .tr (aS (nK b)), .tr (aS (nR r)), .tr (.nd .lst .own ((hL k c r).map (aS ∘ nH))), .tr (aS (nH h)), .no, .no, .no], [.al [0]]⟩ = some (.ok ⟨[.tr (rowT fs), .tr (aS (nK k)), .tr (aS (nC c)), .no, .tr (aS (nK b)), .tr (aS (nR r)), .tr (.nd .lst .own ((hL k c r).map (aS ∘ nH))), .tr (aS (nH h)), .no, .no, .no], .tr (.nd .lst .own ((gL k).map (aS ∘ nG))) :: [.al [0]]⟩) := by
  cases k <;> kernel_rfl
theorem dE6_e (hf : Feed fs) : ∃ g fs', g ∈ gL k ∧ dE6 ⟨[.tr (rowT fs), .tr (aS (nK k)), .tr (aS (nC c)), .no, .tr (aS (nK b)), .tr (aS (nR r)), .tr (.nd .lst .own ((hL k c r).map (aS ∘ nH))), .tr (aS (nH h)), .no, .no, .no], []⟩ = some (.nx ⟨[.tr (rowT fs'), .tr (aS (nK k)), .tr (aS (nC c)), .no, .tr (aS (nK b)), .tr (aS (nR r)), .tr (.nd .lst .own ((hL k c r).map (aS ∘ nH))), .tr (aS (nH h)), .tr (aS (nG g)), .no, .no], []⟩) ∧ Feed fs' := by
  obtain ⟨g, fs', h1, hp, hf'⟩ := L_one nG (gL k) hf (by cases k <;> decide) (by cases k <;> decide)
  refine ⟨g, fs', h1, ?_, hf'⟩
  have hl := @lE6_e fs k b c r h
  simp! [dE6, hl, hp]
theorem lE7_e : lE7 ⟨[.tr (rowT fs), .tr (aS (nK k)), .tr (aS (nC c)), .no, .tr (aS (nK b)), .tr (aS (nR r)), .tr (.nd .lst .own ((hL k c r).map (aS ∘ nH))), .tr (aS (nH h)), .tr (aS (nG g)), .no, .no], [.al [0]]⟩ = some (.ok ⟨[.tr (rowT fs), .tr (aS (nK k)), .tr (aS (nC c)), .no, .tr (aS (nK b)), .tr (aS (nR r)), .tr (.nd .lst .own ((hL k c r).map (aS ∘ nH))), .tr (aS (nH h)), .tr (aS (nG g)), .no, .no], .tr (.nd .lst .own ((yL c).map (aS ∘ nY))) :: [.al [0]]⟩) := by
  cases c <;> kernel_rfl
theorem dE7_e (hf : Feed fs) : ∃ y fs', y ∈ yL c ∧ dE7 ⟨[.tr (rowT fs), .tr (aS (nK k)), .tr (aS (nC c)), .no, .tr (aS (nK b)), .tr (aS (nR r)), .tr (.nd .lst .own ((hL k c r).map (aS ∘ nH))), .tr (aS (nH h)), .tr (aS (nG g)), .no, .no], []⟩ = some (.nx ⟨[.tr (rowT fs'), .tr (aS (nK k)), .tr (aS (nC c)), .no, .tr (aS (nK b)), .tr (aS (nR r)), .tr (.nd .lst .own ((hL k c r).map (aS ∘ nH))), .tr (aS (nH h)), .tr (aS (nG g)), .tr (aS (nY y)), .no], []⟩) ∧ Feed fs' := by
  obtain ⟨y, fs', h1, hp, hf'⟩ := L_one nY (yL c) hf (by cases c <;> decide) (by cases c <;> decide)
  refine ⟨y, fs', h1, ?_, hf'⟩
  have hl := @lE7_e fs k b c r h g
  simp! [dE7, hl, hp]
theorem fit_drawn (s : Sx) (hc : s.c ∈ cL s.k) (hr : s.r ∈ rL (kindC s)) (hh : s.h ∈ hL s.k s.c s.r) (hg : s.g ∈ gL s.k) (hy : s.y ∈ yL s.c) : fit s = true := by
  have key : allS (fun s => !(decide (s.c ∈ cL s.k) && (decide (s.r ∈ rL (kindC s)) && (decide (s.h ∈ hL s.k s.c s.r) && (decide (s.g ∈ gL s.k) && decide (s.y ∈ yL s.c))))) || fit s) = true := by decide +kernel
  have := allS_all key s
  simpa [hc, hr, hh, hg, hy] using this
end
/-! the law: a standing drawn; spoilt ones -/
section
variable {fs : List Int} (s : Sx)
theorem L_drawn (hf : Feed fs) : ∃ s fs', fit s = true ∧ Feed fs' ∧ G_law_drawn [rowT fs] = some (.rt (sT s) [rowT fs']) := by
  obtain ⟨k, f1, e0, hf⟩ := dE0_e hf
  obtain ⟨c, f2, hc, e1, hf⟩ := dE1_e (k := k) hf
  have e2 := dE2_e (fs := f2) (k := k) (c := c) ⟨k, c, .e, .o, .d, .d⟩ rfl rfl
  obtain ⟨r, f3, hr, e3, hf⟩ := dE3_e (k := k) (c := c) (b := kindC ⟨k, c, .e, .o, .d, .d⟩) hf
  have e4 := dE4_e (fs := f3) (k := k) (c := c) (b := kindC ⟨k, c, .e, .o, .d, .d⟩) (r := r)
  obtain ⟨h, f4, hh, e5, hf⟩ := dE5_e (k := k) (c := c) (b := kindC ⟨k, c, .e, .o, .d, .d⟩) (r := r) hf
  obtain ⟨g, f5, hg, e6, hf⟩ := dE6_e (k := k) (c := c) (b := kindC ⟨k, c, .e, .o, .d, .d⟩) (r := r) (h := h) hf
  obtain ⟨y, f6, hy, e7, hf⟩ := dE7_e (k := k) (c := c) (b := kindC ⟨k, c, .e, .o, .d, .d⟩) (r := r) (h := h) (g := g) hf
  refine ⟨⟨k, c, r, h, g, y⟩, f6, fit_drawn _ hc hr hh hg hy, hf, ?_⟩
  unfold G_law_drawn
  rw [e_drawn, runF_e]
  show fR md_law_drawn (sSeq dE0 _ ⟨[.tr (rowT fs), .no, .no, .no, .no, .no, .no, .no, .no, .no, .no], []⟩) = _
  rw [sSeq_e, e0, bS_nx, sSeq_e, e1, bS_nx, sSeq_e, e2, bS_nx, sSeq_e, e3, bS_nx, sSeq_e, e4, bS_nx, sSeq_e, e5, bS_nx, sSeq_e, e6, bS_nx, sSeq_e, e7, bS_nx]
  simp! [dE8]
abbrev s5T (s : Sx) : Tr := .nd .tup .own [aS (nK s.k), aS (nC s.c), aS (nR s.r), aS (nH s.h), aS (nG s.g)]
abbrev s7T (s : Sx) : Tr := .nd .tup .own [aS (nK s.k), aS (nC s.c), aS (nR s.r), aS (nH s.h), aS (nG s.g), aS (nY s.y), aS "-"]
theorem FEq_5 : FEq false (s5T s) lostT = some (.bl false) := by
  have e1 : toD (s5T s) = some (.tuple [.str (nK s.k), .str (nC s.c), .str (nR s.r), .str (nH s.h), .str (nG s.g)]) := rfl
  have e2 : toD lostT = some (.tuple [.str "lost"]) := rfl
  have sh : Sh 1 (.tuple [.str (nK s.k), .str (nC s.c), .str (nR s.r), .str (nH s.h), .str (nG s.g)]) := .tup (.cons (.str (ok_nK _)) (.cons (.str (ok_nC _)) (.cons (.str (ok_nR _)) (.cons (.str (ok_nH _)) (.cons (.str (ok_nG _)) .nil)))))
  unfold FEq
  simp only [e1, e2, (sh.mono (by decide : 1 ≤ 64)).shaped, (sh_lost.mono (by decide : 1 ≤ 64)).shaped, PyData.eqv, PyData.eqvAll]
  simp
theorem FEq_7 : FEq false (s7T s) lostT = some (.bl false) := by
  have e1 : toD (s7T s) = some (.tuple [.str (nK s.k), .str (nC s.c), .str (nR s.r), .str (nH s.h), .str (nG s.g), .str (nY s.y), .str "-"]) := rfl
  have e2 : toD lostT = some (.tuple [.str "lost"]) := rfl
  have sh : Sh 1 (.tuple [.str (nK s.k), .str (nC s.c), .str (nR s.r), .str (nH s.h), .str (nG s.g), .str (nY s.y), .str "-"]) := .tup (.cons (.str (ok_nK _)) (.cons (.str (ok_nC _)) (.cons (.str (ok_nR _)) (.cons (.str (ok_nH _)) (.cons (.str (ok_nG _)) (.cons (.str (ok_nY _)) (.cons (.str (by decide +kernel)) .nil)))))))
  unfold FEq
  simp only [e1, e2, (sh.mono (by decide : 1 ≤ 64)).shaped, (sh_lost.mono (by decide : 1 ≤ 64)).shaped, PyData.eqv, PyData.eqvAll]
  simp
abbrev tS6 (a b c d e f : Str) : Tr := .nd .tup .own [aS a, aS b, aS c, aS d, aS e, aS f]
def spL (s : Sx) : List Tr := [s5T s, s7T s, .nd .tup .own [], .nd .tup .own [aS "lost", aS "-"], tS6 "L" "-" "=" "K" "-" "x", tS6 "X" "-" "=" "o" "-" "-",
  tS6 "P" "~" "=" "o" "-" "-", tS6 "F" "F" (nR s.r) "o" "-" "-", tS6 "F" "-" "F" "o" "-" "-",
  tS6 "F" "-" (nR s.r) "K" "-" "-", tS6 (nK s.k) "-" "=" "C" "-" "-", tS6 (nK s.k) "=" "=" "R" "-" "-",
  tS6 "F" "-" "=" "o" "K" "-", tS6 "P" "-" "=" "K" "K" "-", tS6 (nK s.k) "=" "=" (nH s.h) (nG s.g) "+",
  tS6 "P" "=" "~" "o" "-" "-", tS6 "L" "F" "F" "o" "-" "-", tS6 (nK s.k) "-" "=" "o" "-" "!"]
theorem L_spoilt : G_law_spoilt [sT s] = some (.rt (.nd .lst .own (spL s)) [.any]) := by
  obtain ⟨k, c, r, h, g, y⟩ := s
  kernel_rfl
theorem sp_5 : G_is_standing [s5T s] = some (.rt (bT false) [.any]) := by
  have h := FEq_5 s
  simp! [G_is_standing, g_is_standing, h]
theorem sp_7 : G_is_standing [s7T s] = some (.rt (bT false) [.any]) := by
  have h := FEq_7 s
  simp! [G_is_standing, g_is_standing, h]
theorem sp_no : ∀ t ∈ spL s, G_is_standing [t] = some (.rt (bT false) [.any]) := by
  have h5 := sp_5 s
  have h7 := sp_7 s
  obtain ⟨k, c, r, h, g, y⟩ := s
  simp only [spL, List.forall_mem_cons, List.not_mem_nil, false_implies, implies_true, and_true]
  refine ⟨h5, h7, ?_, ?_, ?_, ?_, ?_, ?_, ?_, ?_, ?_, ?_, ?_, ?_, ?_, ?_, ?_, ?_⟩
  · kernel_rfl
  · kernel_rfl
  · kernel_rfl
  · kernel_rfl
  · kernel_rfl
  · cases r <;> kernel_rfl
  · kernel_rfl
  · cases r <;> kernel_rfl
  · cases k <;> kernel_rfl
  · cases k <;> kernel_rfl
  · kernel_rfl
  · kernel_rfl
  · cases k <;> cases h <;> cases g <;> kernel_rfl
  · kernel_rfl
  · kernel_rfl
  · cases k <;> kernel_rfl
end
/-! the law (printed by gen_k52h.py) -/
section
noncomputable def dL0 : GS := (sSet md_law 2 (gSeq (gSeq (gSeq (gSeq (gVar 1) (gSeq (gC (.int 64)) gNil)) (gCall [0] md_law_pick G_law_pick 2)) (gSeq (gSeq (gC (.int 64)) (gSeq (gSeq (gVar 1) (gSeq (gC (.int 64)) gNil)) (gCall [0] md_law_pick G_law_pick 2))) fMul)) fAdd))
noncomputable def dL1 : GS := (sSet md_law 3 (gSeq (gSeq (gVar 1) gNil) (gCall [0] md_law_drawn G_law_drawn 1)))
noncomputable def dL2 : GS := (sSet md_law 4 (gSeq (gSeq (gVar 2) gNil) (gCall [] md_law_names G_law_names 1)))
noncomputable def dL3 : GS := (sSet md_law 5 (gSeq (gSeq (gVar 2) gNil) (noEx (gCall [] md_Book_of_number G_Book_of_number 1))))
noncomputable def dL4 : GS := (sIf (gOrB (gSeq (gSeq (gSeq (gSeq (gCon (.nd .tup .frz [(.a (.str "takel")), (.a (.str "takep")), (.a (.str "change")), (.a (.str "free")), (.a (.str "close")), (.a (.str "copy")), (.a (.str "mark")), (.a (.str "home")), (.a (.str "early")), (.a (.str "words")), (.a (.str "room")), (.a (.str "told"))])) gNil) fLst) (noEx (gCall [] md_law_letters G_law_letters 0))) fNe) (gOrB (gSeq (gSeq (gCon (.nd .tup .frz [(.a (.str "lost"))])) (gSeq (gSeq (gC (.str "lost")) gNil) (fNew .tup 1))) fNe) (gOrB (gSeq (gSeq (gSeq (gSeq (gVar 3) gNil) (gCall [] md_is_standing G_is_standing 1)) (gC (.bl true))) fNotBV) (gSeq (gSeq (gSeq (gSeq (gCon (.nd .tup .frz [(.a (.str "lost"))])) gNil) (gCall [] md_is_standing G_is_standing 1)) (gC (.bl true))) fNotBV)))) (sRet (gC (.bl false))) sNil)
noncomputable def dL5 : GS := (sIf (gOrB (gSeq (gSeq (gSeq (gSeq (gVar 3) gNil) (gCall [] md_kind_c G_kind_c 1)) (gSeq (gSeq (gSeq (gSeq (gVar 3) (gC (.int 0))) fIxA) (gSeq (gSeq (gSeq (gVar 3) (gC (.int 1))) fIxA) gNil)) (gCall [] md_law_kind_c G_law_kind_c 2))) fNe) (gSeq (gSeq (gSeq (gSeq (gVar 3) gNil) (gCall [] md_kind_r G_kind_r 1)) (gSeq (gSeq (gSeq (gSeq (gVar 3) (gC (.int 0))) fIxA) (gSeq (gSeq (gSeq (gVar 3) (gC (.int 1))) fIxA) (gSeq (gSeq (gSeq (gVar 3) (gC (.int 2))) fIxA) gNil))) (gCall [] md_law_kind_r G_law_kind_r 3))) fNe)) (sRet (gC (.bl false))) sNil)
noncomputable def dL6 : GS := (sIf (gOrB (gSeq (gSeq (gSeq (gSeq (gVar 3) gNil) (gCall [] md_content_c G_content_c 1)) (gSeq (gSeq (gVar 3) gNil) (gCall [] md_law_content_c G_law_content_c 1))) fNe) (gSeq (gSeq (gSeq (gSeq (gVar 3) gNil) (gCall [] md_content_r G_content_r 1)) (gSeq (gSeq (gVar 3) gNil) (gCall [] md_law_content_r G_law_content_r 1))) fNe)) (sRet (gC (.bl false))) sNil)
noncomputable def dL7 : GS := (sIf (gOrB (gAnd (gSeq (gSeq (gSeq (gSeq (gVar 3) gNil) (gCall [] md_is_due G_is_due 1)) (gC (.bl true))) fNotBV) (gSeq (gSeq (gSeq (gSeq (gVar 3) gNil) (gCall [] md_is_due G_is_due 1)) (gC (.bl false))) fNotBV)) (gSeq (gSeq (gSeq (gSeq (gVar 3) gNil) (gCall [] md_is_due G_is_due 1)) (gOrB (gSeq (gSeq (gSeq (gSeq (gVar 3) (gC (.int 1))) fIxA) (gC (.str "~"))) fEq) (gSeq (gSeq (gSeq (gSeq (gVar 3) (gC (.int 1))) fIxA) (gC (.str "L"))) fEq))) fNe)) (sRet (gC (.bl false))) sNil)
noncomputable def dL8 : GS := (sFor (noEx (gCall [] md_law_letters G_law_letters 0)) (bind md_law 6) b_law_1)
noncomputable def dL9 : GS := (sSet md_law 7 (gSeq (gSeq (gVar 3) (gSeq (gVar 5) gNil)) (gCall [] md_let_letters G_let_letters 2)))
noncomputable def dL10 : GS := (sIf (gOrB (gNot (gSeq (gSeq (gVar 7) (gSeq (gC (.ty "list")) gNil)) fIsi)) (gSeq (gSeq (gVar 7) (gClr 6 (gLc [6] (noEx (gCall [] md_law_letters G_law_letters 0)) (bind md_law 6) t_law_1 e_law_1))) fNe)) (sRet (gC (.bl false))) sNil)
noncomputable def dL11 : GS := (sFor (gSeq (gSeq (gC (.str "")) (gSeq (gC (.str "takes")) (gSeq (gC (.str "Close")) (gSeq (gC (.str "close ")) (gSeq (gC (.str "lost")) (gSeq (gC (.str "copies")) (gSeq (gC (.str "take")) gNil))))))) (fNew .lst 7)) (bind md_law 6) b_law_2)
noncomputable def dL12 : GS := (sFor (gSeq (gSeq (gVar 3) gNil) (gCall [] md_law_spoilt G_law_spoilt 1)) (bind md_law 8) b_law_3)
noncomputable def dL13 : GS := (sRet (gC (.bl true)))
theorem e_law : g_law = (sSeq dL0 (sSeq dL1 (sSeq dL2 (sSeq dL3 (sSeq dL4 (sSeq dL5 (sSeq dL6 (sSeq dL7 (sSeq dL8 (sSeq dL9 (sSeq dL10 (sSeq dL11 (sSeq dL12 dL13))))))))))))) := rfl
variable {fs : List Int} {n : Int} {ns : List Str} {num : Int} {s : Sx} {e6 e7 e8 : Ent}
abbrev gW (fs : List Int) (n : Int) (ns : List Str) (num : Int) (s : Sx) (e6 e7 e8 : Ent) : List Ent := [.no, .tr (rowT fs), .tr (iT n), .tr (sT s), .tr (lsT .own ns), .tr (bkT ns num), e6, e7, e8]
theorem l0 (hf : Feed fs) : ∃ n fs', 0 ≤ n ∧ n < 4096 ∧ Feed fs' ∧ dL0 ⟨[.no, .tr (rowT fs), .no, .no, .no, .no, .no, .no, .no], []⟩ = some (.nx ⟨[.no, .tr (rowT fs'), .tr (iT n), .no, .no, .no, .no, .no, .no], []⟩) := by
  obtain ⟨a, f1, p1, a0, a1, hf⟩ := G_pick (n := 64) hf (by decide)
  obtain ⟨b, f2, p2, b0, b1, hf⟩ := G_pick (n := 64) hf (by decide)
  have hm : CMul 64 b := by unfold CMul; omega
  exact ⟨a + 64 * b, f2, by omega, by omega, hf, by simp! [dL0, p1, p2, fMul, FI, hm]⟩
theorem l4 (hs : fit s = true) : dL4 ⟨gW fs n ns num s .no .no .no, []⟩ = some (.nx ⟨gW fs n ns num s .no .no .no, []⟩) := by
  have h1 := P_is_standing s
  rw [hs] at h1
  have h2 := P_st_lost .own
  have q1 : FEq true (.nd .lst .own [aS "takel", aS "takep", aS "change", aS "free", aS "close", aS "copy", aS "mark", aS "home", aS "early", aS "words", aS "room", aS "told"]) (lsT .own letL) = some (.bl false) := by kernel_rfl
  have q2 : FEq true lostT (.nd .tup .own [aS "lost"]) = some (.bl false) := by kernel_rfl
  have gl := G_letters
  simp! [dL4, h1, h2, gl, q1, q2]
theorem l5 : dL5 ⟨gW fs n ns num s .no .no .no, []⟩ = some (.nx ⟨gW fs n ns num s .no .no .no, []⟩) := by
  have h1 := P_kind_c s
  have h2 := P_kind_r s
  have h3 := L_kind_c s
  have h4 := L_kind_r s
  simp! [dL5, h1, h2, h3, h4]
theorem l6 : dL6 ⟨gW fs n ns num s .no .no .no, []⟩ = some (.nx ⟨gW fs n ns num s .no .no .no, []⟩) := by
  have h1 := P_content_c s
  have h2 := P_content_r s
  have h3 := L_content_c s
  have h4 := L_content_r s
  simp! [dL6, h1, h2, h3, h4]
theorem l7 : dL7 ⟨gW fs n ns num s .no .no .no, []⟩ = some (.nx ⟨gW fs n ns num s .no .no .no, []⟩) := by
  have h1 := P_is_due s
  have hd : due s = (decide (s.c = .t) || decide (s.c = .L)) := by unfold due; simp
  cases hb : due s with
  | true =>
    rw [hb] at h1 hd
    simp! [dL7, h1, nC_t, nC_L, ← hd]
  | false =>
    rw [hb] at h1 hd
    simp! [dL7, h1, nC_t, nC_L, ← hd]
theorem l8 (hs : fit s = true) : ∃ e6, dL8 ⟨gW fs n ns num s .no .no .no, []⟩ = some (.nx ⟨gW fs n ns num s e6 .no .no, []⟩) ∧ Nal e6 := by
  obtain ⟨Γ', ⟨e6, n6, rfl⟩, lo⟩ := loopE_allI (xs := letS) (enc := fun l => aS (nL l)) (s := []) (bd := bind md_law 6) (gs := b_law_1) (t := bT false) (.tr (.nd .lst .lnt (letS.map fun l => aS (nL l)))) .lst .lnt
    (fun Γ => ∃ e6, Nal e6 ∧ Γ = gW fs n ns num s e6 .no .no) (by rintro Γ ⟨e6, n6, rfl⟩; rfl) rfl (fun _ _ => rfl) (fun _ => true)
    (by
      rintro l hl Γ ⟨e6, n6, rfl⟩
      have h1 := L_letter_good ns num s l hs
      have h2 := P_after_lost ns num l
      exact ⟨gW fs n ns num s (.tr (aS (nL l))) .no .no, gW fs n ns num s (.tr (aS (nL l))) .no .no, by simp! [n6.kr], ⟨_, nal_tr, rfl⟩, by simp! [b_law_1, h1, h2]⟩)
    (Γ := gW fs n ns num s .no .no .no) ⟨_, nal_no, rfl⟩
  rw [if_pos (by rfl)] at lo
  refine ⟨e6, ?_, n6⟩
  have gl := G_letters
  unfold dL8 sFor
  simp! [gl]
  exact lo
abbrev LL (ns : List Str) (s : Sx) : List Str := (letS.filter fun l => letB (pr ns) l s).map nL
theorem l9 (n6 : Nal e6) : dL9 ⟨gW fs n ns num s e6 .no .no, []⟩ = some (.nx ⟨gW fs n ns num s e6 (.tr (lsT .own (LL ns s))) .no, []⟩) := by
  have h := P_let_letters ns num s
  simp! [dL9, h, n6.kr]
theorem ok_L : ∀ l : Lt, PyData.strOk (nL l) = true := by intro l; cases l <;> decide +kernel
theorem ok_LL : ∀ x ∈ LL ns s, PyData.strOk x = true := fun x hx => by
  obtain ⟨l, _, rfl⟩ := List.mem_map.mp hx
  exact ok_L l
theorem l10c : gLc [6] (noEx (gCall [] md_law_letters G_law_letters 0)) (bind md_law 6) t_law_1 e_law_1 ⟨gW fs n ns num s .no (.tr (lsT .own (LL ns s))) .no, [.al [7]]⟩ = some (.ok ⟨gW fs n ns num s .no (.tr (lsT .own (LL ns s))) .no, [.tr (lsT .own (LL ns s)), .al [7]]⟩) := by
  have gl := G_letters
  rw [gLcP_is (xs := letS) (enc := fun l => aS (nL l)) (.tr (.nd .lst .own (letS.map fun l => aS (nL l)))) (.tr (.nd .lst .lnt (letS.map fun l => aS (nL l)))) .lst .lnt (by simp! [gl]; rfl) (by rfl) (by rfl) (by rfl) (by decide) rfl rfl rfl rfl rfl (fun x _ => rfl) (fun l => letB (pr ns) l s) (fun l => aS (nL l))
    (fun x _ s' => by
      have pl := L_let ns s x
      simp! [t_law_1, pl])
    (fun x _ s' _ => ⟨by simp! [e_law_1], rfl⟩)]
  show _ = some (Rs.ok ⟨gW fs n ns num s .no (.tr (lsT .own (LL ns s))) .no, [.tr (.nd .lst .own (((letS.filter fun l => letB (pr ns) l s).map nL).map aS)), .al [7]]⟩)
  rw [List.map_map]
  rfl
theorem l10 (n6 : Nal e6) : dL10 ⟨gW fs n ns num s e6 (.tr (lsT .own (LL ns s))) .no, []⟩ = some (.nx ⟨gW fs n ns num s .no (.tr (lsT .own (LL ns s))) .no, []⟩) := by
  have h := l10c (fs := fs) (n := n) (ns := ns) (num := num) (s := s)
  have q := FEq_strs (neg := true) (o := .own) (o' := .own) (ok_LL (ns := ns) (s := s)) (ok_LL (ns := ns) (s := s))
  rw [decide_eq_true rfl] at q
  simp! [dL10, n6.kr, h, q]
theorem l11 : ∃ e6, dL11 ⟨gW fs n ns num s .no (.tr (lsT .own (LL ns s))) .no, []⟩ = some (.nx ⟨gW fs n ns num s e6 (.tr (lsT .own (LL ns s))) .no, []⟩) ∧ Nal e6 := by
  obtain ⟨Γ', ⟨e6, n6, rfl⟩, lo⟩ := loopE_allI (xs := badL) (enc := aS) (s := []) (bd := bind md_law 6) (gs := b_law_2) (t := bT false) (.tr (.nd .lst .lnt (badL.map aS))) .lst .lnt
    (fun Γ => ∃ e6, Nal e6 ∧ Γ = gW fs n ns num s e6 (.tr (lsT .own (LL ns s))) .no) (by rintro Γ ⟨e6, n6, rfl⟩; rfl) rfl (fun _ _ => rfl) (fun _ => true)
    (by
      rintro x hx Γ ⟨e6, n6, rfl⟩
      have h1 := L_raises ns num s hx
      have h2 := L_raises2 ns num hx
      exact ⟨gW fs n ns num s (.tr (aS x)) (.tr (lsT .own (LL ns s))) .no, gW fs n ns num s (.tr (aS x)) (.tr (lsT .own (LL ns s))) .no, by simp! [n6.kr], ⟨_, nal_tr, rfl⟩, by simp! [b_law_2, h1, h2]⟩)
    (Γ := gW fs n ns num s .no (.tr (lsT .own (LL ns s))) .no) ⟨_, nal_no, rfl⟩
  rw [if_pos (by rfl)] at lo
  refine ⟨e6, ?_, n6⟩
  have lo : loopE .lst (bind md_law 6) b_law_2 7 0 ⟨gW fs n ns num s .no (.tr (lsT .own (LL ns s))) .no, [.tr (.nd .lst .lnt [aS "", aS "takes", aS "Close", aS "close ", aS "lost", aS "copies", aS "take"])]⟩ = _ := lo
  unfold dL11 sFor
  simp! [lo]
theorem sp_kid : ∀ t ∈ spL s, kid .lnt t = t ∧ cp t = true := by
  simp only [spL, List.forall_mem_cons, List.not_mem_nil, false_implies, implies_true, and_true]
  refine ⟨⟨rfl, rfl⟩, ⟨rfl, rfl⟩, ⟨rfl, rfl⟩, ⟨rfl, rfl⟩, ⟨rfl, rfl⟩, ⟨rfl, rfl⟩, ⟨rfl, rfl⟩, ⟨rfl, rfl⟩, ⟨rfl, rfl⟩, ⟨rfl, rfl⟩, ⟨rfl, rfl⟩, ⟨rfl, rfl⟩, ⟨rfl, rfl⟩, ⟨rfl, rfl⟩, ⟨rfl, rfl⟩, ⟨rfl, rfl⟩, ⟨rfl, rfl⟩, ⟨rfl, rfl⟩⟩
theorem l12 {T7 : Tr} (n6 : Nal e6) : ∃ e8, dL12 ⟨gW fs n ns num s e6 (.tr T7) .no, []⟩ = some (.nx ⟨gW fs n ns num s e6 (.tr T7) e8, []⟩) := by
  have hk := sp_kid (s := s)
  have hn := sp_no s
  have hs := L_spoilt s
  generalize spL s = X at *
  obtain ⟨Γ', ⟨e8, n8, rfl⟩, lo⟩ := loopE_allI (xs := X) (enc := id) (s := []) (bd := bind md_law 8) (gs := b_law_3) (t := bT false) (.tr (.nd .lst .lnt X)) .lst .lnt
    (fun Γ => ∃ e8, Nal e8 ∧ Γ = gW fs n ns num s e6 (.tr T7) e8) (by rintro Γ ⟨e8, n8, rfl⟩; show viewE _ (.tr (.nd .lst .lnt X)) = _; rw [List.map_id]; rfl) rfl (fun x hx => by
      show cp (kid .lnt x) = true
      rw [(hk x hx).1]; exact (hk x hx).2) (fun _ => true)
    (by
      rintro x hx Γ ⟨e8, n8, rfl⟩
      have h1 := hn x hx
      obtain ⟨k1, k2⟩ := hk x hx
      show ∃ Γ1 Γ2, bind md_law 8 ⟨_, .tr (kid .lnt x) :: _⟩ = _ ∧ _
      rw [k1]
      exact ⟨gW fs n ns num s e6 (.tr T7) (.tr x), gW fs n ns num s e6 (.tr T7) (.tr x), by simp! [n6.kr, n8.kr], ⟨_, nal_tr, rfl⟩, by simp! [b_law_3, k1, k2, h1]⟩)
    (Γ := gW fs n ns num s e6 (.tr T7) .no) ⟨_, nal_no, rfl⟩
  rw [if_pos (by simp)] at lo
  refine ⟨e8, ?_⟩
  unfold dL12 sFor
  simp! [hs, n6.kr]
  exact lo
theorem lawIs : ∀ fs, Feed fs → ∃ m, g_law (feedG 7 fs) = some (.rt (bT true) m) := by
  intro fs hf
  obtain ⟨n, f1, n0, n1, hf, e0⟩ := l0 hf
  obtain ⟨s, f2, hs, hf, e1⟩ := L_drawn hf
  have e1 : dL1 ⟨[.no, .tr (rowT f1), .tr (iT n), .no, .no, .no, .no, .no, .no], []⟩ = some (.nx ⟨[.no, .tr (rowT f2), .tr (iT n), .tr (sT s), .no, .no, .no, .no, .no], []⟩) := by simp! [dL1, e1]
  have e2 := P_law_names n
  have e2 : dL2 ⟨[.no, .tr (rowT f2), .tr (iT n), .tr (sT s), .no, .no, .no, .no, .no], []⟩ = some (.nx ⟨[.no, .tr (rowT f2), .tr (iT n), .tr (sT s), .tr (lsT .own (bits RL n)), .no, .no, .no, .no], []⟩) := by simp! [dL2, e2]
  have e3 := P_of_number n0 n1
  have e3 : dL3 ⟨[.no, .tr (rowT f2), .tr (iT n), .tr (sT s), .tr (lsT .own (bits RL n)), .no, .no, .no, .no], []⟩ = some (.nx ⟨gW f2 n (bits RL n) (numB (bits RL n)) s .no .no .no, []⟩) := by simp! [dL3, e3]
  generalize bits RL n = ns at *
  generalize numB ns = num at *
  have e4 := l4 (fs := f2) (n := n) (ns := ns) (num := num) hs
  have e5 := l5 (fs := f2) (n := n) (ns := ns) (num := num) (s := s)
  have e6 := l6 (fs := f2) (n := n) (ns := ns) (num := num) (s := s)
  have e7 := l7 (fs := f2) (n := n) (ns := ns) (num := num) (s := s)
  obtain ⟨x6, e8, n6⟩ := l8 (fs := f2) (n := n) (ns := ns) (num := num) hs
  have e9 := l9 (fs := f2) (n := n) (ns := ns) (num := num) (s := s) n6
  have e10 := l10 (fs := f2) (n := n) (ns := ns) (num := num) (s := s) n6
  obtain ⟨y6, e11, n6'⟩ := l11 (fs := f2) (n := n) (ns := ns) (num := num) (s := s)
  obtain ⟨e8', e12⟩ := l12 (fs := f2) (n := n) (ns := ns) (num := num) (s := s) (T7 := lsT .own (LL ns s)) n6'
  refine ⟨⟨gW f2 n ns num s y6 (.tr (lsT .own (LL ns s))) e8', []⟩, ?_⟩
  rw [e_law]
  show sSeq dL0 _ ⟨[.no, .tr (rowT fs), .no, .no, .no, .no, .no, .no, .no], []⟩ = _
  rw [sSeq_e, e0, bS_nx, sSeq_e, e1, bS_nx, sSeq_e, e2, bS_nx, sSeq_e, e3, bS_nx, sSeq_e, e4, bS_nx, sSeq_e, e5, bS_nx, sSeq_e, e6, bS_nx, sSeq_e, e7, bS_nx, sSeq_e, e8, bS_nx, sSeq_e, e9, bS_nx, sSeq_e, e10, bS_nx, sSeq_e, e11, bS_nx, sSeq_e, e12, bS_nx]
  rfl
end
section
variable {P : Program} {w : World} {K : PySem.W.Frag} {mg : Str → Option Value} {base : Heap}
theorem ok_law (T : Txt K mg w) : FnOk P w K mg base CX0 7 T.a_law T.fd_law ["_law_script"] (spLaw K) := ok_law_of lawIs T
end
theorem txt_mk {w : World} {K : PySem.W.Frag} {h : Heap} {mg : Str → Option Value} (X : K.In h) (G : h.Ns mainGlobals mg)
    {c_Book : Addr}
    {c_Book_RULES : Addr} {odc_Book_RULES : Option Addr} {nc_Book_RULES : Nat} {slc_Book_RULES : Array (Option Value)}
    {tkc_Book_RULES_0 : Tok}
    {tkc_Book_RULES_1 : Tok}
    {tkc_Book_RULES_2 : Tok}
    {tkc_Book_RULES_3 : Tok}
    {tkc_Book_RULES_4 : Tok}
    {tkc_Book_RULES_5 : Tok}
    {tkc_Book_RULES_6 : Tok}
    {tkc_Book_RULES_7 : Tok}
    {tkc_Book_RULES_8 : Tok}
    {tkc_Book_RULES_9 : Tok}
    {tkc_Book_RULES_10 : Tok}
    {tkc_Book_RULES_11 : Tok}
    {f0 : Addr} {od0 an0 : Option Addr} {sl0 : Array (Option Value)} {oc0 kV0 dc0 pm0 cd0 ct0 : Value}
    {f1 : Addr} {od1 an1 : Option Addr} {sl1 : Array (Option Value)} {oc1 kV1 dc1 pm1 cd1 ct1 : Value}
    {f2 : Addr} {od2 an2 : Option Addr} {sl2 : Array (Option Value)} {oc2 kV2 dc2 pm2 cd2 ct2 : Value}
    {f3 : Addr} {od3 an3 : Option Addr} {sl3 : Array (Option Value)} {oc3 kV3 dc3 pm3 cd3 ct3 : Value}
    {f4 : Addr} {od4 an4 : Option Addr} {sl4 : Array (Option Value)} {oc4 kV4 dc4 pm4 cd4 ct4 : Value}
    {f5 : Addr} {od5 an5 : Option Addr} {sl5 : Array (Option Value)} {oc5 kV5 dc5 pm5 cd5 ct5 : Value}
    {f6 : Addr} {od6 an6 : Option Addr} {sl6 : Array (Option Value)} {oc6 kV6 dc6 pm6 cd6 ct6 : Value}
    {f7 : Addr} {od7 an7 : Option Addr} {sl7 : Array (Option Value)} {oc7 kV7 dc7 pm7 cd7 ct7 : Value}
    {f8 : Addr} {od8 an8 : Option Addr} {sl8 : Array (Option Value)} {oc8 kV8 dc8 pm8 cd8 ct8 : Value}
    {f9 : Addr} {od9 an9 : Option Addr} {sl9 : Array (Option Value)} {oc9 kV9 dc9 pm9 cd9 ct9 : Value}
    {f10 : Addr} {od10 an10 : Option Addr} {sl10 : Array (Option Value)} {oc10 kV10 dc10 pm10 cd10 ct10 : Value}
    {f11 : Addr} {od11 an11 : Option Addr} {sl11 : Array (Option Value)} {oc11 kV11 dc11 pm11 cd11 ct11 : Value}
    {f12 : Addr} {od12 an12 : Option Addr} {sl12 : Array (Option Value)} {oc12 kV12 dc12 pm12 cd12 ct12 : Value}
    {f13 : Addr} {od13 an13 : Option Addr} {sl13 : Array (Option Value)} {oc13 kV13 dc13 pm13 cd13 ct13 : Value}
    {f14 : Addr} {od14 an14 : Option Addr} {sl14 : Array (Option Value)} {oc14 kV14 dc14 pm14 cd14 ct14 : Value}
    {f15 : Addr} {od15 an15 : Option Addr} {sl15 : Array (Option Value)} {oc15 kV15 dc15 pm15 cd15 ct15 : Value}
    {f16 : Addr} {od16 an16 : Option Addr} {sl16 : Array (Option Value)} {oc16 kV16 dc16 pm16 cd16 ct16 : Value}
    {f17 : Addr} {od17 an17 : Option Addr} {sl17 : Array (Option Value)} {oc17 kV17 dc17 pm17 cd17 ct17 : Value}
    {f18 : Addr} {od18 an18 : Option Addr} {sl18 : Array (Option Value)} {oc18 kV18 dc18 pm18 cd18 ct18 : Value}
    {f19 : Addr} {od19 an19 : Option Addr} {sl19 : Array (Option Value)} {oc19 kV19 dc19 pm19 cd19 ct19 : Value}
    {f20 : Addr} {od20 an20 : Option Addr} {sl20 : Array (Option Value)} {oc20 kV20 dc20 pm20 cd20 ct20 : Value}
    {f21 : Addr} {od21 an21 : Option Addr} {sl21 : Array (Option Value)} {oc21 kV21 dc21 pm21 cd21 ct21 : Value}
    {f22 : Addr} {od22 an22 : Option Addr} {sl22 : Array (Option Value)} {oc22 kV22 dc22 pm22 cd22 ct22 : Value}
    {f23 : Addr} {od23 an23 : Option Addr} {sl23 : Array (Option Value)} {oc23 kV23 dc23 pm23 cd23 ct23 : Value}
    {f24 : Addr} {od24 an24 : Option Addr} {sl24 : Array (Option Value)} {oc24 kV24 dc24 pm24 cd24 ct24 : Value}
    {f25 : Addr} {od25 an25 : Option Addr} {sl25 : Array (Option Value)} {oc25 kV25 dc25 pm25 cd25 ct25 : Value}
    {f26 : Addr} {od26 an26 : Option Addr} {sl26 : Array (Option Value)} {oc26 kV26 dc26 pm26 cd26 ct26 : Value}
    {f27 : Addr} {od27 an27 : Option Addr} {sl27 : Array (Option Value)} {oc27 kV27 dc27 pm27 cd27 ct27 : Value}
    {f28 : Addr} {od28 an28 : Option Addr} {sl28 : Array (Option Value)} {oc28 kV28 dc28 pm28 cd28 ct28 : Value}
    {f29 : Addr} {od29 an29 : Option Addr} {sl29 : Array (Option Value)} {oc29 kV29 dc29 pm29 cd29 ct29 : Value}
    {f30 : Addr} {od30 an30 : Option Addr} {sl30 : Array (Option Value)} {oc30 kV30 dc30 pm30 cd30 ct30 : Value}
    {f31 : Addr} {od31 an31 : Option Addr} {sl31 : Array (Option Value)} {oc31 kV31 dc31 pm31 cd31 ct31 : Value}
    {f32 : Addr} {od32 an32 : Option Addr} {sl32 : Array (Option Value)} {oc32 kV32 dc32 pm32 cd32 ct32 : Value}
    {f33 : Addr} {od33 an33 : Option Addr} {sl33 : Array (Option Value)} {oc33 kV33 dc33 pm33 cd33 ct33 : Value}
    {f34 : Addr} {od34 an34 : Option Addr} {sl34 : Array (Option Value)} {oc34 kV34 dc34 pm34 cd34 ct34 : Value}
    {f35 : Addr} {od35 an35 : Option Addr} {sl35 : Array (Option Value)} {oc35 kV35 dc35 pm35 cd35 ct35 : Value}
    {f36 : Addr} {od36 an36 : Option Addr} {sl36 : Array (Option Value)} {oc36 kV36 dc36 pm36 cd36 ct36 : Value}
    {f37 : Addr} {od37 an37 : Option Addr} {sl37 : Array (Option Value)} {oc37 kV37 dc37 pm37 cd37 ct37 : Value}
    {f38 : Addr} {od38 an38 : Option Addr} {sl38 : Array (Option Value)} {oc38 kV38 dc38 pm38 cd38 ct38 : Value}
    {f39 : Addr} {od39 an39 : Option Addr} {sl39 : Array (Option Value)} {oc39 kV39 dc39 pm39 cd39 ct39 : Value}
    {f40 : Addr} {od40 an40 : Option Addr} {sl40 : Array (Option Value)} {oc40 kV40 dc40 pm40 cd40 ct40 : Value}
    {f41 : Addr} {od41 an41 : Option Addr} {sl41 : Array (Option Value)} {oc41 kV41 dc41 pm41 cd41 ct41 : Value}
    {f42 : Addr} {od42 an42 : Option Addr} {sl42 : Array (Option Value)} {oc42 kV42 dc42 pm42 cd42 ct42 : Value}
    {f43 : Addr} {od43 an43 : Option Addr} {sl43 : Array (Option Value)} {oc43 kV43 dc43 pm43 cd43 ct43 : Value}
    {f44 : Addr} {od44 an44 : Option Addr} {sl44 : Array (Option Value)} {oc44 kV44 dc44 pm44 cd44 ct44 : Value}
    {f45 : Addr} {od45 an45 : Option Addr} {sl45 : Array (Option Value)} {oc45 kV45 dc45 pm45 cd45 ct45 : Value}
    {f46 : Addr} {od46 an46 : Option Addr} {sl46 : Array (Option Value)} {oc46 kV46 dc46 pm46 cd46 ct46 : Value}
    {ps46 : Addr} {rs46 : List Value}
    {c_LETTERS : Addr} {odc_LETTERS : Option Addr} {nc_LETTERS : Nat} {slc_LETTERS : Array (Option Value)}
    {tkc_LETTERS_0 : Tok}
    {tkc_LETTERS_1 : Tok}
    {tkc_LETTERS_2 : Tok}
    {tkc_LETTERS_3 : Tok}
    {tkc_LETTERS_4 : Tok}
    {tkc_LETTERS_5 : Tok}
    {tkc_LETTERS_6 : Tok}
    {tkc_LETTERS_7 : Tok}
    {tkc_LETTERS_8 : Tok}
    {tkc_LETTERS_9 : Tok}
    {tkc_LETTERS_10 : Tok}
    {tkc_LETTERS_11 : Tok}
    {c_LOST : Addr} {odc_LOST : Option Addr} {nc_LOST : Nat} {slc_LOST : Array (Option Value)}
    {tkc_LOST_0 : Tok}
    {c_NEW : Addr} {odc_NEW : Option Addr} {nc_NEW : Nat} {slc_NEW : Array (Option Value)}
    {tkc_NEW_0 : Tok}
    {tkc_NEW_1 : Tok}
    {tkc_NEW_2 : Tok}
    {c_SIGNS_0 : Addr} {odc_SIGNS_0 : Option Addr} {nc_SIGNS_0 : Nat} {slc_SIGNS_0 : Array (Option Value)}
    {tkc_SIGNS_0_0 : Tok}
    {tkc_SIGNS_0_1 : Tok}
    {tkc_SIGNS_0_2 : Tok}
    {c_SIGNS_1 : Addr} {odc_SIGNS_1 : Option Addr} {nc_SIGNS_1 : Nat} {slc_SIGNS_1 : Array (Option Value)}
    {tkc_SIGNS_1_0 : Tok}
    {tkc_SIGNS_1_1 : Tok}
    {tkc_SIGNS_1_2 : Tok}
    {tkc_SIGNS_1_3 : Tok}
    {tkc_SIGNS_1_4 : Tok}
    {tkc_SIGNS_1_5 : Tok}
    {c_SIGNS_2 : Addr} {odc_SIGNS_2 : Option Addr} {nc_SIGNS_2 : Nat} {slc_SIGNS_2 : Array (Option Value)}
    {tkc_SIGNS_2_0 : Tok}
    {tkc_SIGNS_2_1 : Tok}
    {tkc_SIGNS_2_2 : Tok}
    {tkc_SIGNS_2_3 : Tok}
    {tkc_SIGNS_2_4 : Tok}
    {c_SIGNS_3 : Addr} {odc_SIGNS_3 : Option Addr} {nc_SIGNS_3 : Nat} {slc_SIGNS_3 : Array (Option Value)}
    {tkc_SIGNS_3_0 : Tok}
    {tkc_SIGNS_3_1 : Tok}
    {tkc_SIGNS_3_2 : Tok}
    {tkc_SIGNS_3_3 : Tok}
    {c_SIGNS_4 : Addr} {odc_SIGNS_4 : Option Addr} {nc_SIGNS_4 : Nat} {slc_SIGNS_4 : Array (Option Value)}
    {tkc_SIGNS_4_0 : Tok}
    {tkc_SIGNS_4_1 : Tok}
    {tkc_SIGNS_4_2 : Tok}
    {c_SIGNS_5 : Addr} {odc_SIGNS_5 : Option Addr} {nc_SIGNS_5 : Nat} {slc_SIGNS_5 : Array (Option Value)}
    {tkc_SIGNS_5_0 : Tok}
    {tkc_SIGNS_5_1 : Tok}
    {tkc_SIGNS_5_2 : Tok}
    {c_SIGNS : Addr} {odc_SIGNS : Option Addr} {nc_SIGNS : Nat} {slc_SIGNS : Array (Option Value)}
    {c_STEPS : Addr} {n_STEPS : Nat}
    {h_STEPS_0 : Int} {t_STEPS_0 : Tok}
    {h_STEPS_1 : Int} {t_STEPS_1 : Tok}
    {h_STEPS_2 : Int} {t_STEPS_2 : Tok}
    {h_STEPS_3 : Int} {t_STEPS_3 : Tok}
    {h_STEPS_4 : Int} {t_STEPS_4 : Tok}
    {h_STEPS_5 : Int} {t_STEPS_5 : Tok}
    {h_STEPS_6 : Int} {t_STEPS_6 : Tok}
    {h_STEPS_7 : Int} {t_STEPS_7 : Tok}
    {h_STEPS_8 : Int} {t_STEPS_8 : Tok}
    {h_STEPS_9 : Int} {t_STEPS_9 : Tok}
    {h_STEPS_10 : Int} {t_STEPS_10 : Tok}
    {h_STEPS_11 : Int} {t_STEPS_11 : Tok}
    {e_BadValue : Addr}
    {e_StoreError : Addr}
    {e_BadText : Addr}
    (aC_Book : PySem.W.nsIn K mainGlobals "Book" = some (some (.ref c_Book)))
    (pg_Book : PySem.W.plainGet K c_Book Str.empty = true)
    (hd_Book : PySem.W.hasDictIn K c_Book = true)
    (po_Book : PySem.W.plainOver K c_Book = true)
    (sa_Book : PySem.W.findIn K (.ref c_Book) "__setattr__" = some (some (.builtin "object.__setattr__")))
    (mk_Book : PySem.W.makesIn K c_Book = true)
    (kc_Book : PySem.W.keepIn K (.ref c_Book) = true)
    (nf_Book_names : PySem.W.findIn K (.ref c_Book) "names" = some none)
    (nf_Book_number : PySem.W.findIn K (.ref c_Book) "number" = some none)
    (rd_Book : PySem.W.readsIn K c_Book (.type "type") = true)
    (ga_Book : PySem.W.specialIn K (.ref c_Book) "__getattribute__" = some (some (.builtin "type.__getattribute__")))
    (lkc_Book_RULES : K.lookup c_Book_RULES = some ⟨.type "tuple", odc_Book_RULES, .seq #[.str "copies" tkc_Book_RULES_0, .str "mark" tkc_Book_RULES_1, .str "words" tkc_Book_RULES_2, .str "reuse" tkc_Book_RULES_3, .str "late" tkc_Book_RULES_4, .str "revoke" tkc_Book_RULES_5, .str "lapse" tkc_Book_RULES_6, .str "shelve" tkc_Book_RULES_7, .str "frozen" tkc_Book_RULES_8, .str "wait" tkc_Book_RULES_9, .str "room" tkc_Book_RULES_10, .str "told" tkc_Book_RULES_11] nc_Book_RULES, slc_Book_RULES⟩)
    (cv_Book_RULES : PySem.W.findCls K (.ref c_Book) (.type "type") "RULES" = some (.val (.ref c_Book_RULES)))
    (ci_Book_RULES : PySem.W.findIn K (.ref c_Book) "RULES" = some (some (.ref c_Book_RULES)))
    (cg_Book_RULES : PySem.W.specialIn K (.ref c_Book_RULES) "__get__" = some none)
    (a0 : PySem.W.nsIn K mainGlobals "kind_c" = some (some (.ref f0)))
    (l0 : K.lookup f0 = some ⟨oc0, od0, .func (PySem.W.fnOf "kind_c" "kind_c" (defArgs s_kind_c) (defBody s_kind_c) (defScope s_kind_c) .none kV0 dc0 pm0 an0 cd0 ct0), sl0⟩)
    (c0 : PySem.W.codeIn K cd0 "kind_c" = true)
    (k0 : PySem.W.keepIn K (.ref f0) = true)
    (a1 : PySem.W.nsIn K mainGlobals "kind_r" = some (some (.ref f1)))
    (l1 : K.lookup f1 = some ⟨oc1, od1, .func (PySem.W.fnOf "kind_r" "kind_r" (defArgs s_kind_r) (defBody s_kind_r) (defScope s_kind_r) .none kV1 dc1 pm1 an1 cd1 ct1), sl1⟩)
    (c1 : PySem.W.codeIn K cd1 "kind_r" = true)
    (k1 : PySem.W.keepIn K (.ref f1) = true)
    (a2 : PySem.W.nsIn K mainGlobals "content_c" = some (some (.ref f2)))
    (l2 : K.lookup f2 = some ⟨oc2, od2, .func (PySem.W.fnOf "content_c" "content_c" (defArgs s_content_c) (defBody s_content_c) (defScope s_content_c) .none kV2 dc2 pm2 an2 cd2 ct2), sl2⟩)
    (c2 : PySem.W.codeIn K cd2 "content_c" = true)
    (k2 : PySem.W.keepIn K (.ref f2) = true)
    (a3 : PySem.W.nsIn K mainGlobals "content_r" = some (some (.ref f3)))
    (l3 : K.lookup f3 = some ⟨oc3, od3, .func (PySem.W.fnOf "content_r" "content_r" (defArgs s_content_r) (defBody s_content_r) (defScope s_content_r) .none kV3 dc3 pm3 an3 cd3 ct3), sl3⟩)
    (c3 : PySem.W.codeIn K cd3 "content_r" = true)
    (k3 : PySem.W.keepIn K (.ref f3) = true)
    (a4 : PySem.W.nsIn K mainGlobals "is_due" = some (some (.ref f4)))
    (l4 : K.lookup f4 = some ⟨oc4, od4, .func (PySem.W.fnOf "is_due" "is_due" (defArgs s_is_due) (defBody s_is_due) (defScope s_is_due) .none kV4 dc4 pm4 an4 cd4 ct4), sl4⟩)
    (c4 : PySem.W.codeIn K cd4 "is_due" = true)
    (k4 : PySem.W.keepIn K (.ref f4) = true)
    (a5 : PySem.W.nsIn K mainGlobals "is_standing" = some (some (.ref f5)))
    (l5 : K.lookup f5 = some ⟨oc5, od5, .func (PySem.W.fnOf "is_standing" "is_standing" (defArgs s_is_standing) (defBody s_is_standing) (defScope s_is_standing) .none kV5 dc5 pm5 an5 cd5 ct5), sl5⟩)
    (c5 : PySem.W.codeIn K cd5 "is_standing" = true)
    (k5 : PySem.W.keepIn K (.ref f5) = true)
    (a6 : PySem.W.nsIn K mainGlobals "after_takel" = some (some (.ref f6)))
    (l6 : K.lookup f6 = some ⟨oc6, od6, .func (PySem.W.fnOf "after_takel" "after_takel" (defArgs s_after_takel) (defBody s_after_takel) (defScope s_after_takel) .none kV6 dc6 pm6 an6 cd6 ct6), sl6⟩)
    (c6 : PySem.W.codeIn K cd6 "after_takel" = true)
    (k6 : PySem.W.keepIn K (.ref f6) = true)
    (a7 : PySem.W.nsIn K mainGlobals "after_takep" = some (some (.ref f7)))
    (l7 : K.lookup f7 = some ⟨oc7, od7, .func (PySem.W.fnOf "after_takep" "after_takep" (defArgs s_after_takep) (defBody s_after_takep) (defScope s_after_takep) .none kV7 dc7 pm7 an7 cd7 ct7), sl7⟩)
    (c7 : PySem.W.codeIn K cd7 "after_takep" = true)
    (k7 : PySem.W.keepIn K (.ref f7) = true)
    (a8 : PySem.W.nsIn K mainGlobals "waits" = some (some (.ref f8)))
    (l8 : K.lookup f8 = some ⟨oc8, od8, .func (PySem.W.fnOf "waits" "waits" (defArgs s_waits) (defBody s_waits) (defScope s_waits) .none kV8 dc8 pm8 an8 cd8 ct8), sl8⟩)
    (c8 : PySem.W.codeIn K cd8 "waits" = true)
    (k8 : PySem.W.keepIn K (.ref f8) = true)
    (a9 : PySem.W.nsIn K mainGlobals "home_without_r" = some (some (.ref f9)))
    (l9 : K.lookup f9 = some ⟨oc9, od9, .func (PySem.W.fnOf "home_without_r" "home_without_r" (defArgs s_home_without_r) (defBody s_home_without_r) (defScope s_home_without_r) .none kV9 dc9 pm9 an9 cd9 ct9), sl9⟩)
    (c9 : PySem.W.codeIn K cd9 "home_without_r" = true)
    (k9 : PySem.W.keepIn K (.ref f9) = true)
    (a10 : PySem.W.nsIn K mainGlobals "after_change" = some (some (.ref f10)))
    (l10 : K.lookup f10 = some ⟨oc10, od10, .func (PySem.W.fnOf "after_change" "after_change" (defArgs s_after_change) (defBody s_after_change) (defScope s_after_change) .none kV10 dc10 pm10 an10 cd10 ct10), sl10⟩)
    (c10 : PySem.W.codeIn K cd10 "after_change" = true)
    (k10 : PySem.W.keepIn K (.ref f10) = true)
    (a11 : PySem.W.nsIn K mainGlobals "after_free" = some (some (.ref f11)))
    (l11 : K.lookup f11 = some ⟨oc11, od11, .func (PySem.W.fnOf "after_free" "after_free" (defArgs s_after_free) (defBody s_after_free) (defScope s_after_free) .none kV11 dc11 pm11 an11 cd11 ct11), sl11⟩)
    (c11 : PySem.W.codeIn K cd11 "after_free" = true)
    (k11 : PySem.W.keepIn K (.ref f11) = true)
    (a12 : PySem.W.nsIn K mainGlobals "after_close" = some (some (.ref f12)))
    (l12 : K.lookup f12 = some ⟨oc12, od12, .func (PySem.W.fnOf "after_close" "after_close" (defArgs s_after_close) (defBody s_after_close) (defScope s_after_close) .none kV12 dc12 pm12 an12 cd12 ct12), sl12⟩)
    (c12 : PySem.W.codeIn K cd12 "after_close" = true)
    (k12 : PySem.W.keepIn K (.ref f12) = true)
    (a13 : PySem.W.nsIn K mainGlobals "after_copy" = some (some (.ref f13)))
    (l13 : K.lookup f13 = some ⟨oc13, od13, .func (PySem.W.fnOf "after_copy" "after_copy" (defArgs s_after_copy) (defBody s_after_copy) (defScope s_after_copy) .none kV13 dc13 pm13 an13 cd13 ct13), sl13⟩)
    (c13 : PySem.W.codeIn K cd13 "after_copy" = true)
    (k13 : PySem.W.keepIn K (.ref f13) = true)
    (a14 : PySem.W.nsIn K mainGlobals "log_after_mark" = some (some (.ref f14)))
    (l14 : K.lookup f14 = some ⟨oc14, od14, .func (PySem.W.fnOf "log_after_mark" "log_after_mark" (defArgs s_log_after_mark) (defBody s_log_after_mark) (defScope s_log_after_mark) .none kV14 dc14 pm14 an14 cd14 ct14), sl14⟩)
    (c14 : PySem.W.codeIn K cd14 "log_after_mark" = true)
    (k14 : PySem.W.keepIn K (.ref f14) = true)
    (a15 : PySem.W.nsIn K mainGlobals "after_mark" = some (some (.ref f15)))
    (l15 : K.lookup f15 = some ⟨oc15, od15, .func (PySem.W.fnOf "after_mark" "after_mark" (defArgs s_after_mark) (defBody s_after_mark) (defScope s_after_mark) .none kV15 dc15 pm15 an15 cd15 ct15), sl15⟩)
    (c15 : PySem.W.codeIn K cd15 "after_mark" = true)
    (k15 : PySem.W.keepIn K (.ref f15) = true)
    (a16 : PySem.W.nsIn K mainGlobals "after_home" = some (some (.ref f16)))
    (l16 : K.lookup f16 = some ⟨oc16, od16, .func (PySem.W.fnOf "after_home" "after_home" (defArgs s_after_home) (defBody s_after_home) (defScope s_after_home) .none kV16 dc16 pm16 an16 cd16 ct16), sl16⟩)
    (c16 : PySem.W.codeIn K cd16 "after_home" = true)
    (k16 : PySem.W.keepIn K (.ref f16) = true)
    (a17 : PySem.W.nsIn K mainGlobals "after_early" = some (some (.ref f17)))
    (l17 : K.lookup f17 = some ⟨oc17, od17, .func (PySem.W.fnOf "after_early" "after_early" (defArgs s_after_early) (defBody s_after_early) (defScope s_after_early) .none kV17 dc17 pm17 an17 cd17 ct17), sl17⟩)
    (c17 : PySem.W.codeIn K cd17 "after_early" = true)
    (k17 : PySem.W.keepIn K (.ref f17) = true)
    (a18 : PySem.W.nsIn K mainGlobals "after_words" = some (some (.ref f18)))
    (l18 : K.lookup f18 = some ⟨oc18, od18, .func (PySem.W.fnOf "after_words" "after_words" (defArgs s_after_words) (defBody s_after_words) (defScope s_after_words) .none kV18 dc18 pm18 an18 cd18 ct18), sl18⟩)
    (c18 : PySem.W.codeIn K cd18 "after_words" = true)
    (k18 : PySem.W.keepIn K (.ref f18) = true)
    (a19 : PySem.W.nsIn K mainGlobals "after_room" = some (some (.ref f19)))
    (l19 : K.lookup f19 = some ⟨oc19, od19, .func (PySem.W.fnOf "after_room" "after_room" (defArgs s_after_room) (defBody s_after_room) (defScope s_after_room) .none kV19 dc19 pm19 an19 cd19 ct19), sl19⟩)
    (c19 : PySem.W.codeIn K cd19 "after_room" = true)
    (k19 : PySem.W.keepIn K (.ref f19) = true)
    (a20 : PySem.W.nsIn K mainGlobals "after_told" = some (some (.ref f20)))
    (l20 : K.lookup f20 = some ⟨oc20, od20, .func (PySem.W.fnOf "after_told" "after_told" (defArgs s_after_told) (defBody s_after_told) (defScope s_after_told) .none kV20 dc20 pm20 an20 cd20 ct20), sl20⟩)
    (c20 : PySem.W.codeIn K cd20 "after_told" = true)
    (k20 : PySem.W.keepIn K (.ref f20) = true)
    (a21 : PySem.W.nsIn K mainGlobals "after" = some (some (.ref f21)))
    (l21 : K.lookup f21 = some ⟨oc21, od21, .func (PySem.W.fnOf "after" "after" (defArgs s_after) (defBody s_after) (defScope s_after) .none kV21 dc21 pm21 an21 cd21 ct21), sl21⟩)
    (c21 : PySem.W.codeIn K cd21 "after" = true)
    (k21 : PySem.W.keepIn K (.ref f21) = true)
    (a22 : PySem.W.nsIn K mainGlobals "let_letters" = some (some (.ref f22)))
    (l22 : K.lookup f22 = some ⟨oc22, od22, .func (PySem.W.fnOf "let_letters" "let_letters" (defArgs s_let_letters) (defBody s_let_letters) (defScope s_let_letters) .none kV22 dc22 pm22 an22 cd22 ct22), sl22⟩)
    (c22 : PySem.W.codeIn K cd22 "let_letters" = true)
    (k22 : PySem.W.keepIn K (.ref f22) = true)
    (a23 : PySem.W.nsIn K mainGlobals "_law_feed" = some (some (.ref f23)))
    (l23 : K.lookup f23 = some ⟨oc23, od23, .func (PySem.W.fnOf "_law_feed" "_law_feed" (defArgs s_law_feed) (defBody s_law_feed) (defScope s_law_feed) .none kV23 dc23 pm23 an23 cd23 ct23), sl23⟩)
    (c23 : PySem.W.codeIn K cd23 "_law_feed" = true)
    (k23 : PySem.W.keepIn K (.ref f23) = true)
    (a24 : PySem.W.nsIn K mainGlobals "_law_pick" = some (some (.ref f24)))
    (l24 : K.lookup f24 = some ⟨oc24, od24, .func (PySem.W.fnOf "_law_pick" "_law_pick" (defArgs s_law_pick) (defBody s_law_pick) (defScope s_law_pick) .none kV24 dc24 pm24 an24 cd24 ct24), sl24⟩)
    (c24 : PySem.W.codeIn K cd24 "_law_pick" = true)
    (k24 : PySem.W.keepIn K (.ref f24) = true)
    (a25 : PySem.W.nsIn K mainGlobals "_law_rules" = some (some (.ref f25)))
    (l25 : K.lookup f25 = some ⟨oc25, od25, .func (PySem.W.fnOf "_law_rules" "_law_rules" (defArgs s_law_rules) (defBody s_law_rules) (defScope s_law_rules) .none kV25 dc25 pm25 an25 cd25 ct25), sl25⟩)
    (c25 : PySem.W.codeIn K cd25 "_law_rules" = true)
    (k25 : PySem.W.keepIn K (.ref f25) = true)
    (a26 : PySem.W.nsIn K mainGlobals "_law_names" = some (some (.ref f26)))
    (l26 : K.lookup f26 = some ⟨oc26, od26, .func (PySem.W.fnOf "_law_names" "_law_names" (defArgs s_law_names) (defBody s_law_names) (defScope s_law_names) .none kV26 dc26 pm26 an26 cd26 ct26), sl26⟩)
    (c26 : PySem.W.codeIn K cd26 "_law_names" = true)
    (k26 : PySem.W.keepIn K (.ref f26) = true)
    (a27 : PySem.W.nsIn K mainGlobals "_law_letters" = some (some (.ref f27)))
    (l27 : K.lookup f27 = some ⟨oc27, od27, .func (PySem.W.fnOf "_law_letters" "_law_letters" (defArgs s_law_letters) (defBody s_law_letters) (defScope s_law_letters) .none kV27 dc27 pm27 an27 cd27 ct27), sl27⟩)
    (c27 : PySem.W.codeIn K cd27 "_law_letters" = true)
    (k27 : PySem.W.keepIn K (.ref f27) = true)
    (a28 : PySem.W.nsIn K mainGlobals "_law_kind_c" = some (some (.ref f28)))
    (l28 : K.lookup f28 = some ⟨oc28, od28, .func (PySem.W.fnOf "_law_kind_c" "_law_kind_c" (defArgs s_law_kind_c) (defBody s_law_kind_c) (defScope s_law_kind_c) .none kV28 dc28 pm28 an28 cd28 ct28), sl28⟩)
    (c28 : PySem.W.codeIn K cd28 "_law_kind_c" = true)
    (k28 : PySem.W.keepIn K (.ref f28) = true)
    (a29 : PySem.W.nsIn K mainGlobals "_law_kind_r" = some (some (.ref f29)))
    (l29 : K.lookup f29 = some ⟨oc29, od29, .func (PySem.W.fnOf "_law_kind_r" "_law_kind_r" (defArgs s_law_kind_r) (defBody s_law_kind_r) (defScope s_law_kind_r) .none kV29 dc29 pm29 an29 cd29 ct29), sl29⟩)
    (c29 : PySem.W.codeIn K cd29 "_law_kind_r" = true)
    (k29 : PySem.W.keepIn K (.ref f29) = true)
    (a30 : PySem.W.nsIn K mainGlobals "_law_one" = some (some (.ref f30)))
    (l30 : K.lookup f30 = some ⟨oc30, od30, .func (PySem.W.fnOf "_law_one" "_law_one" (defArgs s_law_one) (defBody s_law_one) (defScope s_law_one) .none kV30 dc30 pm30 an30 cd30 ct30), sl30⟩)
    (c30 : PySem.W.codeIn K cd30 "_law_one" = true)
    (k30 : PySem.W.keepIn K (.ref f30) = true)
    (a31 : PySem.W.nsIn K mainGlobals "_law_drawn" = some (some (.ref f31)))
    (l31 : K.lookup f31 = some ⟨oc31, od31, .func (PySem.W.fnOf "_law_drawn" "_law_drawn" (defArgs s_law_drawn) (defBody s_law_drawn) (defScope s_law_drawn) .none kV31 dc31 pm31 an31 cd31 ct31), sl31⟩)
    (c31 : PySem.W.codeIn K cd31 "_law_drawn" = true)
    (k31 : PySem.W.keepIn K (.ref f31) = true)
    (a32 : PySem.W.nsIn K mainGlobals "_law_content_c" = some (some (.ref f32)))
    (l32 : K.lookup f32 = some ⟨oc32, od32, .func (PySem.W.fnOf "_law_content_c" "_law_content_c" (defArgs s_law_content_c) (defBody s_law_content_c) (defScope s_law_content_c) .none kV32 dc32 pm32 an32 cd32 ct32), sl32⟩)
    (c32 : PySem.W.codeIn K cd32 "_law_content_c" = true)
    (k32 : PySem.W.keepIn K (.ref f32) = true)
    (a33 : PySem.W.nsIn K mainGlobals "_law_content_r" = some (some (.ref f33)))
    (l33 : K.lookup f33 = some ⟨oc33, od33, .func (PySem.W.fnOf "_law_content_r" "_law_content_r" (defArgs s_law_content_r) (defBody s_law_content_r) (defScope s_law_content_r) .none kV33 dc33 pm33 an33 cd33 ct33), sl33⟩)
    (c33 : PySem.W.codeIn K cd33 "_law_content_r" = true)
    (k33 : PySem.W.keepIn K (.ref f33) = true)
    (a34 : PySem.W.nsIn K mainGlobals "_law_words_let" = some (some (.ref f34)))
    (l34 : K.lookup f34 = some ⟨oc34, od34, .func (PySem.W.fnOf "_law_words_let" "_law_words_let" (defArgs s_law_words_let) (defBody s_law_words_let) (defScope s_law_words_let) .none kV34 dc34 pm34 an34 cd34 ct34), sl34⟩)
    (c34 : PySem.W.codeIn K cd34 "_law_words_let" = true)
    (k34 : PySem.W.keepIn K (.ref f34) = true)
    (a35 : PySem.W.nsIn K mainGlobals "_law_let" = some (some (.ref f35)))
    (l35 : K.lookup f35 = some ⟨oc35, od35, .func (PySem.W.fnOf "_law_let" "_law_let" (defArgs s_law_let) (defBody s_law_let) (defScope s_law_let) .none kV35 dc35 pm35 an35 cd35 ct35), sl35⟩)
    (c35 : PySem.W.codeIn K cd35 "_law_let" = true)
    (k35 : PySem.W.keepIn K (.ref f35) = true)
    (a36 : PySem.W.nsIn K mainGlobals "_law_log" = some (some (.ref f36)))
    (l36 : K.lookup f36 = some ⟨oc36, od36, .func (PySem.W.fnOf "_law_log" "_law_log" (defArgs s_law_log) (defBody s_law_log) (defScope s_law_log) .none kV36 dc36 pm36 an36 cd36 ct36), sl36⟩)
    (c36 : PySem.W.codeIn K cd36 "_law_log" = true)
    (k36 : PySem.W.keepIn K (.ref f36) = true)
    (a37 : PySem.W.nsIn K mainGlobals "_law_marked" = some (some (.ref f37)))
    (l37 : K.lookup f37 = some ⟨oc37, od37, .func (PySem.W.fnOf "_law_marked" "_law_marked" (defArgs s_law_marked) (defBody s_law_marked) (defScope s_law_marked) .none kV37 dc37 pm37 an37 cd37 ct37), sl37⟩)
    (c37 : PySem.W.codeIn K cd37 "_law_marked" = true)
    (k37 : PySem.W.keepIn K (.ref f37) = true)
    (a38 : PySem.W.nsIn K mainGlobals "_law_behind" = some (some (.ref f38)))
    (l38 : K.lookup f38 = some ⟨oc38, od38, .func (PySem.W.fnOf "_law_behind" "_law_behind" (defArgs s_law_behind) (defBody s_law_behind) (defScope s_law_behind) .none kV38 dc38 pm38 an38 cd38 ct38), sl38⟩)
    (c38 : PySem.W.codeIn K cd38 "_law_behind" = true)
    (k38 : PySem.W.keepIn K (.ref f38) = true)
    (a39 : PySem.W.nsIn K mainGlobals "_law_same" = some (some (.ref f39)))
    (l39 : K.lookup f39 = some ⟨oc39, od39, .func (PySem.W.fnOf "_law_same" "_law_same" (defArgs s_law_same) (defBody s_law_same) (defScope s_law_same) .none kV39 dc39 pm39 an39 cd39 ct39), sl39⟩)
    (c39 : PySem.W.codeIn K cd39 "_law_same" = true)
    (k39 : PySem.W.keepIn K (.ref f39) = true)
    (a40 : PySem.W.nsIn K mainGlobals "_law_letter_good" = some (some (.ref f40)))
    (l40 : K.lookup f40 = some ⟨oc40, od40, .func (PySem.W.fnOf "_law_letter_good" "_law_letter_good" (defArgs s_law_letter_good) (defBody s_law_letter_good) (defScope s_law_letter_good) .none kV40 dc40 pm40 an40 cd40 ct40), sl40⟩)
    (c40 : PySem.W.codeIn K cd40 "_law_letter_good" = true)
    (k40 : PySem.W.keepIn K (.ref f40) = true)
    (a41 : PySem.W.nsIn K mainGlobals "_law_raises" = some (some (.ref f41)))
    (l41 : K.lookup f41 = some ⟨oc41, od41, .func (PySem.W.fnOf "_law_raises" "_law_raises" (defArgs s_law_raises) (defBody s_law_raises) (defScope s_law_raises) .none kV41 dc41 pm41 an41 cd41 ct41), sl41⟩)
    (c41 : PySem.W.codeIn K cd41 "_law_raises" = true)
    (k41 : PySem.W.keepIn K (.ref f41) = true)
    (a42 : PySem.W.nsIn K mainGlobals "_law_spoilt" = some (some (.ref f42)))
    (l42 : K.lookup f42 = some ⟨oc42, od42, .func (PySem.W.fnOf "_law_spoilt" "_law_spoilt" (defArgs s_law_spoilt) (defBody s_law_spoilt) (defScope s_law_spoilt) .none kV42 dc42 pm42 an42 cd42 ct42), sl42⟩)
    (c42 : PySem.W.codeIn K cd42 "_law_spoilt" = true)
    (k42 : PySem.W.keepIn K (.ref f42) = true)
    (a43 : PySem.W.nsIn K mainGlobals "law" = some (some (.ref f43)))
    (l43 : K.lookup f43 = some ⟨oc43, od43, .func (PySem.W.fnOf "law" "law" (defArgs s_law) (defBody s_law) (defScope s_law) .none kV43 dc43 pm43 an43 cd43 ct43), sl43⟩)
    (c43 : PySem.W.codeIn K cd43 "law" = true)
    (k43 : PySem.W.keepIn K (.ref f43) = true)
    (a44 : PySem.W.findIn K (.ref c_Book) "__init__" = some (some (.ref f44)))
    (i44 : PySem.W.isFn K (.ref f44) = true)
    (l44 : K.lookup f44 = some ⟨oc44, od44, .func (PySem.W.fnOf "__init__" "RuleSet.__init__" (defArgs s_Book_init) (defBody s_Book_init) (defScope s_Book_init) .none kV44 dc44 pm44 an44 cd44 ct44), sl44⟩)
    (c44 : PySem.W.codeIn K cd44 "RuleSet.__init__" = true)
    (k44 : PySem.W.keepIn K (.ref f44) = true)
    (a45 : PySem.W.findIn K (.ref c_Book) "__contains__" = some (some (.ref f45)))
    (i45 : PySem.W.isFn K (.ref f45) = true)
    (l45 : K.lookup f45 = some ⟨oc45, od45, .func (PySem.W.fnOf "__contains__" "RuleSet.__contains__" (defArgs s_Book_contains) (defBody s_Book_contains) (defScope s_Book_contains) .none kV45 dc45 pm45 an45 cd45 ct45), sl45⟩)
    (c45 : PySem.W.codeIn K cd45 "RuleSet.__contains__" = true)
    (k45 : PySem.W.keepIn K (.ref f45) = true)
    (a46 : PySem.W.findCls K (.ref c_Book) (.type "type") "of_number" = some (.get (.builtin "staticmethod.__get__") (.ref ps46) .none (.ref c_Book)))
    (i46 : PySem.W.recIn K ps46 "staticmethod" = some (.ref f46 :: rs46))
    (l46 : K.lookup f46 = some ⟨oc46, od46, .func (PySem.W.fnOf "of_number" "Book.of_number" (defArgs s_Book_of_number) (defBody s_Book_of_number) (defScope s_Book_of_number) .none kV46 dc46 pm46 an46 cd46 ct46), sl46⟩)
    (c46 : PySem.W.codeIn K cd46 "Book.of_number" = true)
    (k46 : PySem.W.keepIn K (.ref f46) = true)
    (z_abs : PySem.W.nsIn K mainGlobals "abs" = some none)
    (z_enumerate : PySem.W.nsIn K mainGlobals "enumerate" = some none)
    (z_int : PySem.W.nsIn K mainGlobals "int" = some none)
    (z_isinstance : PySem.W.nsIn K mainGlobals "isinstance" = some none)
    (z_len : PySem.W.nsIn K mainGlobals "len" = some none)
    (z_list : PySem.W.nsIn K mainGlobals "list" = some none)
    (z_range : PySem.W.nsIn K mainGlobals "range" = some none)
    (z_staticmethod : PySem.W.nsIn K mainGlobals "staticmethod" = some none)
    (z_str : PySem.W.nsIn K mainGlobals "str" = some none)
    (z_tuple : PySem.W.nsIn K mainGlobals "tuple" = some none)
    (lkc_LETTERS : K.lookup c_LETTERS = some ⟨.type "tuple", odc_LETTERS, .seq #[.str "takel" tkc_LETTERS_0, .str "takep" tkc_LETTERS_1, .str "change" tkc_LETTERS_2, .str "free" tkc_LETTERS_3, .str "close" tkc_LETTERS_4, .str "copy" tkc_LETTERS_5, .str "mark" tkc_LETTERS_6, .str "home" tkc_LETTERS_7, .str "early" tkc_LETTERS_8, .str "words" tkc_LETTERS_9, .str "room" tkc_LETTERS_10, .str "told" tkc_LETTERS_11] nc_LETTERS, slc_LETTERS⟩)
    (qc_LETTERS : PySem.W.nsIn K mainGlobals "LETTERS" = some (some (.ref c_LETTERS)))
    (lkc_LOST : K.lookup c_LOST = some ⟨.type "tuple", odc_LOST, .seq #[.str "lost" tkc_LOST_0] nc_LOST, slc_LOST⟩)
    (qc_LOST : PySem.W.nsIn K mainGlobals "LOST" = some (some (.ref c_LOST)))
    (lkc_NEW : K.lookup c_NEW = some ⟨.type "tuple", odc_NEW, .seq #[.str "~" tkc_NEW_0, .str "L" tkc_NEW_1, .str "P" tkc_NEW_2] nc_NEW, slc_NEW⟩)
    (qc_NEW : PySem.W.nsIn K mainGlobals "NEW" = some (some (.ref c_NEW)))
    (lkc_SIGNS_0 : K.lookup c_SIGNS_0 = some ⟨.type "tuple", odc_SIGNS_0, .seq #[.str "F" tkc_SIGNS_0_0, .str "L" tkc_SIGNS_0_1, .str "P" tkc_SIGNS_0_2] nc_SIGNS_0, slc_SIGNS_0⟩)
    (lkc_SIGNS_1 : K.lookup c_SIGNS_1 = some ⟨.type "tuple", odc_SIGNS_1, .seq #[.str "-" tkc_SIGNS_1_0, .str "=" tkc_SIGNS_1_1, .str "~" tkc_SIGNS_1_2, .str "F" tkc_SIGNS_1_3, .str "L" tkc_SIGNS_1_4, .str "P" tkc_SIGNS_1_5] nc_SIGNS_1, slc_SIGNS_1⟩)
    (lkc_SIGNS_2 : K.lookup c_SIGNS_2 = some ⟨.type "tuple", odc_SIGNS_2, .seq #[.str "=" tkc_SIGNS_2_0, .str "~" tkc_SIGNS_2_1, .str "F" tkc_SIGNS_2_2, .str "L" tkc_SIGNS_2_3, .str "P" tkc_SIGNS_2_4] nc_SIGNS_2, slc_SIGNS_2⟩)
    (lkc_SIGNS_3 : K.lookup c_SIGNS_3 = some ⟨.type "tuple", odc_SIGNS_3, .seq #[.str "K" tkc_SIGNS_3_0, .str "C" tkc_SIGNS_3_1, .str "R" tkc_SIGNS_3_2, .str "o" tkc_SIGNS_3_3] nc_SIGNS_3, slc_SIGNS_3⟩)
    (lkc_SIGNS_4 : K.lookup c_SIGNS_4 = some ⟨.type "tuple", odc_SIGNS_4, .seq #[.str "-" tkc_SIGNS_4_0, .str "K" tkc_SIGNS_4_1, .str "o" tkc_SIGNS_4_2] nc_SIGNS_4, slc_SIGNS_4⟩)
    (lkc_SIGNS_5 : K.lookup c_SIGNS_5 = some ⟨.type "tuple", odc_SIGNS_5, .seq #[.str "-" tkc_SIGNS_5_0, .str "+" tkc_SIGNS_5_1, .str "!" tkc_SIGNS_5_2] nc_SIGNS_5, slc_SIGNS_5⟩)
    (lkc_SIGNS : K.lookup c_SIGNS = some ⟨.type "tuple", odc_SIGNS, .seq #[.ref c_SIGNS_0, .ref c_SIGNS_1, .ref c_SIGNS_2, .ref c_SIGNS_3, .ref c_SIGNS_4, .ref c_SIGNS_5] nc_SIGNS, slc_SIGNS⟩)
    (qc_SIGNS : PySem.W.nsIn K mainGlobals "SIGNS" = some (some (.ref c_SIGNS)))
    (qc_STEPS : PySem.W.nsIn K mainGlobals "STEPS" = some (some (.ref c_STEPS)))
    (lkc_STEPS : K.lookup c_STEPS = some ⟨.type "dict", none, .dict #[⟨h_STEPS_0, .str "takel" t_STEPS_0, .ref f6⟩, ⟨h_STEPS_1, .str "takep" t_STEPS_1, .ref f7⟩, ⟨h_STEPS_2, .str "change" t_STEPS_2, .ref f10⟩, ⟨h_STEPS_3, .str "free" t_STEPS_3, .ref f11⟩, ⟨h_STEPS_4, .str "close" t_STEPS_4, .ref f12⟩, ⟨h_STEPS_5, .str "copy" t_STEPS_5, .ref f13⟩, ⟨h_STEPS_6, .str "mark" t_STEPS_6, .ref f15⟩, ⟨h_STEPS_7, .str "home" t_STEPS_7, .ref f16⟩, ⟨h_STEPS_8, .str "early" t_STEPS_8, .ref f17⟩, ⟨h_STEPS_9, .str "words" t_STEPS_9, .ref f18⟩, ⟨h_STEPS_10, .str "room" t_STEPS_10, .ref f19⟩, ⟨h_STEPS_11, .str "told" t_STEPS_11, .ref f20⟩] n_STEPS, #[]⟩)
    (lw_STEPS : (c_STEPS == sysModules) = false)
    (lit_STEPS : PySem.W.KeysLit w.params [⟨h_STEPS_0, .str "takel" t_STEPS_0, .ref f6⟩, ⟨h_STEPS_1, .str "takep" t_STEPS_1, .ref f7⟩, ⟨h_STEPS_2, .str "change" t_STEPS_2, .ref f10⟩, ⟨h_STEPS_3, .str "free" t_STEPS_3, .ref f11⟩, ⟨h_STEPS_4, .str "close" t_STEPS_4, .ref f12⟩, ⟨h_STEPS_5, .str "copy" t_STEPS_5, .ref f13⟩, ⟨h_STEPS_6, .str "mark" t_STEPS_6, .ref f15⟩, ⟨h_STEPS_7, .str "home" t_STEPS_7, .ref f16⟩, ⟨h_STEPS_8, .str "early" t_STEPS_8, .ref f17⟩, ⟨h_STEPS_9, .str "words" t_STEPS_9, .ref f18⟩, ⟨h_STEPS_10, .str "room" t_STEPS_10, .ref f19⟩, ⟨h_STEPS_11, .str "told" t_STEPS_11, .ref f20⟩])
    (gx_BadValue : PySem.W.nsIn K mainGlobals "BadValue" = some (some (.ref e_BadValue)))
    (xx_BadValue : PySem.W.excIn K e_BadValue [.type "ValueError", .type "Exception", .type "BaseException", .type "object"] "ValueError.__new__" = true)
    (kx_BadValue : PySem.W.keepIn K (.ref e_BadValue) = true)
    (bx_BadValue : PySem.W.subIn K (.ref e_BadValue) (.type "BaseException") = some true)
    (tx_BadValue : PySem.W.typeIn K (.ref e_BadValue) = some (.type "type"))
    (hg_BadValue : PySem.W.findIn K (.ref e_BadValue) "__getattribute__" = some (some (.builtin "BaseException.__getattribute__")))
    (hk_BadValue : PySem.W.findIn K (.ref e_BadValue) "__getattr__" = some none)
    (hh_BadValue : PySem.W.hasDictIn K e_BadValue = true)
    (ha_BadValue : PySem.W.findIn K (.ref e_BadValue) "__class__" = some (some (.builtin "object.__class__")))
    (hn_BadValue : PySem.W.specialIn K (.builtin "object.__class__") "__get__" = some (some (.builtin "getset_descriptor.__get__")))
    (ht_BadValue : PySem.W.takesIn K (.builtin "object.__class__") = some true)
    (hm_BadValue : PySem.W.mroIn K e_BadValue (.type "object") = some true)
    (gx_StoreError : PySem.W.nsIn K mainGlobals "StoreError" = some (some (.ref e_StoreError)))
    (xx_StoreError : PySem.W.excIn K e_StoreError [.type "ValueError", .type "Exception", .type "BaseException", .type "object"] "ValueError.__new__" = true)
    (kx_StoreError : PySem.W.keepIn K (.ref e_StoreError) = true)
    (bx_StoreError : PySem.W.subIn K (.ref e_StoreError) (.type "BaseException") = some true)
    (tx_StoreError : PySem.W.typeIn K (.ref e_StoreError) = some (.type "type"))
    (hg_StoreError : PySem.W.findIn K (.ref e_StoreError) "__getattribute__" = some (some (.builtin "BaseException.__getattribute__")))
    (hk_StoreError : PySem.W.findIn K (.ref e_StoreError) "__getattr__" = some none)
    (hh_StoreError : PySem.W.hasDictIn K e_StoreError = true)
    (ha_StoreError : PySem.W.findIn K (.ref e_StoreError) "__class__" = some (some (.builtin "object.__class__")))
    (hn_StoreError : PySem.W.specialIn K (.builtin "object.__class__") "__get__" = some (some (.builtin "getset_descriptor.__get__")))
    (ht_StoreError : PySem.W.takesIn K (.builtin "object.__class__") = some true)
    (hm_StoreError : PySem.W.mroIn K e_StoreError (.type "object") = some true)
    (gx_BadText : PySem.W.nsIn K mainGlobals "BadText" = some (some (.ref e_BadText)))
    (xx_BadText : PySem.W.excIn K e_BadText [.type "ValueError", .type "Exception", .type "BaseException", .type "object"] "ValueError.__new__" = true)
    (kx_BadText : PySem.W.keepIn K (.ref e_BadText) = true)
    (bx_BadText : PySem.W.subIn K (.ref e_BadText) (.type "BaseException") = some true)
    (tx_BadText : PySem.W.typeIn K (.ref e_BadText) = some (.type "type"))
    (hg_BadText : PySem.W.findIn K (.ref e_BadText) "__getattribute__" = some (some (.builtin "BaseException.__getattribute__")))
    (hk_BadText : PySem.W.findIn K (.ref e_BadText) "__getattr__" = some none)
    (hh_BadText : PySem.W.hasDictIn K e_BadText = true)
    (ha_BadText : PySem.W.findIn K (.ref e_BadText) "__class__" = some (some (.builtin "object.__class__")))
    (hn_BadText : PySem.W.specialIn K (.builtin "object.__class__") "__get__" = some (some (.builtin "getset_descriptor.__get__")))
    (ht_BadText : PySem.W.takesIn K (.builtin "object.__class__") = some true)
    (hm_BadText : PySem.W.mroIn K e_BadText (.type "object") = some true)
    (mx_BadValue_StoreError : PySem.W.subIn K (.ref e_BadValue) (.ref e_StoreError) = some true)
    (ix_BadValue_BadValue : PySem.W.subIn K (.ref e_BadValue) (.ref e_BadValue) = some true)
    (ix_BadValue_BadText : PySem.W.subIn K (.ref e_BadValue) (.ref e_BadText) = some false)
    (is_BadValue_BadText : PySem.W.subIn K (.ref e_BadValue) (.ref e_BadValue) = some true)
    : ∃ T : Txt K mg w, mg "law" = some (.ref T.a_law) ∧ (∀ (s : Shared) (v : Value), BindsTo s T.fd_law ⟨[v], []⟩ [("_law_script", v)]) := by
  have F0 := fun_mk (st := s_kind_c) l0 c0 k0
  have b0 := F0.binds (ps := ["standing"]) fun _ _ _ _ _ _ us hl => match us, hl with | [_], _ => rfl
  have F1 := fun_mk (st := s_kind_r) l1 c1 k1
  have b1 := F1.binds (ps := ["standing"]) fun _ _ _ _ _ _ us hl => match us, hl with | [_], _ => rfl
  have F2 := fun_mk (st := s_content_c) l2 c2 k2
  have b2 := F2.binds (ps := ["standing"]) fun _ _ _ _ _ _ us hl => match us, hl with | [_], _ => rfl
  have F3 := fun_mk (st := s_content_r) l3 c3 k3
  have b3 := F3.binds (ps := ["standing"]) fun _ _ _ _ _ _ us hl => match us, hl with | [_], _ => rfl
  have F4 := fun_mk (st := s_is_due) l4 c4 k4
  have b4 := F4.binds (ps := ["standing"]) fun _ _ _ _ _ _ us hl => match us, hl with | [_], _ => rfl
  have F5 := fun_mk (st := s_is_standing) l5 c5 k5
  have b5 := F5.binds (ps := ["signs"]) fun _ _ _ _ _ _ us hl => match us, hl with | [_], _ => rfl
  have F6 := fun_mk (st := s_after_takel) l6 c6 k6
  have b6 := F6.binds (ps := ["standing", "book"]) fun _ _ _ _ _ _ us hl => match us, hl with | [_, _], _ => rfl
  have F7 := fun_mk (st := s_after_takep) l7 c7 k7
  have b7 := F7.binds (ps := ["standing", "book"]) fun _ _ _ _ _ _ us hl => match us, hl with | [_, _], _ => rfl
  have F8 := fun_mk (st := s_waits) l8 c8 k8
  have b8 := F8.binds (ps := ["standing", "book"]) fun _ _ _ _ _ _ us hl => match us, hl with | [_, _], _ => rfl
  have F9 := fun_mk (st := s_home_without_r) l9 c9 k9
  have b9 := F9.binds (ps := ["h"]) fun _ _ _ _ _ _ us hl => match us, hl with | [_], _ => rfl
  have F10 := fun_mk (st := s_after_change) l10 c10 k10
  have b10 := F10.binds (ps := ["standing", "book"]) fun _ _ _ _ _ _ us hl => match us, hl with | [_, _], _ => rfl
  have F11 := fun_mk (st := s_after_free) l11 c11 k11
  have b11 := F11.binds (ps := ["standing", "book"]) fun _ _ _ _ _ _ us hl => match us, hl with | [_, _], _ => rfl
  have F12 := fun_mk (st := s_after_close) l12 c12 k12
  have b12 := F12.binds (ps := ["standing", "book"]) fun _ _ _ _ _ _ us hl => match us, hl with | [_, _], _ => rfl
  have F13 := fun_mk (st := s_after_copy) l13 c13 k13
  have b13 := F13.binds (ps := ["standing", "book"]) fun _ _ _ _ _ _ us hl => match us, hl with | [_, _], _ => rfl
  have F14 := fun_mk (st := s_log_after_mark) l14 c14 k14
  have b14 := F14.binds (ps := ["standing", "book"]) fun _ _ _ _ _ _ us hl => match us, hl with | [_, _], _ => rfl
  have F15 := fun_mk (st := s_after_mark) l15 c15 k15
  have b15 := F15.binds (ps := ["standing", "book"]) fun _ _ _ _ _ _ us hl => match us, hl with | [_, _], _ => rfl
  have F16 := fun_mk (st := s_after_home) l16 c16 k16
  have b16 := F16.binds (ps := ["standing", "book"]) fun _ _ _ _ _ _ us hl => match us, hl with | [_, _], _ => rfl
  have F17 := fun_mk (st := s_after_early) l17 c17 k17
  have b17 := F17.binds (ps := ["standing", "book"]) fun _ _ _ _ _ _ us hl => match us, hl with | [_, _], _ => rfl
  have F18 := fun_mk (st := s_after_words) l18 c18 k18
  have b18 := F18.binds (ps := ["standing", "book"]) fun _ _ _ _ _ _ us hl => match us, hl with | [_, _], _ => rfl
  have F19 := fun_mk (st := s_after_room) l19 c19 k19
  have b19 := F19.binds (ps := ["standing", "book"]) fun _ _ _ _ _ _ us hl => match us, hl with | [_, _], _ => rfl
  have F20 := fun_mk (st := s_after_told) l20 c20 k20
  have b20 := F20.binds (ps := ["standing", "book"]) fun _ _ _ _ _ _ us hl => match us, hl with | [_, _], _ => rfl
  have F21 := fun_mk (st := s_after) l21 c21 k21
  have b21 := F21.binds (ps := ["standing", "letter", "book"]) fun _ _ _ _ _ _ us hl => match us, hl with | [_, _, _], _ => rfl
  have F22 := fun_mk (st := s_let_letters) l22 c22 k22
  have b22 := F22.binds (ps := ["standing", "book"]) fun _ _ _ _ _ _ us hl => match us, hl with | [_, _], _ => rfl
  have F23 := fun_mk (st := s_law_feed) l23 c23 k23
  have b23 := F23.binds (ps := ["_law_script"]) fun _ _ _ _ _ _ us hl => match us, hl with | [_], _ => rfl
  have F24 := fun_mk (st := s_law_pick) l24 c24 k24
  have b24 := F24.binds (ps := ["_law_feed_here", "_law_limit"]) fun _ _ _ _ _ _ us hl => match us, hl with | [_, _], _ => rfl
  have F25 := fun_mk (st := s_law_rules) l25 c25 k25
  have b25 := F25.binds (ps := []) fun _ _ _ _ _ _ us hl => match us, hl with | [], _ => rfl
  have F26 := fun_mk (st := s_law_names) l26 c26 k26
  have b26 := F26.binds (ps := ["_law_number"]) fun _ _ _ _ _ _ us hl => match us, hl with | [_], _ => rfl
  have F27 := fun_mk (st := s_law_letters) l27 c27 k27
  have b27 := F27.binds (ps := []) fun _ _ _ _ _ _ us hl => match us, hl with | [], _ => rfl
  have F28 := fun_mk (st := s_law_kind_c) l28 c28 k28
  have b28 := F28.binds (ps := ["_law_k", "_law_c"]) fun _ _ _ _ _ _ us hl => match us, hl with | [_, _], _ => rfl
  have F29 := fun_mk (st := s_law_kind_r) l29 c29 k29
  have b29 := F29.binds (ps := ["_law_k", "_law_c", "_law_r"]) fun _ _ _ _ _ _ us hl => match us, hl with | [_, _, _], _ => rfl
  have F30 := fun_mk (st := s_law_one) l30 c30 k30
  have b30 := F30.binds (ps := ["_law_feed_here", "_law_signs"]) fun _ _ _ _ _ _ us hl => match us, hl with | [_, _], _ => rfl
  have F31 := fun_mk (st := s_law_drawn) l31 c31 k31
  have b31 := F31.binds (ps := ["_law_feed_here"]) fun _ _ _ _ _ _ us hl => match us, hl with | [_], _ => rfl
  have F32 := fun_mk (st := s_law_content_c) l32 c32 k32
  have b32 := F32.binds (ps := ["_law_s"]) fun _ _ _ _ _ _ us hl => match us, hl with | [_], _ => rfl
  have F33 := fun_mk (st := s_law_content_r) l33 c33 k33
  have b33 := F33.binds (ps := ["_law_s"]) fun _ _ _ _ _ _ us hl => match us, hl with | [_], _ => rfl
  have F34 := fun_mk (st := s_law_words_let) l34 c34 k34
  have b34 := F34.binds (ps := ["_law_s", "_law_names_here"]) fun _ _ _ _ _ _ us hl => match us, hl with | [_, _], _ => rfl
  have F35 := fun_mk (st := s_law_let) l35 c35 k35
  have b35 := F35.binds (ps := ["_law_s", "_law_letter", "_law_names_here"]) fun _ _ _ _ _ _ us hl => match us, hl with | [_, _, _], _ => rfl
  have F36 := fun_mk (st := s_law_log) l36 c36 k36
  have b36 := F36.binds (ps := ["_law_s", "_law_names_here"]) fun _ _ _ _ _ _ us hl => match us, hl with | [_, _], _ => rfl
  have F37 := fun_mk (st := s_law_marked) l37 c37 k37
  have b37 := F37.binds (ps := ["_law_s", "_law_names_here"]) fun _ _ _ _ _ _ us hl => match us, hl with | [_, _], _ => rfl
  have F38 := fun_mk (st := s_law_behind) l38 c38 k38
  have b38 := F38.binds (ps := ["_law_s", "_law_letter", "_law_names_here"]) fun _ _ _ _ _ _ us hl => match us, hl with | [_, _, _], _ => rfl
  have F39 := fun_mk (st := s_law_same) l39 c39 k39
  have b39 := F39.binds (ps := ["_law_actual", "_law_due"]) fun _ _ _ _ _ _ us hl => match us, hl with | [_, _], _ => rfl
  have F40 := fun_mk (st := s_law_letter_good) l40 c40 k40
  have b40 := F40.binds (ps := ["_law_s", "_law_letter", "_law_names_here", "_law_book"]) fun _ _ _ _ _ _ us hl => match us, hl with | [_, _, _, _], _ => rfl
  have F41 := fun_mk (st := s_law_raises) l41 c41 k41
  have b41 := F41.binds (ps := ["_law_s", "_law_letter", "_law_book"]) fun _ _ _ _ _ _ us hl => match us, hl with | [_, _, _], _ => rfl
  have F42 := fun_mk (st := s_law_spoilt) l42 c42 k42
  have b42 := F42.binds (ps := ["_law_s"]) fun _ _ _ _ _ _ us hl => match us, hl with | [_], _ => rfl
  have F43 := fun_mk (st := s_law) l43 c43 k43
  have b43 := F43.binds (ps := ["_law_script"]) fun _ _ _ _ _ _ us hl => match us, hl with | [_], _ => rfl
  have F44 := fun_mk (st := s_Book_init) l44 c44 k44
  have b44 := F44.binds (ps := ["self", "names"]) fun _ _ _ _ _ _ us hl => match us, hl with | [_, _], _ => rfl
  have F45 := fun_mk (st := s_Book_contains) l45 c45 k45
  have b45 := F45.binds (ps := ["self", "name"]) fun _ _ _ _ _ _ us hl => match us, hl with | [_, _], _ => rfl
  have F46 := fun_mk (st := s_Book_of_number) l46 c46 k46
  have b46 := F46.binds (ps := ["number"]) fun _ _ _ _ _ _ us hl => match us, hl with | [_], _ => rfl
  exact ⟨{
    c_Book := _
    C_Book := ⟨pg_Book, hd_Book, po_Book, sa_Book⟩
    g_Book := PySem.W.mg_of X G aC_Book
    kp_Book := kc_Book
    mk_Book := mk_Book
    n_Book_names := nf_Book_names
    n_Book_number := nf_Book_number
    r_Book := ⟨rd_Book, ga_Book⟩
    c_Book_RULES := _
    w_Book_RULES := sqt_w lkc_Book_RULES (by show 12 ≤ sizeLine; decide) (.cons ⟨_, rfl⟩ (.cons ⟨_, rfl⟩ (.cons ⟨_, rfl⟩ (.cons ⟨_, rfl⟩ (.cons ⟨_, rfl⟩ (.cons ⟨_, rfl⟩ (.cons ⟨_, rfl⟩ (.cons ⟨_, rfl⟩ (.cons ⟨_, rfl⟩ (.cons ⟨_, rfl⟩ (.cons ⟨_, rfl⟩ (.cons ⟨_, rfl⟩ .nil))))))))))))
    k_Book_RULES := ⟨cv_Book_RULES, rfl⟩
    ki_Book_RULES := ⟨ci_Book_RULES, rfl, cg_Book_RULES, by decide +kernel⟩
    a_kind_c := _
    fd_kind_c := _
    F_kind_c := F0
    b_kind_c := b0
    m_kind_c := PySem.W.mg_of X G a0
    a_kind_r := _
    fd_kind_r := _
    F_kind_r := F1
    b_kind_r := b1
    m_kind_r := PySem.W.mg_of X G a1
    a_content_c := _
    fd_content_c := _
    F_content_c := F2
    b_content_c := b2
    m_content_c := PySem.W.mg_of X G a2
    a_content_r := _
    fd_content_r := _
    F_content_r := F3
    b_content_r := b3
    m_content_r := PySem.W.mg_of X G a3
    a_is_due := _
    fd_is_due := _
    F_is_due := F4
    b_is_due := b4
    m_is_due := PySem.W.mg_of X G a4
    a_is_standing := _
    fd_is_standing := _
    F_is_standing := F5
    b_is_standing := b5
    m_is_standing := PySem.W.mg_of X G a5
    a_after_takel := _
    fd_after_takel := _
    F_after_takel := F6
    b_after_takel := b6
    m_after_takel := PySem.W.mg_of X G a6
    a_after_takep := _
    fd_after_takep := _
    F_after_takep := F7
    b_after_takep := b7
    m_after_takep := PySem.W.mg_of X G a7
    a_waits := _
    fd_waits := _
    F_waits := F8
    b_waits := b8
    m_waits := PySem.W.mg_of X G a8
    a_home_without_r := _
    fd_home_without_r := _
    F_home_without_r := F9
    b_home_without_r := b9
    m_home_without_r := PySem.W.mg_of X G a9
    a_after_change := _
    fd_after_change := _
    F_after_change := F10
    b_after_change := b10
    m_after_change := PySem.W.mg_of X G a10
    a_after_free := _
    fd_after_free := _
    F_after_free := F11
    b_after_free := b11
    m_after_free := PySem.W.mg_of X G a11
    a_after_close := _
    fd_after_close := _
    F_after_close := F12
    b_after_close := b12
    m_after_close := PySem.W.mg_of X G a12
    a_after_copy := _
    fd_after_copy := _
    F_after_copy := F13
    b_after_copy := b13
    m_after_copy := PySem.W.mg_of X G a13
    a_log_after_mark := _
    fd_log_after_mark := _
    F_log_after_mark := F14
    b_log_after_mark := b14
    m_log_after_mark := PySem.W.mg_of X G a14
    a_after_mark := _
    fd_after_mark := _
    F_after_mark := F15
    b_after_mark := b15
    m_after_mark := PySem.W.mg_of X G a15
    a_after_home := _
    fd_after_home := _
    F_after_home := F16
    b_after_home := b16
    m_after_home := PySem.W.mg_of X G a16
    a_after_early := _
    fd_after_early := _
    F_after_early := F17
    b_after_early := b17
    m_after_early := PySem.W.mg_of X G a17
    a_after_words := _
    fd_after_words := _
    F_after_words := F18
    b_after_words := b18
    m_after_words := PySem.W.mg_of X G a18
    a_after_room := _
    fd_after_room := _
    F_after_room := F19
    b_after_room := b19
    m_after_room := PySem.W.mg_of X G a19
    a_after_told := _
    fd_after_told := _
    F_after_told := F20
    b_after_told := b20
    m_after_told := PySem.W.mg_of X G a20
    a_after := _
    fd_after := _
    F_after := F21
    b_after := b21
    m_after := PySem.W.mg_of X G a21
    a_let_letters := _
    fd_let_letters := _
    F_let_letters := F22
    b_let_letters := b22
    m_let_letters := PySem.W.mg_of X G a22
    a_law_feed := _
    fd_law_feed := _
    F_law_feed := F23
    b_law_feed := b23
    m_law_feed := PySem.W.mg_of X G a23
    a_law_pick := _
    fd_law_pick := _
    F_law_pick := F24
    b_law_pick := b24
    m_law_pick := PySem.W.mg_of X G a24
    a_law_rules := _
    fd_law_rules := _
    F_law_rules := F25
    b_law_rules := b25
    m_law_rules := PySem.W.mg_of X G a25
    a_law_names := _
    fd_law_names := _
    F_law_names := F26
    b_law_names := b26
    m_law_names := PySem.W.mg_of X G a26
    a_law_letters := _
    fd_law_letters := _
    F_law_letters := F27
    b_law_letters := b27
    m_law_letters := PySem.W.mg_of X G a27
    a_law_kind_c := _
    fd_law_kind_c := _
    F_law_kind_c := F28
    b_law_kind_c := b28
    m_law_kind_c := PySem.W.mg_of X G a28
    a_law_kind_r := _
    fd_law_kind_r := _
    F_law_kind_r := F29
    b_law_kind_r := b29
    m_law_kind_r := PySem.W.mg_of X G a29
    a_law_one := _
    fd_law_one := _
    F_law_one := F30
    b_law_one := b30
    m_law_one := PySem.W.mg_of X G a30
    a_law_drawn := _
    fd_law_drawn := _
    F_law_drawn := F31
    b_law_drawn := b31
    m_law_drawn := PySem.W.mg_of X G a31
    a_law_content_c := _
    fd_law_content_c := _
    F_law_content_c := F32
    b_law_content_c := b32
    m_law_content_c := PySem.W.mg_of X G a32
    a_law_content_r := _
    fd_law_content_r := _
    F_law_content_r := F33
    b_law_content_r := b33
    m_law_content_r := PySem.W.mg_of X G a33
    a_law_words_let := _
    fd_law_words_let := _
    F_law_words_let := F34
    b_law_words_let := b34
    m_law_words_let := PySem.W.mg_of X G a34
    a_law_let := _
    fd_law_let := _
    F_law_let := F35
    b_law_let := b35
    m_law_let := PySem.W.mg_of X G a35
    a_law_log := _
    fd_law_log := _
    F_law_log := F36
    b_law_log := b36
    m_law_log := PySem.W.mg_of X G a36
    a_law_marked := _
    fd_law_marked := _
    F_law_marked := F37
    b_law_marked := b37
    m_law_marked := PySem.W.mg_of X G a37
    a_law_behind := _
    fd_law_behind := _
    F_law_behind := F38
    b_law_behind := b38
    m_law_behind := PySem.W.mg_of X G a38
    a_law_same := _
    fd_law_same := _
    F_law_same := F39
    b_law_same := b39
    m_law_same := PySem.W.mg_of X G a39
    a_law_letter_good := _
    fd_law_letter_good := _
    F_law_letter_good := F40
    b_law_letter_good := b40
    m_law_letter_good := PySem.W.mg_of X G a40
    a_law_raises := _
    fd_law_raises := _
    F_law_raises := F41
    b_law_raises := b41
    m_law_raises := PySem.W.mg_of X G a41
    a_law_spoilt := _
    fd_law_spoilt := _
    F_law_spoilt := F42
    b_law_spoilt := b42
    m_law_spoilt := PySem.W.mg_of X G a42
    a_law := _
    fd_law := _
    F_law := F43
    b_law := b43
    m_law := PySem.W.mg_of X G a43
    a_Book_init := _
    fd_Book_init := _
    F_Book_init := F44
    b_Book_init := b44
    m_Book_init := ⟨mk_Book, a44, i44, kc_Book⟩
    a_Book_contains := _
    fd_Book_contains := _
    F_Book_contains := F45
    b_Book_contains := b45
    m_Book_contains := ⟨a45, i45, k45⟩
    a_Book_of_number := _
    fd_Book_of_number := _
    F_Book_of_number := F46
    b_Book_of_number := b46
    m_Book_of_number := ⟨⟨rd_Book, ga_Book⟩, ⟨_, _, a46, i46⟩, k46⟩
    n_abs := PySem.W.mg_none_of X G z_abs
    n_enumerate := PySem.W.mg_none_of X G z_enumerate
    n_int := PySem.W.mg_none_of X G z_int
    n_isinstance := PySem.W.mg_none_of X G z_isinstance
    n_len := PySem.W.mg_none_of X G z_len
    n_list := PySem.W.mg_none_of X G z_list
    n_range := PySem.W.mg_none_of X G z_range
    n_staticmethod := PySem.W.mg_none_of X G z_staticmethod
    n_str := PySem.W.mg_none_of X G z_str
    n_tuple := PySem.W.mg_none_of X G z_tuple
    c_LETTERS := _
    w_LETTERS := sqt_w lkc_LETTERS (by show 12 ≤ sizeLine; decide) (.cons ⟨_, rfl⟩ (.cons ⟨_, rfl⟩ (.cons ⟨_, rfl⟩ (.cons ⟨_, rfl⟩ (.cons ⟨_, rfl⟩ (.cons ⟨_, rfl⟩ (.cons ⟨_, rfl⟩ (.cons ⟨_, rfl⟩ (.cons ⟨_, rfl⟩ (.cons ⟨_, rfl⟩ (.cons ⟨_, rfl⟩ (.cons ⟨_, rfl⟩ .nil))))))))))))
    g_LETTERS := PySem.W.mg_of X G qc_LETTERS
    c_LOST := _
    w_LOST := sqt_w lkc_LOST (by show 1 ≤ sizeLine; decide) (.cons ⟨_, rfl⟩ .nil)
    g_LOST := PySem.W.mg_of X G qc_LOST
    c_NEW := _
    w_NEW := sqt_w lkc_NEW (by show 3 ≤ sizeLine; decide) (.cons ⟨_, rfl⟩ (.cons ⟨_, rfl⟩ (.cons ⟨_, rfl⟩ .nil)))
    g_NEW := PySem.W.mg_of X G qc_NEW
    c_SIGNS_0 := _
    w_SIGNS_0 := sqt_w lkc_SIGNS_0 (by show 3 ≤ sizeLine; decide) (.cons ⟨_, rfl⟩ (.cons ⟨_, rfl⟩ (.cons ⟨_, rfl⟩ .nil)))
    c_SIGNS_1 := _
    w_SIGNS_1 := sqt_w lkc_SIGNS_1 (by show 6 ≤ sizeLine; decide) (.cons ⟨_, rfl⟩ (.cons ⟨_, rfl⟩ (.cons ⟨_, rfl⟩ (.cons ⟨_, rfl⟩ (.cons ⟨_, rfl⟩ (.cons ⟨_, rfl⟩ .nil))))))
    c_SIGNS_2 := _
    w_SIGNS_2 := sqt_w lkc_SIGNS_2 (by show 5 ≤ sizeLine; decide) (.cons ⟨_, rfl⟩ (.cons ⟨_, rfl⟩ (.cons ⟨_, rfl⟩ (.cons ⟨_, rfl⟩ (.cons ⟨_, rfl⟩ .nil)))))
    c_SIGNS_3 := _
    w_SIGNS_3 := sqt_w lkc_SIGNS_3 (by show 4 ≤ sizeLine; decide) (.cons ⟨_, rfl⟩ (.cons ⟨_, rfl⟩ (.cons ⟨_, rfl⟩ (.cons ⟨_, rfl⟩ .nil))))
    c_SIGNS_4 := _
    w_SIGNS_4 := sqt_w lkc_SIGNS_4 (by show 3 ≤ sizeLine; decide) (.cons ⟨_, rfl⟩ (.cons ⟨_, rfl⟩ (.cons ⟨_, rfl⟩ .nil)))
    c_SIGNS_5 := _
    w_SIGNS_5 := sqt_w lkc_SIGNS_5 (by show 3 ≤ sizeLine; decide) (.cons ⟨_, rfl⟩ (.cons ⟨_, rfl⟩ (.cons ⟨_, rfl⟩ .nil)))
    c_SIGNS := _
    w_SIGNS := sqt_w lkc_SIGNS (by show 6 ≤ sizeLine; decide) (.cons rfl (.cons rfl (.cons rfl (.cons rfl (.cons rfl (.cons rfl .nil))))))
    g_SIGNS := PySem.W.mg_of X G qc_SIGNS
    c_STEPS := _
    g_STEPS := PySem.W.mg_of X G qc_STEPS
    n_STEPS := _
    low_STEPS := lw_STEPS
    h_STEPS_0 := _
    h_STEPS_1 := _
    h_STEPS_2 := _
    h_STEPS_3 := _
    h_STEPS_4 := _
    h_STEPS_5 := _
    h_STEPS_6 := _
    h_STEPS_7 := _
    h_STEPS_8 := _
    h_STEPS_9 := _
    h_STEPS_10 := _
    h_STEPS_11 := _
    t_STEPS_0 := _
    t_STEPS_1 := _
    t_STEPS_2 := _
    t_STEPS_3 := _
    t_STEPS_4 := _
    t_STEPS_5 := _
    t_STEPS_6 := _
    t_STEPS_7 := _
    t_STEPS_8 := _
    t_STEPS_9 := _
    t_STEPS_10 := _
    t_STEPS_11 := _
    lk_STEPS := lkc_STEPS
    lit_STEPS := lit_STEPS
    e_BadValue := e_BadValue
    g_BadValue := PySem.W.mg_of X G gx_BadValue
    x_BadValue := xx_BadValue
    k_BadValue := kx_BadValue
    sb_BadValue := bx_BadValue
    ty_BadValue := tx_BadValue
    is_BadValue := ⟨hg_BadValue, hk_BadValue, bx_BadValue, hh_BadValue, ha_BadValue, hn_BadValue, ht_BadValue, hm_BadValue⟩
    e_StoreError := e_StoreError
    g_StoreError := PySem.W.mg_of X G gx_StoreError
    x_StoreError := xx_StoreError
    k_StoreError := kx_StoreError
    sb_StoreError := bx_StoreError
    ty_StoreError := tx_StoreError
    is_StoreError := ⟨hg_StoreError, hk_StoreError, bx_StoreError, hh_StoreError, ha_StoreError, hn_StoreError, ht_StoreError, hm_StoreError⟩
    e_BadText := e_BadText
    g_BadText := PySem.W.mg_of X G gx_BadText
    x_BadText := xx_BadText
    k_BadText := kx_BadText
    sb_BadText := bx_BadText
    ty_BadText := tx_BadText
    is_BadText := ⟨hg_BadText, hk_BadText, bx_BadText, hh_BadText, ha_BadText, hn_BadText, ht_BadText, hm_BadText⟩
    m_BadValue_StoreError := PySem.W.exm_ref bx_StoreError hh_StoreError tx_StoreError mx_BadValue_StoreError
    i_BadValue_BadValue := kit_true hh_BadValue tx_BadValue ix_BadValue_BadValue
    i_BadValue_BadText := kit_false hh_BadText tx_BadText ix_BadValue_BadText is_BadValue_BadText }, PySem.W.mg_of X G a43, fun s v => .of_eq rfl⟩
theorem txt_of {w : World} {K : PySem.W.Frag} {h : Heap} {mg : Str → Option Value} (X : K.In h) (G : h.Ns mainGlobals mg) (c : hdO K = hdV w) : ∃ T : Txt K mg w, mg "law" = some (.ref T.a_law) ∧ (∀ (s : Shared) (v : Value), BindsTo s T.fd_law ⟨[v], []⟩ [("_law_script", v)]) := by
  obtain ⟨g0, c⟩ := Prod.mk.inj c
  obtain ⟨g1, c⟩ := Prod.mk.inj c
  have g2 := c
  unfold hdO0 hdV0 at g0
  obtain ⟨h0, g0⟩ := Prod.mk.inj g0
  obtain ⟨h1, g0⟩ := Prod.mk.inj g0
  obtain ⟨h2, g0⟩ := Prod.mk.inj g0
  obtain ⟨h3, g0⟩ := Prod.mk.inj g0
  obtain ⟨h4, g0⟩ := Prod.mk.inj g0
  obtain ⟨h5, g0⟩ := Prod.mk.inj g0
  obtain ⟨h6, g0⟩ := Prod.mk.inj g0
  obtain ⟨h7, g0⟩ := Prod.mk.inj g0
  obtain ⟨h8, g0⟩ := Prod.mk.inj g0
  obtain ⟨h9, g0⟩ := Prod.mk.inj g0
  obtain ⟨h10, g0⟩ := Prod.mk.inj g0
  obtain ⟨h11, g0⟩ := Prod.mk.inj g0
  obtain ⟨h12, g0⟩ := Prod.mk.inj g0
  obtain ⟨h13, g0⟩ := Prod.mk.inj g0
  obtain ⟨h14, g0⟩ := Prod.mk.inj g0
  obtain ⟨h15, g0⟩ := Prod.mk.inj g0
  obtain ⟨h16, g0⟩ := Prod.mk.inj g0
  obtain ⟨h17, g0⟩ := Prod.mk.inj g0
  obtain ⟨h18, g0⟩ := Prod.mk.inj g0
  obtain ⟨h19, g0⟩ := Prod.mk.inj g0
  obtain ⟨h20, g0⟩ := Prod.mk.inj g0
  obtain ⟨h21, g0⟩ := Prod.mk.inj g0
  obtain ⟨h22, g0⟩ := Prod.mk.inj g0
  obtain ⟨h23, g0⟩ := Prod.mk.inj g0
  obtain ⟨h24, g0⟩ := Prod.mk.inj g0
  obtain ⟨h25, g0⟩ := Prod.mk.inj g0
  obtain ⟨h26, g0⟩ := Prod.mk.inj g0
  obtain ⟨h27, g0⟩ := Prod.mk.inj g0
  obtain ⟨h28, g0⟩ := Prod.mk.inj g0
  obtain ⟨h29, g0⟩ := Prod.mk.inj g0
  obtain ⟨h30, g0⟩ := Prod.mk.inj g0
  obtain ⟨h31, g0⟩ := Prod.mk.inj g0
  obtain ⟨h32, g0⟩ := Prod.mk.inj g0
  obtain ⟨h33, g0⟩ := Prod.mk.inj g0
  obtain ⟨h34, g0⟩ := Prod.mk.inj g0
  obtain ⟨h35, g0⟩ := Prod.mk.inj g0
  obtain ⟨h36, g0⟩ := Prod.mk.inj g0
  obtain ⟨h37, g0⟩ := Prod.mk.inj g0
  obtain ⟨h38, g0⟩ := Prod.mk.inj g0
  obtain ⟨h39, g0⟩ := Prod.mk.inj g0
  obtain ⟨h40, g0⟩ := Prod.mk.inj g0
  obtain ⟨h41, g0⟩ := Prod.mk.inj g0
  obtain ⟨h42, g0⟩ := Prod.mk.inj g0
  obtain ⟨h43, g0⟩ := Prod.mk.inj g0
  obtain ⟨h44, g0⟩ := Prod.mk.inj g0
  obtain ⟨h45, g0⟩ := Prod.mk.inj g0
  obtain ⟨h46, g0⟩ := Prod.mk.inj g0
  obtain ⟨h47, g0⟩ := Prod.mk.inj g0
  obtain ⟨h48, g0⟩ := Prod.mk.inj g0
  obtain ⟨h49, g0⟩ := Prod.mk.inj g0
  obtain ⟨h50, g0⟩ := Prod.mk.inj g0
  obtain ⟨h51, g0⟩ := Prod.mk.inj g0
  obtain ⟨h52, g0⟩ := Prod.mk.inj g0
  obtain ⟨h53, g0⟩ := Prod.mk.inj g0
  obtain ⟨h54, g0⟩ := Prod.mk.inj g0
  obtain ⟨h55, g0⟩ := Prod.mk.inj g0
  obtain ⟨h56, g0⟩ := Prod.mk.inj g0
  obtain ⟨h57, g0⟩ := Prod.mk.inj g0
  obtain ⟨h58, g0⟩ := Prod.mk.inj g0
  obtain ⟨h59, g0⟩ := Prod.mk.inj g0
  obtain ⟨h60, g0⟩ := Prod.mk.inj g0
  obtain ⟨h61, g0⟩ := Prod.mk.inj g0
  obtain ⟨h62, g0⟩ := Prod.mk.inj g0
  obtain ⟨h63, g0⟩ := Prod.mk.inj g0
  obtain ⟨h64, g0⟩ := Prod.mk.inj g0
  obtain ⟨h65, g0⟩ := Prod.mk.inj g0
  obtain ⟨h66, g0⟩ := Prod.mk.inj g0
  obtain ⟨h67, g0⟩ := Prod.mk.inj g0
  obtain ⟨h68, g0⟩ := Prod.mk.inj g0
  obtain ⟨h69, g0⟩ := Prod.mk.inj g0
  obtain ⟨h70, g0⟩ := Prod.mk.inj g0
  obtain ⟨h71, g0⟩ := Prod.mk.inj g0
  obtain ⟨h72, g0⟩ := Prod.mk.inj g0
  obtain ⟨h73, g0⟩ := Prod.mk.inj g0
  obtain ⟨h74, g0⟩ := Prod.mk.inj g0
  obtain ⟨h75, g0⟩ := Prod.mk.inj g0
  obtain ⟨h76, g0⟩ := Prod.mk.inj g0
  obtain ⟨h77, g0⟩ := Prod.mk.inj g0
  obtain ⟨h78, g0⟩ := Prod.mk.inj g0
  obtain ⟨h79, g0⟩ := Prod.mk.inj g0
  obtain ⟨h80, g0⟩ := Prod.mk.inj g0
  obtain ⟨h81, g0⟩ := Prod.mk.inj g0
  obtain ⟨h82, g0⟩ := Prod.mk.inj g0
  obtain ⟨h83, g0⟩ := Prod.mk.inj g0
  obtain ⟨h84, g0⟩ := Prod.mk.inj g0
  obtain ⟨h85, g0⟩ := Prod.mk.inj g0
  obtain ⟨h86, g0⟩ := Prod.mk.inj g0
  obtain ⟨h87, g0⟩ := Prod.mk.inj g0
  obtain ⟨h88, g0⟩ := Prod.mk.inj g0
  obtain ⟨h89, g0⟩ := Prod.mk.inj g0
  obtain ⟨h90, g0⟩ := Prod.mk.inj g0
  obtain ⟨h91, g0⟩ := Prod.mk.inj g0
  obtain ⟨h92, g0⟩ := Prod.mk.inj g0
  obtain ⟨h93, g0⟩ := Prod.mk.inj g0
  obtain ⟨h94, g0⟩ := Prod.mk.inj g0
  obtain ⟨h95, g0⟩ := Prod.mk.inj g0
  obtain ⟨h96, g0⟩ := Prod.mk.inj g0
  obtain ⟨h97, g0⟩ := Prod.mk.inj g0
  obtain ⟨h98, g0⟩ := Prod.mk.inj g0
  obtain ⟨h99, g0⟩ := Prod.mk.inj g0
  obtain ⟨h100, g0⟩ := Prod.mk.inj g0
  obtain ⟨h101, g0⟩ := Prod.mk.inj g0
  obtain ⟨h102, g0⟩ := Prod.mk.inj g0
  obtain ⟨h103, g0⟩ := Prod.mk.inj g0
  obtain ⟨h104, g0⟩ := Prod.mk.inj g0
  obtain ⟨h105, g0⟩ := Prod.mk.inj g0
  obtain ⟨h106, g0⟩ := Prod.mk.inj g0
  obtain ⟨h107, g0⟩ := Prod.mk.inj g0
  obtain ⟨h108, g0⟩ := Prod.mk.inj g0
  have h109 := g0
  unfold hdO1 hdV1 at g1
  obtain ⟨h110, g1⟩ := Prod.mk.inj g1
  obtain ⟨h111, g1⟩ := Prod.mk.inj g1
  obtain ⟨h112, g1⟩ := Prod.mk.inj g1
  obtain ⟨h113, g1⟩ := Prod.mk.inj g1
  obtain ⟨h114, g1⟩ := Prod.mk.inj g1
  obtain ⟨h115, g1⟩ := Prod.mk.inj g1
  obtain ⟨h116, g1⟩ := Prod.mk.inj g1
  obtain ⟨h117, g1⟩ := Prod.mk.inj g1
  obtain ⟨h118, g1⟩ := Prod.mk.inj g1
  obtain ⟨h119, g1⟩ := Prod.mk.inj g1
  obtain ⟨h120, g1⟩ := Prod.mk.inj g1
  obtain ⟨h121, g1⟩ := Prod.mk.inj g1
  obtain ⟨h122, g1⟩ := Prod.mk.inj g1
  obtain ⟨h123, g1⟩ := Prod.mk.inj g1
  obtain ⟨h124, g1⟩ := Prod.mk.inj g1
  obtain ⟨h125, g1⟩ := Prod.mk.inj g1
  obtain ⟨h126, g1⟩ := Prod.mk.inj g1
  obtain ⟨h127, g1⟩ := Prod.mk.inj g1
  obtain ⟨h128, g1⟩ := Prod.mk.inj g1
  obtain ⟨h129, g1⟩ := Prod.mk.inj g1
  obtain ⟨h130, g1⟩ := Prod.mk.inj g1
  obtain ⟨h131, g1⟩ := Prod.mk.inj g1
  obtain ⟨h132, g1⟩ := Prod.mk.inj g1
  obtain ⟨h133, g1⟩ := Prod.mk.inj g1
  obtain ⟨h134, g1⟩ := Prod.mk.inj g1
  obtain ⟨h135, g1⟩ := Prod.mk.inj g1
  obtain ⟨h136, g1⟩ := Prod.mk.inj g1
  obtain ⟨h137, g1⟩ := Prod.mk.inj g1
  obtain ⟨h138, g1⟩ := Prod.mk.inj g1
  obtain ⟨h139, g1⟩ := Prod.mk.inj g1
  obtain ⟨h140, g1⟩ := Prod.mk.inj g1
  obtain ⟨h141, g1⟩ := Prod.mk.inj g1
  obtain ⟨h142, g1⟩ := Prod.mk.inj g1
  obtain ⟨h143, g1⟩ := Prod.mk.inj g1
  obtain ⟨h144, g1⟩ := Prod.mk.inj g1
  obtain ⟨h145, g1⟩ := Prod.mk.inj g1
  obtain ⟨h146, g1⟩ := Prod.mk.inj g1
  obtain ⟨h147, g1⟩ := Prod.mk.inj g1
  obtain ⟨h148, g1⟩ := Prod.mk.inj g1
  obtain ⟨h149, g1⟩ := Prod.mk.inj g1
  obtain ⟨h150, g1⟩ := Prod.mk.inj g1
  obtain ⟨h151, g1⟩ := Prod.mk.inj g1
  obtain ⟨h152, g1⟩ := Prod.mk.inj g1
  obtain ⟨h153, g1⟩ := Prod.mk.inj g1
  obtain ⟨h154, g1⟩ := Prod.mk.inj g1
  obtain ⟨h155, g1⟩ := Prod.mk.inj g1
  obtain ⟨h156, g1⟩ := Prod.mk.inj g1
  obtain ⟨h157, g1⟩ := Prod.mk.inj g1
  obtain ⟨h158, g1⟩ := Prod.mk.inj g1
  obtain ⟨h159, g1⟩ := Prod.mk.inj g1
  obtain ⟨h160, g1⟩ := Prod.mk.inj g1
  obtain ⟨h161, g1⟩ := Prod.mk.inj g1
  obtain ⟨h162, g1⟩ := Prod.mk.inj g1
  obtain ⟨h163, g1⟩ := Prod.mk.inj g1
  obtain ⟨h164, g1⟩ := Prod.mk.inj g1
  obtain ⟨h165, g1⟩ := Prod.mk.inj g1
  obtain ⟨h166, g1⟩ := Prod.mk.inj g1
  obtain ⟨h167, g1⟩ := Prod.mk.inj g1
  obtain ⟨h168, g1⟩ := Prod.mk.inj g1
  obtain ⟨h169, g1⟩ := Prod.mk.inj g1
  obtain ⟨h170, g1⟩ := Prod.mk.inj g1
  obtain ⟨h171, g1⟩ := Prod.mk.inj g1
  obtain ⟨h172, g1⟩ := Prod.mk.inj g1
  obtain ⟨h173, g1⟩ := Prod.mk.inj g1
  obtain ⟨h174, g1⟩ := Prod.mk.inj g1
  obtain ⟨h175, g1⟩ := Prod.mk.inj g1
  obtain ⟨h176, g1⟩ := Prod.mk.inj g1
  obtain ⟨h177, g1⟩ := Prod.mk.inj g1
  obtain ⟨h178, g1⟩ := Prod.mk.inj g1
  obtain ⟨h179, g1⟩ := Prod.mk.inj g1
  obtain ⟨h180, g1⟩ := Prod.mk.inj g1
  obtain ⟨h181, g1⟩ := Prod.mk.inj g1
  obtain ⟨h182, g1⟩ := Prod.mk.inj g1
  obtain ⟨h183, g1⟩ := Prod.mk.inj g1
  obtain ⟨h184, g1⟩ := Prod.mk.inj g1
  obtain ⟨h185, g1⟩ := Prod.mk.inj g1
  obtain ⟨h186, g1⟩ := Prod.mk.inj g1
  obtain ⟨h187, g1⟩ := Prod.mk.inj g1
  obtain ⟨h188, g1⟩ := Prod.mk.inj g1
  obtain ⟨h189, g1⟩ := Prod.mk.inj g1
  obtain ⟨h190, g1⟩ := Prod.mk.inj g1
  obtain ⟨h191, g1⟩ := Prod.mk.inj g1
  obtain ⟨h192, g1⟩ := Prod.mk.inj g1
  obtain ⟨h193, g1⟩ := Prod.mk.inj g1
  obtain ⟨h194, g1⟩ := Prod.mk.inj g1
  obtain ⟨h195, g1⟩ := Prod.mk.inj g1
  obtain ⟨h196, g1⟩ := Prod.mk.inj g1
  obtain ⟨h197, g1⟩ := Prod.mk.inj g1
  obtain ⟨h198, g1⟩ := Prod.mk.inj g1
  obtain ⟨h199, g1⟩ := Prod.mk.inj g1
  obtain ⟨h200, g1⟩ := Prod.mk.inj g1
  obtain ⟨h201, g1⟩ := Prod.mk.inj g1
  obtain ⟨h202, g1⟩ := Prod.mk.inj g1
  obtain ⟨h203, g1⟩ := Prod.mk.inj g1
  obtain ⟨h204, g1⟩ := Prod.mk.inj g1
  obtain ⟨h205, g1⟩ := Prod.mk.inj g1
  obtain ⟨h206, g1⟩ := Prod.mk.inj g1
  obtain ⟨h207, g1⟩ := Prod.mk.inj g1
  obtain ⟨h208, g1⟩ := Prod.mk.inj g1
  obtain ⟨h209, g1⟩ := Prod.mk.inj g1
  obtain ⟨h210, g1⟩ := Prod.mk.inj g1
  obtain ⟨h211, g1⟩ := Prod.mk.inj g1
  obtain ⟨h212, g1⟩ := Prod.mk.inj g1
  obtain ⟨h213, g1⟩ := Prod.mk.inj g1
  obtain ⟨h214, g1⟩ := Prod.mk.inj g1
  obtain ⟨h215, g1⟩ := Prod.mk.inj g1
  obtain ⟨h216, g1⟩ := Prod.mk.inj g1
  obtain ⟨h217, g1⟩ := Prod.mk.inj g1
  obtain ⟨h218, g1⟩ := Prod.mk.inj g1
  have h219 := g1
  unfold hdO2 hdV2 at g2
  obtain ⟨h220, g2⟩ := Prod.mk.inj g2
  obtain ⟨h221, g2⟩ := Prod.mk.inj g2
  obtain ⟨h222, g2⟩ := Prod.mk.inj g2
  obtain ⟨h223, g2⟩ := Prod.mk.inj g2
  obtain ⟨h224, g2⟩ := Prod.mk.inj g2
  obtain ⟨h225, g2⟩ := Prod.mk.inj g2
  obtain ⟨h226, g2⟩ := Prod.mk.inj g2
  obtain ⟨h227, g2⟩ := Prod.mk.inj g2
  obtain ⟨h228, g2⟩ := Prod.mk.inj g2
  obtain ⟨h229, g2⟩ := Prod.mk.inj g2
  obtain ⟨h230, g2⟩ := Prod.mk.inj g2
  obtain ⟨h231, g2⟩ := Prod.mk.inj g2
  obtain ⟨h232, g2⟩ := Prod.mk.inj g2
  obtain ⟨h233, g2⟩ := Prod.mk.inj g2
  obtain ⟨h234, g2⟩ := Prod.mk.inj g2
  obtain ⟨h235, g2⟩ := Prod.mk.inj g2
  obtain ⟨h236, g2⟩ := Prod.mk.inj g2
  obtain ⟨h237, g2⟩ := Prod.mk.inj g2
  obtain ⟨h238, g2⟩ := Prod.mk.inj g2
  obtain ⟨h239, g2⟩ := Prod.mk.inj g2
  obtain ⟨h240, g2⟩ := Prod.mk.inj g2
  obtain ⟨h241, g2⟩ := Prod.mk.inj g2
  obtain ⟨h242, g2⟩ := Prod.mk.inj g2
  obtain ⟨h243, g2⟩ := Prod.mk.inj g2
  obtain ⟨h244, g2⟩ := Prod.mk.inj g2
  obtain ⟨h245, g2⟩ := Prod.mk.inj g2
  obtain ⟨h246, g2⟩ := Prod.mk.inj g2
  obtain ⟨h247, g2⟩ := Prod.mk.inj g2
  obtain ⟨h248, g2⟩ := Prod.mk.inj g2
  obtain ⟨h249, g2⟩ := Prod.mk.inj g2
  obtain ⟨h250, g2⟩ := Prod.mk.inj g2
  obtain ⟨h251, g2⟩ := Prod.mk.inj g2
  obtain ⟨h252, g2⟩ := Prod.mk.inj g2
  obtain ⟨h253, g2⟩ := Prod.mk.inj g2
  obtain ⟨h254, g2⟩ := Prod.mk.inj g2
  obtain ⟨h255, g2⟩ := Prod.mk.inj g2
  obtain ⟨h256, g2⟩ := Prod.mk.inj g2
  obtain ⟨h257, g2⟩ := Prod.mk.inj g2
  obtain ⟨h258, g2⟩ := Prod.mk.inj g2
  obtain ⟨h259, g2⟩ := Prod.mk.inj g2
  obtain ⟨h260, g2⟩ := Prod.mk.inj g2
  obtain ⟨h261, g2⟩ := Prod.mk.inj g2
  obtain ⟨h262, g2⟩ := Prod.mk.inj g2
  obtain ⟨h263, g2⟩ := Prod.mk.inj g2
  obtain ⟨h264, g2⟩ := Prod.mk.inj g2
  obtain ⟨h265, g2⟩ := Prod.mk.inj g2
  have h266 := g2
  obtain ⟨oc0, od0, sl0, dc0, pm0, an0, cd0, ct0, l0, c0⟩ := hdFn_ok h16 h17
  obtain ⟨oc1, od1, sl1, dc1, pm1, an1, cd1, ct1, l1, c1⟩ := hdFn_ok h20 h21
  obtain ⟨oc2, od2, sl2, dc2, pm2, an2, cd2, ct2, l2, c2⟩ := hdFn_ok h24 h25
  obtain ⟨oc3, od3, sl3, dc3, pm3, an3, cd3, ct3, l3, c3⟩ := hdFn_ok h28 h29
  obtain ⟨oc4, od4, sl4, dc4, pm4, an4, cd4, ct4, l4, c4⟩ := hdFn_ok h32 h33
  obtain ⟨oc5, od5, sl5, dc5, pm5, an5, cd5, ct5, l5, c5⟩ := hdFn_ok h36 h37
  obtain ⟨oc6, od6, sl6, dc6, pm6, an6, cd6, ct6, l6, c6⟩ := hdFn_ok h40 h41
  obtain ⟨oc7, od7, sl7, dc7, pm7, an7, cd7, ct7, l7, c7⟩ := hdFn_ok h44 h45
  obtain ⟨oc8, od8, sl8, dc8, pm8, an8, cd8, ct8, l8, c8⟩ := hdFn_ok h48 h49
  obtain ⟨oc9, od9, sl9, dc9, pm9, an9, cd9, ct9, l9, c9⟩ := hdFn_ok h52 h53
  obtain ⟨oc10, od10, sl10, dc10, pm10, an10, cd10, ct10, l10, c10⟩ := hdFn_ok h56 h57
  obtain ⟨oc11, od11, sl11, dc11, pm11, an11, cd11, ct11, l11, c11⟩ := hdFn_ok h60 h61
  obtain ⟨oc12, od12, sl12, dc12, pm12, an12, cd12, ct12, l12, c12⟩ := hdFn_ok h64 h65
  obtain ⟨oc13, od13, sl13, dc13, pm13, an13, cd13, ct13, l13, c13⟩ := hdFn_ok h68 h69
  obtain ⟨oc14, od14, sl14, dc14, pm14, an14, cd14, ct14, l14, c14⟩ := hdFn_ok h72 h73
  obtain ⟨oc15, od15, sl15, dc15, pm15, an15, cd15, ct15, l15, c15⟩ := hdFn_ok h76 h77
  obtain ⟨oc16, od16, sl16, dc16, pm16, an16, cd16, ct16, l16, c16⟩ := hdFn_ok h80 h81
  obtain ⟨oc17, od17, sl17, dc17, pm17, an17, cd17, ct17, l17, c17⟩ := hdFn_ok h84 h85
  obtain ⟨oc18, od18, sl18, dc18, pm18, an18, cd18, ct18, l18, c18⟩ := hdFn_ok h88 h89
  obtain ⟨oc19, od19, sl19, dc19, pm19, an19, cd19, ct19, l19, c19⟩ := hdFn_ok h92 h93
  obtain ⟨oc20, od20, sl20, dc20, pm20, an20, cd20, ct20, l20, c20⟩ := hdFn_ok h96 h97
  obtain ⟨oc21, od21, sl21, dc21, pm21, an21, cd21, ct21, l21, c21⟩ := hdFn_ok h100 h101
  obtain ⟨oc22, od22, sl22, dc22, pm22, an22, cd22, ct22, l22, c22⟩ := hdFn_ok h104 h105
  obtain ⟨oc23, od23, sl23, dc23, pm23, an23, cd23, ct23, l23, c23⟩ := hdFn_ok h108 h109
  obtain ⟨oc24, od24, sl24, dc24, pm24, an24, cd24, ct24, l24, c24⟩ := hdFn_ok h112 h113
  obtain ⟨oc25, od25, sl25, dc25, pm25, an25, cd25, ct25, l25, c25⟩ := hdFn_ok h116 h117
  obtain ⟨oc26, od26, sl26, dc26, pm26, an26, cd26, ct26, l26, c26⟩ := hdFn_ok h120 h121
  obtain ⟨oc27, od27, sl27, dc27, pm27, an27, cd27, ct27, l27, c27⟩ := hdFn_ok h124 h125
  obtain ⟨oc28, od28, sl28, dc28, pm28, an28, cd28, ct28, l28, c28⟩ := hdFn_ok h128 h129
  obtain ⟨oc29, od29, sl29, dc29, pm29, an29, cd29, ct29, l29, c29⟩ := hdFn_ok h132 h133
  obtain ⟨oc30, od30, sl30, dc30, pm30, an30, cd30, ct30, l30, c30⟩ := hdFn_ok h136 h137
  obtain ⟨oc31, od31, sl31, dc31, pm31, an31, cd31, ct31, l31, c31⟩ := hdFn_ok h140 h141
  obtain ⟨oc32, od32, sl32, dc32, pm32, an32, cd32, ct32, l32, c32⟩ := hdFn_ok h144 h145
  obtain ⟨oc33, od33, sl33, dc33, pm33, an33, cd33, ct33, l33, c33⟩ := hdFn_ok h148 h149
  obtain ⟨oc34, od34, sl34, dc34, pm34, an34, cd34, ct34, l34, c34⟩ := hdFn_ok h152 h153
  obtain ⟨oc35, od35, sl35, dc35, pm35, an35, cd35, ct35, l35, c35⟩ := hdFn_ok h156 h157
  obtain ⟨oc36, od36, sl36, dc36, pm36, an36, cd36, ct36, l36, c36⟩ := hdFn_ok h160 h161
  obtain ⟨oc37, od37, sl37, dc37, pm37, an37, cd37, ct37, l37, c37⟩ := hdFn_ok h164 h165
  obtain ⟨oc38, od38, sl38, dc38, pm38, an38, cd38, ct38, l38, c38⟩ := hdFn_ok h168 h169
  obtain ⟨oc39, od39, sl39, dc39, pm39, an39, cd39, ct39, l39, c39⟩ := hdFn_ok h172 h173
  obtain ⟨oc40, od40, sl40, dc40, pm40, an40, cd40, ct40, l40, c40⟩ := hdFn_ok h176 h177
  obtain ⟨oc41, od41, sl41, dc41, pm41, an41, cd41, ct41, l41, c41⟩ := hdFn_ok h180 h181
  obtain ⟨oc42, od42, sl42, dc42, pm42, an42, cd42, ct42, l42, c42⟩ := hdFn_ok h184 h185
  obtain ⟨oc43, od43, sl43, dc43, pm43, an43, cd43, ct43, l43, c43⟩ := hdFn_ok h188 h189
  obtain ⟨oc44, od44, sl44, dc44, pm44, an44, cd44, ct44, l44, c44⟩ := hdFn_ok h193 h194
  obtain ⟨oc45, od45, sl45, dc45, pm45, an45, cd45, ct45, l45, c45⟩ := hdFn_ok h198 h199
  obtain ⟨oc46, od46, sl46, dc46, pm46, an46, cd46, ct46, l46, c46⟩ := hdFn_ok h203 h204
  exact txt_mk X G h0 h1 h2 h3 h4 h5 h6 h7 h8 h9 h10 h11 h12 h13 h14 h15 l0 c0 h18 h19 l1 c1 h22 h23 l2 c2 h26 h27 l3 c3 h30 h31 l4 c4 h34 h35 l5 c5 h38 h39 l6 c6 h42 h43 l7 c7 h46 h47 l8 c8 h50 h51 l9 c9 h54 h55 l10 c10 h58 h59 l11 c11 h62 h63 l12 c12 h66 h67 l13 c13 h70 h71 l14 c14 h74 h75 l15 c15 h78 h79 l16 c16 h82 h83 l17 c17 h86 h87 l18 c18 h90 h91 l19 c19 h94 h95 l20 c20 h98 h99 l21 c21 h102 h103 l22 c22 h106 h107 l23 c23 h110 h111 l24 c24 h114 h115 l25 c25 h118 h119 l26 c26 h122 h123 l27 c27 h126 h127 l28 c28 h130 h131 l29 c29 h134 h135 l30 c30 h138 h139 l31 c31 h142 h143 l32 c32 h146 h147 l33 c33 h150 h151 l34 c34 h154 h155 l35 c35 h158 h159 l36 c36 h162 h163 l37 c37 h166 h167 l38 c38 h170 h171 l39 c39 h174 h175 l40 c40 h178 h179 l41 c41 h182 h183 l42 c42 h186 h187 l43 c43 h190 h191 h192 l44 c44 h195 h196 h197 l45 c45 h200 h201 h202 l46 c46 h205 h206 h207 h208 h209 h210 h211 h212 h213 h214 h215 h216 h217 h218 h219 h220 h221 h222 h223 h224 h225 h226 h227 h228 h229 h230 h231 rfl (by repeat (first | exact trivial | refine ⟨⟨_, _, rfl, rfl⟩, ?_⟩)) h232 h233 h234 h235 h236 h237 h238 h239 h240 h241 h242 h243 h244 h245 h246 h247 h248 h249 h250 h251 h252 h241 h242 h253 h254 h255 h256 h257 h258 h259 h260 h261 h262 h241 h242 h263 h264 h265 h266 h265
end Mine
open PySem PySem.W PyProof.Rows
set_option maxRecDepth 100000 in
set_option maxHeartbeats 0 in
theorem PySem.Challenge.cw_lotsandties_k52_one_letter_holds : PySem.Challenge.rw_lotsandties_k52_one_letter.Holds := by
  w_on; o_law
  refine HandSHeadRun.head_any (r := OpenLaw.row PySem.Challenge.rw_lotsandties_k52_one_letter) (q := Mine.hdQ) (H := Mine.hdH) (ob := Mine.hdOb) (M := 3868) (loose := Mine.hdN) (d := HandSHeadRun.topDef (OpenLaw.row PySem.Challenge.rw_lotsandties_k52_one_letter).prog 60) (kwd := []) Mine.hdOb_eq
    (by kernel_rfl) (fun s => by kernel_rfl) Mine.hdRun (by kernel_rfl) (by kernel_rfl) (by kernel_rfl) (by rfl) (by first | assumption | decide +kernel) (by decide +kernel) ⟨rfl, rfl, rfl, rfl, rfl, by decide +kernel⟩ ?hw ?hc
  case hw => w_witness2
  case hc =>
    refine L2.walk_ofE (l := PySem.Challenge.rw_lotsandties_k52_one_letter) (n := 63) (k := 7) (x := "_law_script") (CX := L2.CX0) rfl (by decide) (by kernel_rfl) ⟨rfl, by decide, by decide⟩ ?F (fun _ _ _ _ z => z)
    intro w mg fa h Y G hmg0
    obtain ⟨K, KX, c⟩ := Y
    have hmg : mg ("law" : PySem.Str) = some (.ref fa) := by
      have e : (HandSHeadRun.topDef (OpenLaw.row PySem.Challenge.rw_lotsandties_k52_one_letter).prog 60).name = ("law" : PySem.Str) := by kernel_rfl
      rw [← e]
      exact hmg0
    obtain ⟨T, e1, e2⟩ := Mine.txt_of KX G c
    have e := hmg.symm.trans e1
    cases e
    exact ⟨K, T.fd_law, Mine.spLaw K, KX, e2, fun H a ns hl _ hS => ⟨a, ns, rfl, hS, hl, fun _ => rfl⟩, fun base _ _ => Mine.ok_law T⟩

