import PyProof.Rows.All
import Wide.All
import OpenK.AllK
import Wide.FinOn
import HandS.ForMost
import HandS.Wide
import HandS.Gcd
import HandS.IsInst
import HandS.StrMore
import HandS.AnyAll
import HandS.Deep
import HandS.TupAny
import HandS.TupLe
import HandS.TupSets
import HandS.Walk
import HandS.Style
import HandS.EndTab
import HandS.EndOwn
import HandS.Star
import KE.GoesMore
import PyProof.StrBlock2
import PySem.Challenge.RW_relaybanks_k31_whole_goals
import KE.KSortTupG
set_option Elab.async false
set_option linter.all false
set_option maxRecDepth 100000
set_option maxHeartbeats 4000000
namespace R31
open PySem PySem.Spec PyProof.Rows L2
/-! ### the text by places -/
def topS (i : Nat) : Stmt := PySem.Challenge.pw_relaybanks_k31_whole_goals.main.body.getD i (.Pass ⟨0, 0, 0, 0⟩)
abbrev s_is_in : Stmt := topS 9
abbrev nm_is_in : List Str := ["value", "least", "most"]
theorem sc_is_in : FnScope nm_is_in ["value", "least", "most"] (defScope s_is_in) := ⟨rfl, rfl, rfl, by decide +kernel, rfl, by decide +kernel, by decide +kernel⟩
abbrev s_is_input : Stmt := topS 10
abbrev nm_is_input : List Str := ["value"]
theorem sc_is_input : FnScope nm_is_input ["value"] (defScope s_is_input) := ⟨rfl, rfl, rfl, by decide +kernel, rfl, by decide +kernel, by decide +kernel⟩
abbrev s_need_input : Stmt := topS 11
abbrev nm_need_input : List Str := ["steps"]
theorem sc_need_input : FnScope nm_need_input ["steps"] (defScope s_need_input) := ⟨rfl, rfl, rfl, by decide +kernel, rfl, by decide +kernel, by decide +kernel⟩
abbrev s_step : Stmt := topS 12
abbrev nm_step : List Str := ["memory", "letter", "old", "new", "at"]
theorem sc_step : FnScope nm_step ["memory", "letter"] (defScope s_step) := ⟨rfl, rfl, rfl, by decide +kernel, rfl, by decide +kernel, by decide +kernel⟩
abbrev s_behind : Stmt := topS 13
abbrev nm_behind : List Str := ["memory", "steps", "letter"]
theorem sc_behind : FnScope nm_behind ["memory", "steps"] (defScope s_behind) := ⟨rfl, rfl, rfl, by decide +kernel, rfl, by decide +kernel, by decide +kernel⟩
abbrev s_all_memories : Stmt := topS 14
abbrev nm_all_memories : List Str := ["span", "found", "turn", "memory", "sign"]
theorem sc_all_memories : FnScope nm_all_memories ["span"] (defScope s_all_memories) := ⟨rfl, rfl, rfl, by decide +kernel, rfl, by decide +kernel, by decide +kernel⟩
abbrev s_ratio : Stmt := topS 16
abbrev nm_ratio : List Str := ["top", "bottom", "common"]
theorem sc_ratio : FnScope nm_ratio ["top", "bottom"] (defScope s_ratio) := ⟨rfl, rfl, rfl, by decide +kernel, rfl, by decide +kernel, by decide +kernel⟩
abbrev s_plus : Stmt := topS 17
abbrev nm_plus : List Str := ["one", "other"]
theorem sc_plus : FnScope nm_plus ["one", "other"] (defScope s_plus) := ⟨rfl, rfl, rfl, by decide +kernel, rfl, by decide +kernel, by decide +kernel⟩
abbrev s_less : Stmt := topS 18
abbrev nm_less : List Str := ["one", "other"]
theorem sc_less : FnScope nm_less ["one", "other"] (defScope s_less) := ⟨rfl, rfl, rfl, by decide +kernel, rfl, by decide +kernel, by decide +kernel⟩
abbrev s_sum_of : Stmt := topS 19
abbrev nm_sum_of : List Str := ["some", "found", "one"]
theorem sc_sum_of : FnScope nm_sum_of ["some"] (defScope s_sum_of) := ⟨rfl, rfl, rfl, by decide +kernel, rfl, by decide +kernel, by decide +kernel⟩
abbrev s_is_ratio : Stmt := topS 20
abbrev nm_is_ratio : List Str := ["value"]
theorem sc_is_ratio : FnScope nm_is_ratio ["value"] (defScope s_is_ratio) := ⟨rfl, rfl, rfl, by decide +kernel, rfl, by decide +kernel, by decide +kernel⟩
abbrev s_is_relay : Stmt := topS 22
abbrev nm_is_relay : List Str := ["span", "value"]
theorem sc_is_relay : FnScope nm_is_relay ["span", "value"] (defScope s_is_relay) := ⟨rfl, rfl, rfl, by decide +kernel, rfl, by decide +kernel, by decide +kernel⟩
abbrev s_place : Stmt := topS 23
abbrev nm_place : List Str := ["memory", "sign", "number", "found", "at", "one"]
theorem sc_place : FnScope nm_place ["memory", "sign", "number"] (defScope s_place) := ⟨rfl, rfl, rfl, by decide +kernel, rfl, by decide +kernel, by decide +kernel⟩
abbrev s_holds : Stmt := topS 24
abbrev nm_holds : List Str := ["memory", "relay", "high", "low"]
theorem sc_holds : FnScope nm_holds ["memory", "relay"] (defScope s_holds) := ⟨rfl, rfl, rfl, by decide +kernel, rfl, by decide +kernel, by decide +kernel⟩
abbrev s_is_weight : Stmt := topS 28
abbrev nm_is_weight : List Str := ["value"]
theorem sc_is_weight : FnScope nm_is_weight ["value"] (defScope s_is_weight) := ⟨rfl, rfl, rfl, by decide +kernel, rfl, by decide +kernel, by decide +kernel⟩
abbrev s_is_weighted : Stmt := topS 29
abbrev nm_is_weighted : List Str := ["span", "value"]
theorem sc_is_weighted : FnScope nm_is_weighted ["span", "value"] (defScope s_is_weighted) := ⟨rfl, rfl, rfl, by decide +kernel, rfl, by decide +kernel, by decide +kernel⟩
abbrev s_need_bank : Stmt := topS 30
abbrev nm_need_bank : List Str := ["bank", "index", "one"]
theorem sc_need_bank : FnScope nm_need_bank ["bank"] (defScope s_need_bank) := ⟨rfl, rfl, rfl, by decide +kernel, rfl, by decide +kernel, by decide +kernel⟩
abbrev s_output_of : Stmt := topS 31
abbrev nm_output_of : List Str := ["bank", "memory", "high", "low", "weight"]
theorem sc_output_of : FnScope nm_output_of ["bank", "memory"] (defScope s_output_of) := ⟨rfl, rfl, rfl, by decide +kernel, rfl, by decide +kernel, by decide +kernel⟩
abbrev s_outputs_from : Stmt := topS 32
abbrev nm_outputs_from : List Str := ["bank", "memory", "steps", "found", "letter"]
theorem sc_outputs_from : FnScope nm_outputs_from ["bank", "memory", "steps"] (defScope s_outputs_from) := ⟨rfl, rfl, rfl, by decide +kernel, rfl, by decide +kernel, by decide +kernel⟩
abbrev s_input_to : Stmt := topS 34
abbrev nm_input_to : List Str := ["bank", "least", "most", "rows", "seen", "more", "memory", "word", "size", "letter", "there"]
theorem sc_input_to : FnScope nm_input_to ["bank", "least", "most"] (defScope s_input_to) := ⟨rfl, rfl, rfl, by decide +kernel, rfl, by decide +kernel, by decide +kernel⟩
abbrev s_rising : Stmt := topS 35
abbrev nm_rising : List Str := ["some", "found", "one", "at", "other"]
theorem sc_rising : FnScope nm_rising ["some"] (defScope s_rising) := ⟨rfl, rfl, rfl, by decide +kernel, rfl, by decide +kernel, by decide +kernel⟩
abbrev s_outputs_reached : Stmt := topS 36
abbrev nm_outputs_reached : List Str := ["bank", "memory"]
theorem sc_outputs_reached : FnScope nm_outputs_reached ["bank"] (defScope s_outputs_reached) := ⟨rfl, rfl, rfl, by decide +kernel, rfl, by decide +kernel, by decide +kernel⟩
abbrev s_extremes : Stmt := topS 37
abbrev nm_extremes : List Str := ["bank", "some", "low", "high", "one", "memory"]
theorem sc_extremes : FnScope nm_extremes ["bank"] (defScope s_extremes) := ⟨rfl, rfl, rfl, by decide +kernel, rfl, by decide +kernel, by decide +kernel⟩
abbrev s_round_outputs : Stmt := topS 38
abbrev nm_round_outputs : List Str := ["bank", "steps", "memory"]
theorem sc_round_outputs : FnScope nm_round_outputs ["bank", "steps"] (defScope s_round_outputs) := ⟨rfl, rfl, rfl, by decide +kernel, rfl, by decide +kernel, by decide +kernel⟩
abbrev s__law_taken : Stmt := topS 40
abbrev nm__law_taken : List Str := ["_law_row", "_law_many", "_law_found", "_law_cell"]
theorem sc__law_taken : FnScope nm__law_taken ["_law_row", "_law_many"] (defScope s__law_taken) := ⟨rfl, rfl, rfl, by decide +kernel, rfl, by decide +kernel, by decide +kernel⟩
abbrev s__law_pick : Stmt := topS 41
abbrev nm__law_pick : List Str := ["_law_row", "_law_things"]
theorem sc__law_pick : FnScope nm__law_pick ["_law_row", "_law_things"] (defScope s__law_pick) := ⟨rfl, rfl, rfl, by decide +kernel, rfl, by decide +kernel, by decide +kernel⟩
abbrev s__law_alike : Stmt := topS 42
abbrev nm__law_alike : List Str := ["_law_found", "_law_due", "_law_k"]
theorem sc__law_alike : FnScope nm__law_alike ["_law_found", "_law_due"] (defScope s__law_alike) := ⟨rfl, rfl, rfl, by decide +kernel, rfl, by decide +kernel, by decide +kernel⟩
abbrev s__law_ratio : Stmt := topS 43
abbrev nm__law_ratio : List Str := ["_law_top", "_law_bottom", "_law_one", "_law_other"]
theorem sc__law_ratio : FnScope nm__law_ratio ["_law_top", "_law_bottom"] (defScope s__law_ratio) := ⟨rfl, rfl, rfl, by decide +kernel, rfl, by decide +kernel, by decide +kernel⟩
abbrev s__law_plus : Stmt := topS 44
abbrev nm__law_plus : List Str := ["_law_one", "_law_other"]
theorem sc__law_plus : FnScope nm__law_plus ["_law_one", "_law_other"] (defScope s__law_plus) := ⟨rfl, rfl, rfl, by decide +kernel, rfl, by decide +kernel, by decide +kernel⟩
abbrev s__law_sum : Stmt := topS 46
abbrev nm__law_sum : List Str := ["_law_some", "_law_found", "_law_one"]
theorem sc__law_sum : FnScope nm__law_sum ["_law_some"] (defScope s__law_sum) := ⟨rfl, rfl, rfl, by decide +kernel, rfl, by decide +kernel, by decide +kernel⟩
abbrev s__law_less : Stmt := topS 47
abbrev nm__law_less : List Str := ["_law_one", "_law_other"]
theorem sc__law_less : FnScope nm__law_less ["_law_one", "_law_other"] (defScope s__law_less) := ⟨rfl, rfl, rfl, by decide +kernel, rfl, by decide +kernel, by decide +kernel⟩
abbrev s__law_step : Stmt := topS 49
abbrev nm__law_step : List Str := ["_law_memory_here", "_law_letter", "_law_old", "_law_new", "_law_at"]
theorem sc__law_step : FnScope nm__law_step ["_law_memory_here", "_law_letter"] (defScope s__law_step) := ⟨rfl, rfl, rfl, by decide +kernel, rfl, by decide +kernel, by decide +kernel⟩
abbrev s__law_behind : Stmt := topS 50
abbrev nm__law_behind : List Str := ["_law_memory_here", "_law_steps_here", "_law_letter"]
theorem sc__law_behind : FnScope nm__law_behind ["_law_memory_here", "_law_steps_here"] (defScope s__law_behind) := ⟨rfl, rfl, rfl, by decide +kernel, rfl, by decide +kernel, by decide +kernel⟩
abbrev s__law_all : Stmt := topS 51
abbrev nm__law_all : List Str := ["_law_span", "_law_found", "_law_turn", "_law_memory_here"]
theorem sc__law_all : FnScope nm__law_all ["_law_span"] (defScope s__law_all) := ⟨rfl, rfl, rfl, by decide +kernel, rfl, by decide +kernel, by decide +kernel⟩
abbrev s__law_steps : Stmt := topS 53
abbrev nm__law_steps : List Str := ["_law_row", "_law_letter", "_law_found", "_law_turn"]
theorem sc__law_steps : FnScope nm__law_steps ["_law_row"] (defScope s__law_steps) := ⟨rfl, rfl, rfl, by decide +kernel, rfl, by decide +kernel, by decide +kernel⟩
abbrev s__law_on : Stmt := topS 54
abbrev nm__law_on : List Str := ["_law_memory_here", "_law_span", "_law_found", "_law_ones", "_law_zeros", "_law_high", "_law_low", "_law_first", "_law_last", "_law_k"]
theorem sc__law_on : FnScope nm__law_on ["_law_memory_here"] (defScope s__law_on) := ⟨rfl, rfl, rfl, by decide +kernel, rfl, by decide +kernel, by decide +kernel⟩
abbrev s__law_weight : Stmt := topS 55
abbrev nm__law_weight : List Str := ["_law_row", "_law_top"]
theorem sc__law_weight : FnScope nm__law_weight ["_law_row"] (defScope s__law_weight) := ⟨rfl, rfl, rfl, by decide +kernel, rfl, by decide +kernel, by decide +kernel⟩
abbrev s__law_bank : Stmt := topS 56
abbrev nm__law_bank : List Str := ["_law_row", "_law_most", "_law_span", "_law_weights", "_law_high", "_law_low"]
theorem sc__law_bank : FnScope nm__law_bank ["_law_row", "_law_most"] (defScope s__law_bank) := ⟨rfl, rfl, rfl, by decide +kernel, rfl, by decide +kernel, by decide +kernel⟩
abbrev s__law_output : Stmt := topS 57
abbrev nm__law_output : List Str := ["_law_bank_here", "_law_memory_here", "_law_on_here", "_law_one"]
theorem sc__law_output : FnScope nm__law_output ["_law_bank_here", "_law_memory_here"] (defScope s__law_output) := ⟨rfl, rfl, rfl, by decide +kernel, rfl, by decide +kernel, by decide +kernel⟩
abbrev s_law : Stmt := topS 58
abbrev nm_law : List Str := ["_law_script", "_law_row", "_law_bank_here", "_law_span", "_law_table", "_law_goal", "_law_size", "_law_least", "_law_most", "_law_rows", "_law_known", "_law_due", "_law_more", "_law_memory_here", "_law_word", "_law_letter", "_law_there", "_law_found", "_law_low_memory", "_law_high_memory", "_law_steps_here", "_law_here", "_law_turn", "_law_outs", "_law_k"]
theorem sc_law : FnScope nm_law ["_law_script"] (defScope s_law) := ⟨rfl, rfl, rfl, by decide +kernel, rfl, by decide +kernel, by decide +kernel⟩
/-! ### what stays of a heap: everything but the tables of code objects, which may grow -/
def IsTab (o : HO) : Prop := ∃ ps : Array Value, o = .tbl ps ∧ TriplesOk ps.toList
def Keep (H H' : Hp) : Prop := ∀ b o, H b = some o → H' b = some o ∨ (IsTab o ∧ ∃ u, H' b = some u ∧ IsTab u)
theorem Keep.refl (H : Hp) : Keep H H := fun _ _ h => .inl h
theorem Keep.of_same {H H' : Hp} (s : Same H H') : Keep H H' := fun b o h => .inl (s b o h)
theorem Keep.trans {H H1 H2 : Hp} (a : Keep H H1) (b : Keep H1 H2) : Keep H H2 := fun c o h => by
  rcases a c o h with e | ⟨t, u, e, tu⟩
  · exact b c o e
  · rcases b c u e with e2 | ⟨_, u2, e2, t2⟩
    · exact .inr ⟨t, u, e2, tu⟩
    · exact .inr ⟨t, u2, e2, t2⟩
theorem Keep.free {H H' : Hp} (k : Keep H H') {l : Addr} (h : H' l = none) : H l = none := by
  cases q : H l with
  | none => rfl
  | some o =>
    rcases k l o q with e | ⟨_, u, e, _⟩
    · rw [h] at e; cases e
    · rw [h] at e; cases e
theorem Keep.get {H H' : Hp} (k : Keep H H') {b : Addr} {o : HO} (h : H b = some o) (nt : ∀ ps, o ≠ .tbl ps) : H' b = some o := by
  rcases k b o h with e | ⟨⟨ps, e, _⟩, _⟩
  · exact e
  · exact absurd e (nt ps)
theorem Keep.tup {H H' : Hp} (k : Keep H H') {b : Addr} {xs : List V} (h : H b = some (.tup xs)) : H' b = some (.tup xs) := k.get h fun _ z => by cases z
theorem Keep.lst {H H' : Hp} (k : Keep H H') {b : Addr} {xs : List V} (h : H b = some (.lst xs)) : H' b = some (.lst xs) := k.get h fun _ z => by cases z
theorem Keep.dK {H H' : Hp} (k : Keep H H') {b : Addr} {xs : List (Key × V)} (h : H b = some (.dK xs)) : H' b = some (.dK xs) := k.get h fun _ z => by cases z
theorem Keep.frz {H H' : Hp} (k : Keep H H') {b : Addr} {ob : Obj} {u : HO} (h : H b = some (.frz ob u)) : H' b = some (.frz ob u) := k.get h fun _ z => by cases z
theorem Keep.seq {K : PySem.W.Frag} {H H' : Hp} {a : Addr} {xs : List V} (k : Keep H H') (h : SqL K H a xs) : SqL K H' a xs := by
  rcases h with (h | ⟨o, h⟩) | h
  · exact .inl (.inl (k.lst h))
  · exact .inl (.inr ⟨o, k.frz h⟩)
  · exact .inr h
theorem Keep.tab {H H' : Hp} (k : Keep H H') {P : Addr} (h : GxR.TabG H P) : GxR.TabG H' P := by
  obtain ⟨ps, e, t⟩ := h
  rcases k P _ e with e2 | ⟨_, u, e2, qs, eu, t2⟩
  · exact ⟨ps, e2, t⟩
  · subst eu
    exact ⟨qs, e2, t2⟩
theorem Keep.tabbed {H H' : Hp} {P : Addr} (h : GxR.TabG H P) (t : GxR.Tabbed P H H') : Keep H H' := fun b o e => by
  obtain ⟨⟨qs, e2, t2⟩, same⟩ := t
  by_cases hb : b = P
  · subst hb
    obtain ⟨ps, e1, t1⟩ := h
    rw [e1] at e
    cases e
    exact .inr ⟨⟨ps, rfl, t1⟩, _, e2, qs, rfl, t2⟩
  · exact .inl (by rw [same b hb]; exact e)
theorem Keep.new {H : Hp} {p : Addr} {o : HO} (h : H p = none) : Keep H (upd H p o) := fun b u e => .inl (by rw [upd_ne (ne_of_none e h)]; exact e)
/-- what stood at H is kept, the object at p was not there then -/
theorem Keep.mut {H H' : Hp} {p : Addr} {o : HO} (k : Keep H H') (h : H p = none) : Keep H (upd H' p o) := fun b u e => by
  rw [upd_ne (ne_of_none e h)]
  exact k b u e
theorem Keep.newT {H H' : Hp} {p : Addr} {o : HO} (k : Keep H H') (h : H' p = none) : Keep H (upd H' p o) := k.trans (Keep.new h)
/-! ### all but one object -/
def KeepBut (r : Addr) (H H' : Hp) : Prop := ∀ b o, b ≠ r → H b = some o → H' b = some o ∨ (IsTab o ∧ ∃ u, H' b = some u ∧ IsTab u)
theorem Keep.but {r : Addr} {H H' : Hp} (k : Keep H H') : KeepBut r H H' := fun b o _ e => k b o e
theorem KeepBut.refl (r : Addr) (H : Hp) : KeepBut r H H := (Keep.refl H).but
theorem KeepBut.trans {r : Addr} {H H1 H2 : Hp} (a : KeepBut r H H1) (b : KeepBut r H1 H2) : KeepBut r H H2 := fun c o n h => by
  rcases a c o n h with e | ⟨t, u, e, tu⟩
  · exact b c o n e
  · rcases b c u n e with e2 | ⟨_, u2, e2, t2⟩
    · exact .inr ⟨t, u, e2, tu⟩
    · exact .inr ⟨t, u2, e2, t2⟩
theorem KeepBut.upd {r : Addr} {H H' : Hp} {o : HO} (k : KeepBut r H H') : KeepBut r H (upd H' r o) := fun b u n e => by
  rw [upd_ne n]
  exact k b u n e
theorem KeepBut.get {r : Addr} {H H' : Hp} (k : KeepBut r H H') {b : Addr} {o : HO} (n : b ≠ r) (h : H b = some o) (nt : ∀ ps, o ≠ .tbl ps) : H' b = some o := by
  rcases k b o n h with e | ⟨⟨ps, e, _⟩, _⟩
  · exact e
  · exact absurd e (nt ps)
theorem KeepBut.tup {r : Addr} {H H' : Hp} (k : KeepBut r H H') {b : Addr} {xs : List V} (n : b ≠ r) (h : H b = some (.tup xs)) : H' b = some (.tup xs) := k.get n h fun _ z => by cases z
theorem KeepBut.lst {r : Addr} {H H' : Hp} (k : KeepBut r H H') {b : Addr} {xs : List V} (n : b ≠ r) (h : H b = some (.lst xs)) : H' b = some (.lst xs) := k.get n h fun _ z => by cases z
/-! ### tuples alone -/
/-- every tuple is kept -/
def KeepT (H H' : Hp) : Prop := ∀ b xs, H b = some (.tup xs) → H' b = some (.tup xs)
theorem KeepT.refl (H : Hp) : KeepT H H := fun _ _ h => h
theorem KeepT.trans {H H1 H2 : Hp} (a : KeepT H H1) (b : KeepT H1 H2) : KeepT H H2 := fun c xs h => b c xs (a c xs h)
theorem Keep.t {H H' : Hp} (k : Keep H H') : KeepT H H' := fun _ _ h => k.tup h
theorem KeepT.lst {H H' : Hp} (k : KeepT H H') {l : Addr} {ys zs : List V} (h : H' l = some (.lst ys)) : KeepT H (upd H' l (.lst zs)) := fun b xs e => by
  have e' := k b xs e
  rw [upd_ne (ne_of e' h (by intro z; cases z))]
  exact e'
theorem KeepT.dK {H H' : Hp} (k : KeepT H H') {l : Addr} {ys zs : List (Key × V)} (h : H' l = some (.dK ys)) : KeepT H (upd H' l (.dK zs)) := fun b xs e => by
  have e' := k b xs e
  rw [upd_ne (ne_of e' h (by intro z; cases z))]
  exact e'
theorem KeepT.new {H H' : Hp} (k : KeepT H H') {p : Addr} {o : HO} (h : H' p = none) : KeepT H (upd H' p o) := fun b xs e => by
  have e' := k b xs e
  rw [upd_ne (ne_of_none e' h)]
  exact e'
theorem KeepBut.t {r : Addr} {H H' : Hp} (k : KeepBut r H H') {ys : List V} (h : H r = some (.lst ys)) : KeepT H H' := fun b xs e => k.tup (ne_of e h (by intro z; cases z)) e
/-! ### a def of the text, a def that keeps its promise -/
structure Def (K : PySem.W.Frag) (mg : Str → Option Value) (x : Str) (st : Stmt) (ps : List Str) (f : Addr) (fd : FuncData) : Prop where
  fn : Fun K x x st f fd
  bd : Binds K fd ps []
  mg : mg x = some (.ref f)
def Callee (P : Program) (w : World) (K : PySem.W.Frag) (mg : Str → Option Value) (base : Heap) (k : Nat) (x : Str) (ps : List Str) (sp : Sp) : Prop :=
  ∃ f fd, FnOk P w K mg base CX0 k f fd ps sp ∧ Binds K fd ps [] ∧ PySem.W.keepIn K (.ref f) = true ∧ mg x = some (.ref f)
section
variable {X : Cx} {k : Nat} {x : Str} {ps : List Str} {sp : Sp}
theorem pe_cl {e : Expr} {es : List Expr} {p pos : Pos} {t : TA} (C : Callee X.prog X.w X.K X.mg X.base k x ps sp) (hr : Room k X.A) (hg : Gl X x) (ha : PA X (e :: es) t) (hdb : (x == ("__debug__" : Str)) = false := by decide)
    (he : starEach (e :: es) X.env = (false, eval e X.env) :: starEach es X.env := by rfl) (hpl : (backTo pos (starEach es X.env)).any (·.1) = false := by rfl) :
    PE X (.Call (.Name x p) (e :: es) [] pos) (tCall sp [] E0 t) := by
  obtain ⟨f, fd, F, b, kp, g⟩ := C
  exact pe_call F hr hg g kp b .nil pass0 ha hdb he hpl
end
section
variable {P : Program} {w : World} {K : PySem.W.Frag} {mg : Str → Option Value} {base : Heap}
theorem Def.ok {x : Str} {st : Stmt} {N ps : List Str} {k : Nat} {sp : Sp} {f : Addr} {fd : FuncData} (D : Def K mg x st ps f fd) (S : FnScope N ps (defScope st)) (len : ∀ vs H Q E, sp vs H Q E → vs.length = ps.length)
    (hbody : ∀ (cdv : Value) (A : Around) (outer : List Env) (s : Shared) (H : Hp) (vs : List V) (Q : VK) (E : XK), Room k (A.deeper (envOfC x (defScope st) s.heap.objs.size f cdv)) → sp vs H Q E →
      ∃ t, PSs (cxOf CX0 P w K mg base N x (defScope st) f cdv A outer s H E).nox (defBody st) t ∧ t { nx := fun _ H' => Q .non H', rt := Q } (start N vs) H) : Callee P w K mg base (k + 1) x ps sp :=
  ⟨f, fd, D.fn.ok S len hbody, D.bd, D.fn.kp, D.mg⟩
end
/-! ### ratios as data -/
def Rt (H : Hp) (v : V) (q : Int × Int) : Prop := ∃ p, v = .ref p ∧ H p = some (.tup [.int q.1, .int q.2])
theorem Rt.mono {H H' : Hp} {v : V} {q : Int × Int} (k : KeepT H H') (h : Rt H v q) : Rt H' v q := by
  obtain ⟨p, e, h⟩ := h
  exact ⟨p, e, k _ _ h⟩
theorem SqT.is {K : PySem.W.Frag} {H : Hp} {a : Addr} {xs : List V} (h : H a = some (.tup xs)) : SqT K H a xs := .inl (.inl h)
theorem SqL.is {K : PySem.W.Frag} {H : Hp} {a : Addr} {xs : List V} (h : H a = some (.lst xs)) : SqL K H a xs := .inl (.inl h)
/-! ### the names that the text takes from Python -/
structure Zs (mg : Str → Option Value) : Prop where
  z_len : mg "len" = none
  z_abs : mg "abs" = none
  z_isinstance : mg "isinstance" = none
  z_range : mg "range" = none
  z_enumerate : mg "enumerate" = none
  z_sorted : mg "sorted" = none
  z_int : mg "int" = none
  z_bool : mg "bool" = none
  z_str : mg "str" = none
  z_tuple : mg "tuple" = none
  z_list : mg "list" = none
  z_dict : mg "dict" = none
  z_set : mg "set" = none
  z_all : mg "all" = none
  z_gcd : mg "gcd" = some (.builtin "math.gcd")
  z_MOST_SPAN : ∃ t, mg "MOST_SPAN" = some (.int 9 t)
  z_MOST_STEPS : ∃ t, mg "MOST_STEPS" = some (.int 200 t)
  z_MOST_TOP : ∃ t, mg "MOST_TOP" = some (.int 1000000 t)
  z_MOST_BOTTOM : ∃ t, mg "MOST_BOTTOM" = some (.int 1000 t)
section
variable {X : Cx}
theorem pe_gi {x : Str} {pos : Pos} {i : Int} (hg : Gl X x) (h : ∃ t, X.mg x = some (.int i t)) (hd : (x == ("__debug__" : Str)) = false := by decide) : PE X (.Name x pos) (tC (.int i)) := by
  obtain ⟨t, h⟩ := h
  exact pe_glob hg h ⟨_, rfl⟩ hd
end
end R31
namespace R31
open PySem PySem.Spec PyProof.Rows L2
/-! ### the mathematics of ratios -/
def gI (t b : Int) : Int := ((Nat.gcd t.natAbs b.natAbs : Nat) : Int)
def rnorm (t b : Int) : Int × Int := (t / gI t b, b / gI t b)
def rplus (p q : Int × Int) : Int × Int := rnorm (p.1 * q.2 + q.1 * p.2) (p.2 * q.2)
def rless (p q : Int × Int) : Bool := decide (p.1 * q.2 < q.1 * p.2)
/-- below k bits, the bottom positive -/
def Bd (k : Nat) (q : Int × Int) : Prop := q.1.natAbs < 2 ^ k ∧ 0 < q.2 ∧ q.2.natAbs < 2 ^ k
theorem Bd.mono {j k : Nat} {q : Int × Int} (h : j ≤ k) (b : Bd j q) : Bd k q :=
  ⟨Nat.lt_of_lt_of_le b.1 (Nat.pow_le_pow_right (by decide) h), b.2.1, Nat.lt_of_lt_of_le b.2.2 (Nat.pow_le_pow_right (by decide) h)⟩
theorem gI_pos {t b : Int} (h : 0 < b) : 0 < gI t b := by
  unfold gI
  have : 0 < Nat.gcd t.natAbs b.natAbs := Nat.gcd_pos_of_pos_right _ (by omega)
  omega
theorem gI_le {t b : Int} (h : 0 < b) : (gI t b).natAbs ≤ b.natAbs := by
  unfold gI
  have : Nat.gcd t.natAbs b.natAbs ≤ b.natAbs := Nat.gcd_le_right _ (by omega)
  omega
theorem gI_dvd_l (t b : Int) : gI t b ∣ t := Int.ofNat_dvd_left.mpr (Nat.gcd_dvd_left _ _)
theorem gI_dvd_r (t b : Int) : gI t b ∣ b := Int.ofNat_dvd_left.mpr (Nat.gcd_dvd_right _ _)
theorem natAbs_div_le {t g : Int} (h : 0 < g) (d : g ∣ t) : (t / g).natAbs ≤ t.natAbs := by
  obtain ⟨c, rfl⟩ := d
  rw [Int.mul_ediv_cancel_left c (by omega), Int.natAbs_mul]
  exact Nat.le_mul_of_pos_left _ (by omega)
theorem div_pos {b g : Int} (h : 0 < g) (hb : 0 < b) (d : g ∣ b) : 0 < b / g := by
  obtain ⟨c, rfl⟩ := d
  rw [Int.mul_ediv_cancel_left c (by omega)]
  exact Int.pos_of_mul_pos_right hb (by omega)
theorem rnorm_bd {k : Nat} {t b : Int} (ht : t.natAbs < 2 ^ k) (h : 0 < b) (hb : b.natAbs < 2 ^ k) : Bd k (rnorm t b) :=
  ⟨Nat.lt_of_le_of_lt (natAbs_div_le (gI_pos h) (gI_dvd_l t b)) ht, div_pos (gI_pos h) h (gI_dvd_r t b), Nat.lt_of_le_of_lt (natAbs_div_le (gI_pos h) (gI_dvd_r t b)) hb⟩
theorem mul_bits {i j : Int} {a b : Nat} (ha : i.natAbs < 2 ^ a) (hb : j.natAbs < 2 ^ b) : (i * j).natAbs < 2 ^ (a + b) := wide_lt ha hb
theorem add_bits {i j : Int} {a : Nat} (ha : i.natAbs < 2 ^ a) (hb : j.natAbs < 2 ^ a) : (i + j).natAbs < 2 ^ (a + 1) := by
  rw [Nat.pow_succ]
  omega
theorem rplus_bd {j k : Nat} {p q : Int × Int} (hp : Bd j p) (hq : Bd k q) : Bd (j + k + 1) (rplus p q) := by
  have h1 : (p.1 * q.2).natAbs < 2 ^ (j + k) := mul_bits hp.1 hq.2.2
  have h2 : (q.1 * p.2).natAbs < 2 ^ (j + k) := by
    rw [Nat.add_comm j k]
    exact mul_bits hq.1 hp.2.2
  have h3 : (p.2 * q.2).natAbs < 2 ^ (j + k) := mul_bits hp.2.2 hq.2.2
  refine rnorm_bd (add_bits h1 h2) (Int.mul_pos hp.2.1 hq.2.1) ?_
  rw [Nat.pow_succ]
  omega
/-- in lowest terms -/
def Low (q : Int × Int) : Prop := 0 < q.2 ∧ Nat.gcd q.1.natAbs q.2.natAbs = 1
theorem rnorm_low {t b : Int} (h : 0 < b) : Low (rnorm t b) := by
  refine ⟨div_pos (gI_pos h) h (gI_dvd_r t b), ?_⟩
  have g0 : 0 < Nat.gcd t.natAbs b.natAbs := Nat.gcd_pos_of_pos_right _ (by omega)
  show Nat.gcd (t / gI t b).natAbs (b / gI t b).natAbs = 1
  have e1 : (t / gI t b).natAbs = t.natAbs / Nat.gcd t.natAbs b.natAbs := by
    rw [Int.natAbs_ediv_of_dvd (gI_dvd_l t b)]
    rfl
  have e2 : (b / gI t b).natAbs = b.natAbs / Nat.gcd t.natAbs b.natAbs := by
    rw [Int.natAbs_ediv_of_dvd (gI_dvd_r t b)]
    rfl
  rw [e1, e2]
  exact Nat.gcd_div_gcd_div_gcd_of_pos_right (by omega)
theorem rplus_low {p q : Int × Int} (hp : 0 < p.2) (hq : 0 < q.2) : Low (rplus p q) := rnorm_low (Int.mul_pos hp hq)
/-- the sum of a list -/
def rsum (l : List (Int × Int)) (a : Int × Int) : Int × Int := l.foldl rplus a
theorem rsum_take {l : List (Int × Int)} {i : Nat} {q : Int × Int} (h : l[i]? = some q) (a : Int × Int) : rsum (l.take (i + 1)) a = rplus (rsum (l.take i) a) q := by
  unfold rsum
  rw [List.take_add_one, h, List.foldl_append]
  rfl
theorem rsum_bd : ∀ (l : List (Int × Int)) {j k : Nat} {a : Int × Int}, (∀ q ∈ l, Bd k q) → Bd j a → Bd (j + (k + 1) * l.length) (rsum l a)
  | [], j, k, a, _, h => h
  | q :: r, j, k, a, hl, h => by
    have h2 := rsum_bd r (fun x hx => hl x (List.mem_cons_of_mem _ hx)) (rplus_bd h (hl q List.mem_cons_self))
    have e : j + k + 1 + (k + 1) * r.length = j + (k + 1) * (q :: r).length := by
      rw [List.length_cons, Nat.mul_add, Nat.mul_one]
      omega
    rw [e] at h2
    exact h2
theorem rsum_low : ∀ (l : List (Int × Int)) {a : Int × Int}, (∀ q ∈ l, 0 < q.2) → Low a → Low (rsum l a)
  | [], a, _, h => h
  | q :: r, a, hl, h => rsum_low r (fun x hx => hl x (List.mem_cons_of_mem _ hx)) (rplus_low h.1 (hl q List.mem_cons_self))
/-! ### promises -/
def spRatio : Sp := fun vs H Q _ => ∃ t b : Int, vs = [.int t, .int b] ∧ 0 < b ∧ b.natAbs < 2 ^ 4000 ∧ ∀ v H', Keep H H' → Rt H' v (rnorm t b) → Q v H'
def spPlus : Sp := fun vs H Q _ => ∃ (x y : V) (p q : Int × Int), vs = [x, y] ∧ Rt H x p ∧ Rt H y q ∧ Bd 1000 p ∧ Bd 1000 q ∧ ∀ v H', Keep H H' → Rt H' v (rplus p q) → Q v H'
def spLess : Sp := fun vs H Q _ => ∃ (x y : V) (p q : Int × Int), vs = [x, y] ∧ Rt H x p ∧ Rt H y q ∧ Bd 1000 p ∧ Bd 1000 q ∧ Q (.bl (rless p q)) H
def Rts (H : Hp) (xs : List V) (l : List (Int × Int)) : Prop := xs.length = l.length ∧ ∀ (i : Nat) (q : Int × Int), l[i]? = some q → ∃ v, xs[i]? = some v ∧ Rt H v q
theorem Rts.mono {H H' : Hp} {xs : List V} {l : List (Int × Int)} (k : KeepT H H') (h : Rts H xs l) : Rts H' xs l :=
  ⟨h.1, fun i q e => let ⟨v, e1, e2⟩ := h.2 i q e; ⟨v, e1, e2.mono k⟩⟩
theorem Rts.snoc {H : Hp} {xs : List V} {l : List (Int × Int)} {v : V} {q : Int × Int} (h : Rts H xs l) (r : Rt H v q) : Rts H (xs ++ [v]) (l ++ [q]) := by
  refine ⟨by rw [List.length_append, List.length_append, h.1]; rfl, fun i p e => ?_⟩
  by_cases hi : i < l.length
  · rw [List.getElem?_append_left hi] at e
    obtain ⟨u, e1, e2⟩ := h.2 i p e
    exact ⟨u, by rw [List.getElem?_append_left (by rw [h.1]; exact hi)]; exact e1, e2⟩
  · have hi2 : i = l.length := by
      have := (List.getElem?_eq_some_iff.mp e).1
      rw [List.length_append, List.length_singleton] at this
      omega
    subst hi2
    rw [List.getElem?_append_right (Nat.le_refl _), Nat.sub_self] at e
    have e' : q = p := Option.some.inj e
    subst e'
    refine ⟨v, ?_, r⟩
    rw [List.getElem?_append_right (by rw [h.1]; exact Nat.le_refl _), h.1, Nat.sub_self]
    rfl
theorem Rts.nil {H : Hp} : Rts H [] [] := ⟨rfl, fun i q e => by simp at e⟩
def spSum (K : PySem.W.Frag) : Sp := fun vs H Q _ => ∃ (a : Addr) (xs : List V) (l : List (Int × Int)) (k : Nat), vs = [.ref a] ∧ SqL K H a xs ∧ Rts H xs l ∧ (∀ q ∈ l, Bd k q) ∧ (k + 1) * l.length ≤ 900 ∧ k ≤ 1000 ∧ ∀ v H', Keep H H' → Rt H' v (rsum l (0, 1)) → Q v H'
section
variable {P : Program} {w : World} {K : PySem.W.Frag} {mg : Str → Option Value} {base : Heap} {f : Addr} {fd : FuncData}
theorem ok_ratio (D : Def K mg "ratio" s_ratio ["top", "bottom"] f fd) (Z : Zs mg) : Callee P w K mg base 1 "ratio" ["top", "bottom"] spRatio := by
  refine D.ok sc_ratio (fun vs H Q E h => ?_) (fun cdv A outer s H vs Q E hr h => ?_)
  · obtain ⟨t, b, rfl, _⟩ := h
    rfl
  obtain ⟨t, b, rfl, h0, h1, q⟩ := h
  have nd := sc_ratio.nd
  refine ⟨_, (pss_cons (ps_set (i := 2) nd rfl (Or.inl rfl) (pe_ifExp (pt_cmpR op_gt (pv 1) pe_int (nomark _)) (pe_callBfun cr_gcd (by rfl) Z.z_gcd (pa_cons (pv 0) (pa_cons (pv 1) pa_nil))) (pe_op op_sub pe_int (pe_callBfun cr_gcd (by rfl) Z.z_gcd (pa_cons (pv 0) (pa_cons (pv 1) pa_nil))))))
    (pss_one (ps_ret (pe_tup (pa_cons (pe_op op_fdivW (pv 0) (pv 2)) (pa_cons (pe_op op_fdivW (pv 1) (pv 2)) pa_nil)))))), ?_⟩
  refine ⟨_, rfl, b, 0, rfl, rfl, _, rfl, ?_⟩
  rw [decide_eq_true h0]
  refine iteT ⟨_, rfl, _, rfl, t, b, rfl, ?_⟩
  have hg : 0 < gI t b := gI_pos h0
  have hd : CDivW t (gI t b) := wide_div (b := 4000) hg (Nat.lt_of_le_of_lt (gI_le h0) h1) (by decide) (by decide)
  refine ⟨_, rfl, _, rfl, t, gI t b, rfl, rfl, hd, _, rfl, _, rfl, b, gI t b, rfl, rfl, hd, (by show 2 ≤ sizeLine; decide), fun p hp => ?_⟩
  exact q _ _ (Keep.new hp) ⟨p, rfl, upd_same⟩
theorem ok_plus (D : Def K mg "plus" s_plus ["one", "other"] f fd) (C_ratio : Callee P w K mg base 1 "ratio" ["top", "bottom"] spRatio) : Callee P w K mg base 2 "plus" ["one", "other"] spPlus := by
  refine D.ok sc_plus (fun vs H Q E h => ?_) (fun cdv A outer s H vs Q E hr h => ?_)
  · obtain ⟨x, y, p, q, rfl, _⟩ := h
    rfl
  obtain ⟨x, y, p, q, rfl, ⟨a, rfl, ha⟩, ⟨b, rfl, hb⟩, bp, bq, k⟩ := h
  have nd := sc_plus.nd
  have m1 : CMulW p.1 q.2 := wide_mul bp.1 bq.2.2 (by decide) (by decide) (by decide)
  have m2 : CMulW q.1 p.2 := wide_mul bq.1 bp.2.2 (by decide) (by decide) (by decide)
  have m3 : CMulW p.2 q.2 := wide_mul bp.2.2 bq.2.2 (by decide) (by decide) (by decide)
  refine ⟨_, (pss_one (ps_ret (pe_cl C_ratio (hr.mono (by decide)) (by rfl) (pa_cons (pe_op op_add (pe_op op_mulW (pe_ix ix_tup (pv 0) pe_int (fun _ _ => rfl)) (pe_ix ix_tup (pv 1) pe_int (fun _ _ => rfl))) (pe_op op_mulW (pe_ix ix_tup (pv 1) pe_int (fun _ _ => rfl)) (pe_ix ix_tup (pv 0) pe_int (fun _ _ => rfl)))) (pa_cons (pe_op op_mulW (pe_ix ix_tup (pv 0) pe_int (fun _ _ => rfl)) (pe_ix ix_tup (pv 1) pe_int (fun _ _ => rfl))) pa_nil))))), ?_⟩
  refine ⟨_, rfl, a, _, 0, _, rfl, rfl, SqT.is ha, rfl, _, rfl, b, _, 1, _, rfl, rfl, SqT.is hb, rfl, _, _, rfl, rfl, m1,
    _, rfl, b, _, 0, _, rfl, rfl, SqT.is hb, rfl, _, rfl, a, _, 1, _, rfl, rfl, SqT.is ha, rfl, _, _, rfl, rfl, m2, _, _, rfl, rfl,
    _, rfl, a, _, 1, _, rfl, rfl, SqT.is ha, rfl, _, rfl, b, _, 1, _, rfl, rfl, SqT.is hb, rfl, _, _, rfl, rfl, m3, ?_⟩
  refine ⟨_, _, rfl, Int.mul_pos bp.2.1 bq.2.1, Nat.lt_of_lt_of_le (mul_bits bp.2.2 bq.2.2) (Nat.pow_le_pow_right (by decide) (by decide)), k⟩
theorem ok_less (D : Def K mg "less" s_less ["one", "other"] f fd) : Callee P w K mg base 1 "less" ["one", "other"] spLess := by
  refine D.ok sc_less (fun vs H Q E h => ?_) (fun cdv A outer s H vs Q E hr h => ?_)
  · obtain ⟨x, y, p, q, rfl, _⟩ := h
    rfl
  obtain ⟨x, y, p, q, rfl, ⟨a, rfl, ha⟩, ⟨b, rfl, hb⟩, bp, bq, k⟩ := h
  have nd := sc_less.nd
  have m1 : CMulW p.1 q.2 := wide_mul bp.1 bq.2.2 (by decide) (by decide) (by decide)
  have m2 : CMulW q.1 p.2 := wide_mul bq.1 bp.2.2 (by decide) (by decide) (by decide)
  refine ⟨_, (pss_one (ps_ret (pe_cmpR op_lt (pe_op op_mulW (pe_ix ix_tup (pv 0) pe_int (fun _ _ => rfl)) (pe_ix ix_tup (pv 1) pe_int (fun _ _ => rfl))) (pe_op op_mulW (pe_ix ix_tup (pv 1) pe_int (fun _ _ => rfl)) (pe_ix ix_tup (pv 0) pe_int (fun _ _ => rfl))) (nomark _)))), ?_⟩
  exact ⟨_, rfl, a, _, 0, _, rfl, rfl, SqT.is ha, rfl, _, rfl, b, _, 1, _, rfl, rfl, SqT.is hb, rfl, _, _, rfl, rfl, m1,
    _, rfl, b, _, 0, _, rfl, rfl, SqT.is hb, rfl, _, rfl, a, _, 1, _, rfl, rfl, SqT.is ha, rfl, _, _, rfl, rfl, m2, _, _, rfl, rfl, k⟩
theorem ok_sum (D : Def K mg "sum_of" s_sum_of ["some"] f fd) (C_plus : Callee P w K mg base 2 "plus" ["one", "other"] spPlus) : Callee P w K mg base 3 "sum_of" ["some"] (spSum K) := by
  refine D.ok sc_sum_of (fun vs H Q E h => ?_) (fun cdv A outer s H vs Q E hr h => ?_)
  · obtain ⟨a, xs, l, k, rfl, _⟩ := h
    rfl
  obtain ⟨a, xs, l, k, rfl, hS, hR, hB, hk, hk2, q⟩ := h
  have nd := sc_sum_of.nd
  refine ⟨_, (pss_cons (ps_set (i := 1) nd rfl (Or.inl rfl) (pe_tup (pa_cons pe_int (pa_cons pe_int pa_nil))))
    (pss_cons (ps_for PassesOwn.never rfl (pi_list (pv 0)) (pg_name (i := 2) nd rfl (Or.inl rfl)) (pss_one (ps_set (i := 1) nd rfl (Or.inl rfl) (pe_cl C_plus (hr.mono (by decide)) (by rfl) (pa_cons (pv 1) (pa_cons (pv 2) pa_nil))))))
    (pss_one (ps_ret (pv 1))))), ?_⟩
  refine ⟨by show 2 ≤ sizeLine; decide, fun p hp => ?_⟩
  refine ⟨_, rfl, a, rfl, ⟨_, (Keep.new hp).seq hS⟩, for_it (walk_list (xs := xs)) (fun i σ H' => ∃ (v : V) (y : Option V), σ = [some (.ref a), some v, y] ∧ Keep H H' ∧ Rt H' v (rsum (l.take i) (0, 1)))
    ⟨_, none, rfl, Keep.new hp, p, rfl, upd_same⟩ (fun i σ H' _ ⟨_, _, _, kH, _⟩ => kH.seq hS) ?_ ?_⟩
  · rintro i x σ H1 H2 hi ⟨v, y, rfl, kH, hv⟩ ⟨rfl, hx⟩
    have hil : i < l.length := by rw [← hR.1]; exact hi
    obtain ⟨u, hu, ru⟩ := hR.2 i _ (List.getElem?_eq_getElem hil)
    rw [hx] at hu
    cases hu
    have hl : (l.take i).length ≤ l.length := by rw [List.length_take]; omega
    have b1 : Bd (1 + (k + 1) * (l.take i).length) (rsum (l.take i) (0, 1)) := rsum_bd _ (fun z hz => hB z (List.mem_of_mem_take hz)) ⟨by decide, by decide, by decide⟩
    have e1 : (k + 1) * (l.take i).length ≤ (k + 1) * l.length := Nat.mul_le_mul_left _ hl
    refine ⟨_, rfl, _, rfl, v, x, _, _, rfl, hv, ru.mono kH.t, b1.mono (by omega), (hB _ (List.getElem_mem hil)).mono hk2, fun z H3 k3 hz => ?_⟩
    refine ⟨z, _, rfl, kH.trans k3, ?_⟩
    rw [rsum_take (List.getElem?_eq_getElem hil)]
    exact hz
  · rintro σ H1 ⟨v, y, rfl, kH, hv⟩
    have e : l.take xs.length = l := List.take_of_length_le (by rw [hR.1]; exact Nat.le_refl _)
    rw [e] at hv
    exact ⟨_, rfl, q _ _ kH hv⟩
end
end R31
namespace R31
open PySem PySem.Spec PyProof.Rows L2
section
variable {X : Cx}
/-! ### a text times a number -/
def rMulS : R2 := fun x y H Q => ∃ (z : Str) (n : Int), x = .str z ∧ y = .int n ∧ MulOk z n ∧ Q (.str (Txt.mul z n)) H
theorem op_mulS : OpR X (binaryOp .Mult) rMulS := by
  intro pins s σ H x y v u Q I rx ry h
  obtain ⟨z, n, rfl, rfl, ok, q⟩ := h
  obtain ⟨t1, rfl⟩ := rx
  obtain ⟨t2, rfl⟩ := ry
  exact SB.mul ok fun t k => ⟨.str _, H, I.tok k, ⟨t, rfl⟩, q⟩
/-! ### pairs of whole numbers compared by >= -/
def lexGe (p q : Int × Int) : Bool := if p.1 = q.1 then decide (q.2 ≤ p.2) else decide (q.1 ≤ p.1)
def rGeT (K : PySem.W.Frag) : R2 := fun x y H Q => ∃ (a b : Addr) (p q : Int × Int), x = .ref a ∧ y = .ref b ∧ SqT K H a [.int p.1, .int p.2] ∧ SqT K H b [.int q.1, .int q.2] ∧ Q (.bl (lexGe p q)) H
theorem op_geT (hu : X.A.units < cLine) : OpR X (compareOp .GtE) (rGeT X.K) := by
  intro pins s σ H x y v u Q I rx ry h
  obtain ⟨a, b, p, q, rfl, rfl, ha, hb, k⟩ := h
  cases rx
  cases ry
  obtain ⟨its, r1, p1, _⟩ := I.tuple ha
  obtain ⟨its2, r2, p2, _⟩ := I.tuple hb
  obtain ⟨u1, w1, rfl, x1, x2⟩ := vals2 r1
  obtain ⟨u2, w2, rfl, y1, y2⟩ := vals2 r2
  obtain ⟨t1, rfl⟩ := x1
  obtain ⟨t2, rfl⟩ := x2
  obtain ⟨t3, rfl⟩ := y1
  obtain ⟨t4, rfl⟩ := y2
  have R := Ob.RcOp.tuples_ge (A := X.A) (s := s) (e := fun j => match j with | 0 => (p.1 == q.1) | _ => (p.2 == q.2)) (r := fun j => match j with | 0 => decide (q.1 ≤ p.1) | _ => decide (q.2 ≤ p.2)) p1 p2 hu
    (fun j h1 h2 => match j, h1, h2 with
      | 0, _, _ => SeqAt.EqAt.int_int _ _ _ _
      | 1, _, _ => SeqAt.EqAt.int_int _ _ _ _
      | j + 2, h1, _ => absurd h1 (by simp))
    (fun j h1 h2 _ => match j, h1, h2 with
      | 0, _, _ => Ob.RcOp.ge_int _ _ _ _
      | 1, _, _ => Ob.RcOp.ge_int _ _ _ _
      | j + 2, h1, _ => absurd h1 (by simp))
  refine R X.prog X.w X.xe (EP X pins σ Q) ⟨.bl _, H, I, rfl, ?_⟩
  have e : lexGe p q = Ob.lexAt (fun j => match j with | 0 => (p.1 == q.1) | _ => (p.2 == q.2)) (fun j => match j with | 0 => decide (q.1 ≤ p.1) | _ => decide (q.2 ≤ p.2)) true 0 2 := by
    show lexGe p q = if (p.1 == q.1) = true then (if (p.2 == q.2) = true then true else decide (q.2 ≤ p.2)) else decide (q.1 ≤ p.1)
    unfold lexGe
    by_cases h1 : p.1 = q.1
    · rw [if_pos h1, if_pos (by simp [h1])]
      by_cases h2 : p.2 = q.2
      · rw [if_pos (by simp [h2]), h2]
        exact decide_eq_true (Int.le_refl _)
      · rw [if_neg (by simp [h2])]
    · rw [if_neg h1, if_neg (by simp [h1])]
  rw [e] at k
  exact k
end
/-! ### enumerate over a text, over a tuple -/
/-- a source whose iterator stands at it: what each turn draws -/
structure Src (P : Program) (w : World) (K : PySem.W.Frag) (e it : Addr) (S : Nat → Heap → Prop) (go : Nat → Hp → Prop) (val : Nat → Hp → V → Prop) (stop : Nat → Hp → Prop) : Prop where
  obj : ∀ i h, S i h → ∃ o, h.get? it = some o ∧ ∀ v, o.data ≠ .cell v
  keep : ∀ i h h', S i h → (∀ o, h.get? it = some o → h'.get? it = some o) → S i h'
  item : ∀ (X : Cx), X.prog = P → X.w = w → X.K = K → X.calm = true → ∀ (i : Nat) (pins : List (Addr × Obj)) (s : Shared) (σ : L2.St) (H : Hp), Inv X pins σ H s → H e = none → S i s.heap → go i H →
    ∃ (n : Nat) (fp : List Addr) (Pv : Nat → Value → Prop) (St : Nat → Heap → Prop), Draws P w X.A.in1 it fp n Pv St ∧ St i s.heap ∧ i < n ∧ e ∉ fp ∧ (∀ v, Pv i v → ∃ x, RelV x v ∧ val i H x) ∧ ∀ h', St (i + 1) h' → S (i + 1) h'
  done : ∀ (X : Cx), X.prog = P → X.w = w → X.K = K → X.calm = true → ∀ (i : Nat) (pins : List (Addr × Obj)) (s : Shared) (σ : L2.St) (H : Hp), Inv X pins σ H s → S i s.heap → stop i H →
    ∃ (n : Nat) (fp : List Addr) (Pv : Nat → Value → Prop) (St : Nat → Heap → Prop), Draws P w X.A.in1 it fp n Pv St ∧ St n s.heap
def ItG (go : Nat → Hp → Prop) (val : Nat → Hp → V → Prop) (stop : Nat → Hp → Prop) : It :=
  ⟨go, fun i H v H' => ∃ T x, v = .ref T ∧ H T = none ∧ H' = upd H T (.tup [.int (i : Nat), x]) ∧ val i H x, stop⟩
theorem turn_enumG {P : Program} {w : World} {K : PySem.W.Frag} {elts : List Expr} {kk : Nat} {tpos : Pos} {e it : Addr} {S : Nat → Heap → Prop} {go : Nat → Hp → Prop} {val : Nat → Hp → V → Prop} {stop : Nat → Hp → Prop} (hne : e ≠ it) (R : Src P w K e it S go val stop) :
    Turn P w K (.Tuple elts kk tpos) (ItG go val stop) [e, it] e (fun i h => (∃ old, IsEnum h e it ((i : Nat) : Int) old) ∧ S i h) where
  mem := by simp
  obj := fun i h st b hb => by
    obtain ⟨⟨old, he⟩, hS⟩ := st
    rcases List.mem_cons.mp hb with z | z
    · rw [z]
      exact ⟨_, he, fun v q => nomatch q⟩
    · have z2 := List.mem_singleton.mp z
      rw [z2]
      exact R.obj i h hS
  keep := fun i h h' st k => ⟨st.1.elim fun old he => ⟨old, k e (by simp) _ he⟩, R.keep i h h' st.2 fun o q => k it (by simp) o q⟩
  item := by
    intro X hP hw hK hc i pins s σ H E I hf st hg
    obtain ⟨⟨old, he⟩, hS⟩ := st
    obtain ⟨n, fp, Pv, St, D, hst, hin, hef, hval, hnext⟩ := R.item X hP hw hK hc i pins s σ H I (hf e (by simp)).1 hS hg
    subst hP hw hK
    have le : e < s.heap.objs.size := Heap.lt_size he
    have li : it < s.heap.objs.size := by
      obtain ⟨o, ho, _⟩ := R.obj i _ hS
      exact Heap.lt_size ho
    refine wpAny_pyNext_enum_itemD D he hst hin hne hef fun u h1 tk hu ho hst1 hT hsz hk => ?_
    obtain ⟨x, rx, vx⟩ := hval u hu
    refine ⟨_, rfl, wpAny_letOwnedTupleGo_enum (s := { s with heap := h1, toks := tk + 1 }) ho fun h2 he2 sb => ?_⟩
    have hT2 := (sb.2 _ (Nat.ne_of_gt le)).trans hT
    have new : ObjOk X.prog X.w (upd H s.heap.objs.size (.tup [.int (i : Nat), x])) h2 s.heap.objs.size (.tup [.int (i : Nat), x]) :=
      ⟨by show 2 ≤ sizeLine; decide, [.int i tk, u], .cons ⟨_, rfl⟩ (.cons rx .nil), ⟨_, hT2, rfl, _, rfl⟩⟩
    have J : Inv X pins σ (upd H s.heap.objs.size (.tup [.int (i : Nat), x])) { s with heap := h2, toks := tk + 1 } := by
      refine I.turnedNew (ch := [e, it]) (fun b ob hb q => ?_) hf (Nat.le_refl _) new
      have b1 : b ≠ e := fun z => hb (by simp [z])
      have b2 : b ≠ it := fun z => hb (by simp [z])
      exact (sb.2 b b1).trans (hk b ob b1 b2 q)
    refine ⟨.ref s.heap.objs.size, _, J, rfl, ⟨_, x, rfl, I.hok.fresh (Nat.le_refl _), rfl, vx⟩, ⟨⟨u, ?_⟩, ?_⟩, fun b hb => ?_⟩
    · rw [show ((i + 1 : Nat) : Int) = (i : Int) + 1 by omega]
      exact he2
    · exact R.keep _ _ _ (hnext _ hst1) fun o q => (sb.2 it (Ne.symm hne)).trans q
    · have lb : b < s.heap.objs.size := by
        rcases List.mem_cons.mp hb with z | z
        · rw [z]; exact le
        · rw [List.mem_singleton.mp z]; exact li
      rw [upd_ne (Nat.ne_of_lt lb)]
      exact (hf b hb).1
  done := by
    intro X hP hw hK hc i pins s σ H E I hf st hg
    obtain ⟨⟨old, he⟩, hS⟩ := st
    obtain ⟨n, fp, Pv, St, D, hst⟩ := R.done X hP hw hK hc i pins s σ H I hS hg
    subst hP hw hK
    obtain ⟨f0, f1, f2, f3, f4, f5⟩ := hf it (by simp)
    exact wpAny_pyNext_enum_endD D he hst fun h' eb => ⟨rfl, I.turned (t' := s.toks) (fun b o hb q => eb b o hb q) f0 f1 f3 f4 f5⟩
  self := fun A i s Q E st h => st.1.elim fun _ he => wpAny_pyIter_enum he h
/-- a text -/
def ItES (z : Str) : It := ItG (fun i _ => i < z.cps.size) (fun i _ x => ∃ c, z.cps[i]? = some c ∧ x = .str ⟨#[c]⟩) (fun i _ => i = z.cps.size)
theorem src_text {P : Program} {w : World} {K : PySem.W.Frag} {e it : Addr} (z : Str) (t : Tok) (hne : e ≠ it) :
    Src P w K e it (fun i h => h.IsStrIter it (strIterType z) z t i) (fun i _ => i < z.cps.size) (fun i _ x => ∃ c, z.cps[i]? = some c ∧ x = .str ⟨#[c]⟩) (fun i _ => i = z.cps.size) where
  obj := fun i h st => by
    obtain ⟨o, ho, hc, hd⟩ := st
    exact ⟨o, ho, fun v q => by rw [hd] at q; cases q⟩
  keep := fun i h h' st k => by
    obtain ⟨o, ho, r⟩ := st
    exact ⟨o, k o ho, r⟩
  item := fun X hP hw hK hc i pins s σ H I he st hg => by
    subst hP hw hK
    refine ⟨_, _, _, _, Draws.text (A := X.A.in1) (I.ok.hd hc) it z t, st, hg, fun m => hne (List.mem_singleton.mp m), fun v hv => ?_, fun h' x => x⟩
    obtain ⟨c, u, hcz, rfl⟩ := hv
    exact ⟨.str ⟨#[c]⟩, ⟨u, rfl⟩, c, hcz, rfl⟩
  done := fun X hP hw hK hc i pins s σ H I st hs => by
    subst hP hw hK
    subst hs
    exact ⟨_, _, _, _, Draws.text (A := X.A.in1) (I.ok.hd hc) it z t, st⟩
/-- a tuple -/
def ItET (K : PySem.W.Frag) (a : Addr) : It := ItG (fun i H => ∃ (xs : List V) (x : V), SqT K H a xs ∧ xs[i]? = some x) (fun i H x => ∀ xs, SqT K H a xs → xs[i]? = some x) (fun i H => ∃ xs : List V, SqT K H a xs ∧ xs.length = i)
theorem src_tup {P : Program} {w : World} {K : PySem.W.Frag} {e it a : Addr} (hne : e ≠ it) (hea : e ≠ a) (hai : a ≠ it) :
    Src P w K e it (fun i h => h.IsTupleIter it a i) (fun i H => ∃ (xs : List V) (x : V), SqT K H a xs ∧ xs[i]? = some x) (fun i H x => ∀ xs, SqT K H a xs → xs[i]? = some x) (fun i H => ∃ xs : List V, SqT K H a xs ∧ xs.length = i) where
  obj := fun i h st => by
    obtain ⟨o, ho, hc, hd⟩ := st
    exact ⟨o, ho, fun v q => by rw [hd] at q; cases q⟩
  keep := fun i h h' st k => Heap.IsTupleIter.at st k
  item := fun X hP hw hK hc i pins s σ H I he st hg => by
    subst hP hw hK
    obtain ⟨xs, x, hq, hx⟩ := hg
    obtain ⟨its, rv, p, hz⟩ := I.tuple hq
    obtain ⟨u, hu, ru⟩ := rv.get hx
    have hi : i < its.toArray.size := by
      have := (List.getElem?_eq_some_iff.mp hu).1
      rw [List.size_toArray]
      exact this
    refine ⟨_, _, _, _, Draws.tuple (A := X.A.in1) (I.ok.hd hc) it a hai its.toArray, ⟨st, p⟩, hi, fun m => ?_, fun v hv => ?_, fun h' y => y.1⟩
    · rcases List.mem_cons.mp m with z | z
      · exact hne z
      · exact hea (List.mem_singleton.mp z)
    · have hv2 : its[i]? = some v := by simpa using hv
      rw [hv2] at hu
      cases hu
      exact ⟨x, ru, fun ys hy => by rw [I.tuple_inj hy hq]; exact hx⟩
  done := fun X hP hw hK hc i pins s σ H I st hs => by
    subst hP hw hK
    obtain ⟨xs, hq, hx⟩ := hs
    obtain ⟨its, rv, p, hz⟩ := I.tuple hq
    have e1 : i = its.toArray.size := by
      rw [List.size_toArray, ← hx]
      exact rv.length
    subst e1
    exact ⟨_, _, _, _, Draws.tuple (A := X.A.in1) (I.ok.hd hc) it a hai its.toArray, st, p⟩
section
variable {X : Cx} {e : Expr} {ta : TA} {p pos tpos : Pos} {elts : List Expr} {kk : Nat}
def iEnumS (ta : TA) : TI := fun σ H R => ta σ H fun vs H1 => ∃ z : Str, vs = [.str z] ∧ R (ItES z) H1
theorem pi_enumS (hg : Gl X "enumerate") (hm : X.mg "enumerate" = none) (ha : PA X [e] ta) (hs : starEach [e] X.env = [(false, eval e X.env)] := by rfl) :
    PI X (.Tuple elts kk tpos) (.Call (.Name "enumerate" p) [e] [] pos) (iEnumS ta) := by
  refine ⟨fun pins s σ H R I h => ?_⟩
  refine Call_ (ld_blt I hg hm boot_enumerate (PyProof.Rows.callWith_type1 (thn (ha.run pos pins s σ H _ I h) fun us s1 ⟨vs, H1, I1, r1, q1⟩ => ?_) hs rfl))
  obtain ⟨z, rfl, q⟩ := q1
  cases r1 with
  | cons r rr =>
    cases rr
    obtain ⟨t, rfl⟩ := r
    refine call_enumerate_str fun h' he hit hsz hk => wpAny_pyIter_enum he ?_
    have J : Inv X pins σ H1 { s1 with heap := h' } := I1.kept (t' := s1.toks) hk
    refine ⟨_, [s1.heap.objs.size + 1, s1.heap.objs.size], _, _, H1, rfl, J, turn_enumG (Nat.succ_ne_self _) (src_text z t (Nat.succ_ne_self _)), ⟨⟨_, he⟩, hit⟩, fun b hb => ?_, q⟩
    have hle : s1.heap.objs.size ≤ b := by
      rcases List.mem_cons.mp hb with y | y
      · rw [y]; exact Nat.le_succ _
      · rw [List.mem_singleton.mp y]; exact Nat.le_refl _
    exact I1.fpOk hle (I1.hok.fresh hle)
theorem walk_enumS {z : Str} : Walk (ItES z) z.cps.size (fun _ => True) (fun i H v H' => ∃ T c, v = .ref T ∧ H T = none ∧ H' = upd H T (.tup [.int (i : Nat), .str ⟨#[c]⟩]) ∧ z.cps[i]? = some c) :=
  ⟨fun _ _ hi _ => hi, fun _ _ => rfl, fun i H v H' _ _ y => by
    obtain ⟨T, x, h1, h2, h3, c, h4, h5⟩ := y
    subst h5
    exact ⟨T, c, h1, h2, h3, h4⟩⟩
theorem meets_enumT (a : Addr) (items : Array Value) (n : Nat) (dct : Option Addr) (sl : Array (Option Value)) :
    Meets (Builtin.«enumerate.__new__» ⟨[.type "enumerate", .ref a], []⟩) (fun _ R s => s.heap.get? a = some { cls := .type "tuple", dict := dct, data := .seq items n, slots := sl } ∧
      R (.ok (.ret (.ref (s.heap.push { cls := .type "tuple_iterator", data := .fields #[.ref a, .int 0 0] }).objs.size)))
        { s with heap := (s.heap.push { cls := .type "tuple_iterator", data := .fields #[.ref a, .int 0 0] }).push { cls := .type "enumerate", data := .fields #[.none, .bool false, .ref s.heap.objs.size, rawInt 0, .none, .none] } }) :=
  .of_wp fun prog w A R s h => by
    obtain ⟨hp, g, d, tk, os⟩ := s
    obtain ⟨ha, h⟩ := h
    have hsub := sub_enumerate
    have hTu : Heap.IsTuple (Shared.heap ⟨hp, g, d, tk, os⟩) a items := ⟨_, ha, rfl, n, rfl⟩
    wp_walk using PySem.AutoSeq1.wpAny_loadPart' ha
    refine wpAny_stack_any fun st => wpAny_pure ?_
    split
    · rename_i c _ _ _ _ _
      cases (c == Value.type "enumerate") <;> (wp_walk using PySem.AutoSeq1.wpAny_loadPart' ha, wpAny_pyIter_tuple hTu; exact ⟨_, rfl, h⟩)
    · wp_walk using PySem.AutoSeq1.wpAny_loadPart' ha, wpAny_pyIter_tuple hTu
      exact ⟨_, rfl, h⟩
theorem call_enumT {prog : Program} {w : World} {A : Around} {E : Value → Shared → Prop} {s : Shared} {a : Addr} {items : Array Value} {Q : Value → Shared → Prop} (hL : s.heap.IsTuple a items)
    (h : ∀ h', IsEnum h' (s.heap.objs.size + 1) s.heap.objs.size 0 .none → h'.IsTupleIter s.heap.objs.size a 0 → (∀ b o, s.heap.get? b = some o → h'.get? b = some o) → Q (.ref (s.heap.objs.size + 1)) { s with heap := h' }) :
    wpAny (model prog w) A (call (.type "enumerate") [.ref a]) Q E s := by
  obtain ⟨⟨c, dct, dt, sl⟩, ha, hc, n, hd⟩ := hL
  obtain rfl : c = .type "tuple" := hc
  obtain rfl : dt = .seq items n := hd
  refine callType_new F.called_enumerate (by decide) (F.typeCall_enumerate_1 _) (F.newCall_enumerate_1 _) (fun obj => F.args_object_init_2 obj _) F.entry_enumerate_new (meets_enumT a items n dct sl) ⟨ha, ?_⟩
  have hz : (s.heap.push { cls := .type "tuple_iterator", data := .fields #[.ref a, .int 0 0] }).objs.size = s.heap.objs.size + 1 := Heap.size_push ..
  show _ ∧ _
  rw [hz]
  have he := Heap.get?_push_size (s.heap.push { cls := .type "tuple_iterator", data := .fields #[.ref a, .int 0 0] }) (o := { cls := .type "enumerate", data := .fields #[.none, .bool false, .ref s.heap.objs.size, rawInt 0, .none, .none] }) rfl
  rw [hz] at he
  refine ⟨⟨_, he, rfl⟩, h _ he ⟨_, Heap.get?_push_of_some _ (Heap.get?_push_size _ rfl), rfl, rfl⟩ fun b o x => Heap.get?_push_of_some _ (Heap.get?_push_of_some _ x)⟩
def iEnumT (K : PySem.W.Frag) (ta : TA) : TI := fun σ H R => ta σ H fun vs H1 => ∃ (a : Addr) (xs : List V), vs = [.ref a] ∧ SqT K H1 a xs ∧ R (ItET K a) H1
theorem pi_enumT (hg : Gl X "enumerate") (hm : X.mg "enumerate" = none) (ha : PA X [e] ta) (hs : starEach [e] X.env = [(false, eval e X.env)] := by rfl) :
    PI X (.Tuple elts kk tpos) (.Call (.Name "enumerate" p) [e] [] pos) (iEnumT X.K ta) := by
  refine ⟨fun pins s σ H R I h => ?_⟩
  refine Call_ (ld_blt I hg hm boot_enumerate (PyProof.Rows.callWith_type1 (thn (ha.run pos pins s σ H _ I h) fun us s1 ⟨vs, H1, I1, r1, q1⟩ => ?_) hs rfl))
  obtain ⟨a, xs, rfl, hq, q⟩ := q1
  cases r1 with
  | cons r rr =>
    cases rr
    cases r
    obtain ⟨its, rv, pt, hz⟩ := I1.tuple hq
    have la : a < s1.heap.objs.size := by
      obtain ⟨_, e9, _⟩ := id pt
      exact Heap.lt_size e9
    refine call_enumT (show s1.heap.IsTuple a its.toArray from pt) fun h' he hit hk => wpAny_pyIter_enum he ?_
    have J : Inv X pins σ H1 { s1 with heap := h' } := I1.kept (t' := s1.toks) hk
    refine ⟨_, [s1.heap.objs.size + 1, s1.heap.objs.size], _, _, H1, rfl, J, turn_enumG (Nat.succ_ne_self _) (src_tup (Nat.succ_ne_self _) (Nat.ne_of_gt (Nat.lt_succ_of_lt la)) (Nat.ne_of_lt la)), ⟨⟨_, he⟩, hit⟩, fun b hb => ?_, q⟩
    have hle : s1.heap.objs.size ≤ b := by
      rcases List.mem_cons.mp hb with y | y
      · rw [y]; exact Nat.le_succ _
      · rw [List.mem_singleton.mp y]; exact Nat.le_refl _
    exact I1.fpOk hle (I1.hok.fresh hle)
theorem walk_enumT {K : PySem.W.Frag} {a : Addr} {xs : List V} : Walk (ItET K a) xs.length (fun H => SqT K H a xs) (fun i H v H' => ∃ T x, v = .ref T ∧ H T = none ∧ H' = upd H T (.tup [.int (i : Nat), x]) ∧ xs[i]? = some x) :=
  ⟨fun i _ hi q => ⟨xs, xs[i], q, by simp [hi]⟩, fun _ q => ⟨xs, q, rfl⟩, fun i H v H' _ q y => by
    obtain ⟨T, x, h1, h2, h3, h4⟩ := y
    exact ⟨T, x, h1, h2, h3, h4 xs q⟩⟩
end
end R31
namespace R31
open PySem PySem.Spec PyProof.Rows L2
/-! ### all(..) of a generator expression -/
/-- x in 'signs' -/
theorem elt_in {prog : Program} {w : World} {scope : Scope} {x k : Str} {j : Nat} {p1 p2 p3 : Pos} (hk : scope.kind = .function) (hl : scope.names.lookup x = some .local) (hd : (x == ("__debug__" : Str)) = false)
    (hm1 : behindInMarks .In (.Constant (.str k) j p2) = false) : GxR.EltP prog w scope x (.Compare (.Name x p1) [.In] [.Constant (.str k) j p2] p3) (fun c => decide (c ∈ k.cps.toList)) := by
  intro cenv A' E' c t s2 m2 hs hn hm
  refine wpAny_Compare1 (wpAny_Name (wpAny_loadName_local (by rw [hs]; exact hk) (show cenv.scope.names.lookup x = some .local by rw [hs]; exact hl) hn hm (Calls.Constant_str ?_)) hd) hm1
  exact PyProof.Rows.in_str ⟨by rw [PySem.StrLaws.found_one k c], GxR.keeps_tok _ _⟩
/-- what a generator's own frame sees -/
structure GenV (X : Cx) (h : Heap) : Prop where
  kin : X.K.In h
  gl : h.Ns mainGlobals X.mg
  bl : ∃ mb, h.Ns builtinsNs mb ∧ ∀ x : Str, x ≠ "__name__" → mb x = bootBuiltins x
def EltI (X : Cx) (scope : Scope) (x : Str) (elt : Expr) : Prop :=
  ∀ (cenv : Env) (A' : Around) (E' : Value → Shared → Prop) (i : Int) (t : Tok) (s2 : Shared) (m2 : Str → Option Value), cenv.scope = scope → cenv.globals = mainGlobals → cenv.builtins = builtinsNs → GenV X s2.heap →
    s2.heap.Ns cenv.locals m2 → m2 x = some (.int i t) → wpAny (model X.prog X.w) A' (eval elt cenv) (fun y s3 => y = .bool true ∧ Keeps s2 s3) E' s2
/-- isinstance(x, T) within it -/
theorem ev_isi {X : Cx} {cenv : Env} {A' : Around} {E' : Value → Shared → Prop} {i : Int} {t : Tok} {s2 : Shared} {m2 : Str → Option Value} {x : Str} {T : String} {TN : Str} {b : Bool} {p p1 p2 pos : Pos} {Q : Value → Shared → Prop}
    (hk : cenv.scope.kind = .function) (hl : cenv.scope.names.lookup x = some .local) (hd : (x == ("__debug__" : Str)) = false) (hg : cenv.globals = mainGlobals) (hb : cenv.builtins = builtinsNs) (G : GenV X s2.heap) (hn : s2.heap.Ns cenv.locals m2) (hm : m2 x = some (.int i t))
    (g1 : cenv.kindOf "isinstance" = some .globalImplicit) (z1 : X.mg "isinstance" = none) (g2 : cenv.kindOf TN = some .globalImplicit) (z2 : X.mg TN = none) (hT : bootBuiltins TN = some (.type T)) (hTn : TN ≠ "__name__") (hTd : (TN == ("__debug__" : Str)) = false) (hb2 : kitB "int" T = some b)
    (h : ∀ k, Q (.bool b) { s2 with toks := k }) (he1 : starEach [.Name x p1, .Name TN p2] cenv = (false, eval (.Name x p1) cenv) :: starEach [.Name TN p2] cenv := by rfl) (he2 : starEach [.Name TN p2] cenv = (false, eval (.Name TN p2) cenv) :: starEach [] cenv := by rfl) :
    wpAny (model X.prog X.w) A' (eval (.Call (.Name "isinstance" p) [.Name x p1, .Name TN p2] [] pos) cenv) Q E' s2 := by
  obtain ⟨mb, h1, h2⟩ := G.bl
  refine wpAny_Call_Name_kw (Calls.Name_function_global hk g1 (Calls.loadGlobal_builtin (by rw [hg]; exact G.gl) z1 (by rw [hb]; exact h1) ((h2 _ (by decide)).trans PyProof.Rows.boot_isinstance) ?_) (by decide))
  refine PyProof.Rows.callWith_builtin1 ?_ he1 (by rw [he2]; rfl)
  rw [he1]
  show wpAny _ _ (spliced ((false, eval (.Name x p1) cenv) :: backTo pos (starEach [.Name TN p2] cenv))) _ _ s2
  refine Calls.spliced_cons (wpAny_Name (wpAny_loadName_local hk hl hn hm ?_) hd)
  rw [he2]
  show wpAny _ _ (spliced ((false, eval (.Name TN p2) cenv) :: backTo pos (starEach [] cenv))) _ _ s2
  refine Calls.spliced_cons (Calls.Name_function_global hk g2 (Calls.loadGlobal_builtin (by rw [hg]; exact G.gl) z2 (by rw [hb]; exact h1) ((h2 _ hTn).trans hT) ?_) hTd)
  refine Calls.spliced_nil ?_
  exact PySem.W.kia_one (K := X.K) PySem.W.kitx_int G.kin True.intro (kit_ty hb2) (fun z => nomatch z) h
section
variable {X : Cx} {pins : List (Addr × Obj)} {σ : L2.St} {H : Hp} {s : Shared}
/-- the generator over a tuple of whole numbers stands ready -/
def ReadyT (X : Cx) (pins : List (Addr × Obj)) (σ : L2.St) (H1 : Hp) (P : Addr) (n : Nat) (g : Addr) (s5 : Shared) : Prop :=
  ∃ (fp wr : List Addr) (G : Array GenState → Array GenState → Prop) (F : Nat → Value → Prop) (St : Nat → Shared → Prop), WalksS X.prog X.w X.A.in1 g fp wr G n F St ∧ St 0 s5 ∧ TruthOf X.prog X.w X.A.in1 F (fun _ => true) ∧
    ∀ s', Moved wr G s5 s' → ∃ H2, GxR.Tabbed P H1 H2 ∧ Inv X pins σ H2 s'
theorem gen_tup {c P : Addr} {elt iter : Expr} {x : Str} {px gpos : Pos} {scope : Scope} {te : TE} {k : Nat} {Q' : Value → Shared → Prop} {R : Nat → Hp → Prop}
    (hr : Room k X.A) (TB : GxR.TabB X.base X.mg c P) (hcode : X.env.code = .ref c) (S : GxR.GenS X.env scope x) (hi : PE X iter te) (hel : EltI X scope x elt) (hs : ∀ v, genFold iter X.env v = pure v) (I : Inv X pins σ H s)
    (h : te σ H fun v H1 => ∃ (a : Addr) (ns : List Int), v = .ref a ∧ SqT X.K H1 a (ns.map V.int) ∧ GxR.TabG H1 P ∧ R ns.length H1) (hQ : ∀ n H1 g s5, R n H1 → ReadyT X pins σ H1 P n g s5 → Q' (.ref g) s5) :
    wpAny (model X.prog X.w) X.A (eval (.GeneratorExp elt [⟨.Name x px, iter, [], 0⟩] scope gpos) X.env) Q' X.xe s := by
  refine wpAny_GeneratorExp_walksQ hr.hd S.co (closure_ok S.free) S.cell S.dot S.loc S.kind (by have := hr.dp; omega) (thn (hi.run pins s σ H _ I h) fun xv s1 ⟨v, H1, I1, r1, q1⟩ => ?_) hs
  obtain ⟨a, ns, rfl, hT, ⟨ps, hP, ht⟩, q1⟩ := q1
  obtain rfl : xv = Value.ref a := r1
  obtain ⟨its, rv, pt, hz⟩ := I1.tuple hT
  have isT : s1.heap.IsTuple a its.toArray := pt
  have lenE : its.toArray.size = ns.length := by rw [List.size_toArray, ← rv.length, List.length_map]
  have hat : ∀ (i : Nat) (v : Value), its.toArray[i]? = some v → ∃ (m : Int) (u : Tok), v = .int m u := fun i v hv => by
    have hv2 : its[i]? = some v := by simpa using hv
    have hi2 : i < ns.length := by
      rw [← lenE, List.size_toArray]
      exact (List.getElem?_eq_some_iff.mp hv2).1
    have hb : (ns.map V.int)[i]? = some (V.int ns[i]) := by
      rw [List.getElem?_map, List.getElem?_eq_getElem hi2]
      rfl
    obtain ⟨u, hu, ru⟩ := rv.get hb
    rw [hv2] at hu
    cases hu
    obtain ⟨t, e⟩ := (show ∃ t, v = Value.int ns[i] t from ru)
    exact ⟨_, t, e⟩
  refine wpAny_pyIter_tuple isT ?_
  generalize ho : ({ cls := .type "tuple_iterator", data := .fields #[.ref a, .int 0 0] } : Obj) = o
  have hitr : (s1.heap.push o).IsTupleIter s1.heap.objs.size a 0 := by
    subst ho
    exact ⟨_, Heap.get?_push_size _ rfl, rfl, rfl⟩
  have la : a < s1.heap.objs.size := by
    obtain ⟨_, e, _⟩ := id isT
    exact Heap.lt_size e
  have hPs : s1.heap.get? P = some { cls := .none, data := .fields ps } := I1.hok P _ hP
  have lP : P < s1.heap.objs.size := Heap.lt_size hPs
  have hP2 : (s1.heap.push o).get? P = some { cls := .none, data := .fields ps } := Heap.get?_push_of_some _ hPs
  have cd : PySem.W.CodeHd (s1.heap.push o) c P := TB.code.keeps fun b u e => Heap.get?_push_of_some _ (I1.bk b u e)
  have lim2 : (s1.heap.push o).NoLimit := I1.nolimit.push o
  have noP : ∀ {m : Str → Option Value} {b : Addr}, s1.heap.Ns b m → b ≠ P := fun {m b} hns z => by
    obtain ⟨o9, es, ep, h9, d9, _⟩ := hns
    rw [z, hPs] at h9
    cases h9
    cases d9
  obtain ⟨bm, ob, e1, e2, e3, e4, e5, e6, e7, e8⟩ := TB.bm
  have hcP : cStatics ≠ P := by
    obtain ⟨mc, hns, _⟩ := I1.nolimit
    exact noP hns
  have hcl : cStatics < s1.heap.objs.size := by
    obtain ⟨_, hns, _⟩ := I1.nolimit
    exact hns.lt
  have sz2 : (s1.heap.push o).objs.size = s1.heap.objs.size + 1 := Heap.size_push ..
  obtain ⟨mb, hmb, hboot⟩ := I1.mod.blt
  have nsG : s1.heap.Ns mainGlobals X.mg := I1.mod.glob.keeps I1.bk
  have nsB : s1.heap.Ns builtinsNs mb := hmb.keeps I1.bk
  have rest : ∀ (code : Value) (h3 : Heap) (tk : Nat) (ps' : Array Value), Heap.ExtBut P (s1.heap.push o) h3 → (s1.heap.push o).objs.size ≤ h3.objs.size → h3.get? P = some { cls := .none, data := .fields ps' } → (∃ more, ps' = ps ++ more) → TriplesOk ps'.toList →
      wpAny (model X.prog X.w) X.A (builtinsFor X.env.globals X.env.builtins) (fun bi s4 => ∃ Ia fp wr n0 Pf St0 pz F, Value.ref s1.heap.objs.size = .ref Ia ∧ (∀ A' : Around, A'.handled = none → Walks X.prog X.w A' Ia fp wr n0 Pf St0) ∧ St0 0 s4.heap ∧
        (∀ b ∈ fp, b < s4.heap.objs.size) ∧ s4.heap.NoLimit ∧ cStatics ∉ wr ∧
        (∀ href : Heap, (∀ b o, s4.heap.get? b = some o → href.get? b = some o) → QuietGen X.prog X.w (genEnv scope (cloFrom X.env.cells scope.names []) s4.heap.objs.size code bi X.env) x [] elt (List.range s4.heap.objs.size) wr Pf pz F href) ∧
        (∀ g h5 tk gs, gs.bare = true → s4.heap.objs.size < g → h5.objs.size = g + 1 → (∀ b o, s4.heap.get? b = some o → h5.get? b = some o) →
          WalksS X.prog X.w X.A.in4 g (g :: s4.heap.objs.size :: List.range s4.heap.objs.size) (s4.heap.objs.size :: wr) (GenOnlyQ s4.gens.size) (passing pz n0 0).length (fun j y => ∃ i, (passing pz n0 0)[j]? = some i ∧ F i y)
            (GenAt X.prog X.w X.A.in4 g s4.gens.size s4.heap.objs.size (List.range s4.heap.objs.size) wr pz n0 F) →
          GenAt X.prog X.w X.A.in4 g s4.gens.size s4.heap.objs.size (List.range s4.heap.objs.size) wr pz n0 F 0 { s4 with gens := s4.gens.push gs, toks := tk, heap := h5 } → Q' (.ref g) { s4 with gens := s4.gens.push gs, toks := tk, heap := h5 }))
        X.xe { s1 with heap := h3, toks := tk } := by
    intro code h3 tk ps' hx hsz hP3 hmore ht3
    have keep3 : ∀ b u, b ≠ P → s1.heap.get? b = some u → h3.get? b = some u := fun b u hb e => hx b u hb (Heap.get?_push_of_some _ e)
    have ns3 : ∀ {m : Str → Option Value} {b : Addr}, s1.heap.Ns b m → h3.Ns b m := fun {m b} hns => by
      have nb := noP hns
      obtain ⟨o9, es, ep, h9, r9⟩ := hns
      exact ⟨o9, es, ep, keep3 b _ nb h9, r9⟩
    have aP : a ≠ P := fun z => by
      obtain ⟨o9, h9, hc9, _, hd9⟩ := id isT
      rw [z, hPs] at h9
      cases h9
      cases hd9
    have isT3 : h3.IsTuple a its.toArray := by
      obtain ⟨o9, h9, r9⟩ := id isT
      exact ⟨o9, keep3 _ _ aP h9, r9⟩
    have itr3 : h3.IsTupleIter s1.heap.objs.size a 0 := hitr.at fun u e => hx _ u (Nat.ne_of_gt lP) e
    have kin3 : X.K.In h3 := fun b u e => by
      have e9 := I1.bk b u (I1.mod.kin b u e)
      refine keep3 b u (fun z => ?_) e9
      obtain ⟨e10, e11⟩ := I1.bs b u (I1.mod.kin b u e)
      rw [z, hP] at e11
      cases e11
    refine wpAny_builtinsFor (m := X.mg) (by rw [I1.ok.glob]; exact ns3 nsG) e1 e2 (keep3 _ _ e4 (I1.bk _ _ e5)) e6 e7 e8 ?_
    refine ⟨s1.heap.objs.size, [s1.heap.objs.size, a], [s1.heap.objs.size], its.toArray.size, (fun i v => its.toArray[i]? = some v), (fun i h => h.IsTupleIter s1.heap.objs.size a i ∧ h.IsTuple a its.toArray), (fun _ => true), (fun _ y => y = .bool true), rfl,
      (fun A' hA => Walks.tuple hA _ _ (Nat.ne_of_lt la) _), ⟨itr3, isT3⟩, ?_, lim2.extBut hx hcP, ?_, ?_, ?_⟩
    · intro b hb
      have le3 : s1.heap.objs.size < h3.objs.size := by omega
      rcases List.mem_cons.mp hb with z | z
      · rw [z]; exact le3
      · rw [List.mem_singleton.mp z]; exact Nat.lt_trans la le3
    · intro z
      exact Nat.ne_of_lt hcl (List.mem_singleton.mp z)
    · intro href hhref
      refine ⟨fun A' E' i v s2 m2 hA hPv hn hm hk => ?_, fun A' E' i v s2 m2 hA hPv hp hn hm hk => ?_⟩
      · simp only [List.forIn_nil]
        exact wpAny_pure ⟨rfl, GxR.keeps_refl _⟩
      · obtain ⟨m, u, rfl⟩ := hat i v hPv
        have up : ∀ b o, b < s1.heap.objs.size → h3.get? b = some o → s2.heap.get? b = some o := fun b o lb e => by
          refine hk b (List.mem_range.mpr (Heap.lt_size e)) (fun z => ?_) o (hhref b o e)
          have z2 := List.mem_singleton.mp z
          rw [z2] at lb
          exact Nat.lt_irrefl _ lb
        have nsU : ∀ {m : Str → Option Value} {b : Addr}, s1.heap.Ns b m → s2.heap.Ns b m := fun {m b} hns => by
          have lb := hns.lt
          obtain ⟨o9, es, ep, h9, r9⟩ := ns3 hns
          exact ⟨o9, es, ep, up b _ lb h9, r9⟩
        have gv : GenV X s2.heap := ⟨fun b o e => up b o (Heap.lt_size (I1.bk b o (I1.mod.kin b o e))) (kin3 b o e), nsU nsG, mb, nsU nsB, hboot⟩
        exact hel _ A' E' m u s2 m2 rfl I1.ok.glob rfl gv hn hm
    · intro g h5 tk5 gs hgb hag hsz5 hk5 W5 hgat
      simp only [GxR.passing_true, List.length_range] at W5
      rw [lenE] at W5 hgat
      refine hQ ns.length H1 g _ q1 ⟨_, _, _, _, _, W5.in4_1, hgat, ?_, fun s' hm => ?_⟩
      · intro j y sj Qj Ej hy hQj
        obtain ⟨i, _, rfl⟩ := hy
        exact wpAny_truthy_bool hQj
      · obtain ⟨more, em⟩ := hmore
        have nwr : ∀ b u, s1.heap.get? b = some u → b ∉ h3.objs.size :: [s1.heap.objs.size] := fun b u e hb => by
          have hl := Heap.lt_size e
          have hl3 : s1.heap.objs.size < h3.objs.size := by omega
          rcases List.mem_cons.mp hb with z | z
          · rw [z] at hl
            exact Nat.lt_irrefl _ (Nat.lt_trans hl3 hl)
          · rw [List.mem_singleton.mp z] at hl
            exact Nat.lt_irrefl _ hl
        have J := GxR.inv_tab (more := more) (h' := s'.heap) (g' := s'.gens) (d' := s'.drawn) (t' := s'.toks) I1 hP (fun b u hb e => hm.heap b u (nwr b u e) (hk5 b u (keep3 b u hb e)))
          (by rw [← em]; exact hm.heap P _ (nwr P _ hPs) (hk5 P _ hP3)) (AllBare.movedS (I1.bare.push hgb) hm)
        rw [GxR.sh_eta s1 s' hm.os] at J
        exact ⟨upd H1 P (.tbl (ps ++ more)), ⟨⟨ps ++ more, upd_same, by rw [← em]; exact ht3⟩, fun b hb => upd_ne hb⟩, J⟩
  refine ⟨lim2, ?_⟩
  cases hf : codeAmong gpos ps.toList with
  | none =>
    refine wpAny_genexprCodeX hcode (cd.code hP2 ht) (cd.tab hP2) hf fun c' h' tk hx hge hlt hco' _ htab' _ => ?_
    obtain ⟨o1, vs, f1, tf, fl, tg, inF, tx, tt, op, _, _, _, _, _, _, _, _, _, htr, _⟩ := hco'
    exact rest _ h' tk _ hx (Nat.le_trans hge (Nat.le_of_lt hlt)) htab'.2 ⟨_, rfl⟩ htr
  | some cv => exact wpAny_genexprCode_hit hcode (cd.code hP2 ht) hf (rest cv (s1.heap.push o) s1.toks ps (Heap.ExtBut.refl _ _) (Nat.le_refl _) hP2 ⟨#[], by simp⟩ ht)
/-- all(test for x in e), e a tuple of whole numbers all of which pass -/
def tAllT (K : PySem.W.Frag) (P : Addr) (te : TE) : TE := fun σ H Q => te σ H fun v H1 => ∃ (a : Addr) (ns : List Int), v = .ref a ∧ SqT K H1 a (ns.map V.int) ∧ GxR.TabG H1 P ∧ ∀ H2, GxR.Tabbed P H1 H2 → Q (.bl true) H2
theorem pe_allT {c P : Addr} {elt iter : Expr} {x : Str} {px p pos gpos : Pos} {scope : Scope} {te : TE} {k : Nat}
    (hr : Room k X.A) (hg : Gl X "all") (hm : X.mg "all" = none) (hb : bootBuiltins "all" = some (.builtin "all")) (TB : GxR.TabB X.base X.mg c P) (hcode : X.env.code = .ref c) (S : GxR.GenS X.env scope x) (hi : PE X iter te) (hel : EltI X scope x elt)
    (hs : ∀ v, genFold iter X.env v = pure v) (he : starEach [.GeneratorExp elt [⟨.Name x px, iter, [], 0⟩] scope gpos] X.env = (false, eval (.GeneratorExp elt [⟨.Name x px, iter, [], 0⟩] scope gpos) X.env) :: starEach [] X.env := by rfl) :
    PE X (.Call (.Name "all" p) [.GeneratorExp elt [⟨.Name x px, iter, [], 0⟩] scope gpos] [] pos) (tAllT X.K P te) := by
  refine ⟨fun pins s σ H Q I h => wpAny_Call_Name_kw (ld_blt I hg hm hb (PyProof.Rows.callWith_builtin1 ?_ he (by rfl)))⟩
  rw [he]
  show wpAny _ _ (spliced ((false, eval (.GeneratorExp elt [⟨.Name x px, iter, [], 0⟩] scope gpos) X.env) :: backTo pos (starEach [] X.env))) _ _ s
  refine Calls.spliced_cons (gen_tup (R := fun _ H1 => ∀ H2, GxR.Tabbed P H1 H2 → Q (.bl true) H2) hr TB hcode S hi hel hs I h fun n H1 g s5 hR hG => ?_)
  obtain ⟨fp, wr, G, F, St, W, hst, htr, hI⟩ := hG
  refine Calls.spliced_nil (call_all_walkS (W.self 0 _ _ _ hst ⟨g, fp, wr, G, _, F, St, _, rfl, W, hst, htr, fun s' hmv => ?_⟩))
  obtain ⟨H2, hT, J⟩ := hI s' hmv
  refine ⟨.bl _, H2, J, rfl, ?_⟩
  rw [List.all_eq_true.mpr fun _ _ => rfl]
  exact hR H2 hT
end
/-- isinstance(x, int) and not isinstance(x, bool) -/
theorem elt_int {X : Cx} {scope : Scope} {x : Str} {p p1 p2 p3 q0 q1 q2 q3 q4 q5 : Pos} (hk : scope.kind = .function) (hl : scope.names.lookup x = some .local) (hd : (x == ("__debug__" : Str)) = false) (g1 : scope.names.lookup ("isinstance" : Str) = some .globalImplicit)
    (g2 : scope.names.lookup ("int" : Str) = some .globalImplicit) (g3 : scope.names.lookup ("bool" : Str) = some .globalImplicit) (z1 : X.mg "isinstance" = none) (z2 : X.mg "int" = none) (z3 : X.mg "bool" = none) :
    EltI X scope x (.BoolOp .And [.Call (.Name "isinstance" p) [.Name x p1, .Name "int" p2] [] p3, .UnaryOp .Not (.Call (.Name "isinstance" q0) [.Name x q1, .Name "bool" q2] [] q3) q4] q5) := by
  intro cenv A' E' i t s2 m2 hs hg hb G hn hm
  have kf : cenv.scope.kind = .function := by rw [hs]; exact hk
  have kl : cenv.scope.names.lookup x = some .local := by rw [hs]; exact hl
  have k1 : cenv.kindOf "isinstance" = some .globalImplicit := by show cenv.scope.names.lookup _ = _; rw [hs]; exact g1
  have k2 : cenv.kindOf "int" = some .globalImplicit := by show cenv.scope.names.lookup _ = _; rw [hs]; exact g2
  have k3 : cenv.kindOf "bool" = some .globalImplicit := by show cenv.scope.names.lookup _ = _; rw [hs]; exact g3
  refine BoolOp_and (ev_isi (T := "int") kf kl hd hg hb G hn hm k1 z1 k2 z2 (by decide +kernel) (by decide) (by decide) (b := true) (by decide +kernel) fun tk => wpAny_truthy_bool ?_)
  refine BoolOp_one (UnaryOp_ (ev_isi (T := "bool") (s2 := { s2 with toks := tk }) kf kl hd hg hb ⟨G.kin, G.gl, G.bl⟩ hn hm k1 z1 k3 z3 (by decide +kernel) (by decide) (by decide) (b := false) (by decide +kernel) fun tk2 => not_of (wpAny_truthy_bool ⟨rfl, ?_⟩)))
  exact GxR.keeps_tok s2 tk2
end R31
namespace R31
open PySem PySem.Spec PyProof.Rows L2
/-! ### sorted of pairs of whole numbers of any sign: a tuple of them, a set of them -/
open PySem.W in
abbrev PO : KeyOrd := listOrd itemOrd
def kq (q : Int × Int) : List (Int ⊕ List Nat) := [Sum.inl q.1, Sum.inl q.2]
theorem kq_inj {p q : Int × Int} (h : kq p = kq q) : p = q := by
  unfold kq at h
  injection h with h1 h2
  injection h2 with h2 _
  injection h1 with h1
  injection h2 with h2
  exact Prod.ext h1 h2
def SortedQ (l : List (Int × Int)) : Prop := l.Pairwise fun p q => PO.kle (kq p) (kq q)
/-- two rising lists of the same things are one -/
theorem sortedQ_uniq : ∀ {l m : List (Int × Int)}, SortedQ l → SortedQ m → l.Perm m → l = m
  | [], m, _, _, h => (List.nil_perm.mp h).symm
  | a :: l, [], _, _, h => absurd (List.perm_nil.mp h) (by simp)
  | a :: l, b :: m, h1, h2, h => by
    obtain ⟨a1, a2⟩ := List.pairwise_cons.mp h1
    obtain ⟨b1, b2⟩ := List.pairwise_cons.mp h2
    have e : a = b := by
      have ha : a ∈ b :: m := h.mem_iff.mp List.mem_cons_self
      have hb : b ∈ a :: l := h.mem_iff.mpr List.mem_cons_self
      rcases List.mem_cons.mp ha with z | z
      · exact z
      · rcases List.mem_cons.mp hb with y | y
        · exact y.symm
        · exact kq_inj (KeyOrd.kle_antisymm (a1 b y) (b1 a z))
    subst e
    rw [sortedQ_uniq a2 b2 ((List.perm_cons a).mp h)]
def shp : Nat → Bool := fun _ => false
def dq (h : Heap) (v : Value) : Int × Int := match PyProof.Rows.G.tupKeyC h shp v with
  | some [Sum.inl a, Sum.inl b] => (a, b)
  | _ => (0, 0)
/-- v is a pair of whole numbers -/
def PairV (h : Heap) (v : Value) (q : Int × Int) : Prop := ∃ a o xs n t u, v = .ref a ∧ h.get? a = some o ∧ o.cls = .type "tuple" ∧ o.data = .seq xs n ∧ xs.toList = [.int q.1 t, .int q.2 u]
theorem PairV.keep {h h' : Heap} {v : Value} {q : Int × Int} (p : PairV h v q) (k : ∀ b o, h.get? b = some o → h'.get? b = some o) : PairV h' v q := by
  obtain ⟨a, o, xs, n, t, u, e, ho, r⟩ := p
  exact ⟨a, o, xs, n, t, u, e, k _ _ ho, r⟩
theorem PairV.key {h : Heap} {v : Value} {q : Int × Int} (p : PairV h v q) : PyProof.Rows.G.tupKeyC h shp v = some (kq q) := by
  obtain ⟨a, o, xs, n, t, u, rfl, ho, hc, hd, hx⟩ := p
  have h1 : PyProof.Rows.G.isTupObj h (.ref a) = true := by
    simp only [PyProof.Rows.G.isTupObj, ho, hc]
    decide
  unfold PyProof.Rows.G.tupKeyC
  rw [if_pos h1]
  simp only [tupKey, ho, hd, hx]
  rfl
theorem PairV.dq {h : Heap} {v : Value} {q : Int × Int} (p : PairV h v q) : dq h v = q := by
  unfold R31.dq
  rw [p.key]
  rfl
theorem tupsOf_pairs {h : Heap} : ∀ {vs : List Value}, (∀ v ∈ vs, ∃ q, PairV h v q) → ∃ fs, TupsOf h shp vs fs
  | [], _ => ⟨[], .nil⟩
  | v :: vs, hv => by
    obtain ⟨fs, r⟩ := tupsOf_pairs fun u hu => hv u (List.mem_cons_of_mem _ hu)
    obtain ⟨q, a, o, xs, n, t, u, e, ho, hc, hd, hx⟩ := hv v List.mem_cons_self
    refine ⟨Value.int q.1 t :: fs, .cons ⟨a, o, xs, n, e, ho, hc, hd, ?_, fun _ => ⟨_, _, rfl⟩, fun z => by cases z⟩ r⟩
    rw [← Array.getElem?_toList, hx]
    rfl
section
variable {prog : Program} {w : World} {A : Around} {E : Value → Shared → Prop} {s : Shared}
/-- the sort of a list just laid that holds pairs -/
theorem sort_pairs {h1 : Shared} {a : Addr} {vs : List Value} {Q : Value → Shared → Prop} (ho : h1.heap.get? a = some (seqObj "list" vs.toArray 0)) (hv : ∀ v ∈ vs, ∃ q, PairV h1.heap v q) (hL : vs.length ≤ sizeLine)
    (h : ∀ out : Array Value, out.toList.Perm vs → SortedQ (out.toList.map (dq h1.heap)) → Q .none { h1 with heap := sortedHeap h1.heap a vs out }) :
    wpAny (model prog w) A (call (.builtin "list.sort") [.ref a]) Q E h1 := by
  obtain ⟨fs, ht⟩ := tupsOf_pairs hv
  refine wpAny_call_entry slot_list_sort ⟨_, ho, rfl⟩ entry_list_sort (PyProof.Rows.G.list_sort_tups ho ht (fun v hm => let ⟨q, p⟩ := hv v hm; ⟨_, p.key⟩) hL fun st' b1 b2 _ => ⟨_, rfl, h _ ?_ ?_⟩) (args_list_sort _)
  · rw [Array.toList_map]
    have z : ((arrOf st').toList.map (·.2)).Perm ((pairsOf vs).toList.map (·.2)) := (Array.perm_iff_toList_perm.mp b1).map _
    rw [pairsOf_toList] at z
    have e : (vs.zip vs).map (fun x : Value × Value => x.2) = vs := List.map_snd_zip (Nat.le_refl _)
    rw [e] at z
    exact z
  · have mem : ∀ p ∈ (arrOf st').toList, p.1 = p.2 ∧ p.1 ∈ vs := fun p hp => by
      have z : p ∈ (pairsOf vs).toList := (Array.perm_iff_toList_perm.mp b1).mem_iff.mp hp
      rw [pairsOf_toList] at z
      exact mem_zip_self z
    have sz : (arrOf st').size = (pairsOf vs).size := b1.size_eq
    unfold SortedQ
    rw [Array.toList_map, List.map_map, List.pairwise_map, List.pairwise_iff_getElem]
    intro i j hi hj hij
    have k := b2 i j (Nat.le_of_lt hij) (by rw [← sz]; rw [Array.length_toList] at hj; exact hj)
    have kk : ∀ (m : Nat) (hm : m < (arrOf st').toList.length), KK (PyProof.Rows.G.tupKindC h1.heap shp) (arrOf st') m = kq (dq h1.heap ((arrOf st').toList[m]).2) := fun m hm => by
      have hm2 : m < (arrOf st').size := by rw [Array.length_toList] at hm; exact hm
      have e1 : (arrOf st')[m]? = some ((arrOf st').toList[m]) := by
        rw [← Array.getElem?_toList, List.getElem?_eq_getElem hm]
      obtain ⟨m1, m2⟩ := mem _ (List.getElem_mem hm)
      obtain ⟨q, p⟩ := hv _ m2
      unfold KK
      rw [e1]
      show (PyProof.Rows.G.tupKeyC h1.heap shp ((arrOf st').toList[m]).1).getD _ = _
      rw [p.key]
      rw [← m1, p.dq]
      rfl
    rw [kk i hi, kk j hj] at k
    exact k
/-- sorted of anything whose items are collected as pairs -/
theorem sorted_pairs {x : Value} {vs : List Value} {Q : Value → Shared → Prop} (hv : ∀ v ∈ vs, ∃ q, PairV s.heap v q) (hL : vs.length ≤ sizeLine)
    (hcol : ∀ (R : List Value → Shared → Prop), (∀ us s1, us.Perm vs → (∀ b o, s.heap.get? b = some o → s1.heap.get? b = some o) → s1.gens = s.gens → s1.os = s.os → R us s1) → wpAny (model prog w) A.in1 (collect x) R E s)
    (h : ∀ (out : Array Value) (h1 : Heap) (s2 : Shared) (p : Addr) (c : Nat), out.toList.Perm vs → SortedQ (out.toList.map (dq s.heap)) → (∀ b o, s.heap.get? b = some o → h1.get? b = some o) → (∀ b o, h1.get? b = some o → s2.heap.get? b = some o) → p = h1.objs.size → s2.heap.get? p = some (seqObj "list" out c) →
      s2.gens = s.gens → s2.os = s.os → Q (.ref p) s2) : wpAny (model prog w) A (call (.builtin "sorted") [x]) Q E s := by
  refine Calls.call_function_entry kind_sorted plain_sorted entry_sorted (args_sorted1 _) ?_
  unfold Builtin.«sorted»
  refine wpAny_bind (m := checkCount "sorted" 1 1 _) (wpAny_pure (wpAny_bind (hcol _ fun us s1 pm k1 g1 o1 => ?_)))
  have hl1 : us.length ≤ sizeLine := by rw [pm.length_eq]; exact hL
  refine wpAny_bind (wpAny_newList ?_ hl1)
  have hoL : (s1.heap.push (seqObj "list" us.toArray 0)).get? s1.heap.objs.size = some (seqObj "list" us.toArray 0) := Heap.get?_push_size _ rfl
  have k2 : ∀ b o, s.heap.get? b = some o → (s1.heap.push (seqObj "list" us.toArray 0)).get? b = some o := fun b o e => Heap.get?_push_of_some _ (k1 b o e)
  have hv2 : ∀ v ∈ us, ∃ q, PairV (s1.heap.push (seqObj "list" us.toArray 0)) v q := fun v hm => let ⟨q, p⟩ := hv v (pm.mem_iff.mp hm); ⟨q, p.keep k2⟩
  refine wpAny_bind (wpAny_holding (sort_pairs (h1 := { s1 with heap := s1.heap.push (seqObj "list" us.toArray 0) }) hoL hv2 hl1 fun out a1 a2 => wpAny_pure ?_))
  obtain ⟨c, hc⟩ := sortedHeap_at (vs := us) (out := out) hoL
  refine ⟨_, rfl, h out s1.heap _ s1.heap.objs.size c (a1.trans pm) ?_ k1 (fun b o e => ?_) rfl hc g1 o1⟩
  · have e : out.toList.map (dq s.heap) = out.toList.map (dq (s1.heap.push (seqObj "list" us.toArray 0))) := by
      refine List.map_congr_left fun v hm => ?_
      obtain ⟨q, p⟩ := hv v (pm.mem_iff.mp (a1.mem_iff.mp hm))
      rw [p.dq, (p.keep k2).dq]
    rw [e]
    exact a2
  · have lt1 := Heap.lt_size e
    show (sortedHeap (s1.heap.push (seqObj "list" us.toArray 0)) s1.heap.objs.size us out).get? b = some o
    rw [sortedHeap_old (Nat.ne_of_lt lt1) (by rw [size_push']; exact Nat.lt_succ_of_lt lt1)]
    exact Heap.get?_push_of_some _ e
end
section
variable {X : Cx} {pins : List (Addr × Obj)} {σ : L2.St} {H : Hp} {s : Shared}
theorem pairV_of {v : V} {q : Int × Int} (I : Inv X pins σ H s) (h : Rt H v q) : ∃ t, v = .ref t ∧ PairV s.heap (.ref t) q := by
  obtain ⟨p, rfl, h⟩ := h
  obtain ⟨_, its, rv, o, ho, hc, n, hd⟩ := (show ObjOk X.prog X.w H s.heap p (.tup [.int q.1, .int q.2]) from I.hok p _ h)
  obtain ⟨u1, u2, rfl, x1, x2⟩ := vals2 rv
  obtain ⟨t1, rfl⟩ := x1
  obtain ⟨t2, rfl⟩ := x2
  exact ⟨p, rfl, p, o, _, n, t1, t2, rfl, ho, hc, hd, rfl⟩
/-- a bunch of values that are the pairs l, told to the layer -/
theorem rts_of_out {vs : List Value} {out : Array Value} (I : Inv X pins σ H s) (hv : ∀ v ∈ vs, ∃ t q, v = Value.ref t ∧ Rt H (.ref t) q) (pm : out.toList.Perm vs) :
    Rts H (out.toList.map bkV) (out.toList.map (dq s.heap)) ∧ Vals (out.toList.map bkV) out.toList := by
  have h2 : ∀ v ∈ out.toList, ∃ t q, v = Value.ref t ∧ Rt H (.ref t) q := fun v hm => hv v (pm.mem_iff.mp hm)
  refine ⟨⟨by rw [List.length_map, List.length_map], fun i q e => ?_⟩, bkV_vals fun u hu => let ⟨t, _, e, _⟩ := h2 u hu; ⟨t, e⟩⟩
  rw [List.getElem?_map] at e
  cases hi : out.toList[i]? with
  | none => rw [hi] at e; cases e
  | some v =>
    rw [hi] at e
    have e' : dq s.heap v = q := Option.some.inj e
    obtain ⟨t, q2, rfl, r⟩ := h2 v (List.mem_of_getElem? hi)
    obtain ⟨t2, et, pv2⟩ := pairV_of I r
    cases et
    rw [pv2.dq] at e'
    subst e'
    exact ⟨.ref t, by rw [List.getElem?_map, hi]; rfl, r⟩
def rSortTup (K : PySem.W.Frag) : List V → Hp → VK → Prop := fun vs H Q => ∃ (a : Addr) (xs : List V) (l : List (Int × Int)), vs = [.ref a] ∧ SqT K H a xs ∧ Rts H xs l ∧
  ∀ (ys : List V) (l' : List (Int × Int)) (p : Addr), l'.Perm l → SortedQ l' → Rts H ys l' → H p = none → Q (.ref p) (upd H p (.lst ys))
theorem cr_sortTup : CallR X (.builtin "sorted") (rSortTup X.K) := by
  intro pins s σ H vs us Q I r h
  obtain ⟨a, xs, l, rfl, hs, hr, q⟩ := h
  rw [Vals.ref1 r]
  obtain ⟨its, rv, pt, hz⟩ := I.tuple hs
  obtain ⟨o, ho, hc, n, hd⟩ := id (show s.heap.IsTuple a its.toArray from pt)
  have lenE : its.length = l.length := by rw [← rv.length, hr.1]
  have each : ∀ (i : Nat) (v : Value), its[i]? = some v → ∃ t q, l[i]? = some q ∧ v = .ref t ∧ Rt H (.ref t) q := fun i v hv => by
    have hi : i < l.length := by rw [← lenE]; exact (List.getElem?_eq_some_iff.mp hv).1
    obtain ⟨x, hx, rx⟩ := hr.2 i _ (List.getElem?_eq_getElem hi)
    obtain ⟨u, hu, ru⟩ := rv.get hx
    rw [hv] at hu
    cases hu
    obtain ⟨t, et, pv2⟩ := pairV_of I rx
    subst et
    exact ⟨t, _, List.getElem?_eq_getElem hi, ru, rx⟩
  have hv : ∀ v ∈ its, ∃ t q, v = Value.ref t ∧ Rt H (.ref t) q := fun v hm => by
    obtain ⟨i, hi⟩ := List.getElem?_of_mem hm
    obtain ⟨t, q2, _, e, rt⟩ := each i v hi
    exact ⟨t, q2, e, rt⟩
  have hdq : its.map (dq s.heap) = l := by
    refine List.ext_getElem? fun i => ?_
    rw [List.getElem?_map]
    cases hi : its[i]? with
    | none =>
      have : l[i]? = none := by
        rw [List.getElem?_eq_none_iff] at hi ⊢
        omega
      rw [this]
      rfl
    | some v =>
      obtain ⟨t, q2, hl, rfl, rt⟩ := each i v hi
      obtain ⟨t2, et, pv2⟩ := pairV_of I rt
      cases et
      rw [hl]
      show some (dq s.heap (.ref t)) = some q2
      rw [pv2.dq]
  refine sorted_pairs (vs := its) (fun v hm => ?_) (by rw [← rv.length]; exact hz) (fun R hR => ?_) fun out h1 s2 p c pm so k0 k hp hg g1 o1 => ?_
  · obtain ⟨t, q2, rfl, rt⟩ := hv v hm
    obtain ⟨t2, et, pv2⟩ := pairV_of I rt
    cases et
    exact ⟨q2, pv2⟩
  · refine PySem.wpAny_collect_seq a (.inr rfl) ho hc hd (fun h' hk => ?_) (by rw [List.size_toArray, ← rv.length]; exact hz)
    exact hR _ _ (by rw [List.toList_toArray]) hk rfl rfl
  · obtain ⟨R1, R2⟩ := rts_of_out I hv pm
    have I1 : Inv X pins σ H { s with heap := h1 } := I.kept (t' := s.toks) k0
    have hp1 : h1.objs.size ≤ p := Nat.le_of_eq hp.symm
    have hn : H p = none := I1.hok.fresh hp1
    have hlen : (out.toList.map bkV).length ≤ sizeLine := by
      rw [List.length_map, pm.length_eq, ← rv.length]
      exact hz
    have J : Inv X pins σ (upd H p (.lst (out.toList.map bkV))) { ({ s with heap := h1 } : Shared) with heap := s2.heap, gens := s2.gens, drawn := s2.drawn, toks := s2.toks } :=
      I1.call (ch := []) (Un.laid k hp1 hn) (I1.hok.laid k hp1 ⟨hlen, out.toList, c, R2, hg⟩) (by rw [g1]; exact I.bare) (fun _ z => nomatch z)
    have e : s2 = { s with heap := s2.heap, gens := s2.gens, drawn := s2.drawn, toks := s2.toks } := by
      cases s2
      cases s
      cases o1
      rfl
    rw [e]
    refine ⟨.ref p, _, J, rfl, q _ _ p ?_ so R1 hn⟩
    rw [← hdq]
    exact pm.map _
def rSortSet (P : Program) (w : World) : List V → Hp → VK → Prop := fun vs H Q => ∃ (a : Addr) (L : List (Addr × List Int)), vs = [.ref a] ∧ H a = some (SetTO P w a L) ∧ (∀ p ∈ L, ∃ q : Int × Int, p.2 = [q.1, q.2] ∧ H p.1 = some (.tup [.int q.1, .int q.2])) ∧
  ∀ (ys : List V) (l' : List (Int × Int)) (p : Addr), (l'.map fun q => [q.1, q.2]).Perm (L.map (·.2)) → (L.map (·.2)).Nodup → SortedQ l' → Rts H ys l' → H p = none → Q (.ref p) (upd H p (.lst ys))
theorem cr_sortSet (hcm : X.calm = true) : CallR X (.builtin "sorted") (rSortSet X.prog X.w) := by
  intro pins s σ H vs us Q I r h
  obtain ⟨a, L, rfl, ha, hL, q⟩ := h
  have R0 : SetT0 X.prog X.w s.heap a L := (I.hok a _ ha).1
  have hK : ∀ p ∈ L, SqT X.K H p.1 (p.2.map V.int) := fun p hp => by
    obtain ⟨q2, e, ht⟩ := hL p hp
    rw [e]
    exact SqT.is ht
  obtain ⟨es, ep, t, R⟩ := R0.full fun p hp => I.isT (hK p hp)
  rw [Vals.ref1 r]
  obtain ⟨o, ho, hex, hd⟩ := R.ob
  have few := R.few
  have hes : es.toList.map (·.2) = L.map fun q => Value.ref q.1 := by
    rw [R.rows]
    unfold rowsOf
    rw [List.map_map]
    rfl
  have hv : ∀ v ∈ L.map (fun q => Value.ref q.1), ∃ t q, v = Value.ref t ∧ Rt H (.ref t) q := fun v hm => by
    obtain ⟨p, hp, rfl⟩ := List.mem_map.mp hm
    obtain ⟨q2, e, ht⟩ := hL p hp
    exact ⟨p.1, q2, rfl, p.1, rfl, ht⟩
  have szl : L.length ≤ sizeLine := by rw [sizeLine_eq]; omega
  have hdq : (L.map (fun q => Value.ref q.1)).map (fun v => [(dq s.heap v).1, (dq s.heap v).2]) = L.map (·.2) := by
    rw [List.map_map]
    refine List.map_congr_left fun p hp => ?_
    obtain ⟨q2, e, ht⟩ := hL p hp
    obtain ⟨t2, et, pv2⟩ := pairV_of I (⟨p.1, rfl, ht⟩ : Rt H (.ref p.1) q2)
    cases et
    show [(dq s.heap (.ref p.1)).1, (dq s.heap (.ref p.1)).2] = p.2
    rw [pv2.dq, e]
  refine sorted_pairs (vs := L.map fun q => Value.ref q.1) (fun v hm => ?_) (by rw [List.length_map]; exact szl) (fun R' hR => ?_) fun out h1 s2 p c pm so k0 k hp hg g1 o1 => ?_
  · obtain ⟨t, q2, rfl, rt⟩ := hv v hm
    obtain ⟨t2, et, pv2⟩ := pairV_of I rt
    cases et
    exact ⟨q2, pv2⟩
  · refine collect_set (A := X.A.in1) (I.ok.hd hcm) ⟨o, ho, hex.1, hd⟩ R.fits (by rw [R.size]; unfold scanBound; omega) R.tab.ris R.led fun s1 us k1 _ g1 o1 pm => ?_
    rw [hes] at pm
    exact hR us s1 pm k1 g1 o1
  · obtain ⟨R1, R2⟩ := rts_of_out I hv pm
    have I1 : Inv X pins σ H { s with heap := h1 } := I.kept (t' := s.toks) k0
    have hp1 : h1.objs.size ≤ p := Nat.le_of_eq hp.symm
    have hn : H p = none := I1.hok.fresh hp1
    have hlen : (out.toList.map bkV).length ≤ sizeLine := by
      rw [List.length_map, pm.length_eq, List.length_map]
      exact szl
    have J : Inv X pins σ (upd H p (.lst (out.toList.map bkV))) { ({ s with heap := h1 } : Shared) with heap := s2.heap, gens := s2.gens, drawn := s2.drawn, toks := s2.toks } :=
      I1.call (ch := []) (Un.laid k hp1 hn) (I1.hok.laid k hp1 ⟨hlen, out.toList, c, R2, hg⟩) (by rw [g1]; exact I.bare) (fun _ z => nomatch z)
    have e : s2 = { s with heap := s2.heap, gens := s2.gens, drawn := s2.drawn, toks := s2.toks } := by
      cases s2
      cases s
      cases o1
      rfl
    rw [e]
    refine ⟨.ref p, _, J, rfl, q _ _ p ?_ R.nd so R1 hn⟩
    rw [← hdq, List.map_map]
    exact pm.map (fun v => [(dq s.heap v).1, (dq s.heap v).2])
end
end R31
namespace R31
open PySem PySem.Spec PyProof.Rows L2
/-! ### texts by their codes -/
def S (l : List Nat) : Str := ⟨l.toArray⟩
theorem S_list (l : List Nat) : (S l).cps.toList = l := by simp [S]
theorem S_size (l : List Nat) : (S l).cps.size = l.length := by simp [S]
theorem S_len (l : List Nat) : (S l).length = l.length := S_size l
theorem S_app (a b : List Nat) : S a ++ S b = S (a ++ b) := by
  show Str.mk (a.toArray ++ b.toArray) = Str.mk (a ++ b).toArray
  simp
theorem S_inj {a b : List Nat} (h : S a = S b) : a = b := by
  have := congrArg (fun z : Str => z.cps.toList) h
  simpa [S] using this
theorem S_dec (a b : List Nat) : decide (V.str (S a) = V.str (S b)) = decide (a = b) := by
  by_cases h : a = b
  · rw [decide_eq_true h, h]
    exact decide_eq_true rfl
  · rw [decide_eq_false h]
    exact decide_eq_false fun z => h (S_inj (V.str.inj z))
theorem S_at {l : List Nat} {i : Nat} : (S l).cps[i]? = l[i]? := by simp [S]
theorem c0 : Str.ofString "0" = S [48] := by decide +kernel
theorem c1 : Str.ofString "1" = S [49] := by decide +kernel
theorem cu : Str.ofString "u" = S [117] := by decide +kernel
theorem cd : Str.ofString "d" = S [100] := by decide +kernel
theorem cdu : Str.ofString "du" = S [100, 117] := by decide +kernel
theorem cud : Str.ofString "ud" = S [117, 100] := by decide +kernel
theorem c01 : Str.ofString "01" = S [48, 49] := by decide +kernel
theorem cnil : Str.ofString "" = S [] := by decide +kernel
theorem cut_take {l : List Nat} {i : Nat} (h : i ≤ l.length) : cutS (S l) none (some (i : Int)) = S (l.take i) := by
  unfold cutS
  rw [S_list, S_len, HT.sIx_none, HT.sIx_nat, Nat.min_eq_left h]
  rfl
theorem cut_drop {l : List Nat} {i : Nat} (h : i ≤ l.length) : cutS (S l) (some (i : Int)) none = S (l.drop i) := by
  unfold cutS
  rw [S_list, S_len, HT.sIx_none, HT.sIx_nat, Nat.min_eq_left h]
  show S (List.take (l.length - i) (l.drop i)) = _
  rw [List.take_of_length_le (by rw [List.length_drop]; exact Nat.le_refl _)]
/-! ### memories -/
def mems : Nat → List (List Nat)
  | 0 => [[]]
  | n + 1 => (mems n).flatMap fun m => [m ++ [48], m ++ [49]]
def findLast (c : Nat) (m : List Nat) : Nat → Option Nat
  | 0 => none
  | k + 1 => if m[k]? = some c then some k else findLast c m k
def stepL (up : Bool) (m : List Nat) : List Nat :=
  match findLast (if up then 48 else 49) m m.length with
  | none => m
  | some i => m.take i ++ [if up then 49 else 48] ++ m.drop (i + 1)
def lett (up : Bool) : Nat := if up then 117 else 100
def idxs (c : Nat) (m : List Nat) : List Nat := (List.range m.length).filter fun i => decide (m[i]? = some c)
def placeL (c : Nat) (m : List Nat) (k : Nat) : Nat := match (idxs c m)[k]? with
  | some j => j
  | none => m.length
def holdsL (m : List Nat) (h l : Nat) : Bool := decide (placeL 49 m l < placeL 48 m (m.length - h))
theorem mems_step : ∀ n ≤ 5, ∀ m ∈ mems n, ∀ up : Bool, stepL up m ∈ mems n := by decide +kernel
theorem mems_len : ∀ n ≤ 5, ∀ m ∈ mems n, m.length = n := by decide +kernel
theorem rfind_fact : ∀ n ≤ 5, ∀ m ∈ mems n, ∀ c ∈ [48, 49], Txt.rfind (S m) (S [c]) = match findLast c m m.length with
  | none => -1
  | some i => (i : Int) := by decide +kernel
theorem findLast_lt {c : Nat} {m : List Nat} : ∀ {k i : Nat}, findLast c m k = some i → i < k ∧ i < m.length
  | 0, i, h => by cases h
  | k + 1, i, h => by
    unfold findLast at h
    by_cases e : m[k]? = some c
    · rw [if_pos e] at h
      cases h
      exact ⟨Nat.lt_succ_self _, (List.getElem?_eq_some_iff.mp e).1⟩
    · rw [if_neg e] at h
      obtain ⟨h1, h2⟩ := findLast_lt h
      exact ⟨Nat.lt_succ_of_lt h1, h2⟩
theorem small9 {n : Nat} (h : n ≤ 1000) : n ≤ sizeLine := Nat.le_of_lt (small1000 h)
/-! ### promises -/
def spStep : Sp := fun vs H Q _ => ∃ (n : Nat) (m : List Nat) (up : Bool), vs = [.str (S m), .str (S [lett up])] ∧ n ≤ 5 ∧ m ∈ mems n ∧ ∀ H', Keep H H' → Q (.str (S (stepL up m))) H'
def spPlace : Sp := fun vs H Q _ => ∃ (m : List Nat) (c k : Nat), vs = [.str (S m), .str (S [c]), .int ((k : Int) + 1)] ∧ m.length ≤ 5 ∧ ∀ H', Keep H H' → Q (.int (placeL c m k : Nat)) H'
def spHolds : Sp := fun vs H Q _ => ∃ (m : List Nat) (p : Addr) (h l : Nat), vs = [.str (S m), .ref p] ∧ H p = some (.tup [.int (h : Nat), .int (l : Nat)]) ∧ m.length ≤ 5 ∧ l < h ∧ h ≤ m.length ∧ ∀ H', Keep H H' → Q (.bl (holdsL m h l)) H'
section
variable {P : Program} {w : World} {K : PySem.W.Frag} {mg : Str → Option Value} {base : Heap} {f : Addr} {fd : FuncData}
theorem ok_step (D : Def K mg "step" s_step ["memory", "letter"] f fd) : Callee P w K mg base 1 "step" ["memory", "letter"] spStep := by
  refine D.ok sc_step (fun vs H Q E h => ?_) (fun cdv A outer s H vs Q E hr h => ?_)
  · obtain ⟨n, m, up, rfl, _⟩ := h
    rfl
  obtain ⟨n, m, up, rfl, hn, hm, k⟩ := h
  have nd := sc_step.nd
  have len := mems_len n hn m hm
  refine ⟨_, (pss_cons (ps_asg (pe_ifExp (pt_cmpR op_eq (pv 1) pe_str (nomark _)) (pe_tup (pa_cons pe_str (pa_cons pe_str pa_nil))) (pe_tup (pa_cons pe_str (pa_cons pe_str pa_nil)))) (pg_tup rfl (pgs_cons (pg_name (i := 2) nd rfl (Or.inl rfl)) (pgs_cons (pg_name (i := 3) nd rfl (Or.inl rfl)) pgs_nil))))
    (pss_cons (ps_set (i := 4) nd rfl (Or.inl rfl) (pe_bm PySem.F.plainAttrs_str PySem.F.slot_str_rfind PySem.F.type_str_rfind mt_rfind (pv 0) (pa_cons (pv 2) pa_nil)))
    (pss_one (ps_ret (pe_ifExp (pt_cmpR op_lt (pv 4) pe_int (nomark _)) (pv 0) (pe_op op_add_str (pe_op op_add_str (pe_slice sl_str (pv 0) po_none (po_some (pv 4))) (pv 3)) (pe_slice sl_str (pv 0) (po_some (pe_op op_add (pv 4) pe_int)) po_none))))))), ?_⟩
  refine ⟨_, rfl, rfl, _, rfl, ?_⟩
  rw [cu, S_dec]
  have fin : ∀ (H1 : Hp) (c c' : Nat), c ∈ [48, 49] → (if up then 48 else 49) = c → (if up then 49 else 48) = c' → Keep H H1 → ∀ y4, 
      (tSeq (tAsg (tBM K "str" (fun x xs H Q => ∃ a b, x = .str a ∧ xs = [.str b] ∧ Q (.int (Txt.rfind a b)) H) (tVar 0) (tCons (tVar 2) tNil)) (gName 4)) (tRet (tIf (tTest (tOp (rI0 fun i j => .bl (decide (i < j))) (tVar 4) (tC (.int 0)))) (tVar 0)
        (tOp (fun x y H Q => ∃ i j, x = .str i ∧ y = .str j ∧ i.length + j.length ≤ sizeLine ∧ Q (.str (i ++ j)) H) (tOp (fun x y H Q => ∃ i j, x = .str i ∧ y = .str j ∧ i.length + j.length ≤ sizeLine ∧ Q (.str (i ++ j)) H) (tSl rSlS (tVar 0) tNoPart (tPart (tVar 4))) (tVar 3))
          (tSl rSlS (tVar 0) (tPart (tOp (rI0 fun i j => .int (i + j)) (tVar 4) (tC (.int 1)))) tNoPart)))))
        { nx := fun _ H' => Q .non H', rt := Q } [some (.str (S m)), some (.str (S [lett up])), some (.str (S [c])), some (.str (S [c'])), y4] H1 := by
    intro H1 c c' hc e1 e2 k1 y4
    refine ⟨_, rfl, ?_, _, rfl, _, _, rfl, rfl, ?_⟩
    · exact rfl
    rw [rfind_fact n hn m hm c hc]
    refine ⟨_, rfl, _, _, rfl, rfl, _, rfl, ?_⟩
    cases hf : findLast c m m.length with
    | none =>
      refine iteT ⟨_, rfl, ?_⟩
      have e : stepL up m = m := by
        unfold stepL
        rw [e1, hf]
      have q := k H1 k1
      rw [e] at q
      exact q
    | some i =>
      obtain ⟨_, hi⟩ := findLast_lt hf
      have lt : ¬ ((i : Nat) : Int) < 0 := by omega
      show if decide (((i : Nat) : Int) < 0) = true then _ else _
      rw [decide_eq_false lt]
      refine iteF ⟨_, rfl, _, rfl, _, rfl, _, rfl, small9 (by rw [S_len]; omega), _, rfl, _, _, rfl, rfl, ?_, _, rfl, _, rfl, _, _, rfl, rfl, _, rfl, _, rfl, small9 (by rw [S_len]; omega), _, _, rfl, rfl, ?_, ?_⟩
      · rw [cut_take (Nat.le_of_lt hi), S_len, S_len, List.length_take]
        exact small9 (by simp; omega)
      · have a1 : ((i : Nat) : Int) + 1 = ((i + 1 : Nat) : Int) := by omega
        rw [a1, cut_take (Nat.le_of_lt hi), cut_drop hi, S_app, S_len, S_len]
        exact small9 (by simp; omega)
      · have a1 : ((i : Nat) : Int) + 1 = ((i + 1 : Nat) : Int) := by omega
        show Q (.str (cutS (S m) none (some ((i : Nat) : Int)) ++ S [c'] ++ cutS (S m) (some (((i : Nat) : Int) + 1)) none)) H1
        rw [a1, cut_take (Nat.le_of_lt hi), cut_drop hi, S_app, S_app]
        have e : stepL up m = m.take i ++ [c'] ++ m.drop (i + 1) := by
          unfold stepL
          rw [e1, hf, e2]
        have q := k H1 k1
        rw [e] at q
        exact q
  cases up with
  | true =>
    refine iteT ⟨by show 2 ≤ sizeLine; decide, fun T hT => ?_⟩
    rw [c0, c1] at *
    refine ⟨T, _, rfl, SqT.is upd_same, rfl, _, _, rfl, _, _, rfl, rfl, ?_⟩
    exact fin _ 48 49 (by decide) rfl rfl (Keep.new hT) none
  | false =>
    refine iteF ⟨by show 2 ≤ sizeLine; decide, fun T hT => ?_⟩
    rw [c0, c1] at *
    refine ⟨T, _, rfl, SqT.is upd_same, rfl, _, _, rfl, _, _, rfl, rfl, ?_⟩
    exact fin _ 49 48 (by decide) rfl rfl (Keep.new hT) none
theorem ok_place (D : Def K mg "place" s_place ["memory", "sign", "number"] f fd) (Z : Zs mg) : Callee P w K mg base 1 "place" ["memory", "sign", "number"] spPlace := by
  refine D.ok sc_place (fun vs H Q E h => ?_) (fun cdv A outer s H vs Q E hr h => ?_)
  · obtain ⟨m, c, k, rfl, _⟩ := h
    rfl
  obtain ⟨m, c, k, rfl, hm, q⟩ := h
  have nd := sc_place.nd
  refine ⟨_, (pss_cons (ps_setLc (i := 3) (own := [("at", 4), ("one", 5)]) (g := gTup K 2 (gCons (gName 4) (gCons (gName 5) gNil))) (by rfl) nd rfl rfl (sw_true rfl rfl rfl (by decide +kernel)) (pi_enumS (by rfl) Z.z_enumerate (pa_cons (pv 0) pa_nil)) (blkOk_by (own := [("at", 4), ("one", 5)]) (N := nm_place) (sc := defScope s_place) (by decide +kernel)) (fun _ _ _ _ _ => (pg_tup rfl (pgs_cons (pg_name (i := 4) nd rfl (Or.inl rfl)) (pgs_cons (pg_name (i := 5) nd rfl (Or.inl rfl)) pgs_nil)))) (fun _ _ _ _ _ => pts_one (pt_cmpR op_eq (pv 5) (pv 1) (nomark _))) (fun _ _ _ _ _ => (pv 4)))
    (pss_one (ps_ret (pe_ifExp (pt_cmpR op_le (pv 2) (pe_callB call_len (by rfl) Z.z_len (by decide +kernel) (pa_cons (pv 3) pa_nil)) (nomark _)) (pe_ix ix_list (pv 3) (pe_op op_sub (pv 2) pe_int) (fun _ _ => rfl)) (pe_callB call_len_str (by rfl) Z.z_len (by decide +kernel) (pa_cons (pv 0) pa_nil)))))), ?_⟩
  refine ⟨_, rfl, S m, rfl, fun D hD => ?_⟩
  refine lc_it walk_enumS (fun i H' => Keep H H' ∧ H' D = some (.lst (((List.range i).filter fun j => decide (m[j]? = some c)).map fun j => V.int ((j : Nat) : Int)))) ⟨Keep.new hD, upd_same⟩ (fun _ _ _ _ => trivial) ?_ ?_
  · rintro i x H1 H2 hi ⟨kH, hL⟩ ⟨T, c2, rfl, hT, rfl, hc⟩
    rw [S_at] at hc
    have nDT : D ≠ T := ne_of_none hL hT
    have hL2 : upd H1 T (.tup [.int ((i : Nat) : Int), .str ⟨#[c2]⟩]) D = some (.lst (((List.range i).filter fun j => decide (m[j]? = some c)).map fun j => V.int ((j : Nat) : Int))) := by
      rw [upd_ne nDT]
      exact hL
    have kH2 := kH.newT (o := .tup [.int ((i : Nat) : Int), .str ⟨#[c2]⟩]) hT
    refine ⟨T, _, rfl, SqT.is upd_same, rfl, _, _, rfl, _, _, rfl, rfl, rfl, _, rfl, _, rfl, rfl, _, rfl, ?_⟩
    have e1 : (V.str ⟨#[c2]⟩ : V) = V.str (S [c2]) := rfl
    rw [e1, S_dec]
    have fl : (List.range (i + 1)).filter (fun j => decide (m[j]? = some c)) = (List.range i).filter (fun j => decide (m[j]? = some c)) ++ (if c2 = c then [i] else []) := by
      rw [List.range_succ, List.filter_append]
      congr 1
      by_cases h : c2 = c
      · rw [if_pos h, List.filter_cons, if_pos (by rw [hc, h]; exact decide_eq_true rfl)]
        rfl
      · rw [if_neg h, List.filter_cons, if_neg (by rw [hc]; simpa using h)]
        rfl
    rw [fl]
    by_cases h : c2 = c
    · have e : decide ([c2] = [c]) = true := decide_eq_true (by rw [h])
      rw [e, if_pos h]
      refine iteT ⟨_, rfl, _, hL2, ?_, kH2.mut hD, ?_⟩
      · rw [List.length_map]
        refine small1000 ?_
        have := List.length_filter_le (fun j => decide (m[j]? = some c)) (List.range i)
        rw [List.length_range] at this
        rw [S_size] at hi
        omega
      · rw [upd_same, List.map_append]
        rfl
    · have e : decide ([c2] = [c]) = false := decide_eq_false fun z => h (List.cons.inj z).1
      rw [e, if_neg h, List.append_nil]
      exact iteF ⟨kH2, hL2⟩
  · rintro H1 ⟨kH, hL⟩
    rw [S_size] at hL
    have hL' : H1 D = some (.lst ((idxs c m).map fun j => V.int ((j : Nat) : Int))) := hL
    have hlen : ((idxs c m).map fun j => V.int ((j : Nat) : Int)).length = (idxs c m).length := List.length_map _
    refine ⟨_, rfl, _, rfl, _, _, rfl, .inl ⟨_, SqL.is hL', rfl⟩, _, _, rfl, rfl, _, rfl, ?_⟩
    rw [hlen]
    have qq := q H1 kH
    unfold placeL at qq
    cases hg : (idxs c m)[k]? with
    | some j =>
      rw [hg] at qq
      have hk : k < (idxs c m).length := (List.getElem?_eq_some_iff.mp hg).1
      rw [decide_eq_true (show (k : Int) + 1 ≤ ((idxs c m).length : Int) by omega)]
      have a1 : (k : Int) + 1 - 1 = ((k : Nat) : Int) := by omega
      refine iteT ⟨_, rfl, _, rfl, _, _, rfl, rfl, D, _, _, V.int ((j : Nat) : Int), rfl, rfl, SqL.is hL', ?_, qq⟩
      rw [a1]
      exact atI_nat (by rw [List.getElem?_map, hg]; rfl)
    | none =>
      rw [hg] at qq
      have hk : (idxs c m).length ≤ k := List.getElem?_eq_none_iff.mp hg
      rw [decide_eq_false (show ¬ (k : Int) + 1 ≤ ((idxs c m).length : Int) by omega)]
      refine iteF ⟨_, rfl, _, rfl, small9 (by rw [S_len]; omega), ?_⟩
      rw [S_len]
      exact qq
theorem ok_holds (D : Def K mg "holds" s_holds ["memory", "relay"] f fd) (Z : Zs mg) (C_place : Callee P w K mg base 1 "place" ["memory", "sign", "number"] spPlace) : Callee P w K mg base 2 "holds" ["memory", "relay"] spHolds := by
  refine D.ok sc_holds (fun vs H Q E h => ?_) (fun cdv A outer s H vs Q E hr h => ?_)
  · obtain ⟨m, p, h, l, rfl, _⟩ := h
    rfl
  obtain ⟨m, p, h, l, rfl, hp, hm, h1, h2, q⟩ := h
  have nd := sc_holds.nd
  refine ⟨_, (pss_cons (ps_asg (pv 1) (pg_tup rfl (pgs_cons (pg_name (i := 2) nd rfl (Or.inl rfl)) (pgs_cons (pg_name (i := 3) nd rfl (Or.inl rfl)) pgs_nil))))
    (pss_one (ps_ret (pe_cmpR op_lt (pe_cl C_place (hr.mono (by decide)) (by rfl) (pa_cons (pv 0) (pa_cons pe_str (pa_cons (pe_op op_add (pv 3) pe_int) pa_nil)))) (pe_cl C_place (hr.mono (by decide)) (by rfl) (pa_cons (pv 0) (pa_cons pe_str (pa_cons (pe_op op_add (pe_op op_sub (pe_callB call_len_str (by rfl) Z.z_len (by decide +kernel) (pa_cons (pv 0) pa_nil)) (pv 2)) pe_int) pa_nil)))) (nomark _))))), ?_⟩
  refine ⟨_, rfl, p, _, rfl, SqT.is hp, rfl, _, _, rfl, _, _, rfl, rfl, ?_⟩
  have e2 : (m.length : Int) - (h : Int) + 1 = ((m.length - h : Nat) : Int) + 1 := by omega
  refine ⟨_, rfl, _, rfl, _, _, rfl, rfl, m, 49, l, by rw [c1]; rfl, hm, fun H1 k1 => ?_⟩
  refine ⟨_, rfl, _, rfl, _, rfl, small9 (by rw [S_len]; omega), _, rfl, _, _, rfl, rfl, _, _, rfl, rfl, m, 48, m.length - h, by rw [c0, S_len]; show [V.str (S m), V.str (S [48]), V.int ((m.length : Int) - (h : Int) + 1)] = _; rw [e2], hm, fun H2 k2 => ?_⟩
  refine ⟨_, _, rfl, rfl, ?_⟩
  have qq := q H2 (k1.trans k2)
  unfold holdsL at qq
  have e : decide (((placeL 49 m l : Nat) : Int) < ((placeL 48 m (m.length - h) : Nat) : Int)) = decide (placeL 49 m l < placeL 48 m (m.length - h)) := by
    by_cases z : placeL 49 m l < placeL 48 m (m.length - h)
    · rw [decide_eq_true z, decide_eq_true (by omega)]
    · rw [decide_eq_false z, decide_eq_false (by omega)]
  show Q (.bl (decide (((placeL 49 m l : Nat) : Int) < ((placeL 48 m (m.length - h) : Nat) : Int)))) H2
  rw [e]
  exact qq
end
end R31
namespace R31
open PySem PySem.Spec PyProof.Rows L2
/-! ### kinds -/
theorem q_true {Q : VK} {H : Hp} {p : Prop} [Decidable p] (h : p) (q : Q (.bl true) H) : Q (.bl (decide p)) H := by
  rw [decide_eq_true h]
  exact q
theorem q_false {Q : VK} {H : Hp} {p : Prop} [Decidable p] (h : ¬ p) (q : Q (.bl false) H) : Q (.bl (decide p)) H := by
  rw [decide_eq_false h]
  exact q
theorem isi_of {K : PySem.W.Frag} {H : Hp} {Q : VK} {x : V} {t T : String} {b : Bool} (ty : TyX K H x (.type t)) (h : kitB t T = some b) (q : Q (.bl b) H) : rIsi K [x, .ty T] H Q :=
  ⟨x, .ty T, .type t, .type T, b, rfl, ClsV.ty T, ty, kit_ty h, q⟩
theorem ty_tup {K : PySem.W.Frag} {H : Hp} {a : Addr} {xs : List V} (h : H a = some (.tup xs)) : TyX K H (.ref a) (.type "tuple") := .base (.tup h)
theorem ty_int {K : PySem.W.Frag} {H : Hp} {i : Int} : TyX K H (.int i) (.type "int") := .base (.int i)
theorem ty_str {K : PySem.W.Frag} {H : Hp} {z : Str} : TyX K H (.str z) (.type "str") := .base (.str z)
/-- a def whose code object is known -/
theorem Def.okC {P : Program} {w : World} {K : PySem.W.Frag} {mg : Str → Option Value} {base : Heap} {x : Str} {st : Stmt} {N ps : List Str} {k : Nat} {sp : Sp} {f c : Addr} {fd : FuncData} (D : Def K mg x st ps f fd) (hc : fd.code = .ref c) (S : FnScope N ps (defScope st))
    (len : ∀ vs H Q E, sp vs H Q E → vs.length = ps.length)
    (hbody : ∀ (cdv : Value) (A : Around) (outer : List Env) (s : Shared) (H : Hp) (vs : List V) (Q : VK) (E : XK), cdv = .ref c → Room k (A.deeper (envOfC x (defScope st) s.heap.objs.size f cdv)) → sp vs H Q E →
      ∃ t, PSs (cxOf CX0 P w K mg base N x (defScope st) f cdv A outer s H E).nox (defBody st) t ∧ t { nx := fun _ H' => Q .non H', rt := Q } (start N vs) H) : Callee P w K mg base (k + 1) x ps sp := by
  have fn := D.fn
  obtain ⟨⟨oc, od, kV, doc, pm, an, cdv, ct, osl, e, lk, hcd⟩, kp⟩ := fn
  refine ⟨f, fd, ?_, D.bd, kp, D.mg⟩
  subst e
  have hcv : cdv = .ref c := hc
  refine fn_of lk hcd S len fun A outer s H vs Q E hr hsp => ?_
  obtain ⟨t, h, q⟩ := hbody cdv A outer s H vs Q E hcv hr hsp
  exact ⟨t, h.nox, q⟩
/-! ### banks -/
abbrev Wt := Nat × Nat × (Int × Int)
def W3 (H : Hp) (x : V) (w : Wt) : Prop := ∃ t r, x = .ref t ∧ H t = some (.tup [.int (w.1 : Nat), .int (w.2.1 : Nat), r]) ∧ Rt H r w.2.2
theorem W3.mono {H H' : Hp} {x : V} {w : Wt} (k : KeepT H H') (h : W3 H x w) : W3 H' x w := by
  obtain ⟨t, r, e, h1, h2⟩ := h
  exact ⟨t, r, e, k _ _ h1, h2.mono k⟩
def W3s (H : Hp) (xs : List V) (ws : List Wt) : Prop := xs.length = ws.length ∧ ∀ (i : Nat) (w : Wt), ws[i]? = some w → ∃ x, xs[i]? = some x ∧ W3 H x w
theorem W3s.mono {H H' : Hp} {xs : List V} {ws : List Wt} (k : KeepT H H') (h : W3s H xs ws) : W3s H' xs ws := ⟨h.1, fun i w e => let ⟨x, e1, e2⟩ := h.2 i w e; ⟨x, e1, e2.mono k⟩⟩
def BankAt (H : Hp) (v : V) (n : Nat) (ws : List Wt) : Prop := ∃ b wt xs, v = .ref b ∧ H b = some (.tup [.int (n : Nat), .ref wt]) ∧ H wt = some (.tup xs) ∧ W3s H xs ws
theorem BankAt.mono {H H' : Hp} {v : V} {n : Nat} {ws : List Wt} (k : KeepT H H') (h : BankAt H v n ws) : BankAt H' v n ws := by
  obtain ⟨b, wt, xs, e, h1, h2, h3⟩ := h
  exact ⟨b, wt, xs, e, k _ _ h1, k _ _ h2, h3.mono k⟩
def GoodW (n : Nat) (w : Wt) : Prop := w.2.1 < w.1 ∧ w.1 ≤ n ∧ Low w.2.2 ∧ w.2.2.1 ≠ 0 ∧ w.2.2.1.natAbs ≤ 31 ∧ w.2.2.2 ≤ 6
def relLt (w w' : Wt) : Prop := w.1 < w'.1 ∨ (w.1 = w'.1 ∧ w.2.1 < w'.2.1)
structure GoodB (n : Nat) (ws : List Wt) : Prop where
  lo : 1 ≤ n
  hi : n ≤ 5
  few : ws.length ≤ 15
  each : ∀ w ∈ ws, GoodW n w
  asc : ∀ (i : Nat) (w w' : Wt), ws[i]? = some w → ws[i + 1]? = some w' → relLt w w'
theorem GoodW.bd {n : Nat} {w : Wt} (g : GoodW n w) : Bd 6 w.2.2 := by
  obtain ⟨_, _, l, _, a, b⟩ := g
  have l1 := l.1
  refine ⟨?_, l1, ?_⟩
  · show _ < 64
    omega
  · show _ < 64
    omega
/-! ### promises -/
def spIsIn : Sp := fun vs H Q _ => ∃ i a b : Int, vs = [.int i, .int a, .int b] ∧ a ≤ i ∧ i ≤ b ∧ Q (.bl true) H
def spIsRelay : Sp := fun vs H Q _ => ∃ (n : Nat) (p : Addr) (h l : Nat), vs = [.int (n : Nat), .ref p] ∧ H p = some (.tup [.int (h : Nat), .int (l : Nat)]) ∧ l < h ∧ h ≤ n ∧ Q (.bl true) H
def spIsRatio (Pr : Addr) : Sp := fun vs H Q _ => ∃ (v : V) (q : Int × Int), vs = [v] ∧ Rt H v q ∧ Low q ∧ GxR.TabG H Pr ∧ ∀ H', Keep H H' → Q (.bl true) H'
def spIsWeight (Pr : Addr) : Sp := fun vs H Q _ => ∃ (v : V) (q : Int × Int), vs = [v] ∧ Rt H v q ∧ Low q ∧ q.1 ≠ 0 ∧ q.1.natAbs ≤ 31 ∧ q.2 ≤ 6 ∧ GxR.TabG H Pr ∧ ∀ H', Keep H H' → Q (.bl true) H'
def spIsWeighted (Pr : Addr) : Sp := fun vs H Q _ => ∃ (n : Nat) (x : V) (w : Wt), vs = [.int (n : Nat), x] ∧ W3 H x w ∧ GoodW n w ∧ GxR.TabG H Pr ∧ ∀ H', Keep H H' → Q (.bl true) H'
def spNeedBank (Pr : Addr) : Sp := fun vs H Q _ => ∃ (v : V) (n : Nat) (ws : List Wt), vs = [v] ∧ BankAt H v n ws ∧ GoodB n ws ∧ GxR.TabG H Pr ∧ ∀ H', Keep H H' → Q .non H'
def spIsInput (Pi : Addr) : Sp := fun vs H Q _ => ∃ us : List Bool, vs = [.str (S (us.map lett))] ∧ us.length ≤ 200 ∧ GxR.TabG H Pi ∧ ∀ H', Keep H H' → Q (.bl true) H'
def spNeedInput (Pi : Addr) : Sp := fun vs H Q _ => ∃ us : List Bool, vs = [.str (S (us.map lett))] ∧ us.length ≤ 200 ∧ GxR.TabG H Pi ∧ ∀ H', Keep H H' → Q .non H'
section
variable {P : Program} {w : World} {K : PySem.W.Frag} {mg : Str → Option Value} {base : Heap} {f c Pr : Addr} {fd : FuncData}
theorem ok_is_in (D : Def K mg "is_in" s_is_in ["value", "least", "most"] f fd) (Z : Zs mg) : Callee P w K mg base 1 "is_in" ["value", "least", "most"] spIsIn := by
  refine D.ok sc_is_in (fun vs H Q E h => ?_) (fun cdv A outer s H vs Q E hr h => ?_)
  · obtain ⟨i, a, b, rfl, _⟩ := h
    rfl
  obtain ⟨i, a, b, rfl, h1, h2, q⟩ := h
  have nd := sc_is_in.nd
  refine ⟨_, (pss_one (ps_ret (pe_and (pe_callB call_isi (by rfl) Z.z_isinstance (by decide +kernel) (pa_cons (pv 0) (pa_cons (pe_bltn (v := .ty "int") (by rfl) Z.z_int (by decide +kernel) rfl) pa_nil))) (pe_and (pe_not (pe_callB call_isi (by rfl) Z.z_isinstance (by decide +kernel) (pa_cons (pv 0) (pa_cons (pe_bltn (v := .ty "bool") (by rfl) Z.z_bool (by decide +kernel) rfl) pa_nil)))) (pe_one (pe_chain op_le op_le (pv 1) (pv 0) (pv 2))))))), ?_⟩
  refine ⟨_, rfl, _, _, _, _, true, rfl, .ty _, ty_int, kit_ty (by decide +kernel), ⟨true, rfl, iteT ⟨_, rfl, _, _, _, _, false, rfl, .ty _, ty_int, kit_ty (by decide +kernel), ⟨false, rfl, true, rfl, iteT ⟨_, rfl, _, rfl, _, _, rfl, rfl, _, rfl, ?_⟩⟩⟩⟩⟩
  rw [decide_eq_true h1]
  refine iteT ⟨_, rfl, _, _, rfl, rfl, ?_⟩
  exact q_true (Q := Q) h2 q
theorem ok_is_relay (D : Def K mg "is_relay" s_is_relay ["span", "value"] f fd) (Z : Zs mg) (C_is_in : Callee P w K mg base 1 "is_in" ["value", "least", "most"] spIsIn) : Callee P w K mg base 2 "is_relay" ["span", "value"] spIsRelay := by
  refine D.ok sc_is_relay (fun vs H Q E h => ?_) (fun cdv A outer s H vs Q E hr h => ?_)
  · obtain ⟨n, p, h, l, rfl, _⟩ := h
    rfl
  obtain ⟨n, p, h, l, rfl, hp, h1, h2, q⟩ := h
  have nd := sc_is_relay.nd
  refine ⟨_, (pss_cons (ps_if (PW.pt (pw_or (pt_not (pt_val (pe_callB call_isi (by rfl) Z.z_isinstance (by decide +kernel) (pa_cons (pv 1) (pa_cons (pe_bltn (v := .ty "tuple") (by rfl) Z.z_tuple (by decide +kernel) rfl) pa_nil))))) (pw_or (pt_cmpR op_ne (pe_callB call_len (by rfl) Z.z_len (by decide +kernel) (pa_cons (pv 1) pa_nil)) pe_int (nomark _)) (pw_or1 (pt_not (pt_val (pe_cl C_is_in (hr.mono (by decide)) (by rfl) (pa_cons (pe_ix ix_tup (pv 1) pe_int (fun _ _ => rfl)) (pa_cons pe_int (pa_cons (pv 0) pa_nil)))))))))) (pss_one (ps_ret pe_bl)) pss_nil)
    (pss_one (ps_ret (pe_cl C_is_in (hr.mono (by decide)) (by rfl) (pa_cons (pe_ix ix_tup (pv 1) pe_int (fun _ _ => rfl)) (pa_cons pe_int (pa_cons (pe_op op_sub (pe_ix ix_tup (pv 1) pe_int (fun _ _ => rfl)) pe_int) pa_nil))))))), ?_⟩
  refine ⟨_, rfl, _, _, _, _, true, rfl, .ty _, (ty_tup hp), kit_ty (by decide +kernel), ⟨true, rfl, iteF ⟨_, rfl, _, _, rfl, .inr ⟨_, SqT.is hp, rfl⟩, rfl, _, rfl, iteNS rfl ?_⟩⟩⟩
  refine ⟨_, rfl, p, _, 0, _, rfl, rfl, SqT.is hp, rfl, _, rfl, _, _, _, rfl, by omega, by omega, true, rfl, iteF ?_⟩
  exact ⟨_, rfl, p, _, 1, _, rfl, rfl, SqT.is hp, rfl, _, rfl, p, _, 0, _, rfl, rfl, SqT.is hp, rfl, _, _, rfl, rfl, _, _, _, rfl, by omega, by omega, q⟩
theorem ok_is_ratio (D : Def K mg "is_ratio" s_is_ratio ["value"] f fd) (hc : fd.code = .ref c) (TB : GxR.TabB base mg c Pr) (Z : Zs mg) : Callee P w K mg base 1 "is_ratio" ["value"] (spIsRatio Pr) := by
  refine D.okC hc sc_is_ratio (fun vs H Q E h => ?_) (fun cdv A outer s H vs Q E hcv hr h => ?_)
  · obtain ⟨v, q, rfl, _⟩ := h
    rfl
  obtain ⟨v, q, rfl, ⟨p, rfl, hp⟩, lo, tg, k⟩ := h
  have nd := sc_is_ratio.nd
  refine ⟨_, (pss_cons (ps_if (PW.pt (pw_or (pt_not (pt_val (pe_callB call_isi (by rfl) Z.z_isinstance (by decide +kernel) (pa_cons (pv 0) (pa_cons (pe_bltn (v := .ty "tuple") (by rfl) Z.z_tuple (by decide +kernel) rfl) pa_nil))))) (pw_or1 (pt_cmpR op_ne (pe_callB call_len (by rfl) Z.z_len (by decide +kernel) (pa_cons (pv 0) pa_nil)) pe_int (nomark _))))) (pss_one (ps_ret pe_bl)) pss_nil)
    (pss_cons (ps_if (pt_not (pt_truth (pe_allT hr (by rfl) Z.z_all (by decide +kernel) TB hcv (by exact ⟨rfl, rfl, by decide +kernel, rfl, rfl, fun y hy e => absurd e ((show ∀ z ∈ _, z.2 ≠ NameKind.free by decide +kernel) y hy)⟩) (pv 0) (elt_int rfl rfl (by decide) rfl rfl rfl Z.z_isinstance Z.z_int Z.z_bool) (fun _ => rfl)) (by intro _; rfl))) (pss_one (ps_ret pe_bl)) pss_nil)
    (pss_one (ps_ret (pe_and (pe_cmpR op_gt (pe_ix ix_tup (pv 0) pe_int (fun _ _ => rfl)) pe_int (nomark _)) (pe_one (pe_cmpR op_eq (pe_callBfun cr_gcd (by rfl) Z.z_gcd (pa_cons (pe_ix ix_tup (pv 0) pe_int (fun _ _ => rfl)) (pa_cons (pe_ix ix_tup (pv 0) pe_int (fun _ _ => rfl)) pa_nil))) pe_int (nomark _)))))))), ?_⟩
  refine ⟨_, rfl, _, _, _, _, true, rfl, .ty _, (ty_tup hp), kit_ty (by decide +kernel), ⟨true, rfl, iteF ⟨_, rfl, _, _, rfl, .inr ⟨_, SqT.is hp, rfl⟩, rfl, _, rfl, iteNS rfl ?_⟩⟩⟩
  refine ⟨_, rfl, p, [q.1, q.2], rfl, SqT.is hp, tg, fun H1 tb => ⟨true, rfl, iteF ?_⟩⟩
  have k1 : Keep H H1 := Keep.tabbed tg tb
  have hp1 := k1.tup hp
  refine ⟨_, rfl, p, _, 1, _, rfl, rfl, SqT.is hp1, rfl, _, _, rfl, rfl, _, rfl, ?_⟩
  rw [decide_eq_true lo.1]
  refine iteT ⟨_, rfl, p, _, 0, _, rfl, rfl, SqT.is hp1, rfl, _, rfl, p, _, 1, _, rfl, rfl, SqT.is hp1, rfl, _, _, rfl, rfl, ?_⟩
  rw [lo.2]
  exact k H1 k1
theorem ok_is_weight (D : Def K mg "is_weight" s_is_weight ["value"] f fd) (Z : Zs mg) (C_is_ratio : Callee P w K mg base 1 "is_ratio" ["value"] (spIsRatio Pr)) : Callee P w K mg base 2 "is_weight" ["value"] (spIsWeight Pr) := by
  refine D.ok sc_is_weight (fun vs H Q E h => ?_) (fun cdv A outer s H vs Q E hr h => ?_)
  · obtain ⟨v, q, rfl, _⟩ := h
    rfl
  obtain ⟨v, q, rfl, ⟨p, rfl, hp⟩, lo, n0, n31, b6, tg, k⟩ := h
  have nd := sc_is_weight.nd
  refine ⟨_, (pss_one (ps_ret (pe_and (pe_cl C_is_ratio (hr.mono (by decide)) (by rfl) (pa_cons (pv 0) pa_nil)) (pe_and (pe_chain op_lt op_le pe_int (pe_callB call_abs (by rfl) Z.z_abs (by decide +kernel) (pa_cons (pe_ix ix_tup (pv 0) pe_int (fun _ _ => rfl)) pa_nil)) (pe_gi (by rfl) Z.z_MOST_TOP)) (pe_one (pe_cmpR op_le (pe_ix ix_tup (pv 0) pe_int (fun _ _ => rfl)) (pe_gi (by rfl) Z.z_MOST_BOTTOM) (nomark _))))))), ?_⟩
  refine ⟨_, rfl, _, q, rfl, ⟨p, rfl, hp⟩, lo, tg, fun H1 k1 => ⟨true, rfl, iteT ?_⟩⟩
  have hp1 := k1.tup hp
  refine ⟨_, rfl, p, _, 0, _, rfl, rfl, SqT.is hp1, rfl, q.1, rfl, _, _, rfl, rfl, _, rfl, ?_⟩
  have a0 : (0 : Int) < if q.1 < 0 then -q.1 else q.1 := by split <;> omega
  have a1 : (if q.1 < 0 then -q.1 else q.1) ≤ 1000000 := by split <;> omega
  rw [decide_eq_true a0]
  refine iteT ⟨_, _, rfl, rfl, true, ?_, iteT ⟨_, rfl, p, _, 1, _, rfl, rfl, SqT.is hp1, rfl, _, _, rfl, rfl, ?_⟩⟩
  · exact congrArg V.bl (decide_eq_true a1)
  · exact q_true (Q := Q) (show q.2 ≤ 1000 by omega) (k H1 k1)
theorem ok_is_weighted (D : Def K mg "is_weighted" s_is_weighted ["span", "value"] f fd) (Z : Zs mg) (C_is_relay : Callee P w K mg base 2 "is_relay" ["span", "value"] spIsRelay) (C_is_weight : Callee P w K mg base 2 "is_weight" ["value"] (spIsWeight Pr)) :
    Callee P w K mg base 3 "is_weighted" ["span", "value"] (spIsWeighted Pr) := by
  refine D.ok sc_is_weighted (fun vs H Q E h => ?_) (fun cdv A outer s H vs Q E hr h => ?_)
  · obtain ⟨n, x, wt, rfl, _⟩ := h
    rfl
  obtain ⟨n, x, wt, rfl, ⟨t, r, rfl, ht, hR⟩, ⟨g1, g2, g3, g4, g5, g6⟩, tg, k⟩ := h
  have nd := sc_is_weighted.nd
  refine ⟨_, (pss_cons (ps_if (PW.pt (pw_or (pt_not (pt_val (pe_callB call_isi (by rfl) Z.z_isinstance (by decide +kernel) (pa_cons (pv 1) (pa_cons (pe_bltn (v := .ty "tuple") (by rfl) Z.z_tuple (by decide +kernel) rfl) pa_nil))))) (pw_or1 (pt_cmpR op_ne (pe_callB call_len (by rfl) Z.z_len (by decide +kernel) (pa_cons (pv 1) pa_nil)) pe_int (nomark _))))) (pss_one (ps_ret pe_bl)) pss_nil)
    (pss_one (ps_ret (pe_and (pe_cl C_is_relay (hr.mono (by decide)) (by rfl) (pa_cons (pv 0) (pa_cons (pe_slice sl_tupA (pv 1) po_none (po_some pe_int)) pa_nil))) (pe_one (pe_cl C_is_weight (hr.mono (by decide)) (by rfl) (pa_cons (pe_ix ix_tup (pv 1) pe_int (fun _ _ => rfl)) pa_nil))))))), ?_⟩
  refine ⟨_, rfl, _, _, _, _, true, rfl, .ty _, (ty_tup ht), kit_ty (by decide +kernel), ⟨true, rfl, iteF ⟨_, rfl, _, _, rfl, .inr ⟨_, SqT.is ht, rfl⟩, rfl, _, rfl, iteNS rfl ?_⟩⟩⟩
  refine ⟨_, rfl, _, rfl, 2, rfl, t, _, rfl, SqT.is ht, fun z => absurd z.2 (show ¬ (HT.sIx 3 3 (some 2) = 3) by decide), fun _ p hp => ?_⟩
  refine ⟨n, p, wt.1, wt.2.1, rfl, upd_same, g1, g2, true, rfl, iteT ?_⟩
  have k1 : Keep H (upd H p (.tup (cutV [V.int (wt.1 : Nat), V.int (wt.2.1 : Nat), r] none (some 2)))) := Keep.new hp
  exact ⟨_, rfl, t, _, 2, _, rfl, rfl, SqT.is (k1.tup ht), rfl, r, wt.2.2, rfl, hR.mono k1.t, g3, g4, g5, g6, k1.tab tg, fun H2 k2 => k H2 (k1.trans k2)⟩
theorem ok_need_bank (D : Def K mg "need_bank" s_need_bank ["bank"] f fd) (Z : Zs mg) (C_is_in : Callee P w K mg base 1 "is_in" ["value", "least", "most"] spIsIn) (C_is_weighted : Callee P w K mg base 3 "is_weighted" ["span", "value"] (spIsWeighted Pr)) :
    Callee P w K mg base 4 "need_bank" ["bank"] (spNeedBank Pr) := by
  refine D.ok sc_need_bank (fun vs H Q E h => ?_) (fun cdv A outer s H vs Q E hr h => ?_)
  · obtain ⟨v, n, ws, rfl, _⟩ := h
    rfl
  obtain ⟨v, n, ws, rfl, ⟨b, wt, xs, rfl, hb, hw, hW⟩, g, tg, k⟩ := h
  have nd := sc_need_bank.nd
  have glo := g.lo
  have ghi := g.hi
  refine ⟨_, (pss_cons (ps_if (PW.pt (pw_or (pt_not (pt_val (pe_callB call_isi (by rfl) Z.z_isinstance (by decide +kernel) (pa_cons (pv 0) (pa_cons (pe_bltn (v := .ty "tuple") (by rfl) Z.z_tuple (by decide +kernel) rfl) pa_nil))))) (pw_or (pt_cmpR op_ne (pe_callB call_len (by rfl) Z.z_len (by decide +kernel) (pa_cons (pv 0) pa_nil)) pe_int (nomark _)) (pw_or1 (pt_not (pt_val (pe_cl C_is_in (hr.mono (by decide)) (by rfl) (pa_cons (pe_ix ix_tup (pv 0) pe_int (fun _ _ => rfl)) (pa_cons pe_int (pa_cons (pe_gi (by rfl) Z.z_MOST_SPAN) pa_nil)))))))))) (pss_one ps_never) pss_nil)
    (pss_cons (ps_if (pt_not (pt_val (pe_callB call_isi (by rfl) Z.z_isinstance (by decide +kernel) (pa_cons (pe_ix ix_tup (pv 0) pe_int (fun _ _ => rfl)) (pa_cons (pe_bltn (v := .ty "tuple") (by rfl) Z.z_tuple (by decide +kernel) rfl) pa_nil))))) (pss_one ps_never) pss_nil)
    (pss_one (ps_for PassesOwn.never rfl (pi_enumT (by rfl) Z.z_enumerate (pa_cons (pe_ix ix_tup (pv 0) pe_int (fun _ _ => rfl)) pa_nil)) (pg_tup rfl (pgs_cons (pg_name (i := 1) nd rfl (Or.inl rfl)) (pgs_cons (pg_name (i := 2) nd rfl (Or.inl rfl)) pgs_nil))) (pss_one (ps_if (PW.pt (pw_or (pt_not (pt_val (pe_cl C_is_weighted (hr.mono (by decide)) (by rfl) (pa_cons (pe_ix ix_tup (pv 0) pe_int (fun _ _ => rfl)) (pa_cons (pv 2) pa_nil))))) (pw_or1 (PW.pt (pw_and (pt_cmpR op_gt (pv 1) pe_int (nomark _)) (pw_and1 (pt_cmpR (op_geT hr.units0) (pe_slice sl_tupA (pe_ix ix_tup (pe_ix ix_tup (pv 0) pe_int (fun _ _ => rfl)) (pe_op op_sub (pv 1) pe_int) (fun _ _ => rfl)) po_none (po_some pe_int)) (pe_slice sl_tupA (pv 2) po_none (po_some pe_int)) (nomark _)))))))) (pss_one ps_never) pss_nil)))))), ?_⟩
  refine ⟨_, rfl, _, _, _, _, true, rfl, .ty _, ty_tup hb, kit_ty (by decide +kernel), true, rfl, iteF ⟨_, rfl, _, _, rfl, .inr ⟨_, SqT.is hb, rfl⟩, rfl, _, rfl, iteNS rfl ?_⟩⟩
  refine ⟨_, rfl, b, _, 0, _, rfl, rfl, SqT.is hb, rfl, _, _, _, rfl, by omega, by omega, true, rfl, iteF ?_⟩
  refine ⟨_, rfl, b, _, 1, _, rfl, rfl, SqT.is hb, rfl, _, _, _, _, true, rfl, .ty _, ty_tup hw, kit_ty (by decide +kernel), true, rfl, iteF ?_⟩
  refine ⟨_, rfl, b, _, 1, _, rfl, rfl, SqT.is hb, rfl, wt, xs, rfl, SqT.is hw, for_it walk_enumT (fun i σ H' => ∃ y1 y2, σ = [some (.ref b), y1, y2] ∧ Keep H H') ⟨none, none, rfl, Keep.refl H⟩ (fun i σ H' _ ⟨_, _, _, kH⟩ => SqT.is (kH.tup hw)) ?_ ?_⟩
  · rintro i x σ H1 H2 hi ⟨y1, y2, rfl, kH⟩ ⟨T, y, rfl, hT, rfl, hy⟩
    have hil : i < ws.length := by rw [← hW.1]; exact hi
    obtain ⟨y', hy', w3⟩ := hW.2 i _ (List.getElem?_eq_getElem hil)
    rw [hy] at hy'
    cases hy'
    have k2 := kH.newT (o := .tup [.int ((i : Nat) : Int), y]) hT
    have hb2 := k2.tup hb
    have hw2 := k2.tup hw
    refine ⟨T, _, rfl, SqT.is upd_same, rfl, _, _, rfl, _, _, rfl, rfl, ?_⟩
    refine ⟨_, rfl, b, _, 0, _, rfl, rfl, SqT.is hb2, rfl, _, rfl, n, y, _, rfl, w3.mono k2.t, g.each _ (List.getElem_mem hil), k2.tab tg, fun H3 k3 => ⟨true, rfl, iteF ?_⟩⟩
    have k3' := k2.trans k3
    refine ⟨_, rfl, _, _, rfl, rfl, _, rfl, ?_⟩
    by_cases h0 : (0 : Int) < ((i : Nat) : Int)
    · rw [decide_eq_true h0]
      have hi0 : 0 < i := by omega
      have a1 : ((i : Nat) : Int) - 1 = ((i - 1 : Nat) : Int) := by omega
      have him : i - 1 < ws.length := by omega
      obtain ⟨z, hz, t, r, rfl, ht, hR⟩ := hW.2 (i - 1) _ (List.getElem?_eq_getElem him)
      obtain ⟨t2, r2, rfl, ht2, hR2⟩ := w3
      have lt := g.asc (i - 1) ws[i - 1] ws[i] (List.getElem?_eq_getElem him) (by rw [show i - 1 + 1 = i by omega]; exact List.getElem?_eq_getElem hil)
      refine iteT ⟨_, rfl, b, _, 1, _, rfl, rfl, SqT.is (k3'.tup hb), rfl, _, rfl, _, _, rfl, rfl, wt, xs, ((i : Nat) : Int) - 1, .ref t, rfl, rfl, SqT.is (k3'.tup hw), ?_, 2, rfl, t, _, rfl, SqT.is (k3'.tup ht), fun z => absurd z.2 (show ¬ (HT.sIx 3 3 (some 2) = 3) by decide), fun _ p hp => ?_⟩
      · rw [a1]
        exact atI_nat hz
      have k4 := k3'.newT (o := .tup (cutV [V.int ((ws[i - 1]).1 : Nat), V.int ((ws[i - 1]).2.1 : Nat), r] none (some 2))) hp
      refine ⟨_, rfl, 2, rfl, t2, _, rfl, SqT.is (k4.tup ht2), fun z => absurd z.2 (show ¬ (HT.sIx 3 3 (some 2) = 3) by decide), fun _ p2 hp2 => ?_⟩
      have np : p ≠ p2 := fun z => by
        rw [← z, upd_same] at hp2
        cases hp2
      have k5 := k4.newT (o := .tup (cutV [V.int ((ws[i]).1 : Nat), V.int ((ws[i]).2.1 : Nat), r2] none (some 2))) hp2
      refine ⟨p, p2, (((ws[i - 1]).1 : Nat), ((ws[i - 1]).2.1 : Nat)), (((ws[i]).1 : Nat), ((ws[i]).2.1 : Nat)), rfl, rfl, SqT.is ((upd_ne np).trans upd_same), SqT.is upd_same, false, ?_, iteF ⟨_, _, rfl, k5⟩⟩
      refine congrArg V.bl ?_
      unfold lexGe
      rcases lt with c | ⟨c, c2⟩
      · rw [if_neg (by simp only; omega), decide_eq_false (by simp only; omega)]
      · rw [if_pos (by simp only; omega), decide_eq_false (by simp only; omega)]
    · rw [decide_eq_false h0]
      exact iteF (iteF ⟨_, _, rfl, k3'⟩)
  · rintro σ H1 ⟨y1, y2, rfl, kH⟩
    exact k H1 kH
end
end R31
namespace R31
open PySem PySem.Spec PyProof.Rows L2
def runL (us : List Bool) (m : List Nat) : List Nat := us.foldl (fun m u => stepL u m) m
def selW (ws : List Wt) (m : List Nat) : List (Int × Int) := (ws.filter fun w => holdsL m w.1 w.2.1).map (·.2.2)
def outL (ws : List Wt) (m : List Nat) : Int × Int := rsum (selW ws m) (0, 1)
/-- the outputs behind each letter -/
def outsL (ws : List Wt) : List Bool → List Nat → List (Int × Int)
  | [], _ => []
  | u :: us, m => outL ws (stepL u m) :: outsL ws us (stepL u m)
theorem runL_take {us : List Bool} {i : Nat} {u : Bool} (h : us[i]? = some u) (m : List Nat) : runL (us.take (i + 1)) m = stepL u (runL (us.take i) m) := by
  unfold runL
  rw [List.take_add_one, h, List.foldl_append]
  rfl
theorem runL_mem {n : Nat} (hn : n ≤ 5) : ∀ (us : List Bool) {m : List Nat}, m ∈ mems n → runL us m ∈ mems n
  | [], _, h => h
  | u :: us, _, h => runL_mem hn us (mems_step n hn _ h u)
theorem outsL_snoc {ws : List Wt} : ∀ (us : List Bool) (u : Bool) (m : List Nat), outsL ws (us ++ [u]) m = outsL ws us m ++ [outL ws (stepL u (runL us m))]
  | [], u, m => rfl
  | v :: us, u, m => by
    show outL ws (stepL v m) :: outsL ws (us ++ [u]) (stepL v m) = _
    rw [outsL_snoc us u (stepL v m)]
    rfl
theorem take_snoc {α : Type} {l : List α} {i : Nat} {x : α} (h : l[i]? = some x) : l.take (i + 1) = l.take i ++ [x] := by
  rw [List.take_add_one, h]
  rfl
theorem lett_at {us : List Bool} {i c : Nat} (h : (us.map lett)[i]? = some c) : ∃ u, us[i]? = some u ∧ c = lett u := by
  rw [List.getElem?_map] at h
  cases hu : us[i]? with
  | none => rw [hu] at h; cases h
  | some u =>
    rw [hu] at h
    exact ⟨u, rfl, (Option.some.inj h).symm⟩
theorem selW_bd {n : Nat} {ws : List Wt} (g : GoodB n ws) (m : List Nat) : (∀ q ∈ selW ws m, Bd 6 q) ∧ (selW ws m).length ≤ 15 := by
  refine ⟨fun q hq => ?_, ?_⟩
  · obtain ⟨w, hw, rfl⟩ := List.mem_map.mp hq
    exact (g.each w (List.mem_filter.mp hw).1).bd
  · unfold selW
    rw [List.length_map]
    exact Nat.le_trans (List.length_filter_le _ _) g.few
theorem outL_bd {n : Nat} {ws : List Wt} (g : GoodB n ws) (m : List Nat) : Bd 106 (outL ws m) := by
  obtain ⟨h1, h2⟩ := selW_bd g m
  refine (rsum_bd (j := 1) (selW ws m) h1 ⟨by decide, by decide, by decide⟩).mono ?_
  omega
theorem outL_low {n : Nat} {ws : List Wt} (g : GoodB n ws) (m : List Nat) : Low (outL ws m) :=
  rsum_low _ (fun q hq => ((selW_bd g m).1 q hq).2.1) ⟨by decide, by decide⟩
/-! ### promises -/
theorem mems_count : ∀ n ≤ 5, (mems n).length ≤ 32 := by decide +kernel
def memV (l : List (List Nat)) : List V := l.map fun m => V.str (S m)
def spBehind : Sp := fun vs H Q _ => ∃ (n : Nat) (m : List Nat) (us : List Bool), vs = [.str (S m), .str (S (us.map lett))] ∧ n ≤ 5 ∧ m ∈ mems n ∧ ∀ H', Keep H H' → Q (.str (S (runL us m))) H'
def spAll : Sp := fun vs H Q _ => ∃ n : Nat, vs = [.int (n : Nat)] ∧ n ≤ 5 ∧ ∀ p H', Keep H H' → H' p = some (.lst (memV (mems n))) → Q (.ref p) H'
def spOutput : Sp := fun vs H Q _ => ∃ (v : V) (n : Nat) (ws : List Wt) (m : List Nat), vs = [v, .str (S m)] ∧ BankAt H v n ws ∧ GoodB n ws ∧ m.length = n ∧ ∀ u H', Keep H H' → Rt H' u (outL ws m) → Q u H'
def spOuts : Sp := fun vs H Q _ => ∃ (v : V) (n : Nat) (ws : List Wt) (m : List Nat) (us : List Bool), vs = [v, .str (S m), .str (S (us.map lett))] ∧ BankAt H v n ws ∧ GoodB n ws ∧ m ∈ mems n ∧ us.length ≤ 200 ∧
  ∀ p xs H', Keep H H' → H' p = some (.lst xs) → Rts H' xs (outL ws m :: outsL ws us m) → Q (.ref p) H'
section
variable {P : Program} {w : World} {K : PySem.W.Frag} {mg : Str → Option Value} {base : Heap} {f c Pr Pi : Addr} {fd : FuncData}
theorem ok_is_input (D : Def K mg "is_input" s_is_input ["value"] f fd) (hc : fd.code = .ref c) (TB : GxR.TabB base mg c Pi) (Z : Zs mg) : Callee P w K mg base 1 "is_input" ["value"] (spIsInput Pi) := by
  refine D.okC hc sc_is_input (fun vs H Q E h => ?_) (fun cdv A outer s H vs Q E hcv hr h => ?_)
  · obtain ⟨us, rfl, _⟩ := h
    rfl
  obtain ⟨us, rfl, hl, tg, k⟩ := h
  have nd := sc_is_input.nd
  refine ⟨_, (pss_cons (ps_if (PW.pt (pw_or (pt_not (pt_val (pe_callB call_isi (by rfl) Z.z_isinstance (by decide +kernel) (pa_cons (pv 0) (pa_cons (pe_bltn (v := .ty "str") (by rfl) Z.z_str (by decide +kernel) rfl) pa_nil))))) (pw_or1 (pt_cmpR op_gt (pe_callB call_len_str (by rfl) Z.z_len (by decide +kernel) (pa_cons (pv 0) pa_nil)) (pe_gi (by rfl) Z.z_MOST_STEPS) (nomark _))))) (pss_one (ps_ret pe_bl)) pss_nil)
    (pss_one (ps_ret (GxR.pe_allS hr (by rfl) Z.z_all (by decide +kernel) TB hcv (by exact ⟨rfl, rfl, by decide +kernel, rfl, rfl, fun y hy e => absurd e ((show ∀ z ∈ _, z.2 ≠ NameKind.free by decide +kernel) y hy)⟩) (pv 0) (elt_in rfl rfl (by decide) (by rfl)) (fun _ => rfl))))), ?_⟩
  have h200 : ¬ ((S (us.map lett)).length : Int) > 200 := by
    rw [S_len, List.length_map]
    omega
  refine ⟨_, rfl, _, _, _, _, true, rfl, .ty _, ty_str, kit_ty (by decide +kernel), true, rfl, iteF ⟨_, rfl, _, rfl, small9 (by rw [S_len, List.length_map]; omega), _, _, rfl, rfl, _, rfl, ?_⟩⟩
  rw [decide_eq_false h200]
  refine iteF ⟨_, rfl, _, rfl, tg, fun H1 tb => ?_⟩
  have e : (S (us.map lett)).cps.toList.all (fun c => decide (c ∈ (Str.ofString "ud").cps.toList)) = true := by
    rw [S_list, cud, S_list, List.all_eq_true]
    intro z hz
    obtain ⟨u, _, rfl⟩ := List.mem_map.mp hz
    cases u <;> rfl
  rw [e]
  exact k H1 (Keep.tabbed tg tb)
theorem ok_need_input (D : Def K mg "need_input" s_need_input ["steps"] f fd) (C_is_input : Callee P w K mg base 1 "is_input" ["value"] (spIsInput Pi)) : Callee P w K mg base 2 "need_input" ["steps"] (spNeedInput Pi) := by
  refine D.ok sc_need_input (fun vs H Q E h => ?_) (fun cdv A outer s H vs Q E hr h => ?_)
  · obtain ⟨us, rfl, _⟩ := h
    rfl
  obtain ⟨us, rfl, hl, tg, k⟩ := h
  have nd := sc_need_input.nd
  refine ⟨_, (pss_one (ps_if (pt_not (pt_val (pe_cl C_is_input (hr.mono (by decide)) (by rfl) (pa_cons (pv 0) pa_nil)))) (pss_one ps_never) pss_nil)), ?_⟩
  exact ⟨_, rfl, us, rfl, hl, tg, fun H1 k1 => ⟨true, rfl, iteF (k H1 k1)⟩⟩
theorem ok_behind (D : Def K mg "behind" s_behind ["memory", "steps"] f fd) (C_step : Callee P w K mg base 1 "step" ["memory", "letter"] spStep) : Callee P w K mg base 2 "behind" ["memory", "steps"] spBehind := by
  refine D.ok sc_behind (fun vs H Q E h => ?_) (fun cdv A outer s H vs Q E hr h => ?_)
  · obtain ⟨n, m, us, rfl, _⟩ := h
    rfl
  obtain ⟨n, m, us, rfl, hn, hm, k⟩ := h
  have nd := sc_behind.nd
  refine ⟨_, (pss_cons (ps_for PassesOwn.never rfl (pi_str (pv 1)) (pg_name (i := 2) nd rfl (Or.inl rfl)) (pss_one (ps_set (i := 0) nd rfl (Or.inl rfl) (pe_cl C_step (hr.mono (by decide)) (by rfl) (pa_cons (pv 0) (pa_cons (pv 2) pa_nil))))))
    (pss_one (ps_ret (pv 0)))), ?_⟩
  refine ⟨_, rfl, _, rfl, for_it walk_str (fun i σ H' => ∃ y, σ = [some (.str (S (runL (us.take i) m))), some (.str (S (us.map lett))), y] ∧ Keep H H') ⟨none, rfl, Keep.refl H⟩ (fun _ _ _ _ _ => trivial) ?_ ?_⟩
  · rintro i x σ H1 H2 hi ⟨y, rfl, kH⟩ ⟨rfl, c, hc, rfl⟩
    rw [S_at] at hc
    obtain ⟨u, hu, rfl⟩ := lett_at hc
    refine ⟨_, rfl, _, rfl, n, _, u, rfl, hn, runL_mem hn _ hm, fun H3 k3 => ⟨some (.str ⟨#[lett u]⟩), ?_, kH.trans k3⟩⟩
    rw [runL_take hu]
    rfl
  · rintro σ H1 ⟨y, rfl, kH⟩
    rw [S_size, List.length_map, List.take_length]
    exact ⟨_, rfl, k H1 kH⟩
theorem ok_all (D : Def K mg "all_memories" s_all_memories ["span"] f fd) (Z : Zs mg) : Callee P w K mg base 1 "all_memories" ["span"] spAll := by
  refine D.ok sc_all_memories (fun vs H Q E h => ?_) (fun cdv A outer s H vs Q E hr h => ?_)
  · obtain ⟨n, rfl, _⟩ := h
    rfl
  obtain ⟨n, rfl, hn, k⟩ := h
  have nd := sc_all_memories.nd
  refine ⟨_, (pss_cons (ps_set (i := 1) nd rfl (Or.inl rfl) (pe_lst (pa_cons pe_str pa_nil)))
    (pss_cons (ps_for PassesOwn.never rfl (pi_range1 (by rfl) Z.z_range (pa_cons (pv 0) pa_nil)) (pg_name (i := 2) nd rfl (Or.inl rfl)) (pss_one (ps_setLc2 (i := 1) (own := [("memory", 3), ("sign", 4)]) (g := gName 3) (vs1 := [4]) (tt := tYes) (tt1 := tYes) (by rfl) nd rfl rfl (sw_true rfl rfl rfl (by decide +kernel)) (pi_list (pv 1)) (blkOk_by (own := [("memory", 3), ("sign", 4)]) (N := nm_all_memories) (sc := defScope s_all_memories) (by decide +kernel)) (by decide) (fun _ _ _ _ _ => (pg_name (i := 3) nd rfl (Or.inl rfl))) (fun _ _ _ _ _ => pts_nil) (fun _ _ _ _ _ => (pi_str pe_str)) (fun _ _ _ _ _ => (pg_name (i := 4) nd rfl (Or.inl rfl))) (fun _ _ _ _ _ => pts_nil) (fun _ _ _ _ _ => (pe_op op_add_str (pv 3) (pv 4))))))
    (pss_one (ps_ret (pv 1))))), ?_⟩
  refine ⟨by show 1 ≤ sizeLine; decide, fun p hp => ?_⟩
  refine ⟨_, rfl, ((n : Nat) : Int), rfl, by omega, by omega, for_it walk_range (fun i σ H' => ∃ p y2 y3 y4, σ = [some (.int (n : Nat)), some (.ref p), y2, y3, y4] ∧ Keep H H' ∧ H' p = some (.lst (memV (mems i))))
    ⟨p, none, none, none, rfl, Keep.new hp, upd_same⟩ (fun _ _ _ _ _ => trivial) ?_ ?_⟩
  · rintro i x σ H1 H2 hi ⟨q, y2, y3, y4, rfl, kH, hL⟩ ⟨rfl, rfl⟩
    have hi5 : i < n := by omega
    refine ⟨_, rfl, q, rfl, ⟨_, SqL.is hL⟩, fun D hD => ?_⟩
    have ndq : q ≠ D := ne_of_none hL hD
    have lenm : (mems i).length ≤ 32 := mems_count i (by omega)
    have hS : ∀ H', Keep H2 H' → SqL K H' q (memV (mems i)) := fun H' k' => SqL.is (k'.lst hL)
    have lenV : (memV (mems i)).length = (mems i).length := List.length_map _
    have grow : ∀ (a : Nat) (m : List Nat), (mems i)[a]? = some m → ((mems i).take (a + 1)).flatMap (fun m => [m ++ [48], m ++ [49]]) = ((mems i).take a).flatMap (fun m => [m ++ [48], m ++ [49]]) ++ [m ++ [48], m ++ [49]] := fun a m e => by
      rw [take_snoc e, List.flatMap_append]
      rfl
    have cnt : ∀ l : List (List Nat), (l.flatMap fun m => [m ++ [48], m ++ [49]]).length = 2 * l.length := fun l => by
      induction l with
      | nil => rfl
      | cons x l ih =>
        rw [List.flatMap_cons, List.length_append, ih, List.length_cons]
        show 2 + 2 * l.length = 2 * (l.length + 1)
        omega
    refine ⟨fun a r H' => r = (mems i).length - a ∧ a ≤ (mems i).length ∧ Keep H2 H' ∧ H' D = some (.lst (memV (((mems i).take a).flatMap fun m => [m ++ [48], m ++ [49]]))), ⟨_, rfl, Nat.zero_le _, Keep.new hD, upd_same⟩, ?_⟩
    rintro a r H3 ⟨rfl, ha, kD, hLD⟩
    by_cases hlt : a < (mems i).length
    · have hm : (mems i)[a]? = some (mems i)[a] := List.getElem?_eq_getElem hlt
      have hmV : (memV (mems i))[a]? = some (.str (S (mems i)[a])) := by
        unfold memV
        rw [List.getElem?_map, hm]
        rfl
      refine .inr ⟨⟨_, _, hS H3 kD, hmV⟩, fun H' => Keep H2 H' ∧ H' D = some (.lst (memV (((mems i).take (a + 1)).flatMap fun m => [m ++ [48], m ++ [49]]))), fun H' hN => ⟨(mems i).length - (a + 1), by omega, rfl, hlt, hN.1, hN.2⟩, ?_⟩
      rintro x H4 ⟨rfl, fx⟩
      have ex : x = .str (S (mems i)[a]) := Option.some.inj ((fx _ (hS _ kD)).symm.trans hmV)
      subst ex
      refine ⟨rfl, _, rfl, fun j r H' => r = 2 - j ∧ j ≤ 2 ∧ Keep H2 H' ∧ H' D = some (.lst (memV (((mems i).take a).flatMap (fun m => [m ++ [48], m ++ [49]]) ++ [(mems i)[a] ++ [48], (mems i)[a] ++ [49]].take j))), ⟨2, rfl, Nat.zero_le _, kD, by rw [List.take_zero, List.append_nil]; exact hLD⟩, ?_⟩
      rintro j r H5 ⟨rfl, hj, k5, hL5⟩
      by_cases hj2 : j < 2
      · have hc : ∃ c, [48, 49][j]? = some c ∧ [(mems i)[a] ++ [48], (mems i)[a] ++ [49]][j]? = some ((mems i)[a] ++ [c]) := by
          match j, hj2 with
          | 0, _ => exact ⟨48, rfl, rfl⟩
          | 1, _ => exact ⟨49, rfl, rfl⟩
        obtain ⟨cc, hc1, hc2⟩ := hc
        refine .inr ⟨by rw [c01]; exact hj2, fun H' => Keep H2 H' ∧ H' D = some (.lst (memV (((mems i).take a).flatMap (fun m => [m ++ [48], m ++ [49]]) ++ [(mems i)[a] ++ [48], (mems i)[a] ++ [49]].take (j + 1)))), fun H' hN => ⟨2 - (j + 1), by omega, rfl, hj2, hN.1, hN.2⟩, ?_⟩
        rintro y H6 ⟨rfl, c2, hc3, rfl⟩
        rw [c01, S_at, hc1] at hc3
        cases hc3
        have la : (mems i)[a].length = i := mems_len i (by omega) _ (List.getElem_mem hlt)
        refine ⟨rfl, _, rfl, _, rfl, _, _, rfl, rfl, ?_, _, hL5, ?_, k5.mut hD, ?_⟩
        · rw [S_len, la]
          show i + 1 ≤ sizeLine
          exact small9 (by omega)
        · unfold memV
          rw [List.length_map, List.length_append, cnt, List.length_take, List.length_take]
          refine small1000 ?_
          show 2 * min a (mems i).length + min j 2 ≤ 1000
          omega
        · rw [upd_same, take_snoc hc2]
          show some (HO.lst (memV _ ++ [V.str (S (mems i)[a] ++ S [cc])])) = _
          rw [S_app, ← List.append_assoc]
          unfold memV
          rw [List.map_append (l₂ := [_])]
          rfl
      · have e2 : j = 2 := by omega
        subst e2
        refine .inl ⟨by rw [c01]; exact Nat.le_refl _, k5, ?_⟩
        rw [grow a _ hm]
        exact hL5
    · have ea : a = (mems i).length := by omega
      subst ea
      refine .inl ⟨⟨_, hS H3 kD, by rw [lenV]; exact Nat.le_refl _⟩, ?_⟩
      refine ⟨D, _, _, _, rfl, kH.trans kD, ?_⟩
      rw [List.take_length] at hLD
      exact hLD
  · rintro σ H1 ⟨q, y2, y3, y4, rfl, kH, hL⟩
    have e : ((n : Nat) : Int).toNat = n := by omega
    rw [e] at hL
    exact ⟨_, rfl, k q H1 kH hL⟩
theorem ok_output (D : Def K mg "output_of" s_output_of ["bank", "memory"] f fd) (Z : Zs mg) (C_holds : Callee P w K mg base 2 "holds" ["memory", "relay"] spHolds) (C_sum_of : Callee P w K mg base 3 "sum_of" ["some"] (spSum K)) :
    Callee P w K mg base 4 "output_of" ["bank", "memory"] spOutput := by
  refine D.ok sc_output_of (fun vs H Q E h => ?_) (fun cdv A outer s H vs Q E hr h => ?_)
  · obtain ⟨v, n, ws, m, rfl, _⟩ := h
    rfl
  obtain ⟨v, n, ws, m, rfl, ⟨b, wt, xs, rfl, hb, hw, hW⟩, g, hm, k⟩ := h
  have nd := sc_output_of.nd
  have ghi := g.hi
  refine ⟨_, (pss_one (ps_ret (pe_cl C_sum_of (hr.mono (by decide)) (by rfl) (pa_cons (pe_lc (own := [("high", 2), ("low", 3), ("weight", 4)]) (g := gTup K 3 (gCons (gName 2) (gCons (gName 3) (gCons (gName 4) gNil)))) (by rfl) nd (pi_tup (pe_ix ix_tup (pv 0) pe_int (fun _ _ => rfl))) (blkOk_by (own := [("high", 2), ("low", 3), ("weight", 4)]) (N := nm_output_of) (sc := defScope s_output_of) (by decide +kernel)) (fun _ _ _ _ _ => (pg_tup rfl (pgs_cons (pg_name (i := 2) nd rfl (Or.inl rfl)) (pgs_cons (pg_name (i := 3) nd rfl (Or.inl rfl)) (pgs_cons (pg_name (i := 4) nd rfl (Or.inl rfl)) pgs_nil))))) (fun _ _ _ _ _ => pts_one (pt_val (pe_cl C_holds (hr.mono (by decide)) (by rfl) (pa_cons (pv 1) (pa_cons (pe_tup (pa_cons (pv 2) (pa_cons (pv 3) pa_nil))) pa_nil))))) (fun _ _ _ _ _ => (pv 4))) pa_nil)))), ?_⟩
  refine ⟨_, rfl, b, _, 1, _, rfl, rfl, SqT.is hb, rfl, wt, rfl, ⟨_, SqT.is hw⟩, fun D hD => ?_⟩
  refine lc_it (walk_tup (xs := xs)) (fun i H' => ∃ acc, Keep H H' ∧ H' D = some (.lst acc) ∧ Rts H' acc (selW (ws.take i) m)) ⟨[], Keep.new hD, upd_same, Rts.nil⟩ (fun i H' _ ⟨_, kH, _⟩ => SqT.is (kH.tup hw)) ?_ ?_
  · rintro i x H1 H2 hi ⟨acc, kH, hL, hR⟩ ⟨rfl, hx⟩
    have hil : i < ws.length := by rw [← hW.1]; exact hi
    obtain ⟨x', hx', t, r, rfl, ht, hr2⟩ := hW.2 i _ (List.getElem?_eq_getElem hil)
    rw [hx] at hx'
    cases hx'
    have g1 := g.each _ (List.getElem_mem hil)
    refine ⟨t, _, rfl, SqT.is (kH.tup ht), rfl, _, _, rfl, _, _, rfl, _, _, rfl, rfl, rfl, ?_⟩
    refine ⟨_, rfl, _, rfl, _, rfl, by show 2 ≤ sizeLine; decide, fun T hT => ?_⟩
    refine ⟨m, T, _, _, rfl, upd_same, by omega, g1.1, by rw [hm]; exact g1.2.1, fun H3 k3 => ⟨_, rfl, ?_⟩⟩
    have kT : Keep H2 (upd H2 T (.tup [.int ((ws[i]).1 : Nat), .int ((ws[i]).2.1 : Nat)])) := Keep.new hT
    have k4 := kT.trans k3
    have sel1 : selW (ws.take (i + 1)) m = selW (ws.take i) m ++ (if holdsL m (ws[i]).1 (ws[i]).2.1 = true then [(ws[i]).2.2] else []) := by
      unfold selW
      rw [take_snoc (List.getElem?_eq_getElem hil), List.filter_append, List.map_append]
      congr 1
      by_cases z : holdsL m (ws[i]).1 (ws[i]).2.1 = true
      · rw [if_pos z, List.filter_cons, if_pos z]
        rfl
      · rw [if_neg z, List.filter_cons, if_neg z]
        rfl
    rw [sel1]
    generalize holdsL m (ws[i]).1 (ws[i]).2.1 = bb
    cases bb with
    | true =>
      refine iteT ⟨_, rfl, acc, k4.lst hL, ?_, acc ++ [r], (kH.trans k4).mut hD, upd_same, ?_⟩
      · rw [hR.1]
        exact small1000 (Nat.le_trans (by
          unfold selW
          rw [List.length_map]
          exact Nat.le_trans (List.length_filter_le _ _) (by rw [List.length_take]; exact Nat.min_le_right _ _)) (Nat.le_trans g.few (by decide)))
      · exact ((hR.mono k4.t).snoc (hr2.mono (kH.trans k4).t)).mono ((KeepT.refl _).lst (k4.lst hL))
    | false =>
      rw [if_neg Bool.false_ne_true, List.append_nil]
      exact iteF ⟨acc, kH.trans k4, k4.lst hL, hR.mono k4.t⟩
  · rintro H1 ⟨acc, kH, hL, hR⟩
    have e : ws.take xs.length = ws := List.take_of_length_le (by rw [hW.1]; exact Nat.le_refl _)
    rw [e] at hR
    obtain ⟨b1, b2⟩ := selW_bd g m
    exact ⟨D, acc, selW ws m, 6, rfl, SqL.is hL, hR, b1, by omega, by decide, fun u H3 k3 hu => k u H3 (kH.trans k3) hu⟩
end
end R31
namespace R31
open PySem PySem.Spec PyProof.Rows L2
/-! ### the round that comes in the end -/
def zeros (n : Nat) : List Nat := List.replicate n 48
def itL (us : List Bool) (n : Nat) : Nat → List Nat
  | 0 => zeros n
  | k + 1 => runL us (itL us n k)
def fixL (us : List Bool) (n : Nat) : List Nat := itL us n (3 * n + 3)
theorem zeros_mem : ∀ n ≤ 5, zeros n ∈ mems n := by decide +kernel
theorem itL_mem {n : Nat} (hn : n ≤ 5) (us : List Bool) : ∀ k, itL us n k ∈ mems n
  | 0 => zeros_mem n hn
  | k + 1 => runL_mem hn us (itL_mem hn us k)
/-- tables: the images of all memories by their places -/
def stT (n : Nat) (up : Bool) : List Nat := (mems n).map fun m => (mems n).idxOf (stepL up m)
def goT (s t : List Nat) : List Nat := t.map fun i => s.getD i 0
/-- the tables of all inputs: closed under both steps -/
def grow1 (sd su : List Nat) (old new : List (List Nat)) : Nat → List (List Nat)
  | 0 => old
  | f + 1 => match new with
    | [] => old
    | t :: r =>
      let a := goT sd t
      let o1 := if old.contains a then old else old ++ [a]
      let n1 := if old.contains a then r else r ++ [a]
      let b := goT su t
      let o2 := if o1.contains b then o1 else o1 ++ [b]
      let n2 := if o1.contains b then n1 else n1 ++ [b]
      grow1 sd su o2 n2 f
def allT (n : Nat) : List (List Nat) := grow1 (stT n false) (stT n true) [List.range (2 ^ n)] [List.range (2 ^ n)] 200
def itN (t : List Nat) : Nat → Nat
  | 0 => 0
  | k + 1 => t.getD (itN t k) 0
def okT (n : Nat) (T : List (List Nat)) : Bool :=
  let sd := stT n false
  let su := stT n true
  T.contains (List.range (2 ^ n)) && T.all fun t => T.contains (goT sd t) && T.contains (goT su t) && (t.getD (itN t (3 * n + 3)) 0 == itN t (3 * n + 3))
theorem okT1 : okT 1 (allT 1) = true := by decide +kernel
theorem okT2 : okT 2 (allT 2) = true := by decide +kernel
theorem okT3 : okT 3 (allT 3) = true := by decide +kernel
theorem okT4 : okT 4 (allT 4) = true := by decide +kernel
theorem okT5 : okT 5 (allT 5) = true := by decide +kernel
end R31
namespace R31
open PySem PySem.Spec PyProof.Rows L2
theorem okT_all {n : Nat} (h1 : 1 ≤ n) (h5 : n ≤ 5) : okT n (allT n) = true := by
  match n, h1, h5 with
  | 1, _, _ => exact okT1
  | 2, _, _ => exact okT2
  | 3, _, _ => exact okT3
  | 4, _, _ => exact okT4
  | 5, _, _ => exact okT5
theorem st_fact : ∀ n ≤ 5, ∀ x ∈ mems n, ∀ u : Bool, (stT n u).getD ((mems n).idxOf x) 0 = (mems n).idxOf (stepL u x) := by decide +kernel
theorem id_fact : ∀ n ≤ 5, (mems n).map (fun m => (mems n).idxOf m) = List.range (2 ^ n) := by decide +kernel
theorem z_fact : ∀ n ≤ 5, (mems n).idxOf (zeros n) = 0 := by decide +kernel
def tabL (n : Nat) (us : List Bool) : List Nat := (mems n).map fun m => (mems n).idxOf (runL us m)
theorem idx_inj {l : List (List Nat)} {x y : List Nat} (hx : x ∈ l) (hy : y ∈ l) (h : l.idxOf x = l.idxOf y) : x = y := by
  have a := List.getElem_idxOf (List.idxOf_lt_length_of_mem hx)
  have b := List.getElem_idxOf (List.idxOf_lt_length_of_mem hy)
  rw [← a, ← b]
  congr 1
theorem tab_get {n : Nat} (us : List Bool) {x : List Nat} (hx : x ∈ mems n) : (tabL n us).getD ((mems n).idxOf x) 0 = (mems n).idxOf (runL us x) := by
  have hl := List.idxOf_lt_length_of_mem hx
  unfold tabL
  rw [List.getD_eq_getElem?_getD, List.getElem?_map, List.getElem?_eq_getElem hl, List.getElem_idxOf hl]
  rfl
theorem tab_in {n : Nat} (h1 : 1 ≤ n) (h5 : n ≤ 5) (us : List Bool) : ∀ i, i ≤ us.length → tabL n (us.take i) ∈ allT n
  | 0, _ => by
    have h := okT_all h1 h5
    unfold okT at h
    simp only [Bool.and_eq_true, List.contains_iff_mem] at h
    rw [List.take_zero]
    have e : tabL n [] = List.range (2 ^ n) := id_fact n h5
    rw [e]
    exact h.1
  | i + 1, hi => by
    have ih := tab_in h1 h5 us i (by omega)
    have hu : us[i]? = some us[i] := List.getElem?_eq_getElem hi
    have h := okT_all h1 h5
    unfold okT at h
    simp only [Bool.and_eq_true, List.all_eq_true, List.contains_iff_mem] at h
    obtain ⟨⟨a, b⟩, _⟩ := h.2 _ ih
    have e : tabL n (us.take (i + 1)) = goT (stT n us[i]) (tabL n (us.take i)) := by
      unfold tabL goT
      rw [List.map_map]
      refine List.map_congr_left fun m hm => ?_
      show (mems n).idxOf (runL (us.take (i + 1)) m) = (stT n us[i]).getD ((mems n).idxOf (runL (us.take i) m)) 0
      rw [st_fact n h5 _ (runL_mem h5 _ hm), runL_take hu]
    rw [e]
    cases us[i] with
    | false => exact a
    | true => exact b
theorem itN_eq {n : Nat} (h5 : n ≤ 5) (us : List Bool) : ∀ k, itN (tabL n us) k = (mems n).idxOf (itL us n k)
  | 0 => (z_fact n h5).symm
  | k + 1 => by
    show (tabL n us).getD (itN (tabL n us) k) 0 = _
    rw [itN_eq h5 us k, tab_get us (itL_mem h5 us k)]
    rfl
/-- the iterates stand still behind 3 n + 3 rounds -/
theorem fix_fact {n : Nat} (h1 : 1 ≤ n) (h5 : n ≤ 5) (us : List Bool) : runL us (fixL us n) = fixL us n := by
  have hin := tab_in h1 h5 us us.length (Nat.le_refl _)
  rw [List.take_length] at hin
  have h := okT_all h1 h5
  unfold okT at h
  simp only [Bool.and_eq_true, List.all_eq_true, List.contains_iff_mem] at h
  obtain ⟨_, c⟩ := h.2 _ hin
  have e := beq_iff_eq.mp c
  rw [itN_eq h5, tab_get us (itL_mem h5 us _)] at e
  exact idx_inj (runL_mem h5 us (itL_mem h5 us _)) (itL_mem h5 us _) e
theorem it_still {us : List Bool} {n k : Nat} (h : runL us (itL us n k) = itL us n k) : ∀ j, itL us n (k + j) = itL us n k
  | 0 => rfl
  | j + 1 => by
    show runL us (itL us n (k + j)) = _
    rw [it_still h j, h]
theorem fix_of {us : List Bool} {n k : Nat} (hk : k ≤ 3 * n + 3) (h : runL us (itL us n k) = itL us n k) : itL us n k = fixL us n := by
  have e := it_still h (3 * n + 3 - k)
  rw [show k + (3 * n + 3 - k) = 3 * n + 3 by omega] at e
  exact e.symm
end R31
namespace R31
open PySem PySem.Spec PyProof.Rows L2
theorem outsL_len {ws : List Wt} : ∀ (us : List Bool) (m : List Nat), (outsL ws us m).length = us.length
  | [], _ => rfl
  | u :: us, m => congrArg (· + 1) (outsL_len us (stepL u m))
def PairAt (H : Hp) (x : V) (q : Int × Int) (m : List Nat) : Prop := ∃ t r, x = .ref t ∧ H t = some (.tup [r, .str (S m)]) ∧ Rt H r q
theorem PairAt.mono {H H' : Hp} {x : V} {q : Int × Int} {m : List Nat} (k : KeepT H H') (h : PairAt H x q m) : PairAt H' x q m := by
  obtain ⟨t, r, e, h1, h2⟩ := h
  exact ⟨t, r, e, k _ _ h1, h2.mono k⟩
def lowM (o : List Nat → Int × Int) (l : List (List Nat)) (a : List Nat) : List Nat := l.foldl (fun a m => if rless (o m) (o a) then m else a) a
def highM (o : List Nat → Int × Int) (l : List (List Nat)) (a : List Nat) : List Nat := l.foldl (fun a m => if rless (o a) (o m) then m else a) a
theorem foldl_take {α β : Type} (g : β → α → β) {l : List α} {i : Nat} {x : α} (h : l[i]? = some x) (b : β) : (l.take (i + 1)).foldl g b = g ((l.take i).foldl g b) x := by
  rw [take_snoc h, List.foldl_append]
  rfl
theorem zero_first : ∀ n ≤ 5, (mems n)[0]? = some (zeros n) := by decide +kernel
/-! ### promises -/
def spRound (Pr Pi : Addr) : Sp := fun vs H Q _ => ∃ (v : V) (n : Nat) (ws : List Wt) (us : List Bool), vs = [v, .str (S (us.map lett))] ∧ BankAt H v n ws ∧ GoodB n ws ∧ us ≠ [] ∧ us.length ≤ 200 ∧ GxR.TabG H Pr ∧ GxR.TabG H Pi ∧
  ∀ p xs H', Keep H H' → H' p = some (.tup xs) → Rts H' xs (outsL ws us (fixL us n)) → Q (.ref p) H'
def spExtremes (Pr : Addr) : Sp := fun vs H Q _ => ∃ (v : V) (n : Nat) (ws : List Wt), vs = [v] ∧ BankAt H v n ws ∧ GoodB n ws ∧ GxR.TabG H Pr ∧
  ∀ p x y H', Keep H H' → H' p = some (.tup [x, y]) → PairAt H' x (outL ws (lowM (outL ws) (mems n) (zeros n))) (lowM (outL ws) (mems n) (zeros n)) →
    PairAt H' y (outL ws (highM (outL ws) (mems n) (zeros n))) (highM (outL ws) (mems n) (zeros n)) → Q (.ref p) H'
section
variable {P : Program} {w : World} {K : PySem.W.Frag} {mg : Str → Option Value} {base : Heap} {f c Pr Pi : Addr} {fd : FuncData}
theorem ok_outs (D : Def K mg "outputs_from" s_outputs_from ["bank", "memory", "steps"] f fd) (C_step : Callee P w K mg base 1 "step" ["memory", "letter"] spStep) (C_output_of : Callee P w K mg base 4 "output_of" ["bank", "memory"] spOutput) :
    Callee P w K mg base 5 "outputs_from" ["bank", "memory", "steps"] spOuts := by
  refine D.ok sc_outputs_from (fun vs H Q E h => ?_) (fun cdv A outer s H vs Q E hr h => ?_)
  · obtain ⟨v, n, ws, m, us, rfl, _⟩ := h
    rfl
  obtain ⟨v, n, ws, m, us, rfl, hB, g, hm, hus, k⟩ := h
  have nd := sc_outputs_from.nd
  have h5 := g.hi
  refine ⟨_, (pss_cons (ps_set (i := 3) nd rfl (Or.inl rfl) (pe_lst (pa_cons (pe_cl C_output_of (hr.mono (by decide)) (by rfl) (pa_cons (pv 0) (pa_cons (pv 1) pa_nil))) pa_nil)))
    (pss_cons (ps_for PassesOwn.never rfl (pi_str (pv 2)) (pg_name (i := 4) nd rfl (Or.inl rfl)) (pss_cons (ps_set (i := 1) nd rfl (Or.inl rfl) (pe_cl C_step (hr.mono (by decide)) (by rfl) (pa_cons (pv 1) (pa_cons (pv 4) pa_nil))))
    (pss_one (ps_expr (pe_bm PySem.F.plainAttrs_list PySem.F.slot_list_append PySem.F.type_list_append mt_append (pv 3) (pa_cons (pe_cl C_output_of (hr.mono (by decide)) (by rfl) (pa_cons (pv 0) (pa_cons (pv 1) pa_nil))) pa_nil))))))
    (pss_one (ps_ret (pv 3))))), ?_⟩
  refine ⟨_, rfl, _, rfl, v, n, ws, m, rfl, hB, g, mems_len n h5 m hm, fun u H1 k1 hu => ⟨by show 1 ≤ sizeLine; decide, fun p hp => ?_⟩⟩
  have hp0 : H p = none := k1.free hp
  refine ⟨_, rfl, _, rfl, for_it walk_str (fun i σ H' => ∃ xs y, σ = [some v, some (.str (S (runL (us.take i) m))), some (.str (S (us.map lett))), some (.ref p), y] ∧ Keep H H' ∧ H' p = some (.lst xs) ∧ Rts H' xs (outL ws m :: outsL ws (us.take i) m))
    ⟨[u], none, rfl, k1.newT hp, upd_same, (Rts.snoc (Rts.nil (H := H1)) hu).mono (Keep.new hp).t⟩ (fun _ _ _ _ _ => trivial) ?_ ?_⟩
  · rintro i x σ H2 H3 hi ⟨xs, y, rfl, kH, hL, hR⟩ ⟨rfl, c, hc, rfl⟩
    rw [S_at] at hc
    obtain ⟨b, hb, rfl⟩ := lett_at hc
    have hil : i < us.length := by
      rw [S_size, List.length_map] at hi
      exact hi
    refine ⟨_, rfl, _, rfl, n, _, b, rfl, h5, runL_mem h5 _ hm, fun H4 k4 => ?_⟩
    have hm2 := mems_step n h5 _ (runL_mem h5 (us.take i) hm) b
    refine ⟨_, rfl, .inl ⟨rfl, _, SqL.is (k4.lst hL)⟩, _, rfl, _, rfl, v, n, ws, _, rfl, hB.mono (kH.trans k4).t, g, mems_len n h5 _ hm2, fun u2 H5 k5 hu2 => ?_⟩
    have k45 := k4.trans k5
    refine ⟨p, xs, u2, rfl, rfl, k45.lst hL, ?_, xs ++ [u2], some (.str ⟨#[lett b]⟩), ?_, (kH.trans k45).mut hp0, upd_same, ?_⟩
    · rw [hR.1, List.length_cons, outsL_len, List.length_take]
      exact small1000 (by omega)
    · rw [runL_take hb]
      rfl
    · have e : outL ws m :: outsL ws (us.take (i + 1)) m = (outL ws m :: outsL ws (us.take i) m) ++ [outL ws (stepL b (runL (us.take i) m))] := by
        rw [take_snoc hb, outsL_snoc]
        rfl
      rw [e]
      exact ((hR.mono k45.t).snoc hu2).mono ((KeepT.refl _).lst (k45.lst hL))
  · rintro σ H2 ⟨xs, y, rfl, kH, hL, hR⟩
    rw [S_size, List.length_map, List.take_length] at hR
    exact ⟨_, rfl, k p xs H2 kH hL hR⟩
theorem cut_tail (xs : List V) : cutV xs (some 1) none = xs.drop 1 := by
  unfold cutV
  rw [show HT.sIx xs.length 0 (some 1) = min 1 xs.length from HT.sIx_nat xs.length 0 1, HT.sIx_none]
  cases xs with
  | nil => rfl
  | cons x r =>
    rw [show min 1 (x :: r).length = 1 by rw [List.length_cons]; omega]
    show List.take ((x :: r).length - 1) r = r
    rw [List.length_cons, Nat.add_sub_cancel]
    exact List.take_length
theorem Rts.tail {H : Hp} {xs : List V} {q : Int × Int} {l : List (Int × Int)} (h : Rts H xs (q :: l)) : Rts H (xs.drop 1) l := by
  refine ⟨by rw [List.length_drop, h.1, List.length_cons, Nat.add_sub_cancel], fun i p e => ?_⟩
  obtain ⟨v, e1, e2⟩ := h.2 (i + 1) p e
  exact ⟨v, by rw [List.getElem?_drop, Nat.add_comm]; exact e1, e2⟩
theorem mul_zeros : ∀ n : Nat, n ≤ 5 → Txt.mul (S [48]) (n : Int) = S (zeros n) := by decide +kernel
theorem mul_ok {n : Nat} (h : n ≤ 5) : MulOk (S [48]) (n : Int) := by
  match n, h with
  | 0, _ => exact ⟨by decide, by decide, by decide +kernel⟩
  | 1, _ => exact ⟨by decide, by decide, by decide +kernel⟩
  | 2, _ => exact ⟨by decide, by decide +kernel, by decide +kernel⟩
  | 3, _ => exact ⟨by decide, by decide +kernel, by decide +kernel⟩
  | 4, _ => exact ⟨by decide, by decide +kernel, by decide +kernel⟩
  | 5, _ => exact ⟨by decide, by decide +kernel, by decide +kernel⟩
theorem ok_round (D : Def K mg "round_outputs" s_round_outputs ["bank", "steps"] f fd) (C_need_bank : Callee P w K mg base 4 "need_bank" ["bank"] (spNeedBank Pr)) (C_need_input : Callee P w K mg base 2 "need_input" ["steps"] (spNeedInput Pi))
    (C_behind : Callee P w K mg base 2 "behind" ["memory", "steps"] spBehind) (C_outputs_from : Callee P w K mg base 5 "outputs_from" ["bank", "memory", "steps"] spOuts) (Z : Zs mg) : Callee P w K mg base 6 "round_outputs" ["bank", "steps"] (spRound Pr Pi) := by
  refine D.ok sc_round_outputs (fun vs H Q E h => ?_) (fun cdv A outer s H vs Q E hr h => ?_)
  · obtain ⟨v, n, ws, us, rfl, _⟩ := h
    rfl
  obtain ⟨v, n, ws, us, rfl, hB, g, hne, hus, tr, ti, k⟩ := h
  have nd := sc_round_outputs.nd
  have h5 := g.hi
  have h1 := g.lo
  refine ⟨_, (pss_cons (ps_expr (pe_cl C_need_bank (hr.mono (by decide)) (by rfl) (pa_cons (pv 0) pa_nil)))
    (pss_cons (ps_expr (pe_cl C_need_input (hr.mono (by decide)) (by rfl) (pa_cons (pv 1) pa_nil)))
    (pss_cons (ps_if (pt_cmpR op_eq (pv 1) pe_str (nomark _)) (pss_one ps_never) pss_nil)
    (pss_cons (ps_set (i := 2) nd rfl (Or.inl rfl) (pe_op op_mulS pe_str (pe_ix ix_tup (pv 0) pe_int (fun _ _ => rfl))))
    (pss_cons (ps_while PassesOwn.never (pt_cmpR op_ne (pe_cl C_behind (hr.mono (by decide)) (by rfl) (pa_cons (pv 2) (pa_cons (pv 1) pa_nil))) (pv 2) (nomark _)) (pss_one (ps_set (i := 2) nd rfl (Or.inl rfl) (pe_cl C_behind (hr.mono (by decide)) (by rfl) (pa_cons (pv 2) (pa_cons (pv 1) pa_nil))))))
    (pss_one (ps_ret (pe_callTy call_tuple_of (by rfl) Z.z_tuple (by decide +kernel) (pa_cons (pe_slice sl_list (pe_cl C_outputs_from (hr.mono (by decide)) (by rfl) (pa_cons (pv 0) (pa_cons (pv 2) (pa_cons (pv 1) pa_nil)))) (po_some pe_int) po_none) pa_nil))))))))), ?_⟩
  refine ⟨_, rfl, v, n, ws, rfl, hB, g, tr, fun H1 k1 => ⟨_, rfl, us, rfl, hus, k1.tab ti, fun H2 k2 => ?_⟩⟩
  have k12 := k1.trans k2
  have hB2 := hB.mono k12.t
  obtain ⟨b, wt, xs, rfl, hb, hw, hW⟩ := id hB2
  refine ⟨_, rfl, rfl, _, rfl, ?_⟩
  rw [cnil, S_dec, decide_eq_false (show ¬ us.map lett = [] from fun z => hne (List.map_eq_nil_iff.mp z))]
  refine iteF ⟨_, rfl, b, _, 0, _, rfl, rfl, SqT.is hb, rfl, S [48], (n : Int), by rw [c0], rfl, mul_ok h5, ?_⟩
  rw [mul_zeros n h5]
  refine ⟨fun m σ H' => ∃ j, j + m = 3 * n + 3 ∧ σ = [some (.ref b), some (.str (S (us.map lett))), some (.str (S (itL us n j)))] ∧ Keep H H', ⟨3 * n + 3, 0, by omega, rfl, k12⟩, ?_⟩
  rintro m σ H3 ⟨j, hj, rfl, k3⟩
  refine ⟨_, rfl, _, rfl, n, _, us, rfl, h5, itL_mem h5 us j, fun H4 k4 => ⟨_, rfl, rfl, _, rfl, ?_⟩⟩
  have k34 := k3.trans k4
  rw [S_dec]
  by_cases hf : runL us (itL us n j) = itL us n j
  · rw [decide_eq_true hf]
    have e := fix_of (show j ≤ 3 * n + 3 by omega) hf
    refine iteF ?_
    have hB4 := hB.mono k34.t
    refine ⟨_, rfl, _, rfl, _, rfl, .ref b, n, ws, _, us, rfl, hB4, g, itL_mem h5 us j, hus, fun p ys H5 k5 hp hR => ⟨1, rfl, p, ys, rfl, SqL.is hp, fun q hq => ?_⟩⟩
    rw [cut_tail]
    refine ⟨q, ys.drop 1, rfl, .inl ⟨SqL.is upd_same, fun l hl => ?_⟩⟩
    have k5' := k34.trans k5
    have k6 : Keep H (upd (upd H5 q (.lst (ys.drop 1))) l (.tup (ys.drop 1))) := (k5'.newT hq).newT hl
    refine k l (ys.drop 1) _ k6 upd_same ?_
    rw [e] at hR
    exact hR.tail.mono (((Keep.new hq).trans (Keep.new hl)).t)
  · rw [decide_eq_false hf]
    have hlt : j < 3 * n + 3 := by
      refine Nat.lt_of_not_le fun hge => hf ?_
      have : j = 3 * n + 3 := by omega
      subst this
      exact fix_fact h1 h5 us
    refine iteT ⟨fun σ' H' => σ' = [some (.ref b), some (.str (S (us.map lett))), some (.str (S (itL us n (j + 1))))] ∧ Keep H H', fun σ' H' hN => ⟨m - 1, by omega, j + 1, by omega, hN.1, hN.2⟩, ?_⟩
    exact ⟨_, rfl, _, rfl, n, _, us, rfl, h5, itL_mem h5 us j, fun H5 k5 => ⟨rfl, k34.trans k5⟩⟩
theorem ok_extremes (D : Def K mg "extremes" s_extremes ["bank"] f fd) (C_need_bank : Callee P w K mg base 4 "need_bank" ["bank"] (spNeedBank Pr)) (C_all_memories : Callee P w K mg base 1 "all_memories" ["span"] spAll)
    (C_output_of : Callee P w K mg base 4 "output_of" ["bank", "memory"] spOutput) (C_less : Callee P w K mg base 1 "less" ["one", "other"] spLess) (Z : Zs mg) : Callee P w K mg base 5 "extremes" ["bank"] (spExtremes Pr) := by
  refine D.ok sc_extremes (fun vs H Q E h => ?_) (fun cdv A outer s H vs Q E hr h => ?_)
  · obtain ⟨v, n, ws, rfl, _⟩ := h
    rfl
  obtain ⟨v, n, ws, rfl, hB, g, tr, k⟩ := h
  have nd := sc_extremes.nd
  have h5 := g.hi
  refine ⟨_, (pss_cons (ps_expr (pe_cl C_need_bank (hr.mono (by decide)) (by rfl) (pa_cons (pv 0) pa_nil)))
    (pss_cons (ps_setLc (i := 1) (own := [("memory", 5)]) (g := gName 5) (tt := tYes) (by rfl) nd rfl rfl (sw_true rfl rfl rfl (by decide +kernel)) (pi_list (pe_cl C_all_memories (hr.mono (by decide)) (by rfl) (pa_cons (pe_ix ix_tup (pv 0) pe_int (fun _ _ => rfl)) pa_nil))) (blkOk_by (own := [("memory", 5)]) (N := nm_extremes) (sc := defScope s_extremes) (by decide +kernel)) (fun _ _ _ _ _ => (pg_name (i := 5) nd rfl (Or.inl rfl))) (fun _ _ _ _ _ => pts_nil) (fun _ _ _ _ _ => (pe_tup (pa_cons (pe_cl C_output_of (hr.mono (by decide)) (by rfl) (pa_cons (pv 0) (pa_cons (pv 5) pa_nil))) (pa_cons (pv 5) pa_nil)))))
    (pss_cons (ps_par (i := 2) (j := 3) (by rfl) nd rfl rfl (by decide) rfl rfl (pa_cons (pe_ix ix_list (pv 1) pe_int (fun _ _ => rfl)) (pa_cons (pe_ix ix_list (pv 1) pe_int (fun _ _ => rfl)) pa_nil)) (by rfl))
    (pss_cons (ps_for PassesOwn.never rfl (pi_list (pv 1)) (pg_name (i := 4) nd rfl (Or.inl rfl)) (pss_cons (ps_set (i := 2) nd rfl (Or.inl rfl) (pe_ifExp (pt_val (pe_cl C_less (hr.mono (by decide)) (by rfl) (pa_cons (pe_ix ix_tup (pv 4) pe_int (fun _ _ => rfl)) (pa_cons (pe_ix ix_tup (pv 2) pe_int (fun _ _ => rfl)) pa_nil)))) (pv 4) (pv 2)))
    (pss_one (ps_set (i := 3) nd rfl (Or.inl rfl) (pe_ifExp (pt_val (pe_cl C_less (hr.mono (by decide)) (by rfl) (pa_cons (pe_ix ix_tup (pv 3) pe_int (fun _ _ => rfl)) (pa_cons (pe_ix ix_tup (pv 4) pe_int (fun _ _ => rfl)) pa_nil)))) (pv 4) (pv 3))))))
    (pss_one (ps_ret (pe_tup (pa_cons (pv 2) (pa_cons (pv 3) pa_nil))))))))), ?_⟩
  refine ⟨_, rfl, v, n, ws, rfl, hB, g, tr, fun H1 k1 => ?_⟩
  have hB1 := hB.mono k1.t
  obtain ⟨b, wt, xs, rfl, hb, hw, hW⟩ := id hB1
  refine ⟨_, rfl, b, _, 0, _, rfl, rfl, SqT.is hb, rfl, n, rfl, h5, fun q H2 k2 hq => ⟨q, rfl, ⟨_, SqL.is hq⟩, fun D0 hD => ?_⟩⟩
  have kk := k1.trans k2
  have D0H : H D0 = none := kk.free hD
  have ndq : q ≠ D0 := ne_of_none hq hD
  refine lc_it (walk_list (xs := memV (mems n))) (fun i H' => ∃ acc, Keep H H' ∧ H' q = some (.lst (memV (mems n))) ∧ H' D0 = some (.lst acc) ∧ acc.length = i ∧ ∀ j m, (mems n)[j]? = some m → j < i → ∃ x, acc[j]? = some x ∧ PairAt H' x (outL ws m) m)
    ⟨[], kk.newT hD, by rw [upd_ne (ne_of_none hq hD)]; exact hq, upd_same, rfl, fun j m _ hj => absurd hj (Nat.not_lt_zero _)⟩ (fun i H' _ ⟨_, _, hq', _⟩ => SqL.is hq') ?_ ?_
  · rintro i x H3 H4 hi ⟨acc, kH, hqL, hL, hlen, hP⟩ ⟨rfl, hx⟩
    have hil : i < (mems n).length := by
      have := hi
      unfold memV at this
      rw [List.length_map] at this
      exact this
    have hm : (mems n)[i]? = some (mems n)[i] := List.getElem?_eq_getElem hil
    have ex : x = .str (S (mems n)[i]) := by
      unfold memV at hx
      rw [List.getElem?_map, hm] at hx
      exact (Option.some.inj hx).symm
    subst ex
    have hmem := List.getElem_mem hil
    refine ⟨rfl, _, rfl, _, rfl, .ref b, n, ws, _, rfl, hB.mono kH.t, g, mems_len n h5 _ hmem, fun u H5 k5 hu => ⟨_, rfl, by show 2 ≤ sizeLine; decide, fun T hT => ?_⟩⟩
    have k5T : Keep H4 (upd H5 T (.tup [u, .str (S (mems n)[i])])) := k5.newT hT
    have kT := kH.trans k5T
    have lenm := mems_count n h5
    refine ⟨acc, k5T.lst hL, small1000 (by omega), acc ++ [.ref T], kT.mut D0H, ?_, upd_same, by rw [List.length_append, hlen]; rfl, ?_⟩
    · rw [upd_ne ndq]
      exact k5T.lst hqL
    · intro j m hj hji
      have kt : KeepT H4 (upd (upd H5 T (.tup [u, .str (S (mems n)[i])])) D0 (.lst (acc ++ [.ref T]))) := k5T.t.lst (k5T.lst hL)
      by_cases hjl : j < i
      · obtain ⟨x, hx1, hx2⟩ := hP j m hj hjl
        exact ⟨x, by rw [List.getElem?_append_left (by omega)]; exact hx1, hx2.mono kt⟩
      · have ej : j = i := by omega
        subst ej
        rw [hm] at hj
        cases hj
        refine ⟨.ref T, by rw [List.getElem?_append_right (by omega), hlen, Nat.sub_self]; rfl, ?_⟩
        have r1 : PairAt (upd H5 T (.tup [u, .str (S (mems n)[j])])) (.ref T) (outL ws (mems n)[j]) (mems n)[j] := ⟨T, u, rfl, upd_same, hu.mono (Keep.new hT).t⟩
        exact r1.mono ((KeepT.refl _).lst (k5T.lst hL))
  rintro H3 ⟨acc, kH, hqL, hL, hlen, hP⟩
  have lenV : (memV (mems n)).length = (mems n).length := List.length_map _
  rw [lenV] at hlen hP
  have hz : (mems n)[0]? = some (zeros n) := zero_first n h5
  have pos : 0 < (mems n).length := (List.getElem?_eq_some_iff.mp hz).1
  obtain ⟨x0, hx0, px0⟩ := hP 0 _ hz pos
  refine ⟨_, rfl, D0, acc, 0, x0, rfl, rfl, SqL.is hL, atI_nat (j := 0) hx0, _, rfl, D0, acc, 0, x0, rfl, rfl, SqL.is hL, atI_nat (j := 0) hx0, _, _, rfl, ?_⟩
  refine ⟨_, rfl, D0, rfl, ⟨_, SqL.is hL⟩, for_it (walk_list (xs := acc)) (fun i σ H' => ∃ x y z w5, σ = [some (.ref b), some (.ref D0), some x, some y, z, w5] ∧ Keep H H' ∧ H' D0 = some (.lst acc) ∧ KeepT H3 H' ∧
    PairAt H' x (outL ws (lowM (outL ws) ((mems n).take i) (zeros n))) (lowM (outL ws) ((mems n).take i) (zeros n)) ∧ PairAt H' y (outL ws (highM (outL ws) ((mems n).take i) (zeros n))) (highM (outL ws) ((mems n).take i) (zeros n)))
    ⟨x0, x0, none, none, rfl, kH, hL, KeepT.refl _, px0, px0⟩ (fun i σ H' _ ⟨_, _, _, _, _, _, hL', _⟩ => SqL.is hL') ?_ ?_⟩
  · rintro i one σ H4 H5 hi ⟨x, y, z, w5, rfl, k4, hL4, kt4, px, py⟩ ⟨rfl, hone⟩
    have hil : i < (mems n).length := by rw [← hlen]; exact hi
    have hm : (mems n)[i]? = some (mems n)[i] := List.getElem?_eq_getElem hil
    obtain ⟨one', h1', p1⟩ := hP i _ hm hil
    rw [hone] at h1'
    cases h1'
    have p1 := p1.mono kt4
    obtain ⟨t1, r1, rfl, ht1, hr1⟩ := id p1
    obtain ⟨t2, r2, rfl, ht2, hr2⟩ := id px
    obtain ⟨t3, r3, rfl, ht3, hr3⟩ := id py
    have bd : ∀ m, Bd 1000 (outL ws m) := fun m => (outL_bd g m).mono (by decide)
    have eL := foldl_take (fun a m => if rless (outL ws m) (outL ws a) then m else a) hm (zeros n)
    have eH := foldl_take (fun a m => if rless (outL ws a) (outL ws m) then m else a) hm (zeros n)
    have eL' : lowM (outL ws) ((mems n).take (i + 1)) (zeros n) = if rless (outL ws (mems n)[i]) (outL ws (lowM (outL ws) ((mems n).take i) (zeros n))) then (mems n)[i] else lowM (outL ws) ((mems n).take i) (zeros n) := eL
    have eH' : highM (outL ws) ((mems n).take (i + 1)) (zeros n) = if rless (outL ws (highM (outL ws) ((mems n).take i) (zeros n))) (outL ws (mems n)[i]) then (mems n)[i] else highM (outL ws) ((mems n).take i) (zeros n) := eH
    rw [eL', eH']
    refine ⟨_, rfl, t1, _, 0, r1, rfl, rfl, SqT.is ht1, rfl, _, rfl, t2, _, 0, r2, rfl, rfl, SqT.is ht2, rfl, r1, r2, _, _, rfl, hr1, hr2, bd _, bd _, _, rfl, ?_⟩
    generalize rless (outL ws (mems n)[i]) (outL ws (lowM (outL ws) ((mems n).take i) (zeros n))) = bb
    have mono2 : ∀ (xx : V) (R : V → Hp → Prop), (∀ yy, PairAt H5 yy (outL ws (if rless (outL ws (highM (outL ws) ((mems n).take i) (zeros n))) (outL ws (mems n)[i]) then (mems n)[i] else highM (outL ws) ((mems n).take i) (zeros n))) (if rless (outL ws (highM (outL ws) ((mems n).take i) (zeros n))) (outL ws (mems n)[i]) then (mems n)[i] else highM (outL ws) ((mems n).take i) (zeros n)) → R yy H5) →
        ((tIf (tB (tCall spLess [] E0 (tCons (tOp (rIxT K) (tVar 3) (tC (.int 0))) (tCons (tOp (rIxT K) (tVar 4) (tC (.int 0))) tNil)))) (tVar 4) (tVar 3))) [some (.ref b), some (.ref D0), some xx, some (.ref t3), some (.ref t1), w5] H5 R := by
      intro xx R hR
      refine ⟨_, rfl, t3, _, 0, r3, rfl, rfl, SqT.is ht3, rfl, _, rfl, t1, _, 0, r1, rfl, rfl, SqT.is ht1, rfl, r3, r1, _, _, rfl, hr3, hr1, bd _, bd _, _, rfl, ?_⟩
      revert hR
      generalize rless (outL ws (highM (outL ws) ((mems n).take i) (zeros n))) (outL ws (mems n)[i]) = bb
      intro hR
      cases bb with
      | true => exact iteT ⟨_, rfl, hR _ p1⟩
      | false => exact iteF ⟨_, rfl, hR _ py⟩
    cases bb with
    | true => exact iteT ⟨_, rfl, mono2 (.ref t1) _ fun yy pyy => ⟨_, yy, _, _, rfl, k4, hL4, kt4, p1, pyy⟩⟩
    | false => exact iteF ⟨_, rfl, mono2 (.ref t2) _ fun yy pyy => ⟨_, yy, _, _, rfl, k4, hL4, kt4, px, pyy⟩⟩
  · rintro σ H4 ⟨x, y, z, w5, rfl, k4, hL4, kt4, px, py⟩
    rw [hlen, List.take_length] at px py
    refine ⟨_, rfl, _, rfl, by show 2 ≤ sizeLine; decide, fun p hp => ?_⟩
    exact k p x y _ (k4.newT hp) upd_same (px.mono (Keep.new hp).t) (py.mono (Keep.new hp).t)
end
end R31
namespace R31
open PySem PySem.Spec PyProof.Rows L2
theorem room65 {k : Nat} {A : Around} (hr : Room k A) : A.units + 65 < cLine := by
  have := hr.un
  omega
theorem room64 {k : Nat} {A : Around} (hr : Room k A) : A.units + 64 < cLine := by
  have := hr.un
  omega
def dQ (q : Int × Int) : PyData := .tuple [.int q.1, .int q.2]
theorem Rt.dp {K : PySem.W.Frag} {H : Hp} {v : V} {q : Int × Int} (h : Rt H v q) : Dp K H v (dQ q) := by
  obtain ⟨p, rfl, h⟩ := h
  exact .tup (SqT.is h) (.cons (.int _) (.cons (.int _) .nil))
theorem Rts.uncons {H : Hp} {x : V} {xs : List V} {q : Int × Int} {l : List (Int × Int)} (h : Rts H (x :: xs) (q :: l)) : Rt H x q ∧ Rts H xs l := by
  obtain ⟨v, e, r⟩ := h.2 0 q rfl
  cases e
  exact ⟨r, h.tail⟩
theorem Rts.dps {K : PySem.W.Frag} {H : Hp} : ∀ {xs : List V} {l : List (Int × Int)}, Rts H xs l → DpAll K H xs (l.map dQ)
  | [], [], _ => .nil
  | [], q :: l, h => absurd h.1 (by simp)
  | x :: xs, [], h => absurd h.1 (by simp)
  | x :: xs, q :: l, h => .cons h.uncons.1.dp (Rts.dps h.uncons.2)
theorem eqv_dQ (p q : Int × Int) : PyData.eqv (dQ p) (dQ q) = decide (p = q) := by
  have e : PyData.eqv (dQ p) (dQ q) = ((p.1 == q.1) && ((p.2 == q.2) && true)) := by simp [dQ, PyData.eqv, PyData.eqvAll]
  rw [e]
  by_cases h : p = q
  · subst h
    simp
  · rw [decide_eq_false h]
    by_cases h1 : p.1 = q.1
    · have h2 : p.2 ≠ q.2 := fun z => h (Prod.ext h1 z)
      simp [h1, h2]
    · simp [h1]
theorem any_dQ (l : List (Int × Int)) (q : Int × Int) : ((l.map dQ).any fun z => PyData.eqv z (dQ q)) = decide (q ∈ l) := by
  rw [List.any_map, Bool.eq_iff_iff, List.any_eq_true, decide_eq_true_eq]
  constructor
  · rintro ⟨p, hp, e⟩
    have e' : PyData.eqv (dQ p) (dQ q) = true := e
    rw [eqv_dQ] at e'
    rw [← of_decide_eq_true e']
    exact hp
  · intro h
    exact ⟨q, h, by show PyData.eqv (dQ q) (dQ q) = true; rw [eqv_dQ]; exact decide_eq_true rfl⟩
theorem shaped_dQ (q : Int × Int) : SeqAt.shaped (dQ q) = true := rfl
theorem lay_all : ∀ {ds : List PyData}, (∀ d ∈ ds, d.canLay0 = true ∧ d.depth ≤ 63) → PyData.canLayAll0 ds = true ∧ PyData.depthAll ds ≤ 63
  | [], _ => ⟨rfl, Nat.zero_le _⟩
  | d :: ds, h => by
    obtain ⟨a, b⟩ := lay_all fun x hx => h x (List.mem_cons_of_mem _ hx)
    obtain ⟨a1, b1⟩ := h d List.mem_cons_self
    refine ⟨?_, ?_⟩
    · show (d.canLay0 && PyData.canLayAll0 ds) = true
      rw [a, a1]
      rfl
    · show max d.depth (PyData.depthAll ds) ≤ 63
      omega
theorem shaped_list {ds : List PyData} (h : ∀ d ∈ ds, d.canLay0 = true ∧ d.depth ≤ 63) : SeqAt.shaped (.list ds) = true := by
  obtain ⟨a, b⟩ := lay_all h
  unfold SeqAt.shaped
  rw [Bool.and_eq_true, decide_eq_true_eq]
  exact ⟨a, by show PyData.depthAll ds + 1 ≤ 64; omega⟩
theorem shaped_dQs (l : List (Int × Int)) : SeqAt.shaped (.list (l.map dQ)) = true := shaped_list fun d hd => by
  obtain ⟨q, _, rfl⟩ := List.mem_map.mp hd
  exact ⟨rfl, show 1 ≤ 63 by decide⟩
theorem cut_take_v {xs : List V} {i : Nat} (h : i ≤ xs.length) : cutV xs none (some (i : Int)) = xs.take i := by
  unfold cutV
  rw [HT.sIx_none, HT.sIx_nat, Nat.min_eq_left h]
  rfl
theorem cut_drop_v {xs : List V} {i : Nat} (h : i ≤ xs.length) : cutV xs (some (i : Int)) none = xs.drop i := by
  unfold cutV
  rw [HT.sIx_none, HT.sIx_nat, Nat.min_eq_left h, List.take_of_length_le (by rw [List.length_drop]; exact Nat.le_refl _)]
theorem Rts.take {H : Hp} {xs : List V} {l : List (Int × Int)} (h : Rts H xs l) (i : Nat) : Rts H (xs.take i) (l.take i) := by
  refine ⟨by rw [List.length_take, List.length_take, h.1], fun j q e => ?_⟩
  have hj : j < i := by
    have := (List.getElem?_eq_some_iff.mp e).1
    rw [List.length_take] at this
    omega
  rw [List.getElem?_take_of_lt hj] at e ⊢
  exact h.2 j q e
theorem Rts.drop {H : Hp} {xs : List V} {l : List (Int × Int)} (h : Rts H xs l) (i : Nat) : Rts H (xs.drop i) (l.drop i) := by
  refine ⟨by rw [List.length_drop, List.length_drop, h.1], fun j q e => ?_⟩
  rw [List.getElem?_drop] at e ⊢
  exact h.2 _ q e
theorem Rts.app {H : Hp} {xs ys : List V} {l m : List (Int × Int)} (h : Rts H xs l) (h2 : Rts H ys m) : Rts H (xs ++ ys) (l ++ m) := by
  refine ⟨by rw [List.length_append, List.length_append, h.1, h2.1], fun j q e => ?_⟩
  by_cases hj : j < l.length
  · rw [List.getElem?_append_left hj] at e
    rw [List.getElem?_append_left (by rw [h.1]; exact hj)]
    exact h.2 j q e
  · rw [List.getElem?_append_right (by omega)] at e
    rw [List.getElem?_append_right (by rw [h.1]; omega), h.1]
    exact h2.2 _ q e
def insR (l : List (Int × Int)) (q : Int × Int) : List (Int × Int) :=
  if q ∈ l then l else l.take (l.filter fun p => rless p q).length ++ [q] ++ l.drop (l.filter fun p => rless p q).length
def risL (l : List (Int × Int)) : List (Int × Int) := l.foldl insR []
theorem insR_sub {l : List (Int × Int)} {q p : Int × Int} (h : p ∈ insR l q) : p ∈ l ∨ p = q := by
  unfold insR at h
  split at h
  · exact .inl h
  · rcases List.mem_append.mp h with z | z
    · rcases List.mem_append.mp z with y | y
      · exact .inl (List.mem_of_mem_take y)
      · exact .inr (List.mem_singleton.mp y)
    · exact .inl (List.mem_of_mem_drop z)
theorem insR_len (l : List (Int × Int)) (q : Int × Int) : (insR l q).length ≤ l.length + 1 := by
  unfold insR
  split
  · omega
  · rw [List.length_append, List.length_append, List.length_take, List.length_drop, List.length_singleton]
    omega
theorem foldl_sub : ∀ {l a : List (Int × Int)} {p : Int × Int}, p ∈ l.foldl insR a → p ∈ a ∨ p ∈ l
  | [], _, _, h => .inl h
  | q :: l, a, p, h => by
    rcases foldl_sub (l := l) h with z | z
    · rcases insR_sub z with y | y
      · exact .inl y
      · exact .inr (by rw [y]; exact List.mem_cons_self)
    · exact .inr (List.mem_cons_of_mem _ z)
theorem foldl_len : ∀ (l a : List (Int × Int)), (l.foldl insR a).length ≤ a.length + l.length
  | [], a => Nat.le_refl _
  | q :: l, a => by
    have h1 := foldl_len l (insR a q)
    have h2 := insR_len a q
    show (l.foldl insR (insR a q)).length ≤ _
    rw [List.length_cons]
    omega
/-! ### promises -/
def spRising (K : PySem.W.Frag) : Sp := fun vs H Q _ => ∃ (a : Addr) (xs : List V) (l : List (Int × Int)), vs = [.ref a] ∧ SqL K H a xs ∧ Rts H xs l ∧ (∀ q ∈ l, Bd 1000 q) ∧ l.length ≤ 32 ∧ ∀ p ys H', Keep H H' → H' p = some (.lst ys) → Rts H' ys (risL l) → Q (.ref p) H'
def spReached (Pr : Addr) : Sp := fun vs H Q _ => ∃ (v : V) (n : Nat) (ws : List Wt), vs = [v] ∧ BankAt H v n ws ∧ GoodB n ws ∧ GxR.TabG H Pr ∧ ∀ p ys H', Keep H H' → H' p = some (.tup ys) → Rts H' ys (risL ((mems n).map (outL ws))) → Q (.ref p) H'
section
variable {P : Program} {w : World} {K : PySem.W.Frag} {mg : Str → Option Value} {base : Heap} {f c Pr Pi : Addr} {fd : FuncData}
theorem ok_rising (D : Def K mg "rising" s_rising ["some"] f fd) (C_less : Callee P w K mg base 1 "less" ["one", "other"] spLess) (Z : Zs mg) : Callee P w K mg base 2 "rising" ["some"] (spRising K) := by
  refine D.ok sc_rising (fun vs H Q E h => ?_) (fun cdv A outer s H vs Q E hr h => ?_)
  · obtain ⟨a, xs, l, rfl, _⟩ := h
    rfl
  obtain ⟨a, xs, l, rfl, hS, hR, hB, hl, k⟩ := h
  have nd := sc_rising.nd
  have hu65 := room65 hr
  refine ⟨_, (pss_cons (ps_set (i := 1) nd rfl (Or.inl rfl) (pe_lst pa_nil))
    (pss_cons (ps_for PassesOwn.never rfl (pi_list (pv 0)) (pg_name (i := 2) nd rfl (Or.inr rfl)) (pss_one (ps_if (pt_cmpR (op_notInD hu65) (pv 2) (pv 1) (by rfl)) (pss_cons (ps_set (i := 3) nd rfl (Or.inl rfl) (pe_callB call_len (by rfl) Z.z_len (by decide +kernel) (pa_cons (pe_lc (own := [("other", 4)]) (g := gName 4) (by rfl) nd (pi_list (pv 1)) (blkOk_by (own := [("other", 4)]) (N := nm_rising) (sc := defScope s_rising) (by decide +kernel)) (fun _ _ _ _ _ => (pg_name (i := 4) nd rfl (Or.inl rfl))) (fun _ _ _ _ _ => pts_one (pt_val (pe_cl C_less (hr.mono (by decide)) (by rfl) (pa_cons (pv 4) (pa_cons (pv 2) pa_nil))))) (fun _ _ _ _ _ => (pv 4))) pa_nil)))
    (pss_one (ps_set (i := 1) nd rfl (Or.inl rfl) (pe_lst (StX.pa_star (pe_slice sl_list (pv 1) po_none (po_some (pv 3))) (pa_cons (pv 2) (StX.pa_star (pe_slice sl_list (pv 1) (po_some (pv 3)) po_none) pa_nil))))))) pss_nil)))
    (pss_one (ps_ret (pv 1))))), ?_⟩
  refine ⟨Nat.zero_le _, fun p hp => ?_⟩
  refine ⟨_, rfl, a, rfl, ⟨_, (Keep.new hp).seq hS⟩, for_it (walk_list (xs := xs)) (fun i σ H' => ∃ p ys y2 y3 y4, σ = [some (.ref a), some (.ref p), y2, y3, y4] ∧ Keep H H' ∧ H' p = some (.lst ys) ∧ Rts H' ys ((l.take i).foldl insR []))
    ⟨p, [], none, none, none, rfl, Keep.new hp, upd_same, Rts.nil⟩ (fun i σ H' _ ⟨_, _, _, _, _, _, kH, _⟩ => kH.seq hS) ?_ ?_⟩
  · rintro i x σ H1 H2 hi ⟨p, ys, y2, y3, y4, rfl, kH, hL, hR1⟩ ⟨rfl, hx⟩
    have hil : i < l.length := by rw [← hR.1]; exact hi
    obtain ⟨u, hu, ru⟩ := hR.2 i _ (List.getElem?_eq_getElem hil)
    rw [hx] at hu
    cases hu
    have ru1 := ru.mono kH.t
    have step := foldl_take insR (List.getElem?_eq_getElem hil) []
    have sub : ∀ q ∈ (l.take i).foldl insR [], Bd 1000 q := fun q hq => by
      rcases foldl_sub hq with z | z
      · exact absurd z List.not_mem_nil
      · exact hB q (List.mem_of_mem_take z)
    have len : ((l.take i).foldl insR []).length ≤ 32 := by
      have := foldl_len (l.take i) []
      rw [List.length_take, List.length_nil] at this
      omega
    have bq : Bd 1000 l[i] := hB _ (List.getElem_mem hil)
    generalize hfd : (l.take i).foldl insR [] = fd at *
    generalize l[i] = q at *
    refine ⟨_, rfl, _, rfl, dQ q, fd.map dQ, ru1.dp, .lst (SqL.is hL) hR1.dps, shaped_dQ q, shaped_dQs fd, _, rfl, ?_⟩
    rw [any_dQ]
    by_cases hq : q ∈ fd
    · rw [decide_eq_true hq]
      refine iteF ⟨p, ys, _, _, _, rfl, kH, hL, ?_⟩
      rw [step]
      unfold insR
      rw [if_pos hq]
      exact hR1
    · rw [decide_eq_false hq]
      refine iteT ⟨_, rfl, p, rfl, ⟨_, SqL.is hL⟩, fun D0 hD => ?_⟩
      have hpD : p ≠ D0 := ne_of_none hL hD
      refine lc_it (walk_list (xs := ys)) (fun j H' => ∃ acc, Keep H2 H' ∧ H' D0 = some (.lst acc) ∧ acc.length = ((fd.take j).filter fun p => rless p q).length) ⟨[], Keep.new hD, upd_same, rfl⟩ (fun j H' _ ⟨_, k', _⟩ => SqL.is (k'.lst hL)) ?_ ?_
      · rintro j z H3 H4 hj ⟨acc, k3, hLD, hlen⟩ ⟨rfl, hz⟩
        have hjl : j < fd.length := by rw [← hR1.1]; exact hj
        obtain ⟨u2, hu2, ru2⟩ := hR1.2 j _ (List.getElem?_eq_getElem hjl)
        rw [hz] at hu2
        cases hu2
        refine ⟨rfl, _, rfl, _, rfl, z, x, fd[j], q, rfl, ru2.mono k3.t, ru1.mono k3.t, sub _ (List.getElem_mem hjl), bq, _, rfl, ?_⟩
        have fl : (fd.take (j + 1)).filter (fun p => rless p q) = (fd.take j).filter (fun p => rless p q) ++ (if rless fd[j] q = true then [fd[j]] else []) := by
          rw [take_snoc (List.getElem?_eq_getElem hjl), List.filter_append]
          congr 1
          rw [List.filter_cons]
          rfl
        rw [fl]
        have lj : ((fd.take j).filter fun p => rless p q).length ≤ 32 := Nat.le_trans (List.length_filter_le _ _) (by rw [List.length_take]; omega)
        generalize rless fd[j] q = bb
        cases bb with
        | true =>
          refine iteT ⟨_, rfl, acc, hLD, small1000 (by omega), acc ++ [z], k3.mut hD, upd_same, ?_⟩
          rw [List.length_append, List.length_append, hlen]
          rfl
        | false =>
          refine iteF ⟨acc, k3, hLD, ?_⟩
          rw [List.length_append, hlen]
          rfl
      · rintro H3 ⟨acc, k3, hLD, hlen⟩
        have e : fd.take ys.length = fd := List.take_of_length_le (by rw [hR1.1]; exact Nat.le_refl _)
        rw [e] at hlen
        refine ⟨_, _, rfl, .inl ⟨_, SqL.is hLD, rfl⟩, ?_⟩
        have atle : acc.length ≤ ys.length := by
          rw [hlen, hR1.1]
          exact List.length_filter_le _ _
        have hL3 := k3.lst hL
        refine ⟨_, rfl, _, rfl, ((acc.length : Nat) : Int), rfl, p, ys, rfl, SqL.is hL3, fun p1 h1 => ?_⟩
        rw [cut_take_v atle]
        refine ⟨p1, _, rfl, .inr (SqL.is upd_same), _, rfl, _, rfl, _, rfl, ((acc.length : Nat) : Int), rfl, p, ys, rfl, SqL.is ((Keep.new h1).lst hL3), fun p2 h2 => ?_⟩
        rw [cut_drop_v atle]
        refine ⟨p2, _, rfl, .inr (SqL.is upd_same), ?_, fun p3 h3 => ?_⟩
        · refine small9 ?_
          rw [List.length_append, List.length_cons, List.length_append, List.length_take, List.length_drop, hR1.1]
          show _ + (_ + 0 + 1) ≤ 1000
          omega
        · have k4 : Keep H2 (upd (upd (upd H3 p1 (.lst (ys.take acc.length))) p2 (.lst (ys.drop acc.length))) p3 (.lst (ys.take acc.length ++ x :: (ys.drop acc.length ++ [])))) := ((k3.newT h1).newT h2).newT h3
          refine ⟨p3, _, _, _, _, rfl, kH.trans k4, upd_same, ?_⟩
          rw [step]
          unfold insR
          rw [if_neg hq, ← hlen, List.append_nil, List.append_assoc]
          rw [List.append_nil] at k4
          have r1 : Rts H2 [x] [q] := (Rts.nil (H := H2)).snoc ru1
          exact ((hR1.take acc.length).app (r1.app (hR1.drop acc.length))).mono k4.t
  · rintro σ H1 ⟨p, ys, y2, y3, y4, rfl, kH, hL, hR1⟩
    have e : l.take xs.length = l := List.take_of_length_le (by rw [hR.1]; exact Nat.le_refl _)
    rw [e] at hR1
    exact ⟨_, rfl, k p ys H1 kH hL hR1⟩
theorem ok_reached (D : Def K mg "outputs_reached" s_outputs_reached ["bank"] f fd) (C_need_bank : Callee P w K mg base 4 "need_bank" ["bank"] (spNeedBank Pr)) (C_all_memories : Callee P w K mg base 1 "all_memories" ["span"] spAll)
    (C_output_of : Callee P w K mg base 4 "output_of" ["bank", "memory"] spOutput) (C_rising : Callee P w K mg base 2 "rising" ["some"] (spRising K)) (Z : Zs mg) : Callee P w K mg base 5 "outputs_reached" ["bank"] (spReached Pr) := by
  refine D.ok sc_outputs_reached (fun vs H Q E h => ?_) (fun cdv A outer s H vs Q E hr h => ?_)
  · obtain ⟨v, n, ws, rfl, _⟩ := h
    rfl
  obtain ⟨v, n, ws, rfl, hB, g, tr, k⟩ := h
  have nd := sc_outputs_reached.nd
  have h5 := g.hi
  refine ⟨_, (pss_cons (ps_expr (pe_cl C_need_bank (hr.mono (by decide)) (by rfl) (pa_cons (pv 0) pa_nil)))
    (pss_one (ps_ret (pe_callTy call_tuple_of (by rfl) Z.z_tuple (by decide +kernel) (pa_cons (pe_cl C_rising (hr.mono (by decide)) (by rfl) (pa_cons (pe_lc (own := [("memory", 1)]) (g := gName 1) (tt := tYes) (by rfl) nd (pi_list (pe_cl C_all_memories (hr.mono (by decide)) (by rfl) (pa_cons (pe_ix ix_tup (pv 0) pe_int (fun _ _ => rfl)) pa_nil))) (blkOk_by (own := [("memory", 1)]) (N := nm_outputs_reached) (sc := defScope s_outputs_reached) (by decide +kernel)) (fun _ _ _ _ _ => (pg_name (i := 1) nd rfl (Or.inl rfl))) (fun _ _ _ _ _ => pts_nil) (fun _ _ _ _ _ => (pe_cl C_output_of (hr.mono (by decide)) (by rfl) (pa_cons (pv 0) (pa_cons (pv 1) pa_nil))))) pa_nil)) pa_nil))))), ?_⟩
  refine ⟨_, rfl, v, n, ws, rfl, hB, g, tr, fun H1 k1 => ?_⟩
  have hB1 := hB.mono k1.t
  obtain ⟨b, wt, xs, rfl, hb, hw, hW⟩ := id hB1
  refine ⟨_, rfl, b, _, 0, _, rfl, rfl, SqT.is hb, rfl, n, rfl, h5, fun q H2 k2 hq => ⟨q, rfl, ⟨_, SqL.is hq⟩, fun D0 hD => ?_⟩⟩
  have kk := k1.trans k2
  have ndq : q ≠ D0 := ne_of_none hq hD
  have D0H : H D0 = none := kk.free hD
  refine lc_it (walk_list (xs := memV (mems n))) (fun i H' => ∃ acc, Keep H H' ∧ H' q = some (.lst (memV (mems n))) ∧ H' D0 = some (.lst acc) ∧ Rts H' acc (((mems n).take i).map (outL ws)))
    ⟨[], kk.newT hD, by rw [upd_ne ndq]; exact hq, upd_same, Rts.nil⟩ (fun i H' _ ⟨_, _, hq', _⟩ => SqL.is hq') ?_ ?_
  · rintro i x H3 H4 hi ⟨acc, kH, hqL, hL, hR⟩ ⟨rfl, hx⟩
    have hil : i < (mems n).length := by
      have := hi
      unfold memV at this
      rw [List.length_map] at this
      exact this
    have hm : (mems n)[i]? = some (mems n)[i] := List.getElem?_eq_getElem hil
    have ex : x = .str (S (mems n)[i]) := by
      unfold memV at hx
      rw [List.getElem?_map, hm] at hx
      exact (Option.some.inj hx).symm
    subst ex
    have hmem := List.getElem_mem hil
    have lenm := mems_count n h5
    refine ⟨rfl, _, rfl, _, rfl, .ref b, n, ws, _, rfl, hB.mono kH.t, g, mems_len n h5 _ hmem, fun u H5 k5 hu => ⟨acc, k5.lst hL, ?_, acc ++ [u], (kH.trans k5).mut D0H, ?_, upd_same, ?_⟩⟩
    · rw [hR.1, List.length_map, List.length_take]
      exact small1000 (by omega)
    · rw [upd_ne ndq]
      exact k5.lst hqL
    · rw [take_snoc hm, List.map_append]
      exact ((hR.mono k5.t).snoc hu).mono ((KeepT.refl _).lst (k5.lst hL))
  · rintro H3 ⟨acc, kH, hqL, hL, hR⟩
    have lenV : (memV (mems n)).length = (mems n).length := List.length_map _
    rw [lenV, List.take_length] at hR
    refine ⟨D0, acc, _, rfl, SqL.is hL, hR, fun z hz => ?_, by rw [List.length_map]; exact mems_count n h5, fun p ys H4 k4 hp hR4 => ?_⟩
    · obtain ⟨m, _, rfl⟩ := List.mem_map.mp hz
      exact (outL_bd g m).mono (by decide)
    · exact ⟨p, ys, rfl, .inl ⟨SqL.is hp, fun l hl => k l ys _ ((kH.trans k4).newT hl) upd_same (hR4.mono (Keep.new hl).t)⟩⟩
end
end R31
namespace R31
open PySem PySem.Spec PyProof.Rows L2
/-! ### the search in breadth -/
abbrev Row := List Nat × List Nat
abbrev Bst := List (List Nat) × List Row
def bfsU (m w : List Nat) (st : Bst) (u : Bool) : Bst := if stepL u m ∈ st.1 then st else (st.1 ++ [stepL u m], st.2 ++ [(stepL u m, w ++ [lett u])])
def bfsItem (st : Bst) (r : R31.Row) : Bst := [false, true].foldl (bfsU r.1 r.2) st
def bfsNext (s : List R31.Row × List (List Nat)) : List R31.Row × List (List Nat) := ((s.1.foldl bfsItem (s.2, [])).2, (s.1.foldl bfsItem (s.2, [])).1)
def bfsAt (n : Nat) : Nat → List R31.Row × List (List Nat)
  | 0 => ([(zeros n, [])], [zeros n])
  | k + 1 => bfsNext (bfsAt n k)
def goodRow (n : Nat) (r : R31.Row) : Bool := decide (r.1 ∈ mems n) && decide (r.2.length ≤ 20) && r.1.all (· < 1114112) && r.2.all (· < 1114112)
theorem bfs_fact : ∀ n ≤ 5, ∀ k ≤ 16, (bfsAt n k).1.all (goodRow n) = true ∧ (bfsAt n k).1.length ≤ 32 ∧ (bfsAt n k).2.length ≤ 32 := by decide +kernel
theorem bfs_end : ∀ n ≤ 5, 1 ≤ n → (bfsAt n 16).1 = [] := by decide +kernel
def findIn (ok : List Nat → Bool) (rows : List R31.Row) : Option (List Nat) := (rows.find? fun r => ok r.1).map (·.2)
def bfsRes (ok : List Nat → Bool) : Nat → List R31.Row × List (List Nat) → Option (List Nat)
  | 0, _ => none
  | f + 1, s => if s.1 = [] then none else match findIn ok s.1 with
    | some w => some w
    | none => bfsRes ok f (bfsNext s)
def resV : Option (List Nat) → V
  | none => .non
  | some w => .str (S w)
def okM (ws : List Wt) (lo hi : Int × Int) (m : List Nat) : Bool := !rless (outL ws m) lo && !rless hi (outL ws m)
theorem find_first {ok : List Nat → Bool} {rows : List R31.Row} {i : Nat} {r : R31.Row} (h : rows[i]? = some r) (hn : ∀ q ∈ rows.take i, ok q.1 = false) (hr : ok r.1 = true) : findIn ok rows = some r.2 := by
  have e : rows = rows.take i ++ r :: rows.drop (i + 1) := by
    obtain ⟨hi, e⟩ := List.getElem?_eq_some_iff.mp h
    rw [← e, ← List.drop_eq_getElem_cons hi, List.take_append_drop]
  unfold findIn
  rw [e, List.find?_append, List.find?_eq_none.mpr (fun q hq => by rw [hn q hq]; exact Bool.false_ne_true), List.find?_cons, hr]
  rfl
theorem find_none {ok : List Nat → Bool} {rows : List R31.Row} (hn : ∀ q ∈ rows, ok q.1 = false) : findIn ok rows = none := by
  unfold findIn
  rw [List.find?_eq_none.mpr (fun q hq => by rw [hn q hq]; exact Bool.false_ne_true)]
  rfl
/-! ### the search's things on the heap -/
def RowsAt (H : Hp) (xs : List V) (rows : List R31.Row) : Prop := xs.length = rows.length ∧ ∀ (i : Nat) (r : R31.Row), rows[i]? = some r → ∃ t, xs[i]? = some (.ref t) ∧ H t = some (.tup [.str (S r.1), .str (S r.2)])
theorem RowsAt.mono {H H' : Hp} {xs : List V} {rows : List R31.Row} (k : KeepT H H') (h : RowsAt H xs rows) : RowsAt H' xs rows := ⟨h.1, fun i r e => let ⟨t, e1, e2⟩ := h.2 i r e; ⟨t, e1, k _ _ e2⟩⟩
theorem RowsAt.nil {H : Hp} : RowsAt H [] [] := ⟨rfl, fun i r e => by simp at e⟩
theorem RowsAt.snoc {H : Hp} {xs : List V} {rows : List R31.Row} {t : Addr} {r : R31.Row} (h : RowsAt H xs rows) (ht : H t = some (.tup [.str (S r.1), .str (S r.2)])) : RowsAt H (xs ++ [.ref t]) (rows ++ [r]) := by
  refine ⟨by rw [List.length_append, List.length_append, h.1]; rfl, fun i q e => ?_⟩
  by_cases hi : i < rows.length
  · rw [List.getElem?_append_left hi] at e
    obtain ⟨u, e1, e2⟩ := h.2 i q e
    exact ⟨u, by rw [List.getElem?_append_left (by rw [h.1]; exact hi)]; exact e1, e2⟩
  · have hi2 : i = rows.length := by
      have := (List.getElem?_eq_some_iff.mp e).1
      rw [List.length_append, List.length_singleton] at this
      omega
    subst hi2
    rw [List.getElem?_append_right (Nat.le_refl _), Nat.sub_self] at e
    have e' : r = q := Option.some.inj e
    subst e'
    refine ⟨t, ?_, ht⟩
    rw [List.getElem?_append_right (by rw [h.1]; exact Nat.le_refl _), h.1, Nat.sub_self]
    rfl
def kvOf (known : List (List Nat)) : List (Key × V) := known.map fun m => ((Sum.inr (S m) : Key), V.bl true)
theorem kvOf_get (known : List (List Nat)) (t : List Nat) : valV (kvOf known) (Sum.inr (S t)) = if t ∈ known then some (.bl true) else none := by
  induction known with
  | nil => rfl
  | cons m r ih =>
    unfold valV kvOf at *
    rw [List.map_cons, List.find?_cons]
    by_cases h : m = t
    · subst h
      rw [decide_eq_true rfl, if_pos List.mem_cons_self]
      rfl
    · rw [decide_eq_false (fun z => h (S_inj (Sum.inr.inj z)))]
      show Option.map _ (List.find? _ _) = _
      rw [ih]
      by_cases h2 : t ∈ r
      · rw [if_pos h2, if_pos (List.mem_cons_of_mem _ h2)]
      · rw [if_neg h2, if_neg (fun z => (List.mem_cons.mp z).elim (fun y => h y.symm) h2)]
theorem kvOf_snoc (known : List (List Nat)) (t : List Nat) (h : t ∉ known) : putK (kvOf known) (Sum.inr (S t)) (.bl true) = kvOf (known ++ [t]) := by
  rw [putK_new _ (by rw [kvOf_get, if_neg h])]
  unfold kvOf
  rw [List.map_append]
  rfl
theorem kvOf_len (known : List (List Nat)) : (kvOf known).length = known.length := List.length_map _
theorem bfsU_len (m w : List Nat) (st : Bst) (u : Bool) : (bfsU m w st u).1.length ≤ st.1.length + 1 ∧ (bfsU m w st u).2.length ≤ st.2.length + 1 := by
  unfold bfsU
  split
  · exact ⟨Nat.le_succ _, Nat.le_succ _⟩
  · rw [List.length_append, List.length_append]
    exact ⟨Nat.le_refl _, Nat.le_refl _⟩
theorem bfsItem_len (st : Bst) (r : R31.Row) : (bfsItem st r).1.length ≤ st.1.length + 2 ∧ (bfsItem st r).2.length ≤ st.2.length + 2 := by
  have a := bfsU_len r.1 r.2 st false
  have b := bfsU_len r.1 r.2 (bfsU r.1 r.2 st false) true
  show (bfsU r.1 r.2 (bfsU r.1 r.2 st false) true).1.length ≤ _ ∧ (bfsU r.1 r.2 (bfsU r.1 r.2 st false) true).2.length ≤ _
  omega
theorem bfsRow_len : ∀ (rows : List R31.Row) (st : Bst), (rows.foldl bfsItem st).1.length ≤ st.1.length + 2 * rows.length ∧ (rows.foldl bfsItem st).2.length ≤ st.2.length + 2 * rows.length
  | [], st => ⟨Nat.le_refl _, Nat.le_refl _⟩
  | r :: rows, st => by
    have a := bfsItem_len st r
    have b := bfsRow_len rows (bfsItem st r)
    show (rows.foldl bfsItem (bfsItem st r)).1.length ≤ _ ∧ (rows.foldl bfsItem (bfsItem st r)).2.length ≤ _
    rw [List.length_cons]
    omega
/-- one turn of the letters: the state on the heap -/
structure BfsAt (H0 H : Hp) (d M : Addr) (st : Bst) : Prop where
  keep : Keep H0 H
  dk : H d = some (.dK (kvOf st.1))
  ml : ∃ ms, H M = some (.lst ms) ∧ RowsAt H ms st.2
  few : st.1.length ≤ 200 ∧ st.2.length ≤ 200
theorem du_at {j : Nat} (h : j < 2) : ∃ u : Bool, [100, 117][j]? = some (lett u) ∧ [false, true][j]? = some u := by
  match j, h with
  | 0, _ => exact ⟨false, rfl, rfl⟩
  | 1, _ => exact ⟨true, rfl, rfl⟩
/-- a new pair behind the known: the heap then -/
theorem BfsAt.put {H0 H : Hp} {d M T : Addr} {st : Bst} {m w : List Nat} {u : Bool} (b : BfsAt H0 H d M st) (hd : H0 d = none) (hM : H0 M = none) (hu : stepL u m ∉ st.1) (few : st.1.length ≤ 100 ∧ st.2.length ≤ 100) {ms : List V} (hm : H M = some (.lst ms)) (hr : RowsAt H ms st.2)
    (hT : (upd H d (.dK (kvOf (st.1 ++ [stepL u m])))) T = none) :
    BfsAt H0 (upd (upd (upd H d (.dK (kvOf (st.1 ++ [stepL u m])))) T (.tup [.str (S (stepL u m)), .str (S (w ++ [lett u]))])) M (.lst (ms ++ [.ref T]))) d M (bfsU m w st u) := by
  have ndM : d ≠ M := ne_of b.dk hm (by intro z; cases z)
  have k1 : Keep H0 (upd H d (.dK (kvOf (st.1 ++ [stepL u m])))) := b.keep.mut hd
  have nMd : (upd H d (.dK (kvOf (st.1 ++ [stepL u m])))) M = some (.lst ms) := by
    rw [upd_ne ndM.symm]
    exact hm
  have nMT : M ≠ T := ne_of_none nMd hT
  have ndT : d ≠ T := ne_of_none upd_same hT
  have k2 := k1.newT (o := .tup [.str (S (stepL u m)), .str (S (w ++ [lett u]))]) hT
  have e : bfsU m w st u = (st.1 ++ [stepL u m], st.2 ++ [(stepL u m, w ++ [lett u])]) := by
    unfold bfsU
    rw [if_neg hu]
  rw [e]
  have hM2 : (upd (upd H d (.dK (kvOf (st.1 ++ [stepL u m])))) T (.tup [.str (S (stepL u m)), .str (S (w ++ [lett u]))])) M = some (.lst ms) := by
    rw [upd_ne nMT]
    exact nMd
  refine ⟨k2.mut hM, ?_, ⟨_, upd_same, ?_⟩, ?_⟩
  · rw [upd_ne ndM, upd_ne ndT, upd_same]
  · have kt : KeepT H (upd (upd H d (.dK (kvOf (st.1 ++ [stepL u m])))) T (.tup [.str (S (stepL u m)), .str (S (w ++ [lett u]))])) := ((KeepT.refl H).dK b.dk).new hT
    exact ((hr.mono kt).snoc upd_same).mono ((KeepT.refl _).lst hM2)
  · rw [List.length_append, List.length_append, List.length_singleton, List.length_singleton]
    omega
end R31
namespace R31
open PySem PySem.Spec PyProof.Rows L2
def spInputTo (Pr : Addr) : Sp := fun vs H Q _ => ∃ (v x y : V) (n : Nat) (ws : List Wt) (lo hi : Int × Int), vs = [v, x, y] ∧ BankAt H v n ws ∧ GoodB n ws ∧ Rt H x lo ∧ Rt H y hi ∧ Low lo ∧ Low hi ∧ Bd 1000 lo ∧ Bd 1000 hi ∧ GxR.TabG H Pr ∧
  ∀ H', Keep H H' → Q (resV (bfsRes (okM ws lo hi) 17 (bfsAt n 0))) H'
theorem cdu' : ("du" : Str) = S [100, 117] := cdu
theorem bfs_one {ok : List Nat → Bool} {f : Nat} {s : List R31.Row × List (List Nat)} (h : s.1 ≠ []) : bfsRes ok (f + 1) s = match findIn ok s.1 with
    | some w => some w
    | none => bfsRes ok f (bfsNext s) := by
  show (if s.1 = [] then none else _) = _
  rw [if_neg h] <;> rfl
theorem bfs_nil {ok : List Nat → Bool} {f : Nat} {s : List R31.Row × List (List Nat)} (h : s.1 = []) : bfsRes ok f s = none := by
  cases f with
  | zero => rfl
  | succ f =>
    show (if s.1 = [] then none else _) = _
    rw [if_pos h]
section
variable {P : Program} {w : World} {K : PySem.W.Frag} {mg : Str → Option Value} {base : Heap} {f c Pr Pi : Addr} {fd : FuncData}
theorem ok_input_to (D : Def K mg "input_to" s_input_to ["bank", "least", "most"] f fd) (C_need_bank : Callee P w K mg base 4 "need_bank" ["bank"] (spNeedBank Pr)) (C_is_ratio : Callee P w K mg base 1 "is_ratio" ["value"] (spIsRatio Pr))
    (C_output_of : Callee P w K mg base 4 "output_of" ["bank", "memory"] spOutput) (C_less : Callee P w K mg base 1 "less" ["one", "other"] spLess) (C_step : Callee P w K mg base 1 "step" ["memory", "letter"] spStep) (Z : Zs mg) :
    Callee P w K mg base 5 "input_to" ["bank", "least", "most"] (spInputTo Pr) := by
  refine D.ok sc_input_to (fun vs H Q E h => ?_) (fun cdv A outer s H vs Q E hr h => ?_)
  · obtain ⟨v, x, y, n, ws, lo, hi, rfl, _⟩ := h
    rfl
  obtain ⟨v, x, y, n, ws, lo, hi, rfl, hB, g, hx, hy, l1, l2, b1, b2, tr, k⟩ := h
  have nd := sc_input_to.nd
  have h5 := g.hi
  have h1 := g.lo
  have hu := hu_of hr
  refine ⟨_, (pss_cons (ps_expr (pe_cl C_need_bank (hr.mono (by decide)) (by rfl) (pa_cons (pv 0) pa_nil)))
    (pss_cons (ps_if (PW.pt (pw_or (pt_not (pt_val (pe_cl C_is_ratio (hr.mono (by decide)) (by rfl) (pa_cons (pv 1) pa_nil)))) (pw_or1 (pt_not (pt_val (pe_cl C_is_ratio (hr.mono (by decide)) (by rfl) (pa_cons (pv 2) pa_nil))))))) (pss_one ps_never) pss_nil)
    (pss_cons (ps_par (i := 3) (j := 4) (by rfl) nd rfl rfl (by decide) rfl rfl (pa_cons (pe_lst (pa_cons (pe_tup (pa_cons (pe_op op_mulS pe_str (pe_ix (show IxR _ (rIxT K) from ix_tup) (pv 0) pe_int (fun _ _ => rfl))) (pa_cons pe_str pa_nil))) pa_nil)) (pa_cons (pe_disp (pps_cons (pe_op op_mulS pe_str (pe_ix (show IxR _ (rIxT K) from ix_tup) (pv 0) pe_int (fun _ _ => rfl))) pe_bl pps_nil) (by rfl) (by rfl) (fun z => by cases z) (by decide)) pa_nil)) (by rfl))
    (pss_cons (ps_while PassesOwn.never (pt_truth (pv 3) (by intro _; rfl)) (pss_cons (ps_set (i := 5) nd rfl (Or.inl rfl) (pe_lst pa_nil))
    (pss_cons (ps_for PassesOwn.never rfl (pi_list (pv 3)) (pg_tup rfl (pgs_cons (pg_name (i := 6) nd rfl (Or.inl rfl)) (pgs_cons (pg_name (i := 7) nd rfl (Or.inl rfl)) pgs_nil))) (pss_cons (ps_set (i := 8) nd rfl (Or.inl rfl) (pe_cl C_output_of (hr.mono (by decide)) (by rfl) (pa_cons (pv 0) (pa_cons (pv 6) pa_nil))))
    (pss_cons (ps_if (PW.pt (pw_and (pt_not (pt_val (pe_cl C_less (hr.mono (by decide)) (by rfl) (pa_cons (pv 8) (pa_cons (pv 1) pa_nil))))) (pw_and1 (pt_not (pt_val (pe_cl C_less (hr.mono (by decide)) (by rfl) (pa_cons (pv 2) (pa_cons (pv 8) pa_nil)))))))) (pss_one (ps_ret (pv 7))) pss_nil)
    (pss_one (ps_for PassesOwn.never rfl (pi_str pe_str) (pg_name (i := 9) nd rfl (Or.inl rfl)) (pss_cons (ps_set (i := 10) nd rfl (Or.inl rfl) (pe_cl C_step (hr.mono (by decide)) (by rfl) (pa_cons (pv 6) (pa_cons (pv 9) pa_nil))))
    (pss_one (ps_if (pt_cmp (pc_dnotin hu (pv 10) (pv 4))) (pss_cons (ps_dput hu (pv 4) (pv 10) pe_bl rfl)
    (pss_one (ps_expr (pe_bm PySem.F.plainAttrs_list PySem.F.slot_list_append PySem.F.type_list_append mt_append (pv 5) (pa_cons (pe_tup (pa_cons (pv 10) (pa_cons (pe_op op_add_str (pv 7) (pv 9)) pa_nil))) pa_nil))))) pss_nil))))))))
    (pss_one (ps_set (i := 3) nd rfl (Or.inl rfl) (pv 5))))))
    (pss_one (ps_ret pe_non)))))), ?_⟩
  refine ⟨_, rfl, v, n, ws, rfl, hB, g, tr, fun H1 k1 => ?_⟩
  refine ⟨_, rfl, x, lo, rfl, hx.mono k1.t, l1, k1.tab tr, fun H2 k2 => ⟨true, rfl, iteF ?_⟩⟩
  have k12 := k1.trans k2
  refine ⟨_, rfl, y, hi, rfl, hy.mono k12.t, l2, k12.tab tr, fun H3 k3 => ⟨true, rfl, iteF ?_⟩⟩
  have k13 := k12.trans k3
  have hB3 := hB.mono k13.t
  obtain ⟨b, wt, bx, rfl, hb, hw, hW⟩ := id hB3
  -- rows, seen
  refine ⟨_, rfl, b, _, 0, _, rfl, rfl, SqT.is hb, rfl, S [48], (n : Int), by rw [c0], rfl, mul_ok h5, by show 2 ≤ sizeLine; decide, fun T hT => ⟨by show 1 ≤ sizeLine; decide, fun R hR => ?_⟩⟩
  rw [mul_zeros n h5, cnil] at *
  have kT := k13.newT (o := .tup [.str (S (zeros n)), .str (S [])]) hT
  have kR := kT.newT (o := .lst [.ref T]) hR
  intro d hd
  have kd := kR.newT (o := .dK []) hd
  refine ⟨_, rfl, b, _, 0, _, rfl, rfl, SqT.is (((Keep.new hT).newT hR).newT hd |>.tup hb), rfl, S [48], (n : Int), by rw [c0], rfl, mul_ok h5, upd_same, [(Sum.inr (S (zeros n)), .bl true)], by rw [mul_zeros n h5]; rfl, by show 1 ≤ 15; decide, _, _, rfl, ?_⟩
  have hd0 : H d = none := kR.free hd
  have nRd : R ≠ d := ne_of_none upd_same hd
  have nTR : T ≠ R := ne_of_none upd_same hR
  have e1 : mergeK [] [((Sum.inr (S (zeros n)) : Key), V.bl true)] = kvOf (bfsAt n 0).2 := rfl
  rw [e1, upd_upd]
  generalize hH4 : upd (upd (upd H3 T (.tup [.str (S (zeros n)), .str (S [])])) R (.lst [.ref T])) d (.dK (kvOf (bfsAt n 0).2)) = H4
  have k4 : Keep H H4 := by
    rw [← hH4]
    exact kR.newT hd
  have k34 : Keep H3 H4 := by
    rw [← hH4]
    exact ((Keep.new hT).newT hR).newT hd
  have f1 : H4 d = some (.dK (kvOf (bfsAt n 0).2)) := by
    rw [← hH4]
    exact upd_same
  have f2 : H4 R = some (.lst [.ref T]) := by
    rw [← hH4, upd_ne nRd]
    exact upd_same
  have f3 : H4 T = some (.tup [.str (S (zeros n)), .str (S [])]) := by
    have ndT : T ≠ d := by
      refine ne_of_none (o := .tup [.str (S (zeros n)), .str (S [])]) ?_ hd
      rw [upd_ne nTR]
      exact upd_same
    rw [← hH4, upd_ne ndT, upd_ne nTR]
    exact upd_same
  have r0 : RowsAt H4 [.ref T] (bfsAt n 0).1 := (RowsAt.nil (H := H4)).snoc (r := (zeros n, [])) f3
  refine ⟨fun m σ H' => ∃ j R xs y5 y6 y7 y8 y9 y10, j + m = 16 ∧ σ = [some (.ref b), some x, some y, some (.ref R), some (.ref d), y5, y6, y7, y8, y9, y10] ∧ Keep H H' ∧ H' R = some (.lst xs) ∧ RowsAt H' xs (bfsAt n j).1 ∧ H' d = some (.dK (kvOf (bfsAt n j).2)) ∧
      bfsRes (okM ws lo hi) (17 - j) (bfsAt n j) = bfsRes (okM ws lo hi) 17 (bfsAt n 0), ⟨16, 0, R, _, none, none, none, none, none, none, rfl, rfl, k4, f2, r0, f1, rfl⟩, ?_⟩
  clear f1 f2 f3 r0 hH4 k34 k4 hR kR kd nRd nTR e1 H4
  rintro m σ H4 ⟨j, R, xs, y5, y6, y7, y8, y9, y10, hjm, rfl, k4, fR, fr, fd, hres⟩
  obtain ⟨gr, lr, lk⟩ := bfs_fact n h5 j (by omega)
  refine ⟨_, rfl, !xs.isEmpty, .inl ⟨xs, SqL.is fR, rfl⟩, ?_⟩
  by_cases hemp : (bfsAt n j).1 = []
  · -- nothing is left
    have ex : xs = [] := List.eq_nil_of_length_eq_zero (by rw [fr.1, hemp]; rfl)
    rw [ex]
    refine iteF ?_
    rw [bfs_nil hemp] at hres
    have q := k H4 k4
    rw [← hres] at q
    exact q
  · have hj16 : j < 16 := by
      refine Nat.lt_of_not_le fun hge => hemp ?_
      have : j = 16 := by omega
      subst this
      exact bfs_end n h5 h1
    have ex : xs.isEmpty = false := by
      cases xs with
      | nil => exact absurd (List.eq_nil_of_length_eq_zero fr.1.symm) hemp
      | cons _ _ => rfl
    rw [ex]
    refine iteT ⟨fun σ' H' => ∃ R xs y5 y6 y7 y8 y9 y10, σ' = [some (.ref b), some x, some y, some (.ref R), some (.ref d), y5, y6, y7, y8, y9, y10] ∧ Keep H H' ∧ H' R = some (.lst xs) ∧ RowsAt H' xs (bfsAt n (j + 1)).1 ∧ H' d = some (.dK (kvOf (bfsAt n (j + 1)).2)) ∧
      bfsRes (okM ws lo hi) (17 - (j + 1)) (bfsAt n (j + 1)) = bfsRes (okM ws lo hi) 17 (bfsAt n 0), fun σ' H' ⟨R, xs, y5, y6, y7, y8, y9, y10, hN⟩ => ⟨m - 1, by omega, j + 1, R, xs, y5, y6, y7, y8, y9, y10, by omega, hN⟩, ?_⟩
    have unf := bfs_one (ok := okM ws lo hi) (f := 17 - (j + 1)) hemp
    rw [show 17 - (j + 1) + 1 = 17 - j by omega, hres] at unf
    have hnx : bfsAt n (j + 1) = bfsNext (bfsAt n j) := rfl
    rw [hnx]
    generalize hs : bfsAt n j = st0 at *
    obtain ⟨rows, known⟩ := st0
    dsimp only at *
    refine ⟨Nat.zero_le _, fun M hM => ?_⟩
    have M0 : H M = none := k4.free hM
    have nRM : R ≠ M := ne_of_none fR hM
    have ndM : d ≠ M := ne_of_none fd hM
    refine ⟨_, rfl, R, rfl, ⟨xs, SqL.is (by rw [upd_ne nRM]; exact fR)⟩, for_it (walk_list (xs := xs)) (fun i σ H' => ∃ y6 y7 y8 y9 y10, σ = [some (.ref b), some x, some y, some (.ref R), some (.ref d), some (.ref M), y6, y7, y8, y9, y10] ∧ BfsAt H H' d M ((rows.take i).foldl bfsItem (known, [])) ∧
        H' R = some (.lst xs) ∧ RowsAt H' xs rows ∧ ∀ q ∈ rows.take i, okM ws lo hi q.1 = false)
      ⟨y6, y7, y8, y9, y10, rfl, ⟨k4.newT hM, by rw [upd_ne ndM]; exact fd, ⟨[], upd_same, RowsAt.nil⟩, by show known.length ≤ 200; omega, Nat.zero_le _⟩, by rw [upd_ne nRM]; exact fR, fr.mono (Keep.new hM).t, fun q hq => by rw [List.take_zero] at hq; exact absurd hq List.not_mem_nil⟩
      (fun i σ H' _ ⟨_, _, _, _, _, _, _, hR', _⟩ => SqL.is hR') ?_ ?_⟩
    · rintro i z σ H5 H6 hil ⟨z6, z7, z8, z9, z10, rfl, bs, hR5, hr5, hno⟩ ⟨rfl, hz⟩
      have hir : i < rows.length := by rw [← fr.1]; exact hil
      have hri : rows[i]? = some rows[i] := List.getElem?_eq_getElem hir
      obtain ⟨t, ht, hT6⟩ := hr5.2 i _ hri
      rw [hz] at ht
      cases ht
      have gi := List.all_eq_true.mp gr _ (List.getElem_mem hir)
      unfold goodRow at gi
      simp only [Bool.and_eq_true, decide_eq_true_eq] at gi
      obtain ⟨⟨⟨gm, gw⟩, _⟩, _⟩ := gi
      have hlen := mems_len n h5 _ gm
      have lens := bfsRow_len (rows.take i) (known, [])
      have ltk : (rows.take i).length ≤ 32 := by rw [List.length_take]; omega
      have l0 : ((known, []) : Bst).1.length = known.length := rfl
      have l00 : ((known, []) : Bst).2.length = 0 := rfl
      have step := foldl_take bfsItem hri (known, [])
      generalize hst : (rows.take i).foldl bfsItem (known, []) = st at *
      generalize hrow : rows[i] = row at *
      obtain ⟨m, wd⟩ := row
      dsimp only at *
      refine ⟨t, _, rfl, SqT.is hT6, rfl, _, _, rfl, _, _, rfl, rfl, ?_⟩
      refine ⟨_, rfl, _, rfl, .ref b, n, ws, m, rfl, hB.mono bs.keep.t, g, hlen, fun u H7 k7 hu7 => ?_⟩
      have kx := bs.keep.trans k7
      have bdo : Bd 1000 (outL ws m) := (outL_bd g m).mono (by decide)
      have bs7 : BfsAt H H7 d M st := by
        obtain ⟨ms, hm1, hm2⟩ := bs.ml
        exact ⟨kx, k7.dK bs.dk, ⟨ms, k7.lst hm1, hm2.mono k7.t⟩, bs.few⟩
      have hR7 := k7.lst hR5
      have hr7 := hr5.mono k7.t
      refine ⟨_, rfl, _, rfl, u, x, _, _, rfl, hu7, hx.mono kx.t, bdo, b1, _, rfl, ?_⟩
      -- the row is no goal: its two letters
      have letters : okM ws lo hi m = false → tFor (iStr (tC (.str (Str.ofString "du")))) (gName 9) (tSeq (tAsg (tCall spStep [] E0 (tCons (tVar 6) (tCons (tVar 9) tNil))) (gName 10))
          (tIfS (tB (tDNotIn (tVar 10) (tVar 4))) (tSeq (sDPut (tVar 4) (tVar 10) (tC (.bl true))) (tDrop (tBM K "list" rAppend (tVar 5) (tCons (tTup (tCons (tVar 10) (tCons (tOp (fun x y H Q => ∃ i j, x = .str i ∧ y = .str j ∧ i.length + j.length ≤ sizeLine ∧ Q (.str (i ++ j)) H) (tVar 7) (tVar 9)) tNil))) tNil)))) tNext))
          { nx := fun σ H' => ∃ y6 y7 y8 y9 y10, σ = [some (.ref b), some x, some y, some (.ref R), some (.ref d), some (.ref M), y6, y7, y8, y9, y10] ∧ BfsAt H H' d M ((rows.take (i + 1)).foldl bfsItem (known, [])) ∧ H' R = some (.lst xs) ∧ RowsAt H' xs rows ∧ ∀ q ∈ rows.take (i + 1), okM ws lo hi q.1 = false,
            rt := Q } [some (.ref b), some x, some y, some (.ref R), some (.ref d), some (.ref M), some (.str (S m)), some (.str (S wd)), some u, z9, z10] H7 := by
        intro hok
        rw [cdu]
        refine ⟨_, rfl, for_it walk_str (fun j2 σ H' => ∃ y9 y10, σ = [some (.ref b), some x, some y, some (.ref R), some (.ref d), some (.ref M), some (.str (S m)), some (.str (S wd)), some u, y9, y10] ∧ BfsAt H H' d M (([false, true].take j2).foldl (bfsU m wd) st) ∧ H' R = some (.lst xs) ∧ RowsAt H' xs rows)
          ⟨z9, z10, rfl, bs7, hR7, hr7⟩ (fun _ _ _ _ _ => trivial) ?_ ?_⟩
        · rintro j2 l σ H8 H9 hj2 ⟨w9, w10, rfl, bs8, hR8, hr8⟩ ⟨rfl, cc, hcc, rfl⟩
          rw [S_at] at hcc
          rw [S_size] at hj2
          have hj2' : j2 < 2 := hj2
          obtain ⟨up, hup1, hup2⟩ := du_at hj2'
          rw [hup1] at hcc
          cases hcc
          have stepU := foldl_take (bfsU m wd) hup2 st
          have few8 : (([false, true].take j2).foldl (bfsU m wd) st).1.length ≤ 100 ∧ (([false, true].take j2).foldl (bfsU m wd) st).2.length ≤ 100 := by
            have a := bfsU_len m wd st false
            match j2, hj2' with
            | 0, _ =>
              show st.1.length ≤ 100 ∧ st.2.length ≤ 100
              omega
            | 1, _ =>
              show (bfsU m wd st false).1.length ≤ 100 ∧ (bfsU m wd st false).2.length ≤ 100
              omega
          rw [stepU]
          generalize ([false, true].take j2).foldl (bfsU m wd) st = su at *
          refine ⟨_, rfl, _, rfl, n, m, up, rfl, h5, gm, fun H10 k10 => ?_⟩
          obtain ⟨ms, hm1, hm2⟩ := bs8.ml
          have bs10 : BfsAt H H10 d M su := ⟨bs8.keep.trans k10, k10.dK bs8.dk, ⟨ms, k10.lst hm1, hm2.mono k10.t⟩, bs8.few⟩
          have hR10 := k10.lst hR8
          have hr10 := hr8.mono k10.t
          have hm10 := k10.lst hm1
          have hmr10 := hm2.mono k10.t
          refine ⟨_, rfl, _, rfl, d, _, rfl, DGet.k (k := Sum.inr (S (stepL up m))) bs10.dk, _, rfl, ?_⟩
          rw [kvOf_get]
          by_cases hin : stepL up m ∈ su.1
          · rw [if_pos hin]
            refine iteF ⟨_, _, rfl, ?_, hR10, hr10⟩
            unfold bfsU
            rw [if_pos hin]
            exact bs10
          · rw [if_neg hin]
            refine iteT ⟨_, rfl, _, rfl, d, _, rfl, DPut.k (k := Sum.inr (S (stepL up m))) bs10.dk (by rw [kvOf_len]; exact small1000 (by omega)), ?_⟩
            rw [kvOf_snoc _ _ hin]
            have nMd : M ≠ d := ne_of hm10 bs10.dk (by intro z; cases z)
            refine ⟨_, rfl, .inl ⟨rfl, _, SqL.is (by rw [upd_ne nMd]; exact hm10)⟩, _, rfl, _, rfl, _, rfl, _, _, rfl, rfl, ?_, by show 2 ≤ sizeLine; decide, fun T hT => ?_⟩
            · show (S wd).length + (S [lett up]).length ≤ sizeLine
              rw [S_len, S_len]
              exact small9 (by show wd.length + 1 ≤ 1000; omega)
            have nMT : M ≠ T := ne_of_none (by rw [upd_ne nMd]; exact hm10) hT
            have eapp : (S wd ++ Str.mk #[lett up] : Str) = S (wd ++ [lett up]) := S_app wd [lett up]
            have hput := bs10.put hd0 M0 hin few8 hm10 hmr10 hT (m := m) (w := wd) (u := up)
            rw [eapp]
            refine ⟨M, ms, .ref T, rfl, rfl, ?_, ?_, some (.str ⟨#[lett up]⟩), some (.str (S (stepL up m))), rfl, hput, ?_, ?_⟩
            · rw [upd_ne nMT, upd_ne nMd]
              exact hm10
            · rw [hmr10.1]
              exact small1000 (by omega)
            · have nRd : R ≠ d := ne_of hR10 bs10.dk (by intro z; cases z)
              have hRT : R ≠ T := ne_of_none (by rw [upd_ne nRd]; exact hR10) hT
              rw [upd_ne nRM, upd_ne hRT, upd_ne nRd]
              exact hR10
            · have kt : KeepT H10 (upd (upd (upd H10 d (.dK (kvOf (su.1 ++ [stepL up m])))) T (.tup [.str (S (stepL up m)), .str (S (wd ++ [lett up]))])) M (.lst (ms ++ [.ref T]))) :=
                (((KeepT.refl H10).dK bs10.dk).new hT).lst (by rw [upd_ne nMT, upd_ne nMd]; exact hm10)
              exact hr10.mono kt
        · rintro σ H8 ⟨w9, w10, rfl, bs8, hR8, hr8⟩
          refine ⟨_, _, _, _, _, rfl, ?_, hR8, hr8, ?_⟩
          · rw [step]
            exact bs8
          · intro q hq
            rw [take_snoc hri] at hq
            rcases List.mem_append.mp hq with z | z
            · exact hno q z
            · rw [List.mem_singleton.mp z]
              exact hok
      by_cases ha : rless (outL ws m) lo = true
      · rw [ha]
        refine iteF (iteF (letters ?_))
        unfold okM
        rw [ha]
        rfl
      · have ha' : rless (outL ws m) lo = false := Bool.eq_false_iff.mpr ha
        rw [ha']
        refine iteT ⟨_, rfl, _, rfl, y, u, _, _, rfl, hy.mono kx.t, hu7, b2, bdo, _, rfl, ?_⟩
        by_cases hb2 : rless hi (outL ws m) = true
        · rw [hb2]
          refine iteF (letters ?_)
          unfold okM
          rw [ha', hb2]
          rfl
        · have hb2' : rless hi (outL ws m) = false := Bool.eq_false_iff.mpr hb2
          rw [hb2']
          have hok : okM ws lo hi m = true := by
            unfold okM
            rw [ha', hb2']
            rfl
          rw [find_first hri hno hok] at unf
          refine iteT ⟨_, rfl, ?_⟩
          have q := k H7 kx
          rw [unf] at q
          exact q
    · rintro σ H5 ⟨z6, z7, z8, z9, z10, rfl, bs, hR5, hr5, hno⟩
      rw [fr.1, List.take_length] at bs hno
      obtain ⟨ms, hm1, hm2⟩ := bs.ml
      rw [find_none hno] at unf
      exact ⟨_, rfl, M, ms, _, z6, z7, z8, z9, z10, rfl, bs.keep, hm1, hm2, bs.dk, unf.symm⟩
end
end R31
namespace R31
open PySem PySem.Spec PyProof.Rows L2
theorem atI_of {α : Type} {xs : List α} {z : Int} {j : Nat} {v : α} (e : z = (j : Int)) (h : xs[j]? = some v) : atI xs z = some v := by
  rw [e]
  exact atI_nat h
/-! ### the draws -/
structure RowAt (K : PySem.W.Frag) (H0 H : Hp) (r : Addr) : Prop where
  keep : Keep H0 H
  new : H0 r = none
  here : ∃ (a : Addr) (ns : List Int) (i sd rs : Int), H r = some (.lst [.ref a, .int i, .int sd, .int rs]) ∧ SqL K H0 a (ns.map V.int) ∧ ns.length ≤ 63 ∧ 0 ≤ i ∧ 0 ≤ sd ∧ sd < 2147483647
theorem RowAt.on {K : PySem.W.Frag} {H0 H H' : Hp} {r : Addr} (R : RowAt K H0 H r) (k : Keep H H') : RowAt K H0 H' r := by
  obtain ⟨a, ns, i, sd, rs, h, q⟩ := R.here
  exact ⟨R.keep.trans k, R.new, a, ns, i, sd, rs, k.lst h, q⟩
theorem KeepBut.from {H0 H H' : Hp} {r : Addr} (k : Keep H0 H) (n : H0 r = none) (b : KeepBut r H H') : Keep H0 H' := fun c o h => by
  have nc : c ≠ r := ne_of_none h n
  rcases k c o h with e | ⟨t, u, e, tu⟩
  · exact b c o nc e
  · rcases b c u nc e with e2 | ⟨_, u2, e2, t2⟩
    · exact .inr ⟨t, u, e2, tu⟩
    · exact .inr ⟨t, u2, e2, t2⟩
def spTaken (K : PySem.W.Frag) : Sp := fun vs H Q _ => ∃ (H0 : Hp) (r : Addr) (many : Int), vs = [.ref r, .int many] ∧ RowAt K H0 H r ∧ 0 < many ∧ many ≤ 1000 ∧ ∀ v H', 0 ≤ v → v < many → KeepBut r H H' → RowAt K H0 H' r → Q (.int v) H'
theorem fmod_in {x m : Int} (h : 0 < m) : 0 ≤ x.fmod m ∧ x.fmod m < m := by
  rw [Int.fmod_eq_emod_of_nonneg x (Int.le_of_lt h)]
  exact ⟨Int.emod_nonneg _ (by omega), Int.emod_lt_of_pos _ h⟩
def spPick (K : PySem.W.Frag) : Sp := fun vs H Q _ => ∃ (H0 : Hp) (r : Addr) (x : V), vs = [.ref r, x] ∧ RowAt K H0 H r ∧
  ((∃ l xs, x = .ref l ∧ H l = some (.lst xs) ∧ l ≠ r ∧ 0 < xs.length ∧ xs.length ≤ 100 ∧ ∀ y H', y ∈ xs → KeepBut r H H' → RowAt K H0 H' r → Q y H') ∨
   (∃ z : List Nat, x = .str (S z) ∧ 0 < z.length ∧ z.length ≤ 100 ∧ ∀ c H', c ∈ z → KeepBut r H H' → RowAt K H0 H' r → Q (.str (S [c])) H'))
section
variable {P : Program} {w : World} {K : PySem.W.Frag} {mg : Str → Option Value} {base : Heap} {f c Pr Pi : Addr} {fd : FuncData}
theorem ok_taken (D : Def K mg "_law_taken" s__law_taken ["_law_row", "_law_many"] f fd) (Z : Zs mg) : Callee P w K mg base 1 "_law_taken" ["_law_row", "_law_many"] (spTaken K) := by
  refine D.ok sc__law_taken (fun vs H Q E h => ?_) (fun cdv A outer s H vs Q E hr h => ?_)
  · obtain ⟨H0, r, many, rfl, _⟩ := h
    rfl
  obtain ⟨H0, r, many, rfl, R, m0, m1, k⟩ := h
  obtain ⟨kp, rn, a, ns, i, sd, rs, hR, hS, hl, i0, s0, s1⟩ := R
  have nd := sc__law_taken.nd
  have cdv1 : ∀ x : Int, CDivW x many := fun x => wide_div (b := 12) m0 (by show many.natAbs < 4096; omega) (by decide) (by decide)
  have mne : many ≠ 0 := by omega
  have row : ∀ (H' : Hp) (i' sd' rs' : Int), KeepBut r H H' → H' r = some (.lst [.ref a, .int i', .int sd', .int rs']) → 0 ≤ i' → 0 ≤ sd' → sd' < 2147483647 → RowAt K H0 H' r := fun H' i' sd' rs' kb h1 h2 h3 h4 => ⟨KeepBut.from kp rn kb, rn, a, ns, i', sd', rs', h1, hS, hl, h2, h3, h4⟩
  have kb0 : KeepBut r H H := KeepBut.refl r H
  refine ⟨_, (pss_cons (ps_if (pt_cmpR op_gt (pe_ix ix_list (pv 0) pe_int (fun _ _ => rfl)) pe_int (nomark _)) (pss_cons (ps_set (i := 2) nd rfl (Or.inl rfl) (pe_op op_modN (pe_callTy call_int1 (by rfl) Z.z_int (by decide +kernel) (pa_cons (pe_ix ix_list (pv 0) pe_int (fun _ _ => rfl)) pa_nil)) (pv 1)))
    (pss_cons (ps_asg (pe_op op_fdivW (pe_ix ix_list (pv 0) pe_int (fun _ _ => rfl)) (pv 1)) (pg_sub (pv 0) pe_int set_list))
    (pss_one (ps_ret (pv 2))))) pss_nil)
    (pss_cons (ps_asg (pe_op op_add (pe_ix ix_list (pv 0) pe_int (fun _ _ => rfl)) pe_int) (pg_sub (pv 0) pe_int set_list))
    (pss_cons (ps_if (pt_cmpR op_gt (pe_ix ix_list (pv 0) pe_int (fun _ _ => rfl)) (pe_callB call_len (by rfl) Z.z_len (by decide +kernel) (pa_cons (pe_ix ix_list (pv 0) pe_int (fun _ _ => rfl)) pa_nil)) (nomark _)) (pss_cons (ps_asg (pe_op op_modN (pe_callTy call_int1 (by rfl) Z.z_int (by decide +kernel) (pa_cons (pe_op op_add (pe_op op_mulW (pe_ix ix_list (pv 0) pe_int (fun _ _ => rfl)) pe_int) pe_int) pa_nil)) pe_int) (pg_sub (pv 0) pe_int set_list))
    (pss_one (ps_ret (pe_op op_modN (pe_callTy call_int1 (by rfl) Z.z_int (by decide +kernel) (pa_cons (pe_op op_fdivW (pe_ix ix_list (pv 0) pe_int (fun _ _ => rfl)) pe_int) pa_nil)) (pv 1))))) pss_nil)
    (pss_cons (ps_set (i := 3) nd rfl (Or.inl rfl) (pe_ix ix_list (pe_ix ix_list (pv 0) pe_int (fun _ _ => rfl)) (pe_op op_sub (pe_ix ix_list (pv 0) pe_int (fun _ _ => rfl)) pe_int) (fun _ _ => rfl)))
    (pss_cons (ps_asg (pe_op op_modN (pe_callTy call_int1 (by rfl) Z.z_int (by decide +kernel) (pa_cons (pe_op op_add (pe_op op_add (pe_op op_mulW (pe_ix ix_list (pv 0) pe_int (fun _ _ => rfl)) pe_int) (pv 3)) pe_int) pa_nil)) pe_int) (pg_sub (pv 0) pe_int set_list))
    (pss_cons (ps_if (pt_cmpR op_ge (pv 3) (pe_op op_pow pe_int pe_int) (nomark _)) (pss_one (ps_asg (pe_op op_fdivW (pv 3) (pv 1)) (pg_sub (pv 0) pe_int set_list))) pss_nil)
    (pss_one (ps_ret (pe_op op_modN (pe_callTy call_int1 (by rfl) Z.z_int (by decide +kernel) (pa_cons (pv 3) pa_nil)) (pv 1)))))))))), ?_⟩
  refine ⟨_, rfl, r, _, 3, _, rfl, rfl, SqL.is hR, rfl, _, _, rfl, rfl, _, rfl, ?_⟩
  by_cases h3 : (0 : Int) < rs
  · rw [decide_eq_true h3]
    obtain ⟨v0, v1⟩ := fmod_in (x := rs) m0
    refine iteT ⟨_, rfl, r, _, 3, _, rfl, rfl, SqL.is hR, rfl, .inl ⟨_, rfl, _, rfl, _, _, rfl, rfl, mne, ?_⟩⟩
    refine ⟨_, rfl, r, _, 3, _, rfl, rfl, SqL.is hR, rfl, _, rfl, _, _, rfl, rfl, cdv1 _, _, rfl, r, _, 3, 3, rfl, rfl, hR, rfl, ?_⟩
    exact ⟨_, rfl, k _ _ v0 v1 kb0.upd (row _ i sd _ kb0.upd upd_same i0 s0 s1)⟩
  · rw [decide_eq_false h3]
    refine iteF ⟨_, rfl, r, _, 1, _, rfl, rfl, SqL.is hR, rfl, _, _, rfl, rfl, _, rfl, r, _, 1, 1, rfl, rfl, hR, rfl, ?_⟩
    -- row[1] = row[1] + 1
    have hR1 : upd H r (.lst [.ref a, .int (i + 1), .int sd, .int rs]) r = some (.lst [.ref a, .int (i + 1), .int sd, .int rs]) := upd_same
    have kb1 : KeepBut r H (upd H r (.lst [.ref a, .int (i + 1), .int sd, .int rs])) := kb0.upd
    show _
    refine ⟨_, rfl, r, _, 1, _, rfl, rfl, SqL.is hR1, rfl, _, rfl, r, _, 0, _, rfl, rfl, SqL.is hR1, rfl, _, ns.length, rfl, .inl ⟨_, (KeepBut.from kp rn kb1).seq hS, (List.length_map _).symm⟩, _, _, rfl, rfl, _, rfl, ?_⟩
    have mul1 : CMulW sd 48271 := wide_mul (a := 31) (b := 16) (by show sd.natAbs < 2147483648; omega) (by decide) (by decide) (by decide) (by decide)
    by_cases h4 : ((ns.length : Nat) : Int) < i + 1
    · rw [decide_eq_true h4]
      obtain ⟨w0, w1⟩ := fmod_in (x := sd * 48271 + 11) (m := 2147483647) (by decide)
      refine iteT ⟨_, rfl, r, _, 2, _, rfl, rfl, SqL.is hR1, rfl, _, _, rfl, rfl, mul1, _, _, rfl, rfl, .inl ⟨_, rfl, _, _, rfl, rfl, (by show (2147483647 : Int) ≠ 0; decide), _, rfl, r, _, 2, 2, rfl, rfl, hR1, rfl, ?_⟩⟩
      have kb2 := kb1.upd (o := .lst [.ref a, .int (i + 1), .int ((sd * 48271 + 11).fmod 2147483647), .int rs])
      have hR2 : (upd (upd H r (.lst [.ref a, .int (i + 1), .int sd, .int rs])) r (.lst [.ref a, .int (i + 1), .int ((sd * 48271 + 11).fmod 2147483647), .int rs])) r = some (.lst [.ref a, .int (i + 1), .int ((sd * 48271 + 11).fmod 2147483647), .int rs]) := upd_same
      obtain ⟨v0, v1⟩ := fmod_in (x := (sd * 48271 + 11).fmod 2147483647 / 7) m0
      refine ⟨_, rfl, r, _, 2, _, rfl, rfl, SqL.is hR2, rfl, _, _, rfl, rfl, wide_div (b := 12) (by decide) (by decide) (by decide) (by decide), .inl ⟨_, rfl, _, rfl, _, _, rfl, rfl, mne, ?_⟩⟩
      exact k _ _ v0 v1 kb2 (row _ _ _ _ kb2 hR2 (by omega) w0 w1)
    · rw [decide_eq_false h4]
      have hi : i.toNat < ns.length := by omega
      have ei : i + 1 - 1 = ((i.toNat : Nat) : Int) := by omega
      have hat : atI (ns.map V.int) (i + 1 - 1) = some (.int ns[i.toNat]) := by
        rw [ei]
        exact atI_nat (by rw [List.getElem?_map, List.getElem?_eq_getElem hi]; rfl)
      refine iteF ⟨_, rfl, r, _, 0, _, rfl, rfl, SqL.is hR1, rfl, _, rfl, r, _, 1, _, rfl, rfl, SqL.is hR1, rfl, _, _, rfl, rfl, a, _, _, _, rfl, rfl, (KeepBut.from kp rn kb1).seq hS, hat, ?_⟩
      generalize ns[i.toNat] = cell
      obtain ⟨w0, w1⟩ := fmod_in (x := sd * 48271 + cell + 11) (m := 2147483647) (by decide)
      refine ⟨_, rfl, r, _, 2, _, rfl, rfl, SqL.is hR1, rfl, _, _, rfl, rfl, mul1, _, rfl, _, _, rfl, rfl, _, _, rfl, rfl, .inl ⟨_, rfl, _, _, rfl, rfl, (by show (2147483647 : Int) ≠ 0; decide), _, rfl, r, _, 2, 2, rfl, rfl, hR1, rfl, ?_⟩⟩
      have kb2 := kb1.upd (o := .lst [.ref a, .int (i + 1), .int ((sd * 48271 + cell + 11).fmod 2147483647), .int rs])
      have hR2 : (upd (upd H r (.lst [.ref a, .int (i + 1), .int sd, .int rs])) r (.lst [.ref a, .int (i + 1), .int ((sd * 48271 + cell + 11).fmod 2147483647), .int rs])) r = some (.lst [.ref a, .int (i + 1), .int ((sd * 48271 + cell + 11).fmod 2147483647), .int rs]) := upd_same
      obtain ⟨v0, v1⟩ := fmod_in (x := cell) m0
      refine ⟨_, rfl, _, _, rfl, rfl, ⟨by decide, by decide, by decide⟩, _, _, rfl, rfl, _, rfl, ?_⟩
      refine ite2 (fun _ => ?_) (fun _ => ?_)
      · refine ⟨_, rfl, _, rfl, _, _, rfl, rfl, cdv1 _, _, rfl, r, _, 3, 3, rfl, rfl, hR2, rfl, ?_⟩
        have kb3 := kb2.upd (o := .lst [.ref a, .int (i + 1), .int ((sd * 48271 + cell + 11).fmod 2147483647), .int (cell / many)])
        exact ⟨_, rfl, .inl ⟨_, rfl, _, rfl, _, _, rfl, rfl, mne, k _ _ v0 v1 kb3 (row _ _ _ _ kb3 upd_same (by omega) w0 w1)⟩⟩
      · exact ⟨_, rfl, .inl ⟨_, rfl, _, rfl, _, _, rfl, rfl, mne, k _ _ v0 v1 kb2 (row _ _ _ _ kb2 hR2 (by omega) w0 w1)⟩⟩
theorem ok_pick (D : Def K mg "_law_pick" s__law_pick ["_law_row", "_law_things"] f fd) (C__law_taken : Callee P w K mg base 1 "_law_taken" ["_law_row", "_law_many"] (spTaken K)) (Z : Zs mg) : Callee P w K mg base 2 "_law_pick" ["_law_row", "_law_things"] (spPick K) := by
  refine D.ok sc__law_pick (fun vs H Q E h => ?_) (fun cdv A outer s H vs Q E hr h => ?_)
  · obtain ⟨H0, r, x, rfl, _⟩ := h
    rfl
  obtain ⟨H0, r, x, rfl, R, h⟩ := h
  have nd := sc__law_pick.nd
  refine ⟨_, (pss_one (ps_ret (pe_ix ix_seq (pv 1) (pe_cl C__law_taken (hr.mono (by decide)) (by rfl) (pa_cons (pv 0) (pa_cons (pe_callB call_len (by rfl) Z.z_len (by decide +kernel) (pa_cons (pv 1) pa_nil)) pa_nil))) (fun _ _ => rfl)))), ?_⟩
  rcases h with ⟨l, xs, rfl, hl, nlr, l0, l1, k⟩ | ⟨z, rfl, l0, l1, k⟩
  · refine ⟨_, rfl, _, rfl, _, rfl, _, xs.length, rfl, .inl ⟨_, SqL.is hl, rfl⟩, H0, r, _, rfl, R, by omega, by omega, fun v H' v0 v1 kb R' => ?_⟩
    have ev : v = ((v.toNat : Nat) : Int) := by omega
    have hv : v.toNat < xs.length := by omega
    refine .inl ⟨l, xs, v, xs[v.toNat], rfl, rfl, SqL.is (kb.lst nlr hl), ?_, k _ H' (List.getElem_mem hv) kb R'⟩
    exact atI_of ev (List.getElem?_eq_getElem hv)
  · refine ⟨_, rfl, _, rfl, _, rfl, _, z.length, rfl, ⟨small9 (by rw [S_len]; omega), (S_len z).symm⟩, H0, r, _, rfl, R, by omega, by omega, fun v H' v0 v1 kb R' => ?_⟩
    have ev : v = ((v.toNat : Nat) : Int) := by omega
    have hv : v.toNat < z.length := by omega
    refine .inr (.inr ⟨S z, v, z[v.toNat], rfl, rfl, small9 (by rw [S_len]; omega), ?_, k _ H' (List.getElem_mem hv) kb R'⟩)
    rw [S_list]
    exact atI_of ev (List.getElem?_eq_getElem hv)
end
end R31
namespace R31
open PySem PySem.Spec PyProof.Rows L2
theorem perm_uniq {α : Type} {le : α → α → Prop} (anti : ∀ a b, le a b → le b a → a = b) : ∀ {l m : List α}, l.Pairwise le → m.Pairwise le → l.Perm m → l = m
  | [], m, _, _, h => (List.nil_perm.mp h).symm
  | a :: l, [], _, _, h => absurd (List.perm_nil.mp h) (by simp)
  | a :: l, b :: m, h1, h2, h => by
    obtain ⟨a1, a2⟩ := List.pairwise_cons.mp h1
    obtain ⟨b1, b2⟩ := List.pairwise_cons.mp h2
    have e : a = b := by
      rcases List.mem_cons.mp (h.mem_iff.mp (List.mem_cons_self (a := a) (l := l))) with z | z
      · exact z
      · rcases List.mem_cons.mp (h.mem_iff.mpr (List.mem_cons_self (a := b) (l := m))) with y | y
        · exact y.symm
        · exact anti a b (a1 b y) (b1 a z)
    subst e
    rw [perm_uniq anti a2 b2 ((List.perm_cons a).mp h)]
def lawAll : Nat → List (List Nat)
  | 0 => [[]]
  | n + 1 => (lawAll n).map (· ++ [48]) ++ (lawAll n).map (· ++ [49])
theorem lawAll_perm : ∀ n ≤ 5, (lawAll n).isPerm (mems n) = true := by decide +kernel
theorem lt_fact : ∀ n ≤ 5, ∀ a ∈ mems n, ∀ b ∈ mems n, ltCps (S a).cps.toList (S b).cps.toList = decide ((mems n).idxOf a < (mems n).idxOf b) := by decide +kernel
theorem mems_up : ∀ n ≤ 5, (mems n).Pairwise fun a b => (mems n).idxOf a ≤ (mems n).idxOf b := by decide +kernel
theorem lawAll_len : ∀ n ≤ 5, (lawAll n).length ≤ 32 := by decide +kernel
theorem lawAll_each : ∀ n ≤ 5, ∀ m ∈ lawAll n, m.length = n := by decide +kernel
theorem rising_pw {n : Nat} (h5 : n ≤ 5) : ∀ {l : List (List Nat)} {p : List Nat}, p ∈ mems n → (∀ x ∈ l, x ∈ mems n) → risingS (S p) (l.map S) = true → (p :: l).Pairwise fun a b => (mems n).idxOf a ≤ (mems n).idxOf b
  | [], p, _, _, _ => List.pairwise_singleton _ _
  | x :: r, p, hp, hl, h => by
    have h' : (!ltCps (S x).cps.toList (S p).cps.toList && risingS (S x) (r.map S)) = true := h
    rw [Bool.and_eq_true] at h'
    have hx := hl x List.mem_cons_self
    have ih := rising_pw h5 hx (fun y hy => hl y (List.mem_cons_of_mem _ hy)) h'.2
    have h1 := h'.1
    rw [lt_fact n h5 x hx p hp] at h1
    have le : (mems n).idxOf p ≤ (mems n).idxOf x := by
      have : ¬ (mems n).idxOf x < (mems n).idxOf p := by simpa using h1
      omega
    refine List.pairwise_cons.mpr ⟨fun y hy => ?_, ih⟩
    rcases List.mem_cons.mp hy with z | z
    · rw [z]
      exact le
    · exact Nat.le_trans le ((List.pairwise_cons.mp ih).1 y z)
/-- sorted of all memories -/
theorem sorted_all {n : Nat} (h5 : n ≤ 5) {ys : List Str} (pm : ys.Perm ((lawAll n).map S)) (so : sortedS ys = true) : ys = (mems n).map S := by
  have hS : ∀ y ∈ ys, S y.cps.toList = y := fun y _ => by
    cases y
    simp [S]
  have e : ys = (ys.map fun y => y.cps.toList).map S := by
    rw [List.map_map]
    have : ys.map (S ∘ fun y => y.cps.toList) = ys.map id := List.map_congr_left fun y hy => hS y hy
    rw [this, List.map_id]
  have p1 : (ys.map fun y => y.cps.toList).Perm (mems n) := by
    refine (pm.map fun y => y.cps.toList).trans ?_
    rw [List.map_map]
    have : (lawAll n).map ((fun y : Str => y.cps.toList) ∘ S) = lawAll n := by
      have : (lawAll n).map ((fun y : Str => y.cps.toList) ∘ S) = (lawAll n).map id := List.map_congr_left fun y _ => S_list y
      rw [this, List.map_id]
    rw [this]
    exact List.isPerm_iff.mp (lawAll_perm n h5)
  generalize ys.map (fun y => y.cps.toList) = l at e p1
  rw [e] at so
  rw [e]
  congr 1
  have mem : ∀ x ∈ l, x ∈ mems n := fun x hx => p1.mem_iff.mp hx
  have anti : ∀ a b : List Nat, (a ∈ mems n ∧ b ∈ mems n ∧ (mems n).idxOf a ≤ (mems n).idxOf b) → (b ∈ mems n ∧ a ∈ mems n ∧ (mems n).idxOf b ≤ (mems n).idxOf a) → a = b := fun a b x y => idx_inj x.1 x.2.1 (by omega)
  have up : ∀ {l : List (List Nat)}, (∀ x ∈ l, x ∈ mems n) → l.Pairwise (fun a b => (mems n).idxOf a ≤ (mems n).idxOf b) → l.Pairwise fun a b => a ∈ mems n ∧ b ∈ mems n ∧ (mems n).idxOf a ≤ (mems n).idxOf b := fun {l} hm hp =>
    List.Pairwise.imp_of_mem (fun {a b} ha hb h => ⟨hm a ha, hm b hb, h⟩) hp
  have pw : l.Pairwise fun a b => (mems n).idxOf a ≤ (mems n).idxOf b := by
    cases l with
    | nil => exact List.Pairwise.nil
    | cons p r => exact rising_pw h5 (mem p List.mem_cons_self) (fun x hx => mem x (List.mem_cons_of_mem _ hx)) so
  exact perm_uniq anti (up mem pw) (up (fun _ h => h) (mems_up n h5)) p1
end R31
namespace R31
open PySem PySem.Spec PyProof.Rows L2
section
variable {P : Program} {w : World} {K : PySem.W.Frag} {mg : Str → Option Value} {base : Heap} {f c Pr Pi : Addr} {fd : FuncData}
theorem ok_lratio (D : Def K mg "_law_ratio" s__law_ratio ["_law_top", "_law_bottom"] f fd) (Z : Zs mg) : Callee P w K mg base 1 "_law_ratio" ["_law_top", "_law_bottom"] spRatio := by
  refine D.ok sc__law_ratio (fun vs H Q E h => ?_) (fun cdv A outer s H vs Q E hr h => ?_)
  · obtain ⟨t, b, rfl, _⟩ := h
    rfl
  obtain ⟨t, b, rfl, h0, h1, q⟩ := h
  have nd := sc__law_ratio.nd
  refine ⟨_, (pss_cons (ps_par (i := 2) (j := 3) (by rfl) nd rfl rfl (by decide) rfl rfl (pa_cons (pe_callB call_abs (by rfl) Z.z_abs (by decide +kernel) (pa_cons (pv 0) pa_nil)) (pa_cons (pe_callB call_abs (by rfl) Z.z_abs (by decide +kernel) (pa_cons (pv 1) pa_nil)) pa_nil)) (by rfl))
    (pss_cons (ps_while PassesOwn.never (pt_cmpR op_ne (pv 3) pe_int (nomark _)) (pss_one (ps_par (i := 2) (j := 3) (by rfl) nd rfl rfl (by decide) rfl rfl (pa_cons (pv 3) (pa_cons (pe_op op_modN (pe_callTy call_int1 (by rfl) Z.z_int (by decide +kernel) (pa_cons (pv 2) pa_nil)) (pv 3)) pa_nil)) (by rfl))))
    (pss_one (ps_ret (pe_ifExp (pt_cmpR op_gt (pv 1) pe_int (nomark _)) (pe_tup (pa_cons (pe_op op_fdivW (pv 0) (pv 2)) (pa_cons (pe_op op_fdivW (pv 1) (pv 2)) pa_nil))) (pe_tup (pa_cons (pe_op op_sub pe_int (pe_op op_fdivW (pv 0) (pv 2))) (pa_cons (pe_op op_sub pe_int (pe_op op_fdivW (pv 1) (pv 2))) pa_nil)))))))), ?_⟩
  refine ⟨_, rfl, t, rfl, _, rfl, b, rfl, _, _, rfl, ?_⟩
  have eA : ∀ x : Int, (if x < 0 then -x else x) = ((x.natAbs : Nat) : Int) := fun x => by split <;> omega
  rw [eA, eA]
  refine ⟨fun m σ H' => ∃ x y : Nat, m = y ∧ σ = [some (.int t), some (.int b), some (.int (x : Nat)), some (.int (y : Nat))] ∧ H' = H ∧ Nat.gcd x y = Nat.gcd t.natAbs b.natAbs, ⟨_, t.natAbs, b.natAbs, rfl, rfl, rfl, rfl⟩, ?_⟩
  rintro y σ H' ⟨x, _, rfl, rfl, rfl, hg⟩
  refine ⟨_, rfl, rfl, _, rfl, ?_⟩
  by_cases hy : y = 0
  · subst hy
    refine iteNS rfl ?_
    have ex : ((x : Nat) : Int) = gI t b := by
      unfold gI
      rw [← hg, Nat.gcd_zero_right]
    have hgp : 0 < gI t b := gI_pos h0
    have hd : CDivW t (gI t b) := wide_div (b := 4000) hgp (Nat.lt_of_le_of_lt (gI_le h0) h1) (by decide) (by decide)
    have hd2 : CDivW b (gI t b) := wide_div (b := 4000) hgp (Nat.lt_of_le_of_lt (gI_le h0) h1) (by decide) (by decide)
    rw [ex]
    refine ⟨_, rfl, b, 0, rfl, rfl, _, rfl, ?_⟩
    rw [decide_eq_true h0]
    refine iteT ⟨_, rfl, _, rfl, t, _, rfl, rfl, hd, _, rfl, _, rfl, b, _, rfl, rfl, hd2, (by show 2 ≤ sizeLine; decide), fun p hp => ?_⟩
    exact q _ _ (Keep.new hp) ⟨p, rfl, upd_same⟩
  · have hz : ¬ V.int ((y : Nat) : Int) = V.int 0 := fun z => hy (by have := V.int.inj z; omega)
    rw [decide_eq_false hz]
    have e2 : ((x : Nat) : Int).fmod ((y : Nat) : Int) = ((x % y : Nat) : Int) := by
      rw [Int.fmod_eq_emod_of_nonneg _ (by omega)]
      rfl
    refine iteT ⟨fun σ' H'' => σ' = [some (.int t), some (.int b), some (.int (y : Nat)), some (.int ((x % y : Nat) : Int))] ∧ H'' = H', fun σ' H'' hN => ⟨x % y, Nat.mod_lt _ (Nat.pos_of_ne_zero hy), y, x % y, rfl, hN.1, hN.2, by rw [← hg, Nat.gcd_comm y, ← Nat.gcd_rec, Nat.gcd_comm]⟩, ?_⟩
    refine ⟨_, rfl, _, rfl, .inl ⟨_, rfl, _, rfl, _, _, rfl, rfl, (by show ((y : Nat) : Int) ≠ 0; omega), _, _, rfl, ?_, rfl⟩⟩
    show [some (V.int t), some (V.int b), some (V.int ((y : Nat) : Int)), some (V.int (((x : Nat) : Int).fmod ((y : Nat) : Int)))] = _
    rw [e2]
theorem ok_lplus (D : Def K mg "_law_plus" s__law_plus ["_law_one", "_law_other"] f fd) (C__law_ratio : Callee P w K mg base 1 "_law_ratio" ["_law_top", "_law_bottom"] spRatio) : Callee P w K mg base 2 "_law_plus" ["_law_one", "_law_other"] spPlus := by
  refine D.ok sc__law_plus (fun vs H Q E h => ?_) (fun cdv A outer s H vs Q E hr h => ?_)
  · obtain ⟨x, y, p, q, rfl, _⟩ := h
    rfl
  obtain ⟨x, y, p, q, rfl, ⟨a, rfl, ha⟩, ⟨b, rfl, hb⟩, bp, bq, k⟩ := h
  have nd := sc__law_plus.nd
  have m1 : CMulW p.1 q.2 := wide_mul bp.1 bq.2.2 (by decide) (by decide) (by decide)
  have m2 : CMulW q.1 p.2 := wide_mul bq.1 bp.2.2 (by decide) (by decide) (by decide)
  have m3 : CMulW p.2 q.2 := wide_mul bp.2.2 bq.2.2 (by decide) (by decide) (by decide)
  refine ⟨_, (pss_one (ps_ret (pe_cl C__law_ratio (hr.mono (by decide)) (by rfl) (pa_cons (pe_op op_add (pe_op op_mulW (pe_ix ix_tup (pv 0) pe_int (fun _ _ => rfl)) (pe_ix ix_tup (pv 1) pe_int (fun _ _ => rfl))) (pe_op op_mulW (pe_ix ix_tup (pv 1) pe_int (fun _ _ => rfl)) (pe_ix ix_tup (pv 0) pe_int (fun _ _ => rfl)))) (pa_cons (pe_op op_mulW (pe_ix ix_tup (pv 0) pe_int (fun _ _ => rfl)) (pe_ix ix_tup (pv 1) pe_int (fun _ _ => rfl))) pa_nil))))), ?_⟩
  refine ⟨_, rfl, a, _, 0, _, rfl, rfl, SqT.is ha, rfl, _, rfl, b, _, 1, _, rfl, rfl, SqT.is hb, rfl, _, _, rfl, rfl, m1,
    _, rfl, b, _, 0, _, rfl, rfl, SqT.is hb, rfl, _, rfl, a, _, 1, _, rfl, rfl, SqT.is ha, rfl, _, _, rfl, rfl, m2, _, _, rfl, rfl,
    _, rfl, a, _, 1, _, rfl, rfl, SqT.is ha, rfl, _, rfl, b, _, 1, _, rfl, rfl, SqT.is hb, rfl, _, _, rfl, rfl, m3, ?_⟩
  refine ⟨_, _, rfl, Int.mul_pos bp.2.1 bq.2.1, Nat.lt_of_lt_of_le (mul_bits bp.2.2 bq.2.2) (Nat.pow_le_pow_right (by decide) (show 1000 + 1000 ≤ 4000 by decide)), k⟩
theorem ok_lless (D : Def K mg "_law_less" s__law_less ["_law_one", "_law_other"] f fd) : Callee P w K mg base 1 "_law_less" ["_law_one", "_law_other"] spLess := by
  refine D.ok sc__law_less (fun vs H Q E h => ?_) (fun cdv A outer s H vs Q E hr h => ?_)
  · obtain ⟨x, y, p, q, rfl, _⟩ := h
    rfl
  obtain ⟨x, y, p, q, rfl, ⟨a, rfl, ha⟩, ⟨b, rfl, hb⟩, bp, bq, k⟩ := h
  have nd := sc__law_less.nd
  have m1 : CMulW p.1 q.2 := wide_mul bp.1 bq.2.2 (by decide) (by decide) (by decide)
  have m2 : CMulW q.1 p.2 := wide_mul bq.1 bp.2.2 (by decide) (by decide) (by decide)
  refine ⟨_, (pss_one (ps_ret (pe_cmpR op_lt (pe_op op_mulW (pe_ix ix_tup (pv 0) pe_int (fun _ _ => rfl)) (pe_ix ix_tup (pv 1) pe_int (fun _ _ => rfl))) (pe_op op_mulW (pe_ix ix_tup (pv 1) pe_int (fun _ _ => rfl)) (pe_ix ix_tup (pv 0) pe_int (fun _ _ => rfl))) (nomark _)))), ?_⟩
  exact ⟨_, rfl, a, _, 0, _, rfl, rfl, SqT.is ha, rfl, _, rfl, b, _, 1, _, rfl, rfl, SqT.is hb, rfl, _, _, rfl, rfl, m1,
    _, rfl, b, _, 0, _, rfl, rfl, SqT.is hb, rfl, _, rfl, a, _, 1, _, rfl, rfl, SqT.is ha, rfl, _, _, rfl, rfl, m2, _, _, rfl, rfl, k⟩
theorem ok_lsum (D : Def K mg "_law_sum" s__law_sum ["_law_some"] f fd) (C__law_plus : Callee P w K mg base 2 "_law_plus" ["_law_one", "_law_other"] spPlus) : Callee P w K mg base 3 "_law_sum" ["_law_some"] (spSum K) := by
  refine D.ok sc__law_sum (fun vs H Q E h => ?_) (fun cdv A outer s H vs Q E hr h => ?_)
  · obtain ⟨a, xs, l, k, rfl, _⟩ := h
    rfl
  obtain ⟨a, xs, l, k, rfl, hS, hR, hB, hk, hk2, q⟩ := h
  have nd := sc__law_sum.nd
  refine ⟨_, (pss_cons (ps_set (i := 1) nd rfl (Or.inl rfl) (pe_tup (pa_cons pe_int (pa_cons pe_int pa_nil))))
    (pss_cons (ps_for PassesOwn.never rfl (pi_list (pv 0)) (pg_name (i := 2) nd rfl (Or.inl rfl)) (pss_one (ps_set (i := 1) nd rfl (Or.inl rfl) (pe_cl C__law_plus (hr.mono (by decide)) (by rfl) (pa_cons (pv 1) (pa_cons (pv 2) pa_nil))))))
    (pss_one (ps_ret (pv 1))))), ?_⟩
  refine ⟨by show 2 ≤ sizeLine; decide, fun p hp => ?_⟩
  refine ⟨_, rfl, a, rfl, ⟨_, (Keep.new hp).seq hS⟩, for_it (walk_list (xs := xs)) (fun i σ H' => ∃ (v : V) (y : Option V), σ = [some (.ref a), some v, y] ∧ Keep H H' ∧ Rt H' v (rsum (l.take i) (0, 1)))
    ⟨_, none, rfl, Keep.new hp, p, rfl, upd_same⟩ (fun i σ H' _ ⟨_, _, _, kH, _⟩ => kH.seq hS) ?_ ?_⟩
  · rintro i x σ H1 H2 hi ⟨v, y, rfl, kH, hv⟩ ⟨rfl, hx⟩
    have hil : i < l.length := by rw [← hR.1]; exact hi
    obtain ⟨u, hu, ru⟩ := hR.2 i _ (List.getElem?_eq_getElem hil)
    rw [hx] at hu
    cases hu
    have hl : (l.take i).length ≤ l.length := by rw [List.length_take]; omega
    have b1 : Bd (1 + (k + 1) * (l.take i).length) (rsum (l.take i) (0, 1)) := rsum_bd _ (fun z hz => hB z (List.mem_of_mem_take hz)) ⟨by decide, by decide, by decide⟩
    have e1 : (k + 1) * (l.take i).length ≤ (k + 1) * l.length := Nat.mul_le_mul_left _ hl
    refine ⟨_, rfl, _, rfl, v, x, _, _, rfl, hv, ru.mono kH.t, b1.mono (by omega), (hB _ (List.getElem_mem hil)).mono hk2, fun z H3 k3 hz => ?_⟩
    refine ⟨z, _, rfl, kH.trans k3, ?_⟩
    rw [rsum_take (List.getElem?_eq_getElem hil)]
    exact hz
  · rintro σ H1 ⟨v, y, rfl, kH, hv⟩
    have e : l.take xs.length = l := List.take_of_length_le (by rw [hR.1]; exact Nat.le_refl _)
    rw [e] at hv
    exact ⟨_, rfl, q _ _ kH hv⟩
theorem ok_lstep (D : Def K mg "_law_step" s__law_step ["_law_memory_here", "_law_letter"] f fd) (Z : Zs mg) : Callee P w K mg base 1 "_law_step" ["_law_memory_here", "_law_letter"] spStep := by
  refine D.ok sc__law_step (fun vs H Q E h => ?_) (fun cdv A outer s H vs Q E hr h => ?_)
  · obtain ⟨n, m, up, rfl, _⟩ := h
    rfl
  obtain ⟨n, m, up, rfl, hn, hm, k⟩ := h
  have nd := sc__law_step.nd
  have len := mems_len n hn m hm
  refine ⟨_, (pss_cons (ps_asg (pe_ifExp (pt_cmpR op_eq (pv 1) pe_str (nomark _)) (pe_tup (pa_cons pe_str (pa_cons pe_str pa_nil))) (pe_tup (pa_cons pe_str (pa_cons pe_str pa_nil)))) (pg_tup rfl (pgs_cons (pg_name (i := 2) nd rfl (Or.inl rfl)) (pgs_cons (pg_name (i := 3) nd rfl (Or.inl rfl)) pgs_nil))))
    (pss_cons (ps_for PassesOwn.never rfl (pi_range3 (by rfl) Z.z_range (pa_cons (pe_op op_sub (pe_callB call_len_str (by rfl) Z.z_len (by decide +kernel) (pa_cons (pv 0) pa_nil)) pe_int) (pa_cons (pe_un un_neg pe_int) (pa_cons (pe_un un_neg pe_int) pa_nil)))) (pg_name (i := 4) nd rfl (Or.inl rfl)) (pss_one (ps_if (pt_cmpR op_eq (pe_ix ix_str (pv 0) (pv 4) (fun _ _ => rfl)) (pv 2) (nomark _)) (pss_one (ps_ret (pe_op op_add_str (pe_op op_add_str (pe_slice sl_str (pv 0) po_none (po_some (pv 4))) (pv 3)) (pe_slice sl_str (pv 0) (po_some (pe_op op_add (pv 4) pe_int)) po_none)))) pss_nil)))
    (pss_one (ps_ret (pv 0))))), ?_⟩
  refine ⟨_, rfl, rfl, _, rfl, ?_⟩
  rw [cu, S_dec]
  have fin : ∀ (H1 : Hp) (c c' : Nat), (if up then 48 else 49) = c → (if up then 49 else 48) = c' → Keep H H1 →
      (tSeq (tFor (iRng3 (tCons (tOp (rI0 fun i j => .int (i - j)) (tCB (fun xs H Q => ∃ s, xs = [.str s] ∧ s.length ≤ sizeLine ∧ Q (.int s.length) H) (tCons (tVar 0) tNil)) (tC (.int 1))) (tCons (tUn (rU fun i => .int (-i)) (tC (.int 1))) (tCons (tUn (rU fun i => .int (-i)) (tC (.int 1))) tNil)))) (gName 4)
          (tIfS (tTest (tOp rEq (tOp rIxS (tVar 0) (tVar 4)) (tVar 2))) (tRet (tOp (fun x y H Q => ∃ i j, x = .str i ∧ y = .str j ∧ i.length + j.length ≤ sizeLine ∧ Q (.str (i ++ j)) H)
            (tOp (fun x y H Q => ∃ i j, x = .str i ∧ y = .str j ∧ i.length + j.length ≤ sizeLine ∧ Q (.str (i ++ j)) H) (tSl rSlS (tVar 0) tNoPart (tPart (tVar 4))) (tVar 3)) (tSl rSlS (tVar 0) (tPart (tOp (rI0 fun i j => .int (i + j)) (tVar 4) (tC (.int 1)))) tNoPart))) tNext))
        (tRet (tVar 0))) { nx := fun _ H' => Q .non H', rt := Q } [some (.str (S m)), some (.str (S [lett up])), some (.str (S [c])), some (.str (S [c'])), none] H1 := by
    intro H1 c c' e1 e2 k1
    refine ⟨_, rfl, _, rfl, small9 (by rw [S_len]; omega), _, _, rfl, rfl, _, rfl, _, rfl, ((S m).length : Int) - 1, -1, -1, ((S m).length - 1 - (-1) : Int).toNat, rfl, RgC.neg (by rw [S_len]; omega) (by rw [S_len]; omega) (by decide) (by decide), for_it walk_rangeC (fun i σ H' => ∃ y4, σ = [some (.str (S m)), some (.str (S [lett up])), some (.str (S [c])), some (.str (S [c'])), y4] ∧ H' = H1 ∧ findLast c m m.length = findLast c m (m.length - i))
      ⟨none, rfl, rfl, rfl⟩ (fun _ _ _ _ _ => trivial) ?_ ?_⟩
    · rintro i x σ H2 H3 hi ⟨y4, rfl, rfl, hf⟩ ⟨rfl, rfl⟩
      rw [S_len] at hi
      have hi' : i < m.length := by omega
      have ei : ((S m).length : Int) - 1 + ((i : Nat) : Int) * (-1) = ((m.length - 1 - i : Nat) : Int) := by
        rw [S_len]
        omega
      show gName 4 (V.int (((S m).length : Int) - 1 + ((i : Nat) : Int) * (-1))) _ _ _
      rw [ei]
      have hj : m.length - 1 - i < m.length := by omega
      generalize hjj : m.length - 1 - i = j at *
      have hg : m[j]? = some m[j] := List.getElem?_eq_getElem hj
      refine ⟨_, rfl, _, rfl, S m, _, m[j], rfl, rfl, small9 (by rw [S_len]; omega), by rw [S_list]; exact atI_nat hg, _, rfl, rfl, _, rfl, ?_⟩
      have e0 : (V.str ⟨#[m[j]]⟩ : V) = V.str (S [m[j]]) := rfl
      rw [e0, S_dec]
      have hu : m.length - i = j + 1 := by omega
      have hfl : findLast c m (j + 1) = if m[j]? = some c then some j else findLast c m j := rfl
      rw [hu, hfl, hg] at hf
      by_cases hc : m[j] = c
      · rw [decide_eq_true (show [m[j]] = [c] by rw [hc])]
        rw [if_pos (by rw [hc])] at hf
        have a1 : ((j : Nat) : Int) + 1 = ((j + 1 : Nat) : Int) := by omega
        refine iteT ⟨_, rfl, _, rfl, _, rfl, _, rfl, small9 (by rw [S_len]; omega), _, rfl, _, _, rfl, rfl, ?_, _, rfl, _, rfl, _, _, rfl, rfl, _, rfl, _, rfl, small9 (by rw [S_len]; omega), _, _, rfl, rfl, ?_, ?_⟩
        · rw [cut_take (Nat.le_of_lt hj), S_len, S_len, List.length_take]
          exact small9 (by simp; omega)
        · rw [a1, cut_take (Nat.le_of_lt hj), cut_drop hj, S_app, S_len, S_len]
          exact small9 (by simp; omega)
        · show Q (.str (cutS (S m) none (some ((j : Nat) : Int)) ++ S [c'] ++ cutS (S m) (some (((j : Nat) : Int) + 1)) none)) H3
          rw [a1, cut_take (Nat.le_of_lt hj), cut_drop hj, S_app, S_app]
          have e : stepL up m = m.take j ++ [c'] ++ m.drop (j + 1) := by
            unfold stepL
            rw [e1, hf, e2]
          have q := k H3 k1
          rw [e] at q
          exact q
      · rw [decide_eq_false (show ¬ [m[j]] = [c] from fun z => hc (List.cons.inj z).1)]
        rw [if_neg (fun z => hc (Option.some.inj z))] at hf
        refine iteF ⟨_, rfl, rfl, ?_⟩
        rw [show m.length - (i + 1) = j by omega]
        exact hf
    · rintro σ H2 ⟨y4, rfl, rfl, hf⟩
      rw [S_len] at hf
      have e0 : m.length - ((m.length : Int) - 1 - (-1)).toNat = 0 := by omega
      rw [e0] at hf
      have e : stepL up m = m := by
        unfold stepL
        rw [e1, hf]
        rfl
      have q := k H2 k1
      rw [e] at q
      exact ⟨_, rfl, q⟩
  cases up with
  | true =>
    refine iteT ⟨by show 2 ≤ sizeLine; decide, fun T hT => ?_⟩
    rw [c0, c1] at *
    refine ⟨T, _, rfl, SqT.is upd_same, rfl, _, _, rfl, _, _, rfl, rfl, ?_⟩
    exact fin _ 48 49 rfl rfl (Keep.new hT)
  | false =>
    refine iteF ⟨by show 2 ≤ sizeLine; decide, fun T hT => ?_⟩
    rw [c0, c1] at *
    refine ⟨T, _, rfl, SqT.is upd_same, rfl, _, _, rfl, _, _, rfl, rfl, ?_⟩
    exact fin _ 49 48 rfl rfl (Keep.new hT)
theorem ok_lbehind (D : Def K mg "_law_behind" s__law_behind ["_law_memory_here", "_law_steps_here"] f fd) (C__law_step : Callee P w K mg base 1 "_law_step" ["_law_memory_here", "_law_letter"] spStep) : Callee P w K mg base 2 "_law_behind" ["_law_memory_here", "_law_steps_here"] spBehind := by
  refine D.ok sc__law_behind (fun vs H Q E h => ?_) (fun cdv A outer s H vs Q E hr h => ?_)
  · obtain ⟨n, m, us, rfl, _⟩ := h
    rfl
  obtain ⟨n, m, us, rfl, hn, hm, k⟩ := h
  have nd := sc__law_behind.nd
  refine ⟨_, (pss_cons (ps_for PassesOwn.never rfl (pi_str (pv 1)) (pg_name (i := 2) nd rfl (Or.inl rfl)) (pss_one (ps_set (i := 0) nd rfl (Or.inl rfl) (pe_cl C__law_step (hr.mono (by decide)) (by rfl) (pa_cons (pv 0) (pa_cons (pv 2) pa_nil))))))
    (pss_one (ps_ret (pv 0)))), ?_⟩
  refine ⟨_, rfl, _, rfl, for_it walk_str (fun i σ H' => ∃ y, σ = [some (.str (S (runL (us.take i) m))), some (.str (S (us.map lett))), y] ∧ Keep H H') ⟨none, rfl, Keep.refl H⟩ (fun _ _ _ _ _ => trivial) ?_ ?_⟩
  · rintro i x σ H1 H2 hi ⟨y, rfl, kH⟩ ⟨rfl, c, hc, rfl⟩
    rw [S_at] at hc
    obtain ⟨u, hu, rfl⟩ := lett_at hc
    refine ⟨_, rfl, _, rfl, n, _, u, rfl, hn, runL_mem hn _ hm, fun H3 k3 => ⟨some (.str ⟨#[lett u]⟩), ?_, kH.trans k3⟩⟩
    rw [runL_take hu]
    rfl
  · rintro σ H1 ⟨y, rfl, kH⟩
    rw [S_size, List.length_map, List.take_length]
    exact ⟨_, rfl, k H1 kH⟩
end
end R31
namespace R31
open PySem PySem.Spec PyProof.Rows L2
section
variable {P : Program} {w : World} {K : PySem.W.Frag} {mg : Str → Option Value} {base : Heap} {f c Pr Pi : Addr} {fd : FuncData}
theorem memV_len (l : List (List Nat)) : (memV l).length = l.length := List.length_map _
theorem memV_at {l : List (List Nat)} {i : Nat} {x : V} (h : (memV l)[i]? = some x) : ∃ (hi : i < l.length), x = .str (S l[i]) := by
  unfold memV at h
  rw [List.getElem?_map] at h
  have hi : i < l.length := by
    rcases Nat.lt_or_ge i l.length with z | z
    · exact z
    · rw [List.getElem?_eq_none z] at h
      cases h
  rw [List.getElem?_eq_getElem hi] at h
  exact ⟨hi, (Option.some.inj h).symm⟩
theorem ok_lall (D : Def K mg "_law_all" s__law_all ["_law_span"] f fd) (Z : Zs mg) : Callee P w K mg base 1 "_law_all" ["_law_span"] spAll := by
  refine D.ok sc__law_all (fun vs H Q E h => ?_) (fun cdv A outer s H vs Q E hr h => ?_)
  · obtain ⟨n, rfl, _⟩ := h
    rfl
  obtain ⟨n, rfl, hn, k⟩ := h
  have nd := sc__law_all.nd
  refine ⟨_, (pss_cons (ps_set (i := 1) nd rfl (Or.inl rfl) (pe_lst (pa_cons pe_str pa_nil)))
    (pss_cons (ps_for PassesOwn.never rfl (pi_range1 (by rfl) Z.z_range (pa_cons (pv 0) pa_nil)) (pg_name (i := 2) nd rfl (Or.inl rfl)) (pss_one (ps_set (i := 1) nd rfl (Or.inl rfl) (pe_op op_cat (pe_lc (own := [("_law_memory_here", 3)]) (g := gName 3) (tt := tYes) (by rfl) nd (pi_list (pv 1)) (blkOk_by (own := [("_law_memory_here", 3)]) (N := nm__law_all) (sc := defScope s__law_all) (by decide +kernel)) (fun _ _ _ _ _ => (pg_name (i := 3) nd rfl (Or.inl rfl))) (fun _ _ _ _ _ => pts_nil) (fun _ _ _ _ _ => (pe_op op_add_str (pv 3) pe_str))) (pe_lc (own := [("_law_memory_here", 3)]) (g := gName 3) (tt := tYes) (by rfl) nd (pi_list (pv 1)) (blkOk_by (own := [("_law_memory_here", 3)]) (N := nm__law_all) (sc := defScope s__law_all) (by decide +kernel)) (fun _ _ _ _ _ => (pg_name (i := 3) nd rfl (Or.inl rfl))) (fun _ _ _ _ _ => pts_nil) (fun _ _ _ _ _ => (pe_op op_add_str (pv 3) pe_str)))))))
    (pss_one (ps_ret (pe_callB cr_sortedS (by rfl) Z.z_sorted (by decide +kernel) (pa_cons (pv 1) pa_nil)))))), ?_⟩
  refine ⟨by show 1 ≤ sizeLine; decide, fun p hp => ?_⟩
  refine ⟨_, rfl, ((n : Nat) : Int), rfl, by omega, by omega, for_it walk_range (fun i σ H' => ∃ p y2 y3, σ = [some (.int (n : Nat)), some (.ref p), y2, y3] ∧ Keep H H' ∧ H' p = some (.lst (memV (lawAll i))))
    ⟨p, none, none, rfl, Keep.new hp, upd_same⟩ (fun _ _ _ _ _ => trivial) ?_ ?_⟩
  · rintro i x σ H1 H2 hi ⟨q, y2, y3, rfl, kH, hL⟩ ⟨rfl, rfl⟩
    have hi5 : i < n := by omega
    have lenm : (lawAll i).length ≤ 32 := lawAll_len i (by omega)
    have each : ∀ m ∈ lawAll i, m.length = i := lawAll_each i (by omega)
    refine ⟨_, rfl, q, rfl, ⟨_, SqL.is hL⟩, fun D0 hD => ?_⟩
    have ndq : q ≠ D0 := ne_of_none hL hD
    refine lc_it (walk_list (xs := memV (lawAll i))) (fun j H' => Keep H2 H' ∧ H' D0 = some (.lst (memV (((lawAll i).take j).map (· ++ [48]))))) ⟨Keep.new hD, upd_same⟩ (fun j H' _ ⟨k', _⟩ => SqL.is (k'.lst hL)) ?_ ?_
    · rintro j x H3 H4 hj ⟨k3, hLD⟩ ⟨rfl, hx⟩
      obtain ⟨hjl, rfl⟩ := memV_at hx
      rw [c0]
      refine ⟨rfl, _, rfl, _, _, rfl, rfl, ?_, _, hLD, ?_, k3.mut hD, ?_⟩
      · rw [S_len, each _ (List.getElem_mem hjl)]
        show i + 1 ≤ sizeLine
        exact small9 (by omega)
      · rw [memV_len, List.length_map, List.length_take]
        exact small1000 (by omega)
      · rw [upd_same, take_snoc (List.getElem?_eq_getElem hjl), List.map_append, List.map_singleton]
        show some (HO.lst (memV _ ++ [V.str (S (lawAll i)[j] ++ S [48])])) = _
        rw [S_app]
        unfold memV
        rw [List.map_append (l₂ := [_])]
        rfl
    · rintro H3 ⟨k3, hLD⟩
      rw [memV_len, List.take_length] at hLD
      have hL3 := k3.lst hL
      refine ⟨_, rfl, q, rfl, ⟨_, SqL.is hL3⟩, fun D1 hD1 => ?_⟩
      have nd1 : D0 ≠ D1 := ne_of_none hLD hD1
      refine lc_it (walk_list (xs := memV (lawAll i))) (fun j H' => Keep H3 H' ∧ H' D1 = some (.lst (memV (((lawAll i).take j).map (· ++ [49]))))) ⟨Keep.new hD1, upd_same⟩ (fun j H' _ ⟨k', _⟩ => SqL.is (k'.lst hL3)) ?_ ?_
      · rintro j x H4 H5 hj ⟨k4, hLE⟩ ⟨rfl, hx⟩
        obtain ⟨hjl, rfl⟩ := memV_at hx
        rw [c1]
        refine ⟨rfl, _, rfl, _, _, rfl, rfl, ?_, _, hLE, ?_, k4.mut hD1, ?_⟩
        · rw [S_len, each _ (List.getElem_mem hjl)]
          show i + 1 ≤ sizeLine
          exact small9 (by omega)
        · rw [memV_len, List.length_map, List.length_take]
          exact small1000 (by omega)
        · rw [upd_same, take_snoc (List.getElem?_eq_getElem hjl), List.map_append, List.map_singleton]
          show some (HO.lst (memV _ ++ [V.str (S (lawAll i)[j] ++ S [49])])) = _
          rw [S_app]
          unfold memV
          rw [List.map_append (l₂ := [_])]
          rfl
      · rintro H4 ⟨k4, hLE⟩
        rw [memV_len, List.take_length] at hLE
        refine ⟨D0, D1, _, _, rfl, rfl, k4.lst hLD, hLE, ?_, fun p3 h3 => ⟨p3, _, _, rfl, ((kH.trans k3).trans k4).newT h3, ?_⟩⟩
        · rw [memV_len, memV_len, List.length_map, List.length_map]
          exact small9 (by omega)
        · rw [upd_same]
          unfold memV
          rw [← List.map_append]
          rfl
  · rintro σ H1 ⟨q, y2, y3, rfl, kH, hL⟩
    have e : ((n : Nat) : Int).toNat = n := by omega
    rw [e] at hL
    refine ⟨_, rfl, q, (lawAll n).map S, rfl, ?_, ?_, fun ys p pm so hp => ?_⟩
    · rw [List.map_map]
      exact SqL.is hL
    · rw [List.length_map]
      have := lawAll_len n hn
      omega
    · have e2 := sorted_all hn pm so
      subst e2
      refine k p _ (kH.newT hp) ?_
      rw [upd_same, List.map_map]
      rfl
end
end R31
namespace R31
open PySem PySem.Spec PyProof.Rows L2
/-- the relays that hold, row by row -/
def onRow (m : List Nat) (h k : Nat) : List (Int × Int) := ((List.range k).filter fun l => holdsL m h l).map fun (l : Nat) => ((h : Int), (l : Int))
def onAcc (m : List Nat) (i : Nat) : List (Int × Int) := (List.range i).flatMap fun a => onRow m (a + 1) (a + 1)
def onP (m : List Nat) : List (Int × Int) := onAcc m m.length
theorem onRow_len (m : List Nat) (h k : Nat) : (onRow m h k).length ≤ k := by
  unfold onRow
  rw [List.length_map]
  exact Nat.le_trans (List.length_filter_le _ _) (by rw [List.length_range]; exact Nat.le_refl _)
theorem onAcc_succ (m : List Nat) (i : Nat) : onAcc m (i + 1) = onAcc m i ++ onRow m (i + 1) (i + 1) := by
  unfold onAcc
  rw [List.range_succ, List.flatMap_append]
  simp
theorem onAcc_len (m : List Nat) : ∀ i ≤ 5, (onAcc m i).length ≤ 5 * i
  | 0, _ => Nat.le_refl _
  | i + 1, h => by
    have h1 := onAcc_len m i (by omega)
    have h2 := onRow_len m (i + 1) (i + 1)
    rw [onAcc_succ, List.length_append]
    omega
theorem onRow_succ (m : List Nat) (h k : Nat) : onRow m h (k + 1) = onRow m h k ++ (if holdsL m h k = true then [((h : Int), (k : Int))] else []) := by
  unfold onRow
  rw [List.range_succ, List.filter_append, List.map_append]
  congr 1
  by_cases z : holdsL m h k = true
  · rw [if_pos z, List.filter_cons, if_pos z]
    rfl
  · rw [if_neg z, List.filter_cons, if_neg z]
    rfl
theorem mem_onP {m : List Nat} {h l : Nat} (h1 : l < h) (h2 : h ≤ m.length) : (((h : Int), (l : Int)) ∈ onP m) = (holdsL m h l = true) := by
  apply propext
  unfold onP onAcc
  rw [List.mem_flatMap]
  constructor
  · rintro ⟨a, _, hm⟩
    obtain ⟨x, hx, e⟩ := List.mem_map.mp hm
    have e1 : ((a + 1 : Nat) : Int) = (h : Int) := congrArg Prod.fst e
    have e2 : ((x : Nat) : Int) = (l : Int) := congrArg Prod.snd e
    have e3 : a + 1 = h := by omega
    have e4 : x = l := by omega
    have hh := (List.mem_filter.mp hx).2
    rw [e3, e4] at hh
    exact hh
  · intro hh
    refine ⟨h - 1, List.mem_range.mpr (by omega), ?_⟩
    rw [show h - 1 + 1 = h by omega]
    exact List.mem_map.mpr ⟨l, List.mem_filter.mpr ⟨List.mem_range.mpr h1, hh⟩, rfl⟩
def spOn : Sp := fun vs H Q _ => ∃ m : List Nat, vs = [.str (S m)] ∧ m.length ≤ 5 ∧ ∀ p xs H', Keep H H' → H' p = some (.lst xs) → Rts H' xs (onP m) → Q (.ref p) H'
theorem pick_placed {K : PySem.W.Frag} {σ : L2.St} {H : Hp} {Q : VK} {m : List Nat} {c k : Nat} {a : Addr} {tl ti ta tn : TE} (hS : SqL K H a ((idxs c m).map fun j => V.int ((j : Nat) : Int))) (hl : ∀ R : VK, R (.int ((idxs c m).length : Nat)) H → tl σ H R)
    (hi : ∀ R : VK, R (.int (k : Nat)) H → ti σ H R) (ha : ∀ R : VK, R (.ref a) H → ta σ H R) (hn : ∀ R : VK, R (.int (m.length : Nat)) H → tn σ H R) (q : Q (.int (placeL c m k : Nat)) H) :
    tIf (tTest (tOp (rI0 fun i j => .bl (decide (j < i))) tl ti)) (tOp (rIxL K) ta ti) tn σ H Q := by
  refine hl _ (hi _ ⟨_, _, rfl, rfl, _, rfl, ?_⟩)
  unfold placeL at q
  cases hg : (idxs c m)[k]? with
  | some j =>
    rw [hg] at q
    have hk : k < (idxs c m).length := (List.getElem?_eq_some_iff.mp hg).1
    rw [decide_eq_true (show ((k : Nat) : Int) < ((idxs c m).length : Int) by omega)]
    refine iteT (ha _ (hi _ ⟨_, _, _, V.int ((j : Nat) : Int), rfl, rfl, hS, ?_, q⟩))
    exact atI_nat (by rw [List.getElem?_map, hg]; rfl)
  | none =>
    rw [hg] at q
    have hk : (idxs c m).length ≤ k := List.getElem?_eq_none_iff.mp hg
    rw [decide_eq_false (show ¬ ((k : Nat) : Int) < ((idxs c m).length : Int) by omega)]
    exact iteF (hn _ q)
section
variable {P : Program} {w : World} {K : PySem.W.Frag} {mg : Str → Option Value} {base : Heap} {f c Pr Pi : Addr} {fd : FuncData}
theorem ok_lon (D : Def K mg "_law_on" s__law_on ["_law_memory_here"] f fd) (Z : Zs mg) : Callee P w K mg base 1 "_law_on" ["_law_memory_here"] spOn := by
  refine D.ok sc__law_on (fun vs H Q E h => ?_) (fun cdv A outer s H vs Q E hr h => ?_)
  · obtain ⟨m, rfl, _⟩ := h
    rfl
  obtain ⟨m, rfl, hm, k⟩ := h
  have nd := sc__law_on.nd
  refine ⟨_, (pss_cons (ps_par (i := 1) (j := 2) (by rfl) nd rfl rfl (by decide) rfl rfl (pa_cons (pe_callB call_len_str (by rfl) Z.z_len (by decide +kernel) (pa_cons (pv 0) pa_nil)) (pa_cons (pe_lst pa_nil) pa_nil)) (by rfl))
    (pss_cons (ps_par (i := 3) (j := 4) (by rfl) nd rfl rfl (by decide) rfl rfl (pa_cons (pe_lc (own := [("_law_k", 9)]) (g := gName 9) (by rfl) nd (pi_range1 (by rfl) Z.z_range (pa_cons (pv 1) pa_nil)) (blkOk_by (own := [("_law_k", 9)]) (N := nm__law_on) (sc := defScope s__law_on) (by decide +kernel)) (fun _ _ _ _ _ => (pg_name (i := 9) nd rfl (Or.inl rfl))) (fun _ _ _ _ _ => pts_one (pt_cmpR op_eq (pe_ix ix_str (pv 0) (pv 9) (fun _ _ => rfl)) pe_str (nomark _))) (fun _ _ _ _ _ => (pv 9))) (pa_cons (pe_lc (own := [("_law_k", 9)]) (g := gName 9) (by rfl) nd (pi_range1 (by rfl) Z.z_range (pa_cons (pv 1) pa_nil)) (blkOk_by (own := [("_law_k", 9)]) (N := nm__law_on) (sc := defScope s__law_on) (by decide +kernel)) (fun _ _ _ _ _ => (pg_name (i := 9) nd rfl (Or.inl rfl))) (fun _ _ _ _ _ => pts_one (pt_cmpR op_eq (pe_ix ix_str (pv 0) (pv 9) (fun _ _ => rfl)) pe_str (nomark _))) (fun _ _ _ _ _ => (pv 9))) pa_nil)) (by rfl))
    (pss_cons (ps_for PassesOwn.never rfl (pi_range2 (by rfl) Z.z_range (pa_cons pe_int (pa_cons (pe_op op_add (pv 1) pe_int) pa_nil))) (pg_name (i := 5) nd rfl (Or.inl rfl)) (pss_one (ps_for PassesOwn.never rfl (pi_range1 (by rfl) Z.z_range (pa_cons (pv 5) pa_nil)) (pg_name (i := 6) nd rfl (Or.inl rfl)) (pss_cons (ps_set (i := 7) nd rfl (Or.inl rfl) (pe_ifExp (pt_cmpR op_gt (pe_callB call_len (by rfl) Z.z_len (by decide +kernel) (pa_cons (pv 3) pa_nil)) (pv 6) (nomark _)) (pe_ix ix_list (pv 3) (pv 6) (fun _ _ => rfl)) (pv 1)))
    (pss_cons (ps_set (i := 8) nd rfl (Or.inl rfl) (pe_ifExp (pt_cmpR op_gt (pe_callB call_len (by rfl) Z.z_len (by decide +kernel) (pa_cons (pv 4) pa_nil)) (pe_op op_sub (pv 1) (pv 5)) (nomark _)) (pe_ix ix_list (pv 4) (pe_op op_sub (pv 1) (pv 5)) (fun _ _ => rfl)) (pv 1)))
    (pss_one (ps_if (pt_cmpR op_lt (pv 7) (pv 8) (nomark _)) (pss_one (ps_expr (pe_bm PySem.F.plainAttrs_list PySem.F.slot_list_append PySem.F.type_list_append mt_append (pv 2) (pa_cons (pe_tup (pa_cons (pv 5) (pa_cons (pv 6) pa_nil))) pa_nil)))) pss_nil)))))))
    (pss_one (ps_ret (pv 2)))))), ?_⟩
  refine ⟨_, rfl, _, rfl, small9 (by rw [S_len]; omega), Nat.zero_le _, fun p hp => ⟨_, _, rfl, ?_⟩⟩
  rw [S_len]
  refine ⟨_, rfl, ((m.length : Nat) : Int), rfl, by omega, by omega, fun D1 hD1 => ?_⟩
  have np1 : p ≠ D1 := ne_of_none upd_same hD1
  refine lc_it walk_range (fun i H' => Keep (upd H p (.lst [])) H' ∧ H' D1 = some (.lst (((List.range i).filter fun j => decide (m[j]? = some 49)).map fun j => V.int ((j : Nat) : Int)))) ⟨Keep.new hD1, upd_same⟩ (fun _ _ _ _ => trivial) ?_ ?_
  · rintro i x H2 H3 hi ⟨k2, hL⟩ ⟨rfl, rfl⟩
    have hi' : i < m.length := by omega
    have z0 : (0 : Int) + ((i : Nat) : Int) = ((i : Nat) : Int) := by omega
    refine ⟨rfl, _, rfl, _, rfl, S m, _, m[i], rfl, rfl, small9 (by rw [S_len]; omega), ?_, rfl, _, rfl, ?_⟩
    · rw [S_list, z0]
      exact atI_nat (List.getElem?_eq_getElem hi')
    have e1 : (V.str ⟨#[m[i]]⟩ : V) = V.str (S [m[i]]) := rfl
    rw [e1, c1, S_dec]
    have fl : (List.range (i + 1)).filter (fun j => decide (m[j]? = some 49)) = (List.range i).filter (fun j => decide (m[j]? = some 49)) ++ (if m[i] = 49 then [i] else []) := by
      rw [List.range_succ, List.filter_append]
      congr 1
      by_cases h : m[i] = 49
      · rw [if_pos h, List.filter_cons, if_pos (by rw [List.getElem?_eq_getElem hi', h]; exact decide_eq_true rfl)]
        rfl
      · rw [if_neg h, List.filter_cons, if_neg (by rw [List.getElem?_eq_getElem hi']; simpa using h)]
        rfl
    rw [fl]
    by_cases h : m[i] = 49
    · rw [decide_eq_true (show [m[i]] = [49] by rw [h]), if_pos h]
      refine iteT ⟨_, rfl, _, hL, ?_, k2.mut hD1, ?_⟩
      · rw [List.length_map]
        refine small1000 ?_
        have := List.length_filter_le (fun j => decide (m[j]? = some 49)) (List.range i)
        rw [List.length_range] at this
        omega
      · rw [upd_same, List.map_append]
        show some (HO.lst (_ ++ [V.int ((0 : Int) + ((i : Nat) : Int))])) = _
        rw [z0]
        rfl
    · rw [decide_eq_false (show ¬ [m[i]] = [49] from fun z => h (List.cons.inj z).1), if_neg h, List.append_nil]
      exact iteF ⟨k2, hL⟩
  · rintro H2 ⟨k2, hL⟩
    have hp2 := k2.lst (upd_same (a := p))
    have kHp : Keep H (upd H p (.lst [])) := Keep.new hp
    rw [show (((m.length : Nat) : Int)).toNat = m.length by omega] at hL
    refine ⟨_, rfl, ((m.length : Nat) : Int), rfl, by omega, by omega, fun D2 hD2 => ?_⟩
    refine lc_it walk_range (fun i H' => Keep H2 H' ∧ H' D2 = some (.lst (((List.range i).filter fun j => decide (m[j]? = some 48)).map fun j => V.int ((j : Nat) : Int)))) ⟨Keep.new hD2, upd_same⟩ (fun _ _ _ _ => trivial) ?_ ?_
    · rintro i x H3 H4 hi ⟨k3, hL⟩ ⟨rfl, rfl⟩
      have hi' : i < m.length := by omega
      have z0 : (0 : Int) + ((i : Nat) : Int) = ((i : Nat) : Int) := by omega
      refine ⟨rfl, _, rfl, _, rfl, S m, _, m[i], rfl, rfl, small9 (by rw [S_len]; omega), ?_, rfl, _, rfl, ?_⟩
      · rw [S_list, z0]
        exact atI_nat (List.getElem?_eq_getElem hi')
      have e1 : (V.str ⟨#[m[i]]⟩ : V) = V.str (S [m[i]]) := rfl
      rw [e1, c0, S_dec]
      have fl : (List.range (i + 1)).filter (fun j => decide (m[j]? = some 48)) = (List.range i).filter (fun j => decide (m[j]? = some 48)) ++ (if m[i] = 48 then [i] else []) := by
        rw [List.range_succ, List.filter_append]
        congr 1
        by_cases h : m[i] = 48
        · rw [if_pos h, List.filter_cons, if_pos (by rw [List.getElem?_eq_getElem hi', h]; exact decide_eq_true rfl)]
          rfl
        · rw [if_neg h, List.filter_cons, if_neg (by rw [List.getElem?_eq_getElem hi']; simpa using h)]
          rfl
      rw [fl]
      by_cases h : m[i] = 48
      · rw [decide_eq_true (show [m[i]] = [48] by rw [h]), if_pos h]
        refine iteT ⟨_, rfl, _, hL, ?_, k3.mut hD2, ?_⟩
        · rw [List.length_map]
          refine small1000 ?_
          have := List.length_filter_le (fun j => decide (m[j]? = some 48)) (List.range i)
          rw [List.length_range] at this
          omega
        · rw [upd_same, List.map_append]
          show some (HO.lst (_ ++ [V.int ((0 : Int) + ((i : Nat) : Int))])) = _
          rw [z0]
          rfl
      · rw [decide_eq_false (show ¬ [m[i]] = [48] from fun z => h (List.cons.inj z).1), if_neg h, List.append_nil]
        exact iteF ⟨k3, hL⟩
    · rintro H3 ⟨k3, hZ⟩
      rw [show (((m.length : Nat) : Int)).toNat = m.length by omega] at hZ
      have hp3 := k3.lst hp2
      have hO3 := k3.lst hL
      have n12 : D1 ≠ D2 := ne_of_none hL hD2
      have np2 : p ≠ D2 := ne_of_none hp2 hD2
      have kH3 : Keep H H3 := (kHp.trans k2).trans k3
      have hO3' : H3 D1 = some (.lst ((idxs 49 m).map fun j => V.int ((j : Nat) : Int))) := hO3
      have hZ' : H3 D2 = some (.lst ((idxs 48 m).map fun j => V.int ((j : Nat) : Int))) := hZ
      have n1 : (((m.length : Nat) : Int) + 1 - 1).toNat = m.length := by omega
      refine ⟨_, _, rfl, ?_⟩
      refine ⟨_, rfl, _, _, rfl, rfl, _, _, rfl, ⟨by decide, by decide, by omega, by omega⟩, for_it walk_range (fun i σ H' => ∃ xs y5 y6 y7 y8 y9, σ = [some (.str (S m)), some (.int (m.length : Nat)), some (.ref p), some (.ref D1), some (.ref D2), y5, y6, y7, y8, y9] ∧ Keep H H' ∧
          H' D1 = some (.lst ((idxs 49 m).map fun j => V.int ((j : Nat) : Int))) ∧ H' D2 = some (.lst ((idxs 48 m).map fun j => V.int ((j : Nat) : Int))) ∧ H' p = some (.lst xs) ∧ Rts H' xs (onAcc m i))
        ⟨[], _, _, _, _, _, rfl, kH3, hO3', hZ', hp3, Rts.nil⟩ (fun _ _ _ _ _ => trivial) ?_ ?_⟩
      · rintro i x σ H4 H5 hi ⟨xs, y5, y6, y7, y8, y9, rfl, kH, hO, hZ, hP, hR⟩ ⟨rfl, hx⟩
        obtain rfl : x = .int ((i + 1 : Nat) : Int) := by
          rw [hx]
          exact congrArg V.int (by omega)
        have hi' : i < m.length := by omega
        refine ⟨_, rfl, (((i + 1 : Nat) : Nat) : Int), rfl, by omega, by omega, for_it walk_range (fun j σ H' => ∃ xs y6 y7 y8, σ = [some (.str (S m)), some (.int (m.length : Nat)), some (.ref p), some (.ref D1), some (.ref D2), some (.int ((i + 1 : Nat) : Int)), y6, y7, y8, y9] ∧ Keep H H' ∧
            H' D1 = some (.lst ((idxs 49 m).map fun j => V.int ((j : Nat) : Int))) ∧ H' D2 = some (.lst ((idxs 48 m).map fun j => V.int ((j : Nat) : Int))) ∧ H' p = some (.lst xs) ∧ Rts H' xs (onAcc m i ++ onRow m (i + 1) j))
          ⟨xs, _, _, _, rfl, kH, hO, hZ, hP, by rw [show onRow m (i + 1) 0 = [] from rfl, List.append_nil]; exact hR⟩ (fun _ _ _ _ _ => trivial) ?_ ?_⟩
        · rintro j x σ H6 H7 hj ⟨xs, y6, y7, y8, rfl, kH, hO, hZ, hP, hR⟩ ⟨rfl, hx⟩
          obtain rfl : x = .int ((j : Nat) : Int) := by
            rw [hx]
            exact congrArg V.int (by omega)
          have hj' : j < i + 1 := by omega
          have e2 : (m.length : Int) - ((i + 1 : Nat) : Int) = ((m.length - (i + 1) : Nat) : Int) := by omega
          refine pick_placed (m := m) (c := 49) (k := j) (SqL.is hO) (fun R r => ⟨_, rfl, _, _, rfl, .inl ⟨_, SqL.is hO, (List.length_map _).symm⟩, r⟩) (fun R r => ⟨_, rfl, r⟩) (fun R r => ⟨_, rfl, r⟩) (fun R r => ⟨_, rfl, r⟩) ?_
          dsimp only [gName, tSeq, tAsg]
          refine pick_placed (m := m) (c := 48) (k := m.length - (i + 1)) (SqL.is hZ) (fun R r => ⟨_, rfl, _, _, rfl, .inl ⟨_, SqL.is hZ, (List.length_map _).symm⟩, r⟩) (fun R r => ⟨_, rfl, _, rfl, _, _, rfl, rfl, by have r2 := r; rw [← e2] at r2; exact r2⟩) (fun R r => ⟨_, rfl, r⟩) (fun R r => ⟨_, rfl, r⟩) ?_
          refine ⟨_, rfl, _, rfl, _, _, rfl, rfl, _, rfl, ?_⟩
          have e : decide (((placeL 49 m j : Nat) : Int) < ((placeL 48 m (m.length - (i + 1)) : Nat) : Int)) = holdsL m (i + 1) j := by
            unfold holdsL
            by_cases z : placeL 49 m j < placeL 48 m (m.length - (i + 1))
            · rw [decide_eq_true z, decide_eq_true (by omega)]
            · rw [decide_eq_false z, decide_eq_false (by omega)]
          rw [e, onRow_succ, ← List.append_assoc]
          have le : (onAcc m i ++ onRow m (i + 1) j).length ≤ 30 := by
            have h1 := onAcc_len m i (by omega)
            have h2 := onRow_len m (i + 1) j
            rw [List.length_append]
            omega
          generalize holdsL m (i + 1) j = bb
          cases bb with
          | true =>
            refine iteT ⟨_, rfl, .inl ⟨rfl, _, SqL.is hP⟩, _, rfl, _, rfl, by show 2 ≤ sizeLine; decide, fun T hT => ⟨p, xs, _, rfl, rfl, (Keep.new hT).lst hP, small1000 (by rw [hR.1]; omega), ?_⟩⟩
            have npT : p ≠ T := ne_of_none hP hT
            have hpH : H p = none := hp
            refine ⟨xs ++ [.ref T], _, _, _, rfl, (kH.newT hT).mut hp, ?_, ?_, upd_same, ?_⟩
            · rw [upd_ne (Ne.symm np1)]
              exact (Keep.new hT).lst hO
            · rw [upd_ne (Ne.symm np2)]
              exact (Keep.new hT).lst hZ
            · exact ((hR.mono (Keep.new hT).t).snoc ⟨T, rfl, upd_same⟩).mono ((KeepT.refl _).lst ((Keep.new hT).lst hP))
          | false =>
            rw [if_neg Bool.false_ne_true, List.append_nil]
            exact iteF ⟨xs, _, _, _, rfl, kH, hO, hZ, hP, hR⟩
        · rintro σ H6 ⟨xs, y6, y7, y8, rfl, kH, hO, hZ, hP, hR⟩
          rw [show ((((i + 1 : Nat) : Nat) : Int)).toNat = i + 1 by omega, ← onAcc_succ] at hR
          exact ⟨xs, _, _, _, _, _, rfl, kH, hO, hZ, hP, hR⟩
      · rintro σ H4 ⟨xs, y5, y6, y7, y8, y9, rfl, kH, hO, hZ, hP, hR⟩
        rw [n1] at hR
        exact ⟨_, rfl, k p xs H4 kH hP hR⟩
end
end R31
namespace R31
open PySem PySem.Spec PyProof.Rows L2
section
variable {P : Program} {w : World} {K : PySem.W.Frag} {mg : Str → Option Value} {base : Heap} {f c Pr Pi : Addr} {fd : FuncData}
theorem ok_loutput (D : Def K mg "_law_output" s__law_output ["_law_bank_here", "_law_memory_here"] f fd) (Z : Zs mg) (C__law_on : Callee P w K mg base 1 "_law_on" ["_law_memory_here"] spOn) (C__law_sum : Callee P w K mg base 3 "_law_sum" ["_law_some"] (spSum K)) :
    Callee P w K mg base 4 "_law_output" ["_law_bank_here", "_law_memory_here"] spOutput := by
  refine D.ok sc__law_output (fun vs H Q E h => ?_) (fun cdv A outer s H vs Q E hr h => ?_)
  · obtain ⟨v, n, ws, m, rfl, _⟩ := h
    rfl
  obtain ⟨v, n, ws, m, rfl, hB, g, hm, k⟩ := h
  have nd := sc__law_output.nd
  have hu65 := room65 hr
  have ghi := g.hi
  refine ⟨_, (pss_cons (ps_set (i := 2) nd rfl (Or.inr rfl) (pe_cl C__law_on (hr.mono (by decide)) (by rfl) (pa_cons (pv 1) pa_nil)))
    (pss_one (ps_ret (pe_cl C__law_sum (hr.mono (by decide)) (by rfl) (pa_cons (pe_lc (own := [("_law_one", 3)]) (g := gName 3) (by rfl) nd (pi_tup (pe_ix (show IxR _ (rIxT K) from ix_tup) (pv 0) pe_int (fun _ _ => rfl))) (blkOk_by (own := [("_law_one", 3)]) (N := nm__law_output) (sc := defScope s__law_output) (by decide +kernel)) (fun _ _ _ _ _ => (pg_name (i := 3) nd rfl (Or.inl rfl))) (fun _ _ _ _ _ => pts_one (pt_cmpR (show OpR _ _ (rInD K) from op_inD hu65) (pe_slice (show SlR _ (rSlA K) from sl_tupA) (pv 3) po_none (po_some pe_int)) (pv 2) (by rfl))) (fun _ _ _ _ _ => (pe_ix (show IxR _ (rIxT K) from ix_tup) (pv 3) pe_int (fun _ _ => rfl)))) pa_nil))))), ?_⟩
  refine ⟨_, rfl, m, rfl, by omega, fun po os H1 k1 hpo hos => ?_⟩
  obtain ⟨b, wt, xs, rfl, hb, hw, hW⟩ := hB.mono k1.t
  refine ⟨_, rfl, b, _, 1, _, rfl, rfl, SqT.is hb, rfl, wt, rfl, ⟨_, SqT.is hw⟩, fun D0 hD => ?_⟩
  refine lc_it (walk_tup (xs := xs)) (fun i H' => ∃ acc, Keep H1 H' ∧ H' D0 = some (.lst acc) ∧ Rts H' acc (selW (ws.take i) m)) ⟨[], Keep.new hD, upd_same, Rts.nil⟩ (fun i H' _ ⟨_, kH, _⟩ => SqT.is (kH.tup hw)) ?_ ?_
  · rintro i x H2 H3 hi ⟨acc, kH, hL, hR⟩ ⟨rfl, hx⟩
    have hil : i < ws.length := by rw [← hW.1]; exact hi
    obtain ⟨x', hx', t, r, rfl, ht, hr2⟩ := hW.2 i _ (List.getElem?_eq_getElem hil)
    rw [hx] at hx'
    cases hx'
    have g1 := g.each _ (List.getElem_mem hil)
    have ht3 := kH.tup ht
    refine ⟨rfl, _, rfl, 2, rfl, t, _, rfl, SqT.is ht3, fun z => absurd z.2 (show ¬ (HT.sIx 3 3 (some 2) = 3) by decide), fun _ T hT => ?_⟩
    have kT : Keep H3 (upd H3 T (.tup (cutV [V.int ((ws[i]).1 : Nat), V.int ((ws[i]).2.1 : Nat), r] none (some 2)))) := Keep.new hT
    have k4 := kH.trans kT
    have rT : Rt (upd H3 T (.tup (cutV [V.int ((ws[i]).1 : Nat), V.int ((ws[i]).2.1 : Nat), r] none (some 2)))) (.ref T) (((ws[i]).1 : Nat), ((ws[i]).2.1 : Nat)) := ⟨T, rfl, upd_same⟩
    refine ⟨_, rfl, dQ (((ws[i]).1 : Nat), ((ws[i]).2.1 : Nat)), (onP m).map dQ, rT.dp, .lst (SqL.is (k4.lst hpo)) (hos.mono k4.t).dps, shaped_dQ _, shaped_dQs _, _, rfl, ?_⟩
    rw [any_dQ]
    have em : decide (((((ws[i]).1 : Nat) : Int), (((ws[i]).2.1 : Nat) : Int)) ∈ onP m) = holdsL m (ws[i]).1 (ws[i]).2.1 := by
      have e := mem_onP (m := m) g1.1 (by rw [hm]; exact g1.2.1)
      by_cases z : holdsL m (ws[i]).1 (ws[i]).2.1 = true
      · rw [z]
        exact decide_eq_true (e.mpr z)
      · rw [Bool.eq_false_iff.mpr z]
        exact decide_eq_false fun y => z (e.mp y)
    rw [em]
    have sel1 : selW (ws.take (i + 1)) m = selW (ws.take i) m ++ (if holdsL m (ws[i]).1 (ws[i]).2.1 = true then [(ws[i]).2.2] else []) := by
      unfold selW
      rw [take_snoc (List.getElem?_eq_getElem hil), List.filter_append, List.map_append]
      congr 1
      by_cases z : holdsL m (ws[i]).1 (ws[i]).2.1 = true
      · rw [if_pos z, List.filter_cons, if_pos z]
        rfl
      · rw [if_neg z, List.filter_cons, if_neg z]
        rfl
    rw [sel1]
    generalize holdsL m (ws[i]).1 (ws[i]).2.1 = bb
    cases bb with
    | true =>
      refine iteT ⟨_, rfl, t, _, 2, _, rfl, rfl, SqT.is (k4.tup ht), rfl, acc, kT.lst hL, ?_, acc ++ [r], k4.mut hD, upd_same, ?_⟩
      · rw [hR.1]
        exact small1000 (Nat.le_trans (by
          unfold selW
          rw [List.length_map]
          exact Nat.le_trans (List.length_filter_le _ _) (by rw [List.length_take]; exact Nat.min_le_right _ _)) (Nat.le_trans g.few (by decide)))
      · exact ((hR.mono kT.t).snoc (hr2.mono k4.t)).mono ((KeepT.refl _).lst (kT.lst hL))
    | false =>
      rw [if_neg Bool.false_ne_true, List.append_nil]
      exact iteF ⟨acc, k4, kT.lst hL, hR.mono kT.t⟩
  · rintro H2 ⟨acc, kH, hL, hR⟩
    have e : ws.take xs.length = ws := List.take_of_length_le (by rw [hW.1]; exact Nat.le_refl _)
    rw [e] at hR
    obtain ⟨b1, b2⟩ := selW_bd g m
    exact ⟨D0, acc, selW ws m, 6, rfl, SqL.is hL, hR, b1, by omega, by decide, fun u H3 k3 hu => k u H3 ((k1.trans kH).trans k3) hu⟩
end
end R31
namespace R31
open PySem PySem.Spec PyProof.Rows L2
theorem KeepBut.free {r : Addr} {H H' : Hp} (k : KeepBut r H H') {l : Addr} (n : l ≠ r) (h : H' l = none) : H l = none := by
  cases q : H l with
  | none => rfl
  | some o =>
    rcases k l o n q with e | ⟨_, u, e, _⟩
    · rw [h] at e; cases e
    · rw [h] at e; cases e
theorem KeepBut.mut {r : Addr} {H H' : Hp} {p : Addr} {o : HO} (k : KeepBut r H H') (h : H p = none) : KeepBut r H (L2.upd H' p o) := fun b u n e => by
  rw [upd_ne (ne_of_none e h)]
  exact k b u n e
theorem RowAt.ne {K : PySem.W.Frag} {H0 H : Hp} {r l : Addr} (R : RowAt K H0 H r) (h : H l = none) : l ≠ r := by
  obtain ⟨a, ns, i, sd, rs, e, _⟩ := R.here
  exact Ne.symm (ne_of_none e h)
theorem RowAt.mut {K : PySem.W.Frag} {H0 H : Hp} {r p : Addr} {o : HO} (R : RowAt K H0 H r) (n : p ≠ r) (h : H0 p = none) : RowAt K H0 (upd H p o) r := by
  obtain ⟨a, ns, i, sd, rs, e, q⟩ := R.here
  exact ⟨R.keep.mut h, R.new, a, ns, i, sd, rs, by rw [upd_ne (Ne.symm n)]; exact e, q⟩
theorem RowAt.seen {K : PySem.W.Frag} {H0 H : Hp} {r : Addr} (R : RowAt K H0 H r) : ∃ ys, H r = some (.lst ys) := by
  obtain ⟨a, ns, i, sd, rs, e, q⟩ := R.here
  exact ⟨_, e⟩
theorem RowAt.kt {K : PySem.W.Frag} {H0 H H' : Hp} {r : Addr} (R : RowAt K H0 H r) (k : KeepBut r H H') : KeepT H H' := by
  obtain ⟨ys, e⟩ := R.seen
  exact k.t e
/-! ### promises of the draws -/
def GoodQ (q : Int × Int) : Prop := Low q ∧ q.1 ≠ 0 ∧ q.1.natAbs ≤ 31 ∧ q.2 ≤ 6
def spWeight (K : PySem.W.Frag) : Sp := fun vs H Q _ => ∃ (H0 : Hp) (r : Addr), vs = [.ref r] ∧ RowAt K H0 H r ∧ ∀ v q H', GoodQ q → Rt H' v q → KeepBut r H H' → RowAt K H0 H' r → Q v H'
def spSteps (K : PySem.W.Frag) : Sp := fun vs H Q _ => ∃ (H0 : Hp) (r : Addr), vs = [.ref r] ∧ RowAt K H0 H r ∧ ∀ (us : List Bool) H', us.length ≤ 100 → KeepBut r H H' → RowAt K H0 H' r → Q (.str (S (us.map lett))) H'
def spBank (K : PySem.W.Frag) : Sp := fun vs H Q _ => ∃ (H0 : Hp) (r : Addr), vs = [.ref r, .int 5] ∧ RowAt K H0 H r ∧ ∀ v n ws H', GoodB n ws → BankAt H' v n ws → KeepBut r H H' → RowAt K H0 H' r → Q v H'
theorem rnorm_good {t b : Int} (h0 : t ≠ 0) (h1 : t.natAbs ≤ 31) (h2 : 0 < b) (h3 : b ≤ 6) : GoodQ (rnorm t b) := by
  refine ⟨rnorm_low h2, ?_, ?_, ?_⟩
  · intro z
    have d := gI_dvd_l t b
    have e := Int.ediv_mul_cancel d
    have z' : t / gI t b = 0 := z
    rw [z', Int.zero_mul] at e
    exact h0 e.symm
  · exact Nat.le_trans (natAbs_div_le (gI_pos h2) (gI_dvd_l t b)) h1
  · have := natAbs_div_le (gI_pos (t := t) h2) (gI_dvd_r t b)
    show b / gI t b ≤ 6
    omega
theorem pick_mul : ∀ up : Bool, ∀ n : Nat, n ≤ 9 → Txt.mul (S [lett up]) (n : Int) = S ((List.replicate n up).map lett) := by decide +kernel
theorem mulOk_small {c n : Nat} (h1 : 1 ≤ n) (h : n ≤ 9) : MulOk (S [c]) (n : Int) := by
  have e : (S [c]).length = 1 := S_len [c]
  refine ⟨?_, ?_, ?_⟩
  · rw [Bool.or_eq_false_iff, decide_eq_false_iff_not, decide_eq_false_iff_not]
    exact ⟨by omega, by omega⟩
  · rw [e]
    intro _ _ z
    match n, h1, h with
    | 1, _, _ | 2, _, _ | 3, _, _ | 4, _, _ | 5, _, _ | 6, _, _ | 7, _, _ | 8, _, _ | 9, _, _ => revert z; decide
  · rw [e]
    intro _ _
    match n, h1, h with
    | 1, _, _ | 2, _, _ | 3, _, _ | 4, _, _ | 5, _, _ | 6, _, _ | 7, _, _ | 8, _, _ | 9, _, _ => decide +kernel
section
variable {P : Program} {w : World} {K : PySem.W.Frag} {mg : Str → Option Value} {base : Heap} {f c Pr Pi : Addr} {fd : FuncData}
theorem ok_lweight (D : Def K mg "_law_weight" s__law_weight ["_law_row"] f fd) (C__law_pick : Callee P w K mg base 2 "_law_pick" ["_law_row", "_law_things"] (spPick K)) (C__law_taken : Callee P w K mg base 1 "_law_taken" ["_law_row", "_law_many"] (spTaken K))
    (C__law_ratio : Callee P w K mg base 1 "_law_ratio" ["_law_top", "_law_bottom"] spRatio) : Callee P w K mg base 3 "_law_weight" ["_law_row"] (spWeight K) := by
  refine D.ok sc__law_weight (fun vs H Q E h => ?_) (fun cdv A outer s H vs Q E hr h => ?_)
  · obtain ⟨H0, r, rfl, _⟩ := h
    rfl
  obtain ⟨H0, r, rfl, R, k⟩ := h
  have nd := sc__law_weight.nd
  refine ⟨_, (pss_cons (ps_set (i := 1) nd rfl (Or.inl rfl) (pe_op op_mulW (pe_cl C__law_pick (hr.mono (by decide)) (by rfl) (pa_cons (pv 0) (pa_cons (pe_lst (pa_cons pe_int (pa_cons pe_int (pa_cons pe_int (pa_cons (pe_op op_add pe_int (pe_cl C__law_taken (hr.mono (by decide)) (by rfl) (pa_cons (pv 0) (pa_cons pe_int pa_nil)))) pa_nil))))) pa_nil))) (pe_cl C__law_pick (hr.mono (by decide)) (by rfl) (pa_cons (pv 0) (pa_cons (pe_lst (pa_cons pe_int (pa_cons pe_int (pa_cons (pe_un un_neg pe_int) pa_nil)))) pa_nil)))))
    (pss_one (ps_ret (pe_cl C__law_ratio (hr.mono (by decide)) (by rfl) (pa_cons (pv 1) (pa_cons (pe_op op_add pe_int (pe_cl C__law_pick (hr.mono (by decide)) (by rfl) (pa_cons (pv 0) (pa_cons (pe_lst (pa_cons pe_int (pa_cons pe_int (pa_cons (pe_cl C__law_taken (hr.mono (by decide)) (by rfl) (pa_cons (pv 0) (pa_cons pe_int pa_nil))) pa_nil)))) pa_nil)))) pa_nil)))))), ?_⟩
  refine ⟨_, rfl, _, rfl, H0, r, 30, rfl, R, by decide, by decide, fun v1 H1 a0 a1 kb1 R1 => ⟨_, _, rfl, rfl, by show 4 ≤ sizeLine; decide, fun l hl => ?_⟩⟩
  have R1' := R1.on (Keep.new (o := .lst [.int 1, .int 2, .int 5, .int (1 + v1)]) hl)
  refine ⟨H0, r, _, rfl, R1', .inl ⟨l, _, rfl, upd_same, R1.ne hl, by show 0 < 4; decide, by show 4 ≤ 100; decide, fun y H2 hy kb2 R2 => ?_⟩⟩
  obtain ⟨t1, rfl, t1a, t1b⟩ : ∃ a : Int, y = .int a ∧ 1 ≤ a ∧ a ≤ 30 := by
    simp only [List.mem_cons, List.not_mem_nil, or_false] at hy
    rcases hy with z | z | z | z
    · exact ⟨_, z, by decide, by decide⟩
    · exact ⟨_, z, by decide, by decide⟩
    · exact ⟨_, z, by decide, by decide⟩
    · exact ⟨_, z, by omega, by omega⟩
  have kb12 := kb1.trans ((Keep.new (o := .lst [.int 1, .int 2, .int 5, .int (1 + v1)]) hl).but.trans kb2)
  refine ⟨_, rfl, _, rfl, by show 3 ≤ sizeLine; decide, fun l2 hl2 => ?_⟩
  have R2' := R2.on (Keep.new (o := .lst [.int 1, .int 1, .int (-1)]) hl2)
  refine ⟨H0, r, _, rfl, R2', .inl ⟨l2, _, rfl, upd_same, R2.ne hl2, by show 0 < 3; decide, by show 3 ≤ 100; decide, fun y H3 hy kb3 R3 => ?_⟩⟩
  obtain ⟨t2, rfl, t2a⟩ : ∃ a : Int, y = .int a ∧ (a = 1 ∨ a = -1) := by
    simp only [List.mem_cons, List.not_mem_nil, or_false] at hy
    rcases hy with z | z | z
    · exact ⟨_, z, .inl rfl⟩
    · exact ⟨_, z, .inl rfl⟩
    · exact ⟨_, z, .inr rfl⟩
  have kb123 := kb12.trans ((Keep.new (o := .lst [.int 1, .int 1, .int (-1)]) hl2).but.trans kb3)
  have mm : CMulW t1 t2 := wide_mul (a := 6) (b := 6) (by show t1.natAbs < 64; omega) (by show t2.natAbs < 64; omega) (by decide) (by decide) (by decide)
  refine ⟨_, _, rfl, rfl, mm, ?_⟩
  have top0 : t1 * t2 ≠ 0 ∧ (t1 * t2).natAbs ≤ 31 := by
    rcases t2a with z | z <;> subst z <;> omega
  refine ⟨_, rfl, _, rfl, _, rfl, H0, r, 6, rfl, R3, by decide, by decide, fun v4 H4 c0 c1 kb4 R4 => ⟨by show 3 ≤ sizeLine; decide, fun l3 hl3 => ?_⟩⟩
  have R4' := R4.on (Keep.new (o := .lst [.int 0, .int 0, .int v4]) hl3)
  refine ⟨H0, r, _, rfl, R4', .inl ⟨l3, _, rfl, upd_same, R4.ne hl3, by show 0 < 3; decide, by show 3 ≤ 100; decide, fun y H5 hy kb5 R5 => ?_⟩⟩
  obtain ⟨b, rfl, b0, b1⟩ : ∃ a : Int, y = .int a ∧ 0 ≤ a ∧ a < 6 := by
    simp only [List.mem_cons, List.not_mem_nil, or_false] at hy
    rcases hy with z | z | z
    · exact ⟨_, z, by decide, by decide⟩
    · exact ⟨_, z, by decide, by decide⟩
    · exact ⟨_, z, by omega, by omega⟩
  have kb5' := (kb123.trans kb4).trans ((Keep.new (o := .lst [.int 0, .int 0, .int v4]) hl3).but.trans kb5)
  have bb : (1 + b).natAbs < 2 ^ 4000 := Nat.lt_of_lt_of_le (show (1 + b).natAbs < 2 ^ 4 by show (1 + b).natAbs < 16; omega) (Nat.pow_le_pow_right (by decide) (by decide))
  refine ⟨_, _, rfl, rfl, t1 * t2, 1 + b, rfl, by omega, bb, fun v H6 k6 hv => ?_⟩
  exact k v _ H6 (rnorm_good top0.1 top0.2 (by omega) (by omega)) hv (kb5'.trans k6.but) (R5.on k6)
theorem ok_lsteps (D : Def K mg "_law_steps" s__law_steps ["_law_row"] f fd) (C__law_pick : Callee P w K mg base 2 "_law_pick" ["_law_row", "_law_things"] (spPick K)) (C__law_taken : Callee P w K mg base 1 "_law_taken" ["_law_row", "_law_many"] (spTaken K))
    (Z : Zs mg) : Callee P w K mg base 3 "_law_steps" ["_law_row"] (spSteps K) := by
  refine D.ok sc__law_steps (fun vs H Q E h => ?_) (fun cdv A outer s H vs Q E hr h => ?_)
  · obtain ⟨H0, r, rfl, _⟩ := h
    rfl
  obtain ⟨H0, r, rfl, R, k⟩ := h
  have nd := sc__law_steps.nd
  refine ⟨_, (pss_cons (ps_par (i := 1) (j := 2) (by rfl) nd rfl rfl (by decide) rfl rfl (pa_cons (pe_cl C__law_pick (hr.mono (by decide)) (by rfl) (pa_cons (pv 0) (pa_cons pe_str pa_nil))) (pa_cons pe_str pa_nil)) (by rfl))
    (pss_cons (ps_for PassesOwn.never rfl (pi_range1 (by rfl) Z.z_range (pa_cons (pe_cl C__law_taken (hr.mono (by decide)) (by rfl) (pa_cons (pv 0) (pa_cons pe_int pa_nil))) pa_nil)) (pg_name (i := 3) nd rfl (Or.inl rfl)) (pss_cons (ps_set (i := 2) nd rfl (Or.inl rfl) (pe_op op_add_str (pv 2) (pe_op op_mulS (pv 1) (pe_op op_add pe_int (pe_cl C__law_pick (hr.mono (by decide)) (by rfl) (pa_cons (pv 0) (pa_cons (pe_lst (pa_cons pe_int (pa_cons pe_int (pa_cons (pe_cl C__law_taken (hr.mono (by decide)) (by rfl) (pa_cons (pv 0) (pa_cons pe_int pa_nil))) pa_nil)))) pa_nil)))))))
    (pss_one (ps_set (i := 1) nd rfl (Or.inl rfl) (pe_ifExp (pt_cmpR op_eq (pv 1) pe_str (nomark _)) pe_str pe_str)))))
    (pss_one (ps_ret (pv 2))))), ?_⟩
  refine ⟨_, rfl, H0, r, _, rfl, R, .inr ⟨[117, 100], by rw [cud], by decide, by decide, fun cc H1 hcc kb1 R1 => ?_⟩⟩
  obtain ⟨up, rfl⟩ : ∃ up, cc = lett up := by
    simp only [List.mem_cons, List.not_mem_nil, or_false] at hcc
    rcases hcc with z | z
    · exact ⟨true, z⟩
    · exact ⟨false, z⟩
  rw [cnil]
  refine ⟨_, _, rfl, ?_⟩
  refine ⟨_, rfl, H0, r, 9, rfl, R1, by decide, by decide, fun v H2 v0 v1 kb2 R2 => ⟨_, rfl, by omega, by omega, ?_⟩⟩
  refine for_it walk_range (fun i σ H' => ∃ (up : Bool) (us : List Bool) (y3 : Option V), σ = [some (.ref r), some (.str (S [lett up])), some (.str (S (us.map lett))), y3] ∧ us.length ≤ 9 * i ∧ KeepBut r H H' ∧ RowAt K H0 H' r)
    ⟨up, [], none, rfl, Nat.zero_le _, kb1.trans kb2, R2⟩ (fun _ _ _ _ _ => trivial) ?_ ?_
  · rintro i x σ H3 H4 hi ⟨up, us, y3, rfl, hus, kb, R3⟩ ⟨rfl, rfl⟩
    have hi9 : i < 9 := by omega
    refine ⟨_, rfl, _, rfl, _, rfl, _, rfl, H0, r, 9, rfl, R3, by decide, by decide, fun v4 H4 c0 c1 kb4 R4 => ⟨by show 3 ≤ sizeLine; decide, fun l hl => ?_⟩⟩
    have R4' := R4.on (Keep.new (o := .lst [.int 0, .int 1, .int v4]) hl)
    refine ⟨H0, r, _, rfl, R4', .inl ⟨l, _, rfl, upd_same, R4.ne hl, by show 0 < 3; decide, by show 3 ≤ 100; decide, fun y H5 hy kb5 R5 => ?_⟩⟩
    obtain ⟨b, rfl, b1⟩ : ∃ a : Nat, y = .int (a : Nat) ∧ a ≤ 8 := by
      simp only [List.mem_cons, List.not_mem_nil, or_false] at hy
      rcases hy with z | z | z
      · exact ⟨0, z, by decide⟩
      · exact ⟨1, z, by decide⟩
      · exact ⟨v4.toNat, by rw [z]; exact congrArg V.int (by omega), by omega⟩
    have kb5' := (kb.trans kb4).trans ((Keep.new (o := .lst [.int 0, .int 1, .int v4]) hl).but.trans kb5)
    have eb : (1 : Int) + ((b : Nat) : Int) = ((b + 1 : Nat) : Int) := by omega
    refine ⟨_, _, rfl, rfl, S [lett up], 1 + (b : Int), rfl, rfl, by rw [eb]; exact mulOk_small (by omega) (by omega), ?_⟩
    rw [eb, pick_mul up (b + 1) (by omega)]
    refine ⟨_, _, rfl, rfl, ?_, ?_⟩
    · rw [S_len, S_len, List.length_map, List.length_map, List.length_replicate]
      exact small9 (by omega)
    rw [S_app, ← List.map_append]
    refine ⟨_, rfl, rfl, _, rfl, ?_⟩
    rw [cu, cd, S_dec]
    have hl2 : (us ++ List.replicate (b + 1) up).length ≤ 9 * (i + 1) := by
      rw [List.length_append, List.length_replicate]
      omega
    cases up with
    | true => exact iteT ⟨false, _, _, rfl, hl2, kb5', R5⟩
    | false => exact iteF ⟨true, _, _, rfl, hl2, kb5', R5⟩
  · rintro σ H3 ⟨up, us, y3, rfl, hus, kb, R3⟩
    exact ⟨_, rfl, k us H3 (by omega) kb R3⟩
end
end R31
namespace R31
open PySem PySem.Spec PyProof.Rows L2
def tri : Nat → Nat
  | 0 => 0
  | n + 1 => tri n + (n + 1)
/-- the relays drawn so far, all before (h, l) -/
structure Drawn (n : Nat) (ws : List Wt) (few h l : Nat) : Prop where
  few : ws.length ≤ few
  each : ∀ w ∈ ws, GoodW n w
  asc : ∀ (i : Nat) (w w' : Wt), ws[i]? = some w → ws[i + 1]? = some w' → relLt w w'
  low : ∀ w ∈ ws, w.1 < h ∨ (w.1 = h ∧ w.2.1 < l)
theorem Drawn.skip {n few few' h h' l l' : Nat} {ws : List Wt} (d : Drawn n ws few h l) (hf : few ≤ few') (hh : h < h' ∨ (h = h' ∧ l ≤ l')) : Drawn n ws few' h' l' :=
  ⟨Nat.le_trans d.few hf, d.each, d.asc, fun w hw => by have := d.low w hw; omega⟩
theorem Drawn.snoc {n few h l : Nat} {ws : List Wt} {q : Int × Int} (d : Drawn n ws few h l) (h1 : l < h) (h2 : h ≤ n) (g : GoodQ q) : Drawn n (ws ++ [(h, l, q)]) (few + 1) h (l + 1) := by
  refine ⟨?_, fun w hw => ?_, fun i w w' e1 e2 => ?_, fun w hw => ?_⟩
  · rw [List.length_append]
    exact Nat.succ_le_succ d.few
  · rcases List.mem_append.mp hw with z | z
    · exact d.each w z
    · rw [List.mem_singleton.mp z]
      exact ⟨h1, h2, g⟩
  · have l1 := (List.getElem?_eq_some_iff.mp e2).1
    rw [List.length_append, List.length_singleton] at l1
    have hi : i < ws.length := by omega
    rw [List.getElem?_append_left hi] at e1
    by_cases z : i + 1 < ws.length
    · rw [List.getElem?_append_left z] at e2
      exact d.asc i w w' e1 e2
    · have e3 : i + 1 = ws.length := by omega
      rw [List.getElem?_append_right (by omega), e3, Nat.sub_self] at e2
      cases e2
      exact d.low w (List.mem_of_getElem? e1)
  · rcases List.mem_append.mp hw with z | z
    · have := d.low w z
      omega
    · rw [List.mem_singleton.mp z]
      exact .inr ⟨rfl, Nat.lt_succ_self _⟩
theorem W3s.snoc {H : Hp} {xs : List V} {ws : List Wt} {v : V} {w : Wt} (h : W3s H xs ws) (r : W3 H v w) : W3s H (xs ++ [v]) (ws ++ [w]) := by
  refine ⟨by rw [List.length_append, List.length_append, h.1]; rfl, fun i p e => ?_⟩
  by_cases hi : i < ws.length
  · rw [List.getElem?_append_left hi] at e
    obtain ⟨u, e1, e2⟩ := h.2 i p e
    exact ⟨u, by rw [List.getElem?_append_left (by rw [h.1]; exact hi)]; exact e1, e2⟩
  · have hi2 : i = ws.length := by
      have := (List.getElem?_eq_some_iff.mp e).1
      rw [List.length_append, List.length_singleton] at this
      omega
    subst hi2
    rw [List.getElem?_append_right (Nat.le_refl _), Nat.sub_self] at e
    have e' : w = p := Option.some.inj e
    subst e'
    refine ⟨v, ?_, r⟩
    rw [List.getElem?_append_right (by rw [h.1]; exact Nat.le_refl _), h.1, Nat.sub_self]
    rfl
theorem tri_le : ∀ n ≤ 5, tri n ≤ 15 := by decide
section
variable {P : Program} {w : World} {K : PySem.W.Frag} {mg : Str → Option Value} {base : Heap} {f c Pr Pi : Addr} {fd : FuncData}
theorem ok_lbank (D : Def K mg "_law_bank" s__law_bank ["_law_row", "_law_most"] f fd) (C__law_weight : Callee P w K mg base 3 "_law_weight" ["_law_row"] (spWeight K)) (C__law_taken : Callee P w K mg base 1 "_law_taken" ["_law_row", "_law_many"] (spTaken K))
    (Z : Zs mg) : Callee P w K mg base 4 "_law_bank" ["_law_row", "_law_most"] (spBank K) := by
  refine D.ok sc__law_bank (fun vs H Q E h => ?_) (fun cdv A outer s H vs Q E hr h => ?_)
  · obtain ⟨H0, r, rfl, _⟩ := h
    rfl
  obtain ⟨H0, r, rfl, R, k⟩ := h
  have nd := sc__law_bank.nd
  refine ⟨_, (pss_cons (ps_par (i := 2) (j := 3) (by rfl) nd rfl rfl (by decide) rfl rfl (pa_cons (pe_op op_add pe_int (pe_cl C__law_taken (hr.mono (by decide)) (by rfl) (pa_cons (pv 0) (pa_cons (pv 1) pa_nil)))) (pa_cons (pe_lst pa_nil) pa_nil)) (by rfl))
    (pss_cons (ps_for PassesOwn.never rfl (pi_range2 (by rfl) Z.z_range (pa_cons pe_int (pa_cons (pe_op op_add (pv 2) pe_int) pa_nil))) (pg_name (i := 4) nd rfl (Or.inl rfl)) (pss_one (ps_for PassesOwn.never rfl (pi_range1 (by rfl) Z.z_range (pa_cons (pv 4) pa_nil)) (pg_name (i := 5) nd rfl (Or.inl rfl)) (pss_one (ps_if (pt_cmpR op_gt (pe_cl C__law_taken (hr.mono (by decide)) (by rfl) (pa_cons (pv 0) (pa_cons pe_int pa_nil))) pe_int (nomark _)) (pss_one (ps_expr (pe_bm PySem.F.plainAttrs_list PySem.F.slot_list_append PySem.F.type_list_append mt_append (pv 3) (pa_cons (pe_tup (pa_cons (pv 4) (pa_cons (pv 5) (pa_cons (pe_cl C__law_weight (hr.mono (by decide)) (by rfl) (pa_cons (pv 0) pa_nil)) pa_nil)))) pa_nil)))) pss_nil)))))
    (pss_one (ps_ret (pe_tup (pa_cons (pv 2) (pa_cons (pe_callTy call_tuple_of (by rfl) Z.z_tuple (by decide +kernel) (pa_cons (pv 3) pa_nil)) pa_nil))))))), ?_⟩
  refine ⟨_, rfl, _, rfl, H0, r, 5, rfl, R, by decide, by decide, fun v H1 v0 v1 kb1 R1 => ⟨_, _, rfl, rfl, Nat.zero_le _, fun p hp => ⟨_, _, rfl, ?_⟩⟩⟩
  obtain ⟨n, en, n1, n5⟩ : ∃ n : Nat, 1 + v = ((n : Nat) : Int) ∧ 1 ≤ n ∧ n ≤ 5 := ⟨(1 + v).toNat, by omega, by omega, by omega⟩
  show tSeq _ _ _ [some (.ref r), some (.int 5), some (.int (1 + v)), some (.ref p), none, none] (L2.upd H1 p (.lst []))
  rw [en]
  have npr : p ≠ r := R1.ne hp
  have pH : H p = none := kb1.free npr hp
  have pH0 : H0 p = none := R.keep.free pH
  have n1' : (((n : Nat) : Int) + 1 - 1).toNat = n := by omega
  have Rp := R1.mut (o := .lst []) npr pH0
  have kbp : KeepBut r H (L2.upd H1 p (.lst [])) := kb1.mut pH
  refine ⟨_, rfl, _, _, rfl, rfl, _, _, rfl, ⟨by decide, by decide, by omega, by omega⟩, for_it walk_range (fun i σ H' => ∃ (xs : List V) (ws : List Wt) (y4 y5 : Option V), σ = [some (.ref r), some (.int 5), some (.int (n : Nat)), some (.ref p), y4, y5] ∧ KeepBut r H H' ∧ RowAt K H0 H' r ∧
      H' p = some (.lst xs) ∧ W3s H' xs ws ∧ Drawn n ws (tri i) (i + 1) 0)
    ⟨[], [], _, _, rfl, kbp, Rp, upd_same, ⟨rfl, fun i w e => by simp at e⟩, ⟨Nat.le_refl _, fun w hw => by simp at hw, fun i w w' e => by simp at e, fun w hw => by simp at hw⟩⟩ (fun _ _ _ _ _ => trivial) ?_ ?_⟩
  · rintro i x σ H2 H3 hi ⟨xs, ws, y4, y5, rfl, kb, R2, hP, hW, hd⟩ ⟨rfl, hx⟩
    obtain rfl : x = .int ((i + 1 : Nat) : Int) := by
      rw [hx]
      exact congrArg V.int (by omega)
    have hi' : i < n := by omega
    refine ⟨_, rfl, (((i + 1 : Nat) : Nat) : Int), rfl, by omega, by omega, for_it walk_range (fun j σ H' => ∃ (xs : List V) (ws : List Wt) (y5 : Option V), σ = [some (.ref r), some (.int 5), some (.int (n : Nat)), some (.ref p), some (.int ((i + 1 : Nat) : Int)), y5] ∧ KeepBut r H H' ∧ RowAt K H0 H' r ∧
        H' p = some (.lst xs) ∧ W3s H' xs ws ∧ Drawn n ws (tri i + j) (i + 1) j)
      ⟨xs, ws, _, rfl, kb, R2, hP, hW, hd⟩ (fun _ _ _ _ _ => trivial) ?_ ?_⟩
    · rintro j x σ H4 H5 hj ⟨xs, ws, y5, rfl, kb, R4, hP, hW, hd⟩ ⟨rfl, hx⟩
      obtain rfl : x = .int ((j : Nat) : Int) := by
        rw [hx]
        exact congrArg V.int (by omega)
      have hj' : j < i + 1 := by omega
      have few15 : ws.length ≤ 15 := by
        have a1 := hd.few
        have a2 := tri_le (i + 1) (by omega)
        have a3 : tri (i + 1) = tri i + (i + 1) := rfl
        omega
      refine ⟨_, rfl, H0, r, 4, rfl, R4, by decide, by decide, fun v5 H6 c0 c1 kb5 R5 => ⟨_, _, rfl, rfl, _, rfl, ?_⟩⟩
      have kb6 := kb.trans kb5
      have hP6 := kb5.lst npr hP
      have hW6 := hW.mono (R4.kt kb5)
      refine ite2 (fun _ => ?_) (fun _ => ?_)
      · refine ⟨_, rfl, .inl ⟨rfl, _, SqL.is hP6⟩, _, rfl, _, rfl, _, rfl, H0, r, rfl, R5, fun v7 q H7 gq hv7 kb7 R7 => ⟨by show 3 ≤ sizeLine; decide, fun T hT => ?_⟩⟩
        have hP7 := kb7.lst npr hP6
        have hW7 := hW6.mono (R5.kt kb7)
        have kb8 := kb6.trans kb7
        have kT : Keep H7 (L2.upd H7 T (.tup [.int ((i + 1 : Nat) : Int), .int ((j : Nat) : Int), v7])) := Keep.new hT
        have hPT := kT.lst hP7
        have ktP : KeepT H7 (L2.upd (L2.upd H7 T (.tup [.int ((i + 1 : Nat) : Int), .int ((j : Nat) : Int), v7])) p (.lst (xs ++ [.ref T]))) := ((KeepT.refl H7).new hT).lst hPT
        have hWT := (hW7.mono kT.t).snoc (v := .ref T) (w := (i + 1, j, q)) ⟨T, v7, rfl, upd_same, hv7.mono kT.t⟩
        refine ⟨p, xs, _, rfl, rfl, hPT, small1000 (by rw [hW.1]; omega), ?_⟩
        refine ⟨xs ++ [.ref T], ws ++ [(i + 1, j, q)], _, rfl, (kb8.trans kT.but).mut pH, (R7.on kT).mut npr pH0, upd_same, hWT.mono ((KeepT.refl _).lst hPT), hd.snoc hj' (by omega) gq⟩
      · exact ⟨xs, ws, _, rfl, kb6, R5, hP6, hW6, hd.skip (by omega) (by omega)⟩
    · rintro σ H4 ⟨xs, ws, y5, rfl, kb, R4, hP, hW, hd⟩
      rw [show ((((i + 1 : Nat) : Nat) : Int)).toNat = i + 1 by omega] at hd
      exact ⟨xs, ws, _, _, rfl, kb, R4, hP, hW, hd.skip (by show tri i + (i + 1) ≤ tri i + (i + 1); omega) (by omega)⟩
  · rintro σ H2 ⟨xs, ws, y4, y5, rfl, kb, R2, hP, hW, hd⟩
    rw [n1'] at hd
    have g : GoodB n ws := ⟨n1, n5, Nat.le_trans hd.few (tri_le n n5), hd.each, hd.asc⟩
    refine ⟨_, rfl, _, rfl, p, xs, rfl, .inl ⟨SqL.is hP, fun l hl => ⟨by show 2 ≤ sizeLine; decide, fun T hT => ?_⟩⟩⟩
    have kl : Keep H2 (L2.upd H2 l (.tup xs)) := Keep.new hl
    have kT : Keep H2 (L2.upd (L2.upd H2 l (.tup xs)) T (.tup [.int (n : Nat), .ref l])) := kl.newT hT
    have nlT : l ≠ T := ne_of_none upd_same hT
    exact k _ n ws _ g ⟨T, l, xs, rfl, upd_same, by rw [upd_ne nlT]; exact upd_same, hW.mono kT.t⟩ (kb.trans kT.but) (R2.on kT)
end
end R31
namespace R31
open PySem PySem.Spec PyProof.Rows L2
def Sm : Nat → Hp → V → V → Prop
  | 0, _, _, _ => False
  | d + 1, H, x, y => (x = .non ∧ y = .non) ∨ (∃ s : Str, s.length ≤ 1000 ∧ x = .str s ∧ y = .str s) ∨ (∃ i : Int, x = .int i ∧ y = .int i) ∨
    ∃ (p q : Addr) (xs ys : List V), x = .ref p ∧ y = .ref q ∧ H p = some (.tup xs) ∧ H q = some (.tup ys) ∧ xs.length = ys.length ∧ xs.length ≤ 1000 ∧ ∀ (i : Nat) (u v : V), xs[i]? = some u → ys[i]? = some v → Sm d H u v
theorem Sm.mono {H H' : Hp} (k : KeepT H H') : ∀ {d : Nat} {x y : V}, Sm d H x y → Sm d H' x y
  | 0, _, _, h => h
  | d + 1, x, y, h => by
    rcases h with h | h | h | ⟨p, q, xs, ys, e1, e2, h1, h2, h3, h4, h5⟩
    · exact .inl h
    · exact .inr (.inl h)
    · exact .inr (.inr (.inl h))
    · exact .inr (.inr (.inr ⟨p, q, xs, ys, e1, e2, k _ _ h1, k _ _ h2, h3, h4, fun i u v a b => (h5 i u v a b).mono k⟩))
def spAlike (d : Nat) : Sp := fun vs H Q _ => ∃ x y : V, vs = [x, y] ∧ Sm d H x y ∧ ∀ H', Keep H H' → Q (.bl true) H'
theorem kit_tl {K : PySem.W.Frag} {t : String} {a b : Bool} (h1 : kitB t "tuple" = some a) (h2 : kitB t "list" = some b) : PySem.W.kitAny K (.type t) [.type "tuple", .type "list"] = some (a || b) := by
  refine kitAny_cons (kit_ty h1) (fun z => ?_) (fun z => by rw [z]; rfl)
  subst z
  exact kitAny_cons (kit_ty h2) (fun z => by rw [z]; rfl) (fun z => by rw [z]; rfl)
theorem cls_tl : Paired ClsV [.ty "tuple", .ty "list"] [.type "tuple", .type "list"] := .cons (.ty _) (.cons (.ty _) .nil)
section
variable {P : Program} {w : World} {K : PySem.W.Frag} {mg : Str → Option Value} {base : Heap} {f c Pr Pi : Addr} {fd : FuncData}
theorem never_callee {x : Str} {st : Stmt} {ps : List Str} (D : Def K mg x st ps f fd) {sp : Sp} (h : ∀ vs H Q E, ¬ sp vs H Q E) : Callee P w K mg base 0 x ps sp :=
  ⟨f, fd, ⟨fun vs H Q E q => absurd q (h _ _ _ _), fun A outer s H args us vs Q E _ _ _ _ q => absurd q (h _ _ _ _)⟩, D.bd, D.fn.kp, D.mg⟩
theorem alike_step {d : Nat} (D : Def K mg "_law_alike" s__law_alike ["_law_found", "_law_due"] f fd) (Z : Zs mg) (C__law_alike : Callee P w K mg base d "_law_alike" ["_law_found", "_law_due"] (spAlike d)) : Callee P w K mg base (d + 1) "_law_alike" ["_law_found", "_law_due"] (spAlike (d + 1)) := by
  refine D.ok sc__law_alike (fun vs H Q E h => ?_) (fun cdv A outer s H vs Q E hr h => ?_)
  · obtain ⟨x, y, rfl, _⟩ := h
    rfl
  obtain ⟨x, y, rfl, hs, k⟩ := h
  have nd := sc__law_alike.nd
  refine ⟨_, (pss_cons (ps_if (pt_val (pe_callB call_isiT (by rfl) Z.z_isinstance (by decide +kernel) (pa_cons (pv 1) (pa_cons (pe_tup (pa_cons (pe_bltn (v := .ty "tuple") (by rfl) Z.z_tuple (by decide +kernel) rfl) (pa_cons (pe_bltn (v := .ty "list") (by rfl) Z.z_list (by decide +kernel) rfl) pa_nil))) pa_nil)))) (pss_cons (ps_if (PW.pt (pw_or (pt_not (pt_val (pe_callB call_isiT (by rfl) Z.z_isinstance (by decide +kernel) (pa_cons (pv 0) (pa_cons (pe_tup (pa_cons (pe_bltn (v := .ty "tuple") (by rfl) Z.z_tuple (by decide +kernel) rfl) (pa_cons (pe_bltn (v := .ty "list") (by rfl) Z.z_list (by decide +kernel) rfl) pa_nil))) pa_nil))))) (pw_or1 (pt_cmpR op_ne (pe_callB call_isi (by rfl) Z.z_isinstance (by decide +kernel) (pa_cons (pv 0) (pa_cons (pe_bltn (v := .ty "list") (by rfl) Z.z_list (by decide +kernel) rfl) pa_nil))) (pe_callB call_isi (by rfl) Z.z_isinstance (by decide +kernel) (pa_cons (pv 1) (pa_cons (pe_bltn (v := .ty "list") (by rfl) Z.z_list (by decide +kernel) rfl) pa_nil))) (nomark _))))) (pss_one (ps_ret pe_bl)) pss_nil)
    (pss_cons (ps_if (pt_cmpR op_ne (pe_callB call_len (by rfl) Z.z_len (by decide +kernel) (pa_cons (pv 0) pa_nil)) (pe_callB call_len (by rfl) Z.z_len (by decide +kernel) (pa_cons (pv 1) pa_nil)) (nomark _)) (pss_one (ps_ret pe_bl)) pss_nil)
    (pss_one (ps_ret (pe_cmpR (show OpR _ _ (rEqD K) from op_eqD hr.units) (pe_lc (own := [("_law_k", 2)]) (g := gName 2) (by rfl) nd (pi_range1 (by rfl) Z.z_range (pa_cons (pe_callB call_len (by rfl) Z.z_len (by decide +kernel) (pa_cons (pv 1) pa_nil)) pa_nil)) (blkOk_by (own := [("_law_k", 2)]) (N := nm__law_alike) (sc := defScope s__law_alike) (by decide +kernel)) (fun _ _ _ _ _ => (pg_name (i := 2) nd rfl (Or.inl rfl))) (fun _ _ _ _ _ => pts_one (pt_not (pt_val (pe_cl C__law_alike (hr.mono (Nat.le_refl _)) (by rfl) (pa_cons (pe_ix (show IxR _ (rIx K) from ix_seq) (pv 0) (pv 2) (fun _ _ => rfl)) (pa_cons (pe_ix (show IxR _ (rIx K) from ix_seq) (pv 1) (pv 2) (fun _ _ => rfl)) pa_nil)))))) (fun _ _ _ _ _ => (pv 2))) (pe_lst pa_nil) (nomark _)))))) pss_nil)
    (pss_cons (ps_if (PW.pt (pw_or (pt_cmpR op_isN (pv 1) pe_non (nomark _)) (pw_or1 (pt_val (pe_callB call_isi (by rfl) Z.z_isinstance (by decide +kernel) (pa_cons (pv 1) (pa_cons (pe_bltn (v := .ty "str") (by rfl) Z.z_str (by decide +kernel) rfl) pa_nil))))))) (pss_one (ps_ret (pe_and (pe_cmpR op_eq (pv 0) (pv 1) (nomark _)) (pe_one (pe_cmpR op_eq (pe_callB call_isi (by rfl) Z.z_isinstance (by decide +kernel) (pa_cons (pv 0) (pa_cons (pe_bltn (v := .ty "str") (by rfl) Z.z_str (by decide +kernel) rfl) pa_nil))) (pe_callB call_isi (by rfl) Z.z_isinstance (by decide +kernel) (pa_cons (pv 1) (pa_cons (pe_bltn (v := .ty "str") (by rfl) Z.z_str (by decide +kernel) rfl) pa_nil))) (nomark _)))))) pss_nil)
    (pss_one (ps_ret (pe_and (pe_callB call_isi (by rfl) Z.z_isinstance (by decide +kernel) (pa_cons (pv 0) (pa_cons (pe_bltn (v := .ty "int") (by rfl) Z.z_int (by decide +kernel) rfl) pa_nil))) (pe_and (pe_cmpR op_eq (pe_callB call_isi (by rfl) Z.z_isinstance (by decide +kernel) (pa_cons (pv 0) (pa_cons (pe_bltn (v := .ty "bool") (by rfl) Z.z_bool (by decide +kernel) rfl) pa_nil))) (pe_callB call_isi (by rfl) Z.z_isinstance (by decide +kernel) (pa_cons (pv 1) (pa_cons (pe_bltn (v := .ty "bool") (by rfl) Z.z_bool (by decide +kernel) rfl) pa_nil))) (nomark _)) (pe_one (pe_cmpR op_eq (pv 0) (pv 1) (nomark _))))))))), ?_⟩
  have eqT : ∀ {x y : V} {H1 : Hp}, x = y → Keep H H1 → Q (.bl (decide (x = y))) H1 := fun e k1 => by
    rw [decide_eq_true e]
    exact k _ k1
  rcases hs with ⟨rfl, rfl⟩ | ⟨s, hs, rfl, rfl⟩ | ⟨i, rfl, rfl⟩ | ⟨p, q, xs, ys, rfl, rfl, hp, hq, hl, hl2, each⟩
  · refine ⟨_, rfl, by show 2 ≤ sizeLine; decide, fun tp htp => ⟨_, tp, _, .type "NoneType", _, false, rfl, upd_same, cls_tl, .base .non, kit_tl (a := false) (b := false) (by decide +kernel) (by decide +kernel), ⟨_, rfl, iteF ?_⟩⟩⟩
    have kt : Keep H (L2.upd H tp (.tup [.ty "tuple", .ty "list"])) := Keep.new htp
    refine ⟨_, rfl, rfl, _, rfl, ite2 (fun _ => ?_) (fun z => absurd (decide_eq_true rfl) z)⟩
    refine iteT ⟨_, rfl, _, rfl, rfl, _, rfl, ite2 (fun _ => ?_) (fun z => absurd (decide_eq_true rfl) z)⟩
    exact ⟨_, rfl, _, _, _, _, false, rfl, .ty _, .base .non, kit_ty (by decide +kernel), _, rfl, _, _, _, _, false, rfl, .ty _, .base .non, kit_ty (by decide +kernel), rfl, eqT rfl kt⟩
  · refine ⟨_, rfl, by show 2 ≤ sizeLine; decide, fun tp htp => ⟨_, tp, _, .type "str", _, false, rfl, upd_same, cls_tl, ty_str, kit_tl (a := false) (b := false) (by decide +kernel) (by decide +kernel), ⟨_, rfl, iteF ?_⟩⟩⟩
    have kt : Keep H (L2.upd H tp (.tup [.ty "tuple", .ty "list"])) := Keep.new htp
    refine ⟨_, rfl, rfl, _, rfl, ite2 (fun z => absurd (of_decide_eq_true z) (fun y => by cases y)) (fun _ => ?_)⟩
    refine ⟨_, rfl, _, _, _, _, true, rfl, .ty _, ty_str, kit_ty (by decide +kernel), ⟨_, rfl, iteT ?_⟩⟩
    refine ⟨_, rfl, _, rfl, rfl, _, rfl, ite2 (fun _ => ?_) (fun z => absurd (decide_eq_true rfl) z)⟩
    exact ⟨_, rfl, _, _, _, _, true, rfl, .ty _, ty_str, kit_ty (by decide +kernel), _, rfl, _, _, _, _, true, rfl, .ty _, ty_str, kit_ty (by decide +kernel), rfl, eqT rfl kt⟩
  · refine ⟨_, rfl, by show 2 ≤ sizeLine; decide, fun tp htp => ⟨_, tp, _, .type "int", _, false, rfl, upd_same, cls_tl, ty_int, kit_tl (a := false) (b := false) (by decide +kernel) (by decide +kernel), ⟨_, rfl, iteF ?_⟩⟩⟩
    have kt : Keep H (L2.upd H tp (.tup [.ty "tuple", .ty "list"])) := Keep.new htp
    refine ⟨_, rfl, rfl, _, rfl, ite2 (fun z => absurd (of_decide_eq_true z) (fun y => by cases y)) (fun _ => ?_)⟩
    refine ⟨_, rfl, _, _, _, _, false, rfl, .ty _, ty_int, kit_ty (by decide +kernel), ⟨_, rfl, iteF ?_⟩⟩
    refine ⟨_, rfl, _, _, _, _, true, rfl, .ty _, ty_int, kit_ty (by decide +kernel), ⟨_, rfl, iteT ?_⟩⟩
    refine ⟨_, rfl, _, _, _, _, false, rfl, .ty _, ty_int, kit_ty (by decide +kernel), _, rfl, _, _, _, _, false, rfl, .ty _, ty_int, kit_ty (by decide +kernel), rfl, _, rfl, ite2 (fun _ => ?_) (fun z => absurd (decide_eq_true rfl) z)⟩
    exact ⟨_, rfl, _, rfl, rfl, eqT rfl kt⟩
  · refine ⟨_, rfl, by show 2 ≤ sizeLine; decide, fun tp htp => ⟨_, tp, _, .type "tuple", _, true, rfl, upd_same, cls_tl, ty_tup ((Keep.new htp).tup hq), kit_tl (a := true) (b := false) (by decide +kernel) (by decide +kernel), ⟨_, rfl, iteT ?_⟩⟩⟩
    have kt : Keep H (L2.upd H tp (.tup [.ty "tuple", .ty "list"])) := Keep.new htp
    refine ⟨_, rfl, by show 2 ≤ sizeLine; decide, fun tp2 htp2 => ?_⟩
    have k2 := kt.newT (o := .tup [.ty "tuple", .ty "list"]) htp2
    have hp2 := k2.tup hp
    have hq2 := k2.tup hq
    refine ⟨_, tp2, _, .type "tuple", _, true, rfl, upd_same, cls_tl, ty_tup hp2, kit_tl (a := true) (b := false) (by decide +kernel) (by decide +kernel), ⟨_, rfl, iteF ?_⟩⟩
    refine ⟨_, rfl, _, _, _, _, false, rfl, .ty _, ty_tup hp2, kit_ty (by decide +kernel), _, rfl, _, _, _, _, false, rfl, .ty _, ty_tup hq2, kit_ty (by decide +kernel), rfl, _, rfl, iteNS rfl ?_⟩
    refine ⟨_, rfl, _, xs.length, rfl, .inr ⟨_, SqT.is hp2, rfl⟩, _, rfl, _, xs.length, rfl, .inr ⟨_, SqT.is hq2, hl⟩, rfl, _, rfl, iteNS rfl ?_⟩
    refine ⟨_, rfl, _, xs.length, rfl, .inr ⟨_, SqT.is hq2, hl⟩, ((xs.length : Nat) : Int), rfl, by omega, by omega, fun D0 hD => ?_⟩
    refine lc_it walk_range (fun i H' => Keep H H' ∧ H' D0 = some (.lst [])) ⟨k2.newT hD, upd_same⟩ (fun _ _ _ _ => trivial) ?_ ?_
    · rintro i x H3 H4 hi ⟨k3, hL⟩ ⟨rfl, rfl⟩
      have hi1 : i < xs.length := by omega
      have hi2 : i < ys.length := by omega
      have z0 : (0 : Int) + ((i : Nat) : Int) = ((i : Nat) : Int) := by omega
      have hp3 := k3.tup hp
      have hq3 := k3.tup hq
      refine ⟨rfl, _, rfl, _, rfl, .inr (.inl ⟨p, xs, _, xs[i], rfl, rfl, SqT.is hp3, atI_of z0 (List.getElem?_eq_getElem hi1), ?_⟩)⟩
      refine ⟨_, rfl, _, rfl, .inr (.inl ⟨q, ys, _, ys[i], rfl, rfl, SqT.is hq3, atI_of z0 (List.getElem?_eq_getElem hi2), ?_⟩)⟩
      exact ⟨xs[i], ys[i], rfl, (each i _ _ (List.getElem?_eq_getElem hi1) (List.getElem?_eq_getElem hi2)).mono k3.t, fun H5 k5 => ⟨_, rfl, iteF ⟨k3.trans k5, k5.lst hL⟩⟩⟩
    · rintro H3 ⟨k3, hL⟩
      refine ⟨Nat.zero_le _, fun p5 hp5 => ⟨.list [], .list [], .lst (SqL.is ((Keep.new hp5).lst hL)) .nil, .lst (SqL.is upd_same) .nil, rfl, rfl, ?_⟩⟩
      exact k _ (k3.newT hp5)
theorem ok_alike (D : Def K mg "_law_alike" s__law_alike ["_law_found", "_law_due"] f fd) (Z : Zs mg) : ∀ d, Callee P w K mg base d "_law_alike" ["_law_found", "_law_due"] (spAlike d)
  | 0 => never_callee D fun _ _ _ _ ⟨_, _, _, h, _⟩ => h
  | d + 1 => alike_step D Z (ok_alike D Z d)
end
end R31
namespace R31
open PySem PySem.Spec PyProof.Rows L2
/-! ### ratios in lowest terms are ordered -/
theorem rless_iff {p q : Int × Int} : rless p q = true ↔ p.1 * q.2 < q.1 * p.2 := by
  unfold rless
  exact decide_eq_true_iff
theorem rless_ir (p : Int × Int) : rless p p = false := decide_eq_false (by omega)
theorem rless_tr {p q r : Int × Int} (hp : 0 < p.2) (hq : 0 < q.2) (hr : 0 < r.2) (h1 : rless p q = true) (h2 : rless q r = true) : rless p r = true := by
  rw [rless_iff] at *
  have a := Int.mul_lt_mul_of_pos_right h1 hr
  have b := Int.mul_lt_mul_of_pos_right h2 hp
  have e1 : q.1 * p.2 * r.2 = q.1 * r.2 * p.2 := by rw [Int.mul_assoc, Int.mul_comm p.2, ← Int.mul_assoc]
  rw [e1] at a
  have c := Int.lt_trans a b
  have e2 : p.1 * q.2 * r.2 = q.2 * (p.1 * r.2) := by rw [Int.mul_comm p.1 q.2, Int.mul_assoc]
  have e3 : r.1 * q.2 * p.2 = q.2 * (r.1 * p.2) := by rw [Int.mul_comm r.1 q.2, Int.mul_assoc]
  rw [e2, e3] at c
  exact Int.lt_of_mul_lt_mul_left c (Int.le_of_lt hq)
theorem dvd_low {a b c d : Int} (h : a * d = c * b) (g : Nat.gcd a.natAbs b.natAbs = 1) : b.natAbs ∣ d.natAbs := by
  have e : a.natAbs * d.natAbs = c.natAbs * b.natAbs := by rw [← Int.natAbs_mul, ← Int.natAbs_mul, h]
  have c1 : Nat.Coprime b.natAbs a.natAbs := by
    rw [Nat.Coprime, Nat.gcd_comm]
    exact g
  exact c1.dvd_of_dvd_mul_left (by rw [e]; exact Nat.dvd_mul_left _ _)
theorem rless_tot {p q : Int × Int} (hp : Low p) (hq : Low q) (h1 : rless p q = false) (h2 : rless q p = false) : p = q := by
  have a : ¬ p.1 * q.2 < q.1 * p.2 := fun z => by
    rw [rless_iff.mpr z] at h1
    cases h1
  have b : ¬ q.1 * p.2 < p.1 * q.2 := fun z => by
    rw [rless_iff.mpr z] at h2
    cases h2
  have e : p.1 * q.2 = q.1 * p.2 := by omega
  have d1 := dvd_low e hp.2
  have d2 := dvd_low e.symm hq.2
  have e2 : p.2 = q.2 := by
    have z := Nat.dvd_antisymm d1 d2
    have := hp.1
    have := hq.1
    omega
  refine Prod.ext ?_ e2
  rw [e2] at e
  exact Int.eq_of_mul_eq_mul_right (by have := hq.1; omega) e
/-- an order among the ratios of lowest terms -/
structure Ord (R : Int × Int → Int × Int → Bool) : Prop where
  ir : ∀ p, R p p = false
  tr : ∀ p q r, Low p → Low q → Low r → R p q = true → R q r = true → R p r = true
  tot : ∀ p q, Low p → Low q → R p q = false → R q p = false → p = q
theorem ordL : Ord rless := ⟨rless_ir, fun p q r a b c => rless_tr a.1 b.1 c.1, fun p q a b => rless_tot a b⟩
theorem ordH : Ord (fun p q => rless q p) := ⟨rless_ir, fun p q r a b c h1 h2 => rless_tr c.1 b.1 a.1 h2 h1, fun p q a b h1 h2 => rless_tot a b h2 h1⟩
def argM (R : Int × Int → Int × Int → Bool) (o : List Nat → Int × Int) (l : List (List Nat)) (a : List Nat) : List Nat := l.foldl (fun a m => if R (o m) (o a) then m else a) a
theorem argM_fact {R : Int × Int → Int × Int → Bool} (W : Ord R) {o : List Nat → Int × Int} (lo : ∀ m, Low (o m)) : ∀ (l : List (List Nat)) (a : List Nat),
    (a :: l).find? (fun m => decide (o m = o (argM R o l a))) = some (argM R o l a) ∧ ∀ m ∈ a :: l, R (o m) (o (argM R o l a)) = false
  | [], a => by
    refine ⟨?_, fun m hm => ?_⟩
    · rw [List.find?_cons, show argM R o [] a = a from rfl, decide_eq_true rfl]
    · rw [List.mem_singleton.mp hm]
      exact W.ir _
  | x :: l, a => by
    by_cases h : R (o x) (o a) = true
    · have e : argM R o (x :: l) a = argM R o l x := by
        show List.foldl _ (if R (o x) (o a) = true then x else a) l = _
        rw [if_pos h]
        rfl
      rw [e]
      obtain ⟨f1, f2⟩ := argM_fact W lo l x
      generalize argM R o l x = b at *
      have fx := f2 x List.mem_cons_self
      have na : R (o a) (o b) = false := by
        cases z : R (o a) (o b) with
        | false => rfl
        | true =>
          rw [W.tr _ _ _ (lo _) (lo _) (lo _) h z] at fx
          cases fx
      refine ⟨?_, fun m hm => ?_⟩
      · have ne : ¬ o a = o b := fun z => by
          rw [z, fx] at h
          cases h
        rw [List.find?_cons, decide_eq_false ne]
        exact f1
      · rcases List.mem_cons.mp hm with z | z
        · rw [z]
          exact na
        · exact f2 m z
    · have h' : R (o x) (o a) = false := Bool.eq_false_iff.mpr h
      have e : argM R o (x :: l) a = argM R o l a := by
        show List.foldl _ (if R (o x) (o a) = true then x else a) l = _
        rw [if_neg h]
        rfl
      rw [e]
      obtain ⟨f1, f2⟩ := argM_fact W lo l a
      generalize argM R o l a = b at *
      have fa := f2 a List.mem_cons_self
      have nx : R (o x) (o b) = false := by
        cases z : R (o x) (o b) with
        | false => rfl
        | true =>
          cases y : R (o b) (o a) with
          | false => rw [W.tot _ _ (lo _) (lo _) y fa, h'] at z; cases z
          | true => rw [W.tr _ _ _ (lo _) (lo _) (lo _) z y] at h'; cases h'
      refine ⟨?_, fun m hm => ?_⟩
      · rw [List.find?_cons] at f1 ⊢
        by_cases ea : o a = o b
        · rw [decide_eq_true ea] at f1 ⊢
          exact f1
        · rw [decide_eq_false ea] at f1 ⊢
          have ne : ¬ o x = o b := fun z => by
            cases y : R (o b) (o a) with
            | false => exact ea (W.tot _ _ (lo _) (lo _) y fa).symm
            | true => rw [z, y] at h'; cases h'
          rw [List.find?_cons, decide_eq_false ne]
          exact f1
      · rcases List.mem_cons.mp hm with z | z
        · rw [z]
          exact fa
        · rcases List.mem_cons.mp z with y | y
          · rw [y]
            exact nx
          · exact f2 m (List.mem_cons_of_mem _ y)
/-! ### the rising list -/
def Asc (l : List (Int × Int)) : Prop := l.Pairwise fun p q => rless p q = true
theorem cut_fact {q : Int × Int} (hq : 0 < q.2) : ∀ {l : List (Int × Int)}, (∀ x ∈ l, 0 < x.2) → Asc l →
    (∀ x ∈ l.take (l.filter fun p => rless p q).length, rless x q = true) ∧ ∀ x ∈ l.drop (l.filter fun p => rless p q).length, rless x q = false
  | [], _, _ => ⟨fun x hx => by simp at hx, fun x hx => by simp at hx⟩
  | a :: l, pos, h => by
    obtain ⟨h1, h2⟩ := List.pairwise_cons.mp h
    have ih := cut_fact hq (fun x hx => pos x (List.mem_cons_of_mem _ hx)) h2
    rw [List.filter_cons]
    by_cases z : rless a q = true
    · rw [if_pos z, List.length_cons, List.take_succ_cons, List.drop_succ_cons]
      refine ⟨fun x hx => ?_, ih.2⟩
      rcases List.mem_cons.mp hx with y | y
      · rw [y]
        exact z
      · exact ih.1 x y
    · rw [if_neg z]
      have none : ∀ x ∈ l, rless x q = false := fun x hx => by
        cases y : rless x q with
        | false => rfl
        | true => exact absurd (rless_tr (pos a List.mem_cons_self) (pos x (List.mem_cons_of_mem _ hx)) hq (h1 x hx) y) z
      rw [List.filter_eq_nil_iff.mpr (fun x hx => by rw [none x hx]; exact Bool.false_ne_true)]
      refine ⟨fun x hx => by simp at hx, fun x hx => ?_⟩
      rcases List.mem_cons.mp (show x ∈ a :: l from hx) with y | y
      · rw [y]
        exact Bool.eq_false_iff.mpr z
      · exact none x y
theorem insR_mem {l : List (Int × Int)} {q x : Int × Int} : x ∈ insR l q ↔ x ∈ l ∨ x = q := by
  constructor
  · exact insR_sub
  · intro h
    unfold insR
    by_cases hq : q ∈ l
    · rw [if_pos hq]
      rcases h with h | h
      · exact h
      · rw [h]
        exact hq
    · rw [if_neg hq]
      rcases h with h | h
      · rw [← List.take_append_drop (l.filter fun p => rless p q).length l] at h
        rcases List.mem_append.mp h with z | z
        · exact List.mem_append_left _ (List.mem_append_left _ z)
        · exact List.mem_append_right _ z
      · rw [h]
        exact List.mem_append_left _ (List.mem_append_right _ (List.mem_singleton.mpr rfl))
theorem insR_asc {l : List (Int × Int)} {q : Int × Int} (lo : ∀ x ∈ l, Low x) (hq : Low q) (h : Asc l) : Asc (insR l q) := by
  unfold insR
  by_cases hm : q ∈ l
  · rw [if_pos hm]
    exact h
  · rw [if_neg hm]
    obtain ⟨c1, c2⟩ := cut_fact hq.1 (fun x hx => (lo x hx).1) h
    generalize (l.filter fun p => rless p q).length = k at *
    have h' : Asc (l.take k ++ l.drop k) := by
      rw [List.take_append_drop]
      exact h
    obtain ⟨a1, a2, a3⟩ := List.pairwise_append.mp h'
    refine List.pairwise_append.mpr ⟨List.pairwise_append.mpr ⟨a1, List.pairwise_singleton _ _, fun x hx y hy => ?_⟩, a2, fun x hx y hy => ?_⟩
    · rw [List.mem_singleton.mp hy]
      exact c1 x hx
    · rcases List.mem_append.mp hx with z | z
      · exact a3 x z y hy
      · rw [List.mem_singleton.mp z]
        have hyl : y ∈ l := List.mem_of_mem_drop hy
        cases w : rless q y with
        | true => rfl
        | false => exact absurd (rless_tot hq (lo y hyl) w (c2 y hy)) fun e => hm (by rw [e]; exact hyl)
theorem foldl_asc : ∀ {l a : List (Int × Int)}, (∀ x ∈ l, Low x) → (∀ x ∈ a, Low x) → Asc a → Asc (l.foldl insR a) ∧ ∀ x, x ∈ l.foldl insR a ↔ x ∈ a ∨ x ∈ l
  | [], a, _, _, h => ⟨h, fun x => ⟨fun z => .inl z, fun z => z.elim id fun y => by simp at y⟩⟩
  | q :: l, a, h1, h2, h => by
    have hq := h1 q List.mem_cons_self
    obtain ⟨b1, b2⟩ := foldl_asc (l := l) (a := insR a q) (fun x hx => h1 x (List.mem_cons_of_mem _ hx)) (fun x hx => by
      rcases insR_mem.mp hx with z | z
      · exact h2 x z
      · rw [z]
        exact hq) (insR_asc h2 hq h)
    refine ⟨b1, fun x => ?_⟩
    show x ∈ l.foldl insR (insR a q) ↔ _
    rw [b2 x, insR_mem, List.mem_cons]
    constructor
    · rintro ((z | z) | z)
      · exact .inl z
      · exact .inr (.inl z)
      · exact .inr (.inr z)
    · rintro (z | z | z)
      · exact .inl (.inl z)
      · exact .inl (.inr z)
      · exact .inr z
theorem risL_asc {l : List (Int × Int)} (h : ∀ x ∈ l, Low x) : Asc (risL l) := (foldl_asc h (fun x hx => by simp at hx) List.Pairwise.nil).1
theorem risL_mem {l : List (Int × Int)} (h : ∀ x ∈ l, Low x) {x : Int × Int} : x ∈ risL l ↔ x ∈ l := by
  have := (foldl_asc h (a := []) (fun x hx => by simp at hx) List.Pairwise.nil).2 x
  rw [show risL l = l.foldl insR [] from rfl, this]
  exact ⟨fun z => z.elim (fun y => by simp at y) id, .inr⟩
theorem Asc.nodup {l : List (Int × Int)} (h : Asc l) : l.Nodup := by
  refine List.Pairwise.imp (fun {a b} z e => ?_) h
  rw [e, rless_ir] at z
  cases z
theorem risL_len (l : List (Int × Int)) : (risL l).length ≤ l.length := by
  have := foldl_len l []
  rw [List.length_nil, Nat.zero_add] at this
  exact this
/-- the first and the last -/
theorem Asc.first {l : List (Int × Int)} (h : Asc l) {p : Int × Int} (hp : l[0]? = some p) {x : Int × Int} (hx : x ∈ l) : x = p ∨ rless p x = true := by
  cases l with
  | nil => cases hp
  | cons a l =>
    cases hp
    obtain ⟨h1, _⟩ := List.pairwise_cons.mp h
    rcases List.mem_cons.mp hx with z | z
    · exact .inl z
    · exact .inr (h1 x z)
theorem Asc.last {l : List (Int × Int)} (h : Asc l) {p : Int × Int} (hp : l[l.length - 1]? = some p) {x : Int × Int} (hx : x ∈ l) : x = p ∨ rless x p = true := by
  obtain ⟨hi, e⟩ := List.getElem?_eq_some_iff.mp hp
  obtain ⟨j, hj, rfl⟩ := List.getElem_of_mem hx
  by_cases z : j = l.length - 1
  · subst z
    exact .inl e
  · refine .inr ?_
    have := List.pairwise_iff_getElem.mp h j (l.length - 1) hj hi (by omega)
    rw [e] at this
    exact this
/-- what the law finds again: the first memory of the least, of the greatest output -/
theorem ext_fact {R : Int × Int → Int × Int → Bool} (W : Ord R) {o : List Nat → Int × Int} (lo : ∀ m, Low (o m)) {n : Nat} (h5 : n ≤ 5) {p : Int × Int} (hp : p ∈ (mems n).map o) (hmin : ∀ x ∈ (mems n).map o, x = p ∨ R p x = true) :
    p = o (argM R o (mems n) (zeros n)) ∧ ((mems n).filter fun m => decide (o m = p))[0]? = some (argM R o (mems n) (zeros n)) := by
  have hz := zero_first n h5
  cases hm : mems n with
  | nil => rw [hm] at hz; cases hz
  | cons a l =>
    rw [hm] at hz hp hmin
    have ea : a = zeros n := Option.some.inj hz
    subst ea
    have e : argM R o (zeros n :: l) (zeros n) = argM R o l (zeros n) := by
      show List.foldl _ (if R (o (zeros n)) (o (zeros n)) = true then zeros n else zeros n) l = _
      rw [W.ir]
      rfl
    rw [e]
    obtain ⟨f1, f2⟩ := argM_fact W lo l (zeros n)
    generalize argM R o l (zeros n) = b at *
    have hb : b ∈ zeros n :: l := List.mem_of_find?_eq_some f1
    have ep : p = o b := by
      obtain ⟨m, hm1, hm2⟩ := List.mem_map.mp hp
      have g := f2 m hm1
      rw [hm2] at g
      rcases hmin (o b) (List.mem_map.mpr ⟨b, hb, rfl⟩) with z | z
      · exact z.symm
      · rw [g] at z
        cases z
    refine ⟨ep, ?_⟩
    rw [ep, ← List.head?_eq_getElem?, List.head?_filter]
    exact f1
end R31
namespace R31
open PySem PySem.Spec PyProof.Rows L2
/-! ### the law's table -/
def TabV (H : Hp) (kvs : List (Key × V)) (n : Nat) (ws : List Wt) : Prop :=
  kvs.map (·.1) = (mems n).map (fun m => (Sum.inr (S m) : Key)) ∧ ∀ m ∈ mems n, ∃ v, valV kvs (Sum.inr (S m)) = some v ∧ Rt H v (outL ws m)
theorem TabV.mono {H H' : Hp} {kvs : List (Key × V)} {n : Nat} {ws : List Wt} (k : KeepT H H') (h : TabV H kvs n ws) : TabV H' kvs n ws := ⟨h.1, fun m hm => let ⟨v, e, r⟩ := h.2 m hm; ⟨v, e, r.mono k⟩⟩
def TabAt (H : Hp) (T : Addr) (n : Nat) (ws : List Wt) : Prop := ∃ kvs, H T = some (.dK kvs) ∧ TabV H kvs n ws
theorem TabAt.mono {H H' : Hp} {T : Addr} {n : Nat} {ws : List Wt} (k : Keep H H') (h : TabAt H T n ws) : TabAt H' T n ws := let ⟨kvs, e, r⟩ := h; ⟨kvs, k.dK e, r.mono k.t⟩
theorem TabAt.get {H : Hp} {T : Addr} {n : Nat} {ws : List Wt} (h : TabAt H T n ws) {m : List Nat} (hm : m ∈ mems n) : ∃ v, DGet H T (.str (S m)) (some v) ∧ Rt H v (outL ws m) := by
  obtain ⟨kvs, e, _, g⟩ := h
  obtain ⟨v, e2, r⟩ := g m hm
  refine ⟨v, ?_, r⟩
  rw [← e2]
  exact DGet.k (k := Sum.inr (S m)) e
/-- what stands all along: the row of draws, the bank, the table, the two tables of code objects -/
structure LW (K : PySem.W.Frag) (Pr Pi : Addr) (H0 H : Hp) (r T : Addr) (v : V) (n : Nat) (ws : List Wt) : Prop where
  row : RowAt K H0 H r
  bank : BankAt H v n ws
  tab : TabAt H T n ws
  pr : GxR.TabG H Pr
  pi : GxR.TabG H Pi
theorem KeepBut.tab {r P : Addr} {H H' : Hp} (k : KeepBut r H H') {ys : List V} (hr : H r = some (.lst ys)) (h : GxR.TabG H P) : GxR.TabG H' P := by
  obtain ⟨ps, e, t⟩ := h
  have n : P ≠ r := ne_of e hr (by intro z; cases z)
  rcases k P _ n e with e2 | ⟨_, u, e2, qs, eu, t2⟩
  · exact ⟨ps, e2, t⟩
  · subst eu
    exact ⟨qs, e2, t2⟩
section
variable {K : PySem.W.Frag} {Pr Pi : Addr} {H0 H H' : Hp} {r T : Addr} {v : V} {n : Nat} {ws : List Wt}
theorem LW.on (L : LW K Pr Pi H0 H r T v n ws) (k : Keep H H') : LW K Pr Pi H0 H' r T v n ws :=
  ⟨L.row.on k, L.bank.mono k.t, L.tab.mono k, k.tab L.pr, k.tab L.pi⟩
theorem LW.but (L : LW K Pr Pi H0 H r T v n ws) (k : KeepBut r H H') (R : RowAt K H0 H' r) : LW K Pr Pi H0 H' r T v n ws := by
  obtain ⟨ys, hr⟩ := L.row.seen
  have kt := L.row.kt k
  refine ⟨R, L.bank.mono kt, ?_, k.tab hr L.pr, k.tab hr L.pi⟩
  obtain ⟨kvs, e, g⟩ := L.tab
  have nT : T ≠ r := ne_of e hr (by intro z; cases z)
  exact ⟨kvs, k.get nT e (fun _ z => by cases z), g.mono kt⟩
/-- an object made since is written: nothing of it is touched -/
theorem LW.mut {p : Addr} {o : HO} (L : LW K Pr Pi H0 H r T v n ws) (k : Keep H H') (hp : H p = none) : LW K Pr Pi H0 (L2.upd H' p o) r T v n ws := L.on (k.mut hp)
end
/-! ### the same data -/
theorem sm_rt {H : Hp} {x y : V} {q : Int × Int} (d : Nat) (hx : Rt H x q) (hy : Rt H y q) : Sm (d + 2) H x y := by
  obtain ⟨a, rfl, ha⟩ := hx
  obtain ⟨b, rfl, hb⟩ := hy
  refine .inr (.inr (.inr ⟨a, b, _, _, rfl, rfl, ha, hb, rfl, by show 2 ≤ 1000; decide, fun i u w e1 e2 => ?_⟩))
  rw [e1] at e2
  cases e2
  match i, e1 with
  | 0, e1 => cases e1; exact .inr (.inr (.inl ⟨_, rfl, rfl⟩))
  | 1, e1 => cases e1; exact .inr (.inr (.inl ⟨_, rfl, rfl⟩))
  | i + 2, e1 => simp at e1
theorem sm_rts {H : Hp} {a b : Addr} {xs ys : List V} {l : List (Int × Int)} (d : Nat) (ha : H a = some (.tup xs)) (hb : H b = some (.tup ys)) (hx : Rts H xs l) (hy : Rts H ys l) (hl : l.length ≤ 1000) : Sm (d + 3) H (.ref a) (.ref b) := by
  refine .inr (.inr (.inr ⟨a, b, xs, ys, rfl, rfl, ha, hb, by rw [hx.1, hy.1], by rw [hx.1]; exact hl, fun i u w e1 e2 => ?_⟩))
  have hi : i < l.length := by
    rw [← hx.1]
    exact (List.getElem?_eq_some_iff.mp e1).1
  obtain ⟨u', g1, r1⟩ := hx.2 i _ (List.getElem?_eq_getElem hi)
  obtain ⟨w', g2, r2⟩ := hy.2 i _ (List.getElem?_eq_getElem hi)
  rw [e1] at g1
  rw [e2] at g2
  cases g1
  cases g2
  exact sm_rt d r1 r2
theorem sm_pair {H : Hp} {x y : V} {q : Int × Int} {m : List Nat} (d : Nat) (hl : m.length ≤ 1000) (hx : PairAt H x q m) (hy : PairAt H y q m) : Sm (d + 3) H x y := by
  obtain ⟨a, r1, rfl, ha, h1⟩ := hx
  obtain ⟨b, r2, rfl, hb, h2⟩ := hy
  refine .inr (.inr (.inr ⟨a, b, _, _, rfl, rfl, ha, hb, rfl, by show 2 ≤ 1000; decide, fun i u w e1 e2 => ?_⟩))
  match i, e1, e2 with
  | 0, e1, e2 => cases e1; cases e2; exact sm_rt d h1 h2
  | 1, e1, e2 => cases e1; cases e2; exact .inr (.inl ⟨S m, by rw [S_len]; exact hl, rfl, rfl⟩)
  | i + 2, e1, e2 => simp at e1
theorem sm_two {H : Hp} {a b : Addr} {x1 x2 y1 y2 : V} (d : Nat) (ha : H a = some (.tup [x1, x2])) (hb : H b = some (.tup [y1, y2])) (h1 : Sm d H x1 y1) (h2 : Sm d H x2 y2) : Sm (d + 1) H (.ref a) (.ref b) := by
  refine .inr (.inr (.inr ⟨a, b, _, _, rfl, rfl, ha, hb, rfl, by show 2 ≤ 1000; decide, fun i u w e1 e2 => ?_⟩))
  match i, e1, e2 with
  | 0, e1, e2 => cases e1; cases e2; exact h1
  | 1, e1, e2 => cases e1; cases e2; exact h2
  | i + 2, e1, e2 => simp at e1
theorem sm_res {H : Hp} (d : Nat) {o : Option (List Nat)} (h : ∀ w, o = some w → w.length ≤ 1000) : Sm (d + 1) H (resV o) (resV o) := by
  cases o with
  | none => exact .inl ⟨rfl, rfl⟩
  | some w => exact .inr (.inl ⟨S w, by rw [S_len]; exact h w rfl, rfl, rfl⟩)
/-! ### dict(pairs) with keys that differ -/
theorem mergeK_fresh : ∀ {more acc : List (Key × V)}, ((acc ++ more).map (·.1)).Nodup → mergeK acc more = acc ++ more
  | [], acc, _ => (List.append_nil acc).symm
  | kv :: more, acc, h => by
    have hn : valV acc kv.1 = none := by
      cases z : valV acc kv.1 with
      | none => rfl
      | some v =>
        have hm : kv.1 ∈ acc.map (·.1) := by
          have z2 : (acc.find? fun p => decide (p.1 = kv.1)).map (·.2) = some v := z
          cases y : acc.find? (fun p => decide (p.1 = kv.1)) with
          | none => rw [y] at z2; cases z2
          | some p =>
            have e := List.find?_some y
            have e2 : p.1 = kv.1 := of_decide_eq_true e
            rw [← e2]
            exact List.mem_map.mpr ⟨p, List.mem_of_find?_eq_some y, rfl⟩
        rw [List.map_append, List.map_cons] at h
        exact absurd rfl ((List.nodup_append.mp h).2.2 kv.1 hm kv.1 List.mem_cons_self)
    show mergeK (putK acc kv.1 kv.2) more = _
    rw [putK_new _ hn]
    have e : (acc ++ [(kv.1, kv.2)]) ++ more = acc ++ kv :: more := by rw [List.append_assoc]; rfl
    rw [mergeK_fresh (by rw [e]; exact h), e]
theorem mems_nodup : ∀ n ≤ 5, (mems n).Nodup := by decide +kernel
theorem key_nodup {n : Nat} (h5 : n ≤ 5) : ((mems n).map (fun m => (Sum.inr (S m) : Key))).Nodup := by
  refine List.Pairwise.map _ (fun {a b} h e => h (S_inj (Sum.inr.inj e))) (mems_nodup n h5)
theorem valV_zip {H : Hp} {o : List Nat → Int × Int} : ∀ {l : List (List Nat)} {kvs : List (Key × V)}, kvs.map (·.1) = l.map (fun m => (Sum.inr (S m) : Key)) → (∀ (i : Nat) (m : List Nat) (kv : Key × V), l[i]? = some m → kvs[i]? = some kv → Rt H kv.2 (o m)) →
    ∀ m ∈ l, ∃ v, valV kvs (Sum.inr (S m)) = some v ∧ Rt H v (o m)
  | [], _, _, _, m, hm => absurd hm List.not_mem_nil
  | a :: l, [], e, _, m, hm => by cases e
  | a :: l, kv :: kvs, e, g, m, hm => by
    rw [List.map_cons, List.map_cons] at e
    have e1 : kv.1 = Sum.inr (S a) := (List.cons.inj e).1
    have e2 := (List.cons.inj e).2
    have look : valV (kv :: kvs) (Sum.inr (S m)) = if decide (kv.1 = (Sum.inr (S m) : Key)) = true then some kv.2 else valV kvs (Sum.inr (S m)) := by
      show Option.map _ (List.find? _ _) = _
      rw [List.find?_cons]
      by_cases z : kv.1 = (Sum.inr (S m) : Key)
      · rw [decide_eq_true z]
        rfl
      · rw [decide_eq_false z]
        rfl
    rw [look]
    by_cases z : m = a
    · subst z
      rw [if_pos (decide_eq_true e1)]
      exact ⟨_, rfl, g 0 m kv rfl rfl⟩
    · rw [if_neg (by rw [e1]; exact fun y => z (S_inj (Sum.inr.inj (of_decide_eq_true y))).symm)]
      exact valV_zip e2 (fun i m kv h1 h2 => g (i + 1) m kv h1 h2) m ((List.mem_cons.mp hm).resolve_left z)
end R31
namespace R31
open PySem PySem.Spec PyProof.Rows L2
abbrev XL (P : Program) (w : World) (K : PySem.W.Frag) (mg : Str → Option Value) (base : Heap) (f : Addr) (cdv : Value) (A : Around) (outer : List Env) (s : Shared) (H : Hp) (E : XK) : Cx :=
  (cxOf CX0 P w K mg base nm_law "law" (defScope s_law) f cdv A outer s H E).nox
abbrev RoomL (f : Addr) (cdv : Value) (A : Around) (s : Shared) : Prop := Room 6 (A.deeper (envOfC "law" (defScope s_law) s.heap.objs.size f cdv))
theorem cut_any (l : List Nat) (i : Nat) : cutS (S l) none (some (i : Int)) = S (l.take i) := by
  unfold cutS
  rw [S_list, S_len, HT.sIx_none, HT.sIx_nat]
  show S (List.take (min i l.length - 0) (l.drop 0)) = _
  rw [Nat.sub_zero, List.drop_zero, ← List.take_eq_take_min]
theorem outsL_take {ws : List Wt} {us : List Bool} {i : Nat} {u : Bool} (h : us[i]? = some u) (m : List Nat) : outsL ws (us.take (i + 1)) m = outsL ws (us.take i) m ++ [outL ws (runL (us.take (i + 1)) m)] := by
  rw [runL_take h, take_snoc h, outsL_snoc]
section
variable {P : Program} {w : World} {K : PySem.W.Frag} {mg : Str → Option Value} {base : Heap} {f c Pr Pi : Addr} {cdv : Value} {A : Around} {outer : List Env} {s : Shared} {H00 : Hp} {E : XK} {Q : VK}
theorem law6 (Z : Zs mg) (hr : RoomL f cdv A s)
    (C__law_steps : Callee P w K mg base 3 "_law_steps" ["_law_row"] (spSteps K)) (C__law_behind : Callee P w K mg base 2 "_law_behind" ["_law_memory_here", "_law_steps_here"] spBehind) (C__law_step : Callee P w K mg base 1 "_law_step" ["_law_memory_here", "_law_letter"] spStep)
    (C__law_alike : Callee P w K mg base 4 "_law_alike" ["_law_found", "_law_due"] (spAlike 4)) (C_round_outputs : Callee P w K mg base 6 "round_outputs" ["bank", "steps"] (spRound Pr Pi)) (hQ : ∀ H', Q (.bl true) H') :
    ∃ t, PSs (XL P w K mg base f cdv A outer s H00 E) ((defBody s_law).drop 17) t ∧ ∀ (n : Nat) (ws : List Wt), GoodB n ws → ∀ (H0 H : Hp) (r T : Addr) (v : V) y0 y5 y6 y7 y8 y9 y10 y11 y12 y13 y14 y15 y16 y17 y18 y19 y20 y21 y22 y23 y24, LW K Pr Pi H0 H r T v n ws →
      t { nx := fun _ H' => Q .non H', rt := Q } [y0, some (.ref r), some (v), some (.int (n : Nat)), some (.ref T), y5, y6, y7, y8, y9, y10, y11, y12, y13, y14, y15, y16, y17, y18, y19, y20, y21, y22, y23, y24] H := by
  have nd := sc_law.nd
  have hu := hu_of hr
  refine ⟨_, (pss_cons (ps_set (i := 20) nd rfl (Or.inl rfl) (pe_op op_add_str (pe_slice sl_str (pe_cl C__law_steps (hr.mono (by decide)) (by rfl) (pa_cons (pv 1) pa_nil)) po_none (po_some pe_int)) pe_str))
    (pss_cons (ps_set (i := 21) nd rfl (Or.inl rfl) (pe_op op_mulS pe_str (pv 3)))
    (pss_cons (ps_for PassesOwn.never rfl (pi_range1 (by rfl) Z.z_range (pa_cons (pe_op op_add (pe_op op_mulW pe_int (pv 3)) pe_int) pa_nil)) (pg_name (i := 22) nd rfl (Or.inl rfl)) (pss_one (ps_set (i := 21) nd rfl (Or.inl rfl) (pe_cl C__law_behind (hr.mono (by decide)) (by rfl) (pa_cons (pv 21) (pa_cons (pv 20) pa_nil))))))
    (pss_cons (ps_set (i := 23) nd rfl (Or.inl rfl) (pe_lst pa_nil))
    (pss_cons (ps_for PassesOwn.never rfl (pi_str (pv 20)) (pg_name (i := 15) nd rfl (Or.inl rfl)) (pss_cons (ps_set (i := 21) nd rfl (Or.inl rfl) (pe_cl C__law_step (hr.mono (by decide)) (by rfl) (pa_cons (pv 21) (pa_cons (pv 15) pa_nil))))
    (pss_one (ps_expr (pe_bm PySem.F.plainAttrs_list PySem.F.slot_list_append PySem.F.type_list_append mt_append (pv 23) (pa_cons (pe_dget hu (pv 4) (pv 21) (fun _ _ => rfl)) pa_nil))))))
    (pss_one (ps_ret (pe_cl C__law_alike (hr.mono (by decide)) (by rfl) (pa_cons (pe_cl C_round_outputs (hr.mono (by decide)) (by rfl) (pa_cons (pv 2) (pa_cons (pv 20) pa_nil))) (pa_cons (pe_callTy call_tuple_of (by rfl) Z.z_tuple (by decide +kernel) (pa_cons (pv 23) pa_nil)) pa_nil)))))))))), ?_⟩
  intro n ws g H0 H r T v y0 y5 y6 y7 y8 y9 y10 y11 y12 y13 y14 y15 y16 y17 y18 y19 y20 y21 y22 y23 y24 L
  have h5 := g.hi
  have h1 := g.lo
  refine ⟨_, rfl, H0, r, rfl, L.row, fun us H1 hus kb R1 => ?_⟩
  have L1 := L.but kb R1
  refine ⟨_, rfl, _, rfl, small9 (by rw [S_len, List.length_map]; omega), _, _, rfl, rfl, ?_, ?_⟩
  · show (cutS (S (us.map lett)) none (some ((15 : Nat) : Int))).length + _ ≤ sizeLine
    rw [cut_any, cu, S_len, S_len, List.length_take]
    exact small9 (by show min 15 _ + 1 ≤ 1000; omega)
  have eus : cutS (S (us.map lett)) none (some ((15 : Nat) : Int)) ++ Str.ofString "u" = S ((us.take 15 ++ [true]).map lett) := by
    rw [cut_any, cu, S_app, List.map_append, List.map_take]
    rfl
  refine ⟨_, rfl, S [48], (n : Int), by rw [c0], rfl, mul_ok h5, ?_⟩
  rw [mul_zeros n h5]
  show tSeq _ _ _ [y0, some (.ref r), some (v), some (.int (n : Nat)), some (.ref T), y5, y6, y7, y8, y9, y10, y11, y12, y13, y14, y15, y16, y17, y18, y19, some (.str (cutS (S (us.map lett)) none (some ((15 : Nat) : Int)) ++ Str.ofString "u")), some (.str (S (zeros n))), y22, y23, y24] H1
  rw [eus]
  have hus2 : (us.take 15 ++ [true]).length ≤ 16 := by
    rw [List.length_append, List.length_take]
    show min 15 _ + 1 ≤ 16
    omega
  have hne : us.take 15 ++ [true] ≠ [] := by simp
  generalize us.take 15 ++ [true] = vs at hus2 hne
  clear eus hus us
  have e3 : ((3 : Int) * ((n : Nat) : Int) + 3).toNat = 3 * n + 3 := by omega
  refine ⟨_, rfl, _, _, rfl, rfl, wide_mul (a := 3) (b := 3) (by decide) (by show ((n : Nat) : Int).natAbs < 8; omega) (by decide) (by decide) (by decide), _, _, rfl, rfl, (3 : Int) * ((n : Nat) : Int) + 3, rfl, by omega, by omega,
    for_it walk_range (fun i σ H' => ∃ y22, σ = [y0, some (.ref r), some (v), some (.int (n : Nat)), some (.ref T), y5, y6, y7, y8, y9, y10, y11, y12, y13, y14, y15, y16, y17, y18, y19, some (.str (S (vs.map lett))), some (.str (S (itL vs n i))), y22, y23, y24] ∧ LW K Pr Pi H0 H' r T v n ws) ⟨_, rfl, L1⟩ (fun _ _ _ _ _ => trivial) ?_ ?_⟩
  · rintro i x σ H2 H3 hi ⟨y22, rfl, L2⟩ ⟨rfl, rfl⟩
    exact ⟨_, rfl, _, rfl, n, _, vs, rfl, h5, itL_mem h5 vs i, fun H4 k4 => ⟨_, rfl, L2.on k4⟩⟩
  rintro σ H2 ⟨y22, rfl, L2⟩
  rw [e3]
  have gm : itL vs n (3 * n + 3) ∈ mems n := itL_mem h5 vs _
  have ef : itL vs n (3 * n + 3) = fixL vs n := rfl
  rw [ef] at gm ⊢
  generalize hm : fixL vs n = m0 at gm
  refine ⟨Nat.zero_le _, fun p hp => ?_⟩
  refine ⟨_, rfl, _, rfl, for_it walk_str (fun i σ H' => ∃ (xs : List V) (y15 : Option V), σ = [y0, some (.ref r), some (v), some (.int (n : Nat)), some (.ref T), y5, y6, y7, y8, y9, y10, y11, y12, y13, y14, y15, y16, y17, y18, y19, some (.str (S (vs.map lett))), some (.str (S (runL (vs.take i) m0))), y22, some (.ref p), y24] ∧ Keep H2 H' ∧ H' p = some (.lst xs) ∧ Rts H' xs (outsL ws (vs.take i) m0))
    ⟨[], _, rfl, Keep.new hp, upd_same, Rts.nil⟩ (fun _ _ _ _ _ => trivial) ?_ ?_⟩
  · rintro i x σ H3 H4 hi ⟨xs, y15, rfl, k3, hL, hR⟩ ⟨rfl, cc, hcc, rfl⟩
    rw [S_at] at hcc
    obtain ⟨b, hb, rfl⟩ := lett_at hcc
    have L3 := L2.on k3
    have hm2 : runL (vs.take (i + 1)) m0 ∈ mems n := runL_mem h5 _ gm
    refine ⟨_, rfl, _, rfl, n, _, b, rfl, h5, runL_mem h5 _ gm, fun H5 k5 => ?_⟩
    have L5 := L3.on k5
    have hL5 := k5.lst hL
    have k35 := k3.trans k5
    rw [← runL_take hb]
    obtain ⟨u, hu1, hu2⟩ := L5.tab.get hm2
    refine ⟨_, rfl, .inl ⟨rfl, _, SqL.is hL5⟩, _, rfl, _, rfl, T, u, rfl, hu1, p, xs, u, rfl, rfl, hL5, small1000 (by rw [hR.1, outsL_len, List.length_take]; omega), ?_⟩
    refine ⟨xs ++ [u], _, rfl, k35.mut hp, upd_same, ?_⟩
    rw [outsL_take hb]
    exact ((hR.mono k5.t).snoc hu2).mono ((KeepT.refl _).lst hL5)
  rintro σ H3 ⟨xs, y15, rfl, k3, hL, hR⟩
  rw [S_size, List.length_map, List.take_length] at hR
  have L3 := L2.on k3
  refine ⟨_, rfl, _, rfl, v, n, ws, vs, rfl, L3.bank, g, hne, by omega, L3.pr, L3.pi, fun p2 xs2 H4 k4 hp2 hR2 => ?_⟩
  refine ⟨_, rfl, p, xs, rfl, .inl ⟨SqL.is (k4.lst hL), fun l hl => ⟨.ref p2, .ref l, rfl, ?_, fun H5 k5 => hQ H5⟩⟩⟩
  have kl : Keep H4 (upd H4 l (.tup xs)) := Keep.new hl
  rw [hm] at hR2
  exact sm_rts 1 (kl.tup hp2) upd_same (hR2.mono kl.t) (hR.mono (k4.trans kl).t) (by rw [outsL_len]; omega)
end
end R31
namespace R31
open PySem PySem.Spec PyProof.Rows L2
theorem atI_end {α : Type} {xs : List α} {v : α} (h : xs[xs.length - 1]? = some v) : atI xs (-1) = some v := by
  have hi := (List.getElem?_eq_some_iff.mp h).1
  have e : xs = xs.take (xs.length - 1) ++ [v] := by
    rw [← take_snoc h, show xs.length - 1 + 1 = xs.length by omega, List.take_length]
  have z := atI_last (xs.take (xs.length - 1)) v
  rw [← e] at z
  exact z
abbrev outsAll (ws : List Wt) (n : Nat) : List (Int × Int) := (mems n).map (outL ws)
theorem outs_low {n : Nat} {ws : List Wt} (g : GoodB n ws) : ∀ x ∈ outsAll ws n, Low x := fun x hx => by
  obtain ⟨m, _, rfl⟩ := List.mem_map.mp hx
  exact outL_low g m
theorem found_pos {n : Nat} {ws : List Wt} (g : GoodB n ws) : 0 < (risL (outsAll ws n)).length := by
  have hz : zeros n ∈ mems n := List.mem_of_getElem? (zero_first n g.hi)
  have hm : outL ws (zeros n) ∈ risL (outsAll ws n) := (risL_mem (outs_low g)).mpr (List.mem_map.mpr ⟨_, hz, rfl⟩)
  exact List.length_pos_of_mem hm
theorem low_fact {n : Nat} {ws : List Wt} (g : GoodB n ws) {p : Int × Int} (hp : (risL (outsAll ws n))[0]? = some p) :
    p = outL ws (lowM (outL ws) (mems n) (zeros n)) ∧ ((mems n).filter fun m => decide (outL ws m = p))[0]? = some (lowM (outL ws) (mems n) (zeros n)) :=
  ext_fact ordL (outL_low g) g.hi ((risL_mem (outs_low g)).mp (List.mem_of_getElem? hp)) fun x hx => (risL_asc (outs_low g)).first hp ((risL_mem (outs_low g)).mpr hx)
theorem high_fact {n : Nat} {ws : List Wt} (g : GoodB n ws) {p : Int × Int} (hp : (risL (outsAll ws n))[(risL (outsAll ws n)).length - 1]? = some p) :
    p = outL ws (highM (outL ws) (mems n) (zeros n)) ∧ ((mems n).filter fun m => decide (outL ws m = p))[0]? = some (highM (outL ws) (mems n) (zeros n)) :=
  ext_fact ordH (outL_low g) g.hi ((risL_mem (outs_low g)).mp (List.mem_of_getElem? hp)) fun x hx => (risL_asc (outs_low g)).last hp ((risL_mem (outs_low g)).mpr hx)
theorem fil_succ {n i : Nat} {ws : List Wt} {p : Int × Int} {m : List Nat} (h : (mems n)[i]? = some m) : ((mems n).take (i + 1)).filter (fun m => decide (outL ws m = p)) = ((mems n).take i).filter (fun m => decide (outL ws m = p)) ++ (if outL ws m = p then [m] else []) := by
  rw [take_snoc h, List.filter_append]
  congr 1
  by_cases z : outL ws m = p
  · rw [if_pos z, List.filter_cons, if_pos (decide_eq_true z)]
    rfl
  · rw [if_neg z, List.filter_cons, if_neg (by simpa using z)]
    rfl
section
variable {P : Program} {w : World} {K : PySem.W.Frag} {mg : Str → Option Value} {base : Heap} {f c Pr Pi : Addr} {cdv : Value} {A : Around} {outer : List Env} {s : Shared} {H00 : Hp} {E : XK} {Q : VK}
theorem law5 (Z : Zs mg) (hr : RoomL f cdv A s)
    (C__law_all : Callee P w K mg base 1 "_law_all" ["_law_span"] spAll) (C__law_alike : Callee P w K mg base 4 "_law_alike" ["_law_found", "_law_due"] (spAlike 4)) (C_extremes : Callee P w K mg base 5 "extremes" ["bank"] (spExtremes Pr))
    (h6 : ∃ t, PSs (XL P w K mg base f cdv A outer s H00 E) ((defBody s_law).drop 17) t ∧ ∀ (n : Nat) (ws : List Wt), GoodB n ws → ∀ (H0 H : Hp) (r T : Addr) (v : V) y0 y5 y6 y7 y8 y9 y10 y11 y12 y13 y14 y15 y16 y17 y18 y19 y20 y21 y22 y23 y24, LW K Pr Pi H0 H r T v n ws →
      t { nx := fun _ H' => Q .non H', rt := Q } [y0, some (.ref r), some (v), some (.int (n : Nat)), some (.ref T), y5, y6, y7, y8, y9, y10, y11, y12, y13, y14, y15, y16, y17, y18, y19, y20, y21, y22, y23, y24] H) :
    ∃ t, PSs (XL P w K mg base f cdv A outer s H00 E) ((defBody s_law).drop 14) t ∧ ∀ (n : Nat) (ws : List Wt), GoodB n ws → ∀ (H0 H : Hp) (r T p : Addr) (ys : List V) (v : V) y0 y5 y6 y7 y8 y9 y10 y11 y12 y13 y14 y15 y16 y18 y19 y20 y21 y22 y23 y24, LW K Pr Pi H0 H r T v n ws → H p = some (.tup ys) → Rts H ys (risL (outsAll ws n)) →
      t { nx := fun _ H' => Q .non H', rt := Q } [y0, some (.ref r), some (v), some (.int (n : Nat)), some (.ref T), y5, y6, y7, y8, y9, y10, y11, y12, y13, y14, y15, y16, some (.ref p), y18, y19, y20, y21, y22, y23, y24] H := by
  obtain ⟨t6, P6, h6⟩ := h6
  have nd := sc_law.nd
  have hu := hu_of hr
  refine ⟨_, (pss_cons (ps_set (i := 18) nd rfl (Or.inl rfl) (pe_ix (show IxR _ (rIxL K) from ix_list) (pe_lc (own := [("_law_memory_here", 13)]) (g := gName 13) (by rfl) nd (pi_list (pe_cl C__law_all (hr.mono (by decide)) (by rfl) (pa_cons (pv 3) pa_nil))) (blkOk_by (own := [("_law_memory_here", 13)]) (N := nm_law) (sc := defScope s_law) (by decide +kernel)) (fun _ _ _ _ _ => (pg_name (i := 13) nd rfl (Or.inl rfl))) (fun _ _ _ _ _ => pts_one (pt_cmpR (show OpR _ _ (rEqD K) from op_eqD hr.units) (pe_dget hu (pv 4) (pv 13) (fun _ _ => rfl)) (pe_ix (show IxR _ (rIxT K) from ix_tup) (pv 17) pe_int (fun _ _ => rfl)) (nomark _))) (fun _ _ _ _ _ => (pv 13))) pe_int (fun _ _ => rfl)))
    (pss_cons (ps_set (i := 19) nd rfl (Or.inl rfl) (pe_ix (show IxR _ (rIxL K) from ix_list) (pe_lc (own := [("_law_memory_here", 13)]) (g := gName 13) (by rfl) nd (pi_list (pe_cl C__law_all (hr.mono (by decide)) (by rfl) (pa_cons (pv 3) pa_nil))) (blkOk_by (own := [("_law_memory_here", 13)]) (N := nm_law) (sc := defScope s_law) (by decide +kernel)) (fun _ _ _ _ _ => (pg_name (i := 13) nd rfl (Or.inl rfl))) (fun _ _ _ _ _ => pts_one (pt_cmpR (show OpR _ _ (rEqD K) from op_eqD hr.units) (pe_dget hu (pv 4) (pv 13) (fun _ _ => rfl)) (pe_ix (show IxR _ (rIxT K) from ix_tup) (pv 17) (pe_un un_neg pe_int) (fun _ _ => rfl)) (nomark _))) (fun _ _ _ _ _ => (pv 13))) pe_int (fun _ _ => rfl)))
    (pss_cons (ps_if (pt_not (pt_val (pe_cl C__law_alike (hr.mono (by decide)) (by rfl) (pa_cons (pe_cl C_extremes (hr.mono (by decide)) (by rfl) (pa_cons (pv 2) pa_nil)) (pa_cons (pe_tup (pa_cons (pe_tup (pa_cons (pe_ix (show IxR _ (rIxT K) from ix_tup) (pv 17) pe_int (fun _ _ => rfl)) (pa_cons (pv 18) pa_nil))) (pa_cons (pe_tup (pa_cons (pe_ix (show IxR _ (rIxT K) from ix_tup) (pv 17) (pe_un un_neg pe_int) (fun _ _ => rfl)) (pa_cons (pv 19) pa_nil))) pa_nil))) pa_nil))))) (pss_one (ps_ret pe_bl)) pss_nil)
    P6))), ?_⟩
  intro n ws g H0 H r T p ys v y0 y5 y6 y7 y8 y9 y10 y11 y12 y13 y14 y15 y16 y18 y19 y20 y21 y22 y23 y24 L hp hys
  have h5 := g.hi
  have pos := found_pos g
  have lenm := mems_count n h5
  obtain ⟨v0, e0, r0⟩ := hys.2 0 _ (List.getElem?_eq_getElem pos)
  obtain ⟨vL, eL, rL⟩ := hys.2 _ _ (List.getElem?_eq_getElem (show (risL (outsAll ws n)).length - 1 < _ by omega))
  obtain ⟨pe0, pf0⟩ := low_fact g (List.getElem?_eq_getElem pos)
  obtain ⟨peL, pfL⟩ := high_fact g (List.getElem?_eq_getElem (show (risL (outsAll ws n)).length - 1 < _ by omega))
  generalize (risL (outsAll ws n))[0] = q0 at *
  generalize (risL (outsAll ws n))[(risL (outsAll ws n)).length - 1] = qL at *
  have at0 : atI ys 0 = some v0 := atI_nat (j := 0) e0
  have atL : atI ys (-1) = some vL := atI_end (by rw [hys.1]; exact eL)
  refine ⟨_, rfl, n, rfl, h5, fun q H2 k2 hq => ⟨q, rfl, ⟨_, SqL.is hq⟩, fun D0 hD => ?_⟩⟩
  refine lc_it (walk_list (xs := memV (mems n))) (fun i H' => Keep H2 H' ∧ H' D0 = some (.lst (memV (((mems n).take i).filter fun m => decide (outL ws m = q0))))) ⟨Keep.new hD, upd_same⟩ (fun i H' _ ⟨k', _⟩ => SqL.is (k'.lst hq)) ?_ ?_
  · rintro i x H3 H4 hi ⟨k3, hL⟩ ⟨rfl, hx⟩
    obtain ⟨hil, rfl⟩ := memV_at hx
    have hm : (mems n)[i]? = some (mems n)[i] := List.getElem?_eq_getElem hil
    have k23 := k2.trans k3
    obtain ⟨u, hu1, hu2⟩ := (L.on k23).tab.get (List.getElem_mem hil)
    refine ⟨rfl, _, rfl, _, rfl, T, u, rfl, hu1, _, rfl, p, ys, 0, v0, rfl, rfl, SqT.is (k23.tup hp), at0, dQ _, dQ _, hu2.dp, (r0.mono k23.t).dp, shaped_dQ _, shaped_dQ _, _, rfl, ?_⟩
    rw [eqv_dQ, fil_succ hm]
    by_cases z : outL ws (mems n)[i] = q0
    · rw [decide_eq_true z, if_pos z]
      refine iteT ⟨_, rfl, _, hL, ?_, k3.mut hD, ?_⟩
      · rw [memV_len]
        exact small1000 (Nat.le_trans (List.length_filter_le _ _) (by rw [List.length_take]; omega))
      · rw [upd_same]
        unfold memV
        rw [List.map_append]
        rfl
    · rw [decide_eq_false z, if_neg z, List.append_nil]
      exact iteF ⟨k3, hL⟩
  rintro H3 ⟨k3, hL⟩
  rw [memV_len, List.take_length] at hL
  have k23 := k2.trans k3
  have mlow := lowM (outL ws) (mems n) (zeros n)
  refine ⟨D0, _, 0, V.str (S (lowM (outL ws) (mems n) (zeros n))), rfl, rfl, SqL.is hL, atI_nat (j := 0) (by unfold memV; rw [List.getElem?_map, pf0]; rfl), ?_⟩
  -- the greatest
  refine ⟨_, rfl, n, rfl, h5, fun q H4 k4 hq => ⟨q, rfl, ⟨_, SqL.is hq⟩, fun D1 hD1 => ?_⟩⟩
  have k24 := k23.trans k4
  refine lc_it (walk_list (xs := memV (mems n))) (fun i H' => Keep H4 H' ∧ H' D1 = some (.lst (memV (((mems n).take i).filter fun m => decide (outL ws m = qL))))) ⟨Keep.new hD1, upd_same⟩ (fun i H' _ ⟨k', _⟩ => SqL.is (k'.lst hq)) ?_ ?_
  · rintro i x H5 H6 hi ⟨k5, hL1⟩ ⟨rfl, hx⟩
    obtain ⟨hil, rfl⟩ := memV_at hx
    have hm : (mems n)[i]? = some (mems n)[i] := List.getElem?_eq_getElem hil
    have k25 := k24.trans k5
    obtain ⟨u, hu1, hu2⟩ := (L.on k25).tab.get (List.getElem_mem hil)
    refine ⟨rfl, _, rfl, _, rfl, T, u, rfl, hu1, _, rfl, _, rfl, p, ys, -1, vL, rfl, rfl, SqT.is (k25.tup hp), atL, dQ _, dQ _, hu2.dp, (rL.mono k25.t).dp, shaped_dQ _, shaped_dQ _, _, rfl, ?_⟩
    rw [eqv_dQ, fil_succ hm]
    by_cases z : outL ws (mems n)[i] = qL
    · rw [decide_eq_true z, if_pos z]
      refine iteT ⟨_, rfl, _, hL1, ?_, k5.mut hD1, ?_⟩
      · rw [memV_len]
        exact small1000 (Nat.le_trans (List.length_filter_le _ _) (by rw [List.length_take]; omega))
      · rw [upd_same]
        unfold memV
        rw [List.map_append]
        rfl
    · rw [decide_eq_false z, if_neg z, List.append_nil]
      exact iteF ⟨k5, hL1⟩
  rintro H5 ⟨k5, hL1⟩
  rw [memV_len, List.take_length] at hL1
  have k25 := k24.trans k5
  refine ⟨D1, _, 0, V.str (S (highM (outL ws) (mems n) (zeros n))), rfl, rfl, SqL.is hL1, atI_nat (j := 0) (by unfold memV; rw [List.getElem?_map, pfL]; rfl), ?_⟩
  -- the extremes
  have L5 := L.on k25
  refine ⟨_, rfl, v, n, ws, rfl, L5.bank, g, L5.pr, fun pe x y H6 k6 hpe px py => ?_⟩
  have k26 := k25.trans k6
  have hp6 := k26.tup hp
  refine ⟨_, rfl, p, ys, 0, v0, rfl, rfl, SqT.is hp6, at0, _, rfl, by show 2 ≤ sizeLine; decide, fun T1 hT1 => ?_⟩
  have kT1 := k26.newT (o := .tup [v0, .str (S (lowM (outL ws) (mems n) (zeros n)))]) hT1
  refine ⟨_, rfl, _, rfl, p, ys, -1, vL, rfl, rfl, SqT.is (kT1.tup hp), atL, _, rfl, by show 2 ≤ sizeLine; decide, fun T2 hT2 => ⟨by show 2 ≤ sizeLine; decide, fun T3 hT3 => ?_⟩⟩
  have kT2 := kT1.newT (o := .tup [vL, .str (S (highM (outL ws) (mems n) (zeros n)))]) hT2
  have kT3 := kT2.newT (o := .tup [.ref T1, .ref T2]) hT3
  have k63 : Keep H6 (upd (upd (upd H6 T1 (.tup [v0, .str (S (lowM (outL ws) (mems n) (zeros n)))])) T2 (.tup [vL, .str (S (highM (outL ws) (mems n) (zeros n)))])) T3 (.tup [.ref T1, .ref T2])) := ((Keep.new hT1).newT hT2).newT hT3
  have k73 : Keep (upd H6 T1 (.tup [v0, .str (S (lowM (outL ws) (mems n) (zeros n)))])) (upd (upd (upd H6 T1 (.tup [v0, .str (S (lowM (outL ws) (mems n) (zeros n)))])) T2 (.tup [vL, .str (S (highM (outL ws) (mems n) (zeros n)))])) T3 (.tup [.ref T1, .ref T2])) := (Keep.new hT2).newT hT3
  have k83 : Keep (upd (upd H6 T1 (.tup [v0, .str (S (lowM (outL ws) (mems n) (zeros n)))])) T2 (.tup [vL, .str (S (highM (outL ws) (mems n) (zeros n)))])) (upd (upd (upd H6 T1 (.tup [v0, .str (S (lowM (outL ws) (mems n) (zeros n)))])) T2 (.tup [vL, .str (S (highM (outL ws) (mems n) (zeros n)))])) T3 (.tup [.ref T1, .ref T2])) := Keep.new hT3
  have gl : ∀ m ∈ mems n, m.length ≤ 1000 := fun m hm => by
    have := mems_len n h5 m hm
    omega
  have ml : lowM (outL ws) (mems n) (zeros n) ∈ mems n := (List.mem_filter.mp (List.mem_of_getElem? pf0)).1
  have mh : highM (outL ws) (mems n) (zeros n) ∈ mems n := (List.mem_filter.mp (List.mem_of_getElem? pfL)).1
  rw [pe0] at r0
  rw [peL] at rL
  refine ⟨.ref pe, .ref T3, rfl, ?_, fun H7 k7 => ⟨_, rfl, iteF ?_⟩⟩
  · exact sm_two 3 (k63.tup hpe) upd_same (sm_pair 0 (gl _ ml) (px.mono k63.t) ⟨T1, v0, rfl, k73.tup upd_same, r0.mono kT3.t⟩) (sm_pair 0 (gl _ mh) (py.mono k63.t) ⟨T2, vL, rfl, k83.tup upd_same, rL.mono kT3.t⟩)
  · exact h6 n ws g H0 H7 r T v _ _ _ _ _ _ _ _ _ _ _ _ _ _ _ _ _ _ _ _ _ (L.on (kT3.trans k7))
end
end R31
namespace R31
open PySem PySem.Spec PyProof.Rows L2
theorem find_mem {ok : List Nat → Bool} {rows : List R31.Row} {w : List Nat} (h : findIn ok rows = some w) : ∃ r ∈ rows, r.2 = w := by
  unfold findIn at h
  cases z : rows.find? (fun r => ok r.1) with
  | none => rw [z] at h; cases h
  | some r =>
    rw [z] at h
    exact ⟨r, List.mem_of_find?_eq_some z, Option.some.inj h⟩
theorem res_len {ok : List Nat → Bool} {n : Nat} (h5 : n ≤ 5) : ∀ (k j : Nat), j + k ≤ 17 → ∀ w, bfsRes ok k (bfsAt n j) = some w → w.length ≤ 20
  | 0, j, _, w, h => by cases h
  | k + 1, j, hj, w, h => by
    by_cases e : (bfsAt n j).1 = []
    · rw [bfs_nil e] at h
      cases h
    · rw [bfs_one e] at h
      cases z : findIn ok (bfsAt n j).1 with
      | some u =>
        rw [z] at h
        obtain ⟨r, hr, e2⟩ := find_mem z
        have gr := List.all_eq_true.mp (bfs_fact n h5 j (by omega)).1 r hr
        unfold goodRow at gr
        simp only [Bool.and_eq_true, decide_eq_true_eq] at gr
        have e3 : u = w := Option.some.inj h
        rw [← e3, ← e2]
        exact gr.1.1.2
      | none =>
        rw [z] at h
        exact res_len h5 k (j + 1) (by omega) w h
theorem Keep.unfrz {H H' : Hp} {T : Addr} {u : HO} {od : Obj} (e : H T = some u) (k : Keep (upd H T (.frz od u)) H') : Keep H (upd H' T u) := fun b o h => by
  by_cases hb : b = T
  · subst hb
    rw [e] at h
    cases h
    exact .inl upd_same
  · rw [upd_ne hb]
    exact k b o (by rw [upd_ne hb]; exact h)
theorem KeepT.frz {H H' : Hp} {T : Addr} {u o : HO} {od : Obj} (k : KeepT H H') (h : H' T = some (.frz od u)) (n : ∀ xs, o ≠ .tup xs) : KeepT H (upd H' T o) := fun b xs e => by
  have e' := k b xs e
  rw [upd_ne (ne_of e' h (by intro z; cases z))]
  exact e'
theorem rts_keys {K : PySem.W.Frag} {H : Hp} : ∀ {xs : List V} {l : List (Int × Int)}, Rts H xs l → ∃ ks : List (Addr × List Int), xs = ks.map (fun p => V.ref p.1) ∧ ks.map (·.2) = l.map (fun q => [q.1, q.2]) ∧ ∀ p ∈ ks, ∃ q : Int × Int, p.2 = [q.1, q.2] ∧ H p.1 = some (.tup [.int q.1, .int q.2])
  | [], [], _ => ⟨[], rfl, rfl, fun p hp => absurd hp List.not_mem_nil⟩
  | [], q :: l, h => absurd h.1 (by simp)
  | x :: xs, [], h => absurd h.1 (by simp)
  | x :: xs, q :: l, h => by
    obtain ⟨⟨a, rfl, ha⟩, h2⟩ := h.uncons
    obtain ⟨ks, e1, e2, e3⟩ := rts_keys (K := K) h2
    refine ⟨(a, [q.1, q.2]) :: ks, by rw [List.map_cons, ← e1], by rw [List.map_cons, List.map_cons, e2], fun p hp => ?_⟩
    rcases List.mem_cons.mp hp with z | z
    · rw [z]
      exact ⟨q, rfl, ha⟩
    · exact e3 p z
theorem pair_inj {p q : Int × Int} (h : [p.1, p.2] = [q.1, q.2]) : p = q := by
  injection h with h1 h2
  injection h2 with h2 _
  exact Prod.ext h1 h2
theorem eqvAll_self : ∀ l : List (Int × Int), PyData.eqvAll (l.map dQ) (l.map dQ) = true
  | [] => by simp [PyData.eqvAll]
  | q :: l => by
    rw [List.map_cons]
    have h := eqvAll_self l
    have e : PyData.eqv (dQ q) (dQ q) = true := by
      rw [eqv_dQ]
      exact decide_eq_true rfl
    simp [PyData.eqvAll, h, e]
theorem eqv_self (l : List (Int × Int)) : PyData.eqv (.list (l.map dQ)) (.list (l.map dQ)) = true := by
  have h := eqvAll_self l
  simp [PyData.eqv, h]
/-- the set, sorted, is the rising list, sorted -/
theorem set_fact {n : Nat} {ws : List Wt} (g : GoodB n ws) {l1 l2 : List (Int × Int)} {ks L : List (Addr × List Int)} (p1 : l1.Perm (risL (outsAll ws n))) (s1 : SortedQ l1) (s2 : SortedQ l2) (hks : ks.map (·.2) = (outsAll ws n).map fun q => [q.1, q.2])
    (hL1 : ∀ p ∈ L, p ∈ ks) (hL2 : ∀ p ∈ ks, p.2 ∈ L.map (·.2)) (nd : (L.map (·.2)).Nodup) (p2 : (l2.map fun q => [q.1, q.2]).Perm (L.map (·.2))) : l1 = l2 := by
  have n1 : l1.Nodup := p1.nodup_iff.mpr (risL_asc (outs_low g)).nodup
  have n2 : l2.Nodup := by
    have z := p2.nodup_iff.mpr nd
    exact (List.pairwise_map.mp z).imp fun {a b} h e => h (by rw [e])
  refine sortedQ_uniq s1 s2 ((List.perm_ext_iff_of_nodup n1 n2).mpr fun q => ?_)
  rw [p1.mem_iff, risL_mem (outs_low g)]
  constructor
  · intro h
    have h1 : [q.1, q.2] ∈ ks.map (·.2) := by
      rw [hks]
      exact List.mem_map.mpr ⟨q, h, rfl⟩
    obtain ⟨p, hp, e⟩ := List.mem_map.mp h1
    have h2 := hL2 p hp
    rw [e] at h2
    obtain ⟨q2, hq2, e2⟩ := List.mem_map.mp (p2.mem_iff.mpr h2)
    rw [← pair_inj e2]
    exact hq2
  · intro h
    have h1 : [q.1, q.2] ∈ L.map (·.2) := p2.mem_iff.mp (List.mem_map.mpr ⟨q, h, rfl⟩)
    obtain ⟨p, hp, e⟩ := List.mem_map.mp h1
    have h2 : p.2 ∈ ks.map (·.2) := List.mem_map.mpr ⟨p, hL1 p hp, rfl⟩
    rw [hks] at h2
    obtain ⟨q2, hq2, e2⟩ := List.mem_map.mp h2
    have e3 : [q2.1, q2.2] = [q.1, q.2] := by
      rw [e2]
      exact e
    rw [← pair_inj e3]
    exact hq2
section
variable {P : Program} {w : World} {K : PySem.W.Frag} {mg : Str → Option Value} {base : Heap} {f c Pr Pi : Addr} {cdv : Value} {A : Around} {outer : List Env} {s : Shared} {H00 : Hp} {E : XK} {Q : VK}
theorem law4 (Z : Zs mg) (hr : RoomL f cdv A s)
    (C_input_to : Callee P w K mg base 5 "input_to" ["bank", "least", "most"] (spInputTo Pr)) (C_outputs_reached : Callee P w K mg base 5 "outputs_reached" ["bank"] (spReached Pr)) (C__law_less : Callee P w K mg base 1 "_law_less" ["_law_one", "_law_other"] spLess)
    (C__law_alike : Callee P w K mg base 4 "_law_alike" ["_law_found", "_law_due"] (spAlike 4))
    (h5' : ∃ t, PSs (XL P w K mg base f cdv A outer s H00 E) ((defBody s_law).drop 14) t ∧ ∀ (n : Nat) (ws : List Wt), GoodB n ws → ∀ (H0 H : Hp) (r T p : Addr) (ys : List V) (v : V) y0 y5 y6 y7 y8 y9 y10 y11 y12 y13 y14 y15 y16 y18 y19 y20 y21 y22 y23 y24, LW K Pr Pi H0 H r T v n ws → H p = some (.tup ys) → Rts H ys (risL (outsAll ws n)) →
      t { nx := fun _ H' => Q .non H', rt := Q } [y0, some (.ref r), some (v), some (.int (n : Nat)), some (.ref T), y5, y6, y7, y8, y9, y10, y11, y12, y13, y14, y15, y16, some (.ref p), y18, y19, y20, y21, y22, y23, y24] H) :
    ∃ t, PSs (XL P w K mg base f cdv A outer s H00 E) ((defBody s_law).drop 9) t ∧ ∀ (n : Nat) (ws : List Wt), GoodB n ws → ∀ (H0 H : Hp) (r T : Addr) (v x y : V) (lo hi : Int × Int) y0 y5 y6 y9 y10 y12 y13 y14 y15 y16 y17 y18 y19 y20 y21 y22 y23 y24, LW K Pr Pi H0 H r T v n ws → Rt H x lo → Rt H y hi → Low lo → Low hi → Bd 1000 lo → Bd 1000 hi →
      t { nx := fun _ H' => Q .non H', rt := Q } [y0, some (.ref r), some (v), some (.int (n : Nat)), some (.ref T), y5, y6, some (x), some (y), y9, y10, some (resV (bfsRes (okM ws lo hi) 17 (bfsAt n 0))), y12, y13, y14, y15, y16, y17, y18, y19, y20, y21, y22, y23, y24] H := by
  obtain ⟨t5, P5, h5'⟩ := h5'
  have nd := sc_law.nd
  have hu := hu_of hr
  have hu64 := room64 hr
  refine ⟨_, (pss_cons (ps_if (pt_not (pt_val (pe_cl C__law_alike (hr.mono (by decide)) (by rfl) (pa_cons (pe_cl C_input_to (hr.mono (by decide)) (by rfl) (pa_cons (pv 2) (pa_cons (pv 7) (pa_cons (pv 8) pa_nil)))) (pa_cons (pv 11) pa_nil))))) (pss_one (ps_ret pe_bl)) pss_nil)
    (pss_cons (ps_set (i := 17) nd rfl (Or.inr rfl) (pe_cl C_outputs_reached (hr.mono (by decide)) (by rfl) (pa_cons (pv 2) pa_nil)))
    (pss_cons (ps_if (pt_not (pt_val (pe_callB call_isi (by rfl) Z.z_isinstance (by decide +kernel) (pa_cons (pv 17) (pa_cons (pe_bltn (v := .ty "tuple") (by rfl) Z.z_tuple (by decide +kernel) rfl) pa_nil))))) (pss_one (ps_ret pe_bl)) pss_nil)
    (pss_cons (ps_if (pt_cmpR (show OpR _ _ (rNeD K) from op_neD hr.units) (pe_lc (own := [("_law_k", 24)]) (g := gName 24) (by rfl) nd (pi_range2 (by rfl) Z.z_range (pa_cons pe_int (pa_cons (pe_callB call_len (by rfl) Z.z_len (by decide +kernel) (pa_cons (pv 17) pa_nil)) pa_nil))) (blkOk_by (own := [("_law_k", 24)]) (N := nm_law) (sc := defScope s_law) (by decide +kernel)) (fun _ _ _ _ _ => (pg_name (i := 24) nd rfl (Or.inl rfl))) (fun _ _ _ _ _ => pts_one (pt_not (pt_val (pe_cl C__law_less (hr.mono (by decide)) (by rfl) (pa_cons (pe_ix (show IxR _ (rIxT K) from ix_tup) (pv 17) (pe_op op_sub (pv 24) pe_int) (fun _ _ => rfl)) (pa_cons (pe_ix (show IxR _ (rIxT K) from ix_tup) (pv 17) (pv 24) (fun _ _ => rfl)) pa_nil)))))) (fun _ _ _ _ _ => (pv 24))) (pe_lst pa_nil) (nomark _)) (pss_one (ps_ret pe_bl)) pss_nil)
    (pss_cons (ps_if (pt_cmpR (show OpR _ _ (rNeD K) from op_neD hr.units) (pe_callB cr_sortTup (by rfl) Z.z_sorted (by decide +kernel) (pa_cons (pv 17) pa_nil)) (pe_callB (cr_sortSet rfl) (by rfl) Z.z_sorted (by decide +kernel) (pa_cons (pe_callTy (cr_setOfT rfl hu64) (by rfl) Z.z_set (by decide +kernel) (pa_cons (pe_lock (pe_lc (own := [("_law_memory_here", 13)]) (g := gName 13) (tt := tYes) (by rfl) nd (pi_keys (pv 4)) (blkOk_by (own := [("_law_memory_here", 13)]) (N := nm_law) (sc := defScope s_law) (by decide +kernel)) (fun _ _ _ _ _ => (pg_name (i := 13) nd rfl (Or.inl rfl))) (fun _ _ _ _ _ => pts_nil) (fun _ _ _ _ _ => (pe_dget hu (pv 4) (pv 13) (fun _ _ => rfl))))) pa_nil)) pa_nil)) (nomark _)) (pss_one (ps_ret pe_bl)) pss_nil)
    P5))))), ?_⟩
  intro n ws g H0 H r T v x y lo hi y0 y5 y6 y9 y10 y12 y13 y14 y15 y16 y17 y18 y19 y20 y21 y22 y23 y24 L hx hy l1 l2 b1 b2
  have h5 := g.hi
  refine ⟨_, rfl, _, rfl, _, rfl, v, x, y, n, ws, lo, hi, rfl, L.bank, g, hx, hy, l1, l2, b1, b2, L.pr, fun H1 k1 => ?_⟩
  refine ⟨_, rfl, _, _, rfl, sm_res 3 (fun w hw => Nat.le_trans (res_len h5 17 0 (by omega) w hw) (by decide)), fun H2 k2 => ⟨_, rfl, iteF ?_⟩⟩
  have L2' := L.on (k1.trans k2)
  clear hx hy l1 l2 b1 b2 k1 k2 L
  -- outputs_reached
  refine ⟨_, rfl, v, n, ws, rfl, L2'.bank, g, L2'.pr, fun p ys H3 k3 hp hys => ?_⟩
  have L3 := L2'.on k3
  refine ⟨_, rfl, _, _, _, _, true, rfl, .ty _, ty_tup hp, kit_ty (by decide +kernel), ⟨true, rfl, iteF ?_⟩⟩
  -- it rises
  have asc := risL_asc (outs_low g)
  have lenf : (risL (outsAll ws n)).length ≤ 32 := Nat.le_trans (risL_len _) (by rw [List.length_map]; exact mems_count n h5)
  have bdf : ∀ q ∈ risL (outsAll ws n), Bd 1000 q := fun q hq => by
    obtain ⟨m, _, rfl⟩ := List.mem_map.mp ((risL_mem (outs_low g)).mp hq)
    exact (outL_bd g m).mono (by decide)
  have leny : ys.length = (risL (outsAll ws n)).length := hys.1
  refine ⟨_, rfl, _, _, rfl, .inr ⟨_, SqT.is hp, rfl⟩, 1, ((ys.length : Nat) : Int), rfl, ⟨by decide, by decide, by omega, by omega⟩, fun D0 hD => ?_⟩
  refine lc_it walk_range (fun i H' => Keep H3 H' ∧ H' D0 = some (.lst [])) ⟨Keep.new hD, upd_same⟩ (fun _ _ _ _ => trivial) ?_ ?_
  · rintro i x H4 H5 hi ⟨k4, hL⟩ ⟨rfl, rfl⟩
    have i1 : i < (risL (outsAll ws n)).length := by omega
    have i2 : i + 1 < (risL (outsAll ws n)).length := by omega
    obtain ⟨va, ea, ra⟩ := hys.2 i _ (List.getElem?_eq_getElem i1)
    obtain ⟨vb, eb, rb⟩ := hys.2 (i + 1) _ (List.getElem?_eq_getElem i2)
    have hless := List.pairwise_iff_getElem.mp asc i (i + 1) i1 i2 (Nat.lt_succ_self _)
    have ba := bdf _ (List.getElem_mem i1)
    have bb := bdf _ (List.getElem_mem i2)
    have z1 : (1 : Int) + ((i : Nat) : Int) - 1 = ((i : Nat) : Int) := by omega
    have z2 : (1 : Int) + ((i : Nat) : Int) = ((i + 1 : Nat) : Int) := by omega
    refine ⟨rfl, _, rfl, _, rfl, _, _, rfl, rfl, p, ys, _, va, rfl, rfl, SqT.is (k4.tup hp), atI_of z1 ea, _, rfl, _, rfl, p, ys, _, vb, rfl, rfl, SqT.is (k4.tup hp), atI_of z2 eb, va, vb, _, _, rfl, ra.mono k4.t, rb.mono k4.t, ba, bb, _, rfl, ?_⟩
    rw [hless]
    exact iteF ⟨k4, hL⟩
  rintro H4 ⟨k4, hL4⟩
  refine ⟨Nat.zero_le _, fun p4 hp4 => ⟨.list [], .list [], .lst (SqL.is ((Keep.new hp4).lst hL4)) .nil, .lst (SqL.is upd_same) .nil, rfl, rfl, _, rfl, iteF ?_⟩⟩
  have k5 : Keep H3 (upd H4 p4 (.lst [])) := k4.newT hp4
  have L5 := L3.on k5
  have hp5 := k5.tup hp
  have hys5 := hys.mono k5.t
  generalize upd H4 p4 (.lst []) = H5 at *
  clear hL4 hp4 k4 k5 L3 hp hys
  -- sorted(found)
  refine ⟨_, rfl, p, ys, _, rfl, SqT.is hp5, hys5, fun ys1 l1 p1 pm1 so1 r1 hp1 => ?_⟩
  have k6 : Keep H5 (upd H5 p1 (.lst ys1)) := Keep.new hp1
  have L6 := L5.on k6
  have r16 := r1.mono k6.t
  have hp16 : upd H5 p1 (.lst ys1) p1 = some (.lst ys1) := upd_same
  generalize upd H5 p1 (.lst ys1) = H6 at *
  obtain ⟨kvs, eT, eK, eV⟩ := L6.tab
  refine ⟨T, .dK kvs, eT, trivial, fun od => ?_⟩
  have lenk : kvs.length = (mems n).length := by
    have := congrArg List.length eK
    rw [List.length_map, List.length_map] at this
    exact this
  have lenm := mems_count n h5
  have ktF : KeepT H6 (upd H6 T (.frz od (.dK kvs))) := fun b xs e => by
    rw [upd_ne (ne_of e eT (by intro z; cases z))]
    exact e
  refine ⟨_, rfl, T, od, rfl, .inl ⟨kvs, upd_same, fun D1 hD1 => ?_⟩⟩
  refine lc_it walk_keys (fun i H' => ∃ acc, Keep (upd H6 T (.frz od (.dK kvs))) H' ∧ H' D1 = some (.lst acc) ∧ Rts H' acc (((mems n).take i).map (outL ws))) ⟨[], Keep.new hD1, upd_same, Rts.nil⟩ (fun i H' _ ⟨_, k', _⟩ => k'.frz upd_same) ?_ ?_
  · rintro i x H7 H8 hi ⟨acc, k7, hL, hR⟩ ⟨rfl, kk, vv, hkv, rfl⟩
    have hil : i < (mems n).length := by omega
    have hm : (mems n)[i]? = some (mems n)[i] := List.getElem?_eq_getElem hil
    have ek : kk = Sum.inr (S (mems n)[i]) := by
      have z := congrArg (·[i]?) eK
      rw [List.getElem?_map, List.getElem?_map, hkv, hm] at z
      exact Option.some.inj z
    subst ek
    obtain ⟨u, hu1, hu2⟩ := eV _ (List.getElem_mem hil)
    have ru : Rt _ u (outL ws (mems n)[i]) := hu2.mono (ktF.trans k7.t)
    refine ⟨rfl, _, rfl, _, rfl, T, u, rfl, .inl ⟨kvs, Sum.inr (S (mems n)[i]), .inr ⟨od, k7.frz upd_same⟩, rfl, hu1.symm⟩, acc, hL, small1000 (by rw [hR.1, List.length_map, List.length_take]; omega), acc ++ [u], k7.mut hD1, upd_same, ?_⟩
    rw [take_snoc hm, List.map_append]
    exact (hR.snoc ru).mono ((KeepT.refl _).lst hL)
  rintro H7 ⟨acc, k7, hL7, hR7⟩
  rw [lenk, List.take_length] at hR7
  have fz : H7 T = some (.frz od (.dK kvs)) := k7.frz upd_same
  refine ⟨fz, ?_⟩
  have k8 : Keep H6 (upd H7 T (.dK kvs)) := Keep.unfrz eT k7
  have nDT : D1 ≠ T := ne_of hL7 fz (by intro z; cases z)
  have hL8 : upd H7 T (.dK kvs) D1 = some (.lst acc) := by
    rw [upd_ne nDT]
    exact hL7
  have hR8 : Rts (upd H7 T (.dK kvs)) acc (outsAll ws n) := hR7.mono ((KeepT.refl H7).frz fz fun _ z => by cases z)
  have L8 := L6.on k8
  have r18 := r16.mono k8.t
  have hp18 := k8.lst hp16
  have hpf8 := k8.tup (k6.tup hp5)
  have hys8 := hys5.mono (k6.trans k8).t
  generalize upd H7 T (.dK kvs) = H8 at *
  obtain ⟨ks, ek1, ek2, ek3⟩ := rts_keys (K := K) hR8
  have lks : ks.length < 64 := by
    have := congrArg List.length ek2
    rw [List.length_map, List.length_map, List.length_map] at this
    omega
  refine ⟨D1, ks, rfl, by rw [← ek1]; exact SqL.is hL8, fun p hp => ?_, lks, fun a Lst ha hl1 hl2 => ?_⟩
  · obtain ⟨q, e, ht⟩ := ek3 p hp
    rw [e]
    exact SqT.is ht
  have kS := Keep.new (H := H8) (o := SetTO P w a Lst) ha
  refine ⟨a, Lst, rfl, upd_same, fun p hp => ?_, fun ys2 l2 p2 pm2 nd2 so2 r2 hp2 => ?_⟩
  · obtain ⟨q, e, ht⟩ := ek3 p (hl1 p hp)
    exact ⟨q, e, kS.tup ht⟩
  have k9 := kS.newT (o := .lst ys2) hp2
  have el := set_fact g pm1 so1 so2 ek2 hl1 hl2 nd2 pm2
  subst el
  refine ⟨.list (l1.map dQ), .list (l1.map dQ), .lst (SqL.is (k9.lst hp18)) (r18.mono k9.t).dps, .lst (SqL.is upd_same) (r2.mono (Keep.new hp2).t).dps, shaped_dQs _, shaped_dQs _, _, rfl, ?_⟩
  rw [eqv_self]
  exact iteF (h5' n ws g H0 _ r T p ys v _ _ _ _ _ _ _ _ _ _ _ _ _ _ _ _ _ _ _ _ (L8.on k9) (k9.tup hpf8) (hys8.mono k9.t))
end
end R31
namespace R31
open PySem PySem.Spec PyProof.Rows L2
def dRow (r : R31.Row) : PyData := .tuple [.str (S r.1), .str (S r.2)]
theorem RowsAt.uncons {H : Hp} {x : V} {xs : List V} {r : R31.Row} {rows : List R31.Row} (h : RowsAt H (x :: xs) (r :: rows)) : (∃ t, x = .ref t ∧ H t = some (.tup [.str (S r.1), .str (S r.2)])) ∧ RowsAt H xs rows := by
  obtain ⟨t, e, ht⟩ := h.2 0 r rfl
  refine ⟨⟨t, Option.some.inj e, ht⟩, Nat.succ.inj h.1, fun i q e => h.2 (i + 1) q e⟩
theorem RowsAt.dps {K : PySem.W.Frag} {H : Hp} : ∀ {xs : List V} {rows : List R31.Row}, RowsAt H xs rows → DpAll K H xs (rows.map dRow)
  | [], [], _ => .nil
  | [], q :: l, h => absurd h.1 (by simp)
  | x :: xs, [], h => absurd h.1 (by simp)
  | x :: xs, q :: l, h => by
    obtain ⟨⟨t, rfl, ht⟩, h2⟩ := h.uncons
    exact .cons (.tup (SqT.is ht) (.cons (.str _) (.cons (.str _) .nil))) (RowsAt.dps h2)
theorem lay_str {l : List Nat} (h : l.all (· < 1114112) = true) : (PyData.str (S l)).canLay0 = true := by
  have e : (PyData.str (S l)).canLay0 = PyData.strOk (S l) := rfl
  rw [e]
  unfold PyData.strOk
  rw [← Array.all_toList, S_list]
  exact h
theorem shaped_rows {n : Nat} {rows : List R31.Row} (h : rows.all (goodRow n) = true) : SeqAt.shaped (.list (rows.map dRow)) = true := by
  refine shaped_list fun d hd => ?_
  obtain ⟨r, hr, rfl⟩ := List.mem_map.mp hd
  have gi := List.all_eq_true.mp h r hr
  unfold goodRow at gi
  simp only [Bool.and_eq_true] at gi
  obtain ⟨⟨_, ga⟩, gb⟩ := gi
  refine ⟨?_, show 1 ≤ 63 by decide⟩
  show PyData.canLayAll0 [.str (S r.1), .str (S r.2)] = true
  simp [PyData.canLayAll0, lay_str ga, lay_str gb]
theorem eqv_nil (rows : List R31.Row) : PyData.eqv (.list (rows.map dRow)) (.list []) = decide (rows = []) := by
  cases rows with
  | nil => rfl
  | cons r l => simp [PyData.eqv, PyData.eqvAll]
theorem find_succ {ok : List Nat → Bool} {rows : List R31.Row} {i : Nat} {r : R31.Row} (h : rows[i]? = some r) : findIn ok (rows.take (i + 1)) = match findIn ok (rows.take i) with
    | some w => some w
    | none => if ok r.1 = true then some r.2 else none := by
  unfold findIn
  rw [take_snoc h, List.find?_append]
  cases z : (rows.take i).find? (fun r => ok r.1) with
  | some q => rfl
  | none =>
    show Option.map _ (List.find? (fun r => ok r.1) [r]) = _
    rw [List.find?_cons]
    cases ok r.1 <;> rfl
end R31
namespace R31
open PySem PySem.Spec PyProof.Rows L2
section
variable {P : Program} {w : World} {K : PySem.W.Frag} {mg : Str → Option Value} {base : Heap} {f c Pr Pi : Addr} {cdv : Value} {A : Around} {outer : List Env} {s : Shared} {H00 : Hp} {E : XK} {Q : VK}
theorem law3 (Z : Zs mg) (hr : RoomL f cdv A s)
    (C__law_less : Callee P w K mg base 1 "_law_less" ["_law_one", "_law_other"] spLess) (C__law_step : Callee P w K mg base 1 "_law_step" ["_law_memory_here", "_law_letter"] spStep)
    (h4' : ∃ t, PSs (XL P w K mg base f cdv A outer s H00 E) ((defBody s_law).drop 9) t ∧ ∀ (n : Nat) (ws : List Wt), GoodB n ws → ∀ (H0 H : Hp) (r T : Addr) (v x y : V) (lo hi : Int × Int) y0 y5 y6 y9 y10 y12 y13 y14 y15 y16 y17 y18 y19 y20 y21 y22 y23 y24, LW K Pr Pi H0 H r T v n ws → Rt H x lo → Rt H y hi → Low lo → Low hi → Bd 1000 lo → Bd 1000 hi →
      t { nx := fun _ H' => Q .non H', rt := Q } [y0, some (.ref r), some (v), some (.int (n : Nat)), some (.ref T), y5, y6, some (x), some (y), y9, y10, some (resV (bfsRes (okM ws lo hi) 17 (bfsAt n 0))), y12, y13, y14, y15, y16, y17, y18, y19, y20, y21, y22, y23, y24] H) :
    ∃ t, PSs (XL P w K mg base f cdv A outer s H00 E) ((defBody s_law).drop 7) t ∧ ∀ (n : Nat) (ws : List Wt), GoodB n ws → ∀ (H0 H : Hp) (r T : Addr) (v x y : V) (lo hi : Int × Int) y0 y5 y6 y9 y10 y11 y12 y13 y14 y15 y16 y17 y18 y19 y20 y21 y22 y23 y24, LW K Pr Pi H0 H r T v n ws → Rt H x lo → Rt H y hi → Low lo → Low hi → Bd 1000 lo → Bd 1000 hi →
      t { nx := fun _ H' => Q .non H', rt := Q } [y0, some (.ref r), some (v), some (.int (n : Nat)), some (.ref T), y5, y6, some (x), some (y), y9, y10, y11, y12, y13, y14, y15, y16, y17, y18, y19, y20, y21, y22, y23, y24] H := by
  obtain ⟨t4, P4, h4'⟩ := h4'
  have nd := sc_law.nd
  have hu := hu_of hr
  refine ⟨_, (pss_cons (ps_par3 (i := 9) (j := 10) (l := 11) (by rfl) nd rfl rfl rfl (by decide) (by decide) (by decide) rfl rfl rfl (pa_cons (pe_lst (pa_cons (pe_tup (pa_cons (pe_op op_mulS pe_str (pv 3)) (pa_cons pe_str pa_nil))) pa_nil)) (pa_cons (pe_disp (pps_cons (pe_op op_mulS pe_str (pv 3)) pe_bl pps_nil) (by rfl) (by rfl) (fun z => by cases z) (by decide)) (pa_cons pe_non pa_nil))) (by rfl))
    (pss_cons (ps_while PassesOwn.never (PW.pt (pw_and (pt_cmpR (show OpR _ _ (rNeD K) from op_neD hr.units) (pv 9) (pe_lst pa_nil) (nomark _)) (pw_and1 (pt_cmpR op_isN (pv 11) pe_non (nomark _))))) (pss_cons (ps_set (i := 12) nd rfl (Or.inl rfl) (pe_lst pa_nil))
    (pss_cons (ps_for PassesOwn.never rfl (pi_list (pv 9)) (pg_tup rfl (pgs_cons (pg_name (i := 13) nd rfl (Or.inl rfl)) (pgs_cons (pg_name (i := 14) nd rfl (Or.inl rfl)) pgs_nil))) (pss_cons (ps_if (PW.pt (pw_and (pt_cmpR op_isN (pv 11) pe_non (nomark _)) (pw_and (pt_not (pt_val (pe_cl C__law_less (hr.mono (by decide)) (by rfl) (pa_cons (pe_dget hu (pv 4) (pv 13) (fun _ _ => rfl)) (pa_cons (pv 7) pa_nil))))) (pw_and1 (pt_not (pt_val (pe_cl C__law_less (hr.mono (by decide)) (by rfl) (pa_cons (pv 8) (pa_cons (pe_dget hu (pv 4) (pv 13) (fun _ _ => rfl)) pa_nil))))))))) (pss_one (ps_set (i := 11) nd rfl (Or.inl rfl) (pv 14))) pss_nil)
    (pss_one (ps_for PassesOwn.never rfl (pi_str pe_str) (pg_name (i := 15) nd rfl (Or.inl rfl)) (pss_cons (ps_set (i := 16) nd rfl (Or.inl rfl) (pe_cl C__law_step (hr.mono (by decide)) (by rfl) (pa_cons (pv 13) (pa_cons (pv 15) pa_nil))))
    (pss_one (ps_if (pt_cmp (pc_dnotin hu (pv 16) (pv 10))) (pss_cons (ps_dput hu (pv 10) (pv 16) pe_bl rfl)
    (pss_one (ps_expr (pe_bm PySem.F.plainAttrs_list PySem.F.slot_list_append PySem.F.type_list_append mt_append (pv 12) (pa_cons (pe_tup (pa_cons (pv 16) (pa_cons (pe_op op_add_str (pv 14) (pv 15)) pa_nil))) pa_nil))))) pss_nil)))))))
    (pss_one (ps_set (i := 9) nd rfl (Or.inl rfl) (pv 12))))))
    P4)), ?_⟩
  intro n ws g H0 H r T v x y lo hi y0 y5 y6 y9 y10 y11 y12 y13 y14 y15 y16 y17 y18 y19 y20 y21 y22 y23 y24 L hx hy l1 l2 b1 b2
  have h5 := g.hi
  have h1 := g.lo
  refine ⟨_, rfl, S [48], (n : Int), by rw [c0], rfl, mul_ok h5, by show 2 ≤ sizeLine; decide, fun U hU => ⟨by show 1 ≤ sizeLine; decide, fun R hR => ?_⟩⟩
  rw [mul_zeros n h5, cnil] at *
  have kR := (Keep.new (o := .tup [.str (S (zeros n)), .str (S [])]) hU).newT (o := .lst [.ref U]) hR
  intro d hd
  have kd := kR.newT (o := .dK []) hd
  refine ⟨_, rfl, S [48], (n : Int), by rw [c0], rfl, mul_ok h5, upd_same, [(Sum.inr (S (zeros n)), .bl true)], by rw [mul_zeros n h5]; rfl, by show 1 ≤ 15; decide, _, _, _, rfl, ?_⟩
  have hd0 : H d = none := kR.free hd
  have nRd : R ≠ d := ne_of_none upd_same hd
  have nTR : U ≠ R := ne_of_none upd_same hR
  have e1 : mergeK [] [((Sum.inr (S (zeros n)) : Key), V.bl true)] = kvOf (bfsAt n 0).2 := rfl
  rw [e1, upd_upd]
  generalize hH4 : upd (upd (upd H U (.tup [.str (S (zeros n)), .str (S [])])) R (.lst [.ref U])) d (.dK (kvOf (bfsAt n 0).2)) = H4
  have k4 : Keep H H4 := by
    rw [← hH4]
    exact kR.newT hd
  have f1 : H4 d = some (.dK (kvOf (bfsAt n 0).2)) := by
    rw [← hH4]
    exact upd_same
  have f2 : H4 R = some (.lst [.ref U]) := by
    rw [← hH4, upd_ne nRd]
    exact upd_same
  have f3 : H4 U = some (.tup [.str (S (zeros n)), .str (S [])]) := by
    have ndT : U ≠ d := by
      refine ne_of_none (o := .tup [.str (S (zeros n)), .str (S [])]) ?_ hd
      rw [upd_ne nTR]
      exact upd_same
    rw [← hH4, upd_ne ndT, upd_ne nTR]
    exact upd_same
  have r0 : RowsAt H4 [.ref U] (bfsAt n 0).1 := (RowsAt.nil (H := H4)).snoc (r := (zeros n, [])) f3
  generalize hres : bfsRes (okM ws lo hi) 17 (bfsAt n 0) = res at *
  refine ⟨fun m σ H' => ∃ (j : Nat) (R : Addr) (xs : List V) (due : Option (List Nat)) (y12 y13 y14 y15 y16 : Option V), j + m = 17 ∧ j ≤ 16 ∧ σ = [y0, some (.ref r), some (v), some (.int (n : Nat)), some (.ref T), y5, y6, some (x), some (y), some (.ref R), some (.ref d), some (resV due), y12, y13, y14, y15, y16, y17, y18, y19, y20, y21, y22, y23, y24] ∧ Keep H H' ∧ H' R = some (.lst xs) ∧ RowsAt H' xs (bfsAt n j).1 ∧ H' d = some (.dK (kvOf (bfsAt n j).2)) ∧
      ((due = none ∧ bfsRes (okM ws lo hi) (17 - j) (bfsAt n j) = res) ∨ ∃ w, due = some w ∧ res = some w), ⟨17, 0, R, _, none, _, _, _, _, _, rfl, by decide, rfl, k4, f2, r0, f1, .inl ⟨rfl, hres⟩⟩, ?_⟩
  clear f1 f2 f3 r0 hH4 k4 hR kR kd nRd nTR e1 H4 y12 y13 y14 y15 y16
  rintro m σ H4 ⟨j, R, xs, due, y12, y13, y14, y15, y16, hjm, hj16, rfl, k4, fR, fr, fd, hdue⟩
  obtain ⟨gr, lr, lk⟩ := bfs_fact n h5 j hj16
  refine ⟨_, rfl, Nat.zero_le _, fun p0 hp0 => ⟨.list ((bfsAt n j).1.map dRow), .list [], .lst (SqL.is ((Keep.new hp0).lst fR)) (fr.mono (Keep.new hp0).t).dps, .lst (SqL.is upd_same) .nil, shaped_rows gr, rfl, _, rfl, ?_⟩⟩
  rw [eqv_nil]
  have k5 : Keep H4 (upd H4 p0 (.lst [])) := Keep.new hp0
  have k45 := k4.trans k5
  have fR5 := k5.lst fR
  have fr5 := fr.mono k5.t
  have fd5 := k5.dK fd
  generalize upd H4 p0 (.lst []) = H5 at *
  clear fR fr fd k5 k4 hp0
  have fin : res = due → t4 { nx := fun _ H' => Q .non H', rt := Q } [y0, some (.ref r), some (v), some (.int (n : Nat)), some (.ref T), y5, y6, some (x), some (y), some (.ref R), some (.ref d), some (resV due), y12, y13, y14, y15, y16, y17, y18, y19, y20, y21, y22, y23, y24] H5 := fun e => by
    have q := h4' n ws g H0 H5 r T v x y lo hi y0 y5 y6 (some (.ref R)) (some (.ref d)) y12 y13 y14 y15 y16 y17 y18 y19 y20 y21 y22 y23 y24 (L.on k45) (hx.mono k45.t) (hy.mono k45.t) l1 l2 b1 b2
    rw [hres, e] at q
    exact q
  by_cases hemp : (bfsAt n j).1 = []
  · rw [decide_eq_true hemp]
    refine iteF (iteF (fin ?_))
    rcases hdue with ⟨e, e2⟩ | ⟨w, e, e2⟩
    · rw [← e2, bfs_nil hemp, e]
    · rw [e, e2]
  rw [decide_eq_false hemp]
  refine iteT ⟨_, rfl, rfl, _, rfl, ?_⟩
  rcases hdue with ⟨e, hdue⟩ | ⟨w, e, e2⟩
  case inr =>
    subst e
    exact ite2 (fun z => absurd (of_decide_eq_true z) (fun y => by cases y)) fun _ => fin e2
  subst e
  clear fin
  have hj16' : j < 16 := by
    refine Nat.lt_of_not_le fun hge => hemp ?_
    have : j = 16 := by omega
    subst this
    exact bfs_end n h5 h1
  refine ite2 (fun _ => ?_) (fun z => absurd (decide_eq_true rfl) z)
  refine ⟨fun σ' H' => ∃ (R : Addr) (xs : List V) (due : Option (List Nat)) (y12 y13 y14 y15 y16 : Option V), σ' = [y0, some (.ref r), some (v), some (.int (n : Nat)), some (.ref T), y5, y6, some (x), some (y), some (.ref R), some (.ref d), some (resV due), y12, y13, y14, y15, y16, y17, y18, y19, y20, y21, y22, y23, y24] ∧ Keep H H' ∧ H' R = some (.lst xs) ∧ RowsAt H' xs (bfsAt n (j + 1)).1 ∧ H' d = some (.dK (kvOf (bfsAt n (j + 1)).2)) ∧
      ((due = none ∧ bfsRes (okM ws lo hi) (17 - (j + 1)) (bfsAt n (j + 1)) = res) ∨ ∃ w, due = some w ∧ res = some w), fun σ' H' ⟨R, xs, due, y12, y13, y14, y15, y16, hN⟩ => ⟨m - 1, by omega, j + 1, R, xs, due, y12, y13, y14, y15, y16, by omega, by omega, hN⟩, ?_⟩
  have unf := bfs_one (ok := okM ws lo hi) (f := 17 - (j + 1)) hemp
  rw [show 17 - (j + 1) + 1 = 17 - j by omega, hdue] at unf
  have hnx : bfsAt n (j + 1) = bfsNext (bfsAt n j) := rfl
  rw [hnx]
  generalize hs : bfsAt n j = st0 at *
  obtain ⟨rows, known⟩ := st0
  dsimp only at *
  refine ⟨Nat.zero_le _, fun M hM => ?_⟩
  have M0 : H M = none := k45.free hM
  have nRM : R ≠ M := ne_of_none fR5 hM
  have ndM : d ≠ M := ne_of_none fd5 hM
  refine ⟨_, rfl, R, rfl, ⟨xs, SqL.is (by rw [upd_ne nRM]; exact fR5)⟩, for_it (walk_list (xs := xs)) (fun i σ H' => ∃ (y13 y14 y15 y16 : Option V), σ = [y0, some (.ref r), some (v), some (.int (n : Nat)), some (.ref T), y5, y6, some (x), some (y), some (.ref R), some (.ref d), some (resV (findIn (okM ws lo hi) (rows.take i))), some (.ref M), y13, y14, y15, y16, y17, y18, y19, y20, y21, y22, y23, y24] ∧ BfsAt H H' d M ((rows.take i).foldl bfsItem (known, [])) ∧
      H' R = some (.lst xs) ∧ RowsAt H' xs rows)
    ⟨y13, y14, y15, y16, rfl, ⟨k45.newT hM, by rw [upd_ne ndM]; exact fd5, ⟨[], upd_same, RowsAt.nil⟩, by show known.length ≤ 200; omega, Nat.zero_le _⟩, by rw [upd_ne nRM]; exact fR5, fr5.mono (Keep.new hM).t⟩
    (fun i σ H' _ ⟨_, _, _, _, _, _, hR', _⟩ => SqL.is hR') ?_ ?_⟩
  · rintro i z σ H5' H6 hil ⟨z13, z14, z15, z16, rfl, bs, hR5, hr5⟩ ⟨rfl, hz⟩
    have hir : i < rows.length := by rw [← fr5.1]; exact hil
    have hri : rows[i]? = some rows[i] := List.getElem?_eq_getElem hir
    obtain ⟨t, ht, hT6⟩ := hr5.2 i _ hri
    rw [hz] at ht
    cases ht
    have gi := List.all_eq_true.mp gr _ (List.getElem_mem hir)
    unfold goodRow at gi
    simp only [Bool.and_eq_true, decide_eq_true_eq] at gi
    obtain ⟨⟨⟨gm, gw⟩, _⟩, _⟩ := gi
    have hlen := mems_len n h5 _ gm
    have lens := bfsRow_len (rows.take i) (known, [])
    have ltk : (rows.take i).length ≤ 32 := by rw [List.length_take]; omega
    have l0 : ((known, []) : Bst).1.length = known.length := rfl
    have l00 : ((known, []) : Bst).2.length = 0 := rfl
    have step := foldl_take bfsItem hri (known, [])
    have fsuc := find_succ (ok := okM ws lo hi) hri
    generalize hst : (rows.take i).foldl bfsItem (known, []) = st at *
    generalize hrow : rows[i] = row at *
    obtain ⟨m, wd⟩ := row
    dsimp only at *
    refine ⟨t, _, rfl, SqT.is hT6, rfl, _, _, rfl, _, _, rfl, rfl, ?_⟩
    have L6 := L.on bs.keep
    obtain ⟨u, hu1, hu7⟩ := L6.tab.get gm
    have bdo : Bd 1000 (outL ws m) := (outL_bd g m).mono (by decide)
    have hx6 := hx.mono bs.keep.t
    have hy6 := hy.mono bs.keep.t
    -- the two letters of the row
    have letters : ∀ dd, findIn (okM ws lo hi) (rows.take (i + 1)) = dd → tFor (iStr (tC (.str (Str.ofString "du")))) (gName 15) (tSeq (tAsg (tCall spStep [] E0 (tCons (tVar 13) (tCons (tVar 15) tNil))) (gName 16))
        (tIfS (tB (tDNotIn (tVar 16) (tVar 10))) (tSeq (sDPut (tVar 10) (tVar 16) (tC (.bl true))) (tDrop (tBM K "list" rAppend (tVar 12) (tCons (tTup (tCons (tVar 16) (tCons (tOp (fun x y H Q => ∃ i j, x = .str i ∧ y = .str j ∧ i.length + j.length ≤ sizeLine ∧ Q (.str (i ++ j)) H) (tVar 14) (tVar 15)) tNil))) tNil)))) tNext))
        { nx := fun σ H' => ∃ (y13 y14 y15 y16 : Option V), σ = [y0, some (.ref r), some (v), some (.int (n : Nat)), some (.ref T), y5, y6, some (x), some (y), some (.ref R), some (.ref d), some (resV (findIn (okM ws lo hi) (rows.take (i + 1)))), some (.ref M), y13, y14, y15, y16, y17, y18, y19, y20, y21, y22, y23, y24] ∧ BfsAt H H' d M ((rows.take (i + 1)).foldl bfsItem (known, [])) ∧ H' R = some (.lst xs) ∧ RowsAt H' xs rows,
          rt := Q } [y0, some (.ref r), some v, some (.int (n : Nat)), some (.ref T), y5, y6, some x, some y, some (.ref R), some (.ref d), some (resV dd), some (.ref M), some (.str (S m)), some (.str (S wd)), z15, z16, y17, y18, y19, y20, y21, y22, y23, y24] H6 := by
      intro dd hdd
      subst hdd
      rw [cdu]
      refine ⟨_, rfl, for_it walk_str (fun j2 σ H' => ∃ (y15 y16 : Option V), σ = [y0, some (.ref r), some (v), some (.int (n : Nat)), some (.ref T), y5, y6, some (x), some (y), some (.ref R), some (.ref d), some (resV (findIn (okM ws lo hi) (rows.take (i + 1)))), some (.ref M), some (.str (S m)), some (.str (S wd)), y15, y16, y17, y18, y19, y20, y21, y22, y23, y24] ∧ BfsAt H H' d M (([false, true].take j2).foldl (bfsU m wd) st) ∧ H' R = some (.lst xs) ∧ RowsAt H' xs rows)
        ⟨z15, z16, rfl, bs, hR5, hr5⟩ (fun _ _ _ _ _ => trivial) ?_ ?_⟩
      · rintro j2 l σ H8 H9 hj2 ⟨w9, w10, rfl, bs8, hR8, hr8⟩ ⟨rfl, cc, hcc, rfl⟩
        rw [S_at] at hcc
        rw [S_size] at hj2
        have hj2' : j2 < 2 := hj2
        obtain ⟨up, hup1, hup2⟩ := du_at hj2'
        rw [hup1] at hcc
        cases hcc
        have stepU := foldl_take (bfsU m wd) hup2 st
        have few8 : (([false, true].take j2).foldl (bfsU m wd) st).1.length ≤ 100 ∧ (([false, true].take j2).foldl (bfsU m wd) st).2.length ≤ 100 := by
          have a := bfsU_len m wd st false
          match j2, hj2' with
          | 0, _ =>
            show st.1.length ≤ 100 ∧ st.2.length ≤ 100
            omega
          | 1, _ =>
            show (bfsU m wd st false).1.length ≤ 100 ∧ (bfsU m wd st false).2.length ≤ 100
            omega
        rw [stepU]
        generalize ([false, true].take j2).foldl (bfsU m wd) st = su at *
        refine ⟨_, rfl, _, rfl, n, m, up, rfl, h5, gm, fun H10 k10 => ?_⟩
        obtain ⟨ms, hm1, hm2⟩ := bs8.ml
        have bs10 : BfsAt H H10 d M su := ⟨bs8.keep.trans k10, k10.dK bs8.dk, ⟨ms, k10.lst hm1, hm2.mono k10.t⟩, bs8.few⟩
        have hR10 := k10.lst hR8
        have hr10 := hr8.mono k10.t
        have hm10 := k10.lst hm1
        have hmr10 := hm2.mono k10.t
        refine ⟨_, rfl, _, rfl, d, _, rfl, DGet.k (k := Sum.inr (S (stepL up m))) bs10.dk, _, rfl, ?_⟩
        rw [kvOf_get]
        by_cases hin : stepL up m ∈ su.1
        · rw [if_pos hin]
          refine iteF ⟨_, _, rfl, ?_, hR10, hr10⟩
          unfold bfsU
          rw [if_pos hin]
          exact bs10
        · rw [if_neg hin]
          refine iteT ⟨_, rfl, _, rfl, d, _, rfl, DPut.k (k := Sum.inr (S (stepL up m))) bs10.dk (by rw [kvOf_len]; exact small1000 (by omega)), ?_⟩
          rw [kvOf_snoc _ _ hin]
          have nMd : M ≠ d := ne_of hm10 bs10.dk (by intro z; cases z)
          refine ⟨_, rfl, .inl ⟨rfl, _, SqL.is (by rw [upd_ne nMd]; exact hm10)⟩, _, rfl, _, rfl, _, rfl, _, _, rfl, rfl, ?_, by show 2 ≤ sizeLine; decide, fun T' hT' => ?_⟩
          · show (S wd).length + (S [lett up]).length ≤ sizeLine
            rw [S_len, S_len]
            exact small9 (by show wd.length + 1 ≤ 1000; omega)
          have nMT : M ≠ T' := ne_of_none (by rw [upd_ne nMd]; exact hm10) hT'
          have eapp : (S wd ++ Str.mk #[lett up] : Str) = S (wd ++ [lett up]) := S_app wd [lett up]
          have hput := bs10.put hd0 M0 hin few8 hm10 hmr10 hT' (m := m) (w := wd) (u := up)
          rw [eapp]
          refine ⟨M, ms, .ref T', rfl, rfl, ?_, ?_, some (.str ⟨#[lett up]⟩), some (.str (S (stepL up m))), rfl, hput, ?_, ?_⟩
          · rw [upd_ne nMT, upd_ne nMd]
            exact hm10
          · rw [hmr10.1]
            exact small1000 (by omega)
          · have nRd : R ≠ d := ne_of hR10 bs10.dk (by intro z; cases z)
            have hRT : R ≠ T' := ne_of_none (by rw [upd_ne nRd]; exact hR10) hT'
            rw [upd_ne nRM, upd_ne hRT, upd_ne nRd]
            exact hR10
          · have kt : KeepT H10 (upd (upd (upd H10 d (.dK (kvOf (su.1 ++ [stepL up m])))) T' (.tup [.str (S (stepL up m)), .str (S (wd ++ [lett up]))])) M (.lst (ms ++ [.ref T']))) :=
              (((KeepT.refl H10).dK bs10.dk).new hT').lst (by rw [upd_ne nMT, upd_ne nMd]; exact hm10)
            exact hr10.mono kt
      · rintro σ H8 ⟨w9, w10, rfl, bs8, hR8, hr8⟩
        refine ⟨_, _, _, _, rfl, ?_, hR8, hr8⟩
        rw [step]
        exact bs8
    refine ⟨_, rfl, rfl, _, rfl, ?_⟩
    cases hdu : findIn (okM ws lo hi) (rows.take i) with
    | some w0 =>
      rw [hdu] at fsuc
      exact ite2 (fun z => absurd (of_decide_eq_true z) (fun y => by cases y)) fun _ => iteF (letters (some w0) fsuc)
    | none =>
      rw [hdu] at fsuc
      refine ite2 (fun _ => ?_) (fun z => absurd (decide_eq_true rfl) z)
      refine ⟨_, rfl, _, rfl, T, u, rfl, hu1, _, rfl, u, x, _, _, rfl, hu7, hx6, bdo, b1, _, rfl, ?_⟩
      by_cases ha : rless (outL ws m) lo = true
      · rw [ha]
        refine iteF (iteF (letters none ?_))
        rw [fsuc, if_neg]
        unfold okM
        rw [ha]
        exact Bool.false_ne_true
      · have ha' : rless (outL ws m) lo = false := Bool.eq_false_iff.mpr ha
        rw [ha']
        refine iteT ⟨_, rfl, _, rfl, _, rfl, T, u, rfl, hu1, y, u, _, _, rfl, hy6, hu7, b2, bdo, _, rfl, ?_⟩
        by_cases hb2 : rless hi (outL ws m) = true
        · rw [hb2]
          refine iteF (letters none ?_)
          rw [fsuc, if_neg]
          unfold okM
          rw [ha', hb2]
          exact Bool.false_ne_true
        · have hb2' : rless hi (outL ws m) = false := Bool.eq_false_iff.mpr hb2
          rw [hb2']
          have hok : okM ws lo hi m = true := by
            unfold okM
            rw [ha', hb2']
            rfl
          rw [if_pos hok] at fsuc
          exact iteT ⟨_, rfl, letters (some wd) fsuc⟩
  · rintro σ H6 ⟨z13, z14, z15, z16, rfl, bs, hR6, hr6⟩
    rw [fr5.1, List.take_length] at *
    obtain ⟨ms, hm1, hm2⟩ := bs.ml
    refine ⟨_, rfl, M, ms, findIn (okM ws lo hi) rows, _, z13, z14, z15, z16, rfl, bs.keep, hm1, hm2, bs.dk, ?_⟩
    cases hfi : findIn (okM ws lo hi) rows with
    | some w0 =>
      rw [hfi] at unf
      exact .inr ⟨w0, rfl, unf⟩
    | none =>
      rw [hfi] at unf
      exact .inl ⟨rfl, unf.symm⟩
end
end R31
namespace R31
open PySem PySem.Spec PyProof.Rows L2
theorem Rts.of_mem {H : Hp} {xs : List V} {l : List (Int × Int)} (h : Rts H xs l) {x : V} (hx : x ∈ xs) : ∃ q ∈ l, Rt H x q := by
  obtain ⟨i, hi⟩ := List.getElem?_of_mem hx
  have hl : i < l.length := by
    rw [← h.1]
    exact (List.getElem?_eq_some_iff.mp hi).1
  obtain ⟨v, e, r⟩ := h.2 i _ (List.getElem?_eq_getElem hl)
  rw [hi] at e
  cases e
  exact ⟨_, List.getElem_mem hl, r⟩
section
variable {P : Program} {w : World} {K : PySem.W.Frag} {mg : Str → Option Value} {base : Heap} {f c Pr Pi : Addr} {cdv : Value} {A : Around} {outer : List Env} {s : Shared} {H00 : Hp} {E : XK} {Q : VK}
theorem law2 (Z : Zs mg) (hr : RoomL f cdv A s)
    (C__law_all : Callee P w K mg base 1 "_law_all" ["_law_span"] spAll) (C__law_pick : Callee P w K mg base 2 "_law_pick" ["_law_row", "_law_things"] (spPick K)) (C__law_taken : Callee P w K mg base 1 "_law_taken" ["_law_row", "_law_many"] (spTaken K))
    (C__law_plus : Callee P w K mg base 2 "_law_plus" ["_law_one", "_law_other"] spPlus)
    (h3' : ∃ t, PSs (XL P w K mg base f cdv A outer s H00 E) ((defBody s_law).drop 7) t ∧ ∀ (n : Nat) (ws : List Wt), GoodB n ws → ∀ (H0 H : Hp) (r T : Addr) (v x y : V) (lo hi : Int × Int) y0 y5 y6 y9 y10 y11 y12 y13 y14 y15 y16 y17 y18 y19 y20 y21 y22 y23 y24, LW K Pr Pi H0 H r T v n ws → Rt H x lo → Rt H y hi → Low lo → Low hi → Bd 1000 lo → Bd 1000 hi →
      t { nx := fun _ H' => Q .non H', rt := Q } [y0, some (.ref r), some (v), some (.int (n : Nat)), some (.ref T), y5, y6, some (x), some (y), y9, y10, y11, y12, y13, y14, y15, y16, y17, y18, y19, y20, y21, y22, y23, y24] H) :
    ∃ t, PSs (XL P w K mg base f cdv A outer s H00 E) ((defBody s_law).drop 4) t ∧ ∀ (n : Nat) (ws : List Wt), GoodB n ws → ∀ (H0 H : Hp) (r T : Addr) (v : V) y0 y5 y6 y7 y8 y9 y10 y11 y12 y13 y14 y15 y16 y17 y18 y19 y20 y21 y22 y23 y24, LW K Pr Pi H0 H r T v n ws →
      t { nx := fun _ H' => Q .non H', rt := Q } [y0, some (.ref r), some (v), some (.int (n : Nat)), some (.ref T), y5, y6, y7, y8, y9, y10, y11, y12, y13, y14, y15, y16, y17, y18, y19, y20, y21, y22, y23, y24] H := by
  obtain ⟨t3, P3, h3'⟩ := h3'
  have nd := sc_law.nd
  have hu := hu_of hr
  refine ⟨_, (pss_cons (ps_par (i := 5) (j := 6) (by rfl) nd rfl rfl (by decide) rfl rfl (pa_cons (pe_cl C__law_pick (hr.mono (by decide)) (by rfl) (pa_cons (pv 1) (pa_cons (pe_lc (own := [("_law_memory_here", 13)]) (g := gName 13) (tt := tYes) (by rfl) nd (pi_list (pe_cl C__law_all (hr.mono (by decide)) (by rfl) (pa_cons (pv 3) pa_nil))) (blkOk_by (own := [("_law_memory_here", 13)]) (N := nm_law) (sc := defScope s_law) (by decide +kernel)) (fun _ _ _ _ _ => (pg_name (i := 13) nd rfl (Or.inl rfl))) (fun _ _ _ _ _ => pts_nil) (fun _ _ _ _ _ => (pe_dget hu (pv 4) (pv 13) (fun _ _ => rfl)))) pa_nil))) (pa_cons (pe_cl C__law_pick (hr.mono (by decide)) (by rfl) (pa_cons (pv 1) (pa_cons (pe_lst (pa_cons (pe_tup (pa_cons pe_int (pa_cons pe_int pa_nil))) (pa_cons (pe_tup (pa_cons pe_int (pa_cons pe_int pa_nil))) (pa_cons (pe_tup (pa_cons pe_int (pa_cons pe_int pa_nil))) pa_nil)))) pa_nil))) pa_nil)) (by rfl))
    (pss_cons (ps_par (i := 7) (j := 8) (by rfl) nd rfl rfl (by decide) rfl rfl (pa_cons (pe_cl C__law_plus (hr.mono (by decide)) (by rfl) (pa_cons (pv 5) (pa_cons (pe_tup (pa_cons (pe_op op_sub pe_int (pe_ix (show IxR _ (rIxT K) from ix_tup) (pv 6) pe_int (fun _ _ => rfl))) (pa_cons (pe_ix (show IxR _ (rIxT K) from ix_tup) (pv 6) pe_int (fun _ _ => rfl)) pa_nil))) pa_nil))) (pa_cons (pe_cl C__law_plus (hr.mono (by decide)) (by rfl) (pa_cons (pv 5) (pa_cons (pv 6) pa_nil))) pa_nil)) (by rfl))
    (pss_cons (ps_if (pt_cmpR op_eq (pe_cl C__law_taken (hr.mono (by decide)) (by rfl) (pa_cons (pv 1) (pa_cons pe_int pa_nil))) pe_int (nomark _)) (pss_one (ps_par (i := 7) (j := 8) (by rfl) nd rfl rfl (by decide) rfl rfl (pa_cons (pe_cl C__law_plus (hr.mono (by decide)) (by rfl) (pa_cons (pv 5) (pa_cons (pe_tup (pa_cons pe_int (pa_cons pe_int pa_nil))) pa_nil))) (pa_cons (pe_cl C__law_plus (hr.mono (by decide)) (by rfl) (pa_cons (pv 5) (pa_cons (pe_tup (pa_cons pe_int (pa_cons pe_int pa_nil))) pa_nil))) pa_nil)) (by rfl))) pss_nil)
    P3))), ?_⟩
  intro n ws g H0 H r T v y0 y5 y6 y7 y8 y9 y10 y11 y12 y13 y14 y15 y16 y17 y18 y19 y20 y21 y22 y23 y24 L
  have h5 := g.hi
  have lenm := mems_count n h5
  -- the goal
  refine ⟨_, rfl, _, rfl, n, rfl, h5, fun q H1 k1 hq => ⟨q, rfl, ⟨_, SqL.is hq⟩, fun D0 hD => ?_⟩⟩
  refine lc_it (walk_list (xs := memV (mems n))) (fun i H' => ∃ acc, Keep H1 H' ∧ H' D0 = some (.lst acc) ∧ Rts H' acc (((mems n).take i).map (outL ws))) ⟨[], Keep.new hD, upd_same, Rts.nil⟩ (fun i H' _ ⟨_, k', _⟩ => SqL.is (k'.lst hq)) ?_ ?_
  · rintro i x H2 H3 hi ⟨acc, k2, hL, hR⟩ ⟨rfl, hx⟩
    obtain ⟨hil, rfl⟩ := memV_at hx
    have hm : (mems n)[i]? = some (mems n)[i] := List.getElem?_eq_getElem hil
    obtain ⟨u, hu1, hu2⟩ := (L.on (k1.trans k2)).tab.get (List.getElem_mem hil)
    refine ⟨rfl, _, rfl, _, rfl, T, u, rfl, hu1, acc, hL, small1000 (by rw [hR.1, List.length_map, List.length_take]; omega), acc ++ [u], k2.mut hD, upd_same, ?_⟩
    rw [take_snoc hm, List.map_append]
    exact (hR.snoc hu2).mono ((KeepT.refl _).lst hL)
  rintro H2 ⟨acc, k2, hL, hR⟩
  rw [memV_len, List.take_length] at hR
  have L2' := L.on (k1.trans k2)
  have neD : D0 ≠ r := (L.on k1).row.ne hD
  have posm : 0 < (mems n).length := (List.getElem?_eq_some_iff.mp (zero_first n h5)).1
  have lena : acc.length = (mems n).length := by rw [hR.1, List.length_map]
  refine ⟨H0, r, _, rfl, L2'.row, .inl ⟨D0, acc, rfl, hL, neD, by omega, by omega, fun gv H3 hgv kb3 R3 => ?_⟩⟩
  obtain ⟨gq, hgq, hgr⟩ := hR.of_mem hgv
  have L3 := L2'.but kb3 R3
  have hg3 := hgr.mono (L2'.row.kt kb3)
  obtain ⟨mm, _, egq⟩ := List.mem_map.mp hgq
  have gb : Bd 106 gq := by
    rw [← egq]
    exact outL_bd g mm
  clear hgq hgr hgv hR hL kb3 R3 L2' k1 k2 L egq
  -- the size
  refine ⟨_, rfl, by show 2 ≤ sizeLine; decide, fun A1 hA1 => ⟨by show 2 ≤ sizeLine; decide, fun A2 hA2 => ⟨by show 2 ≤ sizeLine; decide, fun A3 hA3 => ⟨by show 3 ≤ sizeLine; decide, fun l hl => ?_⟩⟩⟩⟩
  have ka := Keep.new (H := H3) (o := .tup [.int 0, .int 1]) hA1
  have kb := ka.newT (o := .tup [.int 1, .int 2]) hA2
  have kc := kb.newT (o := .tup [.int 3, .int 1]) hA3
  have kd := kc.newT (o := .lst [.ref A1, .ref A2, .ref A3]) hl
  have e3 : upd (upd (upd (upd H3 A1 (.tup [.int 0, .int 1])) A2 (.tup [.int 1, .int 2])) A3 (.tup [.int 3, .int 1])) l (.lst [.ref A1, .ref A2, .ref A3]) A3 = some (.tup [.int 3, .int 1]) := (Keep.new hl).tup upd_same
  have e2 : upd (upd (upd (upd H3 A1 (.tup [.int 0, .int 1])) A2 (.tup [.int 1, .int 2])) A3 (.tup [.int 3, .int 1])) l (.lst [.ref A1, .ref A2, .ref A3]) A2 = some (.tup [.int 1, .int 2]) := ((Keep.new hA3).newT hl).tup upd_same
  have e1 : upd (upd (upd (upd H3 A1 (.tup [.int 0, .int 1])) A2 (.tup [.int 1, .int 2])) A3 (.tup [.int 3, .int 1])) l (.lst [.ref A1, .ref A2, .ref A3]) A1 = some (.tup [.int 0, .int 1]) := (((Keep.new hA2).newT hA3).newT hl).tup upd_same
  have L4 := L3.on kd
  have el : upd (upd (upd (upd H3 A1 (.tup [.int 0, .int 1])) A2 (.tup [.int 1, .int 2])) A3 (.tup [.int 3, .int 1])) l (.lst [.ref A1, .ref A2, .ref A3]) l = some (.lst [.ref A1, .ref A2, .ref A3]) := upd_same
  have nel : l ≠ r := (L3.on kc).row.ne hl
  have hg4 := hg3.mono kd.t
  generalize upd (upd (upd (upd H3 A1 (.tup [.int 0, .int 1])) A2 (.tup [.int 1, .int 2])) A3 (.tup [.int 3, .int 1])) l (.lst [.ref A1, .ref A2, .ref A3]) = H4 at *
  refine ⟨H0, r, _, rfl, L4.row, .inl ⟨l, _, rfl, el, nel, by show 0 < 3; decide, by show 3 ≤ 100; decide, fun sv H5 hsv kb5 R5 => ⟨_, _, rfl, ?_⟩⟩⟩
  have hsz : ∃ sq : Int × Int, Rt H4 sv sq ∧ 0 < sq.2 ∧ sq.2 ≤ 2 ∧ 0 ≤ sq.1 ∧ sq.1 ≤ 3 := by
    simp only [List.mem_cons, List.not_mem_nil, or_false] at hsv
    rcases hsv with z | z | z
    · exact ⟨(0, 1), ⟨A1, z, e1⟩, by decide, by decide, by decide, by decide⟩
    · exact ⟨(1, 2), ⟨A2, z, e2⟩, by decide, by decide, by decide, by decide⟩
    · exact ⟨(3, 1), ⟨A3, z, e3⟩, by decide, by decide, by decide, by decide⟩
  obtain ⟨sq, hsr, s1, s2, s3, s4⟩ := hsz
  have L5 := L4.but kb5 R5
  have hg5 := hg4.mono (L4.row.kt kb5)
  have hs5 := hsr.mono (L4.row.kt kb5)
  clear hsr hsv kb5 R5 hg4 nel el L4 e1 e2 e3 ka kb kc kd hA1 hA2 hA3 hl hg3 L3
  have sb : Bd 2 sq := ⟨by show sq.1.natAbs < 4; omega, s1, by show sq.2.natAbs < 4; omega⟩
  have sb' : Bd 2 (0 - sq.1, sq.2) := ⟨by show (0 - sq.1).natAbs < 4; omega, s1, by show sq.2.natAbs < 4; omega⟩
  obtain ⟨p6, rfl, hp6⟩ := id hs5
  refine ⟨_, rfl, _, rfl, p6, _, 0, _, rfl, rfl, SqT.is hp6, rfl, _, _, rfl, rfl, _, rfl, p6, _, 1, _, rfl, rfl, SqT.is hp6, rfl, by show 2 ≤ sizeLine; decide, fun T1 hT1 => ?_⟩
  have kT : Keep H5 (upd H5 T1 (.tup [.int (0 - sq.1), .int sq.2])) := Keep.new hT1
  refine ⟨gv, .ref T1, gq, (0 - sq.1, sq.2), rfl, hg5.mono kT.t, ⟨T1, rfl, upd_same⟩, gb.mono (by decide), sb'.mono (by decide), fun lo H6 k6 hlo => ?_⟩
  have k56 := kT.trans k6
  refine ⟨_, rfl, _, rfl, gv, .ref p6, gq, sq, rfl, hg5.mono k56.t, hs5.mono k56.t, gb.mono (by decide), sb.mono (by decide), fun hi H7 k7 hhi => ⟨_, _, rfl, ?_⟩⟩
  have L7 := L5.on (k56.trans k7)
  have hg7 := hg5.mono (k56.trans k7).t
  have hlo7 := hlo.mono k7.t
  refine ⟨_, rfl, H0, r, 4, rfl, L7.row, by decide, by decide, fun v4 H8 v0 v1 kb8 R8 => ⟨rfl, _, rfl, ite2 (fun _ => ?_) (fun _ => ?_)⟩⟩
  · have L8 := L7.but kb8 R8
    have hg8 := hg7.mono (L7.row.kt kb8)
    refine ⟨_, rfl, by show 2 ≤ sizeLine; decide, fun T2 hT2 => ?_⟩
    have kT2 : Keep H8 (upd H8 T2 (.tup [.int 1, .int 7])) := Keep.new hT2
    have bA : Bd 3 ((1, 7) : Int × Int) := ⟨by decide, by decide, by decide⟩
    have bB : Bd 3 ((1, 6) : Int × Int) := ⟨by decide, by decide, by decide⟩
    refine ⟨gv, .ref T2, gq, (1, 7), rfl, hg8.mono kT2.t, ⟨T2, rfl, upd_same⟩, gb.mono (by decide), bA.mono (by decide), fun lo2 H9 k9 hlo2 => ?_⟩
    have k89 := kT2.trans k9
    refine ⟨_, rfl, by show 2 ≤ sizeLine; decide, fun T3 hT3 => ?_⟩
    have kT3 : Keep H9 (upd H9 T3 (.tup [.int 1, .int 6])) := Keep.new hT3
    refine ⟨gv, .ref T3, gq, (1, 6), rfl, hg8.mono (k89.trans kT3).t, ⟨T3, rfl, upd_same⟩, gb.mono (by decide), bB.mono (by decide), fun hi2 H10 k10 hhi2 => ⟨_, _, rfl, ?_⟩⟩
    have k910 := kT3.trans k10
    exact h3' n ws g H0 H10 r T v lo2 hi2 _ _ _ _ _ _ _ _ _ _ _ _ _ _ _ _ _ _ _ _ _ (L8.on (k89.trans k910)) (hlo2.mono k910.t) hhi2 (rplus_low gb.2.1 (by decide)) (rplus_low gb.2.1 (by decide)) ((rplus_bd gb bA).mono (by decide)) ((rplus_bd gb bB).mono (by decide))
  · have kt := L7.row.kt kb8
    exact h3' n ws g H0 H8 r T v lo hi _ _ _ _ _ _ _ _ _ _ _ _ _ _ _ _ _ _ _ _ _ (L7.but kb8 R8) (hlo7.mono kt) (hhi.mono kt) (rplus_low gb.2.1 s1) (rplus_low gb.2.1 s1) ((rplus_bd gb sb').mono (by decide)) ((rplus_bd gb sb).mono (by decide))
end
end R31
namespace R31
open PySem PySem.Spec PyProof.Rows L2
def spLaw (K : PySem.W.Frag) (Pr Pi : Addr) : Sp := fun vs H Q _ => ∃ (a : Addr) (ns : List Int), vs = [.ref a] ∧ SqL K H a (ns.map V.int) ∧ ns.length ≤ 63 ∧ GxR.TabG H Pr ∧ GxR.TabG H Pi ∧ ∀ H', Q (.bl true) H'
/-- pairs (memory, output) under way -/
def Prs (H : Hp) (ps : List Addr) (kvs : List (Key × V)) : Prop := ps.length = kvs.length ∧ ∀ (i : Nat) (p : Addr) (kv : Key × V), ps[i]? = some p → kvs[i]? = some kv → H p = some (.tup [kV kv.1, kv.2])
theorem Prs.mono {H H' : Hp} {ps : List Addr} {kvs : List (Key × V)} (k : KeepT H H') (h : Prs H ps kvs) : Prs H' ps kvs := ⟨h.1, fun i p kv a b => k _ _ (h.2 i p kv a b)⟩
theorem Prs.paired {K : PySem.W.Frag} {H : Hp} : ∀ {ps : List Addr} {kvs : List (Key × V)}, Prs H ps kvs → Paired (fun p kv => SqT K H p [kV kv.1, kv.2]) ps kvs
  | [], [], _ => .nil
  | [], _ :: _, h => absurd h.1 (by simp)
  | _ :: _, [], h => absurd h.1 (by simp)
  | p :: ps, kv :: kvs, h => .cons (SqT.is (h.2 0 p kv rfl rfl)) (Prs.paired ⟨Nat.succ.inj h.1, fun i q kw a b => h.2 (i + 1) q kw a b⟩)
theorem Prs.snoc {H : Hp} {ps : List Addr} {kvs : List (Key × V)} {p : Addr} {kv : Key × V} (h : Prs H ps kvs) (hp : H p = some (.tup [kV kv.1, kv.2])) : Prs H (ps ++ [p]) (kvs ++ [kv]) := by
  refine ⟨by rw [List.length_append, List.length_append, h.1]; rfl, fun i q kw e1 e2 => ?_⟩
  have l1 := (List.getElem?_eq_some_iff.mp e1).1
  rw [List.length_append, List.length_singleton] at l1
  by_cases hi : i < ps.length
  · rw [List.getElem?_append_left hi] at e1
    rw [List.getElem?_append_left (by rw [← h.1]; exact hi)] at e2
    exact h.2 i q kw e1 e2
  · have e : i = ps.length := by omega
    rw [List.getElem?_append_right (by omega), e, Nat.sub_self] at e1
    rw [List.getElem?_append_right (by have := h.1; omega), e, h.1, Nat.sub_self] at e2
    cases e1
    cases e2
    exact hp
section
variable {P : Program} {w : World} {K : PySem.W.Frag} {mg : Str → Option Value} {base : Heap} {f c Pr Pi : Addr} {fd : FuncData}
theorem ok_law (D : Def K mg "law" s_law ["_law_script"] f fd) (Z : Zs mg)
    (C__law_bank : Callee P w K mg base 4 "_law_bank" ["_law_row", "_law_most"] (spBank K)) (C__law_output : Callee P w K mg base 4 "_law_output" ["_law_bank_here", "_law_memory_here"] spOutput) (C__law_all : Callee P w K mg base 1 "_law_all" ["_law_span"] spAll)
    (C__law_pick : Callee P w K mg base 2 "_law_pick" ["_law_row", "_law_things"] (spPick K)) (C__law_taken : Callee P w K mg base 1 "_law_taken" ["_law_row", "_law_many"] (spTaken K)) (C__law_plus : Callee P w K mg base 2 "_law_plus" ["_law_one", "_law_other"] spPlus)
    (C__law_less : Callee P w K mg base 1 "_law_less" ["_law_one", "_law_other"] spLess) (C__law_step : Callee P w K mg base 1 "_law_step" ["_law_memory_here", "_law_letter"] spStep)
    (C_input_to : Callee P w K mg base 5 "input_to" ["bank", "least", "most"] (spInputTo Pr)) (C_outputs_reached : Callee P w K mg base 5 "outputs_reached" ["bank"] (spReached Pr)) (C__law_alike : Callee P w K mg base 4 "_law_alike" ["_law_found", "_law_due"] (spAlike 4))
    (C_extremes : Callee P w K mg base 5 "extremes" ["bank"] (spExtremes Pr)) (C__law_steps : Callee P w K mg base 3 "_law_steps" ["_law_row"] (spSteps K)) (C__law_behind : Callee P w K mg base 2 "_law_behind" ["_law_memory_here", "_law_steps_here"] spBehind)
    (C_round_outputs : Callee P w K mg base 6 "round_outputs" ["bank", "steps"] (spRound Pr Pi)) : FnOk P w K mg base CX0 7 f fd ["_law_script"] (spLaw K Pr Pi) := by
  refine D.fn.ok sc_law (fun vs H Q E h => ?_) (fun cdv A outer s H vs Q E hr h => ?_)
  · obtain ⟨a, ns, rfl, _⟩ := h
    rfl
  obtain ⟨a, ns, rfl, hS, hl, tr, ti, hQ⟩ := h
  have h6 := law6 (P := P) (w := w) (K := K) (mg := mg) (base := base) (f := f) (Pr := Pr) (Pi := Pi) (cdv := cdv) (A := A) (outer := outer) (s := s) (H00 := H) (E := E) (Q := Q) Z hr C__law_steps C__law_behind C__law_step C__law_alike C_round_outputs hQ
  have h5 := law5 (Pr := Pr) (Pi := Pi) Z hr C__law_all C__law_alike C_extremes h6
  have h4 := law4 (Pr := Pr) (Pi := Pi) Z hr C_input_to C_outputs_reached C__law_less C__law_alike h5
  have h3 := law3 (Pr := Pr) (Pi := Pi) Z hr C__law_less C__law_step h4
  obtain ⟨t2, P2, h2⟩ := law2 (Pr := Pr) (Pi := Pi) Z hr C__law_all C__law_pick C__law_taken C__law_plus h3
  have nd := sc_law.nd
  refine ⟨_, (pss_cons (ps_set (i := 1) nd rfl (Or.inl rfl) (pe_lst (pa_cons (pv 0) (pa_cons pe_int (pa_cons pe_int (pa_cons pe_int pa_nil))))))
    (pss_cons (ps_set (i := 2) nd rfl (Or.inr rfl) (pe_cl C__law_bank (hr.mono (by decide)) (by rfl) (pa_cons (pv 1) (pa_cons pe_int pa_nil))))
    (pss_cons (ps_set (i := 3) nd rfl (Or.inl rfl) (pe_ix (show IxR _ (rIxT K) from ix_tup) (pv 2) pe_int (fun _ _ => rfl)))
    (pss_cons (ps_set (i := 4) nd rfl (Or.inr rfl) (pe_callTy (call_dictP rfl) (by rfl) Z.z_dict (by decide +kernel) (pa_cons (pe_lc (own := [("_law_memory_here", 13)]) (g := gName 13) (tt := tYes) (by rfl) nd (pi_list (pe_cl C__law_all (hr.mono (by decide)) (by rfl) (pa_cons (pv 3) pa_nil))) (blkOk_by (own := [("_law_memory_here", 13)]) (N := nm_law) (sc := defScope s_law) (by decide +kernel)) (fun _ _ _ _ _ => (pg_name (i := 13) nd rfl (Or.inl rfl))) (fun _ _ _ _ _ => pts_nil) (fun _ _ _ _ _ => (pe_tup (pa_cons (pv 13) (pa_cons (pe_cl C__law_output (hr.mono (by decide)) (by rfl) (pa_cons (pv 2) (pa_cons (pv 13) pa_nil))) pa_nil))))) pa_nil)))
    P2)))), ?_⟩
  clear h3 h4 h5 h6 P2
  refine ⟨_, rfl, by show 4 ≤ sizeLine; decide, fun r hrr => ?_⟩
  have kr : Keep H (upd H r (.lst [.ref a, .int 0, .int 5531, .int 0])) := Keep.new hrr
  have R0 : RowAt K H (upd H r (.lst [.ref a, .int 0, .int 5531, .int 0])) r := ⟨kr, hrr, a, ns, 0, 5531, 0, upd_same, hS, hl, by decide, by decide, by decide⟩
  refine ⟨_, rfl, H, r, rfl, R0, fun v n ws H1 g hB kb R1 => ?_⟩
  have h5 := g.hi
  have tr1 := kb.tab upd_same (kr.tab tr)
  have ti1 := kb.tab upd_same (kr.tab ti)
  obtain ⟨b, wt, bx, rfl, hb, hw, hW⟩ := id hB
  refine ⟨_, rfl, b, _, 0, _, rfl, rfl, SqT.is hb, rfl, ?_⟩
  have lenm := mems_count n h5
  refine ⟨_, rfl, n, rfl, h5, fun q H2 k2 hq => ⟨q, rfl, ⟨_, SqL.is hq⟩, fun D0 hD => ?_⟩⟩
  refine lc_it (walk_list (xs := memV (mems n))) (fun i H' => ∃ (ps : List Addr) (kvs : List (Key × V)), Keep H2 H' ∧ H' D0 = some (.lst (ps.map V.ref)) ∧ Prs H' ps kvs ∧ kvs.map (·.1) = ((mems n).take i).map (fun m => (Sum.inr (S m) : Key)) ∧
      ∀ (j : Nat) (m : List Nat) (kv : Key × V), ((mems n).take i)[j]? = some m → kvs[j]? = some kv → Rt H' kv.2 (outL ws m))
    ⟨[], [], Keep.new hD, upd_same, ⟨rfl, fun i p kv e => by simp at e⟩, by rw [List.take_zero]; rfl, fun j m kv e => by simp at e⟩ (fun i H' _ ⟨_, _, k', _⟩ => SqL.is (k'.lst hq)) ?_ ?_
  · rintro i x H3 H4 hi ⟨ps, kvs, k3, hL, hP, hK, hV⟩ ⟨rfl, hx⟩
    obtain ⟨hil, rfl⟩ := memV_at hx
    have hm : (mems n)[i]? = some (mems n)[i] := List.getElem?_eq_getElem hil
    have lenk : kvs.length = i := by
      have z := congrArg List.length hK
      rw [List.length_map, List.length_map, List.length_take] at z
      omega
    refine ⟨rfl, _, rfl, _, rfl, _, rfl, .ref b, n, ws, _, rfl, hB.mono (k2.trans k3).t, g, mems_len n h5 _ (List.getElem_mem hil), fun u H5 k5 hu => ⟨by show 2 ≤ sizeLine; decide, fun T hT => ?_⟩⟩
    have kT : Keep H5 (upd H5 T (.tup [.str (S (mems n)[i]), u])) := Keep.new hT
    have k5T := k5.trans kT
    have hLT := k5T.lst hL
    have kt := (k5T.t).trans ((KeepT.refl (upd H5 T (.tup [.str (S (mems n)[i]), u]))).lst (zs := ps.map V.ref ++ [.ref T]) hLT)
    have ktu := kT.t.trans ((KeepT.refl (upd H5 T (.tup [.str (S (mems n)[i]), u]))).lst (zs := ps.map V.ref ++ [.ref T]) hLT)
    refine ⟨ps.map V.ref, hLT, small1000 (by rw [List.length_map, hP.1]; omega), ps ++ [T], kvs ++ [(Sum.inr (S (mems n)[i]), u)], (k3.trans k5T).mut hD, ?_, ?_, ?_, fun j m kv e1 e2 => ?_⟩
    · rw [upd_same, List.map_append]
      rfl
    · exact (hP.mono k5T.t).snoc upd_same |>.mono ((KeepT.refl _).lst hLT)
    · rw [List.map_append, hK, take_snoc hm, List.map_append]
      rfl
    · rw [take_snoc hm] at e1
      have lt : ((mems n).take i).length = i := by rw [List.length_take]; omega
      by_cases hj : j < i
      · rw [List.getElem?_append_left (by omega)] at e1 e2
        exact (hV j m kv e1 e2).mono kt
      · have l1 := (List.getElem?_eq_some_iff.mp e2).1
        rw [List.length_append, List.length_singleton] at l1
        have ej : j = i := by omega
        rw [List.getElem?_append_right (by omega), lt, ej, Nat.sub_self] at e1
        rw [List.getElem?_append_right (by omega), lenk, ej, Nat.sub_self] at e2
        cases e1
        cases e2
        exact hu.mono ktu
  rintro H3 ⟨ps, kvs, k3, hL, hP, hK, hV⟩
  rw [memV_len, List.take_length] at hK hV
  refine ⟨D0, ps, kvs, rfl, SqL.is hL, hP.paired, fun T hT => ?_⟩
  have em : mergeK [] kvs = kvs := mergeK_fresh (by rw [List.nil_append, hK]; exact key_nodup h5)
  rw [em]
  have kT : Keep H3 (upd H3 T (.dK kvs)) := Keep.new hT
  have kk := (k2.trans k3).trans kT
  exact h2 n ws g H _ r T (.ref b) _ _ _ _ _ _ _ _ _ _ _ _ _ _ _ _ _ _ _ _ _ ⟨R1.on kk, hB.mono kk.t, ⟨kvs, upd_same, hK, fun m hm => let ⟨v, e, rv⟩ := valV_zip hK hV m hm; ⟨v, e, rv.mono kT.t⟩⟩, kk.tab tr1, kk.tab ti1⟩
end
end R31
namespace R31
open PySem PySem.Spec PyProof.Rows L2
/-! ### what the top has written -/
def DF (K : PySem.W.Frag) (x : Str) (st : Stmt) : Prop := ∃ (f : Addr) (fd : FuncData), Fun K x x st f fd ∧ PySem.W.nsIn K mainGlobals x = some (some (.ref f))
theorem df_mk {K : PySem.W.Frag} {x : Str} {st : Stmt} {f : Addr} {oc : Value} {od an : Option Addr} {osl : Array (Option Value)} {kV doc pm cdv ct : Value} (a : PySem.W.nsIn K mainGlobals x = some (some (.ref f)))
    (l : K.lookup f = some ⟨oc, od, .func (PySem.W.fnOf x x (defArgs st) (defBody st) (defScope st) .none kV doc pm an cdv ct), osl⟩) (c : PySem.W.codeIn K cdv x = true) (k : PySem.W.keepIn K (.ref f) = true) : DF K x st :=
  ⟨f, _, fun_mk l c k, a⟩
theorem DF.make {K : PySem.W.Frag} {x : Str} {st : Stmt} {ps : List Str} {h : Heap} {mg : Str → Option Value} (D : DF K x st) (X : K.In h) (G : h.Ns mainGlobals mg) (b : ∀ {f : Addr} {fd : FuncData}, Fun K x x st f fd → Binds K fd ps []) : ∃ f fd, Def K mg x st ps f fd :=
  let ⟨f, fd, F, a⟩ := D
  ⟨f, fd, F, b F, PySem.W.mg_of X G a⟩
/-- a def that holds a generator expression: its code object and that object's table -/
def DC (K : PySem.W.Frag) (x : Str) (st : Stmt) : Prop := ∃ (f c P : Addr) (fd : FuncData) (o : Obj) (e : Value) (dd : Option Addr) (vs : Array Value) (sl : Array (Option Value)), Fun K x x st f fd ∧ PySem.W.nsIn K mainGlobals x = some (some (.ref f)) ∧ fd.code = .ref c ∧
  K.lookup f = some o ∧ o.data = .func fd ∧ K.lookup c = some ⟨e, dd, .fields vs, sl⟩ ∧ vs[11]? = some (.ref P) ∧ PySem.W.codeHdIn K c P = true ∧ K.lookup P = none
theorem dc_mk {K : PySem.W.Frag} {x : Str} {st : Stmt} {f cc P : Addr} {oc e : Value} {od an dd : Option Addr} {osl sl : Array (Option Value)} {vs : Array Value} {kV doc pm ct : Value} (a : PySem.W.nsIn K mainGlobals x = some (some (.ref f)))
    (l : K.lookup f = some ⟨oc, od, .func (PySem.W.fnOf x x (defArgs st) (defBody st) (defScope st) .none kV doc pm an (.ref cc) ct), osl⟩) (c : PySem.W.codeIn K (.ref cc) x = true) (k : PySem.W.keepIn K (.ref f) = true)
    (v : K.lookup cc = some ⟨e, dd, .fields vs, sl⟩) (p : vs[11]? = some (.ref P)) (hh : PySem.W.codeHdIn K cc P = true) (n : K.lookup P = none) : DC K x st :=
  ⟨f, cc, P, _, _, e, dd, vs, sl, fun_mk l c k, a, rfl, l, rfl, v, p, hh, n⟩
/-- the tables of the defs named are empty -/
def OwnTabs (K : PySem.W.Frag) (mg : Str → Option Value) (ns : List Str) (h : Heap) : Prop := ∀ x ∈ ns, ∀ fa, mg x = some (.ref fa) → LamX.OwnTab K fa h
theorem DC.make {K : PySem.W.Frag} {x : Str} {st : Stmt} {ps ns : List Str} {h : Heap} {mg : Str → Option Value} (D : DC K x st) (X : K.In h) (G : h.Ns mainGlobals mg) (own : OwnTabs K mg ns h) (hx : x ∈ ns) (b : ∀ {f : Addr} {fd : FuncData}, Fun K x x st f fd → Binds K fd ps []) :
    ∃ f fd c P, Def K mg x st ps f fd ∧ fd.code = .ref c ∧ PySem.W.codeHdIn K c P = true ∧ K.lookup P = none ∧ h.get? P = some { cls := .none, data := .fields #[] } := by
  obtain ⟨f, c, P, fd, o, e, dd, vs, sl, F, a, hc, l, hd, v, p, hh, n⟩ := D
  have m := PySem.W.mg_of X G a
  exact ⟨f, fd, c, P, ⟨F, b F, m⟩, hc, hh, n, own x hx f m c P o fd e dd vs sl l hd hc v p⟩
theorem law_binds {K : PySem.W.Frag} {f : Addr} {fd : FuncData} (F : Fun K "law" "law" s_law f fd) (s : Shared) (u : Value) : BindsTo s fd ⟨[u], []⟩ [("_law_script", u)] := by
  obtain ⟨⟨oc, od, kV, doc, pm, an, cdv, ct, osl, rfl, lk, hcd⟩, kp⟩ := F
  exact .of_eq rfl
theorem all_mk {l : PySem.W.OpenLaw} {w : World} {K : PySem.W.Frag} {h : Heap} {mg : Str → Option Value} {fa : Addr} {t_MOST_SPAN t_MOST_STEPS t_MOST_TOP t_MOST_BOTTOM : Tok} (X : K.In h) (G : h.Ns mainGlobals mg) (hfa : mg "law" = some (.ref fa)) (own : OwnTabs K mg ["is_ratio", "is_input"] h)
    (d0 : DF K "is_in" s_is_in)
    (d1 : DC K "is_input" s_is_input)
    (d2 : DF K "need_input" s_need_input)
    (d3 : DF K "step" s_step)
    (d4 : DF K "behind" s_behind)
    (d5 : DF K "all_memories" s_all_memories)
    (d6 : DF K "ratio" s_ratio)
    (d7 : DF K "plus" s_plus)
    (d8 : DF K "less" s_less)
    (d9 : DF K "sum_of" s_sum_of)
    (d10 : DC K "is_ratio" s_is_ratio)
    (d11 : DF K "is_relay" s_is_relay)
    (d12 : DF K "place" s_place)
    (d13 : DF K "holds" s_holds)
    (d14 : DF K "is_weight" s_is_weight)
    (d15 : DF K "is_weighted" s_is_weighted)
    (d16 : DF K "need_bank" s_need_bank)
    (d17 : DF K "output_of" s_output_of)
    (d18 : DF K "outputs_from" s_outputs_from)
    (d19 : DF K "input_to" s_input_to)
    (d20 : DF K "rising" s_rising)
    (d21 : DF K "outputs_reached" s_outputs_reached)
    (d22 : DF K "extremes" s_extremes)
    (d23 : DF K "round_outputs" s_round_outputs)
    (d24 : DF K "_law_taken" s__law_taken)
    (d25 : DF K "_law_pick" s__law_pick)
    (d26 : DF K "_law_alike" s__law_alike)
    (d27 : DF K "_law_ratio" s__law_ratio)
    (d28 : DF K "_law_plus" s__law_plus)
    (d29 : DF K "_law_sum" s__law_sum)
    (d30 : DF K "_law_less" s__law_less)
    (d31 : DF K "_law_step" s__law_step)
    (d32 : DF K "_law_behind" s__law_behind)
    (d33 : DF K "_law_all" s__law_all)
    (d34 : DF K "_law_steps" s__law_steps)
    (d35 : DF K "_law_on" s__law_on)
    (d36 : DF K "_law_weight" s__law_weight)
    (d37 : DF K "_law_bank" s__law_bank)
    (d38 : DF K "_law_output" s__law_output)
    (d39 : DF K "law" s_law)
    (n_len : PySem.W.nsIn K mainGlobals "len" = some none)
    (n_abs : PySem.W.nsIn K mainGlobals "abs" = some none)
    (n_isinstance : PySem.W.nsIn K mainGlobals "isinstance" = some none)
    (n_range : PySem.W.nsIn K mainGlobals "range" = some none)
    (n_enumerate : PySem.W.nsIn K mainGlobals "enumerate" = some none)
    (n_sorted : PySem.W.nsIn K mainGlobals "sorted" = some none)
    (n_int : PySem.W.nsIn K mainGlobals "int" = some none)
    (n_bool : PySem.W.nsIn K mainGlobals "bool" = some none)
    (n_str : PySem.W.nsIn K mainGlobals "str" = some none)
    (n_tuple : PySem.W.nsIn K mainGlobals "tuple" = some none)
    (n_list : PySem.W.nsIn K mainGlobals "list" = some none)
    (n_dict : PySem.W.nsIn K mainGlobals "dict" = some none)
    (n_set : PySem.W.nsIn K mainGlobals "set" = some none)
    (n_all : PySem.W.nsIn K mainGlobals "all" = some none)
    (n_gcd : PySem.W.nsIn K mainGlobals "gcd" = some (some (.builtin "math.gcd")))
    (n_MOST_SPAN : PySem.W.nsIn K mainGlobals "MOST_SPAN" = some (some (.int 9 t_MOST_SPAN)))
    (n_MOST_STEPS : PySem.W.nsIn K mainGlobals "MOST_STEPS" = some (some (.int 200 t_MOST_STEPS)))
    (n_MOST_TOP : PySem.W.nsIn K mainGlobals "MOST_TOP" = some (some (.int 1000000 t_MOST_TOP)))
    (n_MOST_BOTTOM : PySem.W.nsIn K mainGlobals "MOST_BOTTOM" = some (some (.int 1000 t_MOST_BOTTOM))) :
    LamX.LawAtS l w K CX0 7 63 "_law_script" mg fa h := by
  have Z : Zs mg := ⟨PySem.W.mg_none_of X G n_len, PySem.W.mg_none_of X G n_abs, PySem.W.mg_none_of X G n_isinstance, PySem.W.mg_none_of X G n_range, PySem.W.mg_none_of X G n_enumerate, PySem.W.mg_none_of X G n_sorted, PySem.W.mg_none_of X G n_int, PySem.W.mg_none_of X G n_bool, PySem.W.mg_none_of X G n_str, PySem.W.mg_none_of X G n_tuple, PySem.W.mg_none_of X G n_list, PySem.W.mg_none_of X G n_dict, PySem.W.mg_none_of X G n_set, PySem.W.mg_none_of X G n_all, PySem.W.mg_of X G n_gcd, ⟨_, PySem.W.mg_of X G n_MOST_SPAN⟩, ⟨_, PySem.W.mg_of X G n_MOST_STEPS⟩, ⟨_, PySem.W.mg_of X G n_MOST_TOP⟩, ⟨_, PySem.W.mg_of X G n_MOST_BOTTOM⟩⟩
  obtain ⟨f_is_in, fd_is_in, D_is_in⟩ := d0.make (ps := ["value", "least", "most"]) X G (fun F => F.binds (ps := ["value", "least", "most"]) fun _ _ _ _ _ _ us hl => match us, hl with | [_, _, _], _ => rfl)
  obtain ⟨f_is_input, fd_is_input, cI, Pi, D_is_input, hcI, hdI, noI, emI⟩ := d1.make (ps := ["value"]) X G own (by decide) (fun F => F.binds (ps := ["value"]) fun _ _ _ _ _ _ us hl => match us, hl with | [_], _ => rfl)
  obtain ⟨f_need_input, fd_need_input, D_need_input⟩ := d2.make (ps := ["steps"]) X G (fun F => F.binds (ps := ["steps"]) fun _ _ _ _ _ _ us hl => match us, hl with | [_], _ => rfl)
  obtain ⟨f_step, fd_step, D_step⟩ := d3.make (ps := ["memory", "letter"]) X G (fun F => F.binds (ps := ["memory", "letter"]) fun _ _ _ _ _ _ us hl => match us, hl with | [_, _], _ => rfl)
  obtain ⟨f_behind, fd_behind, D_behind⟩ := d4.make (ps := ["memory", "steps"]) X G (fun F => F.binds (ps := ["memory", "steps"]) fun _ _ _ _ _ _ us hl => match us, hl with | [_, _], _ => rfl)
  obtain ⟨f_all_memories, fd_all_memories, D_all_memories⟩ := d5.make (ps := ["span"]) X G (fun F => F.binds (ps := ["span"]) fun _ _ _ _ _ _ us hl => match us, hl with | [_], _ => rfl)
  obtain ⟨f_ratio, fd_ratio, D_ratio⟩ := d6.make (ps := ["top", "bottom"]) X G (fun F => F.binds (ps := ["top", "bottom"]) fun _ _ _ _ _ _ us hl => match us, hl with | [_, _], _ => rfl)
  obtain ⟨f_plus, fd_plus, D_plus⟩ := d7.make (ps := ["one", "other"]) X G (fun F => F.binds (ps := ["one", "other"]) fun _ _ _ _ _ _ us hl => match us, hl with | [_, _], _ => rfl)
  obtain ⟨f_less, fd_less, D_less⟩ := d8.make (ps := ["one", "other"]) X G (fun F => F.binds (ps := ["one", "other"]) fun _ _ _ _ _ _ us hl => match us, hl with | [_, _], _ => rfl)
  obtain ⟨f_sum_of, fd_sum_of, D_sum_of⟩ := d9.make (ps := ["some"]) X G (fun F => F.binds (ps := ["some"]) fun _ _ _ _ _ _ us hl => match us, hl with | [_], _ => rfl)
  obtain ⟨f_is_ratio, fd_is_ratio, cR, Pr, D_is_ratio, hcR, hdR, noR, emR⟩ := d10.make (ps := ["value"]) X G own (by decide) (fun F => F.binds (ps := ["value"]) fun _ _ _ _ _ _ us hl => match us, hl with | [_], _ => rfl)
  obtain ⟨f_is_relay, fd_is_relay, D_is_relay⟩ := d11.make (ps := ["span", "value"]) X G (fun F => F.binds (ps := ["span", "value"]) fun _ _ _ _ _ _ us hl => match us, hl with | [_, _], _ => rfl)
  obtain ⟨f_place, fd_place, D_place⟩ := d12.make (ps := ["memory", "sign", "number"]) X G (fun F => F.binds (ps := ["memory", "sign", "number"]) fun _ _ _ _ _ _ us hl => match us, hl with | [_, _, _], _ => rfl)
  obtain ⟨f_holds, fd_holds, D_holds⟩ := d13.make (ps := ["memory", "relay"]) X G (fun F => F.binds (ps := ["memory", "relay"]) fun _ _ _ _ _ _ us hl => match us, hl with | [_, _], _ => rfl)
  obtain ⟨f_is_weight, fd_is_weight, D_is_weight⟩ := d14.make (ps := ["value"]) X G (fun F => F.binds (ps := ["value"]) fun _ _ _ _ _ _ us hl => match us, hl with | [_], _ => rfl)
  obtain ⟨f_is_weighted, fd_is_weighted, D_is_weighted⟩ := d15.make (ps := ["span", "value"]) X G (fun F => F.binds (ps := ["span", "value"]) fun _ _ _ _ _ _ us hl => match us, hl with | [_, _], _ => rfl)
  obtain ⟨f_need_bank, fd_need_bank, D_need_bank⟩ := d16.make (ps := ["bank"]) X G (fun F => F.binds (ps := ["bank"]) fun _ _ _ _ _ _ us hl => match us, hl with | [_], _ => rfl)
  obtain ⟨f_output_of, fd_output_of, D_output_of⟩ := d17.make (ps := ["bank", "memory"]) X G (fun F => F.binds (ps := ["bank", "memory"]) fun _ _ _ _ _ _ us hl => match us, hl with | [_, _], _ => rfl)
  obtain ⟨f_outputs_from, fd_outputs_from, D_outputs_from⟩ := d18.make (ps := ["bank", "memory", "steps"]) X G (fun F => F.binds (ps := ["bank", "memory", "steps"]) fun _ _ _ _ _ _ us hl => match us, hl with | [_, _, _], _ => rfl)
  obtain ⟨f_input_to, fd_input_to, D_input_to⟩ := d19.make (ps := ["bank", "least", "most"]) X G (fun F => F.binds (ps := ["bank", "least", "most"]) fun _ _ _ _ _ _ us hl => match us, hl with | [_, _, _], _ => rfl)
  obtain ⟨f_rising, fd_rising, D_rising⟩ := d20.make (ps := ["some"]) X G (fun F => F.binds (ps := ["some"]) fun _ _ _ _ _ _ us hl => match us, hl with | [_], _ => rfl)
  obtain ⟨f_outputs_reached, fd_outputs_reached, D_outputs_reached⟩ := d21.make (ps := ["bank"]) X G (fun F => F.binds (ps := ["bank"]) fun _ _ _ _ _ _ us hl => match us, hl with | [_], _ => rfl)
  obtain ⟨f_extremes, fd_extremes, D_extremes⟩ := d22.make (ps := ["bank"]) X G (fun F => F.binds (ps := ["bank"]) fun _ _ _ _ _ _ us hl => match us, hl with | [_], _ => rfl)
  obtain ⟨f_round_outputs, fd_round_outputs, D_round_outputs⟩ := d23.make (ps := ["bank", "steps"]) X G (fun F => F.binds (ps := ["bank", "steps"]) fun _ _ _ _ _ _ us hl => match us, hl with | [_, _], _ => rfl)
  obtain ⟨f__law_taken, fd__law_taken, D__law_taken⟩ := d24.make (ps := ["_law_row", "_law_many"]) X G (fun F => F.binds (ps := ["_law_row", "_law_many"]) fun _ _ _ _ _ _ us hl => match us, hl with | [_, _], _ => rfl)
  obtain ⟨f__law_pick, fd__law_pick, D__law_pick⟩ := d25.make (ps := ["_law_row", "_law_things"]) X G (fun F => F.binds (ps := ["_law_row", "_law_things"]) fun _ _ _ _ _ _ us hl => match us, hl with | [_, _], _ => rfl)
  obtain ⟨f__law_alike, fd__law_alike, D__law_alike⟩ := d26.make (ps := ["_law_found", "_law_due"]) X G (fun F => F.binds (ps := ["_law_found", "_law_due"]) fun _ _ _ _ _ _ us hl => match us, hl with | [_, _], _ => rfl)
  obtain ⟨f__law_ratio, fd__law_ratio, D__law_ratio⟩ := d27.make (ps := ["_law_top", "_law_bottom"]) X G (fun F => F.binds (ps := ["_law_top", "_law_bottom"]) fun _ _ _ _ _ _ us hl => match us, hl with | [_, _], _ => rfl)
  obtain ⟨f__law_plus, fd__law_plus, D__law_plus⟩ := d28.make (ps := ["_law_one", "_law_other"]) X G (fun F => F.binds (ps := ["_law_one", "_law_other"]) fun _ _ _ _ _ _ us hl => match us, hl with | [_, _], _ => rfl)
  obtain ⟨f__law_sum, fd__law_sum, D__law_sum⟩ := d29.make (ps := ["_law_some"]) X G (fun F => F.binds (ps := ["_law_some"]) fun _ _ _ _ _ _ us hl => match us, hl with | [_], _ => rfl)
  obtain ⟨f__law_less, fd__law_less, D__law_less⟩ := d30.make (ps := ["_law_one", "_law_other"]) X G (fun F => F.binds (ps := ["_law_one", "_law_other"]) fun _ _ _ _ _ _ us hl => match us, hl with | [_, _], _ => rfl)
  obtain ⟨f__law_step, fd__law_step, D__law_step⟩ := d31.make (ps := ["_law_memory_here", "_law_letter"]) X G (fun F => F.binds (ps := ["_law_memory_here", "_law_letter"]) fun _ _ _ _ _ _ us hl => match us, hl with | [_, _], _ => rfl)
  obtain ⟨f__law_behind, fd__law_behind, D__law_behind⟩ := d32.make (ps := ["_law_memory_here", "_law_steps_here"]) X G (fun F => F.binds (ps := ["_law_memory_here", "_law_steps_here"]) fun _ _ _ _ _ _ us hl => match us, hl with | [_, _], _ => rfl)
  obtain ⟨f__law_all, fd__law_all, D__law_all⟩ := d33.make (ps := ["_law_span"]) X G (fun F => F.binds (ps := ["_law_span"]) fun _ _ _ _ _ _ us hl => match us, hl with | [_], _ => rfl)
  obtain ⟨f__law_steps, fd__law_steps, D__law_steps⟩ := d34.make (ps := ["_law_row"]) X G (fun F => F.binds (ps := ["_law_row"]) fun _ _ _ _ _ _ us hl => match us, hl with | [_], _ => rfl)
  obtain ⟨f__law_on, fd__law_on, D__law_on⟩ := d35.make (ps := ["_law_memory_here"]) X G (fun F => F.binds (ps := ["_law_memory_here"]) fun _ _ _ _ _ _ us hl => match us, hl with | [_], _ => rfl)
  obtain ⟨f__law_weight, fd__law_weight, D__law_weight⟩ := d36.make (ps := ["_law_row"]) X G (fun F => F.binds (ps := ["_law_row"]) fun _ _ _ _ _ _ us hl => match us, hl with | [_], _ => rfl)
  obtain ⟨f__law_bank, fd__law_bank, D__law_bank⟩ := d37.make (ps := ["_law_row", "_law_most"]) X G (fun F => F.binds (ps := ["_law_row", "_law_most"]) fun _ _ _ _ _ _ us hl => match us, hl with | [_, _], _ => rfl)
  obtain ⟨f__law_output, fd__law_output, D__law_output⟩ := d38.make (ps := ["_law_bank_here", "_law_memory_here"]) X G (fun F => F.binds (ps := ["_law_bank_here", "_law_memory_here"]) fun _ _ _ _ _ _ us hl => match us, hl with | [_, _], _ => rfl)
  obtain ⟨f_law, fd_law, D_law⟩ := d39.make (ps := ["_law_script"]) X G (fun F => F.binds (ps := ["_law_script"]) fun _ _ _ _ _ _ us hl => match us, hl with | [_], _ => rfl)
  have ef : fa = f_law := by
    have e := hfa.symm.trans D_law.mg
    cases e
    rfl
  subst ef
  refine ⟨fd_law, [(cR, Pr), (cI, Pi)], spLaw K Pr Pi, ?_, ?_, ?_, fun s u => law_binds D_law.fn s u, ?_, fun base hK _ hT => ?_⟩
  · intro p hp
    rcases List.mem_cons.mp hp with z | z
    · subst z
      exact emR
    · have z2 := List.mem_singleton.mp z
      subst z2
      exact emI
  · intro p hp
    rcases List.mem_cons.mp hp with z | z
    · subst z
      exact noR
    · have z2 := List.mem_singleton.mp z
      subst z2
      exact noI
  · intro p hp
    rcases List.mem_cons.mp hp with z | z
    · subst z
      exact PySem.W.codeHd_of_K X hdR
    · have z2 := List.mem_singleton.mp z
      subst z2
      exact PySem.W.codeHd_of_K X hdI
  · intro H a ns hl _ hT hS
    exact ⟨a, ns, rfl, hS, hl, ⟨#[], hT (cR, Pr) List.mem_cons_self, trivial⟩, ⟨#[], hT (cI, Pi) (List.mem_cons_of_mem _ List.mem_cons_self), trivial⟩, fun _ => rfl⟩
  have tR := hT (cR, Pr) List.mem_cons_self
  have tI := hT (cI, Pi) (List.mem_cons_of_mem _ List.mem_cons_self)
  have TBR : GxR.TabB base mg cR Pr := ⟨tR.code, tR.bm, tR.gP⟩
  have TBI : GxR.TabB base mg cI Pi := ⟨tI.code, tI.bm, tI.gP⟩
  have C_is_in := ok_is_in (P := l.prog) (w := w) (base := base) D_is_in Z
  have C_is_relay := ok_is_relay (P := l.prog) (w := w) (base := base) D_is_relay Z C_is_in
  have C_is_ratio := ok_is_ratio (P := l.prog) (w := w) (base := base) D_is_ratio hcR TBR Z
  have C_is_weight := ok_is_weight (P := l.prog) (w := w) (base := base) D_is_weight Z C_is_ratio
  have C_is_weighted := ok_is_weighted (P := l.prog) (w := w) (base := base) D_is_weighted Z C_is_relay C_is_weight
  have C_need_bank := ok_need_bank (P := l.prog) (w := w) (base := base) D_need_bank Z C_is_in C_is_weighted
  have C_is_input := ok_is_input (P := l.prog) (w := w) (base := base) D_is_input hcI TBI Z
  have C_need_input := ok_need_input (P := l.prog) (w := w) (base := base) D_need_input C_is_input
  have C_step := ok_step (P := l.prog) (w := w) (base := base) D_step 
  have C_behind := ok_behind (P := l.prog) (w := w) (base := base) D_behind C_step
  have C_all_memories := ok_all (P := l.prog) (w := w) (base := base) D_all_memories Z
  have C_ratio := ok_ratio (P := l.prog) (w := w) (base := base) D_ratio Z
  have C_plus := ok_plus (P := l.prog) (w := w) (base := base) D_plus C_ratio
  have C_less := ok_less (P := l.prog) (w := w) (base := base) D_less 
  have C_sum_of := ok_sum (P := l.prog) (w := w) (base := base) D_sum_of C_plus
  have C_place := ok_place (P := l.prog) (w := w) (base := base) D_place Z
  have C_holds := ok_holds (P := l.prog) (w := w) (base := base) D_holds Z C_place
  have C_output_of := ok_output (P := l.prog) (w := w) (base := base) D_output_of Z C_holds C_sum_of
  have C_outputs_from := ok_outs (P := l.prog) (w := w) (base := base) D_outputs_from C_step C_output_of
  have C_input_to := ok_input_to (P := l.prog) (w := w) (base := base) D_input_to C_need_bank C_is_ratio C_output_of C_less C_step Z
  have C_rising := ok_rising (P := l.prog) (w := w) (base := base) D_rising C_less Z
  have C_outputs_reached := ok_reached (P := l.prog) (w := w) (base := base) D_outputs_reached C_need_bank C_all_memories C_output_of C_rising Z
  have C_extremes := ok_extremes (P := l.prog) (w := w) (base := base) D_extremes C_need_bank C_all_memories C_output_of C_less Z
  have C_round_outputs := ok_round (P := l.prog) (w := w) (base := base) D_round_outputs C_need_bank C_need_input C_behind C_outputs_from Z
  have C__law_taken := ok_taken (P := l.prog) (w := w) (base := base) D__law_taken Z
  have C__law_pick := ok_pick (P := l.prog) (w := w) (base := base) D__law_pick C__law_taken Z
  have C__law_ratio := ok_lratio (P := l.prog) (w := w) (base := base) D__law_ratio Z
  have C__law_plus := ok_lplus (P := l.prog) (w := w) (base := base) D__law_plus C__law_ratio
  have C__law_sum := ok_lsum (P := l.prog) (w := w) (base := base) D__law_sum C__law_plus
  have C__law_less := ok_lless (P := l.prog) (w := w) (base := base) D__law_less 
  have C__law_step := ok_lstep (P := l.prog) (w := w) (base := base) D__law_step Z
  have C__law_behind := ok_lbehind (P := l.prog) (w := w) (base := base) D__law_behind C__law_step
  have C__law_all := ok_lall (P := l.prog) (w := w) (base := base) D__law_all Z
  have C__law_on := ok_lon (P := l.prog) (w := w) (base := base) D__law_on Z
  have C__law_output := ok_loutput (P := l.prog) (w := w) (base := base) D__law_output Z C__law_on C__law_sum
  have C__law_weight := ok_lweight (P := l.prog) (w := w) (base := base) D__law_weight C__law_pick C__law_taken C__law_ratio
  have C__law_steps := ok_lsteps (P := l.prog) (w := w) (base := base) D__law_steps C__law_pick C__law_taken Z
  have C__law_bank := ok_lbank (P := l.prog) (w := w) (base := base) D__law_bank C__law_weight C__law_taken Z
  have C__law_alike := ok_alike (P := l.prog) (w := w) (base := base) D__law_alike Z 4
  exact ok_law D_law Z C__law_bank C__law_output C__law_all C__law_pick C__law_taken C__law_plus C__law_less C__law_step C_input_to C_outputs_reached C__law_alike C_extremes C__law_steps C__law_behind C_round_outputs
theorem walk_own {l : PySem.W.OpenLaw} {n k : Nat} {q : Program} {loose : List Str} {XP : (Str → Option Value) → Heap → Prop} {YP : World → Heap → Prop} {d : DefRec} {K : Params → PySem.W.Frag} {CX : World → CXT} {x : Str} {names : List Str}
    (hn : l.most = some n) (hn2 : n ≤ sizeLine) (hdf : d.params.defaults = []) (hr : Room k callerA) (hrec : ∀ y ∈ names, ((recsOf q).any fun e => e.name == y) = true) (hY : ∀ (w : World) (h : Heap), YP w h → (K w.params).In h)
    (F : ∀ (w : World) (mg : Str → Option Value) (fa : Addr) (h : Heap), YP w h → (K w.params).In h → h.Ns mainGlobals mg → mg d.name = some (.ref fa) → OwnTabs (K w.params) mg names h → LamX.LawAtS l w (K w.params) (CX w) k n x mg fa h)
    (hCX : ∀ (w : World) (H : Hp) (s : Shared) (e : Value) (s' : Shared), CX w [] H s (fun _ _ _ => False) e s' → False) :
    PySem.W.WalkO q loose XP YP l.row.toRowW d [] (fun f vs => PySem.call f vs) := by
  refine Att.attach_callB hn hdf fun w s₀ s₁ mg mb fa o pm cd doc a vs ns G Y ho hd hcd hmg hobj hints hlen hbits hg => ?_
  have KX := hY w _ Y
  have own : OwnTabs (K w.params) mg names s₁.heap := fun y hy fb hfb c P o1 fd1 e dd vs1 sl k1 k2 k3 k4 k5 => by
    obtain ⟨dL, hm, hn1⟩ := List.any_eq_true.mp (hrec y hy)
    have en : dL.name = y := beq_iff_eq.mp hn1
    obtain ⟨a', o', fd', c', P', h1, h2, h3, h4, h5, ⟨oc, vc, e1, _, e3, e4⟩, hP⟩ := G.T.tab dL hm
    rw [en, hfb] at h1
    cases h1
    have z1 := h2.symm.trans (KX _ _ k1)
    cases z1
    have z2 := h3.symm.trans k2
    cases z2
    have z3 := h4.symm.trans k3
    cases z3
    have z4 := e1.symm.trans (KX _ _ k4)
    cases z4
    have z5 := e3
    cases z5
    have z6 := e4.symm.trans k5
    cases z6
    exact hP
  obtain ⟨fd, cs, sp, hT, nT, C, hb, hsp, hF⟩ := F w mg fa _ Y KX G.T.g hmg own
  exact LamX.law_callTs KX G.T.g G.T.b G.T.builtins G.T.nolimit hg hT nT C G.T.bmain hobj hints (Nat.le_trans hlen hn2) hr hF hb (fun H hH hS => hsp H a ns hlen hbits hH hS) fun H e s' => hCX w H s₁ e s'
end R31
open PySem PySem.W PyProof.Rows
set_option maxRecDepth 100000 in
set_option maxHeartbeats 0 in
theorem PySem.Challenge.cw_relaybanks_k31_whole_goals_holds : PySem.Challenge.rw_relaybanks_k31_whole_goals.Holds := by
  w_on; o_law; k_head; (case hw => w_witness2)
  k_fill
  refine R31.walk_own (l := PySem.Challenge.rw_relaybanks_k31_whole_goals) (n := 63) (k := 7) (x := "_law_script") (names := ["is_ratio", "is_input"]) (CX := fun _ => L2.CX0) rfl (by decide) rfl ⟨rfl, by decide, by decide⟩ ?R (fun w h Y => PySem.W.kIn_of Y) ?F (fun _ _ _ _ _ z => z)
  case R => decide +kernel
  case F =>
    intro w mg fa h _ KX G hmg own
    refine' R31.all_mk KX G hmg own (R31.df_mk ?ad0 ?ld0 ?cd0 ?kd0) (R31.dc_mk ?ad1 ?ld1 ?cd1 ?kd1 ?vd1 ?pd1 ?hd1 ?nd1) (R31.df_mk ?ad2 ?ld2 ?cd2 ?kd2) (R31.df_mk ?ad3 ?ld3 ?cd3 ?kd3) (R31.df_mk ?ad4 ?ld4 ?cd4 ?kd4) (R31.df_mk ?ad5 ?ld5 ?cd5 ?kd5) (R31.df_mk ?ad6 ?ld6 ?cd6 ?kd6) (R31.df_mk ?ad7 ?ld7 ?cd7 ?kd7) (R31.df_mk ?ad8 ?ld8 ?cd8 ?kd8) (R31.df_mk ?ad9 ?ld9 ?cd9 ?kd9) (R31.dc_mk ?ad10 ?ld10 ?cd10 ?kd10 ?vd10 ?pd10 ?hd10 ?nd10) (R31.df_mk ?ad11 ?ld11 ?cd11 ?kd11) (R31.df_mk ?ad12 ?ld12 ?cd12 ?kd12) (R31.df_mk ?ad13 ?ld13 ?cd13 ?kd13) (R31.df_mk ?ad14 ?ld14 ?cd14 ?kd14) (R31.df_mk ?ad15 ?ld15 ?cd15 ?kd15) (R31.df_mk ?ad16 ?ld16 ?cd16 ?kd16) (R31.df_mk ?ad17 ?ld17 ?cd17 ?kd17) (R31.df_mk ?ad18 ?ld18 ?cd18 ?kd18) (R31.df_mk ?ad19 ?ld19 ?cd19 ?kd19) (R31.df_mk ?ad20 ?ld20 ?cd20 ?kd20) (R31.df_mk ?ad21 ?ld21 ?cd21 ?kd21) (R31.df_mk ?ad22 ?ld22 ?cd22 ?kd22) (R31.df_mk ?ad23 ?ld23 ?cd23 ?kd23) (R31.df_mk ?ad24 ?ld24 ?cd24 ?kd24) (R31.df_mk ?ad25 ?ld25 ?cd25 ?kd25) (R31.df_mk ?ad26 ?ld26 ?cd26 ?kd26) (R31.df_mk ?ad27 ?ld27 ?cd27 ?kd27) (R31.df_mk ?ad28 ?ld28 ?cd28 ?kd28) (R31.df_mk ?ad29 ?ld29 ?cd29 ?kd29) (R31.df_mk ?ad30 ?ld30 ?cd30 ?kd30) (R31.df_mk ?ad31 ?ld31 ?cd31 ?kd31) (R31.df_mk ?ad32 ?ld32 ?cd32 ?kd32) (R31.df_mk ?ad33 ?ld33 ?cd33 ?kd33) (R31.df_mk ?ad34 ?ld34 ?cd34 ?kd34) (R31.df_mk ?ad35 ?ld35 ?cd35 ?kd35) (R31.df_mk ?ad36 ?ld36 ?cd36 ?kd36) (R31.df_mk ?ad37 ?ld37 ?cd37 ?kd37) (R31.df_mk ?ad38 ?ld38 ?cd38 ?kd38) (R31.df_mk ?ad39 ?ld39 ?cd39 ?kd39) ?zlen ?zabs ?zisinstance ?zrange ?zenumerate ?zsorted ?zint ?zbool ?zstr ?ztuple ?zlist ?zdict ?zset ?zall ?zgcd ?zMOSTwSPAN ?zMOSTwSTEPS ?zMOSTwTOP ?zMOSTwBOTTOM
    (case ad0 => k_is)
    (case ld0 => k_is)
    (case cd0 => k_is)
    (case kd0 => k_is)
    (case ad1 => k_is)
    (case ld1 => k_is)
    (case cd1 => k_is)
    (case kd1 => k_is)
    (case vd1 => k_is)
    (case pd1 => exact rfl)
    (case hd1 => (first | kernel_rfl | exact rfl | decide +kernel))
    (case nd1 => (first | kernel_rfl | exact rfl | decide +kernel))
    (case ad2 => k_is)
    (case ld2 => k_is)
    (case cd2 => k_is)
    (case kd2 => k_is)
    (case ad3 => k_is)
    (case ld3 => k_is)
    (case cd3 => k_is)
    (case kd3 => k_is)
    (case ad4 => k_is)
    (case ld4 => k_is)
    (case cd4 => k_is)
    (case kd4 => k_is)
    (case ad5 => k_is)
    (case ld5 => k_is)
    (case cd5 => k_is)
    (case kd5 => k_is)
    (case ad6 => k_is)
    (case ld6 => k_is)
    (case cd6 => k_is)
    (case kd6 => k_is)
    (case ad7 => k_is)
    (case ld7 => k_is)
    (case cd7 => k_is)
    (case kd7 => k_is)
    (case ad8 => k_is)
    (case ld8 => k_is)
    (case cd8 => k_is)
    (case kd8 => k_is)
    (case ad9 => k_is)
    (case ld9 => k_is)
    (case cd9 => k_is)
    (case kd9 => k_is)
    (case ad10 => k_is)
    (case ld10 => k_is)
    (case cd10 => k_is)
    (case kd10 => k_is)
    (case vd10 => k_is)
    (case pd10 => exact rfl)
    (case hd10 => (first | kernel_rfl | exact rfl | decide +kernel))
    (case nd10 => (first | kernel_rfl | exact rfl | decide +kernel))
    (case ad11 => k_is)
    (case ld11 => k_is)
    (case cd11 => k_is)
    (case kd11 => k_is)
    (case ad12 => k_is)
    (case ld12 => k_is)
    (case cd12 => k_is)
    (case kd12 => k_is)
    (case ad13 => k_is)
    (case ld13 => k_is)
    (case cd13 => k_is)
    (case kd13 => k_is)
    (case ad14 => k_is)
    (case ld14 => k_is)
    (case cd14 => k_is)
    (case kd14 => k_is)
    (case ad15 => k_is)
    (case ld15 => k_is)
    (case cd15 => k_is)
    (case kd15 => k_is)
    (case ad16 => k_is)
    (case ld16 => k_is)
    (case cd16 => k_is)
    (case kd16 => k_is)
    (case ad17 => k_is)
    (case ld17 => k_is)
    (case cd17 => k_is)
    (case kd17 => k_is)
    (case ad18 => k_is)
    (case ld18 => k_is)
    (case cd18 => k_is)
    (case kd18 => k_is)
    (case ad19 => k_is)
    (case ld19 => k_is)
    (case cd19 => k_is)
    (case kd19 => k_is)
    (case ad20 => k_is)
    (case ld20 => k_is)
    (case cd20 => k_is)
    (case kd20 => k_is)
    (case ad21 => k_is)
    (case ld21 => k_is)
    (case cd21 => k_is)
    (case kd21 => k_is)
    (case ad22 => k_is)
    (case ld22 => k_is)
    (case cd22 => k_is)
    (case kd22 => k_is)
    (case ad23 => k_is)
    (case ld23 => k_is)
    (case cd23 => k_is)
    (case kd23 => k_is)
    (case ad24 => k_is)
    (case ld24 => k_is)
    (case cd24 => k_is)
    (case kd24 => k_is)
    (case ad25 => k_is)
    (case ld25 => k_is)
    (case cd25 => k_is)
    (case kd25 => k_is)
    (case ad26 => k_is)
    (case ld26 => k_is)
    (case cd26 => k_is)
    (case kd26 => k_is)
    (case ad27 => k_is)
    (case ld27 => k_is)
    (case cd27 => k_is)
    (case kd27 => k_is)
    (case ad28 => k_is)
    (case ld28 => k_is)
    (case cd28 => k_is)
    (case kd28 => k_is)
    (case ad29 => k_is)
    (case ld29 => k_is)
    (case cd29 => k_is)
    (case kd29 => k_is)
    (case ad30 => k_is)
    (case ld30 => k_is)
    (case cd30 => k_is)
    (case kd30 => k_is)
    (case ad31 => k_is)
    (case ld31 => k_is)
    (case cd31 => k_is)
    (case kd31 => k_is)
    (case ad32 => k_is)
    (case ld32 => k_is)
    (case cd32 => k_is)
    (case kd32 => k_is)
    (case ad33 => k_is)
    (case ld33 => k_is)
    (case cd33 => k_is)
    (case kd33 => k_is)
    (case ad34 => k_is)
    (case ld34 => k_is)
    (case cd34 => k_is)
    (case kd34 => k_is)
    (case ad35 => k_is)
    (case ld35 => k_is)
    (case cd35 => k_is)
    (case kd35 => k_is)
    (case ad36 => k_is)
    (case ld36 => k_is)
    (case cd36 => k_is)
    (case kd36 => k_is)
    (case ad37 => k_is)
    (case ld37 => k_is)
    (case cd37 => k_is)
    (case kd37 => k_is)
    (case ad38 => k_is)
    (case ld38 => k_is)
    (case cd38 => k_is)
    (case kd38 => k_is)
    (case ad39 => k_is)
    (case ld39 => k_is)
    (case cd39 => k_is)
    (case kd39 => k_is)
    (case zlen => k_is)
    (case zabs => k_is)
    (case zisinstance => k_is)
    (case zrange => k_is)
    (case zenumerate => k_is)
    (case zsorted => k_is)
    (case zint => k_is)
    (case zbool => k_is)
    (case zstr => k_is)
    (case ztuple => k_is)
    (case zlist => k_is)
    (case zdict => k_is)
    (case zset => k_is)
    (case zall => k_is)
    (case zgcd => k_is)
    (case zMOSTwSPAN => k_is)
    (case zMOSTwSTEPS => k_is)
    (case zMOSTwTOP => k_is)
    (case zMOSTwBOTTOM => k_is)
