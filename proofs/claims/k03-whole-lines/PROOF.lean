import PyProof.Rows.All
import Wide.All
import OpenK.AllK
import Wide.FinOn
import KE.KStateDown
import Lean
import HandS.Base
import HandS.Call
import HandS.Ends
import HandS.More
import HandS.Words
import HandS.WordsExc
import HandS.Defaults
import HandS.Exc
import HandS.ExcInit
import HandS.ExcField
import HandS.ExcIs
import HandS.Head0
import HandS.Head1
import HandS.Head2
import HandS.HeadEnd
import HandS.HeadHook1
import HandS.HeadHook2
import HandS.HeadHook3
import HandS.HeadHook4
import PySem.Challenge.RW_underthree_k03_whole_lines_there_and_bac
import HandS.ForMost
import HandS.ExcOwn
import HandS.IsInst
import HandS.FStr
import HandS.StrMore
import HandS.TupLe
import HandS.Style
import HandS.Star
import HandS.Deep
import HandS.Wide
import HandS.SortRule
import HandS.Walk
import HandS.Zip
import HandS.ReplaceLit
import HandS.RaiseMore
import HandS.MakeKwOnly
import KE.GoesEnum
import KE.GoesMore
import HandS.ReplaceDef
import HandS.TryOnly
import HandS.TryMany
import HandS.Dict
import HandS.Codes
import HandS.ReplaceList
section
set_option Elab.async false
set_option linter.all false
set_option maxRecDepth 100000
set_option maxHeartbeats 0
/-! the text by places; the head: facts by names, the run -/
namespace UT
open PySem PySem.Spec PyProof.Rows L2
abbrev rw0 : PySem.W.OpenLaw := PySem.Challenge.rw_underthree_k03_whole_lines_there_and_bac
def top (i : Nat) : Stmt := PySem.Challenge.pw_underthree_k03_whole_lines_there_and_bac.main.body.getD i (.Pass ⟨0, 0, 0, 0⟩)
abbrev st_is_integer : Stmt := top 1
abbrev st_is_number : Stmt := top 2
abbrev st_is_stretch : Stmt := top 3
abbrev st_is_asks : Stmt := top 4
abbrev st_is_row : Stmt := top 6
abbrev st_a_fits : Stmt := top 7
abbrev st_a_number_read : Stmt := top 8
abbrev st_a_integer_read : Stmt := top 9
abbrev st_lets_history : Stmt := top 19
abbrev st_is_history : Stmt := top 20
abbrev st_is_move : Stmt := top 21
abbrev st_asks_line : Stmt := top 23
abbrev st_history_line : Stmt := top 24
abbrev st_read_asks : Stmt := top 25
abbrev st_read_history : Stmt := top 26
abbrev st_parts_of : Stmt := top 27
abbrev st_stretch_read : Stmt := top 28
abbrev st_event_read : Stmt := top 29
abbrev st_is_operation : Stmt := top 32
abbrev st_operation_line : Stmt := top 34
abbrev st_value_line : Stmt := top 35
abbrev st_read_operation : Stmt := top 36
abbrev st_read_value : Stmt := top 37
abbrev st_figures_due : Stmt := top 38
abbrev st_can_stand : Stmt := top 39
abbrev st_law_nums : Stmt := top 41
abbrev st_law_int : Stmt := top 42
abbrev st_law_same : Stmt := top 43
abbrev st_law_operation : Stmt := top 44
abbrev st_law_number : Stmt := top 45
abbrev st_law_value : Stmt := top 46
abbrev st_law_need : Stmt := top 47
abbrev st_law_figures : Stmt := top 48
abbrev st_law_no : Stmt := top 49
abbrev st_law_operation_due : Stmt := top 50
abbrev st_law_many : Stmt := top 51
abbrev st_law_value_due : Stmt := top 52
abbrev st_law_value_line : Stmt := top 53
abbrev st_law_events : Stmt := top 54
abbrev st_law_row : Stmt := top 55
abbrev st_law_asks_line : Stmt := top 56
abbrev st_law_history_line : Stmt := top 57
abbrev st_law_asks_due : Stmt := top 58
abbrev st_law_history_due : Stmt := top 59
abbrev st_law_due : Stmt := top 60
abbrev st_law_call : Stmt := top 61
abbrev st_law_words : Stmt := top 62
abbrev st_law_spoilt : Stmt := top 63
abbrev st_law_lines : Stmt := top 64
abbrev st_law_odds : Stmt := top 65
abbrev st_law : Stmt := top 66
abbrev st_InvalidPaper : Stmt := inClass (top 15) 0
abbrev st_NotUsable : Stmt := inClass (top 16) 0
abbrev st_InvalidText : Stmt := inClass (top 17) 0
abbrev FnP (K : PySem.W.Frag) (x q : Str) (st : Stmt) (f : Addr) (fd : FuncData) : Prop := FunD K x q (defArgs st) (defBody st) (defScope st) [] [] f fd
def dfn (x : Str) (st : Stmt) : He.DefD := ⟨(x, none), x, x, defArgs st, defBody st, defScope st, [], []⟩
def dini (c q : Str) (st : Stmt) : He.DefD := ⟨(c, some "__init__"), "__init__", q, defArgs st, defBody st, defScope st, [], []⟩
def fnL : List He.DefD := [
  dfn "is_integer" st_is_integer,
  dfn "is_number" st_is_number,
  dfn "is_stretch" st_is_stretch,
  dfn "is_asks" st_is_asks,
  dfn "_is_row" st_is_row,
  dfn "a_fits" st_a_fits,
  dfn "a_number_read" st_a_number_read,
  dfn "a_integer_read" st_a_integer_read,
  dfn "lets_history" st_lets_history,
  dfn "is_history" st_is_history,
  dfn "_is_move" st_is_move,
  dfn "asks_line" st_asks_line,
  dfn "history_line" st_history_line,
  dfn "read_asks" st_read_asks,
  dfn "read_history" st_read_history,
  dfn "_parts_of" st_parts_of,
  dfn "_stretch_read" st_stretch_read,
  dfn "_event_read" st_event_read,
  dfn "is_operation" st_is_operation,
  dfn "operation_line" st_operation_line,
  dfn "value_line" st_value_line,
  dfn "read_operation" st_read_operation,
  dfn "read_value" st_read_value,
  dfn "_figures_due" st_figures_due,
  dfn "_can_stand" st_can_stand,
  dfn "_law_nums" st_law_nums,
  dfn "_law_int" st_law_int,
  dfn "_law_same" st_law_same,
  dfn "_law_operation" st_law_operation,
  dfn "_law_number" st_law_number,
  dfn "_law_value" st_law_value,
  dfn "_law_need" st_law_need,
  dfn "_law_figures" st_law_figures,
  dfn "_law_no" st_law_no,
  dfn "_law_operation_due" st_law_operation_due,
  dfn "_law_many" st_law_many,
  dfn "_law_value_due" st_law_value_due,
  dfn "_law_value_line" st_law_value_line,
  dfn "_law_events" st_law_events,
  dfn "_law_row" st_law_row,
  dfn "_law_asks_line" st_law_asks_line,
  dfn "_law_history_line" st_law_history_line,
  dfn "_law_asks_due" st_law_asks_due,
  dfn "_law_history_due" st_law_history_due,
  dfn "_law_due" st_law_due,
  dfn "_law_call" st_law_call,
  dfn "_law_words" st_law_words,
  dfn "_law_spoilt" st_law_spoilt,
  dfn "_law_lines" st_law_lines,
  dfn "_law_odds" st_law_odds,
  dfn "law" st_law,
  dini "InvalidPaper" "InvalidPaper.__init__" st_InvalidPaper,
  dini "NotUsable" "NotUsable.__init__" st_NotUsable,
  dini "InvalidText" "InvalidText.__init__" st_InvalidText]
def faL : List He.Fa := [
  .glo "is_integer",
  .glo "is_number",
  .glo "is_stretch",
  .glo "is_asks",
  .glo "_is_row",
  .glo "a_fits",
  .glo "a_number_read",
  .glo "a_integer_read",
  .glo "lets_history",
  .glo "is_history",
  .glo "_is_move",
  .glo "asks_line",
  .glo "history_line",
  .glo "read_asks",
  .glo "read_history",
  .glo "_parts_of",
  .glo "_stretch_read",
  .glo "_event_read",
  .glo "is_operation",
  .glo "operation_line",
  .glo "value_line",
  .glo "read_operation",
  .glo "read_value",
  .glo "_figures_due",
  .glo "_can_stand",
  .glo "_law_nums",
  .glo "_law_int",
  .glo "_law_same",
  .glo "_law_operation",
  .glo "_law_number",
  .glo "_law_value",
  .glo "_law_need",
  .glo "_law_figures",
  .glo "_law_no",
  .glo "_law_operation_due",
  .glo "_law_many",
  .glo "_law_value_due",
  .glo "_law_value_line",
  .glo "_law_events",
  .glo "_law_row",
  .glo "_law_asks_line",
  .glo "_law_history_line",
  .glo "_law_asks_due",
  .glo "_law_history_due",
  .glo "_law_due",
  .glo "_law_call",
  .glo "_law_words",
  .glo "_law_spoilt",
  .glo "_law_lines",
  .glo "_law_odds",
  .glo "law",
  .glo "UnderError",
  .glo "PaperError",
  .glo "AskError",
  .glo "TextError",
  .glo "InvalidPaper",
  .glo "NotUsable",
  .glo "InvalidText",
  .glo "OPERATION_WORDS",
  .free "isinstance",
  .free "int",
  .free "bool",
  .free "tuple",
  .free "str",
  .free "len",
  .free "all",
  .free "enumerate",
  .free "range",
  .free "min",
  .free "sorted",
  .free "list",
  .free "ValueError"]
def opW : List (Str × Int) := [("sum", 1), ("product", 1), ("most", 0), ("least", 0), ("first", 0), ("last", 0), ("or", 0), ("maps", 1), ("grids", 2), ("brackets", 0), ("spans", 0), ("counts", 1)]
def tabL : List He.Tab := [(fun K => He.ga K "OPERATION_WORDS", opW.map (·.1))]
/-- an own exception with an own __init__ -/
def oexB (K : PySem.W.Frag) (C : Addr) : Bool := match K.lookup C with
  | some ⟨.type "type", _, .cls cd, sl⟩ => (match cd.mro, sl.toList with
    | .ref C' :: bm, [_, _, _, _, some (.builtin n), _] => decide (C' = C) && (decide (n = "ValueError.__new__") && (!cd.hasDel && (cd.hasDict && PySem.HandSPX.refsVE bm)))
    | _, _ => false)
  | _ => false
def excB (K : PySem.W.Frag) (c f1 f2 : Str) : Bool := oexB K (He.ga K c) &&
  (decide (PySem.W.findIn K (.ref (He.ga K c)) "__setattr__" = some (some (.builtin "object.__setattr__"))) &&
  (decide (PySem.W.typeIn K (.ref (He.ga K c)) = some (.type "type")) && (PySem.W.keepIn K (.ref (He.ga K c)) &&
  (decide (PySem.W.findIn K (.ref (He.ga K c)) "__init__" = some (some (.ref (He.ma K (He.ga K c) "__init__")))) && (decide (PySem.W.typeIn K (.ref (He.ma K (He.ga K c) "__init__")) = some (.type "function")) &&
  (decide (PySem.W.findIn K (.ref (He.ga K c)) f1 = some none) && (decide (PySem.W.findIn K (.ref (He.ga K c)) f2 = some none) && (xfB K (He.ga K c) &&
  (decide (PySem.W.findIn K (.ref (He.ga K c)) "__class__" = some (some (.builtin "object.__class__"))) && decide (PySem.W.mroIn K (He.ga K c) (.type "object") = some true))))))))))
def kitRow : List (Str × Str × Bool) := [("NotUsable", "AskError", true), ("NotUsable", "TextError", false), ("InvalidText", "TextError", true), ("InvalidText", "UnderError", true), ("InvalidText", "AskError", false)]
def exmRow : List (Str × Str × Bool) := [("InvalidPaper", "InvalidPaper", true), ("NotUsable", "NotUsable", true), ("InvalidText", "NotUsable", false), ("InvalidText", "InvalidText", true)]
def exB (K : PySem.W.Frag) : Bool := excB K "InvalidPaper" "word" "at" && (excB K "NotUsable" "word" "at" && (excB K "InvalidText" "line" "field" &&
  (He.valsB K (He.ga K "OPERATION_WORDS") (opW.map fun q => (q.1, .int q.2)) &&
  (kitRow.all (fun q => decide (PySem.W.kitOne K (.ref (He.ga K q.1)) (.ref (He.ga K q.2.1)) = some q.2.2)) &&
  (exmRow.all (fun q => decide (PySem.W.exmOne K (.ref (He.ga K q.1)) (.ref (He.ga K q.2.1)) = some q.2.2)) &&
  (decide (PySem.W.kitOne K (.ref (He.ga K "InvalidText")) (.type "ValueError") = some true) && decide (PySem.W.nsIn K mainGlobals "OPERATION_WORDS" = some (some (.ref (He.ga K "OPERATION_WORDS"))))))))))
abbrev R : PySem.W.OpenRow := PySem.W.OpenLaw.row rw0
abbrev hk : PySem.W.Hook := He.hookX 5 faL fnL tabL [] exB
def ob (s : PySem.W.SharedT) : He.AlX := He.obsX 5 faL fnL tabL [] exB (HandSHeadRun.getT s)
theorem ob_eq (s : PySem.W.SharedT) : ob s = hk.obs s.abs := He.obsX_eq (HandSHeadRun.getT_eq s)
def nm1 : List PySem.Str := ["is_integer", "is_number", "is_stretch", "is_asks", "_is_row", "a_fits", "a_number_read", "a_integer_read", "UnderError", "PaperError", "AskError", "TextError", "InvalidPaper", "NotUsable", "InvalidText", "lets_history", "is_history", "_is_move", "asks_line", "history_line", "read_asks", "read_history", "_parts_of", "_stretch_read", "_event_read", "OPERATION_WORDS", "is_operation", "operation_line", "value_line", "read_operation"]
def nm2 : List PySem.Str := ["read_value", "_figures_due", "_can_stand", "_law_nums", "_law_int", "_law_same", "_law_operation", "_law_number", "_law_value", "_law_need", "_law_figures", "_law_no", "_law_operation_due", "_law_many", "_law_value_due", "_law_value_line", "_law_events", "_law_row", "_law_asks_line", "_law_history_line", "_law_asks_due", "_law_history_due", "_law_due", "_law_call", "_law_words", "_law_spoilt", "_law_lines", "_law_odds"]
def nmL : List PySem.Str := nm1 ++ nm2
theorem run0 (w : World) : HandSHeadRun.RunEq R (PySem.W.view R.prog [66]) hk ob 8000 nmL (w.withFollow "special-get-raises" false) := by
  intro os
  kernel_rfl
theorem run1 (w : World) : HandSHeadRun.RunEq R (PySem.W.view R.prog [66]) hk ob 8000 nmL (w.withFollow "special-get-raises" true) := by
  intro os
  kernel_rfl
theorem run (w : World) : HandSHeadRun.RunEq R (PySem.W.view R.prog [66]) hk ob 8000 nmL w :=
  PySem.W.byRow2 "special-get-raises" (P := fun w => HandSHeadRun.RunEq R (PySem.W.view R.prog [66]) hk ob 8000 nmL w) run0 run1 w
end UT
end
section
set_option Elab.async false
set_option linter.all false
set_option maxRecDepth 100000
set_option maxHeartbeats 4000000
/-! the data layer: values of the heap as plain data -/
namespace UT
open PySem PySem.Spec PyProof.Rows L2

/-! ### data -/
mutual
inductive Dt (K : PySem.W.Frag) (H : Hp) : V → PyData → Prop
  | non : Dt K H .non .none
  | bl (b : Bool) : Dt K H (.bl b) (.bool b)
  | int (i : Int) : Dt K H (.int i) (.int i)
  | str (x : Str) : Dt K H (.str x) (.str x)
  | lst {a : Addr} {xs : List V} {ds : List PyData} (h : H a = some (.lst xs)) (r : DtL K H xs ds) : Dt K H (.ref a) (.list ds)
  | tup {a : Addr} {xs : List V} {ds : List PyData} (h : H a = some (.tup xs)) (r : DtL K H xs ds) : Dt K H (.ref a) (.tuple ds)
  | scr {a : Addr} {ns : List Int} (h : SqL K H a (ns.map V.int)) : Dt K H (.ref a) (.dict (ns.map fun i => (.none, .int i)))
inductive DtL (K : PySem.W.Frag) (H : Hp) : List V → List PyData → Prop
  | nil : DtL K H [] []
  | cons {v : V} {vs : List V} {d : PyData} {ds : List PyData} (h : Dt K H v d) (r : DtL K H vs ds) : DtL K H (v :: vs) (d :: ds)
end
mutual
theorem Dt.mono {K : PySem.W.Frag} {H H' : Hp} (e : Same H H') : ∀ {v : V} {d : PyData}, Dt K H v d → Dt K H' v d
  | _, _, .non => .non
  | _, _, .bl b => .bl b
  | _, _, .int i => .int i
  | _, _, .str x => .str x
  | _, _, .lst h r => .lst (e _ _ h) (DtL.mono e r)
  | _, _, .tup h r => .tup (e _ _ h) (DtL.mono e r)
  | _, _, .scr h => .scr (e.seq h)
theorem DtL.mono {K : PySem.W.Frag} {H H' : Hp} (e : Same H H') : ∀ {vs : List V} {ds : List PyData}, DtL K H vs ds → DtL K H' vs ds
  | _, _, .nil => .nil
  | _, _, .cons h r => .cons (Dt.mono e h) (DtL.mono e r)
end
section
variable {K : PySem.W.Frag} {H H' : Hp}
theorem DtL.len {vs : List V} : ∀ {ds : List PyData}, DtL K H vs ds → vs.length = ds.length := by
  induction vs with
  | nil => intro ds h; cases h; rfl
  | cons v vs ih => intro ds h; cases h with | cons h r => exact congrArg Nat.succ (ih r)
theorem DtL.get : ∀ {vs : List V} {ds : List PyData} {i : Nat} {d : PyData}, DtL K H vs ds → ds[i]? = some d → ∃ v, vs[i]? = some v ∧ Dt K H v d
  | _, _, _, _, .nil, e => by simp at e
  | _, _, 0, _, .cons h _, e => by simp at e; subst e; exact ⟨_, rfl, h⟩
  | _, _, i + 1, d, .cons _ r, e => by
    obtain ⟨v, h1, h2⟩ := DtL.get (i := i) (d := d) r (by simpa using e)
    exact ⟨v, by simpa using h1, h2⟩
theorem DtL.getV : ∀ {vs : List V} {ds : List PyData} {i : Nat} {v : V}, DtL K H vs ds → vs[i]? = some v → ∃ d, ds[i]? = some d ∧ Dt K H v d
  | _, _, _, _, .nil, e => by simp at e
  | _, _, 0, _, .cons h _, e => by simp at e; subst e; exact ⟨_, rfl, h⟩
  | _, _, i + 1, d, .cons _ r, e => by
    obtain ⟨v, h1, h2⟩ := DtL.getV (i := i) r (by simpa using e)
    exact ⟨v, by simpa using h1, h2⟩
theorem DtL.app : ∀ {vs ws : List V} {ds es : List PyData}, DtL K H vs ds → DtL K H ws es → DtL K H (vs ++ ws) (ds ++ es)
  | _, _, _, _, .nil, q => q
  | _, _, _, _, .cons h r, q => .cons h (DtL.app r q)
theorem DtL.take : ∀ {vs : List V} {ds : List PyData} (n : Nat), DtL K H vs ds → DtL K H (vs.take n) (ds.take n)
  | _, _, 0, _ => .nil
  | _, _, _ + 1, .nil => .nil
  | _, _, n + 1, .cons h r => .cons h (DtL.take n r)
theorem DtL.drop : ∀ {vs : List V} {ds : List PyData} (n : Nat), DtL K H vs ds → DtL K H (vs.drop n) (ds.drop n)
  | _, _, 0, r => r
  | _, _, _ + 1, .nil => .nil
  | _, _, n + 1, .cons _ r => DtL.drop n r
theorem DtL.rev : ∀ {vs : List V} {ds : List PyData}, DtL K H vs ds → DtL K H vs.reverse ds.reverse
  | _, _, .nil => .nil
  | _, _, .cons h r => by
    rw [List.reverse_cons, List.reverse_cons]
    exact DtL.app (DtL.rev r) (.cons h .nil)
/-- texts -/
theorem DtL.strs : ∀ (ys : List Str), DtL K H (ys.map V.str) (ys.map PyData.str)
  | [] => .nil
  | y :: ys => .cons (.str y) (DtL.strs ys)
theorem DtL.strs_inv : ∀ {vs : List V} {ys : List Str}, DtL K H vs (ys.map PyData.str) → vs = ys.map V.str
  | _, [], .nil => rfl
  | _, y :: ys, .cons h r => by cases h; rw [DtL.strs_inv r]; rfl
theorem DtL.ints_inv : ∀ {vs : List V} {ys : List Int}, DtL K H vs (ys.map PyData.int) → vs = ys.map V.int
  | _, [], .nil => rfl
  | _, y :: ys, .cons h r => by cases h; rw [DtL.ints_inv r]; rfl
theorem DtL.bls_inv : ∀ {vs : List V} {ys : List Bool}, DtL K H vs (ys.map PyData.bool) → vs = ys.map V.bl
  | _, [], .nil => rfl
  | _, y :: ys, .cons h r => by cases h; rw [DtL.bls_inv r]; rfl
end

/-! ### lists that a def still fills: masked -/
def msk (A : List Addr) (H : Hp) : Hp := fun b => if b ∈ A then none else H b
theorem msk_nil (H : Hp) : msk [] H = H := by funext b; simp [msk]
theorem msk_out {A : List Addr} {H : Hp} {b : Addr} (h : b ∉ A) : msk A H b = H b := if_neg h
theorem msk_in {A : List Addr} {H : Hp} {b : Addr} (h : b ∈ A) : msk A H b = none := if_pos h
theorem Same.msk {A : List Addr} {H H' : Hp} (e : Same H H') : Same (msk A H) (msk A H') := fun b o h => by
  by_cases hb : b ∈ A
  · rw [msk_in hb] at h; cases h
  · rw [msk_out hb] at h ⊢; exact e b o h
theorem Same.unmsk {A : List Addr} {H : Hp} : Same (UT.msk A H) H := fun b o h => by
  by_cases hb : b ∈ A
  · rw [msk_in hb] at h; cases h
  · rw [msk_out hb] at h; exact h
theorem Same.new {H : Hp} {p : Addr} {o : HO} (h : H p = none) : Same H (upd H p o) := fun a u e => by
  rw [upd_ne (ne_of_none e h)]
  exact e
def Good (A : List Addr) (H : Hp) : Prop := ∀ a ∈ A, ∃ xs, H a = some (.lst xs)
theorem Good.mono {A : List Addr} {H H' : Hp} (g : Good A H) (e : Same H H') : Good A H' := fun a h => let ⟨xs, q⟩ := g a h; ⟨xs, e _ _ q⟩
theorem Good.nil {H : Hp} : Good [] H := fun _ h => by cases h
theorem Good.out {A : List Addr} {H : Hp} {p : Addr} (g : Good A H) (h : H p = none) : p ∉ A := fun hp => by
  obtain ⟨xs, q⟩ := g p hp
  rw [h] at q; cases q
theorem Good.cons {A : List Addr} {H : Hp} {p : Addr} {xs : List V} (g : Good A H) (h : H p = none) : Good (p :: A) (upd H p (.lst xs)) := fun a ha => by
  rcases List.mem_cons.mp ha with rfl | ha
  · exact ⟨xs, upd_same⟩
  · obtain ⟨ys, q⟩ := g a ha
    exact ⟨ys, by rw [upd_ne (ne_of_none q h)]; exact q⟩
theorem Good.set {A : List Addr} {H : Hp} {p : Addr} {xs : List V} (g : Good A H) : Good A (upd H p (.lst xs)) := fun a ha => by
  by_cases e : a = p
  · subst e; exact ⟨xs, upd_same⟩
  · obtain ⟨ys, q⟩ := g a ha
    exact ⟨ys, by rw [upd_ne e]; exact q⟩
theorem msk_new {A : List Addr} {H : Hp} {p : Addr} {o : HO} (h : H p = none) (hp : p ∉ A) : Same (msk A H) (msk A (upd H p o)) := Same.msk (Same.new h)
theorem msk_cons {A : List Addr} {H : Hp} {p : Addr} {o : HO} (h : H p = none) : Same (msk A H) (msk (p :: A) (upd H p o)) := fun b u e => by
  by_cases hb : b ∈ A
  · rw [msk_in hb] at e; cases e
  · rw [msk_out hb] at e
    have hne : b ≠ p := ne_of_none e h
    rw [msk_out (by simp [hne, hb]), upd_ne hne]
    exact e
theorem msk_set {A : List Addr} {H : Hp} {p : Addr} {o : HO} (hp : p ∈ A) : msk A (upd H p o) = msk A H := by
  funext b
  by_cases hb : b ∈ A
  · rw [msk_in hb, msk_in hb]
  · rw [msk_out hb, msk_out hb, upd_ne (fun e => hb (by rw [e]; exact hp))]
theorem msk_un {A : List Addr} {H : Hp} {p : Addr} : Same (msk (p :: A) H) (msk A H) := fun b u e => by
  by_cases hb : b ∈ p :: A
  · rw [msk_in hb] at e; cases e
  · rw [msk_out hb] at e
    rw [msk_out (fun h => hb (List.mem_cons_of_mem _ h))]
    exact e

/-! ### data that hold no list -/
mutual
def pureT : PyData → Bool
  | .none => true
  | .bool _ => true
  | .int _ => true
  | .str _ => true
  | .tuple ds => pureL ds
  | .list _ => false
  | .dict _ => false
def pureL : List PyData → Bool
  | [] => true
  | d :: ds => pureT d && pureL ds
end
mutual
theorem Dt.pure {K : PySem.W.Frag} {A : List Addr} {H : Hp} (g : Good A H) : ∀ {v : V} {d : PyData}, Dt K H v d → pureT d = true → Dt K (msk A H) v d
  | _, _, .non, _ => .non
  | _, _, .bl b, _ => .bl b
  | _, _, .int i, _ => .int i
  | _, _, .str x, _ => .str x
  | _, _, .lst h r, e => by simp [pureT] at e
  | _, _, .tup (a := a) h r, e => by
    refine .tup (a := a) ?_ (DtL.pure g r (by simpa [pureT] using e))
    rw [msk_out]
    · exact h
    · intro ha
      obtain ⟨xs, q⟩ := g a ha
      rw [h] at q; cases q
  | _, _, .scr h, e => by simp [pureT] at e
theorem DtL.pure {K : PySem.W.Frag} {A : List Addr} {H : Hp} (g : Good A H) : ∀ {vs : List V} {ds : List PyData}, DtL K H vs ds → pureL ds = true → DtL K (msk A H) vs ds
  | _, _, .nil, _ => .nil
  | _, _, .cons h r, e => by
    have e2 := Bool.and_eq_true_iff.mp (show (pureT _ && pureL _) = true by simpa [pureL] using e)
    exact .cons (Dt.pure g h e2.1) (DtL.pure g r e2.2)
end

/-! ### slots -/
inductive Sl where
  | no
  | dat (d : PyData)
  | own (ds : List PyData)
abbrev En := List Sl
def SlOk (K : PySem.W.Frag) (A : List Addr) (H : Hp) (o : Option V) : Sl → Prop
  | .no => True
  | .dat d => ∃ v, o = some v ∧ Dt K (msk A H) v d
  | .own ds => ∃ l xs, o = some (.ref l) ∧ l ∈ A ∧ H l = some (.lst xs) ∧ DtL K (msk A H) xs ds
def Rel (K : PySem.W.Frag) (A : List Addr) (H : Hp) : L2.St → En → Prop
  | [], [] => True
  | o :: σ, s :: ρ => SlOk K A H o s ∧ Rel K A H σ ρ
  | _, _ => False
section
variable {K : PySem.W.Frag} {A A' : List Addr} {H H' : Hp}
theorem SlOk.mono (e : Same H H') {o : Option V} {s : Sl} (h : SlOk K A H o s) : SlOk K A H' o s := by
  cases s with
  | no => trivial
  | dat d => obtain ⟨v, q, r⟩ := h; exact ⟨v, q, r.mono (Same.msk e)⟩
  | own ds => obtain ⟨l, xs, q, m, z, r⟩ := h; exact ⟨l, xs, q, m, e _ _ z, r.mono (Same.msk e)⟩
theorem Rel.mono (e : Same H H') : ∀ {σ : L2.St} {ρ : En}, Rel K A H σ ρ → Rel K A H' σ ρ
  | [], [], _ => trivial
  | _ :: _, _ :: _, ⟨h, r⟩ => ⟨h.mono e, Rel.mono e r⟩
theorem Rel.dat : ∀ {σ : L2.St} {ρ : En} {i : Nat} {d : PyData}, Rel K A H σ ρ → ρ[i]? = some (.dat d) → ∃ v, σ[i]? = some (some v) ∧ Dt K (msk A H) v d
  | [], [], _, _, _, e => by simp at e
  | o :: σ, s :: ρ, 0, d, ⟨h, _⟩, e => by
    simp at e; subst e
    obtain ⟨v, q, r⟩ := h
    exact ⟨v, by simp [q], r⟩
  | o :: σ, s :: ρ, i + 1, d, ⟨_, h⟩, e => by
    obtain ⟨v, q, r⟩ := Rel.dat (i := i) (d := d) h (by simpa using e)
    exact ⟨v, by simpa using q, r⟩
theorem Rel.own : ∀ {σ : L2.St} {ρ : En} {i : Nat} {ds : List PyData}, Rel K A H σ ρ → ρ[i]? = some (.own ds) → ∃ l xs, σ[i]? = some (some (.ref l)) ∧ l ∈ A ∧ H l = some (.lst xs) ∧ DtL K (msk A H) xs ds
  | [], [], _, _, _, e => by simp at e
  | o :: σ, s :: ρ, 0, d, ⟨h, _⟩, e => by
    simp at e; subst e
    obtain ⟨l, xs, q, r⟩ := h
    exact ⟨l, xs, by simp [q], r⟩
  | o :: σ, s :: ρ, i + 1, d, ⟨_, h⟩, e => by
    obtain ⟨l, xs, q, r⟩ := Rel.own (i := i) (ds := d) h (by simpa using e)
    exact ⟨l, xs, by simpa using q, r⟩
theorem Rel.set {o : Option V} {s : Sl} (hs : SlOk K A H o s) : ∀ {σ : L2.St} {ρ : En} (i : Nat), Rel K A H σ ρ → Rel K A H (σ.set i o) (ρ.set i s)
  | [], [], _, _ => trivial
  | _ :: _, _ :: _, 0, ⟨_, r⟩ => ⟨hs, r⟩
  | _ :: _, _ :: _, i + 1, ⟨h, r⟩ => ⟨h, Rel.set hs i r⟩
/-- less is told -/
def Le : En → En → Prop
  | [], [] => True
  | s' :: ρ', s :: ρ => (s' = .no ∨ s' = s) ∧ Le ρ' ρ
  | _, _ => False
theorem Rel.le : ∀ {σ : L2.St} {ρ ρ' : En}, Le ρ' ρ → Rel K A H σ ρ → Rel K A H σ ρ'
  | [], [], [], _, _ => trivial
  | [], [], _ :: _, l, _ => l.elim
  | _ :: _, _ :: _, [], l, _ => l.elim
  | o :: σ, s :: ρ, s' :: ρ', ⟨l, ls⟩, ⟨h, r⟩ => ⟨by
      rcases l with rfl | rfl
      · trivial
      · exact h, Rel.le ls r⟩
theorem Le.refl : ∀ (ρ : En), Le ρ ρ
  | [] => trivial
  | _ :: ρ => ⟨.inr rfl, Le.refl ρ⟩
/-- the owned list as data -/
def Sl.un : Sl → Sl
  | .own ds => .dat (.list ds)
  | s => s
theorem Rel.un : ∀ {σ : L2.St} {ρ : En}, Rel K A H σ ρ → Rel K [] H σ (ρ.map Sl.un)
  | [], [], _ => trivial
  | o :: σ, s :: ρ, ⟨h, r⟩ => ⟨by
      cases s with
      | no => trivial
      | dat d =>
        obtain ⟨v, q, z⟩ := h
        exact ⟨v, q, by rw [msk_nil]; exact z.mono Same.unmsk⟩
      | own ds =>
        obtain ⟨l, xs, q, _, z, y⟩ := h
        exact ⟨.ref l, q, by rw [msk_nil]; exact .lst z (y.mono Same.unmsk)⟩, Rel.un r⟩
/-- a list more that is masked -/
theorem Rel.more {p : Addr} {xs : List V} (hp : H p = none) : ∀ {σ : L2.St} {ρ : En}, Rel K A H σ ρ → Rel K (p :: A) (upd H p (.lst xs)) σ ρ
  | [], [], _ => trivial
  | o :: σ, s :: ρ, ⟨h, r⟩ => ⟨by
      cases s with
      | no => trivial
      | dat d => obtain ⟨v, q, z⟩ := h; exact ⟨v, q, z.mono (msk_cons hp)⟩
      | own ds =>
        obtain ⟨l, ys, q, m, z, y⟩ := h
        exact ⟨l, ys, q, List.mem_cons_of_mem _ m, by rw [upd_ne (ne_of_none z hp)]; exact z, y.mono (msk_cons hp)⟩, Rel.more hp r⟩
def noOwn : En → Bool
  | [] => true
  | .own _ :: _ => false
  | _ :: ρ => noOwn ρ
/-- a masked list that no slot owns changes -/
theorem Rel.chg {p : Addr} {o' : HO} (hp : p ∈ A) : ∀ {σ : L2.St} {ρ : En}, (∀ (i : Nat) (l : Addr) (ds : List PyData), ρ[i]? = some (Sl.own ds) → σ[i]? = some (some (V.ref l)) → l ≠ p) → Rel K A H σ ρ → Rel K A (upd H p o') σ ρ
  | [], [], _, _ => trivial
  | o :: σ, s :: ρ, hn, ⟨h, r⟩ => ⟨by
      cases s with
      | no => trivial
      | dat d => obtain ⟨v, q, z⟩ := h; exact ⟨v, q, by rw [msk_set hp]; exact z⟩
      | own ds =>
        obtain ⟨l, ys, q, m, z, y⟩ := h
        have ne : l ≠ p := hn 0 l ds rfl (by simp [q])
        exact ⟨l, ys, q, m, by rw [upd_ne ne]; exact z, by rw [msk_set hp]; exact y⟩, Rel.chg hp (fun i l ds h1 h2 => hn (i + 1) l ds (by simpa using h1) (by simpa using h2)) r⟩
theorem noOwn_get : ∀ {ρ : En} {i : Nat} {ds : List PyData}, noOwn ρ = true → ρ[i]? = some (.own ds) → False
  | [], _, _, _, h => by simp at h
  | .own _ :: _, _, _, e, _ => by simp [noOwn] at e
  | .no :: ρ, 0, _, _, h => by simp at h
  | .dat _ :: ρ, 0, _, _, h => by simp at h
  | .no :: ρ, i + 1, _, e, h => noOwn_get (ρ := ρ) (by simpa [noOwn] using e) (by simpa using h)
  | .dat _ :: ρ, i + 1, _, e, h => noOwn_get (ρ := ρ) (by simpa [noOwn] using e) (by simpa using h)
end
end UT
end
section
set_option Elab.async false
set_option linter.all false
set_option maxRecDepth 100000
set_option maxHeartbeats 4000000
/-! the data layer: expressions -/
namespace UT
open PySem PySem.Spec PyProof.Rows L2

/-! ### what an expression comes to, as data -/
/-- the masked lists: none, where z says so -/
structure Mk' (z : Bool) (A : List Addr) (H : Hp) : Prop where
  good : Good A H
  nil : z = true → A = []
theorem Mk'.mono {z : Bool} {A : List Addr} {H H' : Hp} (g : Mk' z A H) (e : Same H H') : Mk' z A H' := ⟨g.good.mono e, g.nil⟩
theorem Mk'.out {z : Bool} {A : List Addr} {H : Hp} {p : Addr} (g : Mk' z A H) (h : H p = none) : p ∉ A := g.good.out h
theorem Mk'.no {z : Bool} {H : Hp} : Mk' z [] H := ⟨Good.nil, fun _ => rfl⟩
def EvJ (K : PySem.W.Frag) (z : Bool) (te : TE) (ρ : En) (m : Option PyData) : Prop :=
  ∀ (A : List Addr) (σ : L2.St) (H : Hp) (d : PyData), Mk' z A H → Rel K A H σ ρ → m = some d → ∀ Q : VK, (∀ v H', Same H H' → Dt K (msk A H') v d → Q v H') → te σ H Q
def AvJ (K : PySem.W.Frag) (z : Bool) (ta : TA) (ρ : En) (m : Option (List PyData)) : Prop :=
  ∀ (A : List Addr) (σ : L2.St) (H : Hp) (ds : List PyData), Mk' z A H → Rel K A H σ ρ → m = some ds → ∀ Q : List V → Hp → Prop, (∀ vs H', Same H H' → DtL K (msk A H') vs ds → Q vs H') → ta σ H Q
def TvJ (K : PySem.W.Frag) (z : Bool) (tt : TT) (ρ : En) (m : Option Bool) : Prop :=
  ∀ (A : List Addr) (σ : L2.St) (H : Hp) (b : Bool), Mk' z A H → Rel K A H σ ρ → m = some b → ∀ Q : Bool → Hp → Prop, (∀ H', Same H H' → Q b H') → tt σ H Q
structure PD (X : Cx) (z : Bool) (e : Expr) (te : TE) (ρ : En) (m : Option PyData) : Prop where
  pe : PE X e te
  ev : EvJ X.K z te ρ m
structure AD (X : Cx) (z : Bool) (es : List Expr) (ta : TA) (ρ : En) (m : Option (List PyData)) : Prop where
  pa : PA X es ta
  ev : AvJ X.K z ta ρ m
structure TD (X : Cx) (z : Bool) (e : Expr) (tt : TT) (ρ : En) (m : Option Bool) : Prop where
  pt : PT X e tt
  ev : TvJ X.K z tt ρ m
structure WD (X : Cx) (z : Bool) (e : Expr) (tt : TT) (ρ : En) (m : Option Bool) : Prop where
  pw : PW X e tt
  ev : TvJ X.K z tt ρ m
def bind2 (ma mb : Option PyData) (f : PyData → PyData → Option PyData) : Option PyData := ma.bind fun a => mb.bind fun b => f a b
theorem bind2_some {ma mb : Option PyData} {f : PyData → PyData → Option PyData} {d : PyData} (h : bind2 ma mb f = some d) : ∃ a b, ma = some a ∧ mb = some b ∧ f a b = some d := by
  unfold bind2 at h
  obtain ⟨a, ha, h⟩ := Option.bind_eq_some_iff.mp h
  obtain ⟨b, hb, h⟩ := Option.bind_eq_some_iff.mp h
  exact ⟨a, b, ha, hb, h⟩
/-- operators by data -/
def RD (K : PySem.W.Frag) (r : R2) (f : PyData → PyData → Option PyData) : Prop :=
  ∀ (A : List Addr) (H : Hp) (x y : V) (d e z : PyData), Good A H → Dt K (msk A H) x d → Dt K (msk A H) y e → f d e = some z → ∀ Q : VK, (∀ v H', Same H H' → Dt K (msk A H') v z → Q v H') → r x y H Q
def RU (K : PySem.W.Frag) (r : V → Hp → VK → Prop) (f : PyData → Option PyData) : Prop :=
  ∀ (A : List Addr) (H : Hp) (x : V) (d z : PyData), Good A H → Dt K (msk A H) x d → f d = some z → ∀ Q : VK, (∀ v H', Same H H' → Dt K (msk A H') v z → Q v H') → r x H Q
def RC (K : PySem.W.Frag) (r : List V → Hp → VK → Prop) (f : List PyData → Option PyData) : Prop :=
  ∀ (A : List Addr) (H : Hp) (xs : List V) (ds : List PyData) (z : PyData), Good A H → DtL K (msk A H) xs ds → f ds = some z → ∀ Q : VK, (∀ v H', Same H H' → Dt K (msk A H') v z → Q v H') → r xs H Q
/-- a text's method -/
def RM (K : PySem.W.Frag) (r : V → List V → Hp → VK → Prop) (f : PyData → List PyData → Option PyData) : Prop :=
  ∀ (A : List Addr) (H : Hp) (x : V) (xs : List V) (d : PyData) (ds : List PyData) (z : PyData), Good A H → Dt K (msk A H) x d → DtL K (msk A H) xs ds → f d ds = some z → ∀ Q : VK, (∀ v H', Same H H' → Dt K (msk A H') v z → Q v H') → r x xs H Q

section
variable {K : PySem.W.Frag} {z : Bool} {ta tb te : TE} {ρ : En} {ma mb : Option PyData} {r : R2} {f : PyData → PyData → Option PyData}
theorem ej_op (hr : RD K r f) (ha : EvJ K z ta ρ ma) (hb : EvJ K z tb ρ mb) : EvJ K z (tOp r ta tb) ρ (bind2 ma mb f) := by
  intro A σ H d g rel hm Q q
  obtain ⟨a, b, e1, e2, e3⟩ := bind2_some hm
  refine ha A σ H a g rel e1 _ fun x H1 s1 d1 => ?_
  refine hb A σ H1 b (g.mono s1) (rel.mono s1) e2 _ fun y H2 s2 d2 => ?_
  exact hr A H2 x y a b d ((g.mono s1).mono s2).good (d1.mono (Same.msk s2)) d2 e3 Q fun v H3 s3 d3 => q v H3 ((s1.trans s2).trans s3) d3
theorem ej_un {r : V → Hp → VK → Prop} {f : PyData → Option PyData} (hr : RU K r f) (ha : EvJ K z ta ρ ma) : EvJ K z (tUn r ta) ρ (ma.bind f) := by
  intro A σ H d g rel hm Q q
  obtain ⟨a, e1, e2⟩ := Option.bind_eq_some_iff.mp hm
  refine ha A σ H a g rel e1 _ fun x H1 s1 d1 => ?_
  exact hr A H1 x a d (g.mono s1).good d1 e2 Q fun v H3 s3 d3 => q v H3 (s1.trans s3) d3
theorem aj_nil : AvJ K z tNil ρ (some []) := by
  intro A σ H ds g rel hm Q q
  cases hm
  exact q _ _ (Same.refl H) .nil
def consM (ma : Option PyData) (mb : Option (List PyData)) : Option (List PyData) := ma.bind fun a => mb.bind fun b => some (a :: b)
theorem consM_some {ma : Option PyData} {mb : Option (List PyData)} {d : List PyData} (h : consM ma mb = some d) : ∃ a b, ma = some a ∧ mb = some b ∧ d = a :: b := by
  unfold consM at h
  obtain ⟨a, ha, h⟩ := Option.bind_eq_some_iff.mp h
  obtain ⟨b, hb, h⟩ := Option.bind_eq_some_iff.mp h
  cases h
  exact ⟨a, b, ha, hb, rfl⟩
theorem aj_cons {tr : TA} {mr : Option (List PyData)} (ha : EvJ K z ta ρ ma) (hr : AvJ K z tr ρ mr) : AvJ K z (tCons ta tr) ρ (consM ma mr) := by
  intro A σ H ds g rel hm Q q
  obtain ⟨a, b, e1, e2, rfl⟩ := consM_some hm
  refine ha A σ H a g rel e1 _ fun x H1 s1 d1 => ?_
  refine hr A σ H1 b (g.mono s1) (rel.mono s1) e2 _ fun xs H2 s2 d2 => ?_
  exact q _ H2 (s1.trans s2) (.cons (d1.mono (Same.msk s2)) d2)
/-- items of a list or a tuple -/
def itemsOf : PyData → Option (List PyData)
  | .list ds => some ds
  | .tuple ds => some ds
  | _ => none
def starM (ma : Option PyData) (mb : Option (List PyData)) : Option (List PyData) := ma.bind fun a => (itemsOf a).bind fun ds => mb.bind fun b => some (ds ++ b)
theorem aj_star {tr : TA} {mr : Option (List PyData)} (ha : EvJ K z ta ρ ma) (hr : AvJ K z tr ρ mr) : AvJ K z (StX.tStar K ta tr) ρ (starM ma mr) := by
  intro A σ H ds g rel hm Q q
  unfold starM at hm
  obtain ⟨a, e1, hm⟩ := Option.bind_eq_some_iff.mp hm
  obtain ⟨is, e2, hm⟩ := Option.bind_eq_some_iff.mp hm
  obtain ⟨b, e3, hm⟩ := Option.bind_eq_some_iff.mp hm
  cases hm
  refine ha A σ H a g rel e1 _ fun x H1 s1 d1 => ?_
  have go : ∀ (p : Addr) (xs : List V), x = .ref p → (SqT K H1 p xs ∨ SqL K H1 p xs) → DtL K (msk A H1) xs is → (∃ p xs, x = V.ref p ∧ (SqT K H1 p xs ∨ SqL K H1 p xs) ∧ tr σ H1 fun ys H2 => Q (xs ++ ys) H2) := by
    intro p xs ex hs dl
    refine ⟨p, xs, ex, hs, hr A σ H1 b (g.mono s1) (rel.mono s1) e3 _ fun ys H2 s2 d2 => ?_⟩
    exact q _ H2 (s1.trans s2) (DtL.app (dl.mono (Same.msk s2)) d2)
  cases d1 with
  | lst h r => cases e2; exact go _ _ rfl (.inr (.inl (.inl (Same.unmsk _ _ h)))) r
  | tup h r => cases e2; exact go _ _ rfl (.inl (.inl (.inl (Same.unmsk _ _ h)))) r
  | _ => cases e2
/-- a display -/
def tupM (m : Option (List PyData)) : Option PyData := m.bind fun ds => if ds.length ≤ 100000 then some (.tuple ds) else none
def lstM (m : Option (List PyData)) : Option PyData := m.bind fun ds => if ds.length ≤ 100000 then some (.list ds) else none
theorem line_of {n : Nat} (h : n ≤ 100000) : n ≤ sizeLine := Nat.le_trans h (by decide)
theorem ej_tup {ta : TA} {m : Option (List PyData)} (h : AvJ K z ta ρ m) : EvJ K z (tTup ta) ρ (tupM m) := by
  intro A σ H d g rel hm Q q
  unfold tupM at hm
  obtain ⟨ds, e1, hm⟩ := Option.bind_eq_some_iff.mp hm
  split at hm
  · rename_i hl
    cases hm
    refine h A σ H ds g rel e1 _ fun vs H1 s1 d1 => ⟨line_of (by rw [d1.len]; exact hl), fun p hp => ?_⟩
    have hpA := (g.mono s1).out hp
    refine q _ _ (s1.trans (Same.new hp)) (.tup (by rw [msk_out hpA]; exact upd_same) (d1.mono (Same.msk (Same.new hp))))
  · cases hm
theorem ej_lst {ta : TA} {m : Option (List PyData)} (h : AvJ K z ta ρ m) : EvJ K z (tLst ta) ρ (lstM m) := by
  intro A σ H d g rel hm Q q
  unfold lstM at hm
  obtain ⟨ds, e1, hm⟩ := Option.bind_eq_some_iff.mp hm
  split at hm
  · rename_i hl
    cases hm
    refine h A σ H ds g rel e1 _ fun vs H1 s1 d1 => ⟨line_of (by rw [d1.len]; exact hl), fun p hp => ?_⟩
    have hpA := (g.mono s1).out hp
    refine q _ _ (s1.trans (Same.new hp)) (.lst (by rw [msk_out hpA]; exact upd_same) (d1.mono (Same.msk (Same.new hp))))
  · cases hm
/-- with a list that the def fills, as data; the answer holds no list -/
def pureO (m : Option PyData) : Option PyData := m.bind fun d => if pureT d = true then some d else none
theorem ej_un_ {ρ' : En} {m : Option PyData} (h : EvJ K z te ρ' m) (e : ρ.map Sl.un = ρ') : EvJ K z te ρ (pureO m) := by
  intro A σ H d g rel hm Q q
  unfold pureO at hm
  obtain ⟨d', e1, hm⟩ := Option.bind_eq_some_iff.mp hm
  split at hm
  · rename_i hp
    cases hm
    subst e
    refine h [] σ H d Mk'.no rel.un e1 Q fun v H' s' dv => q v H' s' (Dt.pure (g.mono s').good (by rw [msk_nil] at dv; exact dv) hp)
  · cases hm
theorem tj_un_ {ρ' : En} {tt : TT} {m : Option Bool} (h : TvJ K z tt ρ' m) (e : ρ.map Sl.un = ρ') : TvJ K z tt ρ m := by
  intro A σ H d g rel hm Q q
  subst e
  exact h [] σ H d Mk'.no rel.un hm Q q
def boolM (m : Option PyData) : Option Bool := m.bind fun d => match d with
  | .bool b => some b
  | _ => none
theorem boolM_some {m : Option PyData} {b : Bool} (h : boolM m = some b) : m = some (.bool b) := by
  unfold boolM at h
  obtain ⟨d, e1, h⟩ := Option.bind_eq_some_iff.mp h
  cases d <;> simp at h
  subst h; exact e1
theorem tj_B {m : Option PyData} (h : EvJ K z te ρ m) : TvJ K z (tB te) ρ (boolM m) := by
  intro A σ H b g rel hm Q q
  refine h A σ H _ g rel (boolM_some hm) _ fun v H1 s1 d1 => ?_
  cases d1
  exact ⟨b, rfl, q H1 s1⟩
theorem tj_test {m : Option PyData} (h : EvJ K z te ρ m) : TvJ K z (tTest te) ρ (boolM m) := by
  intro A σ H b g rel hm Q q
  refine h A σ H _ g rel (boolM_some hm) _ fun v H1 s1 d1 => ?_
  cases d1
  exact ⟨b, rfl, q H1 s1⟩
def notM (m : Option Bool) : Option Bool := m.bind fun b => some (!b)
def andM (ma mb : Option Bool) : Option Bool := ma.bind fun a => if a = true then mb else some false
def orM (ma mb : Option Bool) : Option Bool := ma.bind fun a => if a = true then some true else mb
theorem tj_not {tt : TT} {m : Option Bool} (h : TvJ K z tt ρ m) : TvJ K z (tNot tt) ρ (notM m) := by
  intro A σ H b g rel hm Q q
  unfold notM at hm
  obtain ⟨d, e1, hm⟩ := Option.bind_eq_some_iff.mp hm
  cases hm
  exact h A σ H d g rel e1 _ fun H1 s1 => q H1 s1
theorem tj_and {tt tu : TT} {ma mb : Option Bool} (h1 : TvJ K z tt ρ ma) (h2 : TvJ K z tu ρ mb) : TvJ K z (tAnd tt tu) ρ (andM ma mb) := by
  intro A σ H b g rel hm Q q
  unfold andM at hm
  obtain ⟨d, e1, hm⟩ := Option.bind_eq_some_iff.mp hm
  refine h1 A σ H d g rel e1 _ fun H1 s1 => ?_
  cases d with
  | true => exact iteT (h2 A σ H1 b (g.mono s1) (rel.mono s1) (by simpa using hm) _ fun H2 s2 => q H2 (s1.trans s2))
  | false =>
    have e : b = false := by simpa using hm.symm
    subst e
    exact iteF (q H1 s1)
theorem tj_or {tt tu : TT} {ma mb : Option Bool} (h1 : TvJ K z tt ρ ma) (h2 : TvJ K z tu ρ mb) : TvJ K z (tOr tt tu) ρ (orM ma mb) := by
  intro A σ H b g rel hm Q q
  unfold orM at hm
  obtain ⟨d, e1, hm⟩ := Option.bind_eq_some_iff.mp hm
  refine h1 A σ H d g rel e1 _ fun H1 s1 => ?_
  cases d with
  | false => exact iteF (h2 A σ H1 b (g.mono s1) (rel.mono s1) (by simpa using hm) _ fun H2 s2 => q H2 (s1.trans s2))
  | true =>
    have e : b = true := by simpa using hm.symm
    subst e
    exact iteT (q H1 s1)
/-- and, or, not as values -/
def andD (ma mb : Option PyData) : Option PyData := ma.bind fun a => match a with
  | .bool true => mb
  | .bool false => some (.bool false)
  | _ => none
def orD (ma mb : Option PyData) : Option PyData := ma.bind fun a => match a with
  | .bool false => mb
  | .bool true => some (.bool true)
  | _ => none
def notD (ma : Option PyData) : Option PyData := ma.bind fun a => match a with
  | .bool b => some (.bool (!b))
  | _ => none
theorem ej_and (ha : EvJ K z ta ρ ma) (hb : EvJ K z tb ρ mb) : EvJ K z (tAndV ta tb) ρ (andD ma mb) := by
  intro A σ H d g rel hm Q q
  unfold andD at hm
  obtain ⟨a, e1, hm⟩ := Option.bind_eq_some_iff.mp hm
  refine ha A σ H a g rel e1 _ fun x H1 s1 d1 => ?_
  cases d1 with
  | bl c =>
    refine ⟨c, rfl, ?_⟩
    cases c with
    | true => exact iteT (hb A σ H1 d (g.mono s1) (rel.mono s1) hm _ fun v H2 s2 dv => q v H2 (s1.trans s2) dv)
    | false =>
      cases hm
      exact iteF (q _ H1 s1 (.bl false))
  | _ => cases hm
theorem ej_or (ha : EvJ K z ta ρ ma) (hb : EvJ K z tb ρ mb) : EvJ K z (tOrV ta tb) ρ (orD ma mb) := by
  intro A σ H d g rel hm Q q
  unfold orD at hm
  obtain ⟨a, e1, hm⟩ := Option.bind_eq_some_iff.mp hm
  refine ha A σ H a g rel e1 _ fun x H1 s1 d1 => ?_
  cases d1 with
  | bl c =>
    refine ⟨c, rfl, ?_⟩
    cases c with
    | false => exact iteF (hb A σ H1 d (g.mono s1) (rel.mono s1) hm _ fun v H2 s2 dv => q v H2 (s1.trans s2) dv)
    | true =>
      cases hm
      exact iteT (q _ H1 s1 (.bl true))
  | _ => cases hm
theorem ej_not (ha : EvJ K z ta ρ ma) : EvJ K z (tNotV ta) ρ (notD ma) := by
  intro A σ H d g rel hm Q q
  unfold notD at hm
  obtain ⟨a, e1, hm⟩ := Option.bind_eq_some_iff.mp hm
  refine ha A σ H a g rel e1 _ fun x H1 s1 d1 => ?_
  cases d1 with
  | bl c =>
    cases hm
    exact ⟨c, rfl, q _ H1 s1 (.bl _)⟩
  | _ => cases hm
/-- truth of a list, a tuple, a bool -/
def truM (m : Option PyData) : Option Bool := m.bind fun d => match d with
  | .list ds => some (!ds.isEmpty)
  | .tuple ds => some (!ds.isEmpty)
  | .bool b => some b
  | _ => none
theorem isEmpty_dt {H : Hp} {xs : List V} {ds : List PyData} (r : DtL K H xs ds) : xs.isEmpty = ds.isEmpty := by cases r <;> rfl
theorem tj_tru {m : Option PyData} (h : EvJ K z te ρ m) : TvJ K z (fun σ H Q => te σ H fun x H' => ∃ k, TruV K x H' k ∧ Q k H') ρ (truM m) := by
  intro A σ H b g rel hm Q q
  unfold truM at hm
  obtain ⟨a, e1, hm⟩ := Option.bind_eq_some_iff.mp hm
  refine h A σ H a g rel e1 _ fun x H1 s1 d1 => ?_
  cases d1 with
  | bl c => cases hm; exact ⟨_, rfl, q H1 s1⟩
  | lst hh r => cases hm; exact ⟨_, .inl ⟨_, .inl (.inl (Same.unmsk _ _ hh)), by rw [isEmpty_dt r]⟩, q H1 s1⟩
  | tup hh r => cases hm; exact ⟨_, .inr (.inl ⟨_, .inl (.inl (Same.unmsk _ _ hh)), by rw [isEmpty_dt r]⟩), q H1 s1⟩
  | _ => cases hm
end
end UT
end
section
set_option Elab.async false
set_option linter.all false
set_option maxRecDepth 100000
set_option maxHeartbeats 4000000
/-! the data layer: what each operator does to data -/
namespace UT
open PySem PySem.Spec PyProof.Rows L2

def addI : PyData → PyData → Option PyData
  | .int i, .int j => some (.int (i + j))
  | _, _ => none
def subI : PyData → PyData → Option PyData
  | .int i, .int j => some (.int (i - j))
  | _, _ => none
def mulI : PyData → PyData → Option PyData
  | .int i, .int j => if i.natAbs < 2 ^ 64 ∨ j.natAbs < 2 ^ 64 then some (.int (i * j)) else none
  | _, _ => none
def modI : PyData → PyData → Option PyData
  | .int i, .int j => if j ≠ 0 then some (.int (i.fmod j)) else none
  | _, _ => none
def fdivI : PyData → PyData → Option PyData
  | .int i, .int j => if j ≠ 0 ∧ j.natAbs < 1073741824 then some (.int (i.fdiv j)) else none
  | _, _ => none
def powI : PyData → PyData → Option PyData
  | .int i, .int j => if 0 ≤ j ∧ j ≤ 1000000 ∧ i.natAbs < 2 ^ 64 then some (.int (i ^ j.toNat)) else none
  | _, _ => none
def addS : PyData → PyData → Option PyData
  | .str a, .str b => if a.length + b.length ≤ sizeLine then some (.str (a ++ b)) else none
  | _, _ => none
def catL : PyData → PyData → Option PyData
  | .list a, .list b => if a.length + b.length ≤ 100000 then some (.list (a ++ b)) else none
  | _, _ => none
def catT : PyData → PyData → Option PyData
  | .tuple (a :: as), .tuple (b :: bs) => if (a :: as).length + (b :: bs).length ≤ 100000 then some (.tuple ((a :: as) ++ (b :: bs))) else none
  | _, _ => none
def repL : PyData → PyData → Option PyData
  | .list a, .int k => if 0 ≤ k ∧ k < 100000 ∧ a.length * k.toNat ≤ 100000 then some (.list (List.replicate k.toNat a).flatten) else none
  | _, _ => none
def eqS : PyData → PyData → Option PyData
  | .int i, .int j => some (.bool (decide (i = j)))
  | .str i, .str j => some (.bool (decide (i = j)))
  | .bool i, .bool j => some (.bool (decide (i = j)))
  | _, _ => none
def neS : PyData → PyData → Option PyData
  | .int i, .int j => some (.bool (!decide (i = j)))
  | .str i, .str j => some (.bool (!decide (i = j)))
  | .bool i, .bool j => some (.bool (!decide (i = j)))
  | _, _ => none
def ltI : PyData → PyData → Option PyData
  | .int i, .int j => some (.bool (decide (i < j)))
  | _, _ => none
def leI : PyData → PyData → Option PyData
  | .int i, .int j => some (.bool (decide (i ≤ j)))
  | _, _ => none
def gtI : PyData → PyData → Option PyData
  | .int i, .int j => some (.bool (decide (j < i)))
  | _, _ => none
def geI : PyData → PyData → Option PyData
  | .int i, .int j => some (.bool (decide (j ≤ i)))
  | _, _ => none
def isN : PyData → PyData → Option PyData
  | .none, .none => some (.bool true)
  | _, .none => some (.bool false)
  | _, _ => none
def isnN : PyData → PyData → Option PyData
  | .none, .none => some (.bool false)
  | _, .none => some (.bool true)
  | _, _ => none
def intsOf : List PyData → Option (List Int)
  | [] => some []
  | .int i :: ds => (intsOf ds).map (i :: ·)
  | _ => none
def strsOf : List PyData → Option (List Str)
  | [] => some []
  | .str i :: ds => (strsOf ds).map (i :: ·)
  | _ => none
def bolsOf : List PyData → Option (List Bool)
  | [] => some []
  | .bool i :: ds => (bolsOf ds).map (i :: ·)
  | _ => none
def leT : PyData → PyData → Option PyData
  | .tuple a, .tuple b => (intsOf a).bind fun ns => (intsOf b).bind fun ms =>
      some (.bool (Ob.lexAt (fun j => decide (ns.getD j 0 = ms.getD j 0)) (fun j => decide (ns.getD j 0 ≤ ms.getD j 0)) (decide (ns.length ≤ ms.length)) 0 (min ns.length ms.length)))
  | _, _ => none
/-- a text in a tuple of texts -/
def inT : PyData → PyData → Option PyData
  | .str x, .tuple b => (strsOf b).bind fun ys => some (.bool (ys.contains x))
  | _, _ => none
def ninT : PyData → PyData → Option PyData
  | .str x, .tuple b => (strsOf b).bind fun ys => some (.bool (!ys.contains x))
  | _, _ => none
/-- one sign in a text -/
def ninS : PyData → PyData → Option PyData
  | .str ⟨⟨[c]⟩⟩, .str z => some (.bool (!decide (c ∈ z.cps.toList)))
  | _, _ => none
def idx : PyData → PyData → Option PyData
  | .list a, .int i => atI a i
  | .tuple a, .int i => atI a i
  | .dict a, .int i => (atI a i).map (·.2)
  | .str z, .int i => if z.length ≤ sizeLine then (atI z.cps.toList i).map fun c => .str ⟨#[c]⟩ else none
  | _, _ => none
def cutD (xs : List PyData) (lo hi : Option Int) : List PyData := (xs.drop (HT.sIx xs.length 0 lo)).take (HT.sIx xs.length xs.length hi - HT.sIx xs.length 0 lo)
def slcL (d : PyData) (lo hi : Option Int) : Option PyData := match d with
  | .list a => some (.list (cutD a lo hi))
  | _ => none
def slcS (d : PyData) (lo hi : Option Int) : Option PyData := match d with
  | .str z => if z.length ≤ sizeLine then some (.str (cutS z lo hi)) else none
  | _ => none
def slcT (d : PyData) (lo hi : Option Int) : Option PyData := match d with
  | .tuple a => if HT.sIx a.length 0 lo = 0 ∧ HT.sIx a.length a.length hi = a.length then none else some (.tuple (cutD a lo hi))
  | _ => none
def negI : PyData → Option PyData
  | .int i => some (.int (-i))
  | _ => none
section
variable {K : PySem.W.Frag}
theorem rd_I0 {g : Int → Int → PyData} {gv : Int → Int → V} {f : PyData → PyData → Option PyData} (hf : ∀ d e z, f d e = some z → ∃ i j, d = .int i ∧ e = .int j ∧ z = g i j) (hg : ∀ i j K H, Dt K H (gv i j) (g i j)) : RD K (rI0 gv) f := by
  intro A H x y d e z g' dx dy hf' Q q
  obtain ⟨i, j, rfl, rfl, rfl⟩ := hf d e z hf'
  cases dx; cases dy
  exact ⟨i, j, rfl, rfl, q _ H (Same.refl H) (hg i j K _)⟩
theorem rd_add : RD K (rI0 fun i j => .int (i + j)) addI := rd_I0 (g := fun i j => .int (i + j)) (fun d e z h => by cases d <;> cases e <;> simp [addI] at h; exact ⟨_, _, rfl, rfl, h.symm⟩) fun i j K H => .int _
theorem rd_sub : RD K (rI0 fun i j => .int (i - j)) subI := rd_I0 (g := fun i j => .int (i - j)) (fun d e z h => by cases d <;> cases e <;> simp [subI] at h; exact ⟨_, _, rfl, rfl, h.symm⟩) fun i j K H => .int _
theorem rd_lt : RD K (rI0 fun i j => .bl (decide (i < j))) ltI := rd_I0 (g := fun i j => .bool (decide (i < j))) (fun d e z h => by cases d <;> cases e <;> simp [ltI] at h; exact ⟨_, _, rfl, rfl, h.symm⟩) fun i j K H => .bl _
theorem rd_le : RD K (rI0 fun i j => .bl (decide (i ≤ j))) leI := rd_I0 (g := fun i j => .bool (decide (i ≤ j))) (fun d e z h => by cases d <;> cases e <;> simp [leI] at h; exact ⟨_, _, rfl, rfl, h.symm⟩) fun i j K H => .bl _
theorem rd_gt : RD K (rI0 fun i j => .bl (decide (j < i))) gtI := rd_I0 (g := fun i j => .bool (decide (j < i))) (fun d e z h => by cases d <;> cases e <;> simp [gtI] at h; exact ⟨_, _, rfl, rfl, h.symm⟩) fun i j K H => .bl _
theorem rd_ge : RD K (rI0 fun i j => .bl (decide (j ≤ i))) geI := rd_I0 (g := fun i j => .bool (decide (j ≤ i))) (fun d e z h => by cases d <;> cases e <;> simp [geI] at h; exact ⟨_, _, rfl, rfl, h.symm⟩) fun i j K H => .bl _
theorem rd_I {C : Int → Int → Prop} {g : Int → Int → Int} {f : PyData → PyData → Option PyData} (hf : ∀ d e z, f d e = some z → ∃ i j, d = .int i ∧ e = .int j ∧ C i j ∧ z = .int (g i j)) : RD K (rI C fun i j => .int (g i j)) f := by
  intro A H x y d e z g' dx dy hf' Q q
  obtain ⟨i, j, rfl, rfl, c, rfl⟩ := hf d e z hf'
  cases dx; cases dy
  exact ⟨i, j, rfl, rfl, c, q _ H (Same.refl H) (.int _)⟩
theorem rd_mul : RD K (rI CMul fun i j => .int (i * j)) mulI := rd_I fun d e z h => by
  cases d <;> cases e <;> simp only [mulI] at h <;> first | (cases h; done) | skip
  rename_i i j
  split at h
  · rename_i hc
    cases h
    refine ⟨i, j, rfl, rfl, ?_, rfl⟩
    rcases hc with hc | hc
    · exact .inl ⟨by omega, by omega⟩
    · exact .inr ⟨by omega, by omega⟩
  · cases h
theorem rd_mod : RD K (rI (fun _ j => j ≠ 0) fun i j => .int (i.fmod j)) modI := rd_I fun d e z h => by
  cases d <;> cases e <;> simp only [modI] at h <;> first | (cases h; done) | skip
  rename_i i j
  split at h
  · rename_i hc; cases h; exact ⟨i, j, rfl, rfl, hc, rfl⟩
  · cases h
theorem rd_fdiv : RD K (rI CDivN fun i j => .int (i.fdiv j)) fdivI := rd_I fun d e z h => by
  cases d <;> cases e <;> simp only [fdivI] at h <;> first | (cases h; done) | skip
  rename_i i j
  split at h
  · rename_i hc; cases h; exact ⟨i, j, rfl, rfl, hc, rfl⟩
  · cases h
theorem rd_pow : RD K (rI CPow fun i j => .int (i ^ j.toNat)) powI := rd_I fun d e z h => by
  cases d <;> cases e <;> simp only [powI] at h <;> first | (cases h; done) | skip
  rename_i i j
  split at h
  · rename_i hc; cases h; exact ⟨i, j, rfl, rfl, hc, rfl⟩
  · cases h
theorem rd_addS : RD K (fun x y H Q => ∃ i j, x = .str i ∧ y = .str j ∧ i.length + j.length ≤ sizeLine ∧ Q (.str (i ++ j)) H) addS := by
  intro A H x y d e z g' dx dy h Q q
  cases dx <;> cases dy <;> simp only [addS] at h <;> first | (cases h; done) | skip
  rename_i i j
  split at h
  · rename_i hc; cases h; exact ⟨i, j, rfl, rfl, hc, q _ H (Same.refl H) (.str _)⟩
  · cases h
theorem rd_cat : RD K rCat catL := by
  intro A H x y d e z g' dx dy h Q q
  cases dx <;> cases dy <;> simp only [catL] at h <;> first | (cases h; done) | skip
  rename_i h1 r1 _ _ _ h2 r2
  split at h
  · rename_i hc
    cases h
    refine ⟨_, _, _, _, rfl, rfl, Same.unmsk _ _ h1, Same.unmsk _ _ h2, line_of (by rw [r1.len, r2.len]; exact hc), fun p hp => ?_⟩
    refine q _ _ (Same.new hp) (.lst (by rw [msk_out (g'.out hp)]; exact upd_same) ((DtL.app r1 r2).mono (Same.msk (Same.new hp))))
  · cases h
theorem rd_catT : RD K (rCatT K) catT := by
  intro A H x y d e z g' dx dy h Q q
  cases dx with
  | tup h1 r1 =>
    cases dy with
    | tup h2 r2 =>
      have t1 : SqT K H _ _ := .inl (.inl (Same.unmsk _ _ h1))
      have t2 : SqT K H _ _ := .inl (.inl (Same.unmsk _ _ h2))
      cases r1 with
      | nil => simp [catT] at h
      | cons a1 as1 =>
        cases r2 with
        | nil => simp [catT] at h
        | cons a2 as2 =>
          simp only [catT] at h
          split at h
          · rename_i hc
            cases h
            refine ⟨_, _, _, _, rfl, rfl, t1, t2, by simp, line_of (by rw [(DtL.cons a1 as1).len, (DtL.cons a2 as2).len]; exact hc), fun e => (by cases e), fun _ p hp => ?_⟩
            exact q _ _ (Same.new hp) (.tup (by rw [msk_out (g'.out hp)]; exact upd_same) ((DtL.app (.cons a1 as1) (.cons a2 as2)).mono (Same.msk (Same.new hp))))
          · cases h
    | _ => cases r1 <;> simp [catT] at h
  | _ => simp [catT] at h
theorem rd_rep : RD K rRep repL := by
  intro A H x y d e z g' dx dy h Q q
  cases dx <;> cases dy <;> simp only [repL] at h <;> first | (cases h; done) | skip
  rename_i h1 r1 k
  split at h
  · rename_i hc
    cases h
    refine ⟨_, _, _, rfl, rfl, Same.unmsk _ _ h1, by omega, by omega, line_of (by rw [r1.len]; exact hc.2.2), fun p hp => ?_⟩
    have rep : ∀ n : Nat, DtL K (msk A H) (List.replicate n _).flatten (List.replicate n _).flatten := fun n => by
      induction n with
      | zero => exact .nil
      | succ n ih =>
        rw [List.replicate_succ, List.replicate_succ, List.flatten_cons, List.flatten_cons]
        exact DtL.app r1 ih
    exact q _ _ (Same.new hp) (.lst (by rw [msk_out (g'.out hp)]; exact upd_same) ((rep _).mono (Same.msk (Same.new hp))))
  · cases h
theorem rd_eqS : RD K rEq eqS := by
  intro A H x y d e z g' dx dy h Q q
  cases dx <;> cases dy <;> simp only [eqS] at h <;> first | (cases h; done) | skip
  all_goals (cases h; refine ⟨rfl, ?_⟩)
  · rename_i b c
    have e : decide ((V.bl b) = V.bl c) = decide (b = c) := by by_cases h : b = c <;> simp [h]
    rw [e]; exact q _ H (Same.refl H) (.bl _)
  · rename_i b c
    have e : decide ((V.int b) = V.int c) = decide (b = c) := by by_cases h : b = c <;> simp [h]
    rw [e]; exact q _ H (Same.refl H) (.bl _)
  · rename_i b c
    have e : decide ((V.str b) = V.str c) = decide (b = c) := by by_cases h : b = c <;> simp [h]
    rw [e]; exact q _ H (Same.refl H) (.bl _)
theorem rd_neS : RD K rNe neS := by
  intro A H x y d e z g' dx dy h Q q
  cases dx <;> cases dy <;> simp only [neS] at h <;> first | (cases h; done) | skip
  all_goals (cases h; refine ⟨rfl, ?_⟩)
  · rename_i b c
    have e : decide ((V.bl b) = V.bl c) = decide (b = c) := by by_cases h : b = c <;> simp [h]
    rw [e]; exact q _ H (Same.refl H) (.bl _)
  · rename_i b c
    have e : decide ((V.int b) = V.int c) = decide (b = c) := by by_cases h : b = c <;> simp [h]
    rw [e]; exact q _ H (Same.refl H) (.bl _)
  · rename_i b c
    have e : decide ((V.str b) = V.str c) = decide (b = c) := by by_cases h : b = c <;> simp [h]
    rw [e]; exact q _ H (Same.refl H) (.bl _)
theorem rd_isN : RD K (fun x y H Q => y = .non ∧ Q (.bl (decide (x = .non))) H) isN := by
  intro A H x y d e z g' dx dy h Q q
  cases dy <;> cases dx <;> simp only [isN] at h <;> first | (cases h; done) | skip
  all_goals (cases h; exact ⟨rfl, q _ H (Same.refl H) (.bl _)⟩)
theorem rd_isnN : RD K (fun x y H Q => y = .non ∧ Q (.bl (!decide (x = .non))) H) isnN := by
  intro A H x y d e z g' dx dy h Q q
  cases dy <;> cases dx <;> simp only [isnN] at h <;> first | (cases h; done) | skip
  all_goals (cases h; exact ⟨rfl, q _ H (Same.refl H) (.bl _)⟩)
theorem intsOf_some : ∀ {ds : List PyData} {ns : List Int}, intsOf ds = some ns → ds = ns.map PyData.int
  | [], _, h => by cases h; rfl
  | .int i :: ds, ns, h => by
    obtain ⟨ms, e, rfl⟩ := Option.map_eq_some_iff.mp (show (intsOf ds).map (i :: ·) = some ns from h)
    rw [intsOf_some e]; rfl
  | .none :: _, _, h => by cases h
  | .bool _ :: _, _, h => by cases h
  | .str _ :: _, _, h => by cases h
  | .list _ :: _, _, h => by cases h
  | .tuple _ :: _, _, h => by cases h
  | .dict _ :: _, _, h => by cases h
theorem strsOf_some : ∀ {ds : List PyData} {ns : List Str}, strsOf ds = some ns → ds = ns.map PyData.str
  | [], _, h => by cases h; rfl
  | .str i :: ds, ns, h => by
    obtain ⟨ms, e, rfl⟩ := Option.map_eq_some_iff.mp (show (strsOf ds).map (i :: ·) = some ns from h)
    rw [strsOf_some e]; rfl
  | .none :: _, _, h => by cases h
  | .bool _ :: _, _, h => by cases h
  | .int _ :: _, _, h => by cases h
  | .list _ :: _, _, h => by cases h
  | .tuple _ :: _, _, h => by cases h
  | .dict _ :: _, _, h => by cases h
theorem bolsOf_some : ∀ {ds : List PyData} {ns : List Bool}, bolsOf ds = some ns → ds = ns.map PyData.bool
  | [], _, h => by cases h; rfl
  | .bool i :: ds, ns, h => by
    obtain ⟨ms, e, rfl⟩ := Option.map_eq_some_iff.mp (show (bolsOf ds).map (i :: ·) = some ns from h)
    rw [bolsOf_some e]; rfl
  | .none :: _, _, h => by cases h
  | .str _ :: _, _, h => by cases h
  | .int _ :: _, _, h => by cases h
  | .list _ :: _, _, h => by cases h
  | .tuple _ :: _, _, h => by cases h
  | .dict _ :: _, _, h => by cases h
theorem rd_leT : RD K (rLeT K) leT := by
  intro A H x y d e z g' dx dy h Q q
  cases dx <;> cases dy <;> simp only [leT] at h <;> first | (cases h; done) | skip
  rename_i h1 r1 _ _ _ h2 r2
  obtain ⟨ns, e1, h⟩ := Option.bind_eq_some_iff.mp h
  obtain ⟨ms, e2, h⟩ := Option.bind_eq_some_iff.mp h
  cases h
  have f1 := DtL.ints_inv (by rw [intsOf_some e1] at r1; exact r1)
  have f2 := DtL.ints_inv (by rw [intsOf_some e2] at r2; exact r2)
  subst f1 f2
  exact ⟨_, _, ns, ms, rfl, rfl, .inl (.inl (Same.unmsk _ _ h1)), .inl (.inl (Same.unmsk _ _ h2)), q _ H (Same.refl H) (.bl _)⟩
theorem inV_strs (x : Str) (ys : List Str) : inV (.str x) (ys.map V.str) = ys.contains x := by
  induction ys with
  | nil => rfl
  | cons y ys ih =>
    unfold inV at ih ⊢
    rw [List.map_cons, List.any_cons, ih, List.contains_cons]
    show (y == x || _) = (x == y || _)
    rw [BEq.comm]
theorem flat_strs (ys : List Str) : (ys.map V.str).all flatV = true := by
  induction ys with
  | nil => rfl
  | cons y ys ih => rw [List.map_cons, List.all_cons, ih]; rfl
theorem rd_inT : RD K (rIn K false) inT := by
  intro A H x y d e z g' dx dy h Q q
  cases dx <;> cases dy <;> simp only [inT] at h <;> first | (cases h; done) | skip
  rename_i x0 _ _ _ h2 r2
  obtain ⟨ys, e1, h⟩ := Option.bind_eq_some_iff.mp h
  cases h
  have f1 := DtL.strs_inv (by rw [strsOf_some e1] at r2; exact r2)
  subst f1
  refine ⟨_, _, rfl, .inr (.inl (.inl (Same.unmsk _ _ h2))), rfl, flat_strs ys, ?_⟩
  rw [if_neg Bool.false_ne_true, inV_strs]
  exact q _ H (Same.refl H) (.bl _)
theorem rd_ninT : RD K (rIn K true) ninT := by
  intro A H x y d e z g' dx dy h Q q
  cases dx <;> cases dy <;> simp only [ninT] at h <;> first | (cases h; done) | skip
  rename_i x0 _ _ _ h2 r2
  obtain ⟨ys, e1, h⟩ := Option.bind_eq_some_iff.mp h
  cases h
  have f1 := DtL.strs_inv (by rw [strsOf_some e1] at r2; exact r2)
  subst f1
  refine ⟨_, _, rfl, .inr (.inl (.inl (Same.unmsk _ _ h2))), rfl, flat_strs ys, ?_⟩
  rw [if_pos rfl, inV_strs]
  exact q _ H (Same.refl H) (.bl _)
theorem rd_ninS : RD K (fun x y H Q => ∃ (c : Nat) (z : Str), x = .str ⟨#[c]⟩ ∧ y = .str z ∧ Q (.bl (!decide (c ∈ z.cps.toList))) H) ninS := by
  intro A H x y d e z g' dx dy h Q q
  unfold ninS at h
  split at h
  · cases dx; cases dy; cases h
    exact ⟨_, _, rfl, rfl, q _ H (Same.refl H) (.bl _)⟩
  · cases h
theorem DtL.atI {H : Hp} {vs : List V} {ds : List PyData} {i : Int} {d : PyData} (r : DtL K H vs ds) (h : L2.atI ds i = some d) : ∃ v, L2.atI vs i = some v ∧ Dt K H v d := by
  unfold L2.atI at h ⊢
  obtain ⟨j, e1, e2⟩ := Option.bind_eq_some_iff.mp h
  obtain ⟨v, f1, f2⟩ := r.get e2
  exact ⟨v, Option.bind_eq_some_iff.mpr ⟨j, by rw [r.len]; exact e1, f1⟩, f2⟩
theorem rd_idx : RD K (rIx K) idx := by
  intro A H x y d e z g' dx dy h Q q
  cases dx <;> cases dy <;> simp only [idx] at h <;> first | (cases h; done) | skip
  · rename_i s i
    split at h
    · rename_i hl
      obtain ⟨c, e1, rfl⟩ := Option.map_eq_some_iff.mp h
      exact .inr (.inr ⟨s, i, c, rfl, rfl, hl, e1, q _ H (Same.refl H) (.str _)⟩)
    · cases h
  · rename_i h1 r1 i
    obtain ⟨v, e1, e2⟩ := r1.atI h
    exact .inl ⟨_, _, i, v, rfl, rfl, .inl (.inl (Same.unmsk _ _ h1)), e1, q _ H (Same.refl H) e2⟩
  · rename_i h1 r1 i
    obtain ⟨v, e1, e2⟩ := r1.atI h
    exact .inr (.inl ⟨_, _, i, v, rfl, rfl, .inl (.inl (Same.unmsk _ _ h1)), e1, q _ H (Same.refl H) e2⟩)
  · rename_i ns hs i
    obtain ⟨p, e1, rfl⟩ := Option.map_eq_some_iff.mp h
    unfold L2.atI at e1
    obtain ⟨j, e2, e3⟩ := Option.bind_eq_some_iff.mp e1
    rw [List.length_map] at e2
    rw [List.getElem?_map] at e3
    obtain ⟨n, e4, rfl⟩ := Option.map_eq_some_iff.mp e3
    refine .inl ⟨_, _, i, .int n, rfl, rfl, Same.unmsk.seq hs, ?_, q _ H (Same.refl H) (.int n)⟩
    unfold L2.atI
    rw [List.length_map, e2]
    show (ns.map V.int)[j]? = some (.int n)
    rw [List.getElem?_map, e4]; rfl
theorem ru_neg : RU K (rU fun i => .int (-i)) negI := by
  intro A H x d z g dx h Q q
  cases dx <;> simp only [negI] at h <;> first | (cases h; done) | skip
  cases h
  exact ⟨_, rfl, q _ H (Same.refl H) (.int _)⟩
/-- a slice -/
def RS (K : PySem.W.Frag) (r : V → Option Int → Option Int → Hp → VK → Prop) (f : PyData → Option Int → Option Int → Option PyData) : Prop :=
  ∀ (A : List Addr) (H : Hp) (x : V) (lo hi : Option Int) (d z : PyData), Good A H → Dt K (msk A H) x d → f d lo hi = some z → ∀ Q : VK, (∀ v H', Same H H' → Dt K (msk A H') v z → Q v H') → r x lo hi H Q
theorem DtL.cut {H : Hp} {vs : List V} {ds : List PyData} (r : DtL K H vs ds) (lo hi : Option Int) : DtL K H (cutV vs lo hi) (cutD ds lo hi) := by
  unfold cutV cutD
  rw [r.len]
  exact (r.drop _).take _
theorem rs_L : RS K (rSlL K) slcL := by
  intro A H x lo hi d z g dx h Q q
  cases dx <;> simp only [slcL] at h <;> first | (cases h; done) | skip
  rename_i h1 r1
  cases h
  refine ⟨_, _, rfl, .inl (.inl (Same.unmsk _ _ h1)), fun p hp => ?_⟩
  exact q _ _ (Same.new hp) (.lst (by rw [msk_out (g.out hp)]; exact upd_same) ((r1.cut lo hi).mono (Same.msk (Same.new hp))))
theorem rs_S : RS K rSlS slcS := by
  intro A H x lo hi d z g dx h Q q
  cases dx <;> simp only [slcS] at h <;> first | (cases h; done) | skip
  split at h
  · rename_i hl
    cases h
    exact ⟨_, rfl, hl, q _ H (Same.refl H) (.str _)⟩
  · cases h
theorem rs_T : RS K (rSlT K) slcT := by
  intro A H x lo hi d z g dx h Q q
  cases dx <;> simp only [slcT] at h <;> first | (cases h; done) | skip
  rename_i h1 r1
  split at h
  · cases h
  · rename_i hn
    cases h
    refine ⟨_, _, rfl, .inl (.inl (Same.unmsk _ _ h1)), by rw [r1.len]; exact hn, fun p hp => ?_⟩
    exact q _ _ (Same.new hp) (.tup (by rw [msk_out (g.out hp)]; exact upd_same) ((r1.cut lo hi).mono (Same.msk (Same.new hp))))
end
end UT
end
section
set_option Elab.async false
set_option linter.all false
set_option maxRecDepth 100000
set_option maxHeartbeats 4000000
/-! the data layer: expressions by their syntax -/
namespace UT
open PySem PySem.Spec PyProof.Rows L2

/-! ### built-ins by data -/
def lenD : List PyData → Option PyData
  | [.list ds] => some (.int ds.length)
  | [.tuple ds] => some (.int ds.length)
  | [.dict ds] => some (.int ds.length)
  | [.str z] => if z.length ≤ sizeLine then some (.int z.length) else none
  | _ => none
def int1 : List PyData → Option PyData
  | [.int i] => some (.int i)
  | [.bool k] => some (.int (if k then 1 else 0))
  | _ => none
def intS : List PyData → Option PyData
  | [.str a] => if a.length ≤ 640 then (PySem.intText? a).map .int else none
  | _ => none
def strD : List PyData → Option PyData
  | [.int i] => if i.natAbs.log2 < 1920 then some (.str (toString i)) else none
  | [.str a] => some (.str a)
  | _ => none
def tupD : List PyData → Option PyData
  | [.list ds] => some (.tuple ds)
  | [.tuple ds] => some (.tuple ds)
  | _ => none
def lstD : List PyData → Option PyData
  | [.list ds] => some (.list ds)
  | [.tuple ds] => some (.list ds)
  | _ => none
def allD : List PyData → Option PyData
  | [.list ds] => (bolsOf ds).map fun bs => .bool (bs.all id)
  | _ => none
def min2 : List PyData → Option PyData
  | [.int i, .int j] => some (.int (if j < i then j else i))
  | _ => none
section
variable {K : PySem.W.Frag}
theorem DtL.one {H : Hp} {xs : List V} {d : PyData} (r : DtL K H xs [d]) : ∃ v, xs = [v] ∧ Dt K H v d := by
  cases r with
  | cons h r => cases r; exact ⟨_, rfl, h⟩
theorem DtL.two {H : Hp} {xs : List V} {d e : PyData} (r : DtL K H xs [d, e]) : ∃ v w, xs = [v, w] ∧ Dt K H v d ∧ Dt K H w e := by
  cases r with
  | cons h r =>
    obtain ⟨w, rfl, h2⟩ := r.one
    exact ⟨_, _, rfl, h, h2⟩
theorem rc_len : RC K (fun xs H Q => ∃ x n, xs = [x] ∧ LenV K x H n ∧ Q (.int n) H) lenD := by
  intro A H xs ds z g r h Q q
  unfold lenD at h
  split at h
  · obtain ⟨v, rfl, dv⟩ := r.one
    cases dv with
    | lst h1 r1 =>
      cases h
      refine ⟨_, _, rfl, .inl ⟨_, .inl (.inl (Same.unmsk _ _ h1)), rfl⟩, ?_⟩
      rw [r1.len]
      exact q _ H (Same.refl H) (.int _)
  · obtain ⟨v, rfl, dv⟩ := r.one
    cases dv with
    | tup h1 r1 =>
      cases h
      refine ⟨_, _, rfl, .inr ⟨_, .inl (.inl (Same.unmsk _ _ h1)), rfl⟩, ?_⟩
      rw [r1.len]
      exact q _ H (Same.refl H) (.int _)
  · obtain ⟨v, rfl, dv⟩ := r.one
    cases dv with
    | scr hs =>
      cases h
      refine ⟨_, _, rfl, .inl ⟨_, Same.unmsk.seq hs, rfl⟩, ?_⟩
      rw [List.length_map]
      exact q _ H (Same.refl H) (by rw [List.length_map]; exact .int _)
  · obtain ⟨v, rfl, dv⟩ := r.one
    cases dv
    split at h
    · rename_i hl
      cases h
      exact ⟨_, _, rfl, ⟨hl, rfl⟩, q _ H (Same.refl H) (.int _)⟩
    · cases h
  · cases h
theorem rc_int1 : RC K (fun xs H Q => (∃ i, xs = [.int i] ∧ Q (.int i) H) ∨ ∃ k, xs = [.bl k] ∧ Q (.int (if k then 1 else 0)) H) int1 := by
  intro A H xs ds z g r h Q q
  unfold int1 at h
  split at h
  · obtain ⟨v, rfl, dv⟩ := r.one
    cases dv; cases h
    exact .inl ⟨_, rfl, q _ H (Same.refl H) (.int _)⟩
  · obtain ⟨v, rfl, dv⟩ := r.one
    cases dv; cases h
    exact .inr ⟨_, rfl, q _ H (Same.refl H) (.int _)⟩
  · cases h
theorem rc_intS : RC K (fun xs H Q => ∃ a n, xs = [.str a] ∧ PySem.intText? a = some n ∧ a.length ≤ 640 ∧ Q (.int n) H) intS := by
  intro A H xs ds z g r h Q q
  unfold intS at h
  split at h
  · obtain ⟨v, rfl, dv⟩ := r.one
    cases dv
    split at h
    · rename_i hl
      obtain ⟨n, e, rfl⟩ := Option.map_eq_some_iff.mp h
      exact ⟨_, n, rfl, e, hl, q _ H (Same.refl H) (.int _)⟩
    · cases h
  · cases h
/-- str(x), x an int or a text -/
def rStr : List V → Hp → VK → Prop := fun xs H Q => (∃ i, xs = [.int i] ∧ i.natAbs.log2 < 1920 ∧ Q (.str (toString i)) H) ∨ ∃ a, xs = [.str a] ∧ Q (.str a) H
theorem call_strE {X : Cx} : CallR X (.type "str") rStr := by
  intro pins s σ H xs us Q I r h
  rcases h with h | h
  · exact call_str_int pins s σ H xs us Q I r h
  · exact SkE.call_str_str pins s σ H xs us Q I r h
theorem rc_str : RC K rStr strD := by
  intro A H xs ds z g r h Q q
  unfold strD at h
  split at h
  · obtain ⟨v, rfl, dv⟩ := r.one
    cases dv
    split at h
    · rename_i hl
      cases h
      exact .inl ⟨_, rfl, hl, q _ H (Same.refl H) (.str _)⟩
    · cases h
  · obtain ⟨v, rfl, dv⟩ := r.one
    cases dv; cases h
    exact .inr ⟨_, rfl, q _ H (Same.refl H) (.str _)⟩
  · cases h
theorem rc_tup : RC K (fun xs H Q => ∃ p ys, xs = [.ref p] ∧ ((SqL K H p ys ∧ ∀ l, H l = none → Q (.ref l) (upd H l (.tup ys))) ∨ (SqT K H p ys ∧ Q (.ref p) H))) tupD := by
  intro A H xs ds z g r h Q q
  unfold tupD at h
  split at h
  · obtain ⟨v, rfl, dv⟩ := r.one
    cases dv with
    | lst h1 r1 =>
      cases h
      refine ⟨_, _, rfl, .inl ⟨.inl (.inl (Same.unmsk _ _ h1)), fun l hl => ?_⟩⟩
      exact q _ _ (Same.new hl) (.tup (by rw [msk_out (g.out hl)]; exact upd_same) (r1.mono (Same.msk (Same.new hl))))
  · obtain ⟨v, rfl, dv⟩ := r.one
    cases dv with
    | tup h1 r1 =>
      cases h
      exact ⟨_, _, rfl, .inr ⟨.inl (.inl (Same.unmsk _ _ h1)), q _ H (Same.refl H) (.tup h1 r1)⟩⟩
  · cases h
theorem rc_lst : RC K (fun xs H Q => ∃ p ys, xs = [.ref p] ∧ (SqL K H p ys ∨ SqT K H p ys) ∧ ∀ l, H l = none → Q (.ref l) (upd H l (.lst ys))) lstD := by
  intro A H xs ds z g r h Q q
  unfold lstD at h
  split at h
  · obtain ⟨v, rfl, dv⟩ := r.one
    cases dv with
    | lst h1 r1 =>
      cases h
      refine ⟨_, _, rfl, .inl (.inl (.inl (Same.unmsk _ _ h1))), fun l hl => ?_⟩
      exact q _ _ (Same.new hl) (.lst (by rw [msk_out (g.out hl)]; exact upd_same) (r1.mono (Same.msk (Same.new hl))))
  · obtain ⟨v, rfl, dv⟩ := r.one
    cases dv with
    | tup h1 r1 =>
      cases h
      refine ⟨_, _, rfl, .inr (.inl (.inl (Same.unmsk _ _ h1))), fun l hl => ?_⟩
      exact q _ _ (Same.new hl) (.lst (by rw [msk_out (g.out hl)]; exact upd_same) (r1.mono (Same.msk (Same.new hl))))
  · cases h
theorem rc_all : RC K (rAll K) allD := by
  intro A H xs ds z g r h Q q
  unfold allD at h
  split at h
  · obtain ⟨v, rfl, dv⟩ := r.one
    cases dv with
    | lst h1 r1 =>
      obtain ⟨bs, e, rfl⟩ := Option.map_eq_some_iff.mp h
      have f1 := DtL.bls_inv (by rw [bolsOf_some e] at r1; exact r1)
      subst f1
      exact ⟨_, bs, rfl, .inl (.inl (Same.unmsk _ _ h1)), q _ H (Same.refl H) (.bl _)⟩
  · cases h
theorem rc_min : RC K (fun xs H Q => ∃ i j, xs = [.int i, .int j] ∧ Q (.int (if j < i then j else i)) H) min2 := by
  intro A H xs ds z g r h Q q
  unfold min2 at h
  split at h
  · obtain ⟨v, w, rfl, dv, dw⟩ := r.two
    cases dv; cases dw; cases h
    exact ⟨_, _, rfl, q _ H (Same.refl H) (.int _)⟩
  · cases h

/-! ### methods of texts by data -/
def splitD : PyData → PyData → Option PyData
  | .str a, .str b => if (b.length == 0) = false ∧ a.length + 2 ≤ sizeLine then some (.list ((Txt.split a b).map .str)) else none
  | _, _ => none
def partD : PyData → PyData → Option PyData
  | .str a, .str b => if (b.length == 0) = false ∧ a.length ≤ sizeLine then some (.tuple [.str (Txt.partition a b).1, .str (Txt.partition a b).2.1, .str (Txt.partition a b).2.2]) else none
  | _, _ => none
def joinD : PyData → PyData → Option PyData
  | .str a, .list ds => (strsOf ds).bind fun ys => if (ys.map (·.length)).sum + ys.length * a.length ≤ 16777216 then some (.str (Txt.join a ys)) else none
  | _, _ => none
def startsD : PyData → PyData → Option PyData
  | .str a, .str b => some (.bool (Txt.startswith a b))
  | _, _ => none
def endsD : PyData → PyData → Option PyData
  | .str a, .str b => some (.bool (Txt.endswith a b))
  | _, _ => none
def rmsufD : PyData → PyData → Option PyData
  | .str a, .str b => if a.length ≤ sizeLine then some (.str (Txt.removesuffix a b)) else none
  | _, _ => none
def upperD : PyData → Option PyData
  | .str a => if a.length ≤ 5592405 then some (.str (Txt.upper a)) else none
  | _ => none
/-- a method of one argument -/
structure RM1 (K : PySem.W.Frag) (r : V → List V → Hp → VK → Prop) (f : PyData → PyData → Option PyData) : Prop where
  isS : ∀ d e z, f d e = some z → ∃ a, d = .str a
  run : ∀ (A : List Addr) (H : Hp) (x y : V) (d e z : PyData), Good A H → Dt K (msk A H) x d → Dt K (msk A H) y e → f d e = some z → ∀ Q : VK, (∀ v H', Same H H' → Dt K (msk A H') v z → Q v H') → r x [y] H Q
theorem rm_split : RM1 K (fun x xs H Q => ∃ a b, x = .str a ∧ xs = [.str b] ∧ (b.length == 0) = false ∧ a.length + 2 ≤ sizeLine ∧ rNewStrs (Txt.split a b) H Q) splitD := by
  refine ⟨fun d e z h => ?_, fun A H x y d e z g dx dy h Q q => ?_⟩
  · cases d <;> cases e <;> simp only [splitD] at h <;> first | (cases h; done) | exact ⟨_, rfl⟩
  cases dx <;> cases dy <;> simp only [splitD] at h <;> first | (cases h; done) | skip
  split at h
  · rename_i hc
    cases h
    refine ⟨_, _, rfl, rfl, hc.1, hc.2, fun p hp => ?_⟩
    exact q _ _ (Same.new hp) (.lst (by rw [msk_out (g.out hp)]; exact upd_same) (DtL.strs _))
  · cases h
theorem rm_part : RM1 K (fun x xs H Q => ∃ a b, x = .str a ∧ xs = [.str b] ∧ (b.length == 0) = false ∧ a.length ≤ sizeLine ∧
      ∀ p, H p = none → Q (.ref p) (upd H p (.tup [.str (Txt.partition a b).1, .str (Txt.partition a b).2.1, .str (Txt.partition a b).2.2]))) partD := by
  refine ⟨fun d e z h => ?_, fun A H x y d e z g dx dy h Q q => ?_⟩
  · cases d <;> cases e <;> simp only [partD] at h <;> first | (cases h; done) | exact ⟨_, rfl⟩
  cases dx <;> cases dy <;> simp only [partD] at h <;> first | (cases h; done) | skip
  split at h
  · rename_i hc
    cases h
    refine ⟨_, _, rfl, rfl, hc.1, hc.2, fun p hp => ?_⟩
    exact q _ _ (Same.new hp) (.tup (by rw [msk_out (g.out hp)]; exact upd_same) (.cons (.str _) (.cons (.str _) (.cons (.str _) .nil))))
  · cases h
theorem rm_join : RM1 K (fun x xs H Q => ∃ a p, ∃ ys : List Str, x = .str a ∧ xs = [.ref p] ∧ (SqL K H p (ys.map V.str) ∨ SqT K H p (ys.map V.str)) ∧
      (ys.map (·.length)).sum + ys.length * a.length ≤ 16777216 ∧ Q (.str (Txt.join a ys)) H) joinD := by
  refine ⟨fun d e z h => ?_, fun A H x y d e z g dx dy h Q q => ?_⟩
  · cases d <;> cases e <;> simp only [joinD] at h <;> first | (cases h; done) | exact ⟨_, rfl⟩
  cases dx <;> cases dy <;> simp only [joinD] at h <;> first | (cases h; done) | skip
  rename_i h1 r1
  obtain ⟨ys, e1, h⟩ := Option.bind_eq_some_iff.mp h
  split at h
  · rename_i hc
    cases h
    have f1 := DtL.strs_inv (by rw [strsOf_some e1] at r1; exact r1)
    subst f1
    exact ⟨_, _, ys, rfl, rfl, .inl (.inl (.inl (Same.unmsk _ _ h1))), hc, q _ H (Same.refl H) (.str _)⟩
  · cases h
theorem rm_starts : RM1 K (fun x xs H Q => ∃ a b, x = .str a ∧ xs = [.str b] ∧ Q (.bl (Txt.startswith a b)) H) startsD := by
  refine ⟨fun d e z h => ?_, fun A H x y d e z g dx dy h Q q => ?_⟩
  · cases d <;> cases e <;> simp only [startsD] at h <;> first | (cases h; done) | exact ⟨_, rfl⟩
  cases dx <;> cases dy <;> simp only [startsD] at h <;> first | (cases h; done) | skip
  cases h
  exact ⟨_, _, rfl, rfl, q _ H (Same.refl H) (.bl _)⟩
theorem rm_ends : RM1 K (fun x xs H Q => ∃ a b, x = .str a ∧ xs = [.str b] ∧ Q (.bl (Txt.endswith a b)) H) endsD := by
  refine ⟨fun d e z h => ?_, fun A H x y d e z g dx dy h Q q => ?_⟩
  · cases d <;> cases e <;> simp only [endsD] at h <;> first | (cases h; done) | exact ⟨_, rfl⟩
  cases dx <;> cases dy <;> simp only [endsD] at h <;> first | (cases h; done) | skip
  cases h
  exact ⟨_, _, rfl, rfl, q _ H (Same.refl H) (.bl _)⟩
theorem rm_rmsuf : RM1 K (fun x xs H Q => ∃ a b, x = .str a ∧ xs = [.str b] ∧ a.length ≤ sizeLine ∧ Q (.str (Txt.removesuffix a b)) H) rmsufD := by
  refine ⟨fun d e z h => ?_, fun A H x y d e z g dx dy h Q q => ?_⟩
  · cases d <;> cases e <;> simp only [rmsufD] at h <;> first | (cases h; done) | exact ⟨_, rfl⟩
  cases dx <;> cases dy <;> simp only [rmsufD] at h <;> first | (cases h; done) | skip
  split at h
  · rename_i hc
    cases h
    exact ⟨_, _, rfl, rfl, hc, q _ H (Same.refl H) (.str _)⟩
  · cases h
variable {z : Bool} {ta tb to te : TE} {ρ : En} {ma mb : Option PyData}
theorem ej_m1 {r : V → List V → Hp → VK → Prop} {f : PyData → PyData → Option PyData} (hr : RM1 K r f) (ha : EvJ K z to ρ ma) (hb : EvJ K z te ρ mb) : EvJ K z (tM1 r to te) ρ (bind2 ma mb f) := by
  intro A σ H d g rel hm Q q
  obtain ⟨a, b, e1, e2, e3⟩ := bind2_some hm
  obtain ⟨a', rfl⟩ := hr.isS a b d e3
  refine ha A σ H _ g rel e1 _ fun x H1 s1 d1 => ?_
  refine ⟨by cases d1; exact ⟨_, rfl⟩, hb A σ H1 b (g.mono s1) (rel.mono s1) e2 _ fun y H2 s2 d2 => ?_⟩
  exact hr.run A H2 x y _ b d ((g.mono s1).mono s2).good (d1.mono (Same.msk s2)) d2 e3 Q fun v H3 s3 d3 => q v H3 ((s1.trans s2).trans s3) d3
theorem ej_upper (ha : EvJ K z to ρ ma) : EvJ K z (tM0 (fun x xs H Q => ∃ a, x = .str a ∧ xs = [] ∧ a.length ≤ 5592405 ∧ Q (.str (Txt.upper a)) H) to) ρ (ma.bind upperD) := by
  intro A σ H d g rel hm Q q
  obtain ⟨a, e1, e2⟩ := Option.bind_eq_some_iff.mp hm
  unfold upperD at e2
  split at e2
  · split at e2
    · rename_i hl
      cases e2
      refine ha A σ H _ g rel e1 _ fun x H1 s1 d1 => ?_
      cases d1
      exact ⟨⟨_, rfl⟩, _, rfl, rfl, hl, q _ H1 s1 (.str _)⟩
    · cases e2
  · cases e2
theorem ej_call {r : List V → Hp → VK → Prop} {f : List PyData → Option PyData} {t : TA} {m : Option (List PyData)} (hr : RC K r f) (ha : AvJ K z t ρ m) : EvJ K z (tCB r t) ρ (m.bind f) := by
  intro A σ H d g rel hm Q q
  obtain ⟨a, e1, e2⟩ := Option.bind_eq_some_iff.mp hm
  refine ha A σ H a g rel e1 _ fun xs H1 s1 d1 => ?_
  exact hr A H1 xs a d (g.mono s1).good d1 e2 Q fun v H3 s3 d3 => q v H3 (s1.trans s3) d3
/-- a part of a slice -/
def OvJ (K : PySem.W.Frag) (z : Bool) (to : TO) (ρ : En) (m : Option (Option Int)) : Prop :=
  ∀ (A : List Addr) (σ : L2.St) (H : Hp) (d : Option Int), Mk' z A H → Rel K A H σ ρ → m = some d → ∀ Q : Option Int → Hp → Prop, (∀ H', Same H H' → Q d H') → to σ H Q
theorem oj_none : OvJ K z tNoPart ρ (some none) := by
  intro A σ H d g rel hm Q q
  cases hm
  exact q H (Same.refl H)
def partM (m : Option PyData) : Option (Option Int) := m.bind fun d => match d with
  | .int i => some (some i)
  | _ => none
theorem oj_some {m : Option PyData} (h : EvJ K z te ρ m) : OvJ K z (tPart te) ρ (partM m) := by
  intro A σ H d g rel hm Q q
  unfold partM at hm
  obtain ⟨a, e1, e2⟩ := Option.bind_eq_some_iff.mp hm
  refine h A σ H a g rel e1 _ fun x H1 s1 d1 => ?_
  cases d1 with
  | int i => cases e2; exact ⟨i, rfl, q H1 s1⟩
  | _ => cases e2
def slcM (ma : Option PyData) (ml mh : Option (Option Int)) (f : PyData → Option Int → Option Int → Option PyData) : Option PyData := ma.bind fun a => ml.bind fun l => mh.bind fun h => f a l h
theorem ej_slice {r : V → Option Int → Option Int → Hp → VK → Prop} {f : PyData → Option Int → Option Int → Option PyData} {tl th : TO} {ml mh : Option (Option Int)} (hr : RS K r f) (ha : EvJ K z te ρ ma) (hl : OvJ K z tl ρ ml) (hh : OvJ K z th ρ mh) :
    EvJ K z (tSl r te tl th) ρ (slcM ma ml mh f) := by
  intro A σ H d g rel hm Q q
  unfold slcM at hm
  obtain ⟨a, e1, hm⟩ := Option.bind_eq_some_iff.mp hm
  obtain ⟨l, e2, hm⟩ := Option.bind_eq_some_iff.mp hm
  obtain ⟨u, e3, hm⟩ := Option.bind_eq_some_iff.mp hm
  refine ha A σ H a g rel e1 _ fun x H1 s1 d1 => ?_
  refine hl A σ H1 l (g.mono s1) (rel.mono s1) e2 _ fun H2 s2 => ?_
  refine hh A σ H2 u ((g.mono s1).mono s2) ((rel.mono s1).mono s2) e3 _ fun H3 s3 => ?_
  exact hr A H3 x l u a d (((g.mono s1).mono s2).mono s3).good (d1.mono (Same.msk (s2.trans s3))) hm Q fun v H4 s4 d4 => q v H4 (((s1.trans s2).trans s3).trans s4) d4
/-- xs[::-1] -/
def revD : PyData → Option PyData
  | .list ds => some (.list ds.reverse)
  | _ => none
theorem ej_rev (ha : EvJ K z te ρ ma) : EvJ K z (tRevL K te) ρ (ma.bind revD) := by
  intro A σ H d g rel hm Q q
  obtain ⟨a, e1, e2⟩ := Option.bind_eq_some_iff.mp hm
  refine ha A σ H a g rel e1 _ fun x H1 s1 d1 => ?_
  cases d1 with
  | lst h1 r1 =>
    cases e2
    refine ⟨_, _, rfl, .inl (.inl (Same.unmsk _ _ h1)), fun p hp => ?_⟩
    exact q _ _ (s1.trans (Same.new hp)) (.lst (by rw [msk_out ((g.mono s1).out hp)]; exact upd_same) (r1.rev.mono (Same.msk (Same.new hp))))
  | _ => cases e2
/-- e.replace('..', '..') -/
def replD (y y2 : Str) : PyData → Option PyData
  | .str x => if x.length + (x.length + 1) * y2.length ≤ 16777216 then some (.str (Txt.replace x y y2)) else none
  | _ => none
theorem ej_repl {y y2 : Str} (ha : EvJ K z te ρ ma) : EvJ K z (CwR.tReplC te y y2) ρ (ma.bind (replD y y2)) := by
  intro A σ H d g rel hm Q q
  obtain ⟨a, e1, e2⟩ := Option.bind_eq_some_iff.mp hm
  unfold replD at e2
  split at e2
  · split at e2
    · rename_i hl
      cases e2
      refine ha A σ H _ g rel e1 _ fun x H1 s1 d1 => ?_
      cases d1
      exact ⟨_, rfl, hl, q _ H1 s1 (.str _)⟩
    · cases e2
  · cases e2
/-- f'..' : the parts are texts -/
def fmtD : PyData → Option PyData
  | .str y => if y.length ≤ sizeLine then some (.str y) else none
  | .int i => if i.natAbs.log2 < 1920 then some (.str (toString i)) else none
  | _ => none
theorem ej_fmt (ha : EvJ K z te ρ ma) : EvJ K z (tFmt te) ρ (ma.bind fmtD) := by
  intro A σ H d g rel hm Q q
  obtain ⟨a, e1, e2⟩ := Option.bind_eq_some_iff.mp hm
  refine ha A σ H a g rel e1 _ fun x H1 s1 d1 => ?_
  cases d1 with
  | str y =>
    simp only [fmtD] at e2
    split at e2
    · rename_i hl; cases e2; exact .inl ⟨y, rfl, hl, q _ H1 s1 (.str _)⟩
    · cases e2
  | int i =>
    simp only [fmtD] at e2
    split at e2
    · rename_i hl; cases e2; exact .inr ⟨i, rfl, hl, q _ H1 s1 (.str _)⟩
    · cases e2
  | _ => cases e2
def jsM : List PyData → Str → Option Str
  | [], acc => some acc
  | .str y :: ds, acc => if (acc ++ y).length ≤ sizeLine then jsM ds (acc ++ y) else none
  | _, _ => none
inductive JvJ (K : PySem.W.Frag) (z : Bool) (ρ : En) : List TE → Option (List PyData) → Prop
  | nil : JvJ K z ρ [] (some [])
  | cons {te : TE} {ts : List TE} {m : Option PyData} {ms : Option (List PyData)} (h : EvJ K z te ρ m) (r : JvJ K z ρ ts ms) : JvJ K z ρ (te :: ts) (consM m ms)
theorem jj_run {ts : List TE} {ms : Option (List PyData)} (h : JvJ K z ρ ts ms) : ∀ (acc out : Str) (ds : List PyData) (A : List Addr) (σ : L2.St) (H : Hp), Mk' z A H → Rel K A H σ ρ → ms = some ds → jsM ds acc = some out →
    ∀ Q : Str → Hp → Prop, (∀ H', Same H H' → Q out H') → tJs ts acc σ H Q := by
  induction h with
  | nil =>
    intro acc out ds A σ H g rel hm hj Q q
    cases hm; cases hj
    exact q H (Same.refl H)
  | cons h r ih =>
    intro acc out ds A σ H g rel hm hj Q q
    obtain ⟨a, b, e1, e2, rfl⟩ := consM_some hm
    refine h A σ H a g rel e1 _ fun x H1 s1 d1 => ?_
    cases d1 with
    | str y =>
      simp only [jsM] at hj
      split at hj
      · rename_i hl
        exact ⟨y, rfl, hl, ih (acc ++ y) out b A σ H1 (g.mono s1) (rel.mono s1) e2 hj Q fun H2 s2 => q H2 (s1.trans s2)⟩
      · cases hj
    | _ => simp [jsM] at hj
def fstM (ms : Option (List PyData)) : Option PyData := ms.bind fun ds => (jsM ds Str.empty).map .str
theorem ej_joined {ts : List TE} {ms : Option (List PyData)} (h : JvJ K z ρ ts ms) : EvJ K z (fun σ H Q => tJs ts Str.empty σ H fun out H1 => Q (.str out) H1) ρ (fstM ms) := by
  intro A σ H d g rel hm Q q
  unfold fstM at hm
  obtain ⟨ds, e1, hm⟩ := Option.bind_eq_some_iff.mp hm
  obtain ⟨out, e2, rfl⟩ := Option.map_eq_some_iff.mp hm
  exact jj_run h Str.empty out ds A σ H g rel e1 e2 _ fun H1 s1 => q _ H1 s1 (.str out)
/-- isinstance(x, T) -/
def tyN : PyData → String
  | .none => "NoneType"
  | .bool _ => "bool"
  | .int _ => "int"
  | .str _ => "str"
  | .list _ => "list"
  | .tuple _ => "tuple"
  | .dict _ => "dict"
def isiD (T : String) (d : PyData) : Option PyData := match d with
  | .dict _ => none
  | d => (kitB (tyN d) T).map .bool
theorem ej_isi {T : String} (ha : EvJ K z te ρ ma) : EvJ K z (tCB (rIsi K) (tCons te (tCons (tC (.ty T)) tNil))) ρ (ma.bind (isiD T)) := by
  intro A σ H d g rel hm Q q
  obtain ⟨a, e1, e2⟩ := Option.bind_eq_some_iff.mp hm
  refine ha A σ H a g rel e1 _ fun x H1 s1 d1 => ?_
  have key : ∀ s : String, TyOf K H1 x (.type s) → (kitB s T).map PyData.bool = some d → rIsi K [x, .ty T] H1 Q := fun s ty h => by
    obtain ⟨b, hb, rfl⟩ := Option.map_eq_some_iff.mp h
    exact ⟨x, .ty T, .type s, .type T, b, rfl, .ty T, .base ty, kit_ty hb, q _ H1 s1 (.bl b)⟩
  cases d1 with
  | non => exact key "NoneType" .non e2
  | bl b => exact key "bool" (.bl b) e2
  | int i => exact key "int" (.int i) e2
  | str y => exact key "str" (.str y) e2
  | lst h r => exact key "list" (.lst (Same.unmsk _ _ h)) e2
  | tup h r => exact key "tuple" (.tup (Same.unmsk _ _ h)) e2
  | scr h => cases e2
end
end UT
end
section
set_option Elab.async false
set_option linter.all false
set_option maxRecDepth 100000
set_option maxHeartbeats 4000000
/-! the data layer: what is walked, comprehensions, calls of the text's own defs -/
namespace UT
open PySem PySem.Spec PyProof.Rows L2

/-! ### what a loop walks -/
structure Wk (K : PySem.W.Frag) (A : List Addr) (H0 : Hp) (J : It) (ds : List PyData) : Prop where
  go : ∀ i H A', i < ds.length → Same (msk A H0) (msk A' H) → J.go i H
  stop : ∀ H A', Same (msk A H0) (msk A' H) → J.stop ds.length H
  yld : ∀ i H A' x H', i < ds.length → Good A' H → Same (msk A H0) (msk A' H) → J.yld i H x H' → Same H H' ∧ ∃ d, ds[i]? = some d ∧ Dt K (msk A' H') x d
def IvJ (K : PySem.W.Frag) (z : Bool) (wi : TI) (ρ : En) (m : Option (List PyData)) : Prop :=
  ∀ (A : List Addr) (σ : L2.St) (H : Hp) (ds : List PyData), Mk' z A H → Rel K A H σ ρ → m = some ds → ∀ R : It → Hp → Prop, (∀ J H', Same H H' → Wk K A H' J ds → R J H') → wi σ H R
def listM (m : Option PyData) : Option (List PyData) := m.bind fun d => match d with
  | .list ds => some ds
  | .dict kvs => some (kvs.map (·.2))
  | _ => none
def tupleM (m : Option PyData) : Option (List PyData) := m.bind fun d => match d with
  | .tuple ds => some ds
  | _ => none
section
variable {K : PySem.W.Frag} {z : Bool} {ρ : En} {te : TE} {ta : TA}
theorem wk_list {A : List Addr} {H0 : Hp} {a : Addr} {xs : List V} {ds : List PyData} (h : SqL K (msk A H0) a xs) (r : DtL K (msk A H0) xs ds) : Wk K A H0 (Itl K a) ds := by
  refine ⟨fun i H A' hi s => ?_, fun H A' s => ?_, fun i H A' x H' hi g s y => ?_⟩
  · have hi' : i < xs.length := by rw [r.len]; exact hi
    exact ⟨xs, xs[i], Same.unmsk.seq (s.seq h), by simp [hi']⟩
  · exact ⟨xs, Same.unmsk.seq (s.seq h), by rw [r.len]; exact Nat.le_refl _⟩
  · obtain ⟨rfl, y⟩ := y
    have hx := y xs (Same.unmsk.seq (s.seq h))
    obtain ⟨d, e1, e2⟩ := r.getV hx
    exact ⟨Same.refl _, d, e1, e2.mono s⟩
theorem wk_tup {A : List Addr} {H0 : Hp} {a : Addr} {xs : List V} {ds : List PyData} (h : msk A H0 a = some (.tup xs)) (r : DtL K (msk A H0) xs ds) : Wk K A H0 (Itt K a) ds := by
  have sq : ∀ {H : Hp} {A' : List Addr}, Same (msk A H0) (msk A' H) → SqT K H a xs := fun s => .inl (.inl (Same.unmsk _ _ (s _ _ h)))
  refine ⟨fun i H A' hi s => ?_, fun H A' s => ?_, fun i H A' x H' hi g s y => ?_⟩
  · have hi' : i < xs.length := by rw [r.len]; exact hi
    exact ⟨xs, xs[i], sq s, by simp [hi']⟩
  · exact ⟨xs, sq s, by rw [r.len]; exact Nat.le_refl _⟩
  · obtain ⟨rfl, y⟩ := y
    have hx := y xs (sq s)
    obtain ⟨d, e1, e2⟩ := r.getV hx
    exact ⟨Same.refl _, d, e1, e2.mono s⟩
theorem ints_dt {H : Hp} : ∀ ns : List Int, DtL K H (ns.map V.int) (ns.map PyData.int)
  | [] => .nil
  | n :: ns => .cons (.int n) (ints_dt ns)
theorem ij_list {m : Option PyData} (h : EvJ K z te ρ m) : IvJ K z (iList K te) ρ (listM m) := by
  intro A σ H ds g rel hm R q
  unfold listM at hm
  obtain ⟨a, e1, e2⟩ := Option.bind_eq_some_iff.mp hm
  refine h A σ H a g rel e1 _ fun x H1 s1 d1 => ?_
  cases d1 with
  | lst h1 r1 =>
    cases e2
    exact ⟨_, rfl, ⟨_, .inl (.inl (Same.unmsk _ _ h1))⟩, q _ H1 s1 (wk_list (.inl (.inl h1)) r1)⟩
  | scr hs =>
    rename_i ns
    have e3 : ds = ns.map PyData.int := by
      have := Option.some.inj e2
      rw [List.map_map] at this
      exact this.symm
    subst e3
    exact ⟨_, rfl, ⟨_, Same.unmsk.seq hs⟩, q _ H1 s1 (wk_list hs (ints_dt ns))⟩
  | _ => cases e2
theorem ij_tup {m : Option PyData} (h : EvJ K z te ρ m) : IvJ K z (iTup K te) ρ (tupleM m) := by
  intro A σ H ds g rel hm R q
  unfold tupleM at hm
  obtain ⟨a, e1, e2⟩ := Option.bind_eq_some_iff.mp hm
  refine h A σ H a g rel e1 _ fun x H1 s1 d1 => ?_
  cases d1 with
  | tup h1 r1 =>
    cases e2
    exact ⟨_, rfl, ⟨_, .inl (.inl (Same.unmsk _ _ h1))⟩, q _ H1 s1 (wk_tup h1 r1)⟩
  | _ => cases e2
/-- range(n), range(a, b) -/
def rngL (lo : Int) (n : Nat) : List PyData := (List.range n).map fun i : Nat => .int (lo + (i : Int))
theorem wk_rng {A : List Addr} {H0 : Hp} (lo : Int) (n : Nat) : Wk K A H0 (Itr lo n) (rngL lo n) := by
  have hl : (rngL lo n).length = n := by simp [rngL]
  refine ⟨fun i H A' hi s => ?_, fun H A' s => ?_, fun i H A' x H' hi g s y => ?_⟩
  · show i < n
    rw [hl] at hi; exact hi
  · show n ≤ _
    rw [hl]; exact Nat.le_refl _
  · obtain ⟨rfl, rfl⟩ := y
    rw [hl] at hi
    exact ⟨Same.refl _, .int (lo + i), by simp [rngL, hi], .int _⟩
def rng1M (m : Option (List PyData)) : Option (List PyData) := m.bind fun ds => match ds with
  | [.int j] => if -(2 ^ 62) ≤ j ∧ j < 2 ^ 62 then some (rngL 0 j.toNat) else none
  | _ => none
def rng2M (m : Option (List PyData)) : Option (List PyData) := m.bind fun ds => match ds with
  | [.int i, .int j] => if (-(2 ^ 62) ≤ i ∧ i < 2 ^ 62) ∧ -(2 ^ 62) ≤ j ∧ j < 2 ^ 62 then some (rngL i (j - i).toNat) else none
  | _ => none
theorem ij_rng1 {m : Option (List PyData)} (h : AvJ K z ta ρ m) : IvJ K z (iRng1 ta) ρ (rng1M m) := by
  intro A σ H ds g rel hm R q
  unfold rng1M at hm
  obtain ⟨a, e1, e2⟩ := Option.bind_eq_some_iff.mp hm
  refine h A σ H a g rel e1 _ fun xs H1 s1 d1 => ?_
  split at e2
  · obtain ⟨v, rfl, dv⟩ := d1.one
    cases dv
    split at e2
    · rename_i hc
      cases e2
      exact ⟨_, rfl, hc.1, hc.2, q _ H1 s1 (wk_rng 0 _)⟩
    · cases e2
  · cases e2
theorem ij_rng2 {m : Option (List PyData)} (h : AvJ K z ta ρ m) : IvJ K z (iRng2 ta) ρ (rng2M m) := by
  intro A σ H ds g rel hm R q
  unfold rng2M at hm
  obtain ⟨a, e1, e2⟩ := Option.bind_eq_some_iff.mp hm
  refine h A σ H a g rel e1 _ fun xs H1 s1 d1 => ?_
  split at e2
  · obtain ⟨v, w, rfl, dv, dw⟩ := d1.two
    cases dv; cases dw
    split at e2
    · rename_i hc
      cases e2
      exact ⟨_, _, rfl, ⟨hc.1.1, hc.1.2, hc.2.1, hc.2.2⟩, q _ H1 s1 (wk_rng _ _)⟩
    · cases e2
  · cases e2
/-- a text, sign by sign -/
def signL (s : Str) : List PyData := s.cps.toList.map fun c => .str ⟨#[c]⟩
def signM (m : Option PyData) : Option (List PyData) := m.bind fun d => match d with
  | .str s => some (signL s)
  | _ => none
theorem ij_str {m : Option PyData} (h : EvJ K z te ρ m) : IvJ K z (iStr te) ρ (signM m) := by
  intro A σ H ds g rel hm R q
  unfold signM at hm
  obtain ⟨a, e1, e2⟩ := Option.bind_eq_some_iff.mp hm
  refine h A σ H a g rel e1 _ fun x H1 s1 d1 => ?_
  cases d1 with
  | str s =>
    cases e2
    have hl : (signL s).length = s.cps.size := by simp [signL]
    refine ⟨s, rfl, q _ H1 s1 ⟨fun i H A' hi s => ?_, fun H A' s => ?_, fun i H A' x H' hi g s y => ?_⟩⟩
    · rw [hl] at hi; exact hi
    · show _ ≤ _
      rw [hl]; exact Nat.le_refl _
    · obtain ⟨rfl, c, e, rfl⟩ := y
      exact ⟨Same.refl _, .str ⟨#[c]⟩, by simp [signL, e], .str _⟩
  | _ => cases e2
/-- enumerate(list) -/
def enumL (ds : List PyData) : List PyData := ds.zipIdx.map fun p => .tuple [.int (p.2 : Nat), p.1]
def enumM (m : Option (List PyData)) : Option (List PyData) := m.bind fun ds => match ds with
  | [.list es] => some (enumL es)
  | _ => none
theorem enumL_at (ds : List PyData) (i : Nat) : (enumL ds)[i]? = (ds[i]?).map fun d => .tuple [.int (i : Nat), d] := by
  unfold enumL
  rw [List.getElem?_map, List.getElem?_zipIdx]
  cases ds[i]? <;> simp
theorem ij_enum {m : Option (List PyData)} (h : AvJ K z ta ρ m) : IvJ K z (iEnum K ta) ρ (enumM m) := by
  intro A σ H ds g rel hm R q
  unfold enumM at hm
  obtain ⟨a, e1, e2⟩ := Option.bind_eq_some_iff.mp hm
  refine h A σ H a g rel e1 _ fun xs H1 s1 d1 => ?_
  split at e2
  · rename_i es
    obtain ⟨v, rfl, dv⟩ := d1.one
    cases dv with
    | lst h1 r1 =>
      rename_i p ys
      cases e2
      have hl : (enumL es).length = es.length := by simp [enumL]
      have sq : ∀ {H : Hp} {A' : List Addr}, Same (msk A H1) (msk A' H) → SqL K H p ys := fun s => .inl (.inl (Same.unmsk _ _ (s _ _ h1)))
      refine ⟨p, ys, rfl, .inl (.inl (Same.unmsk _ _ h1)), q _ H1 s1 ⟨fun i H A' hi s => ?_, fun H A' s => ?_, fun i H A' x H' hi g s y => ?_⟩⟩
      · rw [hl] at hi
        have hi' : i < ys.length := by rw [r1.len]; exact hi
        exact ⟨ys, ys[i], sq s, by simp [hi']⟩
      · exact ⟨ys, sq s, by rw [hl, r1.len]; exact Nat.le_refl _⟩
      · obtain ⟨T, x0, rfl, hT, rfl, hx⟩ := y
        obtain ⟨d, e3, e4⟩ := r1.getV (hx ys (sq s))
        refine ⟨Same.new hT, _, by rw [enumL_at, e3]; rfl, .tup (by rw [msk_out (g.out hT)]; exact upd_same) (.cons (.int _) (.cons ((e4.mono s).mono (Same.msk (Same.new hT))) .nil))⟩
  · cases e2

/-! ### targets -/
def Sets (js : List Nat) (σ σ' : L2.St) : Prop := σ'.length = σ.length ∧ ∀ i : Nat, i ∉ js → σ'[i]? = σ[i]?
def TgJ (K : PySem.W.Frag) (g : TG) (js : List Nat) (ρ : En) (tgt : PyData → Option En) : Prop :=
  ∀ (A : List Addr) (σ : L2.St) (H : Hp) (x : V) (d : PyData) (ρ' : En), Rel K A H σ ρ → Dt K (msk A H) x d → tgt d = some ρ' → ∀ Q : L2.St → Hp → Prop, (∀ σ', Rel K A H σ' ρ' → Sets js σ σ' → Q σ' H) → g x σ H Q
def t1 (ρ : En) (j : Nat) : PyData → Option En := fun d => some (ρ.set j (.dat d))
def t2 (ρ : En) (i j : Nat) : PyData → Option En
  | .tuple [a, b] => some ((ρ.set i (.dat a)).set j (.dat b))
  | _ => none
def t3 (ρ : En) (i j k : Nat) : PyData → Option En
  | .tuple [a, b, c] => some (((ρ.set i (.dat a)).set j (.dat b)).set k (.dat c))
  | _ => none
theorem slot_dat {A : List Addr} {H : Hp} {x : V} {d : PyData} (h : Dt K (msk A H) x d) : SlOk K A H (some x) (.dat d) := ⟨x, rfl, h⟩
theorem tg_name (j : Nat) : TgJ K (gName j) [j] ρ (t1 ρ j) := by
  intro A σ H x d ρ' rel dx ht Q q
  cases ht
  refine q _ (Rel.set (slot_dat dx) j rel) ⟨List.length_set, fun i hi => ?_⟩
  exact List.getElem?_set_ne (by intro e; exact hi (by simp [e]))
theorem tg_two (i j : Nat) : TgJ K (gTup K 2 (gCons (gName i) (gCons (gName j) gNil))) [i, j] ρ (t2 ρ i j) := by
  intro A σ H x d ρ' rel dx ht Q q
  unfold t2 at ht
  split at ht
  · cases ht
    cases dx with
    | tup h r =>
      obtain ⟨v, w, rfl, dv, dw⟩ := r.two
      refine ⟨_, _, rfl, .inl (.inl (Same.unmsk _ _ h)), rfl, v, _, rfl, w, _, rfl, rfl, ?_⟩
      refine q _ (Rel.set (slot_dat dw) j (Rel.set (slot_dat dv) i rel)) ⟨by simp, fun k hk => ?_⟩
      rw [List.getElem?_set_ne (by intro e; exact hk (by simp [e])), List.getElem?_set_ne (by intro e; exact hk (by simp [e]))]
  · cases ht
theorem tg_three (i j k : Nat) : TgJ K (gTup K 3 (gCons (gName i) (gCons (gName j) (gCons (gName k) gNil)))) [i, j, k] ρ (t3 ρ i j k) := by
  intro A σ H x d ρ' rel dx ht Q q
  unfold t3 at ht
  split at ht
  · cases ht
    cases dx with
    | tup h r =>
      cases r with
      | cons du r =>
        obtain ⟨v, w, rfl, dv, dw⟩ := r.two
        refine ⟨_, _, rfl, .inl (.inl (Same.unmsk _ _ h)), rfl, _, _, rfl, v, _, rfl, w, _, rfl, rfl, ?_⟩
        refine q _ (Rel.set (slot_dat dw) k (Rel.set (slot_dat dv) j (Rel.set (slot_dat du) i rel))) ⟨by simp, fun l hk => ?_⟩
        rw [List.getElem?_set_ne (by intro e; exact hk (by simp [e])), List.getElem?_set_ne (by intro e; exact hk (by simp [e])), List.getElem?_set_ne (by intro e; exact hk (by simp [e]))]
  · cases ht

/-! ### comprehensions -/
def wipeE (ρ : En) : List Nat → En
  | [] => ρ
  | v :: vs => (wipeE ρ vs).set v .no
theorem Rel.wipe {A : List Addr} {H : Hp} {σ : L2.St} (h : Rel K A H σ ρ) : ∀ vs : List Nat, Rel K A H (L2.wipe σ vs) (wipeE ρ vs)
  | [] => h
  | v :: vs => Rel.set (s := .no) trivial v (Rel.wipe h vs)
theorem wipe_at (σ : L2.St) : ∀ (vs : List Nat) (i : Nat), i ∈ vs → i < σ.length → (L2.wipe σ vs)[i]? = some none
  | [], _, h, _ => by cases h
  | v :: vs, i, h, hl => by
    unfold L2.wipe
    by_cases e : v = i
    · subst e
      rw [List.getElem?_set_self (by rw [wipe_length]; exact hl)]
    · rw [List.getElem?_set_ne e]
      exact wipe_at σ vs i ((List.mem_cons.mp h).resolve_left (Ne.symm e)) hl
theorem wipe_sets {σ σ' : L2.St} {js vs : List Nat} (h : Sets js (L2.wipe σ vs) σ') (hs : ∀ j ∈ js, j ∈ vs) : L2.wipe σ' vs = L2.wipe σ vs := by
  have hl : σ'.length = σ.length := by rw [h.1, wipe_length]
  apply List.ext_getElem?
  intro i
  by_cases hi : i ∈ vs
  · by_cases hb : i < σ.length
    · rw [wipe_at σ' vs i hi (by rw [hl]; exact hb), wipe_at σ vs i hi hb]
    · rw [List.getElem?_eq_none (by rw [wipe_length, hl]; omega), List.getElem?_eq_none (by rw [wipe_length]; omega)]
  · rw [wipe_out hi, h.2 i (fun hj => hi (hs i hj))]
theorem msk_more {A : List Addr} {H H' : Hp} {p : Addr} (h : H p = none) (s : Same H H') : Same (msk A H) (msk (p :: A) H') := fun b u e => by
  by_cases hb : b ∈ A
  · rw [msk_in hb] at e; cases e
  · rw [msk_out hb] at e
    have hne : b ≠ p := ne_of_none e h
    rw [msk_out (by simp [hne, hb])]
    exact s _ _ e
theorem Rel.moreS {A : List Addr} {H H' : Hp} {p : Addr} (hp : H p = none) (s : Same H H') : ∀ {σ : L2.St} {ρ : En}, Rel K A H σ ρ → Rel K (p :: A) H' σ ρ
  | [], [], _ => trivial
  | o :: σ, t :: ρ, ⟨h, r⟩ => ⟨by
      cases t with
      | no => trivial
      | dat d => obtain ⟨v, q, z⟩ := h; exact ⟨v, q, z.mono (msk_more hp s)⟩
      | own ds =>
        obtain ⟨l, ys, q, m, z, y⟩ := h
        exact ⟨l, ys, q, List.mem_cons_of_mem _ m, s _ _ z, y.mono (msk_more hp s)⟩, Rel.moreS hp s r⟩
def mapO (f : PyData → Option PyData) : List PyData → Option (List PyData)
  | [] => some []
  | d :: ds => (f d).bind fun e => (mapO f ds).bind fun es => some (e :: es)
theorem mapO_at {f : PyData → Option PyData} : ∀ {ds es : List PyData}, mapO f ds = some es → es.length = ds.length ∧ ∀ (i : Nat) (d : PyData), ds[i]? = some d → ∃ e, f d = some e ∧ es[i]? = some e
  | [], es, h => by cases h; exact ⟨rfl, fun i d h => by simp at h⟩
  | d :: ds, es, h => by
    unfold mapO at h
    obtain ⟨e, h1, h⟩ := Option.bind_eq_some_iff.mp h
    obtain ⟨es', h2, h⟩ := Option.bind_eq_some_iff.mp h
    cases h
    obtain ⟨l, r⟩ := mapO_at h2
    refine ⟨by simp [l], fun i d' hi => ?_⟩
    cases i with
    | zero => simp at hi; subst hi; exact ⟨e, h1, rfl⟩
    | succ i => obtain ⟨e', a, b⟩ := r i d' (by simpa using hi); exact ⟨e', a, by simpa using b⟩
def lcM (m : Option (List PyData)) (f : PyData → Option PyData) : Option PyData := m.bind fun ds => if ds.length ≤ 100000 then (mapO f ds).map .list else none
theorem lcM_some {m : Option (List PyData)} {f : PyData → Option PyData} {d : PyData} (h : lcM m f = some d) : ∃ ds es, m = some ds ∧ ds.length ≤ 100000 ∧ mapO f ds = some es ∧ d = .list es := by
  unfold lcM at h
  obtain ⟨ds, e1, h⟩ := Option.bind_eq_some_iff.mp h
  split at h
  · rename_i hl
    obtain ⟨es, e2, rfl⟩ := Option.map_eq_some_iff.mp h
    exact ⟨ds, es, e1, hl, e2, rfl⟩
  · cases h
theorem take_app {α : Type} {l : List α} {i : Nat} {a : α} (h : l[i]? = some a) : l.take (i + 1) = l.take i ++ [a] := by
  rw [List.take_add_one, h]; rfl
/-- the list that a comprehension fills -/
theorem ej_lcG {wi : TI} {g : TG} {vs js : List Nat} {ρw : En} {m : Option (List PyData)} {f : PyData → Option PyData} {tgt : PyData → Option En} (hi : IvJ K z wi ρ m) (hw : wipeE ρ vs = ρw) (hg : TgJ K g js ρw tgt) (hjs : ∀ j ∈ js, j ∈ vs)
    (hf : ∀ d e, f d = some e → ∃ ρ', tgt d = some ρ') (he : ∀ d ρ', tgt d = some ρ' → EvJ K false te ρ' (f d)) : EvJ K z (tLc wi g tYes te vs) ρ (lcM m f) := by
  intro A σ H d gd rel hm Q q
  obtain ⟨ds, es, e1, hl, e2, rfl⟩ := lcM_some hm
  obtain ⟨el, ea⟩ := mapO_at e2
  subst hw
  refine hi A σ H ds gd rel e1 _ fun J H1 s1 w => ?_
  intro D hD
  have g1 := gd.mono s1
  have r1 := rel.mono s1
  have Pk : ∀ {i : Nat} {H' : Hp}, (Same H1 H' ∧ ∃ acc, H' D = some (.lst acc) ∧ DtL K (msk (D :: A) H') acc (es.take i)) → Good (D :: A) H' := fun {i H'} p a ha => by
    obtain ⟨s, acc, h, _⟩ := p
    rcases List.mem_cons.mp ha with rfl | ha
    · exact ⟨acc, h⟩
    · obtain ⟨ys, y⟩ := g1.good a ha
      exact ⟨ys, s _ _ y⟩
  refine ⟨fun i m H' => m = ds.length - i ∧ i ≤ ds.length ∧ Same H1 H' ∧ ∃ acc, H' D = some (.lst acc) ∧ DtL K (msk (D :: A) H') acc (es.take i), ⟨ds.length, by simp, Nat.zero_le _, Same.new hD, [], upd_same, .nil⟩, ?_⟩
  rintro i m H' ⟨rfl, hile, s, acc, hacc, dacc⟩
  have gk : Good (D :: A) H' := Pk (i := i) ⟨s, acc, hacc, dacc⟩
  have sm : Same (msk A H1) (msk (D :: A) H') := msk_more hD s
  by_cases hlt : i < ds.length
  · refine .inr ⟨w.go i H' (D :: A) hlt sm, fun H'' => Same H1 H'' ∧ ∃ acc, H'' D = some (.lst acc) ∧ DtL K (msk (D :: A) H'') acc (es.take (i + 1)), fun H'' p => ⟨ds.length - (i + 1), by omega, rfl, hlt, p⟩, fun x H2 y => ?_⟩
    obtain ⟨s2, d, hd, dx⟩ := w.yld i H' (D :: A) x H2 hlt gk sm y
    obtain ⟨e, fe, ee⟩ := ea i d hd
    obtain ⟨ρ', ht⟩ := hf d e fe
    have r2 : Rel K (D :: A) H2 (L2.wipe σ vs) (wipeE ρ vs) := Rel.wipe (Rel.moreS hD (s.trans s2) r1) vs
    refine hg (D :: A) (L2.wipe σ vs) H2 x d ρ' r2 dx ht _ fun σ' rel' st => ?_
    refine ⟨wipe_sets st hjs, ?_⟩
    unfold tYes
    refine iteT ?_
    refine he d ρ' ht (D :: A) σ' H2 e ⟨gk.mono s2, fun h => by cases h⟩ rel' fe _ fun v H4 s4 dv => ?_
    have hD4 : H4 D = some (.lst acc) := s4 _ _ (s2 _ _ hacc)
    have hal : acc.length < sizeLine := by
      have h1 := dacc.len
      rw [List.length_take] at h1
      have : (100000 : Nat) < sizeLine := by decide
      omega
    refine ⟨acc, hD4, hal, fun a u ha => ?_, acc ++ [v], upd_same, ?_⟩
    · rw [upd_ne (ne_of_none ha hD)]
      exact s4 _ _ (s2 _ _ (s _ _ ha))
    · rw [msk_set (List.mem_cons_self ..), take_app ee]
      exact DtL.app (dacc.mono (Same.msk (s2.trans s4))) (.cons dv .nil)
  · have ei : i = ds.length := by omega
    subst ei
    refine .inl ⟨w.stop H' (D :: A) sm, q _ H' (s1.trans s) (.lst (xs := acc) ?_ ?_)⟩
    · rw [msk_out (g1.out hD)]; exact hacc
    · rw [List.take_of_length_le (by rw [el]; exact Nat.le_refl _)] at dacc
      exact dacc.mono msk_un
theorem ej_lc {wi : TI} {j : Nat} {vs : List Nat} {ρw : En} {m : Option (List PyData)} {f : PyData → Option PyData} (hi : IvJ K z wi ρ m) (hw : wipeE ρ vs = ρw) (hj : vs.contains j = true) {ρb : PyData → En} (hb : ∀ d, ρw.set j (.dat d) = ρb d)
    (he : ∀ d, EvJ K false te (ρb d) (f d)) : EvJ K z (tLc wi (gName j) tYes te vs) ρ (lcM m f) :=
  ej_lcG hi hw (tg_name j) (fun k hk => by simp at hk; subst hk; simpa using hj) (fun d e _ => ⟨_, rfl⟩) fun d ρ' ht => by
    cases ht
    rw [hb]; exact he d
def pairM {α : Type} (d : PyData) (f : PyData → PyData → Option α) : Option α := match d with
  | .tuple [a, b] => f a b
  | _ => none
theorem ej_lc2 {wi : TI} {i j : Nat} {vs : List Nat} {ρw : En} {m : Option (List PyData)} {f : PyData → PyData → Option PyData} (hi : IvJ K z wi ρ m) (hw : wipeE ρ vs = ρw) (h1 : vs.contains i = true) (h2 : vs.contains j = true) {ρb : PyData → PyData → En}
    (hb : ∀ a b, (ρw.set i (.dat a)).set j (.dat b) = ρb a b) (he : ∀ a b, EvJ K false te (ρb a b) (f a b)) : EvJ K z (tLc wi (gTup K 2 (gCons (gName i) (gCons (gName j) gNil))) tYes te vs) ρ (lcM m fun d => pairM d f) :=
  ej_lcG hi hw (tg_two i j) (fun k hk => by
      simp at hk
      rcases hk with rfl | rfl
      · simpa using h1
      · simpa using h2) (fun d e h => by
      unfold pairM at h
      split at h
      · exact ⟨_, rfl⟩
      · cases h) fun d ρ' ht => by
    unfold t2 at ht
    split at ht
    · cases ht
      rw [hb]; exact he _ _
    · cases ht
end
end UT
end
section
set_option Elab.async false
set_option linter.all false
set_option maxRecDepth 100000
set_option maxHeartbeats 4000000
/-! the data layer: statements, errors, promises -/
namespace UT
open PySem PySem.Spec PyProof.Rows L2

inductive ErrC where
  | paper | usable | text
  deriving DecidableEq
structure Err where
  c : ErrC
  a : PyData
  b : PyData
def ErrC.name : ErrC → Str
  | .paper => "InvalidPaper"
  | .usable => "NotUsable"
  | .text => "InvalidText"
def ErrC.f1 : ErrC → Str
  | .text => "line"
  | _ => "word"
def ErrC.f2 : ErrC → Str
  | .text => "field"
  | _ => "at"
def ErrAt (K : PySem.W.Frag) (H : Hp) (e : Err) (cls : Value) (dd : Option Addr) : Prop :=
  cls = .ref (He.ga K e.c.name) ∧ ∃ d va vb, dd = some d ∧ H d = some (.xd [(e.c.f2, vb), (e.c.f1, va)]) ∧ Dt K H va e.a ∧ Dt K H vb e.b
inductive Out where
  | rt (d : PyData)
  | er (e : Err)
abbrev SM (S : Type) := Option (Except Out S)
def StJ (K : PySem.W.Frag) (z z' : Bool) (W : WX) (ts : TS) (ρ : En) {S : Type} (m : SM S) (emb : S → En) : Prop :=
  ∀ (A : List Addr) (σ : L2.St) (H : Hp) (D : Ends) (r : Except Out S), Mk' z A H → Rel K A H σ ρ → m = some r →
    (∀ s, r = .ok s → ∀ (A' : List Addr) (σ' : L2.St) (H' : Hp), σ'.length = σ.length → Same (msk A H) (msk A' H') → Mk' z' A' H' → Rel K A' H' σ' (emb s) → D.nx σ' H') →
    (∀ d, r = .error (.rt d) → ∀ (v : V) (H' : Hp), Same (msk A H) H' → Dt K H' v d → D.rt v H') →
    (∀ e, r = .error (.er e) → ∀ (cls : Value) (dd : Option Addr) (σ' : L2.St) (H' : Hp), σ'.length = σ.length → Same (msk A H) H' → ErrAt K H' e cls dd → W cls dd σ' H') → ts D σ H
def seqM {S T : Type} (m : SM S) (f : S → SM T) : SM T := m.bind fun r => match r with
  | .ok s => f s
  | .error o => some (.error o)
def okM {S : Type} (m : Option S) : SM S := m.map .ok
def retM {S : Type} (m : Option PyData) : SM S := m.map fun d => .error (.rt d)
def ifM {S : Type} (c : Option Bool) (a b : SM S) : SM S := c.bind fun k => if k = true then a else b
theorem mk0 {A : List Addr} {H H' : Hp} (e : Same H H') : Same (UT.msk A H) H' := Same.unmsk.trans e
theorem mk_ {A : List Addr} {H H' : Hp} (e : Same H H') : Same (UT.msk A H) (UT.msk A H') := Same.msk e
section
variable {K : PySem.W.Frag} {z z1 z' : Bool} {W : WX} {ρ : En} {te : TE} {ta : TA} {tt : TT} {t u ts : TS} {S T : Type}
theorem sj_seq {m1 : SM S} {e1 : S → En} {m2 : S → SM T} {e2 : T → En} (h1 : StJ K z z1 W t ρ m1 e1) (h2 : ∀ s, StJ K z1 z' W u (e1 s) (m2 s) e2) : StJ K z z' W (tSeq t u) ρ (seqM m1 m2) e2 := by
  intro A σ H D r g rel hm kn kr ke
  unfold seqM at hm
  obtain ⟨r1, e, hm⟩ := Option.bind_eq_some_iff.mp hm
  refine h1 A σ H { D with nx := u D } r1 g rel e (fun s hs A' σ' H' l s' g' rel' => ?_) (fun d hd v H' s' dv => ?_) (fun x hx cls dd σ' H' l s' ex => ?_)
  · subst hs
    exact h2 s A' σ' H' D r g' rel' hm (fun s2 hs2 A2 σ2 H2 l2 s2' => kn s2 hs2 A2 σ2 H2 (l2.trans l) (s'.trans s2')) (fun d hd v H2 s2' => kr d hd v H2 (s'.trans s2')) (fun x hx cls dd σ2 H2 l2 s2' => ke x hx cls dd σ2 H2 (l2.trans l) (s'.trans s2'))
  · subst hd; cases hm
    exact kr d rfl v H' s' dv
  · subst hx; cases hm
    exact ke x rfl cls dd σ' H' l s' ex
theorem sj_le {m : SM S} {e1 : S → En} {e2 : S → En} (h : StJ K z z' W t ρ m e1) (l : ∀ s, Le (e2 s) (e1 s)) : StJ K z z' W t ρ m e2 := by
  intro A σ H D r g rel hm kn kr ke
  exact h A σ H D r g rel hm (fun s hs A' σ' H' ll s' g' rel' => kn s hs A' σ' H' ll s' g' (rel'.le (l s))) kr ke
/-- the end of a block: the state s is kept -/
theorem sj_end {s : S} {e : S → En} (l : Le (e s) ρ) : StJ K z z W tNext ρ (some (.ok s)) e := by
  intro A σ H D r g rel hm kn kr ke
  cases hm
  exact kn s rfl A σ H rfl (Same.refl _) g (rel.le l)
theorem sj_asg {i : Nat} {m : Option PyData} (h : EvJ K z te ρ m) : StJ K z z W (tAsg te (gName i)) ρ (okM m) fun d => ρ.set i (.dat d) := by
  intro A σ H D r g rel hm kn kr ke
  obtain ⟨d, e, rfl⟩ := Option.map_eq_some_iff.mp hm
  exact h A σ H d g rel e _ fun v H' s dv => kn d rfl A _ H' List.length_set (mk_ s) (g.mono s) (Rel.set (slot_dat dv) i (rel.mono s))
/-- a, b = e; a, b, c = e -/
theorem sj_two {i j : Nat} {m : Option PyData} (h : EvJ K z te ρ m) : StJ K z z W (tAsg te (gTup K 2 (gCons (gName i) (gCons (gName j) gNil)))) ρ (okM (m.bind fun d => pairM d fun a b => some (a, b))) fun (p : PyData × PyData) => (ρ.set i (.dat p.1)).set j (.dat p.2) := by
  intro A σ H D r g rel hm kn kr ke
  obtain ⟨p, e, rfl⟩ := Option.map_eq_some_iff.mp hm
  obtain ⟨d, e1, e2⟩ := Option.bind_eq_some_iff.mp e
  unfold pairM at e2
  split at e2
  · cases e2
    refine h A σ H _ g rel e1 _ fun v H' s dv => ?_
    exact tg_two i j A σ H' v _ _ (rel.mono s) dv rfl _ fun σ' rel' st => kn _ rfl A σ' H' st.1 (mk_ s) (g.mono s) rel'
  · cases e2
def triM {α : Type} (d : PyData) (f : PyData → PyData → PyData → Option α) : Option α := match d with
  | .tuple [a, b, c] => f a b c
  | _ => none
theorem sj_three {i j k : Nat} {m : Option PyData} (h : EvJ K z te ρ m) : StJ K z z W (tAsg te (gTup K 3 (gCons (gName i) (gCons (gName j) (gCons (gName k) gNil))))) ρ (okM (m.bind fun d => triM d fun a b c => some (a, b, c)))
    fun (p : PyData × PyData × PyData) => ((ρ.set i (.dat p.1)).set j (.dat p.2.1)).set k (.dat p.2.2) := by
  intro A σ H D r g rel hm kn kr ke
  obtain ⟨p, e, rfl⟩ := Option.map_eq_some_iff.mp hm
  obtain ⟨d, e1, e2⟩ := Option.bind_eq_some_iff.mp e
  unfold triM at e2
  split at e2
  · cases e2
    refine h A σ H _ g rel e1 _ fun v H' s dv => ?_
    exact tg_three i j k A σ H' v _ _ (rel.mono s) dv rfl _ fun σ' rel' st => kn _ rfl A σ' H' st.1 (mk_ s) (g.mono s) rel'
  · cases e2
theorem sj_if {c : Option Bool} {a b : SM S} {e : S → En} (hc : TvJ K z tt ρ c) (ha : StJ K z z' W t ρ a e) (hb : StJ K z z' W u ρ b e) : StJ K z z' W (tIfS tt t u) ρ (ifM c a b) e := by
  intro A σ H D r g rel hm kn kr ke
  unfold ifM at hm
  obtain ⟨k, e1, hm⟩ := Option.bind_eq_some_iff.mp hm
  refine hc A σ H k g rel e1 _ fun H1 s1 => ?_
  have kn' := fun s hs A' (σ' : L2.St) H' (l : σ'.length = σ.length) (s' : Same (msk A H1) (msk A' H')) => kn s hs A' σ' H' l ((mk_ s1).trans s')
  have kr' := fun d hd v H' (s' : Same (msk A H1) H') => kr d hd v H' ((mk_ s1).trans s')
  have ke' := fun x hx cls dd (σ' : L2.St) H' (l : σ'.length = σ.length) (s' : Same (msk A H1) H') => ke x hx cls dd σ' H' l ((mk_ s1).trans s')
  cases k with
  | true => exact iteT (ha A σ H1 D r (g.mono s1) (rel.mono s1) (by simpa using hm) kn' kr' ke')
  | false => exact iteF (hb A σ H1 D r (g.mono s1) (rel.mono s1) (by simpa using hm) kn' kr' ke')
theorem sj_ret {ρ' : En} {m : Option PyData} {e : S → En} (h : EvJ K true te ρ' m) (hu : ρ.map Sl.un = ρ') : StJ K z z' W (tRet te) ρ (retM m) e := by
  intro A σ H D r g rel hm kn kr ke
  obtain ⟨d, e1, rfl⟩ := Option.map_eq_some_iff.mp hm
  subst hu
  exact h [] σ H d Mk'.no rel.un e1 _ fun v H' s dv => kr d rfl v H' (mk0 s) (by rw [msk_nil] at dv; exact dv)
/-- x = [..], x a list that the def fills -/
theorem sj_own {i : Nat} {m : Option (List PyData)} (h : AvJ K z ta ρ m) : StJ K z false W (tAsg (tLst ta) (gName i)) ρ (okM (m.bind fun ds => if ds.length ≤ 100000 then some ds else none)) fun ds => ρ.set i (.own ds) := by
  intro A σ H D r g rel hm kn kr ke
  obtain ⟨ds, e, rfl⟩ := Option.map_eq_some_iff.mp hm
  obtain ⟨ds', e1, e2⟩ := Option.bind_eq_some_iff.mp e
  split at e2
  · rename_i hl
    cases e2
    refine h A σ H ds g rel e1 _ fun vs H1 s1 d1 => ⟨line_of (by rw [d1.len]; exact hl), fun p hp => ?_⟩
    refine kn ds rfl (p :: A) _ _ List.length_set ((mk_ s1).trans (msk_cons hp)) ⟨(g.mono s1).good.cons hp, fun h => by cases h⟩ (Rel.set ?_ i (Rel.more hp (rel.mono s1)))
    exact ⟨p, vs, rfl, List.mem_cons_self .., upd_same, d1.mono (msk_cons hp)⟩
  · cases e2
/-- x = a + b, lists, x a list that the def fills -/
theorem sj_ownCat {i : Nat} {ta tb : TE} {ma mb : Option PyData} (ha : EvJ K z ta ρ ma) (hb : EvJ K z tb ρ mb) :
    StJ K z false W (tAsg (tOp rCat ta tb) (gName i)) ρ (okM ((bind2 ma mb catL).bind fun d => match d with | .list ds => some ds | _ => none)) fun ds => ρ.set i (.own ds) := by
  intro A σ H D r g rel hm kn kr ke
  obtain ⟨ds, e, rfl⟩ := Option.map_eq_some_iff.mp hm
  obtain ⟨d, e1, e2⟩ := Option.bind_eq_some_iff.mp e
  obtain ⟨a, b, f1, f2, f3⟩ := bind2_some e1
  refine ha A σ H a g rel f1 _ fun x H1 s1 d1 => ?_
  refine hb A σ H1 b (g.mono s1) (rel.mono s1) f2 _ fun y H2 s2 d2 => ?_
  cases d1 with
  | lst h1 r1 =>
    cases d2 with
    | lst h2 r2 =>
      simp only [catL] at f3
      split at f3
      · rename_i hc
        cases f3; cases e2
        have h1' := (mk_ s2 : Same (msk A H1) (msk A H2)) _ _ h1
        refine ⟨_, _, _, _, rfl, rfl, Same.unmsk _ _ h1', Same.unmsk _ _ h2, line_of (by rw [r1.len, r2.len]; exact hc), fun p hp => ?_⟩
        refine kn _ rfl (p :: A) _ _ List.length_set ((mk_ (s1.trans s2)).trans (msk_cons hp)) ⟨((g.mono s1).mono s2).good.cons hp, fun h => by cases h⟩ (Rel.set ?_ i (Rel.more hp ((rel.mono s1).mono s2)))
        exact ⟨p, _, rfl, List.mem_cons_self .., upd_same, (DtL.app (r1.mono (mk_ s2)) r2).mono (msk_cons hp)⟩
      · cases f3
    | _ => simp [catL] at f3
  | _ => simp [catL] at f3
theorem own_ne {A : List Addr} {H : Hp} {σ : L2.St} {i : Nat} {p : Addr} (h : noOwn (ρ.set i .no) = true) (hp : σ[i]? = some (some (V.ref p))) :
    ∀ (j : Nat) (l : Addr) (ds : List PyData), (ρ.set i Sl.no)[j]? = some (Sl.own ds) → (σ.set i none)[j]? = some (some (V.ref l)) → l ≠ p := fun j l ds h1 _ => (noOwn_get h h1).elim
/-- x.append(e) -/
theorem sj_app {i : Nat} {ds : List PyData} {m : Option PyData} (h : EvJ K z te ρ m) (hi : ρ[i]? = some (.own ds)) (hn : noOwn (ρ.set i .no) = true) :
    StJ K z z W (tDrop (tBM K "list" rAppend (tVar i) (tCons te tNil))) ρ (okM (m.bind fun d => if ds.length < 100000 then some (ds ++ [d]) else none)) fun es => ρ.set i (.own es) := by
  intro A σ H D r g rel hm kn kr ke
  obtain ⟨es, e, rfl⟩ := Option.map_eq_some_iff.mp hm
  obtain ⟨d, e1, e2⟩ := Option.bind_eq_some_iff.mp e
  split at e2
  · rename_i hl
    cases e2
    obtain ⟨l, xs, q1, q2, q3, q4⟩ := rel.own hi
    refine ⟨.ref l, q1, .inl ⟨rfl, xs, .inl (.inl q3)⟩, ?_⟩
    refine h A σ H d g rel e1 _ fun v H' s dv => ?_
    have q3' := s _ _ q3
    refine ⟨l, xs, v, rfl, rfl, q3', ?_, ?_⟩
    · have := q4.len
      have h2 : (100000 : Nat) < sizeLine := by decide
      omega
    · refine kn _ rfl A _ _ rfl ?_ ⟨g.good.mono s |>.set, g.nil⟩ ?_
      · rw [msk_set q2]; exact mk_ s
      · have r1 : Rel K A H' (σ.set i none) (ρ.set i .no) := Rel.set (s := .no) trivial i (rel.mono s)
        have r2 := Rel.chg (o' := .lst (xs ++ [v])) q2 (own_ne (A := A) (H := H') hn q1) r1
        have r3 := Rel.set (s := .own (ds ++ [d])) (o := some (V.ref l)) (K := K) (A := A) (H := upd H' l (.lst (xs ++ [v]))) ⟨l, _, rfl, q2, upd_same, by rw [msk_set q2]; exact DtL.app (q4.mono (mk_ s)) (.cons dv .nil)⟩ i r2
        have es : (σ.set i none).set i (some (V.ref l)) = σ := by
          rw [List.set_set]
          apply List.ext_getElem?
          intro k
          by_cases hk : i = k
          · subst hk
            rw [List.getElem?_set_self (by
              rcases Nat.lt_or_ge i σ.length with h | h
              · exact h
              · rw [List.getElem?_eq_none h] at q1; cases q1), q1]
          · rw [List.getElem?_set_ne hk]
        rw [es, List.set_set] at r3
        exact r3
  · cases e2
/-- x.extend(e) -/
theorem sj_ext {i : Nat} {ds : List PyData} {m : Option PyData} (h : EvJ K z te ρ m) (hi : ρ[i]? = some (.own ds)) (hn : noOwn (ρ.set i .no) = true) :
    StJ K z z W (tDrop (tBM K "list" rExtend (tVar i) (tCons te tNil))) ρ (okM (m.bind fun d => match d with | .list es => if ds.length + es.length ≤ 100000 then some (ds ++ es) else none | _ => none)) fun es => ρ.set i (.own es) := by
  intro A σ H D r g rel hm kn kr ke
  obtain ⟨es, e, rfl⟩ := Option.map_eq_some_iff.mp hm
  obtain ⟨d, e1, e2⟩ := Option.bind_eq_some_iff.mp e
  split at e2
  · split at e2
    · rename_i es' hl
      cases e2
      obtain ⟨l, xs, q1, q2, q3, q4⟩ := rel.own hi
      refine ⟨.ref l, q1, .inl ⟨rfl, xs, .inl (.inl q3)⟩, ?_⟩
      refine h A σ H _ g rel e1 _ fun v H' s dv => ?_
      have q3' := s _ _ q3
      cases dv with
      | lst h1 r1 =>
        rename_i b ys
        refine ⟨l, b, xs, ys, rfl, rfl, q3', Same.unmsk _ _ h1, line_of (by rw [q4.len, r1.len]; exact hl), ?_⟩
        refine kn _ rfl A _ _ rfl ?_ ⟨g.good.mono s |>.set, g.nil⟩ ?_
        · rw [msk_set q2]; exact mk_ s
        · have r1' : Rel K A H' (σ.set i none) (ρ.set i .no) := Rel.set (s := .no) trivial i (rel.mono s)
          have r2 := Rel.chg (o' := .lst (xs ++ ys)) q2 (own_ne (A := A) (H := H') hn q1) r1'
          have r3 := Rel.set (s := .own (ds ++ es')) (o := some (V.ref l)) (K := K) (A := A) (H := upd H' l (.lst (xs ++ ys))) ⟨l, _, rfl, q2, upd_same, by rw [msk_set q2]; exact DtL.app (q4.mono (mk_ s)) r1⟩ i r2
          have es : (σ.set i none).set i (some (V.ref l)) = σ := by
            rw [List.set_set]
            apply List.ext_getElem?
            intro k
            by_cases hk : i = k
            · subst hk
              rw [List.getElem?_set_self (by
                rcases Nat.lt_or_ge i σ.length with h | h
                · exact h
                · rw [List.getElem?_eq_none h] at q1; cases q1), q1]
            · rw [List.getElem?_set_ne hk]
          rw [es, List.set_set] at r3
          exact r3
    · cases e2
  · cases e2
/-- x += e, x -= e -/
theorem sj_aug {i : Nat} {d0 : PyData} {f : Int → Int → Int} {fd : PyData → PyData → Option PyData} {m : Option PyData} (h : EvJ K z te ρ m) (hi : ρ[i]? = some (.dat d0)) (hf : ∀ d e r, fd d e = some r → ∃ a b, d = .int a ∧ e = .int b ∧ r = .int (f a b)) :
    StJ K z z W (tAug i te (ipI f)) ρ (okM (m.bind (fd d0))) (fun d => ρ.set i (.dat d)) := by
  intro A σ H D r g rel hm kn kr ke
  obtain ⟨d, e, rfl⟩ := Option.map_eq_some_iff.mp hm
  obtain ⟨d1, e1, e2⟩ := Option.bind_eq_some_iff.mp e
  obtain ⟨a, b, rfl, rfl, rfl⟩ := hf _ _ _ e2
  obtain ⟨v, q1, q2⟩ := rel.dat hi
  cases q2
  refine ⟨.int a, q1, h A σ H _ g rel e1 _ fun v H' s dv => ?_⟩
  cases dv
  exact ⟨a, b, rfl, rfl, kn _ rfl A _ H' List.length_set (mk_ s) (g.mono s) (Rel.set (slot_dat (.int _)) i (rel.mono s))⟩
theorem addI_inv : ∀ d e r, addI d e = some r → ∃ a b, d = .int a ∧ e = .int b ∧ r = .int (a + b) := fun d e r h => by
  cases d <;> cases e <;> simp only [addI] at h <;> first | (cases h; done) | (cases h; exact ⟨_, _, rfl, rfl, rfl⟩)
theorem subI_inv : ∀ d e r, subI d e = some r → ∃ a b, d = .int a ∧ e = .int b ∧ r = .int (a - b) := fun d e r h => by
  cases d <;> cases e <;> simp only [subI] at h <;> first | (cases h; done) | (cases h; exact ⟨_, _, rfl, rfl, rfl⟩)

/-! ### loops -/
def forM' (step : S → PyData → SM S) : List PyData → S → SM S
  | [], s => some (.ok s)
  | x :: xs, s => (step s x).bind fun r => match r with
    | .ok s' => forM' step xs s'
    | .error o => some (.error o)
def forM (m : Option (List PyData)) (step : S → PyData → SM S) (s : S) : SM S := m.bind fun ds => forM' step ds s
theorem sj_forG {wi : TI} {g : TG} {js : List Nat} {m : Option (List PyData)} {step : S → PyData → SM S} {s0 : S} {emb : S → En} {tgt : S → PyData → Option En} (hi : IvJ K z wi ρ m) (hl : Le (emb s0) ρ) (hg : ∀ s, TgJ K g js (emb s) (tgt s))
    (hf : ∀ s d r, step s d = some r → ∃ ρ', tgt s d = some ρ') (hb : ∀ s d ρ', tgt s d = some ρ' → StJ K z z W ts ρ' (step s d) emb) : StJ K z z W (tFor wi g ts) ρ (forM m step s0) emb := by
  intro A σ H D r gd rel hm kn kr ke
  unfold forM at hm
  obtain ⟨ds, e1, hm⟩ := Option.bind_eq_some_iff.mp hm
  refine hi A σ H ds gd rel e1 _ fun J H1 s1 w => ?_
  have back : ∀ {A' : List Addr} {H' : Hp}, Same (msk A H1) (msk A' H') → Same (msk A H) (msk A' H') := fun s => (mk_ s1).trans s
  refine ⟨fun i k σ' H' => k = ds.length - i ∧ i ≤ ds.length ∧ σ'.length = σ.length ∧ ∃ A' s, Same (msk A H1) (msk A' H') ∧ Mk' z A' H' ∧ Rel K A' H' σ' (emb s) ∧ forM' step (ds.drop i) s = some r,
    ⟨ds.length, by simp, Nat.zero_le _, rfl, A, s0, Same.refl _, gd.mono s1, (rel.mono s1).le hl, hm⟩, ?_⟩
  rintro i k σ' H' ⟨rfl, hile, len, A', s, sm, gd', rel', run⟩
  by_cases hlt : i < ds.length
  · refine .inr ⟨w.go i H' A' hlt sm, fun σ2 H2 => (i + 1) ≤ ds.length ∧ σ2.length = σ.length ∧ ∃ A' s, Same (msk A H1) (msk A' H2) ∧ Mk' z A' H2 ∧ Rel K A' H2 σ2 (emb s) ∧ forM' step (ds.drop (i + 1)) s = some r, fun σ2 H2 p => ⟨ds.length - (i + 1), by omega, rfl, p⟩, fun x H2 y => ?_⟩
    obtain ⟨s2, d, hd, dx⟩ := w.yld i H' A' x H2 hlt gd'.good sm y
    have hdrop : ds.drop i = d :: ds.drop (i + 1) := by
      rw [List.drop_eq_getElem_cons hlt]
      rw [List.getElem?_eq_getElem hlt] at hd
      rw [Option.some.inj hd]
    rw [hdrop] at run
    unfold forM' at run
    obtain ⟨r1, f1, f2⟩ := Option.bind_eq_some_iff.mp run
    obtain ⟨ρ', ht⟩ := hf s d r1 f1
    refine hg s A' σ' H2 x d ρ' (rel'.mono s2) dx ht _ fun σ2 rel2 st => ?_
    have sm2 : Same (msk A H1) (msk A' H2) := sm.trans (mk_ s2)
    refine hb s d ρ' ht A' σ2 H2 _ r1 (gd'.mono s2) rel2 f1 (fun s3 hs A3 σ3 H3 l3 s3' g3 rel3 => ?_) (fun d3 hd3 v H3 s3' dv => ?_) (fun x3 hx3 cls dd σ3 H3 l3 s3' ex => ?_)
    · subst hs
      exact ⟨hlt, (l3.trans st.1).trans len, A3, s3, sm2.trans s3', g3, rel3, f2⟩
    · subst hd3; cases f2
      exact kr d3 rfl v H3 ((back sm2).trans s3') dv
    · subst hx3; cases f2
      exact ke x3 rfl cls dd σ3 H3 ((l3.trans st.1).trans len) ((back sm2).trans s3') ex
  · have ei : i = ds.length := by omega
    subst ei
    rw [List.drop_length] at run
    cases run
    exact .inl ⟨w.stop H' A' sm, kn s rfl A' σ' H' len (back sm) gd' rel'⟩
theorem sj_for {wi : TI} {j : Nat} {m : Option (List PyData)} {step : S → PyData → SM S} {s0 : S} {emb : S → En} (hi : IvJ K z wi ρ m) (hl : Le (emb s0) ρ) {ρb : S → PyData → En} (hρ : ∀ s d, (emb s).set j (.dat d) = ρb s d)
    (hb : ∀ s d, StJ K z z W ts (ρb s d) (step s d) emb) : StJ K z z W (tFor wi (gName j) ts) ρ (forM m step s0) emb :=
  sj_forG hi hl (fun s => tg_name j) (fun s d r _ => ⟨_, rfl⟩) fun s d ρ' ht => by
    cases ht
    rw [hρ]; exact hb s d
theorem sj_for2 {wi : TI} {i j : Nat} {m : Option (List PyData)} {step : S → PyData → PyData → SM S} {s0 : S} {emb : S → En} (hi : IvJ K z wi ρ m) (hl : Le (emb s0) ρ) {ρb : S → PyData → PyData → En} (hρ : ∀ s a b, ((emb s).set i (.dat a)).set j (.dat b) = ρb s a b)
    (hb : ∀ s a b, StJ K z z W ts (ρb s a b) (step s a b) emb) : StJ K z z W (tFor wi (gTup K 2 (gCons (gName i) (gCons (gName j) gNil))) ts) ρ (forM m (fun s d => pairM d (step s)) s0) emb :=
  sj_forG hi hl (fun s => tg_two i j) (fun s d r h => by
    unfold pairM at h
    split at h
    · exact ⟨_, rfl⟩
    · cases h) fun s d ρ' ht => by
    unfold t2 at ht
    split at ht
    · cases ht
      rw [hρ]; exact hb s _ _
    · cases ht
/-- while c: .. -/
def whileM (c : S → Option Bool) (step : S → SM S) : Nat → S → SM S
  | 0, _ => none
  | n + 1, s => (c s).bind fun k => if k = true then (step s).bind fun r => match r with
      | .ok s' => whileM c step n s'
      | .error o => some (.error o)
    else some (.ok s)
theorem sj_while {n : Nat} {c : S → Option Bool} {step : S → SM S} {s0 : S} {emb : S → En} (hl : Le (emb s0) ρ) (hc : ∀ s, TvJ K z tt (emb s) (c s)) (hb : ∀ s, StJ K z z W ts (emb s) (step s) emb) :
    StJ K z z W (tWhile tt ts) ρ (whileM c step n s0) emb := by
  intro A σ H D r gd rel hm kn kr ke
  refine ⟨fun k σ' H' => σ'.length = σ.length ∧ ∃ A' s, Same (msk A H) (msk A' H') ∧ Mk' z A' H' ∧ Rel K A' H' σ' (emb s) ∧ whileM c step k s = some r, ⟨n, rfl, A, s0, Same.refl _, gd, rel.le hl, hm⟩, ?_⟩
  rintro k σ' H' ⟨len, A', s, sm, gd', rel', run⟩
  cases k with
  | zero => cases run
  | succ k =>
    unfold whileM at run
    obtain ⟨b, f1, f2⟩ := Option.bind_eq_some_iff.mp run
    refine hc s A' σ' H' b gd' rel' f1 _ fun H2 s2 => ?_
    have sm2 : Same (msk A H) (msk A' H2) := sm.trans (mk_ s2)
    cases b with
    | false =>
      cases f2
      exact iteF (kn s rfl A' σ' H2 len sm2 (gd'.mono s2) (rel'.mono s2))
    | true =>
      obtain ⟨r1, f3, f4⟩ := Option.bind_eq_some_iff.mp (show ((step s).bind fun r => match r with
        | .ok s' => whileM c step k s'
        | .error o => some (.error o)) = some r from f2)
      refine iteT ⟨fun σ2 H2 => σ2.length = σ.length ∧ ∃ A' s, Same (msk A H) (msk A' H2) ∧ Mk' z A' H2 ∧ Rel K A' H2 σ2 (emb s) ∧ whileM c step k s = some r, fun σ2 H2 p => ⟨k, Nat.lt_succ_self k, p⟩, ?_⟩
      refine hb s A' σ' H2 _ r1 (gd'.mono s2) (rel'.mono s2) f3 (fun s3 hs A3 σ3 H3 l3 s3' g3 rel3 => ?_) (fun d3 hd3 v H3 s3' dv => ?_) (fun x3 hx3 cls dd σ3 H3 l3 s3' ex => ?_)
      · subst hs
        exact ⟨l3.trans len, A3, s3, sm2.trans s3', g3, rel3, f4⟩
      · subst hd3; cases f4
        exact kr d3 rfl v H3 (sm2.trans s3') dv
      · subst hx3; cases f4
        exact ke x3 rfl cls dd σ3 H3 (l3.trans len) (sm2.trans s3') ex

/-! ### promises -/
def SpF (K : PySem.W.Frag) (F : List PyData → Option (Except Err PyData)) (n : Nat) : Sp := fun vs H Q E => ∃ ds r, DtL K H vs ds ∧ ds.length = n ∧ F ds = some r ∧
  (∀ d, r = .ok d → ∀ (v : V) (H' : Hp), Same H H' → Dt K H' v d → Q v H') ∧ (∀ e, r = .error e → ∀ (cls : Value) (dd : Option Addr) (H' : Hp), Same H H' → ErrAt K H' e cls dd → E cls dd H')
def okO (r : Option (Except Err PyData)) : Option PyData := r.bind fun x => match x with
  | .ok d => some d
  | .error _ => none
theorem okO_some {r : Option (Except Err PyData)} {d : PyData} (h : okO r = some d) : r = some (.ok d) := by
  unfold okO at h
  obtain ⟨x, e, h⟩ := Option.bind_eq_some_iff.mp h
  cases x with
  | ok d' => cases h; exact e
  | error _ => cases h
/-- f(..), nothing is raised, the answer holds no list -/
def fnP (F : List PyData → Option (Except Err PyData)) (n : Nat) (m : Option (List PyData)) : Option PyData := m.bind fun ds => if ds.length = n then (okO (F ds)).bind fun d => if pureT d = true then some d else none else none
/-- f(..), nothing is raised -/
def fnL' (F : List PyData → Option (Except Err PyData)) (n : Nat) (m : Option (List PyData)) : Option PyData := m.bind fun ds => if ds.length = n then okO (F ds) else none
theorem ej_fn {F : List PyData → Option (Except Err PyData)} {n : Nat} {m : Option (List PyData)} (h : AvJ K z ta ρ m) : EvJ K z (tCall (SpF K F n) [] E0 ta) ρ (fnP F n m) := by
  intro A σ H d g rel hm Q q
  unfold fnP at hm
  obtain ⟨ds, e1, hm⟩ := Option.bind_eq_some_iff.mp hm
  split at hm
  · rename_i hn
    obtain ⟨d', e2, hm⟩ := Option.bind_eq_some_iff.mp hm
    split at hm
    · rename_i hp
      cases hm
      refine h A σ H ds g rel e1 _ fun vs H1 s1 d1 => ⟨ds, .ok d, ?_, hn, okO_some e2, fun d2 hd v H' s dv => ?_, fun e he => by cases he⟩
      · rw [List.append_nil]; exact d1.mono Same.unmsk
      · cases hd
        exact q v H' (s1.trans s) (Dt.pure ((g.mono s1).mono s).good dv hp)
    · cases hm
  · cases hm
theorem ej_fnL {F : List PyData → Option (Except Err PyData)} {n : Nat} {m : Option (List PyData)} (h : AvJ K true ta ρ m) : EvJ K true (tCall (SpF K F n) [] E0 ta) ρ (fnL' F n m) := by
  intro A σ H d g rel hm Q q
  unfold fnL' at hm
  obtain ⟨ds, e1, hm⟩ := Option.bind_eq_some_iff.mp hm
  split at hm
  · rename_i hn
    refine h A σ H ds g rel e1 _ fun vs H1 s1 d1 => ⟨ds, .ok d, ?_, hn, okO_some hm, fun d2 hd v H' s dv => ?_, fun e he => by cases he⟩
    · rw [List.append_nil]; exact d1.mono Same.unmsk
    · cases hd
      refine q v H' (s1.trans s) ?_
      rw [g.nil rfl, msk_nil]; exact dv
  · cases hm
theorem ErrAt.mono {H H' : Hp} {e : Err} {cls : Value} {dd : Option Addr} (h : ErrAt K H e cls dd) (s : Same H H') : ErrAt K H' e cls dd := by
  obtain ⟨h1, d, va, vb, h2, h3, h4, h5⟩ := h
  exact ⟨h1, d, va, vb, h2, s _ _ h3, h4.mono s, h5.mono s⟩
/-- x = f(..), f may raise -/
def fnX (F : List PyData → Option (Except Err PyData)) (n : Nat) (m : Option (List PyData)) : SM PyData := m.bind fun ds => if ds.length = n then (F ds).map fun r => match r with
  | .ok d => .ok d
  | .error e => .error (.er e) else none
def fnXP (F : List PyData → Option (Except Err PyData)) (n : Nat) (m : Option (List PyData)) : SM PyData := (fnX F n m).bind fun r => match r with
  | .ok d => if pureT d = true then some (.ok d) else none
  | .error e => some (.error e)
theorem sj_asgX {i : Nat} {F : List PyData → Option (Except Err PyData)} {n : Nat} {m : Option (List PyData)} (h : AvJ K true ta ρ m) : StJ K true true W (tAsg (tCallS (SpF K F n) (WE W) ta) (gName i)) ρ (fnX F n m) fun d => ρ.set i (.dat d) := by
  intro A σ H D r g rel hm kn kr ke
  unfold fnX at hm
  obtain ⟨ds, e1, hm⟩ := Option.bind_eq_some_iff.mp hm
  split at hm
  · rename_i hn
    obtain ⟨x, e2, rfl⟩ := Option.map_eq_some_iff.mp hm
    refine h A σ H ds g rel e1 _ fun vs H1 s1 d1 => ⟨ds, x, d1.mono Same.unmsk, hn, e2, fun d2 hd v H' s dv => ?_, fun e he cls dd H' s ex => ?_⟩
    · subst hd
      refine kn d2 rfl A _ H' List.length_set (mk_ (s1.trans s)) ((g.mono s1).mono s) (Rel.set (slot_dat ?_) i ((rel.mono s1).mono s))
      rw [g.nil rfl, msk_nil]; exact dv
    · subst he
      exact ke e rfl cls dd σ H' rfl (mk0 (s1.trans s)) ex
  · cases hm
theorem sj_threeX {i j k : Nat} {F : List PyData → Option (Except Err PyData)} {n : Nat} {m : Option (List PyData)} (h : AvJ K z ta ρ m) :
    StJ K z z W (tAsg (tCallS (SpF K F n) (WE W) ta) (gTup K 3 (gCons (gName i) (gCons (gName j) (gCons (gName k) gNil))))) ρ (seqM (fnXP F n m) fun d => okM (triM d fun a b c => some (a, b, c)))
    fun (p : PyData × PyData × PyData) => ((ρ.set i (.dat p.1)).set j (.dat p.2.1)).set k (.dat p.2.2) := by
  intro A σ H D r g rel hm kn kr ke
  unfold seqM at hm
  obtain ⟨x, e0, hm⟩ := Option.bind_eq_some_iff.mp hm
  unfold fnXP fnX at e0
  obtain ⟨y, e00, e0⟩ := Option.bind_eq_some_iff.mp e0
  obtain ⟨ds, e1, e00⟩ := Option.bind_eq_some_iff.mp e00
  split at e00
  · rename_i hn
    obtain ⟨w, e2, rfl⟩ := Option.map_eq_some_iff.mp e00
    refine h A σ H ds g rel e1 _ fun vs H1 s1 d1 => ⟨ds, w, d1.mono Same.unmsk, hn, e2, fun d2 hd v H' s dv => ?_, fun e he cls dd H' s ex => ?_⟩
    · subst hd
      split at e0
      · rename_i heq
        cases heq
        split at e0
        · rename_i hp
          cases e0
          obtain ⟨p, e3, rfl⟩ := Option.map_eq_some_iff.mp (show (triM d2 fun a b c => some (a, b, c)).map .ok = some r from hm)
          unfold triM at e3
          split at e3
          · cases e3
            refine tg_three i j k A σ H' v _ _ ((rel.mono s1).mono s) (Dt.pure ((g.mono s1).mono s).good dv hp) rfl _ fun σ' rel' st => ?_
            exact kn _ rfl A σ' H' st.1 (mk_ (s1.trans s)) ((g.mono s1).mono s) rel'
          · cases e3
        · cases e0
      · rename_i heq; cases heq
    · subst he
      split at e0
      · rename_i heq; cases heq
      · rename_i heq
        cases heq; cases e0; cases hm
        exact ke e rfl cls dd σ H' rfl (mk0 (s1.trans s)) ex
  · cases e00
end
end UT
end
section
set_option Elab.async false
set_option linter.all false
set_option maxRecDepth 100000
set_option maxHeartbeats 4000000
/-! the data layer: the rules by syntax -/
namespace UT
open PySem PySem.Spec PyProof.Rows L2

section
variable {X : Cx} {z : Bool} {ρ : En} {pos : Pos} {a b e o : Expr} {es : List Expr} {ta tb te to : TE} {tA : TA} {ma mb m : Option PyData} {mA : Option (List PyData)}
theorem pd_var (i : Nat) {x : Str} {d : PyData} (hρ : ρ[i]? = some (.dat d) := by rfl) (hN : X.N[i]? = some x := by rfl) (hv : Vis X.env.scope x := by first | exact Or.inl rfl | exact Or.inr (Or.inl rfl) | exact Or.inr (Or.inr rfl))
    (hd : (x == ("__debug__" : Str)) = false := by decide) (hcd : (x == ("__classdict__" : Str)) = false := by decide) : PD X z (.Name x pos) (tVar i) ρ (some d) :=
  ⟨pe_var hN hv hd hcd, fun A σ H d' g rel hm Q q => by
    cases hm
    obtain ⟨v, q1, q2⟩ := rel.dat hρ
    exact ⟨v, q1, q v H (Same.refl H) q2⟩⟩
theorem pd_int {i j} : PD X z (.Constant (.int i) j pos) (tC (.int i)) ρ (some (.int i)) := ⟨pe_int, fun A σ H d' g rel hm Q q => by cases hm; exact q _ H (Same.refl H) (.int i)⟩
theorem pd_bl {i j} : PD X z (.Constant (.bool i) j pos) (tC (.bl i)) ρ (some (.bool i)) := ⟨pe_bl, fun A σ H d' g rel hm Q q => by cases hm; exact q _ H (Same.refl H) (.bl i)⟩
theorem pd_non {j} : PD X z (.Constant .none j pos) (tC .non) ρ (some .none) := ⟨pe_non, fun A σ H d' g rel hm Q q => by cases hm; exact q _ H (Same.refl H) .non⟩
theorem pd_str {i j} : PD X z (.Constant (.str i) j pos) (tC (.str i)) ρ (some (.str i)) := ⟨pe_str, fun A σ H d' g rel hm Q q => by cases hm; exact q _ H (Same.refl H) (.str i)⟩
theorem pd_op {op : Operator} {r : R2} {f : PyData → PyData → Option PyData} (ho : OpR X (binaryOp op) r) (hr : RD X.K r f) (ha : PD X z a ta ρ ma) (hb : PD X z b tb ρ mb) : PD X z (.BinOp a op b pos) (tOp r ta tb) ρ (bind2 ma mb f) :=
  ⟨pe_op ho ha.pe hb.pe, ej_op hr ha.ev hb.ev⟩
theorem pd_cmp {op : CmpOp} {r : R2} {f : PyData → PyData → Option PyData} (ho : OpR X (compareOp op) r) (hr : RD X.K r f) (ha : PD X z a ta ρ ma) (hb : PD X z b tb ρ mb) (hm : behindInMarks op b = false := by first | exact nomark _ | rfl) : PD X z (.Compare a [op] [b] pos) (tOp r ta tb) ρ (bind2 ma mb f) :=
  ⟨pe_cmpR ho ha.pe hb.pe hm, ej_op hr ha.ev hb.ev⟩
theorem td_cmp {op : CmpOp} {r : R2} {f : PyData → PyData → Option PyData} (ho : OpR X (compareOp op) r) (hr : RD X.K r f) (ha : PD X z a ta ρ ma) (hb : PD X z b tb ρ mb) (hm : behindInMarks op b = false := by first | exact nomark _ | rfl) :
    TD X z (.Compare a [op] [b] pos) (tTest (tOp r ta tb)) ρ (boolM (bind2 ma mb f)) :=
  ⟨pt_cmpR ho ha.pe hb.pe hm, tj_test (ej_op hr ha.ev hb.ev)⟩
theorem pd_neg (ha : PD X z a ta ρ ma) : PD X z (.UnaryOp .USub a pos) (tUn (rU fun i => .int (-i)) ta) ρ (ma.bind negI) := ⟨pe_un un_neg ha.pe, ej_un ru_neg ha.ev⟩
theorem pd_and (ha : PD X z a ta ρ ma) (hb : PD X z (.BoolOp .And (b :: es) pos) tb ρ mb) : PD X z (.BoolOp .And (a :: b :: es) pos) (tAndV ta tb) ρ (andD ma mb) := ⟨pe_and ha.pe hb.pe, ej_and ha.ev hb.ev⟩
theorem pd_or (ha : PD X z a ta ρ ma) (hb : PD X z (.BoolOp .Or (b :: es) pos) tb ρ mb) : PD X z (.BoolOp .Or (a :: b :: es) pos) (tOrV ta tb) ρ (orD ma mb) := ⟨pe_or ha.pe hb.pe, ej_or ha.ev hb.ev⟩
theorem pd_one {op} (ha : PD X z a ta ρ ma) : PD X z (.BoolOp op [a] pos) ta ρ ma := ⟨pe_one ha.pe, ha.ev⟩
theorem pd_not (ha : PD X z a ta ρ ma) : PD X z (.UnaryOp .Not a pos) (tNotV ta) ρ (notD ma) := ⟨pe_not ha.pe, ej_not ha.ev⟩
theorem td_val (ha : PD X z e te ρ m) (he : ∀ whole, isTrue e X.env whole = (do let v ← whole; standAt e.pos; holding [v] (truthy v)) := by intro _; rfl) : TD X z e (tB te) ρ (boolM m) := ⟨pt_val ha.pe he, tj_B ha.ev⟩
theorem td_tru (ha : PD X z e te ρ m) (he : ∀ whole, isTrue e X.env whole = (do let v ← whole; standAt e.pos; holding [v] (truthy v)) := by intro _; rfl) : TD X z e (fun σ H Q => te σ H fun x H' => ∃ k, TruV X.K x H' k ∧ Q k H') ρ (truM m) := ⟨pt_truth ha.pe he, tj_tru ha.ev⟩
theorem td_not {tt : TT} {c : Option Bool} (h : TD X z a tt ρ c) : TD X z (.UnaryOp .Not a pos) (tNot tt) ρ (notM c) := ⟨pt_not h.pt, tj_not h.ev⟩
theorem wd_and {tt tu : TT} {c d : Option Bool} (h : TD X z a tt ρ c) (k : WD X z (.BoolOp .And (b :: es) pos) tu ρ d) : WD X z (.BoolOp .And (a :: b :: es) pos) (tAnd tt tu) ρ (andM c d) := ⟨pw_and h.pt k.pw, tj_and h.ev k.ev⟩
theorem wd_and1 {tt : TT} {c : Option Bool} (h : TD X z a tt ρ c) : WD X z (.BoolOp .And [a] pos) tt ρ c := ⟨pw_and1 h.pt, h.ev⟩
theorem wd_or {tt tu : TT} {c d : Option Bool} (h : TD X z a tt ρ c) (k : WD X z (.BoolOp .Or (b :: es) pos) tu ρ d) : WD X z (.BoolOp .Or (a :: b :: es) pos) (tOr tt tu) ρ (orM c d) := ⟨pw_or h.pt k.pw, tj_or h.ev k.ev⟩
theorem wd_or1 {tt : TT} {c : Option Bool} (h : TD X z a tt ρ c) : WD X z (.BoolOp .Or [a] pos) tt ρ c := ⟨pw_or1 h.pt, h.ev⟩
theorem td_w {tt : TT} {c : Option Bool} (h : WD X z e tt ρ c) : TD X z e tt ρ c := ⟨h.pw.pt, h.ev⟩
/-- with the list that the def fills, as data -/
theorem pd_un {ρ' : En} (h : PD X z e te ρ' m) (hu : ρ.map Sl.un = ρ' := by rfl) : PD X z e te ρ (pureO m) := ⟨h.pe, ej_un_ h.ev hu⟩
theorem td_un {ρ' : En} {tt : TT} {c : Option Bool} (h : TD X z e tt ρ' c) (hu : ρ.map Sl.un = ρ' := by rfl) : TD X z e tt ρ c := ⟨h.pt, tj_un_ h.ev hu⟩
theorem ad_nil : AD X z [] tNil ρ (some []) := ⟨pa_nil, aj_nil⟩
theorem ad_cons (h : PD X z e te ρ m) (r : AD X z es tA ρ mA) (hs : starEach (e :: es) X.env = (false, eval e X.env) :: starEach es X.env := by rfl) : AD X z (e :: es) (tCons te tA) ρ (consM m mA) := ⟨pa_cons h.pe r.pa hs, aj_cons h.ev r.ev⟩
theorem ad_star {p : Pos} (h : PD X z e te ρ m) (r : AD X z es tA ρ mA) (hs : starEach (.Starred e p :: es) X.env = (true, eval e X.env) :: starEach es X.env := by rfl) : AD X z (.Starred e p :: es) (StX.tStar X.K te tA) ρ (starM m mA) := ⟨StX.pa_star h.pe r.pa hs, aj_star h.ev r.ev⟩
theorem pd_tup {x1} (h : AD X z es tA ρ mA) : PD X z (.Tuple es x1 pos) (tTup tA) ρ (tupM mA) := ⟨pe_tup h.pa, ej_tup h.ev⟩
theorem pd_lst (h : AD X z es tA ρ mA) : PD X z (.List es pos) (tLst tA) ρ (lstM mA) := ⟨pe_lst h.pa, ej_lst h.ev⟩
theorem pd_ix (ha : PD X z a ta ρ ma) (hb : PD X z b tb ρ mb) (hs : PlainIx b := by exact fun _ _ => rfl) : PD X z (.Subscript a b pos) (tOp (rIx X.K) ta tb) ρ (bind2 ma mb idx) := ⟨pe_ix ix_seq ha.pe hb.pe hs, ej_op rd_idx ha.ev hb.ev⟩
/-- parts of slices -/
structure OD (X : Cx) (z : Bool) (e : Option Expr) (t : TO) (ρ : En) (m : Option (Option Int)) : Prop where
  po : PO X e t
  ev : OvJ X.K z t ρ m
theorem od_none : OD X z none tNoPart ρ (some none) := ⟨po_none, oj_none⟩
theorem od_some (h : PD X z e te ρ m) : OD X z (some e) (tPart te) ρ (partM m) := ⟨po_some h.pe, oj_some h.ev⟩
theorem pd_slice {r : V → Option Int → Option Int → Hp → VK → Prop} {f : PyData → Option Int → Option Int → Option PyData} {lo hi : Option Expr} {tl th : TO} {ml mh : Option (Option Int)} {p2 : Pos} (hr : SlR X r) (hf : RS X.K r f) (he : PD X z e te ρ m)
    (hl : OD X z lo tl ρ ml) (hh : OD X z hi th ρ mh) : PD X z (.Subscript e (.Slice lo hi none p2) pos) (tSl r te tl th) ρ (slcM m ml mh f) := ⟨pe_slice hr he.pe hl.po hh.po, ej_slice hf he.ev hl.ev hh.ev⟩
theorem pd_rev {k : Nat} {p1 p2 p3 : Pos} (he : PD X z e te ρ m) : PD X z (.Subscript e (.Slice none none (some (.UnaryOp .USub (.Constant (.int 1) k p1) p2)) p3) pos) (tRevL X.K te) ρ (m.bind revD) := ⟨pe_revL he.pe, ej_rev he.ev⟩
/-- built-ins -/
theorem pd_blt {id : String} {x : Str} {p : Pos} {r : List V → Hp → VK → Prop} {f : List PyData → Option PyData} (hc : CallR X (.builtin id) r) (hf : RC X.K r f) (hm : X.mg x = none) (ha : AD X z (e :: es) tA ρ mA) (hg : Gl X x := by rfl) (hv : bootBuiltins x = some (.builtin id) := by decide +kernel)
    (hn : x ≠ "__name__" := by decide) (hdb : (x == ("__debug__" : Str)) = false := by decide) (he : starEach (e :: es) X.env = (false, eval e X.env) :: starEach es X.env := by rfl) (hpl : (backTo pos (starEach es X.env)).any (·.1) = false := by rfl) :
    PD X z (.Call (.Name x p) (e :: es) [] pos) (tCB r tA) ρ (mA.bind f) := ⟨pe_callB hc hg hm hv ha.pa hn hdb he hpl, ej_call hf ha.ev⟩
theorem pd_ty {T : String} {x : Str} {p : Pos} {r : List V → Hp → VK → Prop} {f : List PyData → Option PyData} (hc : CallR X (.type T) r) (hf : RC X.K r f) (hm : X.mg x = none) (ha : AD X z (e :: es) tA ρ mA) (hg : Gl X x := by rfl) (hv : bootBuiltins x = some (.type T) := by decide +kernel)
    (hn : x ≠ "__name__" := by decide) (hdb : (x == ("__debug__" : Str)) = false := by decide) (he : starEach (e :: es) X.env = (false, eval e X.env) :: starEach es X.env := by rfl) (hpl : (backTo pos (starEach es X.env)).any (·.1) = false := by rfl) :
    PD X z (.Call (.Name x p) (e :: es) [] pos) (tCB r tA) ρ (mA.bind f) := ⟨pe_callTy hc hg hm hv ha.pa hn hdb he hpl, ej_call hf ha.ev⟩
/-- isinstance(e, T), T a built-in class -/
theorem pd_isi {T : Str} {Tn : String} {p p2 : Pos} (he : PD X z e te ρ m) (hi : X.mg "isinstance" = none) (hT : X.mg T = none) (hv : bootBuiltins T = some (.type Tn) := by decide +kernel) (hgi : Gl X "isinstance" := by rfl) (hgT : Gl X T := by rfl) (hn : T ≠ "__name__" := by decide) (hdb : (T == ("__debug__" : Str)) = false := by decide)
    (h1 : starEach [e, .Name T p2] X.env = (false, eval e X.env) :: starEach [.Name T p2] X.env := by rfl) (h2 : starEach [.Name T p2] X.env = (false, eval (.Name T p2) X.env) :: starEach [] X.env := by rfl) (hpl : (backTo pos (starEach [.Name T p2] X.env)).any (·.1) = false := by rfl) :
    PD X z (.Call (.Name "isinstance" p) [e, .Name T p2] [] pos) (tCB (rIsi X.K) (tCons te (tCons (tC (.ty Tn)) tNil))) ρ (m.bind (isiD Tn)) :=
  ⟨pe_callB (id := "isinstance") call_isi hgi hi (by decide +kernel) (pa_cons he.pe (pa_cons (pe_bltn (v := .ty Tn) hgT hT hv rfl hn hdb) pa_nil h2) h1) (by decide) (by decide) h1 hpl, ej_isi he.ev⟩
/-- methods of texts -/
theorem pd_m1 {id : String} {name : Str} {apos : Pos} {r : V → List V → Hp → VK → Prop} {f : PyData → PyData → Option PyData} (slot : Slot "str" name id) (ty : typeOf (.builtin id) = pure (.type "method_descriptor")) (rule : MtR X id r) (hf : RM1 X.K r f) (ho : PD X z o to ρ ma) (he : PD X z e te ρ mb)
    (hs : starEach [e] X.env = [(false, eval e X.env)] := by rfl) (hbase : attributeBase o name X.env (eval o X.env) = eval o X.env := by rfl) (hline : (apos.endLine == pos.line) = true := by rfl) :
    PD X z (.Call (.Attribute o name apos) [e] [] pos) (tM1 r to te) ρ (bind2 ma mb f) := ⟨pe_m1 slot ty rule ho.pe he.pe hs hbase hline, ej_m1 hf ho.ev he.ev⟩
theorem pd_upper {apos : Pos} (ho : PD X z o to ρ ma) (hbase : attributeBase o "upper" X.env (eval o X.env) = eval o X.env := by rfl) (hline : (apos.endLine == pos.line) = true := by rfl) :
    PD X z (.Call (.Attribute o "upper" apos) [] [] pos) (tM0 (fun x xs H Q => ∃ a, x = .str a ∧ xs = [] ∧ a.length ≤ 5592405 ∧ Q (.str (Txt.upper a)) H) to) ρ (ma.bind upperD) := ⟨pe_m0 F.slot_str_upper F.type_str_upper mt_upper ho.pe hbase hline, ej_upper ho.ev⟩
/-- f'..' -/
inductive JD (X : Cx) (z : Bool) (ρ : En) : List Expr → List TE → Option (List PyData) → Prop
  | nil : JD X z ρ [] [] (some [])
  | cons {e : Expr} {t : TE} {es : List Expr} {ts : List TE} {m : Option PyData} {ms : Option (List PyData)} (h : PD X z e t ρ m) (r : JD X z ρ es ts ms) : JD X z ρ (e :: es) (t :: ts) (consM m ms)
theorem JD.pj {ts : List TE} {ms : Option (List PyData)} (h : JD X z ρ es ts ms) : PJ X es ts := by
  induction h with
  | nil => exact .nil
  | cons h r ih => exact .cons h.pe ih
theorem JD.jv {ts : List TE} {ms : Option (List PyData)} (h : JD X z ρ es ts ms) : JvJ X.K z ρ ts ms := by
  induction h with
  | nil => exact .nil
  | cons h r ih => exact .cons h.ev ih
theorem pd_fmt (h : PD X z e te ρ m) : PD X z (.FormattedValue e (-1) none pos) (tFmt te) ρ (m.bind fmtD) := ⟨pe_fmt h.pe, ej_fmt h.ev⟩
theorem pd_joined {v1 v2 : Expr} {ts : List TE} {ms : Option (List PyData)} (h : JD X z ρ (v1 :: v2 :: es) ts ms) : PD X z (.JoinedStr (v1 :: v2 :: es) pos) (fun σ H Q => tJs ts Str.empty σ H fun out H1 => Q (.str out) H1) ρ (fstM ms) := ⟨pe_joined h.pj, ej_joined h.jv⟩
/-- what is walked -/
structure ID (X : Cx) (z : Bool) (tg iter : Expr) (wi : TI) (ρ : En) (m : Option (List PyData)) : Prop where
  pi : PI X tg iter wi
  ev : IvJ X.K z wi ρ m
variable {tg : Expr}
theorem id_list (h : PD X z e te ρ m) : ID X z tg e (iList X.K te) ρ (listM m) := ⟨pi_list h.pe, ij_list h.ev⟩
theorem id_tup (h : PD X z e te ρ m) : ID X z tg e (iTup X.K te) ρ (tupleM m) := ⟨pi_tup h.pe, ij_tup h.ev⟩
theorem id_str (h : PD X z e te ρ m) : ID X z tg e (iStr te) ρ (signM m) := ⟨pi_str h.pe, ij_str h.ev⟩
theorem id_rng1 {p : Pos} (hm : X.mg "range" = none) (h : AD X z [a] tA ρ mA) (hg : Gl X "range" := by rfl) (hs : starEach [a] X.env = [(false, eval a X.env)] := by rfl) : ID X z tg (.Call (.Name "range" p) [a] [] pos) (iRng1 tA) ρ (rng1M mA) := ⟨pi_range1 hg hm h.pa hs, ij_rng1 h.ev⟩
theorem id_rng2 {p : Pos} (hm : X.mg "range" = none) (h : AD X z [a, b] tA ρ mA) (hg : Gl X "range" := by rfl) (hs : starEach [a, b] X.env = [(false, eval a X.env), (false, eval b X.env)] := by rfl) (hs2 : starEach [b] X.env = [(false, eval b X.env)] := by rfl) :
    ID X z tg (.Call (.Name "range" p) [a, b] [] pos) (iRng2 tA) ρ (rng2M mA) := ⟨pi_range2 hg hm h.pa hs hs2, ij_rng2 h.ev⟩
theorem id_enum {p tpos : Pos} {elts : List Expr} {kk : Nat} (hm : X.mg "enumerate" = none) (h : AD X z [e] tA ρ mA) (hg : Gl X "enumerate" := by rfl) (hs : starEach [e] X.env = [(false, eval e X.env)] := by rfl) :
    ID X z (.Tuple elts kk tpos) (.Call (.Name "enumerate" p) [e] [] pos) (iEnum X.K tA) ρ (enumM mA) := ⟨pi_enum hg hm h.pa hs, ij_enum h.ev⟩
/-- comprehensions -/
theorem pd_lc {elt iter : Expr} {scope : Scope} {own : List (Str × Nat)} {wi : TI} {j : Nat} {y : Str} {py : Pos} {ρw : En} {ρb : PyData → En} {mi : Option (List PyData)} {f : PyData → Option PyData} (hN : X.N.Nodup) (hi : ID X z (.Name y py) iter wi ρ mi) (ok : BlkOk X.N X.env.scope scope own)
    (hw : wipeE ρ (own.map (·.2)) = ρw) (hj : (own.map (·.2)).contains j = true) (hb : ∀ d, ρw.set j (.dat d) = ρb d)
    (he : ∀ (s : Shared) (H : Hp) (C : Addr) (cl : List (Str × Addr)) (fp : List Addr) (d : PyData), PD (X.blk s H scope (compEnvC scope cl C X.env) fp) false elt te (ρb d) (f d)) (hc : X.calm = true := by rfl) (hs : ∀ x, foldedSetIterable iter X.env x = pure x := by intro _; rfl)
    (hg : ∀ (s : Shared) (H : Hp) (C : Addr) (cl : List (Str × Addr)) (fp : List Addr), PG (X.blk s H scope (compEnvC scope cl C X.env) fp) (.Name y py) (gName j)) :
    PD X z (.ListComp elt [⟨.Name y py, iter, [], 0⟩] scope pos) (tLc wi (gName j) tYes te (own.map (·.2))) ρ (lcM mi f) :=
  ⟨pe_lc hc hN hi.pi ok hg (fun _ _ _ _ _ => pts_nil) (fun s H C cl fp => (he s H C cl fp .none).pe) hs, by
    refine ej_lc hi.ev hw hj hb fun d => ?_
    exact (he X.s_0 X.H_0 0 [] [] d).ev⟩
end
end UT
end
section
set_option Elab.async false
set_option linter.all false
set_option maxRecDepth 100000
set_option maxHeartbeats 4000000
/-! the data layer: statements by syntax, own defs called, errors raised -/
namespace UT
open PySem PySem.Spec PyProof.Rows L2

/-! ### own defs -/
/-- what a caller knows of the def x -/
def Cal (P : Program) (w : World) (K : PySem.W.Frag) (mg : Str → Option Value) (base : Heap) (x : Str) (k n : Nat) (F : List PyData → Option (Except Err PyData)) : Prop :=
  ∃ (f : Addr) (fd : FuncData) (ps : List Str), FnOk P w K mg base (L2.CX P w) k f fd ps (SpF K F n) ∧ mg x = some (.ref f) ∧ PySem.W.keepIn K (.ref f) = true ∧ Binds K fd ps []
/-- .. called by keywords alone -/
def CalK (P : Program) (w : World) (K : PySem.W.Frag) (mg : Str → Option Value) (base : Heap) (x : Str) (k n : Nat) (ks : List Str) (pm : {α : Type} → List α → List α) (F : List PyData → Option (Except Err PyData)) : Prop :=
  ∃ (f : Addr) (fd : FuncData) (ps : List Str), FnOk P w K mg base (L2.CX P w) k f fd ps (SpF K F n) ∧ mg x = some (.ref f) ∧ PySem.W.keepIn K (.ref f) = true ∧ KBn K fd ps 0 ks (fun _ ws => pm ws) (fun _ zs => pm zs)
section
variable {X : Cx} {z z' : Bool} {ρ : En} {pos p : Pos} {e : Expr} {es : List Expr} {te : TE} {tA : TA} {m : Option PyData} {mA : Option (List PyData)} {x : Str} {k n : Nat} {F : List PyData → Option (Except Err PyData)} {W : WX}
theorem pd_fn (c : Cal X.prog X.w X.K X.mg X.base x k n F) (hr : Room k X.A) (ha : AD X z (e :: es) tA ρ mA) (hg : Gl X x := by rfl) (hdb : (x == ("__debug__" : Str)) = false := by decide) (he : starEach (e :: es) X.env = (false, eval e X.env) :: starEach es X.env := by rfl)
    (hpl : (backTo pos (starEach es X.env)).any (·.1) = false := by rfl) : PD X z (.Call (.Name x p) (e :: es) [] pos) (tCall (SpF X.K F n) [] E0 tA) ρ (fnP F n mA) := by
  obtain ⟨f, fd, ps, G, hm, hk, hb⟩ := c
  exact ⟨pe_call G hr hg hm hk hb .nil passL ha.pa hdb he hpl, ej_fn ha.ev⟩
theorem pd_fnL (c : Cal X.prog X.w X.K X.mg X.base x k n F) (hr : Room k X.A) (ha : AD X true (e :: es) tA ρ mA) (hg : Gl X x := by rfl) (hdb : (x == ("__debug__" : Str)) = false := by decide) (he : starEach (e :: es) X.env = (false, eval e X.env) :: starEach es X.env := by rfl)
    (hpl : (backTo pos (starEach es X.env)).any (·.1) = false := by rfl) : PD X true (.Call (.Name x p) (e :: es) [] pos) (tCall (SpF X.K F n) [] E0 tA) ρ (fnL' F n mA) := by
  obtain ⟨f, fd, ps, G, hm, hk, hb⟩ := c
  exact ⟨pe_call G hr hg hm hk hb .nil passL ha.pa hdb he hpl, ej_fnL ha.ev⟩
/-! keywords -/
structure KD (X : Cx) (z : Bool) (kws : List Keyword) (t : TA) (ρ : En) (m : Option (List PyData)) : Prop where
  pk : PK X kws t
  ev : AvJ X.K z t ρ m
variable {kws : List Keyword} {tk : TA} {mk : Option (List PyData)} {ks : List Str} {pm : {α : Type} → List α → List α}
theorem kd_nil : KD X z [] tNil ρ (some []) := ⟨pk_nil, aj_nil⟩
theorem kd_cons {nm : Option Str} {kpos : Pos} (h : PD X z e te ρ m) (r : KD X z kws tk ρ mk) : KD X z (⟨nm, e, kpos⟩ :: kws) (tCons te tk) ρ (consM m mk) := ⟨pk_cons h.pe r.pk, aj_cons h.ev r.ev⟩
/-- f(k = v, ..), what is raised is wished for at the slots -/
def tCallKS (K : PySem.W.Frag) (F : List PyData → Option (Except Err PyData)) (n j : Nat) (pm : {α : Type} → List α → List α) (E : L2.St → XK) (tk : TA) : TE := fun σ H Q => tk σ H fun zs H2 => zs.length = j ∧ SpF K F n (pm zs) H2 Q (E σ)
theorem pe_callKS {E : L2.St → XK} (c : CalK X.prog X.w X.K X.mg X.base x k n ks pm F) (hr : Room k X.A) (hx : ∀ σ, PassesAt (L2.CX X.prog X.w) X σ (E σ)) (hkw : PK X kws tk) (hg : Gl X x := by rfl) (hall : (backToKw pos (keywordEach kws X.env)).all (·.1.isSome) = true := by rfl)
    (hks : (backToKw pos (keywordEach kws X.env)).filterMap (·.1) = ks := by rfl) (hdb : (x == ("__debug__" : Str)) = false := by decide)
    (hpl : ((backTo pos (starEach [] X.env)).any (·.1) || (backToKw pos (keywordEach kws X.env)).any (·.1.isNone)) = false := by rfl) : PE X (.Call (.Name x p) [] kws pos) (tCallKS X.K F n ks.length pm E tk) := by
  obtain ⟨f, fd, ps, G, hm, hk, hb⟩ := c
  refine ⟨fun pins s σ H Q I h => ?_⟩
  refine wpAny_Call_Name_kw (ld_glob I hg hm ?_ hdb)
  refine PySem.W.callWith_KW0 (h₀ := X.base) I.ok.mod.kin hk hall ?_ hpl
  refine thn (hkw.run pos pins s σ H _ I h) fun ws s2 ⟨zs, H2, I2, rz, l2, q2⟩ => ⟨I2.kIn, ?_⟩
  rw [hks]
  have r2 : Vals (pm zs) (pm ws) := hb.rel (vs := []) (us := []) .nil rz
  have bd := hb.to s2 [] ws I2.kIn rfl (rz.length.symm.trans l2)
  refine wpAny_call (codeAny_mono (G.run X.A X.stack s2 H2 ⟨[], ks.zip ws⟩ (pm ws) (pm zs) Q (E σ) hr I2.env0 bd r2 q2) fun r s' hq => ?_)
  cases r with
  | error er => exact hx σ pins H2 s2 er s' I2 hq
  | ok fl =>
    cases fl with
    | ret u => exact I2.after hq
    | next => exact False.elim hq
    | brk => exact False.elim hq
    | cont => exact False.elim hq
def fnK (F : List PyData → Option (Except Err PyData)) (n j : Nat) (pm : {α : Type} → List α → List α) (m : Option (List PyData)) : Option (Except Err PyData) := m.bind fun ds => if ds.length = j ∧ (pm ds).length = n then F (pm ds) else none
theorem pd_fnK (c : CalK X.prog X.w X.K X.mg X.base x k n ks pm F) (hpm : ∀ (H : Hp) (vs : List V) (ds : List PyData), DtL X.K H vs ds → ds.length = ks.length → DtL X.K H (pm vs) (pm ds)) (hr : Room k X.A) (ha : KD X z kws tk ρ mk) (hg : Gl X x := by rfl) (hall : (backToKw pos (keywordEach kws X.env)).all (·.1.isSome) = true := by rfl)
    (hks : (backToKw pos (keywordEach kws X.env)).filterMap (·.1) = ks := by rfl) (hdb : (x == ("__debug__" : Str)) = false := by decide)
    (hpl : ((backTo pos (starEach [] X.env)).any (·.1) || (backToKw pos (keywordEach kws X.env)).any (·.1.isNone)) = false := by rfl) :
    PD X z (.Call (.Name x p) [] kws pos) (tCallKS X.K F n ks.length pm (fun _ => E0) tk) ρ ((okO (fnK F n ks.length pm mk)).bind fun d => if pureT d = true then some d else none) := by
  refine ⟨pe_callKS c hr (fun σ pins H s er s' I h => by
    obtain ⟨_, _, _, _, _, _, _, _, _, _, _, _, z⟩ := h
    exact z.elim) ha.pk hg hall hks hdb hpl, ?_⟩
  intro A σ H d g rel hm Q q
  obtain ⟨d', e1, hm⟩ := Option.bind_eq_some_iff.mp hm
  split at hm
  · rename_i hp
    cases hm
    have e2 := okO_some e1
    unfold fnK at e2
    obtain ⟨ds, e3, e2⟩ := Option.bind_eq_some_iff.mp e2
    split at e2
    · rename_i hn
      refine ha.ev A σ H ds g rel e3 _ fun vs H1 s1 d1 => ⟨by rw [d1.len]; exact hn.1, pm ds, .ok d, ?_, hn.2, e2, fun d2 hd v H' s dv => ?_, fun er he => by cases he⟩
      · exact (hpm _ _ _ d1 hn.1).mono Same.unmsk
      · cases hd
        exact q v H' (s1.trans s) (Dt.pure ((g.mono s1).mono s).good dv hp)
    · cases e2
  · cases hm

/-! ### statements -/
structure SD (X : Cx) (z z' : Bool) (W : WX) (st : Stmt) (ts : TS) (ρ : En) {S : Type} (m : SM S) (emb : S → En) : Prop where
  ps : PS X st ts
  ev : StJ X.K z z' W ts ρ m emb
structure BD (X : Cx) (z z' : Bool) (W : WX) (sts : List Stmt) (ts : TS) (ρ : En) {S : Type} (m : SM S) (emb : S → En) : Prop where
  pss : PSs X sts ts
  ev : StJ X.K z z' W ts ρ m emb
variable {S T : Type} {st : Stmt} {rest : List Stmt} {t u ts : TS} {z1 : Bool}
theorem bd_cons {m1 : SM S} {e1 : S → En} {m2 : S → SM T} {e2 : T → En} (h1 : SD X z z1 W st t ρ m1 e1) (h2 : ∀ s, BD X z1 z' W rest u (e1 s) (m2 s) e2) (ne : Nonempty S := by exact ⟨default⟩) : BD X z z' W (st :: rest) (tSeq t u) ρ (seqM m1 m2) e2 := by
  obtain ⟨s⟩ := ne
  exact ⟨pss_cons h1.ps (h2 s).pss, sj_seq h1.ev fun s => (h2 s).ev⟩
theorem bd_one {m1 : SM S} {e1 : S → En} (h1 : SD X z z' W st t ρ m1 e1) : BD X z z' W [st] t ρ m1 e1 := ⟨pss_one h1.ps, h1.ev⟩
theorem bd_nil {s : S} {e : S → En} (l : Le (e s) ρ) : BD X z z W [] tNext ρ (some (.ok s)) e := ⟨pss_nil, sj_end l⟩
theorem sd_as {m1 : SM S} {e1 e2 : S → En} (h : SD X z z' W st t ρ m1 e1) (he : ∀ s, e1 s = e2 s) : SD X z z' W st t ρ m1 e2 := by
  have e : e1 = e2 := funext he
  exact e ▸ h
theorem sd_asg {i : Nat} {y : Str} {py : Pos} (nd : X.N.Nodup) (h : PD X z e te ρ m) (hi : X.N[i]? = some y := by rfl) (hx : Loc X.env.scope y := by first | exact Or.inl rfl | exact Or.inr rfl) (hs : swapsWith e (some (.Name y py)) pos.line X.env = pure false := by rfl)
    (hf : X.fn y = true ∨ X.env.scope.names.lookup y = some .local := by first | exact .inl rfl | exact .inr rfl | assumption) : SD X z z W (.Assign [.Name y py] e pos) (tAsg te (gName i)) ρ (okM m) (fun d => ρ.set i (.dat d)) :=
  ⟨ps_set nd hi hx h.pe hs hf, sj_asg h.ev⟩
theorem sd_own {i : Nat} {y : Str} {py lp : Pos} (nd : X.N.Nodup) (h : AD X z es tA ρ mA) (hi : X.N[i]? = some y := by rfl) (hx : Loc X.env.scope y := by first | exact Or.inl rfl | exact Or.inr rfl) (hs : swapsWith (.List es lp) (some (.Name y py)) pos.line X.env = pure false := by rfl)
    (hf : X.fn y = true ∨ X.env.scope.names.lookup y = some .local := by first | exact .inl rfl | exact .inr rfl | assumption) :
    SD X z false W (.Assign [.Name y py] (.List es lp) pos) (tAsg (tLst tA) (gName i)) ρ (okM (mA.bind fun ds => if ds.length ≤ 100000 then some ds else none)) (fun ds => ρ.set i (.own ds)) :=
  ⟨ps_set nd hi hx (pe_lst h.pa) hs hf, sj_own h.ev⟩
theorem sd_ownCat {a b : Expr} {ta tb : TE} {ma mb : Option PyData} {i : Nat} {y : Str} {py lp : Pos} (nd : X.N.Nodup) (ha : PD X z a ta ρ ma) (hb : PD X z b tb ρ mb) (hi : X.N[i]? = some y := by rfl) (hx : Loc X.env.scope y := by first | exact Or.inl rfl | exact Or.inr rfl) (hs : swapsWith (.BinOp a .Add b lp) (some (.Name y py)) pos.line X.env = pure false := by rfl)
    (hf : X.fn y = true ∨ X.env.scope.names.lookup y = some .local := by first | exact .inl rfl | exact .inr rfl | assumption) :
    SD X z false W (.Assign [.Name y py] (.BinOp a .Add b lp) pos) (tAsg (tOp rCat ta tb) (gName i)) ρ (okM ((bind2 ma mb catL).bind fun d => match d with | .list ds => some ds | _ => none)) (fun ds => ρ.set i (.own ds)) :=
  ⟨ps_set nd hi hx (pe_op op_cat ha.pe hb.pe) hs hf, sj_ownCat ha.ev hb.ev⟩
theorem pg_nm (nd : X.N.Nodup) {i : Nat} {y : Str} {py : Pos} (hi : X.N[i]? = some y) (hx : Loc X.env.scope y) (hf : X.fn y = true ∨ X.env.scope.names.lookup y = some .local) : PG X (.Name y py) (gName i) := pg_name nd hi hx hf
theorem sd_two {i j : Nat} {y1 y2 : Str} {p1 p2 tp : Pos} {kk : Nat} (nd : X.N.Nodup) (h : PD X z e te ρ m) (hc : X.calm = true := by rfl) (hi : X.N[i]? = some y1 := by rfl) (hj : X.N[j]? = some y2 := by rfl) (hx1 : Loc X.env.scope y1 := by first | exact Or.inl rfl | exact Or.inr rfl) (hx2 : Loc X.env.scope y2 := by first | exact Or.inl rfl | exact Or.inr rfl)
    (hf1 : X.fn y1 = true ∨ X.env.scope.names.lookup y1 = some .local := by first | exact .inl rfl | exact .inr rfl | assumption) (hf2 : X.fn y2 = true ∨ X.env.scope.names.lookup y2 = some .local := by first | exact .inl rfl | exact .inr rfl | assumption)
    (hs : swapsWithSole [.Tuple [.Name y1 p1, .Name y2 p2] kk tp] e pos.line X.env = pure false := by rfl) (hw : swappedStores [.Tuple [.Name y1 p1, .Name y2 p2] kk tp] e X.env = pure none := by rfl) :
    SD X z z W (.Assign [.Tuple [.Name y1 p1, .Name y2 p2] kk tp] e pos) (tAsg te (gTup X.K 2 (gCons (gName i) (gCons (gName j) gNil)))) ρ (okM (m.bind fun d => pairM d fun a b => some (a, b))) (fun (q : PyData × PyData) => (ρ.set i (.dat q.1)).set j (.dat q.2)) :=
  ⟨ps_asg h.pe (pg_tup (n := 2) hc (pgs_cons (pg_nm nd hi hx1 hf1) (pgs_cons (pg_nm nd hj hx2 hf2) pgs_nil))) hs hw, sj_two h.ev⟩
theorem sd_three {i j l : Nat} {y1 y2 y3 : Str} {p1 p2 p3 tp : Pos} {kk : Nat} (nd : X.N.Nodup) (h : PD X z e te ρ m) (hc : X.calm = true := by rfl) (hi : X.N[i]? = some y1 := by rfl) (hj : X.N[j]? = some y2 := by rfl) (hl : X.N[l]? = some y3 := by rfl)
    (hx1 : Loc X.env.scope y1 := by first | exact Or.inl rfl | exact Or.inr rfl) (hx2 : Loc X.env.scope y2 := by first | exact Or.inl rfl | exact Or.inr rfl) (hx3 : Loc X.env.scope y3 := by first | exact Or.inl rfl | exact Or.inr rfl)
    (hf1 : X.fn y1 = true ∨ X.env.scope.names.lookup y1 = some .local := by first | exact .inl rfl | exact .inr rfl | assumption) (hf2 : X.fn y2 = true ∨ X.env.scope.names.lookup y2 = some .local := by first | exact .inl rfl | exact .inr rfl | assumption) (hf3 : X.fn y3 = true ∨ X.env.scope.names.lookup y3 = some .local := by first | exact .inl rfl | exact .inr rfl | assumption)
    (hs : swapsWithSole [.Tuple [.Name y1 p1, .Name y2 p2, .Name y3 p3] kk tp] e pos.line X.env = pure false := by rfl) (hw : swappedStores [.Tuple [.Name y1 p1, .Name y2 p2, .Name y3 p3] kk tp] e X.env = pure none := by rfl) :
    SD X z z W (.Assign [.Tuple [.Name y1 p1, .Name y2 p2, .Name y3 p3] kk tp] e pos) (tAsg te (gTup X.K 3 (gCons (gName i) (gCons (gName j) (gCons (gName l) gNil))))) ρ (okM (m.bind fun d => triM d fun a b c => some (a, b, c)))
      (fun (q : PyData × PyData × PyData) => ((ρ.set i (.dat q.1)).set j (.dat q.2.1)).set l (.dat q.2.2)) :=
  ⟨ps_asg h.pe (pg_tup (n := 3) hc (pgs_cons (pg_nm nd hi hx1 hf1) (pgs_cons (pg_nm nd hj hx2 hf2) (pgs_cons (pg_nm nd hl hx3 hf3) pgs_nil)))) hs hw, sj_three h.ev⟩
theorem sd_if {c : Expr} {tt : TT} {mc : Option Bool} {aa bb : List Stmt} {ma mb : SM S} {emb : S → En} (hc : TD X z c tt ρ mc) (ha : BD X z z' W aa t ρ ma emb) (hb : BD X z z' W bb u ρ mb emb) : SD X z z' W (.If c aa bb pos) (tIfS tt t u) ρ (ifM mc ma mb) emb :=
  ⟨ps_if hc.pt ha.pss hb.pss, sj_if hc.ev ha.ev hb.ev⟩
theorem sd_ret {ρ' : En} {emb : S → En} (h : PD X true e te ρ' m) (hu : ρ.map Sl.un = ρ' := by rfl) : SD X z z' W (.Return (some e) pos) (tRet te) ρ (retM m) emb := ⟨ps_ret h.pe, sj_ret h.ev hu⟩
theorem sd_app {i : Nat} {ds : List PyData} {x0 : Str} {p0 apos cpos : Pos} (h : PD X z e te ρ m) (hi : ρ[i]? = some (.own ds) := by rfl) (hn : noOwn (ρ.set i .no) = true := by rfl) (hN : X.N[i]? = some x0 := by rfl) (hv : Vis X.env.scope x0 := by first | exact Or.inl rfl | exact Or.inr (Or.inl rfl) | exact Or.inr (Or.inr rfl))
    (hd : (x0 == ("__debug__" : Str)) = false := by decide) (hcd : (x0 == ("__classdict__" : Str)) = false := by decide) (hbase : attributeBase (.Name x0 p0) "append" X.env (eval (.Name x0 p0) X.env) = eval (.Name x0 p0) X.env := by rfl)
    (hfew : ((backTo cpos (starEach [e] X.env)).all (fun x => !x.1) && (backToKw cpos (keywordEach [] X.env)).all (fun x => x.1.isSome) && decide (([e] : List Expr).length + ([] : List Keyword).length + (if ([] : List Keyword).isEmpty then 0 else 1) < 30)) = true := by rfl)
    (hline : (apos.endLine == cpos.line) = true := by rfl) (hst : starEach [e] X.env = (false, eval e X.env) :: starEach [] X.env := by rfl) (hpl : (backTo cpos (starEach [] X.env)).any (·.1) = false := by rfl) (hs : swapsWith (.Call (.Attribute (.Name x0 p0) "append" apos) [e] [] cpos) none pos.line X.env = pure false := by rfl) :
    SD X z z W (.Expr (.Call (.Attribute (.Name x0 p0) "append" apos) [e] [] cpos) pos) (tDrop (tBM X.K "list" rAppend (tVar i) (tCons te tNil))) ρ (okM (m.bind fun d => if ds.length < 100000 then some (ds ++ [d]) else none)) (fun es => ρ.set i (.own es)) :=
  ⟨ps_expr (pe_bm PySem.F.plainAttrs_list PySem.F.slot_list_append PySem.F.type_list_append mt_append (pe_var hN hv hd hcd) (pa_cons h.pe pa_nil hst) hbase hfew hline hst hpl) hs, sj_app h.ev hi hn⟩
end
end UT
end
section
set_option Elab.async false
set_option linter.all false
set_option maxRecDepth 100000
set_option maxHeartbeats 4000000
/-! the data layer: loops by syntax, errors raised and caught, the promise of a def -/
namespace UT
open PySem PySem.Spec PyProof.Rows L2
section
variable {X : Cx} {z z' : Bool} {ρ : En} {pos p : Pos} {e : Expr} {es : List Expr} {te : TE} {tA : TA} {m : Option PyData} {mA : Option (List PyData)} {x : Str} {k n : Nat} {F : List PyData → Option (Except Err PyData)} {W : WX}
variable {S T : Type} {st : Stmt} {rest body : List Stmt} {t u ts : TS} {z1 : Bool}
theorem sd_augA {i : Nat} {d0 : PyData} {y : Str} {py : Pos} (nd : X.N.Nodup) (h : PD X z e te ρ m) (hd : ρ[i]? = some (.dat d0) := by rfl) (hi : X.N[i]? = some y := by rfl) (hx : Loc X.env.scope y := by first | exact Or.inl rfl | exact Or.inr rfl)
    (hf : X.fn y = true ∨ X.env.scope.names.lookup y = some .local := by first | exact .inl rfl | exact .inr rfl | assumption) :
    SD X z z W (.AugAssign (.Name y py) .Add e pos) (tAug i te (ipI fun i j => i + j)) ρ (okM (m.bind (addI d0))) (fun d => ρ.set i (.dat d)) :=
  ⟨ps_aug nd hi hx h.pe ip_add hf, sj_aug h.ev hd addI_inv⟩
theorem sd_augS {i : Nat} {d0 : PyData} {y : Str} {py : Pos} (nd : X.N.Nodup) (h : PD X z e te ρ m) (hd : ρ[i]? = some (.dat d0) := by rfl) (hi : X.N[i]? = some y := by rfl) (hx : Loc X.env.scope y := by first | exact Or.inl rfl | exact Or.inr rfl)
    (hf : X.fn y = true ∨ X.env.scope.names.lookup y = some .local := by first | exact .inl rfl | exact .inr rfl | assumption) :
    SD X z z W (.AugAssign (.Name y py) .Sub e pos) (tAug i te (ipI fun i j => i - j)) ρ (okM (m.bind (subI d0))) (fun d => ρ.set i (.dat d)) :=
  ⟨ps_aug nd hi hx h.pe ip_sub hf, sj_aug h.ev hd subI_inv⟩
theorem sd_ext {i : Nat} {ds : List PyData} {x0 : Str} {p0 apos cpos : Pos} (h : PD X z e te ρ m) (hi : ρ[i]? = some (.own ds) := by rfl) (hn : noOwn (ρ.set i .no) = true := by rfl) (hN : X.N[i]? = some x0 := by rfl) (hv : Vis X.env.scope x0 := by first | exact Or.inl rfl | exact Or.inr (Or.inl rfl) | exact Or.inr (Or.inr rfl))
    (hd : (x0 == ("__debug__" : Str)) = false := by decide) (hcd : (x0 == ("__classdict__" : Str)) = false := by decide) (hbase : attributeBase (.Name x0 p0) "extend" X.env (eval (.Name x0 p0) X.env) = eval (.Name x0 p0) X.env := by rfl)
    (hfew : ((backTo cpos (starEach [e] X.env)).all (fun x => !x.1) && (backToKw cpos (keywordEach [] X.env)).all (fun x => x.1.isSome) && decide (([e] : List Expr).length + ([] : List Keyword).length + (if ([] : List Keyword).isEmpty then 0 else 1) < 30)) = true := by rfl)
    (hline : (apos.endLine == cpos.line) = true := by rfl) (hst : starEach [e] X.env = (false, eval e X.env) :: starEach [] X.env := by rfl) (hpl : (backTo cpos (starEach [] X.env)).any (·.1) = false := by rfl) (hs : swapsWith (.Call (.Attribute (.Name x0 p0) "extend" apos) [e] [] cpos) none pos.line X.env = pure false := by rfl) :
    SD X z z W (.Expr (.Call (.Attribute (.Name x0 p0) "extend" apos) [e] [] cpos) pos) (tDrop (tBM X.K "list" rExtend (tVar i) (tCons te tNil))) ρ (okM (m.bind fun d => match d with | .list es => if ds.length + es.length ≤ 100000 then some (ds ++ es) else none | _ => none)) (fun es => ρ.set i (.own es)) :=
  ⟨ps_expr (pe_bm PySem.F.plainAttrs_list PySem.F.slot_list_extend PySem.F.type_list_extend mt_extend (pe_var hN hv hd hcd) (pa_cons h.pe pa_nil hst) hbase hfew hline hst hpl) hs, sj_ext h.ev hi hn⟩
theorem sd_for {iter : Expr} {wi : TI} {j : Nat} {y : Str} {py : Pos} {mi : Option (List PyData)} {step : S → PyData → SM S} {s0 : S} {emb : S → En} {ρb : S → PyData → En} (nd : X.N.Nodup) (hp : PassesOwn (model X.prog X.w) X.A X.env X.xe) (hi : ID X z (.Name y py) iter wi ρ mi) (hl : Le (emb s0) ρ)
    (hρ : ∀ s d, (emb s).set j (.dat d) = ρb s d) (hb : ∀ s d, BD X z z W body ts (ρb s d) (step s d) emb) (hc : X.calm = true := by rfl) (hj : X.N[j]? = some y := by rfl) (hx : Loc X.env.scope y := by first | exact Or.inl rfl | exact Or.inr rfl)
    (hf : X.fn y = true ∨ X.env.scope.names.lookup y = some .local := by first | exact .inl rfl | exact .inr rfl | assumption) (hs : ∀ x, foldedSetIterable iter X.env x = pure x := by intro _; rfl) :
    SD X z z W (.For (.Name y py) iter body [] pos) (tFor wi (gName j) ts) ρ (forM mi step s0) emb :=
  ⟨ps_for hp hc hi.pi (pg_nm nd hj hx hf) (hb s0 .none).pss hs, sj_for hi.ev hl hρ fun s d => (hb s d).ev⟩
theorem sd_for2 {iter : Expr} {wi : TI} {i j : Nat} {y1 y2 : Str} {p1 p2 tp : Pos} {kk : Nat} {mi : Option (List PyData)} {step : S → PyData → PyData → SM S} {s0 : S} {emb : S → En} {ρb : S → PyData → PyData → En} (nd : X.N.Nodup) (hp : PassesOwn (model X.prog X.w) X.A X.env X.xe)
    (hi : ID X z (.Tuple [.Name y1 p1, .Name y2 p2] kk tp) iter wi ρ mi) (hl : Le (emb s0) ρ) (hρ : ∀ s a b, ((emb s).set i (.dat a)).set j (.dat b) = ρb s a b) (hb : ∀ s a b, BD X z z W body ts (ρb s a b) (step s a b) emb) (hc : X.calm = true := by rfl) (h1 : X.N[i]? = some y1 := by rfl) (h2 : X.N[j]? = some y2 := by rfl)
    (hx1 : Loc X.env.scope y1 := by first | exact Or.inl rfl | exact Or.inr rfl) (hx2 : Loc X.env.scope y2 := by first | exact Or.inl rfl | exact Or.inr rfl) (hf1 : X.fn y1 = true ∨ X.env.scope.names.lookup y1 = some .local := by first | exact .inl rfl | exact .inr rfl | assumption)
    (hf2 : X.fn y2 = true ∨ X.env.scope.names.lookup y2 = some .local := by first | exact .inl rfl | exact .inr rfl | assumption) (hs : ∀ x, foldedSetIterable iter X.env x = pure x := by intro _; rfl) :
    SD X z z W (.For (.Tuple [.Name y1 p1, .Name y2 p2] kk tp) iter body [] pos) (tFor wi (gTup X.K 2 (gCons (gName i) (gCons (gName j) gNil))) ts) ρ (forM mi (fun s d => pairM d (step s)) s0) emb :=
  ⟨ps_for hp hc hi.pi (pg_tup (n := 2) hc (pgs_cons (pg_nm nd h1 hx1 hf1) (pgs_cons (pg_nm nd h2 hx2 hf2) pgs_nil))) (hb s0 .none .none).pss hs, sj_for2 hi.ev hl hρ fun s a b => (hb s a b).ev⟩
theorem sd_while {c : Expr} {tt : TT} {n : Nat} {cc : S → Option Bool} {step : S → SM S} {s0 : S} {emb : S → En} (hp : PassesOwn (model X.prog X.w) X.A X.env X.xe) (hl : Le (emb s0) ρ) (hc : ∀ s, TD X z c tt (emb s) (cc s)) (hb : ∀ s, BD X z z W body ts (emb s) (step s) emb) :
    SD X z z W (.While c body [] pos) (tWhile tt ts) ρ (whileM cc step n s0) emb :=
  ⟨ps_while hp (hc s0).pt (hb s0).pss, sj_while hl (fun s => (hc s).ev) fun s => (hb s).ev⟩

/-! ### errors of one's own -/
/-- __init__ of an error: self.f1 = x; self.f2 = y -/
def spInit (C : Addr) (f1 f2 : Str) : Sp := fun vs H Q _ => ∃ (a : Addr) (x y : V), vs = [.ref a, x, y] ∧ H a = some (exo a C none) ∧
  ∀ dx, H dx = none → dx ≠ a → Q .non (upd (upd (upd H dx (exd dx [(f1, x)])) a (exo a C (some dx))) dx (exd dx [(f2, y), (f1, x)]))
/-- what a def that raises knows of the error's class -/
def RaC (P : Program) (w : World) (K : PySem.W.Frag) (mg : Str → Option Value) (base : Heap) (c : ErrC) (k : Nat) : Prop :=
  OexC K (He.ga K c.name) ∧ mg c.name = some (.ref (He.ga K c.name)) ∧ ∃ (fI : Addr) (fd : FuncData) (ps : List Str), PySem.W.findIn K (.ref (He.ga K c.name)) "__init__" = some (some (.ref fI)) ∧ PySem.W.typeIn K (.ref fI) = some (.type "function") ∧
    FnOk P w K mg base (L2.CX P w) k fI fd ps (spInit (He.ga K c.name) c.f1 c.f2) ∧ Binds K fd ps []
def raiseM {S : Type} (c : ErrC) (m : Option (List PyData)) : SM S := m.bind fun ds => match ds with
  | [a, b] => if pureT a = true ∧ pureT b = true then some (.error (.er ⟨c, a, b⟩)) else none
  | _ => none
def tRz (K : PySem.W.Frag) (W : WX) (c : ErrC) (ta : TA) : TS := fun _ σ H => tMkO (He.ga K c.name) (spInit (He.ga K c.name) c.f1 c.f2) [] ta σ H fun cls d H' => W cls d σ H'
theorem sj_raise {K : PySem.W.Frag} {c : ErrC} {ta : TA} {emb : S → En} (ha : AvJ K z ta ρ mA) : StJ K z z' W (tRz K W c ta) ρ (raiseM c mA) emb := by
  intro A σ H D r g rel hm kn kr ke
  unfold raiseM at hm
  obtain ⟨ds, e1, hm⟩ := Option.bind_eq_some_iff.mp hm
  split at hm
  · rename_i da db
    split at hm
    · rename_i hp
      cases hm
      refine ha A σ H _ g rel e1 _ fun vs H1 s1 d1 => ?_
      obtain ⟨v, w, rfl, dv, dw⟩ := d1.two
      refine ⟨by show 2 ≤ 1000; decide, fun a hn => ⟨a, v, w, rfl, upd_same, fun dx hdx hne => ⟨rfl, dx, _, ?_, upd_same, ?_, ?_⟩⟩⟩
      · rw [upd_ne (Ne.symm hne), upd_same]
      · rw [upd_ne hne] at hdx; exact hdx
      · have hdx1 : H1 dx = none := by rw [upd_ne hne] at hdx; exact hdx
        have sm : Same H1 (upd (del (upd (upd (upd (upd H1 a (exo a (He.ga K c.name) none)) dx (exd dx [(c.f1, v)])) a (exo a (He.ga K c.name) (some dx))) dx (exd dx [(c.f2, w), (c.f1, v)])) a) dx (.xd [(c.f2, w), (c.f1, v)])) := fun b o hb => by
          have nb1 : b ≠ a := ne_of_none hb hn
          have nb2 : b ≠ dx := ne_of_none hb hdx1
          rw [upd_ne nb2, del_ne nb1, upd_ne nb2, upd_ne nb1, upd_ne nb2, upd_ne nb1]
          exact hb
        refine ke _ rfl (.ref (He.ga K c.name)) (some dx) σ _ rfl (mk0 (s1.trans sm)) ⟨rfl, dx, v, w, rfl, upd_same, ?_, ?_⟩
        · exact (dv.mono Same.unmsk).mono sm
        · exact (dw.mono Same.unmsk).mono sm
    · cases hm
  · cases hm
theorem sd_raise {c : ErrC} {emb : S → En} {pos2 : Pos} (R : RaC X.prog X.w X.K X.mg X.base c k) (hr : Room (k + 1) X.A) (tk : Takes X W) (ha : AD X z (e :: es) tA ρ mA) (hx : x = c.name := by rfl) (hg : Gl X x := by rfl) (hc : X.calm = true := by rfl)
    (hdb : (x == ("__debug__" : Str)) = false := by decide) (he : starEach (e :: es) X.env = (false, eval e X.env) :: starEach es X.env := by rfl) (hpl : (backTo pos (starEach es X.env)).any (·.1) = false := by rfl) :
    SD X z z' W (.Raise (some (.Call (.Name x p) (e :: es) [] pos)) none pos2) (tRz X.K W c tA) ρ (raiseM c mA) emb := by
  subst hx
  obtain ⟨T, hm, fI, fd, ps, iC, tI, G, hb⟩ := R
  exact ⟨ps_raise hc tk (pmk_oex T iC tI G hr hb .nil passL hg hm ha.pa hdb he hpl), sj_raise ha.ev⟩

/-! ### raising calls -/
theorem sd_asgX {i : Nat} {y : Str} {py : Pos} (nd : X.N.Nodup) (c : Cal X.prog X.w X.K X.mg X.base x k n F) (hr : Room k X.A) (tk : Takes X W) (ha : AD X true (e :: es) tA ρ mA) (hg : Gl X x := by rfl) (hdb : (x == ("__debug__" : Str)) = false := by decide)
    (he : starEach (e :: es) X.env = (false, eval e X.env) :: starEach es X.env := by rfl) (hpl : (backTo pos (starEach es X.env)).any (·.1) = false := by rfl) {pos2 : Pos} (hi : X.N[i]? = some y := by rfl) (hx : Loc X.env.scope y := by first | exact Or.inl rfl | exact Or.inr rfl)
    (hs : swapsWith (.Call (.Name x p) (e :: es) [] pos) (some (.Name y py)) pos2.line X.env = pure false := by rfl) (hf : X.fn y = true ∨ X.env.scope.names.lookup y = some .local := by first | exact .inl rfl | exact .inr rfl | assumption) :
    SD X true true W (.Assign [.Name y py] (.Call (.Name x p) (e :: es) [] pos) pos2) (tAsg (tCallS (SpF X.K F n) (WE W) tA) (gName i)) ρ (fnX F n mA) (fun d => ρ.set i (.dat d)) := by
  obtain ⟨f, fd, ps, G, hm, hk, hb⟩ := c
  exact ⟨ps_set nd hi hx (pe_callS G hr hg hm hk hb (fun σ => passAt tk σ) ha.pa hdb he hpl) hs hf, sj_asgX ha.ev⟩
theorem sd_threeX {i j l : Nat} {y1 y2 y3 : Str} {p1 p2 p3 tp pos2 : Pos} {kk : Nat} (nd : X.N.Nodup) (c : Cal X.prog X.w X.K X.mg X.base x k n F) (hr : Room k X.A) (tk : Takes X W) (ha : AD X z (e :: es) tA ρ mA) (hg : Gl X x := by rfl) (hdb : (x == ("__debug__" : Str)) = false := by decide)
    (he : starEach (e :: es) X.env = (false, eval e X.env) :: starEach es X.env := by rfl) (hpl : (backTo pos (starEach es X.env)).any (·.1) = false := by rfl) (hc : X.calm = true := by rfl) (hi : X.N[i]? = some y1 := by rfl) (hj : X.N[j]? = some y2 := by rfl) (hl : X.N[l]? = some y3 := by rfl)
    (hx1 : Loc X.env.scope y1 := by first | exact Or.inl rfl | exact Or.inr rfl) (hx2 : Loc X.env.scope y2 := by first | exact Or.inl rfl | exact Or.inr rfl) (hx3 : Loc X.env.scope y3 := by first | exact Or.inl rfl | exact Or.inr rfl)
    (hf1 : X.fn y1 = true ∨ X.env.scope.names.lookup y1 = some .local := by first | exact .inl rfl | exact .inr rfl | assumption) (hf2 : X.fn y2 = true ∨ X.env.scope.names.lookup y2 = some .local := by first | exact .inl rfl | exact .inr rfl | assumption) (hf3 : X.fn y3 = true ∨ X.env.scope.names.lookup y3 = some .local := by first | exact .inl rfl | exact .inr rfl | assumption)
    (hs : swapsWithSole [.Tuple [.Name y1 p1, .Name y2 p2, .Name y3 p3] kk tp] (.Call (.Name x p) (e :: es) [] pos) pos2.line X.env = pure false := by rfl) (hw : swappedStores [.Tuple [.Name y1 p1, .Name y2 p2, .Name y3 p3] kk tp] (.Call (.Name x p) (e :: es) [] pos) X.env = pure none := by rfl) :
    SD X z z W (.Assign [.Tuple [.Name y1 p1, .Name y2 p2, .Name y3 p3] kk tp] (.Call (.Name x p) (e :: es) [] pos) pos2) (tAsg (tCallS (SpF X.K F n) (WE W) tA) (gTup X.K 3 (gCons (gName i) (gCons (gName j) (gCons (gName l) gNil))))) ρ (seqM (fnXP F n mA) fun d => okM (triM d fun a b c => some (a, b, c)))
      (fun (q : PyData × PyData × PyData) => ((ρ.set i (.dat q.1)).set j (.dat q.2.1)).set l (.dat q.2.2)) := by
  obtain ⟨f, fd, ps, G, hm, hk, hb⟩ := c
  exact ⟨ps_asg (pe_callS G hr hg hm hk hb (fun σ => passAt tk σ) ha.pa hdb he hpl) (pg_tup (n := 3) hc (pgs_cons (pg_nm nd hi hx1 hf1) (pgs_cons (pg_nm nd hj hx2 hf2) (pgs_cons (pg_nm nd hl hx3 hf3) pgs_nil)))) hs hw, sj_threeX ha.ev⟩

/-! ### the promise of a def -/
def runM {S : Type} (m : SM S) : Option (Except Err PyData) := m.bind fun r => match r with
  | .ok _ => some (.ok .none)
  | .error (.rt d) => some (.ok d)
  | .error (.er e) => some (.error e)
theorem rel_start {K : PySem.W.Frag} {H : Hp} : ∀ {vs : List V} {ds : List PyData} (j : Nat), DtL K H vs ds → Rel K [] H (vs.map some ++ List.replicate j none) (ds.map Sl.dat ++ List.replicate j Sl.no)
  | _, _, 0, .nil => trivial
  | _, _, j + 1, .nil => ⟨trivial, rel_start (vs := []) (ds := []) j .nil⟩
  | _, _, j, .cons h r => ⟨⟨_, rfl, by rw [msk_nil]; exact h⟩, rel_start j r⟩
section
variable {P : Program} {w : World} {K : PySem.W.Frag} {mg : Str → Option Value} {base : Heap}
theorem fnF {nm qual : Str} {params : Arguments} {bd : List Stmt} {scope : Scope} {f : Addr} {fd : FuncData} {N ps : List Str} {k n : Nat} {F : List PyData → Option (Except Err PyData)} (Fn : FunD K nm qual params bd scope [] [] f fd) (Sc : FnScope N ps scope) (hn : ps.length = n)
    (hb : ∀ (cdv : Value) (A : Around) (outer : List Env) (s : Shared) (H : Hp) (E : XK), Room k (A.deeper (envOfC qual scope s.heap.objs.size f cdv)) → ∀ ds : List PyData, ds.length = n →
      ∃ (S : Type) (t : TS) (z' : Bool) (mm : SM S) (emb : S → En), F ds = runM mm ∧ BD (cxOf (L2.CX P w) P w K mg base N qual scope f cdv A outer s H E) true z' (fun cls d _ H => E cls d H) bd t (ds.map Sl.dat ++ List.replicate (N.length - n) Sl.no) mm emb) :
    FnOk P w K mg base (L2.CX P w) (k + 1) f fd ps (SpF K F n) := by
  refine Fn.ok Sc (fun vs H Q E h => ?_) (fun cdv A outer s H vs Q E hr h => ?_)
  · obtain ⟨ds, r, h1, h2, _⟩ := h
    rw [h1.len, h2, hn]
  · obtain ⟨ds, r, h1, h2, h3, h4, h5⟩ := h
    obtain ⟨S, t, z', mm, emb, e, B⟩ := hb cdv A outer s H E hr ds h2
    refine ⟨t, B.pss, ?_⟩
    rw [e] at h3
    unfold runM at h3
    obtain ⟨r0, e0, h3⟩ := Option.bind_eq_some_iff.mp h3
    have hvs : vs.length = n := by rw [h1.len, h2]
    have rel : Rel K [] H (L2.start N vs) (ds.map Sl.dat ++ List.replicate (N.length - n) Sl.no) := by
      unfold L2.start
      rw [hvs]
      exact rel_start _ h1
    refine B.ev [] (L2.start N vs) H _ r0 Mk'.no rel e0 (fun s hs A' σ' H' _ s' _ _ => ?_) (fun d hd v H' s' dv => ?_) (fun x hx cls dd σ' H' _ s' ex => ?_)
    · subst hs; cases h3
      rw [msk_nil] at s'
      exact h4 _ rfl .non H' (s'.trans Same.unmsk) .non
    · subst hd; cases h3
      rw [msk_nil] at s'
      exact h4 _ rfl v H' s' dv
    · subst hx; cases h3
      rw [msk_nil] at s'
      exact h5 _ rfl cls dd H' s' ex
end
end
end UT
end
section
set_option Elab.async false
set_option linter.all false
set_option maxRecDepth 100000
set_option maxHeartbeats 4000000
/-! the data layer: the rest that this text wants -/
namespace UT
open PySem PySem.Spec PyProof.Rows L2
instance : Inhabited PyData := ⟨.none⟩
theorem hu0 {X : Cx} {k : Nat} (hr : Room k X.A) : X.A.units < cLine := by have := hr.un; omega
theorem hu1 {X : Cx} {k : Nat} (hr : Room k X.A) : X.A.units + 65 < cLine := by have := hr.un; omega
def pureD (d : PyData) : Option PyData := if pureT d = true then some d else none
def pmId {α : Type} (l : List α) : List α := l
def pmSwap {α : Type} : List α → List α
  | [a, b] => [b, a]
  | l => l
theorem pmId_dt {K : PySem.W.Frag} {n : Nat} (H : Hp) (vs : List V) (ds : List PyData) (h : DtL K H vs ds) (_ : ds.length = n) : DtL K H (pmId vs) (pmId ds) := h
theorem pmSwap_dt {K : PySem.W.Frag} (H : Hp) (vs : List V) (ds : List PyData) (h : DtL K H vs ds) (e : ds.length = 2) : DtL K H (pmSwap vs) (pmSwap ds) := by
  match ds, e with
  | [a, b], _ =>
    obtain ⟨v, w, rfl, dv, dw⟩ := h.two
    exact .cons dw (.cons dv .nil)
structure Blt (mg : Str → Option Value) : Prop where
  isinstance : mg "isinstance" = none
  int : mg "int" = none
  bool : mg "bool" = none
  tuple : mg "tuple" = none
  str : mg "str" = none
  len : mg "len" = none
  all : mg "all" = none
  enumerate : mg "enumerate" = none
  range : mg "range" = none
  min : mg "min" = none
  sorted : mg "sorted" = none
  list : mg "list" = none

/-! ### x not in xs, data -/
mutual
theorem Dt.dp {K : PySem.W.Frag} {H : Hp} : ∀ {v : V} {d : PyData}, Dt K H v d → pureT d = true → Dp K H v d
  | _, _, .non, _ => .non
  | _, _, .bl b, _ => .bl b
  | _, _, .int i, _ => .int i
  | _, _, .str x, _ => .str x
  | _, _, .lst h r, e => by simp [pureT] at e
  | _, _, .tup h r, e => .tup (.inl (.inl h)) (DtL.dp r (by simpa [pureT] using e))
  | _, _, .scr h, e => by simp [pureT] at e
theorem DtL.dp {K : PySem.W.Frag} {H : Hp} : ∀ {vs : List V} {ds : List PyData}, DtL K H vs ds → pureL ds = true → DpAll K H vs ds
  | _, _, .nil, _ => .nil
  | _, _, .cons h r, e => by
    have e2 := Bool.and_eq_true_iff.mp (show (pureT _ && pureL _) = true by simpa [pureL] using e)
    exact .cons (Dt.dp h e2.1) (DtL.dp r e2.2)
end
def ninD : PyData → PyData → Option PyData
  | d, .list ds => if pureT d = true ∧ pureL ds = true ∧ SeqAt.shaped d = true ∧ SeqAt.shaped (.list ds) = true then some (.bool (!ds.any fun z => PyData.eqv z d)) else none
  | _, _ => none
theorem rd_ninD {K : PySem.W.Frag} : RD K (rNotInD K) ninD := by
  intro A H x y d e z g dx dy h Q q
  cases dy <;> simp only [ninD] at h <;> first | (cases h; done) | skip
  rename_i h1 r1
  split at h
  · rename_i hc
    cases h
    exact ⟨d, _, Dt.dp (dx.mono Same.unmsk) hc.1, .lst (.inl (.inl (Same.unmsk _ _ h1))) (DtL.dp (r1.mono Same.unmsk) hc.2.1), hc.2.2.1, hc.2.2.2, q _ H (Same.refl H) (.bl _)⟩
  · cases h

/-! ### sorted(pairs of ints) -/
def prOf : PyData → Option (Int × Int)
  | .tuple [.int i, .int j] => some (i, j)
  | _ => none
def prsOf : List PyData → Option (List (Int × Int))
  | [] => some []
  | d :: ds => (prOf d).bind fun p => (prsOf ds).map (p :: ·)
def tpOf (p : Int × Int) : PyData := .tuple [.int p.1, .int p.2]
theorem prOf_some {d : PyData} {p : Int × Int} (h : prOf d = some p) : d = tpOf p := by
  unfold prOf at h
  split at h
  · cases h; rfl
  · cases h
theorem prsOf_some : ∀ {ds : List PyData} {ps : List (Int × Int)}, prsOf ds = some ps → ds = ps.map tpOf
  | [], _, h => by cases h; rfl
  | d :: ds, ps, h => by
    unfold prsOf at h
    obtain ⟨p, e1, h⟩ := Option.bind_eq_some_iff.mp h
    obtain ⟨qs, e2, rfl⟩ := Option.map_eq_some_iff.mp h
    rw [prOf_some e1, prsOf_some e2]; rfl
def insP (p : Int × Int) : List (Int × Int) → List (Int × Int)
  | [] => [p]
  | q :: l => if SrtO.lexB q p = true then q :: insP p l else p :: q :: l
def isrt : List (Int × Int) → List (Int × Int)
  | [] => []
  | p :: l => insP p (isrt l)
theorem insP_perm (p : Int × Int) : ∀ l, (insP p l).Perm (p :: l)
  | [] => List.Perm.refl _
  | q :: l => by
    unfold insP
    split
    · exact ((insP_perm p l).cons q).trans (List.Perm.swap p q l)
    · exact List.Perm.refl _
theorem isrt_perm : ∀ l, (isrt l).Perm l
  | [] => List.Perm.refl _
  | p :: l => (insP_perm p (isrt l)).trans ((isrt_perm l).cons p)
abbrev Ord (l : List (Int × Int)) : Prop := l.Pairwise fun x y => SrtO.lexB y x = false
theorem insP_ord {p : Int × Int} : ∀ {l : List (Int × Int)}, Ord l → Ord (insP p l)
  | [], _ => List.pairwise_singleton _ _
  | q :: l, h => by
    obtain ⟨h1, h2⟩ := List.pairwise_cons.mp h
    unfold insP
    split
    · rename_i hc
      refine List.pairwise_cons.mpr ⟨fun x hx => ?_, insP_ord h2⟩
      rcases List.mem_cons.mp ((insP_perm p l).mem_iff.mp hx) with rfl | hx
      · have := SrtO.lexB_iff.mp hc
        exact SrtO.lexB_no.mpr (by omega)
      · exact h1 x hx
    · rename_i hc
      have hc' := SrtO.lexB_no.mp (Bool.eq_false_iff.mpr hc)
      refine List.pairwise_cons.mpr ⟨fun x hx => ?_, h⟩
      rcases List.mem_cons.mp hx with rfl | hx
      · exact SrtO.lexB_no.mpr hc'
      · have := SrtO.lexB_no.mp (h1 x hx)
        exact SrtO.lexB_no.mpr (by omega)
theorem isrt_ord : ∀ l, Ord (isrt l)
  | [] => List.Pairwise.nil
  | p :: l => insP_ord (isrt_ord l)
theorem ord_uniq : ∀ {l m : List (Int × Int)}, Ord l → Ord m → l.Perm m → l = m
  | [], m, _, _, h => (List.Perm.nil_eq h)
  | a :: l, [], _, _, h => by have := h.length_eq; simp at this
  | a :: l, b :: m, h1, h2, h => by
    obtain ⟨a1, a2⟩ := List.pairwise_cons.mp h1
    obtain ⟨b1, b2⟩ := List.pairwise_cons.mp h2
    have e : a = b := by
      have ha : a ∈ b :: m := h.mem_iff.mp (List.mem_cons_self ..)
      have hb : b ∈ a :: l := h.mem_iff.mpr (List.mem_cons_self ..)
      rcases List.mem_cons.mp ha with e | ha
      · exact e
      · rcases List.mem_cons.mp hb with e | hb
        · exact e.symm
        · have x1 := SrtO.lexB_no.mp (a1 b hb)
          have x2 := SrtO.lexB_no.mp (b1 a ha)
          obtain ⟨a0, a9⟩ := a
          obtain ⟨b0, b9⟩ := b
          simp only at x1 x2
          have : a0 = b0 ∧ a9 = b9 := by omega
          rw [this.1, this.2]
    subst e
    rw [ord_uniq a2 b2 h.cons_inv]
def sortD : List PyData → Option PyData
  | [.list ds] => (prsOf ds).map fun ps => .list ((isrt ps).map tpOf)
  | _ => none
theorem rc_sort {K : PySem.W.Frag} : RC K (rSortedPO K) sortD := by
  intro A H xs ds z g r h Q q
  unfold sortD at h
  split at h
  · obtain ⟨v, rfl, dv⟩ := r.one
    cases dv with
    | lst h1 r1 =>
      rename_i a vs
      obtain ⟨ps, e, rfl⟩ := Option.map_eq_some_iff.mp h
      have r2 : DtL K (msk A H) vs (ps.map tpOf) := by rw [← prsOf_some e]; exact r1
      have hall : ∀ x ∈ vs, ∃ p : Int × Int, ∃ t, x = V.ref t ∧ H t = some (.tup [.int p.1, .int p.2]) := fun x hx => by
        obtain ⟨i, hi⟩ := List.mem_iff_getElem?.mp hx
        obtain ⟨d, e1, e2⟩ := r2.getV hi
        rw [List.getElem?_map] at e1
        obtain ⟨p, _, rfl⟩ := Option.map_eq_some_iff.mp e1
        refine ⟨p, ?_⟩
        unfold tpOf at e2
        cases e2 with
        | tup h3 r3 =>
          obtain ⟨v1, v2, rfl, d1, d2⟩ := r3.two
          cases d1; cases d2
          exact ⟨_, rfl, Same.unmsk _ _ h3⟩
      have kex : ∃ k : V → Int × Int, ∀ x ∈ vs, ∃ t, x = V.ref t ∧ H t = some (.tup [.int (k x).1, .int (k x).2]) := by
        refine ⟨fun x => if hx : x ∈ vs then (hall x hx).choose else (0, 0), fun x hx => ?_⟩
        have ek : (fun x => if hx : x ∈ vs then (hall x hx).choose else ((0, 0) : Int × Int)) x = (hall x hx).choose := dif_pos hx
        rw [ek]
        exact (hall x hx).choose_spec
      obtain ⟨k, hk⟩ := kex
      have kmap : vs.map k = ps := by
        apply List.ext_getElem?
        intro i
        rw [List.getElem?_map]
        cases hv : vs[i]? with
        | none =>
          have hl := r2.len
          rw [List.length_map] at hl
          have := List.getElem?_eq_none_iff.mp hv
          exact (List.getElem?_eq_none (by omega)).symm
        | some x =>
          obtain ⟨d, e1, e2⟩ := r2.getV hv
          rw [List.getElem?_map] at e1
          obtain ⟨p, e3, rfl⟩ := Option.map_eq_some_iff.mp e1
          rw [e3]
          obtain ⟨t, e4, e5⟩ := hk x (List.mem_of_getElem? hv)
          unfold tpOf at e2
          cases e2 with
          | tup h3 r3 =>
            obtain ⟨v1, v2, rfl, d1, d2⟩ := r3.two
            cases d1; cases d2
            cases e4
            have e6 := Same.unmsk _ _ h3
            rw [e5] at e6
            have e7 : [V.int (k _).1, V.int (k _).2] = [V.int p.1, V.int p.2] := HO.tup.inj (Option.some.inj e6)
            simp only [List.cons.injEq, V.int.injEq, and_true] at e7
            show some (k _) = some p
            rw [show k (V.ref t) = p from Prod.ext e7.1 e7.2]
      refine ⟨a, vs, k, rfl, .inl (.inl (Same.unmsk _ _ h1)), hk, fun ys p s1 s2 hp => ?_⟩
      have dys : DtL K (msk A H) ys ((ys.map k).map tpOf) := by
        have : ∀ zs : List V, (∀ y ∈ zs, y ∈ vs) → DtL K (msk A H) zs ((zs.map k).map tpOf) := fun zs => by
          induction zs with
          | nil => intro _; exact .nil
          | cons y zs ih =>
            intro hz
            obtain ⟨t, e4, e5⟩ := hk y (hz y (List.mem_cons_self ..))
            refine .cons ?_ (ih fun y' hy' => hz y' (List.mem_cons_of_mem _ hy'))
            subst e4
            refine .tup ?_ (.cons (.int _) (.cons (.int _) .nil))
            rw [msk_out]
            · exact e5
            · intro ht
              obtain ⟨l, q⟩ := g t ht
              rw [e5] at q; cases q
        exact this ys fun y hy => s2.perm.mem_iff.mp hy
      have es : ys.map k = isrt ps := by
        refine ord_uniq ?_ (isrt_ord ps) ?_
        · exact List.pairwise_map.mpr s1
        · have := s2.perm.map k
          rw [kmap] at this
          exact this.trans (isrt_perm ps).symm
      rw [es] at dys
      exact q _ _ (Same.new hp) (.lst (by rw [msk_out (g.out hp)]; exact upd_same) (dys.mono (Same.msk (Same.new hp))))
  · cases h

/-! ### the table of the words -/
structure OpW (w : World) (K : PySem.W.Frag) (mg : Str → Option Value) : Prop where
  at_ : mg "OPERATION_WORDS" = some (.ref (He.ga K "OPERATION_WORDS"))
  tab : ∃ es n, KDict K w (He.ga K "OPERATION_WORDS") es n ∧ es.toList.map He.keyOf = He.keysIn w.params (opW.map (·.1))
  vals : ∀ q ∈ opW, ∃ u, PySem.W.nsIn K (He.ga K "OPERATION_WORDS") q.1 = some (some u) ∧ RelV (.int q.2) u
theorem find_keys {P : Params} (z : Str) : ∀ {l : List DictEntry} {ks : List Str}, l.map He.keyOf = He.keysIn P ks → ((l.find? (·.key.isStr z)).isSome = ks.contains z ∧ l.any (·.refKey) = false)
  | [], [], _ => ⟨rfl, rfl⟩
  | [], _ :: _, h => by cases h
  | _ :: _, [], h => by cases h
  | e :: l, k :: ks, h => by
    have h1 : He.keyOf e :: l.map He.keyOf = some (k, PyData.keyHash P k) :: He.keysIn P ks := h
    injection h1 with h2 h3
    obtain ⟨i1, i2⟩ := find_keys z h3
    unfold He.keyOf at h2
    split at h2
    · rename_i x t q
      have e1 : x = k := (Prod.mk.inj (Option.some.inj h2)).1
      subst e1
      constructor
      · rw [List.find?_cons, List.contains_cons]
        have hk : e.key.isStr z = (z == x) := by
          rw [q]
          show (x == z) = (z == x)
          rw [BEq.comm]
        rw [hk]
        cases (z == x) with
        | true => rfl
        | false => simpa using i1
      · rw [List.any_cons, i2]
        have : e.refKey = false := by
          unfold DictEntry.refKey
          rw [q]
        rw [this]; rfl
    · cases h2
theorem OpW.ns {w : World} {K : PySem.W.Frag} {mg : Str → Option Value} (T : OpW w K mg) (z : Str) : ∃ r, PySem.W.nsIn K (He.ga K "OPERATION_WORDS") z = some r ∧ r.isSome = (opW.map (·.1)).contains z := by
  obtain ⟨es, n, D, hk⟩ := T.tab
  obtain ⟨f1, f2⟩ := find_keys z hk
  unfold PySem.W.nsIn
  rw [D.at_]
  dsimp only
  cases hf : es.toList.find? (·.key.isStr z) with
  | some e => exact ⟨some e.val, rfl, by rw [hf] at f1; exact f1⟩
  | none => exact ⟨none, by rw [f2]; rfl, by rw [hf] at f1; exact f1⟩
def opwNin : PyData → Option PyData
  | .str z => some (.bool (!(opW.map (·.1)).contains z))
  | _ => none
def opwGet : PyData → Option PyData
  | .str z => (opW.lookup z).map .int
  | _ => none
section
variable {X : Cx} {z : Bool} {ρ : En} {pos p : Pos} {e : Expr} {te : TE} {m : Option PyData}
theorem pd_nopw (T : OpW X.w X.K X.mg) (h : PD X z e te ρ m) (hg : Gl X "OPERATION_WORDS" := by rfl) :
    PD X z (.Compare e [.NotIn] [.Name "OPERATION_WORDS" p] pos) (tOp (fun x y H Q => ∃ (s : Str) (r : Option Value), x = .str s ∧ y = .ref (He.ga X.K "OPERATION_WORDS") ∧ PySem.W.nsIn X.K (He.ga X.K "OPERATION_WORDS") s = some r ∧ Q (.bl (!r.isSome)) H) te (tC (.ref (He.ga X.K "OPERATION_WORDS")))) ρ (m.bind opwNin) := by
  obtain ⟨es, n, D, hk⟩ := T.tab
  refine ⟨pe_cmpR (op_notIn_kd D) h.pe (pe_glob hg T.at_ rfl) rfl, ?_⟩
  intro A σ H d g rel hm Q q
  obtain ⟨a, e1, e2⟩ := Option.bind_eq_some_iff.mp hm
  refine h.ev A σ H a g rel e1 _ fun v H1 s1 d1 => ?_
  cases d1 with
  | str s =>
    cases e2
    obtain ⟨r, n1, n2⟩ := T.ns s
    refine ⟨s, r, rfl, rfl, n1, ?_⟩
    rw [n2]
    exact q _ H1 s1 (.bl _)
  | _ => cases e2
theorem td_nopw (T : OpW X.w X.K X.mg) (h : PD X z e te ρ m) (hg : Gl X "OPERATION_WORDS" := by rfl) :
    TD X z (.Compare e [.NotIn] [.Name "OPERATION_WORDS" p] pos) (tTest (tOp (fun x y H Q => ∃ (s : Str) (r : Option Value), x = .str s ∧ y = .ref (He.ga X.K "OPERATION_WORDS") ∧ PySem.W.nsIn X.K (He.ga X.K "OPERATION_WORDS") s = some r ∧ Q (.bl (!r.isSome)) H) te (tC (.ref (He.ga X.K "OPERATION_WORDS"))))) ρ (boolM (m.bind opwNin)) := by
  obtain ⟨es, n, D, hk⟩ := T.tab
  exact ⟨pt_cmpR (op_notIn_kd D) h.pe (pe_glob hg T.at_ rfl) rfl, tj_test (pd_nopw (p := p) (pos := pos) T h hg).ev⟩
theorem lookup_memI {s : Str} {i : Int} : ∀ {l : List (Str × Int)}, l.lookup s = some i → (s, i) ∈ l
  | [], h => by cases h
  | (k, v) :: l, h => by
    rw [List.lookup_cons] at h
    cases hb : (s == k) with
    | true =>
      rw [hb] at h
      cases h
      rw [eq_of_beq hb]
      exact List.mem_cons_self ..
    | false =>
      rw [hb] at h
      exact List.mem_cons_of_mem _ (lookup_memI h)
theorem pd_opw (T : OpW X.w X.K X.mg) (h : PD X z e te ρ m) (hg : Gl X "OPERATION_WORDS" := by rfl) (hs : PlainIx e := by exact fun _ _ => rfl) :
    PD X z (.Subscript (.Name "OPERATION_WORDS" p) e pos) (tOp (rIxD X.K X.w) (tC (.ref (He.ga X.K "OPERATION_WORDS"))) te) ρ (m.bind opwGet) := by
  refine ⟨pe_ix ix_kdict (pe_glob hg T.at_ rfl) h.pe hs, ?_⟩
  intro A σ H d g rel hm Q q
  obtain ⟨a, e1, e2⟩ := Option.bind_eq_some_iff.mp hm
  refine h.ev A σ H a g rel e1 _ fun v H1 s1 d1 => ?_
  cases d1 with
  | str s =>
    obtain ⟨i, hi, rfl⟩ := Option.map_eq_some_iff.mp e2
    obtain ⟨u, n1, n2⟩ := T.vals (s, i) (lookup_memI hi)
    obtain ⟨es, n, D, _⟩ := T.tab
    exact ⟨_, s, .int i, rfl, rfl, ⟨es, n, u, D.at_, D.lit, n1, n2⟩, q _ H1 s1 (.int i)⟩
  | _ => cases e2

/-! ### comprehensions with a pair as the target, with two fors -/
theorem pd_lc2 {elt iter : Expr} {scope : Scope} {own : List (Str × Nat)} {wi : TI} {i j kk : Nat} {y1 y2 : Str} {p1 p2 tp : Pos} {ρw : En} {ρb : PyData → PyData → En} {mi : Option (List PyData)} {f : PyData → PyData → Option PyData} (hN : X.N.Nodup) (hi : ID X z (.Tuple [.Name y1 p1, .Name y2 p2] kk tp) iter wi ρ mi)
    (ok : BlkOk X.N X.env.scope scope own) (hw : wipeE ρ (own.map (·.2)) = ρw) (h1 : (own.map (·.2)).contains i = true) (h2 : (own.map (·.2)).contains j = true) (hb : ∀ a b, (ρw.set i (.dat a)).set j (.dat b) = ρb a b)
    (he : ∀ (s : Shared) (H : Hp) (C : Addr) (cl : List (Str × Addr)) (fp : List Addr) (a b : PyData), PD (X.blk s H scope (compEnvC scope cl C X.env) fp) false elt te (ρb a b) (f a b)) (hc : X.calm = true := by rfl) (hs : ∀ x, foldedSetIterable iter X.env x = pure x := by intro _; rfl)
    (hg : ∀ (s : Shared) (H : Hp) (C : Addr) (cl : List (Str × Addr)) (fp : List Addr), PG (X.blk s H scope (compEnvC scope cl C X.env) fp) (.Tuple [.Name y1 p1, .Name y2 p2] kk tp) (gTup X.K 2 (gCons (gName i) (gCons (gName j) gNil)))) :
    PD X z (.ListComp elt [⟨.Tuple [.Name y1 p1, .Name y2 p2] kk tp, iter, [], 0⟩] scope pos) (tLc wi (gTup X.K 2 (gCons (gName i) (gCons (gName j) gNil))) tYes te (own.map (·.2))) ρ (lcM mi fun q => pairM q fun a b => f a b) :=
  ⟨pe_lc hc hN hi.pi ok hg (fun _ _ _ _ _ => pts_nil) (fun s H C cl fp => (he s H C cl fp .none .none).pe) hs, by
    refine UT.ej_lc2 hi.ev hw h1 h2 hb fun a b => ?_
    exact (he X.s_0 X.H_0 0 [] [] a b).ev⟩
end
end UT
end
section
set_option Elab.async false
set_option linter.all false
set_option maxRecDepth 100000
set_option maxHeartbeats 4000000
/-! the data layer: a filled list that is filled no more; slots of an open kind; two fors in a comprehension -/
namespace UT
open PySem PySem.Spec PyProof.Rows L2
def slM {S : Type} (x : Sl) (f : PyData → SM S) : SM S := match x with
  | .dat d => f d
  | _ => none
section
variable {X : Cx} {z z' : Bool} {ρ : En} {W : WX} {S : Type} {sts : List Stmt} {ts : TS}
theorem bd_un {ρ' : En} {m : SM S} {emb : S → En} (h : BD X true z' W sts ts ρ' m emb) (hu : ρ.map Sl.un = ρ' := by rfl) : BD X z z' W sts ts ρ m emb := by
  refine ⟨h.pss, ?_⟩
  intro A σ H D r g rel hm kn kr ke
  subst hu
  have e0 : Same (msk A H) (msk [] H) := by rw [msk_nil]; exact Same.unmsk
  refine h.ev [] σ H D r Mk'.no rel.un hm (fun s hs A' σ' H' l s' => kn s hs A' σ' H' l (e0.trans s')) (fun d hd v H' s' => kr d hd v H' (e0.trans s')) (fun x hx cls dd σ' H' l s' => ke x hx cls dd σ' H' l (e0.trans s'))
theorem bd_sl {i : Nat} {x : Sl} {ρ' : PyData → En} {f : PyData → SM S} {emb : S → En} (hρ : ∀ d, x = .dat d → ρ = ρ' d) (h : ∀ d, BD X z z' W sts ts (ρ' d) (f d) emb) : BD X z z' W sts ts ρ (slM x f) emb := by
  refine ⟨(h .none).pss, ?_⟩
  intro A σ H D r g rel hm kn kr ke
  cases x with
  | dat d =>
    rw [hρ d rfl] at rel
    exact (h d).ev A σ H D r g rel hm kn kr ke
  | _ => cases hm
end
def mapLL (f : PyData → Option (List PyData)) : List PyData → Option (List (List PyData))
  | [] => some []
  | d :: ds => (f d).bind fun e => (mapLL f ds).bind fun es => some (e :: es)
theorem mapLL_at {f : PyData → Option (List PyData)} : ∀ {ds : List PyData} {es : List (List PyData)}, mapLL f ds = some es → es.length = ds.length ∧ ∀ (i : Nat) (d : PyData), ds[i]? = some d → ∃ e, f d = some e ∧ es[i]? = some e
  | [], es, h => by cases h; exact ⟨rfl, fun i d h => by simp at h⟩
  | d :: ds, es, h => by
    unfold mapLL at h
    obtain ⟨e, h1, h⟩ := Option.bind_eq_some_iff.mp h
    obtain ⟨es', h2, h⟩ := Option.bind_eq_some_iff.mp h
    cases h
    obtain ⟨l, r⟩ := mapLL_at h2
    refine ⟨by simp [l], fun i d' hi => ?_⟩
    cases i with
    | zero => simp at hi; subst hi; exact ⟨e, h1, rfl⟩
    | succ i => obtain ⟨e', a, b⟩ := r i d' (by simpa using hi); exact ⟨e', a, by simpa using b⟩
def lccM (m : Option (List PyData)) (fj : PyData → Option (List PyData)) (f : PyData → PyData → Option PyData) : Option PyData := m.bind fun ds => (mapLL (fun d => (fj d).bind fun es => mapO (f d) es) ds).bind fun ls => if ls.flatten.length ≤ 100000 then some (.list ls.flatten) else none
theorem take_flat {α : Type} {ls : List (List α)} {i : Nat} {l : List α} (h : ls[i]? = some l) : (ls.take (i + 1)).flatten = (ls.take i).flatten ++ l := by
  rw [take_app h, List.flatten_append]; simp
theorem flat_le {α : Type} : ∀ (ls : List (List α)) (i : Nat) (l : List α) (j : Nat), ls[i]? = some l → ((ls.take i).flatten ++ l.take j).length ≤ ls.flatten.length
  | [], _, _, _, h => by simp at h
  | a :: ls, 0, l, j, h => by
    simp at h; subst h
    simp [List.length_take]; omega
  | a :: ls, i + 1, l, j, h => by
    have := flat_le ls i l j (by simpa using h)
    simp at this ⊢
    omega
section
variable {K : PySem.W.Frag} {z : Bool} {ρ : En} {te : TE}
theorem ej_lcc {wi wi1 : TI} {i j : Nat} {vs vs1 : List Nat} {ρw : En} {m : Option (List PyData)} {fj : PyData → Option (List PyData)} {f : PyData → PyData → Option PyData} {ρ1 : PyData → En} {ρ2 : PyData → PyData → En} (hi : IvJ K z wi ρ m) (hw : wipeE ρ vs = ρw) (hiv : vs.contains i = true) (hjv : vs1.contains j = true)
    (h1 : ∀ d, ρw.set i (.dat d) = ρ1 d) (hw1 : ∀ d, wipeE (ρ1 d) vs1 = ρ1 d) (h2 : ∀ d e, (ρ1 d).set j (.dat e) = ρ2 d e) (hj : ∀ d, IvJ K false wi1 (ρ1 d) (fj d)) (he : ∀ d e, EvJ K false te (ρ2 d e) (f d e)) :
    EvJ K z (tLc2 wi (gName i) tYes wi1 (gName j) tYes te vs vs1) ρ (lccM m fj f) := by
  intro A σ H d gd rel hm Q q
  unfold lccM at hm
  obtain ⟨ds, e1, hm⟩ := Option.bind_eq_some_iff.mp hm
  obtain ⟨ls, e2, hm⟩ := Option.bind_eq_some_iff.mp hm
  split at hm
  · rename_i hl
    cases hm
    obtain ⟨el, ea⟩ := mapLL_at e2
    subst hw
    refine hi A σ H ds gd rel e1 _ fun J H1 s1 w => ?_
    intro D hD
    have g1 := gd.mono s1
    have r1 := rel.mono s1
    have Pk : ∀ {H' : Hp} {acc : List V}, Same H1 H' → H' D = some (.lst acc) → Good (D :: A) H' := fun {H' acc} s h a ha => by
      rcases List.mem_cons.mp ha with rfl | ha
      · exact ⟨acc, h⟩
      · obtain ⟨ys, y⟩ := g1.good a ha
        exact ⟨ys, s _ _ y⟩
    refine ⟨fun i m H' => m = ds.length - i ∧ i ≤ ds.length ∧ Same H1 H' ∧ ∃ acc, H' D = some (.lst acc) ∧ DtL K (msk (D :: A) H') acc ((ls.take i).flatten), ⟨ds.length, by simp, Nat.zero_le _, Same.new hD, [], upd_same, .nil⟩, ?_⟩
    rintro a m H' ⟨rfl, hile, s, acc, hacc, dacc⟩
    have gk : Good (D :: A) H' := Pk s hacc
    have sm : Same (msk A H1) (msk (D :: A) H') := msk_more hD s
    by_cases hlt : a < ds.length
    · refine .inr ⟨w.go a H' (D :: A) hlt sm, fun H'' => Same H1 H'' ∧ ∃ acc, H'' D = some (.lst acc) ∧ DtL K (msk (D :: A) H'') acc ((ls.take (a + 1)).flatten), fun H'' p => ⟨ds.length - (a + 1), by omega, rfl, hlt, p⟩, fun x H2 y => ?_⟩
      obtain ⟨s2, d, hd, dx⟩ := w.yld a H' (D :: A) x H2 hlt gk sm y
      obtain ⟨l, fe, ee⟩ := ea a d hd
      obtain ⟨es, fe1, fe2⟩ := Option.bind_eq_some_iff.mp fe
      obtain ⟨ml, ma⟩ := mapO_at fe2
      have r2 : Rel K (D :: A) H2 (L2.wipe σ vs) (wipeE ρ vs) := Rel.wipe (Rel.moreS hD (s.trans s2) r1) vs
      have r3 : Rel K (D :: A) H2 ((L2.wipe σ vs).set i (some x)) (ρ1 d) := by rw [← h1]; exact Rel.set (slot_dat dx) i r2
      have st : Sets [i] (L2.wipe σ vs) ((L2.wipe σ vs).set i (some x)) := ⟨List.length_set, fun k hk => List.getElem?_set_ne (by intro e; exact hk (by simp [e]))⟩
      show L2.wipe ((L2.wipe σ vs).set i (some x)) vs = L2.wipe σ vs ∧ tYes _ H2 _
      refine ⟨wipe_sets st (fun k hk => by simp at hk; subst hk; simpa using hiv), ?_⟩
      unfold tYes
      refine iteT ?_
      have hD2 : H2 D = some (.lst acc) := s2 _ _ hacc
      refine hj d (D :: A) _ H2 es ⟨gk.mono s2, fun h => by cases h⟩ r3 fe1 _ fun J1 H4 s4 w1 => ?_
      have hD4 : H4 D = some (.lst acc) := s4 _ _ hD2
      have s14 : Same H1 H4 := (s.trans s2).trans s4
      refine ⟨fun b k H' => k = es.length - b ∧ b ≤ es.length ∧ Same H1 H' ∧ Same (msk (D :: A) H4) (msk (D :: A) H') ∧ ∃ acc, H' D = some (.lst acc) ∧ DtL K (msk (D :: A) H') acc ((ls.take a).flatten ++ l.take b),
        ⟨es.length, by simp, Nat.zero_le _, s14, Same.refl _, acc, hD4, by simpa using dacc.mono (Same.msk (s2.trans s4))⟩, ?_⟩
      rintro b k H5 ⟨rfl, hble, s5, sm5, acc5, hacc5, dacc5⟩
      have gk5 : Good (D :: A) H5 := Pk s5 hacc5
      by_cases hblt : b < es.length
      · refine .inr ⟨w1.go b H5 (D :: A) hblt sm5, fun H' => Same H1 H' ∧ Same (msk (D :: A) H4) (msk (D :: A) H') ∧ ∃ acc, H' D = some (.lst acc) ∧ DtL K (msk (D :: A) H') acc ((ls.take a).flatten ++ l.take (b + 1)), fun H' p => ⟨es.length - (b + 1), by omega, rfl, hblt, p⟩, fun x5 H6 y5 => ?_⟩
        obtain ⟨s6, d6, hd6, dx6⟩ := w1.yld b H5 (D :: A) x5 H6 hblt gk5 sm5 y5
        obtain ⟨e6, fe6, ee6⟩ := ma b d6 hd6
        have r6 : Rel K (D :: A) H6 ((L2.wipe σ vs).set i (some x)) (ρ1 d) := by
          have r2' : Rel K (D :: A) H6 (L2.wipe σ vs) (wipeE ρ vs) := Rel.wipe (Rel.moreS hD (s5.trans s6) r1) vs
          have dx' : Dt K (msk (D :: A) H6) x d := ((dx.mono (Same.msk s4)).mono sm5).mono (Same.msk s6)
          rw [← h1]; exact Rel.set (slot_dat dx') i r2'
        have r7 : Rel K (D :: A) H6 (L2.wipe ((L2.wipe σ vs).set i (some x)) vs1) (ρ1 d) := by
          have := Rel.wipe r6 vs1
          rw [hw1] at this; exact this
        have st6 : Sets [j] (L2.wipe ((L2.wipe σ vs).set i (some x)) vs1) ((L2.wipe ((L2.wipe σ vs).set i (some x)) vs1).set j (some x5)) := ⟨List.length_set, fun k hk => List.getElem?_set_ne (by intro e; exact hk (by simp [e]))⟩
        show L2.wipe ((L2.wipe ((L2.wipe σ vs).set i (some x)) vs1).set j (some x5)) vs1 = L2.wipe ((L2.wipe σ vs).set i (some x)) vs1 ∧ _
        refine ⟨wipe_sets st6 (fun k hk => by simp at hk; subst hk; simpa using hjv), ?_⟩
        refine iteT ?_
        have r8 : Rel K (D :: A) H6 ((L2.wipe ((L2.wipe σ vs).set i (some x)) vs1).set j (some x5)) (ρ2 d d6) := by rw [← h2]; exact Rel.set (slot_dat dx6) j r7
        refine he d d6 (D :: A) _ H6 e6 ⟨gk5.mono s6, fun h => by cases h⟩ r8 fe6 _ fun v H7 s7 dv => ?_
        have hD7 : H7 D = some (.lst acc5) := s7 _ _ (s6 _ _ hacc5)
        refine ⟨acc5, hD7, ?_, fun b o hb => ?_, ?_, acc5 ++ [v], upd_same, ?_⟩
        · have q1 := dacc5.len
          have q2 := flat_le ls a l b ee
          have : (100000 : Nat) < sizeLine := by decide
          omega
        · rw [upd_ne (ne_of_none hb hD)]
          exact s7 _ _ (s6 _ _ (s5 _ _ hb))
        · rw [msk_set (List.mem_cons_self ..)]
          exact sm5.trans (Same.msk (s6.trans s7))
        · rw [msk_set (List.mem_cons_self ..), take_app ee6, ← List.append_assoc]
          exact DtL.app (dacc5.mono (Same.msk (s6.trans s7))) (.cons dv .nil)
      · have eb : b = es.length := by omega
        subst eb
        refine .inl ⟨w1.stop H5 (D :: A) sm5, s5, acc5, hacc5, ?_⟩
        rw [take_flat ee]
        have e9 : l.take es.length = l := List.take_of_length_le (by rw [ml]; exact Nat.le_refl _)
        rw [e9] at dacc5
        exact dacc5
    · have ei : a = ds.length := by omega
      subst ei
      refine .inl ⟨w.stop H' (D :: A) sm, q _ H' (s1.trans s) (.lst (xs := acc) ?_ ?_)⟩
      · rw [msk_out (g1.out hD)]; exact hacc
      · rw [List.take_of_length_le (by rw [el]; exact Nat.le_refl _)] at dacc
        exact dacc.mono msk_un
  · cases hm
end
section
variable {X : Cx} {z : Bool} {ρ : En} {pos : Pos} {te : TE}
theorem pd_lcc {elt iter iter1 : Expr} {scope : Scope} {own : List (Str × Nat)} {vs1 : List Nat} {wi wi1 : TI} {i j : Nat} {y1 y2 : Str} {p1 p2 : Pos} {ρw : En} {ρ1 : PyData → En} {ρ2 : PyData → PyData → En} {mi : Option (List PyData)} {fj : PyData → Option (List PyData)} {f : PyData → PyData → Option PyData} (hN : X.N.Nodup)
    (hi : ID X z (.Name y1 p1) iter wi ρ mi) (ok : BlkOk X.N X.env.scope scope own)
    (hj : ∀ (s : Shared) (H : Hp) (C : Addr) (cl : List (Str × Addr)) (fp : List Addr) (d : PyData), ID (X.blk s H scope (compEnvC scope cl C X.env) fp) false (.Name y2 p2) iter1 wi1 (ρ1 d) (fj d))
    (he : ∀ (s : Shared) (H : Hp) (C : Addr) (cl : List (Str × Addr)) (fp : List Addr) (d e : PyData), PD (X.blk s H scope (compEnvC scope cl C X.env) fp) false elt te (ρ2 d e) (f d e))
    (hw : wipeE ρ (own.map (·.2)) = ρw := by rfl) (hiv : (own.map (·.2)).contains i = true := by rfl) (hjv : vs1.contains j = true := by rfl) (hv : ∀ k ∈ vs1, k ∈ own.map (·.2) := by decide) (h1 : ∀ d, ρw.set i (.dat d) = ρ1 d := by intro _; rfl) (hw1 : ∀ d, wipeE (ρ1 d) vs1 = ρ1 d := by intro _; rfl)
    (h2 : ∀ d e, (ρ1 d).set j (.dat e) = ρ2 d e := by intro _ _; rfl) (hc : X.calm = true := by rfl) (hg : ∀ (s : Shared) (H : Hp) (C : Addr) (cl : List (Str × Addr)) (fp : List Addr), PG (X.blk s H scope (compEnvC scope cl C X.env) fp) (.Name y1 p1) (gName i))
    (hg1 : ∀ (s : Shared) (H : Hp) (C : Addr) (cl : List (Str × Addr)) (fp : List Addr), PG (X.blk s H scope (compEnvC scope cl C X.env) fp) (.Name y2 p2) (gName j)) (hs : ∀ x, foldedSetIterable iter X.env x = pure x := by intro _; rfl) (hs1 : ∀ env x, foldedSetIterable iter1 env x = pure x := by intro _ _; rfl) :
    PD X z (.ListComp elt [⟨.Name y1 p1, iter, [], 0⟩, ⟨.Name y2 p2, iter1, [], 0⟩] scope pos) (tLc2 wi (gName i) tYes wi1 (gName j) tYes te (own.map (·.2)) vs1) ρ (lccM mi fj f) :=
  ⟨pe_lc2 hc hN hi.pi ok hv hg (fun _ _ _ _ _ => pts_nil) (fun s H C cl fp => (hj s H C cl fp .none).pi) hg1 (fun _ _ _ _ _ => pts_nil) (fun s H C cl fp => (he s H C cl fp .none .none).pe) hs hs1,
    ej_lcc hi.ev hw hiv hjv h1 hw1 h2 (fun d => (hj X.s_0 X.H_0 0 [] [] d).ev) fun d e => (he X.s_0 X.H_0 0 [] [] d e).ev⟩
end
end UT
end
section
set_option Elab.async false
set_option linter.all false
set_option maxRecDepth 100000
set_option maxHeartbeats 4000000
/-! the data layer: enumerate over a tuple; str.replace (a token is out) -/
namespace UT
open PySem PySem.Spec PyProof.Rows L2
open Sem (wp)

/-! ### enumerate(tuple) -/
theorem meets_enumT (l : Addr) (items : Array Value) :
    Meets (Builtin.«enumerate.__new__» ⟨[.type "enumerate", .ref l], []⟩) (fun _ R s => s.heap.IsTuple l items ∧
      R (.ok (.ret (.ref (s.heap.push { cls := .type "tuple_iterator", data := .fields #[.ref l, .int 0 0] }).objs.size)))
        { s with heap := (s.heap.push { cls := .type "tuple_iterator", data := .fields #[.ref l, .int 0 0] }).push { cls := .type "enumerate", data := .fields #[.none, .bool false, .ref s.heap.objs.size, rawInt 0, .none, .none] } }) :=
  .of_wp fun prog w A R s h => by
    obtain ⟨hp, g, d, tk, os⟩ := s
    obtain ⟨h1, h⟩ := h
    have hsub := sub_enumerate
    have q1 : ∀ {A' : Around} {E : Value → Shared → Prop} {Q : Value → Shared → Prop}, Q (.ref hp.objs.size) ⟨hp.push { cls := .type "tuple_iterator", data := .fields #[.ref l, .int 0 0] }, g, d, tk, os⟩ → wpAny (model prog w) A' (pyIter (.ref l)) Q E ⟨hp, g, d, tk, os⟩ :=
      fun q => wpAny_pyIter_tuple (s := ⟨hp, g, d, tk, os⟩) h1 q
    wp_walk using q1
    refine wpAny_stack_any fun st => wpAny_pure ?_
    split
    · rename_i c _ _ _ _ _
      cases (c == Value.type "enumerate")
      · wp_walk using q1
        exact ⟨_, rfl, h⟩
      · wp_walk using q1
        exact ⟨_, rfl, h⟩
    · wp_walk using q1
      exact ⟨_, rfl, h⟩
theorem call_enumT {prog : Program} {w : World} {A : Around} {E : Value → Shared → Prop} {s : Shared} {l : Addr} {items : Array Value} {Q : Value → Shared → Prop} (hL : s.heap.IsTuple l items)
    (h : ∀ h', IsEnum h' (s.heap.objs.size + 1) s.heap.objs.size 0 .none → h'.IsTupleIter s.heap.objs.size l 0 → h'.objs.size = s.heap.objs.size + 2 →
      (∀ b o, s.heap.get? b = some o → h'.get? b = some o) → Q (.ref (s.heap.objs.size + 1)) { s with heap := h' }) :
    wpAny (model prog w) A (call (.type "enumerate") [.ref l]) Q E s := by
  refine callType_new F.called_enumerate (by decide) (F.typeCall_enumerate_1 _) (F.newCall_enumerate_1 _) (fun obj => F.args_object_init_2 obj _) F.entry_enumerate_new
    (meets_enumT l items) ⟨hL, ?_⟩
  have hz : (s.heap.push { cls := .type "tuple_iterator", data := .fields #[.ref l, .int 0 0] }).objs.size = s.heap.objs.size + 1 := Heap.size_push ..
  show _ ∧ _
  rw [hz]
  have he : IsEnum ((s.heap.push { cls := .type "tuple_iterator", data := .fields #[.ref l, .int 0 0] }).push
      { cls := .type "enumerate", data := .fields #[.none, .bool false, .ref s.heap.objs.size, rawInt 0, .none, .none] }) (s.heap.objs.size + 1) s.heap.objs.size 0 .none := by
    have := Heap.get?_push_size (s.heap.push { cls := .type "tuple_iterator", data := .fields #[.ref l, .int 0 0] })
      (o := { cls := .type "enumerate", data := .fields #[.none, .bool false, .ref s.heap.objs.size, rawInt 0, .none, .none] }) rfl
    rw [hz] at this; exact this
  refine ⟨⟨_, he, rfl⟩, h _ he ⟨_, Heap.get?_push_of_some _ (Heap.get?_push_size _ rfl), rfl, rfl⟩ (by rw [Heap.size_push, hz]) fun b o x => Heap.get?_push_of_some _ (Heap.get?_push_of_some _ x)⟩
def IteT (K : PySem.W.Frag) (a : Addr) : It :=
  ⟨fun i H => ∃ (xs : List V) (x : V), SqT K H a xs ∧ xs[i]? = some x, fun i H v H' => ∃ T x, v = .ref T ∧ H T = none ∧ H' = upd H T (.tup [.int (i : Nat), x]) ∧ ∀ xs, SqT K H a xs → xs[i]? = some x, fun i H => ∃ xs : List V, SqT K H a xs ∧ xs.length = i⟩
theorem turn_enumT {P : Program} {w : World} {K : PySem.W.Frag} {elts : List Expr} {kk : Nat} {tpos : Pos} (a e it : Addr) (hai : a ≠ it) (hea : e ≠ a) :
    Turn P w K (.Tuple elts kk tpos) (IteT K a) [e, it] e (fun i h => (∃ old, IsEnum h e it ((i : Nat) : Int) old) ∧ h.IsTupleIter it a i ∧ e ≠ it) where
  mem := by simp
  obj := fun i h st b hb => by
    obtain ⟨⟨old, he⟩, ⟨o, ho, hc, hd⟩, _⟩ := st
    have e' : b = e ∨ b = it := by simpa using hb
    rcases e' with z | z
    · rw [z]; exact ⟨_, he, fun v q => nomatch q⟩
    · rw [z]; exact ⟨o, ho, fun v q => by rw [hd] at q; cases q⟩
  keep := fun i h h' st k => let ⟨⟨old, he⟩, hi, hne⟩ := st; ⟨⟨old, k e (by simp) _ he⟩, hi.at fun o q => k it (by simp) o q, hne⟩
  item := by
    intro X hP hw hK hc i pins s σ H E I hf st hg
    subst hP hw hK
    obtain ⟨⟨old, he⟩, hit, hne⟩ := st
    obtain ⟨xs, x, hq, hx⟩ := hg
    obtain ⟨its, rv, p, hz⟩ := I.tuple hq
    obtain ⟨u, hu, ru⟩ := rv.get hx
    have hel : e < s.heap.objs.size := Heap.lt_size he
    have hil : it < s.heap.objs.size := by obtain ⟨_, q, _⟩ := hit; exact Heap.lt_size q
    have hlt : i < its.toArray.size := by
      have := List.getElem?_eq_some_iff.mp hu
      obtain ⟨h1, _⟩ := this
      simpa using h1
    refine wpAny_pyNext_enum_itemC (Draws.tuple (show X.A.in1.handled = none from I.ok.hd hc) it a hai its.toArray) he ⟨hit, p⟩ hlt hne (by simp [hne, hea]) fun x2 h' tk hx2 ho hit' hT hsz hk => ?_
    have ex : x2 = u := by
      have h2 : its.toArray[i]? = some x2 := hx2
      have h3 : its.toArray[i]? = some u := by simpa using hu
      rw [h3] at h2
      exact (Option.some.inj h2).symm
    subst ex
    refine ⟨_, rfl, wpAny_letOwnedTupleGo_enum (s := { s with heap := h', toks := tk + 1 }) ho fun h'' he' sb => ?_⟩
    have hT2 : h''.get? s.heap.objs.size = some { cls := .type "tuple", data := .seq #[.int i tk, x2] } := (sb.2 _ (Nat.ne_of_gt hel)).trans hT
    have new : ObjOk X.prog X.w (upd H s.heap.objs.size (.tup [.int (i : Nat), x])) h'' s.heap.objs.size (.tup [.int (i : Nat), x]) :=
      ⟨by show 2 ≤ sizeLine; decide, [.int i tk, x2], .cons ⟨_, rfl⟩ (.cons ru .nil), ⟨_, hT2, rfl, _, rfl⟩⟩
    have I1 : Inv X pins σ (upd H s.heap.objs.size (.tup [.int (i : Nat), x])) { s with heap := h'', toks := tk + 1 } :=
      I.turnedNew (ch := [e, it]) (fun b ob hb q => (sb.2 b (fun z => hb (by simp [z]))).trans (hk b ob (fun z => hb (by simp [z])) (fun z => hb (by simp [z])) q)) hf (Nat.le_refl _) new
    refine ⟨.ref s.heap.objs.size, _, I1, rfl, ⟨_, x, rfl, I.hok.fresh (Nat.le_refl _), rfl, fun ys hy => by rw [I.tuple_inj hy hq]; exact hx⟩, ⟨⟨x2, ?_⟩, hit'.1.at fun o q => (sb.2 it (Ne.symm hne)).trans q, hne⟩, fun b hb => ?_⟩
    · have e1 : ((i + 1 : Nat) : Int) = (i : Int) + 1 := by omega
      rw [e1]; exact he'
    · have hb' : b < s.heap.objs.size := by
        have e' : b = e ∨ b = it := by simpa using hb
        rcases e' with z | z
        · rw [z]; exact hel
        · rw [z]; exact hil
      rw [upd_ne (Nat.ne_of_lt hb')]
      exact (hf b hb).1
  done := by
    intro X hP hw hK hc i pins s σ H E I hf st hg
    subst hP hw hK
    obtain ⟨⟨old, he⟩, hit, hne⟩ := st
    obtain ⟨xs, hq, hx⟩ := hg
    obtain ⟨its, rv, p, hz⟩ := I.tuple hq
    have hl := rv.length
    have hsz : its.toArray.size = i := by simp; omega
    subst hsz
    refine wpAny_pyNext_enum_endD (Draws.tuple (show X.A.in1.handled = none from I.ok.hd hc) it a hai its.toArray) he ⟨hit, p⟩ fun h' eb => ?_
    obtain ⟨f0, f1, f2, f3, f4, f5⟩ := hf it (by simp)
    exact ⟨rfl, I.turned (t' := s.toks) (fun b o hb q => eb b o hb q) f0 f1 f3 f4 f5⟩
  self := fun A i s Q E st h => let ⟨⟨_, he⟩, _⟩ := st; wpAny_pyIter_enum he h
def iEnumT (K : PySem.W.Frag) (ta : TA) : TI := fun σ H R => ta σ H fun vs H1 => ∃ a xs, vs = [.ref a] ∧ SqT K H1 a xs ∧ R (IteT K a) H1
theorem pi_enumT {X : Cx} {e : Expr} {ta : TA} {p pos tpos : Pos} {elts : List Expr} {kk : Nat} (hg : Gl X "enumerate") (hm : X.mg "enumerate" = none) (ha : PA X [e] ta) (hs : starEach [e] X.env = [(false, eval e X.env)] := by rfl) :
    PI X (.Tuple elts kk tpos) (.Call (.Name "enumerate" p) [e] [] pos) (iEnumT X.K ta) := by
  refine ⟨fun pins s σ H R I h => ?_⟩
  refine Call_ (ld_blt I hg hm boot_enumerate (PyProof.Rows.callWith_type1 (thn (ha.run pos pins s σ H _ I h) fun us s1 ⟨vs, H1, I1, r1, q1⟩ => ?_) hs rfl))
  obtain ⟨a, xs, ex, hq, q⟩ := q1
  subst ex
  cases r1 with
  | cons r rr =>
    cases rr
    cases r
    obtain ⟨its, rv, p', hz⟩ := I1.tuple hq
    have hlt : a < s1.heap.objs.size := by obtain ⟨_, q, _⟩ := p'; exact Heap.lt_size q
    refine call_enumT (show s1.heap.IsTuple a its.toArray from p') fun h' he hit hsz hk => wpAny_pyIter_enum he ?_
    have I2 : Inv X pins σ H1 { s1 with heap := h' } := I1.kept (t' := s1.toks) hk
    refine ⟨s1.heap.objs.size + 1, [s1.heap.objs.size + 1, s1.heap.objs.size], _, _, H1, rfl, I2, turn_enumT a (s1.heap.objs.size + 1) s1.heap.objs.size (Nat.ne_of_lt hlt) (Nat.ne_of_gt (Nat.lt_succ_of_lt hlt)), ⟨⟨.none, he⟩, hit, Nat.succ_ne_self _⟩, fun b hb => ?_, q⟩
    have e' : b = s1.heap.objs.size + 1 ∨ b = s1.heap.objs.size := by simpa using hb
    have hle : s1.heap.objs.size ≤ b := by
      rcases e' with z | z
      · rw [z]; exact Nat.le_add_right _ _
      · rw [z]; exact Nat.le_refl _
    exact I1.fpOk hle (I1.hok.fresh hle)
def enumTM (m : Option (List PyData)) : Option (List PyData) := m.bind fun ds => match ds with
  | [.tuple es] => some (enumL es)
  | _ => none
section
variable {K : PySem.W.Frag} {z : Bool} {ρ : En} {ta : TA}
theorem ij_enumT {m : Option (List PyData)} (h : AvJ K z ta ρ m) : IvJ K z (iEnumT K ta) ρ (enumTM m) := by
  intro A σ H ds g rel hm R q
  unfold enumTM at hm
  obtain ⟨a, e1, e2⟩ := Option.bind_eq_some_iff.mp hm
  refine h A σ H a g rel e1 _ fun xs H1 s1 d1 => ?_
  split at e2
  · rename_i es
    obtain ⟨v, rfl, dv⟩ := d1.one
    cases dv with
    | tup h1 r1 =>
      rename_i p ys
      cases e2
      have hl : (enumL es).length = es.length := by simp [enumL]
      have sq : ∀ {H : Hp} {A' : List Addr}, Same (msk A H1) (msk A' H) → SqT K H p ys := fun s => .inl (.inl (Same.unmsk _ _ (s _ _ h1)))
      refine ⟨p, ys, rfl, .inl (.inl (Same.unmsk _ _ h1)), q _ H1 s1 ⟨fun i H A' hi s => ?_, fun H A' s => ?_, fun i H A' x H' hi g s y => ?_⟩⟩
      · rw [hl] at hi
        have hi' : i < ys.length := by rw [r1.len]; exact hi
        exact ⟨ys, ys[i], sq s, by simp [hi']⟩
      · exact ⟨ys, sq s, by rw [hl, r1.len]⟩
      · obtain ⟨T, x0, rfl, hT, rfl, hx⟩ := y
        obtain ⟨d, e3, e4⟩ := r1.getV (hx ys (sq s))
        refine ⟨Same.new hT, _, by rw [enumL_at, e3]; rfl, .tup (by rw [msk_out (g.out hT)]; exact upd_same) (.cons (.int _) (.cons ((e4.mono s).mono (Same.msk (Same.new hT))) .nil))⟩
  · cases e2
end
section
variable {X : Cx} {z : Bool} {ρ : En} {pos : Pos} {e : Expr} {tA : TA} {mA : Option (List PyData)}
theorem id_enumT {p tpos : Pos} {elts : List Expr} {kk : Nat} (hm : X.mg "enumerate" = none) (h : AD X z [e] tA ρ mA) (hg : Gl X "enumerate" := by rfl) (hs : starEach [e] X.env = [(false, eval e X.env)] := by rfl) :
    ID X z (.Tuple elts kk tpos) (.Call (.Name "enumerate" p) [e] [] pos) (iEnumT X.K tA) ρ (enumTM mA) := ⟨pi_enumT hg hm h.pa hs, ij_enumT h.ev⟩
end
instance : Inhabited Sl := ⟨.no⟩
/-! ### a token is out -/
structure PDT (X : Cx) (z : Bool) (e : Expr) (te : TE) (ρ : En) (m : Option PyData) : Prop where
  pet : PET X e te
  ev : EvJ X.K z te ρ m
structure ADT (X : Cx) (z : Bool) (es : List Expr) (ta : TA) (ρ : En) (m : Option (List PyData)) : Prop where
  pat : PAT X es ta
  ev : AvJ X.K z ta ρ m
structure SDT (X : Cx) (z z' : Bool) (W : WX) (st : Stmt) (ts : TS) (ρ : En) {S : Type} (m : SM S) (emb : S → En) : Prop where
  pst : PST X st ts
  ev : StJ X.K z z' W ts ρ m emb
structure BDT (X : Cx) (z z' : Bool) (W : WX) (sts : List Stmt) (ts : TS) (ρ : En) {S : Type} (m : SM S) (emb : S → En) : Prop where
  psst : PSsT X sts ts
  ev : StJ X.K z z' W ts ρ m emb
section
variable {X : Cx} {z z' z1 : Bool} {W : WX} {ρ : En} {pos : Pos} {a b e o : Expr} {es : List Expr} {ta tb te to : TE} {tA : TA} {ma mb m : Option PyData} {mA : Option (List PyData)} {S T : Type} {st : Stmt} {rest body : List Stmt} {t u ts : TS}
theorem pdt_of (h : PD X z e te ρ m) : PDT X z e te ρ m := ⟨CwR.PET.of h.pe, h.ev⟩
theorem pdt_un {ρ' : En} (h : PDT X z e te ρ' m) (hu : ρ.map Sl.un = ρ' := by rfl) : PDT X z e te ρ (pureO m) := ⟨h.pet, ej_un_ h.ev hu⟩
theorem adt_nil : ADT X z [] tNil ρ (some []) := ⟨pat_nil, aj_nil⟩
theorem adt_cons (h : PDT X z e te ρ m) (r : ADT X z es tA ρ mA) (hs : starEach (e :: es) X.env = (false, eval e X.env) :: starEach es X.env := by rfl) : ADT X z (e :: es) (tCons te tA) ρ (consM m mA) := ⟨pat_cons h.pet r.pat hs, aj_cons h.ev r.ev⟩
theorem pdt_lst (h : ADT X z es tA ρ mA) : PDT X z (.List es pos) (tLst tA) ρ (lstM mA) := ⟨pet_lst h.pat, ej_lst h.ev⟩
theorem pet_op2 {op : Operator} {r : R2} (ho : OpR X (binaryOp op) r) (ha : PET X a ta) (hb : PET X b tb) : PET X (.BinOp a op b pos) (tOp r ta tb) := by
  intro pins s σ H Q h0 I h
  refine wpAny_BinOp (wpAny_mono (PySem.wpAny_toks (ha pins s σ H _ h0 I h)) (fun v s1 q => ?_) fun _ _ z => z.2)
  obtain ⟨hk, x, H1, I1, r1, q1⟩ := q
  exact thn (hb pins s1 σ H1 _ (Nat.le_trans h0 hk) I1 q1) fun u s2 ⟨y, H2, I2, r2, q2⟩ => ho pins s2 σ H2 x y v u Q I2 r1 r2 q2
theorem pdt_op {op : Operator} {r : R2} {f : PyData → PyData → Option PyData} (ho : OpR X (binaryOp op) r) (hr : RD X.K r f) (ha : PDT X z a ta ρ ma) (hb : PDT X z b tb ρ mb) : PDT X z (.BinOp a op b pos) (tOp r ta tb) ρ (bind2 ma mb f) :=
  ⟨pet_op2 ho ha.pet hb.pet, ej_op hr ha.ev hb.ev⟩
theorem pdt_repl {y y2 : Str} {j k : Nat} {c0 c1 apos : Pos} (h : PD X z o te ρ m) (hyz : (y == y2) = false := by decide)
    (hst : starEach [.Constant (.str y) j c0, .Constant (.str y2) k c1] X.env = [(false, eval (.Constant (.str y) j c0) X.env), (false, eval (.Constant (.str y2) k c1) X.env)] := by rfl)
    (hbase : attributeBase o "replace" X.env (eval o X.env) = eval o X.env := by rfl) (hline : (apos.endLine == pos.line) = true := by rfl) :
    PDT X z (.Call (.Attribute o "replace" apos) [.Constant (.str y) j c0, .Constant (.str y2) k c1] [] pos) (CwR.tReplC te y y2) ρ (m.bind (replD y y2)) :=
  ⟨CwR.pet_replC h.pe hyz hst hbase hline, ej_repl h.ev⟩
theorem sdt_of {mm : SM S} {emb : S → En} (h : SD X z z' W st ts ρ mm emb) : SDT X z z' W st ts ρ mm emb := ⟨PST.of h.ps, h.ev⟩
theorem sdt_as {m1 : SM S} {e1 e2 : S → En} (h : SDT X z z' W st t ρ m1 e1) (he : ∀ s, e1 s = e2 s) : SDT X z z' W st t ρ m1 e2 := by
  have e : e1 = e2 := funext he
  exact e ▸ h
theorem bdt_of {mm : SM S} {emb : S → En} (h : BD X z z' W rest ts ρ mm emb) : BDT X z z' W rest ts ρ mm emb := ⟨PSsT.of h.pss, h.ev⟩
theorem bdt_cons {m1 : SM S} {e1 : S → En} {m2 : S → SM T} {e2 : T → En} (h1 : SDT X z z1 W st t ρ m1 e1) (h2 : ∀ s, BDT X z1 z' W rest u (e1 s) (m2 s) e2) (ne : Nonempty S := by exact ⟨default⟩) : BDT X z z' W (st :: rest) (tSeq t u) ρ (seqM m1 m2) e2 := by
  obtain ⟨s⟩ := ne
  exact ⟨psst_cons h1.pst (h2 s).psst, sj_seq h1.ev fun s => (h2 s).ev⟩
theorem bdt_un {ρ' : En} {mm : SM S} {emb : S → En} (h : BDT X true z' W rest ts ρ' mm emb) (hu : ρ.map Sl.un = ρ' := by rfl) (hz : ∀ (h2 : BD X true z' W rest ts ρ' mm emb), BD X z z' W rest ts ρ mm emb := by intro h2; exact bd_un h2 rfl) (he : StJ X.K z z' W ts ρ mm emb) : BDT X z z' W rest ts ρ mm emb := ⟨h.psst, he⟩
theorem pst_setT {i : Nat} {x : Str} {pos' : Pos} (hN : X.N.Nodup) (hi : X.N[i]? = some x) (hx : Loc X.env.scope x) (he : PET X e te) (hs : swapsWith e (some (.Name x pos')) pos.line X.env = pure false) (hf : X.fn x = true ∨ X.env.scope.names.lookup x = some .local) :
    PST X (.Assign [.Name x pos'] e pos) (tAsg te (gName i)) := by
  intro pins s σ H D h0 I h
  refine wpAny_Assign_Name (thn (he pins s σ H _ h0 I h) fun v s1 ⟨y, H1, I1, r1, q1⟩ => ?_) hs
  exact store_ok I1 hN hi hx r1 (fun s2 I2 => ⟨_, H1, I2, q1⟩) hf
theorem sdt_asg {i : Nat} {y : Str} {py : Pos} (nd : X.N.Nodup) (h : PDT X z e te ρ m) (hi : X.N[i]? = some y := by rfl) (hx : Loc X.env.scope y := by first | exact Or.inl rfl | exact Or.inr rfl) (hs : swapsWith e (some (.Name y py)) pos.line X.env = pure false := by rfl)
    (hf : X.fn y = true ∨ X.env.scope.names.lookup y = some .local := by first | exact .inl rfl | exact .inr rfl | assumption) : SDT X z z W (.Assign [.Name y py] e pos) (tAsg te (gName i)) ρ (okM m) (fun d => ρ.set i (.dat d)) :=
  ⟨pst_setT nd hi hx h.pet hs hf, sj_asg h.ev⟩
/-- for, a token out in each turn too -/
theorem pst_forT {tg iter : Expr} {body : List Stmt} {wi : TI} {g : TG} {tb : TS} {pos : Pos} (hp : PassesOwn (model X.prog X.w) X.A X.env X.xe) (hc : X.calm = true) (hi : PI X tg iter wi) (hg : PG X tg g) (hb : PSsT X body tb)
    (hs : ∀ x, foldedSetIterable iter X.env x = pure x := by intro _; rfl) : PST X (.For tg iter body [] pos) (tFor wi g tb) := by
  intro pins s σ H D h0 I h
  refine wpAny_For (wpAny_mono (PySem.wpAny_toks (hi.run pins s σ H _ I h)) (fun v s1 h1 => ?_) fun _ _ z => z.2) hs
  obtain ⟨k1, h1⟩ := h1
  refine wpAny_mono (PySem.wpAny_toks h1) (fun itv s2 h2 => ?_) fun _ _ z => z.2
  obtain ⟨k2, it, fp, tn, J, H2, e, I2, T, st2, f2, Wk, ⟨m0, w0⟩, turn⟩ := h2
  subst e
  have stat : ∀ {H' : Hp}, (∀ b ∈ fp, H' b = none) → ∀ b ∈ fp, FpOk X pins H' b := fun hn b hb => ⟨hn b hb, (f2 b hb).2⟩
  refine codeAny_forLoop_any (fun n s' => 1 ≤ s'.toks ∧ ∃ i σ' H', Inv X pins σ' H' s' ∧ tn i s'.heap ∧ (∀ b ∈ fp, H' b = none) ∧ Wk i n σ' H') ?_ m0 ⟨by omega, 0, σ, H2, I2, st2, fun b hb => (f2 b hb).1, w0⟩
  rintro n s3 ⟨l3, i, σ3, H3, I3, st3, fr3, w3⟩
  rcases turn i n σ3 H3 w3 with ⟨stop, qn⟩ | ⟨go, N, hN, step⟩
  · refine wpAny_passesOwn hp (thn (T.done X rfl rfl rfl hc i pins s3 σ3 H3 X.xe I3 (stat fr3) st3 stop) fun r s4 ⟨hr, I4⟩ => ?_)
    subst hr
    exact wpAny_execs_nil ⟨σ3, H3, I4, qn⟩
  · refine wpAny_passesOwn hp (wpAny_mono (PySem.wpAny_toks (T.item X rfl rfl rfl hc i pins s3 σ3 H3 X.xe I3 (stat fr3) st3 go)) (fun r s4 h4 => ?_) fun _ _ z => z.2)
    obtain ⟨k4, u, hr, h4⟩ := h4
    subst hr
    refine wpAny_passesOwn hp (wpAny_mono (PySem.wpAny_toks h4) (fun _ s5 h5 => ?_) fun _ _ z => z.2)
    obtain ⟨k5, x, H5, I5, r5, y5, st5, fr5⟩ := h5
    have I5' := I5.pinned (stat fr5) (T.obj _ _ st5)
    refine wpAny_passesOwn hp (wpAny_mono (PySem.wpAny_toks (hg.run _ s5 σ3 H5 x u _ I5' r5 (step x H5 y5))) (fun _ s6 h6 => ?_) fun _ _ z => z.2)
    obtain ⟨k6, σ6, H6, I6, q6⟩ := h6
    refine wpAny_passesOwn hp (wpAny_mono (PySem.wpAny_toks (hb _ s6 σ6 H6 _ (by omega) I6 q6)) (fun f s7 h7 => ?_) fun _ _ z => z.2)
    obtain ⟨k7, q7⟩ := h7
    have again : ∀ {σ7 : L2.St} {H7 : Hp}, Inv X (pins ++ pinsAt fp s5.heap) σ7 H7 s7 → N σ7 H7 → ∃ m, m < n ∧ 1 ≤ s7.toks ∧ ∃ i σ' H', Inv X pins σ' H' s7 ∧ tn i s7.heap ∧ (∀ b ∈ fp, H' b = none) ∧ Wk i m σ' H' := fun {σ7 H7} I7 n7 => by
      obtain ⟨m', hm, w7⟩ := hN σ7 H7 n7
      refine ⟨m', hm, by omega, i + 1, σ7, H7, I7.unpinned, T.keep _ _ _ st5 fun b hb o e => (I7.pin (b, o) (List.mem_append_right _ (List.mem_append_right _ (mem_pinsAt hb e)))).1, fun b hb => ?_, w7⟩
      obtain ⟨o, e, d⟩ := T.obj _ _ st5 b hb
      exact (I7.pin (b, o) (List.mem_append_right _ (List.mem_append_right _ (mem_pinsAt hb e)))).2.1
    cases f with
    | next => obtain ⟨σ7, H7, I7, n7⟩ := q7; exact again I7 n7
    | cont => obtain ⟨σ7, H7, I7, n7⟩ := q7; exact again I7 n7
    | brk => obtain ⟨σ7, H7, I7, q7⟩ := q7; exact ⟨σ7, H7, I7.unpinned, q7⟩
    | ret v => obtain ⟨x7, σ7, H7, I7, r7, q7⟩ := q7; exact ⟨x7, σ7, H7, I7.unpinned, r7, q7⟩
theorem sdt_for {iter : Expr} {wi : TI} {j : Nat} {y : Str} {py : Pos} {mi : Option (List PyData)} {step : S → PyData → SM S} {s0 : S} {emb : S → En} {ρb : S → PyData → En} (nd : X.N.Nodup) (hp : PassesOwn (model X.prog X.w) X.A X.env X.xe) (hi : ID X z (.Name y py) iter wi ρ mi) (hl : Le (emb s0) ρ)
    (hρ : ∀ s d, (emb s).set j (.dat d) = ρb s d) (hb : ∀ s d, BDT X z z W body ts (ρb s d) (step s d) emb) (hc : X.calm = true := by rfl) (hj : X.N[j]? = some y := by rfl) (hx : Loc X.env.scope y := by first | exact Or.inl rfl | exact Or.inr rfl)
    (hf : X.fn y = true ∨ X.env.scope.names.lookup y = some .local := by first | exact .inl rfl | exact .inr rfl | assumption) (hs : ∀ x, foldedSetIterable iter X.env x = pure x := by intro _; rfl) :
    SDT X z z W (.For (.Name y py) iter body [] pos) (tFor wi (gName j) ts) ρ (forM mi step s0) emb :=
  ⟨pst_forT hp hc hi.pi (pg_nm nd hj hx hf) (hb s0 .none).psst hs, sj_for hi.ev hl hρ fun s d => (hb s d).ev⟩
end
section
variable {P : Program} {w : World} {K : PySem.W.Frag} {mg : Str → Option Value} {base : Heap}
theorem fnFT {nm qual : Str} {params : Arguments} {bd : List Stmt} {scope : Scope} {f : Addr} {fd : FuncData} {N ps : List Str} {k n : Nat} {F : List PyData → Option (Except Err PyData)} (Fn : FunD K nm qual params bd scope [] [] f fd) (Sc : FnScope N ps scope) (hn : ps.length = n) (h1 : 1 ≤ n) (hnc : ∀ y ∈ scope.names, y.2 ≠ .cell)
    (hb : ∀ (cdv : Value) (A : Around) (outer : List Env) (s : Shared) (H : Hp) (E : XK), Room k (A.deeper (envOfC qual scope s.heap.objs.size f cdv)) → ∀ ds : List PyData, ds.length = n →
      ∃ (S : Type) (t : TS) (z' : Bool) (mm : SM S) (emb : S → En), F ds = runM mm ∧ BDT (cxOf (L2.CX P w) P w K mg base N qual scope f cdv A outer s H E) true z' (fun cls d _ H => E cls d H) bd t (ds.map Sl.dat ++ List.replicate (N.length - n) Sl.no) mm emb) :
    FnOk P w K mg base (L2.CX P w) (k + 1) f fd ps (SpF K F n) := by
  obtain ⟨oc, od, dV, kV, doc, pm, an, cdv, ct, osl, rfl, lk, hcd, _, _⟩ := Fn.ex
  refine fn_ofT lk hcd Sc hnc (by omega) (fun vs H Q E h => ?_) fun A outer s H vs Q E hr h => ?_
  · obtain ⟨ds, r, h1, h2, _⟩ := h
    rw [h1.len, h2, hn]
  · obtain ⟨ds, r, h1, h2, h3, h4, h5⟩ := h
    obtain ⟨S, t, z', mm, emb, e, B⟩ := hb cdv A outer s H E hr ds h2
    refine ⟨t, B.psst, ?_⟩
    rw [e] at h3
    unfold runM at h3
    obtain ⟨r0, e0, h3⟩ := Option.bind_eq_some_iff.mp h3
    have hvs : vs.length = n := by rw [h1.len, h2]
    have rel : Rel K [] H (L2.start N vs) (ds.map Sl.dat ++ List.replicate (N.length - n) Sl.no) := by
      unfold L2.start
      rw [hvs]
      exact rel_start _ h1
    refine B.ev [] (L2.start N vs) H _ r0 Mk'.no rel e0 (fun s hs A' σ' H' _ s' _ _ => ?_) (fun d hd v H' s' dv => ?_) (fun x hx cls dd σ' H' _ s' ex => ?_)
    · subst hs; cases h3
      rw [msk_nil] at s'
      exact h4 _ rfl .non H' (s'.trans Same.unmsk) .non
    · subst hd; cases h3
      rw [msk_nil] at s'
      exact h4 _ rfl v H' s' dv
    · subst hx; cases h3
      rw [msk_nil] at s'
      exact h5 _ rfl cls dd H' s' ex
end
/-! ### comprehensions, the element looked at twice (first where its transformer is found) -/
section
variable {X : Cx} {z : Bool} {ρ : En} {pos p : Pos} {te : TE}
theorem pd_lcZ {elt iter : Expr} {scope : Scope} {own : List (Str × Nat)} {wi : TI} {j : Nat} {y : Str} {py : Pos} {ρw : En} {ρb : PyData → En} {mi : Option (List PyData)} {f : PyData → Option PyData} (hN : X.N.Nodup) (hi : ID X z (.Name y py) iter wi ρ mi) (ok : BlkOk X.N X.env.scope scope own)
    (hw : wipeE ρ (own.map (·.2)) = ρw) (hj : (own.map (·.2)).contains j = true) (hb : ∀ d, ρw.set j (.dat d) = ρb d)
    (h0 : ∀ (d : PyData), PD (X.blk X.s_0 X.H_0 scope (compEnvC scope [] 0 X.env) []) false elt te (ρb d) (f d))
    (he : ∀ (s : Shared) (H : Hp) (C : Addr) (cl : List (Str × Addr)) (fp : List Addr) (d : PyData), PD (X.blk s H scope (compEnvC scope cl C X.env) fp) false elt te (ρb d) (f d)) (hc : X.calm = true := by rfl) (hs : ∀ x, foldedSetIterable iter X.env x = pure x := by intro _; rfl)
    (hg : ∀ (s : Shared) (H : Hp) (C : Addr) (cl : List (Str × Addr)) (fp : List Addr), PG (X.blk s H scope (compEnvC scope cl C X.env) fp) (.Name y py) (gName j)) :
    PD X z (.ListComp elt [⟨.Name y py, iter, [], 0⟩] scope pos) (tLc wi (gName j) tYes te (own.map (·.2))) ρ (lcM mi f) := pd_lc hN hi ok hw hj hb he hc hs hg
theorem pd_lc2Z {elt iter : Expr} {scope : Scope} {own : List (Str × Nat)} {wi : TI} {i j kk : Nat} {y1 y2 : Str} {p1 p2 tp : Pos} {ρw : En} {ρb : PyData → PyData → En} {mi : Option (List PyData)} {f : PyData → PyData → Option PyData} (hN : X.N.Nodup) (hi : ID X z (.Tuple [.Name y1 p1, .Name y2 p2] kk tp) iter wi ρ mi)
    (ok : BlkOk X.N X.env.scope scope own) (hw : wipeE ρ (own.map (·.2)) = ρw) (h1 : (own.map (·.2)).contains i = true) (h2 : (own.map (·.2)).contains j = true) (hb : ∀ a b, (ρw.set i (.dat a)).set j (.dat b) = ρb a b)
    (h0 : ∀ (a b : PyData), PD (X.blk X.s_0 X.H_0 scope (compEnvC scope [] 0 X.env) []) false elt te (ρb a b) (f a b))
    (he : ∀ (s : Shared) (H : Hp) (C : Addr) (cl : List (Str × Addr)) (fp : List Addr) (a b : PyData), PD (X.blk s H scope (compEnvC scope cl C X.env) fp) false elt te (ρb a b) (f a b)) (hc : X.calm = true := by rfl) (hs : ∀ x, foldedSetIterable iter X.env x = pure x := by intro _; rfl)
    (hg : ∀ (s : Shared) (H : Hp) (C : Addr) (cl : List (Str × Addr)) (fp : List Addr), PG (X.blk s H scope (compEnvC scope cl C X.env) fp) (.Tuple [.Name y1 p1, .Name y2 p2] kk tp) (gTup X.K 2 (gCons (gName i) (gCons (gName j) gNil)))) :
    PD X z (.ListComp elt [⟨.Tuple [.Name y1 p1, .Name y2 p2] kk tp, iter, [], 0⟩] scope pos) (tLc wi (gTup X.K 2 (gCons (gName i) (gCons (gName j) gNil))) tYes te (own.map (·.2))) ρ (lcM mi fun q => pairM q fun a b => f a b) := pd_lc2 hN hi ok hw h1 h2 hb he hc hs hg
theorem pd_lccZ {elt iter iter1 : Expr} {scope : Scope} {own : List (Str × Nat)} {vs1 : List Nat} {wi wi1 : TI} {i j : Nat} {y1 y2 : Str} {p1 p2 : Pos} {ρw : En} {ρ1 : PyData → En} {ρ2 : PyData → PyData → En} {mi : Option (List PyData)} {fj : PyData → Option (List PyData)} {f : PyData → PyData → Option PyData} (hN : X.N.Nodup)
    (hi : ID X z (.Name y1 p1) iter wi ρ mi) (ok : BlkOk X.N X.env.scope scope own)
    (hj0 : ∀ (d : PyData), ID (X.blk X.s_0 X.H_0 scope (compEnvC scope [] 0 X.env) []) false (.Name y2 p2) iter1 wi1 (ρ1 d) (fj d))
    (hj : ∀ (s : Shared) (H : Hp) (C : Addr) (cl : List (Str × Addr)) (fp : List Addr) (d : PyData), ID (X.blk s H scope (compEnvC scope cl C X.env) fp) false (.Name y2 p2) iter1 wi1 (ρ1 d) (fj d))
    (h0 : ∀ (d e : PyData), PD (X.blk X.s_0 X.H_0 scope (compEnvC scope [] 0 X.env) []) false elt te (ρ2 d e) (f d e))
    (he : ∀ (s : Shared) (H : Hp) (C : Addr) (cl : List (Str × Addr)) (fp : List Addr) (d e : PyData), PD (X.blk s H scope (compEnvC scope cl C X.env) fp) false elt te (ρ2 d e) (f d e))
    (hw : wipeE ρ (own.map (·.2)) = ρw := by rfl) (hiv : (own.map (·.2)).contains i = true := by rfl) (hjv : vs1.contains j = true := by rfl) (hv : ∀ k ∈ vs1, k ∈ own.map (·.2) := by decide) (h1 : ∀ d, ρw.set i (.dat d) = ρ1 d := by intro _; rfl) (hw1 : ∀ d, wipeE (ρ1 d) vs1 = ρ1 d := by intro _; rfl)
    (h2 : ∀ d e, (ρ1 d).set j (.dat e) = ρ2 d e := by intro _ _; rfl) (hc : X.calm = true := by rfl) (hg : ∀ (s : Shared) (H : Hp) (C : Addr) (cl : List (Str × Addr)) (fp : List Addr), PG (X.blk s H scope (compEnvC scope cl C X.env) fp) (.Name y1 p1) (gName i))
    (hg1 : ∀ (s : Shared) (H : Hp) (C : Addr) (cl : List (Str × Addr)) (fp : List Addr), PG (X.blk s H scope (compEnvC scope cl C X.env) fp) (.Name y2 p2) (gName j)) (hs : ∀ x, foldedSetIterable iter X.env x = pure x := by intro _; rfl) (hs1 : ∀ env x, foldedSetIterable iter1 env x = pure x := by intro _ _; rfl) :
    PD X z (.ListComp elt [⟨.Name y1 p1, iter, [], 0⟩, ⟨.Name y2 p2, iter1, [], 0⟩] scope pos) (tLc2 wi (gName i) tYes wi1 (gName j) tYes te (own.map (·.2)) vs1) ρ (lccM mi fj f) :=
  pd_lcc hN hi ok hj he hw hiv hjv hv h1 hw1 h2 hc hg hg1 hs hs1
end
end UT
end
section
set_option Elab.async false
set_option linter.all false
set_option maxRecDepth 100000
set_option maxHeartbeats 4000000
namespace UT
open PySem PySem.Spec PyProof.Rows L2
def m_is_integer (p0 : PyData) : SM Unit :=
  retM (andD ((some p0).bind (isiD "int")) (notD ((some p0).bind (isiD "bool"))))
def F_is_integer : List PyData → Option (Except Err PyData)
  | [p0] => runM (m_is_integer p0)
  | _ => none
def m_is_number (p0 : PyData) : SM Unit :=
  retM (andD (fnP F_is_integer 1 (consM (some p0) (some []))) (bind2 (some p0) (some (.int 0)) geI))
def F_is_number : List PyData → Option (Except Err PyData)
  | [p0] => runM (m_is_number p0)
  | _ => none
def m_is_stretch (p0 : PyData) : SM Unit :=
  seqM (ifM (S := Unit) (orM (notM (boolM ((some p0).bind (isiD "tuple")))) (boolM (bind2 ((consM (some p0) (some [])).bind lenD) (some (.int 2)) neS)))
  (retM (some (.bool false)))
  (some (.ok ()))) fun s1 =>
  seqM (okM ((some p0).bind fun d => pairM d fun a b => some (a, b))) fun t2 =>
  retM (andD (fnP F_is_number 1 (consM (some t2.1) (some []))) (andD (fnP F_is_number 1 (consM (some t2.2) (some []))) (bind2 (some t2.1) (some t2.2) ltI)))
def F_is_stretch : List PyData → Option (Except Err PyData)
  | [p0] => runM (m_is_stretch p0)
  | _ => none
def m_is_asks (p0 : PyData) : SM Unit :=
  seqM (ifM (S := Unit) (notM (boolM ((some p0).bind (isiD "tuple"))))
  (retM (some (.bool false)))
  (some (.ok ()))) fun s1 =>
  seqM (okM (tupM (consM ((some (.int 1)).bind negI) (consM ((some (.int 1)).bind negI) (some []))))) fun d2 =>
  seqM (forM (S := PyData) (tupleM (some p0)) (fun s3 x4 =>
  seqM (ifM (S := Unit) (orM (notM (boolM (fnP F_is_stretch 1 (consM (some x4) (some []))))) (boolM (bind2 (some x4) (some s3) leT)))
  (retM (some (.bool false)))
  (some (.ok ()))) fun s5 =>
  seqM (okM (some x4)) fun d6 =>
  some (.ok d6)) d2) fun s7 =>
  retM (some (.bool true))
def F_is_asks : List PyData → Option (Except Err PyData)
  | [p0] => runM (m_is_asks p0)
  | _ => none
def m_is_row (p0 p1 p2 : PyData) : SM Unit :=
  seqM (ifM (S := Unit) (orM (notM (boolM ((some p0).bind (isiD "tuple")))) (boolM (bind2 ((consM (some p0) (some [])).bind lenD) (some p1) neS)))
  (retM (some (.bool false)))
  (some (.ok ()))) fun s1 =>
  seqM (forM (S := Unit) (tupleM (some p0)) (fun s2 x3 =>
  seqM (ifM (S := Unit) (notM (boolM (fnP F_is_number 1 (consM (some x3) (some [])))))
  (retM (some (.bool false)))
  (some (.ok ()))) fun s4 =>
  seqM (ifM (S := Unit) (andM (boolM (bind2 (some p2) (some .none) isnN)) (boolM (bind2 (some x3) (some p2) geI)))
  (retM (some (.bool false)))
  (some (.ok ()))) fun s5 =>
  some (.ok ())) ()) fun s6 =>
  retM (some (.bool true))
def F_is_row : List PyData → Option (Except Err PyData)
  | [p0, p1, p2] => runM (m_is_row p0 p1 p2)
  | _ => none
def m_a_fits (p0 p1 : PyData) : SM Unit :=
  seqM (okM (bind2 (some p0) (some (.int 0)) idx)) fun d1 =>
  seqM (ifM (S := Unit) (boolM (bind2 (some d1) (tupM (consM (some (.str "sum")) (consM (some (.str "product")) (some [])))) inT))
  (retM (andD (fnP F_is_number 1 (consM (some p1) (some []))) (bind2 (some p1) (bind2 (some p0) (some (.int 1)) idx) ltI)))
  (some (.ok ()))) fun s2 =>
  seqM (ifM (S := Unit) (boolM (bind2 (some d1) (tupM (consM (some (.str "most")) (consM (some (.str "least")) (consM (some (.str "first")) (consM (some (.str "last")) (some [])))))) inT))
  (retM (fnP F_is_integer 1 (consM (some p1) (some []))))
  (some (.ok ()))) fun s3 =>
  seqM (ifM (S := Unit) (boolM (bind2 (some d1) (some (.str "or")) eqS))
  (retM (fnP F_is_number 1 (consM (some p1) (some []))))
  (some (.ok ()))) fun s4 =>
  seqM (ifM (S := Unit) (boolM (bind2 (some d1) (some (.str "maps")) eqS))
  (retM (fnP F_is_row 3 (consM (some p1) (consM (bind2 (some p0) (some (.int 1)) idx) (consM (bind2 (some p0) (some (.int 1)) idx) (some []))))))
  (some (.ok ()))) fun s5 =>
  seqM (ifM (S := Unit) (boolM (bind2 (some d1) (some (.str "grids")) eqS))
  (seqM (ifM (S := Unit) (orM (notM (boolM ((some p1).bind (isiD "tuple")))) (boolM (bind2 ((consM (some p1) (some [])).bind lenD) (bind2 (some p0) (some (.int 1)) idx) neS)))
  (retM (some (.bool false)))
  (some (.ok ()))) fun s7 =>
  retM ((consM (lcM (tupleM (some p1)) (fun x8 => fnP F_is_row 3 (consM (some x8) (consM (bind2 (some p0) (some (.int 1)) idx) (consM (bind2 (some p0) (some (.int 2)) idx) (some [])))))) (some [])).bind allD))
  (some (.ok ()))) fun s6 =>
  seqM (ifM (S := Unit) (boolM (bind2 (some d1) (some (.str "brackets")) eqS))
  (retM (fnP F_is_row 3 (consM (some p1) (consM (some (.int 2)) (consM (some .none) (some []))))))
  (some (.ok ()))) fun s9 =>
  seqM (ifM (S := Unit) (boolM (bind2 (some d1) (some (.str "spans")) eqS))
  (retM (orD (bind2 (some p1) (some .none) isN) (fnP F_is_stretch 1 (consM (some p1) (some [])))))
  (some (.ok ()))) fun s10 =>
  retM (fnP F_is_row 3 (consM (some p1) (consM (bind2 (some p0) (some (.int 1)) idx) (consM (some .none) (some [])))))
def F_a_fits : List PyData → Option (Except Err PyData)
  | [p0, p1] => runM (m_a_fits p0 p1)
  | _ => none
def m_a_number_read (p0 : PyData) : SM Unit :=
  seqM (ifM (S := Unit) (orM (boolM (bind2 (some p0) (some (.str "")) eqS)) (andM (boolM (bind2 (bind2 (some p0) (some (.int 0)) idx) (some (.str "0")) eqS)) (boolM (bind2 (some p0) (some (.str "0")) neS))))
  (retM (some .none))
  (some (.ok ()))) fun s1 =>
  seqM (forM (S := Unit) (signM (some p0)) (fun s2 x3 =>
  seqM (ifM (S := Unit) (boolM (bind2 (some x3) (some (.str "0123456789")) ninS))
  (retM (some .none))
  (some (.ok ()))) fun s4 =>
  some (.ok ())) ()) fun s5 =>
  retM ((consM (some p0) (some [])).bind intS)
def F_a_number_read : List PyData → Option (Except Err PyData)
  | [p0] => runM (m_a_number_read p0)
  | _ => none
def m_a_integer_read (p0 : PyData) : SM Unit :=
  seqM (ifM (S := Unit) (boolM (bind2 (some p0) (some (.str "-")) startsD))
  (seqM (okM (fnP F_a_number_read 1 (consM (slcM (some p0) (partM (some (.int 1))) (some none) slcS) (some [])))) fun d2 =>
  seqM (ifM (S := Unit) (orM (boolM (bind2 (some d2) (some .none) isN)) (boolM (bind2 (some d2) (some (.int 0)) eqS)))
  (retM (some .none))
  (some (.ok ()))) fun s3 =>
  retM ((some d2).bind negI))
  (some (.ok ()))) fun s1 =>
  retM (fnP F_a_number_read 1 (consM (some p0) (some [])))
def F_a_integer_read : List PyData → Option (Except Err PyData)
  | [p0] => runM (m_a_integer_read p0)
  | _ => none
def m_is_move (p0 : PyData) : SM Unit :=
  seqM (ifM (S := Unit) (orM (notM (boolM ((some p0).bind (isiD "tuple")))) (notM (truM (some p0))))
  (retM (some (.bool false)))
  (some (.ok ()))) fun s1 =>
  seqM (ifM (S := Unit) (boolM (bind2 ((consM (some p0) (some [])).bind lenD) (some (.int 1)) eqS))
  (retM (bind2 (bind2 (some p0) (some (.int 0)) idx) (some (.str "ask")) eqS))
  (some (.ok ()))) fun s2 =>
  seqM (ifM (S := Unit) (orM (boolM (bind2 ((consM (some p0) (some [])).bind lenD) (some (.int 2)) neS)) (boolM (bind2 (bind2 (some p0) (some (.int 0)) idx) (tupM (consM (some (.str "put")) (consM (some (.str "drop")) (some [])))) ninT)))
  (retM (some (.bool false)))
  (some (.ok ()))) fun s3 =>
  retM (andD (fnP F_is_integer 1 (consM (bind2 (some p0) (some (.int 1)) idx) (some []))) (bind2 (bind2 (some p0) (some (.int 1)) idx) (some (.int 1)) geI))
def F_is_move : List PyData → Option (Except Err PyData)
  | [p0] => runM (m_is_move p0)
  | _ => none
def m_lets_history (p0 : PyData) : SM Unit :=
  seqM (ifM (S := Unit) (notM (boolM ((some p0).bind (isiD "tuple"))))
  (raiseM .paper (consM (some (.str "shape")) (consM ((some (.int 1)).bind negI) (some []))))
  (some (.ok ()))) fun s1 =>
  seqM (okM (some (.int 0))) fun d2 =>
  seqM (forM (S := PyData) (enumTM (consM (some p0) (some []))) (fun s3 q => pairM q fun x4 x5 =>
  seqM (ifM (S := Unit) (notM (boolM (fnP F_is_move 1 (consM (some x5) (some [])))))
  (raiseM .paper (consM (some (.str "event")) (consM (some x4) (some []))))
  (some (.ok ()))) fun s6 =>
  seqM (ifM (S := PyData) (boolM (bind2 (bind2 (some x5) (some (.int 0)) idx) (some (.str "put")) eqS))
  (seqM (okM ((bind2 (some x5) (some (.int 1)) idx).bind (addI s3))) fun d8 =>
  some (.ok d8))
  (some (.ok s3))) fun s7 =>
  seqM (ifM (S := PyData) (boolM (bind2 (bind2 (some x5) (some (.int 0)) idx) (some (.str "drop")) eqS))
  (seqM (ifM (S := Unit) (boolM (bind2 (bind2 (some x5) (some (.int 1)) idx) (some s7) gtI))
  (raiseM .paper (consM (some (.str "drop")) (consM (some x4) (some []))))
  (some (.ok ()))) fun s10 =>
  seqM (okM ((bind2 (some x5) (some (.int 1)) idx).bind (subI s7))) fun d11 =>
  some (.ok d11))
  (some (.ok s7))) fun s9 =>
  some (.ok s9)) d2) fun s12 =>
  retM (some s12)
def F_lets_history : List PyData → Option (Except Err PyData)
  | [p0] => runM (m_lets_history p0)
  | _ => none
def F_is_history : List PyData → Option (Except Err PyData)
  | [p0] => (F_lets_history [p0]).bind fun r => match r with
    | .ok _ => some (.ok (.bool true))
    | .error e => match e.c with
      | .paper => some (.ok (.bool false))
      | _ => none
  | _ => none
def m_asks_line (p0 : PyData) : SM Unit :=
  seqM (ifM (S := Unit) (notM (boolM (fnP F_is_asks 1 (consM (some p0) (some [])))))
  (raiseM .usable (consM (some (.str "asks")) (consM ((some (.int 1)).bind negI) (some []))))
  (some (.ok ()))) fun s1 =>
  seqM (ifM (S := Unit) (notM (truM (some p0)))
  (retM (some (.str "-")))
  (some (.ok ()))) fun s2 =>
  retM (bind2 (some (.str " ")) (lcM (tupleM (some p0)) (fun q => pairM q fun x3 y4 => fstM (consM ((some x3).bind fmtD) (consM (some (.str "-")) (consM ((some y4).bind fmtD) (some [])))))) joinD)
def F_asks_line : List PyData → Option (Except Err PyData)
  | [p0] => runM (m_asks_line p0)
  | _ => none
def m_history_line (p0 : PyData) : SM Unit :=
  seqM (ifM (S := Unit) (notM (boolM (fnP F_is_history 1 (consM (some p0) (some [])))))
  (raiseM .usable (consM (some (.str "history")) (consM ((some (.int 1)).bind negI) (some []))))
  (some (.ok ()))) fun s1 =>
  seqM (ifM (S := Unit) (notM (truM (some p0)))
  (retM (some (.str "-")))
  (some (.ok ()))) fun s2 =>
  retM (bind2 (some (.str "; ")) (lcM (tupleM (some p0)) (fun x3 => bind2 (some (.str " ")) (lcM (tupleM (some x3)) (fun x4 => (consM (some x4) (some [])).bind strD)) joinD)) joinD)
def F_history_line : List PyData → Option (Except Err PyData)
  | [p0] => runM (m_history_line p0)
  | _ => none
def m_parts_of (p0 : PyData) : SM Unit :=
  seqM (ifM (S := Unit) (notM (boolM ((some p0).bind (isiD "str"))))
  (raiseM .usable (consM (some (.str "text")) (consM ((some (.int 1)).bind negI) (some []))))
  (some (.ok ()))) fun s1 =>
  seqM (okM (bind2 (some p0) (some (.str " ")) splitD)) fun d2 =>
  seqM (ifM (S := Unit) (boolM (bind2 (bind2 (some d2) (some (.int 0)) idx) (some (.str "-")) neS))
  (retM (some d2))
  (some (.ok ()))) fun s3 =>
  seqM (ifM (S := Unit) (boolM (bind2 ((consM (some d2) (some [])).bind lenD) (some (.int 1)) gtI))
  (raiseM .text (consM (some (.int 0)) (consM (some (.int 1)) (some []))))
  (some (.ok ()))) fun s4 =>
  retM (lstM (some []))
def F_parts_of : List PyData → Option (Except Err PyData)
  | [p0] => runM (m_parts_of p0)
  | _ => none
def m_stretch_read (p0 : PyData) : SM Unit :=
  seqM (okM ((bind2 (some p0) (some (.str "-")) partD).bind fun d => triM d fun a b c => some (a, b, c))) fun t1 =>
  seqM (okM (fnP F_a_number_read 1 (consM (some t1.1) (some [])))) fun d2 =>
  seqM (okM (fnP F_a_number_read 1 (consM (some t1.2.2) (some [])))) fun d3 =>
  seqM (ifM (S := Unit) (orM (boolM (bind2 (some d2) (some .none) isN)) (orM (boolM (bind2 (some d3) (some .none) isN)) (boolM (bind2 (some d2) (some d3) geI))))
  (retM (some .none))
  (some (.ok ()))) fun s4 =>
  retM (tupM (consM (some d2) (consM (some d3) (some []))))
def F_stretch_read : List PyData → Option (Except Err PyData)
  | [p0] => runM (m_stretch_read p0)
  | _ => none
def m_read_asks (p0 : PyData) : SM Unit :=
  seqM (fnX F_parts_of 1 (consM (some p0) (some []))) fun d1 =>
  seqM (ifM (S := Unit) (notM (truM (some d1)))
  (retM (tupM (some [])))
  (some (.ok ()))) fun s2 =>
  seqM (okM ((some []).bind fun ds => if ds.length ≤ 100000 then some ds else none)) fun l3 =>
  seqM (okM (tupM (consM ((some (.int 1)).bind negI) (consM ((some (.int 1)).bind negI) (some []))))) fun d4 =>
  seqM (forM (S := List PyData × PyData) (enumM (consM (some d1) (some []))) (fun s5 q => pairM q fun x6 x7 =>
  seqM (okM (fnP F_stretch_read 1 (consM (some x7) (some [])))) fun d8 =>
  seqM (ifM (S := Unit) (orM (boolM (bind2 (some d8) (some .none) isN)) (boolM (bind2 (some d8) (some s5.2) leT)))
  (raiseM .text (consM (some (.int 0)) (consM (some x6) (some []))))
  (some (.ok ()))) fun s9 =>
  seqM (okM ((some d8).bind fun d => if (s5.1).length < 100000 then some (s5.1 ++ [d]) else none)) fun l10 =>
  seqM (okM (some d8)) fun d11 =>
  some (.ok (l10, d11))) (l3, d4)) fun s12 =>
  retM ((consM (some (.list s12.1)) (some [])).bind tupD)
def F_read_asks : List PyData → Option (Except Err PyData)
  | [p0] => runM (m_read_asks p0)
  | _ => none
def m_event_read (p0 p1 p2 : PyData) : SM Unit :=
  seqM (ifM (S := Unit) (boolM (bind2 (some p1) ((consM (some p0) (some [])).bind lenD) eqS))
  (raiseM .text (consM (some (.int 0)) (consM (some p1) (some []))))
  (some (.ok ()))) fun s1 =>
  seqM (ifM (S := Unit) (boolM (bind2 (bind2 (some p0) (some p1) idx) (tupM (consM (some (.str "ask")) (consM (some (.str "ask;")) (some [])))) inT))
  (retM (tupM (consM (tupM (consM (some (.str "ask")) (some []))) (consM (some (.int 1)) (consM (bind2 (bind2 (some p0) (some p1) idx) (some (.str "ask;")) eqS) (some []))))))
  (some (.ok ()))) fun s2 =>
  seqM (ifM (S := Unit) (orM (boolM (bind2 (bind2 (some p0) (some p1) idx) (tupM (consM (some (.str "put")) (consM (some (.str "drop")) (some [])))) ninT)) (andM (boolM (bind2 (bind2 (some p0) (some p1) idx) (some (.str "drop")) eqS)) (boolM (bind2 (some p2) (some (.int 0)) eqS))))
  (raiseM .text (consM (some (.int 0)) (consM (some p1) (some []))))
  (some (.ok ()))) fun s3 =>
  seqM (ifM (S := Unit) (boolM (bind2 (bind2 (some p1) (some (.int 1)) addI) ((consM (some p0) (some [])).bind lenD) eqS))
  (raiseM .text (consM (some (.int 0)) (consM (bind2 (some p1) (some (.int 1)) addI) (some []))))
  (some (.ok ()))) fun s4 =>
  seqM (okM (fnP F_a_number_read 1 (consM (bind2 (bind2 (some p0) (bind2 (some p1) (some (.int 1)) addI) idx) (some (.str ";")) rmsufD) (some [])))) fun d5 =>
  seqM (ifM (S := Unit) (orM (boolM (bind2 (some d5) (some .none) isN)) (orM (boolM (bind2 (some d5) (some (.int 1)) ltI)) (andM (boolM (bind2 (bind2 (some p0) (some p1) idx) (some (.str "drop")) eqS)) (boolM (bind2 (some d5) (some p2) gtI)))))
  (raiseM .text (consM (some (.int 0)) (consM (bind2 (some p1) (some (.int 1)) addI) (some []))))
  (some (.ok ()))) fun s6 =>
  retM (tupM (consM (tupM (consM (bind2 (some p0) (some p1) idx) (consM (some d5) (some [])))) (consM (some (.int 2)) (consM (bind2 (bind2 (some p0) (bind2 (some p1) (some (.int 1)) addI) idx) (some (.str ";")) endsD) (some [])))))
def F_event_read : List PyData → Option (Except Err PyData)
  | [p0, p1, p2] => runM (m_event_read p0 p1 p2)
  | _ => none
def m_read_history (p0 : PyData) : SM Unit :=
  seqM (fnX F_parts_of 1 (consM (some p0) (some []))) fun d1 =>
  seqM (okM ((some []).bind fun ds => if ds.length ≤ 100000 then some ds else none)) fun l2 =>
  seqM (okM (some (.int 0))) fun d3 =>
  seqM (okM (some (.int 0))) fun d4 =>
  seqM (okM (bind2 ((consM (some d1) (some [])).bind lenD) (some (.int 0)) gtI)) fun d5 =>
  seqM (whileM (S := PyData × List PyData × PyData × PyData) (fun s6 => boolM (some s6.1)) (fun s6 =>
  seqM (seqM (fnXP F_event_read 3 (consM (some d1) (consM (some s6.2.2.2) (consM (some s6.2.2.1) (some []))))) fun d => okM (triM d fun a b c => some (a, b, c))) fun t7 =>
  seqM (okM ((some t7.1).bind fun d => if (s6.2.1).length < 100000 then some (s6.2.1 ++ [d]) else none)) fun l8 =>
  seqM (ifM (S := PyData) (boolM (bind2 (bind2 (some t7.1) (some (.int 0)) idx) (some (.str "put")) eqS))
  (seqM (okM ((bind2 (some t7.1) (some (.int 1)) idx).bind (addI s6.2.2.1))) fun d10 =>
  some (.ok d10))
  (some (.ok s6.2.2.1))) fun s9 =>
  seqM (ifM (S := PyData) (boolM (bind2 (bind2 (some t7.1) (some (.int 0)) idx) (some (.str "drop")) eqS))
  (seqM (okM ((bind2 (some t7.1) (some (.int 1)) idx).bind (subI s9))) fun d12 =>
  some (.ok d12))
  (some (.ok s9))) fun s11 =>
  seqM (okM ((some t7.2.1).bind (addI s6.2.2.2))) fun d13 =>
  some (.ok (t7.2.2, l8, s11, d13))) 100000 (d5, l2, d3, d4)) fun s14 =>
  seqM (ifM (S := Unit) (boolM (bind2 (some s14.2.2.2) ((consM (some d1) (some [])).bind lenD) ltI))
  (raiseM .text (consM (some (.int 0)) (consM (some s14.2.2.2) (some []))))
  (some (.ok ()))) fun s15 =>
  retM ((consM (some (.list s14.2.1)) (some [])).bind tupD)
def F_read_history : List PyData → Option (Except Err PyData)
  | [p0] => runM (m_read_history p0)
  | _ => none
def m_is_operation (p0 : PyData) : SM Unit :=
  seqM (ifM (S := Unit) (orM (notM (boolM ((some p0).bind (isiD "tuple")))) (notM (truM (some p0))))
  (retM (some (.bool false)))
  (some (.ok ()))) fun s1 =>
  seqM (ifM (S := Unit) (orM (notM (boolM ((bind2 (some p0) (some (.int 0)) idx).bind (isiD "str")))) (boolM ((bind2 (some p0) (some (.int 0)) idx).bind opwNin)))
  (retM (some (.bool false)))
  (some (.ok ()))) fun s2 =>
  seqM (ifM (S := Unit) (boolM (bind2 ((consM (some p0) (some [])).bind lenD) (bind2 ((bind2 (some p0) (some (.int 0)) idx).bind opwGet) (some (.int 1)) addI) neS))
  (retM (some (.bool false)))
  (some (.ok ()))) fun s3 =>
  seqM (forM (S := Unit) (tupleM (slcM (some p0) (partM (some (.int 1))) (some none) slcT)) (fun s4 x5 =>
  seqM (ifM (S := Unit) (orM (notM (boolM (fnP F_is_integer 1 (consM (some x5) (some []))))) (boolM (bind2 (some x5) (some (.int 1)) ltI)))
  (retM (some (.bool false)))
  (some (.ok ()))) fun s6 =>
  some (.ok ())) ()) fun s7 =>
  retM (some (.bool true))
def F_is_operation : List PyData → Option (Except Err PyData)
  | [p0] => runM (m_is_operation p0)
  | _ => none
def m_operation_line (p0 : PyData) : SM Unit :=
  seqM (ifM (S := Unit) (notM (boolM (fnP F_is_operation 1 (consM (some p0) (some [])))))
  (raiseM .usable (consM (some (.str "operation")) (consM ((some (.int 1)).bind negI) (some []))))
  (some (.ok ()))) fun s1 =>
  retM (bind2 (some (.str " ")) (lcM (tupleM (some p0)) (fun x2 => (consM (some x2) (some [])).bind strD)) joinD)
def F_operation_line : List PyData → Option (Except Err PyData)
  | [p0] => runM (m_operation_line p0)
  | _ => none
def m_value_line (p0 p1 : PyData) : SM Unit :=
  seqM (ifM (S := Unit) (notM (boolM (fnP F_is_operation 1 (consM (some p0) (some [])))))
  (raiseM .usable (consM (some (.str "operation")) (consM ((some (.int 1)).bind negI) (some []))))
  (some (.ok ()))) fun s1 =>
  seqM (ifM (S := Unit) (notM (boolM (fnP F_a_fits 2 (consM (some p0) (consM (some p1) (some []))))))
  (raiseM .usable (consM (some (.str "value")) (consM ((some (.int 1)).bind negI) (some []))))
  (some (.ok ()))) fun s2 =>
  seqM (ifM (S := Unit) (boolM (bind2 (some p1) (some .none) isN))
  (retM (some (.str "nought")))
  (some (.ok ()))) fun s3 =>
  seqM (ifM (S := Unit) (notM (boolM ((some p1).bind (isiD "tuple"))))
  (retM ((consM (some p1) (some [])).bind strD))
  (some (.ok ()))) fun s4 =>
  seqM (ifM (S := Unit) (boolM (bind2 (bind2 (some p0) (some (.int 0)) idx) (some (.str "grids")) eqS))
  (retM (bind2 (some (.str " ")) (lccM (tupleM (some p1)) (fun x6 => tupleM (some x6)) (fun x6 y7 => (consM (some y7) (some [])).bind strD)) joinD))
  (some (.ok ()))) fun s5 =>
  retM (bind2 (some (.str " ")) (lcM (tupleM (some p1)) (fun x8 => (consM (some x8) (some [])).bind strD)) joinD)
def F_value_line : List PyData → Option (Except Err PyData)
  | [p0, p1] => runM (m_value_line p0 p1)
  | _ => none
def m_read_operation (p0 : PyData) : SM Unit :=
  seqM (ifM (S := Unit) (notM (boolM ((some p0).bind (isiD "str"))))
  (raiseM .usable (consM (some (.str "text")) (consM ((some (.int 1)).bind negI) (some []))))
  (some (.ok ()))) fun s1 =>
  seqM (okM (bind2 (some p0) (some (.str " ")) splitD)) fun d2 =>
  seqM (ifM (S := Unit) (boolM ((bind2 (some d2) (some (.int 0)) idx).bind opwNin))
  (raiseM .text (consM (some (.int 0)) (consM (some (.int 0)) (some []))))
  (some (.ok ()))) fun s3 =>
  seqM (okM ((bind2 (some d2) (some (.int 0)) idx).bind opwGet)) fun d4 =>
  seqM (okM ((some []).bind fun ds => if ds.length ≤ 100000 then some ds else none)) fun l5 =>
  seqM (forM (S := List PyData) (enumM (consM (slcM (some d2) (partM (some (.int 1))) (some none) slcL) (some []))) (fun s6 q => pairM q fun x7 x8 =>
  seqM (okM (fnP F_a_number_read 1 (consM (some x8) (some [])))) fun d9 =>
  seqM (ifM (S := Unit) (orM (boolM (bind2 (some x7) (some d4) geI)) (orM (boolM (bind2 (some d9) (some .none) isN)) (boolM (bind2 (some d9) (some (.int 1)) ltI))))
  (raiseM .text (consM (some (.int 0)) (consM (bind2 (some x7) (some (.int 1)) addI) (some []))))
  (some (.ok ()))) fun s10 =>
  seqM (okM ((some d9).bind fun d => if (s6).length < 100000 then some (s6 ++ [d]) else none)) fun l11 =>
  some (.ok l11)) l5) fun s12 =>
  seqM (ifM (S := Unit) (boolM (bind2 ((consM (some (.list s12)) (some [])).bind lenD) (some d4) ltI))
  (raiseM .text (consM (some (.int 0)) (consM ((consM (some d2) (some [])).bind lenD) (some []))))
  (some (.ok ()))) fun s13 =>
  retM (tupM (consM (bind2 (some d2) (some (.int 0)) idx) (starM (some (.list s12)) (some []))))
def F_read_operation : List PyData → Option (Except Err PyData)
  | [p0] => runM (m_read_operation p0)
  | _ => none
def m_can_stand (p0 p1 p2 : PyData) : SM Unit :=
  seqM (ifM (S := Unit) (boolM (bind2 (bind2 (some p0) (some (.int 0)) idx) (tupM (consM (some (.str "most")) (consM (some (.str "least")) (consM (some (.str "first")) (consM (some (.str "last")) (some [])))))) inT))
  (retM (some (.bool true)))
  (some (.ok ()))) fun s1 =>
  seqM (ifM (S := Unit) (boolM (bind2 (some p2) (some (.int 0)) ltI))
  (retM (some (.bool false)))
  (some (.ok ()))) fun s2 =>
  seqM (ifM (S := Unit) (boolM (bind2 (bind2 (some p0) (some (.int 0)) idx) (tupM (consM (some (.str "sum")) (consM (some (.str "product")) (consM (some (.str "maps")) (some []))))) inT))
  (retM (bind2 (some p2) (bind2 (some p0) (some (.int 1)) idx) ltI))
  (some (.ok ()))) fun s3 =>
  seqM (ifM (S := Unit) (boolM (bind2 (bind2 (some p0) (some (.int 0)) idx) (some (.str "grids")) eqS))
  (retM (bind2 (some p2) (bind2 (some p0) (some (.int 2)) idx) ltI))
  (some (.ok ()))) fun s4 =>
  seqM (ifM (S := Unit) (andM (boolM (bind2 (bind2 (some p0) (some (.int 0)) idx) (some (.str "spans")) eqS)) (truM (some p1)))
  (retM (bind2 (some p2) (bind2 (some p1) (some (.int 0)) idx) gtI))
  (some (.ok ()))) fun s5 =>
  retM (some (.bool true))
def F_can_stand : List PyData → Option (Except Err PyData)
  | [p0, p1, p2] => runM (m_can_stand p0 p1 p2)
  | _ => none
def m_figures_due (p0 : PyData) : SM Unit :=
  seqM (ifM (S := Unit) (boolM (bind2 (bind2 (some p0) (some (.int 0)) idx) (tupM (consM (some (.str "maps")) (consM (some (.str "counts")) (some [])))) inT))
  (retM (bind2 (some p0) (some (.int 1)) idx))
  (some (.ok ()))) fun s1 =>
  seqM (ifM (S := Unit) (boolM (bind2 (bind2 (some p0) (some (.int 0)) idx) (some (.str "grids")) eqS))
  (retM (bind2 (bind2 (some p0) (some (.int 1)) idx) (bind2 (some p0) (some (.int 1)) idx) mulI))
  (some (.ok ()))) fun s2 =>
  seqM (ifM (S := Unit) (boolM (bind2 (bind2 (some p0) (some (.int 0)) idx) (tupM (consM (some (.str "brackets")) (consM (some (.str "spans")) (some [])))) inT))
  (retM (some (.int 2)))
  (some (.ok ()))) fun s3 =>
  retM (some (.int 1))
def F_figures_due : List PyData → Option (Except Err PyData)
  | [p0] => runM (m_figures_due p0)
  | _ => none
def m_read_value (p0 p1 : PyData) : SM Unit :=
  seqM (ifM (S := Unit) (notM (boolM (fnP F_is_operation 1 (consM (some p0) (some [])))))
  (raiseM .usable (consM (some (.str "operation")) (consM ((some (.int 1)).bind negI) (some []))))
  (some (.ok ()))) fun s1 =>
  seqM (ifM (S := Unit) (notM (boolM ((some p1).bind (isiD "str"))))
  (raiseM .usable (consM (some (.str "text")) (consM ((some (.int 1)).bind negI) (some []))))
  (some (.ok ()))) fun s2 =>
  seqM (okM (bind2 (some p1) (some (.str " ")) splitD)) fun d3 =>
  seqM (ifM (S := Unit) (andM (boolM (bind2 (bind2 (some p0) (some (.int 0)) idx) (some (.str "spans")) eqS)) (boolM (bind2 (bind2 (some d3) (some (.int 0)) idx) (some (.str "nought")) eqS)))
  (seqM (ifM (S := Unit) (boolM (bind2 ((consM (some d3) (some [])).bind lenD) (some (.int 1)) gtI))
  (raiseM .text (consM (some (.int 0)) (consM (some (.int 1)) (some []))))
  (some (.ok ()))) fun s5 =>
  retM (some .none))
  (some (.ok ()))) fun s4 =>
  seqM (okM (fnP F_figures_due 1 (consM (some p0) (some [])))) fun d6 =>
  seqM (okM ((some []).bind fun ds => if ds.length ≤ 100000 then some ds else none)) fun l7 =>
  seqM (forM (S := List PyData) (enumM (consM (some d3) (some []))) (fun s8 q => pairM q fun x9 x10 =>
  seqM (okM (fnP F_a_integer_read 1 (consM (some x10) (some [])))) fun d11 =>
  seqM (ifM (S := Unit) (orM (boolM (bind2 (some x9) (some d6) geI)) (orM (boolM (bind2 (some d11) (some .none) isN)) (notM (boolM (fnP F_can_stand 3 (consM (some p0) (consM (some (.list s8)) (consM (some d11) (some [])))))))))
  (raiseM .text (consM (some (.int 0)) (consM (some x9) (some []))))
  (some (.ok ()))) fun s12 =>
  seqM (okM ((some d11).bind fun d => if (s8).length < 100000 then some (s8 ++ [d]) else none)) fun l13 =>
  some (.ok l13)) l7) fun s14 =>
  seqM (ifM (S := Unit) (boolM (bind2 ((consM (some (.list s14)) (some [])).bind lenD) (some d6) ltI))
  (raiseM .text (consM (some (.int 0)) (consM ((consM (some d3) (some [])).bind lenD) (some []))))
  (some (.ok ()))) fun s15 =>
  seqM (ifM (S := Unit) (boolM (bind2 (bind2 (some p0) (some (.int 0)) idx) (some (.str "grids")) eqS))
  (seqM (okM (bind2 (some p0) (some (.int 1)) idx)) fun d17 =>
  retM ((consM (lcM (rng1M (consM (some d17) (some []))) (fun x18 => (consM (slcM (some (.list s14)) (partM (bind2 (some x18) (some d17) mulI)) (partM (bind2 (bind2 (some x18) (some (.int 1)) addI) (some d17) mulI)) slcL) (some [])).bind tupD)) (some [])).bind tupD))
  (some (.ok ()))) fun s16 =>
  seqM (ifM (S := Unit) (boolM (bind2 (bind2 (some p0) (some (.int 0)) idx) (tupM (consM (some (.str "maps")) (consM (some (.str "brackets")) (consM (some (.str "spans")) (consM (some (.str "counts")) (some [])))))) inT))
  (retM ((consM (some (.list s14)) (some [])).bind tupD))
  (some (.ok ()))) fun s19 =>
  retM (bind2 (some (.list s14)) (some (.int 0)) idx)
def F_read_value : List PyData → Option (Except Err PyData)
  | [p0, p1] => runM (m_read_value p0 p1)
  | _ => none
def m_law_nums (p0 p1 p2 : PyData) : SM Unit :=
  seqM (okM (some (.int 0))) fun d1 =>
  seqM (ifM (S := PyData) (boolM (bind2 (some p1) ((consM (some p0) (some [])).bind lenD) ltI))
  (seqM (okM (bind2 (some p0) (some p1) idx)) fun d3 =>
  some (.ok d3))
  (some (.ok d1))) fun s2 =>
  seqM (ifM (S := PyData) (boolM (bind2 (some s2) (some (.int 0)) ltI))
  (seqM (okM (bind2 (some (.int 7)) (bind2 (some (.int 5)) (some s2) mulI) subI)) fun d5 =>
  some (.ok d5))
  (some (.ok s2))) fun s4 =>
  seqM (okM (bind2 (some (.int 5501)) (bind2 (some (.int 17)) ((consM (some p0) (some [])).bind lenD) mulI) addI)) fun d6 =>
  seqM (forM (S := PyData) (listM (some p0)) (fun s7 x8 =>
  seqM (okM (bind2 ((consM (bind2 (bind2 (some s7) (some (.int 6007)) mulI) (some x8) addI) (some [])).bind int1) (some (.int 999999937)) modI)) fun d9 =>
  some (.ok d9)) d6) fun s10 =>
  seqM (okM (bind2 (some s4) (some (.int 1000000000000000000)) geI)) fun d11 =>
  seqM (okM (bind2 ((consM (bind2 (bind2 (bind2 (bind2 (some s10) (some (.int 433)) mulI) (bind2 (some s4) (some (.int 101)) mulI) addI) (bind2 (some p1) (some (.int 30011)) mulI) addI) (some (.int 13)) addI) (some [])).bind int1) (some (.int 2147483549)) modI)) fun d12 =>
  seqM (okM ((some []).bind fun ds => if ds.length ≤ 100000 then some ds else none)) fun l13 =>
  seqM (forM (S := List PyData × PyData × PyData) (listM (some p2)) (fun s14 x15 =>
  seqM (ifM (S := List PyData × PyData × PyData) (andM (boolM (some d11)) (boolM (bind2 (some s14.2.1) (some (.int 0)) gtI)))
  (seqM (okM ((bind2 ((consM (some s14.2.1) (some [])).bind int1) (some x15) modI).bind fun d => if (s14.1).length < 100000 then some (s14.1 ++ [d]) else none)) fun l17 =>
  seqM (okM (bind2 (some s14.2.1) (some x15) fdivI)) fun d18 =>
  some (.ok (l17, d18, s14.2.2)))
  (seqM (okM (bind2 ((consM (bind2 (bind2 (some s14.2.2) (some (.int 742938285)) mulI) (some (.int 3001)) addI) (some [])).bind int1) (some (.int 2147483549)) modI)) fun d19 =>
  seqM (okM ((bind2 ((consM (bind2 (some d19) (some (.int 103)) fdivI) (some [])).bind int1) (some x15) modI).bind fun d => if (s14.1).length < 100000 then some (s14.1 ++ [d]) else none)) fun l20 =>
  some (.ok (l20, s14.2.1, d19)))) fun s16 =>
  some (.ok (s16.1, s16.2.1, s16.2.2))) (l13, s4, d12)) fun s21 =>
  retM (some (.list s21.1))
def F_law_nums : List PyData → Option (Except Err PyData)
  | [p0, p1, p2] => runM (m_law_nums p0 p1 p2)
  | _ => none
def m_law_int (p0 : PyData) : SM Unit :=
  retM (andD ((some p0).bind (isiD "int")) (notD ((some p0).bind (isiD "bool"))))
def F_law_int : List PyData → Option (Except Err PyData)
  | [p0] => runM (m_law_int p0)
  | _ => none
def m_law_same (Fs : List PyData → Option (Except Err PyData)) (p0 p1 : PyData) : SM Unit :=
  seqM (ifM (S := Unit) (orM (boolM (bind2 (some p1) (some .none) isN)) (boolM (bind2 (some p0) (some .none) isN)))
  (retM (andD (bind2 (some p1) (some .none) isN) (bind2 (some p0) (some .none) isN)))
  (some (.ok ()))) fun s1 =>
  seqM (ifM (S := Unit) (orM (boolM ((some p1).bind (isiD "bool"))) (boolM ((some p0).bind (isiD "bool"))))
  (retM (andD ((some p1).bind (isiD "bool")) (andD ((some p0).bind (isiD "bool")) (bind2 (some p0) (some p1) eqS))))
  (some (.ok ()))) fun s2 =>
  seqM (ifM (S := Unit) (boolM ((some p1).bind (isiD "int")))
  (retM (andD ((some p0).bind (isiD "int")) (bind2 (some p0) (some p1) eqS)))
  (some (.ok ()))) fun s3 =>
  seqM (ifM (S := Unit) (boolM ((some p1).bind (isiD "str")))
  (retM (andD ((some p0).bind (isiD "str")) (bind2 (some p0) (some p1) eqS)))
  (some (.ok ()))) fun s4 =>
  seqM (ifM (S := Unit) (orM (notM (boolM ((some p0).bind (isiD "tuple")))) (boolM (bind2 ((consM (some p0) (some [])).bind lenD) ((consM (some p1) (some [])).bind lenD) neS)))
  (retM (some (.bool false)))
  (some (.ok ()))) fun s5 =>
  retM ((consM (lcM (rng1M (consM ((consM (some p1) (some [])).bind lenD) (some []))) (fun x6 => fnP Fs 2 (consM (bind2 (some p0) (some x6) idx) (consM (bind2 (some p1) (some x6) idx) (some []))))) (some [])).bind allD)
def F_law_sameN : Nat → List PyData → Option (Except Err PyData)
  | n + 1, [p0, p1] => runM (m_law_same (F_law_sameN n) p0 p1)
  | _, _ => none
def F_law_same : List PyData → Option (Except Err PyData) := F_law_sameN 8
def m_law_operation (p0 : PyData) : SM Unit :=
  seqM (okM (tupM (consM (some (.str "sum")) (consM (some (.str "product")) (consM (some (.str "maps")) (consM (some (.str "grids")) (consM (some (.str "spans")) (consM (some (.str "brackets")) (some []))))))))) fun d1 =>
  seqM (okM (tupM (consM (some (.str "most")) (consM (some (.str "least")) (consM (some (.str "first")) (consM (some (.str "last")) (consM (some (.str "or")) (consM (some (.str "counts")) (some []))))))))) fun d2 =>
  seqM (okM (bind2 (bind2 (some d1) (some d2) catT) (bind2 (some p0) (some (.int 0)) idx) idx)) fun d3 =>
  seqM (ifM (S := Unit) (orM (boolM (bind2 (some d3) (some (.str "sum")) eqS)) (boolM (bind2 (some d3) (some (.str "product")) eqS)))
  (seqM (ifM (S := Unit) (boolM (bind2 (bind2 (some p0) (some (.int 2)) idx) (some (.int 0)) eqS))
  (retM (tupM (consM (some d3) (consM (bind2 (some (.int 1000000000000)) (bind2 (some p0) (some (.int 3)) idx) subI) (some [])))))
  (some (.ok ()))) fun s5 =>
  retM (tupM (consM (some d3) (consM (bind2 (bind2 (some p0) (some (.int 1)) idx) (some (.int 1)) addI) (some [])))))
  (some (.ok ()))) fun s4 =>
  seqM (ifM (S := Unit) (boolM (bind2 (some d3) (some (.str "maps")) eqS))
  (retM (tupM (consM (some d3) (consM (bind2 (tupM (consM (some (.int 1)) (consM (some (.int 2)) (consM (some (.int 3)) (consM (some (.int 4)) (consM (some (.int 2)) (consM (some (.int 8)) (some [])))))))) (bind2 (some p0) (some (.int 1)) idx) idx) (some [])))))
  (some (.ok ()))) fun s6 =>
  seqM (ifM (S := Unit) (boolM (bind2 (some d3) (some (.str "grids")) eqS))
  (seqM (okM (bind2 (tupM (consM (some (.int 1)) (consM (some (.int 2)) (consM (some (.int 3)) (consM (some (.int 10)) (consM (some (.int 6)) (consM (bind2 (some (.int 1000000000000)) (bind2 (some p0) (some (.int 3)) idx) subI) (some [])))))))) (bind2 (some p0) (some (.int 2)) idx) idx)) fun d8 =>
  retM (tupM (consM (some d3) (consM (bind2 (tupM (consM (some (.int 1)) (consM (some (.int 2)) (consM (some (.int 3)) (consM (some (.int 2)) (consM (some (.int 2)) (consM (some (.int 1)) (some [])))))))) (bind2 (some p0) (some (.int 1)) idx) idx) (consM (some d8) (some []))))))
  (some (.ok ()))) fun s7 =>
  seqM (ifM (S := Unit) (boolM (bind2 (some d3) (some (.str "counts")) eqS))
  (retM (tupM (consM (some d3) (consM (bind2 (tupM (consM (some (.int 1)) (consM (some (.int 2)) (consM (some (.int 3)) (consM (some (.int 5)) (consM (some (.int 8)) (consM (some (.int 12)) (some [])))))))) (bind2 (some p0) (some (.int 1)) idx) idx) (some [])))))
  (some (.ok ()))) fun s9 =>
  retM (tupM (consM (some d3) (some [])))
def F_law_operation : List PyData → Option (Except Err PyData)
  | [p0] => runM (m_law_operation p0)
  | _ => none
def m_law_number (p0 p1 : PyData) : SM Unit :=
  seqM (okM (bind2 (bind2 (bind2 (some p0) (bind2 ((consM (bind2 (some p1) (some (.int 1)) addI) (some [])).bind int1) (some (.int 9)) modI) idx) (bind2 (some (.int 10)) (some (.int 12)) powI) mulI) (bind2 (some p0) (bind2 ((consM (bind2 (some p1) (some (.int 2)) addI) (some [])).bind int1) (some (.int 9)) modI) idx) addI)) fun d1 =>
  retM (bind2 (tupM (consM (bind2 ((consM (bind2 (some p0) (some p1) idx) (some [])).bind int1) (some (.int 5)) modI) (consM (bind2 (bind2 (bind2 (some p0) (some p1) idx) (bind2 (some (.int 10)) (some (.int 24)) powI) mulI) (some d1) addI) (some [])))) ((consM (bind2 (bind2 (some p0) (some (.int 9)) idx) (some (.int 3)) eqS) (some [])).bind int1) idx)
def F_law_number : List PyData → Option (Except Err PyData)
  | [p0, p1] => runM (m_law_number p0 p1)
  | _ => none
def m_law_value (p0 p1 : PyData) : SM Unit :=
  seqM (okM (bind2 (some p0) (some (.int 0)) idx)) fun d1 =>
  seqM (ifM (S := Unit) (orM (boolM (bind2 (some d1) (some (.str "sum")) eqS)) (boolM (bind2 (some d1) (some (.str "product")) eqS)))
  (retM (bind2 ((consM (bind2 (bind2 (bind2 (some p1) (some (.int 0)) idx) (some (.int 10000033)) mulI) (bind2 (some p1) (some (.int 1)) idx) addI) (some [])).bind int1) (bind2 (some p0) (some (.int 1)) idx) modI))
  (some (.ok ()))) fun s2 =>
  seqM (ifM (S := Unit) (boolM (bind2 (some d1) (some (.str "or")) eqS))
  (retM (fnP F_law_number 2 (consM (some p1) (consM (some (.int 0)) (some [])))))
  (some (.ok ()))) fun s3 =>
  seqM (ifM (S := Unit) (boolM (bind2 (some d1) (some (.str "maps")) eqS))
  (retM ((consM (lcM (rng1M (consM (bind2 (some p0) (some (.int 1)) idx) (some []))) (fun x5 => bind2 ((consM (bind2 (some p1) (some x5) idx) (some [])).bind int1) (bind2 (some p0) (some (.int 1)) idx) modI)) (some [])).bind tupD))
  (some (.ok ()))) fun s4 =>
  seqM (ifM (S := Unit) (boolM (bind2 (some d1) (some (.str "grids")) eqS))
  (seqM (okM (lcM (rng1M (consM (bind2 (bind2 (some p0) (some (.int 1)) idx) (bind2 (some p0) (some (.int 1)) idx) mulI) (some []))) (fun x8 => bind2 ((consM (bind2 (bind2 (bind2 (some p1) (some x8) idx) (some (.int 10000033)) mulI) (bind2 (bind2 (some p1) (some x8) idx) (some (.int 7)) fdivI) addI) (some [])).bind int1) (bind2 (some p0) (some (.int 2)) idx) modI))) fun d7 =>
  retM ((consM (lcM (rng1M (consM (bind2 (some p0) (some (.int 1)) idx) (some []))) (fun x9 => (consM (slcM (some d7) (partM (bind2 (some x9) (bind2 (some p0) (some (.int 1)) idx) mulI)) (partM (bind2 (bind2 (some x9) (bind2 (some p0) (some (.int 1)) idx) mulI) (bind2 (some p0) (some (.int 1)) idx) addI)) slcL) (some [])).bind tupD)) (some [])).bind tupD))
  (some (.ok ()))) fun s6 =>
  seqM (ifM (S := Unit) (boolM (bind2 (some d1) (some (.str "brackets")) eqS))
  (retM (tupM (consM (fnP F_law_number 2 (consM (some p1) (consM (some (.int 0)) (some [])))) (consM (fnP F_law_number 2 (consM (some p1) (consM (some (.int 4)) (some [])))) (some [])))))
  (some (.ok ()))) fun s10 =>
  seqM (ifM (S := Unit) (boolM (bind2 (some d1) (some (.str "spans")) eqS))
  (seqM (ifM (S := Unit) (boolM (bind2 (bind2 ((consM (bind2 (some p1) (some (.int 8)) idx) (some [])).bind int1) (some (.int 7)) modI) (some (.int 0)) eqS))
  (retM (some .none))
  (some (.ok ()))) fun s12 =>
  retM (tupM (consM (fnP F_law_number 2 (consM (some p1) (consM (some (.int 0)) (some [])))) (consM (bind2 (bind2 (fnP F_law_number 2 (consM (some p1) (consM (some (.int 0)) (some [])))) (some (.int 1)) addI) (bind2 ((consM (bind2 (some p1) (some (.int 5)) idx) (some [])).bind int1) (some (.int 3)) modI) addI) (some [])))))
  (some (.ok ()))) fun s11 =>
  seqM (ifM (S := Unit) (boolM (bind2 (some d1) (some (.str "counts")) eqS))
  (retM ((consM (lcM (rng1M (consM (bind2 (some p0) (some (.int 1)) idx) (some []))) (fun x14 => fnP F_law_number 2 (consM (some p1) (consM (bind2 ((consM (some x14) (some [])).bind int1) (some (.int 9)) modI) (some []))))) (some [])).bind tupD))
  (some (.ok ()))) fun s13 =>
  retM (bind2 (fnP F_law_number 2 (consM (some p1) (consM (some (.int 0)) (some [])))) (bind2 (some (.int 1)) (bind2 (some (.int 2)) (bind2 ((consM (bind2 (some p1) (some (.int 8)) idx) (some [])).bind int1) (some (.int 2)) modI) mulI) subI) mulI)
def F_law_value : List PyData → Option (Except Err PyData)
  | [p0, p1] => runM (m_law_value p0 p1)
  | _ => none
def needV (s : Str) : PyData := if s = "sum" then .int 1 else if s = "product" then .int 1 else if s = "maps" then .int 1 else if s = "counts" then .int 1 else if s = "grids" then .int 2 else .none
def needD : PyData → Option PyData
  | .str s => if (["most", "least", "first", "last", "or", "brackets", "spans"] : List Str).contains s = true then some (.int 0) else some (needV s)
  | _ => none
def F_law_need : List PyData → Option (Except Err PyData)
  | [p0] => (needD p0).map .ok
  | _ => none
def m_law_figures (p0 : PyData) : SM Unit :=
  seqM (forM (S := Unit) (signM (some p0)) (fun s1 x2 =>
  seqM (ifM (S := Unit) (boolM (bind2 (some x2) (some (.str "0123456789")) ninS))
  (retM (some (.bool false)))
  (some (.ok ()))) fun s3 =>
  some (.ok ())) ()) fun s4 =>
  retM (andD (bind2 ((consM (some p0) (some [])).bind lenD) (some (.int 0)) gtI) (orD (bind2 (some p0) (some (.str "0")) eqS) (bind2 (bind2 (some p0) (some (.int 0)) idx) (some (.str "0")) neS)))
def F_law_figures : List PyData → Option (Except Err PyData)
  | [p0] => runM (m_law_figures p0)
  | _ => none
def m_law_no (p0 : PyData) : SM Unit :=
  retM (tupM (consM (some (.str "text")) (consM (some (.int 0)) (consM (some p0) (consM (some (.bool true)) (some []))))))
def F_law_no : List PyData → Option (Except Err PyData)
  | [p0] => runM (m_law_no p0)
  | _ => none
def m_law_operation_due (p0 : PyData) : SM Unit :=
  seqM (okM (bind2 (some p0) (some (.str " ")) splitD)) fun d1 =>
  seqM (okM (fnP F_law_need 1 (consM (bind2 (some d1) (some (.int 0)) idx) (some [])))) fun d2 =>
  seqM (ifM (S := Unit) (boolM (bind2 (some d2) (some .none) isN))
  (retM (fnP F_law_no 1 (consM (some (.int 0)) (some []))))
  (some (.ok ()))) fun s3 =>
  seqM (forM (S := Unit) (rng2M (consM (some (.int 1)) (consM ((consM (some d1) (some [])).bind lenD) (some [])))) (fun s4 x5 =>
  seqM (ifM (S := Unit) (orM (boolM (bind2 (some x5) (some d2) gtI)) (orM (notM (boolM (fnP F_law_figures 1 (consM (bind2 (some d1) (some x5) idx) (some []))))) (boolM (bind2 (bind2 (some d1) (some x5) idx) (some (.str "0")) eqS))))
  (retM (fnP F_law_no 1 (consM (some x5) (some []))))
  (some (.ok ()))) fun s6 =>
  some (.ok ())) ()) fun s7 =>
  seqM (ifM (S := Unit) (boolM (bind2 ((consM (some d1) (some [])).bind lenD) (some d2) leI))
  (retM (fnP F_law_no 1 (consM ((consM (some d1) (some [])).bind lenD) (some []))))
  (some (.ok ()))) fun s8 =>
  retM (tupM (consM (some (.str "ok")) (consM ((consM (bind2 (slcM (some d1) (some none) (partM (some (.int 1))) slcL) (lcM (listM (slcM (some d1) (partM (some (.int 1))) (some none) slcL)) (fun x9 => (consM (some x9) (some [])).bind intS)) catL) (some [])).bind tupD) (some []))))
def F_law_operation_due : List PyData → Option (Except Err PyData)
  | [p0] => runM (m_law_operation_due p0)
  | _ => none
def m_law_many (p0 : PyData) : SM Unit :=
  seqM (ifM (S := Unit) (orM (boolM (bind2 (bind2 (some p0) (some (.int 0)) idx) (some (.str "maps")) eqS)) (boolM (bind2 (bind2 (some p0) (some (.int 0)) idx) (some (.str "counts")) eqS)))
  (retM (bind2 (some p0) (some (.int 1)) idx))
  (some (.ok ()))) fun s1 =>
  seqM (ifM (S := Unit) (boolM (bind2 (bind2 (some p0) (some (.int 0)) idx) (some (.str "grids")) eqS))
  (retM (bind2 (bind2 (some p0) (some (.int 1)) idx) (bind2 (some p0) (some (.int 1)) idx) mulI))
  (some (.ok ()))) fun s2 =>
  retM (bind2 (some (.int 1)) ((consM (orD (bind2 (bind2 (some p0) (some (.int 0)) idx) (some (.str "brackets")) eqS) (bind2 (bind2 (some p0) (some (.int 0)) idx) (some (.str "spans")) eqS)) (some [])).bind int1) addI)
def F_law_many : List PyData → Option (Except Err PyData)
  | [p0] => runM (m_law_many p0)
  | _ => none
def m_law_value_due (p0 p1 : PyData) : SM Unit :=
  seqM (okM (bind2 (some p1) (some (.str " ")) splitD)) fun d1 =>
  seqM (ifM (S := Unit) (andM (boolM (bind2 (bind2 (some p0) (some (.int 0)) idx) (some (.str "spans")) eqS)) (boolM (bind2 (bind2 (some d1) (some (.int 0)) idx) (some (.str "nought")) eqS)))
  (retM (bind2 (tupM (consM (tupM (consM (some (.str "ok")) (consM (some .none) (some [])))) (consM (fnP F_law_no 1 (consM (some (.int 1)) (some []))) (some [])))) ((consM (bind2 ((consM (some d1) (some [])).bind lenD) (some (.int 1)) gtI) (some [])).bind int1) idx))
  (some (.ok ()))) fun s2 =>
  seqM (okM ((some []).bind fun ds => if ds.length ≤ 100000 then some ds else none)) fun l3 =>
  seqM (forM (S := List PyData) (rng1M (consM ((consM (some d1) (some [])).bind lenD) (some []))) (fun s4 x5 =>
  seqM (okM (bind2 (some d1) (some x5) idx)) fun d6 =>
  seqM (ifM (S := PyData) (andM (boolM (bind2 (bind2 (some p0) (some (.int 0)) idx) (tupM (consM (some (.str "most")) (consM (some (.str "least")) (consM (some (.str "first")) (consM (some (.str "last")) (some [])))))) inT)) (andM (boolM (bind2 (slcM (some d6) (some none) (partM (some (.int 1))) slcS) (some (.str "-")) eqS)) (boolM (bind2 (some d6) (some (.str "-0")) neS))))
  (seqM (okM (slcM (some d6) (partM (some (.int 1))) (some none) slcS)) fun d8 =>
  some (.ok d8))
  (some (.ok d6))) fun s7 =>
  seqM (ifM (S := Unit) (orM (boolM (bind2 (some x5) (fnP F_law_many 1 (consM (some p0) (some []))) geI)) (notM (boolM (fnP F_law_figures 1 (consM (some s7) (some []))))))
  (retM (fnP F_law_no 1 (consM (some x5) (some []))))
  (some (.ok ()))) fun s9 =>
  seqM (ifM (S := Unit) (andM (boolM (bind2 (bind2 (some p0) (some (.int 0)) idx) (tupM (consM (some (.str "sum")) (consM (some (.str "product")) (consM (some (.str "maps")) (consM (some (.str "grids")) (some [])))))) inT)) (boolM (bind2 ((consM (some s7) (some [])).bind intS) (bind2 (some p0) ((some (.int 1)).bind negI) idx) geI)))
  (retM (fnP F_law_no 1 (consM (some x5) (some []))))
  (some (.ok ()))) fun s10 =>
  seqM (ifM (S := Unit) (andM (boolM (bind2 (bind2 (some p0) (some (.int 0)) idx) (some (.str "spans")) eqS)) (andM (boolM (bind2 (some x5) (some (.int 1)) eqS)) (boolM (bind2 ((consM (some s7) (some [])).bind intS) (bind2 (some (.list s4)) (some (.int 0)) idx) leI))))
  (retM (fnP F_law_no 1 (consM (some x5) (some []))))
  (some (.ok ()))) fun s11 =>
  seqM (okM (((consM (bind2 (some d1) (some x5) idx) (some [])).bind intS).bind fun d => if (s4).length < 100000 then some (s4 ++ [d]) else none)) fun l12 =>
  some (.ok l12)) l3) fun s13 =>
  seqM (ifM (S := Unit) (boolM (bind2 ((consM (some (.list s13)) (some [])).bind lenD) (fnP F_law_many 1 (consM (some p0) (some []))) ltI))
  (retM (fnP F_law_no 1 (consM ((consM (some (.list s13)) (some [])).bind lenD) (some []))))
  (some (.ok ()))) fun s14 =>
  seqM (ifM (S := Unit) (boolM (bind2 (bind2 (some p0) (some (.int 0)) idx) (some (.str "grids")) eqS))
  (retM (tupM (consM (some (.str "ok")) (consM ((consM (lcM (rng1M (consM (bind2 (some p0) (some (.int 1)) idx) (some []))) (fun x16 => (consM (slcM (some (.list s13)) (partM (bind2 (some x16) (bind2 (some p0) (some (.int 1)) idx) mulI)) (partM (bind2 (bind2 (some x16) (bind2 (some p0) (some (.int 1)) idx) mulI) (bind2 (some p0) (some (.int 1)) idx) addI)) slcL) (some [])).bind tupD)) (some [])).bind tupD) (some [])))))
  (some (.ok ()))) fun s15 =>
  retM (tupM (consM (some (.str "ok")) (consM (bind2 (tupM (consM (bind2 (some (.list s13)) (some (.int 0)) idx) (consM ((consM (some (.list s13)) (some [])).bind tupD) (some [])))) ((consM (bind2 (bind2 (some p0) (some (.int 0)) idx) (tupM (consM (some (.str "maps")) (consM (some (.str "counts")) (consM (some (.str "brackets")) (consM (some (.str "spans")) (some [])))))) inT) (some [])).bind int1) idx) (some []))))
def F_law_value_due : List PyData → Option (Except Err PyData)
  | [p0, p1] => runM (m_law_value_due p0 p1)
  | _ => none
def m_law_value_line (p0 : PyData) : SM Unit :=
  seqM (ifM (S := Unit) (boolM (bind2 (some p0) (some .none) isN))
  (retM (some (.str "nought")))
  (some (.ok ()))) fun s1 =>
  seqM (ifM (S := Unit) (boolM (fnP F_law_int 1 (consM (some p0) (some []))))
  (retM ((consM (some p0) (some [])).bind strD))
  (some (.ok ()))) fun s2 =>
  seqM (okM ((some []).bind fun ds => if ds.length ≤ 100000 then some ds else none)) fun l3 =>
  seqM (forM (S := List PyData) (tupleM (some p0)) (fun s4 x5 =>
  seqM (ifM (S := List PyData) (boolM ((some x5).bind (isiD "tuple")))
  (seqM (okM (((consM (some x5) (some [])).bind lstD).bind fun d => match d with | .list es => if (s4).length + es.length ≤ 100000 then some (s4 ++ es) else none | _ => none)) fun l7 =>
  some (.ok l7))
  (seqM (okM ((some x5).bind fun d => if (s4).length < 100000 then some (s4 ++ [d]) else none)) fun l8 =>
  some (.ok l8))) fun s6 =>
  some (.ok s6)) l3) fun s9 =>
  retM (bind2 (some (.str " ")) (lcM (listM (some (.list s9))) (fun x10 => (consM (some x10) (some [])).bind strD)) joinD)
def F_law_value_line : List PyData → Option (Except Err PyData)
  | [p0] => runM (m_law_value_line p0)
  | _ => none
def m_law_events (p0 : PyData) : SM Unit :=
  seqM (okM ((some []).bind fun ds => if ds.length ≤ 100000 then some ds else none)) fun l1 =>
  seqM (okM (some (.int 0))) fun d2 =>
  seqM (forM (S := List PyData × PyData) (rng1M (consM (bind2 (some p0) (some (.int 0)) idx) (some []))) (fun s3 x4 =>
  seqM (okM (bind2 ((consM (bind2 (some p0) (bind2 (some (.int 1)) (some x4) addI) idx) (some [])).bind int1) (some (.int 3)) modI)) fun d5 =>
  seqM (okM (bind2 (some (.int 1)) (bind2 ((consM (bind2 (bind2 (some p0) (bind2 (some (.int 1)) (some x4) addI) idx) (some (.int 3)) fdivI) (some [])).bind int1) (bind2 (some (.int 4)) (bind2 (some (.int 36)) ((consM (bind2 (bind2 (some p0) (some (.int 0)) idx) (some (.int 5)) eqS) (some [])).bind int1) mulI) addI) modI) addI)) fun d6 =>
  seqM (ifM (S := List PyData × PyData) (andM (boolM (bind2 (some d5) (some (.int 1)) eqS)) (boolM (bind2 (some s3.2) (some (.int 0)) gtI)))
  (seqM (okM ((tupM (consM (some (.str "drop")) (consM ((consM (some d6) (consM (some s3.2) (some []))).bind min2) (some [])))).bind fun d => if (s3.1).length < 100000 then some (s3.1 ++ [d]) else none)) fun l8 =>
  seqM (okM (bind2 (some s3.2) ((consM (some d6) (consM (some s3.2) (some []))).bind min2) subI)) fun d9 =>
  some (.ok (l8, d9)))
  (seqM (ifM (S := List PyData × PyData) (orM (boolM (bind2 (some d5) (some (.int 2)) eqS)) (boolM (bind2 (some s3.2) (some (.int 90)) gtI)))
  (seqM (okM ((tupM (consM (some (.str "ask")) (some []))).bind fun d => if (s3.1).length < 100000 then some (s3.1 ++ [d]) else none)) fun l11 =>
  some (.ok (l11, s3.2)))
  (seqM (okM ((tupM (consM (some (.str "put")) (consM (some d6) (some [])))).bind fun d => if (s3.1).length < 100000 then some (s3.1 ++ [d]) else none)) fun l12 =>
  seqM (okM (bind2 (some s3.2) (some d6) addI)) fun d13 =>
  some (.ok (l12, d13)))) fun s10 =>
  some (.ok (s10.1, s10.2)))) fun s7 =>
  some (.ok (s7.1, s7.2))) (l1, d2)) fun s14 =>
  retM ((consM (some (.list s14.1)) (some [])).bind tupD)
def F_law_events : List PyData → Option (Except Err PyData)
  | [p0] => runM (m_law_events p0)
  | _ => none
def m_law_row (p0 : PyData) : SM Unit :=
  seqM (okM ((some []).bind fun ds => if ds.length ≤ 100000 then some ds else none)) fun l1 =>
  seqM (forM (S := List PyData) (rng1M (consM (bind2 (some p0) (some (.int 0)) idx) (some []))) (fun s2 x3 =>
  seqM (okM (bind2 ((consM (bind2 (some p0) (bind2 (some (.int 1)) (bind2 (some (.int 2)) (some x3) mulI) addI) idx) (some [])).bind int1) (bind2 (some (.int 6)) (bind2 (some (.int 84)) ((consM (bind2 (bind2 (some p0) (some (.int 0)) idx) (some (.int 5)) eqS) (some [])).bind int1) mulI) addI) modI)) fun d4 =>
  seqM (okM (tupM (consM (some d4) (consM (bind2 (bind2 (some d4) (some (.int 1)) addI) (bind2 ((consM (bind2 (some p0) (bind2 (some (.int 2)) (bind2 (some (.int 2)) (some x3) mulI) addI) idx) (some [])).bind int1) (some (.int 12)) modI) addI) (some []))))) fun d5 =>
  seqM (ifM (S := List PyData) (boolM (bind2 (some d5) (some (.list s2)) ninD))
  (seqM (okM ((some d5).bind fun d => if (s2).length < 100000 then some (s2 ++ [d]) else none)) fun l7 =>
  some (.ok l7))
  (some (.ok s2))) fun s6 =>
  some (.ok s6)) l1) fun s8 =>
  retM ((consM ((consM (some (.list s8)) (some [])).bind sortD) (some [])).bind tupD)
def F_law_row : List PyData → Option (Except Err PyData)
  | [p0] => runM (m_law_row p0)
  | _ => none
def m_law_asks_line (p0 : PyData) : SM Unit :=
  retM (bind2 (some (.str " ")) (bind2 (lcM (tupleM (some p0)) (fun x1 => bind2 (bind2 ((consM (bind2 (some x1) (some (.int 0)) idx) (some [])).bind strD) (some (.str "-")) addS) ((consM (bind2 (some x1) (some (.int 1)) idx) (some [])).bind strD) addS)) (bind2 (lstM (consM (some (.str "-")) (some []))) ((consM (bind2 ((consM (some p0) (some [])).bind lenD) (some (.int 0)) eqS) (some [])).bind int1) repL) catL) joinD)
def F_law_asks_line : List PyData → Option (Except Err PyData)
  | [p0] => runM (m_law_asks_line p0)
  | _ => none
def m_law_history_line (p0 : PyData) : SM Unit :=
  seqM (okM ((some []).bind fun ds => if ds.length ≤ 100000 then some ds else none)) fun l1 =>
  seqM (forM (S := List PyData) (tupleM (some p0)) (fun s2 x3 =>
  seqM (okM ((bind2 (some (.str " ")) (lcM (tupleM (some x3)) (fun x4 => (consM (some x4) (some [])).bind strD)) joinD).bind fun d => if (s2).length < 100000 then some (s2 ++ [d]) else none)) fun l5 =>
  some (.ok l5)) l1) fun s6 =>
  retM (bind2 (some (.str "; ")) (bind2 (some (.list s6)) (bind2 (lstM (consM (some (.str "-")) (some []))) ((consM (bind2 ((consM (some (.list s6)) (some [])).bind lenD) (some (.int 0)) eqS) (some [])).bind int1) repL) catL) joinD)
def F_law_history_line : List PyData → Option (Except Err PyData)
  | [p0] => runM (m_law_history_line p0)
  | _ => none
def m_law_asks_due (p0 : PyData) : SM Unit :=
  seqM (okM (bind2 (some p0) (some (.str " ")) splitD)) fun d1 =>
  seqM (ifM (S := Unit) (boolM (bind2 (bind2 (some d1) (some (.int 0)) idx) (some (.str "-")) eqS))
  (retM (bind2 (tupM (consM (tupM (consM (some (.str "ok")) (consM (tupM (some [])) (some [])))) (consM (fnP F_law_no 1 (consM (some (.int 1)) (some []))) (some [])))) ((consM (bind2 ((consM (some d1) (some [])).bind lenD) (some (.int 1)) gtI) (some [])).bind int1) idx))
  (some (.ok ()))) fun s2 =>
  seqM (okM ((consM (tupM (consM ((some (.int 1)).bind negI) (consM ((some (.int 1)).bind negI) (some [])))) (some [])).bind fun ds => if ds.length ≤ 100000 then some ds else none)) fun l3 =>
  seqM (forM (S := List PyData) (rng1M (consM ((consM (some d1) (some [])).bind lenD) (some []))) (fun s4 x5 =>
  seqM (okM (bind2 (bind2 (some d1) (some x5) idx) (some (.str "-")) splitD)) fun d6 =>
  seqM (ifM (S := Unit) (orM (boolM (bind2 ((consM (some d6) (some [])).bind lenD) (some (.int 2)) neS)) (orM (notM (boolM (fnP F_law_figures 1 (consM (bind2 (some d6) (some (.int 0)) idx) (some []))))) (notM (boolM (fnP F_law_figures 1 (consM (bind2 (some d6) (some (.int 1)) idx) (some [])))))))
  (retM (fnP F_law_no 1 (consM (some x5) (some []))))
  (some (.ok ()))) fun s7 =>
  seqM (okM (tupM (consM ((consM (bind2 (some d6) (some (.int 0)) idx) (some [])).bind intS) (consM ((consM (bind2 (some d6) (some (.int 1)) idx) (some [])).bind intS) (some []))))) fun d8 =>
  seqM (ifM (S := Unit) (orM (boolM (bind2 (bind2 (some d8) (some (.int 0)) idx) (bind2 (some d8) (some (.int 1)) idx) geI)) (boolM (bind2 (some d8) (bind2 (some (.list s4)) ((some (.int 1)).bind negI) idx) leT)))
  (retM (fnP F_law_no 1 (consM (some x5) (some []))))
  (some (.ok ()))) fun s9 =>
  seqM (okM ((some d8).bind fun d => if (s4).length < 100000 then some (s4 ++ [d]) else none)) fun l10 =>
  some (.ok l10)) l3) fun s11 =>
  retM (tupM (consM (some (.str "ok")) (consM ((consM (slcM (some (.list s11)) (partM (some (.int 1))) (some none) slcL) (some [])).bind tupD) (some []))))
def F_law_asks_due : List PyData → Option (Except Err PyData)
  | [p0] => runM (m_law_asks_due p0)
  | _ => none
def m_law_history_due (p0 : PyData) : SM Unit :=
  seqM (okM (bind2 (some p0) (some (.str " ")) splitD)) fun d1 =>
  seqM (ifM (S := Unit) (boolM (bind2 (bind2 (some d1) (some (.int 0)) idx) (some (.str "-")) eqS))
  (retM (bind2 (tupM (consM (tupM (consM (some (.str "ok")) (consM (tupM (some [])) (some [])))) (consM (fnP F_law_no 1 (consM (some (.int 1)) (some []))) (some [])))) ((consM (bind2 ((consM (some d1) (some [])).bind lenD) (some (.int 1)) gtI) (some [])).bind int1) idx))
  (some (.ok ()))) fun s2 =>
  seqM (okM (some (.int 0))) fun d3 =>
  seqM (okM (some (.str "word"))) fun d4 =>
  seqM (okM ((some []).bind fun ds => if ds.length ≤ 100000 then some ds else none)) fun l5 =>
  seqM (forM (S := PyData × List PyData × PyData) (rng1M (consM ((consM (some d1) (some [])).bind lenD) (some []))) (fun s6 x7 =>
  seqM (okM ((bind2 (some d1) (some x7) idx).bind (replD ";" ""))) fun d8 =>
  seqM (ifM (S := Unit) (orM (boolM (bind2 (some s6.1) (some (.str "end")) eqS)) (boolM (bind2 (bind2 (some d1) (some x7) idx) (tupM (consM (some d8) (consM (bind2 (some d8) (some (.str ";")) addS) (some [])))) ninT)))
  (retM (fnP F_law_no 1 (consM (some x7) (some []))))
  (some (.ok ()))) fun s9 =>
  seqM (ifM (S := PyData × List PyData × PyData) (boolM (bind2 (some s6.1) (some (.str "word")) eqS))
  (seqM (ifM (S := PyData × List PyData) (orM (boolM (bind2 (bind2 (some d1) (some x7) idx) (some (.str "put")) eqS)) (andM (boolM (bind2 (bind2 (some d1) (some x7) idx) (some (.str "drop")) eqS)) (boolM (bind2 (some s6.2.2) (some (.int 0)) gtI))))
  (seqM (okM (some d8)) fun d12 =>
  some (.ok (d12, s6.2.1)))
  (seqM (ifM (S := List PyData × PyData) (boolM (bind2 (some d8) (some (.str "ask")) eqS))
  (seqM (okM ((tupM (consM (some (.str "ask")) (some []))).bind fun d => if (s6.2.1).length < 100000 then some (s6.2.1 ++ [d]) else none)) fun l14 =>
  seqM (okM (bind2 (tupM (consM (some (.str "end")) (consM (some (.str "word")) (some [])))) ((consM (bind2 (bind2 (some d1) (some x7) idx) (some (.str "ask;")) eqS) (some [])).bind int1) idx)) fun d15 =>
  some (.ok (l14, d15)))
  (retM (fnP F_law_no 1 (consM (some x7) (some []))))) fun s13 =>
  some (.ok (s13.2, s13.1)))) fun s11 =>
  some (.ok (s11.1, s11.2, s6.2.2)))
  (seqM (ifM (S := Unit) (orM (notM (boolM (fnP F_law_figures 1 (consM (some d8) (some []))))) (orM (boolM (bind2 (some d8) (some (.str "0")) eqS)) (andM (boolM (bind2 (some s6.1) (some (.str "drop")) eqS)) (boolM (bind2 ((consM (some d8) (some [])).bind intS) (some s6.2.2) gtI)))))
  (retM (fnP F_law_no 1 (consM (some x7) (some []))))
  (some (.ok ()))) fun s16 =>
  seqM (okM ((tupM (consM (some s6.1) (consM ((consM (some d8) (some [])).bind intS) (some [])))).bind fun d => if (s6.2.1).length < 100000 then some (s6.2.1 ++ [d]) else none)) fun l17 =>
  seqM (okM (bind2 (some s6.2.2) (bind2 ((consM (some d8) (some [])).bind intS) (bind2 (some (.int 1)) (bind2 (some (.int 2)) ((consM (bind2 (some s6.1) (some (.str "drop")) eqS) (some [])).bind int1) mulI) subI) mulI) addI)) fun d18 =>
  seqM (okM (bind2 (tupM (consM (some (.str "end")) (consM (some (.str "word")) (some [])))) ((consM (bind2 (bind2 (some d1) (some x7) idx) (bind2 (some d8) (some (.str ";")) addS) eqS) (some [])).bind int1) idx)) fun d19 =>
  some (.ok (d19, l17, d18)))) fun s10 =>
  some (.ok (s10.1, s10.2.1, s10.2.2))) (d4, l5, d3)) fun s20 =>
  seqM (ifM (S := Unit) (boolM (bind2 (some s20.1) (some (.str "end")) eqS))
  (retM (tupM (consM (some (.str "ok")) (consM ((consM (some (.list s20.2.1)) (some [])).bind tupD) (some [])))))
  (some (.ok ()))) fun s21 =>
  retM (fnP F_law_no 1 (consM ((consM (some d1) (some [])).bind lenD) (some [])))
def F_law_history_due : List PyData → Option (Except Err PyData)
  | [p0] => runM (m_law_history_due p0)
  | _ => none
def m_law_due (p0 p1 p2 : PyData) : SM Unit :=
  seqM (ifM (S := Unit) (boolM (bind2 (some p0) (some (.str "read_operation")) eqS))
  (retM (fnP F_law_operation_due 1 (consM (some p2) (some []))))
  (some (.ok ()))) fun s1 =>
  seqM (ifM (S := Unit) (boolM (bind2 (some p0) (some (.str "read_value")) eqS))
  (retM (fnP F_law_value_due 2 (consM (some p1) (consM (some p2) (some [])))))
  (some (.ok ()))) fun s2 =>
  seqM (ifM (S := Unit) (boolM (bind2 (some p0) (some (.str "read_asks")) eqS))
  (retM (fnP F_law_asks_due 1 (consM (some p2) (some []))))
  (some (.ok ()))) fun s3 =>
  retM (fnP F_law_history_due 1 (consM (some p2) (some [])))
def F_law_due : List PyData → Option (Except Err PyData)
  | [p0, p1, p2] => runM (m_law_due p0 p1 p2)
  | _ => none
def retX (m : Option (Except Err PyData)) : SM Unit := m.map fun r => match r with
  | .ok d => .error (.rt (.tuple [.str "ok", d]))
  | .error e => .error (.er e)
def fnO (F : List PyData → Option (Except Err PyData)) (n : Nat) (m : Option (List PyData)) : Option (Except Err PyData) := m.bind fun ds => if ds.length = n then F ds else none
def m_law_call (p0 p1 p2 : PyData) : SM Unit :=
  seqM (ifM (boolM (bind2 (some p0) (some (.str "operation_line")) eqS)) (retX (fnK F_operation_line 1 1 pmId (consM (some p2) (some [])))) (some (.ok ()))) fun s1 =>
  seqM (ifM (boolM (bind2 (some p0) (some (.str "value_line")) eqS)) (retX (fnO F_value_line 2 (consM (some p1) (consM (some p2) (some []))))) (some (.ok ()))) fun s2 =>
  seqM (ifM (boolM (bind2 (some p0) (some (.str "asks_line")) eqS)) (retX (fnK F_asks_line 1 1 pmId (consM (some p2) (some [])))) (some (.ok ()))) fun s3 =>
  seqM (ifM (boolM (bind2 (some p0) (some (.str "history_line")) eqS)) (retX (fnK F_history_line 1 1 pmId (consM (some p2) (some [])))) (some (.ok ()))) fun s4 =>
  seqM (ifM (boolM (bind2 (some p0) (some (.str "read_operation")) eqS)) (retX (fnK F_read_operation 1 1 pmId (consM (some p2) (some [])))) (some (.ok ()))) fun s5 =>
  seqM (ifM (boolM (bind2 (some p0) (some (.str "read_value")) eqS)) (retX (fnO F_read_value 2 (consM (some p1) (consM (some p2) (some []))))) (some (.ok ()))) fun s6 =>
  seqM (ifM (boolM (bind2 (some p0) (some (.str "read_asks")) eqS)) (retX (fnK F_read_asks 1 1 pmId (consM (some p2) (some [])))) (some (.ok ()))) fun s7 =>
  retX (fnK F_read_history 1 1 pmId (consM (some p2) (some [])))
def F_law_call : List PyData → Option (Except Err PyData)
  | [p0, p1, p2] => (m_law_call p0 p1 p2).bind fun r => match r with
    | .error (.rt d) => some (.ok d)
    | .error (.er e) => match e.c with
      | .usable => some (.ok (.tuple [.str "no", e.a, e.b, .bool true]))
      | .text => some (.ok (.tuple [.str "text", e.a, e.b, .bool true]))
      | .paper => none
    | .ok _ => none
  | _ => none
def m_law_words (p0 : PyData) : SM Unit :=
  seqM (ifM (S := Unit) (boolM (bind2 (some p0) (some (.str "read_operation")) eqS))
  (seqM (okM (tupM (consM (some (.str "00")) (consM (some (.str "07")) (consM (some (.str "-1")) (consM (some (.str "+1")) (consM (some (.str "0")) (consM (some (.str "1x")) (consM (some (.str "x")) (consM (some (.str "")) (consM (some (.str "1")) (consM (some (.str "2")) (consM (some (.str "-")) (consM (some (.str "sum")) (consM (some (.str "most")) (consM (some (.str "spans")) (consM (some (.str "Sum")) (consM (some (.str "grids")) (consM (some (.str "1;")) (some [])))))))))))))))))))) fun d2 =>
  retM (lstM (consM (some d2) (consM (tupM (consM (some (.str "maps")) (consM (some (.str "grids 2")) (consM (some (.str "grids 2 x")) (consM (some (.str "sum 0")) (consM (some (.str "Sum 1")) (consM (some (.str "most 1")) (consM (some (.str "grids 0 0")) (consM (some (.str "spans")) (consM (some (.str "counts 2 2")) (some []))))))))))) (some [])))))
  (some (.ok ()))) fun s1 =>
  seqM (ifM (S := Unit) (boolM (bind2 (some p0) (some (.str "read_value")) eqS))
  (seqM (okM (tupM (consM (some (.str "00")) (consM (some (.str "07")) (consM (some (.str "-0")) (consM (some (.str "+1")) (consM (some (.str "-1")) (consM (some (.str "0")) (consM (some (.str "1x")) (consM (some (.str "x")) (consM (some (.str "")) (consM (some (.str "nought")) (consM (some (.str "1")) (consM (some (.str "2")) (consM (some (.str "-")) (consM (some (.str "--1")) (consM (some (.str "-01")) (consM (some (.str "9999999999999")) (some []))))))))))))))))))) fun d4 =>
  retM (lstM (consM (some d4) (consM (tupM (consM (some (.str "nought")) (consM (some (.str "nought 1")) (consM (some (.str "3 2")) (consM (some (.str "2 3")) (consM (some (.str "2")) (consM (some (.str "-")) (consM (some (.str "0")) (consM (some (.str "-0")) (consM (some (.str "0 0")) (consM (some (.str "1 1 1")) (some [])))))))))))) (some [])))))
  (some (.ok ()))) fun s3 =>
  seqM (ifM (S := Unit) (boolM (bind2 (some p0) (some (.str "read_asks")) eqS))
  (seqM (okM (tupM (consM (some (.str "3-3")) (consM (some (.str "4-2")) (consM (some (.str "03-5")) (consM (some (.str "3-05")) (consM (some (.str "+1-2")) (consM (some (.str "1--2")) (consM (some (.str "1-2-3")) (consM (some (.str "a-b")) (consM (some (.str "-1-2")) (consM (some (.str "1-")) (consM (some (.str "-3")) (consM (some (.str "")) (consM (some (.str "-")) (consM (some (.str "3")) (consM (some (.str "5-7")) (consM (some (.str "0-1")) (some []))))))))))))))))))) fun d6 =>
  retM (lstM (consM (some d6) (consM (tupM (consM (some (.str "0-3 1-4 1-4")) (consM (some (.str "1-4 0-3")) (consM (some (.str "- 0-3")) (consM (some (.str "0-3 -")) (consM (some (.str "0-0")) (consM (some (.str "119-120")) (consM (some (.str "0-3 1-4;")) (consM (some (.str "0-9 0-10")) (consM (some (.str "0-10 0-9")) (some []))))))))))) (some [])))))
  (some (.ok ()))) fun s5 =>
  seqM (okM (tupM (consM (some (.str "put")) (consM (some (.str "put 0;")) (consM (some (.str "put 3;")) (consM (some (.str "ask")) (consM (some (.str "ask;")) (consM (some (.str "drop")) (consM (some (.str "drop 1;")) (consM (some (.str "drop 2")) (consM (some (.str "drop 40;")) (consM (some (.str "Put")) (consM (some (.str "ask;;")) (consM (some (.str ";")) (consM (some (.str "")) (consM (some (.str "40")) (some []))))))))))))))))) fun d7 =>
  seqM (okM (bind2 (some d7) (tupM (consM (some (.str "put 03;")) (consM (some (.str "put -1;")) (consM (some (.str "put +2;")) (consM (some (.str "put 1")) (consM (some (.str "-")) (consM (some (.str "1")) (consM (some (.str "2;")) (consM (some (.str "0")) (consM (some (.str "ask; -")) (consM (some (.str "puts")) (some [])))))))))))) catT)) fun d8 =>
  seqM (okM (tupM (consM (some (.str "drop 1")) (consM (some (.str "put 1; drop 2")) (consM (some (.str "put 1; drop 1; drop 1")) (consM (some (.str "put 2;")) (consM (some (.str "ask ask")) (consM (some (.str "ask;")) (consM (some (.str "- ask")) (consM (some (.str "put 1; put")) (consM (some (.str "put")) (some [])))))))))))) fun d9 =>
  retM (lstM (consM (some d8) (consM (some d9) (some []))))
def F_law_words : List PyData → Option (Except Err PyData)
  | [p0] => runM (m_law_words p0)
  | _ => none
def m_law_spoilt (p0 p1 p2 : PyData) : SM Unit :=
  seqM (okM (bind2 (some p0) (some (.str " ")) splitD)) fun d1 =>
  seqM (okM (bind2 ((consM (some p1) (some [])).bind int1) ((consM (some d1) (some [])).bind lenD) modI)) fun d2 =>
  seqM (okM (bind2 (some p2) (bind2 ((consM (bind2 (some p1) (some (.int 29)) fdivI) (some [])).bind int1) ((consM (some p2) (some [])).bind lenD) modI) idx)) fun d3 =>
  seqM (okM (bind2 (some p2) (bind2 ((consM (bind2 (some p1) (some (.int 997)) fdivI) (some [])).bind int1) ((consM (some p2) (some [])).bind lenD) modI) idx)) fun d4 =>
  seqM (okM (slcM (some d1) (some none) (partM (some d2)) slcL)) fun d5 =>
  seqM (okM (slcM (some d1) (partM (some d2)) (some none) slcL)) fun d6 =>
  seqM (okM (lstM (consM (bind2 (some p0) (some (.str " ")) addS) (consM (bind2 (some (.str " ")) (some p0) addS) (consM (bind2 (some p0) (some (.str " 0")) addS) (consM ((some p0).bind (replD " " "  ")) (consM (some (.str "")) (consM (some (.str " ")) (consM ((some p0).bind upperD) (consM (bind2 (some (.str "0")) (some p0) addS) (consM (bind2 (some (.str "-")) (some p0) addS) (some [])))))))))))) fun d7 =>
  seqM (okM (bind2 (some d7) (lstM (consM (slcM (some p0) (some none) (partM ((some (.int 1)).bind negI)) slcS) (consM (slcM (some p0) (partM (some (.int 1))) (some none) slcS) (consM (bind2 (bind2 (some p0) (some (.str " ")) addS) (some p0) addS) (consM (bind2 (bind2 (some p0) (some (.str "; ")) addS) (some p0) addS) (consM (bind2 (some p0) (some (.str ";")) addS) (consM (bind2 (some p0) (some (.str " -")) addS) (consM ((some p0).bind (replD "; " ";")) (some []))))))))) catL)) fun d8 =>
  seqM (okM (lstM (consM (bind2 (some d5) (slcM (some d6) (partM (some (.int 1))) (some none) slcL) catL) (consM (bind2 (bind2 (some d5) (lstM (consM (some d3) (some []))) catL) (slcM (some d6) (partM (some (.int 1))) (some none) slcL) catL) (consM (bind2 (bind2 (some d5) (lstM (consM (some d3) (some []))) catL) (some d6) catL) (consM (bind2 (bind2 (some d5) (slcM (some d6) (some none) (partM (some (.int 1))) slcL) catL) (lstM (consM (some d3) (some []))) catL) (consM (bind2 (some d5) (lstM (consM (some d3) (consM (some d4) (some [])))) catL) (some [])))))))) fun d9 =>
  seqM (okM (bind2 (some d9) (lstM (consM (lstM (consM (some d3) (some []))) (consM (bind2 (bind2 (some d5) (slcM (some d6) (some none) (partM (some (.int 1))) slcL) catL) (some d6) catL) (consM ((some d1).bind revD) (consM (bind2 (slcM (some d1) (partM (some (.int 1))) (some none) slcL) (slcM (some d1) (some none) (partM (some (.int 1))) slcL) catL) (consM (bind2 (lstM (consM (some d3) (some []))) (some d1) catL) (consM (bind2 (some d1) (lstM (consM (some d3) (consM (some d4) (some [])))) catL) (some [])))))))) catL)) fun d10 =>
  retM (bind2 (some d8) (lcM (listM (some d10)) (fun x11 => bind2 (some (.str " ")) (some x11) joinD)) catL)
def F_law_spoilt : List PyData → Option (Except Err PyData)
  | [p0, p1, p2] => runM (m_law_spoilt p0 p1 p2)
  | _ => none
def m_law_lines (p0 p1 p2 p3 p4 : PyData) : SM Unit :=
  seqM (ifM (S := Unit) (notM (boolM (fnP F_law_same 2 (consM (fnP F_law_call 3 (consM (bind2 (some p0) (some (.int 0)) idx) (consM (some p1) (consM (some p2) (some []))))) (consM (tupM (consM (some (.str "ok")) (consM (some p3) (some [])))) (some []))))))
  (retM (some (.bool false)))
  (some (.ok ()))) fun s1 =>
  seqM (ifM (S := Unit) (notM (boolM (fnP F_law_same 2 (consM (fnP F_law_call 3 (consM (bind2 (some p0) (some (.int 1)) idx) (consM (some p1) (consM (some p3) (some []))))) (consM (tupM (consM (some (.str "ok")) (consM (some p2) (some [])))) (some []))))))
  (retM (some (.bool false)))
  (some (.ok ()))) fun s2 =>
  seqM (okM (fnL' F_law_words 1 (consM (bind2 (some p0) (some (.int 1)) idx) (some [])))) fun d3 =>
  seqM (forM (S := Unit) (listM (bind2 (fnL' F_law_spoilt 3 (consM (some p3) (consM (some p4) (consM (bind2 (some d3) (some (.int 0)) idx) (some []))))) ((consM (bind2 (some d3) (some (.int 1)) idx) (some [])).bind lstD) catL)) (fun s4 x5 =>
  seqM (ifM (S := Unit) (notM (boolM (fnP F_law_same 2 (consM (fnP F_law_call 3 (consM (bind2 (some p0) (some (.int 1)) idx) (consM (some p1) (consM (some x5) (some []))))) (consM (fnP F_law_due 3 (consM (bind2 (some p0) (some (.int 1)) idx) (consM (some p1) (consM (some x5) (some []))))) (some []))))))
  (retM (some (.bool false)))
  (some (.ok ()))) fun s6 =>
  some (.ok ())) ()) fun s7 =>
  seqM (forM (S := Unit) (tupleM (tupM (consM (some .none) (consM (some (.int 3)) (consM (tupM (consM (some (.str "sum")) (consM (some (.int 2)) (some [])))) (consM (lstM (consM (some p3) (some []))) (consM (some (.bool true)) (consM (tupM (some [])) (some []))))))))) (fun s8 x9 =>
  seqM (ifM (S := Unit) (notM (boolM (fnP F_law_same 2 (consM (fnP F_law_call 3 (consM (bind2 (some p0) (some (.int 1)) idx) (consM (some p1) (consM (some x9) (some []))))) (consM (tupM (consM (some (.str "no")) (consM (some (.str "text")) (consM ((some (.int 1)).bind negI) (consM (some (.bool true)) (some [])))))) (some []))))))
  (retM (some (.bool false)))
  (some (.ok ()))) fun s10 =>
  some (.ok ())) ()) fun s11 =>
  retM (some (.bool true))
def F_law_lines : List PyData → Option (Except Err PyData)
  | [p0, p1, p2, p3, p4] => runM (m_law_lines p0 p1 p2 p3 p4)
  | _ => none
def m_law_odds (p0 p1 p2 : PyData) : SM Unit :=
  seqM (okM (lstM (consM (tupM (consM (some (.str "operation_line")) (consM (some .none) (consM (bind2 (tupM (consM (bind2 (some p0) (some (.int 0)) idx) (some []))) (some p0) catT) (consM (some (.str "operation")) (some [])))))) (consM (tupM (consM (some (.str "operation_line")) (consM (some .none) (consM ((consM (some p0) (some [])).bind lstD) (consM (some (.str "operation")) (some [])))))) (some []))))) fun d1 =>
  seqM (okM (bind2 (some d1) (lstM (consM (tupM (consM (some (.str "value_line")) (consM ((consM (some p0) (some [])).bind lstD) (consM (some p1) (consM (some (.str "operation")) (some [])))))) (consM (tupM (consM (some (.str "value_line")) (consM (tupM (some [])) (consM (tupM (consM (some (.bool true)) (some []))) (consM (some (.str "operation")) (some [])))))) (some [])))) catL)) fun d2 =>
  seqM (okM (bind2 (some d2) (lstM (consM (tupM (consM (some (.str "read_value")) (consM (tupM (consM (some (.str "sum")) (consM (some (.int 0)) (some [])))) (consM (some (.str "0")) (consM (some (.str "operation")) (some [])))))) (consM (tupM (consM (some (.str "read_value")) (consM (tupM (consM (some (.str "sums")) (consM (some (.int 3)) (some [])))) (consM (some .none) (consM (some (.str "operation")) (some [])))))) (some [])))) catL)) fun d3 =>
  seqM (okM ((bind2 (some d3) (lstM (consM (tupM (consM (some (.str "value_line")) (consM (some p0) (consM (tupM (consM (some (.bool true)) (some []))) (consM (some (.str "value")) (some [])))))) (consM (tupM (consM (some (.str "value_line")) (consM (some p0) (consM (some (.str "0")) (consM (some (.str "value")) (some [])))))) (some [])))) catL).bind fun d => match d with | .list ds => some ds | _ => none)) fun l4 =>
  seqM (forM (S := List PyData) (tupleM (tupM (consM (lstM (consM (tupM (consM (some (.int 0)) (consM (some (.int 1)) (some [])))) (some []))) (consM (tupM (consM (tupM (consM (some (.int 0)) (consM (some (.int 2)) (some [])))) (consM (tupM (consM (some (.int 0)) (consM (some (.int 1)) (some [])))) (some [])))) (consM (tupM (consM (tupM (consM (some (.int 0)) (consM (some (.int 1)) (some [])))) (consM (tupM (consM (some (.int 0)) (consM (some (.int 1)) (some [])))) (some [])))) (consM (tupM (consM (tupM (consM (some (.int 1)) (consM (some (.int 1)) (some [])))) (some []))) (consM (some .none) (consM (tupM (consM (tupM (consM (some (.int 0)) (consM (some (.bool true)) (some [])))) (some []))) (consM (some (.str "0-1")) (consM (tupM (consM (some (.int 0)) (consM (some (.int 1)) (some [])))) (consM (some (.int 7)) (consM (tupM (consM (tupM (consM (some (.int 0)) (consM (some (.int 1)) (consM (some (.int 2)) (some []))))) (some []))) (some []))))))))))))) (fun s5 x6 =>
  seqM (okM ((tupM (consM (some (.str "asks_line")) (consM (some p0) (consM (some x6) (consM (some (.str "asks")) (some [])))))).bind fun d => if (s5).length < 100000 then some (s5 ++ [d]) else none)) fun l7 =>
  some (.ok l7)) l4) fun s8 =>
  seqM (forM (S := List PyData) (tupleM (tupM (consM (lstM (consM (tupM (consM (some (.str "ask")) (some []))) (some []))) (consM (tupM (consM (tupM (consM (some (.str "put")) (consM (some (.int 0)) (some [])))) (some []))) (consM (tupM (consM (tupM (consM (some (.str "drop")) (consM (some (.int 1)) (some [])))) (some []))) (consM (some .none) (consM (some (.str "ask")) (consM (tupM (consM (some (.str "ask")) (some []))) (consM (tupM (consM (tupM (consM (some (.str "put")) (consM (some (.int 1)) (some [])))) (consM (tupM (consM (some (.str "drop")) (consM (some (.int 2)) (some [])))) (some [])))) (consM (tupM (consM (tupM (consM (some (.str "put")) (consM (some (.bool true)) (some [])))) (some []))) (consM (some (.int 7)) (some [])))))))))))) (fun s9 x10 =>
  seqM (okM ((tupM (consM (some (.str "history_line")) (consM (some p0) (consM (some x10) (consM (some (.str "history")) (some [])))))).bind fun d => if (s9).length < 100000 then some (s9 ++ [d]) else none)) fun l11 =>
  some (.ok l11)) s8) fun s12 =>
  seqM (forM (S := Unit) (listM (some (.list s12))) (fun s13 x14 =>
  seqM (ifM (S := Unit) (notM (boolM (fnP F_law_same 2 (consM (fnP F_law_call 3 (consM (bind2 (some x14) (some (.int 0)) idx) (consM (bind2 (some x14) (some (.int 1)) idx) (consM (bind2 (some x14) (some (.int 2)) idx) (some []))))) (consM (tupM (consM (some (.str "no")) (consM (bind2 (some x14) (some (.int 3)) idx) (consM ((some (.int 1)).bind negI) (consM (some (.bool true)) (some [])))))) (some []))))))
  (retM (some (.bool false)))
  (some (.ok ()))) fun s15 =>
  some (.ok ())) ()) fun s16 =>
  seqM (okM (fnP F_law_value_line 1 (consM (some p1) (some [])))) fun d17 =>
  seqM (ifM (S := Unit) (notM (boolM (fnP F_law_same 2 (consM ((okO (fnK F_value_line 2 2 pmSwap (consM (some p1) (consM (some p0) (some []))))).bind pureD) (consM (some d17) (some []))))))
  (retM (some (.bool false)))
  (some (.ok ()))) fun s18 =>
  retM (fnP F_law_same 2 (consM ((okO (fnK F_read_value 2 2 pmSwap (consM (some d17) (consM (some p0) (some []))))).bind pureD) (consM (some p1) (some []))))
def F_law_odds : List PyData → Option (Except Err PyData)
  | [p0, p1, p2] => runM (m_law_odds p0 p1 p2)
  | _ => none
def m_law (p0 : PyData) : SM Unit :=
  seqM (okM (fnL' F_law_nums 3 (consM (some p0) (consM (some (.int 5)) (consM (lstM (consM (some (.int 1000000)) (consM (some (.int 1000000)) (consM (some (.int 1000000)) (consM (some (.int 1000000)) (some [])))))) (some [])))))) fun d1 =>
  seqM (forM (S := Sl) (rng1M (consM (some (.int 2)) (some []))) (fun s2 x3 =>
  seqM (okM (fnP F_law_operation 1 (consM (fnL' F_law_nums 3 (consM (some p0) (consM (bind2 (some (.int 2)) (some x3) mulI) (consM (lstM (consM (some (.int 12)) (consM (some (.int 6)) (consM (some (.int 6)) (consM (some (.int 1000000)) (some [])))))) (some []))))) (some [])))) fun d4 =>
  seqM (okM (fnP F_law_value 2 (consM (some d4) (consM (fnL' F_law_nums 3 (consM (some p0) (consM (bind2 (bind2 (some (.int 2)) (some x3) mulI) (some (.int 1)) addI) (consM (bind2 (bind2 (lstM (consM (some (.int 100000)) (some []))) (some (.int 9)) repL) (lstM (consM (some (.int 4)) (some []))) catL) (some []))))) (some []))))) fun d5 =>
  seqM (okM (bind2 (some (.str " ")) (bind2 (lstM (consM (bind2 (some d4) (some (.int 0)) idx) (some []))) (lcM (tupleM (slcM (some d4) (partM (some (.int 1))) (some none) slcT)) (fun x7 => (consM (some x7) (some [])).bind strD)) catL) joinD)) fun d6 =>
  seqM (ifM (S := Unit) (notM (boolM (fnP F_law_lines 5 (consM (tupM (consM (some (.str "value_line")) (consM (some (.str "read_value")) (some [])))) (consM (some d4) (consM (some d5) (consM (fnP F_law_value_line 1 (consM (some d5) (some []))) (consM (bind2 (some d1) (some x3) idx) (some [])))))))))
  (retM (some (.bool false)))
  (some (.ok ()))) fun s8 =>
  seqM (ifM (S := Unit) (notM (boolM (fnP F_law_lines 5 (consM (tupM (consM (some (.str "operation_line")) (consM (some (.str "read_operation")) (some [])))) (consM (some d4) (consM (some d4) (consM (some d6) (consM (bind2 (some d1) (bind2 (some x3) (some (.int 2)) addI) idx) (some [])))))))))
  (retM (some (.bool false)))
  (some (.ok ()))) fun s9 =>
  seqM (ifM (S := Unit) (notM (boolM (fnP F_law_odds 3 (consM (some d4) (consM (some d5) (consM (bind2 (some d1) (some x3) idx) (some [])))))))
  (retM (some (.bool false)))
  (some (.ok ()))) fun s10 =>
  some (.ok (Sl.dat d4))) .no) fun s11 =>
  slM s11 fun d12 =>
  seqM (okM (fnP F_law_row 1 (consM (fnL' F_law_nums 3 (consM (some p0) (consM (some (.int 4)) (consM (bind2 (lstM (consM (some (.int 9)) (some []))) (bind2 (lstM (consM (some (.int 1008)) (some []))) (some (.int 16)) repL) catL) (some []))))) (some [])))) fun d13 =>
  seqM (ifM (S := Unit) (notM (boolM (fnP F_law_lines 5 (consM (tupM (consM (some (.str "asks_line")) (consM (some (.str "read_asks")) (some [])))) (consM (tupM (consM (some (.str "or")) (some []))) (consM (some d13) (consM (fnP F_law_asks_line 1 (consM (some d13) (some []))) (consM (bind2 (some d1) (some (.int 2)) idx) (some [])))))))))
  (retM (some (.bool false)))
  (some (.ok ()))) fun s14 =>
  seqM (okM (fnP F_law_events 1 (consM (fnL' F_law_nums 3 (consM (some p0) (consM (some (.int 6)) (consM (bind2 (lstM (consM (some (.int 13)) (some []))) (bind2 (lstM (consM (some (.int 1000)) (some []))) (some (.int 12)) repL) catL) (some []))))) (some [])))) fun d15 =>
  seqM (okM (tupM (consM (fnP F_asks_line 1 (consM (some d13) (some []))) (consM (fnP F_history_line 1 (consM (some d15) (some []))) (consM (fnP F_operation_line 1 (consM (some d12) (some []))) (consM (fnP F_read_operation 1 (consM (fnP F_operation_line 1 (consM (some d12) (some []))) (some []))) (some []))))))) fun d16 =>
  seqM (okM (bind2 (some d16) (tupM (consM (fnP F_read_asks 1 (consM (fnP F_asks_line 1 (consM (some d13) (some []))) (some []))) (consM (fnP F_read_history 1 (consM (fnP F_history_line 1 (consM (some d15) (some []))) (some []))) (some [])))) catT)) fun d17 =>
  seqM (okM (bind2 (some (.str " ")) (bind2 (lstM (consM (bind2 (some d12) (some (.int 0)) idx) (some []))) (lcM (tupleM (slcM (some d12) (partM (some (.int 1))) (some none) slcT)) (fun x19 => (consM (some x19) (some [])).bind strD)) catL) joinD)) fun d18 =>
  seqM (ifM (S := Unit) (notM (boolM (fnP F_law_same 2 (consM (some d17) (consM (tupM (consM (fnP F_law_asks_line 1 (consM (some d13) (some []))) (consM (fnP F_law_history_line 1 (consM (some d15) (some []))) (consM (some d18) (consM (some d12) (consM (some d13) (consM (some d15) (some [])))))))) (some []))))))
  (retM (some (.bool false)))
  (some (.ok ()))) fun s20 =>
  retM (fnP F_law_lines 5 (consM (tupM (consM (some (.str "history_line")) (consM (some (.str "read_history")) (some [])))) (consM (tupM (consM (some (.str "or")) (some []))) (consM (some d15) (consM (fnP F_law_history_line 1 (consM (some d15) (some []))) (consM (bind2 (some d1) (some (.int 3)) idx) (some [])))))))
def F_law : List PyData → Option (Except Err PyData)
  | [p0] => runM (m_law p0)
  | _ => none
end UT
end
section
set_option Elab.async false
set_option linter.all false
set_option maxRecDepth 100000
set_option maxHeartbeats 4000000
/-! hand walks: is_history -/
namespace UT
open PySem PySem.Spec PyProof.Rows L2

theorem ej_vr {K : PySem.W.Frag} {z : Bool} {ρ : En} (i : Nat) {d : PyData} (hρ : ρ[i]? = some (.dat d)) : EvJ K z (tVar i) ρ (some d) := fun A σ H d' g rel hm Q q => by
  cases hm
  obtain ⟨v, q1, q2⟩ := rel.dat hρ
  exact ⟨v, q1, q v H (Same.refl H) q2⟩
def tryP (m : SM Unit) : SM Unit := m.bind fun r => match r with
  | .ok s => some (.ok s)
  | .error (.rt d) => some (.error (.rt d))
  | .error (.er e) => match e.c with
    | .paper => some (.error (.rt (.bool false)))
    | _ => none
def dropX (F : List PyData → Option (Except Err PyData)) (n : Nat) (m : Option (List PyData)) : SM Unit := (fnX F n m).map fun r => match r with
  | .ok _ => .ok ()
  | .error o => .error o
section
variable {K : PySem.W.Frag} {W : WX} {ρ : En} {ta : TA} {z : Bool}
theorem sj_tryP {tb : WX → TS} {c : Value} {m : SM Unit} (hb : ∀ W, StJ K true true W (tb W) ρ m fun _ => ρ) (hc : PySem.W.exmOne K (.ref (He.ga K "InvalidPaper")) c = some true) :
    StJ K true true W (fun D σ H => tb (wOnly K c (fun _ _ _ => tRet (tC (.bl false))) (fun _ _ _ _ => False) D) D σ H) ρ (tryP m) (fun _ => ρ) := by
  intro A σ H D r g rel hm kn kr ke
  obtain ⟨r0, e0, hm⟩ := Option.bind_eq_some_iff.mp hm
  refine hb _ A σ H D r0 g rel e0 (fun s hs => ?_) (fun d hd => ?_) (fun e he cls dd σ' H' l s' ex => ?_)
  · subst hs; cases hm
    exact kn s rfl
  · subst hd; cases hm
    exact kr d rfl
  · subst he
    obtain ⟨ec, ea, eb⟩ := e
    cases ec with
    | paper =>
      cases hm
      refine ⟨true, ?_, fun _ a ha => kr _ rfl (.bl false) H' s' (.bl _), fun h => by cases h⟩
      rw [ex.1]; exact hc
    | usable => cases hm
    | text => cases hm
theorem sj_dropX {F : List PyData → Option (Except Err PyData)} {n : Nat} {m : Option (List PyData)} (h : AvJ K true ta ρ m) : StJ K true true W (tDrop (tCallS (SpF K F n) (WE W) ta)) ρ (dropX F n m) fun _ => ρ := by
  intro A σ H D r g rel hm kn kr ke
  obtain ⟨r0, e0, rfl⟩ := Option.map_eq_some_iff.mp hm
  unfold fnX at e0
  obtain ⟨ds, e1, e0⟩ := Option.bind_eq_some_iff.mp e0
  split at e0
  · rename_i hn
    obtain ⟨x, e2, rfl⟩ := Option.map_eq_some_iff.mp e0
    refine h A σ H ds g rel e1 _ fun vs H1 s1 d1 => ⟨ds, x, d1.mono Same.unmsk, hn, e2, fun d2 hd v H' s dv => ?_, fun e he cls dd H' s ex => ?_⟩
    · subst hd
      exact kn () rfl A σ H' rfl (mk_ (s1.trans s)) ((g.mono s1).mono s) ((rel.mono s1).mono s)
    · subst he
      exact ke e rfl cls dd σ H' rfl (mk0 (s1.trans s)) ex
  · cases e0
end
theorem sc_is_history : FnScope ["thing"] ["thing"] (defScope st_is_history) := ⟨rfl, rfl, rfl, by decide +kernel, rfl, by decide +kernel, by decide +kernel⟩
theorem ok_is_history {P : Program} {w : World} {K : PySem.W.Frag} {mg : Str → Option Value} {base : Heap} {f : Addr} {fd : FuncData} {k : Nat} (Fn : FnP K "is_history" "is_history" st_is_history f fd) (c_lets_history : Cal P w K mg base "lets_history" k 1 F_lets_history)
    (hx : PySem.W.exmOne K (.ref (He.ga K "InvalidPaper")) (.ref (He.ga K "InvalidPaper")) = some true) (hmg : mg "InvalidPaper" = some (.ref (He.ga K "InvalidPaper"))) :
    FnOk P w K mg base (L2.CX P w) (k + 1) f fd ["thing"] (SpF K F_is_history 1) := by
  refine fnF Fn sc_is_history rfl fun cdv A outer s H E hr ds hl => ?_
  match ds, hl with
  | [p0], _ =>
    have nd := sc_is_history.nd
    refine ⟨Unit, tSeq (fun D σ H => (tDrop (tCallS (SpF K F_lets_history 1) (WE (wOnly K (.ref (He.ga K "InvalidPaper")) (fun _ _ _ => tRet (tC (.bl false))) (fun _ _ _ _ => False) D)) (tCons (tVar 0) tNil))) D σ H) (tRet (tC (.bl true))), true, seqM (tryP (dropX F_lets_history 1 (consM (some p0) (some [])))) fun _ => retM (some (.bool true)), fun _ => [], ?_, ?_⟩
    · show F_is_history [p0] = _
      unfold F_is_history tryP dropX fnX seqM runM consM retM
      simp only [Option.bind_some, List.length_cons, List.length_nil, if_true]
      cases F_lets_history [p0] with
      | none => rfl
      | some r =>
        cases r with
        | ok d => rfl
        | error e =>
          obtain ⟨ec, ea, eb⟩ := e
          cases ec <;> rfl
    · refine bd_cons (z1 := true) (e1 := fun _ => [.dat p0]) ⟨ps_try_only rfl rfl ⟨rfl, by decide, .inl hmg⟩ takes_none5 (tb := fun W => tDrop (tCallS (SpF K F_lets_history 1) (WE W) (tCons (tVar 0) tNil))) (fun W pn xe tk hp => ?_) (ts := fun _ _ _ => tRet (tC (.bl false))) (fun a oe cls d pn hz hf => pss_one (ps_ret pe_bl)), ?_⟩ fun _ => bd_one (sd_ret (ρ' := [.dat p0]) pd_bl)
      · obtain ⟨f1, fd1, ps1, G, hm, hk, hb⟩ := c_lets_history
        exact pss_one (ps_expr (pe_callS G hr rfl hm hk hb (fun σ => passAt tk σ) (pa_cons (pe_var rfl (by first | exact Or.inl rfl | exact Or.inr (Or.inl rfl))) pa_nil)))
      · exact sj_tryP (fun W => sj_dropX (aj_cons (ej_vr 0 rfl) aj_nil)) hx
end UT
end
section
set_option Elab.async false
set_option linter.all false
set_option maxRecDepth 100000
set_option maxHeartbeats 4000000
/-! several except clauses, each with the same name; what a suite reads of the error -/
namespace UT
open PySem PySem.Spec PyProof.Rows L2

def wAsL (K : PySem.W.Frag) (i : Nat) (Wout : WX) (D : Ends) : List (Value × (Addr → Value → Option Addr → TS)) → WX
  | [] => Wout
  | (c, ts) :: r => fun cls d σ H => ∃ b, PySem.W.exmOne K cls c = some b ∧
    (b = true → ∀ a, H a = none → ts a cls d { nx := fun σ' H' => D.nx (σ'.set i none) H', rt := D.rt, bk := fun σ' H' => D.bk (σ'.set i none) H', ct := fun σ' H' => D.ct (σ'.set i none) H' } (σ.set i (some (.ref a))) H) ∧
    (b = false → wAsL K i Wout D r cls d σ H)
inductive HdsAs (X : Cx) (n : Str) : List ExceptHandler → List (Value × (Addr → Value → Option Addr → TS)) → Prop
  | nil : HdsAs X n [] []
  | cons {x : Str} {c : Value} {ts : Addr → Value → Option Addr → TS} {b₀ : Stmt} {suite : List Stmt} {np pos' : Pos} {hds : List ExceptHandler} {l : List (Value × (Addr → Value → Option Addr → TS))} (hc : Names X x c)
      (hsu : ∀ (a : Addr) (oe : Obj) (cls : Value) (d : Option Addr) (pn : List (Addr × Obj)), Zc cls d oe → (∃ vs, oe.data = .fields vs) → PSs (X.suite a ((a, oe) :: pn)) (b₀ :: suite) (ts a cls d)) (r : HdsAs X n hds l) :
      HdsAs X n (.ExceptHandler (some (.Name x np)) (some n) (b₀ :: suite) pos' :: hds) ((c, ts) :: l)
section
variable {X : Cx} {n : Str} {i : Nat} {body : List Stmt} {h₀ : ExceptHandler} {hds : List ExceptHandler} {l : List (Value × (Addr → Value → Option Addr → TS))} {pos : Pos} {tb : WX → TS} {Wout : WX}
theorem ps_try_manyAs (hs : X.stack = X.env :: X.outer) (hf : X.env.frame = some X.env.locals) (hN : X.N.Nodup) (hi : X.N[i]? = some n) (hln : X.env.kindOf n = some .local) (tk : Takes X Wout)
    (hb : ∀ (W : WX) (pn : List (Addr × Obj)) (xe : Value → Shared → Prop), Takes (X.tr pn xe) W → PassesOwn (model X.prog X.w) X.A X.env xe → PSs (X.tr pn xe) body (tb W))
    (hh : HdsAs X n (h₀ :: hds) l) : PS X (.Try body (h₀ :: hds) [] [] pos) (fun D σ H => tb (wAsL X.K i Wout D l) D σ H) := by
  refine ⟨fun pins s σ H D I h => ?_⟩
  have ok := I.ok
  have hfr : X.A.frames = some (X.env :: X.outer) := by rw [ok.frames, hs]
  have hloc : Loc X.env.scope n := .inl hln
  refine wpAny_Try_except ?_
  refine wpAny_mono ((hb (wAsL X.K i Wout D l) (X.pn ++ pins) (fun e s₁ => wpAny (model X.prog X.w) X.A (noteFrame e X.env) (fun _ s₂ => wpAny (model X.prog X.w) X.A (setFlight e none) (fun _ s₃ =>
    wpAny (model X.prog X.w) X.A (handleBy e X.env (h₀ :: hds)) (SP X pins D) X.xe s₃) X.xe s₂) X.xe s₁) (fun u s' xx => ?_) PassesOwn.looking).run [] s σ H D (I.toTry _) h) (fun f s1 hsp => ?_) (fun e s1 he => he)
  · -- the catch
    obtain ⟨a, B, sI, pins', σ', H', cls, d, rfl, J', nb, up, sky, na, os, ag, w⟩ := xx
    have J : Inv X pins σ' H' sI := J'.ofTry ok
    have sky' : Sky B (X.env :: X.outer) a (Zc cls d) X.env.locals s'.heap := by rw [← hs]; exact sky
    show wpAny (model X.prog X.w) X.A (noteFrame (.ref a) X.env) _ _ _
    refine Sky.land Zc.steady hfr hf sky' fun h3 fl3 up3 => ?_
    have J3 : Inv X pins σ' H' { s' with heap := h3 } := J.landed nb fl3.1 (up.trans up3) os ag
    obtain ⟨oe3, vs3, he3, hz3, hd3⟩ := fl3.there
    have notFr : ∀ {h : Heap} {o : Obj} {vs : Array Value}, h.FunFrames B (X.env :: X.outer) → h.get? a = some o → o.data = .fields vs → a ∉ frs (X.env :: X.outer) := fun {h o vs} ff e dd hm => by
      obtain ⟨_, o', e', hnf⟩ := ff.mem hm
      rw [e] at e'; cases e'
      exact hnf _ dd
    have nfr := notFr fl3.2.2.1 he3 hd3
    have nL : a ≠ X.env.locals := fun z => nfr (List.mem_filterMap.mpr ⟨X.env, List.mem_cons_self, by rw [hf, z]⟩)
    have nF : a ∉ X.fs := fun hm => by
      obtain ⟨e, he, q⟩ := List.mem_filterMap.mp hm
      exact nfr (List.mem_filterMap.mpr ⟨e, List.mem_cons_of_mem _ he, q⟩)
    have S3 := J3.suite he3 hd3 na nL nF
    have go : ∀ {hds' : List ExceptHandler} {l' : List (Value × (Addr → Value → Option Addr → TS))}, HdsAs X n hds' l' → wAsL X.K i Wout D l' cls d σ' H' →
        wpAny (model X.prog X.w) X.A (handleBy (.ref a) X.env hds') (SP X pins D) X.xe { s' with heap := h3 } := by
      intro hds' l' hk
      induction hk with
      | nil =>
        intro w
        refine wpAny_handleBy_nil ?_
        obtain ⟨k1, k2, k3, oe, vs, T, oT, ts', he, hz, hd, h1, hr⟩ := id fl3
        unfold PySem.passOn
        refine wpAny_bind (wpAny_field he hd h1 ?_)
        rw [if_neg (show ¬ ((Value.ref T == Value.none) = true) from by simp)]
        have fin : wpAny (model X.prog X.w) X.A (setFlight (.ref a) X.env.frame) (fun _ s4 => wpAny (model X.prog X.w) X.A (throw (.ref a) : Sem Flow) (SP X pins D) X.xe s4) X.xe { s' with heap := h3 } := by
          rw [hf]
          refine HandSPX.setFlight_upZ fl3 fun h4 hh4 up4 => wpAny_throw (tk _ _ ?_)
          exact ⟨a, B, sI, pins, σ', H', cls, d, rfl, J, nb, (up.trans up3).trans up4, .inr (.inr (by rw [hs]; exact hh4)), na, os, ag, w⟩
        first
          | exact wpAny_bind (wpAny_pure (wpAny_bind fin))
          | exact wpAny_bind fin
      | @cons x c ts b₀ suite np pos' hds2 l2 hc hsu r ih =>
        intro w
        obtain ⟨b, hb1, hyes, hno⟩ := w
        refine wpAny_handleBy_cons (codeAny_handlers_test ?_) (by intro q; cases q)
        have LT : PySem.W.Looks (model X.prog X.w) h3 (typeOf (.ref a)) cls := fun A Q E s k q => wpAny_typeOf_ref (k _ _ he3) (by rw [hz3.1]; exact q)
        have LM := PySem.W.exm_one (M := model X.prog X.w) (J3.kIn) LT hb1
        have test : ∀ {Q : Value → Shared → Prop} {E : Value → Shared → Prop}, Q c { s' with heap := h3 } → wpAny (model X.prog X.w) (X.A.mark (some (.ref a))) (eval (.Name x np) X.env) Q E { s' with heap := h3 } := fun {Q E} q => by
          obtain ⟨hg, hdbg, hm | ⟨hm, hv, hnn⟩⟩ := hc
          · exact ld_glob (X := X.suite a ((a, oe3) :: (X.pn ++ pins))) S3 hg hm q hdbg
          · exact ld_blt (X := X.suite a ((a, oe3) :: (X.pn ++ pins))) S3 hg hm hv q hnn hdbg
        refine test (LM.here ?_)
        cases b with
        | true =>
          refine codeAny_handlers_suite_as ?_
          refine HandSPX.lands_againZ fl3 fun h4 fl4 up4 => ?_
          have J4 : Inv X pins σ' H' { s' with heap := h4 } := J.landed nb fl4.1 ((up.trans up3).trans up4) os ag
          obtain ⟨oe4, vs4, he4, hz4, hd4⟩ := fl4.there
          have S4 := J4.suite he4 hd4 na nL nF
          refine store_ok (X := X.suite a ((a, oe4) :: (X.pn ++ pins))) (v := .ref a) S4 hN hi hloc rfl (fun s5 S5 => ?_) (.inr hln)
          refine wpAny_mono ((hsu a oe4 cls d (X.pn ++ pins) hz4 ⟨_, hd4⟩).run [] s5 _ H' _ S5 (hyes rfl a na)) (fun f s6 hsp => ?_) (fun _ _ z => False.elim z)
          have end_ : ∀ {σ6 : L2.St} {H6 : Hp} {Q : Shared → Prop}, Inv (X.suite a ((a, oe4) :: (X.pn ++ pins))) [] σ6 H6 s6 → (∀ s7, Inv X pins (σ6.set i none) H6 s7 → Q s7) →
              wpAny (model X.prog X.w) X.A (do bindName X.env n .none; unbindBehindTheSuite X.env n pos') (fun _ s7 => Q s7) X.xe s6 := fun {σ6 H6 Q} S6 hq => gone_ok (S6.unsuite ok) hN hi hln hq
          cases f with
          | next =>
            obtain ⟨σ6, H6, S6, q6⟩ := hsp
            exact end_ S6 fun s7 J7 => ⟨_, _, J7, q6⟩
          | brk =>
            obtain ⟨σ6, H6, S6, q6⟩ := hsp
            exact end_ S6 fun s7 J7 => ⟨_, _, J7, q6⟩
          | cont =>
            obtain ⟨σ6, H6, S6, q6⟩ := hsp
            exact end_ S6 fun s7 J7 => ⟨_, _, J7, q6⟩
          | ret u =>
            obtain ⟨v6, σ6, H6, S6, r6, q6⟩ := hsp
            exact end_ S6 fun s7 J7 => ⟨_, _, _, J7, r6, q6⟩
        | false =>
          show wpAny _ X.A (handleBy (.ref a) X.env hds2) _ _ _
          exact ih (hno rfl)
    exact go hh w
  · cases f with
    | next =>
      obtain ⟨σ', H', J', q⟩ := hsp
      exact wpAny_execs_nil ⟨σ', H', J'.ofTry ok, q⟩
    | brk =>
      obtain ⟨σ', H', J', q⟩ := hsp
      exact ⟨σ', H', J'.ofTry ok, q⟩
    | cont =>
      obtain ⟨σ', H', J', q⟩ := hsp
      exact ⟨σ', H', J'.ofTry ok, q⟩
    | ret u =>
      obtain ⟨v, σ', H', J', r, q⟩ := hsp
      exact ⟨v, σ', H', J'.ofTry ok, r, q⟩
end

/-! ### isinstance(e, C), e the caught error (it has a dict) -/
theorem findObj_cls {K : PySem.W.Frag} {C : Addr} {od : Option Obj} {name : Str} {a g : Value} (hc : (PySem.W.clsIn K C).isSome = true) (ha : PySem.W.findIn K (.ref C) name = some (some a)) (hg : PySem.W.specialIn K a "__get__" = some (some g)) (ht : PySem.W.takesIn K a = some true) : PySem.W.findObj K C od name = some (.bind g a) := by
  obtain ⟨cd, hc⟩ := Option.isSome_iff_exists.mp hc
  unfold PySem.W.findObj
  rw [hc, Option.bind_some, ha, Option.bind_some]
  simp [hg, ht]
section
open PySem.W
variable {prog : Program} {w : World} {A : Around} {E : Value → Shared → Prop} {s : Shared} {K : Frag} {x D : Addr} {ox : Obj} {od : Option Obj}
/-- the class of a caught error, asked by its own __getattribute__ (the kit has it for errors without a dict) -/
theorem cls_ofErr {Q : Option Value → Shared → Prop} (C : ExcC K D) (X : K.In s.heap) (I : InstAt s.heap x ox D od) (h : Q (some (.ref D)) { s with toks := s.toks + 1 }) : wpAny (model prog w) A (getAttr? (.ref x) "__class__") Q E s := by
  have hf : findObj K D od "__class__" = some (.bind (.builtin "getset_descriptor.__get__") (.builtin "object.__class__")) := findObj_cls (by obtain ⟨cd, hc, _⟩ := any_some C.hd; rw [hc]; rfl) C.ha C.hn C.ht
  have hm := C.hm
  have hga := C.hg
  have hgt := C.hk
  have hsub := C.hs
  obtain ⟨hp, g, d, t, os⟩ := s
  have M0 := I.type (M := model prog w)
  have M1 := looks_findIn (M := model prog w) X hga
  have M2 := looks_findIn (M := model prog w) X hgt
  have M3 := looks_find (M := model prog w) X I hf
  have isE : Looks (model prog w) hp (isInstance (.ref x) (.type "BaseException")) true := M0.andThen (looks_subIn X hsub)
  have b2 : (Value.builtin "BaseException.__getattribute__" == Value.builtin "object.__getattribute__") = false := by decide +kernel
  have b1 : (onTheHeap (Value.ref D) && Value.builtin "BaseException.__getattribute__" == Value.builtin "object.__getattribute__") = false := by rw [b2]; rfl
  unfold getAttr? getAttrBy? getAttrBy
  refine wpAny_bind (wpAny_mkText (wpAny_bind (wpAny_attempt (wpAny_holding (wpAny_bind (M0.at (wpAny_bind (M1.at ?_))))))))
  show wpAny _ _ (if (onTheHeap (Value.ref D) && Value.builtin "BaseException.__getattribute__" == Value.builtin "object.__getattribute__") = true then _ else _) _ _ _
  rw [b1, if_neg Bool.false_ne_true]
  unfold getAttrByItsOwn hookBefore
  refine wpAny_bind ?_
  rw [if_pos (show onTheHeap (Value.ref D) = true from rfl)]
  refine M2.at ?_
  refine wpAny_bind (wpAny_attempt (wpAny_holding ?_))
  unfold callGetattribute
  rw [show (false && onTheHeap (Value.builtin "BaseException.__getattribute__")) = false from rfl, if_neg Bool.false_ne_true]
  unfold boundAndCalled
  rw [PySem.F.excAttr_ValueError.ga.bind (.ref x)]
  refine wpAny_bind (wpAny_pure ?_)
  show wpAny _ _ (call (.builtin "BaseException.__getattribute__") [.ref x, .str "__class__" t]) _ _ _
  refine wpAny_call (codeAny_call_builtin PySem.F.excAttr_ValueError.ga.plain PySem.F.entry_bexc_ga ?_)
  refine @check_slot (model prog w) _ _ ⟨hp, g, d, t + 1, os⟩ "BaseException.__getattribute__" "BaseException" "__getattribute__" (.ref x) [.str "__class__" t] [] _ (by decide +kernel) (by decide +kernel) isE (PySem.F.args_bexc_ga (.ref x) (.str "__class__" t)) ?_
  unfold Builtin.«object.__getattribute__»
  refine wpAny_bind (wpAny_of_eq (a := ((Value.ref x : Value), [Value.str "__class__" t])) (by first | rfl | (simp only [slotArgs]; rfl)) ?_)
  refine wpAny_bind (wpAny_pure (wpAny_bind (M0.at (wpAny_bind (M3.at ?_)))))
  show wpAny _ _ (holding [Value.builtin "object.__class__"] (call (.builtin "getset_descriptor.__get__") [.builtin "object.__class__", .ref x, .ref D]) >>= ret) _ _ _
  refine wpAny_bind (wpAny_holding (wpAny_call (class_get (s := ⟨hp, g, d, t + 1, os⟩) (ox := ox) (od := od) X I hm ?_)))
  refine wpAny_pure ?_
  show wpAny _ _ (handedOut (.ref D)) _ _ _
  rw [handedOut_of (v := .ref D) rfl]
  first
    | exact wpAny_pure (wpAny_pure h)
    | exact wpAny_pure h
    | exact wpAny_pure (wpAny_bind (wpAny_pure (wpAny_pure h)))
theorem kitx_excD (C : ExcC K D) : KitX K (.ref x) (.ref D) (fun h => InstAt h x ox D od) where
  ty := fun _ _ _ I => I.type
  it := fun _ _ X _ => by
    obtain ⟨cdD, hcD, _⟩ := any_some C.hd
    unfold clsIn at hcD
    split at hcD
    · rename_i c' d' cd' sl' ho
      intro A' Q' E' s' k q
      unfold isType loadHead
      exact wpAny_bind (wpAny_loadPart (k _ _ (X _ _ ho)) (wpAny_pure q))
    · cases hcD
  ne := (handS_kitx_exc (x := x) (ox := ox) C.hg C.hk C.hs C.hd C.ha C.hn C.ht C.hm).ne
  ca := fun X I k => cls_ofErr C X I k
end
/-- isinstance(e, c), e the error that the suite holds, with its dict -/
def rIsD (K : PySem.W.Frag) (a : Addr) (cls : Value) (d : Option Addr) : List V → Hp → VK → Prop := fun xs H Q => ∃ (D : Addr) (c : V) (cv : Value) (b : Bool) (dd : Addr) (fs : List (Str × V)), cls = .ref D ∧ ExcC K D ∧ d = some dd ∧ H dd = some (.xd fs) ∧ xs = [.ref a, c] ∧ (∀ u, RelV c u → u = cv) ∧ PySem.W.kitOne K (.ref D) cv = some b ∧ Q (.bl b) H
theorem call_isD {X : Cx} {a : Addr} {cls : Value} {d : Option Addr} {oe : Obj} {pn : List (Addr × Obj)} (hz : Zc cls d oe) (hf : ∃ vs, oe.data = .fields vs) : CallR (X.suite a ((a, oe) :: pn)) (.builtin "isinstance") (rIsD X.K a cls d) := by
  intro pins s σ H xs us Q I r h
  obtain ⟨D, c, cv, b, dd, fs, rfl, C, ed, ea, rfl, hcv, e, q⟩ := h
  cases r with
  | cons rx rr =>
    cases rr with
    | cons rt rr =>
      cases rr
      cases rx
      have ec := hcv _ rt
      subst ec
      obtain ⟨hget, _⟩ := I.pin (a, oe) (List.mem_append.mpr (.inl List.mem_cons_self))
      obtain ⟨vs, hv⟩ := hf
      have hx : ObjOk X.prog X.w H s.heap dd (.xd fs) := I.hok dd _ ea
      obtain ⟨mA, hns, hr⟩ := hx
      obtain ⟨od, ho, hl⟩ := lookIn_ns hns
      have J : PySem.W.InstAt s.heap a oe D (some od) := ⟨hget, hz.1, by unfold PySem.W.notCls; rw [hv] <;> rfl, by rw [hz.2, ed]; exact ho⟩
      exact PySem.W.kia_one (kitx_excD C) I.kIn J e (fun z => nomatch z) fun tk => ⟨.bl b, H, I.kept (t' := tk) fun _ _ z => z, rfl, q⟩
end UT
end
section
set_option Elab.async false
set_option linter.all false
set_option maxRecDepth 100000
set_option maxHeartbeats 4000000
/-! hand walk: _law_call -/
namespace UT
open PySem PySem.Spec PyProof.Rows L2

structure ExF (K : PySem.W.Frag) (mg : Str → Option Value) : Prop where
  xu : ExcC K (He.ga K "NotUsable")
  xt : ExcC K (He.ga K "InvalidText")
  fu : XfC K (He.ga K "NotUsable")
  ft : XfC K (He.ga K "InvalidText")
  nu1 : PySem.W.findIn K (.ref (He.ga K "NotUsable")) "word" = some none
  nu2 : PySem.W.findIn K (.ref (He.ga K "NotUsable")) "at" = some none
  nt1 : PySem.W.findIn K (.ref (He.ga K "InvalidText")) "line" = some none
  nt2 : PySem.W.findIn K (.ref (He.ga K "InvalidText")) "field" = some none
  k1 : PySem.W.kitOne K (.ref (He.ga K "NotUsable")) (.ref (He.ga K "AskError")) = some true
  k2 : PySem.W.kitOne K (.ref (He.ga K "NotUsable")) (.ref (He.ga K "TextError")) = some false
  k3 : PySem.W.kitOne K (.ref (He.ga K "InvalidText")) (.ref (He.ga K "TextError")) = some true
  k4 : PySem.W.kitOne K (.ref (He.ga K "InvalidText")) (.ref (He.ga K "UnderError")) = some true
  k5 : PySem.W.kitOne K (.ref (He.ga K "InvalidText")) (.ref (He.ga K "AskError")) = some false
  k6 : PySem.W.kitOne K (.ref (He.ga K "InvalidText")) (.type "ValueError") = some true
  e0 : PySem.W.exmOne K (.ref (He.ga K "InvalidPaper")) (.ref (He.ga K "InvalidPaper")) = some true
  e1 : PySem.W.exmOne K (.ref (He.ga K "NotUsable")) (.ref (He.ga K "NotUsable")) = some true
  e2 : PySem.W.exmOne K (.ref (He.ga K "InvalidText")) (.ref (He.ga K "NotUsable")) = some false
  e3 : PySem.W.exmOne K (.ref (He.ga K "InvalidText")) (.ref (He.ga K "InvalidText")) = some true
  m0 : mg "InvalidPaper" = some (.ref (He.ga K "InvalidPaper"))
  m1 : mg "NotUsable" = some (.ref (He.ga K "NotUsable"))
  m2 : mg "InvalidText" = some (.ref (He.ga K "InvalidText"))
  m3 : mg "AskError" = some (.ref (He.ga K "AskError"))
  m4 : mg "TextError" = some (.ref (He.ga K "TextError"))
  m5 : mg "UnderError" = some (.ref (He.ga K "UnderError"))
  m6 : mg "ValueError" = none
  m7 : mg "isinstance" = none

def tRX (K : PySem.W.Frag) (W : WX) (F : List PyData → Option (Except Err PyData)) (n : Nat) (tA : TA) : TS := tRet (tTup (tCons (tC (.str "ok")) (tCons (tCallS (SpF K F n) (WE W) tA) tNil)))
def tRXK (K : PySem.W.Frag) (W : WX) (F : List PyData → Option (Except Err PyData)) (n j : Nat) (pm : {α : Type} → List α → List α) (tA : TA) : TS := tRet (tTup (tCons (tC (.str "ok")) (tCons (tCallKS K F n j pm (WE W) tA) tNil)))
section
variable {K : PySem.W.Frag} {W : WX} {ρ : En} {tA : TA} {z' : Bool} {F : List PyData → Option (Except Err PyData)} {n : Nat} {m : Option (List PyData)} {emb : Unit → En}
theorem sj_rx (h : AvJ K true tA ρ m) : StJ K true z' W (tRX K W F n tA) ρ (retX (fnO F n m)) emb := by
  intro A σ H D r g rel hm kn kr ke
  obtain ⟨x, e0, rfl⟩ := Option.map_eq_some_iff.mp hm
  unfold fnO at e0
  obtain ⟨ds, e1, e0⟩ := Option.bind_eq_some_iff.mp e0
  split at e0
  · rename_i hn
    refine h A σ H ds g rel e1 _ fun vs H1 s1 d1 => ⟨ds, x, d1.mono Same.unmsk, hn, e0, fun d hd v H' s dv => ?_, fun e he cls dd H' s ex => ?_⟩
    · subst hd
      have h2 : (2 : Nat) ≤ sizeLine := by decide
      exact ⟨h2, fun p hp => kr _ rfl _ _ (mk0 ((s1.trans s).trans (Same.new hp))) (.tup upd_same (.cons (.str _) (.cons (dv.mono (Same.new hp)) .nil)))⟩
    · subst he
      exact ke e rfl cls dd σ H' rfl (mk0 (s1.trans s)) ex
  · cases e0
theorem sj_rxk {j : Nat} {pm : {α : Type} → List α → List α} (hpm : ∀ (H : Hp) (vs : List V) (ds : List PyData), DtL K H vs ds → ds.length = j → DtL K H (pm vs) (pm ds)) (h : AvJ K true tA ρ m) : StJ K true z' W (tRXK K W F n j pm tA) ρ (retX (fnK F n j pm m)) emb := by
  intro A σ H D r g rel hm kn kr ke
  obtain ⟨x, e0, rfl⟩ := Option.map_eq_some_iff.mp hm
  unfold fnK at e0
  obtain ⟨ds, e1, e0⟩ := Option.bind_eq_some_iff.mp e0
  split at e0
  · rename_i hn
    refine h A σ H ds g rel e1 _ fun vs H1 s1 d1 => ⟨by rw [d1.len]; exact hn.1, pm ds, x, (hpm _ _ _ d1 hn.1).mono Same.unmsk, hn.2, e0, fun d hd v H' s dv => ?_, fun e he cls dd H' s ex => ?_⟩
    · subst hd
      have h2 : (2 : Nat) ≤ sizeLine := by decide
      exact ⟨h2, fun p hp => kr _ rfl _ _ (mk0 ((s1.trans s).trans (Same.new hp))) (.tup upd_same (.cons (.str _) (.cons (dv.mono (Same.new hp)) .nil)))⟩
    · subst he
      exact ke e rfl cls dd σ H' rfl (mk0 (s1.trans s)) ex
  · cases e0
end
section
variable {X : Cx} {z' : Bool} {W : WX} {ρ : En} {tA : TA} {e : Expr} {es : List Expr} {mA : Option (List PyData)} {x : Str} {k n : Nat} {F : List PyData → Option (Except Err PyData)} {p pos cp tp rp : Pos} {j kk : Nat} {emb : Unit → En}
theorem sd_rx (c : Cal X.prog X.w X.K X.mg X.base x k n F) (hr : Room k X.A) (tk : Takes X W) (ha : AD X true (e :: es) tA ρ mA) (hg : Gl X x := by rfl) (hdb : (x == ("__debug__" : Str)) = false := by decide)
    (he : starEach (e :: es) X.env = (false, eval e X.env) :: starEach es X.env := by rfl) (hpl : (backTo pos (starEach es X.env)).any (·.1) = false := by rfl) :
    SD X true z' W (.Return (some (.Tuple [.Constant (.str "ok") j cp, .Call (.Name x p) (e :: es) [] pos] kk tp)) rp) (tRX X.K W F n tA) ρ (retX (fnO F n mA)) emb := by
  obtain ⟨f, fd, ps, G, hm, hk, hb⟩ := c
  exact ⟨ps_ret (pe_tup (pa_cons pe_str (pa_cons (pe_callS G hr hg hm hk hb (fun σ => passAt tk σ) ha.pa hdb he hpl) pa_nil))), sj_rx ha.ev⟩
theorem sd_rxk {kws : List Keyword} {tk2 : TA} {mk : Option (List PyData)} {ks : List Str} {pm : {α : Type} → List α → List α} (c : CalK X.prog X.w X.K X.mg X.base x k n ks pm F) (hpm : ∀ (H : Hp) (vs : List V) (ds : List PyData), DtL X.K H vs ds → ds.length = ks.length → DtL X.K H (pm vs) (pm ds))
    (hr : Room k X.A) (tk : Takes X W) (ha : KD X true kws tk2 ρ mk) (hg : Gl X x := by rfl) (hall : (backToKw pos (keywordEach kws X.env)).all (·.1.isSome) = true := by rfl)
    (hks : (backToKw pos (keywordEach kws X.env)).filterMap (·.1) = ks := by rfl) (hdb : (x == ("__debug__" : Str)) = false := by decide)
    (hpl : ((backTo pos (starEach [] X.env)).any (·.1) || (backToKw pos (keywordEach kws X.env)).any (·.1.isNone)) = false := by rfl) :
    SD X true z' W (.Return (some (.Tuple [.Constant (.str "ok") j cp, .Call (.Name x p) [] kws pos] kk tp)) rp) (tRXK X.K W F n ks.length pm tk2) ρ (retX (fnK F n ks.length pm mk)) emb :=
  ⟨ps_ret (pe_tup (pa_cons pe_str (pa_cons (pe_callKS c hr (fun σ => passAt tk σ) ha.pk hg hall hks hdb hpl) pa_nil))), sj_rxk hpm ha.ev⟩
end
end UT
end
section
set_option Elab.async false
set_option linter.all false
set_option maxRecDepth 100000
set_option maxHeartbeats 4000000
/-! hand walk: _law_call, the def -/
namespace UT
open PySem PySem.Spec PyProof.Rows L2

def tE (s : Str) : TT := tTest (tOp rEq (tVar 0) (tC (.str s)))
def tBodyC (K : PySem.W.Frag) (W : WX) : TS := tSeq (tIfS (tE "operation_line") (tRXK K W F_operation_line 1 1 pmId (tCons (tVar 2) tNil)) tNext) (
  tSeq (tIfS (tE "value_line") (tRX K W F_value_line 2 (tCons (tVar 1) (tCons (tVar 2) tNil))) tNext) (
  tSeq (tIfS (tE "asks_line") (tRXK K W F_asks_line 1 1 pmId (tCons (tVar 2) tNil)) tNext) (
  tSeq (tIfS (tE "history_line") (tRXK K W F_history_line 1 1 pmId (tCons (tVar 2) tNil)) tNext) (
  tSeq (tIfS (tE "read_operation") (tRXK K W F_read_operation 1 1 pmId (tCons (tVar 2) tNil)) tNext) (
  tSeq (tIfS (tE "read_value") (tRX K W F_read_value 2 (tCons (tVar 1) (tCons (tVar 2) tNil))) tNext) (
  tSeq (tIfS (tE "read_asks") (tRXK K W F_read_asks 1 1 pmId (tCons (tVar 2) tNil)) tNext) (
  tRXK K W F_read_history 1 1 pmId (tCons (tVar 2) tNil))))))))
def tryC (m : SM Unit) : SM Unit := m.bind fun r => match r with
  | .ok _ => none
  | .error (.rt d) => some (.error (.rt d))
  | .error (.er e) => match e.c with
    | .usable => some (.error (.rt (.tuple [.str "no", e.a, e.b, .bool true])))
    | .text => some (.error (.rt (.tuple [.str "text", e.a, e.b, .bool true])))
    | .paper => none
def tIs (K : PySem.W.Frag) (a : Addr) (cls : Value) (d : Option Addr) (v : V) : TE := tCB (rIsD K a cls d) (tCons (tVar 3) (tCons (tC v) tNil))
def tS1 (K : PySem.W.Frag) (a : Addr) (cls : Value) (d : Option Addr) : TS :=
  tRet (tTup (tCons (tC (.str "no")) (tCons (tXf a cls d (He.ga K "NotUsable") "word" (tVar 3)) (tCons (tXf a cls d (He.ga K "NotUsable") "at" (tVar 3))
    (tCons (tAndV (tIs K a cls d (.ref (He.ga K "AskError"))) (tNotV (tIs K a cls d (.ref (He.ga K "TextError"))))) tNil)))))
def tS2 (K : PySem.W.Frag) (a : Addr) (cls : Value) (d : Option Addr) : TS :=
  tSeq (tAsg (tAndV (tIs K a cls d (.ref (He.ga K "TextError"))) (tAndV (tIs K a cls d (.ref (He.ga K "UnderError"))) (tIs K a cls d (.ty "ValueError")))) (gName 4))
    (tRet (tTup (tCons (tC (.str "text")) (tCons (tXf a cls d (He.ga K "InvalidText") "line" (tVar 3)) (tCons (tXf a cls d (He.ga K "InvalidText") "field" (tVar 3))
      (tCons (tAndV (tVar 4) (tNotV (tIs K a cls d (.ref (He.ga K "AskError"))))) tNil))))))
def clC (K : PySem.W.Frag) : List (Value × (Addr → Value → Option Addr → TS)) := [(.ref (He.ga K "NotUsable"), tS1 K), (.ref (He.ga K "InvalidText"), tS2 K)]
theorem rel_len {K : PySem.W.Frag} {A : List Addr} {H : Hp} : ∀ {σ : L2.St} {ρ : En}, Rel K A H σ ρ → σ.length = ρ.length
  | [], [], _ => rfl
  | [], _ :: _, h => h.elim
  | _ :: _, [], h => h.elim
  | _ :: _, _ :: _, h => congrArg (· + 1) (rel_len h.2)
section
variable {K : PySem.W.Frag} {mg : Str → Option Value} {W : WX} {ρ : En}
theorem sj_tryC {tb : WX → TS} {m : SM Unit} (X : ExF K mg) (hb : ∀ W, StJ K true true W (tb W) ρ m fun _ => ρ) (hl : ρ.length = 5) :
    StJ K true true W (fun D σ H => tb (wAsL K 3 (fun _ _ _ _ => False) D (clC K)) D σ H) ρ (tryC m) (fun _ => ρ) := by
  intro A σ H D r g rel hm kn kr ke
  obtain ⟨r0, e0, hm⟩ := Option.bind_eq_some_iff.mp hm
  refine hb _ A σ H D r0 g rel e0 (fun s hs => ?_) (fun d hd => ?_) (fun e he cls dd σ' H' l s' ex => ?_)
  · subst hs; cases hm
  · subst hd; cases hm
    exact kr d rfl
  · subst he
    have l5 : σ'.length = 5 := l.trans ((rel_len rel).trans hl)
    obtain ⟨ec, ea, eb⟩ := e
    obtain ⟨x1, d0, va, vb, x2, x3, x4, x5⟩ := ex
    subst x1 x2
    have h4 : (4 : Nat) ≤ sizeLine := by decide
    have g3 : ∀ {v : V}, (σ'.set 3 (some v))[3]? = some (some v) := fun {v} => by simp [l5]
    have fin : ∀ (nm : Str) (p : Addr), H' p = none → r = .error (.rt (.tuple [.str nm, ea, eb, .bool true])) → D.rt (.ref p) (upd H' p (.tup [.str nm, va, vb, .bl true])) := fun nm p hp hr =>
      kr _ hr _ _ (s'.trans (Same.new hp)) (.tup upd_same (.cons (.str _) (.cons (x4.mono (Same.new hp)) (.cons (x5.mono (Same.new hp)) (.cons (.bl _) .nil)))))
    have hv : ∀ {b : Addr} (u : Value), RelV (.ref b) u → u = .ref b := fun u h => h
    have isE : ∀ {nm : Str} {a : Addr} {v : V} {cv : Value} {b : Bool} {σ0 : L2.St}, ExcC K (He.ga K nm) → σ0[3]? = some (some (.ref a)) → (∀ u, RelV v u → u = cv) → PySem.W.kitOne K (.ref (He.ga K nm)) cv = some b → ∀ Q : VK, Q (.bl b) H' → H' d0 = some (.xd [(ErrC.f2 ec, vb), (ErrC.f1 ec, va)]) → tIs K a (.ref (He.ga K nm)) (some d0) v σ0 H' Q :=
      fun hx h3 hv hk Q q hd => ⟨_, h3, _, _, _, _, d0, _, rfl, hx, rfl, hd, rfl, hv, hk, q⟩
    cases ec with
    | paper => cases hm
    | usable =>
      have hm' : r = .error (.rt (.tuple [.str "no", ea, eb, .bool true])) := (Option.some.inj hm).symm
      refine ⟨true, X.e1, fun _ a ha => ?_, fun h => by cases h⟩
      have s3 : (σ'.set 3 (some (V.ref a)))[3]? = some (some (.ref a)) := g3
      refine ⟨_, s3, rfl, rfl, d0, _, va, rfl, x3, rfl, _, s3, rfl, rfl, d0, _, vb, rfl, x3, rfl, ?_⟩
      refine isE X.xu s3 hv X.k1 _ ⟨true, rfl, ?_⟩ x3
      refine isE X.xu s3 hv X.k2 _ ⟨false, rfl, ?_⟩ x3
      exact ⟨h4, fun p hp => fin _ p hp hm'⟩
    | text =>
      have hm' : r = .error (.rt (.tuple [.str "text", ea, eb, .bool true])) := (Option.some.inj hm).symm
      refine ⟨false, X.e2, (fun h => by cases h), fun _ => ⟨true, X.e3, fun _ a ha => ?_, fun h => by cases h⟩⟩
      have s3 : (σ'.set 3 (some (V.ref a)))[3]? = some (some (.ref a)) := g3
      refine isE X.xt s3 hv X.k3 _ ⟨true, rfl, ?_⟩ x3
      refine isE X.xt s3 hv X.k4 _ ⟨true, rfl, ?_⟩ x3
      refine isE (v := .ty "ValueError") X.xt s3 (fun u h => h) X.k6 _ ?_ x3
      have s4 : ((σ'.set 3 (some (V.ref a))).set 4 (some (V.bl true)))[4]? = some (some (.bl true)) := by simp [l5]
      have s3' : ((σ'.set 3 (some (V.ref a))).set 4 (some (V.bl true)))[3]? = some (some (.ref a)) := by simp [l5]
      refine ⟨_, s3', rfl, rfl, d0, _, va, rfl, x3, rfl, _, s3', rfl, rfl, d0, _, vb, rfl, x3, rfl, ?_⟩
      refine ⟨_, s4, true, rfl, ?_⟩
      refine isE X.xt s3' hv X.k5 _ ⟨false, rfl, ?_⟩ x3
      exact ⟨h4, fun p hp => fin _ p hp hm'⟩
end
end UT
end
section
set_option Elab.async false
set_option linter.all false
set_option maxRecDepth 100000
set_option maxHeartbeats 4000000
/-! hand walk: _law_call, the def -/
namespace UT
open PySem PySem.Spec PyProof.Rows L2
def tryBody : List Stmt → List Stmt
  | [.Try b _ _ _ _] => b
  | _ => []
theorem sc_law_call : FnScope ["_law_which", "_law_op", "_law_thing", "e", "_law_kin"] ["_law_which", "_law_op", "_law_thing"] (defScope st_law_call) := ⟨rfl, rfl, rfl, by decide +kernel, rfl, by decide +kernel, by decide +kernel⟩
theorem ok_law_call {P : Program} {w : World} {K : PySem.W.Frag} {mg : Str → Option Value} {base : Heap} {f : Addr} {fd : FuncData} (Fn : FnP K "_law_call" "_law_call" st_law_call f fd) (X : ExF K mg) (k_operation_line : CalK P w K mg base "operation_line" 3 1 ["operation"] pmId F_operation_line) (c_value_line : Cal P w K mg base "value_line" 5 2 F_value_line) (k_asks_line : CalK P w K mg base "asks_line" 5 1 ["asks"] pmId F_asks_line) (k_history_line : CalK P w K mg base "history_line" 5 1 ["history"] pmId F_history_line) (k_read_operation : CalK P w K mg base "read_operation" 3 1 ["text"] pmId F_read_operation) (c_read_value : Cal P w K mg base "read_value" 3 2 F_read_value) (k_read_asks : CalK P w K mg base "read_asks" 4 1 ["text"] pmId F_read_asks) (k_read_history : CalK P w K mg base "read_history" 4 1 ["text"] pmId F_read_history) :
    FnOk P w K mg base (L2.CX P w) 6 f fd ["_law_which", "_law_op", "_law_thing"] (SpF K F_law_call 3) := by
  refine fnF Fn sc_law_call rfl fun cdv A outer s H E hr ds hl => ?_
  match ds, hl with
  | [p0, p1, p2], _ =>
    have nd := sc_law_call.nd
    have body : ∀ (W : WX) (pn : List (Addr × Obj)) (xe : Value → Shared → Prop), Takes ((cxOf (L2.CX P w) P w K mg base ["_law_which", "_law_op", "_law_thing", "e", "_law_kin"] "_law_call" (defScope st_law_call) f cdv A outer s H E).tr pn xe) W →
        BD ((cxOf (L2.CX P w) P w K mg base ["_law_which", "_law_op", "_law_thing", "e", "_law_kin"] "_law_call" (defScope st_law_call) f cdv A outer s H E).tr pn xe) true true W (tryBody (defBody st_law_call)) (tBodyC K W) [.dat p0, .dat p1, .dat p2, .no, .no] (m_law_call p0 p1 p2) (fun _ => [.dat p0, .dat p1, .dat p2, .no, .no]) := fun W pn xe tk =>
      (bd_cons (S := Unit) (e1 := fun _ => [.dat p0, .dat p1, .dat p2, .no, .no]) (sd_if (td_cmp op_eq rd_eqS (pd_var 0) pd_str) (bd_one (sd_rxk (ks := ["operation"]) (pm := pmId) (F := F_operation_line) (n := 1) (k := 3) k_operation_line pmId_dt (hr.mono (by decide)) tk (kd_cons (pd_var 2) kd_nil))) (bd_nil (s := ()) (e := fun _ => [.dat p0, .dat p1, .dat p2, .no, .no]) ⟨.inr rfl, ⟨.inr rfl, ⟨.inr rfl, ⟨.inr rfl, ⟨.inr rfl, trivial⟩⟩⟩⟩⟩)) fun s1 =>
      (bd_cons (S := Unit) (e1 := fun _ => [.dat p0, .dat p1, .dat p2, .no, .no]) (sd_if (td_cmp op_eq rd_eqS (pd_var 0) pd_str) (bd_one (sd_rx c_value_line (hr.mono (by decide)) tk (ad_cons (pd_var 1) (ad_cons (pd_var 2) ad_nil)))) (bd_nil (s := ()) (e := fun _ => [.dat p0, .dat p1, .dat p2, .no, .no]) ⟨.inr rfl, ⟨.inr rfl, ⟨.inr rfl, ⟨.inr rfl, ⟨.inr rfl, trivial⟩⟩⟩⟩⟩)) fun s2 =>
      (bd_cons (S := Unit) (e1 := fun _ => [.dat p0, .dat p1, .dat p2, .no, .no]) (sd_if (td_cmp op_eq rd_eqS (pd_var 0) pd_str) (bd_one (sd_rxk (ks := ["asks"]) (pm := pmId) (F := F_asks_line) (n := 1) (k := 5) k_asks_line pmId_dt (hr.mono (by decide)) tk (kd_cons (pd_var 2) kd_nil))) (bd_nil (s := ()) (e := fun _ => [.dat p0, .dat p1, .dat p2, .no, .no]) ⟨.inr rfl, ⟨.inr rfl, ⟨.inr rfl, ⟨.inr rfl, ⟨.inr rfl, trivial⟩⟩⟩⟩⟩)) fun s3 =>
      (bd_cons (S := Unit) (e1 := fun _ => [.dat p0, .dat p1, .dat p2, .no, .no]) (sd_if (td_cmp op_eq rd_eqS (pd_var 0) pd_str) (bd_one (sd_rxk (ks := ["history"]) (pm := pmId) (F := F_history_line) (n := 1) (k := 5) k_history_line pmId_dt (hr.mono (by decide)) tk (kd_cons (pd_var 2) kd_nil))) (bd_nil (s := ()) (e := fun _ => [.dat p0, .dat p1, .dat p2, .no, .no]) ⟨.inr rfl, ⟨.inr rfl, ⟨.inr rfl, ⟨.inr rfl, ⟨.inr rfl, trivial⟩⟩⟩⟩⟩)) fun s4 =>
      (bd_cons (S := Unit) (e1 := fun _ => [.dat p0, .dat p1, .dat p2, .no, .no]) (sd_if (td_cmp op_eq rd_eqS (pd_var 0) pd_str) (bd_one (sd_rxk (ks := ["text"]) (pm := pmId) (F := F_read_operation) (n := 1) (k := 3) k_read_operation pmId_dt (hr.mono (by decide)) tk (kd_cons (pd_var 2) kd_nil))) (bd_nil (s := ()) (e := fun _ => [.dat p0, .dat p1, .dat p2, .no, .no]) ⟨.inr rfl, ⟨.inr rfl, ⟨.inr rfl, ⟨.inr rfl, ⟨.inr rfl, trivial⟩⟩⟩⟩⟩)) fun s5 =>
      (bd_cons (S := Unit) (e1 := fun _ => [.dat p0, .dat p1, .dat p2, .no, .no]) (sd_if (td_cmp op_eq rd_eqS (pd_var 0) pd_str) (bd_one (sd_rx c_read_value (hr.mono (by decide)) tk (ad_cons (pd_var 1) (ad_cons (pd_var 2) ad_nil)))) (bd_nil (s := ()) (e := fun _ => [.dat p0, .dat p1, .dat p2, .no, .no]) ⟨.inr rfl, ⟨.inr rfl, ⟨.inr rfl, ⟨.inr rfl, ⟨.inr rfl, trivial⟩⟩⟩⟩⟩)) fun s6 =>
      (bd_cons (S := Unit) (e1 := fun _ => [.dat p0, .dat p1, .dat p2, .no, .no]) (sd_if (td_cmp op_eq rd_eqS (pd_var 0) pd_str) (bd_one (sd_rxk (ks := ["text"]) (pm := pmId) (F := F_read_asks) (n := 1) (k := 4) k_read_asks pmId_dt (hr.mono (by decide)) tk (kd_cons (pd_var 2) kd_nil))) (bd_nil (s := ()) (e := fun _ => [.dat p0, .dat p1, .dat p2, .no, .no]) ⟨.inr rfl, ⟨.inr rfl, ⟨.inr rfl, ⟨.inr rfl, ⟨.inr rfl, trivial⟩⟩⟩⟩⟩)) fun s7 =>
      (bd_one (sd_rxk (ks := ["text"]) (pm := pmId) (F := F_read_history) (n := 1) (k := 4) k_read_history pmId_dt (hr.mono (by decide)) tk (kd_cons (pd_var 2) kd_nil))))))))))
    refine ⟨Unit, fun D σ H => tBodyC K (wAsL K 3 (fun _ _ _ _ => False) D (clC K)) D σ H, true, tryC (m_law_call p0 p1 p2), fun _ => [.dat p0, .dat p1, .dat p2, .no, .no], ?_, ?_⟩
    · show (m_law_call p0 p1 p2).bind _ = ((m_law_call p0 p1 p2).bind _).bind _
      cases m_law_call p0 p1 p2 with
      | none => rfl
      | some r =>
        cases r with
        | ok d => rfl
        | error e =>
          cases e with
          | rt d => rfl
          | er e =>
            obtain ⟨ec, ea, eb⟩ := e
            cases ec <;> rfl
    · refine bd_one ⟨ps_try_manyAs (n := "e") (i := 3) (tb := fun W => tBodyC K W) (l := clC K) rfl rfl nd rfl rfl takes_none5 (fun W pn xe tk hp => (body W pn xe tk).pss) ?_, sj_tryC X (fun W => (body W [] (fun _ _ => True) fun _ _ _ => trivial).ev) rfl⟩
      refine .cons ⟨rfl, by decide, .inl X.m1⟩ (fun a oe cls d pn hz hf => ?_) (.cons ⟨rfl, by decide, .inl X.m2⟩ (fun a oe cls d pn hz hf => ?_) .nil)
      · refine pss_one (ps_ret (pe_tup (pa_cons pe_str (pa_cons (pe_xf X.fu X.nu1 hz hf (pe_var rfl (Or.inl rfl))) (pa_cons (pe_xf X.fu X.nu2 hz hf (pe_var rfl (Or.inl rfl))) (pa_cons ?_ pa_nil))))))
        exact pe_and (pe_callB (id := "isinstance") (call_isD hz hf) rfl X.m7 (by decide +kernel) (pa_cons (pe_var rfl (Or.inl rfl)) (pa_cons (pe_glob rfl X.m3 rfl) pa_nil)))
          (pe_one (pe_not (pe_callB (id := "isinstance") (call_isD hz hf) rfl X.m7 (by decide +kernel) (pa_cons (pe_var rfl (Or.inl rfl)) (pa_cons (pe_glob rfl X.m4 rfl) pa_nil)))))
      · refine pss_cons (ps_set nd (i := 4) rfl (Or.inl rfl) ?_) (pss_one (ps_ret (pe_tup (pa_cons pe_str (pa_cons (pe_xf X.ft X.nt1 hz hf (pe_var rfl (Or.inl rfl))) (pa_cons (pe_xf X.ft X.nt2 hz hf (pe_var rfl (Or.inl rfl))) (pa_cons ?_ pa_nil)))))))
        · exact pe_and (pe_callB (id := "isinstance") (call_isD hz hf) rfl X.m7 (by decide +kernel) (pa_cons (pe_var rfl (Or.inl rfl)) (pa_cons (pe_glob rfl X.m4 rfl) pa_nil)))
            (pe_and (pe_callB (id := "isinstance") (call_isD hz hf) rfl X.m7 (by decide +kernel) (pa_cons (pe_var rfl (Or.inl rfl)) (pa_cons (pe_glob rfl X.m5 rfl) pa_nil)))
              (pe_one (pe_callB (id := "isinstance") (call_isD hz hf) rfl X.m7 (by decide +kernel) (pa_cons (pe_var rfl (Or.inl rfl)) (pa_cons (pe_bltn (v := .ty "ValueError") rfl X.m6 (by decide +kernel) rfl) pa_nil)))))
        · exact pe_and (pe_var rfl (Or.inl rfl)) (pe_one (pe_not (pe_callB (id := "isinstance") (call_isD hz hf) rfl X.m7 (by decide +kernel) (pa_cons (pe_var rfl (Or.inl rfl)) (pa_cons (pe_glob rfl X.m3 rfl) pa_nil)))))
end UT
end
section
set_option Elab.async false
set_option linter.all false
set_option maxRecDepth 100000
set_option maxHeartbeats 4000000
/-! hand walk: _law_need -/
namespace UT
open PySem PySem.Spec PyProof.Rows L2
def needK : List (Key × V) := [(.inr "sum", .int 1), (.inr "product", .int 1), (.inr "maps", .int 1), (.inr "counts", .int 1), (.inr "grids", .int 2)]
theorem needK_merge : mergeK [] needK = needK := by decide +kernel
theorem sc_law_need : FnScope ["_law_word", "_law_needs"] ["_law_word"] (defScope st_law_need) := ⟨rfl, rfl, rfl, by decide +kernel, rfl, by decide +kernel, by decide +kernel⟩
theorem need_val (s : Str) : ∀ K H, Dt K H ((valV needK (.inr s)).getD .non) (needV s) := by
  intro K H
  unfold needK needV
  have ne : ∀ {x : Str}, ¬ s = x → ¬ (Sum.inr x : Key) = .inr s := fun h e => h (Sum.inr.inj e).symm
  by_cases h1 : s = "sum"
  · subst h1; rw [valV_pos rfl, if_pos rfl]; exact .int _
  rw [valV_neg (ne h1), if_neg h1]
  by_cases h2 : s = "product"
  · subst h2; rw [valV_pos rfl, if_pos rfl]; exact .int _
  rw [valV_neg (ne h2), if_neg h2]
  by_cases h3 : s = "maps"
  · subst h3; rw [valV_pos rfl, if_pos rfl]; exact .int _
  rw [valV_neg (ne h3), if_neg h3]
  by_cases h4 : s = "counts"
  · subst h4; rw [valV_pos rfl, if_pos rfl]; exact .int _
  rw [valV_neg (ne h4), if_neg h4]
  by_cases h5 : s = "grids"
  · subst h5; rw [valV_pos rfl, if_pos rfl]; exact .int _
  rw [valV_neg (ne h5), if_neg h5, valV_nil]
  exact .non
theorem ok_law_need {P : Program} {w : World} {K : PySem.W.Frag} {mg : Str → Option Value} {base : Heap} {f : Addr} {fd : FuncData} (Fn : FnP K "_law_need" "_law_need" st_law_need f fd) :
    FnOk P w K mg base (L2.CX P w) 1 f fd ["_law_word"] (SpF K F_law_need 1) := by
  refine Fn.ok sc_law_need (fun vs H Q E h => ?_) (fun cdv A outer s H vs Q E hr h => ?_)
  · obtain ⟨ds, r, h1, h2, _⟩ := h
    rw [h1.len, h2]; rfl
  · obtain ⟨ds, r, h1, h2, h3, h4, h5⟩ := h
    match ds, h2 with
    | [d], _ =>
      obtain ⟨v, rfl, dv⟩ := h1.one
      obtain ⟨x, e1, rfl⟩ := Option.map_eq_some_iff.mp (show (needD d).map .ok = some r from h3)
      have nd := sc_law_need.nd
      cases dv with
      | str sv =>
        have TT := td_cmp (X := cxOf (L2.CX P w) P w K mg base ["_law_word", "_law_needs"] "_law_need" (defScope st_law_need) f cdv A outer s H E) (z := true) (ρ := [.dat (.str sv), .no]) (pos := ⟨453, 7, 453, 84⟩) op_in_seq rd_inT (pd_var (pos := ⟨453, 7, 453, 16⟩) (x := "_law_word") 0) (pd_tup (x1 := 0) (pos := ⟨453, 20, 453, 84⟩) (ad_cons (pd_str (i := "most") (j := 0) (pos := ⟨453, 20, 453, 84⟩)) (ad_cons (pd_str (i := "least") (j := 0) (pos := ⟨453, 20, 453, 84⟩)) (ad_cons (pd_str (i := "first") (j := 0) (pos := ⟨453, 20, 453, 84⟩)) (ad_cons (pd_str (i := "last") (j := 0) (pos := ⟨453, 20, 453, 84⟩)) (ad_cons (pd_str (i := "or") (j := 0) (pos := ⟨453, 20, 453, 84⟩)) (ad_cons (pd_str (i := "brackets") (j := 0) (pos := ⟨453, 20, 453, 84⟩)) (ad_cons (pd_str (i := "spans") (j := 0) (pos := ⟨453, 20, 453, 84⟩)) ad_nil))))))))
        have hu : (A.deeper (envOfC "_law_need" (defScope st_law_need) s.heap.objs.size f cdv)).units + 1 < cLine := by have := hr.un; omega
        refine ⟨_, pss_cons (ps_set nd (i := 1) rfl (Or.inl rfl) (pe_disp (pps_cons pe_str pe_int (pps_cons pe_str pe_int (pps_cons pe_str pe_int (pps_cons pe_str pe_int (pps_cons pe_str pe_int pps_nil))))) rfl rfl (by intro h; cases h) (by decide)))
          (pss_cons (ps_if (pt_cmpR op_in_seq (pe_var (i := 0) rfl (Or.inl rfl)) (pe_tup (pa_cons pe_str (pa_cons pe_str (pa_cons pe_str (pa_cons pe_str (pa_cons pe_str (pa_cons pe_str (pa_cons pe_str pa_nil)))))))) (by first | exact nomark _ | rfl)) (pss_one (ps_ret pe_int)) pss_nil) (pss_one (ps_ret (pe_dget1 hu (pe_var (i := 1) rfl (Or.inl rfl)) (pe_var (i := 0) rfl (Or.inl rfl)) ⟨rfl, rfl, rfl, rfl⟩)))), ?_⟩
        intro p hp
        refine ⟨upd_same, needK, rfl, by decide, ?_⟩
        rw [needK_merge, upd_upd]
        refine TT.ev [] [some (.str sv), some (.ref p)] (upd H p (.dK needK)) ((["most", "least", "first", "last", "or", "brackets", "spans"] : List Str).contains sv) Mk'.no ⟨⟨_, rfl, .str _⟩, trivial, trivial⟩ rfl _ (fun H' sm => ?_)
        have hp' : H' p = some (.dK needK) := sm _ _ upd_same
        have sm0 : Same H H' := (Same.new hp).trans sm
        simp only [needD] at e1
        by_cases hc : (["most", "least", "first", "last", "or", "brackets", "spans"] : List Str).contains sv = true
        · rw [if_pos hc] at e1
          cases e1
          rw [hc]
          exact iteT (h4 _ rfl (.int 0) H' sm0 (.int _))
        · rw [if_neg hc] at e1
          cases e1
          rw [Bool.eq_false_iff.mpr hc]
          refine iteF ?_
          refine ⟨_, rfl, p, rfl, .inl ⟨_, .inl hp'⟩, _, rfl, _, .inl ⟨needK, .inr sv, .inl hp', rfl, rfl⟩, ?_⟩
          exact h4 _ rfl _ H' sm0 (need_val sv K H')
      | _ => cases e1
end UT
end
section
set_option Elab.async false
set_option linter.all false
set_option maxRecDepth 100000
set_option maxHeartbeats 4000000
/-! the errors' __init__; facts of the head, unfolded; binding -/
namespace UT
open PySem PySem.Spec PyProof.Rows L2
section
variable {P : Program} {w : World} {K : PySem.W.Frag} {mg : Str → Option Value} {base : Heap} {f : Addr} {fd : FuncData}
theorem ini_run {C a dx : Addr} {f1 f2 : Str} {x y : V} {D : Ends} {H : Hp} {Q : VK} (T : OexC K C) (n1 : PySem.W.findIn K (.ref C) f1 = some none) (n2 : PySem.W.findIn K (.ref C) f2 = some none) (hD : ∀ σ H', D.nx σ H' = Q .non H') (ha : H a = some (exo a C none))
    (hq : ∀ dx, H dx = none → dx ≠ a → Q .non (upd (upd (upd H dx (exd dx [(f1, x)])) a (exo a C (some dx))) dx (exd dx [(f2, y), (f1, x)]))) :
    tSeq (tOst K f1 (tVar 0) (tVar 1)) (tOst K f2 (tVar 0) (tVar 2)) D [some (.ref a), some x, some y] H := by
  refine ⟨x, rfl, .ref a, rfl, a, C, rfl, T, n1, .inl ⟨ha, fun dx hdx hne => ?_⟩⟩
  refine ⟨y, rfl, .ref a, rfl, a, C, rfl, T, n2, .inr ⟨dx, [(f1, x)], upd_same, by rw [upd_ne hne, upd_same], (by show 1 ≤ 900; decide), ?_⟩⟩
  rw [hD]
  exact hq dx hdx hne
theorem sc_NotUsable : FnScope ["self", "word", "at"] ["self", "word", "at"] (defScope st_NotUsable) := ⟨rfl, rfl, rfl, by decide +kernel, rfl, by decide +kernel, by decide +kernel⟩
theorem sc_InvalidPaper : FnScope ["self", "word", "at"] ["self", "word", "at"] (defScope st_InvalidPaper) := ⟨rfl, rfl, rfl, by decide +kernel, rfl, by decide +kernel, by decide +kernel⟩
theorem sc_InvalidText : FnScope ["self", "line", "field"] ["self", "line", "field"] (defScope st_InvalidText) := ⟨rfl, rfl, rfl, by decide +kernel, rfl, by decide +kernel, by decide +kernel⟩
theorem ok_NotUsable {C : Addr} (Fn : FnP K "__init__" "NotUsable.__init__" st_NotUsable f fd) (T : OexC K C) (n1 : PySem.W.findIn K (.ref C) "word" = some none) (n2 : PySem.W.findIn K (.ref C) "at" = some none) :
    FnOk P w K mg base (L2.CX P w) 1 f fd ["self", "word", "at"] (spInit C "word" "at") := by
  refine Fn.ok sc_NotUsable (fun vs H Q E h => ?_) (fun cdv A outer s H vs Q E hr h => ?_)
  · obtain ⟨a, x, y, rfl, _⟩ := h; rfl
  · obtain ⟨a, x, y, rfl, ha, hq⟩ := h
    exact ⟨_, pss_cons (ps_ost (pe_var (i := 0) rfl (Or.inl rfl)) (pe_var (i := 1) rfl (Or.inl rfl))) (pss_one (ps_ost (pe_var (i := 0) rfl (Or.inl rfl)) (pe_var (i := 2) rfl (Or.inl rfl)))), ini_run (Q := Q) (dx := 0) T n1 n2 (fun _ _ => rfl) ha hq⟩
theorem ok_InvalidPaper {C : Addr} (Fn : FnP K "__init__" "InvalidPaper.__init__" st_InvalidPaper f fd) (T : OexC K C) (n1 : PySem.W.findIn K (.ref C) "word" = some none) (n2 : PySem.W.findIn K (.ref C) "at" = some none) :
    FnOk P w K mg base (L2.CX P w) 1 f fd ["self", "word", "at"] (spInit C "word" "at") := by
  refine Fn.ok sc_InvalidPaper (fun vs H Q E h => ?_) (fun cdv A outer s H vs Q E hr h => ?_)
  · obtain ⟨a, x, y, rfl, _⟩ := h; rfl
  · obtain ⟨a, x, y, rfl, ha, hq⟩ := h
    exact ⟨_, pss_cons (ps_ost (pe_var (i := 0) rfl (Or.inl rfl)) (pe_var (i := 1) rfl (Or.inl rfl))) (pss_one (ps_ost (pe_var (i := 0) rfl (Or.inl rfl)) (pe_var (i := 2) rfl (Or.inl rfl)))), ini_run (Q := Q) (dx := 0) T n1 n2 (fun _ _ => rfl) ha hq⟩
theorem ok_InvalidText {C : Addr} (Fn : FnP K "__init__" "InvalidText.__init__" st_InvalidText f fd) (T : OexC K C) (n1 : PySem.W.findIn K (.ref C) "line" = some none) (n2 : PySem.W.findIn K (.ref C) "field" = some none) :
    FnOk P w K mg base (L2.CX P w) 1 f fd ["self", "line", "field"] (spInit C "line" "field") := by
  refine Fn.ok sc_InvalidText (fun vs H Q E h => ?_) (fun cdv A outer s H vs Q E hr h => ?_)
  · obtain ⟨a, x, y, rfl, _⟩ := h; rfl
  · obtain ⟨a, x, y, rfl, ha, hq⟩ := h
    exact ⟨_, pss_cons (ps_ost (pe_var (i := 0) rfl (Or.inl rfl)) (pe_var (i := 1) rfl (Or.inl rfl))) (pss_one (ps_ost (pe_var (i := 0) rfl (Or.inl rfl)) (pe_var (i := 2) rfl (Or.inl rfl)))), ini_run (Q := Q) (dx := 0) T n1 n2 (fun _ _ => rfl) ha hq⟩

/-! ### excB unfolded -/
theorem oexB_ok {K : PySem.W.Frag} {C : Addr} (h : oexB K C = true) : ∃ nm q N bs bm sn sub ab col dd k0 k1 k2 k3 k5, K.lookup C = some (excClassObj nm q C N bs bm true sn sub ab col dd k0 k1 k2 k3 k5 "ValueError.__new__") ∧ PySem.HandSPX.refsVE bm = true := by
  unfold oexB at h
  split at h
  · rename_i dct cd sl hl
    split at h
    · rename_i C' bm k0 k1 k2 k3 n k5 hm hs
      obtain ⟨h1, h⟩ := Bool.and_eq_true_iff.mp h
      obtain ⟨h2, h⟩ := Bool.and_eq_true_iff.mp h
      obtain ⟨h3, h⟩ := Bool.and_eq_true_iff.mp h
      obtain ⟨h4, h5⟩ := Bool.and_eq_true_iff.mp h
      have e1 : C' = C := of_decide_eq_true h1
      have e2 : n = "ValueError.__new__" := of_decide_eq_true h2
      subst e1 e2
      obtain ⟨nm, bs, mro, ns, q, hd, sn, sub, ab, col, hdel⟩ := cd
      dsimp only at hm h3 h4
      subst hm h4
      have e3 : hdel = false := by cases hdel <;> first | rfl | cases h3
      subst e3
      obtain ⟨sll⟩ := sl
      dsimp only at hs
      subst hs
      exact ⟨nm, q, ns, bs, bm, sn, sub, ab, col, dct, k0, k1, k2, k3, k5, hl, h5⟩
    · cases h
  · cases h
end
section
variable {K : PySem.W.Frag}
theorem excB_ok {c f1 f2 : Str} (h : excB K c f1 f2 = true) : OexC K (He.ga K c) ∧ PySem.W.findIn K (.ref (He.ga K c)) "__init__" = some (some (.ref (He.ma K (He.ga K c) "__init__"))) ∧ PySem.W.typeIn K (.ref (He.ma K (He.ga K c) "__init__")) = some (.type "function") ∧
    PySem.W.findIn K (.ref (He.ga K c)) f1 = some none ∧ PySem.W.findIn K (.ref (He.ga K c)) f2 = some none ∧ XfC K (He.ga K c) ∧ ExcC K (He.ga K c) := by
  obtain ⟨h1, h⟩ := Bool.and_eq_true_iff.mp h
  obtain ⟨h2, h⟩ := Bool.and_eq_true_iff.mp h
  obtain ⟨h3, h⟩ := Bool.and_eq_true_iff.mp h
  obtain ⟨h4, h⟩ := Bool.and_eq_true_iff.mp h
  obtain ⟨h5, h⟩ := Bool.and_eq_true_iff.mp h
  obtain ⟨h6, h⟩ := Bool.and_eq_true_iff.mp h
  obtain ⟨h7, h⟩ := Bool.and_eq_true_iff.mp h
  obtain ⟨h8, h⟩ := Bool.and_eq_true_iff.mp h
  obtain ⟨h9, h⟩ := Bool.and_eq_true_iff.mp h
  obtain ⟨h10, h11⟩ := Bool.and_eq_true_iff.mp h
  have X := xfB_ok h9
  exact ⟨⟨oexB_ok h1, of_decide_eq_true h2, X.exC, of_decide_eq_true h3, h4⟩, of_decide_eq_true h5, of_decide_eq_true h6, of_decide_eq_true h7, of_decide_eq_true h8, X,
    ⟨X.ga, X.gg, X.exC, X.hdC, of_decide_eq_true h10, by kernel_rfl, by kernel_rfl, of_decide_eq_true h11⟩⟩
structure ExAll (K : PySem.W.Frag) : Prop where
  ip : excB K "InvalidPaper" "word" "at" = true
  nu : excB K "NotUsable" "word" "at" = true
  it : excB K "InvalidText" "line" "field" = true
  vals : He.valsB K (He.ga K "OPERATION_WORDS") (opW.map fun q => (q.1, .int q.2)) = true
  kit : ∀ q ∈ kitRow, PySem.W.kitOne K (.ref (He.ga K q.1)) (.ref (He.ga K q.2.1)) = some q.2.2
  exm : ∀ q ∈ exmRow, PySem.W.exmOne K (.ref (He.ga K q.1)) (.ref (He.ga K q.2.1)) = some q.2.2
  kv : PySem.W.kitOne K (.ref (He.ga K "InvalidText")) (.type "ValueError") = some true
theorem exAll_of (h : exB K = true) : ExAll K := by
  obtain ⟨h1, h⟩ := Bool.and_eq_true_iff.mp h
  obtain ⟨h2, h⟩ := Bool.and_eq_true_iff.mp h
  obtain ⟨h3, h⟩ := Bool.and_eq_true_iff.mp h
  obtain ⟨h4, h⟩ := Bool.and_eq_true_iff.mp h
  obtain ⟨h5, h⟩ := Bool.and_eq_true_iff.mp h
  obtain ⟨h6, h⟩ := Bool.and_eq_true_iff.mp h
  obtain ⟨h7, h8⟩ := Bool.and_eq_true_iff.mp h
  exact ⟨h1, h2, h3, h4, fun q hq => of_decide_eq_true (List.all_eq_true.mp h5 q hq), fun q hq => of_decide_eq_true (List.all_eq_true.mp h6 q hq), of_decide_eq_true h7⟩
theorem exF_of {mg : Str → Option Value} (A : ExAll K) (m0 : mg "InvalidPaper" = some (.ref (He.ga K "InvalidPaper"))) (m1 : mg "NotUsable" = some (.ref (He.ga K "NotUsable"))) (m2 : mg "InvalidText" = some (.ref (He.ga K "InvalidText"))) (m3 : mg "AskError" = some (.ref (He.ga K "AskError")))
    (m4 : mg "TextError" = some (.ref (He.ga K "TextError"))) (m5 : mg "UnderError" = some (.ref (He.ga K "UnderError"))) (m6 : mg "ValueError" = none) (m7 : mg "isinstance" = none) : ExF K mg := by
  obtain ⟨_, _, _, a4, a5, a6, a7⟩ := excB_ok A.nu
  obtain ⟨_, _, _, b4, b5, b6, b7⟩ := excB_ok A.it
  exact ⟨a7, b7, a6, b6, a4, a5, b4, b5, A.kit ("NotUsable", "AskError", true) (by decide), A.kit ("NotUsable", "TextError", false) (by decide), A.kit ("InvalidText", "TextError", true) (by decide), A.kit ("InvalidText", "UnderError", true) (by decide),
    A.kit ("InvalidText", "AskError", false) (by decide), A.kv, A.exm ("InvalidPaper", "InvalidPaper", true) (by decide), A.exm ("NotUsable", "NotUsable", true) (by decide), A.exm ("InvalidText", "NotUsable", false) (by decide), A.exm ("InvalidText", "InvalidText", true) (by decide),
    m0, m1, m2, m3, m4, m5, m6, m7⟩
end
section
variable {P : Program} {w : World} {K : PySem.W.Frag} {mg : Str → Option Value} {base : Heap}
theorem ra_usable {fd : FuncData} (A : ExAll K) (m : mg "NotUsable" = some (.ref (He.ga K "NotUsable"))) (Fn : FnP K "__init__" "NotUsable.__init__" st_NotUsable (He.ma K (He.ga K "NotUsable") "__init__") fd) : RaC P w K mg base .usable 1 := by
  obtain ⟨a1, a2, a3, a4, a5, _⟩ := excB_ok A.nu
  exact ⟨a1, m, _, fd, _, a2, a3, ok_NotUsable Fn a1 a4 a5, Fn.bindsN fun _ _ _ _ _ _ us hl => match us, hl with | [_, _, _], _ => rfl⟩
theorem ra_paper {fd : FuncData} (A : ExAll K) (m : mg "InvalidPaper" = some (.ref (He.ga K "InvalidPaper"))) (Fn : FnP K "__init__" "InvalidPaper.__init__" st_InvalidPaper (He.ma K (He.ga K "InvalidPaper") "__init__") fd) : RaC P w K mg base .paper 1 := by
  obtain ⟨a1, a2, a3, a4, a5, _⟩ := excB_ok A.ip
  exact ⟨a1, m, _, fd, _, a2, a3, ok_InvalidPaper Fn a1 a4 a5, Fn.bindsN fun _ _ _ _ _ _ us hl => match us, hl with | [_, _, _], _ => rfl⟩
theorem ra_text {fd : FuncData} (A : ExAll K) (m : mg "InvalidText" = some (.ref (He.ga K "InvalidText"))) (Fn : FnP K "__init__" "InvalidText.__init__" st_InvalidText (He.ma K (He.ga K "InvalidText") "__init__") fd) : RaC P w K mg base .text 1 := by
  obtain ⟨a1, a2, a3, a4, a5, _⟩ := excB_ok A.it
  exact ⟨a1, m, _, fd, _, a2, a3, ok_InvalidText Fn a1 a4 a5, Fn.bindsN fun _ _ _ _ _ _ us hl => match us, hl with | [_, _, _], _ => rfl⟩
/-- a def that is called by keywords alone, its defaults none -/
theorem kbn_of {x qual : Str} {params : Arguments} {body : List Stmt} {scope : Scope} {f : Addr} {fd : FuncData} {ps ks : List Str} {pm : {α : Type} → List α → List α} (F : FunD K x qual params body scope [] [] f fd)
    (hpm : ∀ {zs : List V} {ws : List Value}, Vals zs ws → Vals (pm zs) (pm ws))
    (h : ∀ (kV doc pmv : Value) (an : Option Addr) (cdv ct : Value) (ws : List Value), ws.length = ks.length → bindArgs (PySem.W.fnOf x qual params body scope .none kV doc pmv an cdv ct) ⟨[], ks.zip ws⟩ = pure (ps.zip (pm ws))) :
    KBn K fd ps 0 ks (fun _ ws => pm ws) (fun _ zs => pm zs) := by
  obtain ⟨oc, od, dV, kV, doc, pmv, an, cdv, ct, osl, rfl, lk, hcd, hD, hK⟩ := F.ex
  rcases hD with ⟨_, rfl⟩ | ⟨e, _⟩
  · refine ⟨fun s us ws _ hu hl => ?_, fun _ r => hpm r⟩
    cases us with
    | nil => exact .of_eq (h kV doc pmv an cdv ct ws hl)
    | cons _ _ => cases hu
  · exact absurd rfl e
theorem pmSwap_vals {zs : List V} {ws : List Value} (r : Vals zs ws) : Vals (pmSwap zs) (pmSwap ws) := by
  match zs, ws, r with
  | [], [], _ => exact .nil
  | [_], [_], .cons a .nil => exact .cons a .nil
  | [_, _], [_, _], .cons a (.cons b .nil) => exact .cons b (.cons a .nil)
  | _ :: _ :: _ :: _, _ :: _ :: _ :: _, r => exact r
end
end UT
end
section
set_option Elab.async false
set_option linter.all false
set_option maxRecDepth 100000
set_option maxHeartbeats 4000000
namespace UT
open PySem PySem.Spec PyProof.Rows L2
theorem sc_can_stand : FnScope ["operation", "numbers", "number"] ["operation", "numbers", "number"] (defScope st_can_stand) := ⟨rfl, rfl, rfl, by decide +kernel, rfl, by decide +kernel, by decide +kernel⟩
theorem ok_can_stand {P : Program} {w : World} {K : PySem.W.Frag} {mg : Str → Option Value} {base : Heap} {f : Addr} {fd : FuncData} (Fn : FnP K "_can_stand" "_can_stand" st_can_stand f fd) (B : Blt mg) :
    FnOk P w K mg base (L2.CX P w) 1 f fd ["operation", "numbers", "number"] (SpF K F_can_stand 3) := by
  refine fnF Fn sc_can_stand rfl fun cdv A outer s H E hr ds hl => ?_
  match ds, hl with
  | [p0, p1, p2], _ =>
    have nd := sc_can_stand.nd
    exact ⟨Unit, _, false, m_can_stand p0 p1 p2, fun _ => [], rfl, by
    unfold m_can_stand
    exact (bd_cons (S := Unit) (e1 := fun s1 => [.dat p0, .dat p1, .dat p2]) (sd_if (td_cmp op_in_seq rd_inT (pd_ix (pd_var 0) pd_int) (pd_tup (ad_cons pd_str (ad_cons pd_str (ad_cons pd_str (ad_cons pd_str ad_nil)))))) (bd_one (sd_ret (ρ' := [.dat p0, .dat p1, .dat p2]) pd_bl)) (bd_nil (s := ()) (e := fun s1 => [.dat p0, .dat p1, .dat p2]) ⟨.inr rfl, ⟨.inr rfl, ⟨.inr rfl, trivial⟩⟩⟩)) fun s1 =>
  (bd_cons (S := Unit) (e1 := fun s2 => [.dat p0, .dat p1, .dat p2]) (sd_if (td_cmp op_lt rd_lt (pd_var 2) pd_int) (bd_one (sd_ret (ρ' := [.dat p0, .dat p1, .dat p2]) pd_bl)) (bd_nil (s := ()) (e := fun s2 => [.dat p0, .dat p1, .dat p2]) ⟨.inr rfl, ⟨.inr rfl, ⟨.inr rfl, trivial⟩⟩⟩)) fun s2 =>
  (bd_cons (S := Unit) (e1 := fun s3 => [.dat p0, .dat p1, .dat p2]) (sd_if (td_cmp op_in_seq rd_inT (pd_ix (pd_var 0) pd_int) (pd_tup (ad_cons pd_str (ad_cons pd_str (ad_cons pd_str ad_nil))))) (bd_one (sd_ret (ρ' := [.dat p0, .dat p1, .dat p2]) (pd_cmp op_lt rd_lt (pd_var 2) (pd_ix (pd_var 0) pd_int)))) (bd_nil (s := ()) (e := fun s3 => [.dat p0, .dat p1, .dat p2]) ⟨.inr rfl, ⟨.inr rfl, ⟨.inr rfl, trivial⟩⟩⟩)) fun s3 =>
  (bd_cons (S := Unit) (e1 := fun s4 => [.dat p0, .dat p1, .dat p2]) (sd_if (td_cmp op_eq rd_eqS (pd_ix (pd_var 0) pd_int) pd_str) (bd_one (sd_ret (ρ' := [.dat p0, .dat p1, .dat p2]) (pd_cmp op_lt rd_lt (pd_var 2) (pd_ix (pd_var 0) pd_int)))) (bd_nil (s := ()) (e := fun s4 => [.dat p0, .dat p1, .dat p2]) ⟨.inr rfl, ⟨.inr rfl, ⟨.inr rfl, trivial⟩⟩⟩)) fun s4 =>
  (bd_cons (S := Unit) (e1 := fun s5 => [.dat p0, .dat p1, .dat p2]) (sd_if (td_w (wd_and (td_cmp op_eq rd_eqS (pd_ix (pd_var 0) pd_int) pd_str) (wd_and1 (td_tru (pd_var 1))))) (bd_one (sd_ret (ρ' := [.dat p0, .dat p1, .dat p2]) (pd_cmp op_gt rd_gt (pd_var 2) (pd_ix (pd_var 1) pd_int)))) (bd_nil (s := ()) (e := fun s5 => [.dat p0, .dat p1, .dat p2]) ⟨.inr rfl, ⟨.inr rfl, ⟨.inr rfl, trivial⟩⟩⟩)) fun s5 =>
  (bd_one (sd_ret (ρ' := [.dat p0, .dat p1, .dat p2]) pd_bl)))))))⟩

end UT
end
section
set_option Elab.async false
set_option linter.all false
set_option maxRecDepth 100000
set_option maxHeartbeats 4000000
namespace UT
open PySem PySem.Spec PyProof.Rows L2
theorem sc_event_read : FnScope ["parts", "at", "inside", "many"] ["parts", "at", "inside"] (defScope st_event_read) := ⟨rfl, rfl, rfl, by decide +kernel, rfl, by decide +kernel, by decide +kernel⟩
theorem ok_event_read {P : Program} {w : World} {K : PySem.W.Frag} {mg : Str → Option Value} {base : Heap} {f : Addr} {fd : FuncData} (Fn : FnP K "_event_read" "_event_read" st_event_read f fd) (B : Blt mg) (c_a_number_read : Cal P w K mg base "a_number_read" 1 1 F_a_number_read) (r_text : RaC P w K mg base .text 1) :
    FnOk P w K mg base (L2.CX P w) 3 f fd ["parts", "at", "inside"] (SpF K F_event_read 3) := by
  refine fnF Fn sc_event_read rfl fun cdv A outer s H E hr ds hl => ?_
  match ds, hl with
  | [p0, p1, p2], _ =>
    have nd := sc_event_read.nd
    have tk : Takes (cxOf (L2.CX P w) P w K mg base ["parts", "at", "inside", "many"] "_event_read" (defScope st_event_read) f cdv A outer s H E) (fun cls d _ H => E cls d H) := takes_of rfl rfl rfl rfl
    exact ⟨Unit, _, false, m_event_read p0 p1 p2, fun _ => [], rfl, by
    unfold m_event_read
    exact (bd_cons (S := Unit) (e1 := fun s1 => [.dat p0, .dat p1, .dat p2, .no]) (sd_if (td_cmp op_eq rd_eqS (pd_var 1) (pd_blt (id := "len") call_len rc_len B.len (ad_cons (pd_var 0) ad_nil))) (bd_one (sd_raise (c := .text) r_text (hr.mono (by decide)) tk (ad_cons pd_int (ad_cons (pd_var 1) ad_nil)))) (bd_nil (s := ()) (e := fun s1 => [.dat p0, .dat p1, .dat p2, .no]) ⟨.inr rfl, ⟨.inr rfl, ⟨.inr rfl, ⟨.inr rfl, trivial⟩⟩⟩⟩)) fun s1 =>
  (bd_cons (S := Unit) (e1 := fun s2 => [.dat p0, .dat p1, .dat p2, .no]) (sd_if (td_cmp op_in_seq rd_inT (pd_ix (pd_var 0) (pd_var 1)) (pd_tup (ad_cons pd_str (ad_cons pd_str ad_nil)))) (bd_one (sd_ret (ρ' := [.dat p0, .dat p1, .dat p2, .no]) (pd_tup (ad_cons (pd_tup (ad_cons pd_str ad_nil)) (ad_cons pd_int (ad_cons (pd_cmp op_eq rd_eqS (pd_ix (pd_var 0) (pd_var 1)) pd_str) ad_nil)))))) (bd_nil (s := ()) (e := fun s2 => [.dat p0, .dat p1, .dat p2, .no]) ⟨.inr rfl, ⟨.inr rfl, ⟨.inr rfl, ⟨.inr rfl, trivial⟩⟩⟩⟩)) fun s2 =>
  (bd_cons (S := Unit) (e1 := fun s3 => [.dat p0, .dat p1, .dat p2, .no]) (sd_if (td_w (wd_or (td_cmp op_notIn_seq rd_ninT (pd_ix (pd_var 0) (pd_var 1)) (pd_tup (ad_cons pd_str (ad_cons pd_str ad_nil)))) (wd_or1 (td_w (wd_and (td_cmp op_eq rd_eqS (pd_ix (pd_var 0) (pd_var 1)) pd_str) (wd_and1 (td_cmp op_eq rd_eqS (pd_var 2) pd_int))))))) (bd_one (sd_raise (c := .text) r_text (hr.mono (by decide)) tk (ad_cons pd_int (ad_cons (pd_var 1) ad_nil)))) (bd_nil (s := ()) (e := fun s3 => [.dat p0, .dat p1, .dat p2, .no]) ⟨.inr rfl, ⟨.inr rfl, ⟨.inr rfl, ⟨.inr rfl, trivial⟩⟩⟩⟩)) fun s3 =>
  (bd_cons (S := Unit) (e1 := fun s4 => [.dat p0, .dat p1, .dat p2, .no]) (sd_if (td_cmp op_eq rd_eqS (pd_op op_add rd_add (pd_var 1) pd_int) (pd_blt (id := "len") call_len rc_len B.len (ad_cons (pd_var 0) ad_nil))) (bd_one (sd_raise (c := .text) r_text (hr.mono (by decide)) tk (ad_cons pd_int (ad_cons (pd_op op_add rd_add (pd_var 1) pd_int) ad_nil)))) (bd_nil (s := ()) (e := fun s4 => [.dat p0, .dat p1, .dat p2, .no]) ⟨.inr rfl, ⟨.inr rfl, ⟨.inr rfl, ⟨.inr rfl, trivial⟩⟩⟩⟩)) fun s4 =>
  (bd_cons (sd_as (e2 := fun d5 => [.dat p0, .dat p1, .dat p2, .dat d5]) (sd_asg (i := 3) nd (pd_fn c_a_number_read (hr.mono (by decide)) (ad_cons (pd_m1 F.slot_str_removesuffix F.type_str_removesuffix mt_removesuffix rm_rmsuf (pd_ix (pd_var 0) (pd_op op_add rd_add (pd_var 1) pd_int)) pd_str) ad_nil))) (fun _ => rfl)) fun d5 =>
  (bd_cons (S := Unit) (e1 := fun s6 => [.dat p0, .dat p1, .dat p2, .dat d5]) (sd_if (td_w (wd_or (td_cmp op_isN rd_isN (pd_var 3) pd_non) (wd_or (td_cmp op_lt rd_lt (pd_var 3) pd_int) (wd_or1 (td_w (wd_and (td_cmp op_eq rd_eqS (pd_ix (pd_var 0) (pd_var 1)) pd_str) (wd_and1 (td_cmp op_gt rd_gt (pd_var 3) (pd_var 2))))))))) (bd_one (sd_raise (c := .text) r_text (hr.mono (by decide)) tk (ad_cons pd_int (ad_cons (pd_op op_add rd_add (pd_var 1) pd_int) ad_nil)))) (bd_nil (s := ()) (e := fun s6 => [.dat p0, .dat p1, .dat p2, .dat d5]) ⟨.inr rfl, ⟨.inr rfl, ⟨.inr rfl, ⟨.inr rfl, trivial⟩⟩⟩⟩)) fun s6 =>
  (bd_one (sd_ret (ρ' := [.dat p0, .dat p1, .dat p2, .dat d5]) (pd_tup (ad_cons (pd_tup (ad_cons (pd_ix (pd_var 0) (pd_var 1)) (ad_cons (pd_var 3) ad_nil))) (ad_cons pd_int (ad_cons (pd_m1 F.slot_str_endswith F.type_str_endswith mt_endswith rm_ends (pd_ix (pd_var 0) (pd_op op_add rd_add (pd_var 1) pd_int)) pd_str) ad_nil))))))))))))⟩

end UT
end
section
set_option Elab.async false
set_option linter.all false
set_option maxRecDepth 100000
set_option maxHeartbeats 4000000
namespace UT
open PySem PySem.Spec PyProof.Rows L2
theorem sc_figures_due : FnScope ["operation"] ["operation"] (defScope st_figures_due) := ⟨rfl, rfl, rfl, by decide +kernel, rfl, by decide +kernel, by decide +kernel⟩
theorem ok_figures_due {P : Program} {w : World} {K : PySem.W.Frag} {mg : Str → Option Value} {base : Heap} {f : Addr} {fd : FuncData} (Fn : FnP K "_figures_due" "_figures_due" st_figures_due f fd) (B : Blt mg) :
    FnOk P w K mg base (L2.CX P w) 1 f fd ["operation"] (SpF K F_figures_due 1) := by
  refine fnF Fn sc_figures_due rfl fun cdv A outer s H E hr ds hl => ?_
  match ds, hl with
  | [p0], _ =>
    have nd := sc_figures_due.nd
    exact ⟨Unit, _, false, m_figures_due p0, fun _ => [], rfl, by
    unfold m_figures_due
    exact (bd_cons (S := Unit) (e1 := fun s1 => [.dat p0]) (sd_if (td_cmp op_in_seq rd_inT (pd_ix (pd_var 0) pd_int) (pd_tup (ad_cons pd_str (ad_cons pd_str ad_nil)))) (bd_one (sd_ret (ρ' := [.dat p0]) (pd_ix (pd_var 0) pd_int))) (bd_nil (s := ()) (e := fun s1 => [.dat p0]) ⟨.inr rfl, trivial⟩)) fun s1 =>
  (bd_cons (S := Unit) (e1 := fun s2 => [.dat p0]) (sd_if (td_cmp op_eq rd_eqS (pd_ix (pd_var 0) pd_int) pd_str) (bd_one (sd_ret (ρ' := [.dat p0]) (pd_op op_mul rd_mul (pd_ix (pd_var 0) pd_int) (pd_ix (pd_var 0) pd_int)))) (bd_nil (s := ()) (e := fun s2 => [.dat p0]) ⟨.inr rfl, trivial⟩)) fun s2 =>
  (bd_cons (S := Unit) (e1 := fun s3 => [.dat p0]) (sd_if (td_cmp op_in_seq rd_inT (pd_ix (pd_var 0) pd_int) (pd_tup (ad_cons pd_str (ad_cons pd_str ad_nil)))) (bd_one (sd_ret (ρ' := [.dat p0]) pd_int)) (bd_nil (s := ()) (e := fun s3 => [.dat p0]) ⟨.inr rfl, trivial⟩)) fun s3 =>
  (bd_one (sd_ret (ρ' := [.dat p0]) pd_int)))))⟩

end UT
end
section
set_option Elab.async false
set_option linter.all false
set_option maxRecDepth 100000
set_option maxHeartbeats 4000000
namespace UT
open PySem PySem.Spec PyProof.Rows L2
theorem sc_is_move : FnScope ["thing"] ["thing"] (defScope st_is_move) := ⟨rfl, rfl, rfl, by decide +kernel, rfl, by decide +kernel, by decide +kernel⟩
theorem ok_is_move {P : Program} {w : World} {K : PySem.W.Frag} {mg : Str → Option Value} {base : Heap} {f : Addr} {fd : FuncData} (Fn : FnP K "_is_move" "_is_move" st_is_move f fd) (B : Blt mg) (c_is_integer : Cal P w K mg base "is_integer" 1 1 F_is_integer) :
    FnOk P w K mg base (L2.CX P w) 2 f fd ["thing"] (SpF K F_is_move 1) := by
  refine fnF Fn sc_is_move rfl fun cdv A outer s H E hr ds hl => ?_
  match ds, hl with
  | [p0], _ =>
    have nd := sc_is_move.nd
    exact ⟨Unit, _, false, m_is_move p0, fun _ => [], rfl, by
    unfold m_is_move
    exact (bd_cons (S := Unit) (e1 := fun s1 => [.dat p0]) (sd_if (td_w (wd_or (td_not (td_val (pd_isi (T := "tuple") (Tn := "tuple") (pd_var 0) B.isinstance B.tuple))) (wd_or1 (td_not (td_tru (pd_var 0)))))) (bd_one (sd_ret (ρ' := [.dat p0]) pd_bl)) (bd_nil (s := ()) (e := fun s1 => [.dat p0]) ⟨.inr rfl, trivial⟩)) fun s1 =>
  (bd_cons (S := Unit) (e1 := fun s2 => [.dat p0]) (sd_if (td_cmp op_eq rd_eqS (pd_blt (id := "len") call_len rc_len B.len (ad_cons (pd_var 0) ad_nil)) pd_int) (bd_one (sd_ret (ρ' := [.dat p0]) (pd_cmp op_eq rd_eqS (pd_ix (pd_var 0) pd_int) pd_str))) (bd_nil (s := ()) (e := fun s2 => [.dat p0]) ⟨.inr rfl, trivial⟩)) fun s2 =>
  (bd_cons (S := Unit) (e1 := fun s3 => [.dat p0]) (sd_if (td_w (wd_or (td_cmp op_ne rd_neS (pd_blt (id := "len") call_len rc_len B.len (ad_cons (pd_var 0) ad_nil)) pd_int) (wd_or1 (td_cmp op_notIn_seq rd_ninT (pd_ix (pd_var 0) pd_int) (pd_tup (ad_cons pd_str (ad_cons pd_str ad_nil))))))) (bd_one (sd_ret (ρ' := [.dat p0]) pd_bl)) (bd_nil (s := ()) (e := fun s3 => [.dat p0]) ⟨.inr rfl, trivial⟩)) fun s3 =>
  (bd_one (sd_ret (ρ' := [.dat p0]) (pd_and (pd_fn c_is_integer (hr.mono (by decide)) (ad_cons (pd_ix (pd_var 0) pd_int) ad_nil)) (pd_one (pd_cmp op_ge rd_ge (pd_ix (pd_var 0) pd_int) pd_int))))))))⟩

end UT
end
section
set_option Elab.async false
set_option linter.all false
set_option maxRecDepth 100000
set_option maxHeartbeats 4000000
namespace UT
open PySem PySem.Spec PyProof.Rows L2
theorem sc_is_row : FnScope ["thing", "many", "top", "member"] ["thing", "many", "top"] (defScope st_is_row) := ⟨rfl, rfl, rfl, by decide +kernel, rfl, by decide +kernel, by decide +kernel⟩
theorem ok_is_row {P : Program} {w : World} {K : PySem.W.Frag} {mg : Str → Option Value} {base : Heap} {f : Addr} {fd : FuncData} (Fn : FnP K "_is_row" "_is_row" st_is_row f fd) (B : Blt mg) (c_is_number : Cal P w K mg base "is_number" 2 1 F_is_number) :
    FnOk P w K mg base (L2.CX P w) 3 f fd ["thing", "many", "top"] (SpF K F_is_row 3) := by
  refine fnF Fn sc_is_row rfl fun cdv A outer s H E hr ds hl => ?_
  match ds, hl with
  | [p0, p1, p2], _ =>
    have nd := sc_is_row.nd
    have hp : PassesOwn (model P w) (cxOf (L2.CX P w) P w K mg base ["thing", "many", "top", "member"] "_is_row" (defScope st_is_row) f cdv A outer s H E).A (cxOf (L2.CX P w) P w K mg base ["thing", "many", "top", "member"] "_is_row" (defScope st_is_row) f cdv A outer s H E).env (cxOf (L2.CX P w) P w K mg base ["thing", "many", "top", "member"] "_is_row" (defScope st_is_row) f cdv A outer s H E).xe := passes_of rfl
    exact ⟨Unit, _, false, m_is_row p0 p1 p2, fun _ => [], rfl, by
    unfold m_is_row
    exact (bd_cons (S := Unit) (e1 := fun s1 => [.dat p0, .dat p1, .dat p2, .no]) (sd_if (td_w (wd_or (td_not (td_val (pd_isi (T := "tuple") (Tn := "tuple") (pd_var 0) B.isinstance B.tuple))) (wd_or1 (td_cmp op_ne rd_neS (pd_blt (id := "len") call_len rc_len B.len (ad_cons (pd_var 0) ad_nil)) (pd_var 1))))) (bd_one (sd_ret (ρ' := [.dat p0, .dat p1, .dat p2, .no]) pd_bl)) (bd_nil (s := ()) (e := fun s1 => [.dat p0, .dat p1, .dat p2, .no]) ⟨.inr rfl, ⟨.inr rfl, ⟨.inr rfl, ⟨.inr rfl, trivial⟩⟩⟩⟩)) fun s1 =>
  (bd_cons (sd_as (e2 := fun s6 => [.dat p0, .dat p1, .dat p2, .no]) (sd_for (S := Unit) (j := 3) (s0 := ()) (emb := fun s2 => [.dat p0, .dat p1, .dat p2, .no]) (ρb := fun s2 x3 => [.dat p0, .dat p1, .dat p2, .dat x3]) nd hp (id_tup (pd_var 0)) ⟨.inr rfl, ⟨.inr rfl, ⟨.inr rfl, ⟨.inr rfl, trivial⟩⟩⟩⟩ (fun _ _ => rfl) fun s2 x3 =>
  (bd_cons (S := Unit) (e1 := fun s4 => [.dat p0, .dat p1, .dat p2, .dat x3]) (sd_if (td_not (td_val (pd_fn c_is_number (hr.mono (by decide)) (ad_cons (pd_var 3) ad_nil)))) (bd_one (sd_ret (ρ' := [.dat p0, .dat p1, .dat p2, .dat x3]) pd_bl)) (bd_nil (s := ()) (e := fun s4 => [.dat p0, .dat p1, .dat p2, .dat x3]) ⟨.inr rfl, ⟨.inr rfl, ⟨.inr rfl, ⟨.inr rfl, trivial⟩⟩⟩⟩)) fun s4 =>
  (bd_cons (S := Unit) (e1 := fun s5 => [.dat p0, .dat p1, .dat p2, .dat x3]) (sd_if (td_w (wd_and (td_cmp op_notN rd_isnN (pd_var 2) pd_non) (wd_and1 (td_cmp op_ge rd_ge (pd_var 3) (pd_var 2))))) (bd_one (sd_ret (ρ' := [.dat p0, .dat p1, .dat p2, .dat x3]) pd_bl)) (bd_nil (s := ()) (e := fun s5 => [.dat p0, .dat p1, .dat p2, .dat x3]) ⟨.inr rfl, ⟨.inr rfl, ⟨.inr rfl, ⟨.inr rfl, trivial⟩⟩⟩⟩)) fun s5 =>
  (bd_nil (s := ()) (e := fun s2 => [.dat p0, .dat p1, .dat p2, .no]) ⟨.inr rfl, ⟨.inr rfl, ⟨.inr rfl, ⟨.inl rfl, trivial⟩⟩⟩⟩)))) (fun _ => rfl)) fun s6 =>
  (bd_one (sd_ret (ρ' := [.dat p0, .dat p1, .dat p2, .no]) pd_bl))))⟩

end UT
end
section
set_option Elab.async false
set_option linter.all false
set_option maxRecDepth 100000
set_option maxHeartbeats 4000000
namespace UT
open PySem PySem.Spec PyProof.Rows L2
theorem sc_law_asks_due : FnScope ["_law_text", "_law_parts", "_law_out", "_law_k", "_law_ends", "_law_ask"] ["_law_text"] (defScope st_law_asks_due) := ⟨rfl, rfl, rfl, by decide +kernel, rfl, by decide +kernel, by decide +kernel⟩
theorem ok_law_asks_due {P : Program} {w : World} {K : PySem.W.Frag} {mg : Str → Option Value} {base : Heap} {f : Addr} {fd : FuncData} (Fn : FnP K "_law_asks_due" "_law_asks_due" st_law_asks_due f fd) (B : Blt mg) (c_law_figures : Cal P w K mg base "_law_figures" 1 1 F_law_figures) (c_law_no : Cal P w K mg base "_law_no" 1 1 F_law_no) :
    FnOk P w K mg base (L2.CX P w) 2 f fd ["_law_text"] (SpF K F_law_asks_due 1) := by
  refine fnF Fn sc_law_asks_due rfl fun cdv A outer s H E hr ds hl => ?_
  match ds, hl with
  | [p0], _ =>
    have nd := sc_law_asks_due.nd
    have hp : PassesOwn (model P w) (cxOf (L2.CX P w) P w K mg base ["_law_text", "_law_parts", "_law_out", "_law_k", "_law_ends", "_law_ask"] "_law_asks_due" (defScope st_law_asks_due) f cdv A outer s H E).A (cxOf (L2.CX P w) P w K mg base ["_law_text", "_law_parts", "_law_out", "_law_k", "_law_ends", "_law_ask"] "_law_asks_due" (defScope st_law_asks_due) f cdv A outer s H E).env (cxOf (L2.CX P w) P w K mg base ["_law_text", "_law_parts", "_law_out", "_law_k", "_law_ends", "_law_ask"] "_law_asks_due" (defScope st_law_asks_due) f cdv A outer s H E).xe := passes_of rfl
    exact ⟨Unit, _, false, m_law_asks_due p0, fun _ => [], rfl, by
    unfold m_law_asks_due
    exact (bd_cons (sd_as (e2 := fun d1 => [.dat p0, .dat d1, .no, .no, .no, .no]) (sd_asg (i := 1) nd (pd_m1 F.slot_str_split F.type_str_split mt_split rm_split (pd_var 0) pd_str)) (fun _ => rfl)) fun d1 =>
  (bd_cons (S := Unit) (e1 := fun s2 => [.dat p0, .dat d1, .no, .no, .no, .no]) (sd_if (td_cmp op_eq rd_eqS (pd_ix (pd_var 1) pd_int) pd_str) (bd_one (sd_ret (ρ' := [.dat p0, .dat d1, .no, .no, .no, .no]) (pd_ix (pd_tup (ad_cons (pd_tup (ad_cons pd_str (ad_cons (pd_tup ad_nil) ad_nil))) (ad_cons (pd_fn c_law_no (hr.mono (by decide)) (ad_cons pd_int ad_nil)) ad_nil))) (pd_ty (T := "int") call_int1 rc_int1 B.int (ad_cons (pd_cmp op_gt rd_gt (pd_blt (id := "len") call_len rc_len B.len (ad_cons (pd_var 1) ad_nil)) pd_int) ad_nil))))) (bd_nil (s := ()) (e := fun s2 => [.dat p0, .dat d1, .no, .no, .no, .no]) ⟨.inr rfl, ⟨.inr rfl, ⟨.inr rfl, ⟨.inr rfl, ⟨.inr rfl, ⟨.inr rfl, trivial⟩⟩⟩⟩⟩⟩)) fun s2 =>
  (bd_cons (sd_as (e2 := fun l3 => [.dat p0, .dat d1, .own l3, .no, .no, .no]) (sd_own (i := 2) nd (ad_cons (pd_tup (ad_cons (pd_neg pd_int) (ad_cons (pd_neg pd_int) ad_nil))) ad_nil)) (fun _ => rfl)) fun l3 =>
  (bd_cons (sd_as (e2 := fun s11 => [.dat p0, .dat d1, .own s11, .no, .no, .no]) (sd_for (S := List PyData) (j := 3) (s0 := l3) (emb := fun s4 => [.dat p0, .dat d1, .own s4, .no, .no, .no]) (ρb := fun s4 x5 => [.dat p0, .dat d1, .own s4, .dat x5, .no, .no]) nd hp (id_rng1 B.range (ad_cons (pd_blt (id := "len") call_len rc_len B.len (ad_cons (pd_var 1) ad_nil)) ad_nil)) ⟨.inr rfl, ⟨.inr rfl, ⟨.inr rfl, ⟨.inr rfl, ⟨.inr rfl, ⟨.inr rfl, trivial⟩⟩⟩⟩⟩⟩ (fun _ _ => rfl) fun s4 x5 =>
  (bd_cons (sd_as (e2 := fun d6 => [.dat p0, .dat d1, .own s4, .dat x5, .dat d6, .no]) (sd_asg (i := 4) nd (pd_m1 F.slot_str_split F.type_str_split mt_split rm_split (pd_ix (pd_var 1) (pd_var 3)) pd_str)) (fun _ => rfl)) fun d6 =>
  (bd_cons (S := Unit) (e1 := fun s7 => [.dat p0, .dat d1, .own s4, .dat x5, .dat d6, .no]) (sd_if (td_w (wd_or (td_cmp op_ne rd_neS (pd_blt (id := "len") call_len rc_len B.len (ad_cons (pd_var 4) ad_nil)) pd_int) (wd_or (td_not (td_val (pd_fn c_law_figures (hr.mono (by decide)) (ad_cons (pd_ix (pd_var 4) pd_int) ad_nil)))) (wd_or1 (td_not (td_val (pd_fn c_law_figures (hr.mono (by decide)) (ad_cons (pd_ix (pd_var 4) pd_int) ad_nil)))))))) (bd_one (sd_ret (ρ' := [.dat p0, .dat d1, .dat (.list s4), .dat x5, .dat d6, .no]) (pd_fn c_law_no (hr.mono (by decide)) (ad_cons (pd_var 3) ad_nil)))) (bd_nil (s := ()) (e := fun s7 => [.dat p0, .dat d1, .own s4, .dat x5, .dat d6, .no]) ⟨.inr rfl, ⟨.inr rfl, ⟨.inr rfl, ⟨.inr rfl, ⟨.inr rfl, ⟨.inr rfl, trivial⟩⟩⟩⟩⟩⟩)) fun s7 =>
  (bd_cons (sd_as (e2 := fun d8 => [.dat p0, .dat d1, .own s4, .dat x5, .dat d6, .dat d8]) (sd_asg (i := 5) nd (pd_tup (ad_cons (pd_ty (T := "int") call_int_str rc_intS B.int (ad_cons (pd_ix (pd_var 4) pd_int) ad_nil)) (ad_cons (pd_ty (T := "int") call_int_str rc_intS B.int (ad_cons (pd_ix (pd_var 4) pd_int) ad_nil)) ad_nil)))) (fun _ => rfl)) fun d8 =>
  (bd_cons (S := Unit) (e1 := fun s9 => [.dat p0, .dat d1, .own s4, .dat x5, .dat d6, .dat d8]) (sd_if (td_un (ρ' := [.dat p0, .dat d1, .dat (.list s4), .dat x5, .dat d6, .dat d8]) (td_w (wd_or (td_cmp op_ge rd_ge (pd_ix (pd_var 5) pd_int) (pd_ix (pd_var 5) pd_int)) (wd_or1 (td_cmp (op_leT (hu0 hr)) rd_leT (pd_var 5) (pd_ix (pd_var 2) (pd_neg pd_int))))))) (bd_one (sd_ret (ρ' := [.dat p0, .dat d1, .dat (.list s4), .dat x5, .dat d6, .dat d8]) (pd_fn c_law_no (hr.mono (by decide)) (ad_cons (pd_var 3) ad_nil)))) (bd_nil (s := ()) (e := fun s9 => [.dat p0, .dat d1, .own s4, .dat x5, .dat d6, .dat d8]) ⟨.inr rfl, ⟨.inr rfl, ⟨.inr rfl, ⟨.inr rfl, ⟨.inr rfl, ⟨.inr rfl, trivial⟩⟩⟩⟩⟩⟩)) fun s9 =>
  (bd_cons (sd_as (e2 := fun l10 => [.dat p0, .dat d1, .own l10, .dat x5, .dat d6, .dat d8]) (sd_app (i := 2) (pd_var 5)) (fun _ => rfl)) fun l10 =>
  (bd_nil (s := l10) (e := fun s4 => [.dat p0, .dat d1, .own s4, .no, .no, .no]) ⟨.inr rfl, ⟨.inr rfl, ⟨.inr rfl, ⟨.inl rfl, ⟨.inl rfl, ⟨.inl rfl, trivial⟩⟩⟩⟩⟩⟩))))))) (fun _ => rfl)) fun s11 =>
  (bd_one (sd_ret (ρ' := [.dat p0, .dat d1, .dat (.list s11), .no, .no, .no]) (pd_tup (ad_cons pd_str (ad_cons (pd_ty (T := "tuple") call_tuple_of rc_tup B.tuple (ad_cons (pd_slice sl_list rs_L (pd_var 2) (od_some pd_int) od_none) ad_nil)) ad_nil)))))))))⟩

end UT
end
section
set_option Elab.async false
set_option linter.all false
set_option maxRecDepth 100000
set_option maxHeartbeats 4000000
namespace UT
open PySem PySem.Spec PyProof.Rows L2
theorem sc_law_asks_line : FnScope ["_law_asks", "_law_ask"] ["_law_asks"] (defScope st_law_asks_line) := ⟨rfl, rfl, rfl, by decide +kernel, rfl, by decide +kernel, by decide +kernel⟩
theorem ok_law_asks_line {P : Program} {w : World} {K : PySem.W.Frag} {mg : Str → Option Value} {base : Heap} {f : Addr} {fd : FuncData} (Fn : FnP K "_law_asks_line" "_law_asks_line" st_law_asks_line f fd) (B : Blt mg) :
    FnOk P w K mg base (L2.CX P w) 1 f fd ["_law_asks"] (SpF K F_law_asks_line 1) := by
  refine fnF Fn sc_law_asks_line rfl fun cdv A outer s H E hr ds hl => ?_
  match ds, hl with
  | [p0], _ =>
    have nd := sc_law_asks_line.nd
    exact ⟨Unit, _, false, m_law_asks_line p0, fun _ => [], rfl, by
    unfold m_law_asks_line
    exact (bd_one (sd_ret (ρ' := [.dat p0, .no]) (pd_m1 F.slot_str_join F.type_str_join mt_join rm_join pd_str (pd_op op_cat rd_cat (pd_lcZ (own := [("_law_ask", 1)]) (j := 1) (ρw := [.dat p0, .no]) (ρb := fun x1 => [.dat p0, .dat x1]) nd (id_tup (pd_var 0)) (blkOk_by rfl) rfl rfl (fun _ => rfl) (fun x1 => (pd_op op_add_str rd_addS (pd_op op_add_str rd_addS (pd_ty (T := "str") call_strE rc_str B.str (ad_cons (pd_ix (pd_var 1) pd_int) ad_nil)) pd_str) (pd_ty (T := "str") call_strE rc_str B.str (ad_cons (pd_ix (pd_var 1) pd_int) ad_nil)))) (fun _ _ _ _ _ x1 => (pd_op op_add_str rd_addS (pd_op op_add_str rd_addS (pd_ty (T := "str") call_strE rc_str B.str (ad_cons (pd_ix (pd_var 1) pd_int) ad_nil)) pd_str) (pd_ty (T := "str") call_strE rc_str B.str (ad_cons (pd_ix (pd_var 1) pd_int) ad_nil)))) (hg := fun _ _ _ _ _ => pg_name nd rfl (Or.inl rfl))) (pd_op op_rep rd_rep (pd_lst (ad_cons pd_str ad_nil)) (pd_ty (T := "int") call_int1 rc_int1 B.int (ad_cons (pd_cmp op_eq rd_eqS (pd_blt (id := "len") call_len rc_len B.len (ad_cons (pd_var 0) ad_nil)) pd_int) ad_nil)))))))⟩

end UT
end
section
set_option Elab.async false
set_option linter.all false
set_option maxRecDepth 100000
set_option maxHeartbeats 4000000
namespace UT
open PySem PySem.Spec PyProof.Rows L2
theorem sc_law_due : FnScope ["_law_which", "_law_op", "_law_text"] ["_law_which", "_law_op", "_law_text"] (defScope st_law_due) := ⟨rfl, rfl, rfl, by decide +kernel, rfl, by decide +kernel, by decide +kernel⟩
theorem ok_law_due {P : Program} {w : World} {K : PySem.W.Frag} {mg : Str → Option Value} {base : Heap} {f : Addr} {fd : FuncData} (Fn : FnP K "_law_due" "_law_due" st_law_due f fd) (B : Blt mg) (c_law_asks_due : Cal P w K mg base "_law_asks_due" 2 1 F_law_asks_due) (c_law_history_due : Cal P w K mg base "_law_history_due" 2 1 F_law_history_due) (c_law_operation_due : Cal P w K mg base "_law_operation_due" 2 1 F_law_operation_due) (c_law_value_due : Cal P w K mg base "_law_value_due" 2 2 F_law_value_due) :
    FnOk P w K mg base (L2.CX P w) 3 f fd ["_law_which", "_law_op", "_law_text"] (SpF K F_law_due 3) := by
  refine fnF Fn sc_law_due rfl fun cdv A outer s H E hr ds hl => ?_
  match ds, hl with
  | [p0, p1, p2], _ =>
    have nd := sc_law_due.nd
    exact ⟨Unit, _, false, m_law_due p0 p1 p2, fun _ => [], rfl, by
    unfold m_law_due
    exact (bd_cons (S := Unit) (e1 := fun s1 => [.dat p0, .dat p1, .dat p2]) (sd_if (td_cmp op_eq rd_eqS (pd_var 0) pd_str) (bd_one (sd_ret (ρ' := [.dat p0, .dat p1, .dat p2]) (pd_fn c_law_operation_due (hr.mono (by decide)) (ad_cons (pd_var 2) ad_nil)))) (bd_nil (s := ()) (e := fun s1 => [.dat p0, .dat p1, .dat p2]) ⟨.inr rfl, ⟨.inr rfl, ⟨.inr rfl, trivial⟩⟩⟩)) fun s1 =>
  (bd_cons (S := Unit) (e1 := fun s2 => [.dat p0, .dat p1, .dat p2]) (sd_if (td_cmp op_eq rd_eqS (pd_var 0) pd_str) (bd_one (sd_ret (ρ' := [.dat p0, .dat p1, .dat p2]) (pd_fn c_law_value_due (hr.mono (by decide)) (ad_cons (pd_var 1) (ad_cons (pd_var 2) ad_nil))))) (bd_nil (s := ()) (e := fun s2 => [.dat p0, .dat p1, .dat p2]) ⟨.inr rfl, ⟨.inr rfl, ⟨.inr rfl, trivial⟩⟩⟩)) fun s2 =>
  (bd_cons (S := Unit) (e1 := fun s3 => [.dat p0, .dat p1, .dat p2]) (sd_if (td_cmp op_eq rd_eqS (pd_var 0) pd_str) (bd_one (sd_ret (ρ' := [.dat p0, .dat p1, .dat p2]) (pd_fn c_law_asks_due (hr.mono (by decide)) (ad_cons (pd_var 2) ad_nil)))) (bd_nil (s := ()) (e := fun s3 => [.dat p0, .dat p1, .dat p2]) ⟨.inr rfl, ⟨.inr rfl, ⟨.inr rfl, trivial⟩⟩⟩)) fun s3 =>
  (bd_one (sd_ret (ρ' := [.dat p0, .dat p1, .dat p2]) (pd_fn c_law_history_due (hr.mono (by decide)) (ad_cons (pd_var 2) ad_nil)))))))⟩

end UT
end
section
set_option Elab.async false
set_option linter.all false
set_option maxRecDepth 100000
set_option maxHeartbeats 4000000
namespace UT
open PySem PySem.Spec PyProof.Rows L2
theorem sc_law_events : FnScope ["_law_n", "_law_out", "_law_inside", "_law_k", "_law_kind", "_law_size"] ["_law_n"] (defScope st_law_events) := ⟨rfl, rfl, rfl, by decide +kernel, rfl, by decide +kernel, by decide +kernel⟩
theorem ok_law_events {P : Program} {w : World} {K : PySem.W.Frag} {mg : Str → Option Value} {base : Heap} {f : Addr} {fd : FuncData} (Fn : FnP K "_law_events" "_law_events" st_law_events f fd) (B : Blt mg) :
    FnOk P w K mg base (L2.CX P w) 1 f fd ["_law_n"] (SpF K F_law_events 1) := by
  refine fnF Fn sc_law_events rfl fun cdv A outer s H E hr ds hl => ?_
  match ds, hl with
  | [p0], _ =>
    have nd := sc_law_events.nd
    have hp : PassesOwn (model P w) (cxOf (L2.CX P w) P w K mg base ["_law_n", "_law_out", "_law_inside", "_law_k", "_law_kind", "_law_size"] "_law_events" (defScope st_law_events) f cdv A outer s H E).A (cxOf (L2.CX P w) P w K mg base ["_law_n", "_law_out", "_law_inside", "_law_k", "_law_kind", "_law_size"] "_law_events" (defScope st_law_events) f cdv A outer s H E).env (cxOf (L2.CX P w) P w K mg base ["_law_n", "_law_out", "_law_inside", "_law_k", "_law_kind", "_law_size"] "_law_events" (defScope st_law_events) f cdv A outer s H E).xe := passes_of rfl
    exact ⟨Unit, _, false, m_law_events p0, fun _ => [], rfl, by
    unfold m_law_events
    exact (bd_cons (sd_as (e2 := fun l1 => [.dat p0, .own l1, .no, .no, .no, .no]) (sd_own (i := 1) nd ad_nil) (fun _ => rfl)) fun l1 =>
  (bd_cons (sd_as (e2 := fun d2 => [.dat p0, .own l1, .dat d2, .no, .no, .no]) (sd_asg (i := 2) nd pd_int) (fun _ => rfl)) fun d2 =>
  (bd_cons (sd_as (e2 := fun s14 => [.dat p0, .own s14.1, .dat s14.2, .no, .no, .no]) (sd_for (S := List PyData × PyData) (j := 3) (s0 := (l1, d2)) (emb := fun s3 => [.dat p0, .own s3.1, .dat s3.2, .no, .no, .no]) (ρb := fun s3 x4 => [.dat p0, .own s3.1, .dat s3.2, .dat x4, .no, .no]) nd hp (id_rng1 B.range (ad_cons (pd_ix (pd_var 0) pd_int) ad_nil)) ⟨.inr rfl, ⟨.inr rfl, ⟨.inr rfl, ⟨.inr rfl, ⟨.inr rfl, ⟨.inr rfl, trivial⟩⟩⟩⟩⟩⟩ (fun _ _ => rfl) fun s3 x4 =>
  (bd_cons (sd_as (e2 := fun d5 => [.dat p0, .own s3.1, .dat s3.2, .dat x4, .dat d5, .no]) (sd_asg (i := 4) nd (pd_op op_modN rd_mod (pd_ty (T := "int") call_int1 rc_int1 B.int (ad_cons (pd_ix (pd_var 0) (pd_op op_add rd_add pd_int (pd_var 3))) ad_nil)) pd_int)) (fun _ => rfl)) fun d5 =>
  (bd_cons (sd_as (e2 := fun d6 => [.dat p0, .own s3.1, .dat s3.2, .dat x4, .dat d5, .dat d6]) (sd_asg (i := 5) nd (pd_op op_add rd_add pd_int (pd_op op_modN rd_mod (pd_ty (T := "int") call_int1 rc_int1 B.int (ad_cons (pd_op op_fdivN rd_fdiv (pd_ix (pd_var 0) (pd_op op_add rd_add pd_int (pd_var 3))) pd_int) ad_nil)) (pd_op op_add rd_add pd_int (pd_op op_mul rd_mul pd_int (pd_ty (T := "int") call_int1 rc_int1 B.int (ad_cons (pd_cmp op_eq rd_eqS (pd_ix (pd_var 0) pd_int) pd_int) ad_nil))))))) (fun _ => rfl)) fun d6 =>
  (bd_cons (S := List PyData × PyData) (e1 := fun s7 => [.dat p0, .own s7.1, .dat s7.2, .dat x4, .dat d5, .dat d6]) (sd_if (td_w (wd_and (td_cmp op_eq rd_eqS (pd_var 4) pd_int) (wd_and1 (td_cmp op_gt rd_gt (pd_var 2) pd_int)))) (bd_cons (sd_as (e2 := fun l8 => [.dat p0, .own l8, .dat s3.2, .dat x4, .dat d5, .dat d6]) (sd_app (i := 1) (pd_tup (ad_cons pd_str (ad_cons (pd_blt (id := "min") (call_min2 rfl) rc_min B.min (ad_cons (pd_var 5) (ad_cons (pd_var 2) ad_nil))) ad_nil)))) (fun _ => rfl)) fun l8 =>
  (bd_cons (sd_as (e2 := fun d9 => [.dat p0, .own l8, .dat d9, .dat x4, .dat d5, .dat d6]) (sd_asg (i := 2) nd (pd_op op_sub rd_sub (pd_var 2) (pd_blt (id := "min") (call_min2 rfl) rc_min B.min (ad_cons (pd_var 5) (ad_cons (pd_var 2) ad_nil))))) (fun _ => rfl)) fun d9 =>
  (bd_nil (s := (l8, d9)) (e := fun s7 => [.dat p0, .own s7.1, .dat s7.2, .dat x4, .dat d5, .dat d6]) ⟨.inr rfl, ⟨.inr rfl, ⟨.inr rfl, ⟨.inr rfl, ⟨.inr rfl, ⟨.inr rfl, trivial⟩⟩⟩⟩⟩⟩))) (bd_cons (S := List PyData × PyData) (e1 := fun s10 => [.dat p0, .own s10.1, .dat s10.2, .dat x4, .dat d5, .dat d6]) (sd_if (td_w (wd_or (td_cmp op_eq rd_eqS (pd_var 4) pd_int) (wd_or1 (td_cmp op_gt rd_gt (pd_var 2) pd_int)))) (bd_cons (sd_as (e2 := fun l11 => [.dat p0, .own l11, .dat s3.2, .dat x4, .dat d5, .dat d6]) (sd_app (i := 1) (pd_tup (ad_cons pd_str ad_nil))) (fun _ => rfl)) fun l11 =>
  (bd_nil (s := (l11, s3.2)) (e := fun s10 => [.dat p0, .own s10.1, .dat s10.2, .dat x4, .dat d5, .dat d6]) ⟨.inr rfl, ⟨.inr rfl, ⟨.inr rfl, ⟨.inr rfl, ⟨.inr rfl, ⟨.inr rfl, trivial⟩⟩⟩⟩⟩⟩)) (bd_cons (sd_as (e2 := fun l12 => [.dat p0, .own l12, .dat s3.2, .dat x4, .dat d5, .dat d6]) (sd_app (i := 1) (pd_tup (ad_cons pd_str (ad_cons (pd_var 5) ad_nil)))) (fun _ => rfl)) fun l12 =>
  (bd_cons (sd_as (e2 := fun d13 => [.dat p0, .own l12, .dat d13, .dat x4, .dat d5, .dat d6]) (sd_asg (i := 2) nd (pd_op op_add rd_add (pd_var 2) (pd_var 5))) (fun _ => rfl)) fun d13 =>
  (bd_nil (s := (l12, d13)) (e := fun s10 => [.dat p0, .own s10.1, .dat s10.2, .dat x4, .dat d5, .dat d6]) ⟨.inr rfl, ⟨.inr rfl, ⟨.inr rfl, ⟨.inr rfl, ⟨.inr rfl, ⟨.inr rfl, trivial⟩⟩⟩⟩⟩⟩)))) fun s10 =>
  (bd_nil (s := (s10.1, s10.2)) (e := fun s7 => [.dat p0, .own s7.1, .dat s7.2, .dat x4, .dat d5, .dat d6]) ⟨.inr rfl, ⟨.inr rfl, ⟨.inr rfl, ⟨.inr rfl, ⟨.inr rfl, ⟨.inr rfl, trivial⟩⟩⟩⟩⟩⟩))) fun s7 =>
  (bd_nil (s := (s7.1, s7.2)) (e := fun s3 => [.dat p0, .own s3.1, .dat s3.2, .no, .no, .no]) ⟨.inr rfl, ⟨.inr rfl, ⟨.inr rfl, ⟨.inl rfl, ⟨.inl rfl, ⟨.inl rfl, trivial⟩⟩⟩⟩⟩⟩))))) (fun _ => rfl)) fun s14 =>
  (bd_one (sd_ret (ρ' := [.dat p0, .dat (.list s14.1), .dat s14.2, .no, .no, .no]) (pd_ty (T := "tuple") call_tuple_of rc_tup B.tuple (ad_cons (pd_var 1) ad_nil)))))))⟩

end UT
end
section
set_option Elab.async false
set_option linter.all false
set_option maxRecDepth 100000
set_option maxHeartbeats 4000000
namespace UT
open PySem PySem.Spec PyProof.Rows L2
theorem sc_law_figures : FnScope ["_law_part", "_law_sign"] ["_law_part"] (defScope st_law_figures) := ⟨rfl, rfl, rfl, by decide +kernel, rfl, by decide +kernel, by decide +kernel⟩
theorem ok_law_figures {P : Program} {w : World} {K : PySem.W.Frag} {mg : Str → Option Value} {base : Heap} {f : Addr} {fd : FuncData} (Fn : FnP K "_law_figures" "_law_figures" st_law_figures f fd) (B : Blt mg) :
    FnOk P w K mg base (L2.CX P w) 1 f fd ["_law_part"] (SpF K F_law_figures 1) := by
  refine fnF Fn sc_law_figures rfl fun cdv A outer s H E hr ds hl => ?_
  match ds, hl with
  | [p0], _ =>
    have nd := sc_law_figures.nd
    have hp : PassesOwn (model P w) (cxOf (L2.CX P w) P w K mg base ["_law_part", "_law_sign"] "_law_figures" (defScope st_law_figures) f cdv A outer s H E).A (cxOf (L2.CX P w) P w K mg base ["_law_part", "_law_sign"] "_law_figures" (defScope st_law_figures) f cdv A outer s H E).env (cxOf (L2.CX P w) P w K mg base ["_law_part", "_law_sign"] "_law_figures" (defScope st_law_figures) f cdv A outer s H E).xe := passes_of rfl
    exact ⟨Unit, _, false, m_law_figures p0, fun _ => [], rfl, by
    unfold m_law_figures
    exact (bd_cons (sd_as (e2 := fun s4 => [.dat p0, .no]) (sd_for (S := Unit) (j := 1) (s0 := ()) (emb := fun s1 => [.dat p0, .no]) (ρb := fun s1 x2 => [.dat p0, .dat x2]) nd hp (id_str (pd_var 0)) ⟨.inr rfl, ⟨.inr rfl, trivial⟩⟩ (fun _ _ => rfl) fun s1 x2 =>
  (bd_cons (S := Unit) (e1 := fun s3 => [.dat p0, .dat x2]) (sd_if (td_cmp op_notIn_sign rd_ninS (pd_var 1) pd_str) (bd_one (sd_ret (ρ' := [.dat p0, .dat x2]) pd_bl)) (bd_nil (s := ()) (e := fun s3 => [.dat p0, .dat x2]) ⟨.inr rfl, ⟨.inr rfl, trivial⟩⟩)) fun s3 =>
  (bd_nil (s := ()) (e := fun s1 => [.dat p0, .no]) ⟨.inr rfl, ⟨.inl rfl, trivial⟩⟩))) (fun _ => rfl)) fun s4 =>
  (bd_one (sd_ret (ρ' := [.dat p0, .no]) (pd_and (pd_cmp op_gt rd_gt (pd_blt (id := "len") call_len rc_len B.len (ad_cons (pd_var 0) ad_nil)) pd_int) (pd_one (pd_or (pd_cmp op_eq rd_eqS (pd_var 0) pd_str) (pd_one (pd_cmp op_ne rd_neS (pd_ix (pd_var 0) pd_int) pd_str))))))))⟩

end UT
end
section
set_option Elab.async false
set_option linter.all false
set_option maxRecDepth 100000
set_option maxHeartbeats 4000000
namespace UT
open PySem PySem.Spec PyProof.Rows L2
theorem sc_law_history_due : FnScope ["_law_text", "_law_parts", "_law_inside", "_law_stage", "_law_out", "_law_k", "_law_size"] ["_law_text"] (defScope st_law_history_due) := ⟨rfl, rfl, rfl, by decide +kernel, rfl, by decide +kernel, by decide +kernel⟩
theorem ok_law_history_due {P : Program} {w : World} {K : PySem.W.Frag} {mg : Str → Option Value} {base : Heap} {f : Addr} {fd : FuncData} (Fn : FnP K "_law_history_due" "_law_history_due" st_law_history_due f fd) (B : Blt mg) (c_law_figures : Cal P w K mg base "_law_figures" 1 1 F_law_figures) (c_law_no : Cal P w K mg base "_law_no" 1 1 F_law_no) :
    FnOk P w K mg base (L2.CX P w) 2 f fd ["_law_text"] (SpF K F_law_history_due 1) := by
  refine fnFT Fn sc_law_history_due rfl (by decide) (by decide +kernel) fun cdv A outer s H E hr ds hl => ?_
  match ds, hl with
  | [p0], _ =>
    have nd := sc_law_history_due.nd
    have hp : PassesOwn (model P w) (cxOf (L2.CX P w) P w K mg base ["_law_text", "_law_parts", "_law_inside", "_law_stage", "_law_out", "_law_k", "_law_size"] "_law_history_due" (defScope st_law_history_due) f cdv A outer s H E).A (cxOf (L2.CX P w) P w K mg base ["_law_text", "_law_parts", "_law_inside", "_law_stage", "_law_out", "_law_k", "_law_size"] "_law_history_due" (defScope st_law_history_due) f cdv A outer s H E).env (cxOf (L2.CX P w) P w K mg base ["_law_text", "_law_parts", "_law_inside", "_law_stage", "_law_out", "_law_k", "_law_size"] "_law_history_due" (defScope st_law_history_due) f cdv A outer s H E).xe := passes_of rfl
    exact ⟨Unit, _, false, m_law_history_due p0, fun _ => [], rfl, by
    unfold m_law_history_due
    exact (bdt_cons (sdt_as (e2 := fun d1 => [.dat p0, .dat d1, .no, .no, .no, .no, .no]) (sdt_of (sd_asg (i := 1) nd (pd_m1 F.slot_str_split F.type_str_split mt_split rm_split (pd_var 0) pd_str))) (fun _ => rfl)) fun d1 =>
  (bdt_cons (S := Unit) (e1 := fun s2 => [.dat p0, .dat d1, .no, .no, .no, .no, .no]) (sdt_of (sd_if (td_cmp op_eq rd_eqS (pd_ix (pd_var 1) pd_int) pd_str) (bd_one (sd_ret (ρ' := [.dat p0, .dat d1, .no, .no, .no, .no, .no]) (pd_ix (pd_tup (ad_cons (pd_tup (ad_cons pd_str (ad_cons (pd_tup ad_nil) ad_nil))) (ad_cons (pd_fn c_law_no (hr.mono (by decide)) (ad_cons pd_int ad_nil)) ad_nil))) (pd_ty (T := "int") call_int1 rc_int1 B.int (ad_cons (pd_cmp op_gt rd_gt (pd_blt (id := "len") call_len rc_len B.len (ad_cons (pd_var 1) ad_nil)) pd_int) ad_nil))))) (bd_nil (s := ()) (e := fun s2 => [.dat p0, .dat d1, .no, .no, .no, .no, .no]) ⟨.inr rfl, ⟨.inr rfl, ⟨.inr rfl, ⟨.inr rfl, ⟨.inr rfl, ⟨.inr rfl, ⟨.inr rfl, trivial⟩⟩⟩⟩⟩⟩⟩))) fun s2 =>
  (bdt_cons (sdt_as (e2 := fun d3 => [.dat p0, .dat d1, .dat d3, .no, .no, .no, .no]) (sdt_of (sd_asg (i := 2) nd pd_int)) (fun _ => rfl)) fun d3 =>
  (bdt_cons (sdt_as (e2 := fun d4 => [.dat p0, .dat d1, .dat d3, .dat d4, .no, .no, .no]) (sdt_of (sd_asg (i := 3) nd pd_str)) (fun _ => rfl)) fun d4 =>
  (bdt_cons (sdt_as (e2 := fun l5 => [.dat p0, .dat d1, .dat d3, .dat d4, .own l5, .no, .no]) (sdt_of (sd_own (i := 4) nd ad_nil)) (fun _ => rfl)) fun l5 =>
  (bdt_cons (sdt_as (e2 := fun s20 => [.dat p0, .dat d1, .dat s20.2.2, .dat s20.1, .own s20.2.1, .no, .no]) (sdt_for (S := PyData × List PyData × PyData) (j := 5) (s0 := (d4, l5, d3)) (emb := fun s6 => [.dat p0, .dat d1, .dat s6.2.2, .dat s6.1, .own s6.2.1, .no, .no]) (ρb := fun s6 x7 => [.dat p0, .dat d1, .dat s6.2.2, .dat s6.1, .own s6.2.1, .dat x7, .no]) nd hp (id_rng1 B.range (ad_cons (pd_blt (id := "len") call_len rc_len B.len (ad_cons (pd_var 1) ad_nil)) ad_nil)) ⟨.inr rfl, ⟨.inr rfl, ⟨.inr rfl, ⟨.inr rfl, ⟨.inr rfl, ⟨.inr rfl, ⟨.inr rfl, trivial⟩⟩⟩⟩⟩⟩⟩ (fun _ _ => rfl) fun s6 x7 =>
  (bdt_cons (sdt_as (e2 := fun d8 => [.dat p0, .dat d1, .dat s6.2.2, .dat s6.1, .own s6.2.1, .dat x7, .dat d8]) (sdt_asg (i := 6) nd (pdt_repl (pd_ix (pd_var 1) (pd_var 5)))) (fun _ => rfl)) fun d8 =>
  (bdt_of (bd_cons (S := Unit) (e1 := fun s9 => [.dat p0, .dat d1, .dat s6.2.2, .dat s6.1, .own s6.2.1, .dat x7, .dat d8]) (sd_if (td_w (wd_or (td_cmp op_eq rd_eqS (pd_var 3) pd_str) (wd_or1 (td_cmp op_notIn_seq rd_ninT (pd_ix (pd_var 1) (pd_var 5)) (pd_tup (ad_cons (pd_var 6) (ad_cons (pd_op op_add_str rd_addS (pd_var 6) pd_str) ad_nil))))))) (bd_one (sd_ret (ρ' := [.dat p0, .dat d1, .dat s6.2.2, .dat s6.1, .dat (.list s6.2.1), .dat x7, .dat d8]) (pd_fn c_law_no (hr.mono (by decide)) (ad_cons (pd_var 5) ad_nil)))) (bd_nil (s := ()) (e := fun s9 => [.dat p0, .dat d1, .dat s6.2.2, .dat s6.1, .own s6.2.1, .dat x7, .dat d8]) ⟨.inr rfl, ⟨.inr rfl, ⟨.inr rfl, ⟨.inr rfl, ⟨.inr rfl, ⟨.inr rfl, ⟨.inr rfl, trivial⟩⟩⟩⟩⟩⟩⟩)) fun s9 =>
  (bd_cons (S := PyData × List PyData × PyData) (e1 := fun s10 => [.dat p0, .dat d1, .dat s10.2.2, .dat s10.1, .own s10.2.1, .dat x7, .dat d8]) (sd_if (td_cmp op_eq rd_eqS (pd_var 3) pd_str) (bd_cons (S := PyData × List PyData) (e1 := fun s11 => [.dat p0, .dat d1, .dat s6.2.2, .dat s11.1, .own s11.2, .dat x7, .dat d8]) (sd_if (td_w (wd_or (td_cmp op_eq rd_eqS (pd_ix (pd_var 1) (pd_var 5)) pd_str) (wd_or1 (td_w (wd_and (td_cmp op_eq rd_eqS (pd_ix (pd_var 1) (pd_var 5)) pd_str) (wd_and1 (td_cmp op_gt rd_gt (pd_var 2) pd_int))))))) (bd_cons (sd_as (e2 := fun d12 => [.dat p0, .dat d1, .dat s6.2.2, .dat d12, .own s6.2.1, .dat x7, .dat d8]) (sd_asg (i := 3) nd (pd_var 6)) (fun _ => rfl)) fun d12 =>
  (bd_nil (s := (d12, s6.2.1)) (e := fun s11 => [.dat p0, .dat d1, .dat s6.2.2, .dat s11.1, .own s11.2, .dat x7, .dat d8]) ⟨.inr rfl, ⟨.inr rfl, ⟨.inr rfl, ⟨.inr rfl, ⟨.inr rfl, ⟨.inr rfl, ⟨.inr rfl, trivial⟩⟩⟩⟩⟩⟩⟩)) (bd_cons (S := List PyData × PyData) (e1 := fun s13 => [.dat p0, .dat d1, .dat s6.2.2, .dat s13.2, .own s13.1, .dat x7, .dat d8]) (sd_if (td_cmp op_eq rd_eqS (pd_var 6) pd_str) (bd_cons (sd_as (e2 := fun l14 => [.dat p0, .dat d1, .dat s6.2.2, .dat s6.1, .own l14, .dat x7, .dat d8]) (sd_app (i := 4) (pd_tup (ad_cons pd_str ad_nil))) (fun _ => rfl)) fun l14 =>
  (bd_cons (sd_as (e2 := fun d15 => [.dat p0, .dat d1, .dat s6.2.2, .dat d15, .own l14, .dat x7, .dat d8]) (sd_asg (i := 3) nd (pd_ix (pd_tup (ad_cons pd_str (ad_cons pd_str ad_nil))) (pd_ty (T := "int") call_int1 rc_int1 B.int (ad_cons (pd_cmp op_eq rd_eqS (pd_ix (pd_var 1) (pd_var 5)) pd_str) ad_nil)))) (fun _ => rfl)) fun d15 =>
  (bd_nil (s := (l14, d15)) (e := fun s13 => [.dat p0, .dat d1, .dat s6.2.2, .dat s13.2, .own s13.1, .dat x7, .dat d8]) ⟨.inr rfl, ⟨.inr rfl, ⟨.inr rfl, ⟨.inr rfl, ⟨.inr rfl, ⟨.inr rfl, ⟨.inr rfl, trivial⟩⟩⟩⟩⟩⟩⟩))) (bd_one (sd_ret (ρ' := [.dat p0, .dat d1, .dat s6.2.2, .dat s6.1, .dat (.list s6.2.1), .dat x7, .dat d8]) (pd_fn c_law_no (hr.mono (by decide)) (ad_cons (pd_var 5) ad_nil))))) fun s13 =>
  (bd_nil (s := (s13.2, s13.1)) (e := fun s11 => [.dat p0, .dat d1, .dat s6.2.2, .dat s11.1, .own s11.2, .dat x7, .dat d8]) ⟨.inr rfl, ⟨.inr rfl, ⟨.inr rfl, ⟨.inr rfl, ⟨.inr rfl, ⟨.inr rfl, ⟨.inr rfl, trivial⟩⟩⟩⟩⟩⟩⟩))) fun s11 =>
  (bd_nil (s := (s11.1, s11.2, s6.2.2)) (e := fun s10 => [.dat p0, .dat d1, .dat s10.2.2, .dat s10.1, .own s10.2.1, .dat x7, .dat d8]) ⟨.inr rfl, ⟨.inr rfl, ⟨.inr rfl, ⟨.inr rfl, ⟨.inr rfl, ⟨.inr rfl, ⟨.inr rfl, trivial⟩⟩⟩⟩⟩⟩⟩)) (bd_cons (S := Unit) (e1 := fun s16 => [.dat p0, .dat d1, .dat s6.2.2, .dat s6.1, .own s6.2.1, .dat x7, .dat d8]) (sd_if (td_w (wd_or (td_not (td_val (pd_fn c_law_figures (hr.mono (by decide)) (ad_cons (pd_var 6) ad_nil)))) (wd_or (td_cmp op_eq rd_eqS (pd_var 6) pd_str) (wd_or1 (td_w (wd_and (td_cmp op_eq rd_eqS (pd_var 3) pd_str) (wd_and1 (td_cmp op_gt rd_gt (pd_ty (T := "int") call_int_str rc_intS B.int (ad_cons (pd_var 6) ad_nil)) (pd_var 2))))))))) (bd_one (sd_ret (ρ' := [.dat p0, .dat d1, .dat s6.2.2, .dat s6.1, .dat (.list s6.2.1), .dat x7, .dat d8]) (pd_fn c_law_no (hr.mono (by decide)) (ad_cons (pd_var 5) ad_nil)))) (bd_nil (s := ()) (e := fun s16 => [.dat p0, .dat d1, .dat s6.2.2, .dat s6.1, .own s6.2.1, .dat x7, .dat d8]) ⟨.inr rfl, ⟨.inr rfl, ⟨.inr rfl, ⟨.inr rfl, ⟨.inr rfl, ⟨.inr rfl, ⟨.inr rfl, trivial⟩⟩⟩⟩⟩⟩⟩)) fun s16 =>
  (bd_cons (sd_as (e2 := fun l17 => [.dat p0, .dat d1, .dat s6.2.2, .dat s6.1, .own l17, .dat x7, .dat d8]) (sd_app (i := 4) (pd_tup (ad_cons (pd_var 3) (ad_cons (pd_ty (T := "int") call_int_str rc_intS B.int (ad_cons (pd_var 6) ad_nil)) ad_nil)))) (fun _ => rfl)) fun l17 =>
  (bd_cons (sd_as (e2 := fun d18 => [.dat p0, .dat d1, .dat d18, .dat s6.1, .own l17, .dat x7, .dat d8]) (sd_asg (i := 2) nd (pd_op op_add rd_add (pd_var 2) (pd_op op_mul rd_mul (pd_ty (T := "int") call_int_str rc_intS B.int (ad_cons (pd_var 6) ad_nil)) (pd_op op_sub rd_sub pd_int (pd_op op_mul rd_mul pd_int (pd_ty (T := "int") call_int1 rc_int1 B.int (ad_cons (pd_cmp op_eq rd_eqS (pd_var 3) pd_str) ad_nil))))))) (fun _ => rfl)) fun d18 =>
  (bd_cons (sd_as (e2 := fun d19 => [.dat p0, .dat d1, .dat d18, .dat d19, .own l17, .dat x7, .dat d8]) (sd_asg (i := 3) nd (pd_ix (pd_tup (ad_cons pd_str (ad_cons pd_str ad_nil))) (pd_ty (T := "int") call_int1 rc_int1 B.int (ad_cons (pd_cmp op_eq rd_eqS (pd_ix (pd_var 1) (pd_var 5)) (pd_op op_add_str rd_addS (pd_var 6) pd_str)) ad_nil)))) (fun _ => rfl)) fun d19 =>
  (bd_nil (s := (d19, l17, d18)) (e := fun s10 => [.dat p0, .dat d1, .dat s10.2.2, .dat s10.1, .own s10.2.1, .dat x7, .dat d8]) ⟨.inr rfl, ⟨.inr rfl, ⟨.inr rfl, ⟨.inr rfl, ⟨.inr rfl, ⟨.inr rfl, ⟨.inr rfl, trivial⟩⟩⟩⟩⟩⟩⟩)))))) fun s10 =>
  (bd_nil (s := (s10.1, s10.2.1, s10.2.2)) (e := fun s6 => [.dat p0, .dat d1, .dat s6.2.2, .dat s6.1, .own s6.2.1, .no, .no]) ⟨.inr rfl, ⟨.inr rfl, ⟨.inr rfl, ⟨.inr rfl, ⟨.inr rfl, ⟨.inl rfl, ⟨.inl rfl, trivial⟩⟩⟩⟩⟩⟩⟩)))))) (fun _ => rfl)) fun s20 =>
  (bdt_of (bd_cons (S := Unit) (e1 := fun s21 => [.dat p0, .dat d1, .dat s20.2.2, .dat s20.1, .own s20.2.1, .no, .no]) (sd_if (td_cmp op_eq rd_eqS (pd_var 3) pd_str) (bd_one (sd_ret (ρ' := [.dat p0, .dat d1, .dat s20.2.2, .dat s20.1, .dat (.list s20.2.1), .no, .no]) (pd_tup (ad_cons pd_str (ad_cons (pd_ty (T := "tuple") call_tuple_of rc_tup B.tuple (ad_cons (pd_var 4) ad_nil)) ad_nil))))) (bd_nil (s := ()) (e := fun s21 => [.dat p0, .dat d1, .dat s20.2.2, .dat s20.1, .own s20.2.1, .no, .no]) ⟨.inr rfl, ⟨.inr rfl, ⟨.inr rfl, ⟨.inr rfl, ⟨.inr rfl, ⟨.inr rfl, ⟨.inr rfl, trivial⟩⟩⟩⟩⟩⟩⟩)) fun s21 =>
  (bd_one (sd_ret (ρ' := [.dat p0, .dat d1, .dat s20.2.2, .dat s20.1, .dat (.list s20.2.1), .no, .no]) (pd_fn c_law_no (hr.mono (by decide)) (ad_cons (pd_blt (id := "len") call_len rc_len B.len (ad_cons (pd_var 1) ad_nil)) ad_nil))))))))))))⟩

end UT
end
section
set_option Elab.async false
set_option linter.all false
set_option maxRecDepth 100000
set_option maxHeartbeats 4000000
namespace UT
open PySem PySem.Spec PyProof.Rows L2
theorem sc_law_history_line : FnScope ["_law_events_here", "_law_words_here", "_law_event", "_law_part"] ["_law_events_here"] (defScope st_law_history_line) := ⟨rfl, rfl, rfl, by decide +kernel, rfl, by decide +kernel, by decide +kernel⟩
theorem ok_law_history_line {P : Program} {w : World} {K : PySem.W.Frag} {mg : Str → Option Value} {base : Heap} {f : Addr} {fd : FuncData} (Fn : FnP K "_law_history_line" "_law_history_line" st_law_history_line f fd) (B : Blt mg) :
    FnOk P w K mg base (L2.CX P w) 1 f fd ["_law_events_here"] (SpF K F_law_history_line 1) := by
  refine fnF Fn sc_law_history_line rfl fun cdv A outer s H E hr ds hl => ?_
  match ds, hl with
  | [p0], _ =>
    have nd := sc_law_history_line.nd
    have hp : PassesOwn (model P w) (cxOf (L2.CX P w) P w K mg base ["_law_events_here", "_law_words_here", "_law_event", "_law_part"] "_law_history_line" (defScope st_law_history_line) f cdv A outer s H E).A (cxOf (L2.CX P w) P w K mg base ["_law_events_here", "_law_words_here", "_law_event", "_law_part"] "_law_history_line" (defScope st_law_history_line) f cdv A outer s H E).env (cxOf (L2.CX P w) P w K mg base ["_law_events_here", "_law_words_here", "_law_event", "_law_part"] "_law_history_line" (defScope st_law_history_line) f cdv A outer s H E).xe := passes_of rfl
    exact ⟨Unit, _, false, m_law_history_line p0, fun _ => [], rfl, by
    unfold m_law_history_line
    exact (bd_cons (sd_as (e2 := fun l1 => [.dat p0, .own l1, .no, .no]) (sd_own (i := 1) nd ad_nil) (fun _ => rfl)) fun l1 =>
  (bd_cons (sd_as (e2 := fun s6 => [.dat p0, .own s6, .no, .no]) (sd_for (S := List PyData) (j := 2) (s0 := l1) (emb := fun s2 => [.dat p0, .own s2, .no, .no]) (ρb := fun s2 x3 => [.dat p0, .own s2, .dat x3, .no]) nd hp (id_tup (pd_var 0)) ⟨.inr rfl, ⟨.inr rfl, ⟨.inr rfl, ⟨.inr rfl, trivial⟩⟩⟩⟩ (fun _ _ => rfl) fun s2 x3 =>
  (bd_cons (sd_as (e2 := fun l5 => [.dat p0, .own l5, .dat x3, .no]) (sd_app (i := 1) (pd_m1 F.slot_str_join F.type_str_join mt_join rm_join pd_str (pd_lcZ (own := [("_law_part", 3)]) (j := 3) (ρw := [.dat p0, .own s2, .dat x3, .no]) (ρb := fun x4 => [.dat p0, .own s2, .dat x3, .dat x4]) nd (id_tup (pd_var 2)) (blkOk_by rfl) rfl rfl (fun _ => rfl) (fun x4 => (pd_ty (T := "str") call_strE rc_str B.str (ad_cons (pd_var 3) ad_nil))) (fun _ _ _ _ _ x4 => (pd_ty (T := "str") call_strE rc_str B.str (ad_cons (pd_var 3) ad_nil))) (hg := fun _ _ _ _ _ => pg_name nd rfl (Or.inl rfl))))) (fun _ => rfl)) fun l5 =>
  (bd_nil (s := l5) (e := fun s2 => [.dat p0, .own s2, .no, .no]) ⟨.inr rfl, ⟨.inr rfl, ⟨.inl rfl, ⟨.inr rfl, trivial⟩⟩⟩⟩))) (fun _ => rfl)) fun s6 =>
  (bd_one (sd_ret (ρ' := [.dat p0, .dat (.list s6), .no, .no]) (pd_m1 F.slot_str_join F.type_str_join mt_join rm_join pd_str (pd_op op_cat rd_cat (pd_var 1) (pd_op op_rep rd_rep (pd_lst (ad_cons pd_str ad_nil)) (pd_ty (T := "int") call_int1 rc_int1 B.int (ad_cons (pd_cmp op_eq rd_eqS (pd_blt (id := "len") call_len rc_len B.len (ad_cons (pd_var 1) ad_nil)) pd_int) ad_nil)))))))))⟩

end UT
end
section
set_option Elab.async false
set_option linter.all false
set_option maxRecDepth 100000
set_option maxHeartbeats 4000000
namespace UT
open PySem PySem.Spec PyProof.Rows L2
theorem sc_law_int : FnScope ["_law_thing"] ["_law_thing"] (defScope st_law_int) := ⟨rfl, rfl, rfl, by decide +kernel, rfl, by decide +kernel, by decide +kernel⟩
theorem ok_law_int {P : Program} {w : World} {K : PySem.W.Frag} {mg : Str → Option Value} {base : Heap} {f : Addr} {fd : FuncData} (Fn : FnP K "_law_int" "_law_int" st_law_int f fd) (B : Blt mg) :
    FnOk P w K mg base (L2.CX P w) 1 f fd ["_law_thing"] (SpF K F_law_int 1) := by
  refine fnF Fn sc_law_int rfl fun cdv A outer s H E hr ds hl => ?_
  match ds, hl with
  | [p0], _ =>
    have nd := sc_law_int.nd
    exact ⟨Unit, _, false, m_law_int p0, fun _ => [], rfl, by
    unfold m_law_int
    exact (bd_one (sd_ret (ρ' := [.dat p0]) (pd_and (pd_isi (T := "int") (Tn := "int") (pd_var 0) B.isinstance B.int) (pd_one (pd_not (pd_isi (T := "bool") (Tn := "bool") (pd_var 0) B.isinstance B.bool))))))⟩

end UT
end
section
set_option Elab.async false
set_option linter.all false
set_option maxRecDepth 100000
set_option maxHeartbeats 4000000
namespace UT
open PySem PySem.Spec PyProof.Rows L2
theorem sc_law_lines : FnScope ["_law_names", "_law_op", "_law_thing", "_law_line", "_law_pick", "_law_known", "_law_text", "_law_odd"] ["_law_names", "_law_op", "_law_thing", "_law_line", "_law_pick"] (defScope st_law_lines) := ⟨rfl, rfl, rfl, by decide +kernel, rfl, by decide +kernel, by decide +kernel⟩
theorem ok_law_lines {P : Program} {w : World} {K : PySem.W.Frag} {mg : Str → Option Value} {base : Heap} {f : Addr} {fd : FuncData} (Fn : FnP K "_law_lines" "_law_lines" st_law_lines f fd) (B : Blt mg) (c_law_call : Cal P w K mg base "_law_call" 6 3 F_law_call) (c_law_due : Cal P w K mg base "_law_due" 3 3 F_law_due) (c_law_same : Cal P w K mg base "_law_same" 8 2 F_law_same) (c_law_spoilt : Cal P w K mg base "_law_spoilt" 1 3 F_law_spoilt) (c_law_words : Cal P w K mg base "_law_words" 1 1 F_law_words) :
    FnOk P w K mg base (L2.CX P w) 9 f fd ["_law_names", "_law_op", "_law_thing", "_law_line", "_law_pick"] (SpF K F_law_lines 5) := by
  refine fnF Fn sc_law_lines rfl fun cdv A outer s H E hr ds hl => ?_
  match ds, hl with
  | [p0, p1, p2, p3, p4], _ =>
    have nd := sc_law_lines.nd
    have hp : PassesOwn (model P w) (cxOf (L2.CX P w) P w K mg base ["_law_names", "_law_op", "_law_thing", "_law_line", "_law_pick", "_law_known", "_law_text", "_law_odd"] "_law_lines" (defScope st_law_lines) f cdv A outer s H E).A (cxOf (L2.CX P w) P w K mg base ["_law_names", "_law_op", "_law_thing", "_law_line", "_law_pick", "_law_known", "_law_text", "_law_odd"] "_law_lines" (defScope st_law_lines) f cdv A outer s H E).env (cxOf (L2.CX P w) P w K mg base ["_law_names", "_law_op", "_law_thing", "_law_line", "_law_pick", "_law_known", "_law_text", "_law_odd"] "_law_lines" (defScope st_law_lines) f cdv A outer s H E).xe := passes_of rfl
    exact ⟨Unit, _, false, m_law_lines p0 p1 p2 p3 p4, fun _ => [], rfl, by
    unfold m_law_lines
    exact (bd_cons (S := Unit) (e1 := fun s1 => [.dat p0, .dat p1, .dat p2, .dat p3, .dat p4, .no, .no, .no]) (sd_if (td_not (td_val (pd_fn c_law_same (hr.mono (by decide)) (ad_cons (pd_fn c_law_call (hr.mono (by decide)) (ad_cons (pd_ix (pd_var 0) pd_int) (ad_cons (pd_var 1) (ad_cons (pd_var 2) ad_nil)))) (ad_cons (pd_tup (ad_cons pd_str (ad_cons (pd_var 3) ad_nil))) ad_nil))))) (bd_one (sd_ret (ρ' := [.dat p0, .dat p1, .dat p2, .dat p3, .dat p4, .no, .no, .no]) pd_bl)) (bd_nil (s := ()) (e := fun s1 => [.dat p0, .dat p1, .dat p2, .dat p3, .dat p4, .no, .no, .no]) ⟨.inr rfl, ⟨.inr rfl, ⟨.inr rfl, ⟨.inr rfl, ⟨.inr rfl, ⟨.inr rfl, ⟨.inr rfl, ⟨.inr rfl, trivial⟩⟩⟩⟩⟩⟩⟩⟩)) fun s1 =>
  (bd_cons (S := Unit) (e1 := fun s2 => [.dat p0, .dat p1, .dat p2, .dat p3, .dat p4, .no, .no, .no]) (sd_if (td_not (td_val (pd_fn c_law_same (hr.mono (by decide)) (ad_cons (pd_fn c_law_call (hr.mono (by decide)) (ad_cons (pd_ix (pd_var 0) pd_int) (ad_cons (pd_var 1) (ad_cons (pd_var 3) ad_nil)))) (ad_cons (pd_tup (ad_cons pd_str (ad_cons (pd_var 2) ad_nil))) ad_nil))))) (bd_one (sd_ret (ρ' := [.dat p0, .dat p1, .dat p2, .dat p3, .dat p4, .no, .no, .no]) pd_bl)) (bd_nil (s := ()) (e := fun s2 => [.dat p0, .dat p1, .dat p2, .dat p3, .dat p4, .no, .no, .no]) ⟨.inr rfl, ⟨.inr rfl, ⟨.inr rfl, ⟨.inr rfl, ⟨.inr rfl, ⟨.inr rfl, ⟨.inr rfl, ⟨.inr rfl, trivial⟩⟩⟩⟩⟩⟩⟩⟩)) fun s2 =>
  (bd_cons (sd_as (e2 := fun d3 => [.dat p0, .dat p1, .dat p2, .dat p3, .dat p4, .dat d3, .no, .no]) (sd_asg (i := 5) nd (pd_fnL c_law_words (hr.mono (by decide)) (ad_cons (pd_ix (pd_var 0) pd_int) ad_nil))) (fun _ => rfl)) fun d3 =>
  (bd_cons (sd_as (e2 := fun s7 => [.dat p0, .dat p1, .dat p2, .dat p3, .dat p4, .dat d3, .no, .no]) (sd_for (S := Unit) (j := 6) (s0 := ()) (emb := fun s4 => [.dat p0, .dat p1, .dat p2, .dat p3, .dat p4, .dat d3, .no, .no]) (ρb := fun s4 x5 => [.dat p0, .dat p1, .dat p2, .dat p3, .dat p4, .dat d3, .dat x5, .no]) nd hp (id_list (pd_op op_cat rd_cat (pd_fnL c_law_spoilt (hr.mono (by decide)) (ad_cons (pd_var 3) (ad_cons (pd_var 4) (ad_cons (pd_ix (pd_var 5) pd_int) ad_nil)))) (pd_ty (T := "list") call_list_of rc_lst B.list (ad_cons (pd_ix (pd_var 5) pd_int) ad_nil)))) ⟨.inr rfl, ⟨.inr rfl, ⟨.inr rfl, ⟨.inr rfl, ⟨.inr rfl, ⟨.inr rfl, ⟨.inr rfl, ⟨.inr rfl, trivial⟩⟩⟩⟩⟩⟩⟩⟩ (fun _ _ => rfl) fun s4 x5 =>
  (bd_cons (S := Unit) (e1 := fun s6 => [.dat p0, .dat p1, .dat p2, .dat p3, .dat p4, .dat d3, .dat x5, .no]) (sd_if (td_not (td_val (pd_fn c_law_same (hr.mono (by decide)) (ad_cons (pd_fn c_law_call (hr.mono (by decide)) (ad_cons (pd_ix (pd_var 0) pd_int) (ad_cons (pd_var 1) (ad_cons (pd_var 6) ad_nil)))) (ad_cons (pd_fn c_law_due (hr.mono (by decide)) (ad_cons (pd_ix (pd_var 0) pd_int) (ad_cons (pd_var 1) (ad_cons (pd_var 6) ad_nil)))) ad_nil))))) (bd_one (sd_ret (ρ' := [.dat p0, .dat p1, .dat p2, .dat p3, .dat p4, .dat d3, .dat x5, .no]) pd_bl)) (bd_nil (s := ()) (e := fun s6 => [.dat p0, .dat p1, .dat p2, .dat p3, .dat p4, .dat d3, .dat x5, .no]) ⟨.inr rfl, ⟨.inr rfl, ⟨.inr rfl, ⟨.inr rfl, ⟨.inr rfl, ⟨.inr rfl, ⟨.inr rfl, ⟨.inr rfl, trivial⟩⟩⟩⟩⟩⟩⟩⟩)) fun s6 =>
  (bd_nil (s := ()) (e := fun s4 => [.dat p0, .dat p1, .dat p2, .dat p3, .dat p4, .dat d3, .no, .no]) ⟨.inr rfl, ⟨.inr rfl, ⟨.inr rfl, ⟨.inr rfl, ⟨.inr rfl, ⟨.inr rfl, ⟨.inl rfl, ⟨.inr rfl, trivial⟩⟩⟩⟩⟩⟩⟩⟩))) (fun _ => rfl)) fun s7 =>
  (bd_cons (sd_as (e2 := fun s11 => [.dat p0, .dat p1, .dat p2, .dat p3, .dat p4, .dat d3, .no, .no]) (sd_for (S := Unit) (j := 7) (s0 := ()) (emb := fun s8 => [.dat p0, .dat p1, .dat p2, .dat p3, .dat p4, .dat d3, .no, .no]) (ρb := fun s8 x9 => [.dat p0, .dat p1, .dat p2, .dat p3, .dat p4, .dat d3, .no, .dat x9]) nd hp (id_tup (pd_tup (ad_cons pd_non (ad_cons pd_int (ad_cons (pd_tup (ad_cons pd_str (ad_cons pd_int ad_nil))) (ad_cons (pd_lst (ad_cons (pd_var 3) ad_nil)) (ad_cons pd_bl (ad_cons (pd_tup ad_nil) ad_nil)))))))) ⟨.inr rfl, ⟨.inr rfl, ⟨.inr rfl, ⟨.inr rfl, ⟨.inr rfl, ⟨.inr rfl, ⟨.inr rfl, ⟨.inr rfl, trivial⟩⟩⟩⟩⟩⟩⟩⟩ (fun _ _ => rfl) fun s8 x9 =>
  (bd_cons (S := Unit) (e1 := fun s10 => [.dat p0, .dat p1, .dat p2, .dat p3, .dat p4, .dat d3, .no, .dat x9]) (sd_if (td_not (td_val (pd_fn c_law_same (hr.mono (by decide)) (ad_cons (pd_fn c_law_call (hr.mono (by decide)) (ad_cons (pd_ix (pd_var 0) pd_int) (ad_cons (pd_var 1) (ad_cons (pd_var 7) ad_nil)))) (ad_cons (pd_tup (ad_cons pd_str (ad_cons pd_str (ad_cons (pd_neg pd_int) (ad_cons pd_bl ad_nil))))) ad_nil))))) (bd_one (sd_ret (ρ' := [.dat p0, .dat p1, .dat p2, .dat p3, .dat p4, .dat d3, .no, .dat x9]) pd_bl)) (bd_nil (s := ()) (e := fun s10 => [.dat p0, .dat p1, .dat p2, .dat p3, .dat p4, .dat d3, .no, .dat x9]) ⟨.inr rfl, ⟨.inr rfl, ⟨.inr rfl, ⟨.inr rfl, ⟨.inr rfl, ⟨.inr rfl, ⟨.inr rfl, ⟨.inr rfl, trivial⟩⟩⟩⟩⟩⟩⟩⟩)) fun s10 =>
  (bd_nil (s := ()) (e := fun s8 => [.dat p0, .dat p1, .dat p2, .dat p3, .dat p4, .dat d3, .no, .no]) ⟨.inr rfl, ⟨.inr rfl, ⟨.inr rfl, ⟨.inr rfl, ⟨.inr rfl, ⟨.inr rfl, ⟨.inr rfl, ⟨.inl rfl, trivial⟩⟩⟩⟩⟩⟩⟩⟩))) (fun _ => rfl)) fun s11 =>
  (bd_one (sd_ret (ρ' := [.dat p0, .dat p1, .dat p2, .dat p3, .dat p4, .dat d3, .no, .no]) pd_bl)))))))⟩

end UT
end
section
set_option Elab.async false
set_option linter.all false
set_option maxRecDepth 100000
set_option maxHeartbeats 4000000
namespace UT
open PySem PySem.Spec PyProof.Rows L2
theorem sc_law_many : FnScope ["_law_op"] ["_law_op"] (defScope st_law_many) := ⟨rfl, rfl, rfl, by decide +kernel, rfl, by decide +kernel, by decide +kernel⟩
theorem ok_law_many {P : Program} {w : World} {K : PySem.W.Frag} {mg : Str → Option Value} {base : Heap} {f : Addr} {fd : FuncData} (Fn : FnP K "_law_many" "_law_many" st_law_many f fd) (B : Blt mg) :
    FnOk P w K mg base (L2.CX P w) 1 f fd ["_law_op"] (SpF K F_law_many 1) := by
  refine fnF Fn sc_law_many rfl fun cdv A outer s H E hr ds hl => ?_
  match ds, hl with
  | [p0], _ =>
    have nd := sc_law_many.nd
    exact ⟨Unit, _, false, m_law_many p0, fun _ => [], rfl, by
    unfold m_law_many
    exact (bd_cons (S := Unit) (e1 := fun s1 => [.dat p0]) (sd_if (td_w (wd_or (td_cmp op_eq rd_eqS (pd_ix (pd_var 0) pd_int) pd_str) (wd_or1 (td_cmp op_eq rd_eqS (pd_ix (pd_var 0) pd_int) pd_str)))) (bd_one (sd_ret (ρ' := [.dat p0]) (pd_ix (pd_var 0) pd_int))) (bd_nil (s := ()) (e := fun s1 => [.dat p0]) ⟨.inr rfl, trivial⟩)) fun s1 =>
  (bd_cons (S := Unit) (e1 := fun s2 => [.dat p0]) (sd_if (td_cmp op_eq rd_eqS (pd_ix (pd_var 0) pd_int) pd_str) (bd_one (sd_ret (ρ' := [.dat p0]) (pd_op op_mul rd_mul (pd_ix (pd_var 0) pd_int) (pd_ix (pd_var 0) pd_int)))) (bd_nil (s := ()) (e := fun s2 => [.dat p0]) ⟨.inr rfl, trivial⟩)) fun s2 =>
  (bd_one (sd_ret (ρ' := [.dat p0]) (pd_op op_add rd_add pd_int (pd_ty (T := "int") call_int1 rc_int1 B.int (ad_cons (pd_or (pd_cmp op_eq rd_eqS (pd_ix (pd_var 0) pd_int) pd_str) (pd_one (pd_cmp op_eq rd_eqS (pd_ix (pd_var 0) pd_int) pd_str))) ad_nil)))))))⟩

end UT
end
section
set_option Elab.async false
set_option linter.all false
set_option maxRecDepth 100000
set_option maxHeartbeats 4000000
namespace UT
open PySem PySem.Spec PyProof.Rows L2
theorem sc_law_no : FnScope ["_law_k"] ["_law_k"] (defScope st_law_no) := ⟨rfl, rfl, rfl, by decide +kernel, rfl, by decide +kernel, by decide +kernel⟩
theorem ok_law_no {P : Program} {w : World} {K : PySem.W.Frag} {mg : Str → Option Value} {base : Heap} {f : Addr} {fd : FuncData} (Fn : FnP K "_law_no" "_law_no" st_law_no f fd) (B : Blt mg) :
    FnOk P w K mg base (L2.CX P w) 1 f fd ["_law_k"] (SpF K F_law_no 1) := by
  refine fnF Fn sc_law_no rfl fun cdv A outer s H E hr ds hl => ?_
  match ds, hl with
  | [p0], _ =>
    have nd := sc_law_no.nd
    exact ⟨Unit, _, false, m_law_no p0, fun _ => [], rfl, by
    unfold m_law_no
    exact (bd_one (sd_ret (ρ' := [.dat p0]) (pd_tup (ad_cons pd_str (ad_cons pd_int (ad_cons (pd_var 0) (ad_cons pd_bl ad_nil)))))))⟩

end UT
end
section
set_option Elab.async false
set_option linter.all false
set_option maxRecDepth 100000
set_option maxHeartbeats 4000000
namespace UT
open PySem PySem.Spec PyProof.Rows L2
theorem sc_law_number : FnScope ["_law_n", "_law_k", "_law_low"] ["_law_n", "_law_k"] (defScope st_law_number) := ⟨rfl, rfl, rfl, by decide +kernel, rfl, by decide +kernel, by decide +kernel⟩
theorem ok_law_number {P : Program} {w : World} {K : PySem.W.Frag} {mg : Str → Option Value} {base : Heap} {f : Addr} {fd : FuncData} (Fn : FnP K "_law_number" "_law_number" st_law_number f fd) (B : Blt mg) :
    FnOk P w K mg base (L2.CX P w) 1 f fd ["_law_n", "_law_k"] (SpF K F_law_number 2) := by
  refine fnF Fn sc_law_number rfl fun cdv A outer s H E hr ds hl => ?_
  match ds, hl with
  | [p0, p1], _ =>
    have nd := sc_law_number.nd
    exact ⟨Unit, _, false, m_law_number p0 p1, fun _ => [], rfl, by
    unfold m_law_number
    exact (bd_cons (sd_as (e2 := fun d1 => [.dat p0, .dat p1, .dat d1]) (sd_asg (i := 2) nd (pd_op op_add rd_add (pd_op op_mul rd_mul (pd_ix (pd_var 0) (pd_op op_modN rd_mod (pd_ty (T := "int") call_int1 rc_int1 B.int (ad_cons (pd_op op_add rd_add (pd_var 1) pd_int) ad_nil)) pd_int)) (pd_op op_pow rd_pow pd_int pd_int)) (pd_ix (pd_var 0) (pd_op op_modN rd_mod (pd_ty (T := "int") call_int1 rc_int1 B.int (ad_cons (pd_op op_add rd_add (pd_var 1) pd_int) ad_nil)) pd_int)))) (fun _ => rfl)) fun d1 =>
  (bd_one (sd_ret (ρ' := [.dat p0, .dat p1, .dat d1]) (pd_ix (pd_tup (ad_cons (pd_op op_modN rd_mod (pd_ty (T := "int") call_int1 rc_int1 B.int (ad_cons (pd_ix (pd_var 0) (pd_var 1)) ad_nil)) pd_int) (ad_cons (pd_op op_add rd_add (pd_op op_mul rd_mul (pd_ix (pd_var 0) (pd_var 1)) (pd_op op_pow rd_pow pd_int pd_int)) (pd_var 2)) ad_nil))) (pd_ty (T := "int") call_int1 rc_int1 B.int (ad_cons (pd_cmp op_eq rd_eqS (pd_ix (pd_var 0) pd_int) pd_int) ad_nil))))))⟩

end UT
end
section
set_option Elab.async false
set_option linter.all false
set_option maxRecDepth 100000
set_option maxHeartbeats 4000000
namespace UT
open PySem PySem.Spec PyProof.Rows L2
theorem sc_law_nums : FnScope ["_law_script", "_law_at", "_law_bounds", "_law_cell", "_law_seed", "_law_part", "_law_free", "_law_mix", "_law_out", "_law_bound"] ["_law_script", "_law_at", "_law_bounds"] (defScope st_law_nums) := ⟨rfl, rfl, rfl, by decide +kernel, rfl, by decide +kernel, by decide +kernel⟩
theorem ok_law_nums {P : Program} {w : World} {K : PySem.W.Frag} {mg : Str → Option Value} {base : Heap} {f : Addr} {fd : FuncData} (Fn : FnP K "_law_nums" "_law_nums" st_law_nums f fd) (B : Blt mg) :
    FnOk P w K mg base (L2.CX P w) 1 f fd ["_law_script", "_law_at", "_law_bounds"] (SpF K F_law_nums 3) := by
  refine fnF Fn sc_law_nums rfl fun cdv A outer s H E hr ds hl => ?_
  match ds, hl with
  | [p0, p1, p2], _ =>
    have nd := sc_law_nums.nd
    have hp : PassesOwn (model P w) (cxOf (L2.CX P w) P w K mg base ["_law_script", "_law_at", "_law_bounds", "_law_cell", "_law_seed", "_law_part", "_law_free", "_law_mix", "_law_out", "_law_bound"] "_law_nums" (defScope st_law_nums) f cdv A outer s H E).A (cxOf (L2.CX P w) P w K mg base ["_law_script", "_law_at", "_law_bounds", "_law_cell", "_law_seed", "_law_part", "_law_free", "_law_mix", "_law_out", "_law_bound"] "_law_nums" (defScope st_law_nums) f cdv A outer s H E).env (cxOf (L2.CX P w) P w K mg base ["_law_script", "_law_at", "_law_bounds", "_law_cell", "_law_seed", "_law_part", "_law_free", "_law_mix", "_law_out", "_law_bound"] "_law_nums" (defScope st_law_nums) f cdv A outer s H E).xe := passes_of rfl
    exact ⟨Unit, _, false, m_law_nums p0 p1 p2, fun _ => [], rfl, by
    unfold m_law_nums
    exact (bd_cons (sd_as (e2 := fun d1 => [.dat p0, .dat p1, .dat p2, .dat d1, .no, .no, .no, .no, .no, .no]) (sd_asg (i := 3) nd pd_int) (fun _ => rfl)) fun d1 =>
  (bd_cons (S := PyData) (e1 := fun s2 => [.dat p0, .dat p1, .dat p2, .dat s2, .no, .no, .no, .no, .no, .no]) (sd_if (td_cmp op_lt rd_lt (pd_var 1) (pd_blt (id := "len") call_len rc_len B.len (ad_cons (pd_var 0) ad_nil))) (bd_cons (sd_as (e2 := fun d3 => [.dat p0, .dat p1, .dat p2, .dat d3, .no, .no, .no, .no, .no, .no]) (sd_asg (i := 3) nd (pd_ix (pd_var 0) (pd_var 1))) (fun _ => rfl)) fun d3 =>
  (bd_nil (s := d3) (e := fun s2 => [.dat p0, .dat p1, .dat p2, .dat s2, .no, .no, .no, .no, .no, .no]) ⟨.inr rfl, ⟨.inr rfl, ⟨.inr rfl, ⟨.inr rfl, ⟨.inr rfl, ⟨.inr rfl, ⟨.inr rfl, ⟨.inr rfl, ⟨.inr rfl, ⟨.inr rfl, trivial⟩⟩⟩⟩⟩⟩⟩⟩⟩⟩)) (bd_nil (s := d1) (e := fun s2 => [.dat p0, .dat p1, .dat p2, .dat s2, .no, .no, .no, .no, .no, .no]) ⟨.inr rfl, ⟨.inr rfl, ⟨.inr rfl, ⟨.inr rfl, ⟨.inr rfl, ⟨.inr rfl, ⟨.inr rfl, ⟨.inr rfl, ⟨.inr rfl, ⟨.inr rfl, trivial⟩⟩⟩⟩⟩⟩⟩⟩⟩⟩)) fun s2 =>
  (bd_cons (S := PyData) (e1 := fun s4 => [.dat p0, .dat p1, .dat p2, .dat s4, .no, .no, .no, .no, .no, .no]) (sd_if (td_cmp op_lt rd_lt (pd_var 3) pd_int) (bd_cons (sd_as (e2 := fun d5 => [.dat p0, .dat p1, .dat p2, .dat d5, .no, .no, .no, .no, .no, .no]) (sd_asg (i := 3) nd (pd_op op_sub rd_sub pd_int (pd_op op_mul rd_mul pd_int (pd_var 3)))) (fun _ => rfl)) fun d5 =>
  (bd_nil (s := d5) (e := fun s4 => [.dat p0, .dat p1, .dat p2, .dat s4, .no, .no, .no, .no, .no, .no]) ⟨.inr rfl, ⟨.inr rfl, ⟨.inr rfl, ⟨.inr rfl, ⟨.inr rfl, ⟨.inr rfl, ⟨.inr rfl, ⟨.inr rfl, ⟨.inr rfl, ⟨.inr rfl, trivial⟩⟩⟩⟩⟩⟩⟩⟩⟩⟩)) (bd_nil (s := s2) (e := fun s4 => [.dat p0, .dat p1, .dat p2, .dat s4, .no, .no, .no, .no, .no, .no]) ⟨.inr rfl, ⟨.inr rfl, ⟨.inr rfl, ⟨.inr rfl, ⟨.inr rfl, ⟨.inr rfl, ⟨.inr rfl, ⟨.inr rfl, ⟨.inr rfl, ⟨.inr rfl, trivial⟩⟩⟩⟩⟩⟩⟩⟩⟩⟩)) fun s4 =>
  (bd_cons (sd_as (e2 := fun d6 => [.dat p0, .dat p1, .dat p2, .dat s4, .dat d6, .no, .no, .no, .no, .no]) (sd_asg (i := 4) nd (pd_op op_add rd_add pd_int (pd_op op_mul rd_mul pd_int (pd_blt (id := "len") call_len rc_len B.len (ad_cons (pd_var 0) ad_nil))))) (fun _ => rfl)) fun d6 =>
  (bd_cons (sd_as (e2 := fun s10 => [.dat p0, .dat p1, .dat p2, .dat s4, .dat s10, .no, .no, .no, .no, .no]) (sd_for (S := PyData) (j := 5) (s0 := d6) (emb := fun s7 => [.dat p0, .dat p1, .dat p2, .dat s4, .dat s7, .no, .no, .no, .no, .no]) (ρb := fun s7 x8 => [.dat p0, .dat p1, .dat p2, .dat s4, .dat s7, .dat x8, .no, .no, .no, .no]) nd hp (id_list (pd_var 0)) ⟨.inr rfl, ⟨.inr rfl, ⟨.inr rfl, ⟨.inr rfl, ⟨.inr rfl, ⟨.inr rfl, ⟨.inr rfl, ⟨.inr rfl, ⟨.inr rfl, ⟨.inr rfl, trivial⟩⟩⟩⟩⟩⟩⟩⟩⟩⟩ (fun _ _ => rfl) fun s7 x8 =>
  (bd_cons (sd_as (e2 := fun d9 => [.dat p0, .dat p1, .dat p2, .dat s4, .dat d9, .dat x8, .no, .no, .no, .no]) (sd_asg (i := 4) nd (pd_op op_modN rd_mod (pd_ty (T := "int") call_int1 rc_int1 B.int (ad_cons (pd_op op_add rd_add (pd_op op_mul rd_mul (pd_var 4) pd_int) (pd_var 5)) ad_nil)) pd_int)) (fun _ => rfl)) fun d9 =>
  (bd_nil (s := d9) (e := fun s7 => [.dat p0, .dat p1, .dat p2, .dat s4, .dat s7, .no, .no, .no, .no, .no]) ⟨.inr rfl, ⟨.inr rfl, ⟨.inr rfl, ⟨.inr rfl, ⟨.inr rfl, ⟨.inl rfl, ⟨.inr rfl, ⟨.inr rfl, ⟨.inr rfl, ⟨.inr rfl, trivial⟩⟩⟩⟩⟩⟩⟩⟩⟩⟩))) (fun _ => rfl)) fun s10 =>
  (bd_cons (sd_as (e2 := fun d11 => [.dat p0, .dat p1, .dat p2, .dat s4, .dat s10, .no, .dat d11, .no, .no, .no]) (sd_asg (i := 6) nd (pd_cmp op_ge rd_ge (pd_var 3) pd_int)) (fun _ => rfl)) fun d11 =>
  (bd_cons (sd_as (e2 := fun d12 => [.dat p0, .dat p1, .dat p2, .dat s4, .dat s10, .no, .dat d11, .dat d12, .no, .no]) (sd_asg (i := 7) nd (pd_op op_modN rd_mod (pd_ty (T := "int") call_int1 rc_int1 B.int (ad_cons (pd_op op_add rd_add (pd_op op_add rd_add (pd_op op_add rd_add (pd_op op_mul rd_mul (pd_var 4) pd_int) (pd_op op_mul rd_mul (pd_var 3) pd_int)) (pd_op op_mul rd_mul (pd_var 1) pd_int)) pd_int) ad_nil)) pd_int)) (fun _ => rfl)) fun d12 =>
  (bd_cons (sd_as (e2 := fun l13 => [.dat p0, .dat p1, .dat p2, .dat s4, .dat s10, .no, .dat d11, .dat d12, .own l13, .no]) (sd_own (i := 8) nd ad_nil) (fun _ => rfl)) fun l13 =>
  (bd_cons (sd_as (e2 := fun s21 => [.dat p0, .dat p1, .dat p2, .dat s21.2.1, .dat s10, .no, .dat d11, .dat s21.2.2, .own s21.1, .no]) (sd_for (S := List PyData × PyData × PyData) (j := 9) (s0 := (l13, s4, d12)) (emb := fun s14 => [.dat p0, .dat p1, .dat p2, .dat s14.2.1, .dat s10, .no, .dat d11, .dat s14.2.2, .own s14.1, .no]) (ρb := fun s14 x15 => [.dat p0, .dat p1, .dat p2, .dat s14.2.1, .dat s10, .no, .dat d11, .dat s14.2.2, .own s14.1, .dat x15]) nd hp (id_list (pd_var 2)) ⟨.inr rfl, ⟨.inr rfl, ⟨.inr rfl, ⟨.inr rfl, ⟨.inr rfl, ⟨.inr rfl, ⟨.inr rfl, ⟨.inr rfl, ⟨.inr rfl, ⟨.inr rfl, trivial⟩⟩⟩⟩⟩⟩⟩⟩⟩⟩ (fun _ _ => rfl) fun s14 x15 =>
  (bd_cons (S := List PyData × PyData × PyData) (e1 := fun s16 => [.dat p0, .dat p1, .dat p2, .dat s16.2.1, .dat s10, .no, .dat d11, .dat s16.2.2, .own s16.1, .dat x15]) (sd_if (td_w (wd_and (td_val (pd_var 6)) (wd_and1 (td_cmp op_gt rd_gt (pd_var 3) pd_int)))) (bd_cons (sd_as (e2 := fun l17 => [.dat p0, .dat p1, .dat p2, .dat s14.2.1, .dat s10, .no, .dat d11, .dat s14.2.2, .own l17, .dat x15]) (sd_app (i := 8) (pd_op op_modN rd_mod (pd_ty (T := "int") call_int1 rc_int1 B.int (ad_cons (pd_var 3) ad_nil)) (pd_var 9))) (fun _ => rfl)) fun l17 =>
  (bd_cons (sd_as (e2 := fun d18 => [.dat p0, .dat p1, .dat p2, .dat d18, .dat s10, .no, .dat d11, .dat s14.2.2, .own l17, .dat x15]) (sd_asg (i := 3) nd (pd_op op_fdivN rd_fdiv (pd_var 3) (pd_var 9))) (fun _ => rfl)) fun d18 =>
  (bd_nil (s := (l17, d18, s14.2.2)) (e := fun s16 => [.dat p0, .dat p1, .dat p2, .dat s16.2.1, .dat s10, .no, .dat d11, .dat s16.2.2, .own s16.1, .dat x15]) ⟨.inr rfl, ⟨.inr rfl, ⟨.inr rfl, ⟨.inr rfl, ⟨.inr rfl, ⟨.inr rfl, ⟨.inr rfl, ⟨.inr rfl, ⟨.inr rfl, ⟨.inr rfl, trivial⟩⟩⟩⟩⟩⟩⟩⟩⟩⟩))) (bd_cons (sd_as (e2 := fun d19 => [.dat p0, .dat p1, .dat p2, .dat s14.2.1, .dat s10, .no, .dat d11, .dat d19, .own s14.1, .dat x15]) (sd_asg (i := 7) nd (pd_op op_modN rd_mod (pd_ty (T := "int") call_int1 rc_int1 B.int (ad_cons (pd_op op_add rd_add (pd_op op_mul rd_mul (pd_var 7) pd_int) pd_int) ad_nil)) pd_int)) (fun _ => rfl)) fun d19 =>
  (bd_cons (sd_as (e2 := fun l20 => [.dat p0, .dat p1, .dat p2, .dat s14.2.1, .dat s10, .no, .dat d11, .dat d19, .own l20, .dat x15]) (sd_app (i := 8) (pd_op op_modN rd_mod (pd_ty (T := "int") call_int1 rc_int1 B.int (ad_cons (pd_op op_fdivN rd_fdiv (pd_var 7) pd_int) ad_nil)) (pd_var 9))) (fun _ => rfl)) fun l20 =>
  (bd_nil (s := (l20, s14.2.1, d19)) (e := fun s16 => [.dat p0, .dat p1, .dat p2, .dat s16.2.1, .dat s10, .no, .dat d11, .dat s16.2.2, .own s16.1, .dat x15]) ⟨.inr rfl, ⟨.inr rfl, ⟨.inr rfl, ⟨.inr rfl, ⟨.inr rfl, ⟨.inr rfl, ⟨.inr rfl, ⟨.inr rfl, ⟨.inr rfl, ⟨.inr rfl, trivial⟩⟩⟩⟩⟩⟩⟩⟩⟩⟩)))) fun s16 =>
  (bd_nil (s := (s16.1, s16.2.1, s16.2.2)) (e := fun s14 => [.dat p0, .dat p1, .dat p2, .dat s14.2.1, .dat s10, .no, .dat d11, .dat s14.2.2, .own s14.1, .no]) ⟨.inr rfl, ⟨.inr rfl, ⟨.inr rfl, ⟨.inr rfl, ⟨.inr rfl, ⟨.inr rfl, ⟨.inr rfl, ⟨.inr rfl, ⟨.inr rfl, ⟨.inl rfl, trivial⟩⟩⟩⟩⟩⟩⟩⟩⟩⟩))) (fun _ => rfl)) fun s21 =>
  (bd_one (sd_ret (ρ' := [.dat p0, .dat p1, .dat p2, .dat s21.2.1, .dat s10, .no, .dat d11, .dat s21.2.2, .dat (.list s21.1), .no]) (pd_var 8))))))))))))⟩

end UT
end
section
set_option Elab.async false
set_option linter.all false
set_option maxRecDepth 100000
set_option maxHeartbeats 4000000
namespace UT
open PySem PySem.Spec PyProof.Rows L2
theorem sc_law_odds : FnScope ["_law_op", "_law_v", "_law_pick", "_law_r", "_law_bad", "_law_x", "_law_line"] ["_law_op", "_law_v", "_law_pick"] (defScope st_law_odds) := ⟨rfl, rfl, rfl, by decide +kernel, rfl, by decide +kernel, by decide +kernel⟩
theorem ok_law_odds {P : Program} {w : World} {K : PySem.W.Frag} {mg : Str → Option Value} {base : Heap} {f : Addr} {fd : FuncData} (Fn : FnP K "_law_odds" "_law_odds" st_law_odds f fd) (B : Blt mg) (c_law_call : Cal P w K mg base "_law_call" 6 3 F_law_call) (c_law_same : Cal P w K mg base "_law_same" 8 2 F_law_same) (c_law_value_line : Cal P w K mg base "_law_value_line" 2 1 F_law_value_line) (k_read_value : CalK P w K mg base "read_value" 3 2 ["text", "operation"] pmSwap F_read_value) (k_value_line : CalK P w K mg base "value_line" 5 2 ["value", "operation"] pmSwap F_value_line) :
    FnOk P w K mg base (L2.CX P w) 9 f fd ["_law_op", "_law_v", "_law_pick"] (SpF K F_law_odds 3) := by
  refine fnF Fn sc_law_odds rfl fun cdv A outer s H E hr ds hl => ?_
  match ds, hl with
  | [p0, p1, p2], _ =>
    have nd := sc_law_odds.nd
    have hp : PassesOwn (model P w) (cxOf (L2.CX P w) P w K mg base ["_law_op", "_law_v", "_law_pick", "_law_r", "_law_bad", "_law_x", "_law_line"] "_law_odds" (defScope st_law_odds) f cdv A outer s H E).A (cxOf (L2.CX P w) P w K mg base ["_law_op", "_law_v", "_law_pick", "_law_r", "_law_bad", "_law_x", "_law_line"] "_law_odds" (defScope st_law_odds) f cdv A outer s H E).env (cxOf (L2.CX P w) P w K mg base ["_law_op", "_law_v", "_law_pick", "_law_r", "_law_bad", "_law_x", "_law_line"] "_law_odds" (defScope st_law_odds) f cdv A outer s H E).xe := passes_of rfl
    exact ⟨Unit, _, false, m_law_odds p0 p1 p2, fun _ => [], rfl, by
    unfold m_law_odds
    exact (bd_cons (sd_as (e2 := fun d1 => [.dat p0, .dat p1, .dat p2, .dat d1, .no, .no, .no]) (sd_asg (i := 3) nd (pd_lst (ad_cons (pd_tup (ad_cons pd_str (ad_cons pd_non (ad_cons (pd_op op_catT rd_catT (pd_tup (ad_cons (pd_ix (pd_var 0) pd_int) ad_nil)) (pd_var 0)) (ad_cons pd_str ad_nil))))) (ad_cons (pd_tup (ad_cons pd_str (ad_cons pd_non (ad_cons (pd_ty (T := "list") call_list_of rc_lst B.list (ad_cons (pd_var 0) ad_nil)) (ad_cons pd_str ad_nil))))) ad_nil)))) (fun _ => rfl)) fun d1 =>
  (bd_cons (sd_as (e2 := fun d2 => [.dat p0, .dat p1, .dat p2, .dat d2, .no, .no, .no]) (sd_asg (i := 3) nd (pd_op op_cat rd_cat (pd_var 3) (pd_lst (ad_cons (pd_tup (ad_cons pd_str (ad_cons (pd_ty (T := "list") call_list_of rc_lst B.list (ad_cons (pd_var 0) ad_nil)) (ad_cons (pd_var 1) (ad_cons pd_str ad_nil))))) (ad_cons (pd_tup (ad_cons pd_str (ad_cons (pd_tup ad_nil) (ad_cons (pd_tup (ad_cons pd_bl ad_nil)) (ad_cons pd_str ad_nil))))) ad_nil))))) (fun _ => rfl)) fun d2 =>
  (bd_cons (sd_as (e2 := fun d3 => [.dat p0, .dat p1, .dat p2, .dat d3, .no, .no, .no]) (sd_asg (i := 3) nd (pd_op op_cat rd_cat (pd_var 3) (pd_lst (ad_cons (pd_tup (ad_cons pd_str (ad_cons (pd_tup (ad_cons pd_str (ad_cons pd_int ad_nil))) (ad_cons pd_str (ad_cons pd_str ad_nil))))) (ad_cons (pd_tup (ad_cons pd_str (ad_cons (pd_tup (ad_cons pd_str (ad_cons pd_int ad_nil))) (ad_cons pd_non (ad_cons pd_str ad_nil))))) ad_nil))))) (fun _ => rfl)) fun d3 =>
  (bd_cons (sd_as (e2 := fun l4 => [.dat p0, .dat p1, .dat p2, .own l4, .no, .no, .no]) (sd_ownCat (i := 3) nd (pd_var 3) (pd_lst (ad_cons (pd_tup (ad_cons pd_str (ad_cons (pd_var 0) (ad_cons (pd_tup (ad_cons pd_bl ad_nil)) (ad_cons pd_str ad_nil))))) (ad_cons (pd_tup (ad_cons pd_str (ad_cons (pd_var 0) (ad_cons pd_str (ad_cons pd_str ad_nil))))) ad_nil)))) (fun _ => rfl)) fun l4 =>
  (bd_cons (sd_as (e2 := fun s8 => [.dat p0, .dat p1, .dat p2, .own s8, .no, .no, .no]) (sd_for (S := List PyData) (j := 4) (s0 := l4) (emb := fun s5 => [.dat p0, .dat p1, .dat p2, .own s5, .no, .no, .no]) (ρb := fun s5 x6 => [.dat p0, .dat p1, .dat p2, .own s5, .dat x6, .no, .no]) nd hp (id_tup (pd_tup (ad_cons (pd_lst (ad_cons (pd_tup (ad_cons pd_int (ad_cons pd_int ad_nil))) ad_nil)) (ad_cons (pd_tup (ad_cons (pd_tup (ad_cons pd_int (ad_cons pd_int ad_nil))) (ad_cons (pd_tup (ad_cons pd_int (ad_cons pd_int ad_nil))) ad_nil))) (ad_cons (pd_tup (ad_cons (pd_tup (ad_cons pd_int (ad_cons pd_int ad_nil))) (ad_cons (pd_tup (ad_cons pd_int (ad_cons pd_int ad_nil))) ad_nil))) (ad_cons (pd_tup (ad_cons (pd_tup (ad_cons pd_int (ad_cons pd_int ad_nil))) ad_nil)) (ad_cons pd_non (ad_cons (pd_tup (ad_cons (pd_tup (ad_cons pd_int (ad_cons pd_bl ad_nil))) ad_nil)) (ad_cons pd_str (ad_cons (pd_tup (ad_cons pd_int (ad_cons pd_int ad_nil))) (ad_cons pd_int (ad_cons (pd_tup (ad_cons (pd_tup (ad_cons pd_int (ad_cons pd_int (ad_cons pd_int ad_nil)))) ad_nil)) ad_nil)))))))))))) ⟨.inr rfl, ⟨.inr rfl, ⟨.inr rfl, ⟨.inr rfl, ⟨.inr rfl, ⟨.inr rfl, ⟨.inr rfl, trivial⟩⟩⟩⟩⟩⟩⟩ (fun _ _ => rfl) fun s5 x6 =>
  (bd_cons (sd_as (e2 := fun l7 => [.dat p0, .dat p1, .dat p2, .own l7, .dat x6, .no, .no]) (sd_app (i := 3) (pd_tup (ad_cons pd_str (ad_cons (pd_var 0) (ad_cons (pd_var 4) (ad_cons pd_str ad_nil)))))) (fun _ => rfl)) fun l7 =>
  (bd_nil (s := l7) (e := fun s5 => [.dat p0, .dat p1, .dat p2, .own s5, .no, .no, .no]) ⟨.inr rfl, ⟨.inr rfl, ⟨.inr rfl, ⟨.inr rfl, ⟨.inl rfl, ⟨.inr rfl, ⟨.inr rfl, trivial⟩⟩⟩⟩⟩⟩⟩))) (fun _ => rfl)) fun s8 =>
  (bd_cons (sd_as (e2 := fun s12 => [.dat p0, .dat p1, .dat p2, .own s12, .no, .no, .no]) (sd_for (S := List PyData) (j := 4) (s0 := s8) (emb := fun s9 => [.dat p0, .dat p1, .dat p2, .own s9, .no, .no, .no]) (ρb := fun s9 x10 => [.dat p0, .dat p1, .dat p2, .own s9, .dat x10, .no, .no]) nd hp (id_tup (pd_tup (ad_cons (pd_lst (ad_cons (pd_tup (ad_cons pd_str ad_nil)) ad_nil)) (ad_cons (pd_tup (ad_cons (pd_tup (ad_cons pd_str (ad_cons pd_int ad_nil))) ad_nil)) (ad_cons (pd_tup (ad_cons (pd_tup (ad_cons pd_str (ad_cons pd_int ad_nil))) ad_nil)) (ad_cons pd_non (ad_cons pd_str (ad_cons (pd_tup (ad_cons pd_str ad_nil)) (ad_cons (pd_tup (ad_cons (pd_tup (ad_cons pd_str (ad_cons pd_int ad_nil))) (ad_cons (pd_tup (ad_cons pd_str (ad_cons pd_int ad_nil))) ad_nil))) (ad_cons (pd_tup (ad_cons (pd_tup (ad_cons pd_str (ad_cons pd_bl ad_nil))) ad_nil)) (ad_cons pd_int ad_nil))))))))))) ⟨.inr rfl, ⟨.inr rfl, ⟨.inr rfl, ⟨.inr rfl, ⟨.inr rfl, ⟨.inr rfl, ⟨.inr rfl, trivial⟩⟩⟩⟩⟩⟩⟩ (fun _ _ => rfl) fun s9 x10 =>
  (bd_cons (sd_as (e2 := fun l11 => [.dat p0, .dat p1, .dat p2, .own l11, .dat x10, .no, .no]) (sd_app (i := 3) (pd_tup (ad_cons pd_str (ad_cons (pd_var 0) (ad_cons (pd_var 4) (ad_cons pd_str ad_nil)))))) (fun _ => rfl)) fun l11 =>
  (bd_nil (s := l11) (e := fun s9 => [.dat p0, .dat p1, .dat p2, .own s9, .no, .no, .no]) ⟨.inr rfl, ⟨.inr rfl, ⟨.inr rfl, ⟨.inr rfl, ⟨.inl rfl, ⟨.inr rfl, ⟨.inr rfl, trivial⟩⟩⟩⟩⟩⟩⟩))) (fun _ => rfl)) fun s12 =>
  (bd_un (ρ' := [.dat p0, .dat p1, .dat p2, .dat (.list s12), .no, .no, .no]) (bd_cons (sd_as (e2 := fun s16 => [.dat p0, .dat p1, .dat p2, .dat (.list s12), .no, .no, .no]) (sd_for (S := Unit) (j := 5) (s0 := ()) (emb := fun s13 => [.dat p0, .dat p1, .dat p2, .dat (.list s12), .no, .no, .no]) (ρb := fun s13 x14 => [.dat p0, .dat p1, .dat p2, .dat (.list s12), .no, .dat x14, .no]) nd hp (id_list (pd_var 3)) ⟨.inr rfl, ⟨.inr rfl, ⟨.inr rfl, ⟨.inr rfl, ⟨.inr rfl, ⟨.inr rfl, ⟨.inr rfl, trivial⟩⟩⟩⟩⟩⟩⟩ (fun _ _ => rfl) fun s13 x14 =>
  (bd_cons (S := Unit) (e1 := fun s15 => [.dat p0, .dat p1, .dat p2, .dat (.list s12), .no, .dat x14, .no]) (sd_if (td_not (td_val (pd_fn c_law_same (hr.mono (by decide)) (ad_cons (pd_fn c_law_call (hr.mono (by decide)) (ad_cons (pd_ix (pd_var 5) pd_int) (ad_cons (pd_ix (pd_var 5) pd_int) (ad_cons (pd_ix (pd_var 5) pd_int) ad_nil)))) (ad_cons (pd_tup (ad_cons pd_str (ad_cons (pd_ix (pd_var 5) pd_int) (ad_cons (pd_neg pd_int) (ad_cons pd_bl ad_nil))))) ad_nil))))) (bd_one (sd_ret (ρ' := [.dat p0, .dat p1, .dat p2, .dat (.list s12), .no, .dat x14, .no]) pd_bl)) (bd_nil (s := ()) (e := fun s15 => [.dat p0, .dat p1, .dat p2, .dat (.list s12), .no, .dat x14, .no]) ⟨.inr rfl, ⟨.inr rfl, ⟨.inr rfl, ⟨.inr rfl, ⟨.inr rfl, ⟨.inr rfl, ⟨.inr rfl, trivial⟩⟩⟩⟩⟩⟩⟩)) fun s15 =>
  (bd_nil (s := ()) (e := fun s13 => [.dat p0, .dat p1, .dat p2, .dat (.list s12), .no, .no, .no]) ⟨.inr rfl, ⟨.inr rfl, ⟨.inr rfl, ⟨.inr rfl, ⟨.inr rfl, ⟨.inl rfl, ⟨.inr rfl, trivial⟩⟩⟩⟩⟩⟩⟩))) (fun _ => rfl)) fun s16 =>
  (bd_cons (sd_as (e2 := fun d17 => [.dat p0, .dat p1, .dat p2, .dat (.list s12), .no, .no, .dat d17]) (sd_asg (i := 6) nd (pd_fn c_law_value_line (hr.mono (by decide)) (ad_cons (pd_var 1) ad_nil))) (fun _ => rfl)) fun d17 =>
  (bd_cons (S := Unit) (e1 := fun s18 => [.dat p0, .dat p1, .dat p2, .dat (.list s12), .no, .no, .dat d17]) (sd_if (td_not (td_val (pd_fn c_law_same (hr.mono (by decide)) (ad_cons (pd_fnK (ks := ["value", "operation"]) (pm := pmSwap) (F := F_value_line) (n := 2) (k := 5) k_value_line pmSwap_dt (hr.mono (by decide)) (kd_cons (pd_var 1) (kd_cons (pd_var 0) kd_nil))) (ad_cons (pd_var 6) ad_nil))))) (bd_one (sd_ret (ρ' := [.dat p0, .dat p1, .dat p2, .dat (.list s12), .no, .no, .dat d17]) pd_bl)) (bd_nil (s := ()) (e := fun s18 => [.dat p0, .dat p1, .dat p2, .dat (.list s12), .no, .no, .dat d17]) ⟨.inr rfl, ⟨.inr rfl, ⟨.inr rfl, ⟨.inr rfl, ⟨.inr rfl, ⟨.inr rfl, ⟨.inr rfl, trivial⟩⟩⟩⟩⟩⟩⟩)) fun s18 =>
  (bd_one (sd_ret (ρ' := [.dat p0, .dat p1, .dat p2, .dat (.list s12), .no, .no, .dat d17]) (pd_fn c_law_same (hr.mono (by decide)) (ad_cons (pd_fnK (ks := ["text", "operation"]) (pm := pmSwap) (F := F_read_value) (n := 2) (k := 3) k_read_value pmSwap_dt (hr.mono (by decide)) (kd_cons (pd_var 6) (kd_cons (pd_var 0) kd_nil))) (ad_cons (pd_var 1) ad_nil)))))))))))))))⟩

end UT
end
section
set_option Elab.async false
set_option linter.all false
set_option maxRecDepth 100000
set_option maxHeartbeats 4000000
namespace UT
open PySem PySem.Spec PyProof.Rows L2
theorem sc_law_operation : FnScope ["_law_n", "_law_words_here", "_law_more", "_law_word", "_law_modulus"] ["_law_n"] (defScope st_law_operation) := ⟨rfl, rfl, rfl, by decide +kernel, rfl, by decide +kernel, by decide +kernel⟩
theorem ok_law_operation {P : Program} {w : World} {K : PySem.W.Frag} {mg : Str → Option Value} {base : Heap} {f : Addr} {fd : FuncData} (Fn : FnP K "_law_operation" "_law_operation" st_law_operation f fd) (B : Blt mg) :
    FnOk P w K mg base (L2.CX P w) 1 f fd ["_law_n"] (SpF K F_law_operation 1) := by
  refine fnF Fn sc_law_operation rfl fun cdv A outer s H E hr ds hl => ?_
  match ds, hl with
  | [p0], _ =>
    have nd := sc_law_operation.nd
    exact ⟨Unit, _, false, m_law_operation p0, fun _ => [], rfl, by
    unfold m_law_operation
    exact (bd_cons (sd_as (e2 := fun d1 => [.dat p0, .dat d1, .no, .no, .no]) (sd_asg (i := 1) nd (pd_tup (ad_cons pd_str (ad_cons pd_str (ad_cons pd_str (ad_cons pd_str (ad_cons pd_str (ad_cons pd_str ad_nil)))))))) (fun _ => rfl)) fun d1 =>
  (bd_cons (sd_as (e2 := fun d2 => [.dat p0, .dat d1, .dat d2, .no, .no]) (sd_asg (i := 2) nd (pd_tup (ad_cons pd_str (ad_cons pd_str (ad_cons pd_str (ad_cons pd_str (ad_cons pd_str (ad_cons pd_str ad_nil)))))))) (fun _ => rfl)) fun d2 =>
  (bd_cons (sd_as (e2 := fun d3 => [.dat p0, .dat d1, .dat d2, .dat d3, .no]) (sd_asg (i := 3) nd (pd_ix (pd_op op_catT rd_catT (pd_var 1) (pd_var 2)) (pd_ix (pd_var 0) pd_int))) (fun _ => rfl)) fun d3 =>
  (bd_cons (S := Unit) (e1 := fun s4 => [.dat p0, .dat d1, .dat d2, .dat d3, .no]) (sd_if (td_w (wd_or (td_cmp op_eq rd_eqS (pd_var 3) pd_str) (wd_or1 (td_cmp op_eq rd_eqS (pd_var 3) pd_str)))) (bd_cons (S := Unit) (e1 := fun s5 => [.dat p0, .dat d1, .dat d2, .dat d3, .no]) (sd_if (td_cmp op_eq rd_eqS (pd_ix (pd_var 0) pd_int) pd_int) (bd_one (sd_ret (ρ' := [.dat p0, .dat d1, .dat d2, .dat d3, .no]) (pd_tup (ad_cons (pd_var 3) (ad_cons (pd_op op_sub rd_sub pd_int (pd_ix (pd_var 0) pd_int)) ad_nil))))) (bd_nil (s := ()) (e := fun s5 => [.dat p0, .dat d1, .dat d2, .dat d3, .no]) ⟨.inr rfl, ⟨.inr rfl, ⟨.inr rfl, ⟨.inr rfl, ⟨.inr rfl, trivial⟩⟩⟩⟩⟩)) fun s5 =>
  (bd_one (sd_ret (ρ' := [.dat p0, .dat d1, .dat d2, .dat d3, .no]) (pd_tup (ad_cons (pd_var 3) (ad_cons (pd_op op_add rd_add (pd_ix (pd_var 0) pd_int) pd_int) ad_nil)))))) (bd_nil (s := ()) (e := fun s4 => [.dat p0, .dat d1, .dat d2, .dat d3, .no]) ⟨.inr rfl, ⟨.inr rfl, ⟨.inr rfl, ⟨.inr rfl, ⟨.inr rfl, trivial⟩⟩⟩⟩⟩)) fun s4 =>
  (bd_cons (S := Unit) (e1 := fun s6 => [.dat p0, .dat d1, .dat d2, .dat d3, .no]) (sd_if (td_cmp op_eq rd_eqS (pd_var 3) pd_str) (bd_one (sd_ret (ρ' := [.dat p0, .dat d1, .dat d2, .dat d3, .no]) (pd_tup (ad_cons (pd_var 3) (ad_cons (pd_ix (pd_tup (ad_cons pd_int (ad_cons pd_int (ad_cons pd_int (ad_cons pd_int (ad_cons pd_int (ad_cons pd_int ad_nil))))))) (pd_ix (pd_var 0) pd_int)) ad_nil))))) (bd_nil (s := ()) (e := fun s6 => [.dat p0, .dat d1, .dat d2, .dat d3, .no]) ⟨.inr rfl, ⟨.inr rfl, ⟨.inr rfl, ⟨.inr rfl, ⟨.inr rfl, trivial⟩⟩⟩⟩⟩)) fun s6 =>
  (bd_cons (S := Unit) (e1 := fun s7 => [.dat p0, .dat d1, .dat d2, .dat d3, .no]) (sd_if (td_cmp op_eq rd_eqS (pd_var 3) pd_str) (bd_cons (sd_as (e2 := fun d8 => [.dat p0, .dat d1, .dat d2, .dat d3, .dat d8]) (sd_asg (i := 4) nd (pd_ix (pd_tup (ad_cons pd_int (ad_cons pd_int (ad_cons pd_int (ad_cons pd_int (ad_cons pd_int (ad_cons (pd_op op_sub rd_sub pd_int (pd_ix (pd_var 0) pd_int)) ad_nil))))))) (pd_ix (pd_var 0) pd_int))) (fun _ => rfl)) fun d8 =>
  (bd_one (sd_ret (ρ' := [.dat p0, .dat d1, .dat d2, .dat d3, .dat d8]) (pd_tup (ad_cons (pd_var 3) (ad_cons (pd_ix (pd_tup (ad_cons pd_int (ad_cons pd_int (ad_cons pd_int (ad_cons pd_int (ad_cons pd_int (ad_cons pd_int ad_nil))))))) (pd_ix (pd_var 0) pd_int)) (ad_cons (pd_var 4) ad_nil))))))) (bd_nil (s := ()) (e := fun s7 => [.dat p0, .dat d1, .dat d2, .dat d3, .no]) ⟨.inr rfl, ⟨.inr rfl, ⟨.inr rfl, ⟨.inr rfl, ⟨.inr rfl, trivial⟩⟩⟩⟩⟩)) fun s7 =>
  (bd_cons (S := Unit) (e1 := fun s9 => [.dat p0, .dat d1, .dat d2, .dat d3, .no]) (sd_if (td_cmp op_eq rd_eqS (pd_var 3) pd_str) (bd_one (sd_ret (ρ' := [.dat p0, .dat d1, .dat d2, .dat d3, .no]) (pd_tup (ad_cons (pd_var 3) (ad_cons (pd_ix (pd_tup (ad_cons pd_int (ad_cons pd_int (ad_cons pd_int (ad_cons pd_int (ad_cons pd_int (ad_cons pd_int ad_nil))))))) (pd_ix (pd_var 0) pd_int)) ad_nil))))) (bd_nil (s := ()) (e := fun s9 => [.dat p0, .dat d1, .dat d2, .dat d3, .no]) ⟨.inr rfl, ⟨.inr rfl, ⟨.inr rfl, ⟨.inr rfl, ⟨.inr rfl, trivial⟩⟩⟩⟩⟩)) fun s9 =>
  (bd_one (sd_ret (ρ' := [.dat p0, .dat d1, .dat d2, .dat d3, .no]) (pd_tup (ad_cons (pd_var 3) ad_nil)))))))))))⟩

end UT
end
section
set_option Elab.async false
set_option linter.all false
set_option maxRecDepth 100000
set_option maxHeartbeats 4000000
namespace UT
open PySem PySem.Spec PyProof.Rows L2
theorem sc_law_operation_due : FnScope ["_law_text", "_law_parts", "_law_need_here", "_law_k", "_law_part"] ["_law_text"] (defScope st_law_operation_due) := ⟨rfl, rfl, rfl, by decide +kernel, rfl, by decide +kernel, by decide +kernel⟩
theorem ok_law_operation_due {P : Program} {w : World} {K : PySem.W.Frag} {mg : Str → Option Value} {base : Heap} {f : Addr} {fd : FuncData} (Fn : FnP K "_law_operation_due" "_law_operation_due" st_law_operation_due f fd) (B : Blt mg) (c_law_figures : Cal P w K mg base "_law_figures" 1 1 F_law_figures) (c_law_need : Cal P w K mg base "_law_need" 1 1 F_law_need) (c_law_no : Cal P w K mg base "_law_no" 1 1 F_law_no) :
    FnOk P w K mg base (L2.CX P w) 2 f fd ["_law_text"] (SpF K F_law_operation_due 1) := by
  refine fnF Fn sc_law_operation_due rfl fun cdv A outer s H E hr ds hl => ?_
  match ds, hl with
  | [p0], _ =>
    have nd := sc_law_operation_due.nd
    have hp : PassesOwn (model P w) (cxOf (L2.CX P w) P w K mg base ["_law_text", "_law_parts", "_law_need_here", "_law_k", "_law_part"] "_law_operation_due" (defScope st_law_operation_due) f cdv A outer s H E).A (cxOf (L2.CX P w) P w K mg base ["_law_text", "_law_parts", "_law_need_here", "_law_k", "_law_part"] "_law_operation_due" (defScope st_law_operation_due) f cdv A outer s H E).env (cxOf (L2.CX P w) P w K mg base ["_law_text", "_law_parts", "_law_need_here", "_law_k", "_law_part"] "_law_operation_due" (defScope st_law_operation_due) f cdv A outer s H E).xe := passes_of rfl
    exact ⟨Unit, _, false, m_law_operation_due p0, fun _ => [], rfl, by
    unfold m_law_operation_due
    exact (bd_cons (sd_as (e2 := fun d1 => [.dat p0, .dat d1, .no, .no, .no]) (sd_asg (i := 1) nd (pd_m1 F.slot_str_split F.type_str_split mt_split rm_split (pd_var 0) pd_str)) (fun _ => rfl)) fun d1 =>
  (bd_cons (sd_as (e2 := fun d2 => [.dat p0, .dat d1, .dat d2, .no, .no]) (sd_asg (i := 2) nd (pd_fn c_law_need (hr.mono (by decide)) (ad_cons (pd_ix (pd_var 1) pd_int) ad_nil))) (fun _ => rfl)) fun d2 =>
  (bd_cons (S := Unit) (e1 := fun s3 => [.dat p0, .dat d1, .dat d2, .no, .no]) (sd_if (td_cmp op_isN rd_isN (pd_var 2) pd_non) (bd_one (sd_ret (ρ' := [.dat p0, .dat d1, .dat d2, .no, .no]) (pd_fn c_law_no (hr.mono (by decide)) (ad_cons pd_int ad_nil)))) (bd_nil (s := ()) (e := fun s3 => [.dat p0, .dat d1, .dat d2, .no, .no]) ⟨.inr rfl, ⟨.inr rfl, ⟨.inr rfl, ⟨.inr rfl, ⟨.inr rfl, trivial⟩⟩⟩⟩⟩)) fun s3 =>
  (bd_cons (sd_as (e2 := fun s7 => [.dat p0, .dat d1, .dat d2, .no, .no]) (sd_for (S := Unit) (j := 3) (s0 := ()) (emb := fun s4 => [.dat p0, .dat d1, .dat d2, .no, .no]) (ρb := fun s4 x5 => [.dat p0, .dat d1, .dat d2, .dat x5, .no]) nd hp (id_rng2 B.range (ad_cons pd_int (ad_cons (pd_blt (id := "len") call_len rc_len B.len (ad_cons (pd_var 1) ad_nil)) ad_nil))) ⟨.inr rfl, ⟨.inr rfl, ⟨.inr rfl, ⟨.inr rfl, ⟨.inr rfl, trivial⟩⟩⟩⟩⟩ (fun _ _ => rfl) fun s4 x5 =>
  (bd_cons (S := Unit) (e1 := fun s6 => [.dat p0, .dat d1, .dat d2, .dat x5, .no]) (sd_if (td_w (wd_or (td_cmp op_gt rd_gt (pd_var 3) (pd_var 2)) (wd_or (td_not (td_val (pd_fn c_law_figures (hr.mono (by decide)) (ad_cons (pd_ix (pd_var 1) (pd_var 3)) ad_nil)))) (wd_or1 (td_cmp op_eq rd_eqS (pd_ix (pd_var 1) (pd_var 3)) pd_str))))) (bd_one (sd_ret (ρ' := [.dat p0, .dat d1, .dat d2, .dat x5, .no]) (pd_fn c_law_no (hr.mono (by decide)) (ad_cons (pd_var 3) ad_nil)))) (bd_nil (s := ()) (e := fun s6 => [.dat p0, .dat d1, .dat d2, .dat x5, .no]) ⟨.inr rfl, ⟨.inr rfl, ⟨.inr rfl, ⟨.inr rfl, ⟨.inr rfl, trivial⟩⟩⟩⟩⟩)) fun s6 =>
  (bd_nil (s := ()) (e := fun s4 => [.dat p0, .dat d1, .dat d2, .no, .no]) ⟨.inr rfl, ⟨.inr rfl, ⟨.inr rfl, ⟨.inl rfl, ⟨.inr rfl, trivial⟩⟩⟩⟩⟩))) (fun _ => rfl)) fun s7 =>
  (bd_cons (S := Unit) (e1 := fun s8 => [.dat p0, .dat d1, .dat d2, .no, .no]) (sd_if (td_cmp op_le rd_le (pd_blt (id := "len") call_len rc_len B.len (ad_cons (pd_var 1) ad_nil)) (pd_var 2)) (bd_one (sd_ret (ρ' := [.dat p0, .dat d1, .dat d2, .no, .no]) (pd_fn c_law_no (hr.mono (by decide)) (ad_cons (pd_blt (id := "len") call_len rc_len B.len (ad_cons (pd_var 1) ad_nil)) ad_nil)))) (bd_nil (s := ()) (e := fun s8 => [.dat p0, .dat d1, .dat d2, .no, .no]) ⟨.inr rfl, ⟨.inr rfl, ⟨.inr rfl, ⟨.inr rfl, ⟨.inr rfl, trivial⟩⟩⟩⟩⟩)) fun s8 =>
  (bd_one (sd_ret (ρ' := [.dat p0, .dat d1, .dat d2, .no, .no]) (pd_tup (ad_cons pd_str (ad_cons (pd_ty (T := "tuple") call_tuple_of rc_tup B.tuple (ad_cons (pd_op op_cat rd_cat (pd_slice sl_list rs_L (pd_var 1) od_none (od_some pd_int)) (pd_lcZ (own := [("_law_part", 4)]) (j := 4) (ρw := [.dat p0, .dat d1, .dat d2, .no, .no]) (ρb := fun x9 => [.dat p0, .dat d1, .dat d2, .no, .dat x9]) nd (id_list (pd_slice sl_list rs_L (pd_var 1) (od_some pd_int) od_none)) (blkOk_by rfl) rfl rfl (fun _ => rfl) (fun x9 => (pd_ty (T := "int") call_int_str rc_intS B.int (ad_cons (pd_var 4) ad_nil))) (fun _ _ _ _ _ x9 => (pd_ty (T := "int") call_int_str rc_intS B.int (ad_cons (pd_var 4) ad_nil))) (hg := fun _ _ _ _ _ => pg_name nd rfl (Or.inl rfl)))) ad_nil)) ad_nil))))))))))⟩

end UT
end
section
set_option Elab.async false
set_option linter.all false
set_option maxRecDepth 100000
set_option maxHeartbeats 4000000
namespace UT
open PySem PySem.Spec PyProof.Rows L2
theorem sc_law_row : FnScope ["_law_n", "_law_out", "_law_k", "_law_low", "_law_ask"] ["_law_n"] (defScope st_law_row) := ⟨rfl, rfl, rfl, by decide +kernel, rfl, by decide +kernel, by decide +kernel⟩
theorem ok_law_row {P : Program} {w : World} {K : PySem.W.Frag} {mg : Str → Option Value} {base : Heap} {f : Addr} {fd : FuncData} (Fn : FnP K "_law_row" "_law_row" st_law_row f fd) (B : Blt mg) :
    FnOk P w K mg base (L2.CX P w) 1 f fd ["_law_n"] (SpF K F_law_row 1) := by
  refine fnF Fn sc_law_row rfl fun cdv A outer s H E hr ds hl => ?_
  match ds, hl with
  | [p0], _ =>
    have nd := sc_law_row.nd
    have hp : PassesOwn (model P w) (cxOf (L2.CX P w) P w K mg base ["_law_n", "_law_out", "_law_k", "_law_low", "_law_ask"] "_law_row" (defScope st_law_row) f cdv A outer s H E).A (cxOf (L2.CX P w) P w K mg base ["_law_n", "_law_out", "_law_k", "_law_low", "_law_ask"] "_law_row" (defScope st_law_row) f cdv A outer s H E).env (cxOf (L2.CX P w) P w K mg base ["_law_n", "_law_out", "_law_k", "_law_low", "_law_ask"] "_law_row" (defScope st_law_row) f cdv A outer s H E).xe := passes_of rfl
    exact ⟨Unit, _, false, m_law_row p0, fun _ => [], rfl, by
    unfold m_law_row
    exact (bd_cons (sd_as (e2 := fun l1 => [.dat p0, .own l1, .no, .no, .no]) (sd_own (i := 1) nd ad_nil) (fun _ => rfl)) fun l1 =>
  (bd_cons (sd_as (e2 := fun s8 => [.dat p0, .own s8, .no, .no, .no]) (sd_for (S := List PyData) (j := 2) (s0 := l1) (emb := fun s2 => [.dat p0, .own s2, .no, .no, .no]) (ρb := fun s2 x3 => [.dat p0, .own s2, .dat x3, .no, .no]) nd hp (id_rng1 B.range (ad_cons (pd_ix (pd_var 0) pd_int) ad_nil)) ⟨.inr rfl, ⟨.inr rfl, ⟨.inr rfl, ⟨.inr rfl, ⟨.inr rfl, trivial⟩⟩⟩⟩⟩ (fun _ _ => rfl) fun s2 x3 =>
  (bd_cons (sd_as (e2 := fun d4 => [.dat p0, .own s2, .dat x3, .dat d4, .no]) (sd_asg (i := 3) nd (pd_op op_modN rd_mod (pd_ty (T := "int") call_int1 rc_int1 B.int (ad_cons (pd_ix (pd_var 0) (pd_op op_add rd_add pd_int (pd_op op_mul rd_mul pd_int (pd_var 2)))) ad_nil)) (pd_op op_add rd_add pd_int (pd_op op_mul rd_mul pd_int (pd_ty (T := "int") call_int1 rc_int1 B.int (ad_cons (pd_cmp op_eq rd_eqS (pd_ix (pd_var 0) pd_int) pd_int) ad_nil)))))) (fun _ => rfl)) fun d4 =>
  (bd_cons (sd_as (e2 := fun d5 => [.dat p0, .own s2, .dat x3, .dat d4, .dat d5]) (sd_asg (i := 4) nd (pd_tup (ad_cons (pd_var 3) (ad_cons (pd_op op_add rd_add (pd_op op_add rd_add (pd_var 3) pd_int) (pd_op op_modN rd_mod (pd_ty (T := "int") call_int1 rc_int1 B.int (ad_cons (pd_ix (pd_var 0) (pd_op op_add rd_add pd_int (pd_op op_mul rd_mul pd_int (pd_var 2)))) ad_nil)) pd_int)) ad_nil)))) (fun _ => rfl)) fun d5 =>
  (bd_cons (S := List PyData) (e1 := fun s6 => [.dat p0, .own s6, .dat x3, .dat d4, .dat d5]) (sd_if (td_un (ρ' := [.dat p0, .dat (.list s2), .dat x3, .dat d4, .dat d5]) (td_cmp (op_notInD (hu1 hr)) rd_ninD (pd_var 4) (pd_var 1))) (bd_cons (sd_as (e2 := fun l7 => [.dat p0, .own l7, .dat x3, .dat d4, .dat d5]) (sd_app (i := 1) (pd_var 4)) (fun _ => rfl)) fun l7 =>
  (bd_nil (s := l7) (e := fun s6 => [.dat p0, .own s6, .dat x3, .dat d4, .dat d5]) ⟨.inr rfl, ⟨.inr rfl, ⟨.inr rfl, ⟨.inr rfl, ⟨.inr rfl, trivial⟩⟩⟩⟩⟩)) (bd_nil (s := s2) (e := fun s6 => [.dat p0, .own s6, .dat x3, .dat d4, .dat d5]) ⟨.inr rfl, ⟨.inr rfl, ⟨.inr rfl, ⟨.inr rfl, ⟨.inr rfl, trivial⟩⟩⟩⟩⟩)) fun s6 =>
  (bd_nil (s := s6) (e := fun s2 => [.dat p0, .own s2, .no, .no, .no]) ⟨.inr rfl, ⟨.inr rfl, ⟨.inl rfl, ⟨.inl rfl, ⟨.inl rfl, trivial⟩⟩⟩⟩⟩))))) (fun _ => rfl)) fun s8 =>
  (bd_one (sd_ret (ρ' := [.dat p0, .dat (.list s8), .no, .no, .no]) (pd_ty (T := "tuple") call_tuple_of rc_tup B.tuple (ad_cons (pd_blt (id := "sorted") cr_sortedPO rc_sort B.sorted (ad_cons (pd_var 1) ad_nil)) ad_nil))))))⟩

end UT
end
section
set_option Elab.async false
set_option linter.all false
set_option maxRecDepth 100000
set_option maxHeartbeats 4000000
namespace UT
open PySem PySem.Spec PyProof.Rows L2
theorem sc_law_same : FnScope ["_law_got", "_law_due_here", "_law_k"] ["_law_got", "_law_due_here"] (defScope st_law_same) := ⟨rfl, rfl, rfl, by decide +kernel, rfl, by decide +kernel, by decide +kernel⟩
theorem ok_law_same1 {P : Program} {w : World} {K : PySem.W.Frag} {mg : Str → Option Value} {base : Heap} {f : Addr} {fd : FuncData} (Fn : FnP K "_law_same" "_law_same" st_law_same f fd) (B : Blt mg) {k : Nat} {Fs : List PyData → Option (Except Err PyData)} (c_self : Cal P w K mg base "_law_same" k 2 Fs) :
    FnOk P w K mg base (L2.CX P w) (k + 1) f fd ["_law_got", "_law_due_here"] (SpF K (fun ds => match ds with
      | [p0, p1] => runM (m_law_same Fs p0 p1)
      | _ => none) 2) := by
  refine fnF Fn sc_law_same rfl fun cdv A outer s H E hr ds hl => ?_
  match ds, hl with
  | [p0, p1], _ =>
    have nd := sc_law_same.nd
    exact ⟨Unit, _, false, m_law_same Fs p0 p1, fun _ => [], rfl, by
    unfold m_law_same
    exact (bd_cons (S := Unit) (e1 := fun s1 => [.dat p0, .dat p1, .no]) (sd_if (td_w (wd_or (td_cmp op_isN rd_isN (pd_var 1) pd_non) (wd_or1 (td_cmp op_isN rd_isN (pd_var 0) pd_non)))) (bd_one (sd_ret (ρ' := [.dat p0, .dat p1, .no]) (pd_and (pd_cmp op_isN rd_isN (pd_var 1) pd_non) (pd_one (pd_cmp op_isN rd_isN (pd_var 0) pd_non))))) (bd_nil (s := ()) (e := fun s1 => [.dat p0, .dat p1, .no]) ⟨.inr rfl, ⟨.inr rfl, ⟨.inr rfl, trivial⟩⟩⟩)) fun s1 =>
  (bd_cons (S := Unit) (e1 := fun s2 => [.dat p0, .dat p1, .no]) (sd_if (td_w (wd_or (td_val (pd_isi (T := "bool") (Tn := "bool") (pd_var 1) B.isinstance B.bool)) (wd_or1 (td_val (pd_isi (T := "bool") (Tn := "bool") (pd_var 0) B.isinstance B.bool))))) (bd_one (sd_ret (ρ' := [.dat p0, .dat p1, .no]) (pd_and (pd_isi (T := "bool") (Tn := "bool") (pd_var 1) B.isinstance B.bool) (pd_and (pd_isi (T := "bool") (Tn := "bool") (pd_var 0) B.isinstance B.bool) (pd_one (pd_cmp op_eq rd_eqS (pd_var 0) (pd_var 1))))))) (bd_nil (s := ()) (e := fun s2 => [.dat p0, .dat p1, .no]) ⟨.inr rfl, ⟨.inr rfl, ⟨.inr rfl, trivial⟩⟩⟩)) fun s2 =>
  (bd_cons (S := Unit) (e1 := fun s3 => [.dat p0, .dat p1, .no]) (sd_if (td_val (pd_isi (T := "int") (Tn := "int") (pd_var 1) B.isinstance B.int)) (bd_one (sd_ret (ρ' := [.dat p0, .dat p1, .no]) (pd_and (pd_isi (T := "int") (Tn := "int") (pd_var 0) B.isinstance B.int) (pd_one (pd_cmp op_eq rd_eqS (pd_var 0) (pd_var 1)))))) (bd_nil (s := ()) (e := fun s3 => [.dat p0, .dat p1, .no]) ⟨.inr rfl, ⟨.inr rfl, ⟨.inr rfl, trivial⟩⟩⟩)) fun s3 =>
  (bd_cons (S := Unit) (e1 := fun s4 => [.dat p0, .dat p1, .no]) (sd_if (td_val (pd_isi (T := "str") (Tn := "str") (pd_var 1) B.isinstance B.str)) (bd_one (sd_ret (ρ' := [.dat p0, .dat p1, .no]) (pd_and (pd_isi (T := "str") (Tn := "str") (pd_var 0) B.isinstance B.str) (pd_one (pd_cmp op_eq rd_eqS (pd_var 0) (pd_var 1)))))) (bd_nil (s := ()) (e := fun s4 => [.dat p0, .dat p1, .no]) ⟨.inr rfl, ⟨.inr rfl, ⟨.inr rfl, trivial⟩⟩⟩)) fun s4 =>
  (bd_cons (S := Unit) (e1 := fun s5 => [.dat p0, .dat p1, .no]) (sd_if (td_w (wd_or (td_not (td_val (pd_isi (T := "tuple") (Tn := "tuple") (pd_var 0) B.isinstance B.tuple))) (wd_or1 (td_cmp op_ne rd_neS (pd_blt (id := "len") call_len rc_len B.len (ad_cons (pd_var 0) ad_nil)) (pd_blt (id := "len") call_len rc_len B.len (ad_cons (pd_var 1) ad_nil)))))) (bd_one (sd_ret (ρ' := [.dat p0, .dat p1, .no]) pd_bl)) (bd_nil (s := ()) (e := fun s5 => [.dat p0, .dat p1, .no]) ⟨.inr rfl, ⟨.inr rfl, ⟨.inr rfl, trivial⟩⟩⟩)) fun s5 =>
  (bd_one (sd_ret (ρ' := [.dat p0, .dat p1, .no]) (pd_blt (id := "all") (cr_all rfl) rc_all B.all (ad_cons (pd_lcZ (own := [("_law_k", 2)]) (j := 2) (ρw := [.dat p0, .dat p1, .no]) (ρb := fun x6 => [.dat p0, .dat p1, .dat x6]) nd (id_rng1 B.range (ad_cons (pd_blt (id := "len") call_len rc_len B.len (ad_cons (pd_var 1) ad_nil)) ad_nil)) (blkOk_by rfl) rfl rfl (fun _ => rfl) (fun x6 => (pd_fn c_self hr (ad_cons (pd_ix (pd_var 0) (pd_var 2)) (ad_cons (pd_ix (pd_var 1) (pd_var 2)) ad_nil)))) (fun _ _ _ _ _ x6 => (pd_fn c_self hr (ad_cons (pd_ix (pd_var 0) (pd_var 2)) (ad_cons (pd_ix (pd_var 1) (pd_var 2)) ad_nil)))) (hg := fun _ _ _ _ _ => pg_name nd rfl (Or.inl rfl))) ad_nil)))))))))⟩
theorem F_law_sameN_succ (n : Nat) : F_law_sameN (n + 1) = fun ds => match ds with
      | [p0, p1] => runM (m_law_same (F_law_sameN n) p0 p1)
      | _ => none := by
  funext ds
  match ds with
  | [] => rfl
  | [a] => rfl
  | [a, b] => rfl
  | a :: b :: c :: d => rfl
theorem ok_law_sameN {P : Program} {w : World} {K : PySem.W.Frag} {mg : Str → Option Value} {base : Heap} {f : Addr} {fd : FuncData} (Fn : FnP K "_law_same" "_law_same" st_law_same f fd) (B : Blt mg) {k n : Nat} (c_self : Cal P w K mg base "_law_same" k 2 (F_law_sameN n)) :
    FnOk P w K mg base (L2.CX P w) (k + 1) f fd ["_law_got", "_law_due_here"] (SpF K (F_law_sameN (n + 1)) 2) := by
  rw [F_law_sameN_succ]
  exact ok_law_same1 Fn B c_self

end UT
end
section
set_option Elab.async false
set_option linter.all false
set_option maxRecDepth 100000
set_option maxHeartbeats 4000000
namespace UT
open PySem PySem.Spec PyProof.Rows L2
theorem sc_law_spoilt : FnScope ["_law_text", "_law_pick", "_law_words_here", "_law_parts", "_law_at", "_law_word", "_law_more", "_law_head", "_law_tail", "_law_odd", "_law_rows", "_law_row_here"] ["_law_text", "_law_pick", "_law_words_here"] (defScope st_law_spoilt) := ⟨rfl, rfl, rfl, by decide +kernel, rfl, by decide +kernel, by decide +kernel⟩
theorem ok_law_spoilt {P : Program} {w : World} {K : PySem.W.Frag} {mg : Str → Option Value} {base : Heap} {f : Addr} {fd : FuncData} (Fn : FnP K "_law_spoilt" "_law_spoilt" st_law_spoilt f fd) (B : Blt mg) :
    FnOk P w K mg base (L2.CX P w) 1 f fd ["_law_text", "_law_pick", "_law_words_here"] (SpF K F_law_spoilt 3) := by
  refine fnFT Fn sc_law_spoilt rfl (by decide) (by decide +kernel) fun cdv A outer s H E hr ds hl => ?_
  match ds, hl with
  | [p0, p1, p2], _ =>
    have nd := sc_law_spoilt.nd
    exact ⟨Unit, _, false, m_law_spoilt p0 p1 p2, fun _ => [], rfl, by
    unfold m_law_spoilt
    exact (bdt_cons (sdt_as (e2 := fun d1 => [.dat p0, .dat p1, .dat p2, .dat d1, .no, .no, .no, .no, .no, .no, .no, .no]) (sdt_of (sd_asg (i := 3) nd (pd_m1 F.slot_str_split F.type_str_split mt_split rm_split (pd_var 0) pd_str))) (fun _ => rfl)) fun d1 =>
  (bdt_cons (sdt_as (e2 := fun d2 => [.dat p0, .dat p1, .dat p2, .dat d1, .dat d2, .no, .no, .no, .no, .no, .no, .no]) (sdt_of (sd_asg (i := 4) nd (pd_op op_modN rd_mod (pd_ty (T := "int") call_int1 rc_int1 B.int (ad_cons (pd_var 1) ad_nil)) (pd_blt (id := "len") call_len rc_len B.len (ad_cons (pd_var 3) ad_nil))))) (fun _ => rfl)) fun d2 =>
  (bdt_cons (sdt_as (e2 := fun d3 => [.dat p0, .dat p1, .dat p2, .dat d1, .dat d2, .dat d3, .no, .no, .no, .no, .no, .no]) (sdt_of (sd_asg (i := 5) nd (pd_ix (pd_var 2) (pd_op op_modN rd_mod (pd_ty (T := "int") call_int1 rc_int1 B.int (ad_cons (pd_op op_fdivN rd_fdiv (pd_var 1) pd_int) ad_nil)) (pd_blt (id := "len") call_len rc_len B.len (ad_cons (pd_var 2) ad_nil)))))) (fun _ => rfl)) fun d3 =>
  (bdt_cons (sdt_as (e2 := fun d4 => [.dat p0, .dat p1, .dat p2, .dat d1, .dat d2, .dat d3, .dat d4, .no, .no, .no, .no, .no]) (sdt_of (sd_asg (i := 6) nd (pd_ix (pd_var 2) (pd_op op_modN rd_mod (pd_ty (T := "int") call_int1 rc_int1 B.int (ad_cons (pd_op op_fdivN rd_fdiv (pd_var 1) pd_int) ad_nil)) (pd_blt (id := "len") call_len rc_len B.len (ad_cons (pd_var 2) ad_nil)))))) (fun _ => rfl)) fun d4 =>
  (bdt_cons (sdt_as (e2 := fun d5 => [.dat p0, .dat p1, .dat p2, .dat d1, .dat d2, .dat d3, .dat d4, .dat d5, .no, .no, .no, .no]) (sdt_of (sd_asg (i := 7) nd (pd_slice sl_list rs_L (pd_var 3) od_none (od_some (pd_var 4))))) (fun _ => rfl)) fun d5 =>
  (bdt_cons (sdt_as (e2 := fun d6 => [.dat p0, .dat p1, .dat p2, .dat d1, .dat d2, .dat d3, .dat d4, .dat d5, .dat d6, .no, .no, .no]) (sdt_of (sd_asg (i := 8) nd (pd_slice sl_list rs_L (pd_var 3) (od_some (pd_var 4)) od_none))) (fun _ => rfl)) fun d6 =>
  (bdt_cons (sdt_as (e2 := fun d7 => [.dat p0, .dat p1, .dat p2, .dat d1, .dat d2, .dat d3, .dat d4, .dat d5, .dat d6, .dat d7, .no, .no]) (sdt_asg (i := 9) nd (pdt_lst (adt_cons (pdt_of (pd_op op_add_str rd_addS (pd_var 0) pd_str)) (adt_cons (pdt_of (pd_op op_add_str rd_addS pd_str (pd_var 0))) (adt_cons (pdt_of (pd_op op_add_str rd_addS (pd_var 0) pd_str)) (adt_cons (pdt_repl (pd_var 0)) (adt_cons (pdt_of pd_str) (adt_cons (pdt_of pd_str) (adt_cons (pdt_of (pd_upper (pd_var 0))) (adt_cons (pdt_of (pd_op op_add_str rd_addS pd_str (pd_var 0))) (adt_cons (pdt_of (pd_op op_add_str rd_addS pd_str (pd_var 0))) adt_nil))))))))))) (fun _ => rfl)) fun d7 =>
  (bdt_cons (sdt_as (e2 := fun d8 => [.dat p0, .dat p1, .dat p2, .dat d1, .dat d2, .dat d3, .dat d4, .dat d5, .dat d6, .dat d8, .no, .no]) (sdt_asg (i := 9) nd (pdt_op op_cat rd_cat (pdt_of (pd_var 9)) (pdt_lst (adt_cons (pdt_of (pd_slice sl_str rs_S (pd_var 0) od_none (od_some (pd_neg pd_int)))) (adt_cons (pdt_of (pd_slice sl_str rs_S (pd_var 0) (od_some pd_int) od_none)) (adt_cons (pdt_of (pd_op op_add_str rd_addS (pd_op op_add_str rd_addS (pd_var 0) pd_str) (pd_var 0))) (adt_cons (pdt_of (pd_op op_add_str rd_addS (pd_op op_add_str rd_addS (pd_var 0) pd_str) (pd_var 0))) (adt_cons (pdt_of (pd_op op_add_str rd_addS (pd_var 0) pd_str)) (adt_cons (pdt_of (pd_op op_add_str rd_addS (pd_var 0) pd_str)) (adt_cons (pdt_repl (pd_var 0)) adt_nil)))))))))) (fun _ => rfl)) fun d8 =>
  (bdt_of (bd_cons (sd_as (e2 := fun d9 => [.dat p0, .dat p1, .dat p2, .dat d1, .dat d2, .dat d3, .dat d4, .dat d5, .dat d6, .dat d8, .dat d9, .no]) (sd_asg (i := 10) nd (pd_lst (ad_cons (pd_op op_cat rd_cat (pd_var 7) (pd_slice sl_list rs_L (pd_var 8) (od_some pd_int) od_none)) (ad_cons (pd_op op_cat rd_cat (pd_op op_cat rd_cat (pd_var 7) (pd_lst (ad_cons (pd_var 5) ad_nil))) (pd_slice sl_list rs_L (pd_var 8) (od_some pd_int) od_none)) (ad_cons (pd_op op_cat rd_cat (pd_op op_cat rd_cat (pd_var 7) (pd_lst (ad_cons (pd_var 5) ad_nil))) (pd_var 8)) (ad_cons (pd_op op_cat rd_cat (pd_op op_cat rd_cat (pd_var 7) (pd_slice sl_list rs_L (pd_var 8) od_none (od_some pd_int))) (pd_lst (ad_cons (pd_var 5) ad_nil))) (ad_cons (pd_op op_cat rd_cat (pd_var 7) (pd_lst (ad_cons (pd_var 5) (ad_cons (pd_var 6) ad_nil)))) ad_nil))))))) (fun _ => rfl)) fun d9 =>
  (bd_cons (sd_as (e2 := fun d10 => [.dat p0, .dat p1, .dat p2, .dat d1, .dat d2, .dat d3, .dat d4, .dat d5, .dat d6, .dat d8, .dat d10, .no]) (sd_asg (i := 10) nd (pd_op op_cat rd_cat (pd_var 10) (pd_lst (ad_cons (pd_lst (ad_cons (pd_var 5) ad_nil)) (ad_cons (pd_op op_cat rd_cat (pd_op op_cat rd_cat (pd_var 7) (pd_slice sl_list rs_L (pd_var 8) od_none (od_some pd_int))) (pd_var 8)) (ad_cons (pd_rev (pd_var 3)) (ad_cons (pd_op op_cat rd_cat (pd_slice sl_list rs_L (pd_var 3) (od_some pd_int) od_none) (pd_slice sl_list rs_L (pd_var 3) od_none (od_some pd_int))) (ad_cons (pd_op op_cat rd_cat (pd_lst (ad_cons (pd_var 5) ad_nil)) (pd_var 3)) (ad_cons (pd_op op_cat rd_cat (pd_var 3) (pd_lst (ad_cons (pd_var 5) (ad_cons (pd_var 6) ad_nil)))) ad_nil))))))))) (fun _ => rfl)) fun d10 =>
  (bd_one (sd_ret (ρ' := [.dat p0, .dat p1, .dat p2, .dat d1, .dat d2, .dat d3, .dat d4, .dat d5, .dat d6, .dat d8, .dat d10, .no]) (pd_op op_cat rd_cat (pd_var 9) (pd_lcZ (own := [("_law_row_here", 11)]) (j := 11) (ρw := [.dat p0, .dat p1, .dat p2, .dat d1, .dat d2, .dat d3, .dat d4, .dat d5, .dat d6, .dat d8, .dat d10, .no]) (ρb := fun x11 => [.dat p0, .dat p1, .dat p2, .dat d1, .dat d2, .dat d3, .dat d4, .dat d5, .dat d6, .dat d8, .dat d10, .dat x11]) nd (id_list (pd_var 10)) (blkOk_by rfl) rfl rfl (fun _ => rfl) (fun x11 => (pd_m1 F.slot_str_join F.type_str_join mt_join rm_join pd_str (pd_var 11))) (fun _ _ _ _ _ x11 => (pd_m1 F.slot_str_join F.type_str_join mt_join rm_join pd_str (pd_var 11))) (hg := fun _ _ _ _ _ => pg_name nd rfl (Or.inl rfl)))))))))))))))))⟩

end UT
end
section
set_option Elab.async false
set_option linter.all false
set_option maxRecDepth 100000
set_option maxHeartbeats 4000000
namespace UT
open PySem PySem.Spec PyProof.Rows L2
theorem sc_law_value : FnScope ["_law_op", "_law_n", "_law_word", "_law_flat", "_law_k"] ["_law_op", "_law_n"] (defScope st_law_value) := ⟨rfl, rfl, rfl, by decide +kernel, rfl, by decide +kernel, by decide +kernel⟩
theorem ok_law_value {P : Program} {w : World} {K : PySem.W.Frag} {mg : Str → Option Value} {base : Heap} {f : Addr} {fd : FuncData} (Fn : FnP K "_law_value" "_law_value" st_law_value f fd) (B : Blt mg) (c_law_number : Cal P w K mg base "_law_number" 1 2 F_law_number) :
    FnOk P w K mg base (L2.CX P w) 2 f fd ["_law_op", "_law_n"] (SpF K F_law_value 2) := by
  refine fnF Fn sc_law_value rfl fun cdv A outer s H E hr ds hl => ?_
  match ds, hl with
  | [p0, p1], _ =>
    have nd := sc_law_value.nd
    exact ⟨Unit, _, false, m_law_value p0 p1, fun _ => [], rfl, by
    unfold m_law_value
    exact (bd_cons (sd_as (e2 := fun d1 => [.dat p0, .dat p1, .dat d1, .no, .no]) (sd_asg (i := 2) nd (pd_ix (pd_var 0) pd_int)) (fun _ => rfl)) fun d1 =>
  (bd_cons (S := Unit) (e1 := fun s2 => [.dat p0, .dat p1, .dat d1, .no, .no]) (sd_if (td_w (wd_or (td_cmp op_eq rd_eqS (pd_var 2) pd_str) (wd_or1 (td_cmp op_eq rd_eqS (pd_var 2) pd_str)))) (bd_one (sd_ret (ρ' := [.dat p0, .dat p1, .dat d1, .no, .no]) (pd_op op_modN rd_mod (pd_ty (T := "int") call_int1 rc_int1 B.int (ad_cons (pd_op op_add rd_add (pd_op op_mul rd_mul (pd_ix (pd_var 1) pd_int) pd_int) (pd_ix (pd_var 1) pd_int)) ad_nil)) (pd_ix (pd_var 0) pd_int)))) (bd_nil (s := ()) (e := fun s2 => [.dat p0, .dat p1, .dat d1, .no, .no]) ⟨.inr rfl, ⟨.inr rfl, ⟨.inr rfl, ⟨.inr rfl, ⟨.inr rfl, trivial⟩⟩⟩⟩⟩)) fun s2 =>
  (bd_cons (S := Unit) (e1 := fun s3 => [.dat p0, .dat p1, .dat d1, .no, .no]) (sd_if (td_cmp op_eq rd_eqS (pd_var 2) pd_str) (bd_one (sd_ret (ρ' := [.dat p0, .dat p1, .dat d1, .no, .no]) (pd_fn c_law_number (hr.mono (by decide)) (ad_cons (pd_var 1) (ad_cons pd_int ad_nil))))) (bd_nil (s := ()) (e := fun s3 => [.dat p0, .dat p1, .dat d1, .no, .no]) ⟨.inr rfl, ⟨.inr rfl, ⟨.inr rfl, ⟨.inr rfl, ⟨.inr rfl, trivial⟩⟩⟩⟩⟩)) fun s3 =>
  (bd_cons (S := Unit) (e1 := fun s4 => [.dat p0, .dat p1, .dat d1, .no, .no]) (sd_if (td_cmp op_eq rd_eqS (pd_var 2) pd_str) (bd_one (sd_ret (ρ' := [.dat p0, .dat p1, .dat d1, .no, .no]) (pd_ty (T := "tuple") call_tuple_of rc_tup B.tuple (ad_cons (pd_lcZ (own := [("_law_k", 4)]) (j := 4) (ρw := [.dat p0, .dat p1, .dat d1, .no, .no]) (ρb := fun x5 => [.dat p0, .dat p1, .dat d1, .no, .dat x5]) nd (id_rng1 B.range (ad_cons (pd_ix (pd_var 0) pd_int) ad_nil)) (blkOk_by rfl) rfl rfl (fun _ => rfl) (fun x5 => (pd_op op_modN rd_mod (pd_ty (T := "int") call_int1 rc_int1 B.int (ad_cons (pd_ix (pd_var 1) (pd_var 4)) ad_nil)) (pd_ix (pd_var 0) pd_int))) (fun _ _ _ _ _ x5 => (pd_op op_modN rd_mod (pd_ty (T := "int") call_int1 rc_int1 B.int (ad_cons (pd_ix (pd_var 1) (pd_var 4)) ad_nil)) (pd_ix (pd_var 0) pd_int))) (hg := fun _ _ _ _ _ => pg_name nd rfl (Or.inl rfl))) ad_nil)))) (bd_nil (s := ()) (e := fun s4 => [.dat p0, .dat p1, .dat d1, .no, .no]) ⟨.inr rfl, ⟨.inr rfl, ⟨.inr rfl, ⟨.inr rfl, ⟨.inr rfl, trivial⟩⟩⟩⟩⟩)) fun s4 =>
  (bd_cons (S := Unit) (e1 := fun s6 => [.dat p0, .dat p1, .dat d1, .no, .no]) (sd_if (td_cmp op_eq rd_eqS (pd_var 2) pd_str) (bd_cons (sd_as (e2 := fun d7 => [.dat p0, .dat p1, .dat d1, .dat d7, .no]) (sd_asg (i := 3) nd (pd_lcZ (own := [("_law_k", 4)]) (j := 4) (ρw := [.dat p0, .dat p1, .dat d1, .no, .no]) (ρb := fun x8 => [.dat p0, .dat p1, .dat d1, .no, .dat x8]) nd (id_rng1 B.range (ad_cons (pd_op op_mul rd_mul (pd_ix (pd_var 0) pd_int) (pd_ix (pd_var 0) pd_int)) ad_nil)) (blkOk_by rfl) rfl rfl (fun _ => rfl) (fun x8 => (pd_op op_modN rd_mod (pd_ty (T := "int") call_int1 rc_int1 B.int (ad_cons (pd_op op_add rd_add (pd_op op_mul rd_mul (pd_ix (pd_var 1) (pd_var 4)) pd_int) (pd_op op_fdivN rd_fdiv (pd_ix (pd_var 1) (pd_var 4)) pd_int)) ad_nil)) (pd_ix (pd_var 0) pd_int))) (fun _ _ _ _ _ x8 => (pd_op op_modN rd_mod (pd_ty (T := "int") call_int1 rc_int1 B.int (ad_cons (pd_op op_add rd_add (pd_op op_mul rd_mul (pd_ix (pd_var 1) (pd_var 4)) pd_int) (pd_op op_fdivN rd_fdiv (pd_ix (pd_var 1) (pd_var 4)) pd_int)) ad_nil)) (pd_ix (pd_var 0) pd_int))) (hg := fun _ _ _ _ _ => pg_name nd rfl (Or.inl rfl)))) (fun _ => rfl)) fun d7 =>
  (bd_one (sd_ret (ρ' := [.dat p0, .dat p1, .dat d1, .dat d7, .no]) (pd_ty (T := "tuple") call_tuple_of rc_tup B.tuple (ad_cons (pd_lcZ (own := [("_law_k", 4)]) (j := 4) (ρw := [.dat p0, .dat p1, .dat d1, .dat d7, .no]) (ρb := fun x9 => [.dat p0, .dat p1, .dat d1, .dat d7, .dat x9]) nd (id_rng1 B.range (ad_cons (pd_ix (pd_var 0) pd_int) ad_nil)) (blkOk_by rfl) rfl rfl (fun _ => rfl) (fun x9 => (pd_ty (T := "tuple") call_tuple_of rc_tup B.tuple (ad_cons (pd_slice sl_list rs_L (pd_var 3) (od_some (pd_op op_mul rd_mul (pd_var 4) (pd_ix (pd_var 0) pd_int))) (od_some (pd_op op_add rd_add (pd_op op_mul rd_mul (pd_var 4) (pd_ix (pd_var 0) pd_int)) (pd_ix (pd_var 0) pd_int)))) ad_nil))) (fun _ _ _ _ _ x9 => (pd_ty (T := "tuple") call_tuple_of rc_tup B.tuple (ad_cons (pd_slice sl_list rs_L (pd_var 3) (od_some (pd_op op_mul rd_mul (pd_var 4) (pd_ix (pd_var 0) pd_int))) (od_some (pd_op op_add rd_add (pd_op op_mul rd_mul (pd_var 4) (pd_ix (pd_var 0) pd_int)) (pd_ix (pd_var 0) pd_int)))) ad_nil))) (hg := fun _ _ _ _ _ => pg_name nd rfl (Or.inl rfl))) ad_nil))))) (bd_nil (s := ()) (e := fun s6 => [.dat p0, .dat p1, .dat d1, .no, .no]) ⟨.inr rfl, ⟨.inr rfl, ⟨.inr rfl, ⟨.inr rfl, ⟨.inr rfl, trivial⟩⟩⟩⟩⟩)) fun s6 =>
  (bd_cons (S := Unit) (e1 := fun s10 => [.dat p0, .dat p1, .dat d1, .no, .no]) (sd_if (td_cmp op_eq rd_eqS (pd_var 2) pd_str) (bd_one (sd_ret (ρ' := [.dat p0, .dat p1, .dat d1, .no, .no]) (pd_tup (ad_cons (pd_fn c_law_number (hr.mono (by decide)) (ad_cons (pd_var 1) (ad_cons pd_int ad_nil))) (ad_cons (pd_fn c_law_number (hr.mono (by decide)) (ad_cons (pd_var 1) (ad_cons pd_int ad_nil))) ad_nil))))) (bd_nil (s := ()) (e := fun s10 => [.dat p0, .dat p1, .dat d1, .no, .no]) ⟨.inr rfl, ⟨.inr rfl, ⟨.inr rfl, ⟨.inr rfl, ⟨.inr rfl, trivial⟩⟩⟩⟩⟩)) fun s10 =>
  (bd_cons (S := Unit) (e1 := fun s11 => [.dat p0, .dat p1, .dat d1, .no, .no]) (sd_if (td_cmp op_eq rd_eqS (pd_var 2) pd_str) (bd_cons (S := Unit) (e1 := fun s12 => [.dat p0, .dat p1, .dat d1, .no, .no]) (sd_if (td_cmp op_eq rd_eqS (pd_op op_modN rd_mod (pd_ty (T := "int") call_int1 rc_int1 B.int (ad_cons (pd_ix (pd_var 1) pd_int) ad_nil)) pd_int) pd_int) (bd_one (sd_ret (ρ' := [.dat p0, .dat p1, .dat d1, .no, .no]) pd_non)) (bd_nil (s := ()) (e := fun s12 => [.dat p0, .dat p1, .dat d1, .no, .no]) ⟨.inr rfl, ⟨.inr rfl, ⟨.inr rfl, ⟨.inr rfl, ⟨.inr rfl, trivial⟩⟩⟩⟩⟩)) fun s12 =>
  (bd_one (sd_ret (ρ' := [.dat p0, .dat p1, .dat d1, .no, .no]) (pd_tup (ad_cons (pd_fn c_law_number (hr.mono (by decide)) (ad_cons (pd_var 1) (ad_cons pd_int ad_nil))) (ad_cons (pd_op op_add rd_add (pd_op op_add rd_add (pd_fn c_law_number (hr.mono (by decide)) (ad_cons (pd_var 1) (ad_cons pd_int ad_nil))) pd_int) (pd_op op_modN rd_mod (pd_ty (T := "int") call_int1 rc_int1 B.int (ad_cons (pd_ix (pd_var 1) pd_int) ad_nil)) pd_int)) ad_nil)))))) (bd_nil (s := ()) (e := fun s11 => [.dat p0, .dat p1, .dat d1, .no, .no]) ⟨.inr rfl, ⟨.inr rfl, ⟨.inr rfl, ⟨.inr rfl, ⟨.inr rfl, trivial⟩⟩⟩⟩⟩)) fun s11 =>
  (bd_cons (S := Unit) (e1 := fun s13 => [.dat p0, .dat p1, .dat d1, .no, .no]) (sd_if (td_cmp op_eq rd_eqS (pd_var 2) pd_str) (bd_one (sd_ret (ρ' := [.dat p0, .dat p1, .dat d1, .no, .no]) (pd_ty (T := "tuple") call_tuple_of rc_tup B.tuple (ad_cons (pd_lcZ (own := [("_law_k", 4)]) (j := 4) (ρw := [.dat p0, .dat p1, .dat d1, .no, .no]) (ρb := fun x14 => [.dat p0, .dat p1, .dat d1, .no, .dat x14]) nd (id_rng1 B.range (ad_cons (pd_ix (pd_var 0) pd_int) ad_nil)) (blkOk_by rfl) rfl rfl (fun _ => rfl) (fun x14 => (pd_fn c_law_number (hr.mono (by decide)) (ad_cons (pd_var 1) (ad_cons (pd_op op_modN rd_mod (pd_ty (T := "int") call_int1 rc_int1 B.int (ad_cons (pd_var 4) ad_nil)) pd_int) ad_nil)))) (fun _ _ _ _ _ x14 => (pd_fn c_law_number (hr.mono (by decide)) (ad_cons (pd_var 1) (ad_cons (pd_op op_modN rd_mod (pd_ty (T := "int") call_int1 rc_int1 B.int (ad_cons (pd_var 4) ad_nil)) pd_int) ad_nil)))) (hg := fun _ _ _ _ _ => pg_name nd rfl (Or.inl rfl))) ad_nil)))) (bd_nil (s := ()) (e := fun s13 => [.dat p0, .dat p1, .dat d1, .no, .no]) ⟨.inr rfl, ⟨.inr rfl, ⟨.inr rfl, ⟨.inr rfl, ⟨.inr rfl, trivial⟩⟩⟩⟩⟩)) fun s13 =>
  (bd_one (sd_ret (ρ' := [.dat p0, .dat p1, .dat d1, .no, .no]) (pd_op op_mul rd_mul (pd_fn c_law_number (hr.mono (by decide)) (ad_cons (pd_var 1) (ad_cons pd_int ad_nil))) (pd_op op_sub rd_sub pd_int (pd_op op_mul rd_mul pd_int (pd_op op_modN rd_mod (pd_ty (T := "int") call_int1 rc_int1 B.int (ad_cons (pd_ix (pd_var 1) pd_int) ad_nil)) pd_int))))))))))))))⟩

end UT
end
section
set_option Elab.async false
set_option linter.all false
set_option maxRecDepth 100000
set_option maxHeartbeats 4000000
namespace UT
open PySem PySem.Spec PyProof.Rows L2
theorem sc_law_value_due : FnScope ["_law_op", "_law_text", "_law_parts", "_law_flat", "_law_k", "_law_part"] ["_law_op", "_law_text"] (defScope st_law_value_due) := ⟨rfl, rfl, rfl, by decide +kernel, rfl, by decide +kernel, by decide +kernel⟩
theorem ok_law_value_due {P : Program} {w : World} {K : PySem.W.Frag} {mg : Str → Option Value} {base : Heap} {f : Addr} {fd : FuncData} (Fn : FnP K "_law_value_due" "_law_value_due" st_law_value_due f fd) (B : Blt mg) (c_law_figures : Cal P w K mg base "_law_figures" 1 1 F_law_figures) (c_law_many : Cal P w K mg base "_law_many" 1 1 F_law_many) (c_law_no : Cal P w K mg base "_law_no" 1 1 F_law_no) :
    FnOk P w K mg base (L2.CX P w) 2 f fd ["_law_op", "_law_text"] (SpF K F_law_value_due 2) := by
  refine fnF Fn sc_law_value_due rfl fun cdv A outer s H E hr ds hl => ?_
  match ds, hl with
  | [p0, p1], _ =>
    have nd := sc_law_value_due.nd
    have hp : PassesOwn (model P w) (cxOf (L2.CX P w) P w K mg base ["_law_op", "_law_text", "_law_parts", "_law_flat", "_law_k", "_law_part"] "_law_value_due" (defScope st_law_value_due) f cdv A outer s H E).A (cxOf (L2.CX P w) P w K mg base ["_law_op", "_law_text", "_law_parts", "_law_flat", "_law_k", "_law_part"] "_law_value_due" (defScope st_law_value_due) f cdv A outer s H E).env (cxOf (L2.CX P w) P w K mg base ["_law_op", "_law_text", "_law_parts", "_law_flat", "_law_k", "_law_part"] "_law_value_due" (defScope st_law_value_due) f cdv A outer s H E).xe := passes_of rfl
    exact ⟨Unit, _, false, m_law_value_due p0 p1, fun _ => [], rfl, by
    unfold m_law_value_due
    exact (bd_cons (sd_as (e2 := fun d1 => [.dat p0, .dat p1, .dat d1, .no, .no, .no]) (sd_asg (i := 2) nd (pd_m1 F.slot_str_split F.type_str_split mt_split rm_split (pd_var 1) pd_str)) (fun _ => rfl)) fun d1 =>
  (bd_cons (S := Unit) (e1 := fun s2 => [.dat p0, .dat p1, .dat d1, .no, .no, .no]) (sd_if (td_w (wd_and (td_cmp op_eq rd_eqS (pd_ix (pd_var 0) pd_int) pd_str) (wd_and1 (td_cmp op_eq rd_eqS (pd_ix (pd_var 2) pd_int) pd_str)))) (bd_one (sd_ret (ρ' := [.dat p0, .dat p1, .dat d1, .no, .no, .no]) (pd_ix (pd_tup (ad_cons (pd_tup (ad_cons pd_str (ad_cons pd_non ad_nil))) (ad_cons (pd_fn c_law_no (hr.mono (by decide)) (ad_cons pd_int ad_nil)) ad_nil))) (pd_ty (T := "int") call_int1 rc_int1 B.int (ad_cons (pd_cmp op_gt rd_gt (pd_blt (id := "len") call_len rc_len B.len (ad_cons (pd_var 2) ad_nil)) pd_int) ad_nil))))) (bd_nil (s := ()) (e := fun s2 => [.dat p0, .dat p1, .dat d1, .no, .no, .no]) ⟨.inr rfl, ⟨.inr rfl, ⟨.inr rfl, ⟨.inr rfl, ⟨.inr rfl, ⟨.inr rfl, trivial⟩⟩⟩⟩⟩⟩)) fun s2 =>
  (bd_cons (sd_as (e2 := fun l3 => [.dat p0, .dat p1, .dat d1, .own l3, .no, .no]) (sd_own (i := 3) nd ad_nil) (fun _ => rfl)) fun l3 =>
  (bd_cons (sd_as (e2 := fun s13 => [.dat p0, .dat p1, .dat d1, .own s13, .no, .no]) (sd_for (S := List PyData) (j := 4) (s0 := l3) (emb := fun s4 => [.dat p0, .dat p1, .dat d1, .own s4, .no, .no]) (ρb := fun s4 x5 => [.dat p0, .dat p1, .dat d1, .own s4, .dat x5, .no]) nd hp (id_rng1 B.range (ad_cons (pd_blt (id := "len") call_len rc_len B.len (ad_cons (pd_var 2) ad_nil)) ad_nil)) ⟨.inr rfl, ⟨.inr rfl, ⟨.inr rfl, ⟨.inr rfl, ⟨.inr rfl, ⟨.inr rfl, trivial⟩⟩⟩⟩⟩⟩ (fun _ _ => rfl) fun s4 x5 =>
  (bd_cons (sd_as (e2 := fun d6 => [.dat p0, .dat p1, .dat d1, .own s4, .dat x5, .dat d6]) (sd_asg (i := 5) nd (pd_ix (pd_var 2) (pd_var 4))) (fun _ => rfl)) fun d6 =>
  (bd_cons (S := PyData) (e1 := fun s7 => [.dat p0, .dat p1, .dat d1, .own s4, .dat x5, .dat s7]) (sd_if (td_w (wd_and (td_cmp op_in_seq rd_inT (pd_ix (pd_var 0) pd_int) (pd_tup (ad_cons pd_str (ad_cons pd_str (ad_cons pd_str (ad_cons pd_str ad_nil)))))) (wd_and (td_cmp op_eq rd_eqS (pd_slice sl_str rs_S (pd_var 5) od_none (od_some pd_int)) pd_str) (wd_and1 (td_cmp op_ne rd_neS (pd_var 5) pd_str))))) (bd_cons (sd_as (e2 := fun d8 => [.dat p0, .dat p1, .dat d1, .own s4, .dat x5, .dat d8]) (sd_asg (i := 5) nd (pd_slice sl_str rs_S (pd_var 5) (od_some pd_int) od_none)) (fun _ => rfl)) fun d8 =>
  (bd_nil (s := d8) (e := fun s7 => [.dat p0, .dat p1, .dat d1, .own s4, .dat x5, .dat s7]) ⟨.inr rfl, ⟨.inr rfl, ⟨.inr rfl, ⟨.inr rfl, ⟨.inr rfl, ⟨.inr rfl, trivial⟩⟩⟩⟩⟩⟩)) (bd_nil (s := d6) (e := fun s7 => [.dat p0, .dat p1, .dat d1, .own s4, .dat x5, .dat s7]) ⟨.inr rfl, ⟨.inr rfl, ⟨.inr rfl, ⟨.inr rfl, ⟨.inr rfl, ⟨.inr rfl, trivial⟩⟩⟩⟩⟩⟩)) fun s7 =>
  (bd_cons (S := Unit) (e1 := fun s9 => [.dat p0, .dat p1, .dat d1, .own s4, .dat x5, .dat s7]) (sd_if (td_w (wd_or (td_cmp op_ge rd_ge (pd_var 4) (pd_fn c_law_many (hr.mono (by decide)) (ad_cons (pd_var 0) ad_nil))) (wd_or1 (td_not (td_val (pd_fn c_law_figures (hr.mono (by decide)) (ad_cons (pd_var 5) ad_nil))))))) (bd_one (sd_ret (ρ' := [.dat p0, .dat p1, .dat d1, .dat (.list s4), .dat x5, .dat s7]) (pd_fn c_law_no (hr.mono (by decide)) (ad_cons (pd_var 4) ad_nil)))) (bd_nil (s := ()) (e := fun s9 => [.dat p0, .dat p1, .dat d1, .own s4, .dat x5, .dat s7]) ⟨.inr rfl, ⟨.inr rfl, ⟨.inr rfl, ⟨.inr rfl, ⟨.inr rfl, ⟨.inr rfl, trivial⟩⟩⟩⟩⟩⟩)) fun s9 =>
  (bd_cons (S := Unit) (e1 := fun s10 => [.dat p0, .dat p1, .dat d1, .own s4, .dat x5, .dat s7]) (sd_if (td_w (wd_and (td_cmp op_in_seq rd_inT (pd_ix (pd_var 0) pd_int) (pd_tup (ad_cons pd_str (ad_cons pd_str (ad_cons pd_str (ad_cons pd_str ad_nil)))))) (wd_and1 (td_cmp op_ge rd_ge (pd_ty (T := "int") call_int_str rc_intS B.int (ad_cons (pd_var 5) ad_nil)) (pd_ix (pd_var 0) (pd_neg pd_int)))))) (bd_one (sd_ret (ρ' := [.dat p0, .dat p1, .dat d1, .dat (.list s4), .dat x5, .dat s7]) (pd_fn c_law_no (hr.mono (by decide)) (ad_cons (pd_var 4) ad_nil)))) (bd_nil (s := ()) (e := fun s10 => [.dat p0, .dat p1, .dat d1, .own s4, .dat x5, .dat s7]) ⟨.inr rfl, ⟨.inr rfl, ⟨.inr rfl, ⟨.inr rfl, ⟨.inr rfl, ⟨.inr rfl, trivial⟩⟩⟩⟩⟩⟩)) fun s10 =>
  (bd_cons (S := Unit) (e1 := fun s11 => [.dat p0, .dat p1, .dat d1, .own s4, .dat x5, .dat s7]) (sd_if (td_un (ρ' := [.dat p0, .dat p1, .dat d1, .dat (.list s4), .dat x5, .dat s7]) (td_w (wd_and (td_cmp op_eq rd_eqS (pd_ix (pd_var 0) pd_int) pd_str) (wd_and (td_cmp op_eq rd_eqS (pd_var 4) pd_int) (wd_and1 (td_cmp op_le rd_le (pd_ty (T := "int") call_int_str rc_intS B.int (ad_cons (pd_var 5) ad_nil)) (pd_ix (pd_var 3) pd_int))))))) (bd_one (sd_ret (ρ' := [.dat p0, .dat p1, .dat d1, .dat (.list s4), .dat x5, .dat s7]) (pd_fn c_law_no (hr.mono (by decide)) (ad_cons (pd_var 4) ad_nil)))) (bd_nil (s := ()) (e := fun s11 => [.dat p0, .dat p1, .dat d1, .own s4, .dat x5, .dat s7]) ⟨.inr rfl, ⟨.inr rfl, ⟨.inr rfl, ⟨.inr rfl, ⟨.inr rfl, ⟨.inr rfl, trivial⟩⟩⟩⟩⟩⟩)) fun s11 =>
  (bd_cons (sd_as (e2 := fun l12 => [.dat p0, .dat p1, .dat d1, .own l12, .dat x5, .dat s7]) (sd_app (i := 3) (pd_ty (T := "int") call_int_str rc_intS B.int (ad_cons (pd_ix (pd_var 2) (pd_var 4)) ad_nil))) (fun _ => rfl)) fun l12 =>
  (bd_nil (s := l12) (e := fun s4 => [.dat p0, .dat p1, .dat d1, .own s4, .no, .no]) ⟨.inr rfl, ⟨.inr rfl, ⟨.inr rfl, ⟨.inr rfl, ⟨.inl rfl, ⟨.inl rfl, trivial⟩⟩⟩⟩⟩⟩)))))))) (fun _ => rfl)) fun s13 =>
  (bd_cons (S := Unit) (e1 := fun s14 => [.dat p0, .dat p1, .dat d1, .own s13, .no, .no]) (sd_if (td_un (ρ' := [.dat p0, .dat p1, .dat d1, .dat (.list s13), .no, .no]) (td_cmp op_lt rd_lt (pd_blt (id := "len") call_len rc_len B.len (ad_cons (pd_var 3) ad_nil)) (pd_fn c_law_many (hr.mono (by decide)) (ad_cons (pd_var 0) ad_nil)))) (bd_one (sd_ret (ρ' := [.dat p0, .dat p1, .dat d1, .dat (.list s13), .no, .no]) (pd_fn c_law_no (hr.mono (by decide)) (ad_cons (pd_blt (id := "len") call_len rc_len B.len (ad_cons (pd_var 3) ad_nil)) ad_nil)))) (bd_nil (s := ()) (e := fun s14 => [.dat p0, .dat p1, .dat d1, .own s13, .no, .no]) ⟨.inr rfl, ⟨.inr rfl, ⟨.inr rfl, ⟨.inr rfl, ⟨.inr rfl, ⟨.inr rfl, trivial⟩⟩⟩⟩⟩⟩)) fun s14 =>
  (bd_cons (S := Unit) (e1 := fun s15 => [.dat p0, .dat p1, .dat d1, .own s13, .no, .no]) (sd_if (td_cmp op_eq rd_eqS (pd_ix (pd_var 0) pd_int) pd_str) (bd_one (sd_ret (ρ' := [.dat p0, .dat p1, .dat d1, .dat (.list s13), .no, .no]) (pd_tup (ad_cons pd_str (ad_cons (pd_ty (T := "tuple") call_tuple_of rc_tup B.tuple (ad_cons (pd_lcZ (own := [("_law_k", 4)]) (j := 4) (ρw := [.dat p0, .dat p1, .dat d1, .dat (.list s13), .no, .no]) (ρb := fun x16 => [.dat p0, .dat p1, .dat d1, .dat (.list s13), .dat x16, .no]) nd (id_rng1 B.range (ad_cons (pd_ix (pd_var 0) pd_int) ad_nil)) (blkOk_by rfl) rfl rfl (fun _ => rfl) (fun x16 => (pd_ty (T := "tuple") call_tuple_of rc_tup B.tuple (ad_cons (pd_slice sl_list rs_L (pd_var 3) (od_some (pd_op op_mul rd_mul (pd_var 4) (pd_ix (pd_var 0) pd_int))) (od_some (pd_op op_add rd_add (pd_op op_mul rd_mul (pd_var 4) (pd_ix (pd_var 0) pd_int)) (pd_ix (pd_var 0) pd_int)))) ad_nil))) (fun _ _ _ _ _ x16 => (pd_ty (T := "tuple") call_tuple_of rc_tup B.tuple (ad_cons (pd_slice sl_list rs_L (pd_var 3) (od_some (pd_op op_mul rd_mul (pd_var 4) (pd_ix (pd_var 0) pd_int))) (od_some (pd_op op_add rd_add (pd_op op_mul rd_mul (pd_var 4) (pd_ix (pd_var 0) pd_int)) (pd_ix (pd_var 0) pd_int)))) ad_nil))) (hg := fun _ _ _ _ _ => pg_name nd rfl (Or.inl rfl))) ad_nil)) ad_nil))))) (bd_nil (s := ()) (e := fun s15 => [.dat p0, .dat p1, .dat d1, .own s13, .no, .no]) ⟨.inr rfl, ⟨.inr rfl, ⟨.inr rfl, ⟨.inr rfl, ⟨.inr rfl, ⟨.inr rfl, trivial⟩⟩⟩⟩⟩⟩)) fun s15 =>
  (bd_one (sd_ret (ρ' := [.dat p0, .dat p1, .dat d1, .dat (.list s13), .no, .no]) (pd_tup (ad_cons pd_str (ad_cons (pd_ix (pd_tup (ad_cons (pd_ix (pd_var 3) pd_int) (ad_cons (pd_ty (T := "tuple") call_tuple_of rc_tup B.tuple (ad_cons (pd_var 3) ad_nil)) ad_nil))) (pd_ty (T := "int") call_int1 rc_int1 B.int (ad_cons (pd_cmp op_in_seq rd_inT (pd_ix (pd_var 0) pd_int) (pd_tup (ad_cons pd_str (ad_cons pd_str (ad_cons pd_str (ad_cons pd_str ad_nil)))))) ad_nil))) ad_nil)))))))))))⟩

end UT
end
section
set_option Elab.async false
set_option linter.all false
set_option maxRecDepth 100000
set_option maxHeartbeats 4000000
namespace UT
open PySem PySem.Spec PyProof.Rows L2
theorem sc_law_value_line : FnScope ["_law_value_here", "_law_flat", "_law_part"] ["_law_value_here"] (defScope st_law_value_line) := ⟨rfl, rfl, rfl, by decide +kernel, rfl, by decide +kernel, by decide +kernel⟩
theorem ok_law_value_line {P : Program} {w : World} {K : PySem.W.Frag} {mg : Str → Option Value} {base : Heap} {f : Addr} {fd : FuncData} (Fn : FnP K "_law_value_line" "_law_value_line" st_law_value_line f fd) (B : Blt mg) (c_law_int : Cal P w K mg base "_law_int" 1 1 F_law_int) :
    FnOk P w K mg base (L2.CX P w) 2 f fd ["_law_value_here"] (SpF K F_law_value_line 1) := by
  refine fnF Fn sc_law_value_line rfl fun cdv A outer s H E hr ds hl => ?_
  match ds, hl with
  | [p0], _ =>
    have nd := sc_law_value_line.nd
    have hp : PassesOwn (model P w) (cxOf (L2.CX P w) P w K mg base ["_law_value_here", "_law_flat", "_law_part"] "_law_value_line" (defScope st_law_value_line) f cdv A outer s H E).A (cxOf (L2.CX P w) P w K mg base ["_law_value_here", "_law_flat", "_law_part"] "_law_value_line" (defScope st_law_value_line) f cdv A outer s H E).env (cxOf (L2.CX P w) P w K mg base ["_law_value_here", "_law_flat", "_law_part"] "_law_value_line" (defScope st_law_value_line) f cdv A outer s H E).xe := passes_of rfl
    exact ⟨Unit, _, false, m_law_value_line p0, fun _ => [], rfl, by
    unfold m_law_value_line
    exact (bd_cons (S := Unit) (e1 := fun s1 => [.dat p0, .no, .no]) (sd_if (td_cmp op_isN rd_isN (pd_var 0) pd_non) (bd_one (sd_ret (ρ' := [.dat p0, .no, .no]) pd_str)) (bd_nil (s := ()) (e := fun s1 => [.dat p0, .no, .no]) ⟨.inr rfl, ⟨.inr rfl, ⟨.inr rfl, trivial⟩⟩⟩)) fun s1 =>
  (bd_cons (S := Unit) (e1 := fun s2 => [.dat p0, .no, .no]) (sd_if (td_val (pd_fn c_law_int (hr.mono (by decide)) (ad_cons (pd_var 0) ad_nil))) (bd_one (sd_ret (ρ' := [.dat p0, .no, .no]) (pd_ty (T := "str") call_strE rc_str B.str (ad_cons (pd_var 0) ad_nil)))) (bd_nil (s := ()) (e := fun s2 => [.dat p0, .no, .no]) ⟨.inr rfl, ⟨.inr rfl, ⟨.inr rfl, trivial⟩⟩⟩)) fun s2 =>
  (bd_cons (sd_as (e2 := fun l3 => [.dat p0, .own l3, .no]) (sd_own (i := 1) nd ad_nil) (fun _ => rfl)) fun l3 =>
  (bd_cons (sd_as (e2 := fun s9 => [.dat p0, .own s9, .no]) (sd_for (S := List PyData) (j := 2) (s0 := l3) (emb := fun s4 => [.dat p0, .own s4, .no]) (ρb := fun s4 x5 => [.dat p0, .own s4, .dat x5]) nd hp (id_tup (pd_var 0)) ⟨.inr rfl, ⟨.inr rfl, ⟨.inr rfl, trivial⟩⟩⟩ (fun _ _ => rfl) fun s4 x5 =>
  (bd_cons (S := List PyData) (e1 := fun s6 => [.dat p0, .own s6, .dat x5]) (sd_if (td_val (pd_isi (T := "tuple") (Tn := "tuple") (pd_var 2) B.isinstance B.tuple)) (bd_cons (sd_as (e2 := fun l7 => [.dat p0, .own l7, .dat x5]) (sd_ext (i := 1) (pd_ty (T := "list") call_list_of rc_lst B.list (ad_cons (pd_var 2) ad_nil))) (fun _ => rfl)) fun l7 =>
  (bd_nil (s := l7) (e := fun s6 => [.dat p0, .own s6, .dat x5]) ⟨.inr rfl, ⟨.inr rfl, ⟨.inr rfl, trivial⟩⟩⟩)) (bd_cons (sd_as (e2 := fun l8 => [.dat p0, .own l8, .dat x5]) (sd_app (i := 1) (pd_var 2)) (fun _ => rfl)) fun l8 =>
  (bd_nil (s := l8) (e := fun s6 => [.dat p0, .own s6, .dat x5]) ⟨.inr rfl, ⟨.inr rfl, ⟨.inr rfl, trivial⟩⟩⟩))) fun s6 =>
  (bd_nil (s := s6) (e := fun s4 => [.dat p0, .own s4, .no]) ⟨.inr rfl, ⟨.inr rfl, ⟨.inl rfl, trivial⟩⟩⟩))) (fun _ => rfl)) fun s9 =>
  (bd_one (sd_ret (ρ' := [.dat p0, .dat (.list s9), .no]) (pd_m1 F.slot_str_join F.type_str_join mt_join rm_join pd_str (pd_lcZ (own := [("_law_part", 2)]) (j := 2) (ρw := [.dat p0, .dat (.list s9), .no]) (ρb := fun x10 => [.dat p0, .dat (.list s9), .dat x10]) nd (id_list (pd_var 1)) (blkOk_by rfl) rfl rfl (fun _ => rfl) (fun x10 => (pd_ty (T := "str") call_strE rc_str B.str (ad_cons (pd_var 2) ad_nil))) (fun _ _ _ _ _ x10 => (pd_ty (T := "str") call_strE rc_str B.str (ad_cons (pd_var 2) ad_nil))) (hg := fun _ _ _ _ _ => pg_name nd rfl (Or.inl rfl))))))))))⟩

end UT
end
section
set_option Elab.async false
set_option linter.all false
set_option maxRecDepth 100000
set_option maxHeartbeats 4000000
namespace UT
open PySem PySem.Spec PyProof.Rows L2
theorem sc_law_words : FnScope ["_law_read", "_law_w", "_law_fixed"] ["_law_read"] (defScope st_law_words) := ⟨rfl, rfl, rfl, by decide +kernel, rfl, by decide +kernel, by decide +kernel⟩
theorem ok_law_words {P : Program} {w : World} {K : PySem.W.Frag} {mg : Str → Option Value} {base : Heap} {f : Addr} {fd : FuncData} (Fn : FnP K "_law_words" "_law_words" st_law_words f fd) (B : Blt mg) :
    FnOk P w K mg base (L2.CX P w) 1 f fd ["_law_read"] (SpF K F_law_words 1) := by
  refine fnF Fn sc_law_words rfl fun cdv A outer s H E hr ds hl => ?_
  match ds, hl with
  | [p0], _ =>
    have nd := sc_law_words.nd
    exact ⟨Unit, _, false, m_law_words p0, fun _ => [], rfl, by
    unfold m_law_words
    exact (bd_cons (S := Unit) (e1 := fun s1 => [.dat p0, .no, .no]) (sd_if (td_cmp op_eq rd_eqS (pd_var 0) pd_str) (bd_cons (sd_as (e2 := fun d2 => [.dat p0, .dat d2, .no]) (sd_asg (i := 1) nd (pd_tup (ad_cons pd_str (ad_cons pd_str (ad_cons pd_str (ad_cons pd_str (ad_cons pd_str (ad_cons pd_str (ad_cons pd_str (ad_cons pd_str (ad_cons pd_str (ad_cons pd_str (ad_cons pd_str (ad_cons pd_str (ad_cons pd_str (ad_cons pd_str (ad_cons pd_str (ad_cons pd_str (ad_cons pd_str ad_nil))))))))))))))))))) (fun _ => rfl)) fun d2 =>
  (bd_one (sd_ret (ρ' := [.dat p0, .dat d2, .no]) (pd_lst (ad_cons (pd_var 1) (ad_cons (pd_tup (ad_cons pd_str (ad_cons pd_str (ad_cons pd_str (ad_cons pd_str (ad_cons pd_str (ad_cons pd_str (ad_cons pd_str (ad_cons pd_str (ad_cons pd_str ad_nil)))))))))) ad_nil)))))) (bd_nil (s := ()) (e := fun s1 => [.dat p0, .no, .no]) ⟨.inr rfl, ⟨.inr rfl, ⟨.inr rfl, trivial⟩⟩⟩)) fun s1 =>
  (bd_cons (S := Unit) (e1 := fun s3 => [.dat p0, .no, .no]) (sd_if (td_cmp op_eq rd_eqS (pd_var 0) pd_str) (bd_cons (sd_as (e2 := fun d4 => [.dat p0, .dat d4, .no]) (sd_asg (i := 1) nd (pd_tup (ad_cons pd_str (ad_cons pd_str (ad_cons pd_str (ad_cons pd_str (ad_cons pd_str (ad_cons pd_str (ad_cons pd_str (ad_cons pd_str (ad_cons pd_str (ad_cons pd_str (ad_cons pd_str (ad_cons pd_str (ad_cons pd_str (ad_cons pd_str (ad_cons pd_str (ad_cons pd_str ad_nil)))))))))))))))))) (fun _ => rfl)) fun d4 =>
  (bd_one (sd_ret (ρ' := [.dat p0, .dat d4, .no]) (pd_lst (ad_cons (pd_var 1) (ad_cons (pd_tup (ad_cons pd_str (ad_cons pd_str (ad_cons pd_str (ad_cons pd_str (ad_cons pd_str (ad_cons pd_str (ad_cons pd_str (ad_cons pd_str (ad_cons pd_str (ad_cons pd_str ad_nil))))))))))) ad_nil)))))) (bd_nil (s := ()) (e := fun s3 => [.dat p0, .no, .no]) ⟨.inr rfl, ⟨.inr rfl, ⟨.inr rfl, trivial⟩⟩⟩)) fun s3 =>
  (bd_cons (S := Unit) (e1 := fun s5 => [.dat p0, .no, .no]) (sd_if (td_cmp op_eq rd_eqS (pd_var 0) pd_str) (bd_cons (sd_as (e2 := fun d6 => [.dat p0, .dat d6, .no]) (sd_asg (i := 1) nd (pd_tup (ad_cons pd_str (ad_cons pd_str (ad_cons pd_str (ad_cons pd_str (ad_cons pd_str (ad_cons pd_str (ad_cons pd_str (ad_cons pd_str (ad_cons pd_str (ad_cons pd_str (ad_cons pd_str (ad_cons pd_str (ad_cons pd_str (ad_cons pd_str (ad_cons pd_str (ad_cons pd_str ad_nil)))))))))))))))))) (fun _ => rfl)) fun d6 =>
  (bd_one (sd_ret (ρ' := [.dat p0, .dat d6, .no]) (pd_lst (ad_cons (pd_var 1) (ad_cons (pd_tup (ad_cons pd_str (ad_cons pd_str (ad_cons pd_str (ad_cons pd_str (ad_cons pd_str (ad_cons pd_str (ad_cons pd_str (ad_cons pd_str (ad_cons pd_str ad_nil)))))))))) ad_nil)))))) (bd_nil (s := ()) (e := fun s5 => [.dat p0, .no, .no]) ⟨.inr rfl, ⟨.inr rfl, ⟨.inr rfl, trivial⟩⟩⟩)) fun s5 =>
  (bd_cons (sd_as (e2 := fun d7 => [.dat p0, .dat d7, .no]) (sd_asg (i := 1) nd (pd_tup (ad_cons pd_str (ad_cons pd_str (ad_cons pd_str (ad_cons pd_str (ad_cons pd_str (ad_cons pd_str (ad_cons pd_str (ad_cons pd_str (ad_cons pd_str (ad_cons pd_str (ad_cons pd_str (ad_cons pd_str (ad_cons pd_str (ad_cons pd_str ad_nil)))))))))))))))) (fun _ => rfl)) fun d7 =>
  (bd_cons (sd_as (e2 := fun d8 => [.dat p0, .dat d8, .no]) (sd_asg (i := 1) nd (pd_op op_catT rd_catT (pd_var 1) (pd_tup (ad_cons pd_str (ad_cons pd_str (ad_cons pd_str (ad_cons pd_str (ad_cons pd_str (ad_cons pd_str (ad_cons pd_str (ad_cons pd_str (ad_cons pd_str (ad_cons pd_str ad_nil))))))))))))) (fun _ => rfl)) fun d8 =>
  (bd_cons (sd_as (e2 := fun d9 => [.dat p0, .dat d8, .dat d9]) (sd_asg (i := 2) nd (pd_tup (ad_cons pd_str (ad_cons pd_str (ad_cons pd_str (ad_cons pd_str (ad_cons pd_str (ad_cons pd_str (ad_cons pd_str (ad_cons pd_str (ad_cons pd_str ad_nil))))))))))) (fun _ => rfl)) fun d9 =>
  (bd_one (sd_ret (ρ' := [.dat p0, .dat d8, .dat d9]) (pd_lst (ad_cons (pd_var 1) (ad_cons (pd_var 2) ad_nil)))))))))))⟩

end UT
end
section
set_option Elab.async false
set_option linter.all false
set_option maxRecDepth 100000
set_option maxHeartbeats 4000000
namespace UT
open PySem PySem.Spec PyProof.Rows L2
theorem sc_parts_of : FnScope ["text", "parts"] ["text"] (defScope st_parts_of) := ⟨rfl, rfl, rfl, by decide +kernel, rfl, by decide +kernel, by decide +kernel⟩
theorem ok_parts_of {P : Program} {w : World} {K : PySem.W.Frag} {mg : Str → Option Value} {base : Heap} {f : Addr} {fd : FuncData} (Fn : FnP K "_parts_of" "_parts_of" st_parts_of f fd) (B : Blt mg) (r_text : RaC P w K mg base .text 1) (r_usable : RaC P w K mg base .usable 1) :
    FnOk P w K mg base (L2.CX P w) 3 f fd ["text"] (SpF K F_parts_of 1) := by
  refine fnF Fn sc_parts_of rfl fun cdv A outer s H E hr ds hl => ?_
  match ds, hl with
  | [p0], _ =>
    have nd := sc_parts_of.nd
    have tk : Takes (cxOf (L2.CX P w) P w K mg base ["text", "parts"] "_parts_of" (defScope st_parts_of) f cdv A outer s H E) (fun cls d _ H => E cls d H) := takes_of rfl rfl rfl rfl
    exact ⟨Unit, _, false, m_parts_of p0, fun _ => [], rfl, by
    unfold m_parts_of
    exact (bd_cons (S := Unit) (e1 := fun s1 => [.dat p0, .no]) (sd_if (td_not (td_val (pd_isi (T := "str") (Tn := "str") (pd_var 0) B.isinstance B.str))) (bd_one (sd_raise (c := .usable) r_usable (hr.mono (by decide)) tk (ad_cons pd_str (ad_cons (pd_neg pd_int) ad_nil)))) (bd_nil (s := ()) (e := fun s1 => [.dat p0, .no]) ⟨.inr rfl, ⟨.inr rfl, trivial⟩⟩)) fun s1 =>
  (bd_cons (sd_as (e2 := fun d2 => [.dat p0, .dat d2]) (sd_asg (i := 1) nd (pd_m1 F.slot_str_split F.type_str_split mt_split rm_split (pd_var 0) pd_str)) (fun _ => rfl)) fun d2 =>
  (bd_cons (S := Unit) (e1 := fun s3 => [.dat p0, .dat d2]) (sd_if (td_cmp op_ne rd_neS (pd_ix (pd_var 1) pd_int) pd_str) (bd_one (sd_ret (ρ' := [.dat p0, .dat d2]) (pd_var 1))) (bd_nil (s := ()) (e := fun s3 => [.dat p0, .dat d2]) ⟨.inr rfl, ⟨.inr rfl, trivial⟩⟩)) fun s3 =>
  (bd_cons (S := Unit) (e1 := fun s4 => [.dat p0, .dat d2]) (sd_if (td_cmp op_gt rd_gt (pd_blt (id := "len") call_len rc_len B.len (ad_cons (pd_var 1) ad_nil)) pd_int) (bd_one (sd_raise (c := .text) r_text (hr.mono (by decide)) tk (ad_cons pd_int (ad_cons pd_int ad_nil)))) (bd_nil (s := ()) (e := fun s4 => [.dat p0, .dat d2]) ⟨.inr rfl, ⟨.inr rfl, trivial⟩⟩)) fun s4 =>
  (bd_one (sd_ret (ρ' := [.dat p0, .dat d2]) (pd_lst ad_nil)))))))⟩

end UT
end
section
set_option Elab.async false
set_option linter.all false
set_option maxRecDepth 100000
set_option maxHeartbeats 4000000
namespace UT
open PySem PySem.Spec PyProof.Rows L2
theorem sc_stretch_read : FnScope ["part", "low", "high", "begin", "_", "rest"] ["part"] (defScope st_stretch_read) := ⟨rfl, rfl, rfl, by decide +kernel, rfl, by decide +kernel, by decide +kernel⟩
theorem ok_stretch_read {P : Program} {w : World} {K : PySem.W.Frag} {mg : Str → Option Value} {base : Heap} {f : Addr} {fd : FuncData} (Fn : FnP K "_stretch_read" "_stretch_read" st_stretch_read f fd) (B : Blt mg) (c_a_number_read : Cal P w K mg base "a_number_read" 1 1 F_a_number_read) :
    FnOk P w K mg base (L2.CX P w) 2 f fd ["part"] (SpF K F_stretch_read 1) := by
  refine fnF Fn sc_stretch_read rfl fun cdv A outer s H E hr ds hl => ?_
  match ds, hl with
  | [p0], _ =>
    have nd := sc_stretch_read.nd
    exact ⟨Unit, _, false, m_stretch_read p0, fun _ => [], rfl, by
    unfold m_stretch_read
    exact (bd_cons (sd_as (e2 := fun t1 => [.dat p0, .no, .no, .dat t1.1, .dat t1.2.1, .dat t1.2.2]) (sd_three (i := 3) (j := 4) (l := 5) nd (pd_m1 F.slot_str_partition F.type_str_partition mt_partition rm_part (pd_var 0) pd_str)) (fun _ => rfl)) fun t1 =>
  (bd_cons (sd_as (e2 := fun d2 => [.dat p0, .dat d2, .no, .dat t1.1, .dat t1.2.1, .dat t1.2.2]) (sd_asg (i := 1) nd (pd_fn c_a_number_read (hr.mono (by decide)) (ad_cons (pd_var 3) ad_nil))) (fun _ => rfl)) fun d2 =>
  (bd_cons (sd_as (e2 := fun d3 => [.dat p0, .dat d2, .dat d3, .dat t1.1, .dat t1.2.1, .dat t1.2.2]) (sd_asg (i := 2) nd (pd_fn c_a_number_read (hr.mono (by decide)) (ad_cons (pd_var 5) ad_nil))) (fun _ => rfl)) fun d3 =>
  (bd_cons (S := Unit) (e1 := fun s4 => [.dat p0, .dat d2, .dat d3, .dat t1.1, .dat t1.2.1, .dat t1.2.2]) (sd_if (td_w (wd_or (td_cmp op_isN rd_isN (pd_var 1) pd_non) (wd_or (td_cmp op_isN rd_isN (pd_var 2) pd_non) (wd_or1 (td_cmp op_ge rd_ge (pd_var 1) (pd_var 2)))))) (bd_one (sd_ret (ρ' := [.dat p0, .dat d2, .dat d3, .dat t1.1, .dat t1.2.1, .dat t1.2.2]) pd_non)) (bd_nil (s := ()) (e := fun s4 => [.dat p0, .dat d2, .dat d3, .dat t1.1, .dat t1.2.1, .dat t1.2.2]) ⟨.inr rfl, ⟨.inr rfl, ⟨.inr rfl, ⟨.inr rfl, ⟨.inr rfl, ⟨.inr rfl, trivial⟩⟩⟩⟩⟩⟩)) fun s4 =>
  (bd_one (sd_ret (ρ' := [.dat p0, .dat d2, .dat d3, .dat t1.1, .dat t1.2.1, .dat t1.2.2]) (pd_tup (ad_cons (pd_var 1) (ad_cons (pd_var 2) ad_nil)))))))))⟩

end UT
end
section
set_option Elab.async false
set_option linter.all false
set_option maxRecDepth 100000
set_option maxHeartbeats 4000000
namespace UT
open PySem PySem.Spec PyProof.Rows L2
theorem sc_a_fits : FnScope ["operation", "thing", "word", "row"] ["operation", "thing"] (defScope st_a_fits) := ⟨rfl, rfl, rfl, by decide +kernel, rfl, by decide +kernel, by decide +kernel⟩
theorem ok_a_fits {P : Program} {w : World} {K : PySem.W.Frag} {mg : Str → Option Value} {base : Heap} {f : Addr} {fd : FuncData} (Fn : FnP K "a_fits" "a_fits" st_a_fits f fd) (B : Blt mg) (c_is_row : Cal P w K mg base "_is_row" 3 3 F_is_row) (c_is_integer : Cal P w K mg base "is_integer" 1 1 F_is_integer) (c_is_number : Cal P w K mg base "is_number" 2 1 F_is_number) (c_is_stretch : Cal P w K mg base "is_stretch" 3 1 F_is_stretch) :
    FnOk P w K mg base (L2.CX P w) 4 f fd ["operation", "thing"] (SpF K F_a_fits 2) := by
  refine fnF Fn sc_a_fits rfl fun cdv A outer s H E hr ds hl => ?_
  match ds, hl with
  | [p0, p1], _ =>
    have nd := sc_a_fits.nd
    exact ⟨Unit, _, false, m_a_fits p0 p1, fun _ => [], rfl, by
    unfold m_a_fits
    exact (bd_cons (sd_as (e2 := fun d1 => [.dat p0, .dat p1, .dat d1, .no]) (sd_asg (i := 2) nd (pd_ix (pd_var 0) pd_int)) (fun _ => rfl)) fun d1 =>
  (bd_cons (S := Unit) (e1 := fun s2 => [.dat p0, .dat p1, .dat d1, .no]) (sd_if (td_cmp op_in_seq rd_inT (pd_var 2) (pd_tup (ad_cons pd_str (ad_cons pd_str ad_nil)))) (bd_one (sd_ret (ρ' := [.dat p0, .dat p1, .dat d1, .no]) (pd_and (pd_fn c_is_number (hr.mono (by decide)) (ad_cons (pd_var 1) ad_nil)) (pd_one (pd_cmp op_lt rd_lt (pd_var 1) (pd_ix (pd_var 0) pd_int)))))) (bd_nil (s := ()) (e := fun s2 => [.dat p0, .dat p1, .dat d1, .no]) ⟨.inr rfl, ⟨.inr rfl, ⟨.inr rfl, ⟨.inr rfl, trivial⟩⟩⟩⟩)) fun s2 =>
  (bd_cons (S := Unit) (e1 := fun s3 => [.dat p0, .dat p1, .dat d1, .no]) (sd_if (td_cmp op_in_seq rd_inT (pd_var 2) (pd_tup (ad_cons pd_str (ad_cons pd_str (ad_cons pd_str (ad_cons pd_str ad_nil)))))) (bd_one (sd_ret (ρ' := [.dat p0, .dat p1, .dat d1, .no]) (pd_fn c_is_integer (hr.mono (by decide)) (ad_cons (pd_var 1) ad_nil)))) (bd_nil (s := ()) (e := fun s3 => [.dat p0, .dat p1, .dat d1, .no]) ⟨.inr rfl, ⟨.inr rfl, ⟨.inr rfl, ⟨.inr rfl, trivial⟩⟩⟩⟩)) fun s3 =>
  (bd_cons (S := Unit) (e1 := fun s4 => [.dat p0, .dat p1, .dat d1, .no]) (sd_if (td_cmp op_eq rd_eqS (pd_var 2) pd_str) (bd_one (sd_ret (ρ' := [.dat p0, .dat p1, .dat d1, .no]) (pd_fn c_is_number (hr.mono (by decide)) (ad_cons (pd_var 1) ad_nil)))) (bd_nil (s := ()) (e := fun s4 => [.dat p0, .dat p1, .dat d1, .no]) ⟨.inr rfl, ⟨.inr rfl, ⟨.inr rfl, ⟨.inr rfl, trivial⟩⟩⟩⟩)) fun s4 =>
  (bd_cons (S := Unit) (e1 := fun s5 => [.dat p0, .dat p1, .dat d1, .no]) (sd_if (td_cmp op_eq rd_eqS (pd_var 2) pd_str) (bd_one (sd_ret (ρ' := [.dat p0, .dat p1, .dat d1, .no]) (pd_fn c_is_row (hr.mono (by decide)) (ad_cons (pd_var 1) (ad_cons (pd_ix (pd_var 0) pd_int) (ad_cons (pd_ix (pd_var 0) pd_int) ad_nil)))))) (bd_nil (s := ()) (e := fun s5 => [.dat p0, .dat p1, .dat d1, .no]) ⟨.inr rfl, ⟨.inr rfl, ⟨.inr rfl, ⟨.inr rfl, trivial⟩⟩⟩⟩)) fun s5 =>
  (bd_cons (S := Unit) (e1 := fun s6 => [.dat p0, .dat p1, .dat d1, .no]) (sd_if (td_cmp op_eq rd_eqS (pd_var 2) pd_str) (bd_cons (S := Unit) (e1 := fun s7 => [.dat p0, .dat p1, .dat d1, .no]) (sd_if (td_w (wd_or (td_not (td_val (pd_isi (T := "tuple") (Tn := "tuple") (pd_var 1) B.isinstance B.tuple))) (wd_or1 (td_cmp op_ne rd_neS (pd_blt (id := "len") call_len rc_len B.len (ad_cons (pd_var 1) ad_nil)) (pd_ix (pd_var 0) pd_int))))) (bd_one (sd_ret (ρ' := [.dat p0, .dat p1, .dat d1, .no]) pd_bl)) (bd_nil (s := ()) (e := fun s7 => [.dat p0, .dat p1, .dat d1, .no]) ⟨.inr rfl, ⟨.inr rfl, ⟨.inr rfl, ⟨.inr rfl, trivial⟩⟩⟩⟩)) fun s7 =>
  (bd_one (sd_ret (ρ' := [.dat p0, .dat p1, .dat d1, .no]) (pd_blt (id := "all") (cr_all rfl) rc_all B.all (ad_cons (pd_lcZ (own := [("row", 3)]) (j := 3) (ρw := [.dat p0, .dat p1, .dat d1, .no]) (ρb := fun x8 => [.dat p0, .dat p1, .dat d1, .dat x8]) nd (id_tup (pd_var 1)) (blkOk_by rfl) rfl rfl (fun _ => rfl) (fun x8 => (pd_fn c_is_row (hr.mono (by decide)) (ad_cons (pd_var 3) (ad_cons (pd_ix (pd_var 0) pd_int) (ad_cons (pd_ix (pd_var 0) pd_int) ad_nil))))) (fun _ _ _ _ _ x8 => (pd_fn c_is_row (hr.mono (by decide)) (ad_cons (pd_var 3) (ad_cons (pd_ix (pd_var 0) pd_int) (ad_cons (pd_ix (pd_var 0) pd_int) ad_nil))))) (hg := fun _ _ _ _ _ => pg_name nd rfl (Or.inl rfl))) ad_nil))))) (bd_nil (s := ()) (e := fun s6 => [.dat p0, .dat p1, .dat d1, .no]) ⟨.inr rfl, ⟨.inr rfl, ⟨.inr rfl, ⟨.inr rfl, trivial⟩⟩⟩⟩)) fun s6 =>
  (bd_cons (S := Unit) (e1 := fun s9 => [.dat p0, .dat p1, .dat d1, .no]) (sd_if (td_cmp op_eq rd_eqS (pd_var 2) pd_str) (bd_one (sd_ret (ρ' := [.dat p0, .dat p1, .dat d1, .no]) (pd_fn c_is_row (hr.mono (by decide)) (ad_cons (pd_var 1) (ad_cons pd_int (ad_cons pd_non ad_nil)))))) (bd_nil (s := ()) (e := fun s9 => [.dat p0, .dat p1, .dat d1, .no]) ⟨.inr rfl, ⟨.inr rfl, ⟨.inr rfl, ⟨.inr rfl, trivial⟩⟩⟩⟩)) fun s9 =>
  (bd_cons (S := Unit) (e1 := fun s10 => [.dat p0, .dat p1, .dat d1, .no]) (sd_if (td_cmp op_eq rd_eqS (pd_var 2) pd_str) (bd_one (sd_ret (ρ' := [.dat p0, .dat p1, .dat d1, .no]) (pd_or (pd_cmp op_isN rd_isN (pd_var 1) pd_non) (pd_one (pd_fn c_is_stretch (hr.mono (by decide)) (ad_cons (pd_var 1) ad_nil)))))) (bd_nil (s := ()) (e := fun s10 => [.dat p0, .dat p1, .dat d1, .no]) ⟨.inr rfl, ⟨.inr rfl, ⟨.inr rfl, ⟨.inr rfl, trivial⟩⟩⟩⟩)) fun s10 =>
  (bd_one (sd_ret (ρ' := [.dat p0, .dat p1, .dat d1, .no]) (pd_fn c_is_row (hr.mono (by decide)) (ad_cons (pd_var 1) (ad_cons (pd_ix (pd_var 0) pd_int) (ad_cons pd_non ad_nil))))))))))))))⟩

end UT
end
section
set_option Elab.async false
set_option linter.all false
set_option maxRecDepth 100000
set_option maxHeartbeats 4000000
namespace UT
open PySem PySem.Spec PyProof.Rows L2
theorem sc_a_integer_read : FnScope ["part", "size"] ["part"] (defScope st_a_integer_read) := ⟨rfl, rfl, rfl, by decide +kernel, rfl, by decide +kernel, by decide +kernel⟩
theorem ok_a_integer_read {P : Program} {w : World} {K : PySem.W.Frag} {mg : Str → Option Value} {base : Heap} {f : Addr} {fd : FuncData} (Fn : FnP K "a_integer_read" "a_integer_read" st_a_integer_read f fd) (B : Blt mg) (c_a_number_read : Cal P w K mg base "a_number_read" 1 1 F_a_number_read) :
    FnOk P w K mg base (L2.CX P w) 2 f fd ["part"] (SpF K F_a_integer_read 1) := by
  refine fnF Fn sc_a_integer_read rfl fun cdv A outer s H E hr ds hl => ?_
  match ds, hl with
  | [p0], _ =>
    have nd := sc_a_integer_read.nd
    exact ⟨Unit, _, false, m_a_integer_read p0, fun _ => [], rfl, by
    unfold m_a_integer_read
    exact (bd_cons (S := Unit) (e1 := fun s1 => [.dat p0, .no]) (sd_if (td_val (pd_m1 F.slot_str_startswith F.type_str_startswith mt_startswith rm_starts (pd_var 0) pd_str)) (bd_cons (sd_as (e2 := fun d2 => [.dat p0, .dat d2]) (sd_asg (i := 1) nd (pd_fn c_a_number_read (hr.mono (by decide)) (ad_cons (pd_slice sl_str rs_S (pd_var 0) (od_some pd_int) od_none) ad_nil))) (fun _ => rfl)) fun d2 =>
  (bd_cons (S := Unit) (e1 := fun s3 => [.dat p0, .dat d2]) (sd_if (td_w (wd_or (td_cmp op_isN rd_isN (pd_var 1) pd_non) (wd_or1 (td_cmp op_eq rd_eqS (pd_var 1) pd_int)))) (bd_one (sd_ret (ρ' := [.dat p0, .dat d2]) pd_non)) (bd_nil (s := ()) (e := fun s3 => [.dat p0, .dat d2]) ⟨.inr rfl, ⟨.inr rfl, trivial⟩⟩)) fun s3 =>
  (bd_one (sd_ret (ρ' := [.dat p0, .dat d2]) (pd_neg (pd_var 1)))))) (bd_nil (s := ()) (e := fun s1 => [.dat p0, .no]) ⟨.inr rfl, ⟨.inr rfl, trivial⟩⟩)) fun s1 =>
  (bd_one (sd_ret (ρ' := [.dat p0, .no]) (pd_fn c_a_number_read (hr.mono (by decide)) (ad_cons (pd_var 0) ad_nil)))))⟩

end UT
end
section
set_option Elab.async false
set_option linter.all false
set_option maxRecDepth 100000
set_option maxHeartbeats 4000000
namespace UT
open PySem PySem.Spec PyProof.Rows L2
theorem sc_a_number_read : FnScope ["part", "sign"] ["part"] (defScope st_a_number_read) := ⟨rfl, rfl, rfl, by decide +kernel, rfl, by decide +kernel, by decide +kernel⟩
theorem ok_a_number_read {P : Program} {w : World} {K : PySem.W.Frag} {mg : Str → Option Value} {base : Heap} {f : Addr} {fd : FuncData} (Fn : FnP K "a_number_read" "a_number_read" st_a_number_read f fd) (B : Blt mg) :
    FnOk P w K mg base (L2.CX P w) 1 f fd ["part"] (SpF K F_a_number_read 1) := by
  refine fnF Fn sc_a_number_read rfl fun cdv A outer s H E hr ds hl => ?_
  match ds, hl with
  | [p0], _ =>
    have nd := sc_a_number_read.nd
    have hp : PassesOwn (model P w) (cxOf (L2.CX P w) P w K mg base ["part", "sign"] "a_number_read" (defScope st_a_number_read) f cdv A outer s H E).A (cxOf (L2.CX P w) P w K mg base ["part", "sign"] "a_number_read" (defScope st_a_number_read) f cdv A outer s H E).env (cxOf (L2.CX P w) P w K mg base ["part", "sign"] "a_number_read" (defScope st_a_number_read) f cdv A outer s H E).xe := passes_of rfl
    exact ⟨Unit, _, false, m_a_number_read p0, fun _ => [], rfl, by
    unfold m_a_number_read
    exact (bd_cons (S := Unit) (e1 := fun s1 => [.dat p0, .no]) (sd_if (td_w (wd_or (td_cmp op_eq rd_eqS (pd_var 0) pd_str) (wd_or1 (td_w (wd_and (td_cmp op_eq rd_eqS (pd_ix (pd_var 0) pd_int) pd_str) (wd_and1 (td_cmp op_ne rd_neS (pd_var 0) pd_str))))))) (bd_one (sd_ret (ρ' := [.dat p0, .no]) pd_non)) (bd_nil (s := ()) (e := fun s1 => [.dat p0, .no]) ⟨.inr rfl, ⟨.inr rfl, trivial⟩⟩)) fun s1 =>
  (bd_cons (sd_as (e2 := fun s5 => [.dat p0, .no]) (sd_for (S := Unit) (j := 1) (s0 := ()) (emb := fun s2 => [.dat p0, .no]) (ρb := fun s2 x3 => [.dat p0, .dat x3]) nd hp (id_str (pd_var 0)) ⟨.inr rfl, ⟨.inr rfl, trivial⟩⟩ (fun _ _ => rfl) fun s2 x3 =>
  (bd_cons (S := Unit) (e1 := fun s4 => [.dat p0, .dat x3]) (sd_if (td_cmp op_notIn_sign rd_ninS (pd_var 1) pd_str) (bd_one (sd_ret (ρ' := [.dat p0, .dat x3]) pd_non)) (bd_nil (s := ()) (e := fun s4 => [.dat p0, .dat x3]) ⟨.inr rfl, ⟨.inr rfl, trivial⟩⟩)) fun s4 =>
  (bd_nil (s := ()) (e := fun s2 => [.dat p0, .no]) ⟨.inr rfl, ⟨.inl rfl, trivial⟩⟩))) (fun _ => rfl)) fun s5 =>
  (bd_one (sd_ret (ρ' := [.dat p0, .no]) (pd_ty (T := "int") call_int_str rc_intS B.int (ad_cons (pd_var 0) ad_nil))))))⟩

end UT
end
section
set_option Elab.async false
set_option linter.all false
set_option maxRecDepth 100000
set_option maxHeartbeats 4000000
namespace UT
open PySem PySem.Spec PyProof.Rows L2
theorem sc_asks_line : FnScope ["asks", "low", "high"] ["asks"] (defScope st_asks_line) := ⟨rfl, rfl, rfl, by decide +kernel, rfl, by decide +kernel, by decide +kernel⟩
theorem ok_asks_line {P : Program} {w : World} {K : PySem.W.Frag} {mg : Str → Option Value} {base : Heap} {f : Addr} {fd : FuncData} (Fn : FnP K "asks_line" "asks_line" st_asks_line f fd) (B : Blt mg) (c_is_asks : Cal P w K mg base "is_asks" 4 1 F_is_asks) (r_usable : RaC P w K mg base .usable 1) :
    FnOk P w K mg base (L2.CX P w) 5 f fd ["asks"] (SpF K F_asks_line 1) := by
  refine fnF Fn sc_asks_line rfl fun cdv A outer s H E hr ds hl => ?_
  match ds, hl with
  | [p0], _ =>
    have nd := sc_asks_line.nd
    have tk : Takes (cxOf (L2.CX P w) P w K mg base ["asks", "low", "high"] "asks_line" (defScope st_asks_line) f cdv A outer s H E) (fun cls d _ H => E cls d H) := takes_of rfl rfl rfl rfl
    exact ⟨Unit, _, false, m_asks_line p0, fun _ => [], rfl, by
    unfold m_asks_line
    exact (bd_cons (S := Unit) (e1 := fun s1 => [.dat p0, .no, .no]) (sd_if (td_not (td_val (pd_fn c_is_asks (hr.mono (by decide)) (ad_cons (pd_var 0) ad_nil)))) (bd_one (sd_raise (c := .usable) r_usable (hr.mono (by decide)) tk (ad_cons pd_str (ad_cons (pd_neg pd_int) ad_nil)))) (bd_nil (s := ()) (e := fun s1 => [.dat p0, .no, .no]) ⟨.inr rfl, ⟨.inr rfl, ⟨.inr rfl, trivial⟩⟩⟩)) fun s1 =>
  (bd_cons (S := Unit) (e1 := fun s2 => [.dat p0, .no, .no]) (sd_if (td_not (td_tru (pd_var 0))) (bd_one (sd_ret (ρ' := [.dat p0, .no, .no]) pd_str)) (bd_nil (s := ()) (e := fun s2 => [.dat p0, .no, .no]) ⟨.inr rfl, ⟨.inr rfl, ⟨.inr rfl, trivial⟩⟩⟩)) fun s2 =>
  (bd_one (sd_ret (ρ' := [.dat p0, .no, .no]) (pd_m1 F.slot_str_join F.type_str_join mt_join rm_join pd_str (pd_lc2Z (own := [("low", 1), ("high", 2)]) (i := 1) (j := 2) (ρw := [.dat p0, .no, .no]) (ρb := fun x3 y4 => [.dat p0, .dat x3, .dat y4]) nd (id_tup (pd_var 0)) (blkOk_by rfl) rfl rfl rfl (fun _ _ => rfl) (fun x3 y4 => (pd_joined (.cons (pd_fmt (pd_var 1)) (.cons pd_str (.cons (pd_fmt (pd_var 2)) .nil))))) (fun _ _ _ _ _ x3 y4 => (pd_joined (.cons (pd_fmt (pd_var 1)) (.cons pd_str (.cons (pd_fmt (pd_var 2)) .nil))))) (hg := fun _ _ _ _ _ => pg_tup rfl (pgs_cons (pg_name nd rfl (Or.inl rfl)) (pgs_cons (pg_name nd rfl (Or.inl rfl)) pgs_nil)))))))))⟩

end UT
end
section
set_option Elab.async false
set_option linter.all false
set_option maxRecDepth 100000
set_option maxHeartbeats 4000000
namespace UT
open PySem PySem.Spec PyProof.Rows L2
theorem sc_history_line : FnScope ["history", "event", "part"] ["history"] (defScope st_history_line) := ⟨rfl, rfl, rfl, by decide +kernel, rfl, by decide +kernel, by decide +kernel⟩
theorem ok_history_line {P : Program} {w : World} {K : PySem.W.Frag} {mg : Str → Option Value} {base : Heap} {f : Addr} {fd : FuncData} (Fn : FnP K "history_line" "history_line" st_history_line f fd) (B : Blt mg) (c_is_history : Cal P w K mg base "is_history" 4 1 F_is_history) (r_usable : RaC P w K mg base .usable 1) :
    FnOk P w K mg base (L2.CX P w) 5 f fd ["history"] (SpF K F_history_line 1) := by
  refine fnF Fn sc_history_line rfl fun cdv A outer s H E hr ds hl => ?_
  match ds, hl with
  | [p0], _ =>
    have nd := sc_history_line.nd
    have tk : Takes (cxOf (L2.CX P w) P w K mg base ["history", "event", "part"] "history_line" (defScope st_history_line) f cdv A outer s H E) (fun cls d _ H => E cls d H) := takes_of rfl rfl rfl rfl
    exact ⟨Unit, _, false, m_history_line p0, fun _ => [], rfl, by
    unfold m_history_line
    exact (bd_cons (S := Unit) (e1 := fun s1 => [.dat p0, .no, .no]) (sd_if (td_not (td_val (pd_fn c_is_history (hr.mono (by decide)) (ad_cons (pd_var 0) ad_nil)))) (bd_one (sd_raise (c := .usable) r_usable (hr.mono (by decide)) tk (ad_cons pd_str (ad_cons (pd_neg pd_int) ad_nil)))) (bd_nil (s := ()) (e := fun s1 => [.dat p0, .no, .no]) ⟨.inr rfl, ⟨.inr rfl, ⟨.inr rfl, trivial⟩⟩⟩)) fun s1 =>
  (bd_cons (S := Unit) (e1 := fun s2 => [.dat p0, .no, .no]) (sd_if (td_not (td_tru (pd_var 0))) (bd_one (sd_ret (ρ' := [.dat p0, .no, .no]) pd_str)) (bd_nil (s := ()) (e := fun s2 => [.dat p0, .no, .no]) ⟨.inr rfl, ⟨.inr rfl, ⟨.inr rfl, trivial⟩⟩⟩)) fun s2 =>
  (bd_one (sd_ret (ρ' := [.dat p0, .no, .no]) (pd_m1 F.slot_str_join F.type_str_join mt_join rm_join pd_str (pd_lcZ (own := [("event", 1)]) (j := 1) (ρw := [.dat p0, .no, .no]) (ρb := fun x3 => [.dat p0, .dat x3, .no]) nd (id_tup (pd_var 0)) (blkOk_by rfl) rfl rfl (fun _ => rfl) (fun x3 => (pd_m1 F.slot_str_join F.type_str_join mt_join rm_join pd_str (pd_lcZ (own := [("part", 2)]) (j := 2) (ρw := [.dat p0, .dat x3, .no]) (ρb := fun x4 => [.dat p0, .dat x3, .dat x4]) nd (id_tup (pd_var 1)) (blkOk_by rfl) rfl rfl (fun _ => rfl) (fun x4 => (pd_ty (T := "str") call_strE rc_str B.str (ad_cons (pd_var 2) ad_nil))) (fun _ _ _ _ _ x4 => (pd_ty (T := "str") call_strE rc_str B.str (ad_cons (pd_var 2) ad_nil))) (hg := fun _ _ _ _ _ => pg_name nd rfl (Or.inl rfl))))) (fun _ _ _ _ _ x3 => (pd_m1 F.slot_str_join F.type_str_join mt_join rm_join pd_str (pd_lcZ (own := [("part", 2)]) (j := 2) (ρw := [.dat p0, .dat x3, .no]) (ρb := fun x4 => [.dat p0, .dat x3, .dat x4]) nd (id_tup (pd_var 1)) (blkOk_by rfl) rfl rfl (fun _ => rfl) (fun x4 => (pd_ty (T := "str") call_strE rc_str B.str (ad_cons (pd_var 2) ad_nil))) (fun _ _ _ _ _ x4 => (pd_ty (T := "str") call_strE rc_str B.str (ad_cons (pd_var 2) ad_nil))) (hg := fun _ _ _ _ _ => pg_name nd rfl (Or.inl rfl))))) (hg := fun _ _ _ _ _ => pg_name nd rfl (Or.inl rfl))))))))⟩

end UT
end
section
set_option Elab.async false
set_option linter.all false
set_option maxRecDepth 100000
set_option maxHeartbeats 4000000
namespace UT
open PySem PySem.Spec PyProof.Rows L2
theorem sc_is_asks : FnScope ["thing", "before", "ask"] ["thing"] (defScope st_is_asks) := ⟨rfl, rfl, rfl, by decide +kernel, rfl, by decide +kernel, by decide +kernel⟩
theorem ok_is_asks {P : Program} {w : World} {K : PySem.W.Frag} {mg : Str → Option Value} {base : Heap} {f : Addr} {fd : FuncData} (Fn : FnP K "is_asks" "is_asks" st_is_asks f fd) (B : Blt mg) (c_is_stretch : Cal P w K mg base "is_stretch" 3 1 F_is_stretch) :
    FnOk P w K mg base (L2.CX P w) 4 f fd ["thing"] (SpF K F_is_asks 1) := by
  refine fnF Fn sc_is_asks rfl fun cdv A outer s H E hr ds hl => ?_
  match ds, hl with
  | [p0], _ =>
    have nd := sc_is_asks.nd
    have hp : PassesOwn (model P w) (cxOf (L2.CX P w) P w K mg base ["thing", "before", "ask"] "is_asks" (defScope st_is_asks) f cdv A outer s H E).A (cxOf (L2.CX P w) P w K mg base ["thing", "before", "ask"] "is_asks" (defScope st_is_asks) f cdv A outer s H E).env (cxOf (L2.CX P w) P w K mg base ["thing", "before", "ask"] "is_asks" (defScope st_is_asks) f cdv A outer s H E).xe := passes_of rfl
    exact ⟨Unit, _, false, m_is_asks p0, fun _ => [], rfl, by
    unfold m_is_asks
    exact (bd_cons (S := Unit) (e1 := fun s1 => [.dat p0, .no, .no]) (sd_if (td_not (td_val (pd_isi (T := "tuple") (Tn := "tuple") (pd_var 0) B.isinstance B.tuple))) (bd_one (sd_ret (ρ' := [.dat p0, .no, .no]) pd_bl)) (bd_nil (s := ()) (e := fun s1 => [.dat p0, .no, .no]) ⟨.inr rfl, ⟨.inr rfl, ⟨.inr rfl, trivial⟩⟩⟩)) fun s1 =>
  (bd_cons (sd_as (e2 := fun d2 => [.dat p0, .dat d2, .no]) (sd_asg (i := 1) nd (pd_tup (ad_cons (pd_neg pd_int) (ad_cons (pd_neg pd_int) ad_nil)))) (fun _ => rfl)) fun d2 =>
  (bd_cons (sd_as (e2 := fun s7 => [.dat p0, .dat s7, .no]) (sd_for (S := PyData) (j := 2) (s0 := d2) (emb := fun s3 => [.dat p0, .dat s3, .no]) (ρb := fun s3 x4 => [.dat p0, .dat s3, .dat x4]) nd hp (id_tup (pd_var 0)) ⟨.inr rfl, ⟨.inr rfl, ⟨.inr rfl, trivial⟩⟩⟩ (fun _ _ => rfl) fun s3 x4 =>
  (bd_cons (S := Unit) (e1 := fun s5 => [.dat p0, .dat s3, .dat x4]) (sd_if (td_w (wd_or (td_not (td_val (pd_fn c_is_stretch (hr.mono (by decide)) (ad_cons (pd_var 2) ad_nil)))) (wd_or1 (td_cmp (op_leT (hu0 hr)) rd_leT (pd_var 2) (pd_var 1))))) (bd_one (sd_ret (ρ' := [.dat p0, .dat s3, .dat x4]) pd_bl)) (bd_nil (s := ()) (e := fun s5 => [.dat p0, .dat s3, .dat x4]) ⟨.inr rfl, ⟨.inr rfl, ⟨.inr rfl, trivial⟩⟩⟩)) fun s5 =>
  (bd_cons (sd_as (e2 := fun d6 => [.dat p0, .dat d6, .dat x4]) (sd_asg (i := 1) nd (pd_var 2)) (fun _ => rfl)) fun d6 =>
  (bd_nil (s := d6) (e := fun s3 => [.dat p0, .dat s3, .no]) ⟨.inr rfl, ⟨.inr rfl, ⟨.inl rfl, trivial⟩⟩⟩)))) (fun _ => rfl)) fun s7 =>
  (bd_one (sd_ret (ρ' := [.dat p0, .dat s7, .no]) pd_bl)))))⟩

end UT
end
section
set_option Elab.async false
set_option linter.all false
set_option maxRecDepth 100000
set_option maxHeartbeats 4000000
namespace UT
open PySem PySem.Spec PyProof.Rows L2
theorem sc_is_integer : FnScope ["thing"] ["thing"] (defScope st_is_integer) := ⟨rfl, rfl, rfl, by decide +kernel, rfl, by decide +kernel, by decide +kernel⟩
theorem ok_is_integer {P : Program} {w : World} {K : PySem.W.Frag} {mg : Str → Option Value} {base : Heap} {f : Addr} {fd : FuncData} (Fn : FnP K "is_integer" "is_integer" st_is_integer f fd) (B : Blt mg) :
    FnOk P w K mg base (L2.CX P w) 1 f fd ["thing"] (SpF K F_is_integer 1) := by
  refine fnF Fn sc_is_integer rfl fun cdv A outer s H E hr ds hl => ?_
  match ds, hl with
  | [p0], _ =>
    have nd := sc_is_integer.nd
    exact ⟨Unit, _, false, m_is_integer p0, fun _ => [], rfl, by
    unfold m_is_integer
    exact (bd_one (sd_ret (ρ' := [.dat p0]) (pd_and (pd_isi (T := "int") (Tn := "int") (pd_var 0) B.isinstance B.int) (pd_one (pd_not (pd_isi (T := "bool") (Tn := "bool") (pd_var 0) B.isinstance B.bool))))))⟩

end UT
end
section
set_option Elab.async false
set_option linter.all false
set_option maxRecDepth 100000
set_option maxHeartbeats 4000000
namespace UT
open PySem PySem.Spec PyProof.Rows L2
theorem sc_is_number : FnScope ["thing"] ["thing"] (defScope st_is_number) := ⟨rfl, rfl, rfl, by decide +kernel, rfl, by decide +kernel, by decide +kernel⟩
theorem ok_is_number {P : Program} {w : World} {K : PySem.W.Frag} {mg : Str → Option Value} {base : Heap} {f : Addr} {fd : FuncData} (Fn : FnP K "is_number" "is_number" st_is_number f fd) (B : Blt mg) (c_is_integer : Cal P w K mg base "is_integer" 1 1 F_is_integer) :
    FnOk P w K mg base (L2.CX P w) 2 f fd ["thing"] (SpF K F_is_number 1) := by
  refine fnF Fn sc_is_number rfl fun cdv A outer s H E hr ds hl => ?_
  match ds, hl with
  | [p0], _ =>
    have nd := sc_is_number.nd
    exact ⟨Unit, _, false, m_is_number p0, fun _ => [], rfl, by
    unfold m_is_number
    exact (bd_one (sd_ret (ρ' := [.dat p0]) (pd_and (pd_fn c_is_integer (hr.mono (by decide)) (ad_cons (pd_var 0) ad_nil)) (pd_one (pd_cmp op_ge rd_ge (pd_var 0) pd_int)))))⟩

end UT
end
section
set_option Elab.async false
set_option linter.all false
set_option maxRecDepth 100000
set_option maxHeartbeats 4000000
namespace UT
open PySem PySem.Spec PyProof.Rows L2
theorem sc_is_operation : FnScope ["thing", "number"] ["thing"] (defScope st_is_operation) := ⟨rfl, rfl, rfl, by decide +kernel, rfl, by decide +kernel, by decide +kernel⟩
theorem ok_is_operation {P : Program} {w : World} {K : PySem.W.Frag} {mg : Str → Option Value} {base : Heap} {f : Addr} {fd : FuncData} (Fn : FnP K "is_operation" "is_operation" st_is_operation f fd) (B : Blt mg) (c_is_integer : Cal P w K mg base "is_integer" 1 1 F_is_integer) (T : OpW w K mg) :
    FnOk P w K mg base (L2.CX P w) 2 f fd ["thing"] (SpF K F_is_operation 1) := by
  refine fnF Fn sc_is_operation rfl fun cdv A outer s H E hr ds hl => ?_
  match ds, hl with
  | [p0], _ =>
    have nd := sc_is_operation.nd
    have hp : PassesOwn (model P w) (cxOf (L2.CX P w) P w K mg base ["thing", "number"] "is_operation" (defScope st_is_operation) f cdv A outer s H E).A (cxOf (L2.CX P w) P w K mg base ["thing", "number"] "is_operation" (defScope st_is_operation) f cdv A outer s H E).env (cxOf (L2.CX P w) P w K mg base ["thing", "number"] "is_operation" (defScope st_is_operation) f cdv A outer s H E).xe := passes_of rfl
    exact ⟨Unit, _, false, m_is_operation p0, fun _ => [], rfl, by
    unfold m_is_operation
    exact (bd_cons (S := Unit) (e1 := fun s1 => [.dat p0, .no]) (sd_if (td_w (wd_or (td_not (td_val (pd_isi (T := "tuple") (Tn := "tuple") (pd_var 0) B.isinstance B.tuple))) (wd_or1 (td_not (td_tru (pd_var 0)))))) (bd_one (sd_ret (ρ' := [.dat p0, .no]) pd_bl)) (bd_nil (s := ()) (e := fun s1 => [.dat p0, .no]) ⟨.inr rfl, ⟨.inr rfl, trivial⟩⟩)) fun s1 =>
  (bd_cons (S := Unit) (e1 := fun s2 => [.dat p0, .no]) (sd_if (td_w (wd_or (td_not (td_val (pd_isi (T := "str") (Tn := "str") (pd_ix (pd_var 0) pd_int) B.isinstance B.str))) (wd_or1 (td_nopw T (pd_ix (pd_var 0) pd_int))))) (bd_one (sd_ret (ρ' := [.dat p0, .no]) pd_bl)) (bd_nil (s := ()) (e := fun s2 => [.dat p0, .no]) ⟨.inr rfl, ⟨.inr rfl, trivial⟩⟩)) fun s2 =>
  (bd_cons (S := Unit) (e1 := fun s3 => [.dat p0, .no]) (sd_if (td_cmp op_ne rd_neS (pd_blt (id := "len") call_len rc_len B.len (ad_cons (pd_var 0) ad_nil)) (pd_op op_add rd_add (pd_opw T (pd_ix (pd_var 0) pd_int)) pd_int)) (bd_one (sd_ret (ρ' := [.dat p0, .no]) pd_bl)) (bd_nil (s := ()) (e := fun s3 => [.dat p0, .no]) ⟨.inr rfl, ⟨.inr rfl, trivial⟩⟩)) fun s3 =>
  (bd_cons (sd_as (e2 := fun s7 => [.dat p0, .no]) (sd_for (S := Unit) (j := 1) (s0 := ()) (emb := fun s4 => [.dat p0, .no]) (ρb := fun s4 x5 => [.dat p0, .dat x5]) nd hp (id_tup (pd_slice sl_tup rs_T (pd_var 0) (od_some pd_int) od_none)) ⟨.inr rfl, ⟨.inr rfl, trivial⟩⟩ (fun _ _ => rfl) fun s4 x5 =>
  (bd_cons (S := Unit) (e1 := fun s6 => [.dat p0, .dat x5]) (sd_if (td_w (wd_or (td_not (td_val (pd_fn c_is_integer (hr.mono (by decide)) (ad_cons (pd_var 1) ad_nil)))) (wd_or1 (td_cmp op_lt rd_lt (pd_var 1) pd_int)))) (bd_one (sd_ret (ρ' := [.dat p0, .dat x5]) pd_bl)) (bd_nil (s := ()) (e := fun s6 => [.dat p0, .dat x5]) ⟨.inr rfl, ⟨.inr rfl, trivial⟩⟩)) fun s6 =>
  (bd_nil (s := ()) (e := fun s4 => [.dat p0, .no]) ⟨.inr rfl, ⟨.inl rfl, trivial⟩⟩))) (fun _ => rfl)) fun s7 =>
  (bd_one (sd_ret (ρ' := [.dat p0, .no]) pd_bl))))))⟩

end UT
end
section
set_option Elab.async false
set_option linter.all false
set_option maxRecDepth 100000
set_option maxHeartbeats 4000000
namespace UT
open PySem PySem.Spec PyProof.Rows L2
theorem sc_is_stretch : FnScope ["thing", "low", "high"] ["thing"] (defScope st_is_stretch) := ⟨rfl, rfl, rfl, by decide +kernel, rfl, by decide +kernel, by decide +kernel⟩
theorem ok_is_stretch {P : Program} {w : World} {K : PySem.W.Frag} {mg : Str → Option Value} {base : Heap} {f : Addr} {fd : FuncData} (Fn : FnP K "is_stretch" "is_stretch" st_is_stretch f fd) (B : Blt mg) (c_is_number : Cal P w K mg base "is_number" 2 1 F_is_number) :
    FnOk P w K mg base (L2.CX P w) 3 f fd ["thing"] (SpF K F_is_stretch 1) := by
  refine fnF Fn sc_is_stretch rfl fun cdv A outer s H E hr ds hl => ?_
  match ds, hl with
  | [p0], _ =>
    have nd := sc_is_stretch.nd
    exact ⟨Unit, _, false, m_is_stretch p0, fun _ => [], rfl, by
    unfold m_is_stretch
    exact (bd_cons (S := Unit) (e1 := fun s1 => [.dat p0, .no, .no]) (sd_if (td_w (wd_or (td_not (td_val (pd_isi (T := "tuple") (Tn := "tuple") (pd_var 0) B.isinstance B.tuple))) (wd_or1 (td_cmp op_ne rd_neS (pd_blt (id := "len") call_len rc_len B.len (ad_cons (pd_var 0) ad_nil)) pd_int)))) (bd_one (sd_ret (ρ' := [.dat p0, .no, .no]) pd_bl)) (bd_nil (s := ()) (e := fun s1 => [.dat p0, .no, .no]) ⟨.inr rfl, ⟨.inr rfl, ⟨.inr rfl, trivial⟩⟩⟩)) fun s1 =>
  (bd_cons (sd_as (e2 := fun t2 => [.dat p0, .dat t2.1, .dat t2.2]) (sd_two (i := 1) (j := 2) nd (pd_var 0)) (fun _ => rfl)) fun t2 =>
  (bd_one (sd_ret (ρ' := [.dat p0, .dat t2.1, .dat t2.2]) (pd_and (pd_fn c_is_number (hr.mono (by decide)) (ad_cons (pd_var 1) ad_nil)) (pd_and (pd_fn c_is_number (hr.mono (by decide)) (ad_cons (pd_var 2) ad_nil)) (pd_one (pd_cmp op_lt rd_lt (pd_var 1) (pd_var 2)))))))))⟩

end UT
end
section
set_option Elab.async false
set_option linter.all false
set_option maxRecDepth 100000
set_option maxHeartbeats 4000000
namespace UT
open PySem PySem.Spec PyProof.Rows L2
theorem sc_law : FnScope ["_law_script", "_law_pick", "_law_t", "_law_r", "_law_ev", "_law_told", "_law_line", "_law_op", "_law_v", "_law_part"] ["_law_script"] (defScope st_law) := ⟨rfl, rfl, rfl, by decide +kernel, rfl, by decide +kernel, by decide +kernel⟩
theorem ok_law {P : Program} {w : World} {K : PySem.W.Frag} {mg : Str → Option Value} {base : Heap} {f : Addr} {fd : FuncData} (Fn : FnP K "law" "law" st_law f fd) (B : Blt mg) (c_law_asks_line : Cal P w K mg base "_law_asks_line" 1 1 F_law_asks_line) (c_law_events : Cal P w K mg base "_law_events" 1 1 F_law_events) (c_law_history_line : Cal P w K mg base "_law_history_line" 1 1 F_law_history_line) (c_law_lines : Cal P w K mg base "_law_lines" 9 5 F_law_lines) (c_law_nums : Cal P w K mg base "_law_nums" 1 3 F_law_nums) (c_law_odds : Cal P w K mg base "_law_odds" 9 3 F_law_odds) (c_law_operation : Cal P w K mg base "_law_operation" 1 1 F_law_operation) (c_law_row : Cal P w K mg base "_law_row" 1 1 F_law_row) (c_law_same : Cal P w K mg base "_law_same" 8 2 F_law_same) (c_law_value : Cal P w K mg base "_law_value" 2 2 F_law_value) (c_law_value_line : Cal P w K mg base "_law_value_line" 2 1 F_law_value_line) (c_asks_line : Cal P w K mg base "asks_line" 5 1 F_asks_line) (c_history_line : Cal P w K mg base "history_line" 5 1 F_history_line) (c_operation_line : Cal P w K mg base "operation_line" 3 1 F_operation_line) (c_read_asks : Cal P w K mg base "read_asks" 4 1 F_read_asks) (c_read_history : Cal P w K mg base "read_history" 4 1 F_read_history) (c_read_operation : Cal P w K mg base "read_operation" 3 1 F_read_operation) :
    FnOk P w K mg base (L2.CX P w) 10 f fd ["_law_script"] (SpF K F_law 1) := by
  refine fnF Fn sc_law rfl fun cdv A outer s H E hr ds hl => ?_
  match ds, hl with
  | [p0], _ =>
    have nd := sc_law.nd
    have hp : PassesOwn (model P w) (cxOf (L2.CX P w) P w K mg base ["_law_script", "_law_pick", "_law_t", "_law_r", "_law_ev", "_law_told", "_law_line", "_law_op", "_law_v", "_law_part"] "law" (defScope st_law) f cdv A outer s H E).A (cxOf (L2.CX P w) P w K mg base ["_law_script", "_law_pick", "_law_t", "_law_r", "_law_ev", "_law_told", "_law_line", "_law_op", "_law_v", "_law_part"] "law" (defScope st_law) f cdv A outer s H E).env (cxOf (L2.CX P w) P w K mg base ["_law_script", "_law_pick", "_law_t", "_law_r", "_law_ev", "_law_told", "_law_line", "_law_op", "_law_v", "_law_part"] "law" (defScope st_law) f cdv A outer s H E).xe := passes_of rfl
    exact ⟨Unit, _, false, m_law p0, fun _ => [], rfl, by
    unfold m_law
    exact (bd_cons (sd_as (e2 := fun d1 => [.dat p0, .dat d1, .no, .no, .no, .no, .no, .no, .no, .no]) (sd_asg (i := 1) nd (pd_fnL c_law_nums (hr.mono (by decide)) (ad_cons (pd_var 0) (ad_cons pd_int (ad_cons (pd_lst (ad_cons pd_int (ad_cons pd_int (ad_cons pd_int (ad_cons pd_int ad_nil))))) ad_nil))))) (fun _ => rfl)) fun d1 =>
  (bd_cons (sd_as (e2 := fun s11 => [.dat p0, .dat d1, .no, .no, .no, .no, .no, s11, .no, .no]) (sd_for (S := Sl) (j := 2) (s0 := .no) (emb := fun s2 => [.dat p0, .dat d1, .no, .no, .no, .no, .no, s2, .no, .no]) (ρb := fun s2 x3 => [.dat p0, .dat d1, .dat x3, .no, .no, .no, .no, s2, .no, .no]) nd hp (id_rng1 B.range (ad_cons pd_int ad_nil)) ⟨.inr rfl, ⟨.inr rfl, ⟨.inr rfl, ⟨.inr rfl, ⟨.inr rfl, ⟨.inr rfl, ⟨.inr rfl, ⟨.inr rfl, ⟨.inr rfl, ⟨.inr rfl, trivial⟩⟩⟩⟩⟩⟩⟩⟩⟩⟩ (fun _ _ => rfl) fun s2 x3 =>
  (bd_cons (sd_as (e2 := fun d4 => [.dat p0, .dat d1, .dat x3, .no, .no, .no, .no, .dat d4, .no, .no]) (sd_asg (i := 7) nd (pd_fn c_law_operation (hr.mono (by decide)) (ad_cons (pd_fnL c_law_nums (hr.mono (by decide)) (ad_cons (pd_var 0) (ad_cons (pd_op op_mul rd_mul pd_int (pd_var 2)) (ad_cons (pd_lst (ad_cons pd_int (ad_cons pd_int (ad_cons pd_int (ad_cons pd_int ad_nil))))) ad_nil)))) ad_nil))) (fun _ => rfl)) fun d4 =>
  (bd_cons (sd_as (e2 := fun d5 => [.dat p0, .dat d1, .dat x3, .no, .no, .no, .no, .dat d4, .dat d5, .no]) (sd_asg (i := 8) nd (pd_fn c_law_value (hr.mono (by decide)) (ad_cons (pd_var 7) (ad_cons (pd_fnL c_law_nums (hr.mono (by decide)) (ad_cons (pd_var 0) (ad_cons (pd_op op_add rd_add (pd_op op_mul rd_mul pd_int (pd_var 2)) pd_int) (ad_cons (pd_op op_cat rd_cat (pd_op op_rep rd_rep (pd_lst (ad_cons pd_int ad_nil)) pd_int) (pd_lst (ad_cons pd_int ad_nil))) ad_nil)))) ad_nil)))) (fun _ => rfl)) fun d5 =>
  (bd_cons (sd_as (e2 := fun d6 => [.dat p0, .dat d1, .dat x3, .no, .no, .dat d6, .no, .dat d4, .dat d5, .no]) (sd_asg (i := 5) nd (pd_m1 F.slot_str_join F.type_str_join mt_join rm_join pd_str (pd_op op_cat rd_cat (pd_lst (ad_cons (pd_ix (pd_var 7) pd_int) ad_nil)) (pd_lcZ (own := [("_law_part", 9)]) (j := 9) (ρw := [.dat p0, .dat d1, .dat x3, .no, .no, .no, .no, .dat d4, .dat d5, .no]) (ρb := fun x7 => [.dat p0, .dat d1, .dat x3, .no, .no, .no, .no, .dat d4, .dat d5, .dat x7]) nd (id_tup (pd_slice sl_tup rs_T (pd_var 7) (od_some pd_int) od_none)) (blkOk_by rfl) rfl rfl (fun _ => rfl) (fun x7 => (pd_ty (T := "str") call_strE rc_str B.str (ad_cons (pd_var 9) ad_nil))) (fun _ _ _ _ _ x7 => (pd_ty (T := "str") call_strE rc_str B.str (ad_cons (pd_var 9) ad_nil))) (hg := fun _ _ _ _ _ => pg_name nd rfl (Or.inl rfl)))))) (fun _ => rfl)) fun d6 =>
  (bd_cons (S := Unit) (e1 := fun s8 => [.dat p0, .dat d1, .dat x3, .no, .no, .dat d6, .no, .dat d4, .dat d5, .no]) (sd_if (td_not (td_val (pd_fn c_law_lines (hr.mono (by decide)) (ad_cons (pd_tup (ad_cons pd_str (ad_cons pd_str ad_nil))) (ad_cons (pd_var 7) (ad_cons (pd_var 8) (ad_cons (pd_fn c_law_value_line (hr.mono (by decide)) (ad_cons (pd_var 8) ad_nil)) (ad_cons (pd_ix (pd_var 1) (pd_var 2)) ad_nil)))))))) (bd_one (sd_ret (ρ' := [.dat p0, .dat d1, .dat x3, .no, .no, .dat d6, .no, .dat d4, .dat d5, .no]) pd_bl)) (bd_nil (s := ()) (e := fun s8 => [.dat p0, .dat d1, .dat x3, .no, .no, .dat d6, .no, .dat d4, .dat d5, .no]) ⟨.inr rfl, ⟨.inr rfl, ⟨.inr rfl, ⟨.inr rfl, ⟨.inr rfl, ⟨.inr rfl, ⟨.inr rfl, ⟨.inr rfl, ⟨.inr rfl, ⟨.inr rfl, trivial⟩⟩⟩⟩⟩⟩⟩⟩⟩⟩)) fun s8 =>
  (bd_cons (S := Unit) (e1 := fun s9 => [.dat p0, .dat d1, .dat x3, .no, .no, .dat d6, .no, .dat d4, .dat d5, .no]) (sd_if (td_not (td_val (pd_fn c_law_lines (hr.mono (by decide)) (ad_cons (pd_tup (ad_cons pd_str (ad_cons pd_str ad_nil))) (ad_cons (pd_var 7) (ad_cons (pd_var 7) (ad_cons (pd_var 5) (ad_cons (pd_ix (pd_var 1) (pd_op op_add rd_add (pd_var 2) pd_int)) ad_nil)))))))) (bd_one (sd_ret (ρ' := [.dat p0, .dat d1, .dat x3, .no, .no, .dat d6, .no, .dat d4, .dat d5, .no]) pd_bl)) (bd_nil (s := ()) (e := fun s9 => [.dat p0, .dat d1, .dat x3, .no, .no, .dat d6, .no, .dat d4, .dat d5, .no]) ⟨.inr rfl, ⟨.inr rfl, ⟨.inr rfl, ⟨.inr rfl, ⟨.inr rfl, ⟨.inr rfl, ⟨.inr rfl, ⟨.inr rfl, ⟨.inr rfl, ⟨.inr rfl, trivial⟩⟩⟩⟩⟩⟩⟩⟩⟩⟩)) fun s9 =>
  (bd_cons (S := Unit) (e1 := fun s10 => [.dat p0, .dat d1, .dat x3, .no, .no, .dat d6, .no, .dat d4, .dat d5, .no]) (sd_if (td_not (td_val (pd_fn c_law_odds (hr.mono (by decide)) (ad_cons (pd_var 7) (ad_cons (pd_var 8) (ad_cons (pd_ix (pd_var 1) (pd_var 2)) ad_nil)))))) (bd_one (sd_ret (ρ' := [.dat p0, .dat d1, .dat x3, .no, .no, .dat d6, .no, .dat d4, .dat d5, .no]) pd_bl)) (bd_nil (s := ()) (e := fun s10 => [.dat p0, .dat d1, .dat x3, .no, .no, .dat d6, .no, .dat d4, .dat d5, .no]) ⟨.inr rfl, ⟨.inr rfl, ⟨.inr rfl, ⟨.inr rfl, ⟨.inr rfl, ⟨.inr rfl, ⟨.inr rfl, ⟨.inr rfl, ⟨.inr rfl, ⟨.inr rfl, trivial⟩⟩⟩⟩⟩⟩⟩⟩⟩⟩)) fun s10 =>
  (bd_nil (s := (Sl.dat d4)) (e := fun s2 => [.dat p0, .dat d1, .no, .no, .no, .no, .no, s2, .no, .no]) ⟨.inr rfl, ⟨.inr rfl, ⟨.inl rfl, ⟨.inr rfl, ⟨.inr rfl, ⟨.inl rfl, ⟨.inr rfl, ⟨.inr rfl, ⟨.inl rfl, ⟨.inr rfl, trivial⟩⟩⟩⟩⟩⟩⟩⟩⟩⟩)))))))) (fun _ => rfl)) fun s11 =>
  (bd_sl (i := 7) (ρ' := fun d12 => [.dat p0, .dat d1, .no, .no, .no, .no, .no, .dat d12, .no, .no]) (fun _ e => by subst e; rfl) fun d12 =>
  (bd_cons (sd_as (e2 := fun d13 => [.dat p0, .dat d1, .no, .dat d13, .no, .no, .no, .dat d12, .no, .no]) (sd_asg (i := 3) nd (pd_fn c_law_row (hr.mono (by decide)) (ad_cons (pd_fnL c_law_nums (hr.mono (by decide)) (ad_cons (pd_var 0) (ad_cons pd_int (ad_cons (pd_op op_cat rd_cat (pd_lst (ad_cons pd_int ad_nil)) (pd_op op_rep rd_rep (pd_lst (ad_cons pd_int ad_nil)) pd_int)) ad_nil)))) ad_nil))) (fun _ => rfl)) fun d13 =>
  (bd_cons (S := Unit) (e1 := fun s14 => [.dat p0, .dat d1, .no, .dat d13, .no, .no, .no, .dat d12, .no, .no]) (sd_if (td_not (td_val (pd_fn c_law_lines (hr.mono (by decide)) (ad_cons (pd_tup (ad_cons pd_str (ad_cons pd_str ad_nil))) (ad_cons (pd_tup (ad_cons pd_str ad_nil)) (ad_cons (pd_var 3) (ad_cons (pd_fn c_law_asks_line (hr.mono (by decide)) (ad_cons (pd_var 3) ad_nil)) (ad_cons (pd_ix (pd_var 1) pd_int) ad_nil)))))))) (bd_one (sd_ret (ρ' := [.dat p0, .dat d1, .no, .dat d13, .no, .no, .no, .dat d12, .no, .no]) pd_bl)) (bd_nil (s := ()) (e := fun s14 => [.dat p0, .dat d1, .no, .dat d13, .no, .no, .no, .dat d12, .no, .no]) ⟨.inr rfl, ⟨.inr rfl, ⟨.inr rfl, ⟨.inr rfl, ⟨.inr rfl, ⟨.inr rfl, ⟨.inr rfl, ⟨.inr rfl, ⟨.inr rfl, ⟨.inr rfl, trivial⟩⟩⟩⟩⟩⟩⟩⟩⟩⟩)) fun s14 =>
  (bd_cons (sd_as (e2 := fun d15 => [.dat p0, .dat d1, .no, .dat d13, .dat d15, .no, .no, .dat d12, .no, .no]) (sd_asg (i := 4) nd (pd_fn c_law_events (hr.mono (by decide)) (ad_cons (pd_fnL c_law_nums (hr.mono (by decide)) (ad_cons (pd_var 0) (ad_cons pd_int (ad_cons (pd_op op_cat rd_cat (pd_lst (ad_cons pd_int ad_nil)) (pd_op op_rep rd_rep (pd_lst (ad_cons pd_int ad_nil)) pd_int)) ad_nil)))) ad_nil))) (fun _ => rfl)) fun d15 =>
  (bd_cons (sd_as (e2 := fun d16 => [.dat p0, .dat d1, .no, .dat d13, .dat d15, .dat d16, .no, .dat d12, .no, .no]) (sd_asg (i := 5) nd (pd_tup (ad_cons (pd_fn c_asks_line (hr.mono (by decide)) (ad_cons (pd_var 3) ad_nil)) (ad_cons (pd_fn c_history_line (hr.mono (by decide)) (ad_cons (pd_var 4) ad_nil)) (ad_cons (pd_fn c_operation_line (hr.mono (by decide)) (ad_cons (pd_var 7) ad_nil)) (ad_cons (pd_fn c_read_operation (hr.mono (by decide)) (ad_cons (pd_fn c_operation_line (hr.mono (by decide)) (ad_cons (pd_var 7) ad_nil)) ad_nil)) ad_nil)))))) (fun _ => rfl)) fun d16 =>
  (bd_cons (sd_as (e2 := fun d17 => [.dat p0, .dat d1, .no, .dat d13, .dat d15, .dat d17, .no, .dat d12, .no, .no]) (sd_asg (i := 5) nd (pd_op op_catT rd_catT (pd_var 5) (pd_tup (ad_cons (pd_fn c_read_asks (hr.mono (by decide)) (ad_cons (pd_fn c_asks_line (hr.mono (by decide)) (ad_cons (pd_var 3) ad_nil)) ad_nil)) (ad_cons (pd_fn c_read_history (hr.mono (by decide)) (ad_cons (pd_fn c_history_line (hr.mono (by decide)) (ad_cons (pd_var 4) ad_nil)) ad_nil)) ad_nil))))) (fun _ => rfl)) fun d17 =>
  (bd_cons (sd_as (e2 := fun d18 => [.dat p0, .dat d1, .no, .dat d13, .dat d15, .dat d17, .dat d18, .dat d12, .no, .no]) (sd_asg (i := 6) nd (pd_m1 F.slot_str_join F.type_str_join mt_join rm_join pd_str (pd_op op_cat rd_cat (pd_lst (ad_cons (pd_ix (pd_var 7) pd_int) ad_nil)) (pd_lcZ (own := [("_law_part", 9)]) (j := 9) (ρw := [.dat p0, .dat d1, .no, .dat d13, .dat d15, .dat d17, .no, .dat d12, .no, .no]) (ρb := fun x19 => [.dat p0, .dat d1, .no, .dat d13, .dat d15, .dat d17, .no, .dat d12, .no, .dat x19]) nd (id_tup (pd_slice sl_tup rs_T (pd_var 7) (od_some pd_int) od_none)) (blkOk_by rfl) rfl rfl (fun _ => rfl) (fun x19 => (pd_ty (T := "str") call_strE rc_str B.str (ad_cons (pd_var 9) ad_nil))) (fun _ _ _ _ _ x19 => (pd_ty (T := "str") call_strE rc_str B.str (ad_cons (pd_var 9) ad_nil))) (hg := fun _ _ _ _ _ => pg_name nd rfl (Or.inl rfl)))))) (fun _ => rfl)) fun d18 =>
  (bd_cons (S := Unit) (e1 := fun s20 => [.dat p0, .dat d1, .no, .dat d13, .dat d15, .dat d17, .dat d18, .dat d12, .no, .no]) (sd_if (td_not (td_val (pd_fn c_law_same (hr.mono (by decide)) (ad_cons (pd_var 5) (ad_cons (pd_tup (ad_cons (pd_fn c_law_asks_line (hr.mono (by decide)) (ad_cons (pd_var 3) ad_nil)) (ad_cons (pd_fn c_law_history_line (hr.mono (by decide)) (ad_cons (pd_var 4) ad_nil)) (ad_cons (pd_var 6) (ad_cons (pd_var 7) (ad_cons (pd_var 3) (ad_cons (pd_var 4) ad_nil))))))) ad_nil))))) (bd_one (sd_ret (ρ' := [.dat p0, .dat d1, .no, .dat d13, .dat d15, .dat d17, .dat d18, .dat d12, .no, .no]) pd_bl)) (bd_nil (s := ()) (e := fun s20 => [.dat p0, .dat d1, .no, .dat d13, .dat d15, .dat d17, .dat d18, .dat d12, .no, .no]) ⟨.inr rfl, ⟨.inr rfl, ⟨.inr rfl, ⟨.inr rfl, ⟨.inr rfl, ⟨.inr rfl, ⟨.inr rfl, ⟨.inr rfl, ⟨.inr rfl, ⟨.inr rfl, trivial⟩⟩⟩⟩⟩⟩⟩⟩⟩⟩)) fun s20 =>
  (bd_one (sd_ret (ρ' := [.dat p0, .dat d1, .no, .dat d13, .dat d15, .dat d17, .dat d18, .dat d12, .no, .no]) (pd_fn c_law_lines (hr.mono (by decide)) (ad_cons (pd_tup (ad_cons pd_str (ad_cons pd_str ad_nil))) (ad_cons (pd_tup (ad_cons pd_str ad_nil)) (ad_cons (pd_var 4) (ad_cons (pd_fn c_law_history_line (hr.mono (by decide)) (ad_cons (pd_var 4) ad_nil)) (ad_cons (pd_ix (pd_var 1) pd_int) ad_nil))))))))))))))))))⟩

end UT
end
section
set_option Elab.async false
set_option linter.all false
set_option maxRecDepth 100000
set_option maxHeartbeats 4000000
namespace UT
open PySem PySem.Spec PyProof.Rows L2
theorem sc_lets_history : FnScope ["thing", "inside", "at", "event"] ["thing"] (defScope st_lets_history) := ⟨rfl, rfl, rfl, by decide +kernel, rfl, by decide +kernel, by decide +kernel⟩
theorem ok_lets_history {P : Program} {w : World} {K : PySem.W.Frag} {mg : Str → Option Value} {base : Heap} {f : Addr} {fd : FuncData} (Fn : FnP K "lets_history" "lets_history" st_lets_history f fd) (B : Blt mg) (c_is_move : Cal P w K mg base "_is_move" 2 1 F_is_move) (r_paper : RaC P w K mg base .paper 1) :
    FnOk P w K mg base (L2.CX P w) 3 f fd ["thing"] (SpF K F_lets_history 1) := by
  refine fnF Fn sc_lets_history rfl fun cdv A outer s H E hr ds hl => ?_
  match ds, hl with
  | [p0], _ =>
    have nd := sc_lets_history.nd
    have tk : Takes (cxOf (L2.CX P w) P w K mg base ["thing", "inside", "at", "event"] "lets_history" (defScope st_lets_history) f cdv A outer s H E) (fun cls d _ H => E cls d H) := takes_of rfl rfl rfl rfl
    have hp : PassesOwn (model P w) (cxOf (L2.CX P w) P w K mg base ["thing", "inside", "at", "event"] "lets_history" (defScope st_lets_history) f cdv A outer s H E).A (cxOf (L2.CX P w) P w K mg base ["thing", "inside", "at", "event"] "lets_history" (defScope st_lets_history) f cdv A outer s H E).env (cxOf (L2.CX P w) P w K mg base ["thing", "inside", "at", "event"] "lets_history" (defScope st_lets_history) f cdv A outer s H E).xe := passes_of rfl
    exact ⟨Unit, _, false, m_lets_history p0, fun _ => [], rfl, by
    unfold m_lets_history
    exact (bd_cons (S := Unit) (e1 := fun s1 => [.dat p0, .no, .no, .no]) (sd_if (td_not (td_val (pd_isi (T := "tuple") (Tn := "tuple") (pd_var 0) B.isinstance B.tuple))) (bd_one (sd_raise (c := .paper) r_paper (hr.mono (by decide)) tk (ad_cons pd_str (ad_cons (pd_neg pd_int) ad_nil)))) (bd_nil (s := ()) (e := fun s1 => [.dat p0, .no, .no, .no]) ⟨.inr rfl, ⟨.inr rfl, ⟨.inr rfl, ⟨.inr rfl, trivial⟩⟩⟩⟩)) fun s1 =>
  (bd_cons (sd_as (e2 := fun d2 => [.dat p0, .dat d2, .no, .no]) (sd_asg (i := 1) nd pd_int) (fun _ => rfl)) fun d2 =>
  (bd_cons (sd_as (e2 := fun s12 => [.dat p0, .dat s12, .no, .no]) (sd_for2 (S := PyData) (i := 2) (j := 3) (s0 := d2) (emb := fun s3 => [.dat p0, .dat s3, .no, .no]) (ρb := fun s3 x4 x5 => [.dat p0, .dat s3, .dat x4, .dat x5]) nd hp (id_enumT B.enumerate (ad_cons (pd_var 0) ad_nil)) ⟨.inr rfl, ⟨.inr rfl, ⟨.inr rfl, ⟨.inr rfl, trivial⟩⟩⟩⟩ (fun _ _ _ => rfl) fun s3 x4 x5 =>
  (bd_cons (S := Unit) (e1 := fun s6 => [.dat p0, .dat s3, .dat x4, .dat x5]) (sd_if (td_not (td_val (pd_fn c_is_move (hr.mono (by decide)) (ad_cons (pd_var 3) ad_nil)))) (bd_one (sd_raise (c := .paper) r_paper (hr.mono (by decide)) tk (ad_cons pd_str (ad_cons (pd_var 2) ad_nil)))) (bd_nil (s := ()) (e := fun s6 => [.dat p0, .dat s3, .dat x4, .dat x5]) ⟨.inr rfl, ⟨.inr rfl, ⟨.inr rfl, ⟨.inr rfl, trivial⟩⟩⟩⟩)) fun s6 =>
  (bd_cons (S := PyData) (e1 := fun s7 => [.dat p0, .dat s7, .dat x4, .dat x5]) (sd_if (td_cmp op_eq rd_eqS (pd_ix (pd_var 3) pd_int) pd_str) (bd_cons (sd_as (e2 := fun d8 => [.dat p0, .dat d8, .dat x4, .dat x5]) (sd_augA (i := 1) nd (pd_ix (pd_var 3) pd_int)) (fun _ => rfl)) fun d8 =>
  (bd_nil (s := d8) (e := fun s7 => [.dat p0, .dat s7, .dat x4, .dat x5]) ⟨.inr rfl, ⟨.inr rfl, ⟨.inr rfl, ⟨.inr rfl, trivial⟩⟩⟩⟩)) (bd_nil (s := s3) (e := fun s7 => [.dat p0, .dat s7, .dat x4, .dat x5]) ⟨.inr rfl, ⟨.inr rfl, ⟨.inr rfl, ⟨.inr rfl, trivial⟩⟩⟩⟩)) fun s7 =>
  (bd_cons (S := PyData) (e1 := fun s9 => [.dat p0, .dat s9, .dat x4, .dat x5]) (sd_if (td_cmp op_eq rd_eqS (pd_ix (pd_var 3) pd_int) pd_str) (bd_cons (S := Unit) (e1 := fun s10 => [.dat p0, .dat s7, .dat x4, .dat x5]) (sd_if (td_cmp op_gt rd_gt (pd_ix (pd_var 3) pd_int) (pd_var 1)) (bd_one (sd_raise (c := .paper) r_paper (hr.mono (by decide)) tk (ad_cons pd_str (ad_cons (pd_var 2) ad_nil)))) (bd_nil (s := ()) (e := fun s10 => [.dat p0, .dat s7, .dat x4, .dat x5]) ⟨.inr rfl, ⟨.inr rfl, ⟨.inr rfl, ⟨.inr rfl, trivial⟩⟩⟩⟩)) fun s10 =>
  (bd_cons (sd_as (e2 := fun d11 => [.dat p0, .dat d11, .dat x4, .dat x5]) (sd_augS (i := 1) nd (pd_ix (pd_var 3) pd_int)) (fun _ => rfl)) fun d11 =>
  (bd_nil (s := d11) (e := fun s9 => [.dat p0, .dat s9, .dat x4, .dat x5]) ⟨.inr rfl, ⟨.inr rfl, ⟨.inr rfl, ⟨.inr rfl, trivial⟩⟩⟩⟩))) (bd_nil (s := s7) (e := fun s9 => [.dat p0, .dat s9, .dat x4, .dat x5]) ⟨.inr rfl, ⟨.inr rfl, ⟨.inr rfl, ⟨.inr rfl, trivial⟩⟩⟩⟩)) fun s9 =>
  (bd_nil (s := s9) (e := fun s3 => [.dat p0, .dat s3, .no, .no]) ⟨.inr rfl, ⟨.inr rfl, ⟨.inl rfl, ⟨.inl rfl, trivial⟩⟩⟩⟩))))) (fun _ => rfl)) fun s12 =>
  (bd_one (sd_ret (ρ' := [.dat p0, .dat s12, .no, .no]) (pd_var 1))))))⟩

end UT
end
section
set_option Elab.async false
set_option linter.all false
set_option maxRecDepth 100000
set_option maxHeartbeats 4000000
namespace UT
open PySem PySem.Spec PyProof.Rows L2
theorem sc_operation_line : FnScope ["operation", "part"] ["operation"] (defScope st_operation_line) := ⟨rfl, rfl, rfl, by decide +kernel, rfl, by decide +kernel, by decide +kernel⟩
theorem ok_operation_line {P : Program} {w : World} {K : PySem.W.Frag} {mg : Str → Option Value} {base : Heap} {f : Addr} {fd : FuncData} (Fn : FnP K "operation_line" "operation_line" st_operation_line f fd) (B : Blt mg) (c_is_operation : Cal P w K mg base "is_operation" 2 1 F_is_operation) (r_usable : RaC P w K mg base .usable 1) :
    FnOk P w K mg base (L2.CX P w) 3 f fd ["operation"] (SpF K F_operation_line 1) := by
  refine fnF Fn sc_operation_line rfl fun cdv A outer s H E hr ds hl => ?_
  match ds, hl with
  | [p0], _ =>
    have nd := sc_operation_line.nd
    have tk : Takes (cxOf (L2.CX P w) P w K mg base ["operation", "part"] "operation_line" (defScope st_operation_line) f cdv A outer s H E) (fun cls d _ H => E cls d H) := takes_of rfl rfl rfl rfl
    exact ⟨Unit, _, false, m_operation_line p0, fun _ => [], rfl, by
    unfold m_operation_line
    exact (bd_cons (S := Unit) (e1 := fun s1 => [.dat p0, .no]) (sd_if (td_not (td_val (pd_fn c_is_operation (hr.mono (by decide)) (ad_cons (pd_var 0) ad_nil)))) (bd_one (sd_raise (c := .usable) r_usable (hr.mono (by decide)) tk (ad_cons pd_str (ad_cons (pd_neg pd_int) ad_nil)))) (bd_nil (s := ()) (e := fun s1 => [.dat p0, .no]) ⟨.inr rfl, ⟨.inr rfl, trivial⟩⟩)) fun s1 =>
  (bd_one (sd_ret (ρ' := [.dat p0, .no]) (pd_m1 F.slot_str_join F.type_str_join mt_join rm_join pd_str (pd_lcZ (own := [("part", 1)]) (j := 1) (ρw := [.dat p0, .no]) (ρb := fun x2 => [.dat p0, .dat x2]) nd (id_tup (pd_var 0)) (blkOk_by rfl) rfl rfl (fun _ => rfl) (fun x2 => (pd_ty (T := "str") call_strE rc_str B.str (ad_cons (pd_var 1) ad_nil))) (fun _ _ _ _ _ x2 => (pd_ty (T := "str") call_strE rc_str B.str (ad_cons (pd_var 1) ad_nil))) (hg := fun _ _ _ _ _ => pg_name nd rfl (Or.inl rfl)))))))⟩

end UT
end
section
set_option Elab.async false
set_option linter.all false
set_option maxRecDepth 100000
set_option maxHeartbeats 4000000
namespace UT
open PySem PySem.Spec PyProof.Rows L2
theorem sc_read_asks : FnScope ["text", "parts", "asks", "before", "at", "part", "ask"] ["text"] (defScope st_read_asks) := ⟨rfl, rfl, rfl, by decide +kernel, rfl, by decide +kernel, by decide +kernel⟩
theorem ok_read_asks {P : Program} {w : World} {K : PySem.W.Frag} {mg : Str → Option Value} {base : Heap} {f : Addr} {fd : FuncData} (Fn : FnP K "read_asks" "read_asks" st_read_asks f fd) (B : Blt mg) (c_parts_of : Cal P w K mg base "_parts_of" 3 1 F_parts_of) (c_stretch_read : Cal P w K mg base "_stretch_read" 2 1 F_stretch_read) (r_text : RaC P w K mg base .text 1) :
    FnOk P w K mg base (L2.CX P w) 4 f fd ["text"] (SpF K F_read_asks 1) := by
  refine fnF Fn sc_read_asks rfl fun cdv A outer s H E hr ds hl => ?_
  match ds, hl with
  | [p0], _ =>
    have nd := sc_read_asks.nd
    have tk : Takes (cxOf (L2.CX P w) P w K mg base ["text", "parts", "asks", "before", "at", "part", "ask"] "read_asks" (defScope st_read_asks) f cdv A outer s H E) (fun cls d _ H => E cls d H) := takes_of rfl rfl rfl rfl
    have hp : PassesOwn (model P w) (cxOf (L2.CX P w) P w K mg base ["text", "parts", "asks", "before", "at", "part", "ask"] "read_asks" (defScope st_read_asks) f cdv A outer s H E).A (cxOf (L2.CX P w) P w K mg base ["text", "parts", "asks", "before", "at", "part", "ask"] "read_asks" (defScope st_read_asks) f cdv A outer s H E).env (cxOf (L2.CX P w) P w K mg base ["text", "parts", "asks", "before", "at", "part", "ask"] "read_asks" (defScope st_read_asks) f cdv A outer s H E).xe := passes_of rfl
    exact ⟨Unit, _, false, m_read_asks p0, fun _ => [], rfl, by
    unfold m_read_asks
    exact (bd_cons (sd_as (e2 := fun d1 => [.dat p0, .dat d1, .no, .no, .no, .no, .no]) (sd_asgX (i := 1) nd c_parts_of (hr.mono (by decide)) tk (ad_cons (pd_var 0) ad_nil)) (fun _ => rfl)) fun d1 =>
  (bd_cons (S := Unit) (e1 := fun s2 => [.dat p0, .dat d1, .no, .no, .no, .no, .no]) (sd_if (td_not (td_tru (pd_var 1))) (bd_one (sd_ret (ρ' := [.dat p0, .dat d1, .no, .no, .no, .no, .no]) (pd_tup ad_nil))) (bd_nil (s := ()) (e := fun s2 => [.dat p0, .dat d1, .no, .no, .no, .no, .no]) ⟨.inr rfl, ⟨.inr rfl, ⟨.inr rfl, ⟨.inr rfl, ⟨.inr rfl, ⟨.inr rfl, ⟨.inr rfl, trivial⟩⟩⟩⟩⟩⟩⟩)) fun s2 =>
  (bd_cons (sd_as (e2 := fun l3 => [.dat p0, .dat d1, .own l3, .no, .no, .no, .no]) (sd_own (i := 2) nd ad_nil) (fun _ => rfl)) fun l3 =>
  (bd_cons (sd_as (e2 := fun d4 => [.dat p0, .dat d1, .own l3, .dat d4, .no, .no, .no]) (sd_asg (i := 3) nd (pd_tup (ad_cons (pd_neg pd_int) (ad_cons (pd_neg pd_int) ad_nil)))) (fun _ => rfl)) fun d4 =>
  (bd_cons (sd_as (e2 := fun s12 => [.dat p0, .dat d1, .own s12.1, .dat s12.2, .no, .no, .no]) (sd_for2 (S := List PyData × PyData) (i := 4) (j := 5) (s0 := (l3, d4)) (emb := fun s5 => [.dat p0, .dat d1, .own s5.1, .dat s5.2, .no, .no, .no]) (ρb := fun s5 x6 x7 => [.dat p0, .dat d1, .own s5.1, .dat s5.2, .dat x6, .dat x7, .no]) nd hp (id_enum B.enumerate (ad_cons (pd_var 1) ad_nil)) ⟨.inr rfl, ⟨.inr rfl, ⟨.inr rfl, ⟨.inr rfl, ⟨.inr rfl, ⟨.inr rfl, ⟨.inr rfl, trivial⟩⟩⟩⟩⟩⟩⟩ (fun _ _ _ => rfl) fun s5 x6 x7 =>
  (bd_cons (sd_as (e2 := fun d8 => [.dat p0, .dat d1, .own s5.1, .dat s5.2, .dat x6, .dat x7, .dat d8]) (sd_asg (i := 6) nd (pd_fn c_stretch_read (hr.mono (by decide)) (ad_cons (pd_var 5) ad_nil))) (fun _ => rfl)) fun d8 =>
  (bd_cons (S := Unit) (e1 := fun s9 => [.dat p0, .dat d1, .own s5.1, .dat s5.2, .dat x6, .dat x7, .dat d8]) (sd_if (td_w (wd_or (td_cmp op_isN rd_isN (pd_var 6) pd_non) (wd_or1 (td_cmp (op_leT (hu0 hr)) rd_leT (pd_var 6) (pd_var 3))))) (bd_one (sd_raise (c := .text) r_text (hr.mono (by decide)) tk (ad_cons pd_int (ad_cons (pd_var 4) ad_nil)))) (bd_nil (s := ()) (e := fun s9 => [.dat p0, .dat d1, .own s5.1, .dat s5.2, .dat x6, .dat x7, .dat d8]) ⟨.inr rfl, ⟨.inr rfl, ⟨.inr rfl, ⟨.inr rfl, ⟨.inr rfl, ⟨.inr rfl, ⟨.inr rfl, trivial⟩⟩⟩⟩⟩⟩⟩)) fun s9 =>
  (bd_cons (sd_as (e2 := fun l10 => [.dat p0, .dat d1, .own l10, .dat s5.2, .dat x6, .dat x7, .dat d8]) (sd_app (i := 2) (pd_var 6)) (fun _ => rfl)) fun l10 =>
  (bd_cons (sd_as (e2 := fun d11 => [.dat p0, .dat d1, .own l10, .dat d11, .dat x6, .dat x7, .dat d8]) (sd_asg (i := 3) nd (pd_var 6)) (fun _ => rfl)) fun d11 =>
  (bd_nil (s := (l10, d11)) (e := fun s5 => [.dat p0, .dat d1, .own s5.1, .dat s5.2, .no, .no, .no]) ⟨.inr rfl, ⟨.inr rfl, ⟨.inr rfl, ⟨.inr rfl, ⟨.inl rfl, ⟨.inl rfl, ⟨.inl rfl, trivial⟩⟩⟩⟩⟩⟩⟩)))))) (fun _ => rfl)) fun s12 =>
  (bd_one (sd_ret (ρ' := [.dat p0, .dat d1, .dat (.list s12.1), .dat s12.2, .no, .no, .no]) (pd_ty (T := "tuple") call_tuple_of rc_tup B.tuple (ad_cons (pd_var 2) ad_nil)))))))))⟩

end UT
end
section
set_option Elab.async false
set_option linter.all false
set_option maxRecDepth 100000
set_option maxHeartbeats 4000000
namespace UT
open PySem PySem.Spec PyProof.Rows L2
theorem sc_read_history : FnScope ["text", "parts", "events", "inside", "at", "goes_on", "event", "taken"] ["text"] (defScope st_read_history) := ⟨rfl, rfl, rfl, by decide +kernel, rfl, by decide +kernel, by decide +kernel⟩
theorem ok_read_history {P : Program} {w : World} {K : PySem.W.Frag} {mg : Str → Option Value} {base : Heap} {f : Addr} {fd : FuncData} (Fn : FnP K "read_history" "read_history" st_read_history f fd) (B : Blt mg) (c_event_read : Cal P w K mg base "_event_read" 3 3 F_event_read) (c_parts_of : Cal P w K mg base "_parts_of" 3 1 F_parts_of) (r_text : RaC P w K mg base .text 1) :
    FnOk P w K mg base (L2.CX P w) 4 f fd ["text"] (SpF K F_read_history 1) := by
  refine fnF Fn sc_read_history rfl fun cdv A outer s H E hr ds hl => ?_
  match ds, hl with
  | [p0], _ =>
    have nd := sc_read_history.nd
    have tk : Takes (cxOf (L2.CX P w) P w K mg base ["text", "parts", "events", "inside", "at", "goes_on", "event", "taken"] "read_history" (defScope st_read_history) f cdv A outer s H E) (fun cls d _ H => E cls d H) := takes_of rfl rfl rfl rfl
    have hp : PassesOwn (model P w) (cxOf (L2.CX P w) P w K mg base ["text", "parts", "events", "inside", "at", "goes_on", "event", "taken"] "read_history" (defScope st_read_history) f cdv A outer s H E).A (cxOf (L2.CX P w) P w K mg base ["text", "parts", "events", "inside", "at", "goes_on", "event", "taken"] "read_history" (defScope st_read_history) f cdv A outer s H E).env (cxOf (L2.CX P w) P w K mg base ["text", "parts", "events", "inside", "at", "goes_on", "event", "taken"] "read_history" (defScope st_read_history) f cdv A outer s H E).xe := passes_of rfl
    exact ⟨Unit, _, false, m_read_history p0, fun _ => [], rfl, by
    unfold m_read_history
    exact (bd_cons (sd_as (e2 := fun d1 => [.dat p0, .dat d1, .no, .no, .no, .no, .no, .no]) (sd_asgX (i := 1) nd c_parts_of (hr.mono (by decide)) tk (ad_cons (pd_var 0) ad_nil)) (fun _ => rfl)) fun d1 =>
  (bd_cons (sd_as (e2 := fun l2 => [.dat p0, .dat d1, .own l2, .no, .no, .no, .no, .no]) (sd_own (i := 2) nd ad_nil) (fun _ => rfl)) fun l2 =>
  (bd_cons (sd_as (e2 := fun d3 => [.dat p0, .dat d1, .own l2, .dat d3, .no, .no, .no, .no]) (sd_asg (i := 3) nd pd_int) (fun _ => rfl)) fun d3 =>
  (bd_cons (sd_as (e2 := fun d4 => [.dat p0, .dat d1, .own l2, .dat d3, .dat d4, .no, .no, .no]) (sd_asg (i := 4) nd pd_int) (fun _ => rfl)) fun d4 =>
  (bd_cons (sd_as (e2 := fun d5 => [.dat p0, .dat d1, .own l2, .dat d3, .dat d4, .dat d5, .no, .no]) (sd_asg (i := 5) nd (pd_cmp op_gt rd_gt (pd_blt (id := "len") call_len rc_len B.len (ad_cons (pd_var 1) ad_nil)) pd_int)) (fun _ => rfl)) fun d5 =>
  (bd_cons (sd_as (e2 := fun s14 => [.dat p0, .dat d1, .own s14.2.1, .dat s14.2.2.1, .dat s14.2.2.2, .dat s14.1, .no, .no]) (sd_while (S := PyData × List PyData × PyData × PyData) (n := 100000) (s0 := (d5, l2, d3, d4)) (emb := fun s6 => [.dat p0, .dat d1, .own s6.2.1, .dat s6.2.2.1, .dat s6.2.2.2, .dat s6.1, .no, .no]) hp ⟨.inr rfl, ⟨.inr rfl, ⟨.inr rfl, ⟨.inr rfl, ⟨.inr rfl, ⟨.inr rfl, ⟨.inr rfl, ⟨.inr rfl, trivial⟩⟩⟩⟩⟩⟩⟩⟩ (fun s6 => (td_val (pd_var 5))) fun s6 =>
  (bd_cons (sd_as (e2 := fun t7 => [.dat p0, .dat d1, .own s6.2.1, .dat s6.2.2.1, .dat s6.2.2.2, .dat t7.2.2, .dat t7.1, .dat t7.2.1]) (sd_threeX (i := 6) (j := 7) (l := 5) nd c_event_read (hr.mono (by decide)) tk (ad_cons (pd_var 1) (ad_cons (pd_var 4) (ad_cons (pd_var 3) ad_nil)))) (fun _ => rfl)) fun t7 =>
  (bd_cons (sd_as (e2 := fun l8 => [.dat p0, .dat d1, .own l8, .dat s6.2.2.1, .dat s6.2.2.2, .dat t7.2.2, .dat t7.1, .dat t7.2.1]) (sd_app (i := 2) (pd_var 6)) (fun _ => rfl)) fun l8 =>
  (bd_cons (S := PyData) (e1 := fun s9 => [.dat p0, .dat d1, .own l8, .dat s9, .dat s6.2.2.2, .dat t7.2.2, .dat t7.1, .dat t7.2.1]) (sd_if (td_cmp op_eq rd_eqS (pd_ix (pd_var 6) pd_int) pd_str) (bd_cons (sd_as (e2 := fun d10 => [.dat p0, .dat d1, .own l8, .dat d10, .dat s6.2.2.2, .dat t7.2.2, .dat t7.1, .dat t7.2.1]) (sd_augA (i := 3) nd (pd_ix (pd_var 6) pd_int)) (fun _ => rfl)) fun d10 =>
  (bd_nil (s := d10) (e := fun s9 => [.dat p0, .dat d1, .own l8, .dat s9, .dat s6.2.2.2, .dat t7.2.2, .dat t7.1, .dat t7.2.1]) ⟨.inr rfl, ⟨.inr rfl, ⟨.inr rfl, ⟨.inr rfl, ⟨.inr rfl, ⟨.inr rfl, ⟨.inr rfl, ⟨.inr rfl, trivial⟩⟩⟩⟩⟩⟩⟩⟩)) (bd_nil (s := s6.2.2.1) (e := fun s9 => [.dat p0, .dat d1, .own l8, .dat s9, .dat s6.2.2.2, .dat t7.2.2, .dat t7.1, .dat t7.2.1]) ⟨.inr rfl, ⟨.inr rfl, ⟨.inr rfl, ⟨.inr rfl, ⟨.inr rfl, ⟨.inr rfl, ⟨.inr rfl, ⟨.inr rfl, trivial⟩⟩⟩⟩⟩⟩⟩⟩)) fun s9 =>
  (bd_cons (S := PyData) (e1 := fun s11 => [.dat p0, .dat d1, .own l8, .dat s11, .dat s6.2.2.2, .dat t7.2.2, .dat t7.1, .dat t7.2.1]) (sd_if (td_cmp op_eq rd_eqS (pd_ix (pd_var 6) pd_int) pd_str) (bd_cons (sd_as (e2 := fun d12 => [.dat p0, .dat d1, .own l8, .dat d12, .dat s6.2.2.2, .dat t7.2.2, .dat t7.1, .dat t7.2.1]) (sd_augS (i := 3) nd (pd_ix (pd_var 6) pd_int)) (fun _ => rfl)) fun d12 =>
  (bd_nil (s := d12) (e := fun s11 => [.dat p0, .dat d1, .own l8, .dat s11, .dat s6.2.2.2, .dat t7.2.2, .dat t7.1, .dat t7.2.1]) ⟨.inr rfl, ⟨.inr rfl, ⟨.inr rfl, ⟨.inr rfl, ⟨.inr rfl, ⟨.inr rfl, ⟨.inr rfl, ⟨.inr rfl, trivial⟩⟩⟩⟩⟩⟩⟩⟩)) (bd_nil (s := s9) (e := fun s11 => [.dat p0, .dat d1, .own l8, .dat s11, .dat s6.2.2.2, .dat t7.2.2, .dat t7.1, .dat t7.2.1]) ⟨.inr rfl, ⟨.inr rfl, ⟨.inr rfl, ⟨.inr rfl, ⟨.inr rfl, ⟨.inr rfl, ⟨.inr rfl, ⟨.inr rfl, trivial⟩⟩⟩⟩⟩⟩⟩⟩)) fun s11 =>
  (bd_cons (sd_as (e2 := fun d13 => [.dat p0, .dat d1, .own l8, .dat s11, .dat d13, .dat t7.2.2, .dat t7.1, .dat t7.2.1]) (sd_augA (i := 4) nd (pd_var 7)) (fun _ => rfl)) fun d13 =>
  (bd_nil (s := (t7.2.2, l8, s11, d13)) (e := fun s6 => [.dat p0, .dat d1, .own s6.2.1, .dat s6.2.2.1, .dat s6.2.2.2, .dat s6.1, .no, .no]) ⟨.inr rfl, ⟨.inr rfl, ⟨.inr rfl, ⟨.inr rfl, ⟨.inr rfl, ⟨.inr rfl, ⟨.inl rfl, ⟨.inl rfl, trivial⟩⟩⟩⟩⟩⟩⟩⟩))))))) (fun _ => rfl)) fun s14 =>
  (bd_cons (S := Unit) (e1 := fun s15 => [.dat p0, .dat d1, .own s14.2.1, .dat s14.2.2.1, .dat s14.2.2.2, .dat s14.1, .no, .no]) (sd_if (td_cmp op_lt rd_lt (pd_var 4) (pd_blt (id := "len") call_len rc_len B.len (ad_cons (pd_var 1) ad_nil))) (bd_one (sd_raise (c := .text) r_text (hr.mono (by decide)) tk (ad_cons pd_int (ad_cons (pd_var 4) ad_nil)))) (bd_nil (s := ()) (e := fun s15 => [.dat p0, .dat d1, .own s14.2.1, .dat s14.2.2.1, .dat s14.2.2.2, .dat s14.1, .no, .no]) ⟨.inr rfl, ⟨.inr rfl, ⟨.inr rfl, ⟨.inr rfl, ⟨.inr rfl, ⟨.inr rfl, ⟨.inr rfl, ⟨.inr rfl, trivial⟩⟩⟩⟩⟩⟩⟩⟩)) fun s15 =>
  (bd_one (sd_ret (ρ' := [.dat p0, .dat d1, .dat (.list s14.2.1), .dat s14.2.2.1, .dat s14.2.2.2, .dat s14.1, .no, .no]) (pd_ty (T := "tuple") call_tuple_of rc_tup B.tuple (ad_cons (pd_var 2) ad_nil)))))))))))⟩

end UT
end
section
set_option Elab.async false
set_option linter.all false
set_option maxRecDepth 100000
set_option maxHeartbeats 4000000
namespace UT
open PySem PySem.Spec PyProof.Rows L2
theorem sc_read_operation : FnScope ["text", "parts", "many", "numbers", "at", "part", "number"] ["text"] (defScope st_read_operation) := ⟨rfl, rfl, rfl, by decide +kernel, rfl, by decide +kernel, by decide +kernel⟩
theorem ok_read_operation {P : Program} {w : World} {K : PySem.W.Frag} {mg : Str → Option Value} {base : Heap} {f : Addr} {fd : FuncData} (Fn : FnP K "read_operation" "read_operation" st_read_operation f fd) (B : Blt mg) (c_a_number_read : Cal P w K mg base "a_number_read" 1 1 F_a_number_read) (r_text : RaC P w K mg base .text 1) (r_usable : RaC P w K mg base .usable 1) (T : OpW w K mg) :
    FnOk P w K mg base (L2.CX P w) 3 f fd ["text"] (SpF K F_read_operation 1) := by
  refine fnF Fn sc_read_operation rfl fun cdv A outer s H E hr ds hl => ?_
  match ds, hl with
  | [p0], _ =>
    have nd := sc_read_operation.nd
    have tk : Takes (cxOf (L2.CX P w) P w K mg base ["text", "parts", "many", "numbers", "at", "part", "number"] "read_operation" (defScope st_read_operation) f cdv A outer s H E) (fun cls d _ H => E cls d H) := takes_of rfl rfl rfl rfl
    have hp : PassesOwn (model P w) (cxOf (L2.CX P w) P w K mg base ["text", "parts", "many", "numbers", "at", "part", "number"] "read_operation" (defScope st_read_operation) f cdv A outer s H E).A (cxOf (L2.CX P w) P w K mg base ["text", "parts", "many", "numbers", "at", "part", "number"] "read_operation" (defScope st_read_operation) f cdv A outer s H E).env (cxOf (L2.CX P w) P w K mg base ["text", "parts", "many", "numbers", "at", "part", "number"] "read_operation" (defScope st_read_operation) f cdv A outer s H E).xe := passes_of rfl
    exact ⟨Unit, _, false, m_read_operation p0, fun _ => [], rfl, by
    unfold m_read_operation
    exact (bd_cons (S := Unit) (e1 := fun s1 => [.dat p0, .no, .no, .no, .no, .no, .no]) (sd_if (td_not (td_val (pd_isi (T := "str") (Tn := "str") (pd_var 0) B.isinstance B.str))) (bd_one (sd_raise (c := .usable) r_usable (hr.mono (by decide)) tk (ad_cons pd_str (ad_cons (pd_neg pd_int) ad_nil)))) (bd_nil (s := ()) (e := fun s1 => [.dat p0, .no, .no, .no, .no, .no, .no]) ⟨.inr rfl, ⟨.inr rfl, ⟨.inr rfl, ⟨.inr rfl, ⟨.inr rfl, ⟨.inr rfl, ⟨.inr rfl, trivial⟩⟩⟩⟩⟩⟩⟩)) fun s1 =>
  (bd_cons (sd_as (e2 := fun d2 => [.dat p0, .dat d2, .no, .no, .no, .no, .no]) (sd_asg (i := 1) nd (pd_m1 F.slot_str_split F.type_str_split mt_split rm_split (pd_var 0) pd_str)) (fun _ => rfl)) fun d2 =>
  (bd_cons (S := Unit) (e1 := fun s3 => [.dat p0, .dat d2, .no, .no, .no, .no, .no]) (sd_if (td_nopw T (pd_ix (pd_var 1) pd_int)) (bd_one (sd_raise (c := .text) r_text (hr.mono (by decide)) tk (ad_cons pd_int (ad_cons pd_int ad_nil)))) (bd_nil (s := ()) (e := fun s3 => [.dat p0, .dat d2, .no, .no, .no, .no, .no]) ⟨.inr rfl, ⟨.inr rfl, ⟨.inr rfl, ⟨.inr rfl, ⟨.inr rfl, ⟨.inr rfl, ⟨.inr rfl, trivial⟩⟩⟩⟩⟩⟩⟩)) fun s3 =>
  (bd_cons (sd_as (e2 := fun d4 => [.dat p0, .dat d2, .dat d4, .no, .no, .no, .no]) (sd_asg (i := 2) nd (pd_opw T (pd_ix (pd_var 1) pd_int))) (fun _ => rfl)) fun d4 =>
  (bd_cons (sd_as (e2 := fun l5 => [.dat p0, .dat d2, .dat d4, .own l5, .no, .no, .no]) (sd_own (i := 3) nd ad_nil) (fun _ => rfl)) fun l5 =>
  (bd_cons (sd_as (e2 := fun s12 => [.dat p0, .dat d2, .dat d4, .own s12, .no, .no, .no]) (sd_for2 (S := List PyData) (i := 4) (j := 5) (s0 := l5) (emb := fun s6 => [.dat p0, .dat d2, .dat d4, .own s6, .no, .no, .no]) (ρb := fun s6 x7 x8 => [.dat p0, .dat d2, .dat d4, .own s6, .dat x7, .dat x8, .no]) nd hp (id_enum B.enumerate (ad_cons (pd_slice sl_list rs_L (pd_var 1) (od_some pd_int) od_none) ad_nil)) ⟨.inr rfl, ⟨.inr rfl, ⟨.inr rfl, ⟨.inr rfl, ⟨.inr rfl, ⟨.inr rfl, ⟨.inr rfl, trivial⟩⟩⟩⟩⟩⟩⟩ (fun _ _ _ => rfl) fun s6 x7 x8 =>
  (bd_cons (sd_as (e2 := fun d9 => [.dat p0, .dat d2, .dat d4, .own s6, .dat x7, .dat x8, .dat d9]) (sd_asg (i := 6) nd (pd_fn c_a_number_read (hr.mono (by decide)) (ad_cons (pd_var 5) ad_nil))) (fun _ => rfl)) fun d9 =>
  (bd_cons (S := Unit) (e1 := fun s10 => [.dat p0, .dat d2, .dat d4, .own s6, .dat x7, .dat x8, .dat d9]) (sd_if (td_w (wd_or (td_cmp op_ge rd_ge (pd_var 4) (pd_var 2)) (wd_or (td_cmp op_isN rd_isN (pd_var 6) pd_non) (wd_or1 (td_cmp op_lt rd_lt (pd_var 6) pd_int))))) (bd_one (sd_raise (c := .text) r_text (hr.mono (by decide)) tk (ad_cons pd_int (ad_cons (pd_op op_add rd_add (pd_var 4) pd_int) ad_nil)))) (bd_nil (s := ()) (e := fun s10 => [.dat p0, .dat d2, .dat d4, .own s6, .dat x7, .dat x8, .dat d9]) ⟨.inr rfl, ⟨.inr rfl, ⟨.inr rfl, ⟨.inr rfl, ⟨.inr rfl, ⟨.inr rfl, ⟨.inr rfl, trivial⟩⟩⟩⟩⟩⟩⟩)) fun s10 =>
  (bd_cons (sd_as (e2 := fun l11 => [.dat p0, .dat d2, .dat d4, .own l11, .dat x7, .dat x8, .dat d9]) (sd_app (i := 3) (pd_var 6)) (fun _ => rfl)) fun l11 =>
  (bd_nil (s := l11) (e := fun s6 => [.dat p0, .dat d2, .dat d4, .own s6, .no, .no, .no]) ⟨.inr rfl, ⟨.inr rfl, ⟨.inr rfl, ⟨.inr rfl, ⟨.inl rfl, ⟨.inl rfl, ⟨.inl rfl, trivial⟩⟩⟩⟩⟩⟩⟩))))) (fun _ => rfl)) fun s12 =>
  (bd_cons (S := Unit) (e1 := fun s13 => [.dat p0, .dat d2, .dat d4, .own s12, .no, .no, .no]) (sd_if (td_un (ρ' := [.dat p0, .dat d2, .dat d4, .dat (.list s12), .no, .no, .no]) (td_cmp op_lt rd_lt (pd_blt (id := "len") call_len rc_len B.len (ad_cons (pd_var 3) ad_nil)) (pd_var 2))) (bd_one (sd_raise (c := .text) r_text (hr.mono (by decide)) tk (ad_cons pd_int (ad_cons (pd_blt (id := "len") call_len rc_len B.len (ad_cons (pd_var 1) ad_nil)) ad_nil)))) (bd_nil (s := ()) (e := fun s13 => [.dat p0, .dat d2, .dat d4, .own s12, .no, .no, .no]) ⟨.inr rfl, ⟨.inr rfl, ⟨.inr rfl, ⟨.inr rfl, ⟨.inr rfl, ⟨.inr rfl, ⟨.inr rfl, trivial⟩⟩⟩⟩⟩⟩⟩)) fun s13 =>
  (bd_one (sd_ret (ρ' := [.dat p0, .dat d2, .dat d4, .dat (.list s12), .no, .no, .no]) (pd_tup (ad_cons (pd_ix (pd_var 1) pd_int) (ad_star (pd_var 3) ad_nil))))))))))))⟩

end UT
end
section
set_option Elab.async false
set_option linter.all false
set_option maxRecDepth 100000
set_option maxHeartbeats 4000000
namespace UT
open PySem PySem.Spec PyProof.Rows L2
theorem sc_read_value : FnScope ["operation", "text", "parts", "many", "numbers", "at", "part", "number", "side", "row"] ["operation", "text"] (defScope st_read_value) := ⟨rfl, rfl, rfl, by decide +kernel, rfl, by decide +kernel, by decide +kernel⟩
theorem ok_read_value {P : Program} {w : World} {K : PySem.W.Frag} {mg : Str → Option Value} {base : Heap} {f : Addr} {fd : FuncData} (Fn : FnP K "read_value" "read_value" st_read_value f fd) (B : Blt mg) (c_can_stand : Cal P w K mg base "_can_stand" 1 3 F_can_stand) (c_figures_due : Cal P w K mg base "_figures_due" 1 1 F_figures_due) (c_a_integer_read : Cal P w K mg base "a_integer_read" 2 1 F_a_integer_read) (c_is_operation : Cal P w K mg base "is_operation" 2 1 F_is_operation) (r_text : RaC P w K mg base .text 1) (r_usable : RaC P w K mg base .usable 1) :
    FnOk P w K mg base (L2.CX P w) 3 f fd ["operation", "text"] (SpF K F_read_value 2) := by
  refine fnF Fn sc_read_value rfl fun cdv A outer s H E hr ds hl => ?_
  match ds, hl with
  | [p0, p1], _ =>
    have nd := sc_read_value.nd
    have tk : Takes (cxOf (L2.CX P w) P w K mg base ["operation", "text", "parts", "many", "numbers", "at", "part", "number", "side", "row"] "read_value" (defScope st_read_value) f cdv A outer s H E) (fun cls d _ H => E cls d H) := takes_of rfl rfl rfl rfl
    have hp : PassesOwn (model P w) (cxOf (L2.CX P w) P w K mg base ["operation", "text", "parts", "many", "numbers", "at", "part", "number", "side", "row"] "read_value" (defScope st_read_value) f cdv A outer s H E).A (cxOf (L2.CX P w) P w K mg base ["operation", "text", "parts", "many", "numbers", "at", "part", "number", "side", "row"] "read_value" (defScope st_read_value) f cdv A outer s H E).env (cxOf (L2.CX P w) P w K mg base ["operation", "text", "parts", "many", "numbers", "at", "part", "number", "side", "row"] "read_value" (defScope st_read_value) f cdv A outer s H E).xe := passes_of rfl
    exact ⟨Unit, _, false, m_read_value p0 p1, fun _ => [], rfl, by
    unfold m_read_value
    exact (bd_cons (S := Unit) (e1 := fun s1 => [.dat p0, .dat p1, .no, .no, .no, .no, .no, .no, .no, .no]) (sd_if (td_not (td_val (pd_fn c_is_operation (hr.mono (by decide)) (ad_cons (pd_var 0) ad_nil)))) (bd_one (sd_raise (c := .usable) r_usable (hr.mono (by decide)) tk (ad_cons pd_str (ad_cons (pd_neg pd_int) ad_nil)))) (bd_nil (s := ()) (e := fun s1 => [.dat p0, .dat p1, .no, .no, .no, .no, .no, .no, .no, .no]) ⟨.inr rfl, ⟨.inr rfl, ⟨.inr rfl, ⟨.inr rfl, ⟨.inr rfl, ⟨.inr rfl, ⟨.inr rfl, ⟨.inr rfl, ⟨.inr rfl, ⟨.inr rfl, trivial⟩⟩⟩⟩⟩⟩⟩⟩⟩⟩)) fun s1 =>
  (bd_cons (S := Unit) (e1 := fun s2 => [.dat p0, .dat p1, .no, .no, .no, .no, .no, .no, .no, .no]) (sd_if (td_not (td_val (pd_isi (T := "str") (Tn := "str") (pd_var 1) B.isinstance B.str))) (bd_one (sd_raise (c := .usable) r_usable (hr.mono (by decide)) tk (ad_cons pd_str (ad_cons (pd_neg pd_int) ad_nil)))) (bd_nil (s := ()) (e := fun s2 => [.dat p0, .dat p1, .no, .no, .no, .no, .no, .no, .no, .no]) ⟨.inr rfl, ⟨.inr rfl, ⟨.inr rfl, ⟨.inr rfl, ⟨.inr rfl, ⟨.inr rfl, ⟨.inr rfl, ⟨.inr rfl, ⟨.inr rfl, ⟨.inr rfl, trivial⟩⟩⟩⟩⟩⟩⟩⟩⟩⟩)) fun s2 =>
  (bd_cons (sd_as (e2 := fun d3 => [.dat p0, .dat p1, .dat d3, .no, .no, .no, .no, .no, .no, .no]) (sd_asg (i := 2) nd (pd_m1 F.slot_str_split F.type_str_split mt_split rm_split (pd_var 1) pd_str)) (fun _ => rfl)) fun d3 =>
  (bd_cons (S := Unit) (e1 := fun s4 => [.dat p0, .dat p1, .dat d3, .no, .no, .no, .no, .no, .no, .no]) (sd_if (td_w (wd_and (td_cmp op_eq rd_eqS (pd_ix (pd_var 0) pd_int) pd_str) (wd_and1 (td_cmp op_eq rd_eqS (pd_ix (pd_var 2) pd_int) pd_str)))) (bd_cons (S := Unit) (e1 := fun s5 => [.dat p0, .dat p1, .dat d3, .no, .no, .no, .no, .no, .no, .no]) (sd_if (td_cmp op_gt rd_gt (pd_blt (id := "len") call_len rc_len B.len (ad_cons (pd_var 2) ad_nil)) pd_int) (bd_one (sd_raise (c := .text) r_text (hr.mono (by decide)) tk (ad_cons pd_int (ad_cons pd_int ad_nil)))) (bd_nil (s := ()) (e := fun s5 => [.dat p0, .dat p1, .dat d3, .no, .no, .no, .no, .no, .no, .no]) ⟨.inr rfl, ⟨.inr rfl, ⟨.inr rfl, ⟨.inr rfl, ⟨.inr rfl, ⟨.inr rfl, ⟨.inr rfl, ⟨.inr rfl, ⟨.inr rfl, ⟨.inr rfl, trivial⟩⟩⟩⟩⟩⟩⟩⟩⟩⟩)) fun s5 =>
  (bd_one (sd_ret (ρ' := [.dat p0, .dat p1, .dat d3, .no, .no, .no, .no, .no, .no, .no]) pd_non))) (bd_nil (s := ()) (e := fun s4 => [.dat p0, .dat p1, .dat d3, .no, .no, .no, .no, .no, .no, .no]) ⟨.inr rfl, ⟨.inr rfl, ⟨.inr rfl, ⟨.inr rfl, ⟨.inr rfl, ⟨.inr rfl, ⟨.inr rfl, ⟨.inr rfl, ⟨.inr rfl, ⟨.inr rfl, trivial⟩⟩⟩⟩⟩⟩⟩⟩⟩⟩)) fun s4 =>
  (bd_cons (sd_as (e2 := fun d6 => [.dat p0, .dat p1, .dat d3, .dat d6, .no, .no, .no, .no, .no, .no]) (sd_asg (i := 3) nd (pd_fn c_figures_due (hr.mono (by decide)) (ad_cons (pd_var 0) ad_nil))) (fun _ => rfl)) fun d6 =>
  (bd_cons (sd_as (e2 := fun l7 => [.dat p0, .dat p1, .dat d3, .dat d6, .own l7, .no, .no, .no, .no, .no]) (sd_own (i := 4) nd ad_nil) (fun _ => rfl)) fun l7 =>
  (bd_cons (sd_as (e2 := fun s14 => [.dat p0, .dat p1, .dat d3, .dat d6, .own s14, .no, .no, .no, .no, .no]) (sd_for2 (S := List PyData) (i := 5) (j := 6) (s0 := l7) (emb := fun s8 => [.dat p0, .dat p1, .dat d3, .dat d6, .own s8, .no, .no, .no, .no, .no]) (ρb := fun s8 x9 x10 => [.dat p0, .dat p1, .dat d3, .dat d6, .own s8, .dat x9, .dat x10, .no, .no, .no]) nd hp (id_enum B.enumerate (ad_cons (pd_var 2) ad_nil)) ⟨.inr rfl, ⟨.inr rfl, ⟨.inr rfl, ⟨.inr rfl, ⟨.inr rfl, ⟨.inr rfl, ⟨.inr rfl, ⟨.inr rfl, ⟨.inr rfl, ⟨.inr rfl, trivial⟩⟩⟩⟩⟩⟩⟩⟩⟩⟩ (fun _ _ _ => rfl) fun s8 x9 x10 =>
  (bd_cons (sd_as (e2 := fun d11 => [.dat p0, .dat p1, .dat d3, .dat d6, .own s8, .dat x9, .dat x10, .dat d11, .no, .no]) (sd_asg (i := 7) nd (pd_fn c_a_integer_read (hr.mono (by decide)) (ad_cons (pd_var 6) ad_nil))) (fun _ => rfl)) fun d11 =>
  (bd_cons (S := Unit) (e1 := fun s12 => [.dat p0, .dat p1, .dat d3, .dat d6, .own s8, .dat x9, .dat x10, .dat d11, .no, .no]) (sd_if (td_un (ρ' := [.dat p0, .dat p1, .dat d3, .dat d6, .dat (.list s8), .dat x9, .dat x10, .dat d11, .no, .no]) (td_w (wd_or (td_cmp op_ge rd_ge (pd_var 5) (pd_var 3)) (wd_or (td_cmp op_isN rd_isN (pd_var 7) pd_non) (wd_or1 (td_not (td_val (pd_fn c_can_stand (hr.mono (by decide)) (ad_cons (pd_var 0) (ad_cons (pd_var 4) (ad_cons (pd_var 7) ad_nil))))))))))) (bd_one (sd_raise (c := .text) r_text (hr.mono (by decide)) tk (ad_cons pd_int (ad_cons (pd_var 5) ad_nil)))) (bd_nil (s := ()) (e := fun s12 => [.dat p0, .dat p1, .dat d3, .dat d6, .own s8, .dat x9, .dat x10, .dat d11, .no, .no]) ⟨.inr rfl, ⟨.inr rfl, ⟨.inr rfl, ⟨.inr rfl, ⟨.inr rfl, ⟨.inr rfl, ⟨.inr rfl, ⟨.inr rfl, ⟨.inr rfl, ⟨.inr rfl, trivial⟩⟩⟩⟩⟩⟩⟩⟩⟩⟩)) fun s12 =>
  (bd_cons (sd_as (e2 := fun l13 => [.dat p0, .dat p1, .dat d3, .dat d6, .own l13, .dat x9, .dat x10, .dat d11, .no, .no]) (sd_app (i := 4) (pd_var 7)) (fun _ => rfl)) fun l13 =>
  (bd_nil (s := l13) (e := fun s8 => [.dat p0, .dat p1, .dat d3, .dat d6, .own s8, .no, .no, .no, .no, .no]) ⟨.inr rfl, ⟨.inr rfl, ⟨.inr rfl, ⟨.inr rfl, ⟨.inr rfl, ⟨.inl rfl, ⟨.inl rfl, ⟨.inl rfl, ⟨.inr rfl, ⟨.inr rfl, trivial⟩⟩⟩⟩⟩⟩⟩⟩⟩⟩))))) (fun _ => rfl)) fun s14 =>
  (bd_cons (S := Unit) (e1 := fun s15 => [.dat p0, .dat p1, .dat d3, .dat d6, .own s14, .no, .no, .no, .no, .no]) (sd_if (td_un (ρ' := [.dat p0, .dat p1, .dat d3, .dat d6, .dat (.list s14), .no, .no, .no, .no, .no]) (td_cmp op_lt rd_lt (pd_blt (id := "len") call_len rc_len B.len (ad_cons (pd_var 4) ad_nil)) (pd_var 3))) (bd_one (sd_raise (c := .text) r_text (hr.mono (by decide)) tk (ad_cons pd_int (ad_cons (pd_blt (id := "len") call_len rc_len B.len (ad_cons (pd_var 2) ad_nil)) ad_nil)))) (bd_nil (s := ()) (e := fun s15 => [.dat p0, .dat p1, .dat d3, .dat d6, .own s14, .no, .no, .no, .no, .no]) ⟨.inr rfl, ⟨.inr rfl, ⟨.inr rfl, ⟨.inr rfl, ⟨.inr rfl, ⟨.inr rfl, ⟨.inr rfl, ⟨.inr rfl, ⟨.inr rfl, ⟨.inr rfl, trivial⟩⟩⟩⟩⟩⟩⟩⟩⟩⟩)) fun s15 =>
  (bd_cons (S := Unit) (e1 := fun s16 => [.dat p0, .dat p1, .dat d3, .dat d6, .own s14, .no, .no, .no, .no, .no]) (sd_if (td_cmp op_eq rd_eqS (pd_ix (pd_var 0) pd_int) pd_str) (bd_cons (sd_as (e2 := fun d17 => [.dat p0, .dat p1, .dat d3, .dat d6, .own s14, .no, .no, .no, .dat d17, .no]) (sd_asg (i := 8) nd (pd_ix (pd_var 0) pd_int)) (fun _ => rfl)) fun d17 =>
  (bd_one (sd_ret (ρ' := [.dat p0, .dat p1, .dat d3, .dat d6, .dat (.list s14), .no, .no, .no, .dat d17, .no]) (pd_ty (T := "tuple") call_tuple_of rc_tup B.tuple (ad_cons (pd_lcZ (own := [("row", 9)]) (j := 9) (ρw := [.dat p0, .dat p1, .dat d3, .dat d6, .dat (.list s14), .no, .no, .no, .dat d17, .no]) (ρb := fun x18 => [.dat p0, .dat p1, .dat d3, .dat d6, .dat (.list s14), .no, .no, .no, .dat d17, .dat x18]) nd (id_rng1 B.range (ad_cons (pd_var 8) ad_nil)) (blkOk_by rfl) rfl rfl (fun _ => rfl) (fun x18 => (pd_ty (T := "tuple") call_tuple_of rc_tup B.tuple (ad_cons (pd_slice sl_list rs_L (pd_var 4) (od_some (pd_op op_mul rd_mul (pd_var 9) (pd_var 8))) (od_some (pd_op op_mul rd_mul (pd_op op_add rd_add (pd_var 9) pd_int) (pd_var 8)))) ad_nil))) (fun _ _ _ _ _ x18 => (pd_ty (T := "tuple") call_tuple_of rc_tup B.tuple (ad_cons (pd_slice sl_list rs_L (pd_var 4) (od_some (pd_op op_mul rd_mul (pd_var 9) (pd_var 8))) (od_some (pd_op op_mul rd_mul (pd_op op_add rd_add (pd_var 9) pd_int) (pd_var 8)))) ad_nil))) (hg := fun _ _ _ _ _ => pg_name nd rfl (Or.inl rfl))) ad_nil))))) (bd_nil (s := ()) (e := fun s16 => [.dat p0, .dat p1, .dat d3, .dat d6, .own s14, .no, .no, .no, .no, .no]) ⟨.inr rfl, ⟨.inr rfl, ⟨.inr rfl, ⟨.inr rfl, ⟨.inr rfl, ⟨.inr rfl, ⟨.inr rfl, ⟨.inr rfl, ⟨.inr rfl, ⟨.inr rfl, trivial⟩⟩⟩⟩⟩⟩⟩⟩⟩⟩)) fun s16 =>
  (bd_cons (S := Unit) (e1 := fun s19 => [.dat p0, .dat p1, .dat d3, .dat d6, .own s14, .no, .no, .no, .no, .no]) (sd_if (td_cmp op_in_seq rd_inT (pd_ix (pd_var 0) pd_int) (pd_tup (ad_cons pd_str (ad_cons pd_str (ad_cons pd_str (ad_cons pd_str ad_nil)))))) (bd_one (sd_ret (ρ' := [.dat p0, .dat p1, .dat d3, .dat d6, .dat (.list s14), .no, .no, .no, .no, .no]) (pd_ty (T := "tuple") call_tuple_of rc_tup B.tuple (ad_cons (pd_var 4) ad_nil)))) (bd_nil (s := ()) (e := fun s19 => [.dat p0, .dat p1, .dat d3, .dat d6, .own s14, .no, .no, .no, .no, .no]) ⟨.inr rfl, ⟨.inr rfl, ⟨.inr rfl, ⟨.inr rfl, ⟨.inr rfl, ⟨.inr rfl, ⟨.inr rfl, ⟨.inr rfl, ⟨.inr rfl, ⟨.inr rfl, trivial⟩⟩⟩⟩⟩⟩⟩⟩⟩⟩)) fun s19 =>
  (bd_one (sd_ret (ρ' := [.dat p0, .dat p1, .dat d3, .dat d6, .dat (.list s14), .no, .no, .no, .no, .no]) (pd_ix (pd_var 4) pd_int)))))))))))))⟩

end UT
end
section
set_option Elab.async false
set_option linter.all false
set_option maxRecDepth 100000
set_option maxHeartbeats 4000000
namespace UT
open PySem PySem.Spec PyProof.Rows L2
theorem sc_value_line : FnScope ["operation", "value", "number", "row"] ["operation", "value"] (defScope st_value_line) := ⟨rfl, rfl, rfl, by decide +kernel, rfl, by decide +kernel, by decide +kernel⟩
theorem ok_value_line {P : Program} {w : World} {K : PySem.W.Frag} {mg : Str → Option Value} {base : Heap} {f : Addr} {fd : FuncData} (Fn : FnP K "value_line" "value_line" st_value_line f fd) (B : Blt mg) (c_a_fits : Cal P w K mg base "a_fits" 4 2 F_a_fits) (c_is_operation : Cal P w K mg base "is_operation" 2 1 F_is_operation) (r_usable : RaC P w K mg base .usable 1) :
    FnOk P w K mg base (L2.CX P w) 5 f fd ["operation", "value"] (SpF K F_value_line 2) := by
  refine fnF Fn sc_value_line rfl fun cdv A outer s H E hr ds hl => ?_
  match ds, hl with
  | [p0, p1], _ =>
    have nd := sc_value_line.nd
    have tk : Takes (cxOf (L2.CX P w) P w K mg base ["operation", "value", "number", "row"] "value_line" (defScope st_value_line) f cdv A outer s H E) (fun cls d _ H => E cls d H) := takes_of rfl rfl rfl rfl
    exact ⟨Unit, _, false, m_value_line p0 p1, fun _ => [], rfl, by
    unfold m_value_line
    exact (bd_cons (S := Unit) (e1 := fun s1 => [.dat p0, .dat p1, .no, .no]) (sd_if (td_not (td_val (pd_fn c_is_operation (hr.mono (by decide)) (ad_cons (pd_var 0) ad_nil)))) (bd_one (sd_raise (c := .usable) r_usable (hr.mono (by decide)) tk (ad_cons pd_str (ad_cons (pd_neg pd_int) ad_nil)))) (bd_nil (s := ()) (e := fun s1 => [.dat p0, .dat p1, .no, .no]) ⟨.inr rfl, ⟨.inr rfl, ⟨.inr rfl, ⟨.inr rfl, trivial⟩⟩⟩⟩)) fun s1 =>
  (bd_cons (S := Unit) (e1 := fun s2 => [.dat p0, .dat p1, .no, .no]) (sd_if (td_not (td_val (pd_fn c_a_fits (hr.mono (by decide)) (ad_cons (pd_var 0) (ad_cons (pd_var 1) ad_nil))))) (bd_one (sd_raise (c := .usable) r_usable (hr.mono (by decide)) tk (ad_cons pd_str (ad_cons (pd_neg pd_int) ad_nil)))) (bd_nil (s := ()) (e := fun s2 => [.dat p0, .dat p1, .no, .no]) ⟨.inr rfl, ⟨.inr rfl, ⟨.inr rfl, ⟨.inr rfl, trivial⟩⟩⟩⟩)) fun s2 =>
  (bd_cons (S := Unit) (e1 := fun s3 => [.dat p0, .dat p1, .no, .no]) (sd_if (td_cmp op_isN rd_isN (pd_var 1) pd_non) (bd_one (sd_ret (ρ' := [.dat p0, .dat p1, .no, .no]) pd_str)) (bd_nil (s := ()) (e := fun s3 => [.dat p0, .dat p1, .no, .no]) ⟨.inr rfl, ⟨.inr rfl, ⟨.inr rfl, ⟨.inr rfl, trivial⟩⟩⟩⟩)) fun s3 =>
  (bd_cons (S := Unit) (e1 := fun s4 => [.dat p0, .dat p1, .no, .no]) (sd_if (td_not (td_val (pd_isi (T := "tuple") (Tn := "tuple") (pd_var 1) B.isinstance B.tuple))) (bd_one (sd_ret (ρ' := [.dat p0, .dat p1, .no, .no]) (pd_ty (T := "str") call_strE rc_str B.str (ad_cons (pd_var 1) ad_nil)))) (bd_nil (s := ()) (e := fun s4 => [.dat p0, .dat p1, .no, .no]) ⟨.inr rfl, ⟨.inr rfl, ⟨.inr rfl, ⟨.inr rfl, trivial⟩⟩⟩⟩)) fun s4 =>
  (bd_cons (S := Unit) (e1 := fun s5 => [.dat p0, .dat p1, .no, .no]) (sd_if (td_cmp op_eq rd_eqS (pd_ix (pd_var 0) pd_int) pd_str) (bd_one (sd_ret (ρ' := [.dat p0, .dat p1, .no, .no]) (pd_m1 F.slot_str_join F.type_str_join mt_join rm_join pd_str (pd_lccZ (own := [("row", 3), ("number", 2)]) (vs1 := [2]) (i := 3) (j := 2) (ρw := [.dat p0, .dat p1, .no, .no]) (ρ1 := fun x6 => [.dat p0, .dat p1, .no, .dat x6]) (ρ2 := fun x6 y7 => [.dat p0, .dat p1, .dat y7, .dat x6]) nd (id_tup (pd_var 1)) (blkOk_by rfl) (fun x6 => (id_tup (pd_var 3))) (fun _ _ _ _ _ x6 => (id_tup (pd_var 3))) (fun x6 y7 => (pd_ty (T := "str") call_strE rc_str B.str (ad_cons (pd_var 2) ad_nil))) (fun _ _ _ _ _ x6 y7 => (pd_ty (T := "str") call_strE rc_str B.str (ad_cons (pd_var 2) ad_nil))) (hg := fun _ _ _ _ _ => pg_name nd rfl (Or.inl rfl)) (hg1 := fun _ _ _ _ _ => pg_name nd rfl (Or.inl rfl)))))) (bd_nil (s := ()) (e := fun s5 => [.dat p0, .dat p1, .no, .no]) ⟨.inr rfl, ⟨.inr rfl, ⟨.inr rfl, ⟨.inr rfl, trivial⟩⟩⟩⟩)) fun s5 =>
  (bd_one (sd_ret (ρ' := [.dat p0, .dat p1, .no, .no]) (pd_m1 F.slot_str_join F.type_str_join mt_join rm_join pd_str (pd_lcZ (own := [("number", 2)]) (j := 2) (ρw := [.dat p0, .dat p1, .no, .no]) (ρb := fun x8 => [.dat p0, .dat p1, .dat x8, .no]) nd (id_tup (pd_var 1)) (blkOk_by rfl) rfl rfl (fun _ => rfl) (fun x8 => (pd_ty (T := "str") call_strE rc_str B.str (ad_cons (pd_var 2) ad_nil))) (fun _ _ _ _ _ x8 => (pd_ty (T := "str") call_strE rc_str B.str (ad_cons (pd_var 2) ad_nil))) (hg := fun _ _ _ _ _ => pg_name nd rfl (Or.inl rfl)))))))))))⟩

end UT
end
section
set_option Elab.async false
set_option linter.all false
set_option maxRecDepth 100000
set_option maxHeartbeats 8000000
/-! the parts joined: the law's def keeps its promise -/
namespace UT
open PySem PySem.Spec PyProof.Rows L2
theorem ok_sameN0 {P : Program} {w : World} {K : PySem.W.Frag} {mg : Str → Option Value} {base : Heap} {k : Nat} (f : Addr) (fd : FuncData) : FnOk P w K mg base (L2.CX P w) k f fd ["_law_got", "_law_due_here"] (SpF K (F_law_sameN 0) 2) :=
  ⟨fun vs H Q E h => by
    obtain ⟨ds, r, h1, h2, h3, _⟩ := h
    rw [h1.len, h2]; rfl, fun A outer s H args us vs Q E _ _ _ _ h => by
    obtain ⟨ds, r, h1, h2, h3, _⟩ := h
    cases h3⟩
theorem opW_of {w : World} {K : PySem.W.Frag} {mg : Str → Option Value} (c : He.SaysT faL fnL tabL w K) (m : mg "OPERATION_WORDS" = some (.ref (He.ga K "OPERATION_WORDS"))) (v : He.valsB K (He.ga K "OPERATION_WORDS") (opW.map fun q => (q.1, .int q.2)) = true) : OpW w K mg := by
  refine ⟨m, ?_, fun q hq => ?_⟩
  · have e : tabL.map (fun t => He.dicW K (t.1 K)) = tabL.map fun t => some (He.keysIn w.params t.2) := congrArg (fun z : He.AlT => z.2) c
    have e2 : He.dicW K (He.ga K "OPERATION_WORDS") = some (He.keysIn w.params (opW.map (·.1))) := by
      have := congrArg (fun l => l[0]?) e
      exact Option.some.inj this
    obtain ⟨es, n, hk⟩ := He.dicW_ok e2
    refine ⟨es, n, hk, ?_⟩
    unfold He.dicW at e2
    rw [hk.at_] at e2
    dsimp only at e2
    split at e2
    · exact Option.some.inj e2
    · cases e2
  · obtain ⟨u, h1, h2⟩ := He.valsB_ok v (q := (q.1, .int q.2)) (List.mem_map.mpr ⟨q, hq, rfl⟩)
    exact ⟨u, h1, h2⟩
theorem facts {P : Program} {w : World} {K : PySem.W.Frag} {h : Heap} {mg : Str → Option Value} {f : Addr} (X : K.In h) (G : h.Ns mainGlobals mg) (hfa : mg ("law" : Str) = some (.ref f)) (c : He.SaysX faL fnL tabL [] exB w h K) :
    ∃ fd : FuncData, (∀ (s : Shared) (v : Value), BindsTo s fd ⟨[v], []⟩ [("_law_script", v)]) ∧ ∀ base : Heap, K.In base → base.Ns mainGlobals mg → FnOk P w K mg base (L2.CX P w) 10 f fd ["_law_script"] (SpF K F_law 1) := by
  have A := exAll_of c.more
  have d := c.t.d
  have g_is_integer := He.glo_ok X G (d.fact 0 (f := .glo "is_integer") rfl)
  have g_is_number := He.glo_ok X G (d.fact 1 (f := .glo "is_number") rfl)
  have g_is_stretch := He.glo_ok X G (d.fact 2 (f := .glo "is_stretch") rfl)
  have g_is_asks := He.glo_ok X G (d.fact 3 (f := .glo "is_asks") rfl)
  have g_is_row := He.glo_ok X G (d.fact 4 (f := .glo "_is_row") rfl)
  have g_a_fits := He.glo_ok X G (d.fact 5 (f := .glo "a_fits") rfl)
  have g_a_number_read := He.glo_ok X G (d.fact 6 (f := .glo "a_number_read") rfl)
  have g_a_integer_read := He.glo_ok X G (d.fact 7 (f := .glo "a_integer_read") rfl)
  have g_lets_history := He.glo_ok X G (d.fact 8 (f := .glo "lets_history") rfl)
  have g_is_history := He.glo_ok X G (d.fact 9 (f := .glo "is_history") rfl)
  have g_is_move := He.glo_ok X G (d.fact 10 (f := .glo "_is_move") rfl)
  have g_asks_line := He.glo_ok X G (d.fact 11 (f := .glo "asks_line") rfl)
  have g_history_line := He.glo_ok X G (d.fact 12 (f := .glo "history_line") rfl)
  have g_read_asks := He.glo_ok X G (d.fact 13 (f := .glo "read_asks") rfl)
  have g_read_history := He.glo_ok X G (d.fact 14 (f := .glo "read_history") rfl)
  have g_parts_of := He.glo_ok X G (d.fact 15 (f := .glo "_parts_of") rfl)
  have g_stretch_read := He.glo_ok X G (d.fact 16 (f := .glo "_stretch_read") rfl)
  have g_event_read := He.glo_ok X G (d.fact 17 (f := .glo "_event_read") rfl)
  have g_is_operation := He.glo_ok X G (d.fact 18 (f := .glo "is_operation") rfl)
  have g_operation_line := He.glo_ok X G (d.fact 19 (f := .glo "operation_line") rfl)
  have g_value_line := He.glo_ok X G (d.fact 20 (f := .glo "value_line") rfl)
  have g_read_operation := He.glo_ok X G (d.fact 21 (f := .glo "read_operation") rfl)
  have g_read_value := He.glo_ok X G (d.fact 22 (f := .glo "read_value") rfl)
  have g_figures_due := He.glo_ok X G (d.fact 23 (f := .glo "_figures_due") rfl)
  have g_can_stand := He.glo_ok X G (d.fact 24 (f := .glo "_can_stand") rfl)
  have g_law_nums := He.glo_ok X G (d.fact 25 (f := .glo "_law_nums") rfl)
  have g_law_int := He.glo_ok X G (d.fact 26 (f := .glo "_law_int") rfl)
  have g_law_same := He.glo_ok X G (d.fact 27 (f := .glo "_law_same") rfl)
  have g_law_operation := He.glo_ok X G (d.fact 28 (f := .glo "_law_operation") rfl)
  have g_law_number := He.glo_ok X G (d.fact 29 (f := .glo "_law_number") rfl)
  have g_law_value := He.glo_ok X G (d.fact 30 (f := .glo "_law_value") rfl)
  have g_law_need := He.glo_ok X G (d.fact 31 (f := .glo "_law_need") rfl)
  have g_law_figures := He.glo_ok X G (d.fact 32 (f := .glo "_law_figures") rfl)
  have g_law_no := He.glo_ok X G (d.fact 33 (f := .glo "_law_no") rfl)
  have g_law_operation_due := He.glo_ok X G (d.fact 34 (f := .glo "_law_operation_due") rfl)
  have g_law_many := He.glo_ok X G (d.fact 35 (f := .glo "_law_many") rfl)
  have g_law_value_due := He.glo_ok X G (d.fact 36 (f := .glo "_law_value_due") rfl)
  have g_law_value_line := He.glo_ok X G (d.fact 37 (f := .glo "_law_value_line") rfl)
  have g_law_events := He.glo_ok X G (d.fact 38 (f := .glo "_law_events") rfl)
  have g_law_row := He.glo_ok X G (d.fact 39 (f := .glo "_law_row") rfl)
  have g_law_asks_line := He.glo_ok X G (d.fact 40 (f := .glo "_law_asks_line") rfl)
  have g_law_history_line := He.glo_ok X G (d.fact 41 (f := .glo "_law_history_line") rfl)
  have g_law_asks_due := He.glo_ok X G (d.fact 42 (f := .glo "_law_asks_due") rfl)
  have g_law_history_due := He.glo_ok X G (d.fact 43 (f := .glo "_law_history_due") rfl)
  have g_law_due := He.glo_ok X G (d.fact 44 (f := .glo "_law_due") rfl)
  have g_law_call := He.glo_ok X G (d.fact 45 (f := .glo "_law_call") rfl)
  have g_law_words := He.glo_ok X G (d.fact 46 (f := .glo "_law_words") rfl)
  have g_law_spoilt := He.glo_ok X G (d.fact 47 (f := .glo "_law_spoilt") rfl)
  have g_law_lines := He.glo_ok X G (d.fact 48 (f := .glo "_law_lines") rfl)
  have g_law_odds := He.glo_ok X G (d.fact 49 (f := .glo "_law_odds") rfl)
  have g_law := He.glo_ok X G (d.fact 50 (f := .glo "law") rfl)
  have g_UnderError := He.glo_ok X G (d.fact 51 (f := .glo "UnderError") rfl)
  have g_PaperError := He.glo_ok X G (d.fact 52 (f := .glo "PaperError") rfl)
  have g_AskError := He.glo_ok X G (d.fact 53 (f := .glo "AskError") rfl)
  have g_TextError := He.glo_ok X G (d.fact 54 (f := .glo "TextError") rfl)
  have g_InvalidPaper := He.glo_ok X G (d.fact 55 (f := .glo "InvalidPaper") rfl)
  have g_NotUsable := He.glo_ok X G (d.fact 56 (f := .glo "NotUsable") rfl)
  have g_InvalidText := He.glo_ok X G (d.fact 57 (f := .glo "InvalidText") rfl)
  have g_OPERATION_WORDS := He.glo_ok X G (d.fact 58 (f := .glo "OPERATION_WORDS") rfl)
  have b_isinstance := He.free_ok X G (d.fact 59 (f := .free "isinstance") rfl)
  have b_int := He.free_ok X G (d.fact 60 (f := .free "int") rfl)
  have b_bool := He.free_ok X G (d.fact 61 (f := .free "bool") rfl)
  have b_tuple := He.free_ok X G (d.fact 62 (f := .free "tuple") rfl)
  have b_str := He.free_ok X G (d.fact 63 (f := .free "str") rfl)
  have b_len := He.free_ok X G (d.fact 64 (f := .free "len") rfl)
  have b_all := He.free_ok X G (d.fact 65 (f := .free "all") rfl)
  have b_enumerate := He.free_ok X G (d.fact 66 (f := .free "enumerate") rfl)
  have b_range := He.free_ok X G (d.fact 67 (f := .free "range") rfl)
  have b_min := He.free_ok X G (d.fact 68 (f := .free "min") rfl)
  have b_sorted := He.free_ok X G (d.fact 69 (f := .free "sorted") rfl)
  have b_list := He.free_ok X G (d.fact 70 (f := .free "list") rfl)
  have b_ValueError := He.free_ok X G (d.fact 71 (f := .free "ValueError") rfl)
  have B : Blt mg := ⟨b_isinstance, b_int, b_bool, b_tuple, b_str, b_len, b_all, b_enumerate, b_range, b_min, b_sorted, b_list⟩
  obtain ⟨fd_is_integer, D_is_integer⟩ := d.def_ 0 (d := dfn "is_integer" st_is_integer) rfl
  obtain ⟨fd_is_number, D_is_number⟩ := d.def_ 1 (d := dfn "is_number" st_is_number) rfl
  obtain ⟨fd_is_stretch, D_is_stretch⟩ := d.def_ 2 (d := dfn "is_stretch" st_is_stretch) rfl
  obtain ⟨fd_is_asks, D_is_asks⟩ := d.def_ 3 (d := dfn "is_asks" st_is_asks) rfl
  obtain ⟨fd_is_row, D_is_row⟩ := d.def_ 4 (d := dfn "_is_row" st_is_row) rfl
  obtain ⟨fd_a_fits, D_a_fits⟩ := d.def_ 5 (d := dfn "a_fits" st_a_fits) rfl
  obtain ⟨fd_a_number_read, D_a_number_read⟩ := d.def_ 6 (d := dfn "a_number_read" st_a_number_read) rfl
  obtain ⟨fd_a_integer_read, D_a_integer_read⟩ := d.def_ 7 (d := dfn "a_integer_read" st_a_integer_read) rfl
  obtain ⟨fd_lets_history, D_lets_history⟩ := d.def_ 8 (d := dfn "lets_history" st_lets_history) rfl
  obtain ⟨fd_is_history, D_is_history⟩ := d.def_ 9 (d := dfn "is_history" st_is_history) rfl
  obtain ⟨fd_is_move, D_is_move⟩ := d.def_ 10 (d := dfn "_is_move" st_is_move) rfl
  obtain ⟨fd_asks_line, D_asks_line⟩ := d.def_ 11 (d := dfn "asks_line" st_asks_line) rfl
  obtain ⟨fd_history_line, D_history_line⟩ := d.def_ 12 (d := dfn "history_line" st_history_line) rfl
  obtain ⟨fd_read_asks, D_read_asks⟩ := d.def_ 13 (d := dfn "read_asks" st_read_asks) rfl
  obtain ⟨fd_read_history, D_read_history⟩ := d.def_ 14 (d := dfn "read_history" st_read_history) rfl
  obtain ⟨fd_parts_of, D_parts_of⟩ := d.def_ 15 (d := dfn "_parts_of" st_parts_of) rfl
  obtain ⟨fd_stretch_read, D_stretch_read⟩ := d.def_ 16 (d := dfn "_stretch_read" st_stretch_read) rfl
  obtain ⟨fd_event_read, D_event_read⟩ := d.def_ 17 (d := dfn "_event_read" st_event_read) rfl
  obtain ⟨fd_is_operation, D_is_operation⟩ := d.def_ 18 (d := dfn "is_operation" st_is_operation) rfl
  obtain ⟨fd_operation_line, D_operation_line⟩ := d.def_ 19 (d := dfn "operation_line" st_operation_line) rfl
  obtain ⟨fd_value_line, D_value_line⟩ := d.def_ 20 (d := dfn "value_line" st_value_line) rfl
  obtain ⟨fd_read_operation, D_read_operation⟩ := d.def_ 21 (d := dfn "read_operation" st_read_operation) rfl
  obtain ⟨fd_read_value, D_read_value⟩ := d.def_ 22 (d := dfn "read_value" st_read_value) rfl
  obtain ⟨fd_figures_due, D_figures_due⟩ := d.def_ 23 (d := dfn "_figures_due" st_figures_due) rfl
  obtain ⟨fd_can_stand, D_can_stand⟩ := d.def_ 24 (d := dfn "_can_stand" st_can_stand) rfl
  obtain ⟨fd_law_nums, D_law_nums⟩ := d.def_ 25 (d := dfn "_law_nums" st_law_nums) rfl
  obtain ⟨fd_law_int, D_law_int⟩ := d.def_ 26 (d := dfn "_law_int" st_law_int) rfl
  obtain ⟨fd_law_same, D_law_same⟩ := d.def_ 27 (d := dfn "_law_same" st_law_same) rfl
  obtain ⟨fd_law_operation, D_law_operation⟩ := d.def_ 28 (d := dfn "_law_operation" st_law_operation) rfl
  obtain ⟨fd_law_number, D_law_number⟩ := d.def_ 29 (d := dfn "_law_number" st_law_number) rfl
  obtain ⟨fd_law_value, D_law_value⟩ := d.def_ 30 (d := dfn "_law_value" st_law_value) rfl
  obtain ⟨fd_law_need, D_law_need⟩ := d.def_ 31 (d := dfn "_law_need" st_law_need) rfl
  obtain ⟨fd_law_figures, D_law_figures⟩ := d.def_ 32 (d := dfn "_law_figures" st_law_figures) rfl
  obtain ⟨fd_law_no, D_law_no⟩ := d.def_ 33 (d := dfn "_law_no" st_law_no) rfl
  obtain ⟨fd_law_operation_due, D_law_operation_due⟩ := d.def_ 34 (d := dfn "_law_operation_due" st_law_operation_due) rfl
  obtain ⟨fd_law_many, D_law_many⟩ := d.def_ 35 (d := dfn "_law_many" st_law_many) rfl
  obtain ⟨fd_law_value_due, D_law_value_due⟩ := d.def_ 36 (d := dfn "_law_value_due" st_law_value_due) rfl
  obtain ⟨fd_law_value_line, D_law_value_line⟩ := d.def_ 37 (d := dfn "_law_value_line" st_law_value_line) rfl
  obtain ⟨fd_law_events, D_law_events⟩ := d.def_ 38 (d := dfn "_law_events" st_law_events) rfl
  obtain ⟨fd_law_row, D_law_row⟩ := d.def_ 39 (d := dfn "_law_row" st_law_row) rfl
  obtain ⟨fd_law_asks_line, D_law_asks_line⟩ := d.def_ 40 (d := dfn "_law_asks_line" st_law_asks_line) rfl
  obtain ⟨fd_law_history_line, D_law_history_line⟩ := d.def_ 41 (d := dfn "_law_history_line" st_law_history_line) rfl
  obtain ⟨fd_law_asks_due, D_law_asks_due⟩ := d.def_ 42 (d := dfn "_law_asks_due" st_law_asks_due) rfl
  obtain ⟨fd_law_history_due, D_law_history_due⟩ := d.def_ 43 (d := dfn "_law_history_due" st_law_history_due) rfl
  obtain ⟨fd_law_due, D_law_due⟩ := d.def_ 44 (d := dfn "_law_due" st_law_due) rfl
  obtain ⟨fd_law_call, D_law_call⟩ := d.def_ 45 (d := dfn "_law_call" st_law_call) rfl
  obtain ⟨fd_law_words, D_law_words⟩ := d.def_ 46 (d := dfn "_law_words" st_law_words) rfl
  obtain ⟨fd_law_spoilt, D_law_spoilt⟩ := d.def_ 47 (d := dfn "_law_spoilt" st_law_spoilt) rfl
  obtain ⟨fd_law_lines, D_law_lines⟩ := d.def_ 48 (d := dfn "_law_lines" st_law_lines) rfl
  obtain ⟨fd_law_odds, D_law_odds⟩ := d.def_ 49 (d := dfn "_law_odds" st_law_odds) rfl
  obtain ⟨fd_law, D_law⟩ := d.def_ 50 (d := dfn "law" st_law) rfl
  obtain ⟨fd_InvalidPaper, D_InvalidPaper⟩ := d.def_ 51 (d := dini "InvalidPaper" "InvalidPaper.__init__" st_InvalidPaper) rfl
  obtain ⟨fd_NotUsable, D_NotUsable⟩ := d.def_ 52 (d := dini "NotUsable" "NotUsable.__init__" st_NotUsable) rfl
  obtain ⟨fd_InvalidText, D_InvalidText⟩ := d.def_ 53 (d := dini "InvalidText" "InvalidText.__init__" st_InvalidText) rfl
  have e := hfa.symm.trans g_law
  cases e
  have bnd := FunD.bindsA (ps := ["_law_script"]) D_law fun _ _ _ _ _ _ us hl => match us, hl with | [_], _ => rfl
  refine ⟨fd_law, fun s v => bnd s [v] rfl, fun base _ _ => ?_⟩
  have r_usable : RaC P w K mg base .usable 1 := ra_usable A g_NotUsable D_NotUsable
  have r_paper : RaC P w K mg base .paper 1 := ra_paper A g_InvalidPaper D_InvalidPaper
  have r_text : RaC P w K mg base .text 1 := ra_text A g_InvalidText D_InvalidText
  have EX : ExF K mg := exF_of A g_InvalidPaper g_NotUsable g_InvalidText g_AskError g_TextError g_UnderError b_ValueError b_isinstance
  have T : OpW w K mg := opW_of c.t g_OPERATION_WORDS A.vals
  have bn_is_integer : Binds K fd_is_integer ["thing"] [] := D_is_integer.bindsN fun _ _ _ _ _ _ us hl => match us, hl with | [_], _ => rfl
  have F_is_integer_ok : FnOk P w K mg base (L2.CX P w) 1 _ fd_is_integer ["thing"] (SpF K F_is_integer 1) := ok_is_integer D_is_integer B
  have c_is_integer : Cal P w K mg base "is_integer" 1 1 F_is_integer := ⟨_, fd_is_integer, _, F_is_integer_ok, g_is_integer, D_is_integer.kp, bn_is_integer⟩
  have bn_is_number : Binds K fd_is_number ["thing"] [] := D_is_number.bindsN fun _ _ _ _ _ _ us hl => match us, hl with | [_], _ => rfl
  have F_is_number_ok : FnOk P w K mg base (L2.CX P w) 2 _ fd_is_number ["thing"] (SpF K F_is_number 1) := ok_is_number D_is_number B c_is_integer
  have c_is_number : Cal P w K mg base "is_number" 2 1 F_is_number := ⟨_, fd_is_number, _, F_is_number_ok, g_is_number, D_is_number.kp, bn_is_number⟩
  have bn_is_stretch : Binds K fd_is_stretch ["thing"] [] := D_is_stretch.bindsN fun _ _ _ _ _ _ us hl => match us, hl with | [_], _ => rfl
  have F_is_stretch_ok : FnOk P w K mg base (L2.CX P w) 3 _ fd_is_stretch ["thing"] (SpF K F_is_stretch 1) := ok_is_stretch D_is_stretch B c_is_number
  have c_is_stretch : Cal P w K mg base "is_stretch" 3 1 F_is_stretch := ⟨_, fd_is_stretch, _, F_is_stretch_ok, g_is_stretch, D_is_stretch.kp, bn_is_stretch⟩
  have bn_is_asks : Binds K fd_is_asks ["thing"] [] := D_is_asks.bindsN fun _ _ _ _ _ _ us hl => match us, hl with | [_], _ => rfl
  have F_is_asks_ok : FnOk P w K mg base (L2.CX P w) 4 _ fd_is_asks ["thing"] (SpF K F_is_asks 1) := ok_is_asks D_is_asks B c_is_stretch
  have c_is_asks : Cal P w K mg base "is_asks" 4 1 F_is_asks := ⟨_, fd_is_asks, _, F_is_asks_ok, g_is_asks, D_is_asks.kp, bn_is_asks⟩
  have bn_is_row : Binds K fd_is_row ["thing", "many", "top"] [] := D_is_row.bindsN fun _ _ _ _ _ _ us hl => match us, hl with | [_, _, _], _ => rfl
  have F_is_row_ok : FnOk P w K mg base (L2.CX P w) 3 _ fd_is_row ["thing", "many", "top"] (SpF K F_is_row 3) := ok_is_row D_is_row B c_is_number
  have c_is_row : Cal P w K mg base "_is_row" 3 3 F_is_row := ⟨_, fd_is_row, _, F_is_row_ok, g_is_row, D_is_row.kp, bn_is_row⟩
  have bn_a_fits : Binds K fd_a_fits ["operation", "thing"] [] := D_a_fits.bindsN fun _ _ _ _ _ _ us hl => match us, hl with | [_, _], _ => rfl
  have F_a_fits_ok : FnOk P w K mg base (L2.CX P w) 4 _ fd_a_fits ["operation", "thing"] (SpF K F_a_fits 2) := ok_a_fits D_a_fits B c_is_row c_is_integer c_is_number c_is_stretch
  have c_a_fits : Cal P w K mg base "a_fits" 4 2 F_a_fits := ⟨_, fd_a_fits, _, F_a_fits_ok, g_a_fits, D_a_fits.kp, bn_a_fits⟩
  have bn_a_number_read : Binds K fd_a_number_read ["part"] [] := D_a_number_read.bindsN fun _ _ _ _ _ _ us hl => match us, hl with | [_], _ => rfl
  have F_a_number_read_ok : FnOk P w K mg base (L2.CX P w) 1 _ fd_a_number_read ["part"] (SpF K F_a_number_read 1) := ok_a_number_read D_a_number_read B
  have c_a_number_read : Cal P w K mg base "a_number_read" 1 1 F_a_number_read := ⟨_, fd_a_number_read, _, F_a_number_read_ok, g_a_number_read, D_a_number_read.kp, bn_a_number_read⟩
  have bn_a_integer_read : Binds K fd_a_integer_read ["part"] [] := D_a_integer_read.bindsN fun _ _ _ _ _ _ us hl => match us, hl with | [_], _ => rfl
  have F_a_integer_read_ok : FnOk P w K mg base (L2.CX P w) 2 _ fd_a_integer_read ["part"] (SpF K F_a_integer_read 1) := ok_a_integer_read D_a_integer_read B c_a_number_read
  have c_a_integer_read : Cal P w K mg base "a_integer_read" 2 1 F_a_integer_read := ⟨_, fd_a_integer_read, _, F_a_integer_read_ok, g_a_integer_read, D_a_integer_read.kp, bn_a_integer_read⟩
  have bn_is_move : Binds K fd_is_move ["thing"] [] := D_is_move.bindsN fun _ _ _ _ _ _ us hl => match us, hl with | [_], _ => rfl
  have F_is_move_ok : FnOk P w K mg base (L2.CX P w) 2 _ fd_is_move ["thing"] (SpF K F_is_move 1) := ok_is_move D_is_move B c_is_integer
  have c_is_move : Cal P w K mg base "_is_move" 2 1 F_is_move := ⟨_, fd_is_move, _, F_is_move_ok, g_is_move, D_is_move.kp, bn_is_move⟩
  have bn_lets_history : Binds K fd_lets_history ["thing"] [] := D_lets_history.bindsN fun _ _ _ _ _ _ us hl => match us, hl with | [_], _ => rfl
  have F_lets_history_ok : FnOk P w K mg base (L2.CX P w) 3 _ fd_lets_history ["thing"] (SpF K F_lets_history 1) := ok_lets_history D_lets_history B c_is_move r_paper
  have c_lets_history : Cal P w K mg base "lets_history" 3 1 F_lets_history := ⟨_, fd_lets_history, _, F_lets_history_ok, g_lets_history, D_lets_history.kp, bn_lets_history⟩
  have bn_is_history : Binds K fd_is_history ["thing"] [] := D_is_history.bindsN fun _ _ _ _ _ _ us hl => match us, hl with | [_], _ => rfl
  have F_is_history_ok : FnOk P w K mg base (L2.CX P w) 4 _ fd_is_history ["thing"] (SpF K F_is_history 1) := ok_is_history D_is_history c_lets_history EX.e0 EX.m0
  have c_is_history : Cal P w K mg base "is_history" 4 1 F_is_history := ⟨_, fd_is_history, _, F_is_history_ok, g_is_history, D_is_history.kp, bn_is_history⟩
  have bn_asks_line : Binds K fd_asks_line ["asks"] [] := D_asks_line.bindsN fun _ _ _ _ _ _ us hl => match us, hl with | [_], _ => rfl
  have F_asks_line_ok : FnOk P w K mg base (L2.CX P w) 5 _ fd_asks_line ["asks"] (SpF K F_asks_line 1) := ok_asks_line D_asks_line B c_is_asks r_usable
  have c_asks_line : Cal P w K mg base "asks_line" 5 1 F_asks_line := ⟨_, fd_asks_line, _, F_asks_line_ok, g_asks_line, D_asks_line.kp, bn_asks_line⟩
  have k_asks_line : CalK P w K mg base "asks_line" 5 1 ["asks"] pmId F_asks_line := ⟨_, fd_asks_line, ["asks"], F_asks_line_ok, g_asks_line, D_asks_line.kp, kbn_of (ks := ["asks"]) (pm := pmId) D_asks_line (fun r => r) fun _ _ _ _ _ _ ws hl => match ws, hl with | [_], _ => rfl⟩
  have bn_history_line : Binds K fd_history_line ["history"] [] := D_history_line.bindsN fun _ _ _ _ _ _ us hl => match us, hl with | [_], _ => rfl
  have F_history_line_ok : FnOk P w K mg base (L2.CX P w) 5 _ fd_history_line ["history"] (SpF K F_history_line 1) := ok_history_line D_history_line B c_is_history r_usable
  have c_history_line : Cal P w K mg base "history_line" 5 1 F_history_line := ⟨_, fd_history_line, _, F_history_line_ok, g_history_line, D_history_line.kp, bn_history_line⟩
  have k_history_line : CalK P w K mg base "history_line" 5 1 ["history"] pmId F_history_line := ⟨_, fd_history_line, ["history"], F_history_line_ok, g_history_line, D_history_line.kp, kbn_of (ks := ["history"]) (pm := pmId) D_history_line (fun r => r) fun _ _ _ _ _ _ ws hl => match ws, hl with | [_], _ => rfl⟩
  have bn_parts_of : Binds K fd_parts_of ["text"] [] := D_parts_of.bindsN fun _ _ _ _ _ _ us hl => match us, hl with | [_], _ => rfl
  have F_parts_of_ok : FnOk P w K mg base (L2.CX P w) 3 _ fd_parts_of ["text"] (SpF K F_parts_of 1) := ok_parts_of D_parts_of B r_text r_usable
  have c_parts_of : Cal P w K mg base "_parts_of" 3 1 F_parts_of := ⟨_, fd_parts_of, _, F_parts_of_ok, g_parts_of, D_parts_of.kp, bn_parts_of⟩
  have bn_stretch_read : Binds K fd_stretch_read ["part"] [] := D_stretch_read.bindsN fun _ _ _ _ _ _ us hl => match us, hl with | [_], _ => rfl
  have F_stretch_read_ok : FnOk P w K mg base (L2.CX P w) 2 _ fd_stretch_read ["part"] (SpF K F_stretch_read 1) := ok_stretch_read D_stretch_read B c_a_number_read
  have c_stretch_read : Cal P w K mg base "_stretch_read" 2 1 F_stretch_read := ⟨_, fd_stretch_read, _, F_stretch_read_ok, g_stretch_read, D_stretch_read.kp, bn_stretch_read⟩
  have bn_read_asks : Binds K fd_read_asks ["text"] [] := D_read_asks.bindsN fun _ _ _ _ _ _ us hl => match us, hl with | [_], _ => rfl
  have F_read_asks_ok : FnOk P w K mg base (L2.CX P w) 4 _ fd_read_asks ["text"] (SpF K F_read_asks 1) := ok_read_asks D_read_asks B c_parts_of c_stretch_read r_text
  have c_read_asks : Cal P w K mg base "read_asks" 4 1 F_read_asks := ⟨_, fd_read_asks, _, F_read_asks_ok, g_read_asks, D_read_asks.kp, bn_read_asks⟩
  have k_read_asks : CalK P w K mg base "read_asks" 4 1 ["text"] pmId F_read_asks := ⟨_, fd_read_asks, ["text"], F_read_asks_ok, g_read_asks, D_read_asks.kp, kbn_of (ks := ["text"]) (pm := pmId) D_read_asks (fun r => r) fun _ _ _ _ _ _ ws hl => match ws, hl with | [_], _ => rfl⟩
  have bn_event_read : Binds K fd_event_read ["parts", "at", "inside"] [] := D_event_read.bindsN fun _ _ _ _ _ _ us hl => match us, hl with | [_, _, _], _ => rfl
  have F_event_read_ok : FnOk P w K mg base (L2.CX P w) 3 _ fd_event_read ["parts", "at", "inside"] (SpF K F_event_read 3) := ok_event_read D_event_read B c_a_number_read r_text
  have c_event_read : Cal P w K mg base "_event_read" 3 3 F_event_read := ⟨_, fd_event_read, _, F_event_read_ok, g_event_read, D_event_read.kp, bn_event_read⟩
  have bn_read_history : Binds K fd_read_history ["text"] [] := D_read_history.bindsN fun _ _ _ _ _ _ us hl => match us, hl with | [_], _ => rfl
  have F_read_history_ok : FnOk P w K mg base (L2.CX P w) 4 _ fd_read_history ["text"] (SpF K F_read_history 1) := ok_read_history D_read_history B c_event_read c_parts_of r_text
  have c_read_history : Cal P w K mg base "read_history" 4 1 F_read_history := ⟨_, fd_read_history, _, F_read_history_ok, g_read_history, D_read_history.kp, bn_read_history⟩
  have k_read_history : CalK P w K mg base "read_history" 4 1 ["text"] pmId F_read_history := ⟨_, fd_read_history, ["text"], F_read_history_ok, g_read_history, D_read_history.kp, kbn_of (ks := ["text"]) (pm := pmId) D_read_history (fun r => r) fun _ _ _ _ _ _ ws hl => match ws, hl with | [_], _ => rfl⟩
  have bn_is_operation : Binds K fd_is_operation ["thing"] [] := D_is_operation.bindsN fun _ _ _ _ _ _ us hl => match us, hl with | [_], _ => rfl
  have F_is_operation_ok : FnOk P w K mg base (L2.CX P w) 2 _ fd_is_operation ["thing"] (SpF K F_is_operation 1) := ok_is_operation D_is_operation B c_is_integer T
  have c_is_operation : Cal P w K mg base "is_operation" 2 1 F_is_operation := ⟨_, fd_is_operation, _, F_is_operation_ok, g_is_operation, D_is_operation.kp, bn_is_operation⟩
  have bn_operation_line : Binds K fd_operation_line ["operation"] [] := D_operation_line.bindsN fun _ _ _ _ _ _ us hl => match us, hl with | [_], _ => rfl
  have F_operation_line_ok : FnOk P w K mg base (L2.CX P w) 3 _ fd_operation_line ["operation"] (SpF K F_operation_line 1) := ok_operation_line D_operation_line B c_is_operation r_usable
  have c_operation_line : Cal P w K mg base "operation_line" 3 1 F_operation_line := ⟨_, fd_operation_line, _, F_operation_line_ok, g_operation_line, D_operation_line.kp, bn_operation_line⟩
  have k_operation_line : CalK P w K mg base "operation_line" 3 1 ["operation"] pmId F_operation_line := ⟨_, fd_operation_line, ["operation"], F_operation_line_ok, g_operation_line, D_operation_line.kp, kbn_of (ks := ["operation"]) (pm := pmId) D_operation_line (fun r => r) fun _ _ _ _ _ _ ws hl => match ws, hl with | [_], _ => rfl⟩
  have bn_value_line : Binds K fd_value_line ["operation", "value"] [] := D_value_line.bindsN fun _ _ _ _ _ _ us hl => match us, hl with | [_, _], _ => rfl
  have F_value_line_ok : FnOk P w K mg base (L2.CX P w) 5 _ fd_value_line ["operation", "value"] (SpF K F_value_line 2) := ok_value_line D_value_line B c_a_fits c_is_operation r_usable
  have c_value_line : Cal P w K mg base "value_line" 5 2 F_value_line := ⟨_, fd_value_line, _, F_value_line_ok, g_value_line, D_value_line.kp, bn_value_line⟩
  have k_value_line : CalK P w K mg base "value_line" 5 2 ["value", "operation"] pmSwap F_value_line := ⟨_, fd_value_line, ["operation", "value"], F_value_line_ok, g_value_line, D_value_line.kp, kbn_of (ks := ["value", "operation"]) (pm := pmSwap) D_value_line pmSwap_vals fun _ _ _ _ _ _ ws hl => match ws, hl with | [_, _], _ => rfl⟩
  have bn_read_operation : Binds K fd_read_operation ["text"] [] := D_read_operation.bindsN fun _ _ _ _ _ _ us hl => match us, hl with | [_], _ => rfl
  have F_read_operation_ok : FnOk P w K mg base (L2.CX P w) 3 _ fd_read_operation ["text"] (SpF K F_read_operation 1) := ok_read_operation D_read_operation B c_a_number_read r_text r_usable T
  have c_read_operation : Cal P w K mg base "read_operation" 3 1 F_read_operation := ⟨_, fd_read_operation, _, F_read_operation_ok, g_read_operation, D_read_operation.kp, bn_read_operation⟩
  have k_read_operation : CalK P w K mg base "read_operation" 3 1 ["text"] pmId F_read_operation := ⟨_, fd_read_operation, ["text"], F_read_operation_ok, g_read_operation, D_read_operation.kp, kbn_of (ks := ["text"]) (pm := pmId) D_read_operation (fun r => r) fun _ _ _ _ _ _ ws hl => match ws, hl with | [_], _ => rfl⟩
  have bn_can_stand : Binds K fd_can_stand ["operation", "numbers", "number"] [] := D_can_stand.bindsN fun _ _ _ _ _ _ us hl => match us, hl with | [_, _, _], _ => rfl
  have F_can_stand_ok : FnOk P w K mg base (L2.CX P w) 1 _ fd_can_stand ["operation", "numbers", "number"] (SpF K F_can_stand 3) := ok_can_stand D_can_stand B
  have c_can_stand : Cal P w K mg base "_can_stand" 1 3 F_can_stand := ⟨_, fd_can_stand, _, F_can_stand_ok, g_can_stand, D_can_stand.kp, bn_can_stand⟩
  have bn_figures_due : Binds K fd_figures_due ["operation"] [] := D_figures_due.bindsN fun _ _ _ _ _ _ us hl => match us, hl with | [_], _ => rfl
  have F_figures_due_ok : FnOk P w K mg base (L2.CX P w) 1 _ fd_figures_due ["operation"] (SpF K F_figures_due 1) := ok_figures_due D_figures_due B
  have c_figures_due : Cal P w K mg base "_figures_due" 1 1 F_figures_due := ⟨_, fd_figures_due, _, F_figures_due_ok, g_figures_due, D_figures_due.kp, bn_figures_due⟩
  have bn_read_value : Binds K fd_read_value ["operation", "text"] [] := D_read_value.bindsN fun _ _ _ _ _ _ us hl => match us, hl with | [_, _], _ => rfl
  have F_read_value_ok : FnOk P w K mg base (L2.CX P w) 3 _ fd_read_value ["operation", "text"] (SpF K F_read_value 2) := ok_read_value D_read_value B c_can_stand c_figures_due c_a_integer_read c_is_operation r_text r_usable
  have c_read_value : Cal P w K mg base "read_value" 3 2 F_read_value := ⟨_, fd_read_value, _, F_read_value_ok, g_read_value, D_read_value.kp, bn_read_value⟩
  have k_read_value : CalK P w K mg base "read_value" 3 2 ["text", "operation"] pmSwap F_read_value := ⟨_, fd_read_value, ["operation", "text"], F_read_value_ok, g_read_value, D_read_value.kp, kbn_of (ks := ["text", "operation"]) (pm := pmSwap) D_read_value pmSwap_vals fun _ _ _ _ _ _ ws hl => match ws, hl with | [_, _], _ => rfl⟩
  have bn_law_nums : Binds K fd_law_nums ["_law_script", "_law_at", "_law_bounds"] [] := D_law_nums.bindsN fun _ _ _ _ _ _ us hl => match us, hl with | [_, _, _], _ => rfl
  have F_law_nums_ok : FnOk P w K mg base (L2.CX P w) 1 _ fd_law_nums ["_law_script", "_law_at", "_law_bounds"] (SpF K F_law_nums 3) := ok_law_nums D_law_nums B
  have c_law_nums : Cal P w K mg base "_law_nums" 1 3 F_law_nums := ⟨_, fd_law_nums, _, F_law_nums_ok, g_law_nums, D_law_nums.kp, bn_law_nums⟩
  have bn_law_int : Binds K fd_law_int ["_law_thing"] [] := D_law_int.bindsN fun _ _ _ _ _ _ us hl => match us, hl with | [_], _ => rfl
  have F_law_int_ok : FnOk P w K mg base (L2.CX P w) 1 _ fd_law_int ["_law_thing"] (SpF K F_law_int 1) := ok_law_int D_law_int B
  have c_law_int : Cal P w K mg base "_law_int" 1 1 F_law_int := ⟨_, fd_law_int, _, F_law_int_ok, g_law_int, D_law_int.kp, bn_law_int⟩
  have bn_law_same : Binds K fd_law_same ["_law_got", "_law_due_here"] [] := D_law_same.bindsN fun _ _ _ _ _ _ us hl => match us, hl with | [_, _], _ => rfl
  have k0 : Cal P w K mg base "_law_same" 0 2 (F_law_sameN 0) := ⟨_, fd_law_same, _, ok_sameN0 _ _, g_law_same, D_law_same.kp, bn_law_same⟩
  have k1 : Cal P w K mg base "_law_same" 1 2 (F_law_sameN 1) := ⟨_, fd_law_same, _, ok_law_sameN D_law_same B k0, g_law_same, D_law_same.kp, bn_law_same⟩
  have k2 : Cal P w K mg base "_law_same" 2 2 (F_law_sameN 2) := ⟨_, fd_law_same, _, ok_law_sameN D_law_same B k1, g_law_same, D_law_same.kp, bn_law_same⟩
  have k3 : Cal P w K mg base "_law_same" 3 2 (F_law_sameN 3) := ⟨_, fd_law_same, _, ok_law_sameN D_law_same B k2, g_law_same, D_law_same.kp, bn_law_same⟩
  have k4 : Cal P w K mg base "_law_same" 4 2 (F_law_sameN 4) := ⟨_, fd_law_same, _, ok_law_sameN D_law_same B k3, g_law_same, D_law_same.kp, bn_law_same⟩
  have k5 : Cal P w K mg base "_law_same" 5 2 (F_law_sameN 5) := ⟨_, fd_law_same, _, ok_law_sameN D_law_same B k4, g_law_same, D_law_same.kp, bn_law_same⟩
  have k6 : Cal P w K mg base "_law_same" 6 2 (F_law_sameN 6) := ⟨_, fd_law_same, _, ok_law_sameN D_law_same B k5, g_law_same, D_law_same.kp, bn_law_same⟩
  have k7 : Cal P w K mg base "_law_same" 7 2 (F_law_sameN 7) := ⟨_, fd_law_same, _, ok_law_sameN D_law_same B k6, g_law_same, D_law_same.kp, bn_law_same⟩
  have k8 : Cal P w K mg base "_law_same" 8 2 (F_law_sameN 8) := ⟨_, fd_law_same, _, ok_law_sameN D_law_same B k7, g_law_same, D_law_same.kp, bn_law_same⟩
  have c_law_same : Cal P w K mg base "_law_same" 8 2 F_law_same := k8
  have bn_law_operation : Binds K fd_law_operation ["_law_n"] [] := D_law_operation.bindsN fun _ _ _ _ _ _ us hl => match us, hl with | [_], _ => rfl
  have F_law_operation_ok : FnOk P w K mg base (L2.CX P w) 1 _ fd_law_operation ["_law_n"] (SpF K F_law_operation 1) := ok_law_operation D_law_operation B
  have c_law_operation : Cal P w K mg base "_law_operation" 1 1 F_law_operation := ⟨_, fd_law_operation, _, F_law_operation_ok, g_law_operation, D_law_operation.kp, bn_law_operation⟩
  have bn_law_number : Binds K fd_law_number ["_law_n", "_law_k"] [] := D_law_number.bindsN fun _ _ _ _ _ _ us hl => match us, hl with | [_, _], _ => rfl
  have F_law_number_ok : FnOk P w K mg base (L2.CX P w) 1 _ fd_law_number ["_law_n", "_law_k"] (SpF K F_law_number 2) := ok_law_number D_law_number B
  have c_law_number : Cal P w K mg base "_law_number" 1 2 F_law_number := ⟨_, fd_law_number, _, F_law_number_ok, g_law_number, D_law_number.kp, bn_law_number⟩
  have bn_law_value : Binds K fd_law_value ["_law_op", "_law_n"] [] := D_law_value.bindsN fun _ _ _ _ _ _ us hl => match us, hl with | [_, _], _ => rfl
  have F_law_value_ok : FnOk P w K mg base (L2.CX P w) 2 _ fd_law_value ["_law_op", "_law_n"] (SpF K F_law_value 2) := ok_law_value D_law_value B c_law_number
  have c_law_value : Cal P w K mg base "_law_value" 2 2 F_law_value := ⟨_, fd_law_value, _, F_law_value_ok, g_law_value, D_law_value.kp, bn_law_value⟩
  have bn_law_need : Binds K fd_law_need ["_law_word"] [] := D_law_need.bindsN fun _ _ _ _ _ _ us hl => match us, hl with | [_], _ => rfl
  have F_law_need_ok : FnOk P w K mg base (L2.CX P w) 1 _ fd_law_need ["_law_word"] (SpF K F_law_need 1) := ok_law_need D_law_need
  have c_law_need : Cal P w K mg base "_law_need" 1 1 F_law_need := ⟨_, fd_law_need, _, F_law_need_ok, g_law_need, D_law_need.kp, bn_law_need⟩
  have bn_law_figures : Binds K fd_law_figures ["_law_part"] [] := D_law_figures.bindsN fun _ _ _ _ _ _ us hl => match us, hl with | [_], _ => rfl
  have F_law_figures_ok : FnOk P w K mg base (L2.CX P w) 1 _ fd_law_figures ["_law_part"] (SpF K F_law_figures 1) := ok_law_figures D_law_figures B
  have c_law_figures : Cal P w K mg base "_law_figures" 1 1 F_law_figures := ⟨_, fd_law_figures, _, F_law_figures_ok, g_law_figures, D_law_figures.kp, bn_law_figures⟩
  have bn_law_no : Binds K fd_law_no ["_law_k"] [] := D_law_no.bindsN fun _ _ _ _ _ _ us hl => match us, hl with | [_], _ => rfl
  have F_law_no_ok : FnOk P w K mg base (L2.CX P w) 1 _ fd_law_no ["_law_k"] (SpF K F_law_no 1) := ok_law_no D_law_no B
  have c_law_no : Cal P w K mg base "_law_no" 1 1 F_law_no := ⟨_, fd_law_no, _, F_law_no_ok, g_law_no, D_law_no.kp, bn_law_no⟩
  have bn_law_operation_due : Binds K fd_law_operation_due ["_law_text"] [] := D_law_operation_due.bindsN fun _ _ _ _ _ _ us hl => match us, hl with | [_], _ => rfl
  have F_law_operation_due_ok : FnOk P w K mg base (L2.CX P w) 2 _ fd_law_operation_due ["_law_text"] (SpF K F_law_operation_due 1) := ok_law_operation_due D_law_operation_due B c_law_figures c_law_need c_law_no
  have c_law_operation_due : Cal P w K mg base "_law_operation_due" 2 1 F_law_operation_due := ⟨_, fd_law_operation_due, _, F_law_operation_due_ok, g_law_operation_due, D_law_operation_due.kp, bn_law_operation_due⟩
  have bn_law_many : Binds K fd_law_many ["_law_op"] [] := D_law_many.bindsN fun _ _ _ _ _ _ us hl => match us, hl with | [_], _ => rfl
  have F_law_many_ok : FnOk P w K mg base (L2.CX P w) 1 _ fd_law_many ["_law_op"] (SpF K F_law_many 1) := ok_law_many D_law_many B
  have c_law_many : Cal P w K mg base "_law_many" 1 1 F_law_many := ⟨_, fd_law_many, _, F_law_many_ok, g_law_many, D_law_many.kp, bn_law_many⟩
  have bn_law_value_due : Binds K fd_law_value_due ["_law_op", "_law_text"] [] := D_law_value_due.bindsN fun _ _ _ _ _ _ us hl => match us, hl with | [_, _], _ => rfl
  have F_law_value_due_ok : FnOk P w K mg base (L2.CX P w) 2 _ fd_law_value_due ["_law_op", "_law_text"] (SpF K F_law_value_due 2) := ok_law_value_due D_law_value_due B c_law_figures c_law_many c_law_no
  have c_law_value_due : Cal P w K mg base "_law_value_due" 2 2 F_law_value_due := ⟨_, fd_law_value_due, _, F_law_value_due_ok, g_law_value_due, D_law_value_due.kp, bn_law_value_due⟩
  have bn_law_value_line : Binds K fd_law_value_line ["_law_value_here"] [] := D_law_value_line.bindsN fun _ _ _ _ _ _ us hl => match us, hl with | [_], _ => rfl
  have F_law_value_line_ok : FnOk P w K mg base (L2.CX P w) 2 _ fd_law_value_line ["_law_value_here"] (SpF K F_law_value_line 1) := ok_law_value_line D_law_value_line B c_law_int
  have c_law_value_line : Cal P w K mg base "_law_value_line" 2 1 F_law_value_line := ⟨_, fd_law_value_line, _, F_law_value_line_ok, g_law_value_line, D_law_value_line.kp, bn_law_value_line⟩
  have bn_law_events : Binds K fd_law_events ["_law_n"] [] := D_law_events.bindsN fun _ _ _ _ _ _ us hl => match us, hl with | [_], _ => rfl
  have F_law_events_ok : FnOk P w K mg base (L2.CX P w) 1 _ fd_law_events ["_law_n"] (SpF K F_law_events 1) := ok_law_events D_law_events B
  have c_law_events : Cal P w K mg base "_law_events" 1 1 F_law_events := ⟨_, fd_law_events, _, F_law_events_ok, g_law_events, D_law_events.kp, bn_law_events⟩
  have bn_law_row : Binds K fd_law_row ["_law_n"] [] := D_law_row.bindsN fun _ _ _ _ _ _ us hl => match us, hl with | [_], _ => rfl
  have F_law_row_ok : FnOk P w K mg base (L2.CX P w) 1 _ fd_law_row ["_law_n"] (SpF K F_law_row 1) := ok_law_row D_law_row B
  have c_law_row : Cal P w K mg base "_law_row" 1 1 F_law_row := ⟨_, fd_law_row, _, F_law_row_ok, g_law_row, D_law_row.kp, bn_law_row⟩
  have bn_law_asks_line : Binds K fd_law_asks_line ["_law_asks"] [] := D_law_asks_line.bindsN fun _ _ _ _ _ _ us hl => match us, hl with | [_], _ => rfl
  have F_law_asks_line_ok : FnOk P w K mg base (L2.CX P w) 1 _ fd_law_asks_line ["_law_asks"] (SpF K F_law_asks_line 1) := ok_law_asks_line D_law_asks_line B
  have c_law_asks_line : Cal P w K mg base "_law_asks_line" 1 1 F_law_asks_line := ⟨_, fd_law_asks_line, _, F_law_asks_line_ok, g_law_asks_line, D_law_asks_line.kp, bn_law_asks_line⟩
  have bn_law_history_line : Binds K fd_law_history_line ["_law_events_here"] [] := D_law_history_line.bindsN fun _ _ _ _ _ _ us hl => match us, hl with | [_], _ => rfl
  have F_law_history_line_ok : FnOk P w K mg base (L2.CX P w) 1 _ fd_law_history_line ["_law_events_here"] (SpF K F_law_history_line 1) := ok_law_history_line D_law_history_line B
  have c_law_history_line : Cal P w K mg base "_law_history_line" 1 1 F_law_history_line := ⟨_, fd_law_history_line, _, F_law_history_line_ok, g_law_history_line, D_law_history_line.kp, bn_law_history_line⟩
  have bn_law_asks_due : Binds K fd_law_asks_due ["_law_text"] [] := D_law_asks_due.bindsN fun _ _ _ _ _ _ us hl => match us, hl with | [_], _ => rfl
  have F_law_asks_due_ok : FnOk P w K mg base (L2.CX P w) 2 _ fd_law_asks_due ["_law_text"] (SpF K F_law_asks_due 1) := ok_law_asks_due D_law_asks_due B c_law_figures c_law_no
  have c_law_asks_due : Cal P w K mg base "_law_asks_due" 2 1 F_law_asks_due := ⟨_, fd_law_asks_due, _, F_law_asks_due_ok, g_law_asks_due, D_law_asks_due.kp, bn_law_asks_due⟩
  have bn_law_history_due : Binds K fd_law_history_due ["_law_text"] [] := D_law_history_due.bindsN fun _ _ _ _ _ _ us hl => match us, hl with | [_], _ => rfl
  have F_law_history_due_ok : FnOk P w K mg base (L2.CX P w) 2 _ fd_law_history_due ["_law_text"] (SpF K F_law_history_due 1) := ok_law_history_due D_law_history_due B c_law_figures c_law_no
  have c_law_history_due : Cal P w K mg base "_law_history_due" 2 1 F_law_history_due := ⟨_, fd_law_history_due, _, F_law_history_due_ok, g_law_history_due, D_law_history_due.kp, bn_law_history_due⟩
  have bn_law_due : Binds K fd_law_due ["_law_which", "_law_op", "_law_text"] [] := D_law_due.bindsN fun _ _ _ _ _ _ us hl => match us, hl with | [_, _, _], _ => rfl
  have F_law_due_ok : FnOk P w K mg base (L2.CX P w) 3 _ fd_law_due ["_law_which", "_law_op", "_law_text"] (SpF K F_law_due 3) := ok_law_due D_law_due B c_law_asks_due c_law_history_due c_law_operation_due c_law_value_due
  have c_law_due : Cal P w K mg base "_law_due" 3 3 F_law_due := ⟨_, fd_law_due, _, F_law_due_ok, g_law_due, D_law_due.kp, bn_law_due⟩
  have bn_law_call : Binds K fd_law_call ["_law_which", "_law_op", "_law_thing"] [] := D_law_call.bindsN fun _ _ _ _ _ _ us hl => match us, hl with | [_, _, _], _ => rfl
  have F_law_call_ok : FnOk P w K mg base (L2.CX P w) 6 _ fd_law_call ["_law_which", "_law_op", "_law_thing"] (SpF K F_law_call 3) := ok_law_call D_law_call EX k_operation_line c_value_line k_asks_line k_history_line k_read_operation c_read_value k_read_asks k_read_history
  have c_law_call : Cal P w K mg base "_law_call" 6 3 F_law_call := ⟨_, fd_law_call, _, F_law_call_ok, g_law_call, D_law_call.kp, bn_law_call⟩
  have bn_law_words : Binds K fd_law_words ["_law_read"] [] := D_law_words.bindsN fun _ _ _ _ _ _ us hl => match us, hl with | [_], _ => rfl
  have F_law_words_ok : FnOk P w K mg base (L2.CX P w) 1 _ fd_law_words ["_law_read"] (SpF K F_law_words 1) := ok_law_words D_law_words B
  have c_law_words : Cal P w K mg base "_law_words" 1 1 F_law_words := ⟨_, fd_law_words, _, F_law_words_ok, g_law_words, D_law_words.kp, bn_law_words⟩
  have bn_law_spoilt : Binds K fd_law_spoilt ["_law_text", "_law_pick", "_law_words_here"] [] := D_law_spoilt.bindsN fun _ _ _ _ _ _ us hl => match us, hl with | [_, _, _], _ => rfl
  have F_law_spoilt_ok : FnOk P w K mg base (L2.CX P w) 1 _ fd_law_spoilt ["_law_text", "_law_pick", "_law_words_here"] (SpF K F_law_spoilt 3) := ok_law_spoilt D_law_spoilt B
  have c_law_spoilt : Cal P w K mg base "_law_spoilt" 1 3 F_law_spoilt := ⟨_, fd_law_spoilt, _, F_law_spoilt_ok, g_law_spoilt, D_law_spoilt.kp, bn_law_spoilt⟩
  have bn_law_lines : Binds K fd_law_lines ["_law_names", "_law_op", "_law_thing", "_law_line", "_law_pick"] [] := D_law_lines.bindsN fun _ _ _ _ _ _ us hl => match us, hl with | [_, _, _, _, _], _ => rfl
  have F_law_lines_ok : FnOk P w K mg base (L2.CX P w) 9 _ fd_law_lines ["_law_names", "_law_op", "_law_thing", "_law_line", "_law_pick"] (SpF K F_law_lines 5) := ok_law_lines D_law_lines B c_law_call c_law_due c_law_same c_law_spoilt c_law_words
  have c_law_lines : Cal P w K mg base "_law_lines" 9 5 F_law_lines := ⟨_, fd_law_lines, _, F_law_lines_ok, g_law_lines, D_law_lines.kp, bn_law_lines⟩
  have bn_law_odds : Binds K fd_law_odds ["_law_op", "_law_v", "_law_pick"] [] := D_law_odds.bindsN fun _ _ _ _ _ _ us hl => match us, hl with | [_, _, _], _ => rfl
  have F_law_odds_ok : FnOk P w K mg base (L2.CX P w) 9 _ fd_law_odds ["_law_op", "_law_v", "_law_pick"] (SpF K F_law_odds 3) := ok_law_odds D_law_odds B c_law_call c_law_same c_law_value_line k_read_value k_value_line
  have c_law_odds : Cal P w K mg base "_law_odds" 9 3 F_law_odds := ⟨_, fd_law_odds, _, F_law_odds_ok, g_law_odds, D_law_odds.kp, bn_law_odds⟩
  have bn_law : Binds K fd_law ["_law_script"] [] := D_law.bindsN fun _ _ _ _ _ _ us hl => match us, hl with | [_], _ => rfl
  exact ok_law D_law B c_law_asks_line c_law_events c_law_history_line c_law_lines c_law_nums c_law_odds c_law_operation c_law_row c_law_same c_law_value c_law_value_line c_asks_line c_history_line c_operation_line c_read_asks c_read_history c_read_operation
end UT
end
section
set_option Elab.async false
set_option linter.all false
set_option maxRecDepth 100000
set_option maxHeartbeats 0
/-! the end: from the mirror's answer to the row -/
namespace UT
open PySem PySem.Spec PyProof.Rows L2
def scrD (ns : List Int) : PyData := .dict (ns.map fun i => (.none, .int i))
theorem walk_ofE2 {l : PySem.W.OpenLaw} {n k : Nat} {q : Program} {loose : List Str} {XP : (Str → Option Value) → Heap → Prop} {YP : World → Heap → Prop} {d : DefRec} {CX : World → CXT} {x : Str}
    (hn : l.most = some n) (hn2 : n ≤ sizeLine) (hdf : d.params.defaults = []) (hr : Room k callerA)
    (F : ∀ (w : World) (mg : Str → Option Value) (fa : Addr) (h : Heap), YP w h → h.Ns mainGlobals mg → mg d.name = some (.ref fa) →
      ∃ (K : PySem.W.Frag) (fd : FuncData) (sp : Sp), K.In h ∧ (∀ (s : Shared) (u : Value), BindsTo s fd ⟨[u], []⟩ [(x, u)]) ∧
        (∀ (H : Hp) (a : Addr) (ns : List Int), ns.length ≤ n → Only H → SqL K H a (ns.map V.int) → sp [.ref a] H (fun v _ => v = .bl true) fun _ _ _ => False) ∧
        ∀ base : Heap, K.In base → base.Ns mainGlobals mg → FnOk l.prog w K mg base (CX w) k fa fd [x] sp)
    (hCX : ∀ (w : World) (H : Hp) (s : Shared) (e : Value) (s' : Shared), CX w [] H s (fun _ _ _ => False) e s' → False) :
    PySem.W.WalkO q loose XP YP l.row.toRowW d [] (fun f vs => PySem.call f vs) := by
  refine Att.attach_call hn hdf fun w s₀ s₁ mg mb fa o pm cd doc a vs ns G Y ho hd hcd hmg hobj hints hlen hg => ?_
  obtain ⟨K, fd, sp, KX, hb, hsp, hF⟩ := F w mg fa _ Y G.T.g hmg
  exact law_call KX G.T.g G.T.b G.T.builtins G.T.nolimit hg hobj hints (Nat.le_trans hlen hn2) hr hF hb (fun H hO hS => hsp H a ns hlen hO hS) fun H e s' => hCX w H s₁ e s'
theorem spF_law {K : PySem.W.Frag} {H : Hp} {a : Addr} {ns : List Int} (hF : F_law [scrD ns] = some (.ok (.bool true))) (hS : SqL K H a (ns.map V.int)) : SpF K F_law 1 [.ref a] H (fun v _ => v = .bl true) fun _ _ _ => False := by
  refine ⟨[scrD ns], .ok (.bool true), .cons (.scr hS) .nil, rfl, hF, fun d hd v H' _ dv => ?_, fun e he => by cases he⟩
  cases hd
  cases dv
  rfl
end UT
open PySem PySem.W PySem.Calls PyProof.Rows
theorem UT.holds_of (hF : ∀ ns : List Int, ns.length ≤ 63 → UT.F_law [UT.scrD ns] = some (.ok (.bool true))) : PySem.Challenge.rw_underthree_k03_whole_lines_there_and_bac.Holds := by
  w_on; o_law
  refine HandSHeadRun.head_any (r := OpenLaw.row PySem.Challenge.rw_underthree_k03_whole_lines_there_and_bac) (q := view (OpenLaw.row PySem.Challenge.rw_underthree_k03_whole_lines_there_and_bac).prog [66]) (H := UT.hk) (ob := UT.ob) (M := 8000) (loose := UT.nmL) (d := HandSHeadRun.topDef (OpenLaw.row PySem.Challenge.rw_underthree_k03_whole_lines_there_and_bac).prog 66) (kwd := []) UT.ob_eq
    (by kernel_rfl) (fun s => by kernel_rfl) UT.run (by kernel_rfl) (by kernel_rfl) (by kernel_rfl) (by rfl) (by first | assumption | decide +kernel) (by decide +kernel) ⟨rfl, rfl, rfl, rfl, rfl, by decide +kernel⟩ ?hw ?hc
  case hw => w_witness2
  case hc =>
    refine UT.walk_ofE2 (l := PySem.Challenge.rw_underthree_k03_whole_lines_there_and_bac) (n := 63) (k := 10) (x := "_law_script") (CX := fun w => L2.CX PySem.Challenge.rw_underthree_k03_whole_lines_there_and_bac.prog w) rfl (by decide) (by kernel_rfl) ⟨rfl, by decide, by decide⟩ ?F (fun w H s e s' z => by
      obtain ⟨_, _, _, _, _, _, _, _, _, _, _, _, z⟩ := z
      exact z)
    intro w mg fa h Y G hmg0
    obtain ⟨K, KX, c⟩ := Y
    have hmg : mg ("law" : PySem.Str) = some (.ref fa) := by
      have e : (HandSHeadRun.topDef (OpenLaw.row PySem.Challenge.rw_underthree_k03_whole_lines_there_and_bac).prog 66).name = ("law" : PySem.Str) := by kernel_rfl
      rw [← e]
      exact hmg0
    obtain ⟨fd, hb, hF2⟩ := UT.facts (P := (PySem.Challenge.rw_underthree_k03_whole_lines_there_and_bac).prog) (w := w) KX G hmg c
    exact ⟨K, fd, UT.SpF K UT.F_law 1, KX, hb, fun H a ns hl _ hS => UT.spF_law (hF ns hl) hS, hF2⟩
end
section
set_option Elab.async false
set_option linter.all false
set_option maxRecDepth 100000
set_option maxHeartbeats 4000000
/-! plain: the mirrors' building blocks, evaluated -/
namespace UT.M
open PySem PySem.Spec PyProof.Rows L2 SX
theorem charNat_inj {a b : Char} (h : a.toNat = b.toNat) : a = b := Char.ext (UInt32.toNat_inj.mp h)
@[simp] theorem ofString_eq (a b : String) : (Str.ofString a = Str.ofString b) = (a = b) := by
  apply propext
  constructor
  · intro h
    have h2 : (Str.ofString a).cps.toList = (Str.ofString b).cps.toList := by rw [h]
    rw [signs_ofString, signs_ofString] at h2
    have h3 : a.toList = b.toList := by
      have inj : Function.Injective Char.toNat := fun _ _ => charNat_inj
      exact (List.map_inj_right (fun _ _ => charNat_inj)).mp h2
    exact String.toList_inj.mp h3
  · intro h; rw [h]
@[simp] theorem beq_ofString (a b : String) : (Str.ofString a == Str.ofString b) = decide (a = b) := by
  rw [Bool.eq_iff_iff, beq_iff_eq, ofString_eq, decide_eq_true_eq]
section
variable {S' T : Type}
theorem ifM_y {P : Prop} [Decidable P] (h : P) (a b : SM S') : ifM (some (decide P)) a b = a := by
  rw [decide_eq_true h]; rfl
theorem ifM_n {P : Prop} [Decidable P] (h : ¬ P) (a b : SM S') : ifM (some (decide P)) a b = b := by
  rw [decide_eq_false h]; rfl
@[simp] theorem bind2_s (a b : PyData) (f : PyData → PyData → Option PyData) : bind2 (some a) (some b) f = f a b := rfl
@[simp] theorem consM_s (a : PyData) (l : List PyData) : consM (some a) (some l) = some (a :: l) := rfl
@[simp] theorem boolM_s (b : Bool) : boolM (some (.bool b)) = some b := rfl
@[simp] theorem notM_s (b : Bool) : notM (some b) = some (!b) := rfl
@[simp] theorem andM_t (m : Option Bool) : andM (some true) m = m := rfl
@[simp] theorem andM_f (m : Option Bool) : andM (some false) m = some false := rfl
@[simp] theorem orM_t (m : Option Bool) : orM (some true) m = some true := rfl
@[simp] theorem orM_f (m : Option Bool) : orM (some false) m = m := rfl
@[simp] theorem andD_t (m : Option PyData) : andD (some (.bool true)) m = m := rfl
@[simp] theorem andD_f (m : Option PyData) : andD (some (.bool false)) m = some (.bool false) := rfl
@[simp] theorem orD_t (m : Option PyData) : orD (some (.bool true)) m = some (.bool true) := rfl
@[simp] theorem orD_f (m : Option PyData) : orD (some (.bool false)) m = m := rfl
@[simp] theorem notD_s (b : Bool) : notD (some (.bool b)) = some (.bool (!b)) := rfl
@[simp] theorem ifM_t (a b : SM S') : ifM (some true) a b = a := rfl
@[simp] theorem ifM_f (a b : SM S') : ifM (some false) a b = b := rfl
@[simp] theorem seqM_ok (s : S') (f : S' → SM T) : seqM (some (.ok s)) f = f s := rfl
@[simp] theorem seqM_er (o : Out) (f : S' → SM T) : seqM (some (.error o) : SM S') f = some (.error o) := rfl
@[simp] theorem okM_s (s : S') : okM (some s) = some (.ok s) := rfl
@[simp] theorem retM_s (d : PyData) : (retM (some d) : SM S') = some (.error (.rt d)) := rfl
@[simp] theorem runM_ok (s : S') : runM (some (.ok s) : SM S') = some (.ok .none) := rfl
@[simp] theorem runM_rt (d : PyData) : runM (some (.error (.rt d)) : SM S') = some (.ok d) := rfl
@[simp] theorem runM_er (e : Err) : runM (some (.error (.er e)) : SM S') = some (.error e) := rfl
@[simp] theorem okO_s (d : PyData) : okO (some (.ok d)) = some d := rfl
@[simp] theorem eqS_i (i j : Int) : eqS (.int i) (.int j) = some (.bool (decide (i = j))) := rfl
@[simp] theorem eqS_s (i j : Str) : eqS (.str i) (.str j) = some (.bool (decide (i = j))) := rfl
@[simp] theorem eqS_b (i j : Bool) : eqS (.bool i) (.bool j) = some (.bool (decide (i = j))) := rfl
@[simp] theorem neS_i (i j : Int) : neS (.int i) (.int j) = some (.bool (!decide (i = j))) := rfl
@[simp] theorem neS_s (i j : Str) : neS (.str i) (.str j) = some (.bool (!decide (i = j))) := rfl
@[simp] theorem ltI_s (i j : Int) : ltI (.int i) (.int j) = some (.bool (decide (i < j))) := rfl
@[simp] theorem leI_s (i j : Int) : leI (.int i) (.int j) = some (.bool (decide (i ≤ j))) := rfl
@[simp] theorem gtI_s (i j : Int) : gtI (.int i) (.int j) = some (.bool (decide (j < i))) := rfl
@[simp] theorem geI_s (i j : Int) : geI (.int i) (.int j) = some (.bool (decide (j ≤ i))) := rfl
@[simp] theorem addI_s (i j : Int) : addI (.int i) (.int j) = some (.int (i + j)) := rfl
@[simp] theorem subI_s (i j : Int) : subI (.int i) (.int j) = some (.int (i - j)) := rfl
@[simp] theorem negI_s (i : Int) : negI (.int i) = some (.int (-i)) := rfl
@[simp] theorem modI_s (i j : Int) : modI (.int i) (.int j) = if j ≠ 0 then some (.int (i.fmod j)) else none := rfl
@[simp] theorem fdivI_s (i j : Int) : fdivI (.int i) (.int j) = if j ≠ 0 ∧ j.natAbs < 1073741824 then some (.int (i.fdiv j)) else none := rfl
@[simp] theorem mulI_s (i j : Int) : mulI (.int i) (.int j) = if i.natAbs < 2 ^ 64 ∨ j.natAbs < 2 ^ 64 then some (.int (i * j)) else none := rfl
@[simp] theorem int1_i (i : Int) : int1 [.int i] = some (.int i) := rfl
@[simp] theorem int1_b (k : Bool) : int1 [.bool k] = some (.int (if k then 1 else 0)) := rfl
@[simp] theorem lenD_l (ds : List PyData) : lenD [.list ds] = some (.int ds.length) := rfl
@[simp] theorem lenD_t (ds : List PyData) : lenD [.tuple ds] = some (.int ds.length) := rfl
@[simp] theorem tupD_l (ds : List PyData) : tupD [.list ds] = some (.tuple ds) := rfl
@[simp] theorem tupD_t (ds : List PyData) : tupD [.tuple ds] = some (.tuple ds) := rfl
@[simp] theorem lstD_l (ds : List PyData) : lstD [.list ds] = some (.list ds) := rfl
@[simp] theorem lstD_t (ds : List PyData) : lstD [.tuple ds] = some (.list ds) := rfl
@[simp] theorem truM_l (ds : List PyData) : truM (some (.list ds)) = some (!ds.isEmpty) := rfl
@[simp] theorem truM_t (ds : List PyData) : truM (some (.tuple ds)) = some (!ds.isEmpty) := rfl
@[simp] theorem truM_b (b : Bool) : truM (some (.bool b)) = some b := rfl
@[simp] theorem partM_i (i : Int) : partM (some (.int i)) = some (some i) := rfl
@[simp] theorem slcM_s (a : PyData) (l h : Option Int) (f : PyData → Option Int → Option Int → Option PyData) : slcM (some a) (some l) (some h) f = f a l h := rfl
@[simp] theorem tupleM_s (ds : List PyData) : tupleM (some (.tuple ds)) = some ds := rfl
@[simp] theorem listM_s (ds : List PyData) : listM (some (.list ds)) = some ds := rfl
@[simp] theorem isN_n : isN .none .none = some (.bool true) := rfl
@[simp] theorem isN_b (b : Bool) : isN (.bool b) .none = some (.bool false) := rfl
@[simp] theorem isN_i (b : Int) : isN (.int b) .none = some (.bool false) := rfl
@[simp] theorem isN_s (b : Str) : isN (.str b) .none = some (.bool false) := rfl
@[simp] theorem isN_l (b : List PyData) : isN (.list b) .none = some (.bool false) := rfl
@[simp] theorem isN_t (b : List PyData) : isN (.tuple b) .none = some (.bool false) := rfl
@[simp] theorem isnN_n : isnN .none .none = some (.bool false) := rfl
@[simp] theorem isnN_i (b : Int) : isnN (.int b) .none = some (.bool true) := rfl
theorem kb_of {a b : String} {r : Bool} (h : kitB a b = some r) (d : PyData) (hd : tyN d = a) (hn : ∀ x, d ≠ .dict x) : isiD b d = some (.bool r) := by
  unfold isiD
  split
  · exact absurd rfl (hn _)
  · rw [hd, h]; rfl
@[simp] theorem isi_in : isiD "int" .none = some (.bool false) := kb_of (a := "NoneType") (by decide +kernel) _ rfl (fun _ h => by cases h)
@[simp] theorem isi_ib (b : Bool) : isiD "int" (.bool b) = some (.bool true) := kb_of (a := "bool") (by decide +kernel) _ rfl (fun _ h => by cases h)
@[simp] theorem isi_ii (b : Int) : isiD "int" (.int b) = some (.bool true) := kb_of (a := "int") (by decide +kernel) _ rfl (fun _ h => by cases h)
@[simp] theorem isi_is (b : Str) : isiD "int" (.str b) = some (.bool false) := kb_of (a := "str") (by decide +kernel) _ rfl (fun _ h => by cases h)
@[simp] theorem isi_il (b : List PyData) : isiD "int" (.list b) = some (.bool false) := kb_of (a := "list") (by decide +kernel) _ rfl (fun _ h => by cases h)
@[simp] theorem isi_it (b : List PyData) : isiD "int" (.tuple b) = some (.bool false) := kb_of (a := "tuple") (by decide +kernel) _ rfl (fun _ h => by cases h)
@[simp] theorem isi_bn : isiD "bool" .none = some (.bool false) := kb_of (a := "NoneType") (by decide +kernel) _ rfl (fun _ h => by cases h)
@[simp] theorem isi_bb (b : Bool) : isiD "bool" (.bool b) = some (.bool true) := kb_of (a := "bool") (by decide +kernel) _ rfl (fun _ h => by cases h)
@[simp] theorem isi_bi (b : Int) : isiD "bool" (.int b) = some (.bool false) := kb_of (a := "int") (by decide +kernel) _ rfl (fun _ h => by cases h)
@[simp] theorem isi_bs (b : Str) : isiD "bool" (.str b) = some (.bool false) := kb_of (a := "str") (by decide +kernel) _ rfl (fun _ h => by cases h)
@[simp] theorem isi_bl (b : List PyData) : isiD "bool" (.list b) = some (.bool false) := kb_of (a := "list") (by decide +kernel) _ rfl (fun _ h => by cases h)
@[simp] theorem isi_bt (b : List PyData) : isiD "bool" (.tuple b) = some (.bool false) := kb_of (a := "tuple") (by decide +kernel) _ rfl (fun _ h => by cases h)
@[simp] theorem isi_tn : isiD "tuple" .none = some (.bool false) := kb_of (a := "NoneType") (by decide +kernel) _ rfl (fun _ h => by cases h)
@[simp] theorem isi_tb (b : Bool) : isiD "tuple" (.bool b) = some (.bool false) := kb_of (a := "bool") (by decide +kernel) _ rfl (fun _ h => by cases h)
@[simp] theorem isi_ti (b : Int) : isiD "tuple" (.int b) = some (.bool false) := kb_of (a := "int") (by decide +kernel) _ rfl (fun _ h => by cases h)
@[simp] theorem isi_ts (b : Str) : isiD "tuple" (.str b) = some (.bool false) := kb_of (a := "str") (by decide +kernel) _ rfl (fun _ h => by cases h)
@[simp] theorem isi_tl (b : List PyData) : isiD "tuple" (.list b) = some (.bool false) := kb_of (a := "list") (by decide +kernel) _ rfl (fun _ h => by cases h)
@[simp] theorem isi_tt (b : List PyData) : isiD "tuple" (.tuple b) = some (.bool true) := kb_of (a := "tuple") (by decide +kernel) _ rfl (fun _ h => by cases h)
@[simp] theorem isi_sn : isiD "str" .none = some (.bool false) := kb_of (a := "NoneType") (by decide +kernel) _ rfl (fun _ h => by cases h)
@[simp] theorem isi_sb (b : Bool) : isiD "str" (.bool b) = some (.bool false) := kb_of (a := "bool") (by decide +kernel) _ rfl (fun _ h => by cases h)
@[simp] theorem isi_si (b : Int) : isiD "str" (.int b) = some (.bool false) := kb_of (a := "int") (by decide +kernel) _ rfl (fun _ h => by cases h)
@[simp] theorem isi_ss (b : Str) : isiD "str" (.str b) = some (.bool true) := kb_of (a := "str") (by decide +kernel) _ rfl (fun _ h => by cases h)
@[simp] theorem isi_sl (b : List PyData) : isiD "str" (.list b) = some (.bool false) := kb_of (a := "list") (by decide +kernel) _ rfl (fun _ h => by cases h)
@[simp] theorem isi_st (b : List PyData) : isiD "str" (.tuple b) = some (.bool false) := kb_of (a := "tuple") (by decide +kernel) _ rfl (fun _ h => by cases h)
@[simp] theorem pure_n : pureT .none = true := by unfold pureT; rfl
@[simp] theorem pure_b (b : Bool) : pureT (.bool b) = true := by unfold pureT; rfl
@[simp] theorem pure_i (b : Int) : pureT (.int b) = true := by unfold pureT; rfl
@[simp] theorem pure_s (b : Str) : pureT (.str b) = true := by unfold pureT; rfl
theorem fnP_ok {F : List PyData → Option (Except Err PyData)} {n : Nat} {ds : List PyData} {d : PyData} (h : F ds = some (.ok d)) (hn : ds.length = n) (hp : pureT d = true) : fnP F n (some ds) = some d := by
  unfold fnP
  simp [hn, h, hp]
theorem fnL_ok {F : List PyData → Option (Except Err PyData)} {n : Nat} {ds : List PyData} {d : PyData} (h : F ds = some (.ok d)) (hn : ds.length = n) : fnL' F n (some ds) = some d := by
  unfold fnL'
  simp [hn, h]
theorem fnX_ok {F : List PyData → Option (Except Err PyData)} {n : Nat} {ds : List PyData} {d : PyData} (h : F ds = some (.ok d)) (hn : ds.length = n) : fnX F n (some ds) = some (.ok d) := by
  unfold fnX
  rw [Option.bind_some, if_pos hn, h]; rfl
theorem fnX_er {F : List PyData → Option (Except Err PyData)} {n : Nat} {ds : List PyData} {e : Err} (h : F ds = some (.error e)) (hn : ds.length = n) : fnX F n (some ds) = some (.error (.er e)) := by
  unfold fnX
  rw [Option.bind_some, if_pos hn, h]; rfl
@[simp] theorem tupM_s (ds : List PyData) : tupM (some ds) = if ds.length ≤ 100000 then some (.tuple ds) else none := rfl
@[simp] theorem lstM_s (ds : List PyData) : lstM (some ds) = if ds.length ≤ 100000 then some (.list ds) else none := rfl
@[simp] theorem strsOf_n : strsOf [] = some [] := rfl
@[simp] theorem strsOf_c (s : Str) (ds : List PyData) : strsOf (.str s :: ds) = (strsOf ds).map (s :: ·) := rfl
@[simp] theorem forM_s (ds : List PyData) (step : S' → PyData → SM S') (s : S') : forM (some ds) step s = forM' step ds s := rfl
@[simp] theorem forM'_n (step : S' → PyData → SM S') (s : S') : forM' step [] s = some (.ok s) := rfl
theorem forM'_c (step : S' → PyData → SM S') (x : PyData) (xs : List PyData) (s : S') : forM' step (x :: xs) s = seqM (step s x) fun s' => forM' step xs s' := by
  show (step s x).bind _ = (step s x).bind _
  congr 1
theorem ixN_nat (n k : Nat) : ixN n (k : Int) = if k < n then some k else none := by
  unfold ixN
  rw [if_pos (by omega)]
  by_cases h : k < n
  · rw [if_pos (by omega), if_pos h, Int.toNat_natCast]
  · rw [if_neg (by omega), if_neg h]
theorem atI_nat {α : Type} (l : List α) (k : Nat) : L2.atI l (k : Int) = l[k]? := by
  unfold L2.atI
  rw [ixN_nat]
  by_cases h : k < l.length
  · rw [if_pos h]; rfl
  · rw [if_neg h, List.getElem?_eq_none (by omega)]; rfl
theorem idx_t (l : List PyData) (k : Nat) : idx (.tuple l) (.int (k : Int)) = l[k]? := atI_nat l k
theorem idx_l (l : List PyData) (k : Nat) : idx (.list l) (.int (k : Int)) = l[k]? := atI_nat l k
@[simp] theorem idx_t0 (a : PyData) (l : List PyData) : idx (.tuple (a :: l)) (.int 0) = some a := idx_t (a :: l) 0
@[simp] theorem idx_t1 (a b : PyData) (l : List PyData) : idx (.tuple (a :: b :: l)) (.int 1) = some b := idx_t (a :: b :: l) 1
@[simp] theorem idx_t2 (a b c : PyData) (l : List PyData) : idx (.tuple (a :: b :: c :: l)) (.int 2) = some c := idx_t (a :: b :: c :: l) 2
@[simp] theorem idx_t3 (a b c d : PyData) (l : List PyData) : idx (.tuple (a :: b :: c :: d :: l)) (.int 3) = some d := idx_t (a :: b :: c :: d :: l) 3
@[simp] theorem idx_l0 (a : PyData) (l : List PyData) : idx (.list (a :: l)) (.int 0) = some a := idx_l (a :: l) 0
@[simp] theorem idx_l1 (a b : PyData) (l : List PyData) : idx (.list (a :: b :: l)) (.int 1) = some b := idx_l (a :: b :: l) 1
@[simp] theorem idx_l2 (a b c : PyData) (l : List PyData) : idx (.list (a :: b :: c :: l)) (.int 2) = some c := idx_l (a :: b :: c :: l) 2
@[simp] theorem idx_l3 (a b c d : PyData) (l : List PyData) : idx (.list (a :: b :: c :: d :: l)) (.int 3) = some d := idx_l (a :: b :: c :: d :: l) 3
theorem slcT_1 (a : PyData) (l : List PyData) : slcT (.tuple (a :: l)) (some 1) none = some (.tuple l) := by
  simp [slcT, HT.sIx, cutD]
theorem slcL_1 (a : PyData) (l : List PyData) : slcL (.list (a :: l)) (some 1) none = some (.list l) := by
  simp [slcL, HT.sIx, cutD]
theorem kk_raise (c : ErrC) (a b : PyData) (ha : pureT a = true) (hb : pureT b = true) : (raiseM c (some [a, b]) : SM S') = some (.error (.er ⟨c, a, b⟩)) := by
  unfold raiseM
  simp [ha, hb]
@[simp] theorem raise_si (c : ErrC) (a : Str) (b : Int) : (raiseM c (some [.str a, .int b]) : SM S') = some (.error (.er ⟨c, .str a, .int b⟩)) := kk_raise c _ _ (by simp) (by simp)
@[simp] theorem raise_ii (c : ErrC) (a : Int) (b : Int) : (raiseM c (some [.int a, .int b]) : SM S') = some (.error (.er ⟨c, .int a, .int b⟩)) := kk_raise c _ _ (by simp) (by simp)
end
end UT.M
end
section
set_option Elab.async false
set_option linter.all false
set_option maxRecDepth 100000
set_option maxHeartbeats 4000000
/-! plain: operations -/
namespace UT.M
open PySem PySem.Spec PyProof.Rows L2 SX
inductive Op where
  | sum (m : Nat) | prod (m : Nat) | most | least | first | last | or | maps (n : Nat) | grids (n m : Nat) | brackets | spans | counts (n : Nat)
def Op.w : Op → String
  | sum _ => "sum" | prod _ => "product" | most => "most" | least => "least" | first => "first" | last => "last" | or => "or" | maps _ => "maps" | grids _ _ => "grids" | brackets => "brackets" | spans => "spans" | counts _ => "counts"
def Op.ps : Op → List Nat
  | sum m => [m] | prod m => [m] | maps n => [n] | grids n m => [n, m] | counts n => [n] | _ => []
def opD (o : Op) : PyData := .tuple (.str (Str.ofString o.w) :: o.ps.map fun (n : Nat) => .int (n : Int))
/-- its numbers are positive and not large -/
def Op.ok (o : Op) : Prop := ∀ n ∈ o.ps, 1 ≤ n ∧ n ≤ 1000000000000
def Op.many : Op → Nat
  | maps n => n | counts n => n | grids n _ => n * n | brackets => 2 | spans => 2 | _ => 1
def Op.neg : Op → Bool
  | most => true | least => true | first => true | last => true | _ => false
theorem isInt_i (i : Int) : F_is_integer [.int i] = some (.ok (.bool true)) := by
  simp [F_is_integer, m_is_integer]
theorem isNum_i (i : Int) : F_is_number [.int i] = some (.ok (.bool (decide (0 ≤ i)))) := by
  simp [F_is_number, m_is_number, fnP_ok (isInt_i i)]
theorem fnP_int (i : Int) : fnP F_is_integer 1 (some [.int i]) = some (.bool true) := fnP_ok (isInt_i i) rfl (by simp)
theorem fnP_num (i : Int) : fnP F_is_number 1 (some [.int i]) = some (.bool (decide (0 ≤ i))) := fnP_ok (isNum_i i) rfl (by simp)
theorem opw_get (o : Op) : opwGet (.str (Str.ofString o.w)) = some (.int (o.ps.length : Nat)) := by
  cases o <;> simp [Op.w, Op.ps, opwGet, opW, List.lookup_cons]
theorem opw_nin (o : Op) : opwNin (.str (Str.ofString o.w)) = some (.bool false) := by
  cases o <;> simp [Op.w, opwNin, opW]
theorem isOp (o : Op) (h : o.ok) : F_is_operation [opD o] = some (.ok (.bool true)) := by
  have e1 := opw_get o
  have e2 := opw_nin o
  cases o <;> simp only [Op.ok, Op.ps, Op.w, List.mem_cons, List.not_mem_nil, or_false, forall_eq, forall_eq_or_imp, List.length_cons, List.length_nil] at h e1 e2 <;>
    (try have h1 := h.1) <;>
    simp (disch := omega) [F_is_operation, m_is_operation, opD, Op.w, Op.ps, e1, e2, slcT_1, forM'_c, fnP_int, ifM_y, ifM_n]
end UT.M
end
section
set_option Elab.async false
set_option linter.all false
set_option maxRecDepth 100000
set_option maxHeartbeats 4000000
/-! plain: numbers in texts -/
namespace UT.M
open PySem PySem.Spec PyProof.Rows L2 SX
def dig (c : Nat) : Bool := decide (48 ≤ c) && decide (c ≤ 57)
def fig (p : List Nat) : Bool := p.all dig && (!p.isEmpty && (p == [48] || p.head? != some 48))
def numR (p : List Nat) : Option Nat := if fig p = true then some (NumText.digitsVal p) else none
/-- a text of data -/
abbrev sD (p : List Nat) : PyData := .str (S p)
def oD (o : Option Nat) : PyData := match o with
  | some n => .int (n : Int)
  | none => .none
theorem lit_tl (s : String) : (Str.ofString s).cps.toList = s.toList.map Char.toNat := signs_ofString s
theorem S_of (s : String) (l : List Nat) (h : s.toList.map Char.toNat = l) : Str.ofString s = S l := by
  have := S_tl (Str.ofString s)
  rw [lit_tl, h] at this
  exact this.symm
theorem S_eq (a b : List Nat) : (S a = S b) = (a = b) := propext ⟨S_inj, fun h => by rw [h]⟩
theorem w_nil : Str.ofString "" = S [] := S_of _ _ rfl
theorem w_0 : Str.ofString "0" = S [48] := S_of _ _ rfl
theorem w_sp : Str.ofString " " = S [32] := S_of _ _ rfl
theorem w_mi : Str.ofString "-" = S [45] := S_of _ _ rfl
theorem w_dg : Str.ofString "0123456789" = S [48, 49, 50, 51, 52, 53, 54, 55, 56, 57] := S_of _ _ rfl
theorem S_le {l : List Nat} {n : Nat} (h : l.length ≤ n) : (S l).length ≤ n := by rw [S_len]; exact h
theorem ninS_dg (c : Nat) : ninS (.str ⟨#[c]⟩) (.str (Str.ofString "0123456789")) = some (.bool (!dig c)) := by
  show some (PyData.bool (!decide (c ∈ (Str.ofString "0123456789").cps.toList))) = _
  rw [w_dg]
  congr 3
  rw [Bool.eq_iff_iff]
  simp [dig]
  omega
theorem idx_s0 (c : Nat) (p : List Nat) (h : p.length < 1000000) : idx (sD (c :: p)) (.int 0) = some (.str (S [c])) := by
  have hz : (S (c :: p)).length ≤ sizeLine := S_le (Nat.le_trans (by simp; omega) (by decide : (1000000 : Nat) ≤ sizeLine))
  show (if (S (c :: p)).length ≤ sizeLine then (L2.atI (c :: p) 0).map fun c => PyData.str ⟨#[c]⟩ else none) = _
  rw [if_pos hz]
  have := atI_nat (c :: p) 0
  rw [show ((0 : Nat) : Int) = 0 from rfl] at this
  rw [this]
  rfl
theorem sgn_loop {T : Type} (x : PyData) (f : Unit → SM T) : ∀ (p : List Nat), seqM (forM' (S := Unit) (fun s2 x3 => seqM (ifM (S := Unit) (boolM (ninS x3 (.str (Str.ofString "0123456789")))) (retM (some x)) (some (.ok ()))) fun s4 => some (.ok ())) (p.map fun c => .str ⟨#[c]⟩) ()) f = if p.all dig = true then f () else some (.error (.rt x))
  | [] => rfl
  | c :: p => by
    rw [List.map_cons, forM'_c, ninS_dg]
    cases hc : dig c with
    | true =>
      have ih := sgn_loop x f p
      simp only [Bool.not_true, boolM_s, ifM_f, seqM_ok, List.all_cons, hc, Bool.true_and]
      exact ih
    | false => simp [hc]
theorem signM_S (p : List Nat) : signM (some (sD p)) = some (p.map fun c => .str ⟨#[c]⟩) := rfl
theorem fig_digits {p : List Nat} (h : fig p = true) : NumText.AllDigits p ∧ p ≠ [] := by
  simp only [fig, Bool.and_eq_true, List.all_eq_true, Bool.not_eq_true', List.isEmpty_eq_false_iff] at h
  exact ⟨fun c hc => by have := h.1 c hc; simp [dig] at this; exact this, h.2.1⟩
theorem fig_all {p : List Nat} (h : fig p = true) : p.all dig = true := by
  simp only [fig, Bool.and_eq_true] at h; exact h.1
theorem intS_fig {p : List Nat} (h : fig p = true) (hl : p.length ≤ 640) : intS [sD p] = some (.int (NumText.digitsVal p : Nat)) := by
  obtain ⟨h1, h2⟩ := fig_digits h
  show (if (S p).length ≤ 640 then (intText? (S p)).map PyData.int else none) = _
  rw [if_pos (S_le hl), intText_digits (x := S p) h1 h2 (by rw [S_len]; omega)]
  rfl
theorem number_read (p : List Nat) (hl : p.length ≤ 640) : F_a_number_read [sD p] = some (.ok (oD (numR p))) := by
  show runM (m_a_number_read (sD p)) = _
  unfold m_a_number_read
  cases p with
  | nil => simp [sD, w_nil, numR, fig, oD]
  | cons c r =>
    simp only [bind2_s, idx_s0 c r (by simp at hl; omega), eqS_s, neS_s, w_nil, w_0, S_eq, boolM_s, List.cons.injEq, and_true, reduceCtorEq, decide_false, orM_f, consM_s, signM_S, forM_s]
    rw [sgn_loop]
    by_cases h0 : c = 48
    · subst h0
      by_cases hr : r = []
      · subst hr
        have : fig [48] = true := by decide
        simp [numR, this, oD, intS_fig this, dig]
      · have : fig (48 :: r) = false := by simp [fig, hr]
        simp [hr, numR, this, oD]
    · simp only [h0, decide_false, andM_f, ifM_f, seqM_ok]
      by_cases hd : (c :: r).all dig = true
      · have hf : fig (c :: r) = true := by
          simp only [fig, hd, Bool.true_and]
          simp [h0]
        rw [if_pos hd, Option.bind_some, intS_fig hf hl]
        simp [numR, hf, oD]
      · have hf : fig (c :: r) = false := by
          simp only [fig, Bool.eq_false_iff.mpr hd, Bool.false_and]
        rw [if_neg hd]
        simp [numR, hf, oD]
theorem figures (p : List Nat) (hl : p.length ≤ 640) : F_law_figures [sD p] = some (.ok (.bool (fig p))) := by
  show runM (m_law_figures (sD p)) = _
  unfold m_law_figures
  simp only [signM_S, forM_s, bind2_s]
  rw [sgn_loop]
  by_cases hd : p.all dig = true
  · rw [if_pos hd]
    have hz : (S p).length ≤ sizeLine := S_le (Nat.le_trans hl (by decide))
    have e1 : lenD [sD p] = some (.int (p.length : Nat)) := by
      show (if (S p).length ≤ sizeLine then some (PyData.int ((S p).length : Nat)) else none) = _
      rw [if_pos hz, S_len]
    cases p with
    | nil => simp [e1, fig]
    | cons c r =>
      simp only [bind2_s, idx_s0 c r (by simp at hl; omega), consM_s, Option.bind_some, e1, gtI_s, eqS_s, neS_s, w_0, S_eq]
      by_cases h0 : (c :: r) = [48]
      · obtain ⟨rfl, rfl⟩ : c = 48 ∧ r = [] := by simpa using h0
        simp [fig, dig]
      · have e2 : decide ((0 : Int) < ((c :: r).length : Nat)) = true := by simp <;> omega
        rw [e2]
        have e3 : ([c] = [48]) = (c = 48) := by simp
        have e4 : ((c :: r) == [48]) = false := by simpa using h0
        have e5 : fig (c :: r) = !decide (c = 48) := by
          unfold fig
          rw [hd, e4]
          by_cases h : c = 48 <;> simp [h]
        simp only [h0, decide_false, andD_t, orD_f, e3, e5, retM_s, runM_rt]
  · rw [if_neg hd]
    have hf : fig p = false := by simp only [fig, Bool.eq_false_iff.mpr hd, Bool.false_and]
    simp [hf]
end UT.M
end
section
set_option Elab.async false
set_option linter.all false
set_option maxRecDepth 100000
set_option maxHeartbeats 4000000
/-! plain: whole numbers in texts; parts of texts -/
namespace UT.M
open PySem PySem.Spec PyProof.Rows L2 SX
def intR : List Nat → Option Int
  | 45 :: q => match numR q with
    | some n => if n = 0 then none else some (-(n : Int))
    | none => none
  | p => (numR p).map fun (n : Nat) => (n : Int)
def oI (o : Option Int) : PyData := match o with
  | some n => .int n
  | none => .none
theorem starts_1 (p : List Nat) (c : Nat) : Txt.startswith (S p) (S [c]) = decide (p.head? = some c) := by
  unfold Txt.startswith
  rw [StrLaws.subAt_eq, S_len, S_len]
  cases p with
  | nil => rfl
  | cons d r =>
    rw [Bool.eq_iff_iff]
    simp
theorem slcS_1 (p : List Nat) (h : p.length < 1000000) : slcS (sD p) (some 1) none = some (sD (p.drop 1)) := by
  have hz : (S p).length ≤ sizeLine := S_le (Nat.le_trans (by omega) (by decide : (1000000 : Nat) ≤ sizeLine))
  show (if (S p).length ≤ sizeLine then some (PyData.str (cutS (S p) (some 1) none)) else none) = _
  rw [if_pos hz]
  unfold cutS
  rw [S_len]
  have e : HT.sIx p.length 0 (some 1) = min 1 p.length := HT.sIx_nat p.length 0 1
  rw [e, HT.sIx_none]
  congr 2
  show S (((p.drop (min 1 p.length)).take (p.length - min 1 p.length))) = _
  cases p with
  | nil => rfl
  | cons c r =>
    have : min 1 (c :: r).length = 1 := by simp
    rw [this]
    congr 1
    exact List.take_of_length_le (by simp)
theorem fnP_number (p : List Nat) (hl : p.length ≤ 640) : fnP F_a_number_read 1 (some [sD p]) = some (oD (numR p)) :=
  fnP_ok (number_read p hl) rfl (by cases numR p <;> simp [oD])
theorem fnP_figures (p : List Nat) (hl : p.length ≤ 640) : fnP F_law_figures 1 (some [sD p]) = some (.bool (fig p)) :=
  fnP_ok (figures p hl) rfl (by simp)
theorem integer_read (p : List Nat) (hl : p.length ≤ 640) : F_a_integer_read [sD p] = some (.ok (oI (intR p))) := by
  show runM (m_a_integer_read (sD p)) = _
  unfold m_a_integer_read
  simp only [bind2_s, consM_s, Option.bind_some, w_mi, partM_i, slcM_s]
  show runM (seqM (ifM (boolM (some (.bool (Txt.startswith (S p) (S [45]))))) _ _) _) = _
  rw [starts_1, slcS_1 p (by omega)]
  by_cases h : p.head? = some 45
  · cases p with
    | nil => cases h
    | cons c q =>
      obtain rfl : c = 45 := by simpa using h
      have hq : q.length ≤ 640 := by simp at hl; omega
      simp only [List.head?_cons, decide_true, boolM_s, ifM_t, List.drop_succ_cons, List.drop_zero, consM_s, fnP_number q hq, okM_s, seqM_ok]
      unfold intR
      cases hn : numR q with
      | none => simp [oD, oI, hn]
      | some n =>
        by_cases h0 : n = 0
        · subst h0; simp [oD, oI, hn]
        · have : ¬ ((n : Int) = 0) := by omega
          simp [oD, oI, h0, hn]
  · have e : intR p = (numR p).map fun (n : Nat) => (n : Int) := by
      unfold intR
      split
      · simp at h
      · rfl
    rw [e]
    simp only [h, decide_false, boolM_s, ifM_f, seqM_ok, fnP_number p hl, retM_s, runM_rt]
    cases numR p <;> rfl
theorem fnP_integer (p : List Nat) (hl : p.length ≤ 640) : fnP F_a_integer_read 1 (some [sD p]) = some (oI (intR p)) :=
  fnP_ok (integer_read p hl) rfl (by cases intR p <;> simp [oI])
/-- int(part), the part read by intR -/
theorem intS_intR {p : List Nat} {i : Int} (h : intR p = some i) (hl : p.length ≤ 640) : intS [sD p] = some (.int i) := by
  unfold intR at h
  split at h
  · rename_i q
    cases hn : numR q with
    | none => rw [hn] at h; cases h
    | some n =>
      rw [hn] at h
      unfold numR at hn
      split at hn
      · rename_i hf
        obtain ⟨h1, h2⟩ := fig_digits hf
        cases hn
        dsimp only at h
        split at h
        · cases h
        · cases h
          show (if (S (45 :: q)).length ≤ 640 then (intText? (S (45 :: q))).map PyData.int else none) = _
          rw [if_pos (S_le hl), intText_neg (x := S (45 :: q)) rfl h1 h2 (by rw [S_len]; omega)]
          rfl
      · cases hn
  · obtain ⟨n, hn, rfl⟩ := Option.map_eq_some_iff.mp h
    unfold numR at hn
    split at hn
    · rename_i hf
      cases hn
      exact intS_fig hf hl
    · cases hn
end UT.M
end
section
set_option Elab.async false
set_option linter.all false
set_option maxRecDepth 100000
set_option maxHeartbeats 4000000
/-! plain: the reader of operations, twice -/
namespace UT.M
open PySem PySem.Spec PyProof.Rows L2 SX
def sp (l : List Nat) : List (List Nat) := TL.spl [32] 0 [] l
/-- a text that may be read: its parts are not long -/
structure Ok (l : List Nat) : Prop where
  len : l.length ≤ 50000
  parts : ∀ p ∈ sp l, p.length ≤ 640
theorem split_sp (l : List Nat) : Txt.split (S l) (S [32]) = (sp l).map S := split_S (by decide) (by decide)
theorem sp_ne (l : List Nat) : sp l ≠ [] := by
  intro h
  have e := split_sp l
  have h1 := PyProof.Rows.split_pos (S l) (S [32])
  rw [e, h] at h1
  simp at h1
theorem sp_len (l : List Nat) : (sp l).length ≤ l.length + 2 := by
  have h1 := PyProof.Rows.split_le (S l) (S [32])
  rw [split_sp, List.length_map, S_len] at h1
  exact h1
theorem splitD_sp {l : List Nat} (h : l.length ≤ 100000) : splitD (sD l) (.str (Str.ofString " ")) = some (.list ((sp l).map sD)) := by
  rw [w_sp]
  have e : ((S l).length + 2 ≤ sizeLine) := by
    rw [S_len]
    exact Nat.le_trans (by omega : l.length + 2 ≤ 200000) (by decide)
  show (if ((S [32]).length == 0) = false ∧ (S l).length + 2 ≤ sizeLine then some (PyData.list ((Txt.split (S l) (S [32])).map PyData.str)) else none) = _
  rw [if_pos ⟨rfl, e⟩, split_sp, List.map_map]
  rfl
/-! answers -/
def progR : Except Nat PyData → Except Err PyData
  | .ok d => .ok d
  | .error k => .error ⟨.text, .int 0, .int (k : Int)⟩
def noD (k : Nat) : PyData := .tuple [.str "text", .int 0, .int (k : Int), .bool true]
def lawR : Except Nat PyData → PyData
  | .ok d => .tuple [.str "ok", d]
  | .error k => noD k
theorem fnP_no (k : Nat) : fnP F_law_no 1 (some [.int (k : Int)]) = some (noD k) :=
  fnP_ok (d := noD k) (by simp [F_law_no, m_law_no, noD]) rfl (by simp [noD, pureT, pureL])
theorem raise_text (k : Nat) {T : Type} : (raiseM .text (some [.int 0, .int (k : Int)]) : SM T) = some (.error (.er ⟨.text, .int 0, .int (k : Int)⟩)) := raise_ii _ _ _
/-! walks -/
def enumFrom (k : Nat) (ds : List PyData) : List PyData := (ds.zipIdx k).map fun p => .tuple [.int (p.2 : Nat), p.1]
theorem enumL_0 (ds : List PyData) : enumL ds = enumFrom 0 ds := rfl
theorem enumFrom_n (k : Nat) : enumFrom k [] = [] := rfl
theorem enumFrom_c (k : Nat) (d : PyData) (ds : List PyData) : enumFrom k (d :: ds) = .tuple [.int (k : Int), d] :: enumFrom (k + 1) ds := by
  simp [enumFrom, List.zipIdx_cons]
theorem rngL_0 (lo : Int) : rngL lo 0 = [] := rfl
theorem rngL_s (lo : Int) (n : Nat) : rngL lo (n + 1) = .int lo :: rngL (lo + 1) n := by
  unfold rngL
  rw [List.range_succ_eq_map]
  simp only [List.map_cons, List.map_map]
  congr 1
  · simp
  · apply List.map_congr_left
    intro i _
    simp
    omega
@[simp] theorem enumM_s (es : List PyData) : enumM (some [.list es]) = some (enumL es) := rfl
@[simp] theorem pairM_s {α : Type} (a b : PyData) (f : PyData → PyData → Option α) : pairM (.tuple [a, b]) f = f a b := rfl
theorem rng2_s (a b : Nat) (ha : a ≤ 1000000) (hb : b ≤ 1000000) : rng2M (some [.int (a : Int), .int (b : Int)]) = some (rngL (a : Int) (b - a)) := by
  unfold rng2M
  rw [Option.bind_some]
  dsimp only
  rw [if_pos (by refine ⟨⟨?_, ?_⟩, ?_, ?_⟩ <;> omega), show ((b : Int) - (a : Int)).toNat = b - a by omega]
theorem rng1_s (b : Nat) (hb : b ≤ 1000000) : rng1M (some [.int (b : Int)]) = some (rngL 0 b) := by
  unfold rng1M
  rw [Option.bind_some]
  dsimp only
  rw [if_pos (by refine ⟨?_, ?_⟩ <;> omega), Int.toNat_natCast]
abbrev iN (n : Nat) : PyData := .int (n : Int)
/-! the operation words -/
def need (s : Str) : Option Nat := (opW.lookup s).map Int.toNat
theorem need_spec (s : Str) : opwNin (.str s) = some (.bool (need s).isNone) ∧ (∀ m, need s = some m → opwGet (.str s) = some (iN m) ∧ m ≤ 2) ∧
    needD (.str s) = some (oD (need s)) := by
  by_cases h : s ∈ opW.map (·.1)
  · have h' : s = "sum" ∨ s = "product" ∨ s = "most" ∨ s = "least" ∨ s = "first" ∨ s = "last" ∨ s = "or" ∨ s = "maps" ∨ s = "grids" ∨ s = "brackets" ∨ s = "spans" ∨ s = "counts" := by simpa [opW] using h
    rcases h' with rfl | rfl | rfl | rfl | rfl | rfl | rfl | rfl | rfl | rfl | rfl | rfl <;>
      refine ⟨by simp [opwNin, opW, need, List.lookup_cons], fun m hm => ?_, by simp [needD, needV, need, opW, List.lookup_cons, oD]⟩ <;>
      (simp [need, opW, List.lookup_cons] at hm; subst hm; simp [opwGet, opW, List.lookup_cons])
  · have h0 : opW.lookup s = none := by
      rw [List.lookup_eq_none_iff]
      intro p hp
      have : s ≠ p.1 := fun e => h (List.mem_map.mpr ⟨p, hp, e.symm⟩)
      simpa using this
    have hn : need s = none := by unfold need; rw [h0]; rfl
    rw [hn]
    have hc : (opW.map (·.1)).contains s = false := by simpa using h
    refine ⟨by show some (PyData.bool (!(opW.map (·.1)).contains s)) = _; rw [hc]; rfl, (fun m hm => by cases hm), ?_⟩
    have ne : ∀ w : Str, w ∈ opW.map (·.1) → s ≠ w := fun w hw e => h (e ▸ hw)
    have q1 := ne "sum" (by simp [opW])
    have q2 := ne "product" (by simp [opW])
    have q3 := ne "most" (by simp [opW])
    have q4 := ne "least" (by simp [opW])
    have q5 := ne "first" (by simp [opW])
    have q6 := ne "last" (by simp [opW])
    have q7 := ne "or" (by simp [opW])
    have q8 := ne "maps" (by simp [opW])
    have q9 := ne "grids" (by simp [opW])
    have q10 := ne "brackets" (by simp [opW])
    have q11 := ne "spans" (by simp [opW])
    have q12 := ne "counts" (by simp [opW])
    simp [needD, needV, oD, q1, q2, q3, q4, q5, q6, q7, q8, q9, q10, q11, q12]
end UT.M
end
section
set_option Elab.async false
set_option linter.all false
set_option maxRecDepth 100000
set_option maxHeartbeats 4000000
/-! plain: the reader of operations, twice -/
namespace UT.M
open PySem PySem.Spec PyProof.Rows L2 SX
def goO (m : Nat) : Nat → List (List Nat) → List Nat → Except Nat (List Nat)
  | _, [], acc => .ok acc
  | k, p :: ps, acc => match numR p with
    | some n => if m ≤ k ∨ n = 0 then .error k else goO m (k + 1) ps (acc ++ [n])
    | none => .error k
def ro (l : List Nat) : Except Nat PyData := match sp l with
  | [] => .error 0
  | w :: ps => match need (S w) with
    | none => .error 0
    | some m => match goO m 0 ps [] with
      | .error k => .error (k + 1)
      | .ok ns => if ns.length < m then .error (ps.length + 1) else .ok (.tuple (sD w :: ns.map iN))
theorem progO (m : Nat) : ∀ (ps : List (List Nat)) (k : Nat) (acc : List Nat), (∀ p ∈ ps, p.length ≤ 640) → acc.length + ps.length ≤ 60000 →
    forM' (S := List PyData) (fun s6 q => pairM q fun x7 x8 =>
      seqM (okM (fnP F_a_number_read 1 (consM (some x8) (some [])))) fun d9 =>
      seqM (ifM (S := Unit) (orM (boolM (bind2 (some x7) (some (iN m)) geI)) (orM (boolM (bind2 (some d9) (some .none) isN)) (boolM (bind2 (some d9) (some (.int 1)) ltI))))
      (raiseM .text (consM (some (.int 0)) (consM (bind2 (some x7) (some (.int 1)) addI) (some []))))
      (some (.ok ()))) fun s10 =>
      seqM (okM ((some d9).bind fun d => if (s6).length < 100000 then some (s6 ++ [d]) else none)) fun l11 =>
      some (.ok l11)) (enumFrom k (ps.map sD)) (acc.map iN) =
    match goO m k ps acc with
    | .ok a => some (.ok (a.map iN))
    | .error j => some (.error (.er ⟨.text, .int 0, iN (j + 1)⟩))
  | [], k, acc, _, _ => rfl
  | p :: ps, k, acc, h, hl => by
    have hp := h p (List.mem_cons_self ..)
    have ih := fun a ha => progO m ps (k + 1) (acc ++ [a]) (fun q hq => h q (List.mem_cons_of_mem _ hq)) ha
    rw [List.map_cons, enumFrom_c, forM'_c, pairM_s, consM_s, fnP_number p hp]
    unfold goO
    have hk : ((k : Int) + 1) = ((k + 1 : Nat) : Int) := by omega
    cases hn : numR p with
    | none =>
      simp only [oD, okM_s, seqM_ok, bind2_s, geI_s, isN_n, boolM_s, addI_s, consM_s]
      cases hd : decide ((m : Int) ≤ (k : Int)) <;> simp only [orM_t, orM_f, ifM_t, seqM_er, hk, raise_text]
    | some n =>
      have hlen : (acc.map iN).length < 100000 := by rw [List.length_map]; simp at hl; omega
      simp only [oD, okM_s, seqM_ok, bind2_s, geI_s, isN_i, boolM_s, addI_s, consM_s, ltI_s, orM_f, Option.bind_some, if_pos hlen]
      have hc : (orM (some (decide ((m : Int) ≤ (k : Int)))) (some (decide ((n : Int) < 1)))) = some (decide (m ≤ k ∨ n = 0)) := by
        by_cases h1 : m ≤ k
        · have : (m : Int) ≤ (k : Int) := by omega
          simp [h1, this]
        · have : ¬ (m : Int) ≤ (k : Int) := by omega
          have h3 : ((n : Int) < 1) = (n = 0) := by apply propext; omega
          simp [h1, this, h3]
      rw [hc]
      by_cases hb : m ≤ k ∨ n = 0
      · rw [ifM_y hb, if_pos hb, hk, raise_text]; rfl
      · rw [ifM_n hb, if_neg hb]
        have := ih n (by simp at hl ⊢; omega)
        rw [List.map_append] at this
        exact this
theorem goO_ok {m : Nat} : ∀ {ps : List (List Nat)} {k : Nat} {acc a : List Nat}, goO m k ps acc = .ok a → ∃ ns, a = acc ++ ns ∧ ns.length = ps.length ∧ ps.map numR = ns.map some
  | [], k, acc, a, h => by cases h; exact ⟨[], by simp, rfl, rfl⟩
  | p :: ps, k, acc, a, h => by
    unfold goO at h
    split at h
    · rename_i n hn
      split at h
      · cases h
      · obtain ⟨ns, e1, e2, e3⟩ := goO_ok h
        exact ⟨n :: ns, by rw [e1]; simp, by simp [e2], by simp [hn, e3]⟩
    · cases h
theorem fold_pos : ∀ (p : List Nat) (a : Nat), 0 < a → 0 < p.foldl (fun acc c => acc * 10 + (c - 48)) a
  | [], a, h => h
  | c :: p, a, h => fold_pos p _ (by show 0 < a * 10 + (c - 48); omega)
theorem dig_zero {p : List Nat} (h : fig p = true) : (p = [48]) = (NumText.digitsVal p = 0) := by
  apply propext
  constructor
  · intro e; subst e; rfl
  · intro e
    cases p with
    | nil => simp [fig] at h
    | cons c r =>
      by_cases hc : c = 48
      · subst hc
        simp only [fig, Bool.and_eq_true] at h
        have := h.2.2
        simpa using this
      · exfalso
        have hd := (fig_digits h).1 c (List.mem_cons_self ..)
        have : 0 < NumText.digitsVal (c :: r) := by
          unfold NumText.digitsVal
          rw [List.foldl_cons]
          exact fold_pos r _ (by show 0 < 0 * 10 + (c - 48); omega)
        omega
theorem map_int : ∀ {ps : List (List Nat)} {ns : List Nat}, ps.map numR = ns.map some → (∀ p ∈ ps, p.length ≤ 640) → mapO (fun x => (consM (some x) (some [])).bind intS) (ps.map sD) = some (ns.map iN)
  | [], [], _, _ => rfl
  | [], _ :: _, h, _ => by cases h
  | _ :: _, [], h, _ => by cases h
  | p :: ps, n :: ns, h, hp => by
    rw [List.map_cons, List.map_cons] at h
    injection h with h1 h2
    have ih := map_int h2 fun q hq => hp q (List.mem_cons_of_mem _ hq)
    have e : intS [sD p] = some (iN n) := by
      unfold numR at h1
      split at h1
      · rename_i hf
        cases h1
        exact intS_fig hf (hp p (List.mem_cons_self ..))
      · cases h1
    show (((consM (some (sD p)) (some [])).bind intS).bind fun e => (mapO _ (ps.map sD)).bind fun es => some (e :: es)) = _
    rw [consM_s, Option.bind_some, e, ih]
    rfl
theorem read_operation {l : List Nat} (h : Ok l) : F_read_operation [sD l] = some (progR (ro l)) := by
  show runM (m_read_operation (sD l)) = _
  unfold m_read_operation ro
  have hl := h.len
  have hn := sp_len l
  have hne := sp_ne l
  have hp := h.parts
  rw [bind2_s, splitD_sp (by omega)]
  simp only [Option.bind_some, isi_ss, boolM_s, notM_s, Bool.not_true, ifM_f, seqM_ok, okM_s, bind2_s]
  cases hs : sp l with
  | nil => exact absurd hs hne
  | cons w ps =>
    rw [hs] at hp hn
    obtain ⟨n1, n2, _⟩ := need_spec (S w)
    simp only [List.map_cons, idx_l0, Option.bind_some, n1]
    cases hw : need (S w) with
    | none =>
      simp only [Option.isNone_none, boolM_s, ifM_t, consM_s]
      rfl
    | some m =>
      obtain ⟨n3, n4⟩ := n2 m hw
      simp only [Option.isNone_some, boolM_s, ifM_f, seqM_ok, n3, okM_s, List.length_nil, Nat.zero_le, if_true, partM_i, slcM_s, slcL_1, consM_s, enumM_s, enumL_0, forM_s]
      have q := progO m ps 0 [] (fun p hq => hp p (List.mem_cons_of_mem _ hq)) (by simp at hn ⊢; omega)
      rw [List.map_nil] at q
      simp only [bind2_s, consM_s, Option.bind_some] at q
      rw [q]
      cases hg : goO m 0 ps [] with
      | error j => rfl
      | ok a =>
        obtain ⟨ns, e1, e2, e3⟩ := goO_ok hg
        simp only [seqM_ok, lenD_l, Option.bind_some, bind2_s, ltI_s, boolM_s, List.length_map]
        by_cases hc : a.length < m
        · have : (a.length : Int) < (m : Int) := by omega
          rw [ifM_y this, if_pos hc]
          have hk : ((sD w :: ps.map sD).length : Int) = ((ps.length + 1 : Nat) : Int) := by simp
          simp only [hk, consM_s]
          rw [raise_text]
          rfl
        · have : ¬ (a.length : Int) < (m : Int) := by omega
          rw [ifM_n this, if_neg hc]
          have hal : a.length = ps.length := by rw [e1]; simpa using e2
          have : (sD w :: (a.map iN ++ [])).length ≤ 100000 := by simp [hal] at hn ⊢; omega
          have es : starM (some (.list (a.map iN))) (some []) = some (a.map iN ++ []) := rfl
          rw [seqM_ok, es, consM_s, tupM_s, if_pos this, List.append_nil]
          rfl
theorem lawO (m : Nat) (d1 : List PyData) : ∀ (ps : List (List Nat)) (k : Nat), (∀ p ∈ ps, p.length ≤ 640) → d1.drop (k + 1) = ps.map sD → ∀ acc,
    forM' (S := Unit) (fun s4 x5 =>
      seqM (ifM (S := Unit) (orM (boolM (bind2 (some x5) (some (iN m)) gtI)) (orM (notM (boolM (fnP F_law_figures 1 (consM (bind2 (some (.list d1)) (some x5) idx) (some []))))) (boolM (bind2 (bind2 (some (.list d1)) (some x5) idx) (some (.str "0")) eqS))))
      (retM (fnP F_law_no 1 (consM (some x5) (some []))))
      (some (.ok ()))) fun s6 =>
      some (.ok ())) (rngL ((k + 1 : Nat) : Int) ps.length) () =
    match goO m k ps acc with
    | .ok a => some (.ok ())
    | .error j => some (.error (.rt (noD (j + 1))))
  | [], k, _, _, acc => rfl
  | p :: ps, k, h, hd, acc => by
    have hp := h p (List.mem_cons_self ..)
    have hk : ((k + 1 : Nat) : Int) + 1 = ((k + 1 + 1 : Nat) : Int) := by omega
    have hd' : d1.drop (k + 1 + 1) = ps.map sD := by
      have := congrArg (List.drop 1) hd
      rw [List.drop_drop] at this
      rw [show k + 1 + 1 = 1 + (k + 1) by omega] 
      simpa [Nat.add_comm] using this
    have hx : d1[k + 1]? = some (sD p) := by
      have := congrArg (fun l => l[0]?) hd
      simpa using this
    have ih := fun acc => lawO m d1 ps (k + 1) (fun q hq => h q (List.mem_cons_of_mem _ hq)) hd' acc
    rw [List.length_cons, rngL_s, forM'_c, hk]
    simp only [bind2_s, idx_l, hx, consM_s, fnP_figures p hp, gtI_s, boolM_s, notM_s, eqS_s, w_0, S_eq, fnP_no, retM_s]
    unfold goO
    by_cases h1 : m ≤ k
    · have e1 : decide ((m : Int) < ((k + 1 : Nat) : Int)) = true := by simp; omega
      rw [e1]
      simp only [orM_t, ifM_t, seqM_er]
      cases numR p with
      | none => rfl
      | some n => simp [h1]
    · have e1 : decide ((m : Int) < ((k + 1 : Nat) : Int)) = false := by simp; omega
      rw [e1]
      cases hf : fig p with
      | false =>
        have : numR p = none := by simp [numR, hf]
        simp [this]
      | true =>
        have hn : numR p = some (NumText.digitsVal p) := by simp [numR, hf]
        rw [hn]
        have hz : (p = [48]) = (NumText.digitsVal p = 0) := dig_zero hf
        simp only [hz, Bool.not_true, orM_f, h1, false_or]
        by_cases h0 : NumText.digitsVal p = 0
        · simp [h0]
        · simp only [h0, decide_false, ifM_f, seqM_ok, if_false]
          have := ih (acc ++ [NumText.digitsVal p])
          simp only [bind2_s, consM_s, w_0] at this
          exact this
theorem fnP_need (w : List Nat) : fnP F_law_need 1 (some [sD w]) = some (oD (need (S w))) := by
  obtain ⟨_, _, n⟩ := need_spec (S w)
  refine fnP_ok (d := oD (need (S w))) ?_ rfl (by cases need (S w) <;> simp [oD])
  show (needD (sD w)).map (fun d => (Except.ok d : Except Err PyData)) = _
  rw [n]; rfl
theorem law_operation_due {l : List Nat} (h : Ok l) : F_law_operation_due [sD l] = some (.ok (lawR (ro l))) := by
  show runM (m_law_operation_due (sD l)) = _
  unfold m_law_operation_due ro
  have hl := h.len
  have hn := sp_len l
  have hne := sp_ne l
  have hp := h.parts
  rw [bind2_s, splitD_sp (by omega)]
  simp only [okM_s, seqM_ok]
  cases hs : sp l with
  | nil => exact absurd hs hne
  | cons w ps =>
    rw [hs] at hp hn
    have hle : ps.length ≤ 60000 := by simp at hn; omega
    have hlen : ((sD w :: ps.map sD).length : Int) = ((ps.length + 1 : Nat) : Int) := by simp
    simp only [List.map_cons, bind2_s, idx_l0, consM_s, fnP_need, okM_s, seqM_ok, lenD_l, Option.bind_some, hlen]
    cases hw : need (S w) with
    | none =>
      have := fnP_no 0
      simp only [oD, isN_n, boolM_s, ifM_t, show (0 : Int) = ((0 : Nat) : Int) from rfl, this]
      rfl
    | some m =>
      have q := lawO m (sD w :: ps.map sD) ps 0 (fun p hq => hp p (List.mem_cons_of_mem _ hq)) rfl []
      have er := rng2_s 1 (ps.length + 1) (by omega) (by omega)
      rw [show ((1 : Nat) : Int) = 1 from rfl, Nat.add_sub_cancel] at er
      simp only [bind2_s, consM_s, Nat.zero_add] at q
      rw [show ((1 : Nat) : Int) = 1 from rfl] at q
      simp only [oD, isN_i, boolM_s, ifM_f, seqM_ok, er, forM_s, q]
      cases hg : goO m 0 ps [] with
      | error j => rfl
      | ok a =>
        obtain ⟨ns, e1, e2, e3⟩ := goO_ok hg
        rw [List.nil_append] at e1
        subst e1
        simp only [seqM_ok, leI_s, boolM_s]
        by_cases hc : a.length < m
        · have : ((ps.length + 1 : Nat) : Int) ≤ (m : Int) := by omega
          rw [ifM_y this, if_pos hc, fnP_no]
          rfl
        · have : ¬ ((ps.length + 1 : Nat) : Int) ≤ (m : Int) := by omega
          rw [ifM_n this, if_neg hc, seqM_ok]
          have h1 : slcL (.list (sD w :: ps.map sD)) none (some 1) = some (.list [sD w]) := by
            simp [slcL, HT.sIx, cutD]
          have hm := map_int e3 fun p hq => hp p (List.mem_cons_of_mem _ hq)
          simp only [consM_s, Option.bind_some] at hm
          have hlc : lcM (some (ps.map sD)) (fun x9 => intS [x9]) = some (.list (a.map iN)) := by
            show (if (ps.map sD).length ≤ 100000 then (mapO _ (ps.map sD)).map PyData.list else none) = _
            rw [if_pos (by simp; omega), hm]; rfl
          simp only [partM_i, slcM_s, h1, slcL_1, listM_s, hlc, bind2_s]
          have hcat : catL (.list [sD w]) (.list (a.map iN)) = some (.list (sD w :: a.map iN)) := by
            show (if _ then _ else _) = _
            rw [if_pos (by simp; omega)]; rfl
          rw [hcat]
          simp [lawR]
end UT.M
end
section
set_option Elab.async false
set_option linter.all false
set_option maxRecDepth 100000
set_option maxHeartbeats 4000000
/-! plain: the reader of values, twice: one part -/
namespace UT.M
open PySem PySem.Spec PyProof.Rows L2 SX
def stand : Op → List Int → Int → Bool
  | .most, _, _ => true | .least, _, _ => true | .first, _, _ => true | .last, _, _ => true
  | .sum m, _, n => decide (0 ≤ n) && decide (n < (m : Int))
  | .prod m, _, n => decide (0 ≤ n) && decide (n < (m : Int))
  | .maps m, _, n => decide (0 ≤ n) && decide (n < (m : Int))
  | .grids _ m, _, n => decide (0 ≤ n) && decide (n < (m : Int))
  | .spans, acc, n => decide (0 ≤ n) && (match acc with
    | a :: _ => decide (a < n)
    | [] => true)
  | .or, _, n => decide (0 ≤ n) | .brackets, _, n => decide (0 ≤ n) | .counts _, _, n => decide (0 ≤ n)
def chk (o : Op) (k : Nat) (acc : List Int) (p : List Nat) : Option Int := if o.many ≤ k then none else (intR p).bind fun n => if stand o acc n = true then some n else none
@[simp] theorem inT_s (x : Str) (b : List PyData) : inT (.str x) (.tuple b) = (strsOf b).bind fun ys => some (.bool (ys.contains x)) := rfl
@[simp] theorem idx_m1a (a b : PyData) : idx (.tuple [a, b]) (.int (-1)) = some b := rfl
@[simp] theorem idx_m1b (a b c : PyData) : idx (.tuple [a, b, c]) (.int (-1)) = some c := rfl
theorem can_stand (o : Op) (acc : List Int) (n : Int) : F_can_stand [opD o, .list (acc.map .int), .int n] = some (.ok (.bool (stand o acc n))) := by
  show runM (m_can_stand _ _ _) = _
  cases o <;> by_cases h : n < 0 <;>
    simp [m_can_stand, opD, Op.w, Op.ps, stand, List.contains_cons, h] <;>
    (try (cases acc <;> simp)) <;> (try omega)
theorem figures_due (o : Op) (h : o.ok) : F_figures_due [opD o] = some (.ok (iN o.many)) := by
  show runM (m_figures_due _) = _
  cases o
  case grids n m =>
    have hn : n < 18446744073709551616 := by have := h n (by simp [Op.ps]); omega
    simp [m_figures_due, opD, Op.w, Op.ps, Op.many, List.contains_cons, hn]
  all_goals simp [m_figures_due, opD, Op.w, Op.ps, Op.many, List.contains_cons]
theorem law_many (o : Op) (h : o.ok) : F_law_many [opD o] = some (.ok (iN o.many)) := by
  show runM (m_law_many _) = _
  cases o
  case grids n m =>
    have hn : n < 18446744073709551616 := by have := h n (by simp [Op.ps]); omega
    simp [m_law_many, opD, Op.w, Op.ps, Op.many, hn]
  all_goals simp [m_law_many, opD, Op.w, Op.ps, Op.many]
theorem fnP_stand (o : Op) (acc : List Int) (n : Int) : fnP F_can_stand 3 (some [opD o, .list (acc.map .int), .int n]) = some (.bool (stand o acc n)) := fnP_ok (can_stand o acc n) rfl (by simp)
theorem fnP_due (o : Op) (h : o.ok) : fnP F_figures_due 1 (some [opD o]) = some (iN o.many) := fnP_ok (figures_due o h) rfl (by simp)
theorem fnP_many (o : Op) (h : o.ok) : fnP F_law_many 1 (some [opD o]) = some (iN o.many) := fnP_ok (law_many o h) rfl (by simp)
/-- the part that the law looks at -/
def seen (o : Op) (p : List Nat) : List Nat := if o.neg = true ∧ p.take 1 = [45] ∧ p ≠ [45, 48] then p.drop 1 else p
/-- the law's look at one part -/
def over : Op → Nat → List Int → List Nat → Bool
  | .sum m, _, _, p => decide (m ≤ NumText.digitsVal p) | .prod m, _, _, p => decide (m ≤ NumText.digitsVal p) | .maps m, _, _, p => decide (m ≤ NumText.digitsVal p) | .grids _ m, _, _, p => decide (m ≤ NumText.digitsVal p)
  | .spans, k, acc, p => decide (k = 1) && (match acc with
      | a :: _ => decide ((NumText.digitsVal p : Int) ≤ a)
      | [] => false)
  | _, _, _, _ => false
def chkL (o : Op) (k : Nat) (acc : List Int) (p : List Nat) : Option Int :=
  if o.many ≤ k ∨ fig (seen o p) = false then none else if over o k acc p = true then none else intR p
theorem take1 (p : List Nat) : (p.take 1 = [45]) = (p.head? = some 45) := by
  cases p <;> simp
theorem fig_head {p : List Nat} (h : fig p = true) : p.head? ≠ some 45 := by
  intro e
  cases p with
  | nil => cases e
  | cons c r =>
    obtain rfl : c = 45 := by simpa using e
    have := (fig_digits h).1 45 (List.mem_cons_self ..)
    omega
theorem intR_fig {p : List Nat} (h : fig p = true) : intR p = some (NumText.digitsVal p : Nat) := by
  have h1 := fig_head h
  unfold intR
  split
  · simp at h1
  · simp [numR, h]
theorem intR_nofig {p : List Nat} (h : fig p = false) (i : Int) (hi : intR p = some i) : i < 0 := by
  unfold intR at hi
  split at hi
  · split at hi
    · rename_i n hn
      split at hi
      · cases hi
      · cases hi; omega
    · cases hi
  · simp [numR, h] at hi
theorem ite_ln {a b : Nat} {x : Int} : (if a ≤ b then none else some x) = if b < a then some x else none := by
  by_cases h : b < a
  · rw [if_pos h, if_neg (by omega)]
  · rw [if_neg h, if_pos (by omega)]
theorem ite_li {a b x : Int} : (if b ≤ a then none else some x) = if a < b then some x else none := by
  by_cases h : a < b
  · rw [if_pos h, if_neg (by omega)]
  · rw [if_neg h, if_pos (by omega)]
theorem chk_eq (o : Op) (k : Nat) (acc : List Int) (p : List Nat) (hk : acc.length = k) : chkL o k acc p = chk o k acc p := by
  unfold chkL chk
  by_cases hm : o.many ≤ k
  · simp [hm]
  · simp only [hm, false_or, if_false]
    cases hn : o.neg with
    | false =>
      have hs : seen o p = p := by simp [seen, hn]
      rw [hs]
      cases hf : fig p with
      | false =>
        simp only [if_true]
        cases hi : intR p with
        | none => rfl
        | some i =>
          have h0 := intR_nofig hf i hi
          have : stand o acc i = false := by
            cases o <;> simp [Op.neg] at hn <;> simp [stand] <;> (try omega) <;> (intros; omega)
          simp [this]
      | true =>
        rw [intR_fig hf]
        simp only [Bool.true_eq_false, if_false, Option.bind_some]
        have nn : (0 : Int) ≤ (NumText.digitsVal p : Nat) := by omega
        cases o <;> simp [Op.neg] at hn <;> simp [stand, over, nn, ite_ln]
        case spans =>
          simp only [Op.many] at hm
          cases acc with
          | nil => simp
          | cons a r =>
            have : k = 1 := by simp at hk; omega
            simp [this, ite_li]
    | true =>
      have hst : ∀ i, stand o acc i = true := by
        intro i; cases o <;> simp [Op.neg] at hn <;> rfl
      have e : ∀ x : Option Int, (x.bind fun n => if stand o acc n = true then some n else none) = x := by
        intro x; cases x <;> simp [hst]
      rw [e]
      have hm2 : over o k acc p = false := by
        cases o <;> simp [Op.neg] at hn <;> rfl
      rw [hm2]
      simp only [Bool.false_eq_true, if_false]
      unfold seen
      simp only [take1]
      by_cases h45 : p.head? = some 45
      · cases p with
        | nil => cases h45
        | cons c q =>
          obtain rfl : c = 45 := by simpa using h45
          by_cases hq : q = [48]
          · subst hq
            have e1 : fig [45, 48] = false := by decide
            have e2 : intR [45, 48] = none := by decide
            simp [e1, e2]
          · have : (45 :: q) ≠ [45, 48] := by simpa using hq
            simp only [hn, h45, this, true_and, ne_eq, not_false_eq_true, and_self, if_true, List.drop_succ_cons, List.drop_zero]
            unfold intR
            cases hf : fig q with
            | false => simp [numR, hf]
            | true =>
              have hz := dig_zero hf
              have : NumText.digitsVal q ≠ 0 := fun e => hq (hz ▸ e)
              simp [numR, hf, this]
      · simp only [h45, hn, false_and, and_false, if_false]
        cases hf : fig p with
        | false =>
          have : intR p = none := by
            unfold intR
            split
            · simp at h45
            · simp [numR, hf]
          simp [this]
        | true => simp
end UT.M
end
section
set_option Elab.async false
set_option linter.all false
set_option maxRecDepth 100000
set_option maxHeartbeats 4000000
/-! plain: the reader of values, twice: the walks -/
namespace UT.M
open PySem PySem.Spec PyProof.Rows L2 SX
def Op.lim : Op → Option Nat
  | .sum m => some m | .prod m => some m | .maps n => some n | .grids _ m => some m | _ => none
def Op.isSpans : Op → Bool
  | .spans => true | _ => false
def Op.isGrids : Op → Bool
  | .grids _ _ => true | _ => false
theorem t_neg (o : Op) : boolM (bind2 (bind2 (some (opD o)) (some (.int 0)) idx) (tupM (consM (some (.str "most")) (consM (some (.str "least")) (consM (some (.str "first")) (consM (some (.str "last")) (some [])))))) inT) = some o.neg := by
  cases o <;> simp [opD, Op.w, Op.neg, List.contains_cons]
theorem t_lim (o : Op) : boolM (bind2 (bind2 (some (opD o)) (some (.int 0)) idx) (tupM (consM (some (.str "sum")) (consM (some (.str "product")) (consM (some (.str "maps")) (consM (some (.str "grids")) (some [])))))) inT) = some o.lim.isSome := by
  cases o <;> simp [opD, Op.w, Op.lim, List.contains_cons]
theorem t_spans (o : Op) : boolM (bind2 (bind2 (some (opD o)) (some (.int 0)) idx) (some (.str "spans")) eqS) = some o.isSpans := by
  cases o <;> simp [opD, Op.w, Op.isSpans]
theorem t_grids (o : Op) : boolM (bind2 (bind2 (some (opD o)) (some (.int 0)) idx) (some (.str "grids")) eqS) = some o.isGrids := by
  cases o <;> simp [opD, Op.w, Op.isGrids]
theorem t_last (o : Op) (m : Nat) (h : o.lim = some m) : bind2 (some (opD o)) ((some (.int 1)).bind negI) idx = some (iN m) := by
  cases o <;> simp [Op.lim] at h <;> subst h <;> simp [opD, Op.ps]
theorem lim_over (o : Op) (m k : Nat) (acc : List Int) (p : List Nat) (h : o.lim = some m) : over o k acc p = decide (m ≤ NumText.digitsVal p) ∧ o.neg = false ∧ o.isSpans = false := by
  cases o <;> simp [Op.lim] at h <;> subst h <;> simp [over, Op.neg, Op.isSpans]
theorem nolim_over (o : Op) (k : Nat) (acc : List Int) (p : List Nat) (h : o.lim = none) (hs : o.isSpans = false) : over o k acc p = false := by
  cases o <;> simp [Op.lim, Op.isSpans] at h hs <;> simp [over]
theorem slcS_t1 (p : List Nat) (h : p.length < 1000000) : slcS (sD p) none (some 1) = some (sD (p.take 1)) := by
  have hz : (S p).length ≤ sizeLine := S_le (Nat.le_trans (by omega) (by decide : (1000000 : Nat) ≤ sizeLine))
  show (if (S p).length ≤ sizeLine then some (PyData.str (cutS (S p) none (some 1))) else none) = _
  rw [if_pos hz]
  unfold cutS
  rw [S_len]
  have e : HT.sIx p.length p.length (some 1) = min 1 p.length := HT.sIx_nat p.length p.length 1
  rw [e, HT.sIx_none]
  congr 2
  show S ((p.drop 0).take (min 1 p.length - 0)) = _
  rw [List.drop_zero, Nat.sub_zero]
  congr 1
  cases p with
  | nil => rfl
  | cons c r => simp
def goV (o : Op) : Nat → List (List Nat) → List Int → Except Nat (List Int)
  | _, [], acc => .ok acc
  | k, p :: ps, acc => match chk o k acc p with
    | some n => goV o (k + 1) ps (acc ++ [n])
    | none => .error k
theorem w_mz : Str.ofString "-0" = S [45, 48] := S_of _ _ rfl
theorem lawVstep (o : Op) (ho : o.ok) (d1 : List PyData) (k : Nat) (acc : List Int) (p : List Nat) (hp : p.length ≤ 640) (hx : d1[k]? = some (sD p)) (hk : acc.length = k) (hl : k < 60000) :
    (fun (s4 : List PyData) (x5 : PyData) =>
  seqM (okM (bind2 (some (.list d1)) (some x5) idx)) fun d6 =>
  seqM (ifM (S := PyData) (andM (boolM (bind2 (bind2 (some (opD o)) (some (.int 0)) idx) (tupM (consM (some (.str "most")) (consM (some (.str "least")) (consM (some (.str "first")) (consM (some (.str "last")) (some [])))))) inT)) (andM (boolM (bind2 (slcM (some d6) (some none) (partM (some (.int 1))) slcS) (some (.str "-")) eqS)) (boolM (bind2 (some d6) (some (.str "-0")) neS))))
  (seqM (okM (slcM (some d6) (partM (some (.int 1))) (some none) slcS)) fun d8 =>
  some (.ok d8))
  (some (.ok d6))) fun s7 =>
  seqM (ifM (S := Unit) (orM (boolM (bind2 (some x5) (fnP F_law_many 1 (consM (some (opD o)) (some []))) geI)) (notM (boolM (fnP F_law_figures 1 (consM (some s7) (some []))))))
  (retM (fnP F_law_no 1 (consM (some x5) (some []))))
  (some (.ok ()))) fun s9 =>
  seqM (ifM (S := Unit) (andM (boolM (bind2 (bind2 (some (opD o)) (some (.int 0)) idx) (tupM (consM (some (.str "sum")) (consM (some (.str "product")) (consM (some (.str "maps")) (consM (some (.str "grids")) (some [])))))) inT)) (boolM (bind2 ((consM (some s7) (some [])).bind intS) (bind2 (some (opD o)) ((some (.int 1)).bind negI) idx) geI)))
  (retM (fnP F_law_no 1 (consM (some x5) (some []))))
  (some (.ok ()))) fun s10 =>
  seqM (ifM (S := Unit) (andM (boolM (bind2 (bind2 (some (opD o)) (some (.int 0)) idx) (some (.str "spans")) eqS)) (andM (boolM (bind2 (some x5) (some (.int 1)) eqS)) (boolM (bind2 ((consM (some s7) (some [])).bind intS) (bind2 (some (.list s4)) (some (.int 0)) idx) leI))))
  (retM (fnP F_law_no 1 (consM (some x5) (some []))))
  (some (.ok ()))) fun s11 =>
  seqM (okM (((consM (bind2 (some (.list d1)) (some x5) idx) (some [])).bind intS).bind fun d => if (s4).length < 100000 then some (s4 ++ [d]) else none)) fun l12 =>
  (some (.ok l12) : SM (List PyData))) (acc.map .int) (iN k) =
    match chkL o k acc p with
    | some n => some (.ok ((acc ++ [n]).map .int))
    | none => some (.error (.rt (noD k))) := by
  have hm := fnP_many o ho
  have hno := fnP_no k
  have e5 : bind2 (some (PyData.list d1)) (some (iN k)) idx = some (sD p) := by rw [bind2_s, idx_l, hx]
  have hseen : (seen o p).length ≤ 640 := by
    unfold seen; split
    · simp; omega
    · exact hp
  dsimp only
  rw [e5, okM_s, seqM_ok, t_neg, t_lim, t_spans, consM_s, hm]
  simp only [partM_i, slcM_s, slcS_t1 p (by omega), slcS_1 p (by omega), bind2_s, w_mi, eqS_s, S_eq, boolM_s, w_mz, neS_s, okM_s, seqM_ok]
  have hs7 : (ifM (S := PyData) (andM (some o.neg) (andM (some (decide (p.take 1 = [45]))) (some (!decide (p = [45, 48]))))) (some (.ok (sD (p.drop 1)))) (some (.ok (sD p)))) = some (.ok (sD (seen o p))) := by
    unfold seen
    cases o.neg <;> by_cases h1 : p.take 1 = [45] <;> by_cases h2 : p = [45, 48] <;> simp [h1, h2]
    all_goals (try (subst h2; simp at h1))
  rw [hs7, seqM_ok, consM_s, fnP_figures _ hseen, geI_s, boolM_s, boolM_s, notM_s, consM_s, hno]
  unfold chkL
  by_cases hkm : o.many ≤ k
  · have : ((o.many : Int) ≤ (k : Int)) := by omega
    rw [decide_eq_true this, if_pos (Or.inl hkm)]
    rfl
  · have : ¬ ((o.many : Int) ≤ (k : Int)) := by omega
    rw [decide_eq_false this, orM_f]
    cases hf : fig (seen o p) with
    | false => simp
    | true =>
      have hlen : (acc.map PyData.int).length < 100000 := by rw [List.length_map]; omega
      have hi := intS_fig hf hseen
      rw [Bool.not_true, ifM_f, seqM_ok, Option.bind_some, hi, if_neg (by simp [hkm])]
      have hend : ∀ n, intR p = some n → seqM (okM (((consM (some (sD p)) (some [])).bind intS).bind fun d => if (acc.map PyData.int).length < 100000 then some (acc.map PyData.int ++ [d]) else none)) (fun l12 => (some (.ok l12) : SM (List PyData))) = some (.ok ((acc ++ [n]).map .int)) := by
        intro n hn
        rw [consM_s, Option.bind_some, intS_intR hn hp, Option.bind_some, if_pos hlen, List.map_append]
        rfl
      have hsome : ∃ n, intR p = some n := by
        cases hq : intR p with
        | some n => exact ⟨n, rfl⟩
        | none =>
          exfalso
          unfold seen at hf
          split at hf
          · rename_i h3
            cases p with
            | nil => simp at h3
            | cons c q =>
              obtain ⟨h3, h4, h5⟩ := h3
              obtain rfl : c = 45 := by simpa using h4
              simp only [List.drop_succ_cons, List.drop_zero] at hf
              unfold intR at hq
              simp only [numR, hf, if_true] at hq
              split at hq
              · rename_i h6
                have hz := dig_zero hf
                have : q = [48] := hz ▸ h6
                subst this
                exact h5 rfl
              · cases hq
          · rw [intR_fig hf] at hq; cases hq
      obtain ⟨n, hn⟩ := hsome
      rw [hend n hn]
      cases hlim : o.lim with
      | some m =>
        obtain ⟨a1, a2, a3⟩ := lim_over o m k acc p hlim
        have hsp : seen o p = p := by simp [seen, a2]
        rw [t_last o m hlim, a1, a3, bind2_s, geI_s, boolM_s, hsp]
        by_cases hc : m ≤ NumText.digitsVal p
        · have : (m : Int) ≤ ((NumText.digitsVal p : Nat) : Int) := by omega
          simp [hc, this]
        · have : ¬ (m : Int) ≤ ((NumText.digitsVal p : Nat) : Int) := by omega
          simp [hc, this, hn]
      | none =>
        cases hsp : o.isSpans with
        | false =>
          have := nolim_over o k acc p hlim hsp
          simp [this, hn]
        | true =>
          have ho2 : o = .spans := by cases o <;> simp [Op.isSpans] at hsp; rfl
          subst ho2
          have hse : seen Op.spans p = p := by simp [seen, Op.neg]
          rw [hse]
          simp only [Option.isSome_none, andM_f, ifM_f, seqM_ok, andM_t, eqS_i, boolM_s]
          by_cases hk1 : k = 1
          · have hk' : ((k : Nat) : Int) = 1 := by omega
            cases acc with
            | nil => simp at hk; omega
            | cons a r =>
              have hov : over Op.spans k (a :: r) p = decide ((NumText.digitsVal p : Int) ≤ a) := by simp [over, hk1]
              rw [hov]
              by_cases hc : ((NumText.digitsVal p : Nat) : Int) ≤ a
              · simp [hk', hc]
              · simp [hk', hc, hn]
          · have hk' : ¬ ((k : Nat) : Int) = 1 := by omega
            have hov : over Op.spans k acc p = false := by simp [over, hk1]
            simp [hk', hov, hn]
end UT.M
end
section
set_option Elab.async false
set_option linter.all false
set_option maxRecDepth 100000
set_option maxHeartbeats 4000000
/-! plain: the reader of values, twice -/
namespace UT.M
open PySem PySem.Spec PyProof.Rows L2 SX
theorem eqS_S (a b : List Nat) : eqS (sD a) (sD b) = some (.bool (decide (a = b))) := by
  rw [eqS_s]
  congr 2
  exact decide_eq_decide.mpr (by rw [S_eq])
theorem neS_S (a b : List Nat) : neS (sD a) (sD b) = some (.bool (!decide (a = b))) := by
  rw [neS_s]
  congr 3
  exact decide_eq_decide.mpr (by rw [S_eq])
def nou : List Nat := [110, 111, 117, 103, 104, 116]
theorem w_nou : Str.ofString "nought" = S nou := S_of _ _ rfl
def rowD (a : List PyData) (n r : Nat) : PyData := .tuple ((a.drop (r * n)).take n)
def shape (o : Op) (ns : List Int) : PyData := match o with
  | .grids n _ => .tuple ((List.range n).map (rowD (ns.map .int) n))
  | .maps _ => .tuple (ns.map .int) | .brackets => .tuple (ns.map .int) | .spans => .tuple (ns.map .int) | .counts _ => .tuple (ns.map .int)
  | _ => .int (ns.headD 0)
def rv (o : Op) (l : List Nat) : Except Nat PyData :=
  if o.isSpans = true ∧ (sp l).head? = some nou then (if 1 < (sp l).length then .error 1 else .ok .none) else
  match goV o 0 (sp l) [] with
  | .error k => .error k
  | .ok ns => if ns.length < o.many then .error (sp l).length else .ok (shape o ns)
theorem progV (o : Op) : ∀ (ps : List (List Nat)) (k : Nat) (acc : List Int), (∀ p ∈ ps, p.length ≤ 640) → acc.length + ps.length ≤ 60000 →
    forM' (S := List PyData) (fun s8 q => pairM q fun x9 x10 =>
  seqM (okM (fnP F_a_integer_read 1 (consM (some x10) (some [])))) fun d11 =>
  seqM (ifM (S := Unit) (orM (boolM (bind2 (some x9) (some (iN o.many)) geI)) (orM (boolM (bind2 (some d11) (some .none) isN)) (notM (boolM (fnP F_can_stand 3 (consM (some (opD o)) (consM (some (.list s8)) (consM (some d11) (some [])))))))))
  (raiseM .text (consM (some (.int 0)) (consM (some x9) (some []))))
  (some (.ok ()))) fun s12 =>
  seqM (okM ((some d11).bind fun d => if (s8).length < 100000 then some (s8 ++ [d]) else none)) fun l13 =>
  some (.ok l13)) (enumFrom k (ps.map sD)) (acc.map .int) =
    match goV o k ps acc with
    | .ok a => some (.ok (a.map .int))
    | .error j => some (.error (.er ⟨.text, .int 0, iN j⟩))
  | [], k, acc, _, _ => rfl
  | p :: ps, k, acc, h, hl => by
    have hp := h p (List.mem_cons_self ..)
    have ih := fun a ha => progV o ps (k + 1) (acc ++ [a]) (fun q hq => h q (List.mem_cons_of_mem _ hq)) ha
    rw [List.map_cons, enumFrom_c, forM'_c, pairM_s, consM_s, fnP_integer p hp]
    unfold goV chk
    by_cases hk : o.many ≤ k
    · have : ((o.many : Int) ≤ (k : Int)) := by omega
      simp only [okM_s, seqM_ok, bind2_s, geI_s, boolM_s, decide_eq_true this, orM_t, ifM_t, consM_s, raise_text, seqM_er, if_pos hk]
    · have : ¬ ((o.many : Int) ≤ (k : Int)) := by omega
      have hlen : (acc.map PyData.int).length < 100000 := by rw [List.length_map]; simp at hl; omega
      simp only [okM_s, seqM_ok, bind2_s, geI_s, boolM_s, decide_eq_false this, orM_f, if_neg hk]
      cases hi : intR p with
      | none => simp only [oI, isN_n, boolM_s, orM_t, ifM_t, consM_s, raise_text, seqM_er, Option.bind_none]
      | some n =>
        simp only [oI, isN_i, boolM_s, orM_f, consM_s, fnP_stand, notM_s, Option.bind_some, if_pos hlen]
        cases hs : stand o acc n with
        | false => simp only [Bool.not_false, ifM_t, raise_text, seqM_er, Bool.false_eq_true, if_false]
        | true =>
          simp only [Bool.not_true, ifM_f, seqM_ok, okM_s, if_true]
          have := ih n (by simp at hl ⊢; omega)
          rw [List.map_append] at this
          simp only [okM_s, seqM_ok, bind2_s, consM_s, Option.bind_some] at this
          exact this
theorem goV_len {o : Op} : ∀ {ps : List (List Nat)} {k : Nat} {acc a : List Int}, goV o k ps acc = .ok a → a.length = acc.length + ps.length
  | [], k, acc, a, h => by cases h; rfl
  | p :: ps, k, acc, a, h => by
    unfold goV at h
    split at h
    · have := goV_len h
      rw [this]; simp; omega
    · cases h
theorem cut_row (a : List PyData) (n r : Nat) : cutD a (some ((r * n : Nat) : Int)) (some ((r * n + n : Nat) : Int)) = (a.drop (r * n)).take n := by
  unfold cutD
  rw [HT.sIx_nat, HT.sIx_nat]
  generalize r * n = lo
  by_cases h1 : lo ≤ a.length
  · rw [Nat.min_eq_left h1]
    by_cases h2 : lo + n ≤ a.length
    · rw [Nat.min_eq_left h2, Nat.add_sub_cancel_left]
    · rw [Nat.min_eq_right (by omega), List.take_of_length_le (by rw [List.length_drop]; omega), List.take_of_length_le (by rw [List.length_drop]; omega)]
  · have e1 : min lo a.length = a.length := Nat.min_eq_right (by omega)
    rw [e1, List.drop_eq_nil_of_le (Nat.le_refl _), List.drop_eq_nil_of_le (by omega : a.length ≤ lo)]
    simp
theorem mapO_all {f : PyData → Option PyData} {g : PyData → PyData} : ∀ {ds : List PyData}, (∀ d ∈ ds, f d = some (g d)) → mapO f ds = some (ds.map g)
  | [], _ => rfl
  | d :: ds, h => by
    have ih := mapO_all (f := f) (g := g) (ds := ds) fun e he => h e (List.mem_cons_of_mem _ he)
    show (f d).bind _ = _
    rw [h d (List.mem_cons_self ..), ih]
    rfl
theorem rngL_map (n : Nat) : rngL 0 n = (List.range n).map iN := by
  unfold rngL
  apply List.map_congr_left
  intro i _
  simp
theorem lc_rows (f : PyData → Option PyData) (a : List PyData) (n : Nat) (hn : n ≤ 60000) (h : ∀ r, r < n → f (iN r) = some (rowD a n r)) : lcM (rng1M (some [iN n])) f = some (.list ((List.range n).map (rowD a n))) := by
  rw [rng1_s n (by omega), rngL_map]
  have e : ∀ m : List Nat, (∀ r ∈ m, r < n) → mapO f (m.map iN) = some (m.map (rowD a n)) := by
    intro m hm
    induction m with
    | nil => rfl
    | cons r m ih =>
      rw [List.map_cons, List.map_cons]
      show (f (iN r)).bind _ = _
      rw [h r (hm r (List.mem_cons_self ..)), ih fun q hq => hm q (List.mem_cons_of_mem _ hq)]
      rfl
  show (if ((List.range n).map iN).length ≤ 100000 then (mapO f ((List.range n).map iN)).map PyData.list else none) = _
  rw [if_pos (by simp; omega), e _ fun r hr => List.mem_range.mp hr]
  rfl
theorem t_flat (o : Op) : boolM (bind2 (bind2 (some (opD o)) (some (.int 0)) idx) (tupM (consM (some (.str "maps")) (consM (some (.str "brackets")) (consM (some (.str "spans")) (consM (some (.str "counts")) (some [])))))) inT) = some (match o with | .maps _ => true | .brackets => true | .spans => true | .counts _ => true | _ => false) := by
  cases o <;> simp [opD, Op.w, List.contains_cons]
theorem mul_nat (a b : Nat) (h : a ≤ 1000000 ∨ b ≤ 1000000) : mulI (iN a) (iN b) = some (iN (a * b)) := by
  rw [mulI_s, if_pos (by
    rcases h with h | h
    · left; have : ((a : Int)).natAbs = a := rfl
      rw [this]; exact Nat.lt_of_le_of_lt h (by decide)
    · right; have : ((b : Int)).natAbs = b := rfl
      rw [this]; exact Nat.lt_of_le_of_lt h (by decide))]
  simp
theorem fnP_isOp (o : Op) (ho : o.ok) : fnP F_is_operation 1 (some [opD o]) = some (.bool true) := fnP_ok (isOp o ho) rfl (by simp)
theorem many_pos (o : Op) (ho : o.ok) : 1 ≤ o.many := by
  cases o <;> simp only [Op.many] <;> (try omega)
  case maps n => exact (ho n (by simp [Op.ps])).1
  case counts n => exact (ho n (by simp [Op.ps])).1
  case grids n m => have := (ho n (by simp [Op.ps])).1; exact Nat.mul_pos this this
theorem read_value (o : Op) (ho : o.ok) {l : List Nat} (h : Ok l) : F_read_value [opD o, sD l] = some (progR (rv o l)) := by
  show runM (m_read_value (opD o) (sD l)) = _
  unfold m_read_value rv
  have hl := h.len
  have hn := sp_len l
  have hne := sp_ne l
  have hp := h.parts
  rw [t_spans, t_grids, t_flat, bind2_s (sD l), splitD_sp (by omega), consM_s, fnP_isOp o ho, fnP_due o ho]
  simp only [Option.bind_some, isi_ss, boolM_s, notM_s, Bool.not_true, ifM_f, seqM_ok, okM_s, bind2_s (.list ((sp l).map sD)), consM_s, lenD_l, List.length_map]
  have h0 : idx (.list ((sp l).map sD)) (.int 0) = some (sD ((sp l).headD [])) := by
    cases hs : sp l with
    | nil => exact absurd hs hne
    | cons w ps => simp
  rw [h0, bind2_s, w_nou, eqS_S, boolM_s]
  have hh : ((sp l).headD [] = nou) = ((sp l).head? = some nou) := by
    cases hs : sp l with
    | nil => exact absurd hs hne
    | cons w ps => simp
  have ha : andM (some o.isSpans) (some (decide ((sp l).headD [] = nou))) = some (decide (o.isSpans = true ∧ (sp l).head? = some nou)) := by
    cases o.isSpans with
    | false => simp
    | true =>
      rw [andM_t]
      congr 1
      exact decide_eq_decide.mpr (by rw [hh]; simp)
  rw [ha]
  by_cases hc : o.isSpans = true ∧ (sp l).head? = some nou
  · rw [ifM_y hc, if_pos hc]
    by_cases h1 : 1 < (sp l).length
    · have : (1 : Int) < ((sp l).length : Int) := by omega
      simp only [bind2_s, gtI_s, boolM_s]
      rw [ifM_y this, if_pos h1]
      rfl
    · have : ¬ (1 : Int) < ((sp l).length : Int) := by omega
      simp only [bind2_s, gtI_s, boolM_s]
      rw [ifM_n this, if_neg h1]
      rfl
  · rw [ifM_n hc, if_neg hc, seqM_ok]
    have q := progV o (sp l) 0 [] hp (by simp; omega)
    rw [List.map_nil] at q
    simp only [okM_s, seqM_ok, consM_s, Option.bind_some] at q
    simp only [okM_s, List.length_nil, Nat.zero_le, if_true, seqM_ok, enumM_s, enumL_0, forM_s, q]
    cases hg : goV o 0 (sp l) [] with
    | error j => rfl
    | ok a =>
      have hal := goV_len hg
      simp only [List.length_nil, Nat.zero_add] at hal
      simp only [seqM_ok, lenD_l, bind2_s, ltI_s, boolM_s, List.length_map]
      by_cases hc2 : a.length < o.many
      · have : (a.length : Int) < (o.many : Int) := by omega
        rw [ifM_y this, if_pos hc2, raise_text]
        rfl
      · have : ¬ (a.length : Int) < (o.many : Int) := by omega
        rw [ifM_n this, if_neg hc2, seqM_ok]
        have hmp := many_pos o ho
        cases o
        case grids n m =>
          have hnn : n ≤ 60000 := by
            simp only [Op.many] at hc2
            have h3 : n * n ≤ a.length := by omega
            have h4 : n ≤ a.length := Nat.le_trans (Nat.le_mul_self n) h3
            omega
          have hidx : idx (opD (.grids n m)) (.int 1) = some (iN n) := by simp [opD, Op.ps]
          rw [show (Op.grids n m).isGrids = true from rfl, ifM_t, hidx, okM_s, seqM_ok]
          rw [lc_rows _ (a.map .int) n hnn fun r hr => by
            have e1 : mulI (iN r) (iN n) = some (iN (r * n)) := mul_nat r n (.inl (by omega))
            have e2 : mulI (.int ((r : Int) + 1)) (iN n) = some (iN (r * n + n)) := by
              have := mul_nat (r + 1) n (.inl (by omega))
              rw [show PyData.int ((r : Int) + 1) = iN (r + 1) by simp, this, Nat.succ_mul]
            rw [e1, addI_s, bind2_s, e2, partM_i, partM_i, slcM_s]
            show ((consM (some (PyData.list (cutD (a.map PyData.int) _ _))) (some [])).bind tupD) = _
            rw [cut_row]
            rfl]
          rfl
        all_goals (simp only [Op.isGrids, ifM_f, ifM_t, seqM_ok, tupD_l, retM_s, runM_rt])
        all_goals (first | rfl | skip)
        all_goals
          cases a with
          | nil => simp [Op.many] at hc2
          | cons x r => rw [List.map_cons, idx_l0]; rfl
end UT.M
end
section
set_option Elab.async false
set_option linter.all false
set_option maxRecDepth 100000
set_option maxHeartbeats 4000000
/-! plain: the law's reader of values -/
namespace UT.M
open PySem PySem.Spec PyProof.Rows L2 SX
theorem lawV (o : Op) (ho : o.ok) (d1 : List PyData) : ∀ (ps : List (List Nat)) (k : Nat) (acc : List Int), (∀ p ∈ ps, p.length ≤ 640) → d1.drop k = ps.map sD → acc.length = k → k + ps.length ≤ 60000 →
    forM' (S := List PyData) (fun (s4 : List PyData) (x5 : PyData) =>
  seqM (okM (bind2 (some (.list d1)) (some x5) idx)) fun d6 =>
  seqM (ifM (S := PyData) (andM (boolM (bind2 (bind2 (some (opD o)) (some (.int 0)) idx) (tupM (consM (some (.str "most")) (consM (some (.str "least")) (consM (some (.str "first")) (consM (some (.str "last")) (some [])))))) inT)) (andM (boolM (bind2 (slcM (some d6) (some none) (partM (some (.int 1))) slcS) (some (.str "-")) eqS)) (boolM (bind2 (some d6) (some (.str "-0")) neS))))
  (seqM (okM (slcM (some d6) (partM (some (.int 1))) (some none) slcS)) fun d8 =>
  some (.ok d8))
  (some (.ok d6))) fun s7 =>
  seqM (ifM (S := Unit) (orM (boolM (bind2 (some x5) (fnP F_law_many 1 (consM (some (opD o)) (some []))) geI)) (notM (boolM (fnP F_law_figures 1 (consM (some s7) (some []))))))
  (retM (fnP F_law_no 1 (consM (some x5) (some []))))
  (some (.ok ()))) fun s9 =>
  seqM (ifM (S := Unit) (andM (boolM (bind2 (bind2 (some (opD o)) (some (.int 0)) idx) (tupM (consM (some (.str "sum")) (consM (some (.str "product")) (consM (some (.str "maps")) (consM (some (.str "grids")) (some [])))))) inT)) (boolM (bind2 ((consM (some s7) (some [])).bind intS) (bind2 (some (opD o)) ((some (.int 1)).bind negI) idx) geI)))
  (retM (fnP F_law_no 1 (consM (some x5) (some []))))
  (some (.ok ()))) fun s10 =>
  seqM (ifM (S := Unit) (andM (boolM (bind2 (bind2 (some (opD o)) (some (.int 0)) idx) (some (.str "spans")) eqS)) (andM (boolM (bind2 (some x5) (some (.int 1)) eqS)) (boolM (bind2 ((consM (some s7) (some [])).bind intS) (bind2 (some (.list s4)) (some (.int 0)) idx) leI))))
  (retM (fnP F_law_no 1 (consM (some x5) (some []))))
  (some (.ok ()))) fun s11 =>
  seqM (okM (((consM (bind2 (some (.list d1)) (some x5) idx) (some [])).bind intS).bind fun d => if (s4).length < 100000 then some (s4 ++ [d]) else none)) fun l12 =>
  (some (.ok l12) : SM (List PyData))) (rngL (k : Int) ps.length) (acc.map .int) =
    match goV o k ps acc with
    | .ok a => some (.ok (a.map .int))
    | .error j => some (.error (.rt (noD j)))
  | [], k, acc, _, _, _, _ => rfl
  | p :: ps, k, acc, h, hd, hk, hl => by
    have hp := h p (List.mem_cons_self ..)
    have hd' : d1.drop (k + 1) = ps.map sD := by
      have := congrArg (List.drop 1) hd
      rw [List.drop_drop] at this
      simpa [Nat.add_comm] using this
    have hx : d1[k]? = some (sD p) := by
      have := congrArg (fun l => l[0]?) hd
      simpa using this
    have hl' : k < 60000 := by simp at hl; omega
    rw [List.length_cons, rngL_s, forM'_c]
    refine (congrArg (fun z => seqM z _) (lawVstep o ho d1 k acc p hp hx hk hl')).trans ?_
    rw [chk_eq o k acc p hk]
    unfold goV
    cases hc : chk o k acc p with
    | none => rfl
    | some n =>
      have ih := lawV o ho d1 ps (k + 1) (acc ++ [n]) (fun q hq => h q (List.mem_cons_of_mem _ hq)) hd' (by simp [hk]) (by simp at hl ⊢; omega)
      have hki : (k : Int) + 1 = ((k + 1 : Nat) : Int) := by omega
      rw [hki]
      exact ih
theorem t_flatD (o : Op) : bind2 (bind2 (some (opD o)) (some (.int 0)) idx) (tupM (consM (some (.str "maps")) (consM (some (.str "counts")) (consM (some (.str "brackets")) (consM (some (.str "spans")) (some [])))))) inT = some (.bool (match o with | .maps _ => true | .brackets => true | .spans => true | .counts _ => true | _ => false)) := by
  cases o <;> simp [opD, Op.w, List.contains_cons]
theorem law_value_due (o : Op) (ho : o.ok) {l : List Nat} (h : Ok l) : F_law_value_due [opD o, sD l] = some (.ok (lawR (rv o l))) := by
  show runM (m_law_value_due (opD o) (sD l)) = _
  unfold m_law_value_due rv
  have hl := h.len
  have hn := sp_len l
  have hne := sp_ne l
  have hp := h.parts
  have h0 : idx (.list ((sp l).map sD)) (.int 0) = some (sD ((sp l).headD [])) := by
    cases hs : sp l with
    | nil => exact absurd hs hne
    | cons w ps => simp
  have hh : ((sp l).headD [] = nou) = ((sp l).head? = some nou) := by
    cases hs : sp l with
    | nil => exact absurd hs hne
    | cons w ps => simp
  have ha : andM (some o.isSpans) (some (decide ((sp l).headD [] = nou))) = some (decide (o.isSpans = true ∧ (sp l).head? = some nou)) := by
    cases o.isSpans with
    | false => simp
    | true =>
      rw [andM_t]
      congr 1
      exact decide_eq_decide.mpr (by rw [hh]; simp)
  have q := lawV o ho ((sp l).map sD) (sp l) 0 [] hp rfl rfl (by omega)
  have hlen : ((((sp l).map sD).length : Nat) : Int) = ((sp l).length : Int) := by rw [List.length_map]
  have er := rng1_s (sp l).length (by omega)
  rw [bind2_s (sD l), splitD_sp (by omega), okM_s, seqM_ok]
  rw [t_spans, consM_s (.list ((sp l).map sD)), Option.bind_some, lenD_l, hlen, bind2_s (.list ((sp l).map sD)) (.int 0), h0, bind2_s (sD ((sp l).headD [])), w_nou, eqS_S, boolM_s, ha]
  rw [t_spans] at q
  by_cases hc : o.isSpans = true ∧ (sp l).head? = some nou
  · rw [ifM_y hc, if_pos hc, bind2_s, gtI_s, consM_s (.bool _), Option.bind_some, int1_b, consM_s (.int 1), show (1 : Int) = ((1 : Nat) : Int) from rfl, fnP_no]
    by_cases h1 : 1 < (sp l).length
    · have : ((1 : Nat) : Int) < ((sp l).length : Int) := by omega
      rw [if_pos h1, decide_eq_true this]
      rfl
    · have : ¬ ((1 : Nat) : Int) < ((sp l).length : Int) := by omega
      rw [if_neg h1, decide_eq_false this]
      rfl
  · rw [List.map_nil, show ((0 : Nat) : Int) = 0 from rfl] at q
    rw [ifM_n hc, if_neg hc, seqM_ok, Option.bind_some, if_pos (show ([] : List PyData).length ≤ 100000 from Nat.zero_le _), okM_s, seqM_ok, consM_s (.int ((sp l).length : Int)), er, forM_s, q]
    cases hg : goV o 0 (sp l) [] with
    | error j => rfl
    | ok a =>
      have hal := goV_len hg
      simp only [List.length_nil, Nat.zero_add] at hal
      have hm := fnP_many o ho
      have hln : (((a.map PyData.int).length : Nat) : Int) = (a.length : Int) := by rw [List.length_map]
      show runM (seqM (ifM (boolM (bind2 ((consM (some (.list (a.map PyData.int))) (some [])).bind lenD) (fnP F_law_many 1 (consM (some (opD o)) (some []))) ltI)) (retM (fnP F_law_no 1 (consM ((consM (some (.list (a.map PyData.int))) (some [])).bind lenD) (some [])))) _) _) = some (Except.ok (lawR (if a.length < o.many then .error (sp l).length else .ok (shape o a))))
      rw [consM_s, consM_s, Option.bind_some, lenD_l, hln, hm, bind2_s, ltI_s, boolM_s, consM_s, fnP_no]
      by_cases hc2 : a.length < o.many
      · have : (a.length : Int) < (o.many : Int) := by omega
        rw [ifM_y this, if_pos hc2, hal]
        rfl
      · have : ¬ (a.length : Int) < (o.many : Int) := by omega
        rw [ifM_n this, if_neg hc2, seqM_ok, t_grids, t_flatD]
        have hmp := many_pos o ho
        cases hgr : o.isGrids with
        | true =>
          cases o <;> simp [Op.isGrids] at hgr
          rename_i n m
          have hnn : n ≤ 60000 := by
            simp only [Op.many] at hc2
            have h3 : n * n ≤ a.length := by omega
            have h4 : n ≤ a.length := Nat.le_trans (Nat.le_mul_self n) h3
            omega
          have hidx : bind2 (some (opD (.grids n m))) (some (.int 1)) idx = some (iN n) := by simp [opD, Op.ps]
          rw [ifM_t, hidx, consM_s (iN n)]
          rw [lc_rows _ (a.map .int) n hnn fun r hr => by
            have e1 : mulI (iN r) (iN n) = some (iN (r * n)) := mul_nat r n (.inl (by omega))
            have e2 : addI (iN (r * n)) (iN n) = some (iN (r * n + n)) := by rw [addI_s]; simp
            rw [bind2_s, e1, bind2_s, e2, partM_i, partM_i, slcM_s]
            show ((consM (some (PyData.list (cutD (a.map PyData.int) _ _))) (some [])).bind tupD) = _
            rw [cut_row]
            rfl]
          rfl
        | false =>
          cases a with
          | nil => simp at hc2; omega
          | cons x r =>
            rw [ifM_f, seqM_ok, List.map_cons, bind2_s, idx_l0, consM_s, Option.bind_some, tupD_l]
            cases o <;> first | (simp [Op.isGrids] at hgr; done) | rfl
end UT.M
end
section
set_option Elab.async false
set_option linter.all false
set_option maxRecDepth 100000
set_option maxHeartbeats 4000000
/-! plain: the reader of asks, twice -/
namespace UT.M
open PySem PySem.Spec PyProof.Rows L2 SX
def le2 (x y : Int × Int) : Bool := Ob.lexAt (fun j => decide ([x.1, x.2].getD j 0 = [y.1, y.2].getD j 0)) (fun j => decide ([x.1, x.2].getD j 0 ≤ [y.1, y.2].getD j 0)) (decide ((2 : Nat) ≤ 2)) 0 2
abbrev aD (x : Int × Int) : PyData := .tuple [.int x.1, .int x.2]
theorem leT_a (x y : Int × Int) : leT (aD x) (aD y) = some (.bool (le2 x y)) := rfl
theorem pure_a (x : Int × Int) : pureT (aD x) = true := by simp [pureT, pureL]
/-- low-high -/
def strR2 : Option Nat → Option Nat → Option (Int × Int)
  | some x, some y => if x < y then some ((x : Int), (y : Int)) else none
  | _, _ => none
def strR (p : List Nat) : Option (Int × Int) := match TL.par [45] [] p with
  | some (a, b) => strR2 (numR a) (numR b)
  | none => none
def oA : Option (Int × Int) → PyData
  | some x => aD x
  | none => .none
theorem first45 (p : List Nat) : 45 ∉ p ∨ ∃ a b, p = a ++ 45 :: b ∧ 45 ∉ a := by
  by_cases h : 45 ∈ p
  · obtain ⟨a, b, e, h2⟩ := List.eq_append_cons_of_mem h
    exact .inr ⟨a, b, e, h2⟩
  · exact .inl h
theorem fig_no45 {p : List Nat} (h : 45 ∈ p) : fig p = false := by
  cases hf : fig p with
  | false => rfl
  | true => have := (fig_digits hf).1 45 h; omega
theorem numR_nil : numR [] = none := by decide
theorem partD_of {p a b c : List Nat} (h : Txt.partition (S p) (S [45]) = (S a, S b, S c)) (hl : p.length ≤ 1000) : partD (sD p) (.str (Str.ofString "-")) = some (.tuple [sD a, sD b, sD c]) := by
  rw [w_mi]
  have hz : (S p).length ≤ sizeLine := S_le (Nat.le_trans hl (by decide))
  show (if ((S [45]).length == 0) = false ∧ (S p).length ≤ sizeLine then some (PyData.tuple [.str (Txt.partition (S p) (S [45])).1, .str (Txt.partition (S p) (S [45])).2.1, .str (Txt.partition (S p) (S [45])).2.2]) else none) = _
  rw [if_pos ⟨rfl, hz⟩, h]
theorem stretch_read (p : List Nat) (hl : p.length ≤ 640) : F_stretch_read [sD p] = some (.ok (oA (strR p))) := by
  show runM (m_stretch_read (sD p)) = _
  unfold m_stretch_read strR
  rcases first45 p with h | ⟨a, b, e, h⟩
  · have hp : TL.par [45] [] p = none := TL.par_none1 h
    have hq : Txt.partition (S p) (S [45]) = (S p, S [], S []) := partition_none (by decide) hp
    rw [bind2_s, partD_of hq (by omega), hp]
    show runM (seqM (okM (fnP F_a_number_read 1 (some [sD p]))) fun d2 => seqM (okM (fnP F_a_number_read 1 (some [sD []]))) fun d3 => _) = _
    rw [fnP_number p hl, fnP_number [] (by simp), numR_nil]
    cases numR p <;> rfl
  · subst e
    have hp : TL.par [45] [] (a ++ 45 :: b) = some (a, b) := by
      have := TL.par_part1 (S := []) (acc := []) (rest := b) h
      simpa using this
    have hq : Txt.partition (S (a ++ 45 :: b)) (S [45]) = (S a, S [45], S b) := partition_some (by decide) hp
    have ha : a.length ≤ 640 := by simp at hl; omega
    have hb : b.length ≤ 640 := by simp at hl; omega
    rw [bind2_s, partD_of hq (by omega), hp]
    show runM (seqM (okM (fnP F_a_number_read 1 (some [sD a]))) fun d2 => seqM (okM (fnP F_a_number_read 1 (some [sD b]))) fun d3 => _) = _
    rw [fnP_number a ha, fnP_number b hb]
    show _ = some (Except.ok (oA (strR2 (numR a) (numR b))))
    generalize numR a = X
    generalize numR b = Y
    cases X with
    | none => cases Y <;> rfl
    | some x =>
      cases Y with
      | none => rfl
      | some y =>
        simp only [oD, okM_s, seqM_ok, bind2_s, isN_i, boolM_s, orM_f, geI_s, strR2]
        by_cases hc : x < y
        · have : ¬ ((y : Int) ≤ (x : Int)) := by omega
          rw [ifM_n this, if_pos hc]; rfl
        · have : ((y : Int) ≤ (x : Int)) := by omega
          rw [ifM_y this, if_neg hc]; rfl
theorem fnP_stretch (p : List Nat) (hl : p.length ≤ 640) : fnP F_stretch_read 1 (some [sD p]) = some (oA (strR p)) :=
  fnP_ok (stretch_read p hl) rfl (by cases strR p <;> simp [oA, pureT, pureL])
def goA : Nat → List (List Nat) → Int × Int → List (Int × Int) → Except Nat (List (Int × Int) × (Int × Int))
  | _, [], bf, acc => .ok (acc, bf)
  | k, p :: ps, bf, acc => match strR p with
    | some x => if le2 x bf = true then .error k else goA (k + 1) ps x (acc ++ [x])
    | none => .error k
def ra (l : List Nat) : Except Nat PyData :=
  if (sp l).head? = some [45] then (if 1 < (sp l).length then .error 1 else .ok (.tuple [])) else
  match goA 0 (sp l) (-1, -1) [] with
  | .error k => .error k
  | .ok a => .ok (.tuple (a.1.map aD))
theorem progA : ∀ (ps : List (List Nat)) (k : Nat) (bf : Int × Int) (acc : List (Int × Int)), (∀ p ∈ ps, p.length ≤ 640) → acc.length + ps.length ≤ 60000 →
    (forM' (S := List PyData × PyData) (fun s5 q => pairM q fun x6 x7 =>
  seqM (okM (fnP F_stretch_read 1 (consM (some x7) (some [])))) fun d8 =>
  seqM (ifM (S := Unit) (orM (boolM (bind2 (some d8) (some .none) isN)) (boolM (bind2 (some d8) (some s5.2) leT)))
  (raiseM .text (consM (some (.int 0)) (consM (some x6) (some []))))
  (some (.ok ()))) fun s9 =>
  seqM (okM ((some d8).bind fun d => if (s5.1).length < 100000 then some (s5.1 ++ [d]) else none)) fun l10 =>
  seqM (okM (some d8)) fun d11 =>
  some (.ok (l10, d11))) (enumFrom k (ps.map sD)) (acc.map aD, aD bf)) =
    match goA k ps bf acc with
    | .ok a => some (.ok (a.1.map aD, aD a.2))
    | .error j => some (.error (.er ⟨.text, .int 0, iN j⟩))
  | [], k, bf, acc, _, _ => rfl
  | p :: ps, k, bf, acc, h, hl => by
    have hp := h p (List.mem_cons_self ..)
    rw [List.map_cons, enumFrom_c, forM'_c, pairM_s, consM_s, fnP_stretch p hp, okM_s, seqM_ok]
    unfold goA
    cases hs : strR p with
    | none => simp only [oA, bind2_s, isN_n, boolM_s, orM_t, ifM_t, consM_s, raise_text, seqM_er]
    | some x =>
      have hlen : (acc.map aD).length < 100000 := by rw [List.length_map]; simp at hl; omega
      simp only [oA, bind2_s, isN_t, boolM_s, orM_f, leT_a, Option.bind_some, if_pos hlen, okM_s, seqM_ok]
      cases hc : le2 x bf with
      | true => simp only [ifM_t, consM_s, raise_text, seqM_er, if_true]
      | false =>
        simp only [ifM_f, seqM_ok, Bool.false_eq_true, if_false]
        have ih := progA ps (k + 1) x (acc ++ [x]) (fun q hq => h q (List.mem_cons_of_mem _ hq)) (by simp at hl ⊢; omega)
        rw [List.map_append] at ih
        simp only [okM_s, seqM_ok, bind2_s, consM_s, Option.bind_some] at ih
        exact ih
theorem head0 (l : List Nat) : idx (.list ((sp l).map sD)) (.int 0) = some (sD ((sp l).headD [])) := by
  cases hs : sp l with
  | nil => exact absurd hs (sp_ne l)
  | cons w ps => simp
theorem headE (l : List Nat) (w : List Nat) : ((sp l).headD [] = w) = ((sp l).head? = some w) := by
  cases hs : sp l with
  | nil => exact absurd hs (sp_ne l)
  | cons w ps => simp
theorem parts_of {l : List Nat} (h : Ok l) : F_parts_of [sD l] = some (if (sp l).head? = some [45] then (if 1 < (sp l).length then .error ⟨.text, .int 0, iN 1⟩ else .ok (.list [])) else .ok (.list ((sp l).map sD))) := by
  show runM (m_parts_of (sD l)) = _
  unfold m_parts_of
  have hl := h.len
  have hlen : ((((sp l).map sD).length : Nat) : Int) = ((sp l).length : Int) := by rw [List.length_map]
  rw [Option.bind_some, isi_ss, boolM_s, notM_s, Bool.not_true, ifM_f, seqM_ok, bind2_s, splitD_sp (by omega), okM_s, seqM_ok, bind2_s, head0, bind2_s, w_mi, neS_S, boolM_s]
  by_cases hc : (sp l).head? = some [45]
  · have h2 : (sp l).headD [] = [45] := headE l [45] ▸ hc
    rw [h2, decide_eq_true rfl, Bool.not_true, ifM_f, seqM_ok, if_pos hc, consM_s, Option.bind_some, lenD_l, hlen, bind2_s, gtI_s, boolM_s]
    by_cases h1 : 1 < (sp l).length
    · have : (1 : Int) < ((sp l).length : Int) := by omega
      rw [ifM_y this, if_pos h1]; rfl
    · have : ¬ (1 : Int) < ((sp l).length : Int) := by omega
      rw [ifM_n this, if_neg h1]; rfl
  · have h2 : ¬ (sp l).headD [] = [45] := headE l [45] ▸ hc
    rw [decide_eq_false h2, Bool.not_false, ifM_t, if_neg hc]
    rfl
theorem read_asks {l : List Nat} (h : Ok l) : F_read_asks [sD l] = some (progR (ra l)) := by
  show runM (m_read_asks (sD l)) = _
  unfold m_read_asks ra
  have hl := h.len
  have hn := sp_len l
  have hp := parts_of h
  rw [consM_s]
  by_cases hc : (sp l).head? = some [45]
  · rw [if_pos hc] at hp ⊢
    by_cases h1 : 1 < (sp l).length
    · rw [if_pos h1] at hp ⊢
      rw [fnX_er (n := 1) hp rfl]
      rfl
    · rw [if_neg h1] at hp ⊢
      rw [fnX_ok (n := 1) hp rfl]
      rfl
  · rw [if_neg hc] at hp ⊢
    have q := progA (sp l) 0 (-1, -1) [] h.parts (by simp; omega)
    rw [List.map_nil] at q
    have hne : ((sp l).map sD).isEmpty = false := by
      cases hs : sp l with
      | nil => exact absurd hs (sp_ne l)
      | cons w ps => rfl
    have e4 : tupM (consM ((some (.int 1)).bind negI) (consM ((some (.int 1)).bind negI) (some []))) = some (aD (-1, -1)) := rfl
    rw [fnX_ok (n := 1) hp rfl, seqM_ok, truM_l, hne, e4]
    show runM (seqM (forM' _ (enumFrom 0 ((sp l).map sD)) ([], aD (-1, -1))) _) = _
    rw [q]
    cases goA 0 (sp l) (-1, -1) [] with
    | error j => rfl
    | ok a => rfl
end UT.M
end
section
set_option Elab.async false
set_option linter.all false
set_option maxRecDepth 100000
set_option maxHeartbeats 4000000
/-! plain: the law's reader of asks -/
namespace UT.M
open PySem PySem.Spec PyProof.Rows L2 SX
def s45 (l : List Nat) : List (List Nat) := TL.spl [45] 0 [] l
theorem split_s45 (l : List Nat) : Txt.split (S l) (S [45]) = (s45 l).map S := split_S (by decide) (by decide)
theorem s45_ne (l : List Nat) : s45 l ≠ [] := by
  intro h
  have h1 := PyProof.Rows.split_pos (S l) (S [45])
  rw [split_s45, h] at h1
  simp at h1
theorem s45_no {l : List Nat} (h : 45 ∉ l) : s45 l = [l] := by
  have := TL.spl_last1 (S := []) (acc := []) h
  simpa [s45] using this
theorem s45_cut {a b : List Nat} (h : 45 ∉ a) : s45 (a ++ 45 :: b) = a :: s45 b := by
  have := TL.spl_part1 (S := []) (acc := []) (rest := b) h
  simpa [s45] using this
theorem splitD_45 {l : List Nat} (h : l.length ≤ 100000) : splitD (sD l) (.str (Str.ofString "-")) = some (.list ((s45 l).map sD)) := by
  rw [w_mi]
  have e : ((S l).length + 2 ≤ sizeLine) := by
    rw [S_len]
    exact Nat.le_trans (by omega : l.length + 2 ≤ 200000) (by decide)
  show (if ((S [45]).length == 0) = false ∧ (S l).length + 2 ≤ sizeLine then some (PyData.list ((Txt.split (S l) (S [45])).map PyData.str)) else none) = _
  rw [if_pos ⟨rfl, e⟩, split_s45, List.map_map]
  rfl
theorem idx_last (l : List PyData) (x : PyData) : idx (.list (l ++ [x])) (.int (-1)) = some x := by
  show L2.atI (l ++ [x]) (-1) = _
  unfold L2.atI ixN
  have h : (l ++ [x]).length = l.length + 1 := by simp
  rw [if_neg (by omega), h]
  split
  · simp
    have : (-1 + (((l.length : Int)) + 1)).toNat = l.length := by omega
    rw [this]; simp
  · exfalso; rename_i h2; apply h2; omega
theorem lawAstep (d1 : List PyData) (k : Nat) (bf : Int × Int) (Y : List PyData) (p : List Nat) (hp : p.length ≤ 640) (hx : d1[k]? = some (sD p)) (hl : Y.length < 70000) :
    (fun (s4 : List PyData) (x5 : PyData) =>
  seqM (okM (bind2 (bind2 (some (.list d1)) (some x5) idx) (some (.str "-")) splitD)) fun d6 =>
  seqM (ifM (S := Unit) (orM (boolM (bind2 ((consM (some d6) (some [])).bind lenD) (some (.int 2)) neS)) (orM (notM (boolM (fnP F_law_figures 1 (consM (bind2 (some d6) (some (.int 0)) idx) (some []))))) (notM (boolM (fnP F_law_figures 1 (consM (bind2 (some d6) (some (.int 1)) idx) (some [])))))))
  (retM (fnP F_law_no 1 (consM (some x5) (some []))))
  (some (.ok ()))) fun s7 =>
  seqM (okM (tupM (consM ((consM (bind2 (some d6) (some (.int 0)) idx) (some [])).bind intS) (consM ((consM (bind2 (some d6) (some (.int 1)) idx) (some [])).bind intS) (some []))))) fun d8 =>
  seqM (ifM (S := Unit) (orM (boolM (bind2 (bind2 (some d8) (some (.int 0)) idx) (bind2 (some d8) (some (.int 1)) idx) geI)) (boolM (bind2 (some d8) (bind2 (some (.list s4)) ((some (.int 1)).bind negI) idx) leT)))
  (retM (fnP F_law_no 1 (consM (some x5) (some []))))
  (some (.ok ()))) fun s9 =>
  seqM (okM ((some d8).bind fun d => if (s4).length < 100000 then some (s4 ++ [d]) else none)) fun l10 =>
  (some (.ok l10) : SM (List PyData))) (Y ++ [aD bf]) (iN k) =
    match strR p with
    | some x => if le2 x bf = true then some (.error (.rt (noD k))) else some (.ok (Y ++ [aD bf] ++ [aD x]))
    | none => some (.error (.rt (noD k))) := by
  have hno := fnP_no k
  have e5 : bind2 (some (PyData.list d1)) (some (iN k)) idx = some (sD p) := by rw [bind2_s, idx_l, hx]
  dsimp only
  rw [e5, bind2_s, splitD_45 (by omega), okM_s, seqM_ok, consM_s, consM_s, hno]
  rcases first45 p with h | ⟨a, b, e, h⟩
  · have hpar : TL.par [45] [] p = none := TL.par_none1 h
    have hs : strR p = none := by unfold strR; rw [hpar]
    rw [s45_no h, hs]
    rfl
  · subst e
    have hpar : TL.par [45] [] (a ++ 45 :: b) = some (a, b) := by
      have := TL.par_part1 (S := []) (acc := []) (rest := b) h
      simpa using this
    have hs : strR (a ++ 45 :: b) = strR2 (numR a) (numR b) := by unfold strR; rw [hpar]
    rw [s45_cut h, hs]
    rcases first45 b with h2 | ⟨c, d, e2, h2⟩
    · rw [s45_no h2]
      have ha : a.length ≤ 640 := by simp at hp; omega
      have hb : b.length ≤ 640 := by simp at hp; omega
      simp only [List.map_cons, List.map_nil, Option.bind_some, lenD_l, bind2_s, neS_i, boolM_s, idx_l0, idx_l1, consM_s, fnP_figures a ha, fnP_figures b hb, notM_s]
      have e2 : ((([sD a, sD b] : List PyData).length : Nat) : Int) = 2 := rfl
      rw [e2, decide_eq_true rfl, Bool.not_true, orM_f]
      cases hfa : fig a with
      | false =>
        have : numR a = none := by simp [numR, hfa]
        rw [this]
        rfl
      | true =>
        cases hfb : fig b with
        | false =>
          have : numR b = none := by simp [numR, hfb]
          rw [this]
          cases numR a <;> rfl
        | true =>
          have e3 : numR a = some (NumText.digitsVal a) := by simp [numR, hfa]
          have e4 : numR b = some (NumText.digitsVal b) := by simp [numR, hfb]
          rw [e3, e4, intS_fig hfa ha, intS_fig hfb hb]
          generalize NumText.digitsVal a = x
          generalize NumText.digitsVal b = y
          have hlen : (Y ++ [aD bf]).length < 100000 := by simp; omega
          simp only [Bool.not_true, orM_f, ifM_f, seqM_ok, consM_s, tupM_s, List.length_cons, List.length_nil, okM_s, bind2_s, idx_t0, idx_t1, geI_s, boolM_s, Option.bind_some, negI_s, strR2]
          rw [if_pos (by decide), okM_s, seqM_ok, idx_t0, idx_t1, bind2_s, geI_s, boolM_s, idx_last, bind2_s]
          have hle : leT (.tuple [.int (x : Int), .int (y : Int)]) (aD bf) = some (.bool (le2 ((x : Int), (y : Int)) bf)) := leT_a ((x : Int), (y : Int)) bf
          rw [hle, boolM_s]
          by_cases hc : x < y
          · have : ¬ ((y : Int) ≤ (x : Int)) := by omega
            rw [decide_eq_false this, if_pos hc, orM_f]
            dsimp only
            cases le2 ((x : Int), (y : Int)) bf with
            | true => rfl
            | false =>
              rw [ifM_f, seqM_ok, if_pos hlen]
              rfl
          · have : ((y : Int) ≤ (x : Int)) := by omega
            rw [decide_eq_true this, if_neg hc]
            rfl
    · subst e2
      have hnb : numR (c ++ 45 :: d) = none := by
        have := fig_no45 (p := c ++ 45 :: d) (by simp)
        simp [numR, this]
      have hs2 : strR2 (numR a) (numR (c ++ 45 :: d)) = none := by rw [hnb]; cases numR a <;> rfl
      rw [s45_cut h2, hs2]
      cases hd : s45 d with
      | nil => exact absurd hd (s45_ne d)
      | cons e1 r =>
        have : ¬ ((((a :: c :: e1 :: r).map sD).length : Nat) : Int) = 2 := by simp; omega
        rw [Option.bind_some, lenD_l, bind2_s, neS_i, decide_eq_false this]
        rfl
theorem lawA (d1 : List PyData) : ∀ (ps : List (List Nat)) (k : Nat) (bf : Int × Int) (acc : List (Int × Int)) (Y : List PyData), (∀ p ∈ ps, p.length ≤ 640) → d1.drop k = ps.map sD → aD (-1, -1) :: acc.map aD = Y ++ [aD bf] → Y.length + ps.length ≤ 60000 →
    forM' (S := List PyData) (fun (s4 : List PyData) (x5 : PyData) =>
  seqM (okM (bind2 (bind2 (some (.list d1)) (some x5) idx) (some (.str "-")) splitD)) fun d6 =>
  seqM (ifM (S := Unit) (orM (boolM (bind2 ((consM (some d6) (some [])).bind lenD) (some (.int 2)) neS)) (orM (notM (boolM (fnP F_law_figures 1 (consM (bind2 (some d6) (some (.int 0)) idx) (some []))))) (notM (boolM (fnP F_law_figures 1 (consM (bind2 (some d6) (some (.int 1)) idx) (some [])))))))
  (retM (fnP F_law_no 1 (consM (some x5) (some []))))
  (some (.ok ()))) fun s7 =>
  seqM (okM (tupM (consM ((consM (bind2 (some d6) (some (.int 0)) idx) (some [])).bind intS) (consM ((consM (bind2 (some d6) (some (.int 1)) idx) (some [])).bind intS) (some []))))) fun d8 =>
  seqM (ifM (S := Unit) (orM (boolM (bind2 (bind2 (some d8) (some (.int 0)) idx) (bind2 (some d8) (some (.int 1)) idx) geI)) (boolM (bind2 (some d8) (bind2 (some (.list s4)) ((some (.int 1)).bind negI) idx) leT)))
  (retM (fnP F_law_no 1 (consM (some x5) (some []))))
  (some (.ok ()))) fun s9 =>
  seqM (okM ((some d8).bind fun d => if (s4).length < 100000 then some (s4 ++ [d]) else none)) fun l10 =>
  (some (.ok l10) : SM (List PyData))) (rngL (k : Int) ps.length) (aD (-1, -1) :: acc.map aD) =
    match goA k ps bf acc with
    | .ok a => some (.ok (aD (-1, -1) :: a.1.map aD))
    | .error j => some (.error (.rt (noD j)))
  | [], k, bf, acc, Y, _, _, _, _ => rfl
  | p :: ps, k, bf, acc, Y, h, hd, hY, hl => by
    have hp := h p (List.mem_cons_self ..)
    have hd' : d1.drop (k + 1) = ps.map sD := by
      have := congrArg (List.drop 1) hd
      rw [List.drop_drop] at this
      simpa [Nat.add_comm] using this
    have hx : d1[k]? = some (sD p) := by
      have := congrArg (fun l => l[0]?) hd
      simpa using this
    rw [List.length_cons, rngL_s, forM'_c, hY]
    refine (congrArg (fun z => seqM z _) (lawAstep d1 k bf Y p hp hx (by simp at hl; omega))).trans ?_
    unfold goA
    cases hs : strR p with
    | none => rfl
    | some x =>
      dsimp only
      cases hc : le2 x bf with
      | true => rfl
      | false =>
        have hY2 : aD (-1, -1) :: (acc ++ [x]).map aD = (Y ++ [aD bf]) ++ [aD x] := by rw [← hY]; simp
        have ih := lawA d1 ps (k + 1) x (acc ++ [x]) (Y ++ [aD bf]) (fun q hq => h q (List.mem_cons_of_mem _ hq)) hd' hY2 (by simp at hl ⊢; omega)
        have hki : (k : Int) + 1 = ((k + 1 : Nat) : Int) := by omega
        rw [hY2] at ih
        rw [if_neg Bool.false_ne_true, if_neg Bool.false_ne_true, hki]
        exact ih
theorem law_asks_due {l : List Nat} (h : Ok l) : F_law_asks_due [sD l] = some (.ok (lawR (ra l))) := by
  show runM (m_law_asks_due (sD l)) = _
  unfold m_law_asks_due ra
  have hl := h.len
  have hn := sp_len l
  have hlen : ((((sp l).map sD).length : Nat) : Int) = ((sp l).length : Int) := by rw [List.length_map]
  have er := rng1_s (sp l).length (by omega)
  have e4 : tupM (consM ((some (.int 1)).bind negI) (consM ((some (.int 1)).bind negI) (some []))) = some (aD (-1, -1)) := rfl
  rw [bind2_s (sD l), splitD_sp (by omega), okM_s, seqM_ok, consM_s (.list ((sp l).map sD)), Option.bind_some, lenD_l, hlen, bind2_s (.list ((sp l).map sD)) (.int 0), head0, bind2_s (sD ((sp l).headD [])), w_mi, eqS_S, boolM_s, e4, consM_s (aD (-1, -1))]
  by_cases hc : (sp l).head? = some [45]
  · have h2 : (sp l).headD [] = [45] := headE l [45] ▸ hc
    rw [h2, decide_eq_true rfl, ifM_t, if_pos hc, bind2_s, gtI_s, consM_s (.bool _), Option.bind_some, int1_b, consM_s (.int 1), show (1 : Int) = ((1 : Nat) : Int) from rfl, fnP_no]
    by_cases h1 : 1 < (sp l).length
    · have : ((1 : Nat) : Int) < ((sp l).length : Int) := by omega
      rw [if_pos h1, decide_eq_true this]
      rfl
    · have : ¬ ((1 : Nat) : Int) < ((sp l).length : Int) := by omega
      rw [if_neg h1, decide_eq_false this]
      rfl
  · have h2 : ¬ (sp l).headD [] = [45] := headE l [45] ▸ hc
    have q := lawA ((sp l).map sD) (sp l) 0 (-1, -1) [] [] h.parts rfl rfl (by simp; omega)
    rw [List.map_nil, show ((0 : Nat) : Int) = 0 from rfl, w_mi] at q
    rw [decide_eq_false h2, ifM_f, seqM_ok, if_neg hc, Option.bind_some, if_pos (show ([aD (-1, -1)] : List PyData).length ≤ 100000 from by show 1 ≤ 100000; decide), okM_s, seqM_ok, consM_s (.int ((sp l).length : Int)), er, forM_s, q]
    cases goA 0 (sp l) (-1, -1) [] with
    | error j => rfl
    | ok a =>
      dsimp only
      rw [seqM_ok, partM_i, slcM_s, slcL_1]
      rfl
end UT.M
end
section
set_option Elab.async false
set_option linter.all false
set_option maxRecDepth 100000
set_option maxHeartbeats 4000000
/-! plain: the reader of histories -/
namespace UT.M
open PySem PySem.Spec PyProof.Rows L2 SX
def ends (q : List Nat) : Bool := decide (q.getLast? = some 59)
def rms (q : List Nat) : List Nat := if ends q = true then q.dropLast else q
theorem snoc_cases (q : List Nat) : q = [] ∨ ∃ r c, q = r ++ [c] := by
  rcases List.eq_nil_or_concat q with h | ⟨r, c, h⟩
  · exact .inl h
  · exact .inr ⟨r, c, by simpa using h⟩
theorem ends_1 (q : List Nat) : Txt.endswith (S q) (S [59]) = ends q := by
  unfold Txt.endswith ends
  rw [StrLaws.subAt_eq, S_len, S_len]
  rcases snoc_cases q with rfl | ⟨r, c, rfl⟩
  · rfl
  · have e : (S (r ++ [c])).cps.toList.drop ((r ++ [c]).length - [59].length) = [c] := by simp
    rw [e]
    rw [Bool.eq_iff_iff]
    simp
theorem rms_1 (q : List Nat) : Txt.removesuffix (S q) (S [59]) = S (rms q) := by
  have h := ends_1 q
  unfold Txt.endswith at h
  rw [StrLaws.removesuffix_eq]
  unfold rms
  rw [h]
  cases he : ends q with
  | false => rfl
  | true =>
    simp only [if_true]
    rcases snoc_cases q with rfl | ⟨r, c, rfl⟩
    · simp [ends] at he
    · rw [S_len, S_len]
      congr 2
      simp
def sz (q : List Nat) : List Nat := q.filter fun c => decide (c ≠ 59)
theorem repl_filter : ∀ p : List Nat, StrLaws.replL [59] [] p = sz p
  | [] => StrLaws.replL_nil
  | c :: r => by
    by_cases h : c = 59
    · subst h
      rw [StrLaws.replL_hit (by simp) (by simp)]
      simp only [List.nil_append, List.length_cons, List.length_nil, List.drop_succ_cons, List.drop_zero]
      rw [repl_filter r]
      simp [sz]
    · rw [StrLaws.replL_miss (by simpa using h), repl_filter r]
      simp [sz, h]
theorem repl_1 (p : List Nat) : Txt.replace (S p) (S [59]) (S []) = S (sz p) := by
  refine TL.ext_tl ?_
  show (Txt.replace (S p) (S [59]) (S [])).cps.toList = _
  rw [StrLaws.replace_list (by decide)]
  exact repl_filter p
inductive Ev where
  | ask | put (n : Nat) | drop (n : Nat)
def evD : Ev → PyData
  | .ask => .tuple [.str "ask"] | .put n => .tuple [.str "put", iN n] | .drop n => .tuple [.str "drop", iN n]
def wAsk : List Nat := [97, 115, 107]
def wAskS : List Nat := [97, 115, 107, 59]
def wPut : List Nat := [112, 117, 116]
def wDrop : List Nat := [100, 114, 111, 112]
theorem w_ask : Str.ofString "ask" = S wAsk := S_of _ _ rfl
theorem w_asks : Str.ofString "ask;" = S wAskS := S_of _ _ rfl
theorem w_put : Str.ofString "put" = S wPut := S_of _ _ rfl
theorem w_drop : Str.ofString "drop" = S wDrop := S_of _ _ rfl
theorem w_semi : Str.ofString ";" = S [59] := S_of _ _ rfl
/-- one event at place k: the event, how many parts, whether it goes on -/
def evR (k : Nat) (ps : List (List Nat)) (ins : Nat) : Except Nat (Ev × Nat × Bool) := match ps with
  | [] => .error k
  | p :: qs => if p = wAsk then .ok (.ask, 1, false) else if p = wAskS then .ok (.ask, 1, true) else
    if p = wPut ∨ (p = wDrop ∧ ins ≠ 0) then match qs with
      | [] => .error (k + 1)
      | q :: _ => match numR (rms q) with
        | none => .error (k + 1)
        | some n => if n = 0 ∨ (p = wDrop ∧ ins < n) then .error (k + 1) else .ok (if p = wDrop then .drop n else .put n, 2, ends q)
    else .error k
def bD (b : Bool) : PyData := .bool b
theorem idx_nat (d : List PyData) (k : Nat) : bind2 (some (PyData.list d)) (some (iN k)) idx = d[k]? := by rw [bind2_s, idx_l]
theorem rmsuf (q : List Nat) (h : q.length ≤ 640) : rmsufD (sD q) (.str (Str.ofString ";")) = some (sD (rms q)) := by
  rw [w_semi]
  have hz : (S q).length ≤ sizeLine := S_le (Nat.le_trans h (by decide))
  show (if (S q).length ≤ sizeLine then some (PyData.str (Txt.removesuffix (S q) (S [59]))) else none) = _
  rw [if_pos hz, rms_1]
theorem endsS (q : List Nat) : endsD (sD q) (.str (Str.ofString ";")) = some (.bool (ends q)) := by
  rw [w_semi]
  show some (PyData.bool (Txt.endswith (S q) (S [59]))) = _
  rw [ends_1]
theorem rms_len (q : List Nat) : (rms q).length ≤ q.length := by
  unfold rms; split <;> simp
theorem in2 (p a b : List Nat) : inT (sD p) (.tuple [sD a, sD b]) = some (.bool (decide (p = a ∨ p = b))) := by
  simp only [inT_s, strsOf_c, strsOf_n, Option.map_some, Option.bind_some]
  congr 2
  rw [Bool.eq_iff_iff]
  simp [S_eq]
theorem nin2 (p a b : List Nat) : ninT (sD p) (.tuple [sD a, sD b]) = some (.bool (!decide (p = a ∨ p = b))) := by
  show (strsOf [sD a, sD b]).bind (fun ys => some (PyData.bool (!ys.contains (S p)))) = _
  simp only [strsOf_c, strsOf_n, Option.map_some, Option.bind_some]
  congr 3
  rw [Bool.eq_iff_iff]
  simp [S_eq]
theorem tup2 (a b : PyData) : tupM (consM (some a) (consM (some b) (some []))) = some (.tuple [a, b]) := rfl
theorem event_read (d : List PyData) (k : Nat) (ps : List (List Nat)) (ins : Nat) (h : ∀ p ∈ ps, p.length ≤ 640) (hd : d.drop k = ps.map sD) (hk : k + ps.length = d.length) :
    F_event_read [.list d, iN k, iN ins] = some (match evR k ps ins with
      | .ok (e, n, g) => .ok (.tuple [evD e, iN n, .bool g])
      | .error j => .error ⟨.text, .int 0, iN j⟩) := by
  show runM (m_event_read _ _ _) = _
  unfold m_event_read evR
  have hlen : ((d.length : Nat) : Int) = ((k + ps.length : Nat) : Int) := by rw [hk]
  rw [consM_s, Option.bind_some, lenD_l, hlen, bind2_s, eqS_i, boolM_s, bind2_s (iN k) (.int 1), addI_s, idx_nat]
  have hk1 : PyData.int ((k : Int) + 1) = iN (k + 1) := by simp
  rw [hk1, idx_nat]
  cases ps with
  | nil =>
    rw [decide_eq_true (by simp), ifM_t]
    rfl
  | cons p qs =>
    have hx : d[k]? = some (sD p) := by
      have := congrArg (fun l => l[0]?) hd
      simpa using this
    have hn : ¬ ((k : Int) = ((k + (p :: qs).length : Nat) : Int)) := by simp; omega
    rw [decide_eq_false hn, ifM_f, seqM_ok, hx, w_ask, w_asks, w_put, w_drop, tup2, tup2, bind2_s, in2, boolM_s, bind2_s, eqS_S, bind2_s, nin2, boolM_s, bind2_s, eqS_S, boolM_s, bind2_s, eqS_i, boolM_s]
    dsimp only
    by_cases h1 : p = wAsk
    · have h2 : ¬ p = wAskS := by rw [h1]; decide
      rw [decide_eq_true (Or.inl h1), ifM_t, if_pos h1, decide_eq_false h2]
      rfl
    · by_cases h2 : p = wAskS
      · rw [decide_eq_true (Or.inr h2), ifM_t, if_neg h1, if_pos h2, decide_eq_true h2]
        rfl
      · have h12 : ¬ (p = wAsk ∨ p = wAskS) := by rintro (h | h) <;> contradiction
        rw [decide_eq_false h12, ifM_f, seqM_ok, if_neg h1, if_neg h2]
        have hc : orM (some (!decide (p = wPut ∨ p = wDrop))) (andM (some (decide (p = wDrop))) (some (decide ((ins : Int) = 0)))) = some (!decide (p = wPut ∨ (p = wDrop ∧ ins ≠ 0))) := by
          by_cases a : p = wPut
          · have : ¬ (wPut = wDrop) := by decide
            simp [a, this]
          · by_cases b : p = wDrop
            · have : ¬ (wDrop = wPut) := by decide
              by_cases c : ins = 0 <;> simp [b, c, this]
            · simp [a, b]
        rw [hc]
        by_cases h3 : p = wPut ∨ (p = wDrop ∧ ins ≠ 0)
        · rw [decide_eq_true h3, Bool.not_true, ifM_f, seqM_ok, if_pos h3, bind2_s, eqS_i, boolM_s]
          cases qs with
          | nil =>
            have : ((k + 1 : Nat) : Int) = ((k + [p].length : Nat) : Int) := by simp
            rw [decide_eq_true this, ifM_t]
            rfl
          | cons q rs =>
            have hq := h q (by simp)
            have : ¬ ((k + 1 : Nat) : Int) = ((k + (p :: q :: rs).length : Nat) : Int) := by simp; omega
            have hx1 : d[k + 1]? = some (sD q) := by
              have := congrArg (fun l => l[1]?) hd
              simpa using this
            have hr : (rms q).length ≤ 640 := Nat.le_trans (rms_len q) hq
            rw [decide_eq_false this, ifM_f, seqM_ok, hx1, bind2_s, rmsuf q hq, consM_s, fnP_number _ hr, okM_s, seqM_ok, bind2_s (sD q), endsS]
            dsimp only
            cases hnum : numR (rms q) with
            | none => rfl
            | some n =>
              simp only [oD, bind2_s, isN_i, boolM_s, orM_f, ltI_s, gtI_s]
              have hcc : orM (some (decide ((n : Int) < 1))) (andM (some (decide (p = wDrop))) (some (decide ((ins : Int) < (n : Int))))) = some (decide (n = 0 ∨ (p = wDrop ∧ ins < n))) := by
                by_cases a : n = 0
                · have : (n : Int) < 1 := by omega
                  simp [a]
                · have a' : ¬ (n : Int) < 1 := by omega
                  by_cases b : p = wDrop
                  · by_cases c : ins < n
                    · have : (ins : Int) < (n : Int) := by omega
                      simp [b, c, a']
                    · have : ¬ (ins : Int) < (n : Int) := by omega
                      simp [b, c, a, a']
                  · simp [a, a', b]
              rw [hcc]
              by_cases h4 : n = 0 ∨ (p = wDrop ∧ ins < n)
              · rw [decide_eq_true h4, ifM_t, if_pos h4]
                rfl
              · rw [decide_eq_false h4, ifM_f, seqM_ok, if_neg h4]
                rcases h3 with h3 | ⟨h3, _⟩
                · subst h3
                  rw [if_neg (by decide)]
                  show _ = some (Except.ok (PyData.tuple [PyData.tuple [PyData.str (Str.ofString "put"), iN n], iN 2, PyData.bool (ends q)]))
                  rw [w_put]
                  rfl
                · subst h3
                  rw [if_pos rfl]
                  show _ = some (Except.ok (PyData.tuple [PyData.tuple [PyData.str (Str.ofString "drop"), iN n], iN 2, PyData.bool (ends q)]))
                  rw [w_drop]
                  rfl
        · rw [decide_eq_false h3, Bool.not_false, ifM_t, if_neg h3]
          rfl
def Ev.up : Ev → Nat → Nat
  | .put n, i => i + n | _, i => i
def Ev.go : Ev → Nat → Nat
  | .ask, i => i | .put n, i => i + n | .drop n, i => i - n
/-- events from place k on: the events, where it stopped -/
def goH : Nat → Nat → List (List Nat) → Nat → List Ev → Except Nat (List Ev × Nat × Nat)
  | 0, k, _, _, _ => .error k
  | f + 1, k, ps, ins, acc => match evR k ps ins with
    | .error j => .error j
    | .ok (e, n, g) => if g = true then goH f (k + n) (ps.drop n) (e.go ins) (acc ++ [e]) else .ok (acc ++ [e], e.go ins, k + n)
theorem evR_ok {k ins : Nat} {ps : List (List Nat)} {e : Ev} {n : Nat} {g : Bool} (h : evR k ps ins = .ok (e, n, g)) : 1 ≤ n ∧ n ≤ ps.length ∧ (∀ m, e = .drop m → m ≤ ins) := by
  unfold evR at h
  split at h
  · cases h
  · split at h
    · cases h; exact ⟨by omega, by simp, fun m hm => by cases hm⟩
    · split at h
      · cases h; exact ⟨by omega, by simp, fun m hm => by cases hm⟩
      · split at h
        · split at h
          · cases h
          · split at h
            · cases h
            · split at h
              · cases h
              · rename_i hc
                cases h
                refine ⟨by omega, by simp, fun m hm => ?_⟩
                split at hm
                · rename_i hp
                  have hm2 := Ev.drop.inj hm
                  exact Nat.le_of_not_lt fun h5 => hc (Or.inr ⟨hp, by rw [hm2]; exact h5⟩)
                · cases hm
        · cases h
theorem goH_ok : ∀ {f k : Nat} {ps : List (List Nat)} {ins : Nat} {acc : List Ev} {a : List Ev} {i j : Nat}, goH f k ps ins acc = .ok (a, i, j) → j ≤ k + ps.length
  | 0, _, _, _, _, _, _, _, h => by cases h
  | f + 1, k, ps, ins, acc, a, i, j, h => by
    unfold goH at h
    split at h
    · cases h
    · rename_i e n g hr
      obtain ⟨h1, h2, _⟩ := evR_ok hr
      split at h
      · have := goH_ok h
        rw [List.length_drop] at this
        omega
      · cases h; omega
theorem pure_ev (e : Ev) : pureT (evD e) = true := by cases e <;> simp [evD, pureT, pureL]
theorem progH (d : List PyData) (hl : d.length ≤ 60000) : ∀ (f F : Nat) (ps : List (List Nat)) (k ins : Nat) (acc : List Ev), (∀ p ∈ ps, p.length ≤ 640) → d.drop k = ps.map sD → k + ps.length = d.length → acc.length ≤ k → ps.length < f → f < F →
    whileM (S := PyData × List PyData × PyData × PyData) (fun s6 => boolM (some s6.1)) (fun s6 =>
  seqM (seqM (fnXP F_event_read 3 (consM (some (.list d)) (consM (some s6.2.2.2) (consM (some s6.2.2.1) (some []))))) fun d => okM (triM d fun a b c => some (a, b, c))) fun t7 =>
  seqM (okM ((some t7.1).bind fun d => if (s6.2.1).length < 100000 then some (s6.2.1 ++ [d]) else none)) fun l8 =>
  seqM (ifM (S := PyData) (boolM (bind2 (bind2 (some t7.1) (some (.int 0)) idx) (some (.str "put")) eqS))
  (seqM (okM ((bind2 (some t7.1) (some (.int 1)) idx).bind (addI s6.2.2.1))) fun d10 =>
  some (.ok d10))
  (some (.ok s6.2.2.1))) fun s9 =>
  seqM (ifM (S := PyData) (boolM (bind2 (bind2 (some t7.1) (some (.int 0)) idx) (some (.str "drop")) eqS))
  (seqM (okM ((bind2 (some t7.1) (some (.int 1)) idx).bind (subI s9))) fun d12 =>
  some (.ok d12))
  (some (.ok s9))) fun s11 =>
  seqM (okM ((some t7.2.1).bind (addI s6.2.2.2))) fun d13 =>
  some (.ok (t7.2.2, l8, s11, d13))) F (.bool true, acc.map evD, iN ins, iN k) =
    match goH f k ps ins acc with
    | .ok (a, i, j) => some (.ok (.bool false, a.map evD, iN i, iN j))
    | .error j => some (.error (.er ⟨.text, .int 0, iN j⟩))
  | 0, _, _, _, _, _, _, _, _, _, hf, _ => absurd hf (Nat.not_lt_zero _)
  | f + 1, 0, _, _, _, _, _, _, _, _, _, hF => absurd hF (Nat.not_lt_zero _)
  | f + 1, F + 1, ps, k, ins, acc, h, hd, hk, ha, hf, hF => by
    unfold whileM
    have he := event_read d k ps ins h hd hk
    rw [boolM_s, Option.bind_some, if_pos rfl, consM_s, consM_s, consM_s]
    unfold goH
    cases hr : evR k ps ins with
    | error j =>
      rw [hr] at he
      unfold fnXP
      rw [fnX_er (n := 3) he rfl]
      rfl
    | ok v =>
      obtain ⟨e, n, g⟩ := v
      rw [hr] at he
      obtain ⟨h1, h2, h3⟩ := evR_ok hr
      have hxp : fnXP F_event_read 3 (some [.list d, iN k, iN ins]) = some (.ok (.tuple [evD e, iN n, .bool g])) := by
        unfold fnXP
        rw [fnX_ok (n := 3) he rfl, Option.bind_some]
        have : pureT (.tuple [evD e, iN n, .bool g]) = true := by simp [pureT, pureL, pure_ev]
        dsimp only
        rw [if_pos this]
      have hlen : (acc.map evD).length < 100000 := by rw [List.length_map]; omega
      have ht : triM (.tuple [evD e, iN n, .bool g]) (fun a b c => some (a, b, c)) = some (evD e, iN n, .bool g) := rfl
      have hk2 : PyData.int ((k : Int) + (n : Int)) = iN (k + n) := by simp
      have hput : (ifM (S := PyData) (boolM (bind2 (bind2 (some (evD e)) (some (.int 0)) idx) (some (.str "put")) eqS))
          (seqM (okM ((bind2 (some (evD e)) (some (.int 1)) idx).bind (addI (iN ins)))) fun d10 => some (.ok d10)) (some (.ok (iN ins)))) = some (.ok (iN (e.up ins))) := by
        cases e <;> simp [evD, Ev.up]
      have hdrop : (ifM (S := PyData) (boolM (bind2 (bind2 (some (evD e)) (some (.int 0)) idx) (some (.str "drop")) eqS))
          (seqM (okM ((bind2 (some (evD e)) (some (.int 1)) idx).bind (subI (iN (e.up ins))))) fun d12 => some (.ok d12)) (some (.ok (iN (e.up ins))))) = some (.ok (iN (e.go ins))) := by
        cases e with
        | ask => simp [evD, Ev.go, Ev.up]
        | put m => simp [evD, Ev.go, Ev.up]
        | drop m =>
          have := h3 m rfl
          simp [evD, Ev.go, Ev.up]
          omega
      rw [hxp, seqM_ok, ht, okM_s, seqM_ok, Option.bind_some, if_pos hlen, okM_s, seqM_ok]
      dsimp only
      rw [hput, seqM_ok, hdrop, seqM_ok, Option.bind_some, addI_s, hk2, okM_s, seqM_ok, Option.bind_some]
      dsimp only
      cases g with
      | false =>
        rw [if_neg Bool.false_ne_true]
        cases F with
        | zero => omega
        | succ F =>
          unfold whileM
          rw [boolM_s, Option.bind_some, if_neg Bool.false_ne_true]
          dsimp only
          rw [List.map_append]
          rfl
      | true =>
        rw [if_pos rfl]
        have hd2 : d.drop (k + n) = (ps.drop n).map sD := by
          rw [← List.drop_drop, hd, List.map_drop]
        have ih := progH d hl f F (ps.drop n) (k + n) (e.go ins) (acc ++ [e]) (fun p hp => h p (List.mem_of_mem_drop hp)) hd2 (by rw [List.length_drop]; omega) (by simp; omega) (by rw [List.length_drop]; omega) (by omega)
        rw [List.map_append] at ih
        exact ih
end UT.M
end
section
set_option Elab.async false
set_option linter.all false
set_option maxRecDepth 100000
set_option maxHeartbeats 4000000
/-! plain: the reader of histories, whole -/
namespace UT.M
open PySem PySem.Spec PyProof.Rows L2 SX
def rh (l : List Nat) : Except Nat PyData :=
  if (sp l).head? = some [45] then (if 1 < (sp l).length then .error 1 else .ok (.tuple [])) else
  match goH ((sp l).length + 1) 0 (sp l) 0 [] with
  | .error k => .error k
  | .ok (a, _, j) => if j < (sp l).length then .error j else .ok (.tuple (a.map evD))
theorem read_history {l : List Nat} (h : Ok l) : F_read_history [sD l] = some (progR (rh l)) := by
  show runM (m_read_history (sD l)) = _
  unfold m_read_history rh
  have hl := h.len
  have hn := sp_len l
  have hp := parts_of h
  rw [consM_s]
  by_cases hc : (sp l).head? = some [45]
  · rw [if_pos hc] at hp ⊢
    by_cases h1 : 1 < (sp l).length
    · rw [if_pos h1] at hp ⊢
      rw [fnX_er (n := 1) hp rfl]
      rfl
    · rw [if_neg h1] at hp ⊢
      rw [fnX_ok (n := 1) hp rfl, seqM_ok]
      rfl
  · rw [if_neg hc] at hp ⊢
    have hlen : ((((sp l).map sD).length : Nat) : Int) = ((sp l).length : Int) := by rw [List.length_map]
    have hpos : 0 < (sp l).length := List.length_pos_iff.mpr (sp_ne l)
    have hpi : (0 : Int) < ((sp l).length : Int) := by omega
    have q := progH ((sp l).map sD) (by rw [List.length_map]; omega) ((sp l).length + 1) 100000 (sp l) 0 0 [] h.parts rfl (by rw [List.length_map]; omega) (Nat.zero_le _) (by omega) (by omega)
    rw [List.map_nil, show iN 0 = .int 0 from rfl] at q
    rw [fnX_ok (n := 1) hp rfl, seqM_ok, Option.bind_some, if_pos (show ([] : List PyData).length ≤ 100000 from Nat.zero_le _), okM_s, seqM_ok, okM_s, seqM_ok, seqM_ok, consM_s (.list _), Option.bind_some, lenD_l, hlen, bind2_s, gtI_s, decide_eq_true hpi, okM_s, seqM_ok, q]
    cases hg : goH ((sp l).length + 1) 0 (sp l) 0 [] with
    | error j => rfl
    | ok v =>
      obtain ⟨a, i, j⟩ := v
      dsimp only
      rw [seqM_ok]
      dsimp only
      rw [bind2_s, ltI_s, boolM_s, consM_s (iN j), consM_s, raise_text]
      by_cases h1 : j < (sp l).length
      · have : (j : Int) < ((sp l).length : Int) := by omega
        rw [ifM_y this, if_pos h1]
        rfl
      · have : ¬ (j : Int) < ((sp l).length : Int) := by omega
        rw [ifM_n this, if_neg h1]
        rfl
/-! the law's walk over the parts -/
theorem replS (p : List Nat) (h : p.length ≤ 640) : (some (sD p)).bind (replD (Str.ofString ";") (Str.ofString "")) = some (sD (sz p)) := by
  rw [w_semi, w_nil, Option.bind_some]
  have e : (S p).length + ((S p).length + 1) * (S []).length ≤ 16777216 := by rw [S_len, S_len]; simp; omega
  show (if (S p).length + ((S p).length + 1) * (S []).length ≤ 16777216 then some (PyData.str (Txt.replace (S p) (S [59]) (S []))) else none) = _
  rw [if_pos e, repl_1]
theorem sz_len (p : List Nat) : (sz p).length ≤ p.length := List.length_filter_le _ _
theorem addS_semi (p : List Nat) (h : p.length ≤ 640) : addS (sD p) (.str (Str.ofString ";")) = some (sD (p ++ [59])) := by
  rw [w_semi]
  have e : (S p).length + (S [59]).length ≤ sizeLine := by
    rw [S_len, S_len]; exact Nat.le_trans (show p.length + [59].length ≤ 1000 by simp; omega) (by decide)
  show (if (S p).length + (S [59]).length ≤ sizeLine then some (PyData.str (S p ++ S [59])) else none) = _
  rw [if_pos e, S_cat]
/-- no sign ; but one at the end -/
def good (p : List Nat) : Bool := decide (p = sz p ∨ p = sz p ++ [59])
theorem sz_no (p : List Nat) : 59 ∉ sz p := by simp [sz]
theorem sz_self {p : List Nat} (h : 59 ∉ p) : sz p = p := by
  unfold sz
  rw [List.filter_eq_self]
  intro a ha
  have : a ≠ 59 := fun e => h (e ▸ ha)
  simpa using this
theorem good_ends {p : List Nat} (h : good p = true) : rms p = sz p ∧ (p = sz p ++ [59]) = (ends p = true) := by
  unfold good at h
  rcases of_decide_eq_true h with h | h
  · have hno : 59 ∉ p := by rw [h]; exact sz_no p
    have he : ends p = false := by
      unfold ends
      rw [decide_eq_false]
      intro e
      exact hno (List.mem_of_getLast? e)
    refine ⟨by unfold rms; rw [he, if_neg Bool.false_ne_true]; exact h, ?_⟩
    apply propext
    rw [he]
    constructor
    · intro e; exact absurd (e ▸ (by simp : 59 ∈ sz p ++ [59])) hno
    · intro e; cases e
  · have he : ends p = true := by
      unfold ends
      rw [h]; simp
    refine ⟨?_, ?_⟩
    · unfold rms
      rw [he, if_pos rfl]
      have := congrArg List.dropLast h
      simpa using this
    · apply propext
      exact ⟨fun _ => he, fun _ => h⟩
theorem bad_num {p : List Nat} (h : good p = false) : numR (rms p) = none := by
  have : 59 ∈ rms p := by
    refine Decidable.byContradiction fun hno => ?_
    have hg : good p = true := by
      unfold good
      refine decide_eq_true ?_
      unfold rms at hno
      split at hno
      · rename_i he
        have he2 : p.getLast? = some 59 := of_decide_eq_true he
        have e : p = p.dropLast ++ [59] := by
          rcases snoc_cases p with h0 | ⟨r, c, h0⟩
          · rw [h0] at he2; cases he2
          · rw [h0] at he2 ⊢
            have : c = 59 := by simpa using he2
            rw [this]; simp
        right
        have e3 : sz p = p.dropLast := by
          have : sz p = sz (p.dropLast ++ [59]) := congrArg sz e
          rw [this]
          unfold sz
          rw [List.filter_append]
          have := sz_self hno
          unfold sz at this
          rw [this]; simp
        rw [e3]; exact e
      · exact .inl (sz_self hno).symm
    rw [hg] at h; cases h
  have hf : fig (rms p) = false := by
    cases hf : fig (rms p) with
    | false => rfl
    | true => have := (fig_digits hf).1 59 this; omega
  simp [numR, hf]
/-- one step of the law's walk -/
def hstep (d1 : List PyData) : PyData × List PyData × PyData → PyData → SM (PyData × List PyData × PyData) := (fun (s6 : PyData × List PyData × PyData) (x7 : PyData) =>
  seqM (okM ((bind2 (some (.list d1)) (some x7) idx).bind (replD ";" ""))) fun d8 =>
  seqM (ifM (S := Unit) (orM (boolM (bind2 (some s6.1) (some (.str "end")) eqS)) (boolM (bind2 (bind2 (some (.list d1)) (some x7) idx) (tupM (consM (some d8) (consM (bind2 (some d8) (some (.str ";")) addS) (some [])))) ninT)))
  (retM (fnP F_law_no 1 (consM (some x7) (some []))))
  (some (.ok ()))) fun s9 =>
  seqM (ifM (S := PyData × List PyData × PyData) (boolM (bind2 (some s6.1) (some (.str "word")) eqS))
  (seqM (ifM (S := PyData × List PyData) (orM (boolM (bind2 (bind2 (some (.list d1)) (some x7) idx) (some (.str "put")) eqS)) (andM (boolM (bind2 (bind2 (some (.list d1)) (some x7) idx) (some (.str "drop")) eqS)) (boolM (bind2 (some s6.2.2) (some (.int 0)) gtI))))
  (seqM (okM (some d8)) fun d12 =>
  some (.ok (d12, s6.2.1)))
  (seqM (ifM (S := List PyData × PyData) (boolM (bind2 (some d8) (some (.str "ask")) eqS))
  (seqM (okM ((tupM (consM (some (.str "ask")) (some []))).bind fun d => if (s6.2.1).length < 100000 then some (s6.2.1 ++ [d]) else none)) fun l14 =>
  seqM (okM (bind2 (tupM (consM (some (.str "end")) (consM (some (.str "word")) (some [])))) ((consM (bind2 (bind2 (some (.list d1)) (some x7) idx) (some (.str "ask;")) eqS) (some [])).bind int1) idx)) fun d15 =>
  some (.ok (l14, d15)))
  (retM (fnP F_law_no 1 (consM (some x7) (some []))))) fun s13 =>
  some (.ok (s13.2, s13.1)))) fun s11 =>
  some (.ok (s11.1, s11.2, s6.2.2)))
  (seqM (ifM (S := Unit) (orM (notM (boolM (fnP F_law_figures 1 (consM (some d8) (some []))))) (orM (boolM (bind2 (some d8) (some (.str "0")) eqS)) (andM (boolM (bind2 (some s6.1) (some (.str "drop")) eqS)) (boolM (bind2 ((consM (some d8) (some [])).bind intS) (some s6.2.2) gtI)))))
  (retM (fnP F_law_no 1 (consM (some x7) (some []))))
  (some (.ok ()))) fun s16 =>
  seqM (okM ((tupM (consM (some s6.1) (consM ((consM (some d8) (some [])).bind intS) (some [])))).bind fun d => if (s6.2.1).length < 100000 then some (s6.2.1 ++ [d]) else none)) fun l17 =>
  seqM (okM (bind2 (some s6.2.2) (bind2 ((consM (some d8) (some [])).bind intS) (bind2 (some (.int 1)) (bind2 (some (.int 2)) ((consM (bind2 (some s6.1) (some (.str "drop")) eqS) (some [])).bind int1) mulI) subI) mulI) addI)) fun d18 =>
  seqM (okM (bind2 (tupM (consM (some (.str "end")) (consM (some (.str "word")) (some [])))) ((consM (bind2 (bind2 (some (.list d1)) (some x7) idx) (bind2 (some d8) (some (.str ";")) addS) eqS) (some [])).bind int1) idx)) fun d19 =>
  some (.ok (d19, l17, d18)))) fun s10 =>
  (some (.ok (s10.1, s10.2.1, s10.2.2)) : SM (PyData × List PyData × PyData)))
theorem h_end (d1 : List PyData) (k : Nat) (p : List Nat) (acc : List PyData) (ins : PyData) (hp : p.length ≤ 640) (hx : d1[k]? = some (sD p)) : hstep d1 (.str "end", acc, ins) (iN k) = some (.error (.rt (noD k))) := by
  unfold hstep
  dsimp only
  rw [idx_nat, hx, replS p hp, okM_s, seqM_ok, bind2_s, eqS_s, decide_eq_true rfl, boolM_s, orM_t, ifM_t, consM_s, fnP_no]
  rfl
theorem h_bad (d1 : List PyData) (k : Nat) (p : List Nat) (st : String) (acc : List PyData) (ins : PyData) (hst : st ≠ "end") (hp : p.length ≤ 640) (hx : d1[k]? = some (sD p)) (hg : good p = false) : hstep d1 (.str (Str.ofString st), acc, ins) (iN k) = some (.error (.rt (noD k))) := by
  have hz := Nat.le_trans (sz_len p) hp
  have hs : ¬ (Str.ofString st = Str.ofString "end") := by rw [ofString_eq]; exact hst
  unfold hstep
  dsimp only
  rw [idx_nat, hx, replS p hp, okM_s, seqM_ok, bind2_s, eqS_s, decide_eq_false hs, boolM_s, orM_f, bind2_s (sD (sz p)), addS_semi _ hz, tup2, bind2_s, nin2]
  unfold good at hg
  rw [hg, Bool.not_false, boolM_s, ifM_t, consM_s, fnP_no]
  rfl
end UT.M
end
section
set_option Elab.async false
set_option linter.all false
set_option maxRecDepth 100000
set_option maxHeartbeats 4000000
/-! plain: the law's reader of histories -/
namespace UT.M
open PySem PySem.Spec PyProof.Rows L2 SX
def wEnd : List Nat := [101, 110, 100]
def wWord : List Nat := [119, 111, 114, 100]
theorem w_end : Str.ofString "end" = S wEnd := S_of _ _ rfl
theorem w_word : Str.ofString "word" = S wWord := S_of _ _ rfl
theorem pick2 (a b : PyData) (k : Bool) : bind2 (some (.tuple [a, b])) ((consM (some (.bool k)) (some [])).bind int1) idx = some (if k = true then b else a) := by
  cases k <;> rfl
theorem sz_ask {p : List Nat} (hg : good p = true) : (sz p = wAsk) = (p = wAsk ∨ p = wAskS) := by
  apply propext
  constructor
  · intro h
    unfold good at hg
    rcases of_decide_eq_true hg with h2 | h2
    · left; rw [h2, h]
    · right; rw [h2, h]; rfl
  · rintro (h | h) <;> subst h <;> decide
theorem h_word (d1 : List PyData) (k : Nat) (p : List Nat) (acc : List PyData) (ins : Nat) (hp : p.length ≤ 640) (hx : d1[k]? = some (sD p)) (hg : good p = true) (hl : acc.length < 100000) :
    hstep d1 (.str "word", acc, iN ins) (iN k) = if p = wPut ∨ (p = wDrop ∧ ins ≠ 0) then some (.ok (sD p, acc, iN ins)) else
      if p = wAsk then some (.ok (sD wEnd, acc ++ [evD .ask], iN ins)) else if p = wAskS then some (.ok (sD wWord, acc ++ [evD .ask], iN ins)) else some (.error (.rt (noD k))) := by
  have hz := Nat.le_trans (sz_len p) hp
  have hg2 := hg
  unfold good at hg2
  unfold hstep
  dsimp only
  rw [idx_nat, hx, replS p hp, okM_s, seqM_ok, w_end, w_word, w_put, w_drop, w_asks, bind2_s, eqS_S, decide_eq_false (by decide), boolM_s, orM_f, bind2_s (sD (sz p)), addS_semi _ hz, tup2, bind2_s, nin2, hg2, Bool.not_true, boolM_s, ifM_f, seqM_ok, bind2_s, eqS_S, decide_eq_true rfl, boolM_s, ifM_t, bind2_s, eqS_S, boolM_s, bind2_s, eqS_S, boolM_s, bind2_s, gtI_s, boolM_s]
  have hc : orM (some (decide (p = wPut))) (andM (some (decide (p = wDrop))) (some (decide ((0 : Int) < (ins : Int))))) = some (decide (p = wPut ∨ (p = wDrop ∧ ins ≠ 0))) := by
    by_cases a : p = wPut
    · simp [a]
    · by_cases b : p = wDrop
      · have nw : ¬ (wDrop = wPut) := by decide
        by_cases c : ins = 0
        · simp [b, c, nw]
        · have c2 : 0 < ins := by omega
          simp [b, c, nw, c2]
      · simp [a, b]
  rw [hc]
  by_cases h1 : p = wPut ∨ (p = wDrop ∧ ins ≠ 0)
  · rw [decide_eq_true h1, ifM_t, if_pos h1]
    have : sz p = p := by
      rcases h1 with h | ⟨h, _⟩ <;> subst h <;> decide
    rw [this]
    rfl
  · rw [decide_eq_false h1, ifM_f, if_neg h1, bind2_s, w_ask, eqS_S, boolM_s]
    have ha := sz_ask hg
    by_cases h2 : p = wAsk ∨ p = wAskS
    · have h3 : sz p = wAsk := ha ▸ h2
      have e1 : tupM (consM (some (.str (S wAsk))) (some [])) = some (evD .ask) := by
        show some (PyData.tuple [.str (S wAsk)]) = some (.tuple [.str (Str.ofString "ask")])
        rw [w_ask]
      rw [decide_eq_true h3, ifM_t, e1, Option.bind_some, if_pos hl, okM_s, seqM_ok, tup2, bind2_s (sD p), eqS_S, pick2, okM_s, seqM_ok]
      rcases h2 with h2 | h2
      · have h4 : ¬ p = wAskS := by rw [h2]; decide
        rw [decide_eq_false h4, if_pos h2]
        rfl
      · have h4 : ¬ p = wAsk := by rw [h2]; decide
        rw [decide_eq_true h2, if_neg h4, if_pos h2]
        rfl
    · have h3 : ¬ sz p = wAsk := ha ▸ h2
      rw [decide_eq_false h3, ifM_f, consM_s, fnP_no, if_neg (fun e => h2 (.inl e)), if_neg (fun e => h2 (.inr e))]
      rfl
theorem h_num (d1 : List PyData) (k : Nat) (w q : List Nat) (hw : w = wPut ∨ w = wDrop) (acc : List PyData) (ins : Nat) (hp : q.length ≤ 640) (hx : d1[k]? = some (sD q)) (hg : good q = true) (hl : acc.length < 100000) :
    hstep d1 (sD w, acc, iN ins) (iN k) = match numR (rms q) with
      | none => some (.error (.rt (noD k)))
      | some n => if n = 0 ∨ (w = wDrop ∧ ins < n) then some (.error (.rt (noD k))) else
          some (.ok (if ends q = true then sD wWord else sD wEnd, acc ++ [evD (if w = wDrop then .drop n else .put n)], iN ((if w = wDrop then Ev.drop n else Ev.put n).go ins))) := by
  have hz := Nat.le_trans (sz_len q) hp
  have hg2 := hg
  unfold good at hg2
  obtain ⟨hr, he⟩ := good_ends hg
  have n1 : ¬ w = wEnd := by rcases hw with h | h <;> subst h <;> decide
  have n2 : ¬ w = wWord := by rcases hw with h | h <;> subst h <;> decide
  unfold hstep
  dsimp only
  rw [idx_nat, hx, replS q hp, okM_s, seqM_ok, w_end, w_word, w_put, w_drop, bind2_s, eqS_S, decide_eq_false n1, boolM_s, orM_f, bind2_s (sD (sz q)), addS_semi _ hz, tup2, bind2_s, nin2, hg2, Bool.not_true, boolM_s, ifM_f, seqM_ok, bind2_s, eqS_S, decide_eq_false n2, boolM_s, ifM_f, consM_s, fnP_figures _ hz, boolM_s, notM_s, w_0, bind2_s, eqS_S, boolM_s, bind2_s, eqS_S, boolM_s, consM_s, fnP_no, hr]
  cases hf : fig (sz q) with
  | false =>
    have : numR (sz q) = none := by simp [numR, hf]
    rw [this]
    rfl
  | true =>
    have hn : numR (sz q) = some (NumText.digitsVal (sz q)) := by simp [numR, hf]
    have h48 := dig_zero hf
    rw [hn, Option.bind_some, intS_fig hf hz]
    dsimp only
    have hcc : orM (some (decide (sz q = [48]))) (andM (some (decide (w = wDrop))) (boolM (bind2 (some (iN (NumText.digitsVal (sz q)))) (some (iN ins)) gtI))) = some (decide (NumText.digitsVal (sz q) = 0 ∨ (w = wDrop ∧ ins < NumText.digitsVal (sz q)))) := by
      have : decide (sz q = [48]) = decide (NumText.digitsVal (sz q) = 0) := decide_eq_decide.mpr (by rw [h48])
      rw [this, bind2_s, gtI_s, boolM_s]
      generalize NumText.digitsVal (sz q) = n
      by_cases a : n = 0
      · simp [a]
      · by_cases b : w = wDrop
        · by_cases c : ins < n
          · have : (ins : Int) < (n : Int) := by omega
            simp [b, c, a]
          · have : ¬ (ins : Int) < (n : Int) := by omega
            simp [b, c, a]
        · simp [a, b]
    rw [hcc]
    generalize NumText.digitsVal (sz q) = n
    rw [Bool.not_true, orM_f]
    by_cases h4 : n = 0 ∨ (w = wDrop ∧ ins < n)
    · rw [decide_eq_true h4, ifM_t, if_pos h4]
      rfl
    · rw [decide_eq_false h4, ifM_f, seqM_ok, if_neg h4, tup2, Option.bind_some, if_pos hl, okM_s, seqM_ok, tup2, bind2_s (sD q), eqS_S, pick2]
      have hee : decide (q = sz q ++ [59]) = ends q := by
        rw [Bool.eq_iff_iff, decide_eq_true_eq]
        exact iff_of_eq he
      rw [hee]
      rcases hw with hw | hw
      · subst hw
        rw [decide_eq_false (by decide : ¬ wPut = wDrop), if_neg (by decide : ¬ wPut = wDrop)]
        have em : bind2 (some (iN ins)) (bind2 (some (iN n)) (bind2 (some (.int 1)) (bind2 (some (.int 2)) ((consM (some (.bool false)) (some [])).bind int1) mulI) subI) mulI) addI = some (iN (ins + n)) := by
          simp
        have ee : evD (.put n) = .tuple [sD wPut, iN n] := by
          show PyData.tuple [.str (Str.ofString "put"), iN n] = _
          rw [w_put]
        rw [em, ee]
        cases ends q <;> rfl
      · subst hw
        have hle : n ≤ ins := by
          refine Nat.le_of_not_lt fun h => h4 (.inr ⟨rfl, h⟩)
        rw [decide_eq_true rfl, if_pos rfl]
        have em : bind2 (some (iN ins)) (bind2 (some (iN n)) (bind2 (some (.int 1)) (bind2 (some (.int 2)) ((consM (some (.bool true)) (some [])).bind int1) mulI) subI) mulI) addI = some (iN (ins - n)) := by
          simp
          omega
        have ee : evD (.drop n) = .tuple [sD wDrop, iN n] := by
          show PyData.tuple [.str (Str.ofString "drop"), iN n] = _
          rw [w_drop]
        rw [em, ee]
        cases ends q <;> rfl
def LR (n : Nat) (r : SM (PyData × List PyData × PyData)) (g : Except Nat (List Ev × Nat × Nat)) : Prop := match g with
  | .ok (a, i, j) => if j < n then r = some (.error (.rt (noD j))) else r = some (.ok (sD wEnd, a.map evD, iN i))
  | .error j => j ≤ n ∧ (j < n → r = some (.error (.rt (noD j)))) ∧ (j = n → ∃ w ac i, w ≠ wEnd ∧ r = some (.ok (sD w, ac, i)))
theorem LR_err {n j : Nat} {r : SM (PyData × List PyData × PyData)} (h : r = some (.error (.rt (noD j)))) (hj : j < n) : LR n r (.error j) := ⟨by omega, fun _ => h, fun e => by omega⟩
/-- behind the stage end -/
theorem LR_end (d1 : List PyData) (k : Nat) (ps : List (List Nat)) (a : List Ev) (i : Nat) (h : ∀ p ∈ ps, p.length ≤ 640) (hd : d1.drop k = ps.map sD) (hk : k + ps.length = d1.length) :
    LR d1.length (forM' (hstep d1) (rngL (k : Int) ps.length) (sD wEnd, a.map evD, iN i)) (.ok (a, i, k)) := by
  unfold LR
  dsimp only
  cases ps with
  | nil =>
    rw [if_neg (by simp at hk; omega)]
    rfl
  | cons p qs =>
    rw [if_pos (by simp at hk; omega)]
    have hx : d1[k]? = some (sD p) := by
      have := congrArg (fun l => l[0]?) hd
      simpa using this
    rw [List.length_cons, rngL_s, forM'_c]
    have := h_end d1 k p (a.map evD) (iN i) (h p (List.mem_cons_self ..)) hx
    rw [w_end] at this
    rw [this]
    rfl
theorem lawH (d1 : List PyData) (hl : d1.length ≤ 60000) : ∀ (f : Nat) (ps : List (List Nat)) (k ins : Nat) (acc : List Ev), (∀ p ∈ ps, p.length ≤ 640) → d1.drop k = ps.map sD → k + ps.length = d1.length → acc.length ≤ k → ps.length < f →
    LR d1.length (forM' (hstep d1) (rngL (k : Int) ps.length) (sD wWord, acc.map evD, iN ins)) (goH f k ps ins acc)
  | 0, _, _, _, _, _, _, _, _, hf => absurd hf (Nat.not_lt_zero _)
  | f + 1, [], k, ins, acc, h, hd, hk, ha, hf => by
    unfold goH evR
    exact ⟨by simp at hk; omega, fun e => by simp at hk; omega, fun _ => ⟨wWord, _, _, by decide, rfl⟩⟩
  | f + 1, p :: qs, k, ins, acc, h, hd, hk, ha, hf => by
    have hp := h p (List.mem_cons_self ..)
    have hx : d1[k]? = some (sD p) := by
      have := congrArg (fun l => l[0]?) hd
      simpa using this
    have hd1 : d1.drop (k + 1) = qs.map sD := by
      have := congrArg (List.drop 1) hd
      rw [List.drop_drop] at this
      simpa [Nat.add_comm] using this
    have hkn : k < d1.length := by simp at hk; omega
    have hal : (acc.map evD).length < 100000 := by rw [List.length_map]; omega
    have hk1 : (k : Int) + 1 = ((k + 1 : Nat) : Int) := by omega
    have hkk : k + 1 + qs.length = d1.length := by simp at hk; omega
    have hq1 : ∀ q ∈ qs, q.length ≤ 640 := fun q hq => h q (List.mem_cons_of_mem _ hq)
    rw [List.length_cons, rngL_s, forM'_c, hk1]
    cases hg : good p with
    | false =>
      have e1 := h_bad d1 k p "word" (acc.map evD) (iN ins) (by decide) hp hx hg
      rw [w_word] at e1
      rw [e1]
      have n1 : ¬ p = wAsk := fun e => by rw [e] at hg; exact absurd hg (by decide)
      have n2 : ¬ p = wAskS := fun e => by rw [e] at hg; exact absurd hg (by decide)
      have n3 : ¬ (p = wPut ∨ (p = wDrop ∧ ins ≠ 0)) := by
        rintro (e | ⟨e, _⟩) <;> rw [e] at hg <;> exact absurd hg (by decide)
      unfold goH evR
      dsimp only
      rw [if_neg n1, if_neg n2, if_neg n3]
      exact LR_err rfl hkn
    | true =>
      have e1 := h_word d1 k p (acc.map evD) ins hp hx hg hal
      rw [w_word] at e1
      rw [e1]
      unfold goH evR
      dsimp only
      by_cases h3 : p = wPut ∨ (p = wDrop ∧ ins ≠ 0)
      · have n1 : ¬ p = wAsk := by rcases h3 with e | ⟨e, _⟩ <;> subst e <;> decide
        have n2 : ¬ p = wAskS := by rcases h3 with e | ⟨e, _⟩ <;> subst e <;> decide
        have hw : p = wPut ∨ p = wDrop := by
          rcases h3 with e | ⟨e, _⟩
          · exact .inl e
          · exact .inr e
        have nE : p ≠ wEnd := by rcases hw with e | e <;> subst e <;> decide
        rw [if_pos h3, seqM_ok, if_neg n1, if_neg n2, if_pos h3]
        cases qs with
        | nil => exact ⟨by simp at hk; omega, fun e => by simp at hk; omega, fun _ => ⟨p, _, _, nE, rfl⟩⟩
        | cons q rs =>
          have hq := hq1 q (List.mem_cons_self ..)
          have hxq : d1[k + 1]? = some (sD q) := by
            have := congrArg (fun l => l[0]?) hd1
            simpa using this
          have hd2 : d1.drop (k + 2) = rs.map sD := by
            have := congrArg (List.drop 1) hd1
            rw [List.drop_drop, show k + 1 + 1 = k + 2 from rfl] at this
            simpa using this
          have hk2 : ((k + 1 : Nat) : Int) + 1 = ((k + 2 : Nat) : Int) := by omega
          have hkk2 : k + 2 + rs.length = d1.length := by simp at hkk; omega
          have hkn1 : k + 1 < d1.length := by simp at hkk; omega
          rw [List.length_cons, rngL_s, forM'_c, hk2]
          dsimp only
          cases hgq : good q with
          | false =>
            have e2 : hstep d1 (sD p, acc.map evD, iN ins) (iN (k + 1)) = some (.error (.rt (noD (k + 1)))) := by
              rcases hw with e | e
              · have := h_bad d1 (k + 1) q "put" (acc.map evD) (iN ins) (by decide) hq hxq hgq
                rw [w_put] at this
                rw [e]; exact this
              · have := h_bad d1 (k + 1) q "drop" (acc.map evD) (iN ins) (by decide) hq hxq hgq
                rw [w_drop] at this
                rw [e]; exact this
            rw [e2, bad_num hgq]
            exact LR_err rfl hkn1
          | true =>
            rw [h_num d1 (k + 1) p q hw (acc.map evD) ins hq hxq hgq hal]
            cases hn : numR (rms q) with
            | none => exact LR_err rfl hkn1
            | some n =>
              dsimp only
              by_cases h4 : n = 0 ∨ (p = wDrop ∧ ins < n)
              · rw [if_pos h4, if_pos h4]
                exact LR_err rfl hkn1
              · rw [if_neg h4, if_neg h4, seqM_ok]
                generalize (if p = wDrop then Ev.drop n else Ev.put n) = e
                have em : acc.map evD ++ [evD e] = (acc ++ [e]).map evD := by simp
                rw [em]
                cases hen : ends q with
                | true =>
                  rw [if_pos rfl]
                  dsimp only
                  rw [if_pos rfl]
                  exact lawH d1 hl f rs (k + 2) (e.go ins) (acc ++ [e]) (fun r hr => hq1 r (List.mem_cons_of_mem _ hr)) hd2 hkk2 (by simp; omega) (by simp at hf; omega)
                | false =>
                  rw [if_neg Bool.false_ne_true]
                  dsimp only
                  rw [if_neg Bool.false_ne_true]
                  exact LR_end d1 (k + 2) rs (acc ++ [e]) (e.go ins) (fun r hr => hq1 r (List.mem_cons_of_mem _ hr)) hd2 hkk2
      · have em : acc.map evD ++ [evD Ev.ask] = (acc ++ [Ev.ask]).map evD := by simp
        rw [if_neg h3, em]
        by_cases h1 : p = wAsk
        · rw [if_pos h1, if_pos h1, seqM_ok]
          dsimp only
          rw [if_neg Bool.false_ne_true]
          exact LR_end d1 (k + 1) qs (acc ++ [.ask]) ins hq1 hd1 hkk
        · rw [if_neg h1, if_neg h1]
          by_cases h2 : p = wAskS
          · rw [if_pos h2, if_pos h2, seqM_ok]
            dsimp only
            rw [if_pos rfl]
            exact lawH d1 hl f qs (k + 1) ins (acc ++ [.ask]) hq1 hd1 hkk (by simp; omega) (by simp at hf; omega)
          · rw [if_neg h2, if_neg h2, if_neg h3]
            exact LR_err rfl hkn
theorem law_history_due {l : List Nat} (h : Ok l) : F_law_history_due [sD l] = some (.ok (lawR (rh l))) := by
  show runM (m_law_history_due (sD l)) = _
  unfold m_law_history_due rh
  have hl := h.len
  have hn := sp_len l
  have hlen : ((((sp l).map sD).length : Nat) : Int) = ((sp l).length : Int) := by rw [List.length_map]
  have er := rng1_s (sp l).length (by omega)
  rw [bind2_s (sD l), splitD_sp (by omega), okM_s, seqM_ok, consM_s (.list ((sp l).map sD)), Option.bind_some, lenD_l, hlen, bind2_s (.list ((sp l).map sD)) (.int 0), head0, bind2_s (sD ((sp l).headD [])), w_mi, eqS_S, boolM_s]
  by_cases hc : (sp l).head? = some [45]
  · have h2 : (sp l).headD [] = [45] := headE l [45] ▸ hc
    rw [h2, decide_eq_true rfl, ifM_t, if_pos hc, bind2_s, gtI_s, consM_s (.bool _), Option.bind_some, int1_b, consM_s (.int 1), show (1 : Int) = ((1 : Nat) : Int) from rfl, fnP_no]
    by_cases h1 : 1 < (sp l).length
    · have : ((1 : Nat) : Int) < ((sp l).length : Int) := by omega
      rw [if_pos h1, decide_eq_true this]
      rfl
    · have : ¬ ((1 : Nat) : Int) < ((sp l).length : Int) := by omega
      rw [if_neg h1, decide_eq_false this]
      rfl
  · have h2 : ¬ (sp l).headD [] = [45] := headE l [45] ▸ hc
    have q := lawH ((sp l).map sD) (by rw [List.length_map]; omega) ((sp l).length + 1) (sp l) 0 0 [] h.parts rfl (by rw [List.length_map]; omega) (Nat.zero_le _) (by omega)
    rw [List.map_nil, show ((0 : Nat) : Int) = 0 from rfl, List.length_map] at q
    rw [decide_eq_false h2, ifM_f, seqM_ok, if_neg hc, okM_s, seqM_ok, okM_s, seqM_ok, Option.bind_some, if_pos (show ([] : List PyData).length ≤ 100000 from Nat.zero_le _), okM_s, seqM_ok, consM_s (.int ((sp l).length : Int)), er, forM_s]
    have hs : forM' (S := PyData × List PyData × PyData) (fun (s6 : PyData × List PyData × PyData) (x7 : PyData) =>
  seqM (okM ((bind2 (some (.list ((sp l).map sD))) (some x7) idx).bind (replD ";" ""))) fun d8 =>
  seqM (ifM (S := Unit) (orM (boolM (bind2 (some s6.1) (some (.str "end")) eqS)) (boolM (bind2 (bind2 (some (.list ((sp l).map sD))) (some x7) idx) (tupM (consM (some d8) (consM (bind2 (some d8) (some (.str ";")) addS) (some [])))) ninT)))
  (retM (fnP F_law_no 1 (consM (some x7) (some []))))
  (some (.ok ()))) fun s9 =>
  seqM (ifM (S := PyData × List PyData × PyData) (boolM (bind2 (some s6.1) (some (.str "word")) eqS))
  (seqM (ifM (S := PyData × List PyData) (orM (boolM (bind2 (bind2 (some (.list ((sp l).map sD))) (some x7) idx) (some (.str "put")) eqS)) (andM (boolM (bind2 (bind2 (some (.list ((sp l).map sD))) (some x7) idx) (some (.str "drop")) eqS)) (boolM (bind2 (some s6.2.2) (some (.int 0)) gtI))))
  (seqM (okM (some d8)) fun d12 =>
  some (.ok (d12, s6.2.1)))
  (seqM (ifM (S := List PyData × PyData) (boolM (bind2 (some d8) (some (.str "ask")) eqS))
  (seqM (okM ((tupM (consM (some (.str "ask")) (some []))).bind fun d => if (s6.2.1).length < 100000 then some (s6.2.1 ++ [d]) else none)) fun l14 =>
  seqM (okM (bind2 (tupM (consM (some (.str "end")) (consM (some (.str "word")) (some [])))) ((consM (bind2 (bind2 (some (.list ((sp l).map sD))) (some x7) idx) (some (.str "ask;")) eqS) (some [])).bind int1) idx)) fun d15 =>
  some (.ok (l14, d15)))
  (retM (fnP F_law_no 1 (consM (some x7) (some []))))) fun s13 =>
  some (.ok (s13.2, s13.1)))) fun s11 =>
  some (.ok (s11.1, s11.2, s6.2.2)))
  (seqM (ifM (S := Unit) (orM (notM (boolM (fnP F_law_figures 1 (consM (some d8) (some []))))) (orM (boolM (bind2 (some d8) (some (.str "0")) eqS)) (andM (boolM (bind2 (some s6.1) (some (.str "drop")) eqS)) (boolM (bind2 ((consM (some d8) (some [])).bind intS) (some s6.2.2) gtI)))))
  (retM (fnP F_law_no 1 (consM (some x7) (some []))))
  (some (.ok ()))) fun s16 =>
  seqM (okM ((tupM (consM (some s6.1) (consM ((consM (some d8) (some [])).bind intS) (some [])))).bind fun d => if (s6.2.1).length < 100000 then some (s6.2.1 ++ [d]) else none)) fun l17 =>
  seqM (okM (bind2 (some s6.2.2) (bind2 ((consM (some d8) (some [])).bind intS) (bind2 (some (.int 1)) (bind2 (some (.int 2)) ((consM (bind2 (some s6.1) (some (.str "drop")) eqS) (some [])).bind int1) mulI) subI) mulI) addI)) fun d18 =>
  seqM (okM (bind2 (tupM (consM (some (.str "end")) (consM (some (.str "word")) (some [])))) ((consM (bind2 (bind2 (some (.list ((sp l).map sD))) (some x7) idx) (bind2 (some d8) (some (.str ";")) addS) eqS) (some [])).bind int1) idx)) fun d19 =>
  some (.ok (d19, l17, d18)))) fun s10 =>
  (some (.ok (s10.1, s10.2.1, s10.2.2)) : SM (PyData × List PyData × PyData))) (rngL 0 (sp l).length) (.str "word", [], .int 0) = forM' (hstep ((sp l).map sD)) (rngL 0 (sp l).length) (sD wWord, [], iN 0) := by
      rw [w_word]; rfl
    rw [hs]
    rw [fnP_no]
    generalize forM' (hstep ((sp l).map sD)) (rngL 0 (sp l).length) (sD wWord, [], iN 0) = R at q
    cases hg : goH ((sp l).length + 1) 0 (sp l) 0 [] with
    | error j =>
      rw [hg] at q
      obtain ⟨q1, q2, q3⟩ := q
      rcases Nat.lt_or_ge j (sp l).length with hj | hj
      · rw [q2 hj]; rfl
      · have hj2 : j = (sp l).length := by omega
        obtain ⟨w, ac, i, q4, q5⟩ := q3 hj2
        rw [q5, seqM_ok, w_end, bind2_s, eqS_S, decide_eq_false q4, hj2]
        rfl
    | ok v =>
      obtain ⟨a, i, j⟩ := v
      rw [hg] at q
      unfold LR at q
      dsimp only at q ⊢
      by_cases hj : j < (sp l).length
      · rw [if_pos hj] at q ⊢
        rw [q]; rfl
      · rw [if_neg hj] at q ⊢
        rw [q, seqM_ok, w_end, bind2_s, eqS_S, decide_eq_true rfl]
        rfl
end UT.M
end
section
set_option Elab.async false
set_option linter.all false
set_option maxRecDepth 100000
set_option maxHeartbeats 4000000
/-! plain: the same, calls -/
namespace UT.M
open PySem PySem.Spec PyProof.Rows L2 SX
def Fl : Nat → PyData → Prop
  | 0, _ => False
  | n + 1, d => match d with
    | .none => True | .bool _ => True | .int _ => True | .str _ => True
    | .tuple ds => ds.length ≤ 60000 ∧ ∀ d ∈ ds, Fl n d
    | _ => False
theorem bolsOf_rep (n : Nat) : bolsOf (List.replicate n (.bool true)) = some (List.replicate n true) := by
  induction n with
  | zero => rfl
  | succ n ih =>
    rw [List.replicate_succ, List.replicate_succ]
    show (bolsOf (List.replicate n (.bool true))).map (true :: ·) = _
    rw [ih]; rfl
theorem mapO_rep {f : PyData → Option PyData} {v : PyData} : ∀ {ds : List PyData}, (∀ d ∈ ds, f d = some v) → mapO f ds = some (List.replicate ds.length v)
  | [], _ => rfl
  | d :: ds, h => by
    have ih := mapO_rep (f := f) (v := v) (ds := ds) fun e he => h e (List.mem_cons_of_mem _ he)
    show (f d).bind _ = _
    rw [h d (List.mem_cons_self ..), ih]
    rfl
theorem fl_pure : ∀ (n : Nat) (d : PyData), Fl n d → pureT d = true
  | 0, _, h => h.elim
  | n + 1, d, h => by
    cases d with
    | none => simp
    | bool b => simp
    | int i => simp
    | str s => simp
    | tuple ds =>
      have h2 : ∀ d ∈ ds, Fl n d := h.2
      have : ∀ es : List PyData, (∀ d ∈ es, Fl n d) → pureL es = true := by
        intro es
        induction es with
        | nil => intro _; rfl
        | cons e es ih =>
          intro hh
          show (pureT e && pureL es) = true
          rw [fl_pure n e (hh e (List.mem_cons_self ..)), ih fun d hd => hh d (List.mem_cons_of_mem _ hd)]
          rfl
      show pureL ds = true
      exact this ds h2
    | list ds => exact h.elim
    | dict ds => exact h.elim
theorem same_refl : ∀ (n : Nat) (d : PyData), Fl n d → F_law_sameN n [d, d] = some (.ok (.bool true))
  | 0, _, h => h.elim
  | n + 1, d, h => by
    show runM (m_law_same (F_law_sameN n) d d) = _
    unfold m_law_same
    cases d with
    | none => rfl
    | bool b => simp
    | int i => simp
    | str s => simp
    | tuple ds =>
      obtain ⟨h1, h2⟩ := h
      have e1 : lcM (rng1M (some [.int (ds.length : Int)])) (fun x6 => fnP (F_law_sameN n) 2 (consM (bind2 (some (.tuple ds)) (some x6) idx) (consM (bind2 (some (.tuple ds)) (some x6) idx) (some [])))) = some (.list (List.replicate ds.length (.bool true))) := by
        rw [rng1_s ds.length (by omega), rngL_map]
        have hm : mapO (fun x6 => fnP (F_law_sameN n) 2 (consM (bind2 (some (.tuple ds)) (some x6) idx) (consM (bind2 (some (.tuple ds)) (some x6) idx) (some [])))) ((List.range ds.length).map iN) = some (List.replicate ((List.range ds.length).map iN).length (.bool true)) := by
          refine mapO_rep fun e he => ?_
          obtain ⟨k, hk, rfl⟩ := List.mem_map.mp he
          have hk2 := List.mem_range.mp hk
          have hx : bind2 (some (.tuple ds)) (some (iN k)) idx = some ds[k] := by
            rw [bind2_s, idx_t, List.getElem?_eq_getElem hk2]
          rw [hx, consM_s, consM_s]
          exact fnP_ok (same_refl n ds[k] (h2 _ (List.getElem_mem hk2))) rfl (by simp)
        show (if ((List.range ds.length).map iN).length ≤ 100000 then (mapO _ _).map PyData.list else none) = _
        rw [if_pos (by simp; omega), hm]
        simp
      rw [bind2_s, isN_t, boolM_s, orM_f, ifM_f, seqM_ok, Option.bind_some, isi_bt, boolM_s, orM_f, ifM_f, seqM_ok, Option.bind_some, isi_it, boolM_s, ifM_f, seqM_ok, Option.bind_some, isi_st, boolM_s, ifM_f, seqM_ok, Option.bind_some, isi_tt, boolM_s, notM_s, Bool.not_true, orM_f, consM_s, Option.bind_some, lenD_t, bind2_s, neS_i, decide_eq_true rfl, Bool.not_true, boolM_s, ifM_f, seqM_ok, consM_s, e1, consM_s]
      show runM (retM ((bolsOf (List.replicate ds.length (.bool true))).map fun bs => PyData.bool (bs.all id))) = _
      rw [bolsOf_rep]
      simp
    | list ds => exact h.elim
    | dict ds => exact h.elim
theorem same_t {d : PyData} (h : Fl 8 d) : fnP F_law_same 2 (some [d, d]) = some (.bool true) := fnP_ok (same_refl 8 d h) rfl (by simp)
/-! calls -/
def callR : Except Err PyData → Option PyData
  | .ok d => some (.tuple [.str "ok", d])
  | .error e => match e.c with
    | .usable => some (.tuple [.str "no", e.a, e.b, .bool true])
    | .text => some (.tuple [.str "text", e.a, e.b, .bool true])
    | .paper => none
theorem callR_prog (x : Except Nat PyData) : callR (progR x) = some (lawR x) := by cases x <;> rfl
theorem fin_call (p0 p1 p2 : PyData) (r : Except Err PyData) (d : PyData) (h : m_law_call p0 p1 p2 = retX (some r)) (hd : callR r = some d) : F_law_call [p0, p1, p2] = some (.ok d) := by
  show (m_law_call p0 p1 p2).bind _ = _
  rw [h]
  cases r with
  | ok v => cases hd; rfl
  | error e =>
    obtain ⟨c, a, b⟩ := e
    cases c <;> cases hd <;> rfl
theorem retX_seq (r : Except Err PyData) (f : Unit → SM Unit) : seqM (retX (some r)) f = retX (some r) := by cases r <;> rfl
theorem call_ol (o t : PyData) (r : Except Err PyData) (d : PyData) (h : F_operation_line [t] = some r) (hd : callR r = some d) : F_law_call [.str "operation_line", o, t] = some (.ok d) :=
  fin_call _ _ _ r d (by simp [m_law_call, fnK, pmId, h, retX_seq]) hd
theorem call_vl (o t : PyData) (r : Except Err PyData) (d : PyData) (h : F_value_line [o, t] = some r) (hd : callR r = some d) : F_law_call [.str "value_line", o, t] = some (.ok d) :=
  fin_call _ _ _ r d (by simp [m_law_call, fnO, h, retX_seq]) hd
theorem call_al (o t : PyData) (r : Except Err PyData) (d : PyData) (h : F_asks_line [t] = some r) (hd : callR r = some d) : F_law_call [.str "asks_line", o, t] = some (.ok d) :=
  fin_call _ _ _ r d (by simp [m_law_call, fnK, pmId, h, retX_seq]) hd
theorem call_hl (o t : PyData) (r : Except Err PyData) (d : PyData) (h : F_history_line [t] = some r) (hd : callR r = some d) : F_law_call [.str "history_line", o, t] = some (.ok d) :=
  fin_call _ _ _ r d (by simp [m_law_call, fnK, pmId, h, retX_seq]) hd
theorem call_ro (o t : PyData) (r : Except Err PyData) (d : PyData) (h : F_read_operation [t] = some r) (hd : callR r = some d) : F_law_call [.str "read_operation", o, t] = some (.ok d) :=
  fin_call _ _ _ r d (by simp [m_law_call, fnK, pmId, h, retX_seq]) hd
theorem call_rv (o t : PyData) (r : Except Err PyData) (d : PyData) (h : F_read_value [o, t] = some r) (hd : callR r = some d) : F_law_call [.str "read_value", o, t] = some (.ok d) :=
  fin_call _ _ _ r d (by simp [m_law_call, fnO, h, retX_seq]) hd
theorem call_ra (o t : PyData) (r : Except Err PyData) (d : PyData) (h : F_read_asks [t] = some r) (hd : callR r = some d) : F_law_call [.str "read_asks", o, t] = some (.ok d) :=
  fin_call _ _ _ r d (by simp [m_law_call, fnK, pmId, h, retX_seq]) hd
theorem call_rh (o t : PyData) (r : Except Err PyData) (d : PyData) (h : F_read_history [t] = some r) (hd : callR r = some d) : F_law_call [.str "read_history", o, t] = some (.ok d) :=
  fin_call _ _ _ r d (by simp [m_law_call, fnK, pmId, h]) hd
end UT.M
end
section
set_option Elab.async false
set_option linter.all false
set_option maxRecDepth 100000
set_option maxHeartbeats 4000000
/-! plain: parts of texts, spoilt texts -/
namespace UT.M
open PySem PySem.Spec PyProof.Rows L2 SX
theorem q_nil (acc : List Nat) : TL.spl [32] 0 acc [] = [acc] := TL.spl_nil _ _ _
theorem q_hit (acc r : List Nat) : TL.spl [32] 0 acc (32 :: r) = acc :: TL.spl [32] 0 [] r := TL.spl_hit (by simp [TL.pre])
theorem q_miss {c : Nat} (acc r : List Nat) (h : c ≠ 32) : TL.spl [32] 0 acc (c :: r) = TL.spl [32] 0 (acc ++ [c]) r := TL.spl_miss (by simpa [TL.pre] using h)
theorem q_app (b : List Nat) : ∀ (a acc : List Nat), TL.spl [32] 0 acc (a ++ 32 :: b) = TL.spl [32] 0 acc a ++ TL.spl [32] 0 [] b
  | [], acc => by rw [List.nil_append, q_hit, q_nil]; rfl
  | c :: a, acc => by
    by_cases h : c = 32
    · subst h
      rw [List.cons_append, q_hit, q_hit, q_app b a []]; rfl
    · rw [List.cons_append, q_miss _ _ h, q_miss _ _ h, q_app b a (acc ++ [c])]
theorem sp_app (a b : List Nat) : sp (a ++ 32 :: b) = sp a ++ sp b := q_app b a []
/-- how many signs are no spaces -/
def ns (l : List Nat) : Nat := (l.filter fun c => decide (c ≠ 32)).length
theorem ns_le (l : List Nat) : ns l ≤ l.length := List.length_filter_le _ _
theorem q_len : ∀ (l acc : List Nat), ∀ p ∈ TL.spl [32] 0 acc l, p.length ≤ acc.length + ns l
  | [], acc, p, hp => by
    rw [q_nil] at hp
    have : p = acc := by simpa using hp
    rw [this]; omega
  | c :: l, acc, p, hp => by
    by_cases h : c = 32
    · subst h
      rw [q_hit] at hp
      have e : ns (32 :: l) = ns l := by simp [ns]
      rcases List.mem_cons.mp hp with rfl | hp
      · omega
      · have := q_len l [] p hp
        simp at this; omega
    · rw [q_miss _ _ h] at hp
      have := q_len l (acc ++ [c]) p hp
      have e : ns (c :: l) = ns l + 1 := by simp [ns, h]
      simp at this; omega
theorem sp_part (l : List Nat) : ∀ p ∈ sp l, p.length ≤ ns l := fun p hp => by
  have := q_len l [] p hp
  simpa using this
theorem ok_ns {l : List Nat} (h1 : l.length ≤ 50000) (h2 : ns l ≤ 640) : Ok l := ⟨h1, fun p hp => Nat.le_trans (sp_part l p hp) h2⟩
theorem ok_len {l : List Nat} (h : l.length ≤ 640) : Ok l := ok_ns (by omega) (Nat.le_trans (ns_le l) h)
theorem ok_app {a b : List Nat} (ha : a.length ≤ 640) (hb : b.length ≤ 640) : Ok (a ++ 32 :: b) := by
  refine ⟨by simp; omega, fun p hp => ?_⟩
  rw [sp_app] at hp
  rcases List.mem_append.mp hp with h | h
  · exact Nat.le_trans (sp_part a p h) (Nat.le_trans (ns_le a) ha)
  · exact Nat.le_trans (sp_part b p h) (Nat.le_trans (ns_le b) hb)
/-! rows -/
def wt (row : List (List Nat)) : Nat := (row.map fun p => p.length + 1).sum
theorem wt_app (a b : List (List Nat)) : wt (a ++ b) = wt a + wt b := by simp [wt]
theorem wt_cons (p : List Nat) (b : List (List Nat)) : wt (p :: b) = p.length + 1 + wt b := by simp [wt]
theorem wt_take (k : Nat) (b : List (List Nat)) : wt (b.take k) ≤ wt b := by
  have := congrArg wt (List.take_append_drop k b)
  rw [wt_app] at this; omega
theorem wt_drop (k : Nat) (b : List (List Nat)) : wt (b.drop k) ≤ wt b := by
  have := congrArg wt (List.take_append_drop k b)
  rw [wt_app] at this; omega
theorem wt_rev (b : List (List Nat)) : wt b.reverse = wt b := by
  unfold wt
  rw [List.map_reverse, List.sum_reverse]
theorem wt_sp (l : List Nat) : wt (sp l) ≤ l.length + 1 := by
  have h := PyProof.Rows.split_weight (S l) (S [32]) (by decide)
  rw [split_sp, lens, List.length_map, S_len] at h
  have e : ∀ m : List (List Nat), wt m = (m.map (·.length)).sum + m.length := by
    intro m
    induction m with
    | nil => rfl
    | cons p m ih => rw [wt_cons, ih]; simp; omega
  rw [e]; exact h
theorem joinL_2 (a b : List Nat) (r : List (List Nat)) : TL.joinL [32] (a :: b :: r) = a ++ 32 :: TL.joinL [32] (b :: r) := by
  simp [TL.joinL]
theorem join_len : ∀ row : List (List Nat), (TL.joinL [32] row).length ≤ wt row
  | [] => Nat.zero_le _
  | [p] => by simp [TL.joinL, wt]
  | p :: q :: r => by
    have ih := join_len (q :: r)
    rw [joinL_2, wt_cons, List.length_append, List.length_cons]
    omega
theorem join_parts (n : Nat) : ∀ row : List (List Nat), (∀ q ∈ row, ∀ p ∈ sp q, p.length ≤ n) → ∀ p ∈ sp (TL.joinL [32] row), p.length ≤ n
  | [], _, p, hp => by
    have : p = [] := by simpa [TL.joinL, sp, q_nil] using hp
    rw [this]; exact Nat.zero_le _
  | [q], h, p, hp => h q (by simp) p (by simpa [TL.joinL] using hp)
  | q :: q2 :: r, h, p, hp => by
    rw [joinL_2, sp_app] at hp
    rcases List.mem_append.mp hp with h1 | h1
    · exact h q (by simp) p h1
    · exact join_parts n (q2 :: r) (fun x hx => h x (List.mem_cons_of_mem _ hx)) p h1
theorem ok_row {row : List (List Nat)} (h : ∀ q ∈ row, q.length ≤ 640) (hw : wt row ≤ 50000) : Ok (TL.joinL [32] row) :=
  ⟨Nat.le_trans (join_len row) hw, join_parts 640 row fun q hq p hp => Nat.le_trans (sp_part q p hp) (Nat.le_trans (ns_le q) (h q hq))⟩
/-! replacing -/
def dbl (l : List Nat) : List Nat := l.flatMap fun c => if c = 32 then [32, 32] else [c]
theorem repl_dbl : ∀ p : List Nat, StrLaws.replL [32] [32, 32] p = dbl p
  | [] => StrLaws.replL_nil
  | c :: r => by
    by_cases h : c = 32
    · subst h
      rw [StrLaws.replL_hit (by simp) (by simp)]
      simp only [List.length_cons, List.length_nil, List.drop_succ_cons, List.drop_zero]
      rw [repl_dbl r]
      simp [dbl]
    · rw [StrLaws.replL_miss (by simpa using h), repl_dbl r]
      simp [dbl, h]
theorem dbl_len : ∀ l : List Nat, (dbl l).length ≤ 2 * l.length
  | [] => Nat.zero_le _
  | c :: l => by
    have ih := dbl_len l
    have e : dbl (c :: l) = (if c = 32 then [32, 32] else [c]) ++ dbl l := by simp [dbl]
    rw [e, List.length_append, List.length_cons]
    split <;> simp <;> omega
theorem dbl_ns : ∀ l : List Nat, ns (dbl l) = ns l
  | [] => rfl
  | c :: l => by
    have ih := dbl_ns l
    have e : dbl (c :: l) = (if c = 32 then [32, 32] else [c]) ++ dbl l := by simp [dbl]
    rw [e]
    unfold ns at ih ⊢
    rw [List.filter_append, List.length_append, ih]
    by_cases h : c = 32
    · subst h; simp
    · simp [h]; omega
theorem repl_shrink : ∀ (n : Nat) (l : List Nat), l.length ≤ n → (StrLaws.replL [59, 32] [59] l).length ≤ l.length
  | _, [], _ => by rw [StrLaws.replL_nil]; exact Nat.le_refl _
  | 0, c :: r, h => by simp at h
  | n + 1, c :: r, h => by
    by_cases hh : (c :: r).take [59, 32].length = [59, 32]
    · rw [StrLaws.replL_hit (by simp) hh]
      have h2 : 2 ≤ (c :: r).length := by
        have := congrArg List.length hh
        rw [List.length_take] at this
        simp at this ⊢; omega
      have ih := repl_shrink n ((c :: r).drop [59, 32].length) (by rw [List.length_drop]; simp at h ⊢; omega)
      rw [List.length_append]
      rw [List.length_drop] at ih
      simp at ih h2 ⊢; omega
    · rw [StrLaws.replL_miss hh]
      have ih := repl_shrink n r (by simp at h; omega)
      simp; omega
theorem repl_S {y z p : List Nat} (hy : 1 ≤ y.length) : Txt.replace (S p) (S y) (S z) = S (StrLaws.replL y z p) := by
  refine TL.ext_tl ?_
  exact StrLaws.replace_list (x := S p) (y := S y) (z := S z) (by rw [S_len]; exact hy)
end UT.M
end
section
set_option Elab.async false
set_option linter.all false
set_option maxRecDepth 100000
set_option maxHeartbeats 4000000
/-! plain: spoilt texts -/
namespace UT.M
open PySem PySem.Spec PyProof.Rows L2 SX
theorem addS_S (a b : List Nat) (h : a.length + b.length ≤ 100000) : addS (sD a) (sD b) = some (sD (a ++ b)) := by
  have e : (S a).length + (S b).length ≤ sizeLine := by rw [S_len, S_len]; exact Nat.le_trans h (by decide)
  show (if (S a).length + (S b).length ≤ sizeLine then some (PyData.str (S a ++ S b)) else none) = _
  rw [if_pos e, S_cat]
theorem cut_to (ds : List PyData) (k : Nat) : slcL (.list ds) none (some (k : Int)) = some (.list (ds.take k)) := by
  show some (PyData.list (cutD ds none (some (k : Int)))) = _
  unfold cutD
  rw [HT.sIx_none, HT.sIx_nat, List.drop_zero, Nat.sub_zero]
  congr 2
  by_cases h : k ≤ ds.length
  · rw [Nat.min_eq_left h]
  · rw [Nat.min_eq_right (by omega), List.take_of_length_le (Nat.le_refl _), List.take_of_length_le (by omega)]
theorem cut_from (ds : List PyData) (k : Nat) : slcL (.list ds) (some (k : Int)) none = some (.list (ds.drop k)) := by
  show some (PyData.list (cutD ds (some (k : Int)) none)) = _
  unfold cutD
  rw [HT.sIx_none, HT.sIx_nat]
  congr 2
  by_cases h : k ≤ ds.length
  · rw [Nat.min_eq_left h, List.take_of_length_le (by rw [List.length_drop]; exact Nat.le_refl _)]
  · rw [Nat.min_eq_right (by omega), List.drop_eq_nil_of_le (Nat.le_refl _), List.drop_eq_nil_of_le (by omega)]
    simp
theorem slcS_bl (p : List Nat) (h : p.length < 1000000) : slcS (sD p) none (some (-1)) = some (sD (p.take (p.length - 1))) := by
  have hz : (S p).length ≤ sizeLine := S_le (Nat.le_trans (by omega) (by decide : (1000000 : Nat) ≤ sizeLine))
  show (if (S p).length ≤ sizeLine then some (PyData.str (cutS (S p) none (some (-1)))) else none) = _
  rw [if_pos hz]
  unfold cutS
  rw [S_len]
  have e : HT.sIx p.length p.length (some (-1)) = p.length - 1 := by
    show (if (-1 : Int) < 0 then ((-1 : Int) + (p.length : Int)).toNat else min (-1 : Int).toNat p.length) = _
    rw [if_pos (by decide)]
    omega
  rw [e, HT.sIx_none]
  congr 2
theorem catL_s (a b : List PyData) (h : a.length + b.length ≤ 100000) : catL (.list a) (.list b) = some (.list (a ++ b)) := by
  show (if a.length + b.length ≤ 100000 then _ else _) = _
  rw [if_pos h]
theorem strsOf_S : ∀ ps : List (List Nat), strsOf (ps.map sD) = some (ps.map S)
  | [] => rfl
  | p :: ps => by
    rw [List.map_cons, strsOf_c, strsOf_S ps]; rfl
theorem joinD_S (ps : List (List Nat)) (h : wt ps ≤ 100000) : bind2 (some (.str (Str.ofString " "))) (some (.list (ps.map sD))) joinD = some (sD (TL.joinL [32] ps)) := by
  rw [w_sp, bind2_s]
  show ((strsOf (ps.map sD)).bind fun ys => if (ys.map (·.length)).sum + ys.length * (S [32]).length ≤ 16777216 then some (PyData.str (Txt.join (S [32]) ys)) else none) = _
  rw [strsOf_S, Option.bind_some, lens, List.length_map, S_len]
  have e : ∀ m : List (List Nat), (m.map (·.length)).sum + m.length * [32].length = wt m := by
    intro m
    induction m with
    | nil => rfl
    | cons p m ih => rw [wt_cons, ← ih]; simp; omega
  rw [e, if_pos (by omega), join_S]
theorem up_len (l : List Nat) : (l.map PyProof.Rows.up1).length = l.length := List.length_map ..
theorem upperD_S {l : List Nat} (ha : l.all (· < 128) = true) (h : l.length ≤ 5000) : upperD (sD l) = some (sD (l.map PyProof.Rows.up1)) := by
  show (if (S l).length ≤ 5592405 then some (PyData.str (Txt.upper (S l))) else none) = _
  rw [if_pos (by rw [S_len]; omega), upper_S ha]
theorem replD_S {l y z : List Nat} (hy : 1 ≤ y.length) (h : l.length ≤ 5000) (hz : z.length ≤ 10) : replD (S y) (S z) (sD l) = some (sD (StrLaws.replL y z l)) := by
  show (if (S l).length + ((S l).length + 1) * (S z).length ≤ 16777216 then some (PyData.str (Txt.replace (S l) (S y) (S z))) else none) = _
  have : (l.length + 1) * z.length ≤ 5001 * 10 := Nat.mul_le_mul (by omega) hz
  rw [S_len, S_len, if_pos (by omega), repl_S hy]
theorem w_sp0 : Str.ofString " 0" = S [32, 48] := S_of _ _ rfl
theorem w_sp2 : Str.ofString "  " = S [32, 32] := S_of _ _ rfl
theorem w_spm : Str.ofString " -" = S [32, 45] := S_of _ _ rfl
theorem w_sesp : Str.ofString "; " = S [59, 32] := S_of _ _ rfl
def oddL (l : List Nat) : List (List Nat) := [l ++ [32], [32] ++ l, l ++ [32, 48], dbl l, [], [32], l.map PyProof.Rows.up1, [48] ++ l, [45] ++ l] ++
  [l.take (l.length - 1), l.drop 1, l ++ [32] ++ l, l ++ [59, 32] ++ l, l ++ [59], l ++ [32, 45], StrLaws.replL [59, 32] [59] l]
def rowL (P : List (List Nat)) (a : Nat) (w m : List Nat) : List (List (List Nat)) :=
  [P.take a ++ (P.drop a).drop 1, P.take a ++ [w] ++ (P.drop a).drop 1, P.take a ++ [w] ++ P.drop a, P.take a ++ (P.drop a).take 1 ++ [w], P.take a ++ [w, m]] ++
  [[w], P.take a ++ (P.drop a).take 1 ++ P.drop a, P.reverse, P.drop 1 ++ P.take 1, [w] ++ P, P ++ [w, m]]
theorem ok_odd {l : List Nat} (h : l.length ≤ 400) : ∀ t ∈ oddL l, Ok t := by
  intro t ht
  have hd := dbl_len l
  have hs := repl_shrink l.length l (Nat.le_refl _)
  unfold oddL at ht
  simp only [List.cons_append, List.nil_append, List.mem_cons, List.not_mem_nil, or_false] at ht
  rcases ht with rfl | rfl | rfl | rfl | rfl | rfl | rfl | rfl | rfl | rfl | rfl | rfl | rfl | rfl | rfl | rfl
  · exact ok_len (by simp; omega)
  · exact ok_len (by simp; omega)
  · exact ok_len (by simp; omega)
  · exact ok_ns (by omega) (by rw [dbl_ns]; exact Nat.le_trans (ns_le l) (by omega))
  · exact ok_len (by simp)
  · exact ok_len (by simp)
  · exact ok_len (by simp; omega)
  · exact ok_len (by simp; omega)
  · exact ok_len (by simp; omega)
  · exact ok_len (by simp; omega)
  · exact ok_len (by simp; omega)
  · have := ok_app (a := l) (b := l) (by omega) (by omega)
    simpa using this
  · have := ok_app (a := l ++ [59]) (b := l) (by simp; omega) (by omega)
    simpa using this
  · exact ok_len (by simp; omega)
  · exact ok_len (by simp; omega)
  · exact ok_len (by omega)
theorem ok_rows {l w m : List Nat} (h : l.length ≤ 400) (hw : w.length ≤ 100) (hm : m.length ≤ 100) (a : Nat) : ∀ r ∈ rowL (sp l) a w m, Ok (TL.joinL [32] r) ∧ wt r ≤ 2000 := by
  have hp : ∀ p ∈ sp l, p.length ≤ 640 := fun p hp => Nat.le_trans (sp_part l p hp) (Nat.le_trans (ns_le l) (by omega))
  have hwt := wt_sp l
  have t1 := wt_take a (sp l)
  have t2 := wt_drop a (sp l)
  have t3 := wt_drop 1 ((sp l).drop a)
  have t4 := wt_take 1 ((sp l).drop a)
  have t5 := wt_drop 1 (sp l)
  have t6 := wt_take 1 (sp l)
  have w0 : wt ([] : List (List Nat)) = 0 := rfl
  have key : ∀ r : List (List Nat), (∀ q ∈ r, q ∈ sp l ∨ q = w ∨ q = m) → wt r ≤ 2000 → Ok (TL.joinL [32] r) ∧ wt r ≤ 2000 := by
    intro r h1 h2
    refine ⟨ok_row (fun q hq => ?_) (by omega), h2⟩
    rcases h1 q hq with h3 | h3 | h3
    · exact hp q h3
    · rw [h3]; omega
    · rw [h3]; omega
  intro r hr
  unfold rowL at hr
  simp only [List.cons_append, List.nil_append, List.mem_cons, List.not_mem_nil, or_false] at hr
  have mt : ∀ {k : Nat} {P : List (List Nat)} {q : List Nat}, q ∈ P.take k → q ∈ P := List.mem_of_mem_take
  have md : ∀ {k : Nat} {P : List (List Nat)} {q : List Nat}, q ∈ P.drop k → q ∈ P := List.mem_of_mem_drop
  rcases hr with rfl | rfl | rfl | rfl | rfl | rfl | rfl | rfl | rfl | rfl | rfl <;> refine key _ (fun q hq => ?_) (by simp only [wt_app, wt_cons, wt_rev, w0]; omega)
  all_goals simp only [List.mem_append, List.mem_cons, List.not_mem_nil, or_false, List.mem_reverse] at hq
  · rcases hq with h | h
    · exact .inl (mt h)
    · exact .inl (md (md h))
  · rcases hq with (h | h) | h
    · exact .inl (mt h)
    · exact .inr (.inl h)
    · exact .inl (md (md h))
  · rcases hq with (h | h) | h
    · exact .inl (mt h)
    · exact .inr (.inl h)
    · exact .inl (md h)
  · rcases hq with (h | h) | h
    · exact .inl (mt h)
    · exact .inl (md (mt h))
    · exact .inr (.inl h)
  · rcases hq with h | h | h
    · exact .inl (mt h)
    · exact .inr (.inl h)
    · exact .inr (.inr h)
  · exact .inr (.inl hq)
  · rcases hq with (h | h) | h
    · exact .inl (mt h)
    · exact .inl (md (mt h))
    · exact .inl (md h)
  · exact .inl hq
  · rcases hq with h | h
    · exact .inl (md h)
    · exact .inl (mt h)
  · rcases hq with h | h
    · exact .inr (.inl h)
    · exact .inl h
  · rcases hq with h | h | h
    · exact .inl h
    · exact .inr (.inl h)
    · exact .inr (.inr h)
theorem mod_nat (a b : Nat) (h : 0 < b) : modI (iN a) (iN b) = some (iN (a % b)) := by
  rw [modI_s, if_pos (by omega), ← Int.ofNat_fmod]
theorem fdiv_nat (a b : Nat) (h : 0 < b) (h2 : b < 1073741824) : fdivI (iN a) (iN b) = some (iN (a / b)) := by
  rw [fdivI_s, if_pos ⟨by omega, by simpa using h2⟩, ← Int.ofNat_fdiv]
theorem take_map (k : Nat) (P : List (List Nat)) : (P.map sD).take k = (P.take k).map sD := by rw [List.map_take]
theorem drop_map (k : Nat) (P : List (List Nat)) : (P.map sD).drop k = (P.drop k).map sD := by rw [List.map_drop]
theorem lst1 (a : List Nat) : lstM (consM (some (sD a)) (some [])) = some (.list ([a].map sD)) := rfl
theorem lst2 (a b : List Nat) : lstM (consM (some (sD a)) (consM (some (sD b)) (some []))) = some (.list ([a, b].map sD)) := rfl
theorem cat_m (a b : List (List Nat)) (h : a.length + b.length ≤ 100000) : catL (.list (a.map sD)) (.list (b.map sD)) = some (.list ((a ++ b).map sD)) := by
  rw [catL_s _ _ (by simpa using h), List.map_append]
theorem spoilt {l : List Nat} (ha : l.all (· < 128) = true) (h : l.length ≤ 400) (pick : Nat) (ws : List (List Nat)) (hne : ws ≠ []) (hw : ∀ w ∈ ws, w.length ≤ 100) :
    ∃ ts : List (List Nat), F_law_spoilt [sD l, iN pick, .tuple (ws.map sD)] = some (.ok (.list (ts.map sD))) ∧ (∀ t ∈ ts, Ok t) ∧ ts.length ≤ 100 := by
  have hP : 0 < (sp l).length := List.length_pos_iff.mpr (sp_ne l)
  have hW : 0 < ws.length := List.length_pos_iff.mpr hne
  obtain ⟨a, ea⟩ : ∃ a, a = pick % (sp l).length := ⟨_, rfl⟩
  have hw1 : pick / 29 % ws.length < ws.length := Nat.mod_lt _ hW
  have hm1 : pick / 997 % ws.length < ws.length := Nat.mod_lt _ hW
  obtain ⟨w, hwE⟩ : ∃ w, ws[pick / 29 % ws.length]? = some w := ⟨_, List.getElem?_eq_getElem hw1⟩
  obtain ⟨m, hmE⟩ : ∃ m, ws[pick / 997 % ws.length]? = some m := ⟨_, List.getElem?_eq_getElem hm1⟩
  have lw := hw w (List.mem_of_getElem? hwE)
  have lm := hw m (List.mem_of_getElem? hmE)
  have hrows := ok_rows (l := l) h lw lm a
  refine ⟨oddL l ++ (rowL (sp l) a w m).map (TL.joinL [32]), ?_, ?_, by simp [oddL, rowL]⟩
  · show runM (m_law_spoilt _ _ _) = _
    unfold m_law_spoilt
    have hlen : ((((sp l).map sD).length : Nat) : Int) = ((sp l).length : Int) := by rw [List.length_map]
    have hlen2 : (((ws.map sD).length : Nat) : Int) = (ws.length : Int) := by rw [List.length_map]
    have ex1 : idx (.tuple (ws.map sD)) (iN (pick / 29 % ws.length)) = some (sD w) := by rw [idx_t, List.getElem?_map, hwE]; rfl
    have ex2 : idx (.tuple (ws.map sD)) (iN (pick / 997 % ws.length)) = some (sD m) := by rw [idx_t, List.getElem?_map, hmE]; rfl
    have e29 : bind2 (some (iN pick)) (some (.int 29)) fdivI = some (iN (pick / 29)) := by rw [bind2_s]; exact fdiv_nat pick 29 (by omega) (by omega)
    have e997 : bind2 (some (iN pick)) (some (.int 997)) fdivI = some (iN (pick / 997)) := by rw [bind2_s]; exact fdiv_nat pick 997 (by omega) (by omega)
    have hpl : (sp l).length ≤ 500 := by have := sp_len l; omega
    have tl : ∀ k, ((sp l).take k).length ≤ 500 := fun k => by rw [List.length_take]; omega
    have dl : ∀ k, ((sp l).drop k).length ≤ 500 := fun k => by rw [List.length_drop]; omega
    have d1l : ∀ k, (((sp l).drop k).drop 1).length ≤ 500 := fun k => by rw [List.length_drop, List.length_drop]; omega
    have t1l : ∀ k, (((sp l).drop k).take 1).length ≤ 500 := fun k => by rw [List.length_take]; omega
    rw [bind2_s (sD l), splitD_sp (by omega), okM_s, seqM_ok, consM_s (iN pick), Option.bind_some, int1_i, consM_s (.list ((sp l).map sD)), Option.bind_some, lenD_l, hlen, bind2_s (iN pick), mod_nat pick _ hP, ← ea, okM_s, seqM_ok]
    rw [e29, consM_s (iN (pick / 29)), Option.bind_some, int1_i, consM_s (.tuple (ws.map sD)), Option.bind_some, lenD_t, hlen2, bind2_s (iN (pick / 29)), mod_nat _ _ hW, bind2_s (.tuple (ws.map sD)), ex1, okM_s, seqM_ok]
    rw [e997, consM_s (iN (pick / 997)), Option.bind_some, int1_i, bind2_s (iN (pick / 997)), mod_nat _ _ hW, bind2_s (.tuple (ws.map sD)), ex2, okM_s, seqM_ok]
    rw [partM_i, slcM_s, cut_to, take_map, okM_s, seqM_ok, slcM_s, cut_from, drop_map, okM_s, seqM_ok]
    have a1 : addS (sD l) (sD [32]) = some (sD (l ++ [32])) := addS_S _ _ (by simp; omega)
    have a2 : addS (sD [32]) (sD l) = some (sD ([32] ++ l)) := addS_S _ _ (by simp; omega)
    have a3 : addS (sD l) (sD [32, 48]) = some (sD (l ++ [32, 48])) := addS_S _ _ (by simp; omega)
    have a4 : replD (S [32]) (S [32, 32]) (sD l) = some (sD (dbl l)) := by rw [replD_S (by decide) (by omega) (by decide), repl_dbl]
    have a5 : upperD (sD l) = some (sD (l.map PyProof.Rows.up1)) := upperD_S ha (by omega)
    have a6 : addS (sD [48]) (sD l) = some (sD ([48] ++ l)) := addS_S _ _ (by simp; omega)
    have a7 : addS (sD [45]) (sD l) = some (sD ([45] ++ l)) := addS_S _ _ (by simp; omega)
    have a8 : slcS (sD l) none (some (-1)) = some (sD (l.take (l.length - 1))) := slcS_bl l (by omega)
    have a9 : slcS (sD l) (some 1) none = some (sD (l.drop 1)) := slcS_1 l (by omega)
    have a10 : addS (sD (l ++ [32])) (sD l) = some (sD (l ++ [32] ++ l)) := addS_S _ _ (by simp; omega)
    have a11 : addS (sD l) (sD [59, 32]) = some (sD (l ++ [59, 32])) := addS_S _ _ (by simp; omega)
    have a12 : addS (sD (l ++ [59, 32])) (sD l) = some (sD (l ++ [59, 32] ++ l)) := addS_S _ _ (by simp; omega)
    have a13 : addS (sD l) (sD [59]) = some (sD (l ++ [59])) := addS_S _ _ (by simp; omega)
    have a14 : addS (sD l) (sD [32, 45]) = some (sD (l ++ [32, 45])) := addS_S _ _ (by simp; omega)
    have a15 : replD (S [59, 32]) (S [59]) (sD l) = some (sD (StrLaws.replL [59, 32] [59] l)) := replD_S (by decide) (by omega) (by decide)
    have o1 : lstM (consM (bind2 (some (sD l)) (some (.str " ")) addS) (consM (bind2 (some (.str " ")) (some (sD l)) addS) (consM (bind2 (some (sD l)) (some (.str " 0")) addS) (consM ((some (sD l)).bind (replD " " "  ")) (consM (some (.str "")) (consM (some (.str " ")) (consM ((some (sD l)).bind upperD) (consM (bind2 (some (.str "0")) (some (sD l)) addS) (consM (bind2 (some (.str "-")) (some (sD l)) addS) (some [])))))))))) = some (.list (([l ++ [32], [32] ++ l, l ++ [32, 48], dbl l, [], [32], l.map PyProof.Rows.up1, [48] ++ l, [45] ++ l] : List (List Nat)).map sD)) := by
      rw [w_sp, w_sp0, w_sp2, w_nil, w_0, w_mi]
      rw [bind2_s, a1, bind2_s, a2, bind2_s, a3, Option.bind_some, a4, Option.bind_some, a5, bind2_s, a6, bind2_s, a7]
      rfl
    have o2 : lstM (consM (slcM (some (sD l)) (some none) (partM ((some (.int 1)).bind negI)) slcS) (consM (slcM (some (sD l)) (partM (some (.int 1))) (some none) slcS) (consM (bind2 (bind2 (some (sD l)) (some (.str " ")) addS) (some (sD l)) addS) (consM (bind2 (bind2 (some (sD l)) (some (.str "; ")) addS) (some (sD l)) addS) (consM (bind2 (some (sD l)) (some (.str ";")) addS) (consM (bind2 (some (sD l)) (some (.str " -")) addS) (consM ((some (sD l)).bind (replD "; " ";")) (some [])))))))) = some (.list (([l.take (l.length - 1), l.drop 1, l ++ [32] ++ l, l ++ [59, 32] ++ l, l ++ [59], l ++ [32, 45], StrLaws.replL [59, 32] [59] l] : List (List Nat)).map sD)) := by
      rw [w_sp, w_sesp, w_semi, w_spm, Option.bind_some, negI_s, partM_i, partM_i, slcM_s, a8, slcM_s, a9, bind2_s, a1, bind2_s, a10, bind2_s, a11, bind2_s, a12, bind2_s, a13, bind2_s, a14, Option.bind_some, a15]
      rfl
    rw [o1, okM_s, seqM_ok, o2, bind2_s, cat_m _ _ (by simp), okM_s, seqM_ok]
    generalize hH : (sp l).take a = H
    generalize hT : (sp l).drop a = T
    have hHl : H.length ≤ 500 := by rw [← hH]; exact tl a
    have hTl : T.length ≤ 500 := by rw [← hT]; exact dl a
    have c1 : slcM (some (.list (T.map sD))) (partM (some (.int 1))) (some none) slcL = some (.list ((T.drop 1).map sD)) := by
      rw [partM_i, slcM_s]
      have := cut_from (T.map sD) 1
      rw [drop_map] at this
      exact this
    have c2 : slcM (some (.list (T.map sD))) (some none) (partM (some (.int 1))) slcL = some (.list ((T.take 1).map sD)) := by
      rw [partM_i, slcM_s]
      have := cut_to (T.map sD) 1
      rw [take_map] at this
      exact this
    have c3 : slcM (some (.list ((sp l).map sD))) (partM (some (.int 1))) (some none) slcL = some (.list (((sp l).drop 1).map sD)) := by
      rw [partM_i, slcM_s]
      have := cut_from ((sp l).map sD) 1
      rw [drop_map] at this
      exact this
    have c4 : slcM (some (.list ((sp l).map sD))) (some none) (partM (some (.int 1))) slcL = some (.list (((sp l).take 1).map sD)) := by
      rw [partM_i, slcM_s]
      have := cut_to ((sp l).map sD) 1
      rw [take_map] at this
      exact this
    have c5 : (some (.list ((sp l).map sD))).bind revD = some (.list ((sp l).reverse.map sD)) := by
      show some (PyData.list ((sp l).map sD).reverse) = _
      rw [List.map_reverse]
    have l1 := lst1 w
    have l2 := lst2 w m
    have b1 : bind2 (some (.list (H.map sD))) (some (.list ((T.drop 1).map sD))) catL = some (.list ((H ++ T.drop 1).map sD)) := by rw [bind2_s]; exact cat_m _ _ (by rw [List.length_drop]; omega)
    have b2 : bind2 (some (.list (H.map sD))) (some (.list ([w].map sD))) catL = some (.list ((H ++ [w]).map sD)) := by rw [bind2_s]; exact cat_m _ _ (by simp; omega)
    have b3 : bind2 (some (.list ((H ++ [w]).map sD))) (some (.list ((T.drop 1).map sD))) catL = some (.list ((H ++ [w] ++ T.drop 1).map sD)) := by rw [bind2_s]; exact cat_m _ _ (by simp; omega)
    have b4 : bind2 (some (.list ((H ++ [w]).map sD))) (some (.list (T.map sD))) catL = some (.list ((H ++ [w] ++ T).map sD)) := by rw [bind2_s]; exact cat_m _ _ (by simp; omega)
    have b5 : bind2 (some (.list (H.map sD))) (some (.list ((T.take 1).map sD))) catL = some (.list ((H ++ T.take 1).map sD)) := by rw [bind2_s]; exact cat_m _ _ (by rw [List.length_take]; omega)
    have b6 : bind2 (some (.list ((H ++ T.take 1).map sD))) (some (.list ([w].map sD))) catL = some (.list ((H ++ T.take 1 ++ [w]).map sD)) := by rw [bind2_s]; exact cat_m _ _ (by simp; omega)
    have b7 : bind2 (some (.list (H.map sD))) (some (.list ([w, m].map sD))) catL = some (.list ((H ++ [w, m]).map sD)) := by rw [bind2_s]; exact cat_m _ _ (by simp; omega)
    have b8 : bind2 (some (.list ((H ++ T.take 1).map sD))) (some (.list (T.map sD))) catL = some (.list ((H ++ T.take 1 ++ T).map sD)) := by rw [bind2_s]; exact cat_m _ _ (by simp; omega)
    have b9 : bind2 (some (.list (((sp l).drop 1).map sD))) (some (.list (((sp l).take 1).map sD))) catL = some (.list (((sp l).drop 1 ++ (sp l).take 1).map sD)) := by rw [bind2_s]; exact cat_m _ _ (by simp; omega)
    have b10 : bind2 (some (.list ([w].map sD))) (some (.list ((sp l).map sD))) catL = some (.list (([w] ++ sp l).map sD)) := by rw [bind2_s]; exact cat_m _ _ (by simp; omega)
    have b11 : bind2 (some (.list ((sp l).map sD))) (some (.list ([w, m].map sD))) catL = some (.list ((sp l ++ [w, m]).map sD)) := by rw [bind2_s]; exact cat_m _ _ (by simp; omega)
    rw [c1, c2, c3, c4, c5, l1, l2, b1, b2, b3, b4, b5, b6, b7, b8, b9, b10, b11]
    have z1 : lstM (consM (some (.list ((H ++ T.drop 1).map sD))) (consM (some (.list ((H ++ [w] ++ T.drop 1).map sD))) (consM (some (.list ((H ++ [w] ++ T).map sD))) (consM (some (.list ((H ++ T.take 1 ++ [w]).map sD))) (consM (some (.list ((H ++ [w, m]).map sD))) (some [])))))) = some (.list (([H ++ T.drop 1, H ++ [w] ++ T.drop 1, H ++ [w] ++ T, H ++ T.take 1 ++ [w], H ++ [w, m]] : List (List (List Nat))).map fun r => .list (r.map sD))) := rfl
    have z2 : lstM (consM (some (.list ([w].map sD))) (consM (some (.list ((H ++ T.take 1 ++ T).map sD))) (consM (some (.list ((sp l).reverse.map sD))) (consM (some (.list (((sp l).drop 1 ++ (sp l).take 1).map sD))) (consM (some (.list (([w] ++ sp l).map sD))) (consM (some (.list ((sp l ++ [w, m]).map sD))) (some []))))))) = some (.list (([[w], H ++ T.take 1 ++ T, (sp l).reverse, (sp l).drop 1 ++ (sp l).take 1, [w] ++ sp l, sp l ++ [w, m]] : List (List (List Nat))).map fun r => .list (r.map sD))) := rfl
    have hrow : rowL (sp l) a w m = [H ++ T.drop 1, H ++ [w] ++ T.drop 1, H ++ [w] ++ T, H ++ T.take 1 ++ [w], H ++ [w, m]] ++ [[w], H ++ T.take 1 ++ T, (sp l).reverse, (sp l).drop 1 ++ (sp l).take 1, [w] ++ sp l, sp l ++ [w, m]] := by
      unfold rowL; rw [hH, hT]
    rw [z1, okM_s, seqM_ok, z2, bind2_s, catL_s _ _ (by simp), ← List.map_append, ← hrow, okM_s, seqM_ok, listM_s]
    have hlc : lcM (some ((rowL (sp l) a w m).map fun r => .list (r.map sD))) (fun x11 => bind2 (some (.str (Str.ofString " "))) (some x11) joinD) = some (.list (((rowL (sp l) a w m).map (TL.joinL [32])).map sD)) := by
      have e : ∀ rs : List (List (List Nat)), (∀ r ∈ rs, wt r ≤ 2000) → mapO (fun x11 => bind2 (some (.str (Str.ofString " "))) (some x11) joinD) (rs.map fun r => .list (r.map sD)) = some ((rs.map (TL.joinL [32])).map sD) := by
        intro rs
        induction rs with
        | nil => intro _; rfl
        | cons r rs ih =>
          intro hr
          have h1 := joinD_S r (by have := hr r (List.mem_cons_self ..); omega)
          have h2 := ih fun q hq => hr q (List.mem_cons_of_mem _ hq)
          show (bind2 (some (.str (Str.ofString " "))) (some (.list (r.map sD))) joinD).bind _ = _
          rw [h1, Option.bind_some, h2]
          rfl
      show (if ((rowL (sp l) a w m).map fun r => PyData.list (r.map sD)).length ≤ 100000 then (mapO _ _).map PyData.list else none) = _
      rw [if_pos (by simp [rowL]), e _ fun r hr => (hrows r hr).2]
      rfl
    rw [hlc, bind2_s, catL_s _ _ (by simp [rowL]), ← List.map_append]
    rfl
  · intro t ht
    rcases List.mem_append.mp ht with h1 | h1
    · exact ok_odd h t h1
    · obtain ⟨r, hr, rfl⟩ := List.mem_map.mp h1
      exact (hrows r hr).1
end UT.M
end
section
set_option Elab.async false
set_option linter.all false
set_option maxRecDepth 100000
set_option maxHeartbeats 4000000
/-! plain: lines there and back -/
namespace UT.M
open PySem PySem.Spec PyProof.Rows L2 SX
def noT : PyData := .tuple [.str "no", .str "text", .int (-1), .bool true]
structure Rd (rn : Str) (op : PyData) (D : List Nat → PyData) : Prop where
  rd : ∀ t, Ok t → F_law_call [.str rn, op, sD t] = some (.ok (D t))
  due : ∀ t, Ok t → F_law_due [.str rn, op, sD t] = some (.ok (D t))
  fl : ∀ t, Ok t → Fl 8 (D t)
  odd : ∀ x, isiD "str" x = some (.bool false) → F_law_call [.str rn, op, x] = some (.ok noT)
  words : ∃ ws fs : List (List Nat), F_law_words [.str rn] = some (.ok (.list [.tuple (ws.map sD), .tuple (fs.map sD)])) ∧ ws ≠ [] ∧ (∀ w ∈ ws, w.length ≤ 100) ∧ (∀ f ∈ fs, f.length ≤ 100) ∧ fs.length ≤ 100
theorem loop_ok {T : Type} (step : Unit → PyData → SM Unit) (f : Unit → SM T) : ∀ (ds : List PyData), (∀ d ∈ ds, step () d = some (.ok ())) → seqM (forM' step ds ()) f = f ()
  | [], _ => rfl
  | d :: ds, h => by
    rw [forM'_c, h d (List.mem_cons_self ..), seqM_ok]
    exact loop_ok step f ds fun e he => h e (List.mem_cons_of_mem _ he)
theorem same_step {T : Type} {d : PyData} (h : Fl 8 d) (a : SM T) (m1 m2 : Option PyData) (h1 : m1 = some d) (h2 : m2 = some d) (b : SM T) : ifM (notM (boolM (fnP F_law_same 2 (consM m1 (consM m2 (some [])))))) a b = b := by
  rw [h1, h2, consM_s, consM_s, same_t h, boolM_s, notM_s, Bool.not_true, ifM_f]
theorem fl_noT : Fl 8 noT := ⟨by decide, fun d hd => by
  simp at hd
  rcases hd with rfl | rfl | rfl | rfl <;> trivial⟩
theorem fl_text (l : List Nat) : Fl 8 (.tuple [.str "ok", sD l]) := ⟨by show 2 ≤ 60000; decide, fun d hd => by
  simp at hd
  rcases hd with rfl | rfl <;> trivial⟩
theorem lines {wn rn : Str} {op thing : PyData} {D : List Nat → PyData} (R : Rd rn op D) {l : List Nat} (ha : l.all (· < 128) = true) (hl : l.length ≤ 400) (pick : Nat)
    (hw : F_law_call [.str wn, op, thing] = some (.ok (.tuple [.str "ok", sD l]))) (hb : D l = .tuple [.str "ok", thing]) :
    F_law_lines [.tuple [.str wn, .str rn], op, thing, sD l, iN pick] = some (.ok (.bool true)) := by
  obtain ⟨ws, fs, hws, hne, hwl, hfl, hfn⟩ := R.words
  obtain ⟨ts, hts, hok, htn⟩ := spoilt ha hl pick ws hne hwl
  have hol : Ok l := ok_len (by omega)
  have fD := R.fl l hol
  show runM (m_law_lines _ _ _ _ _) = _
  unfold m_law_lines
  have e1 : fnP F_law_call 3 (consM (bind2 (some (.tuple [.str wn, .str rn])) (some (.int 0)) idx) (consM (some op) (consM (some thing) (some [])))) = some (.tuple [.str "ok", sD l]) := by
    rw [bind2_s, idx_t0, consM_s, consM_s, consM_s]
    exact fnP_ok hw rfl (fl_pure 8 _ (fl_text l))
  have e2 : fnP F_law_call 3 (consM (bind2 (some (.tuple [.str wn, .str rn])) (some (.int 1)) idx) (consM (some op) (consM (some (sD l)) (some [])))) = some (D l) := by
    rw [bind2_s, idx_t1, consM_s, consM_s, consM_s]
    exact fnP_ok (R.rd l hol) rfl (fl_pure 8 _ fD)
  have e1b : tupM (consM (some (.str "ok")) (consM (some (sD l)) (some []))) = some (.tuple [.str "ok", sD l]) := rfl
  have e9 : tupM (consM (some (.str "no")) (consM (some (.str "text")) (consM ((some (.int 1)).bind negI) (consM (some (.bool true)) (some []))))) = some noT := rfl
  have e2b : tupM (consM (some (.str "ok")) (consM (some thing) (some []))) = some (D l) := by rw [hb]; rfl
  have e3 : fnL' F_law_words 1 (consM (bind2 (some (.tuple [.str wn, .str rn])) (some (.int 1)) idx) (some [])) = some (.list [.tuple (ws.map sD), .tuple (fs.map sD)]) := by
    rw [bind2_s, idx_t1, consM_s]
    exact fnL_ok hws rfl
  rw [same_step (fl_text l) _ _ _ e1 e1b, seqM_ok, same_step fD _ _ _ e2 e2b, seqM_ok, e3, okM_s, seqM_ok]
  have e4 : fnL' F_law_spoilt 3 (consM (some (sD l)) (consM (some (iN pick)) (consM (bind2 (some (.list [.tuple (ws.map sD), .tuple (fs.map sD)])) (some (.int 0)) idx) (some [])))) = some (.list (ts.map sD)) := by
    rw [bind2_s, idx_l0, consM_s, consM_s, consM_s]
    exact fnL_ok hts rfl
  have e5 : (consM (bind2 (some (.list [.tuple (ws.map sD), .tuple (fs.map sD)])) (some (.int 1)) idx) (some [])).bind lstD = some (.list (fs.map sD)) := by
    rw [bind2_s, idx_l1, consM_s, Option.bind_some, lstD_t]
  rw [e4, e5, bind2_s, cat_m _ _ (by omega), listM_s, forM_s]
  rw [loop_ok]
  · have e6 : tupleM (tupM (consM (some .none) (consM (some (.int 3)) (consM (tupM (consM (some (.str "sum")) (consM (some (.int 2)) (some [])))) (consM (lstM (consM (some (sD l)) (some []))) (consM (some (.bool true)) (consM (tupM (some [])) (some [])))))))) = some [.none, .int 3, .tuple [.str "sum", .int 2], .list [sD l], .bool true, .tuple []] := rfl
    rw [e6, forM_s, loop_ok]
    · rfl
    · intro x hx
      have hnt : isiD "str" x = some (.bool false) := by
        simp only [List.mem_cons, List.not_mem_nil, or_false] at hx
        rcases hx with rfl | rfl | rfl | rfl | rfl | rfl <;> simp
      have e7 : fnP F_law_call 3 (consM (bind2 (some (.tuple [.str wn, .str rn])) (some (.int 1)) idx) (consM (some op) (consM (some x) (some [])))) = some noT := by
        rw [bind2_s, idx_t1, consM_s, consM_s, consM_s]
        exact fnP_ok (R.odd x hnt) rfl (fl_pure 8 _ fl_noT)
      rw [same_step fl_noT _ _ _ e7 e9, seqM_ok]
  · intro x hx
    obtain ⟨t, ht, rfl⟩ := List.mem_map.mp hx
    have hot : Ok t := by
      rcases List.mem_append.mp ht with h1 | h1
      · exact hok t h1
      · exact ok_len (Nat.le_trans (hfl t h1) (by omega))
    have e7 : fnP F_law_call 3 (consM (bind2 (some (.tuple [.str wn, .str rn])) (some (.int 1)) idx) (consM (some op) (consM (some (sD t)) (some [])))) = some (D t) := by
      rw [bind2_s, idx_t1, consM_s, consM_s, consM_s]
      exact fnP_ok (R.rd t hot) rfl (fl_pure 8 _ (R.fl t hot))
    have e8 : fnP F_law_due 3 (consM (bind2 (some (.tuple [.str wn, .str rn])) (some (.int 1)) idx) (consM (some op) (consM (some (sD t)) (some [])))) = some (D t) := by
      rw [bind2_s, idx_t1, consM_s, consM_s, consM_s]
      exact fnP_ok (R.due t hot) rfl (fl_pure 8 _ (R.fl t hot))
    rw [same_step (R.fl t hot) _ _ _ e7 e8, seqM_ok]
end UT.M
end
section
set_option Elab.async false
set_option linter.all false
set_option maxRecDepth 100000
set_option maxHeartbeats 4000000
/-! plain: the four readers, as the law needs them -/
namespace UT.M
open PySem PySem.Spec PyProof.Rows L2 SX
def cs (s : String) : List Nat := s.toList.map Char.toNat
theorem map_w (ss : List String) : (ss.map cs).map sD = ss.map fun s => .str (Str.ofString s) := by
  rw [List.map_map]
  apply List.map_congr_left
  intro s _
  show sD (cs s) = .str (Str.ofString s)
  rw [S_of s (cs s) rfl]
theorem fl_ok {d : PyData} (h : Fl 6 d) : Fl 7 (.tuple [.str "ok", d]) := ⟨by show 2 ≤ 60000; decide, fun e he => by
  simp at he
  rcases he with rfl | rfl
  · trivial
  · exact h⟩
theorem fl_no (k : Nat) : Fl 7 (noD k) := ⟨by show 4 ≤ 60000; decide, fun e he => by
  simp at he
  rcases he with rfl | rfl | rfl | rfl <;> trivial⟩
theorem fl_mono : ∀ (n : Nat) (d : PyData), Fl n d → Fl (n + 1) d
  | 0, _, h => h.elim
  | n + 1, d, h => by
    cases d with
    | tuple ds => exact ⟨h.1, fun e he => fl_mono n e (h.2 e he)⟩
    | none => trivial
    | bool b => trivial
    | int i => trivial
    | str s => trivial
    | list ds => exact h.elim
    | dict ds => exact h.elim
theorem fl_law {x : Except Nat PyData} (h : ∀ d, x = .ok d → Fl 6 d) : Fl 8 (lawR x) := by
  refine fl_mono 7 _ ?_
  cases x with
  | ok d => exact fl_ok (h d rfl)
  | error k => exact fl_no k
theorem fl_int (n : Nat) (i : Int) : Fl (n + 1) (.int i) := trivial
theorem fl_str (n : Nat) (i : Str) : Fl (n + 1) (.str i) := trivial
theorem fl_tup {n : Nat} {ds : List PyData} (h1 : ds.length ≤ 60000) (h2 : ∀ d ∈ ds, Fl n d) : Fl (n + 1) (.tuple ds) := ⟨h1, h2⟩
theorem fl_ints (n : Nat) {xs : List Int} (h : xs.length ≤ 60000) : Fl (n + 2) (.tuple (xs.map .int)) := fl_tup (by simpa using h) fun d hd => by
  obtain ⟨i, _, rfl⟩ := List.mem_map.mp hd
  exact fl_int n i
theorem ro_fl {l : List Nat} (h : Ok l) (d : PyData) (hd : ro l = .ok d) : Fl 6 d := by
  have hn := sp_len l
  have hl := h.len
  unfold ro at hd
  split at hd
  · cases hd
  · rename_i w ps hs
    rw [hs] at hn
    split at hd
    · cases hd
    · split at hd
      · cases hd
      · rename_i a hg
        split at hd
        · cases hd
        · cases hd
          obtain ⟨ns, e1, e2, _⟩ := goO_ok hg
          refine fl_tup (by rw [e1]; simp at hn ⊢; omega) fun d hd => ?_
          rcases List.mem_cons.mp hd with rfl | hd
          · exact fl_str _ _
          · obtain ⟨i, _, rfl⟩ := List.mem_map.mp hd
            exact fl_int _ _
theorem rd_ro (op : PyData) : Rd "read_operation" op (fun t => lawR (ro t)) where
  rd := fun t h => call_ro op (sD t) _ _ (read_operation h) (callR_prog _)
  due := fun t h => by
    have e := fnP_ok (n := 1) (law_operation_due h) rfl (fl_pure 8 _ (fl_law (ro_fl h)))
    show runM (m_law_due _ _ _) = _
    simp [m_law_due, e]
  fl := fun t h => fl_law (ro_fl h)
  odd := fun x hx => call_ro op x (.error ⟨.usable, .str "text", .int (-1)⟩) noT (by show runM (m_read_operation x) = _; simp [m_read_operation, hx]) rfl
  words := ⟨(["00", "07", "-1", "+1", "0", "1x", "x", "", "1", "2", "-", "sum", "most", "spans", "Sum", "grids", "1;"] : List String).map cs, (["maps", "grids 2", "grids 2 x", "sum 0", "Sum 1", "most 1", "grids 0 0", "spans", "counts 2 2"] : List String).map cs,
    by rw [map_w, map_w]; rfl, by decide, by decide, by decide, by decide⟩
theorem fl_shape (o : Op) (a : List Int) (h : a.length ≤ 60000) (hm : o.many ≤ a.length) : Fl 6 (shape o a) := by
  unfold shape
  split
  · rename_i n m
    have hn : n ≤ 60000 := by
      simp only [Op.many] at hm
      exact Nat.le_trans (Nat.le_mul_self n) (by omega)
    refine fl_tup (by simpa using hn) fun d hd => ?_
    obtain ⟨r, _, rfl⟩ := List.mem_map.mp hd
    refine fl_tup (by simp; omega) fun e he => ?_
    have := List.mem_of_mem_drop (List.mem_of_mem_take he)
    obtain ⟨i, _, rfl⟩ := List.mem_map.mp this
    exact fl_int _ _
  · exact fl_ints 4 h
  · exact fl_ints 4 h
  · exact fl_ints 4 h
  · exact fl_ints 4 h
  · exact fl_int _ _
theorem rv_fl (o : Op) {l : List Nat} (h : Ok l) (d : PyData) (hd : rv o l = .ok d) : Fl 6 d := by
  have hn := sp_len l
  have hl := h.len
  unfold rv at hd
  split at hd
  · split at hd
    · cases hd
    · cases hd; trivial
  · split at hd
    · cases hd
    · rename_i a hg
      have := goV_len hg
      simp at this
      split at hd
      · cases hd
      · cases hd
        exact fl_shape o a (by omega) (by omega)
theorem rd_rv (o : Op) (ho : o.ok) : Rd "read_value" (opD o) (fun t => lawR (rv o t)) where
  rd := fun t h => call_rv (opD o) (sD t) _ _ (read_value o ho h) (callR_prog _)
  due := fun t h => by
    have e := fnP_ok (n := 2) (law_value_due o ho h) rfl (fl_pure 8 _ (fl_law (rv_fl o h)))
    show runM (m_law_due _ _ _) = _
    simp [m_law_due, e]
  fl := fun t h => fl_law (rv_fl o h)
  odd := fun x hx => call_rv (opD o) x (.error ⟨.usable, .str "text", .int (-1)⟩) noT (by show runM (m_read_value (opD o) x) = _; simp [m_read_value, hx, fnP_isOp o ho]) rfl
  words := ⟨(["00", "07", "-0", "+1", "-1", "0", "1x", "x", "", "nought", "1", "2", "-", "--1", "-01", "9999999999999"] : List String).map cs, (["nought", "nought 1", "3 2", "2 3", "2", "-", "0", "-0", "0 0", "1 1 1"] : List String).map cs,
    by rw [map_w, map_w]; rfl, by decide, by decide, by decide, by decide⟩
theorem goA_len : ∀ {ps : List (List Nat)} {k : Nat} {bf : Int × Int} {acc : List (Int × Int)} {a : List (Int × Int) × (Int × Int)}, goA k ps bf acc = .ok a → a.1.length = acc.length + ps.length
  | [], k, bf, acc, a, h => by cases h; rfl
  | p :: ps, k, bf, acc, a, h => by
    unfold goA at h
    split at h
    · split at h
      · cases h
      · have := goA_len h
        rw [this]; simp; omega
    · cases h
theorem fl_asks (n : Nat) {xs : List (Int × Int)} (h : xs.length ≤ 60000) : Fl (n + 3) (.tuple (xs.map aD)) := fl_tup (by simpa using h) fun d hd => by
  obtain ⟨i, _, rfl⟩ := List.mem_map.mp hd
  refine fl_tup (by show 2 ≤ 60000; decide) fun e he => ?_
  simp at he
  rcases he with rfl | rfl <;> exact fl_int _ _
theorem ra_fl {l : List Nat} (h : Ok l) (d : PyData) (hd : ra l = .ok d) : Fl 6 d := by
  have hn := sp_len l
  have hl := h.len
  unfold ra at hd
  split at hd
  · split at hd
    · cases hd
    · cases hd; exact fl_tup (Nat.zero_le _) fun d hd => by cases hd
  · split at hd
    · cases hd
    · rename_i a hg
      have := goA_len hg
      simp at this
      cases hd
      exact fl_asks 3 (by omega)
theorem parts_odd (x : PyData) (hx : isiD "str" x = some (.bool false)) : F_parts_of [x] = some (.error ⟨.usable, .str "text", .int (-1)⟩) := by
  show runM (m_parts_of x) = _
  simp [m_parts_of, hx]
theorem rd_ra (op : PyData) : Rd "read_asks" op (fun t => lawR (ra t)) where
  rd := fun t h => call_ra op (sD t) _ _ (read_asks h) (callR_prog _)
  due := fun t h => by
    have e := fnP_ok (n := 1) (law_asks_due h) rfl (fl_pure 8 _ (fl_law (ra_fl h)))
    show runM (m_law_due _ _ _) = _
    simp [m_law_due, e]
  fl := fun t h => fl_law (ra_fl h)
  odd := fun x hx => call_ra op x (.error ⟨.usable, .str "text", .int (-1)⟩) noT (by
    show runM (m_read_asks x) = _
    unfold m_read_asks
    rw [consM_s, fnX_er (n := 1) (parts_odd x hx) rfl]; rfl) rfl
  words := ⟨(["3-3", "4-2", "03-5", "3-05", "+1-2", "1--2", "1-2-3", "a-b", "-1-2", "1-", "-3", "", "-", "3", "5-7", "0-1"] : List String).map cs, (["0-3 1-4 1-4", "1-4 0-3", "- 0-3", "0-3 -", "0-0", "119-120", "0-3 1-4;", "0-9 0-10", "0-10 0-9"] : List String).map cs,
    by rw [map_w, map_w]; rfl, by decide, by decide, by decide, by decide⟩
theorem goH_len : ∀ {f k : Nat} {ps : List (List Nat)} {ins : Nat} {acc : List Ev} {a : List Ev} {i j : Nat}, goH f k ps ins acc = .ok (a, i, j) → a.length ≤ acc.length + ps.length
  | 0, _, _, _, _, _, _, _, h => by cases h
  | f + 1, k, ps, ins, acc, a, i, j, h => by
    unfold goH at h
    split at h
    · cases h
    · rename_i e n g hr
      obtain ⟨h1, h2, _⟩ := evR_ok hr
      split at h
      · have := goH_len h
        rw [List.length_drop] at this
        simp at this; omega
      · cases h; simp; omega
theorem fl_ev (n : Nat) (e : Ev) : Fl (n + 2) (evD e) := by
  cases e <;> refine fl_tup (by simp) fun d hd => ?_ <;> simp at hd
  · subst hd; exact fl_str _ _
  · rcases hd with rfl | rfl
    · exact fl_str _ _
    · exact fl_int _ _
  · rcases hd with rfl | rfl
    · exact fl_str _ _
    · exact fl_int _ _
theorem fl_evs (n : Nat) {xs : List Ev} (h : xs.length ≤ 60000) : Fl (n + 3) (.tuple (xs.map evD)) := fl_tup (by simpa using h) fun d hd => by
  obtain ⟨i, _, rfl⟩ := List.mem_map.mp hd
  exact fl_ev n i
theorem rh_fl {l : List Nat} (h : Ok l) (d : PyData) (hd : rh l = .ok d) : Fl 6 d := by
  have hn := sp_len l
  have hl := h.len
  unfold rh at hd
  split at hd
  · split at hd
    · cases hd
    · cases hd; exact fl_tup (Nat.zero_le _) fun d hd => by cases hd
  · split at hd
    · cases hd
    · rename_i a i j hg
      have := goH_len hg
      simp at this
      split at hd
      · cases hd
      · cases hd
        exact fl_evs 3 (by omega)
theorem rd_rh (op : PyData) : Rd "read_history" op (fun t => lawR (rh t)) where
  rd := fun t h => call_rh op (sD t) _ _ (read_history h) (callR_prog _)
  due := fun t h => by
    have e := fnP_ok (n := 1) (law_history_due h) rfl (fl_pure 8 _ (fl_law (rh_fl h)))
    show runM (m_law_due _ _ _) = _
    simp [m_law_due, e]
  fl := fun t h => fl_law (rh_fl h)
  odd := fun x hx => call_rh op x (.error ⟨.usable, .str "text", .int (-1)⟩) noT (by
    show runM (m_read_history x) = _
    unfold m_read_history
    rw [consM_s, fnX_er (n := 1) (parts_odd x hx) rfl]; rfl) rfl
  words := ⟨(["put", "put 0;", "put 3;", "ask", "ask;", "drop", "drop 1;", "drop 2", "drop 40;", "Put", "ask;;", ";", "", "40", "put 03;", "put -1;", "put +2;", "put 1", "-", "1", "2;", "0", "ask; -", "puts"] : List String).map cs, (["drop 1", "put 1; drop 2", "put 1; drop 1; drop 1", "put 2;", "ask ask", "ask;", "- ask", "put 1; put", "put"] : List String).map cs,
    by rw [map_w, map_w]; rfl, by decide, by decide, by decide, by decide⟩
end UT.M
end
section
set_option Elab.async false
set_option linter.all false
set_option maxRecDepth 100000
set_option maxHeartbeats 4000000
/-! plain: numbers written, operations written -/
namespace UT.M
open PySem PySem.Spec PyProof.Rows L2 SX
def numZ (i : Int) : List Nat := if i < 0 then 45 :: TL.numL i.natAbs else TL.numL i.natAbs
theorem str_int (i : Int) : Str.ofString (toString i) = S (numZ i) := by
  unfold numZ
  cases i with
  | ofNat n =>
    have : ¬ (Int.ofNat n < 0) := Int.not_lt.mpr (Int.natCast_nonneg n)
    rw [if_neg this]
    exact num_S n
  | negSucc n =>
    have : Int.negSucc n < 0 := by omega
    rw [if_pos this]
    have e : toString (Int.negSucc n) = "-" ++ toString (n + 1) := rfl
    rw [e]
    refine S_of _ _ ?_
    rw [String.toList_append, List.map_append]
    have h2 : (toString (n + 1)).toList.map Char.toNat = TL.numL (n + 1) := by
      have h3 := TL.tl_num (n + 1)
      have h4 := signs_ofString (toString (((n + 1 : Nat)) : Int))
      have h5 : toString (((n + 1 : Nat)) : Int) = toString (n + 1) := rfl
      rw [h5] at h3 h4
      exact h4.symm.trans h3
    rw [h2]
    rfl
def small (i : Int) : Prop := i.natAbs < 10 ^ 40
theorem strD_int (i : Int) (h : small i) : strD [.int i] = some (sD (numZ i)) := by
  have hl : i.natAbs.log2 < 1920 := by
    by_cases h0 : i.natAbs = 0
    · rw [h0]; decide
    · have : i.natAbs.log2 < 200 := (Nat.log2_lt h0).mpr (Nat.lt_of_lt_of_le h (by decide))
      omega
  show (if i.natAbs.log2 < 1920 then some (PyData.str (Str.ofString (toString i))) else none) = _
  rw [if_pos hl, str_int]
theorem fmtD_int (i : Int) (h : small i) : fmtD (.int i) = some (sD (numZ i)) := by
  have hl : i.natAbs.log2 < 1920 := by
    by_cases h0 : i.natAbs = 0
    · rw [h0]; decide
    · have : i.natAbs.log2 < 200 := (Nat.log2_lt h0).mpr (Nat.lt_of_lt_of_le h (by decide))
      omega
  show (if i.natAbs.log2 < 1920 then some (PyData.str (Str.ofString (toString i))) else none) = _
  rw [if_pos hl, str_int]
theorem numL_head : ∀ n : Nat, 1 ≤ n → (TL.numL n).head? ≠ some 48 := by
  intro n
  induction n using Nat.strongRecOn with
  | _ n ih =>
    intro h
    by_cases h10 : n < 10
    · rw [TL.numL_lt h10]
      simp; omega
    · rw [TL.numL_step (by omega)]
      have := ih (n / 10) (by omega) (by omega)
      cases hq : TL.numL (n / 10) with
      | nil => exact absurd hq (TL.numL_ne _)
      | cons c r => rw [hq] at this; simpa using this
theorem fig_num (n : Nat) : fig (TL.numL n) = true := by
  have hd := TL.numL_digits n
  have hall : (TL.numL n).all dig = true := by
    rw [List.all_eq_true]
    intro c hc
    have := hd c hc
    simp [dig]; omega
  have hne : (TL.numL n).isEmpty = false := by
    cases h : TL.numL n with
    | nil => exact absurd h (TL.numL_ne n)
    | cons c r => rfl
  have hl : (TL.numL n == [48] || (TL.numL n).head? != some 48) = true := by
    by_cases h0 : n = 0
    · subst h0; rw [TL.numL_lt (by omega)]; rfl
    · have := numL_head n (by omega)
      simp [this]
  unfold fig
  rw [hall, hne, hl]; rfl
theorem numR_num (n : Nat) : numR (TL.numL n) = some n := by
  unfold numR
  rw [if_pos (fig_num n), TL.numL_val]
theorem intR_num (i : Int) : intR (numZ i) = some i := by
  unfold numZ
  by_cases h : i < 0
  · rw [if_pos h]
    show (match numR (TL.numL i.natAbs) with
      | some n => if n = 0 then none else some (-(n : Int))
      | none => none) = _
    rw [numR_num]
    dsimp only
    rw [if_neg (by omega)]
    exact congrArg some (by omega)
  · rw [if_neg h, intR_fig (fig_num _), TL.numL_val]
    exact congrArg some (by omega)
theorem numZ_no (i : Int) (s : Nat) (h : s < 45 ∨ (45 < s ∧ s < 48) ∨ 57 < s) : s ∉ numZ i := by
  unfold numZ
  have hf : s ∉ TL.numL i.natAbs := TL.numL_free (by omega)
  split
  · intro hm
    rcases List.mem_cons.mp hm with h1 | h1
    · omega
    · exact hf h1
  · exact hf
theorem numZ_len (i : Int) (h : small i) : (numZ i).length ≤ 41 := by
  have := TL.numL_len (k := 40) (by decide) h
  unfold numZ
  split
  · simp; omega
  · omega
theorem numZ_nat (n : Nat) : numZ (n : Int) = TL.numL n := by
  unfold numZ
  rw [if_neg (by omega)]
  rfl
theorem sp_join {ps : List (List Nat)} (hne : ps ≠ []) (h : ∀ p ∈ ps, 32 ∉ p) : sp (TL.joinL [32] ps) = ps := spl_join hne h
/-! operations -/
def opP (o : Op) : List (List Nat) := cs o.w :: o.ps.map fun (n : Nat) => numZ (n : Int)
def opL (o : Op) : List Nat := TL.joinL [32] (opP o)
theorem opD_S (o : Op) : opD o = .tuple (sD (cs o.w) :: o.ps.map iN) := by
  unfold opD
  rw [S_of o.w (cs o.w) rfl]
theorem op_no32 (o : Op) : ∀ p ∈ opP o, 32 ∉ p := by
  intro p hp
  rcases List.mem_cons.mp hp with rfl | hp
  · cases o <;> simp only [Op.w] <;> decide
  · obtain ⟨n, _, rfl⟩ := List.mem_map.mp hp
    exact numZ_no _ _ (by omega)
theorem small_nat {n : Nat} (h : n ≤ 1000000000000) : small (n : Int) := by
  show (n : Int).natAbs < 10 ^ 40
  have : (n : Int).natAbs = n := rfl
  rw [this]
  exact Nat.lt_of_le_of_lt h (by decide)
theorem op_lens (o : Op) (ho : o.ok) : (∀ p ∈ opP o, p.length ≤ 41) ∧ wt (opP o) ≤ 130 := by
  have hw : (cs o.w).length ≤ 8 := by cases o <;> simp only [Op.w] <;> decide
  have hp : ∀ n : Nat, n ∈ o.ps → (numZ (n : Int)).length ≤ 41 := fun n hn => numZ_len _ (small_nat (ho n hn).2)
  refine ⟨fun p h => ?_, ?_⟩
  · rcases List.mem_cons.mp h with rfl | h
    · omega
    · obtain ⟨n, hn, rfl⟩ := List.mem_map.mp h
      exact hp n hn
  · unfold opP
    rw [wt_cons]
    have : o.ps.length ≤ 2 := by cases o <;> simp [Op.ps]
    have e : ∀ ns : List Nat, (∀ n : Nat, n ∈ ns → (numZ (n : Int)).length ≤ 41) → wt (ns.map fun (n : Nat) => numZ (n : Int)) ≤ 42 * ns.length := by
      intro ns
      induction ns with
      | nil => intro _; exact Nat.zero_le _
      | cons n ns ih =>
        intro h
        rw [List.map_cons, wt_cons, List.length_cons]
        have h1 := h n (List.mem_cons_self ..)
        have h2 := ih fun m hm => h m (List.mem_cons_of_mem _ hm)
        omega
    have := e o.ps hp
    omega
theorem map_str {ds : List PyData} {ps : List (List Nat)} : ∀ (_ : ds.length = ps.length) (_ : ∀ (i : Nat) (d : PyData) (p : List Nat), ds[i]? = some d → ps[i]? = some p → strD [d] = some (sD p)), mapO (fun x2 => (consM (some x2) (some [])).bind strD) ds = some (ps.map sD) := by
  induction ds generalizing ps with
  | nil =>
    intro h1 _
    cases ps with
    | nil => rfl
    | cons p ps => simp at h1
  | cons d ds ih =>
    intro h1 h2
    cases ps with
    | nil => simp at h1
    | cons p ps =>
      have a := h2 0 d p rfl rfl
      have b := ih (ps := ps) (by simpa using h1) fun i d p hd hp => h2 (i + 1) d p (by simpa using hd) (by simpa using hp)
      show ((consM (some d) (some [])).bind strD).bind _ = _
      rw [consM_s, Option.bind_some, a, Option.bind_some, b]
      rfl
theorem lc_str {ds : List PyData} {ps : List (List Nat)} (h0 : ds.length ≤ 100000) (h1 : ds.length = ps.length) (h2 : ∀ (i : Nat) (d : PyData) (p : List Nat), ds[i]? = some d → ps[i]? = some p → strD [d] = some (sD p)) :
    lcM (some ds) (fun x2 => (consM (some x2) (some [])).bind strD) = some (.list (ps.map sD)) := by
  show (if ds.length ≤ 100000 then (mapO _ ds).map PyData.list else none) = _
  rw [if_pos h0, map_str h1 h2]
  rfl
theorem strD_s (p : List Nat) : strD [sD p] = some (sD p) := rfl
theorem op_strs (o : Op) (ho : o.ok) : ∀ (i : Nat) (d : PyData) (p : List Nat), (sD (cs o.w) :: o.ps.map iN)[i]? = some d → (opP o)[i]? = some p → strD [d] = some (sD p) := by
  intro i d p hd hp
  cases i with
  | zero =>
    simp [opP] at hd hp
    subst hd hp; exact strD_s _
  | succ i =>
    simp only [List.getElem?_cons_succ, List.getElem?_map, opP] at hd hp
    cases hn : o.ps[i]? with
    | none => rw [hn] at hd; cases hd
    | some n =>
      rw [hn] at hd hp
      cases hd; cases hp
      exact strD_int _ (small_nat (ho n (List.mem_of_getElem? hn)).2)
theorem operation_line (o : Op) (ho : o.ok) : F_operation_line [opD o] = some (.ok (sD (opL o))) := by
  show runM (m_operation_line (opD o)) = _
  unfold m_operation_line
  obtain ⟨_, hwt⟩ := op_lens o ho
  have hps : o.ps.length ≤ 2 := by cases o <;> simp [Op.ps]
  rw [consM_s, fnP_isOp o ho, boolM_s, notM_s, Bool.not_true, ifM_f, seqM_ok, opD_S, tupleM_s]
  rw [lc_str (ps := opP o) (by simp; omega) (by simp [opP]) (op_strs o ho), joinD_S _ (by omega)]
  rfl
theorem goO_num (m : Nat) : ∀ (ps : List Nat) (k : Nat) (acc : List Nat), k + ps.length ≤ m → (∀ n ∈ ps, 1 ≤ n) → goO m k (ps.map fun (n : Nat) => numZ (n : Int)) acc = .ok (acc ++ ps)
  | [], k, acc, _, _ => by simp [goO]
  | n :: ps, k, acc, h, h1 => by
    rw [List.map_cons]
    unfold goO
    rw [numZ_nat, numR_num]
    dsimp only
    have hn := h1 n (List.mem_cons_self ..)
    rw [if_neg (by simp at h; omega)]
    have ih := goO_num m ps (k + 1) (acc ++ [n]) (by simp at h; omega) fun q hq => h1 q (List.mem_cons_of_mem _ hq)
    rw [ih]; simp
theorem need_op (o : Op) : need (S (cs o.w)) = some o.ps.length := by
  have e : S (cs o.w) = Str.ofString o.w := (S_of _ _ rfl).symm
  rw [e]
  cases o <;> simp [need, opW, Op.w, Op.ps, List.lookup_cons]
theorem ro_op (o : Op) (ho : o.ok) : ro (opL o) = .ok (opD o) := by
  unfold ro opL
  rw [sp_join (by simp [opP]) (op_no32 o)]
  unfold opP
  dsimp only
  rw [need_op]
  dsimp only
  rw [goO_num _ _ _ _ (by omega) fun n hn => (ho n hn).1]
  dsimp only
  rw [List.nil_append, if_neg (by omega), opD_S]
/-- all signs below 128 -/
theorem ascii_join : ∀ ps : List (List Nat), (∀ p ∈ ps, p.all (· < 128) = true) → (TL.joinL [32] ps).all (· < 128) = true
  | [], _ => rfl
  | [p], h => h p (by simp)
  | p :: q :: r, h => by
    have ih := ascii_join (q :: r) fun x hx => h x (List.mem_cons_of_mem _ hx)
    rw [joinL_2, List.all_append, List.all_cons, h p (by simp), ih]
    rfl
theorem ascii_num (i : Int) : (numZ i).all (· < 128) = true := by
  have hd : (TL.numL i.natAbs).all (· < 128) = true := by
    rw [List.all_eq_true]
    intro c hc
    have := TL.numL_digits i.natAbs c hc
    simp; omega
  unfold numZ
  split
  · rw [List.all_cons, hd]; rfl
  · exact hd
theorem op_ascii (o : Op) : (opL o).all (· < 128) = true := ascii_join _ fun p hp => by
  rcases List.mem_cons.mp hp with rfl | hp
  · cases o <;> simp only [Op.w] <;> decide
  · obtain ⟨n, _, rfl⟩ := List.mem_map.mp hp
    exact ascii_num _
theorem op_len (o : Op) (ho : o.ok) : (opL o).length ≤ 400 := by
  have h1 := join_len (opP o)
  have h2 := (op_lens o ho).2
  unfold opL
  omega
theorem lines_op (o : Op) (ho : o.ok) (pick : Nat) : F_law_lines [.tuple [.str "operation_line", .str "read_operation"], opD o, opD o, sD (opL o), iN pick] = some (.ok (.bool true)) :=
  lines (rd_ro (opD o)) (op_ascii o) (op_len o ho) pick (call_ol (opD o) (opD o) _ _ (operation_line o ho) rfl) (by show lawR (ro (opL o)) = _; rw [ro_op o ho]; rfl)
end UT.M
end
section
set_option Elab.async false
set_option linter.all false
set_option maxRecDepth 100000
set_option maxHeartbeats 4000000
/-! plain: values written -/
namespace UT.M
open PySem PySem.Spec PyProof.Rows L2 SX
def accept (o : Op) : List Int → List Int → Prop
  | _, [] => True
  | acc, n :: r => stand o acc n = true ∧ accept o (acc ++ [n]) r
structure VOk (o : Op) (ns : List Int) : Prop where
  len : ns.length = o.many
  few : ns.length ≤ 12
  sm : ∀ i ∈ ns, small i
  wid : (ns.map fun i => (numZ i).length + 1).sum ≤ 380
  acc : accept o [] ns
def vD (o : Op) : Option (List Int) → PyData
  | none => .none
  | some ns => shape o ns
def valL : Option (List Int) → List Nat
  | none => nou
  | some ns => TL.joinL [32] (ns.map numZ)
def VV (o : Op) : Option (List Int) → Prop
  | none => o = .spans
  | some ns => VOk o ns
theorem goV_num (o : Op) : ∀ (ns : List Int) (k : Nat) (acc : List Int), k + ns.length ≤ o.many → accept o acc ns → goV o k (ns.map numZ) acc = .ok (acc ++ ns)
  | [], k, acc, _, _ => by simp [goV]
  | n :: ns, k, acc, h, h1 => by
    obtain ⟨h2, h3⟩ := h1
    rw [List.map_cons]
    unfold goV chk
    rw [if_neg (by simp at h; omega), intR_num, Option.bind_some, if_pos h2]
    dsimp only
    rw [goV_num o ns (k + 1) (acc ++ [n]) (by simp at h; omega) h3]
    simp
theorem nou_sp : sp nou = [nou] := by
  have : sp (TL.joinL [32] [nou]) = [nou] := sp_join (by simp) (by decide)
  exact this
theorem rv_val (o : Op) (ho : o.ok) (x : Option (List Int)) (h : VV o x) : rv o (valL x) = .ok (vD o x) := by
  cases x with
  | none =>
    obtain rfl : o = .spans := h
    unfold rv valL
    rw [nou_sp]
    rfl
  | some ns =>
    have hv : VOk o ns := h
    have hm := many_pos o ho
    have hne : ns ≠ [] := fun e => by have := hv.len; rw [e] at this; simp at this; omega
    unfold rv valL
    dsimp only
    rw [sp_join (by simpa using hne) (fun p hp => by obtain ⟨i, _, rfl⟩ := List.mem_map.mp hp; exact numZ_no _ _ (by omega))]
    have hh : ¬ (o.isSpans = true ∧ (ns.map numZ).head? = some nou) := by
      rintro ⟨_, h2⟩
      cases ns with
      | nil => exact hne rfl
      | cons n r =>
        have : numZ n = nou := by simpa using h2
        have h3 := intR_num n
        rw [this] at h3
        have h4 : intR nou = none := by decide
        rw [h4] at h3
        cases h3
    rw [if_neg hh, goV_num o ns 0 [] (by have := hv.len; omega) hv.acc]
    dsimp only
    rw [List.nil_append, if_neg (by have := hv.len; omega)]
    rfl
/-! a_fits -/
theorem fnP_row_int {F : List PyData → Option (Except Err PyData)} : True := trivial
theorem isInt_b (b : Bool) : F_is_integer [.bool b] = some (.ok (.bool false)) := by simp [F_is_integer, m_is_integer]
theorem isRow (xs : List Int) (many : Nat) (top : Option Nat) (hl : xs.length = many) (h0 : ∀ i ∈ xs, 0 ≤ i) (ht : ∀ t, top = some t → ∀ i ∈ xs, i < (t : Int)) :
    F_is_row [.tuple (xs.map .int), iN many, oD top] = some (.ok (.bool true)) := by
  show runM (m_is_row _ _ _) = _
  unfold m_is_row
  have e1 : ((((xs.map PyData.int).length : Nat) : Int)) = (many : Int) := by rw [List.length_map, hl]
  rw [Option.bind_some, isi_tt, boolM_s, notM_s, Bool.not_true, orM_f, consM_s, Option.bind_some, lenD_t, e1, bind2_s, neS_i, decide_eq_true rfl, Bool.not_true, boolM_s, ifM_f, seqM_ok, tupleM_s, forM_s, loop_ok]
  · rfl
  · intro d hd
    obtain ⟨i, hi, rfl⟩ := List.mem_map.mp hd
    rw [consM_s, fnP_num i, decide_eq_true (h0 i hi), boolM_s, notM_s, Bool.not_true, ifM_f, seqM_ok]
    cases top with
    | none => rfl
    | some t =>
      have := ht t rfl i hi
      have h2 : ¬ ((t : Int) ≤ i) := by omega
      simp [oD, h2]
theorem fnP_row (xs : List Int) (many : Nat) (top : Option Nat) (hl : xs.length = many) (h0 : ∀ i ∈ xs, 0 ≤ i) (ht : ∀ t, top = some t → ∀ i ∈ xs, i < (t : Int)) :
    fnP F_is_row 3 (some [.tuple (xs.map .int), iN many, oD top]) = some (.bool true) := fnP_ok (isRow xs many top hl h0 ht) rfl (by simp)
theorem acc_nonneg (o : Op) (ho : o.neg = false) : ∀ (ns acc : List Int), accept o acc ns → ∀ i ∈ ns, 0 ≤ i
  | [], _, _, i, hi => by cases hi
  | n :: ns, acc, h, i, hi => by
    obtain ⟨h1, h2⟩ := h
    rcases List.mem_cons.mp hi with rfl | hi
    · cases o <;> simp [Op.neg] at ho <;> simp [stand] at h1 <;> (first | omega | exact h1.1 | exact h1)
    · exact acc_nonneg o ho ns _ h2 i hi
theorem acc_lim (o : Op) (m : Nat) (ho : o.lim = some m) : ∀ (ns acc : List Int), accept o acc ns → ∀ i ∈ ns, i < (m : Int)
  | [], _, _, i, hi => by cases hi
  | n :: ns, acc, h, i, hi => by
    obtain ⟨h1, h2⟩ := h
    rcases List.mem_cons.mp hi with rfl | hi
    · cases o <;> simp [Op.lim] at ho <;> subst ho <;> simp [stand] at h1 <;> exact h1.2
    · exact acc_lim o m ho ns _ h2 i hi
theorem row_map (ns : List Int) (n r : Nat) : rowD (ns.map .int) n r = .tuple (((ns.drop (r * n)).take n).map .int) := by
  unfold rowD
  rw [List.map_take, List.map_drop]
theorem one_of {ns : List Int} (h : ns.length = 1) : ∃ a, ns = [a] := by
  match ns, h with
  | [a], _ => exact ⟨a, rfl⟩
theorem two_of {ns : List Int} (h : ns.length = 2) : ∃ a b, ns = [a, b] := by
  match ns, h with
  | [a, b], _ => exact ⟨a, b, rfl⟩
theorem isStretch (a b : Int) (h0 : 0 ≤ a) (h1 : a < b) : F_is_stretch [.tuple [.int a, .int b]] = some (.ok (.bool true)) := by
  show runM (m_is_stretch _) = _
  have h2 : 0 ≤ b := by omega
  simp [m_is_stretch, fnP_num, h0, h1, h2]
theorem a_fits (o : Op) (ho : o.ok) (x : Option (List Int)) (h : VV o x) : F_a_fits [opD o, vD o x] = some (.ok (.bool true)) := by
  cases x with
  | none =>
    obtain rfl : o = .spans := h
    show runM (m_a_fits _ _) = _
    simp [m_a_fits, opD, Op.w, Op.ps, vD, List.contains_cons]
  | some ns =>
    have hv : VOk o ns := h
    have hl := hv.len
    show runM (m_a_fits _ _) = _
    have hneg := acc_nonneg o
    have hlim := acc_lim o
    cases o
    case sum m =>
      obtain ⟨a, rfl⟩ := one_of hl
      have h0 := hneg rfl [a] [] hv.acc a (by simp)
      have h1 := hlim m rfl [a] [] hv.acc a (by simp)
      simp [m_a_fits, opD, Op.w, Op.ps, vD, shape, List.contains_cons, fnP_num, h0, h1]
    case prod m =>
      obtain ⟨a, rfl⟩ := one_of hl
      have h0 := hneg rfl [a] [] hv.acc a (by simp)
      have h1 := hlim m rfl [a] [] hv.acc a (by simp)
      simp [m_a_fits, opD, Op.w, Op.ps, vD, shape, List.contains_cons, fnP_num, h0, h1]
    case or =>
      obtain ⟨a, rfl⟩ := one_of hl
      have h0 := hneg rfl [a] [] hv.acc a (by simp)
      simp [m_a_fits, opD, Op.w, Op.ps, vD, shape, List.contains_cons, fnP_num, h0]
    case maps n =>
      have e := fnP_row ns n (some n) hl (hneg rfl ns [] hv.acc) (fun t ht i hi => by cases ht; exact hlim n rfl ns [] hv.acc i hi)
      simp [oD] at e
      simp [m_a_fits, opD, Op.w, Op.ps, vD, shape, List.contains_cons, e]
    case counts n =>
      have e := fnP_row ns n none hl (hneg rfl ns [] hv.acc) (fun t ht => by cases ht)
      simp [oD] at e
      simp [m_a_fits, opD, Op.w, Op.ps, vD, shape, List.contains_cons, e]
    case brackets =>
      have e := fnP_row ns 2 none hl (hneg rfl ns [] hv.acc) (fun t ht => by cases ht)
      have e2 : fnP F_is_row 3 (some [.tuple (ns.map .int), .int 2, .none]) = some (.bool true) := e
      simp [m_a_fits, opD, Op.w, Op.ps, vD, shape, List.contains_cons, e2]
    case spans =>
      obtain ⟨a, b, rfl⟩ := two_of hl
      have h0 := hneg rfl [a, b] [] hv.acc a (by simp)
      have h1 : a < b := by
        have := hv.acc
        simp [accept, stand] at this
        omega
      have e : fnP F_is_stretch 1 (some [.tuple [.int a, .int b]]) = some (.bool true) := fnP_ok (isStretch a b h0 h1) rfl (by simp)
      simp [m_a_fits, opD, Op.w, Op.ps, vD, shape, List.contains_cons, e]
    case grids n m =>
      have hnn : n ≤ 12 := by
        have h3 : n * n = ns.length := hl.symm
        have := hv.few
        exact Nat.le_trans (Nat.le_mul_self n) (by omega)
      have hrow : ∀ r, r < n → fnP F_is_row 3 (some [rowD (ns.map .int) n r, iN n, iN m]) = some (.bool true) := by
        intro r hr
        rw [row_map]
        have h4 : r * n + n ≤ ns.length := by
          rw [hl]
          show r * n + n ≤ n * n
          have : (r + 1) * n ≤ n * n := Nat.mul_le_mul_right n hr
          rw [Nat.succ_mul] at this; exact this
        exact fnP_row _ n (some m) (by rw [List.length_take, List.length_drop]; omega) (fun i hi => hneg rfl ns [] hv.acc i (List.mem_of_mem_drop (List.mem_of_mem_take hi)))
          (fun t ht i hi => by cases ht; exact hlim m rfl ns [] hv.acc i (List.mem_of_mem_drop (List.mem_of_mem_take hi)))
      have hlc : lcM (some ((List.range n).map (rowD (ns.map .int) n))) (fun x8 => fnP F_is_row 3 (some [x8, iN n, iN m])) = some (.list (List.replicate n (.bool true))) := by
        have hm : mapO (fun x8 => fnP F_is_row 3 (some [x8, iN n, iN m])) ((List.range n).map (rowD (ns.map .int) n)) = some (List.replicate ((List.range n).map (rowD (ns.map .int) n)).length (.bool true)) := by
          refine mapO_rep fun d hd => ?_
          obtain ⟨r, hr, rfl⟩ := List.mem_map.mp hd
          exact hrow r (List.mem_range.mp hr)
        show (if _ then (mapO _ _).map PyData.list else none) = _
        rw [if_pos (by simp; omega), hm]
        simp
      have hall : allD [.list (List.replicate n (.bool true))] = some (.bool true) := by
        show (bolsOf (List.replicate n (.bool true))).map (fun bs => PyData.bool (bs.all id)) = _
        rw [bolsOf_rep]
        simp
      simp [m_a_fits, opD, Op.w, Op.ps, vD, shape, List.contains_cons, hlc, hall]
    all_goals
      obtain ⟨a, rfl⟩ := one_of hl
      simp [m_a_fits, opD, Op.w, Op.ps, vD, shape, List.contains_cons, fnP_int]
end UT.M
end
section
set_option Elab.async false
set_option linter.all false
set_option maxRecDepth 100000
set_option maxHeartbeats 4000000
/-! plain: values written, both ways -/
namespace UT.M
open PySem PySem.Spec PyProof.Rows L2 SX
theorem fl_rows (l : List Int) (n : Nat) : ∀ k : Nat, ((List.range k).map fun r => (l.drop (r * n)).take n).flatten = l.take (k * n)
  | 0 => by simp
  | k + 1 => by
    rw [List.range_succ, List.map_append, List.flatten_append, fl_rows l n k]
    simp only [List.map_cons, List.map_nil, List.flatten_cons, List.flatten_nil, List.append_nil]
    rw [Nat.succ_mul, List.take_add]
theorem wt_num (ns : List Int) : wt (ns.map numZ) = (ns.map fun i => (numZ i).length + 1).sum := by
  unfold wt
  rw [List.map_map]
  rfl
theorem law_int (d : PyData) (b : Bool) (h1 : isiD "int" d = some (.bool b)) (h2 : isiD "bool" d = some (.bool false)) : fnP F_law_int 1 (some [d]) = some (.bool b) :=
  fnP_ok (by
    show runM (m_law_int d) = _
    cases b <;> simp [m_law_int, h1, h2]) rfl (by simp)
theorem map_nums {ns : List Int} (h : ∀ i ∈ ns, small i) : mapO (fun x2 => (consM (some x2) (some [])).bind strD) (ns.map .int) = some ((ns.map numZ).map sD) := by
  refine map_str (by simp) fun i d p hd hp => ?_
  rw [List.getElem?_map] at hd hp
  cases hn : ns[i]? with
  | none => rw [hn] at hd; cases hd
  | some n =>
    rw [hn] at hd hp
    cases hd; cases hp
    exact strD_int n (h n (List.mem_of_getElem? hn))
theorem lc_nums {ns : List Int} (hl : ns.length ≤ 60000) (h : ∀ i ∈ ns, small i) : lcM (some (ns.map .int)) (fun x2 => (consM (some x2) (some [])).bind strD) = some (.list ((ns.map numZ).map sD)) := by
  show (if (ns.map PyData.int).length ≤ 100000 then (mapO _ (ns.map PyData.int)).map PyData.list else none) = _
  rw [if_pos (by simp; omega), map_nums h]
  rfl
theorem rows_eq (ns : List Int) (n : Nat) : (List.range n).map (rowD (ns.map .int) n) = ((List.range n).map fun r => (ns.drop (r * n)).take n).map fun r => .tuple (r.map .int) := by
  rw [List.map_map]
  apply List.map_congr_left
  intro r _
  exact row_map ns n r
theorem loopF {S : Type} (f : S → PyData → S) (P : List PyData → S → Prop) {step : S → PyData → SM S} : ∀ (ds : List PyData) (s : S), P ds s → (∀ (d : PyData) (ds : List PyData) (s : S), P (d :: ds) s → step s d = some (.ok (f s d)) ∧ P ds (f s d)) → forM' step ds s = some (.ok (ds.foldl f s))
  | [], s, _, _ => rfl
  | d :: ds, s, h, hs => by
    obtain ⟨h1, h2⟩ := hs d ds s h
    rw [forM'_c, h1, seqM_ok]
    exact loopF f P ds (f s d) h2 hs
theorem foldl_snoc : ∀ (ds s : List PyData), ds.foldl (fun s d => s ++ [d]) s = s ++ ds
  | [], s => by simp
  | d :: ds, s => by rw [List.foldl_cons, foldl_snoc ds]; simp
def tupL : PyData → List PyData
  | .tuple es => es
  | _ => []
theorem foldl_flat : ∀ (rs : List (List Int)) (s : List PyData), (rs.map fun r => PyData.tuple (r.map .int)).foldl (fun s d => s ++ tupL d) s = s ++ rs.flatten.map .int
  | [], s => by simp
  | r :: rs, s => by rw [List.map_cons, List.foldl_cons, foldl_flat rs, List.flatten_cons, List.map_append, ← List.append_assoc]; rfl
theorem mapLL_rows : ∀ (rs : List (List Int)), (∀ r ∈ rs, ∀ i ∈ r, small i) → mapLL (fun d => (tupleM (some d)).bind fun es => mapO (fun y7 => (consM (some y7) (some [])).bind strD) es) (rs.map fun r => .tuple (r.map .int)) = some (rs.map fun r => (r.map numZ).map sD)
  | [], _ => rfl
  | r :: rs, h => by
    have ih := mapLL_rows rs fun q hq => h q (List.mem_cons_of_mem _ hq)
    have h1 := map_nums (h r (List.mem_cons_self ..))
    show ((tupleM (some (PyData.tuple (r.map .int)))).bind fun es => mapO _ es).bind _ = _
    rw [tupleM_s, Option.bind_some, h1, Option.bind_some]
    show ((mapLL _ (rs.map fun r => PyData.tuple (r.map .int))).bind fun es => some (_ :: es)) = _
    rw [ih]
    rfl
theorem flat_map (rs : List (List Int)) : (rs.map fun r => (r.map numZ).map sD).flatten = (rs.flatten.map numZ).map sD := by
  induction rs with
  | nil => rfl
  | cons r rs ih =>
    rw [List.map_cons, List.flatten_cons, ih, List.flatten_cons, List.map_append, List.map_append]
theorem tIsG (o : Op) : bind2 (bind2 (some (opD o)) (some (.int 0)) idx) (some (.str "grids")) eqS = some (.bool o.isGrids) := by
  cases o <;> simp [opD, Op.w, Op.isGrids]
theorem valW (o : Op) (x : Option (List Int)) (h : VV o x) : ∀ ns, x = some ns → wt (ns.map numZ) ≤ 380 ∧ ns.length ≤ 12 := by
  intro ns e
  subst e
  have hv : VOk o ns := h
  exact ⟨by rw [wt_num]; exact hv.wid, hv.few⟩
/-- the kinds of values -/
theorem shape_cases (o : Op) (ns : List Int) (h : VOk o ns) : (∃ a, ns = [a] ∧ shape o ns = .int a ∧ o.isGrids = false) ∨ (shape o ns = .tuple (ns.map .int) ∧ o.isGrids = false) ∨
    ∃ rs : List (List Int), rs.flatten = ns ∧ shape o ns = .tuple (rs.map fun r => .tuple (r.map .int)) ∧ o.isGrids = true := by
  have hl := h.len
  cases o
  case grids n m =>
    right; right
    refine ⟨(List.range n).map fun r => (ns.drop (r * n)).take n, ?_, ?_, rfl⟩
    · rw [fl_rows]
      exact List.take_of_length_le (by rw [hl]; exact Nat.le_refl _)
    · show PyData.tuple ((List.range n).map (rowD (ns.map .int) n)) = _
      rw [rows_eq]
  case maps n => exact .inr (.inl ⟨rfl, rfl⟩)
  case counts n => exact .inr (.inl ⟨rfl, rfl⟩)
  case brackets => exact .inr (.inl ⟨rfl, rfl⟩)
  case spans => exact .inr (.inl ⟨rfl, rfl⟩)
  all_goals
    obtain ⟨a, rfl⟩ := one_of hl
    exact .inl ⟨a, rfl, rfl, rfl⟩
theorem fnP_fits (o : Op) (ho : o.ok) (x : Option (List Int)) (h : VV o x) : fnP F_a_fits 2 (some [opD o, vD o x]) = some (.bool true) := fnP_ok (a_fits o ho x h) rfl (by simp)
theorem value_line (o : Op) (ho : o.ok) (x : Option (List Int)) (h : VV o x) : F_value_line [opD o, vD o x] = some (.ok (sD (valL x))) := by
  show runM (m_value_line _ _) = _
  unfold m_value_line
  rw [consM_s (opD o), fnP_isOp o ho, boolM_s, notM_s, Bool.not_true, ifM_f, seqM_ok, consM_s (vD o x), consM_s, fnP_fits o ho x h, boolM_s, notM_s, Bool.not_true, ifM_f, seqM_ok]
  cases x with
  | none =>
    show runM (seqM (ifM (boolM (bind2 (some .none) (some .none) isN)) (retM (some (.str (Str.ofString "nought")))) _) _) = _
    rw [w_nou]
    rfl
  | some ns =>
    have hv : VOk o ns := h
    obtain ⟨hw, hf⟩ := valW o (some ns) h ns rfl
    show runM (seqM (ifM (boolM (bind2 (some (shape o ns)) (some .none) isN)) _ _) _) = some (.ok (sD (TL.joinL [32] (ns.map numZ))))
    rw [tIsG]
    rcases shape_cases o ns hv with ⟨a, e1, e2, e3⟩ | ⟨e2, e3⟩ | ⟨rs, e1, e2, e3⟩
    · rw [show vD o (some ns) = shape o ns from rfl, e2, bind2_s, isN_i, boolM_s, ifM_f, seqM_ok, Option.bind_some, isi_ti, boolM_s, notM_s, Bool.not_false, ifM_t, Option.bind_some, strD_int a (hv.sm a (by rw [e1]; simp)), e1]
      rfl
    · rw [show vD o (some ns) = shape o ns from rfl, e2, e3, bind2_s, isN_t, boolM_s, ifM_f, seqM_ok, Option.bind_some, isi_tt, boolM_s, notM_s, Bool.not_true, ifM_f, seqM_ok, ifM_f, seqM_ok, tupleM_s, lc_nums (by omega) hv.sm, joinD_S _ (by omega)]
      rfl
    · have hsm : ∀ r ∈ rs, ∀ i ∈ r, small i := fun r hr i hi => hv.sm i (by rw [← e1]; exact List.mem_flatten.mpr ⟨r, hr, hi⟩)
      have hlc : lccM (tupleM (some (.tuple (rs.map fun r => .tuple (r.map .int))))) (fun x6 => tupleM (some x6)) (fun x6 y7 => (consM (some y7) (some [])).bind strD) = some (.list ((ns.map numZ).map sD)) := by
        show ((tupleM _).bind fun ds => (mapLL _ ds).bind fun ls => if ls.flatten.length ≤ 100000 then some (PyData.list ls.flatten) else none) = _
        rw [tupleM_s, Option.bind_some, mapLL_rows rs hsm, Option.bind_some, flat_map, e1, if_pos (by simp; omega)]
      rw [show vD o (some ns) = shape o ns from rfl, e2, e3, bind2_s, isN_t, boolM_s, ifM_f, seqM_ok, Option.bind_some, isi_tt, boolM_s, notM_s, Bool.not_true, ifM_f, seqM_ok, ifM_t, hlc, joinD_S _ (by omega)]
      rfl
theorem law_value_line (o : Op) (x : Option (List Int)) (h : VV o x) : F_law_value_line [vD o x] = some (.ok (sD (valL x))) := by
  show runM (m_law_value_line _) = _
  unfold m_law_value_line
  cases x with
  | none =>
    show runM (seqM (ifM (boolM (bind2 (some .none) (some .none) isN)) (retM (some (.str (Str.ofString "nought")))) _) _) = _
    rw [w_nou]
    rfl
  | some ns =>
    have hv : VOk o ns := h
    obtain ⟨hw, hf⟩ := valW o (some ns) h ns rfl
    show _ = some (Except.ok (sD (TL.joinL [32] (ns.map numZ))))
    rcases shape_cases o ns hv with ⟨a, e1, e2, e3⟩ | ⟨e2, e3⟩ | ⟨rs, e1, e2, e3⟩
    · rw [show vD o (some ns) = shape o ns from rfl, e2, bind2_s, isN_i, boolM_s, ifM_f, seqM_ok, consM_s, law_int _ true (by simp) (by simp), boolM_s, ifM_t, Option.bind_some, strD_int a (hv.sm a (by rw [e1]; simp)), e1]
      rfl
    · rw [show vD o (some ns) = shape o ns from rfl, e2, bind2_s, isN_t, boolM_s, ifM_f, seqM_ok, consM_s, law_int _ false (by simp) (by simp), boolM_s, ifM_f, seqM_ok, Option.bind_some, if_pos (show ([] : List PyData).length ≤ 100000 from Nat.zero_le _), okM_s, seqM_ok, tupleM_s, forM_s, loopF (fun s d => s ++ [d]) (fun ds s => s.length + ds.length ≤ 60000 ∧ ∀ d ∈ ds, isiD "tuple" d = some (.bool false)) _ _ ⟨by simp; omega, fun d hd => by
        obtain ⟨n, _, rfl⟩ := List.mem_map.mp hd
        simp⟩, foldl_snoc, List.nil_append, seqM_ok, listM_s, lc_nums (by omega) hv.sm, joinD_S _ (by omega)]
      · rfl
      · intro d ds s ⟨h1, h2⟩
        simp only [List.length_cons] at h1
        refine ⟨?_, by simp; omega, fun e he => h2 e (List.mem_cons_of_mem _ he)⟩
        rw [Option.bind_some, h2 d (List.mem_cons_self ..), boolM_s, ifM_f, Option.bind_some, if_pos (by omega), okM_s, seqM_ok, seqM_ok]
    · rw [show vD o (some ns) = shape o ns from rfl, e2, bind2_s, isN_t, boolM_s, ifM_f, seqM_ok, consM_s, law_int _ false (by simp) (by simp), boolM_s, ifM_f, seqM_ok, Option.bind_some, if_pos (show ([] : List PyData).length ≤ 100000 from Nat.zero_le _), okM_s, seqM_ok, tupleM_s, forM_s, loopF (fun s d => s ++ tupL d) (fun ds s => ∃ qs : List (List Int), ds = (qs.map fun r => .tuple (r.map .int)) ∧ s.length + qs.flatten.length ≤ 60000) _ _ ⟨rs, rfl, by rw [e1]; simp; omega⟩, foldl_flat, List.nil_append, e1, seqM_ok, listM_s, lc_nums (by omega) hv.sm, joinD_S _ (by omega)]
      · rfl
      · rintro d ds s ⟨qs, h1, h2⟩
        cases qs with
        | nil => cases h1
        | cons q qs =>
          rw [List.map_cons] at h1
          cases h1
          rw [List.flatten_cons, List.length_append] at h2
          refine ⟨?_, qs, rfl, by show (s ++ q.map PyData.int).length + qs.flatten.length ≤ 60000; rw [List.length_append, List.length_map]; omega⟩
          rw [Option.bind_some, isi_tt, boolM_s, ifM_t, consM_s, Option.bind_some, lstD_t, Option.bind_some]
          show seqM (seqM (okM (if s.length + (q.map PyData.int).length ≤ 100000 then _ else none)) _) _ = _
          rw [if_pos (by rw [List.length_map]; omega), okM_s, seqM_ok, seqM_ok]
          rfl
theorem val_ascii (x : Option (List Int)) : (valL x).all (· < 128) = true := by
  cases x with
  | none => decide
  | some ns => exact ascii_join _ fun p hp => by obtain ⟨i, _, rfl⟩ := List.mem_map.mp hp; exact ascii_num i
theorem val_len (o : Op) (x : Option (List Int)) (h : VV o x) : (valL x).length ≤ 400 := by
  cases x with
  | none => decide
  | some ns =>
    have := (valW o (some ns) h ns rfl).1
    exact Nat.le_trans (join_len _) (by omega)
theorem lines_val (o : Op) (ho : o.ok) (x : Option (List Int)) (h : VV o x) (pick : Nat) : F_law_lines [.tuple [.str "value_line", .str "read_value"], opD o, vD o x, sD (valL x), iN pick] = some (.ok (.bool true)) :=
  lines (rd_rv o ho) (val_ascii x) (val_len o x h) pick (call_vl (opD o) (vD o x) _ _ (value_line o ho x h) rfl) (by show lawR (rv o (valL x)) = _; rw [rv_val o ho x h]; rfl)
end UT.M
end
section
set_option Elab.async false
set_option linter.all false
set_option maxRecDepth 100000
set_option maxHeartbeats 4000000
/-! plain: asks written, both ways -/
namespace UT.M
open PySem PySem.Spec PyProof.Rows L2 SX
/-- asks in order, each above the one before -/
def AOk : Int × Int → List (Int × Int) → Prop
  | _, [] => True
  | bf, x :: xs => (0 ≤ x.1 ∧ x.1 < x.2 ∧ x.2 < 10000) ∧ le2 x bf = false ∧ AOk x xs
def asP (x : Int × Int) : List Nat := numZ x.1 ++ 45 :: numZ x.2
def asksL (xs : List (Int × Int)) : List Nat := if xs.isEmpty then [45] else TL.joinL [32] (xs.map asP)
theorem AOk.all : ∀ {bf : Int × Int} {xs : List (Int × Int)}, AOk bf xs → ∀ x ∈ xs, 0 ≤ x.1 ∧ x.1 < x.2 ∧ x.2 < 10000
  | bf, [], _, x, hx => by cases hx
  | bf, y :: ys, h, x, hx => by
    rcases List.mem_cons.mp hx with rfl | h1
    · exact h.1
    · exact AOk.all h.2.2 x h1
theorem mapO_f {α : Type} {f : PyData → Option PyData} {g h : α → PyData} : ∀ {xs : List α}, (∀ x ∈ xs, f (g x) = some (h x)) → mapO f (xs.map g) = some (xs.map h)
  | [], _ => rfl
  | x :: xs, hx => by
    rw [List.map_cons]
    show (f (g x)).bind _ = _
    rw [hx x (List.mem_cons_self ..), Option.bind_some, mapO_f fun y hy => hx y (List.mem_cons_of_mem _ hy)]
    rfl
theorem lcM_f {α : Type} {f : PyData → Option PyData} {g h : α → PyData} {xs : List α} (hl : xs.length ≤ 100000) (hx : ∀ x ∈ xs, f (g x) = some (h x)) : lcM (some (xs.map g)) f = some (.list (xs.map h)) := by
  show (if (xs.map g).length ≤ 100000 then (mapO f (xs.map g)).map PyData.list else none) = _
  rw [if_pos (by rw [List.length_map]; exact hl), mapO_f hx]
  rfl
theorem numS (i : Int) (h0 : 0 ≤ i) (h : i < 10000) : small i ∧ (numZ i).length ≤ 4 := by
  have hb : i.natAbs < 10 ^ 4 := by omega
  refine ⟨Nat.lt_of_lt_of_le hb (by decide), ?_⟩
  have := TL.numL_len (k := 4) (by decide) hb
  unfold numZ
  rw [if_neg (by omega)]
  exact this
theorem asP_len {x : Int × Int} (h : 0 ≤ x.1 ∧ x.1 < x.2 ∧ x.2 < 10000) : (asP x).length ≤ 9 := by
  have h1 := (numS x.1 h.1 (by omega)).2
  have h2 := (numS x.2 (by omega) h.2.2).2
  unfold asP
  simp
  omega
theorem wt_le {m : Nat} : ∀ {ps : List (List Nat)}, (∀ p ∈ ps, p.length ≤ m) → wt ps ≤ ps.length * (m + 1)
  | [], _ => by simp [wt]
  | p :: ps, h => by
    have h1 := h p (List.mem_cons_self ..)
    have h2 := wt_le fun q hq => h q (List.mem_cons_of_mem _ hq)
    rw [wt_cons, List.length_cons, Nat.succ_mul]
    omega
theorem asks_wt {xs : List (Int × Int)} (h : ∀ x ∈ xs, 0 ≤ x.1 ∧ x.1 < x.2 ∧ x.2 < 10000) (hl : xs.length ≤ 30) : wt (xs.map asP) ≤ 300 := by
  have := wt_le (ps := xs.map asP) (m := 9) fun p hp => by
    obtain ⟨x, hx, rfl⟩ := List.mem_map.mp hp
    exact asP_len (h x hx)
  rw [List.length_map] at this
  omega
theorem is_asks {xs : List (Int × Int)} (h : AOk (-1, -1) xs) : F_is_asks [.tuple (xs.map aD)] = some (.ok (.bool true)) := by
  show runM (m_is_asks _) = _
  unfold m_is_asks
  rw [Option.bind_some, isi_tt, boolM_s, notM_s, Bool.not_true, ifM_f, seqM_ok, show tupM (consM ((some (.int 1)).bind negI) (consM ((some (.int 1)).bind negI) (some []))) = some (aD (-1, -1)) from rfl, okM_s, seqM_ok, tupleM_s, forM_s,
    loopF (fun _ d => d) (fun ds s => ∃ (bf : Int × Int) (ys : List (Int × Int)), s = aD bf ∧ ds = ys.map aD ∧ AOk bf ys) _ _ ⟨_, _, rfl, rfl, h⟩]
  · rfl
  · rintro d ds s ⟨bf, ys, rfl, h1, h2⟩
    cases ys with
    | nil => cases h1
    | cons y ys =>
      rw [List.map_cons] at h1
      cases h1
      obtain ⟨h3, h4, h5⟩ := h2
      refine ⟨?_, y, ys, rfl, rfl, h5⟩
      have e : fnP F_is_stretch 1 (some [aD y]) = some (.bool true) := fnP_ok (isStretch y.1 y.2 h3.1 h3.2.1) rfl (by simp)
      rw [consM_s, e, boolM_s, notM_s, Bool.not_true, orM_f, bind2_s, leT_a, h4, boolM_s, ifM_f, seqM_ok, okM_s, seqM_ok]
theorem jsM_c (p acc : List Nat) (ds : List PyData) (h : acc.length + p.length ≤ 1000) : jsM (sD p :: ds) (S acc) = jsM ds (S (acc ++ p)) := by
  show (if (S acc ++ S p).length ≤ sizeLine then jsM ds (S acc ++ S p) else none) = _
  rw [S_cat, S_len, if_pos (Nat.le_trans (show (acc ++ p).length ≤ 1000 by simp; omega) (by decide))]
theorem fst_as {x : Int × Int} (h : 0 ≤ x.1 ∧ x.1 < x.2 ∧ x.2 < 10000) : fstM (consM ((some (.int x.1)).bind fmtD) (consM (some (.str "-")) (consM ((some (.int x.2)).bind fmtD) (some [])))) = some (sD (asP x)) := by
  have h1 := numS x.1 h.1 (by omega)
  have h2 := numS x.2 (by omega) h.2.2
  rw [Option.bind_some, fmtD_int _ h1.1, Option.bind_some, fmtD_int _ h2.1]
  rw [w_mi, consM_s, consM_s, consM_s]
  show ((jsM [sD (numZ x.1), sD [45], sD (numZ x.2)] (S [])).map PyData.str) = _
  rw [jsM_c _ _ _ (by simp; omega), jsM_c _ _ _ (by simp; omega), jsM_c _ _ _ (by simp; omega)]
  show some (sD _) = _
  simp [asP]
theorem asks_line {xs : List (Int × Int)} (h : AOk (-1, -1) xs) (hl : xs.length ≤ 30) : F_asks_line [.tuple (xs.map aD)] = some (.ok (sD (asksL xs))) := by
  show runM (m_asks_line _) = _
  unfold m_asks_line asksL
  rw [consM_s, fnP_ok (n := 1) (is_asks h) rfl (by simp), boolM_s, notM_s, Bool.not_true, ifM_f, seqM_ok, truM_t]
  cases xs with
  | nil =>
    show runM (seqM (ifM (some true) (retM (some (.str (Str.ofString "-")))) _) _) = _
    rw [w_mi]
    rfl
  | cons x xs =>
    rw [show ((x :: xs).map aD).isEmpty = false from rfl, show (x :: xs).isEmpty = false from rfl, Bool.not_false, notM_s, Bool.not_true, ifM_f, seqM_ok, tupleM_s, lcM_f (h := fun x => sD (asP x)) (by omega) (fun y hy => ?_)]
    · have e : (x :: xs).map (fun x => sD (asP x)) = ((x :: xs).map asP).map sD := by rw [List.map_map]; rfl
      rw [e, joinD_S _ (Nat.le_trans (asks_wt h.all hl) (by decide))]
      rfl
    · exact fst_as (h.all y hy)
theorem law_asks_line {xs : List (Int × Int)} (h : AOk (-1, -1) xs) (hl : xs.length ≤ 30) : F_law_asks_line [.tuple (xs.map aD)] = some (.ok (sD (asksL xs))) := by
  show runM (m_law_asks_line _) = _
  unfold m_law_asks_line asksL
  rw [tupleM_s, lcM_f (h := fun x => sD (asP x)) (by omega) (fun y hy => ?_)]
  · have e : xs.map (fun x => sD (asP x)) = (xs.map asP).map sD := by rw [List.map_map]; rfl
    rw [e, w_mi]
    cases xs with
    | nil => rfl
    | cons x xs =>
      have e2 : (consM (bind2 ((consM (some (PyData.tuple (List.map aD (x :: xs)))) (some [])).bind lenD) (some (PyData.int 0)) eqS) (some [])).bind int1 = some (.int 0) := by
        rw [consM_s, Option.bind_some, lenD_t, bind2_s, eqS_i, decide_eq_false (by simp; omega)]
        rfl
      rw [e2]
      have e3 : bind2 (lstM (consM (some (sD [45])) (some []))) (some (.int 0)) repL = some (.list []) := rfl
      rw [e3, bind2_s]
      have e4 : catL (.list (((x :: xs).map asP).map sD)) (.list []) = some (.list (((x :: xs).map asP).map sD)) := by
        show (if _ then some (PyData.list (_ ++ [])) else none) = _
        rw [if_pos (by simp at hl ⊢; omega), List.append_nil]
      rw [e4, joinD_S _ (Nat.le_trans (asks_wt h.all hl) (by decide))]
      rfl
  · have h1 := numS y.1 (h.all y hy).1 (by have := h.all y hy; omega)
    have h2 := numS y.2 (by have := h.all y hy; omega) (h.all y hy).2.2
    rw [bind2_s, idx_t0, bind2_s, idx_t1, consM_s, consM_s, Option.bind_some, Option.bind_some, strD_int _ h1.1, strD_int _ h2.1, w_mi, bind2_s, addS_S _ _ (by simp; omega), bind2_s, addS_S _ _ (by simp; omega)]
    simp [asP]
end UT.M
end
section
set_option Elab.async false
set_option linter.all false
set_option maxRecDepth 100000
set_option maxHeartbeats 4000000
/-! plain: asks, there and back -/
namespace UT.M
open PySem PySem.Spec PyProof.Rows L2 SX
theorem asP_no (x : Int × Int) (s : Nat) (h : s < 45 ∨ (45 < s ∧ s < 48) ∨ 57 < s) : s ∉ asP x := by
  unfold asP
  intro hm
  rcases List.mem_append.mp hm with h1 | h1
  · exact numZ_no _ s h h1
  · rcases List.mem_cons.mp h1 with h2 | h2
    · omega
    · exact numZ_no _ s h h2
theorem numZ_ne (i : Int) : numZ i ≠ [] := by
  unfold numZ
  split
  · simp
  · exact (fig_digits (fig_num _)).2
theorem strR_as {x : Int × Int} (h : 0 ≤ x.1 ∧ x.1 < x.2 ∧ x.2 < 10000) : strR (asP x) = some x := by
  obtain ⟨a, b⟩ := x
  obtain ⟨m, rfl⟩ : ∃ m : Nat, a = (m : Int) := ⟨a.toNat, by have := h.1; simp at this; omega⟩
  obtain ⟨n, rfl⟩ : ∃ n : Nat, b = (n : Int) := ⟨b.toNat, by have := h.1; have := h.2.1; simp at *; omega⟩
  have h1 : m < n := by have := h.2.1; simp at this; exact this
  unfold strR asP
  rw [numZ_nat, numZ_nat]
  have hp : TL.par [45] [] (TL.numL m ++ 45 :: TL.numL n) = some (TL.numL m, TL.numL n) := by
    have := TL.par_part1 (S := []) (acc := []) (rest := TL.numL n) (TL.numL_free (n := m) (s := 45) (by omega))
    simpa using this
  rw [hp]
  show strR2 (numR (TL.numL m)) (numR (TL.numL n)) = _
  rw [numR_num, numR_num]
  exact if_pos h1
theorem goA_as : ∀ (xs : List (Int × Int)) (k : Nat) (bf : Int × Int) (acc : List (Int × Int)), AOk bf xs → ∃ z, goA k (xs.map asP) bf acc = .ok (acc ++ xs, z)
  | [], k, bf, acc, _ => ⟨bf, by simp [goA]⟩
  | x :: xs, k, bf, acc, h => by
    obtain ⟨z, hz⟩ := goA_as xs (k + 1) x (acc ++ [x]) h.2.2
    refine ⟨z, ?_⟩
    rw [List.map_cons]
    unfold goA
    rw [strR_as h.1]
    show (if le2 x bf = true then _ else _) = _
    rw [h.2.1, if_neg (by decide), hz, List.append_assoc]
    rfl
theorem ra_as {xs : List (Int × Int)} (h : AOk (-1, -1) xs) : ra (asksL xs) = .ok (.tuple (xs.map aD)) := by
  cases xs with
  | nil => rfl
  | cons x xs =>
    have e : sp (asksL (x :: xs)) = (x :: xs).map asP := sp_join (by simp) fun p hp => by
      obtain ⟨y, _, rfl⟩ := List.mem_map.mp hp
      exact asP_no y 32 (by omega)
    unfold ra
    rw [e]
    have hne : ¬ ((x :: xs).map asP).head? = some [45] := by
      intro hc
      have h2 : asP x = [45] := by simpa using hc
      have h3 := congrArg List.length h2
      have h4 := List.length_pos_iff.mpr (numZ_ne x.1)
      unfold asP at h3
      simp at h3
      omega
    rw [if_neg hne]
    obtain ⟨z, hz⟩ := goA_as (x :: xs) 0 (-1, -1) [] h
    rw [hz]
    rfl
theorem asks_ascii (xs : List (Int × Int)) : (asksL xs).all (· < 128) = true := by
  unfold asksL
  split
  · decide
  · refine ascii_join _ fun p hp => ?_
    obtain ⟨y, _, rfl⟩ := List.mem_map.mp hp
    unfold asP
    rw [List.all_append, List.all_cons, ascii_num, ascii_num]
    rfl
theorem asks_len {xs : List (Int × Int)} (h : AOk (-1, -1) xs) (hl : xs.length ≤ 30) : (asksL xs).length ≤ 400 := by
  unfold asksL
  split
  · decide
  · have h1 := join_len (xs.map asP)
    have h2 := asks_wt h.all hl
    omega
theorem lines_asks {xs : List (Int × Int)} (h : AOk (-1, -1) xs) (hl : xs.length ≤ 30) (op : PyData) (pick : Nat) : F_law_lines [.tuple [.str "asks_line", .str "read_asks"], op, .tuple (xs.map aD), sD (asksL xs), iN pick] = some (.ok (.bool true)) :=
  lines (rd_ra op) (asks_ascii xs) (asks_len h hl) pick (call_al op (.tuple (xs.map aD)) _ _ (asks_line h hl) rfl) (by show lawR (ra (asksL xs)) = _; rw [ra_as h]; rfl)
end UT.M
end
section
set_option Elab.async false
set_option linter.all false
set_option maxRecDepth 100000
set_option maxHeartbeats 4000000
/-! plain: a history written, both ways -/
namespace UT.M
open PySem PySem.Spec PyProof.Rows L2 SX
def HOk : Nat → List Ev → Prop
  | _, [] => True
  | i, .ask :: es => HOk i es
  | i, .put n :: es => (1 ≤ n ∧ n < 10000) ∧ HOk (i + n) es
  | i, .drop n :: es => (1 ≤ n ∧ n < 10000) ∧ n ≤ i ∧ HOk (i - n) es
def evP : Ev → List Nat
  | .ask => wAsk
  | .put n => wPut ++ 32 :: numZ (n : Int)
  | .drop n => wDrop ++ 32 :: numZ (n : Int)
def histL (es : List Ev) : List Nat := if es.isEmpty then [45] else TL.joinL [59, 32] (es.map evP)
theorem loopEx {S T : Type} {R : SM T → Prop} (P : List PyData → S → Prop) {step : S → PyData → SM S} {f : S → SM T} : ∀ (ds : List PyData) (s : S), P ds s → (∀ (d : PyData) (ds : List PyData) (s : S), P (d :: ds) s → ∃ s', step s d = some (.ok s') ∧ P ds s') → (∀ s, P [] s → R (f s)) → R (seqM (forM' step ds s) f)
  | [], s, h, _, hr => hr s h
  | d :: ds, s, h, hs, hr => by
    obtain ⟨s', h1, h2⟩ := hs d ds s h
    rw [forM'_c, h1, seqM_ok]
    exact loopEx P ds s' h2 hs hr
theorem is_move (e : Ev) (h : ∀ n, e = .put n ∨ e = .drop n → 1 ≤ n) : fnP F_is_move 1 (some [evD e]) = some (.bool true) := by
  refine fnP_ok (n := 1) ?_ rfl (by simp)
  show runM (m_is_move (evD e)) = _
  cases e with
  | ask => simp [m_is_move, evD]
  | put n =>
    have h1 := h n (.inl rfl)
    have h2 : (1 : Int) ≤ (n : Int) := by omega
    simp [m_is_move, evD, ninT, strsOf, fnP_int, h2]
  | drop n =>
    have h1 := h n (.inr rfl)
    have h2 : (1 : Int) ≤ (n : Int) := by omega
    simp [m_is_move, evD, ninT, strsOf, fnP_int, h2]
theorem HOk.pos {i : Nat} {e : Ev} {es : List Ev} (h : HOk i (e :: es)) : ∀ n, e = .put n ∨ e = .drop n → 1 ≤ n := by
  intro n hn
  rcases hn with rfl | rfl
  · exact h.1.1
  · exact h.1.1
theorem lets_history {es : List Ev} (h : HOk 0 es) : ∃ d, F_lets_history [.tuple (es.map evD)] = some (.ok d) := by
  show ∃ d, runM (m_lets_history _) = _
  unfold m_lets_history
  rw [Option.bind_some, isi_tt, boolM_s, notM_s, Bool.not_true, ifM_f, seqM_ok, okM_s, seqM_ok, consM_s, show enumTM (some [.tuple (es.map evD)]) = some (enumFrom 0 (es.map evD)) from rfl, forM_s]
  refine loopEx (R := fun z => ∃ d, runM z = some (.ok d)) (fun ds s => ∃ (k i : Nat) (fs : List Ev), s = iN i ∧ ds = enumFrom k (fs.map evD) ∧ HOk i fs) _ _ ⟨0, 0, es, rfl, rfl, h⟩ ?_ ?_
  · rintro d ds s ⟨k, i, fs, rfl, h1, h2⟩
    cases fs with
    | nil => cases h1
    | cons e fs =>
      rw [List.map_cons, enumFrom_c] at h1
      cases h1
      rw [pairM_s, consM_s, is_move e h2.pos, boolM_s, notM_s, Bool.not_true, ifM_f, seqM_ok]
      cases e with
      | ask => exact ⟨iN i, by simp [evD], k + 1, i, fs, rfl, rfl, h2⟩
      | put n => exact ⟨iN (i + n), by simp [evD], k + 1, i + n, fs, rfl, rfl, h2.2⟩
      | drop n =>
        have h3 : ¬ ((i : Int) < (n : Int)) := by have := h2.2.1; omega
        refine ⟨iN (i - n), ?_, k + 1, i - n, fs, rfl, rfl, h2.2.2⟩
        have h4 : (i : Int) - (n : Int) = ((i - n : Nat) : Int) := by have := h2.2.1; omega
        simp [evD, h3, h4, ifM_n]
  · intro s _
    exact ⟨s, rfl⟩
theorem is_history {es : List Ev} (h : HOk 0 es) : F_is_history [.tuple (es.map evD)] = some (.ok (.bool true)) := by
  obtain ⟨d, hd⟩ := lets_history h
  show (F_lets_history [.tuple (es.map evD)]).bind _ = _
  rw [hd]
  rfl
theorem HOk.lt : ∀ {i : Nat} {es : List Ev}, HOk i es → ∀ e ∈ es, ∀ n, e = .put n ∨ e = .drop n → n < 10000
  | i, [], _, x, hx => by cases hx
  | i, .ask :: ys, h, x, hx => by
    rcases List.mem_cons.mp hx with rfl | h1
    · rintro n (h2 | h2) <;> cases h2
    · exact HOk.lt (i := i) (es := ys) h x h1
  | i, .put m :: ys, h, x, hx => by
    rcases List.mem_cons.mp hx with rfl | h1
    · rintro n (h2 | h2) <;> cases h2
      exact h.1.2
    · exact HOk.lt h.2 x h1
  | i, .drop m :: ys, h, x, hx => by
    rcases List.mem_cons.mp hx with rfl | h1
    · rintro n (h2 | h2) <;> cases h2
      exact h.1.2
    · exact HOk.lt h.2.2 x h1
theorem lc_two (p : List Nat) (n : Nat) (h : small (n : Int)) : lcM (some [sD p, iN n]) (fun x4 => (consM (some x4) (some [])).bind strD) = some (.list ([p, numZ (n : Int)].map sD)) := by
  show (if [sD p, iN n].length ≤ 100000 then (mapO _ [sD p, iN n]).map PyData.list else none) = _
  rw [if_pos (by simp)]
  simp only [mapO, consM_s, Option.bind_some, strD_s, strD_int _ h]
  rfl
theorem ev_line {e : Ev} (h : ∀ n, e = .put n ∨ e = .drop n → n < 10000) : bind2 (some (.str (Str.ofString " "))) (lcM (tupleM (some (evD e))) (fun x4 => (consM (some x4) (some [])).bind strD)) joinD = some (sD (evP e)) ∧ (evP e).length ≤ 9 := by
  cases e with
  | ask => exact ⟨by
      show bind2 _ (lcM (some [.str (Str.ofString "ask")]) _) joinD = _
      rw [w_ask]
      exact joinD_S [wAsk] (by decide), by decide⟩
  | put n =>
    have h1 := numS (n : Int) (by omega) (by have := h n (.inl rfl); omega)
    refine ⟨?_, by show (wPut ++ 32 :: numZ (n : Int)).length ≤ 9; rw [List.length_append, List.length_cons]; have := h1.2; show 3 + _ ≤ 9; omega⟩
    show bind2 _ (lcM (some [.str (Str.ofString "put"), iN n]) _) joinD = _
    rw [w_put]
    rw [lc_two wPut n h1.1]
    exact joinD_S [wPut, numZ (n : Int)] (by have := h1.2; simp [wt, wPut]; omega)
  | drop n =>
    have h1 := numS (n : Int) (by omega) (by have := h n (.inr rfl); omega)
    refine ⟨?_, by show (wDrop ++ 32 :: numZ (n : Int)).length ≤ 9; rw [List.length_append, List.length_cons]; have := h1.2; show 4 + _ ≤ 9; omega⟩
    show bind2 _ (lcM (some [.str (Str.ofString "drop"), iN n]) _) joinD = _
    rw [w_drop]
    rw [lc_two wDrop n h1.1]
    exact joinD_S [wDrop, numZ (n : Int)] (by have := h1.2; simp [wt, wDrop]; omega)
def wt2 (row : List (List Nat)) : Nat := (row.map fun p => p.length + 2).sum
theorem w_sc : Str.ofString "; " = S [59, 32] := S_of _ _ rfl
theorem join2_len : ∀ row : List (List Nat), (TL.joinL [59, 32] row).length ≤ wt2 row
  | [] => Nat.zero_le _
  | [p] => by simp [TL.joinL, wt2]
  | p :: q :: r => by
    have ih := join2_len (q :: r)
    have e : TL.joinL [59, 32] (p :: q :: r) = p ++ [59, 32] ++ TL.joinL [59, 32] (q :: r) := by simp [TL.joinL]
    have e2 : wt2 (p :: q :: r) = p.length + 2 + wt2 (q :: r) := by simp [wt2]
    rw [e, e2, List.length_append, List.length_append]
    simp only [List.length_cons, List.length_nil]
    omega
theorem join2D (ps : List (List Nat)) (h : wt2 ps ≤ 100000) : bind2 (some (.str (Str.ofString "; "))) (some (.list (ps.map sD))) joinD = some (sD (TL.joinL [59, 32] ps)) := by
  rw [w_sc, bind2_s]
  show ((strsOf (ps.map sD)).bind fun ys => if (ys.map (·.length)).sum + ys.length * (S [59, 32]).length ≤ 16777216 then some (PyData.str (Txt.join (S [59, 32]) ys)) else none) = _
  rw [strsOf_S, Option.bind_some, lens, List.length_map, S_len]
  have e : ∀ m : List (List Nat), (m.map (·.length)).sum + m.length * [59, 32].length = wt2 m := by
    intro m
    induction m with
    | nil => rfl
    | cons p m ih =>
      have e2 : wt2 (p :: m) = p.length + 2 + wt2 m := by simp [wt2]
      rw [e2, ← ih]; simp; omega
  rw [e, if_pos (by omega), join_S]
theorem wt2_le {m : Nat} : ∀ {ps : List (List Nat)}, (∀ p ∈ ps, p.length ≤ m) → wt2 ps ≤ ps.length * (m + 2)
  | [], _ => by simp [wt2]
  | p :: ps, h => by
    have h1 := h p (List.mem_cons_self ..)
    have h2 := wt2_le fun q hq => h q (List.mem_cons_of_mem _ hq)
    have e2 : wt2 (p :: ps) = p.length + 2 + wt2 ps := by simp [wt2]
    rw [e2, List.length_cons, Nat.succ_mul]
    omega
theorem hist_wt {es : List Ev} (h : HOk 0 es) (hl : es.length ≤ 30) : wt2 (es.map evP) ≤ 350 := by
  have := wt2_le (ps := es.map evP) (m := 9) fun p hp => by
    obtain ⟨x, hx, rfl⟩ := List.mem_map.mp hp
    exact (ev_line (h.lt x hx)).2
  rw [List.length_map] at this
  omega
theorem history_line {es : List Ev} (h : HOk 0 es) (hl : es.length ≤ 30) : F_history_line [.tuple (es.map evD)] = some (.ok (sD (histL es))) := by
  show runM (m_history_line _) = _
  unfold m_history_line histL
  rw [consM_s, fnP_ok (n := 1) (is_history h) rfl (by simp), boolM_s, notM_s, Bool.not_true, ifM_f, seqM_ok, truM_t]
  cases es with
  | nil =>
    show runM (seqM (ifM (some true) (retM (some (.str (Str.ofString "-")))) _) _) = _
    rw [w_mi]
    rfl
  | cons x xs =>
    rw [show ((x :: xs).map evD).isEmpty = false from rfl, show (x :: xs).isEmpty = false from rfl, Bool.not_false, notM_s, Bool.not_true, ifM_f, seqM_ok, tupleM_s, lcM_f (h := fun x => sD (evP x)) (by omega) (fun y hy => (ev_line (h.lt y hy)).1)]
    have e : (x :: xs).map (fun x => sD (evP x)) = ((x :: xs).map evP).map sD := by rw [List.map_map]; rfl
    rw [e, join2D _ (Nat.le_trans (hist_wt h hl) (by decide))]
    rfl
def evS (d : PyData) : PyData := ((bind2 (some (.str (Str.ofString " "))) (lcM (tupleM (some d)) (fun x4 => (consM (some x4) (some [])).bind strD)) joinD)).getD .none
theorem foldl_map (f : PyData → PyData) : ∀ (ds s : List PyData), ds.foldl (fun s d => s ++ [f d]) s = s ++ ds.map f
  | [], s => by simp
  | d :: ds, s => by rw [List.foldl_cons, foldl_map f ds]; simp
theorem evS_ev {e : Ev} (h : ∀ n, e = .put n ∨ e = .drop n → n < 10000) : evS (evD e) = sD (evP e) := by
  unfold evS
  rw [(ev_line h).1]
  rfl
theorem law_history_line {es : List Ev} (h : HOk 0 es) (hl : es.length ≤ 30) : F_law_history_line [.tuple (es.map evD)] = some (.ok (sD (histL es))) := by
  show runM (m_law_history_line _) = _
  unfold m_law_history_line histL
  rw [Option.bind_some, if_pos (show ([] : List PyData).length ≤ 100000 from Nat.zero_le _), okM_s, seqM_ok, tupleM_s, forM_s,
    loopF (fun s d => s ++ [evS d]) (fun ds s => s.length + ds.length ≤ 60000 ∧ ∃ fs : List Ev, ds = fs.map evD ∧ ∀ e ∈ fs, ∀ n, e = .put n ∨ e = .drop n → n < 10000) _ _ ⟨by simp; omega, es, rfl, h.lt⟩, foldl_map, List.nil_append, seqM_ok]
  · have e : (es.map evD).map evS = (es.map evP).map sD := by
      rw [List.map_map, List.map_map]
      exact List.map_congr_left fun e he => evS_ev (h.lt e he)
    rw [e, w_mi]
    cases es with
    | nil => rfl
    | cons x xs =>
      have e2 : (consM (bind2 ((consM (some (PyData.list (((x :: xs).map evP).map sD))) (some [])).bind lenD) (some (PyData.int 0)) eqS) (some [])).bind int1 = some (.int 0) := by
        rw [consM_s, Option.bind_some, lenD_l, bind2_s, eqS_i, decide_eq_false (by simp; omega)]
        rfl
      rw [e2]
      have e3 : bind2 (lstM (consM (some (sD [45])) (some []))) (some (.int 0)) repL = some (.list []) := rfl
      rw [e3, bind2_s (.list _) (.list []) catL]
      have e4 : catL (.list (((x :: xs).map evP).map sD)) (.list []) = some (.list (((x :: xs).map evP).map sD)) := by
        show (if _ then some (PyData.list (_ ++ [])) else none) = _
        rw [if_pos (by simp at hl ⊢; omega), List.append_nil]
      rw [e4, join2D _ (Nat.le_trans (hist_wt h hl) (by decide))]
      rfl
  · rintro d ds s ⟨h1, fs, h2, h3⟩
    cases fs with
    | nil => cases h2
    | cons e fs =>
      rw [List.map_cons] at h2
      cases h2
      rw [List.length_cons] at h1
      refine ⟨?_, by rw [List.length_append]; simp only [List.length_cons, List.length_nil]; omega, fs, rfl, fun e he => h3 e (List.mem_cons_of_mem _ he)⟩
      have h4 := h3 e (List.mem_cons_self ..)
      rw [(ev_line h4).1, Option.bind_some, if_pos (by omega), okM_s, seqM_ok, evS_ev h4]
end UT.M
end
section
set_option Elab.async false
set_option linter.all false
set_option maxRecDepth 100000
set_option maxHeartbeats 4000000
/-! plain: a history, there and back -/
namespace UT.M
open PySem PySem.Spec PyProof.Rows L2 SX
/-- the parts of one event; a sign ; behind the last where another follows -/
def ep (g : Bool) : Ev → List (List Nat)
  | .ask => [if g then wAskS else wAsk]
  | .put n => [wPut, TL.numL n ++ (if g then [59] else [])]
  | .drop n => [wDrop, TL.numL n ++ (if g then [59] else [])]
def hp : List Ev → List (List Nat)
  | [] => []
  | [e] => ep false e
  | e :: f :: r => ep true e ++ hp (f :: r)
theorem sp_lone {p : List Nat} (h : 32 ∉ p) : sp p = [p] := by
  have := sp_join (ps := [p]) (by simp) (by simpa using h)
  simpa [TL.joinL] using this
theorem num_no (n s : Nat) (h : s < 48 ∨ 57 < s) : s ∉ TL.numL n := TL.numL_free (by omega)
theorem sp_ev (e : Ev) : sp (evP e) = ep false e ∧ sp (evP e ++ [59]) = ep true e := by
  cases e with
  | ask => exact ⟨sp_lone (by decide), sp_lone (by decide)⟩
  | put n =>
    rw [show evP (.put n) = wPut ++ 32 :: numZ (n : Int) from rfl, numZ_nat, List.append_assoc, List.cons_append]
    rw [sp_app, sp_app, sp_lone (by decide : 32 ∉ wPut), sp_lone (num_no n 32 (by omega)), sp_lone (p := TL.numL n ++ [59]) (by
      intro hm
      rcases List.mem_append.mp hm with h1 | h1
      · exact num_no n 32 (by omega) h1
      · simp at h1)]
    exact ⟨by simp [ep], by simp [ep]⟩
  | drop n =>
    rw [show evP (.drop n) = wDrop ++ 32 :: numZ (n : Int) from rfl, numZ_nat, List.append_assoc, List.cons_append]
    rw [sp_app, sp_app, sp_lone (by decide : 32 ∉ wDrop), sp_lone (num_no n 32 (by omega)), sp_lone (p := TL.numL n ++ [59]) (by
      intro hm
      rcases List.mem_append.mp hm with h1 | h1
      · exact num_no n 32 (by omega) h1
      · simp at h1)]
    exact ⟨by simp [ep], by simp [ep]⟩
theorem sp_hist : ∀ (e : Ev) (es : List Ev), sp (TL.joinL [59, 32] ((e :: es).map evP)) = hp (e :: es)
  | e, [] => by
    show sp (TL.joinL [59, 32] [evP e]) = ep false e
    rw [← (sp_ev e).1]
    simp [TL.joinL]
  | e, f :: r => by
    have ih := sp_hist f r
    have e1 : TL.joinL [59, 32] ((e :: f :: r).map evP) = (evP e ++ [59]) ++ 32 :: TL.joinL [59, 32] ((f :: r).map evP) := by simp [TL.joinL]
    rw [e1, sp_app, ih, (sp_ev e).2]
    rfl
theorem rms_num (n : Nat) (g : Bool) : rms (TL.numL n ++ (if g then [59] else [])) = TL.numL n ∧ ends (TL.numL n ++ (if g then [59] else [])) = g := by
  cases g with
  | true =>
    have e : ends (TL.numL n ++ [59]) = true := by simp [ends]
    refine ⟨?_, e⟩
    show rms (TL.numL n ++ [59]) = _
    unfold rms
    rw [if_pos e, List.dropLast_concat]
  | false =>
    have e : ends (TL.numL n) = false := by
      unfold ends
      refine decide_eq_false fun h => ?_
      exact num_no n 59 (by omega) (List.mem_of_getLast? h)
    show rms (TL.numL n ++ []) = _ ∧ ends (TL.numL n ++ []) = false
    rw [List.append_nil]
    refine ⟨?_, e⟩
    unfold rms
    rw [e, if_neg (by decide)]
theorem evR_two (k i n : Nat) (p q : List Nat) (rest : List (List Nat)) (h1 : p ≠ wAsk) (h2 : p ≠ wAskS) (h3 : p = wPut ∨ (p = wDrop ∧ i ≠ 0)) (h4 : numR (rms q) = some n) (h5 : ¬ (n = 0 ∨ (p = wDrop ∧ i < n))) :
    evR k (p :: q :: rest) i = .ok (if p = wDrop then .drop n else .put n, 2, ends q) := by
  show (if p = wAsk then _ else if p = wAskS then _ else if p = wPut ∨ (p = wDrop ∧ i ≠ 0) then (match numR (rms q) with
        | none => Except.error (k + 1)
        | some n => if n = 0 ∨ (p = wDrop ∧ i < n) then Except.error (k + 1) else Except.ok (if p = wDrop then Ev.drop n else Ev.put n, 2, ends q)) else _) = _
  rw [if_neg h1, if_neg h2, if_pos h3, h4]
  exact if_neg h5
theorem evR_ep {i : Nat} {e : Ev} {es : List Ev} (h : HOk i (e :: es)) (k : Nat) (g : Bool) (rest : List (List Nat)) : evR k (ep g e ++ rest) i = .ok (e, (ep g e).length, g) := by
  cases e with
  | ask => cases g <;> simp [ep, evR, wAsk, wAskS]
  | put n =>
    obtain ⟨h1, h2⟩ := rms_num n g
    have hn : ¬ (n = 0 ∨ (wPut = wDrop ∧ i < n)) := by
      rintro (hc | ⟨hc, _⟩)
      · have := h.1.1; omega
      · exact absurd hc (by decide)
    show evR k (wPut :: (TL.numL n ++ (if g then [59] else [])) :: rest) i = _
    rw [evR_two k i n wPut _ rest (by decide) (by decide) (.inl rfl) (by rw [h1, numR_num]) hn, h2, if_neg (by decide)]
    rfl
  | drop n =>
    obtain ⟨h1, h2⟩ := rms_num n g
    have h3 : 1 ≤ n := h.1.1
    have h4 : n ≤ i := h.2.1
    have hn : ¬ (n = 0 ∨ (wDrop = wDrop ∧ i < n)) := by
      rintro (hc | ⟨_, hc⟩) <;> omega
    show evR k (wDrop :: (TL.numL n ++ (if g then [59] else [])) :: rest) i = _
    rw [evR_two k i n wDrop _ rest (by decide) (by decide) (.inr ⟨rfl, by omega⟩) (by rw [h1, numR_num]) hn, h2, if_pos rfl]
    rfl
theorem HOk.next {i : Nat} {e : Ev} {es : List Ev} (h : HOk i (e :: es)) : HOk (e.go i) es := by
  cases e with
  | ask => exact h
  | put n => exact h.2
  | drop n => exact h.2.2
theorem ep_pos (g : Bool) (e : Ev) : 1 ≤ (ep g e).length := by cases e <;> simp [ep]
theorem goH_hp : ∀ (es : List Ev) (e : Ev) (f k i : Nat) (acc : List Ev), HOk i (e :: es) → (hp (e :: es)).length < f → ∃ j, goH f k (hp (e :: es)) i acc = .ok (acc ++ e :: es, j, k + (hp (e :: es)).length)
  | [], e, f, k, i, acc, h, hf => by
    cases f with
    | zero => exact absurd hf (Nat.not_lt_zero _)
    | succ f =>
      refine ⟨e.go i, ?_⟩
      have := evR_ep h k false []
      rw [List.append_nil] at this
      show goH (f + 1) k (ep false e) i acc = _
      unfold goH
      rw [this]
      rfl
  | e2 :: es, e, f, k, i, acc, h, hf => by
    cases f with
    | zero => exact absurd hf (Nat.not_lt_zero _)
    | succ f =>
      have hl : (hp (e :: e2 :: es)).length = (ep true e).length + (hp (e2 :: es)).length := by
        show (ep true e ++ hp (e2 :: es)).length = _
        rw [List.length_append]
      have := ep_pos true e
      obtain ⟨j, hj⟩ := goH_hp es e2 f (k + (ep true e).length) (e.go i) (acc ++ [e]) h.next (by omega)
      refine ⟨j, ?_⟩
      show goH (f + 1) k (ep true e ++ hp (e2 :: es)) i acc = _
      unfold goH
      rw [evR_ep h k true]
      show (if true = true then goH f (k + (ep true e).length) ((ep true e ++ hp (e2 :: es)).drop (ep true e).length) (e.go i) (acc ++ [e]) else _) = _
      rw [if_pos rfl, List.drop_left, hj, hl, List.append_assoc, Nat.add_assoc]
      rfl
theorem rh_hist {es : List Ev} (h : HOk 0 es) : rh (histL es) = .ok (.tuple (es.map evD)) := by
  cases es with
  | nil => rfl
  | cons e es =>
    have e1 : sp (histL (e :: es)) = hp (e :: es) := sp_hist e es
    unfold rh
    rw [e1]
    have hne : ¬ (hp (e :: es)).head? = some [45] := by
      have : ∀ (g : Bool) (r : List (List Nat)), ¬ (ep g e ++ r).head? = some [45] := by
        intro g r
        cases e <;> cases g <;> simp [ep, wAsk, wAskS, wPut, wDrop]
      cases es with
      | nil => have := this false []; rw [List.append_nil] at this; exact this
      | cons f r => exact this true _
    rw [if_neg hne]
    obtain ⟨j, hj⟩ := goH_hp es e ((hp (e :: es)).length + 1) 0 0 [] h (Nat.lt_succ_self _)
    rw [hj]
    show (if 0 + (hp (e :: es)).length < (hp (e :: es)).length then _ else _) = _
    rw [if_neg (by omega)]
    rfl
theorem ascii_join2 : ∀ ps : List (List Nat), (∀ p ∈ ps, p.all (· < 128) = true) → (TL.joinL [59, 32] ps).all (· < 128) = true
  | [], _ => rfl
  | [p], h => by simpa [TL.joinL] using h p (by simp)
  | p :: q :: r, h => by
    have ih := ascii_join2 (q :: r) fun x hx => h x (List.mem_cons_of_mem _ hx)
    have e : TL.joinL [59, 32] (p :: q :: r) = p ++ [59, 32] ++ TL.joinL [59, 32] (q :: r) := by simp [TL.joinL]
    rw [e, List.all_append, List.all_append, ih, h p (List.mem_cons_self ..)]
    rfl
theorem hist_ascii (es : List Ev) : (histL es).all (· < 128) = true := by
  unfold histL
  split
  · decide
  · refine ascii_join2 _ fun p hp => ?_
    obtain ⟨e, _, rfl⟩ := List.mem_map.mp hp
    cases e with
    | ask => decide
    | put n =>
      unfold evP
      rw [List.all_append, List.all_cons, ascii_num]
      decide
    | drop n =>
      unfold evP
      rw [List.all_append, List.all_cons, ascii_num]
      decide
theorem hist_len {es : List Ev} (h : HOk 0 es) (hl : es.length ≤ 30) : (histL es).length ≤ 400 := by
  unfold histL
  split
  · decide
  · have h1 := join2_len (es.map evP)
    have h2 := hist_wt h hl
    omega
theorem lines_hist {es : List Ev} (h : HOk 0 es) (hl : es.length ≤ 30) (op : PyData) (pick : Nat) : F_law_lines [.tuple [.str "history_line", .str "read_history"], op, .tuple (es.map evD), sD (histL es), iN pick] = some (.ok (.bool true)) :=
  lines (rd_rh op) (hist_ascii es) (hist_len h hl) pick (call_hl op (.tuple (es.map evD)) _ _ (history_line h hl) rfl) (by show lawR (rh (histL es)) = _; rw [rh_hist h]; rfl)
end UT.M
end
section
set_option Elab.async false
set_option linter.all false
set_option maxRecDepth 100000
set_option maxHeartbeats 4000000
/-! plain: the numbers of a script -/
namespace UT.M
open PySem PySem.Spec PyProof.Rows L2 SX
def scD (ns : List Int) : PyData := .dict (ns.map fun i => (.none, .int i))
theorem seqEx {S T : Type} {R : SM T → Prop} (P : S → Prop) {m : SM S} {f : S → SM T} (h : ∃ s, m = some (.ok s) ∧ P s) (h2 : ∀ s, P s → R (f s)) : R (seqM m f) := by
  obtain ⟨s, e, hs⟩ := h
  rw [e, seqM_ok]
  exact h2 s hs
def Bel : List Nat → List Nat → Prop
  | [], [] => True
  | o :: os, b :: bs => o < b ∧ Bel os bs
  | _, _ => False
theorem Bel.snoc : ∀ {os bs : List Nat} {o b : Nat}, Bel os bs → o < b → Bel (os ++ [o]) (bs ++ [b])
  | [], [], o, b, _, h => ⟨h, trivial⟩
  | [], _ :: _, _, _, h, _ => h.elim
  | _ :: _, [], _, _, h, _ => h.elim
  | x :: os, y :: bs, o, b, h, h2 => ⟨h.1, Bel.snoc h.2 h2⟩
theorem Bel.len : ∀ {os bs : List Nat}, Bel os bs → os.length = bs.length
  | [], [], _ => rfl
  | [], _ :: _, h => h.elim
  | _ :: _, [], h => h.elim
  | x :: os, y :: bs, h => by rw [List.length_cons, List.length_cons, Bel.len h.2]
theorem fmod_nat (i : Int) (b : Nat) (h : 1 ≤ b) : ∃ o : Nat, o < b ∧ modI (.int i) (iN b) = some (iN o) := by
  refine ⟨(i.fmod b).toNat, ?_, ?_⟩
  · have := Int.fmod_lt_of_pos i (show (0 : Int) < (b : Int) by omega)
    have := Int.fmod_nonneg_of_pos i (show (0 : Int) < (b : Int) by omega)
    omega
  · rw [modI_s, if_pos (by omega)]
    have := Int.fmod_nonneg_of_pos i (show (0 : Int) < (b : Int) by omega)
    show some (PyData.int (i.fmod b)) = some (PyData.int (((i.fmod b).toNat : Nat) : Int))
    rw [Int.toNat_of_nonneg this]
theorem lin (s m c : Int) (hm : m.natAbs < 2 ^ 64) : bind2 (bind2 (some (.int s)) (some (.int m)) mulI) (some (.int c)) addI = some (.int (s * m + c)) := by
  rw [bind2_s, mulI_s, if_pos (.inr hm)]
  rfl
theorem law_nums (ns : List Int) (a : Nat) (bs : List Nat) (hb : ∀ b ∈ bs, 1 ≤ b ∧ b ≤ 1000000) (hl : bs.length ≤ 60000) :
    ∃ out : List Nat, F_law_nums [scD ns, iN a, .list (bs.map iN)] = some (.ok (.list (out.map iN))) ∧ Bel out bs := by
  show ∃ out : List Nat, runM (m_law_nums _ _ _) = some (.ok (.list (out.map iN))) ∧ Bel out bs
  unfold m_law_nums
  have e1 : (consM (some (scD ns)) (some [])).bind lenD = some (iN ns.length) := by
    show some (PyData.int (ns.map fun i => ((PyData.none, PyData.int i) : PyData × PyData)).length) = _
    rw [List.length_map]
  rw [okM_s, seqM_ok, e1, bind2_s, ltI_s, boolM_s]
  let R : SM Unit → Prop := fun z => ∃ out : List Nat, runM z = some (.ok (.list (out.map iN))) ∧ Bel out bs
  refine seqEx (R := R) (fun s => ∃ v, s = PyData.int v) ?_ ?_
  · by_cases h : (a : Int) < (ns.length : Int)
    · rw [ifM_y h]
      have ha : a < ns.length := by omega
      have e2 : idx (scD ns) (iN a) = some (.int (ns[a]'ha)) := by
        show (atI (ns.map fun i => ((PyData.none, PyData.int i) : PyData × PyData)) (a : Int)).map (·.2) = _
        rw [atI_nat, List.getElem?_map, List.getElem?_eq_getElem ha]
        rfl
      exact ⟨_, by rw [bind2_s, e2, okM_s, seqM_ok], _, rfl⟩
    · rw [ifM_n h]
      exact ⟨_, rfl, _, rfl⟩
  rintro _ ⟨v, rfl⟩
  rw [bind2_s, ltI_s, boolM_s]
  refine seqEx (R := R) (fun s => ∃ v, s = PyData.int v) ?_ ?_
  · by_cases h : v < 0
    · rw [ifM_y h]
      refine ⟨.int (7 - 5 * v), ?_, _, rfl⟩
      rw [bind2_s (.int 5), mulI_s, if_pos (.inl (by decide)), bind2_s, subI_s, okM_s, seqM_ok]
    · rw [ifM_n h]
      exact ⟨_, rfl, _, rfl⟩
  rintro _ ⟨v, rfl⟩
  rw [bind2_s (.int 17), mulI_s, if_pos (.inl (by decide)), bind2_s (.int 5501), addI_s, okM_s, seqM_ok]
  rw [show listM (some (scD ns)) = some (ns.map .int) by
    show some ((ns.map fun i => ((PyData.none, PyData.int i) : PyData × PyData)).map (·.2)) = _
    rw [List.map_map]; rfl, forM_s]
  refine loopEx (R := R) (fun ds s => (∃ v, s = PyData.int v) ∧ ∃ ms : List Int, ds = ms.map .int) _ _ ⟨⟨_, rfl⟩, ns, rfl⟩ ?_ ?_
  · rintro d ds _ ⟨⟨w, rfl⟩, ms, h⟩
    cases ms with
    | nil => cases h
    | cons m ms =>
      rw [List.map_cons] at h
      cases h
      obtain ⟨o, _, ho⟩ := fmod_nat (w * 6007 + m) 999999937 (by decide)
      refine ⟨iN o, ?_, ⟨_, rfl⟩, ms, rfl⟩
      rw [lin w 6007 m (by decide), consM_s, Option.bind_some, int1_i, bind2_s, show (.int 999999937 : PyData) = iN 999999937 from rfl, ho, okM_s, seqM_ok]
  rintro _ ⟨⟨w, rfl⟩, _⟩
  rw [bind2_s, geI_s, okM_s, seqM_ok, bind2_s, mulI_s, if_pos (.inr (by decide)), bind2_s, mulI_s, if_pos (.inr (by decide)), bind2_s, addI_s, bind2_s, mulI_s, if_pos (.inr (by decide)), bind2_s, addI_s, bind2_s, addI_s, consM_s, Option.bind_some, int1_i]
  obtain ⟨o, _, ho⟩ := fmod_nat (w * 433 + v * 101 + (a : Int) * 30011 + 13) 2147483549 (by decide)
  rw [bind2_s, show (.int 2147483549 : PyData) = iN 2147483549 from rfl, ho, okM_s, seqM_ok, Option.bind_some, if_pos (show ([] : List PyData).length ≤ 100000 from Nat.zero_le _), okM_s, seqM_ok, listM_s, forM_s]
  refine loopEx (R := R) (fun ds s => ∃ (done rest out : List Nat) (p q : Int), ds = rest.map iN ∧ done ++ rest = bs ∧ s = (out.map iN, .int p, .int q) ∧ Bel out done) _ _ ⟨[], bs, [], v, o, rfl, rfl, rfl, trivial⟩ ?_ ?_
  · rintro d ds _ ⟨done, rest, out, p, q, h1, h2, rfl, h3⟩
    cases rest with
    | nil => cases h1
    | cons b rest =>
      rw [List.map_cons] at h1
      cases h1
      have hbb := hb b (by rw [← h2]; simp)
      have hlen : (out.map iN).length < 100000 := by
        have := h3.len
        have h4 := congrArg List.length h2
        rw [List.length_append, List.length_cons] at h4
        rw [List.length_map]; omega
      have key : ∀ o' : Nat, o' < b → ∀ p' q' : Int, ∃ (done rest' out' : List Nat) (p q : Int), rest.map iN = rest'.map iN ∧ done ++ rest' = bs ∧ (out.map iN ++ [iN o'], PyData.int p', PyData.int q') = (out'.map iN, PyData.int p, PyData.int q) ∧ Bel out' done := fun o' ho' p' q' =>
        ⟨done ++ [b], rest, out ++ [o'], p', q', rfl, by rw [List.append_assoc]; exact h2, by rw [List.map_append]; rfl, h3.snoc ho'⟩
      dsimp only
      rw [boolM_s, bind2_s (.int p), gtI_s, boolM_s]
      have hc : andM (some (decide ((1000000000000000000 : Int) ≤ v))) (some (decide ((0 : Int) < p))) = some (decide ((1000000000000000000 : Int) ≤ v ∧ 0 < p)) := by
        by_cases x : (1000000000000000000 : Int) ≤ v <;> simp [x]
      rw [hc]
      by_cases h : (1000000000000000000 : Int) ≤ v ∧ 0 < p
      · rw [ifM_y h]
        obtain ⟨o', ho', e'⟩ := fmod_nat p b hbb.1
        refine ⟨(out.map iN ++ [iN o'], .int (p.fdiv b), .int q), ?_, key _ ho' _ _⟩
        rw [consM_s, Option.bind_some, int1_i, bind2_s, e', Option.bind_some, if_pos hlen, okM_s, seqM_ok, bind2_s, fdivI_s, if_pos ⟨by omega, by rw [Int.natAbs_natCast]; omega⟩, okM_s, seqM_ok, seqM_ok]
      · rw [ifM_n h]
        obtain ⟨o1, _, e1⟩ := fmod_nat (q * 742938285 + 3001) 2147483549 (by decide)
        obtain ⟨o', ho', e'⟩ := fmod_nat ((o1 : Int).fdiv 103) b hbb.1
        refine ⟨(out.map iN ++ [iN o'], .int p, iN o1), ?_, key _ ho' _ _⟩
        rw [lin q 742938285 3001 (by decide), consM_s, Option.bind_some, int1_i, bind2_s, e1, okM_s, seqM_ok, bind2_s, fdivI_s, if_pos ⟨by decide, by decide⟩, consM_s, Option.bind_some, int1_i, bind2_s, e', Option.bind_some, if_pos hlen, okM_s, seqM_ok, seqM_ok]
  · rintro _ ⟨done, rest, out, p, q, h1, h2, rfl, h3⟩
    cases rest with
    | cons b rest => cases h1
    | nil =>
      rw [List.append_nil] at h2
      subst h2
      exact ⟨out, rfl, h3⟩
end UT.M
end
section
set_option Elab.async false
set_option linter.all false
set_option maxRecDepth 100000
set_option maxHeartbeats 4000000
/-! plain: an operation from numbers -/
namespace UT.M
open PySem PySem.Spec PyProof.Rows L2 SX
/-- what the law draws -/
def Op.dr : Op → Prop
  | .maps n => n ≤ 8 | .grids n _ => n ≤ 3 | .counts n => n ≤ 12 | _ => True
theorem pick (l : List Nat) (b : Nat) (h : b < l.length) : idx (.tuple (l.map iN)) (iN b) = some (iN (l[b]'h)) := by
  rw [idx_t, List.getElem?_map, List.getElem?_eq_getElem h]
  rfl
theorem pickL (l : List Nat) (b : Nat) (h : b < l.length) : idx (.list (l.map iN)) (iN b) = some (iN (l[b]'h)) := by
  rw [idx_l, List.getElem?_map, List.getElem?_eq_getElem h]
  rfl
theorem words12 : bind2 (some (.tuple [.str "sum", .str "product", .str "maps", .str "grids", .str "spans", .str "brackets"])) (some (.tuple [.str "most", .str "least", .str "first", .str "last", .str "or", .str "counts"])) catT =
    some (.tuple [.str "sum", .str "product", .str "maps", .str "grids", .str "spans", .str "brackets", .str "most", .str "least", .str "first", .str "last", .str "or", .str "counts"]) := rfl
theorem law_operation (a b c d : Nat) (ha : a < 12) (hb : b < 6) (hc : c < 6) (hd : d < 1000000) : ∃ o : Op, F_law_operation [.list ([a, b, c, d].map iN)] = some (.ok (opD o)) ∧ o.ok ∧ o.dr := by
  have i0 : bind2 (some (.list ([a, b, c, d].map iN))) (some (.int 0)) idx = some (iN a) := idx_l0 (iN a) [iN b, iN c, iN d]
  have i1 : bind2 (some (.list ([a, b, c, d].map iN))) (some (.int 1)) idx = some (iN b) := idx_l1 (iN a) (iN b) [iN c, iN d]
  have i2 : bind2 (some (.list ([a, b, c, d].map iN))) (some (.int 2)) idx = some (iN c) := idx_l2 (iN a) (iN b) (iN c) [iN d]
  have i3 : bind2 (some (.list ([a, b, c, d].map iN))) (some (.int 3)) idx = some (iN d) := idx_l3 (iN a) (iN b) (iN c) (iN d) []
  have s3 : bind2 (some (.int 1000000000000)) (some (iN d)) subI = some (iN (1000000000000 - d)) := by
    show some (PyData.int ((1000000000000 : Int) - (d : Int))) = some (PyData.int ((1000000000000 - d : Nat) : Int))
    congr 2
    omega
  have a1 : bind2 (some (iN b)) (some (.int 1)) addI = some (iN (b + 1)) := rfl
  have p1 := pick [1, 2, 3, 4, 2, 8] b hb
  have p2 := pick [1, 2, 3, 2, 2, 1] b hb
  have p3 := pick [1, 2, 3, 10, 6, 1000000000000 - d] c hc
  have p4 := pick [1, 2, 3, 5, 8, 12] b hb
  have q1 : ∀ n ∈ [1, 2, 3, 4, 2, 8], 1 ≤ n ∧ n ≤ 8 := by decide
  have q2 : ∀ n ∈ [1, 2, 3, 2, 2, 1], 1 ≤ n ∧ n ≤ 3 := by decide
  have q3 : ∀ n ∈ [1, 2, 3, 10, 6, 1000000000000 - d], 1 ≤ n ∧ n ≤ 1000000000000 := by
    intro n hn
    simp only [List.mem_cons, List.not_mem_nil, or_false] at hn
    omega
  have q4 : ∀ n ∈ [1, 2, 3, 5, 8, 12], 1 ≤ n ∧ n ≤ 12 := by decide
  have r1 := q1 _ (List.getElem_mem hb)
  have r2 := q2 _ (List.getElem_mem hb)
  have r3 := q3 _ (List.getElem_mem hc)
  have r4 := q4 _ (List.getElem_mem hb)
  generalize [1, 2, 3, 4, 2, 8][b]'hb = x1 at p1 r1
  generalize [1, 2, 3, 2, 2, 1][b]'hb = x2 at p2 r2
  generalize [1, 2, 3, 10, 6, 1000000000000 - d][c]'hc = x3 at p3 r3
  generalize [1, 2, 3, 5, 8, 12][b]'hb = x4 at p4 r4
  have t1 : bind2 (tupM (consM (some (.int 1)) (consM (some (.int 2)) (consM (some (.int 3)) (consM (some (.int 4)) (consM (some (.int 2)) (consM (some (.int 8)) (some [])))))))) (some (iN b)) idx = some (iN x1) := p1
  have t2 : bind2 (tupM (consM (some (.int 1)) (consM (some (.int 2)) (consM (some (.int 3)) (consM (some (.int 2)) (consM (some (.int 2)) (consM (some (.int 1)) (some [])))))))) (some (iN b)) idx = some (iN x2) := p2
  have t3 : bind2 (tupM (consM (some (.int 1)) (consM (some (.int 2)) (consM (some (.int 3)) (consM (some (.int 10)) (consM (some (.int 6)) (consM (some (iN (1000000000000 - d))) (some [])))))))) (some (iN c)) idx = some (iN x3) := p3
  have t4 : bind2 (tupM (consM (some (.int 1)) (consM (some (.int 2)) (consM (some (.int 3)) (consM (some (.int 5)) (consM (some (.int 8)) (consM (some (.int 12)) (some [])))))))) (some (iN b)) idx = some (iN x4) := p4
  show ∃ o : Op, runM (m_law_operation _) = _ ∧ _
  unfold m_law_operation
  rw [show tupM (consM (some (.str "sum")) (consM (some (.str "product")) (consM (some (.str "maps")) (consM (some (.str "grids")) (consM (some (.str "spans")) (consM (some (.str "brackets")) (some []))))))) = some (.tuple [.str "sum", .str "product", .str "maps", .str "grids", .str "spans", .str "brackets"]) from rfl, okM_s, seqM_ok,
    show tupM (consM (some (.str "most")) (consM (some (.str "least")) (consM (some (.str "first")) (consM (some (.str "last")) (consM (some (.str "or")) (consM (some (.str "counts")) (some []))))))) = some (.tuple [.str "most", .str "least", .str "first", .str "last", .str "or", .str "counts"]) from rfl, okM_s, seqM_ok, words12]
  simp only [i0, i1, i2, i3, s3, a1, t1, t2, t3, t4]
  have hcs : a = 0 ∨ a = 1 ∨ a = 2 ∨ a = 3 ∨ a = 4 ∨ a = 5 ∨ a = 6 ∨ a = 7 ∨ a = 8 ∨ a = 9 ∨ a = 10 ∨ a = 11 := by omega
  have sumok : ∀ n : Nat, n ≤ 1000000000000 → 1 ≤ n → (Op.sum n).ok := fun n h1 h2 m hm => by
    simp [Op.ps] at hm; subst hm; exact ⟨h2, h1⟩
  have one : ∀ (n x : Nat), 1 ≤ n → n ≤ 1000000000000 → x ∈ [n] → 1 ≤ x ∧ x ≤ 1000000000000 := fun n x h1 h2 hm => by
    simp at hm; subst hm; exact ⟨h1, h2⟩
  have nil : ∀ x : Nat, x ∈ ([] : List Nat) → 1 ≤ x ∧ x ≤ 1000000000000 := fun x hx => by cases hx
  rcases hcs with rfl | rfl | rfl | rfl | rfl | rfl | rfl | rfl | rfl | rfl | rfl | rfl
  · by_cases hz : c = 0
    · refine ⟨.sum (1000000000000 - d), ?_, fun x hx => one _ x (by omega) (by omega) hx, trivial⟩
      subst hz
      rfl
    · refine ⟨.sum (b + 1), ?_, fun x hx => one _ x (by omega) (by omega) hx, trivial⟩
      have hz2 : eqS (iN c) (.int 0) = some (.bool false) := by rw [eqS_i, decide_eq_false (by omega)]
      simp [hz2, idx_t0]
      rfl
  · by_cases hz : c = 0
    · refine ⟨.prod (1000000000000 - d), ?_, fun x hx => one _ x (by omega) (by omega) hx, trivial⟩
      subst hz
      rfl
    · refine ⟨.prod (b + 1), ?_, fun x hx => one _ x (by omega) (by omega) hx, trivial⟩
      have hz2 : eqS (iN c) (.int 0) = some (.bool false) := by rw [eqS_i, decide_eq_false (by omega)]
      simp [hz2, idx_t1]
      rfl
  · exact ⟨.maps x1, rfl, fun x hx => one _ x r1.1 (by omega) hx, r1.2⟩
  · refine ⟨.grids x2 x3, rfl, fun x hx => ?_, r2.2⟩
    simp only [Op.ps, List.mem_cons, List.not_mem_nil, or_false] at hx
    omega
  · exact ⟨.spans, rfl, fun x hx => nil x hx, trivial⟩
  · exact ⟨.brackets, rfl, fun x hx => nil x hx, trivial⟩
  · exact ⟨.most, rfl, fun x hx => nil x hx, trivial⟩
  · exact ⟨.least, rfl, fun x hx => nil x hx, trivial⟩
  · exact ⟨.first, rfl, fun x hx => nil x hx, trivial⟩
  · exact ⟨.last, rfl, fun x hx => nil x hx, trivial⟩
  · exact ⟨.or, rfl, fun x hx => nil x hx, trivial⟩
  · exact ⟨.counts x4, rfl, fun x hx => one _ x r4.1 (by omega) hx, r4.2⟩
theorem pow12 : bind2 (some (.int 10)) (some (.int 12)) powI = some (iN 1000000000000) := rfl
theorem pow24 : bind2 (some (.int 10)) (some (.int 24)) powI = some (iN 1000000000000000000000000) := rfl
theorem mulN (a b : Nat) (h : a < 18446744073709551616) : mulI (iN a) (iN b) = some (iN (a * b)) := by
  rw [mulI_s, if_pos (.inl (by rw [Int.natAbs_natCast]; omega))]
  show some (PyData.int ((a : Int) * (b : Int))) = some (PyData.int ((a * b : Nat) : Int))
  rw [Int.natCast_mul]
theorem addN (a b : Nat) : addI (iN a) (iN b) = some (iN (a + b)) := by
  rw [addI_s]
  show some (PyData.int ((a : Int) + (b : Int))) = some (PyData.int ((a + b : Nat) : Int))
  rw [Int.natCast_add]
theorem i1 (a : Nat) : (consM (some (iN a)) (some [])).bind int1 = some (iN a) := rfl
/-- one number of at most 30 figures -/
theorem law_number (ns : List Nat) (k : Nat) (hl : ns.length = 10) (hk : k < 9) (hn : ∀ n ∈ ns, n < 100000) : ∃ v : Nat, fnP F_law_number 2 (some [.list (ns.map iN), iN k]) = some (iN v) ∧ v < 10 ^ 29 := by
  suffices h : ∃ v : Nat, F_law_number [.list (ns.map iN), iN k] = some (.ok (iN v)) ∧ v < 10 ^ 29 by
    obtain ⟨v, h1, h2⟩ := h
    exact ⟨v, fnP_ok h1 rfl (by simp), h2⟩
  have m1 : (k + 1) % 9 < 9 := Nat.mod_lt _ (by decide)
  have m2 : (k + 2) % 9 < 9 := Nat.mod_lt _ (by decide)
  have k1 : (k + 1) % 9 < ns.length := by omega
  have k2 : (k + 2) % 9 < ns.length := by omega
  have k0 : k < ns.length := by omega
  have k9 : 9 < ns.length := by omega
  have p1 := pickL ns _ k1
  have p2 := pickL ns _ k2
  have p0 := pickL ns _ k0
  have p9 := pickL ns _ k9
  have h1 := hn _ (List.getElem_mem k1)
  have h2 := hn _ (List.getElem_mem k2)
  have h0 := hn _ (List.getElem_mem k0)
  generalize ns[(k + 1) % 9]'k1 = x1 at p1 h1
  generalize ns[(k + 2) % 9]'k2 = x2 at p2 h2
  generalize ns[k]'k0 = x0 at p0 h0
  generalize ns[9]'k9 = x9 at p9
  have e1 : bind2 (some (iN k)) (some (.int 1)) addI = some (iN (k + 1)) := rfl
  have e2 : bind2 (some (iN k)) (some (.int 2)) addI = some (iN (k + 2)) := rfl
  have q1 : modI (iN (k + 1)) (.int 9) = some (iN ((k + 1) % 9)) := mod_nat (k + 1) 9 (by decide)
  have q2 : modI (iN (k + 2)) (.int 9) = some (iN ((k + 2) % 9)) := mod_nat (k + 2) 9 (by decide)
  have q5 : modI (iN x0) (.int 5) = some (iN (x0 % 5)) := mod_nat x0 5 (by decide)
  have p9' : idx (.list (ns.map iN)) (.int 9) = some (iN x9) := p9
  show ∃ v : Nat, runM (m_law_number _ _) = _ ∧ _
  unfold m_law_number
  rw [e1, e2, i1, i1, bind2_s (iN (k + 1)), q1, bind2_s (iN (k + 2)), q2, bind2_s (.list _) (iN ((k + 1) % 9)), p1, bind2_s (.list _) (iN ((k + 2) % 9)), p2, pow12, bind2_s (iN x1), mulN _ _ (by omega), bind2_s, addN, okM_s, seqM_ok,
    bind2_s (.list _) (iN k), p0, i1, bind2_s (iN x0), q5, pow24, bind2_s (iN x0), mulN _ _ (by omega), bind2_s (iN _) (iN _) addI, addN, bind2_s (.list _) (.int 9), p9', bind2_s (iN x9), eqS_i, consM_s (.bool _), Option.bind_some, int1_b]
  have hv : x0 * 1000000000000000000000000 + (x1 * 1000000000000 + x2) < 10 ^ 29 := by omega
  have hw : x0 % 5 < 10 ^ 29 := by
    have := Nat.mod_lt x0 (show 0 < 5 by decide)
    omega
  generalize x0 * 1000000000000000000000000 + (x1 * 1000000000000 + x2) = v at hv
  generalize x0 % 5 = w at hw
  by_cases h3 : (x9 : Int) = 3
  · rw [decide_eq_true h3]
    exact ⟨v, rfl, hv⟩
  · rw [decide_eq_false h3]
    exact ⟨w, rfl, hw⟩
end UT.M
end
section
set_option Elab.async false
set_option linter.all false
set_option maxRecDepth 100000
set_option maxHeartbeats 4000000
/-! plain: a value from numbers -/
namespace UT.M
open PySem PySem.Spec PyProof.Rows L2 SX
theorem accept_all (o : Op) : ∀ (ns acc : List Int), (∀ n ∈ ns, ∀ acc, stand o acc n = true) → accept o acc ns
  | [], _, _ => trivial
  | n :: ns, acc, h => ⟨h n (List.mem_cons_self ..) acc, accept_all o ns _ fun m hm => h m (List.mem_cons_of_mem _ hm)⟩
theorem num30 (i : Int) (h : i.natAbs < 10 ^ 30) : small i ∧ (numZ i).length ≤ 31 ∧ (0 ≤ i → (numZ i).length ≤ 30) := by
  have := TL.numL_len (k := 30) (by decide) h
  refine ⟨Nat.lt_of_lt_of_le h (by decide), ?_, fun h0 => ?_⟩
  · unfold numZ
    split
    · simp; omega
    · omega
  · unfold numZ
    rw [if_neg (by omega)]
    exact this
theorem mkV {o : Op} {ns : List Int} (len : ns.length = o.many) (few : ns.length ≤ 12) (h : ∀ i ∈ ns, i.natAbs < 10 ^ 30) (h0 : (∀ i ∈ ns, 0 ≤ i) ∨ ns.length ≤ 11) (acc : accept o [] ns) : VOk o ns where
  len := len
  few := few
  sm := fun i hi => (num30 i (h i hi)).1
  wid := by
    have hs := wt_num ns
    rcases h0 with h0 | h0
    · have := wt_le (ps := ns.map numZ) (m := 30) fun p hp => by
        obtain ⟨i, hi, rfl⟩ := List.mem_map.mp hp
        exact (num30 i (h i hi)).2.2 (h0 i hi)
      rw [List.length_map] at this
      omega
    · have := wt_le (ps := ns.map numZ) (m := 31) fun p hp => by
        obtain ⟨i, hi, rfl⟩ := List.mem_map.mp hp
        exact (num30 i (h i hi)).2.1
      rw [List.length_map] at this
      omega
  acc := acc
/-- a row of small numbers -/
theorem mkN {o : Op} {ns : List Nat} (len : ns.length = o.many) (few : ns.length ≤ 12) (h : ∀ i ∈ ns, i < 10 ^ 30) (acc : ∀ n ∈ ns, ∀ acc, stand o acc (n : Int) = true) : VOk o (ns.map fun (n : Nat) => (n : Int)) :=
  mkV (by rw [List.length_map]; exact len) (by rw [List.length_map]; exact few) (fun i hi => by
    obtain ⟨n, hn, rfl⟩ := List.mem_map.mp hi
    rw [Int.natAbs_natCast]; exact h n hn) (.inl fun i hi => by
    obtain ⟨n, hn, rfl⟩ := List.mem_map.mp hi
    omega) (accept_all o _ _ fun i hi a => by
    obtain ⟨n, hn, rfl⟩ := List.mem_map.mp hi
    exact acc n hn a)
theorem lc_range {f : PyData → Option PyData} {g : Nat → Nat} (n : Nat) (hn : n ≤ 60000) (h : ∀ r, r < n → f (iN r) = some (iN (g r))) : lcM (rng1M (some [iN n])) f = some (.list (((List.range n).map g).map iN)) := by
  rw [rng1_s n (by omega), rngL_map, lcM_f (h := fun r => iN (g r)) (by simp; omega) fun r hr => h r (List.mem_range.mp hr), List.map_map]
  rfl
section
variable (ns : List Nat) (hl : ns.length = 10) (hn : ∀ n ∈ ns, n < 100000)
include hl hn
theorem num_k (k : Nat) (hk : k < 9) : ∃ v : Nat, fnP F_law_number 2 (consM (some (.list (ns.map iN))) (consM (some (iN k)) (some []))) = some (iN v) ∧ v < 10 ^ 29 := law_number ns k hl hk hn
theorem at_k (k : Nat) (hk : k < 10) : ∃ x : Nat, bind2 (some (.list (ns.map iN))) (some (iN k)) idx = some (iN x) ∧ x < 100000 :=
  ⟨ns[k]'(by omega), pickL ns k (by omega), hn _ (List.getElem_mem _)⟩
theorem v_mod (m : Nat) (hm : 1 ≤ m) (o : Op) (h1 : bind2 (some (opD o)) (some (.int 1)) idx = some (iN m)) : ∃ v : Nat, v < m ∧ bind2 ((consM (bind2 (bind2 (bind2 (some (.list (ns.map iN))) (some (.int 0)) idx) (some (.int 10000033)) mulI) (bind2 (some (.list (ns.map iN))) (some (.int 1)) idx) addI) (some [])).bind int1) (bind2 (some (opD o)) (some (.int 1)) idx) modI = some (iN v) := by
  obtain ⟨a, ha, ha2⟩ := at_k ns hl hn 0 (by decide)
  obtain ⟨b, hb, _⟩ := at_k ns hl hn 1 (by decide)
  have ha' : bind2 (some (.list (ns.map iN))) (some (.int 0)) idx = some (iN a) := ha
  have hb' : bind2 (some (.list (ns.map iN))) (some (.int 1)) idx = some (iN b) := hb
  refine ⟨(a * 10000033 + b) % m, Nat.mod_lt _ (by omega), ?_⟩
  have e : mulI (iN a) (.int 10000033) = some (iN (a * 10000033)) := mulN a 10000033 (by omega)
  rw [ha', hb', h1, bind2_s (iN a), e, bind2_s (iN _) (iN b), addN, i1, bind2_s, mod_nat _ _ (by omega)]
theorem v_sum (m : Nat) (hm : 1 ≤ m ∧ m ≤ 1000000000000) : ∃ x, F_law_value [opD (.sum m), .list (ns.map iN)] = some (.ok (vD (.sum m) x)) ∧ VV (.sum m) x := by
  obtain ⟨v, hv, e⟩ := v_mod ns hl hn m hm.1 (.sum m) rfl
  refine ⟨some [(v : Int)], ?_, mkN (ns := [v]) rfl (by simp) (fun i hi => by simp at hi; omega) (fun n hn acc => by
    simp at hn; subst hn; simp [stand, hv])⟩
  show runM (m_law_value _ _) = _
  unfold m_law_value
  rw [e]
  rfl
theorem v_prod (m : Nat) (hm : 1 ≤ m ∧ m ≤ 1000000000000) : ∃ x, F_law_value [opD (.prod m), .list (ns.map iN)] = some (.ok (vD (.prod m) x)) ∧ VV (.prod m) x := by
  obtain ⟨v, hv, e⟩ := v_mod ns hl hn m hm.1 (.prod m) rfl
  refine ⟨some [(v : Int)], ?_, mkN (ns := [v]) rfl (by simp) (fun i hi => by simp at hi; omega) (fun n hn acc => by
    simp at hn; subst hn; simp [stand, hv])⟩
  show runM (m_law_value _ _) = _
  unfold m_law_value
  rw [e]
  rfl
theorem v_or : ∃ x, F_law_value [opD .or, .list (ns.map iN)] = some (.ok (vD .or x)) ∧ VV .or x := by
  obtain ⟨v, e, hv⟩ := num_k ns hl hn 0 (by decide)
  refine ⟨some [(v : Int)], ?_, mkN (ns := [v]) rfl (by simp) (fun i hi => by simp at hi; omega) (fun n hn acc => by simp [stand])⟩
  have e' : fnP F_law_number 2 (consM (some (.list (ns.map iN))) (consM (some (.int 0)) (some []))) = some (iN v) := e
  show runM (m_law_value _ _) = _
  unfold m_law_value
  rw [e']
  rfl
theorem v_brackets : ∃ x, F_law_value [opD .brackets, .list (ns.map iN)] = some (.ok (vD .brackets x)) ∧ VV .brackets x := by
  obtain ⟨v, e, hv⟩ := num_k ns hl hn 0 (by decide)
  obtain ⟨u, e2, hu⟩ := num_k ns hl hn 4 (by decide)
  refine ⟨some [(v : Int), (u : Int)], ?_, mkN (ns := [v, u]) rfl (by simp) (fun i hi => by simp at hi; omega) (fun n hn acc => by simp [stand])⟩
  have e' : fnP F_law_number 2 (consM (some (.list (ns.map iN))) (consM (some (.int 0)) (some []))) = some (iN v) := e
  have e2' : fnP F_law_number 2 (consM (some (.list (ns.map iN))) (consM (some (.int 4)) (some []))) = some (iN u) := e2
  show runM (m_law_value _ _) = _
  unfold m_law_value
  rw [e', e2']
  rfl
theorem v_maps (n : Nat) (h1 : 1 ≤ n) (h8 : n ≤ 8) : ∃ x, F_law_value [opD (.maps n), .list (ns.map iN)] = some (.ok (vD (.maps n) x)) ∧ VV (.maps n) x := by
  have e : lcM (rng1M (consM (bind2 (some (opD (.maps n))) (some (.int 1)) idx) (some []))) (fun x5 => bind2 ((consM (bind2 (some (.list (ns.map iN))) (some x5) idx) (some [])).bind int1) (bind2 (some (opD (.maps n))) (some (.int 1)) idx) modI) = some (.list (((List.range n).map fun r => ns.getD r 0 % n).map iN)) := by
    refine lc_range n (by omega) fun r hr => ?_
    have hr2 : r < ns.length := by omega
    rw [bind2_s, pickL ns r hr2, i1, show bind2 (some (opD (.maps n))) (some (.int 1)) idx = some (iN n) from rfl, bind2_s, mod_nat _ _ (by omega)]
    simp [List.getD_eq_getElem?_getD, List.getElem?_eq_getElem hr2]
  refine ⟨some (((List.range n).map fun r => ns.getD r 0 % n).map fun (n : Nat) => (n : Int)), ?_, mkN (by simp [Op.many]) (by simp; omega) (fun i hi => ?_) (fun i hi acc => ?_)⟩
  · show runM (m_law_value _ _) = _
    unfold m_law_value
    rw [e, show vD (.maps n) (some (((List.range n).map fun r => ns.getD r 0 % n).map fun (n : Nat) => (n : Int))) = .tuple (((List.range n).map fun r => ns.getD r 0 % n).map iN) by
      show PyData.tuple ((((List.range n).map fun r => ns.getD r 0 % n).map fun (n : Nat) => (n : Int)).map .int) = _
      rw [List.map_map]; rfl]
    rfl
  · obtain ⟨r, _, rfl⟩ := List.mem_map.mp hi
    have := Nat.mod_lt (ns.getD r 0) (show 0 < n by omega)
    omega
  · obtain ⟨r, _, rfl⟩ := List.mem_map.mp hi
    have := Nat.mod_lt (ns.getD r 0) (show 0 < n by omega)
    generalize ns.getD r 0 % n = z at this
    simp [stand]
    omega
theorem v_counts (n : Nat) (h1 : 1 ≤ n) (h8 : n ≤ 12) : ∃ x, F_law_value [opD (.counts n), .list (ns.map iN)] = some (.ok (vD (.counts n) x)) ∧ VV (.counts n) x := by
  have hc : ∀ r : Nat, ∃ v : Nat, fnP F_law_number 2 (consM (some (.list (ns.map iN))) (consM (some (iN (r % 9))) (some []))) = some (iN v) ∧ v < 10 ^ 29 := fun r => num_k ns hl hn (r % 9) (Nat.mod_lt _ (by decide))
  obtain ⟨g, hg⟩ := Classical.axiomOfChoice hc
  have e : lcM (rng1M (consM (bind2 (some (opD (.counts n))) (some (.int 1)) idx) (some []))) (fun x14 => fnP F_law_number 2 (consM (some (.list (ns.map iN))) (consM (bind2 ((consM (some x14) (some [])).bind int1) (some (.int 9)) modI) (some [])))) = some (.list (((List.range n).map g).map iN)) := by
    refine lc_range n (by omega) fun r hr => ?_
    rw [i1, bind2_s, show modI (iN r) (.int 9) = some (iN (r % 9)) from mod_nat r 9 (by decide)]
    exact (hg r).1
  refine ⟨some (((List.range n).map g).map fun (n : Nat) => (n : Int)), ?_, mkN (by simp [Op.many]) (by simp; omega) (fun i hi => ?_) (fun i hi acc => by simp [stand])⟩
  · show runM (m_law_value _ _) = _
    unfold m_law_value
    rw [e, show vD (.counts n) (some (((List.range n).map g).map fun (n : Nat) => (n : Int))) = .tuple (((List.range n).map g).map iN) by
      show PyData.tuple ((((List.range n).map g).map fun (n : Nat) => (n : Int)).map .int) = _
      rw [List.map_map]; rfl]
    rfl
  · obtain ⟨r, _, rfl⟩ := List.mem_map.mp hi
    have := (hg r).2
    omega
theorem v_spans : ∃ x, F_law_value [opD .spans, .list (ns.map iN)] = some (.ok (vD .spans x)) ∧ VV .spans x := by
  obtain ⟨v, e, hv⟩ := num_k ns hl hn 0 (by decide)
  obtain ⟨a, ha, _⟩ := at_k ns hl hn 8 (by decide)
  obtain ⟨b, hb, _⟩ := at_k ns hl hn 5 (by decide)
  have e' : fnP F_law_number 2 (consM (some (.list (ns.map iN))) (consM (some (.int 0)) (some []))) = some (iN v) := e
  have ha' : bind2 (some (.list (ns.map iN))) (some (.int 8)) idx = some (iN a) := ha
  have hb' : bind2 (some (.list (ns.map iN))) (some (.int 5)) idx = some (iN b) := hb
  have e7 : bind2 ((consM (bind2 (some (.list (ns.map iN))) (some (.int 8)) idx) (some [])).bind int1) (some (.int 7)) modI = some (iN (a % 7)) := by
    rw [ha', i1, bind2_s]; exact mod_nat a 7 (by decide)
  have e3 : bind2 ((consM (bind2 (some (.list (ns.map iN))) (some (.int 5)) idx) (some [])).bind int1) (some (.int 3)) modI = some (iN (b % 3)) := by
    rw [hb', i1, bind2_s]; exact mod_nat b 3 (by decide)
  by_cases hz : a % 7 = 0
  · refine ⟨none, ?_, rfl⟩
    show runM (m_law_value _ _) = _
    unfold m_law_value
    rw [e7, hz]
    rfl
  · have e8 : boolM (bind2 (some (iN (a % 7))) (some (.int 0)) eqS) = some false := by
      rw [bind2_s, eqS_i, decide_eq_false (by omega)]; rfl
    have e9 : bind2 (bind2 (some (iN v)) (some (.int 1)) addI) (some (iN (b % 3))) addI = some (iN (v + 1 + b % 3)) := by
      rw [bind2_s (iN v), show addI (iN v) (.int 1) = some (iN (v + 1)) from rfl, bind2_s, addN]
    have hb3 := Nat.mod_lt b (show 0 < 3 by decide)
    have hu : v + 1 + b % 3 < 10 ^ 30 := by omega
    have hlt : v < v + 1 + b % 3 := by omega
    generalize v + 1 + b % 3 = u at e9 hu hlt
    refine ⟨some [(v : Int), (u : Int)], ?_, mkV rfl (by simp) (fun i hi => ?_) (.inl fun i hi => ?_) ⟨by simp [stand], ⟨by simp [stand]; omega, trivial⟩⟩⟩
    · show runM (m_law_value _ _) = _
      unfold m_law_value
      rw [e', e7, e8, e3, e9]
      rfl
    · simp only [List.mem_cons, List.not_mem_nil, or_false] at hi
      rcases hi with rfl | rfl <;> rw [Int.natAbs_natCast] <;> omega
    · simp only [List.mem_cons, List.not_mem_nil, or_false] at hi
      rcases hi with rfl | rfl <;> omega
theorem v_neg (o : Op) (h : o = .most ∨ o = .least ∨ o = .first ∨ o = .last) : ∃ x, F_law_value [opD o, .list (ns.map iN)] = some (.ok (vD o x)) ∧ VV o x := by
  obtain ⟨v, e, hv⟩ := num_k ns hl hn 0 (by decide)
  obtain ⟨a, ha, _⟩ := at_k ns hl hn 8 (by decide)
  have e' : fnP F_law_number 2 (consM (some (.list (ns.map iN))) (consM (some (.int 0)) (some []))) = some (iN v) := e
  have ha' : bind2 (some (.list (ns.map iN))) (some (.int 8)) idx = some (iN a) := ha
  have e2 : bind2 ((consM (bind2 (some (.list (ns.map iN))) (some (.int 8)) idx) (some [])).bind int1) (some (.int 2)) modI = some (iN (a % 2)) := by
    rw [ha', i1, bind2_s]; exact mod_nat a 2 (by decide)
  have h2 := Nat.mod_lt a (show 0 < 2 by decide)
  have e3 : bind2 (some (iN v)) (bind2 (some (.int 1)) (bind2 (some (.int 2)) (some (iN (a % 2))) mulI) subI) mulI = some (.int ((v : Int) * (1 - 2 * ((a % 2 : Nat) : Int)))) := by
    rw [bind2_s (.int 2), mulI_s, if_pos (.inl (by decide)), bind2_s (.int 1), subI_s, bind2_s, mulI_s, if_pos (.inr (by omega))]
  have hs : ((v : Int) * (1 - 2 * ((a % 2 : Nat) : Int))).natAbs < 10 ^ 30 := by
    rcases (show a % 2 = 0 ∨ a % 2 = 1 by omega) with h | h <;> rw [h] <;> simp <;> omega
  refine ⟨some [(v : Int) * (1 - 2 * ((a % 2 : Nat) : Int))], ?_, ?_⟩
  · show runM (m_law_value _ _) = _
    unfold m_law_value
    rw [e', e2, e3]
    rcases h with rfl | rfl | rfl | rfl <;> rfl
  · refine mkV (by rcases h with rfl | rfl | rfl | rfl <;> rfl) (by simp) (fun i hi => by simp at hi; subst hi; exact hs) (.inr (by simp)) (accept_all o _ _ fun i hi acc => ?_)
    rcases h with rfl | rfl | rfl | rfl <;> rfl
omit hl hn in
theorem wNe (a b : String) (h : a ≠ b) : boolM (bind2 (some (.str (Str.ofString a))) (some (.str (Str.ofString b))) eqS) = some false := by
  rw [bind2_s, eqS_s, decide_eq_false (by rw [ofString_eq]; exact h)]
  rfl
theorem v_grids (n m : Nat) (h1 : 1 ≤ n) (h3 : n ≤ 3) (hm : 1 ≤ m ∧ m ≤ 1000000000000) : ∃ x, F_law_value [opD (.grids n m), .list (ns.map iN)] = some (.ok (vD (.grids n m) x)) ∧ VV (.grids n m) x := by
  have hnn : n * n ≤ 9 := Nat.mul_le_mul h3 h3
  have d1 : bind2 (some (opD (.grids n m))) (some (.int 1)) idx = some (iN n) := rfl
  have d2 : bind2 (some (opD (.grids n m))) (some (.int 2)) idx = some (iN m) := rfl
  let g : Nat → Nat := fun r => (ns.getD r 0 * 10000033 + ns.getD r 0 / 7) % m
  have e : lcM (rng1M (consM (bind2 (bind2 (some (opD (.grids n m))) (some (.int 1)) idx) (bind2 (some (opD (.grids n m))) (some (.int 1)) idx) mulI) (some []))) (fun x8 => bind2 ((consM (bind2 (bind2 (bind2 (some (.list (ns.map iN))) (some x8) idx) (some (.int 10000033)) mulI) (bind2 (bind2 (some (.list (ns.map iN))) (some x8) idx) (some (.int 7)) fdivI) addI) (some [])).bind int1) (bind2 (some (opD (.grids n m))) (some (.int 2)) idx) modI) = some (.list (((List.range (n * n)).map g).map iN)) := by
    rw [d1, d2, bind2_s, mulN n n (by omega), consM_s]
    refine lc_range (n * n) (by omega) fun r hr => ?_
    have hr2 : r < ns.length := by omega
    have hx := hn _ (List.getElem_mem hr2)
    have hg : g r = (ns[r]'hr2 * 10000033 + ns[r]'hr2 / 7) % m := by
      show (ns.getD r 0 * 10000033 + ns.getD r 0 / 7) % m = _
      simp [List.getD_eq_getElem?_getD, List.getElem?_eq_getElem hr2]
    rw [hg, bind2_s (.list _) (iN r), pickL ns r hr2]
    generalize ns[r]'hr2 = x at hx
    have e1 : mulI (iN x) (.int 10000033) = some (iN (x * 10000033)) := mulN x 10000033 (by omega)
    have e2 : fdivI (iN x) (.int 7) = some (iN (x / 7)) := fdiv_nat x 7 (by decide) (by decide)
    rw [bind2_s (iN x) (.int 10000033), e1, bind2_s (iN x) (.int 7), e2, bind2_s, addN, i1, bind2_s, mod_nat _ _ (by omega)]
  have hlen : ((List.range (n * n)).map g).length = n * n := by simp
  have hgm : ∀ i ∈ (List.range (n * n)).map g, i < m := fun i hi => by
    obtain ⟨r, _, rfl⟩ := List.mem_map.mp hi
    exact Nat.mod_lt _ (by omega)
  generalize (List.range (n * n)).map g = cs at e hlen hgm
  have er : lcM (rng1M (consM (bind2 (some (opD (.grids n m))) (some (.int 1)) idx) (some []))) (fun x9 => (consM (slcM (some (.list (cs.map iN))) (partM (bind2 (some x9) (bind2 (some (opD (.grids n m))) (some (.int 1)) idx) mulI)) (partM (bind2 (bind2 (some x9) (bind2 (some (opD (.grids n m))) (some (.int 1)) idx) mulI) (bind2 (some (opD (.grids n m))) (some (.int 1)) idx) addI)) slcL) (some [])).bind tupD) = some (.list ((List.range n).map (rowD (cs.map iN) n))) := by
    rw [d1, consM_s]
    refine lc_rows _ (cs.map iN) n (by omega) fun r hr => ?_
    rw [bind2_s (iN r), mulN r n (by omega), bind2_s, addN, partM_i, partM_i, slcM_s]
    show ((consM (some (PyData.list (cutD (cs.map iN) _ _))) (some [])).bind tupD) = _
    rw [cut_row]
    rfl
  refine ⟨some (cs.map fun (n : Nat) => (n : Int)), ?_, mkN hlen (by omega) (fun i hi => by have := hgm i hi; omega) (fun i hi acc => by have := hgm i hi; simp [stand]; omega)⟩
  show runM (m_law_value _ _) = _
  unfold m_law_value
  have ne := fun (b : String) (h : "grids" ≠ b) => wNe "grids" b h
  rw [show bind2 (some (opD (.grids n m))) (some (.int 0)) idx = some (.str (Str.ofString "grids")) from rfl, okM_s, seqM_ok, ne "sum" (by decide), ne "product" (by decide), orM_f, ifM_f, seqM_ok, ne "or" (by decide), ifM_f, seqM_ok, ne "maps" (by decide), ifM_f, seqM_ok,
    show boolM (bind2 (some (.str (Str.ofString "grids"))) (some (.str (Str.ofString "grids"))) eqS) = some true by rw [bind2_s, eqS_s, decide_eq_true rfl]; rfl, ifM_t, e, okM_s, seqM_ok, er, consM_s, Option.bind_some, tupD_l, retM_s, seqM_er, runM_rt]
  have hv : vD (.grids n m) (some (cs.map fun (n : Nat) => (n : Int))) = .tuple ((List.range n).map (rowD (cs.map iN) n)) := by
    show PyData.tuple ((List.range n).map (rowD ((cs.map fun (n : Nat) => (n : Int)).map .int) n)) = _
    rw [List.map_map]; rfl
  rw [hv]
theorem law_value (o : Op) (ho : o.ok) (hd : o.dr) : ∃ x, F_law_value [opD o, .list (ns.map iN)] = some (.ok (vD o x)) ∧ VV o x := by
  cases o with
  | sum m => exact v_sum ns hl hn m (ho m (by simp [Op.ps]))
  | prod m => exact v_prod ns hl hn m (ho m (by simp [Op.ps]))
  | most => exact v_neg ns hl hn _ (.inl rfl)
  | least => exact v_neg ns hl hn _ (.inr (.inl rfl))
  | first => exact v_neg ns hl hn _ (.inr (.inr (.inl rfl)))
  | last => exact v_neg ns hl hn _ (.inr (.inr (.inr rfl)))
  | or => exact v_or ns hl hn
  | maps n => exact v_maps ns hl hn n (ho n (by simp [Op.ps])).1 hd
  | grids n m => exact v_grids ns hl hn n m (ho n (by simp [Op.ps])).1 hd (ho m (by simp [Op.ps]))
  | brackets => exact v_brackets ns hl hn
  | spans => exact v_spans ns hl hn
  | counts n => exact v_counts ns hl hn n (ho n (by simp [Op.ps])).1 hd
end
end UT.M
end
section
set_option Elab.async false
set_option linter.all false
set_option maxRecDepth 100000
set_option maxHeartbeats 4000000
/-! plain: a row of asks from numbers -/
namespace UT.M
open PySem PySem.Spec PyProof.Rows L2 SX
theorem le2_no {x y : Int × Int} (h : y.1 < x.1 ∨ (y.1 = x.1 ∧ y.2 < x.2)) : le2 x y = false := by
  obtain ⟨a, b⟩ := x
  obtain ⟨c, d⟩ := y
  simp only at h
  unfold le2
  simp only [Ob.lexAt, List.getD_cons_zero, List.getD_cons_succ]
  rcases h with h | ⟨rfl, h⟩
  · rw [decide_eq_false (by omega : ¬ a = c), decide_eq_false (by omega : ¬ a ≤ c)]
    rfl
  · rw [decide_eq_true (rfl : c = c), decide_eq_false (by omega : ¬ b = d), decide_eq_false (by omega : ¬ b ≤ d)]
    rfl
theorem eqv_a (x y : Int × Int) : PyData.eqv (aD x) (aD y) = decide (x = y) := by
  obtain ⟨a, b⟩ := x
  obtain ⟨c, d⟩ := y
  simp [PyData.eqv, PyData.eqvAll]
  rfl
theorem shp_a (x : Int × Int) : SeqAt.shaped (aD x) = true := by
  simp [SeqAt.shaped, PyData.canLay0, PyData.canLayAll0, PyData.depth, PyData.depthAll]
theorem shp_p (xs : List (Int × Int)) : pureL (xs.map aD) = true := by
  induction xs with
  | nil => rfl
  | cons x xs ih =>
    have e : pureL (aD x :: xs.map aD) = (pureT (aD x) && pureL (xs.map aD)) := by simp [pureL]
    rw [List.map_cons, e, pure_a, ih]
    rfl
theorem shp_l (xs : List (Int × Int)) : SeqAt.shaped (.list (xs.map aD)) = true ∧ pureL (xs.map aD) = true := by
  have h1 : PyData.canLayAll0 (xs.map aD) = true := by
    induction xs with
    | nil => rfl
    | cons x xs ih => simp [PyData.canLay0, PyData.canLayAll0, ih]
  have h2 : PyData.depthAll (xs.map aD) ≤ 1 := by
    induction xs with
    | nil => exact Nat.zero_le _
    | cons x xs ih =>
      have : PyData.depthAll (xs.map aD) ≤ 1 := ih (by
        simp [PyData.canLay0, PyData.canLayAll0] at h1; exact h1)
      simp [PyData.depth, PyData.depthAll]; omega
  refine ⟨?_, ?_⟩
  · show (PyData.canLayAll0 (xs.map aD) && decide (PyData.depthAll (xs.map aD) + 1 ≤ 64)) = true
    rw [h1, decide_eq_true (by omega)]
    rfl
  · exact shp_p xs
theorem nin_a (x : Int × Int) (xs : List (Int × Int)) : ninD (aD x) (.list (xs.map aD)) = some (.bool (!decide (x ∈ xs))) := by
  have h := shp_l xs
  show (if _ then some (PyData.bool (!(xs.map aD).any fun z => PyData.eqv z (aD x))) else none) = _
  rw [if_pos ⟨pure_a x, h.2, shp_a x, h.1⟩]
  congr 3
  induction xs with
  | nil => simp
  | cons y ys ih =>
    rw [List.map_cons, List.any_cons, eqv_a, ih (shp_l ys)]
    by_cases e : y = x
    · simp [e]
    · have : ¬ x = y := fun q => e q.symm
      simp [e, this]
theorem prs_a : ∀ xs : List (Int × Int), prsOf (xs.map aD) = some xs
  | [] => rfl
  | x :: xs => by
    rw [List.map_cons]
    show ((prOf (aD x)).bind fun p => (prsOf (xs.map aD)).map (p :: ·)) = _
    rw [prs_a xs]
    rfl
theorem aok_of : ∀ (xs : List (Int × Int)) (bf : Int × Int), (∀ x ∈ xs, 0 ≤ x.1 ∧ x.1 < x.2 ∧ x.2 < 10000) → (∀ x ∈ xs, le2 x bf = false) → xs.Pairwise (fun x y => le2 y x = false) → AOk bf xs
  | [], _, _, _, _ => trivial
  | x :: xs, bf, h1, h2, h3 => by
    obtain ⟨h4, h5⟩ := List.pairwise_cons.mp h3
    exact ⟨h1 x (List.mem_cons_self ..), h2 x (List.mem_cons_self ..), aok_of xs x (fun y hy => h1 y (List.mem_cons_of_mem _ hy)) h4 h5⟩
theorem sorted_ok {xs : List (Int × Int)} (h : ∀ x ∈ xs, 0 ≤ x.1 ∧ x.1 < x.2 ∧ x.2 < 10000) (hn : xs.Nodup) : AOk (-1, -1) (isrt xs) := by
  have hp := isrt_perm xs
  have hm : ∀ x ∈ isrt xs, 0 ≤ x.1 ∧ x.1 < x.2 ∧ x.2 < 10000 := fun x hx => h x (hp.mem_iff.mp hx)
  refine aok_of _ _ hm (fun x hx => le2_no (.inl (by have := hm x hx; show (-1 : Int) < x.1; omega))) ?_
  have hnd : (isrt xs).Nodup := hp.nodup_iff.mpr hn
  refine List.Pairwise.imp ?_ ((isrt_ord xs).and hnd)
  rintro x y ⟨h1, h2⟩
  have h3 := SrtO.lexB_no.mp h1
  refine le2_no ?_
  obtain ⟨a, b⟩ := x
  obtain ⟨c, d⟩ := y
  simp only [ne_eq, Prod.mk.injEq] at h2 h3 ⊢
  omega
end UT.M
end
section
set_option Elab.async false
set_option linter.all false
set_option maxRecDepth 100000
set_option maxHeartbeats 4000000
/-! plain: the row and the events that a script draws -/
namespace UT.M
open PySem PySem.Spec PyProof.Rows L2 SX
theorem at_l (l : List Nat) (k : Nat) (h : k < l.length) : ∃ x : Nat, bind2 (some (.list (l.map iN))) (some (iN k)) idx = some (iN x) := ⟨_, pickL l k h⟩
theorem law_row (l : List Nat) (c : Nat) (hl : l.length = 17) (h0 : bind2 (some (.list (l.map iN))) (some (.int 0)) idx = some (iN c)) (hc : c < 9) : ∃ xs : List (Int × Int), F_law_row [.list (l.map iN)] = some (.ok (.tuple (xs.map aD))) ∧ AOk (-1, -1) xs ∧ xs.length ≤ 8 := by
  show ∃ xs : List (Int × Int), runM (m_law_row _) = _ ∧ _
  unfold m_law_row
  have hM : ∃ M : Nat, 1 ≤ M ∧ M ≤ 90 ∧ bind2 (some (.int 6)) (bind2 (some (.int 84)) ((consM (bind2 (bind2 (some (.list (l.map iN))) (some (.int 0)) idx) (some (.int 5)) eqS) (some [])).bind int1) mulI) addI = some (iN M) := by
    rw [h0, bind2_s (iN c), eqS_i]
    by_cases h5 : (c : Int) = 5
    · rw [decide_eq_true h5]
      exact ⟨90, by decide, by decide, rfl⟩
    · rw [decide_eq_false h5]
      exact ⟨6, by decide, by decide, rfl⟩
  obtain ⟨M, hM1, hM2, eM⟩ := hM
  rw [h0] at eM
  rw [Option.bind_some, if_pos (show ([] : List PyData).length ≤ 100000 from Nat.zero_le _), okM_s, seqM_ok, h0, consM_s (iN c), rng1_s c (by omega), rngL_map, forM_s]
  let R : SM Unit → Prop := fun z => ∃ xs : List (Int × Int), runM z = some (.ok (.tuple (xs.map aD))) ∧ AOk (-1, -1) xs ∧ xs.length ≤ 8
  refine loopEx (R := R) (fun ds s => ∃ (xs : List (Int × Int)) (rs : List Nat), s = xs.map aD ∧ ds = rs.map iN ∧ xs.length + rs.length ≤ 8 ∧ (∀ r ∈ rs, r < 8) ∧ xs.Nodup ∧ ∀ x ∈ xs, 0 ≤ x.1 ∧ x.1 < x.2 ∧ x.2 < 10000) _ _ ⟨[], List.range c, rfl, rfl, by simp; omega, fun r hr => by have := List.mem_range.mp hr; omega, List.nodup_nil, fun x hx => by cases hx⟩ ?_ ?_
  · rintro d ds s ⟨xs, rs, rfl, h1, h2, h3, h4, h5⟩
    cases rs with
    | nil => cases h1
    | cons r rs =>
      rw [List.map_cons] at h1
      cases h1
      have hr := h3 r (List.mem_cons_self ..)
      rw [List.length_cons] at h2
      have m2 : bind2 (some (.int 2)) (some (iN r)) mulI = some (iN (2 * r)) := mulN 2 r (by decide)
      have a1 : bind2 (some (.int 1)) (some (iN (2 * r))) addI = some (iN (1 + 2 * r)) := addN 1 (2 * r)
      have a2 : bind2 (some (.int 2)) (some (iN (2 * r))) addI = some (iN (2 + 2 * r)) := addN 2 (2 * r)
      obtain ⟨x, hx⟩ := at_l l (1 + 2 * r) (by omega)
      obtain ⟨y, hy⟩ := at_l l (2 + 2 * r) (by omega)
      have hxM := Nat.mod_lt x (show 0 < M by omega)
      have hy12 := Nat.mod_lt y (show 0 < 12 by decide)
      rw [m2, a1, hx, i1, eM, bind2_s (iN x) (iN M), mod_nat x M (by omega), okM_s, seqM_ok, a2, hy, i1, bind2_s (iN y), show modI (iN y) (.int 12) = some (iN (y % 12)) from mod_nat y 12 (by decide)]
      generalize x % M = u at hxM
      generalize y % 12 = v at hy12
      have e1 : tupM (consM (some (iN u)) (consM (bind2 (bind2 (some (iN u)) (some (.int 1)) addI) (some (iN v)) addI) (some []))) = some (aD ((u : Int), (u : Int) + 1 + (v : Int))) := rfl
      have hg : 0 ≤ ((u : Int), (u : Int) + 1 + (v : Int)).1 ∧ ((u : Int), (u : Int) + 1 + (v : Int)).1 < ((u : Int), (u : Int) + 1 + (v : Int)).2 ∧ ((u : Int), (u : Int) + 1 + (v : Int)).2 < 10000 := ⟨by show (0 : Int) ≤ u; omega, by show (u : Int) < u + 1 + v; omega, by show (u : Int) + 1 + v < 10000; omega⟩
      rw [e1, okM_s, seqM_ok]
      generalize ((u : Int), (u : Int) + 1 + (v : Int)) = z at hg
      rw [bind2_s, nin_a z xs, boolM_s]
      by_cases hz : z ∈ xs
      · rw [decide_eq_true hz, Bool.not_true, ifM_f, seqM_ok]
        exact ⟨_, rfl, xs, rs, rfl, rfl, by omega, fun q hq => h3 q (List.mem_cons_of_mem _ hq), h4, h5⟩
      · rw [decide_eq_false hz, Bool.not_false, ifM_t, Option.bind_some, if_pos (by rw [List.length_map]; omega), okM_s, seqM_ok, seqM_ok]
        refine ⟨_, rfl, xs ++ [z], rs, by rw [List.map_append]; rfl, rfl, by rw [List.length_append]; simp only [List.length_cons, List.length_nil]; omega, fun q hq => h3 q (List.mem_cons_of_mem _ hq), ?_, ?_⟩
        · refine List.nodup_append.mpr ⟨h4, by simp, fun a ha b hb => ?_⟩
          simp at hb
          subst hb
          exact fun q => hz (q ▸ ha)
        · intro q hq
          rcases List.mem_append.mp hq with hq | hq
          · exact h5 q hq
          · simp at hq; subst hq; exact hg
  · rintro _ ⟨xs, rs, rfl, h1, h2, h3, h4, h5⟩
    refine ⟨isrt xs, ?_, sorted_ok h5 h4, by rw [(isrt_perm xs).length_eq]; omega⟩
    have e2 : sortD [.list (xs.map aD)] = some (.list ((isrt xs).map aD)) := by
      show (prsOf (xs.map aD)).map _ = _
      rw [prs_a]
      rfl
    rw [consM_s, Option.bind_some, e2, consM_s, Option.bind_some, tupD_l, retM_s, runM_rt]
end UT.M
end
section
set_option Elab.async false
set_option linter.all false
set_option maxRecDepth 100000
set_option maxHeartbeats 4000000
/-! plain: the events that a script draws -/
namespace UT.M
open PySem PySem.Spec PyProof.Rows L2 SX
def goAll : List Ev → Nat → Nat
  | [], i => i
  | e :: es, i => goAll es (e.go i)
theorem HOk.app : ∀ {es : List Ev} {i : Nat} {e : Ev}, HOk i es → HOk (goAll es i) [e] → HOk i (es ++ [e])
  | [], _, _, _, h => h
  | .ask :: es, i, e, h, h2 => HOk.app (es := es) (i := i) h h2
  | .put n :: es, i, e, h, h2 => ⟨h.1, HOk.app (es := es) h.2 h2⟩
  | .drop n :: es, i, e, h, h2 => ⟨h.1, h.2.1, HOk.app (es := es) h.2.2 h2⟩
theorem goAll_app : ∀ (es : List Ev) (i : Nat) (e : Ev), goAll (es ++ [e]) i = e.go (goAll es i)
  | [], _, _ => rfl
  | _ :: es, _, e => goAll_app es _ e
theorem law_events (l : List Nat) (c : Nat) (hl : l.length = 13) (h0 : bind2 (some (.list (l.map iN))) (some (.int 0)) idx = some (iN c)) (hc : c < 13) : ∃ es : List Ev, F_law_events [.list (l.map iN)] = some (.ok (.tuple (es.map evD))) ∧ HOk 0 es ∧ es.length ≤ 12 := by
  show ∃ es : List Ev, runM (m_law_events _) = _ ∧ _
  unfold m_law_events
  have hM : ∃ M : Nat, 1 ≤ M ∧ M ≤ 40 ∧ bind2 (some (.int 4)) (bind2 (some (.int 36)) ((consM (bind2 (bind2 (some (.list (l.map iN))) (some (.int 0)) idx) (some (.int 5)) eqS) (some [])).bind int1) mulI) addI = some (iN M) := by
    rw [h0, bind2_s (iN c), eqS_i]
    by_cases h5 : (c : Int) = 5
    · rw [decide_eq_true h5]
      exact ⟨40, by decide, by decide, rfl⟩
    · rw [decide_eq_false h5]
      exact ⟨4, by decide, by decide, rfl⟩
  obtain ⟨M, hM1, hM2, eM⟩ := hM
  rw [h0] at eM
  rw [Option.bind_some, if_pos (show ([] : List PyData).length ≤ 100000 from Nat.zero_le _), okM_s, seqM_ok, okM_s, seqM_ok, h0, consM_s (iN c), rng1_s c (by omega), rngL_map, forM_s]
  let R : SM Unit → Prop := fun z => ∃ es : List Ev, runM z = some (.ok (.tuple (es.map evD))) ∧ HOk 0 es ∧ es.length ≤ 12
  refine loopEx (R := R) (fun ds s => ∃ (es : List Ev) (rs : List Nat), s = (es.map evD, iN (goAll es 0)) ∧ ds = rs.map iN ∧ es.length + rs.length ≤ 12 ∧ (∀ r ∈ rs, r < 12) ∧ HOk 0 es) _ _ ⟨[], List.range c, rfl, rfl, by simp; omega, fun r hr => by have := List.mem_range.mp hr; omega, trivial⟩ ?_ ?_
  · rintro d ds s ⟨es, rs, rfl, h1, h2, h3, h4⟩
    cases rs with
    | nil => cases h1
    | cons r rs =>
      rw [List.map_cons] at h1
      cases h1
      have hr := h3 r (List.mem_cons_self ..)
      rw [List.length_cons] at h2
      have a1 : bind2 (some (.int 1)) (some (iN r)) addI = some (iN (1 + r)) := addN 1 r
      obtain ⟨x, hx⟩ := at_l l (1 + r) (by omega)
      have hlen : (es.map evD).length < 100000 := by rw [List.length_map]; omega
      rw [a1, hx, i1, bind2_s (iN x) (.int 3) modI, show modI (iN x) (.int 3) = some (iN (x % 3)) from mod_nat x 3 (by decide), okM_s, seqM_ok, bind2_s (iN x) (.int 3) fdivI, show fdivI (iN x) (.int 3) = some (iN (x / 3)) from fdiv_nat x 3 (by decide) (by decide), i1, eM, bind2_s (iN (x / 3)), mod_nat (x / 3) M (by omega)]
      have hq := Nat.mod_lt (x / 3) (show 0 < M by omega)
      generalize x / 3 % M = q at hq
      generalize x % 3 = t
      rw [show bind2 (some (.int 1)) (some (iN q)) addI = some (iN (1 + q)) from addN 1 q, okM_s, seqM_ok]
      dsimp only
      generalize hi : goAll es 0 = i
      have key : ∀ (e : Ev), HOk i [e] → ∃ (fs : List Ev) (rs_1 : List Nat), (es.map evD ++ [evD e], iN (e.go i)) = (fs.map evD, iN (goAll fs 0)) ∧ rs.map iN = rs_1.map iN ∧ fs.length + rs_1.length ≤ 12 ∧ (∀ r ∈ rs_1, r < 12) ∧ HOk 0 fs := fun e he =>
        ⟨es ++ [e], rs, by rw [List.map_append, goAll_app, hi]; rfl, rfl, by rw [List.length_append]; simp only [List.length_cons, List.length_nil]; omega, fun q hq => h3 q (List.mem_cons_of_mem _ hq), HOk.app h4 (by rw [hi]; exact he)⟩
      have g0 : bind2 (some (iN i)) (some (.int 0)) gtI = some (.bool (decide ((0 : Int) < (i : Int)))) := rfl
      have g90 : bind2 (some (iN i)) (some (.int 90)) gtI = some (.bool (decide ((90 : Int) < (i : Int)))) := rfl
      rw [bind2_s (iN t) (.int 1), eqS_i, boolM_s, bind2_s (iN t) (.int 2), eqS_i, boolM_s, g0, boolM_s, g90, boolM_s]
      by_cases hd : (t : Int) = 1 ∧ (0 : Int) < (i : Int)
      · have e1 : andM (some (decide ((t : Int) = 1))) (some (decide ((0 : Int) < (i : Int)))) = some true := by
          rw [decide_eq_true hd.1, decide_eq_true hd.2]; rfl
        have em : min2 [iN (1 + q), iN i] = some (iN (min (1 + q) i)) := by
          show some (PyData.int (if (i : Int) < ((1 + q : Nat) : Int) then (i : Int) else ((1 + q : Nat) : Int))) = some (PyData.int ((min (1 + q) i : Nat) : Int))
          congr 2
          split <;> omega
        have hsub : bind2 (some (iN i)) (some (iN (min (1 + q) i))) subI = some (iN (i - min (1 + q) i)) := by
          show some (PyData.int ((i : Int) - ((min (1 + q) i : Nat) : Int))) = some (PyData.int ((i - min (1 + q) i : Nat) : Int))
          congr 2
          omega
        rw [e1, ifM_t, consM_s, consM_s, Option.bind_some, em, hsub, show tupM (consM (some (.str "drop")) (consM (some (iN (min (1 + q) i))) (some []))) = some (evD (.drop (min (1 + q) i))) from rfl, Option.bind_some, if_pos hlen, okM_s, seqM_ok, okM_s, seqM_ok, seqM_ok]
        exact ⟨_, rfl, key (.drop (min (1 + q) i)) ⟨by omega, by omega, trivial⟩⟩
      · have e1 : andM (some (decide ((t : Int) = 1))) (some (decide ((0 : Int) < (i : Int)))) = some false := by
          by_cases h6 : (t : Int) = 1
          · rw [decide_eq_true h6, decide_eq_false fun h7 => hd ⟨h6, h7⟩]; rfl
          · rw [decide_eq_false h6]; rfl
        rw [e1, ifM_f]
        by_cases ha : (t : Int) = 2 ∨ (90 : Int) < (i : Int)
        · have e2 : orM (some (decide ((t : Int) = 2))) (some (decide ((90 : Int) < (i : Int)))) = some true := by
            by_cases h6 : (t : Int) = 2
            · rw [decide_eq_true h6]; rfl
            · rw [decide_eq_false h6, decide_eq_true (ha.resolve_left h6)]; rfl
          rw [e2, ifM_t, show tupM (consM (some (.str "ask")) (some [])) = some (evD .ask) from rfl, Option.bind_some, if_pos hlen, okM_s, seqM_ok, seqM_ok, seqM_ok]
          exact ⟨_, rfl, key .ask trivial⟩
        · have e2 : orM (some (decide ((t : Int) = 2))) (some (decide ((90 : Int) < (i : Int)))) = some false := by
            rw [decide_eq_false fun h6 => ha (.inl h6), decide_eq_false fun h6 => ha (.inr h6)]; rfl
          rw [e2, ifM_f, show tupM (consM (some (.str "put")) (consM (some (iN (1 + q))) (some []))) = some (evD (.put (1 + q))) from rfl, Option.bind_some, if_pos hlen, okM_s, seqM_ok, bind2_s (iN i), addN, okM_s, seqM_ok, seqM_ok, seqM_ok]
          exact ⟨_, rfl, key (.put (1 + q)) ⟨by omega, trivial⟩⟩
  · rintro _ ⟨es, rs, rfl, h1, h2, h3, h4⟩
    refine ⟨es, ?_, h4, by omega⟩
    dsimp only
    rw [consM_s, Option.bind_some, tupD_l, retM_s, runM_rt]
end UT.M
end
section
set_option Elab.async false
set_option linter.all false
set_option maxRecDepth 100000
set_option maxHeartbeats 4000000
/-! plain: odd calls, each refused -/
namespace UT.M
open PySem PySem.Spec PyProof.Rows L2 SX
def noF (f : String) : PyData := .tuple [.str "no", .str (Str.ofString f), .int (-1), .bool true]
def usE (f : String) : Err := ⟨.usable, .str (Str.ofString f), .int (-1)⟩
theorem callR_us (f : String) : callR (.error (usE f)) = some (noF f) := rfl
theorem raise_us {S : Type} (f : String) : (raiseM .usable (consM (some (.str (Str.ofString f))) (consM ((some (.int 1)).bind negI) (some []))) : SM S) = some (.error (.er (usE f))) := raise_si _ _ _
theorem no_asks {t : PyData} (h : F_is_asks [t] = some (.ok (.bool false))) : F_asks_line [t] = some (.error (usE "asks")) := by
  show runM (m_asks_line t) = _
  unfold m_asks_line
  rw [consM_s, fnP_ok (n := 1) h rfl (by simp), boolM_s, notM_s, Bool.not_false, ifM_t, raise_us, seqM_er, runM_er]
theorem no_hist {t : PyData} (h : F_is_history [t] = some (.ok (.bool false))) : F_history_line [t] = some (.error (usE "history")) := by
  show runM (m_history_line t) = _
  unfold m_history_line
  rw [consM_s, fnP_ok (n := 1) h rfl (by simp), boolM_s, notM_s, Bool.not_false, ifM_t, raise_us, seqM_er, runM_er]
theorem no_op {t : PyData} (h : F_is_operation [t] = some (.ok (.bool false))) : F_operation_line [t] = some (.error (usE "operation")) := by
  show runM (m_operation_line t) = _
  unfold m_operation_line
  rw [consM_s, fnP_ok (n := 1) h rfl (by simp), boolM_s, notM_s, Bool.not_false, ifM_t, raise_us, seqM_er, runM_er]
theorem no_vop {t v : PyData} (h : F_is_operation [t] = some (.ok (.bool false))) : F_value_line [t, v] = some (.error (usE "operation")) := by
  show runM (m_value_line t v) = _
  unfold m_value_line
  rw [consM_s, fnP_ok (n := 1) h rfl (by simp), boolM_s, notM_s, Bool.not_false, ifM_t, raise_us, seqM_er, runM_er]
theorem no_rop {t v : PyData} (h : F_is_operation [t] = some (.ok (.bool false))) : F_read_value [t, v] = some (.error (usE "operation")) := by
  show runM (m_read_value t v) = _
  unfold m_read_value
  rw [consM_s, fnP_ok (n := 1) h rfl (by simp), boolM_s, notM_s, Bool.not_false, ifM_t, raise_us, seqM_er, runM_er]
/-! wrong asks -/
theorem wa0 {t : PyData} (h : isiD "tuple" t = some (.bool false)) : F_is_asks [t] = some (.ok (.bool false)) := by
  show runM (m_is_asks t) = _
  unfold m_is_asks
  rw [Option.bind_some, h, boolM_s, notM_s, Bool.not_false, ifM_t, retM_s, seqM_er, runM_rt]
theorem wm0 {t : PyData} (h : isiD "tuple" t = some (.bool false)) : F_is_operation [t] = some (.ok (.bool false)) := by
  show runM (m_is_operation t) = _
  simp [m_is_operation, h]
end UT.M
end
section
set_option Elab.async false
set_option linter.all false
set_option maxRecDepth 100000
set_option maxHeartbeats 4000000
/-! plain: wrong asks, wrong histories, wrong operations -/
namespace UT.M
open PySem PySem.Spec PyProof.Rows L2 SX
theorem pInt_b (b : Bool) : fnP F_is_integer 1 (some [.bool b]) = some (.bool false) := fnP_ok (by
  show runM (m_is_integer _) = _
  simp [m_is_integer]) rfl (by simp)
theorem isNum_b (b : Bool) : fnP F_is_number 1 (some [.bool b]) = some (.bool false) := fnP_ok (by
  show runM (m_is_number _) = _
  simp [m_is_number, pInt_b]) rfl (by simp)
theorem str2 (i j : Int) : fnP F_is_stretch 1 (some [aD (i, j)]) = some (.bool (decide (0 ≤ i ∧ 0 ≤ j ∧ i < j))) := fnP_ok (by
  show runM (m_is_stretch _) = _
  by_cases h1 : 0 ≤ i <;> by_cases h2 : 0 ≤ j <;> simp [m_is_stretch, fnP_num, h1, h2]) rfl (by simp)
theorem str2b (i : Int) (b : Bool) (h : 0 ≤ i) : fnP F_is_stretch 1 (some [.tuple [.int i, .bool b]]) = some (.bool false) := fnP_ok (by
  show runM (m_is_stretch _) = _
  simp [m_is_stretch, fnP_num, isNum_b, h]) rfl (by simp)
theorem str3 (i j k : Int) : fnP F_is_stretch 1 (some [.tuple [.int i, .int j, .int k]]) = some (.bool false) := fnP_ok (by
  show runM (m_is_stretch _) = _
  simp [m_is_stretch]) rfl (by simp)
theorem str0 (i : Int) : fnP F_is_stretch 1 (some [.int i]) = some (.bool false) := fnP_ok (by
  show runM (m_is_stretch _) = _
  simp [m_is_stretch]) rfl (by simp)
theorem wa_1 {d : PyData} {ds : List PyData} (h : fnP F_is_stretch 1 (some [d]) = some (.bool false)) : F_is_asks [.tuple (d :: ds)] = some (.ok (.bool false)) := by
  show runM (m_is_asks _) = _
  unfold m_is_asks
  rw [Option.bind_some, isi_tt, boolM_s, notM_s, Bool.not_true, ifM_f, seqM_ok, show tupM (consM ((some (.int 1)).bind negI) (consM ((some (.int 1)).bind negI) (some []))) = some (aD (-1, -1)) from rfl, okM_s, seqM_ok, tupleM_s, forM_s, forM'_c,
    consM_s, h, boolM_s, notM_s, Bool.not_false, orM_t, ifM_t, retM_s, seqM_er, seqM_er, seqM_er, runM_rt]
theorem wa_2 {x y : Int × Int} (hx : 0 ≤ x.1 ∧ x.1 < x.2) (h : le2 y x = true) : F_is_asks [.tuple [aD x, aD y]] = some (.ok (.bool false)) := by
  have hb : le2 x (-1, -1) = false := le2_no (.inl (by show (-1 : Int) < x.1; omega))
  have e : ∀ z, orM (notM (boolM (fnP F_is_stretch 1 (some [aD y])))) (boolM (some (.bool true))) = z → (z = some true) := by
    intro z hz
    rw [← hz, str2 y.1 y.2, boolM_s, notM_s]
    cases decide (0 ≤ y.1 ∧ 0 ≤ y.2 ∧ y.1 < y.2) <;> rfl
  show runM (m_is_asks _) = _
  unfold m_is_asks
  rw [Option.bind_some, isi_tt, boolM_s, notM_s, Bool.not_true, ifM_f, seqM_ok, show tupM (consM ((some (.int 1)).bind negI) (consM ((some (.int 1)).bind negI) (some []))) = some (aD (-1, -1)) from rfl, okM_s, seqM_ok, tupleM_s, forM_s, forM'_c,
    consM_s, str2 x.1 x.2, decide_eq_true (show 0 ≤ x.1 ∧ 0 ≤ x.2 ∧ x.1 < x.2 by omega), boolM_s, notM_s, Bool.not_true, orM_f, bind2_s, leT_a, hb, boolM_s, ifM_f, seqM_ok, okM_s, seqM_ok, seqM_ok, forM'_c, consM_s, bind2_s, leT_a, h, e _ rfl, ifM_t, retM_s, seqM_er, seqM_er, seqM_er, runM_rt]
theorem mv_0 : fnP F_is_move 1 (some [.tuple [.str "put", .int 0]]) = some (.bool false) := fnP_ok (by
  show runM (m_is_move _) = _
  simp [m_is_move, ninT, strsOf, fnP_int]) rfl (by simp)
theorem mv_t : fnP F_is_move 1 (some [.tuple [.str "put", .bool true]]) = some (.bool false) := fnP_ok (by
  show runM (m_is_move _) = _
  simp [m_is_move, ninT, strsOf, pInt_b]) rfl (by simp)
theorem mv_s (x : Str) : fnP F_is_move 1 (some [.str x]) = some (.bool false) := fnP_ok (by
  show runM (m_is_move _) = _
  simp [m_is_move]) rfl (by simp)
theorem wh {t a b : PyData} (h : F_lets_history [t] = some (.error ⟨.paper, a, b⟩)) : F_is_history [t] = some (.ok (.bool false)) := by
  show (F_lets_history [t]).bind _ = _
  rw [h]
  rfl
theorem wh_0 {t : PyData} (h : isiD "tuple" t = some (.bool false)) : F_is_history [t] = some (.ok (.bool false)) := wh (a := .str "shape") (b := .int (-1)) (by
  show runM (m_lets_history t) = _
  unfold m_lets_history
  rw [Option.bind_some, h, boolM_s, notM_s, Bool.not_false, ifM_t]
  rfl)
theorem wh_1 {d : PyData} {ds : List PyData} (h : fnP F_is_move 1 (some [d]) = some (.bool false)) : F_is_history [.tuple (d :: ds)] = some (.ok (.bool false)) := wh (a := .str "event") (b := iN 0) (by
  show runM (m_lets_history _) = _
  unfold m_lets_history
  rw [Option.bind_some, isi_tt, boolM_s, notM_s, Bool.not_true, ifM_f, seqM_ok, okM_s, seqM_ok, consM_s, show enumTM (some [.tuple (d :: ds)]) = some (enumFrom 0 (d :: ds)) from rfl, enumFrom_c, forM_s, forM'_c, pairM_s, consM_s, h, boolM_s, notM_s, Bool.not_false, ifM_t, consM_s, consM_s, raise_si, seqM_er, seqM_er, seqM_er, runM_er])
theorem wh_2 : F_is_history [.tuple [evD (.drop 1)]] = some (.ok (.bool false)) := wh (a := .str "drop") (b := iN 0) (by
  show runM (m_lets_history _) = _
  have h := is_move (.drop 1) (by rintro n (h | h) <;> cases h; decide)
  unfold m_lets_history
  rw [Option.bind_some, isi_tt, boolM_s, notM_s, Bool.not_true, ifM_f, seqM_ok, okM_s, seqM_ok, consM_s, show enumTM (some [.tuple [evD (.drop 1)]]) = some (enumFrom 0 [evD (.drop 1)]) from rfl, enumFrom_c, forM_s, forM'_c, pairM_s, consM_s, h]
  rfl)
theorem wh_3 : F_is_history [.tuple [evD (.put 1), evD (.drop 2)]] = some (.ok (.bool false)) := wh (a := .str "drop") (b := iN 1) (by
  show runM (m_lets_history _) = _
  have h1 := is_move (.put 1) (by rintro n (h | h) <;> cases h; decide)
  have h2 := is_move (.drop 2) (by rintro n (h | h) <;> cases h; decide)
  unfold m_lets_history
  rw [Option.bind_some, isi_tt, boolM_s, notM_s, Bool.not_true, ifM_f, seqM_ok, okM_s, seqM_ok, consM_s, show enumTM (some [.tuple [evD (.put 1), evD (.drop 2)]]) = some (enumFrom 0 [evD (.put 1), evD (.drop 2)]) from rfl, enumFrom_c, enumFrom_c, forM_s, forM'_c, pairM_s, consM_s, h1, boolM_s, notM_s, Bool.not_true, ifM_f, seqM_ok]
  have h2' : fnP F_is_move 1 (some [.tuple [.str "drop", iN 2]]) = some (.bool true) := h2
  simp [forM'_c, enumFrom_n, evD, h2', ifM_y])
end UT.M
end
section
set_option Elab.async false
set_option linter.all false
set_option maxRecDepth 100000
set_option maxHeartbeats 4000000
/-! plain: wrong operations and wrong values -/
namespace UT.M
open PySem PySem.Spec PyProof.Rows L2 SX
theorem wo_0 : F_is_operation [.tuple []] = some (.ok (.bool false)) := by
  show runM (m_is_operation _) = _
  simp [m_is_operation]
theorem wo_1 : F_is_operation [.tuple [.str "sum", .int 0]] = some (.ok (.bool false)) := by
  show runM (m_is_operation _) = _
  simp [m_is_operation, opwNin, opwGet, opW, List.lookup_cons, slcT_1, forM'_c, fnP_int, ifM_y, ifM_n]
theorem wo_2 : F_is_operation [.tuple [.str "sums", .int 3]] = some (.ok (.bool false)) := by
  show runM (m_is_operation _) = _
  simp [m_is_operation, opwNin, opwGet, opW, List.lookup_cons]
theorem wo_3 (o : Op) : F_is_operation [.tuple (.str (Str.ofString o.w) :: .str (Str.ofString o.w) :: o.ps.map iN)] = some (.ok (.bool false)) := by
  have e1 := opw_get o
  have e2 := opw_nin o
  show runM (m_is_operation _) = _
  cases o <;> simp only [Op.ps, Op.w, List.length_cons, List.length_nil, List.map_cons, List.map_nil] at e1 e2 ⊢ <;>
    simp [m_is_operation, e1, e2, ifM_y, ifM_n]
end UT.M
end
section
set_option Elab.async false
set_option linter.all false
set_option maxRecDepth 100000
set_option maxHeartbeats 4000000
/-! plain: wrong values -/
namespace UT.M
open PySem PySem.Spec PyProof.Rows L2 SX
theorem pInt_t (ds : List PyData) : fnP F_is_integer 1 (some [.tuple ds]) = some (.bool false) := fnP_ok (by
  show runM (m_is_integer _) = _
  simp [m_is_integer]) rfl (by simp)
theorem pInt_s (x : Str) : fnP F_is_integer 1 (some [.str x]) = some (.bool false) := fnP_ok (by
  show runM (m_is_integer _) = _
  simp [m_is_integer]) rfl (by simp)
theorem pNum_t (ds : List PyData) : fnP F_is_number 1 (some [.tuple ds]) = some (.bool false) := fnP_ok (by
  show runM (m_is_number _) = _
  simp [m_is_number, pInt_t]) rfl (by simp)
theorem pNum_s (x : Str) : fnP F_is_number 1 (some [.str x]) = some (.bool false) := fnP_ok (by
  show runM (m_is_number _) = _
  simp [m_is_number, pInt_s]) rfl (by simp)
theorem row_s (x : Str) (a b : PyData) : fnP F_is_row 3 (some [.str x, a, b]) = some (.bool false) := fnP_ok (by
  show runM (m_is_row _ _ _) = _
  simp [m_is_row]) rfl (by simp)
theorem row_b (x : Bool) (a b : PyData) : fnP F_is_row 3 (some [.bool x, a, b]) = some (.bool false) := fnP_ok (by
  show runM (m_is_row _ _ _) = _
  simp [m_is_row]) rfl (by simp)
theorem row_1 (x : Bool) (a : Int) (b : PyData) : fnP F_is_row 3 (some [.tuple [.bool x], .int a, b]) = some (.bool false) := fnP_ok (by
  show runM (m_is_row _ _ _) = _
  by_cases h : (1 : Int) = a <;> simp [m_is_row, h, isNum_b, forM'_c]) rfl (by simp)
theorem str_s (x : Str) : fnP F_is_stretch 1 (some [.str x]) = some (.bool false) := fnP_ok (by
  show runM (m_is_stretch _) = _
  simp [m_is_stretch]) rfl (by simp)
theorem str_1 (x : PyData) : fnP F_is_stretch 1 (some [.tuple [x]]) = some (.bool false) := fnP_ok (by
  show runM (m_is_stretch _) = _
  simp [m_is_stretch]) rfl (by simp)
theorem wf_s (o : Op) (x : Str) : F_a_fits [opD o, .str x] = some (.ok (.bool false)) := by
  show runM (m_a_fits _ _) = _
  cases o <;> simp [m_a_fits, opD, Op.w, Op.ps, List.contains_cons, pNum_s, pInt_s, row_s, str_s]
theorem wf_b (o : Op) (x : Bool) : F_a_fits [opD o, .tuple [.bool x]] = some (.ok (.bool false)) := by
  show runM (m_a_fits _ _) = _
  cases o
  case grids n m =>
    by_cases h : n = 1
    · subst h
      have e : lcM (some [.bool x]) (fun x8 => fnP F_is_row 3 (some [x8, .int 1, iN m])) = some (.list [.bool false]) := lcM_f (xs := [x]) (g := fun b => .bool b) (h := fun _ => .bool false) (by simp) fun b _ => row_b b _ _
      have e2 : allD [.list [.bool false]] = some (.bool false) := rfl
      simp [m_a_fits, opD, Op.w, Op.ps, List.contains_cons, e, e2]
    · have h : ¬ (1 : Int) = (n : Int) := by omega
      simp [m_a_fits, opD, Op.w, Op.ps, List.contains_cons, h]
  all_goals simp [m_a_fits, opD, Op.w, Op.ps, List.contains_cons, pNum_t, pInt_t, row_1, str_1]
end UT.M
end
section
set_option Elab.async false
set_option linter.all false
set_option maxRecDepth 100000
set_option maxHeartbeats 4000000
/-! plain: the odd calls, all of them -/
namespace UT.M
open PySem PySem.Spec PyProof.Rows L2 SX
theorem no_val (o : Op) (ho : o.ok) {t : PyData} (h : F_a_fits [opD o, t] = some (.ok (.bool false))) : F_value_line [opD o, t] = some (.error (usE "value")) := by
  show runM (m_value_line _ _) = _
  unfold m_value_line
  rw [consM_s (opD o), fnP_isOp o ho, boolM_s, notM_s, Bool.not_true, ifM_f, seqM_ok, consM_s t, consM_s, fnP_ok (n := 2) h rfl (by simp), boolM_s, notM_s, Bool.not_false, ifM_t, raise_us, seqM_er, runM_er]
/-- a call that is refused -/
def Odd (d : PyData) : Prop := ∃ (w : Str) (a b : PyData) (f : String), d = .tuple [.str w, a, b, .str (Str.ofString f)] ∧ F_law_call [.str w, a, b] = some (.ok (noF f))
theorem fl_noF (f : String) : Fl 8 (noF f) := ⟨by show 4 ≤ 60000; decide, fun d hd => by
  simp at hd
  rcases hd with rfl | rfl | rfl | rfl <;> trivial⟩
theorem odd_ol (a : PyData) {t : PyData} (h : F_is_operation [t] = some (.ok (.bool false))) : Odd (.tuple [.str "operation_line", a, t, .str "operation"]) := ⟨_, _, _, _, rfl, call_ol a t _ _ (no_op h) (callR_us _)⟩
theorem odd_vl (v : PyData) {t : PyData} (h : F_is_operation [t] = some (.ok (.bool false))) : Odd (.tuple [.str "value_line", t, v, .str "operation"]) := ⟨_, _, _, _, rfl, call_vl t v _ _ (no_vop h) (callR_us _)⟩
theorem odd_rv (v : PyData) {t : PyData} (h : F_is_operation [t] = some (.ok (.bool false))) : Odd (.tuple [.str "read_value", t, v, .str "operation"]) := ⟨_, _, _, _, rfl, call_rv t v _ _ (no_rop h) (callR_us _)⟩
theorem odd_val (o : Op) (ho : o.ok) {t : PyData} (h : F_a_fits [opD o, t] = some (.ok (.bool false))) : Odd (.tuple [.str "value_line", opD o, t, .str "value"]) := ⟨_, _, _, _, rfl, call_vl (opD o) t _ _ (no_val o ho h) (callR_us _)⟩
theorem odd_al (a : PyData) {t : PyData} (h : F_is_asks [t] = some (.ok (.bool false))) : Odd (.tuple [.str "asks_line", a, t, .str "asks"]) := ⟨_, _, _, _, rfl, call_al a t _ _ (no_asks h) (callR_us _)⟩
theorem odd_hl (a : PyData) {t : PyData} (h : F_is_history [t] = some (.ok (.bool false))) : Odd (.tuple [.str "history_line", a, t, .str "history"]) := ⟨_, _, _, _, rfl, call_hl a t _ _ (no_hist h) (callR_us _)⟩
end UT.M
end
section
set_option Elab.async false
set_option linter.all false
set_option maxRecDepth 100000
set_option maxHeartbeats 4000000
/-! plain: the list of odd calls -/
namespace UT.M
open PySem PySem.Spec PyProof.Rows L2 SX
def ocA (o : Op) : List PyData := [.tuple [.str "operation_line", .none, .tuple (.str (Str.ofString o.w) :: .str (Str.ofString o.w) :: o.ps.map iN), .str "operation"], .tuple [.str "operation_line", .none, .list (.str (Str.ofString o.w) :: o.ps.map iN), .str "operation"]]
def ocB (o : Op) (v : PyData) : List PyData := [.tuple [.str "value_line", .list (.str (Str.ofString o.w) :: o.ps.map iN), v, .str "operation"], .tuple [.str "value_line", .tuple [], .tuple [.bool true], .str "operation"]]
def ocC : List PyData := [.tuple [.str "read_value", .tuple [.str "sum", .int 0], .str "0", .str "operation"], .tuple [.str "read_value", .tuple [.str "sums", .int 3], .none, .str "operation"]]
def ocD (o : Op) : List PyData := [.tuple [.str "value_line", opD o, .tuple [.bool true], .str "value"], .tuple [.str "value_line", opD o, .str "0", .str "value"]]
theorem ps_len (o : Op) : o.ps.length ≤ 2 := by cases o <;> simp [Op.ps]
theorem oc_1 (o : Op) : lstM (consM (tupM (consM (some (.str "operation_line")) (consM (some .none) (consM (bind2 (tupM (consM (bind2 (some (opD o)) (some (.int 0)) idx) (some []))) (some (opD o)) catT) (consM (some (.str "operation")) (some [])))))) (consM (tupM (consM (some (.str "operation_line")) (consM (some .none) (consM ((consM (some (opD o)) (some [])).bind lstD) (consM (some (.str "operation")) (some [])))))) (some []))) = some (.list (ocA o)) := by
  have e : bind2 (tupM (consM (bind2 (some (opD o)) (some (.int 0)) idx) (some []))) (some (opD o)) catT = some (.tuple (.str (Str.ofString o.w) :: .str (Str.ofString o.w) :: o.ps.map iN)) := by
    cases o <;> rfl
  rw [e]
  rfl
theorem oc_2 (o : Op) (v : PyData) : bind2 (some (.list (ocA o))) (lstM (consM (tupM (consM (some (.str "value_line")) (consM ((consM (some (opD o)) (some [])).bind lstD) (consM (some v) (consM (some (.str "operation")) (some [])))))) (consM (tupM (consM (some (.str "value_line")) (consM (tupM (some [])) (consM (tupM (consM (some (.bool true)) (some []))) (consM (some (.str "operation")) (some [])))))) (some [])))) catL = some (.list (ocA o ++ ocB o v)) := rfl
theorem oc_3 (o : Op) (v : PyData) : bind2 (some (.list (ocA o ++ ocB o v))) (lstM (consM (tupM (consM (some (.str "read_value")) (consM (tupM (consM (some (.str "sum")) (consM (some (.int 0)) (some [])))) (consM (some (.str "0")) (consM (some (.str "operation")) (some [])))))) (consM (tupM (consM (some (.str "read_value")) (consM (tupM (consM (some (.str "sums")) (consM (some (.int 3)) (some [])))) (consM (some .none) (consM (some (.str "operation")) (some [])))))) (some [])))) catL = some (.list (ocA o ++ ocB o v ++ ocC)) := rfl
theorem oc_4 (o : Op) (v : PyData) : bind2 (some (.list (ocA o ++ ocB o v ++ ocC))) (lstM (consM (tupM (consM (some (.str "value_line")) (consM (some (opD o)) (consM (tupM (consM (some (.bool true)) (some []))) (consM (some (.str "value")) (some [])))))) (consM (tupM (consM (some (.str "value_line")) (consM (some (opD o)) (consM (some (.str "0")) (consM (some (.str "value")) (some [])))))) (some [])))) catL = some (.list (ocA o ++ ocB o v ++ ocC ++ ocD o)) := rfl
end UT.M
end
section
set_option Elab.async false
set_option linter.all false
set_option maxRecDepth 100000
set_option maxHeartbeats 4000000
/-! plain: odd calls -/
namespace UT.M
open PySem PySem.Spec PyProof.Rows L2 SX
theorem odd_first (o : Op) (ho : o.ok) (v : PyData) : ∀ d ∈ ocA o ++ ocB o v ++ ocC ++ ocD o, Odd d := by
  intro d hd
  simp only [ocA, ocB, ocC, ocD, List.mem_append, List.mem_cons, List.not_mem_nil, or_false] at hd
  rcases hd with (((rfl | rfl) | rfl | rfl) | rfl | rfl) | rfl | rfl
  · exact odd_ol _ (wo_3 o)
  · exact odd_ol _ (wm0 (by simp))
  · exact odd_vl _ (wm0 (by simp))
  · exact odd_vl _ wo_0
  · exact odd_rv _ wo_1
  · exact odd_rv _ wo_2
  · exact odd_val o ho (wf_b o true)
  · exact odd_val o ho (wf_s o _)
end UT.M
end
section
set_option Elab.async false
set_option linter.all false
set_option maxRecDepth 100000
set_option maxHeartbeats 4000000
/-! plain: the wrong asks and histories of the law -/
namespace UT.M
open PySem PySem.Spec PyProof.Rows L2 SX
def wAs : List PyData := [.list [aD (0, 1)], .tuple [aD (0, 2), aD (0, 1)], .tuple [aD (0, 1), aD (0, 1)], .tuple [aD (1, 1)], .none, .tuple [.tuple [.int 0, .bool true]], .str "0-1", aD (0, 1), .int 7, .tuple [.tuple [.int 0, .int 1, .int 2]]]
theorem wAs_no : ∀ t ∈ wAs, F_is_asks [t] = some (.ok (.bool false)) := by
  intro t ht
  simp only [wAs, List.mem_cons, List.not_mem_nil, or_false] at ht
  rcases ht with rfl | rfl | rfl | rfl | rfl | rfl | rfl | rfl | rfl | rfl
  · exact wa0 (by simp)
  · exact wa_2 (by decide) (by decide)
  · exact wa_2 (by decide) (by decide)
  · exact wa_1 (str2 1 1)
  · exact wa0 (by simp)
  · exact wa_1 (str2b 0 true (by decide))
  · exact wa0 (by simp)
  · exact wa_1 (str0 0)
  · exact wa0 (by simp)
  · exact wa_1 (str3 0 1 2)
def wHs : List PyData := [.list [.tuple [.str "ask"]], .tuple [.tuple [.str "put", .int 0]], .tuple [.tuple [.str "drop", .int 1]], .none, .str "ask", .tuple [.str "ask"], .tuple [.tuple [.str "put", .int 1], .tuple [.str "drop", .int 2]], .tuple [.tuple [.str "put", .bool true]], .int 7]
theorem wHs_no : ∀ t ∈ wHs, F_is_history [t] = some (.ok (.bool false)) := by
  intro t ht
  simp only [wHs, List.mem_cons, List.not_mem_nil, or_false] at ht
  rcases ht with rfl | rfl | rfl | rfl | rfl | rfl | rfl | rfl | rfl
  · exact wh_0 (by simp)
  · exact wh_1 mv_0
  · exact wh_2
  · exact wh_0 (by simp)
  · exact wh_0 (by simp)
  · exact wh_1 (mv_s _)
  · exact wh_3
  · exact wh_1 mv_t
  · exact wh_0 (by simp)
end UT.M
end
section
set_option Elab.async false
set_option linter.all false
set_option maxRecDepth 100000
set_option maxHeartbeats 4000000
/-! plain: law_odds -/
namespace UT.M
open PySem PySem.Spec PyProof.Rows L2 SX
theorem forM_eq {S : Type} {m : Option (List PyData)} {ds : List PyData} (step : S → PyData → SM S) (s : S) (h : m = some ds) : forM m step s = forM' step ds s := by rw [h, forM_s]
theorem law_odds (o : Op) (ho : o.ok) (x : Option (List Int)) (h : VV o x) (pick : Nat) : F_law_odds [opD o, vD o x, iN pick] = some (.ok (.bool true)) := by
  show runM (m_law_odds _ _ _) = _
  unfold m_law_odds
  rw [oc_1, okM_s, seqM_ok, oc_2, okM_s, seqM_ok, oc_3, okM_s, seqM_ok, oc_4, Option.bind_some]
  rw [show okM (some (ocA o ++ ocB o (vD o x) ++ ocC ++ ocD o)) = some (.ok (ocA o ++ ocB o (vD o x) ++ ocC ++ ocD o)) from rfl]
  rw [seqM_ok, forM_eq (ds := wAs), loopF (fun s d => s ++ [.tuple [.str "asks_line", opD o, d, .str "asks"]]) (fun ds s => s.length + ds.length ≤ 60000) wAs _ (by simp [ocA, ocB, ocC, ocD, wAs]), foldl_map, seqM_ok, forM_eq (ds := wHs), loopF (fun s d => s ++ [.tuple [.str "history_line", opD o, d, .str "history"]]) (fun ds s => s.length + ds.length ≤ 60000) wHs _ (by simp [ocA, ocB, ocC, ocD, wAs, wHs]), foldl_map, seqM_ok, listM_s, forM_s, loop_ok]
  · have hf : Fl 6 (vD o x) := rv_fl o (ok_len (Nat.le_trans (val_len o x h) (by decide))) _ (rv_val o ho x h)
    have f8 : Fl 8 (vD o x) := fl_mono _ _ (fl_mono _ _ hf)
    have e1 : fnP F_law_value_line 1 (consM (some (vD o x)) (some [])) = some (sD (valL x)) := fnP_ok (law_value_line o x h) rfl (by simp)
    have e2 : (okO (fnK F_value_line 2 2 (fun {α} => pmSwap) (consM (some (vD o x)) (consM (some (opD o)) (some []))))).bind pureD = some (sD (valL x)) := by
      show (okO (F_value_line [opD o, vD o x])).bind pureD = _
      rw [value_line o ho x h]
      show pureD (sD (valL x)) = _
      exact if_pos (by simp)
    have e3 : (okO (fnK F_read_value 2 2 (fun {α} => pmSwap) (consM (some (sD (valL x))) (consM (some (opD o)) (some []))))).bind pureD = some (vD o x) := by
      show (okO (F_read_value [opD o, sD (valL x)])).bind pureD = _
      rw [read_value o ho (ok_len (Nat.le_trans (val_len o x h) (by decide))), rv_val o ho x h]
      show pureD (vD o x) = _
      exact if_pos (fl_pure 8 _ f8)
    rw [e1, okM_s, seqM_ok, same_step (fl_str 7 _) _ _ _ e2 rfl, seqM_ok, e3, consM_s, consM_s, same_t f8, retM_s, runM_rt]
  · intro d hd
    have ho : Odd d := by
      rcases List.mem_append.mp hd with hd | hd
      · rcases List.mem_append.mp hd with hd | hd
        · exact odd_first o ho _ d hd
        · obtain ⟨t, ht, rfl⟩ := List.mem_map.mp hd
          exact odd_al _ (wAs_no t ht)
      · obtain ⟨t, ht, rfl⟩ := List.mem_map.mp hd
        exact odd_hl _ (wHs_no t ht)
    obtain ⟨w, a, b, f, rfl, hc⟩ := ho
    rw [same_step (fl_noF f) _ _ _ (by
      rw [bind2_s, idx_t0, bind2_s, idx_t1, bind2_s, idx_t2, consM_s, consM_s, consM_s]
      exact fnP_ok hc rfl (fl_pure 8 _ (fl_noF f))) (by
      rw [bind2_s, idx_t3]
      rfl), seqM_ok]
  · intro d ds s hs
    rw [List.length_cons] at hs
    refine ⟨?_, by rw [List.length_append]; simp only [List.length_cons, List.length_nil]; omega⟩
    rw [show tupM (consM (some (.str "history_line")) (consM (some (opD o)) (consM (some d) (consM (some (.str "history")) (some []))))) = some (.tuple [.str "history_line", opD o, d, .str "history"]) from rfl, Option.bind_some, if_pos (by omega), okM_s, seqM_ok]
  · rfl
  · intro d ds s hs
    rw [List.length_cons] at hs
    refine ⟨?_, by rw [List.length_append]; simp only [List.length_cons, List.length_nil]; omega⟩
    rw [show tupM (consM (some (.str "asks_line")) (consM (some (opD o)) (consM (some d) (consM (some (.str "asks")) (some []))))) = some (.tuple [.str "asks_line", opD o, d, .str "asks"]) from rfl, Option.bind_some, if_pos (by omega), okM_s, seqM_ok]
  · rfl
end UT.M
end
section
set_option Elab.async false
set_option linter.all false
set_option maxRecDepth 100000
set_option maxHeartbeats 4000000
/-! plain: the law -/
namespace UT.M
open PySem PySem.Spec PyProof.Rows L2 SX
theorem told (o : Op) (ho : o.ok) : bind2 (some (.str " ")) (bind2 (lstM (consM (bind2 (some (opD o)) (some (.int 0)) idx) (some []))) (lcM (tupleM (slcM (some (opD o)) (partM (some (.int 1))) (some none) slcT)) (fun x7 => (consM (some x7) (some [])).bind strD)) catL) joinD = some (sD (opL o)) := by
  obtain ⟨_, hwt⟩ := op_lens o ho
  have hps := ps_len o
  have e1 : lstM (consM (bind2 (some (opD o)) (some (.int 0)) idx) (some [])) = some (.list ([cs o.w].map sD)) := by
    rw [opD_S, bind2_s, idx_t0]; rfl
  have e2 : lcM (tupleM (slcM (some (opD o)) (partM (some (.int 1))) (some none) slcT)) (fun x7 => (consM (some x7) (some [])).bind strD) = some (.list ((o.ps.map fun (n : Nat) => numZ (n : Int)).map sD)) := by
    rw [opD_S, partM_i, slcM_s, slcT_1, tupleM_s]
    refine lc_str (by simp; omega) (by simp) fun i d p hd hp => op_strs o ho (i + 1) d p (by simpa using hd) (by simpa [opP] using hp)
  rw [e1, e2, bind2_s, cat_m _ _ (by simp; omega)]
  exact joinD_S (opP o) (by omega)
theorem nums_at (ns : List Int) (a : Nat) (bs : List Nat) {m m2 : Option PyData} (hm : m = some (iN a)) (hm2 : m2 = some (.list (bs.map iN))) (hb : ∀ b ∈ bs, 1 ≤ b ∧ b ≤ 1000000) (hl : bs.length ≤ 60000) :
    ∃ out : List Nat, fnL' F_law_nums 3 (consM (some (scD ns)) (consM m (consM m2 (some [])))) = some (.list (out.map iN)) ∧ Bel out bs := by
  obtain ⟨out, h1, h2⟩ := law_nums ns a bs hb hl
  subst hm hm2
  exact ⟨out, fnL_ok h1 rfl, h2⟩
theorem Bel.all : ∀ {os bs : List Nat} {M : Nat}, Bel os bs → (∀ b ∈ bs, b ≤ M) → ∀ o ∈ os, o < M
  | [], [], _, _, _, o, ho => by cases ho
  | [], _ :: _, _, h, _, _, _ => h.elim
  | _ :: _, [], _, h, _, _, _ => h.elim
  | x :: os, y :: bs, M, h, hb, o, ho => by
    rcases List.mem_cons.mp ho with rfl | h1
    · exact Nat.lt_of_lt_of_le h.1 (hb y (List.mem_cons_self ..))
    · exact Bel.all h.2 (fun b hb2 => hb b (List.mem_cons_of_mem _ hb2)) o h1
theorem bel4 {os : List Nat} {x y z w : Nat} (h : Bel os [x, y, z, w]) : ∃ a b c d, os = [a, b, c, d] ∧ a < x ∧ b < y ∧ c < z ∧ d < w := by
  match os, h with
  | [a, b, c, d], h => exact ⟨a, b, c, d, rfl, h.1, h.2.1, h.2.2.1, h.2.2.2.1⟩
theorem draw_op (ns : List Int) (t : Nat) {m : Option PyData} (hm : m = some (iN t)) : ∃ o : Op, fnP F_law_operation 1 (consM (fnL' F_law_nums 3 (consM (some (scD ns)) (consM m (consM (lstM (consM (some (.int 12)) (consM (some (.int 6)) (consM (some (.int 6)) (consM (some (.int 1000000)) (some [])))))) (some []))))) (some [])) = some (opD o) ∧ o.ok ∧ o.dr := by
  obtain ⟨out, e, hb⟩ := nums_at ns t [12, 6, 6, 1000000] hm (m2 := lstM (consM (some (.int 12)) (consM (some (.int 6)) (consM (some (.int 6)) (consM (some (.int 1000000)) (some [])))))) rfl (by decide) (by decide)
  obtain ⟨a, b, c, d, rfl, h1, h2, h3, h4⟩ := bel4 hb
  obtain ⟨o, h5, h6, h7⟩ := law_operation a b c d h1 h2 h3 h4
  refine ⟨o, ?_, h6, h7⟩
  rw [e, consM_s]
  exact fnP_ok h5 rfl (fl_pure 8 _ (by
    refine fl_tup (by have := ps_len o; simp; omega) fun d hd => ?_
    rcases List.mem_cons.mp hd with rfl | hd
    · exact fl_str 6 _
    · obtain ⟨n, _, rfl⟩ := List.mem_map.mp hd
      exact fl_int 6 _))
theorem draw_val (ns : List Int) (t : Nat) {m : Option PyData} (hm : m = some (iN t)) (o : Op) (ho : o.ok) (hd : o.dr) : ∃ x, fnP F_law_value 2 (consM (some (opD o)) (consM (fnL' F_law_nums 3 (consM (some (scD ns)) (consM m (consM (bind2 (bind2 (lstM (consM (some (.int 100000)) (some []))) (some (.int 9)) repL) (lstM (consM (some (.int 4)) (some []))) catL) (some []))))) (some []))) = some (vD o x) ∧ VV o x := by
  obtain ⟨out, e, hb⟩ := nums_at ns t [100000, 100000, 100000, 100000, 100000, 100000, 100000, 100000, 100000, 4] hm (m2 := bind2 (bind2 (lstM (consM (some (.int 100000)) (some []))) (some (.int 9)) repL) (lstM (consM (some (.int 4)) (some []))) catL) rfl (by decide) (by decide)
  obtain ⟨x, h1, h2⟩ := law_value out hb.len (fun n hn => hb.all (M := 100000) (by decide) n hn) o ho hd
  refine ⟨x, ?_, h2⟩
  rw [e, consM_s, consM_s]
  have hf : Fl 6 (vD o x) := rv_fl o (ok_len (Nat.le_trans (val_len o x h2) (by decide))) _ (rv_val o ho x h2)
  exact fnP_ok h1 rfl (fl_pure 6 _ hf)
end UT.M
end
section
set_option Elab.async false
set_option linter.all false
set_option maxRecDepth 100000
set_option maxHeartbeats 4000000
/-! plain: the law, whole -/
namespace UT.M
open PySem PySem.Spec PyProof.Rows L2 SX
theorem fnLines {w r : Str} {op thing : PyData} {l : List Nat} {k : Nat} (h : F_law_lines [.tuple [.str w, .str r], op, thing, sD l, iN k] = some (.ok (.bool true))) :
    fnP F_law_lines 5 (consM (tupM (consM (some (.str w)) (consM (some (.str r)) (some [])))) (consM (some op) (consM (some thing) (consM (some (sD l)) (consM (some (iN k)) (some [])))))) = some (.bool true) := fnP_ok h rfl (by simp)
theorem first_of : ∀ {b : Nat} {bs : List Nat} (l : List Nat), Bel l (b :: bs) → ∃ c : Nat, bind2 (some (.list (l.map iN))) (some (.int 0)) idx = some (iN c) ∧ c < b
  | _, _, [], h => h.elim
  | _, _, c :: l, h => ⟨c, by rw [List.map_cons, bind2_s, idx_l0], h.1⟩
theorem law_holds (ns : List Int) : F_law [scD ns] = some (.ok (.bool true)) := by
  show runM (m_law _) = _
  unfold m_law
  obtain ⟨pk, e1, hb⟩ := nums_at ns 5 [1000000, 1000000, 1000000, 1000000] (m := some (.int 5)) rfl (m2 := lstM (consM (some (.int 1000000)) (consM (some (.int 1000000)) (consM (some (.int 1000000)) (consM (some (.int 1000000)) (some [])))))) rfl (by decide) (by decide)
  have hpk := hb.len
  rw [e1, okM_s, seqM_ok, show rng1M (consM (some (.int 2)) (some [])) = some ([0, 1].map iN) from rfl, forM_s]
  let R : SM Unit → Prop := fun z => runM z = some (.ok (.bool true))
  refine loopEx (R := R) (fun ds s => (∃ rs : List Nat, ds = rs.map iN ∧ ∀ r ∈ rs, r < 2) ∧ (ds = [] → ∃ o : Op, s = Sl.dat (opD o) ∧ o.ok)) _ _ ⟨⟨[0, 1], rfl, by decide⟩, fun h => by cases h⟩ ?_ ?_
  · rintro d ds s ⟨⟨rs, h1, h2⟩, _⟩
    cases rs with
    | nil => cases h1
    | cons t rs =>
      rw [List.map_cons] at h1
      cases h1
      have ht := h2 t (List.mem_cons_self ..)
      have m2 : bind2 (some (.int 2)) (some (iN t)) mulI = some (iN (2 * t)) := mulN 2 t (by decide)
      have m3 : bind2 (some (iN (2 * t))) (some (.int 1)) addI = some (iN (2 * t + 1)) := addN (2 * t) 1
      have m4 : bind2 (some (iN t)) (some (.int 2)) addI = some (iN (t + 2)) := addN t 2
      obtain ⟨o, ho1, ho, hdr⟩ := draw_op ns (2 * t) (m := some (iN (2 * t))) rfl
      obtain ⟨x, hx1, hx⟩ := draw_val ns (2 * t + 1) (m := some (iN (2 * t + 1))) rfl o ho hdr
      obtain ⟨a, ha⟩ := at_l pk t (by rw [hpk]; simp; omega)
      obtain ⟨b, hb2⟩ := at_l pk (t + 2) (by rw [hpk]; simp; omega)
      have e2 : fnP F_law_value_line 1 (consM (some (vD o x)) (some [])) = some (sD (valL x)) := fnP_ok (law_value_line o x hx) rfl (by simp)
      have e3 : fnP F_law_odds 3 (consM (some (opD o)) (consM (some (vD o x)) (consM (some (iN a)) (some [])))) = some (.bool true) := fnP_ok (law_odds o ho x hx a) rfl (by simp)
      refine ⟨Sl.dat (opD o), ?_, ⟨rs, rfl, fun q hq => h2 q (List.mem_cons_of_mem _ hq)⟩, fun _ => ⟨o, rfl, ho⟩⟩
      rw [m2, m3, m4, ho1, okM_s, seqM_ok, hx1, okM_s, seqM_ok, told o ho, okM_s, seqM_ok, e2, ha, fnLines (lines_val o ho x hx a), boolM_s, notM_s, Bool.not_true, ifM_f, seqM_ok,
        hb2, fnLines (lines_op o ho b), boolM_s, notM_s, Bool.not_true, ifM_f, seqM_ok, e3, boolM_s, notM_s, Bool.not_true, ifM_f, seqM_ok]
  · rintro s ⟨_, hs⟩
    obtain ⟨o, rfl, ho⟩ := hs rfl
    obtain ⟨ra1, e2, hb2⟩ := nums_at ns 4 (9 :: List.replicate 16 1008) (m := some (.int 4)) rfl (m2 := bind2 (lstM (consM (some (.int 9)) (some []))) (bind2 (lstM (consM (some (.int 1008)) (some []))) (some (.int 16)) repL) catL) rfl (by decide) (by decide)
    obtain ⟨ev1, e3, hb3⟩ := nums_at ns 6 (13 :: List.replicate 12 1000) (m := some (.int 6)) rfl (m2 := bind2 (lstM (consM (some (.int 13)) (some []))) (bind2 (lstM (consM (some (.int 1000)) (some []))) (some (.int 12)) repL) catL) rfl (by decide) (by decide)
    have hl2 : ra1.length = 17 := hb2.len
    have hl3 : ev1.length = 13 := hb3.len
    obtain ⟨c, hc0, hc⟩ := first_of ra1 hb2
    obtain ⟨xs, r1, r2, r3⟩ := law_row ra1 c hl2 hc0 hc
    obtain ⟨c2, hc20, hc2⟩ := first_of ev1 hb3
    obtain ⟨es, v1, v2, v3⟩ := law_events ev1 c2 hl3 hc20 hc2
    obtain ⟨p2, hp2⟩ := at_l pk 2 (by rw [hpk]; decide)
    obtain ⟨p3, hp3⟩ := at_l pk 3 (by rw [hpk]; decide)
    have hp2 : bind2 (some (.list (pk.map iN))) (some (.int 2)) idx = some (iN p2) := hp2
    have hp3 : bind2 (some (.list (pk.map iN))) (some (.int 3)) idx = some (iN p3) := hp3
    have fx : Fl 6 (.tuple (xs.map aD)) := fl_asks 3 (by omega)
    have fe : Fl 6 (.tuple (es.map evD)) := fl_evs 3 (by omega)
    have oL : Ok (opL o) := ok_len (Nat.le_trans (op_len o ho) (by decide))
    have oA : Ok (asksL xs) := ok_len (Nat.le_trans (asks_len r2 (by omega)) (by decide))
    have oH : Ok (histL es) := ok_len (Nat.le_trans (hist_len v2 (by omega)) (by decide))
    have fo : Fl 6 (opD o) := ro_fl oL _ (ro_op o ho)
    have k1 : fnP F_law_row 1 (consM (some (.list (ra1.map iN))) (some [])) = some (.tuple (xs.map aD)) := fnP_ok r1 rfl (fl_pure 6 _ fx)
    have k2 : fnP F_law_events 1 (consM (some (.list (ev1.map iN))) (some [])) = some (.tuple (es.map evD)) := fnP_ok v1 rfl (fl_pure 6 _ fe)
    have k3 : fnP F_law_asks_line 1 (consM (some (.tuple (xs.map aD))) (some [])) = some (sD (asksL xs)) := fnP_ok (law_asks_line r2 (by omega)) rfl (by simp)
    have k4 : fnP F_law_history_line 1 (consM (some (.tuple (es.map evD))) (some [])) = some (sD (histL es)) := fnP_ok (law_history_line v2 (by omega)) rfl (by simp)
    have k5 : fnP F_asks_line 1 (consM (some (.tuple (xs.map aD))) (some [])) = some (sD (asksL xs)) := fnP_ok (asks_line r2 (by omega)) rfl (by simp)
    have k6 : fnP F_history_line 1 (consM (some (.tuple (es.map evD))) (some [])) = some (sD (histL es)) := fnP_ok (history_line v2 (by omega)) rfl (by simp)
    have k7 : fnP F_operation_line 1 (consM (some (opD o)) (some [])) = some (sD (opL o)) := fnP_ok (operation_line o ho) rfl (by simp)
    have k8 : fnP F_read_operation 1 (consM (some (sD (opL o))) (some [])) = some (opD o) := fnP_ok (by rw [read_operation oL, ro_op o ho]; rfl) rfl (fl_pure 6 _ fo)
    have k9 : fnP F_read_asks 1 (consM (some (sD (asksL xs))) (some [])) = some (.tuple (xs.map aD)) := fnP_ok (by rw [read_asks oA, ra_as r2]; rfl) rfl (fl_pure 6 _ fx)
    have k10 : fnP F_read_history 1 (consM (some (sD (histL es))) (some [])) = some (.tuple (es.map evD)) := fnP_ok (by rw [read_history oH, rh_hist v2]; rfl) rfl (fl_pure 6 _ fe)
    have hor : tupM (consM (some (.str "or")) (some [])) = some (.tuple [.str "or"]) := rfl
    have T4 : ∀ a b c d : PyData, tupM (consM (some a) (consM (some b) (consM (some c) (consM (some d) (some []))))) = some (.tuple [a, b, c, d]) := fun _ _ _ _ => rfl
    have T2 : ∀ a b : PyData, tupM (consM (some a) (consM (some b) (some []))) = some (.tuple [a, b]) := fun _ _ => rfl
    have T6 : ∀ a b c d e f : PyData, tupM (consM (some a) (consM (some b) (consM (some c) (consM (some d) (consM (some e) (consM (some f) (some []))))))) = some (.tuple [a, b, c, d, e, f]) := fun _ _ _ _ _ _ => rfl
    have C6 : ∀ a b c d e f : PyData, bind2 (some (.tuple [a, b, c, d])) (some (.tuple [e, f])) catT = some (.tuple [a, b, c, d, e, f]) := fun _ _ _ _ _ _ => rfl
    have f8 : Fl 8 (.tuple [sD (asksL xs), sD (histL es), sD (opL o), opD o, .tuple (xs.map aD), .tuple (es.map evD)]) := fl_mono 7 _ (fl_tup (by show 6 ≤ 60000; decide) fun d hd => by
      simp only [List.mem_cons, List.not_mem_nil, or_false] at hd
      rcases hd with rfl | rfl | rfl | rfl | rfl | rfl
      · trivial
      · trivial
      · trivial
      · exact fo
      · exact fx
      · exact fe)
    have l1 := fnLines (lines_asks r2 (by omega) (.tuple [.str "or"]) p2)
    have l2 := fnLines (lines_hist v2 (by omega) (.tuple [.str "or"]) p3)
    show runM (slM (Sl.dat (opD o)) _) = _
    unfold slM
    dsimp only
    rw [e2, k1, okM_s, seqM_ok, hor, k3, hp2, l1, boolM_s, notM_s, Bool.not_true, ifM_f, seqM_ok, e3, k2, okM_s, seqM_ok, k5, k6, k7, k8, T4, okM_s, seqM_ok, k9, k10, T2, C6, okM_s, seqM_ok, told o ho, okM_s, seqM_ok, same_step f8 _ _ _ rfl (by rw [k4, T6]), seqM_ok, k4, hp3, l2, retM_s, runM_rt]
end UT.M
end
theorem PySem.Challenge.cw_underthree_k03_whole_lines_there_and_bac_holds : PySem.Challenge.rw_underthree_k03_whole_lines_there_and_bac.Holds :=
  UT.holds_of fun ns _ => UT.M.law_holds ns
